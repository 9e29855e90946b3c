import PyProof.Rows.All
import Wide.All
import OpenK.AllK
import Wide.FinOn
import PySem.Challenge.RW_shardread_k11_right_rows
import HandS.ForMost
import HandS.Lambda
import HandS.ForExc
import HandS.CallSlots
import HandS.Defaults
import HandS.IsInst
import HandS.Flow
import HandS.TupAny
import HandS.More
import HandS.Deep
import HandS.Iter
import HandS.Dict
import HandS.WordsDict
import HandS.ListItems
import HandS.SortInts
import HandS.Conv
import KE.KRevSl
import PyProof.Rows.SortShellAny
import KE.KDictList
import HandS.Finally
import HandS.Text
import HandS.Steps
import HandS.Rev
import HandS.Zip
import HandS.DictComp
import HandS.HeadHook3
import KE.SortKeyHeap
import KE.KDictSum
import KE.KItemsList
import HandS.HeadEnd
import PyProof.ReprRoads
import PyProof.StrLawsRepr
import HandS.RaiseMore
import KE.GoesZip
import KE.GoesMore
import KE.GoesEnum
import KE.DataMinMax
import HandS.ExcIs
import HandS.ExcOwn
import HandS.HeadWalk
import HandS.HeadHook4
import HandS.Style
import HandS.ExcInit
import HandS.ExcField
import PyProof.P3In
import HandS.Head0
import HandS.Head1
import HandS.Head2
import HandS.HeadHook1
import HandS.HeadHook2
set_option Elab.async false
set_option linter.all false
set_option maxRecDepth 100000
/-! VSCore: deep data over the abstract heap, owned and frozen. -/
namespace VS
open PySem L2

/-! ### data -/
inductive D where
  | unset | hole | non | bl (b : Bool) | int (i : Int) | str (s : List Nat)
  | lst (o : Bool) (xs : List D) | tup (o : Bool) (xs : List D)
  | dct (o t : Bool) (ks vs : List D)
  | ins (o : Bool) (c : Str) (fs : List Str) (vs : List D)
  | scr (ns : List Int)
  | exc (c : Str) (d : D)
  | fn (c : Str)
  deriving Inhabited

/-- what stands at a: an exception of the class at C -/
def exO (a C : Addr) (dx : Option Addr) : HO := .ext fun h => ∃ (oe : Obj) (fs : Array Value), h.get? a = some oe ∧ oe.cls = .ref C ∧ oe.dict = dx ∧ oe.data = .fields fs
def exB : D → Bool
  | .unset => false
  | _ => true
abbrev AS := Addr → Prop
def em : AS := fun _ => False
def dj (S T : AS) : Prop := ∀ b, S b → T b → False
def un (S T : AS) : AS := fun b => S b ∨ T b
def on1 (a : Addr) (S : AS) : AS := fun b => b = a ∨ S b

theorem AS.ext {S T : AS} (h : ∀ b, S b ↔ T b) : S = T := funext fun b => propext (h b)
theorem un_em (S : AS) : un S em = S := AS.ext fun b => by simp [un, em]
theorem em_un (S : AS) : un em S = S := AS.ext fun b => by simp [un, em]

/-- a key as data -/
def dkey : Key → D
  | .inl i => .int i
  | .inr s => .str s.cps.toList
def dkeyT (k : List Key) : D := .tup false (k.map dkey)

/-- the module: the written part, where its classes stand -/
structure Mn where
  K : PySem.W.Frag
  cm : Str → Addr
  en : Str → Str
  tabs : List (Addr × Str) := []

section
variable (M : Mn) (F H : Hp)
mutual
/-- at v stands d; S: the addresses that it owns -/
def RO : D → V → AS → Prop
  | .unset, _, S => S = em
  | .hole, _, S => S = em
  | .non, v, S => v = .non ∧ S = em
  | .bl b, v, S => v = .bl b ∧ S = em
  | .int i, v, S => v = .int i ∧ S = em
  | .str s, v, S => v = .str ⟨s.toArray⟩ ∧ S = em
  | .scr ns, v, S => (∃ a, v = .ref a ∧ SqL M.K F a (ns.map V.int)) ∧ S = em
  | .fn c, v, S => v = .ref (M.cm c) ∧ S = em
  | .exc c d, v, S => S = em ∧ ∃ a dx, v = .ref a ∧ F a = some (exO a (M.cm c) dx) ∧ ((exB d = false ∧ dx = none) ∨ (exB d = true ∧ ∃ b u T, dx = some b ∧ F b = some (.xd [(M.en c, u)]) ∧ RO d u T ∧ T = em))
  | .lst o xs, v, S => ∃ a vs T, v = .ref a ∧ ROs xs vs T ∧
      if o = true then H a = some (.lst vs) ∧ ¬ T a ∧ S = on1 a T else F a = some (.lst vs) ∧ T = em ∧ S = em
  | .tup o xs, v, S => ∃ a vs T, v = .ref a ∧ ROs xs vs T ∧
      if o = true then H a = some (.tup vs) ∧ ¬ T a ∧ S = on1 a T else F a = some (.tup vs) ∧ T = em ∧ S = em
  | .dct o t ks vs, v, S => ∃ a ws T, v = .ref a ∧ ROs vs ws T ∧ ∃ ho : HO,
      (if t = true then ∃ kvs, ho = .dT kvs ∧ ks = kvs.map (fun p => dkeyT p.1) ∧ ws = kvs.map (·.2) ∧ (kvs.map (·.1)).Nodup
        else ∃ kvs, ho = .dK kvs ∧ ks = kvs.map (fun p => dkey p.1) ∧ ws = kvs.map (·.2) ∧ (kvs.map (·.1)).Nodup) ∧
      if o = true then H a = some ho ∧ ¬ T a ∧ S = on1 a T else F a = some ho ∧ T = em ∧ S = em
  | .ins o c fs vs, v, S => ∃ a dx ws T, v = .ref a ∧ ROs vs ws T ∧ ∃ kvs : List (Str × V), fs = kvs.map (·.1) ∧ ws = kvs.map (·.2) ∧
      if o = true then H a = some (.ins (M.cm c) dx kvs) ∧ H dx = some (.own a) ∧ a ≠ dx ∧ ¬ T a ∧ ¬ T dx ∧ S = on1 a (on1 dx T)
        else F a = some (.ins (M.cm c) dx kvs) ∧ F dx = some (.own a) ∧ T = em ∧ S = em
def ROs : List D → List V → AS → Prop
  | [], vs, S => vs = [] ∧ S = em
  | d :: ds, vs, S => ∃ v ws S1 S2, vs = v :: ws ∧ RO d v S1 ∧ ROs ds ws S2 ∧ dj S1 S2 ∧ S = un S1 S2
end
end

/-- F' has what F has -/
def Ext (F F' : Hp) : Prop := ∀ a u, F a = some u → F' a = some u
theorem Ext.refl (F : Hp) : Ext F F := fun _ _ h => h
theorem Ext.trans {F G H : Hp} (a : Ext F G) (b : Ext G H) : Ext F H := fun x u h => b x u (a x u h)
theorem sql_ext {K : PySem.W.Frag} {F F' : Hp} {a : Addr} {vs : List V} (e : Ext F F') (h : SqL K F a vs) : SqL K F' a vs :=
  h.imp (fun h => h.imp (e _ _) fun ⟨o, q⟩ => ⟨o, e _ _ q⟩) id
theorem sqt_ext {K : PySem.W.Frag} {F F' : Hp} {a : Addr} {vs : List V} (e : Ext F F') (h : SqT K F a vs) : SqT K F' a vs :=
  h.imp (fun h => h.imp (e _ _) fun ⟨o, q⟩ => ⟨o, e _ _ q⟩) id

section
variable {M : Mn} {F H F' H' : Hp}
mutual
theorem RO.mono : ∀ (d : D) {v : V} {S : AS}, RO M F H d v S → Ext F F' → (∀ a, S a → H' a = H a) → RO M F' H' d v S
  | .unset, v, S, h, e, k => by simpa [RO] using h
  | .hole, v, S, h, e, k => by simpa [RO] using h
  | .non, v, S, h, e, k => by simpa [RO] using h
  | .bl b, v, S, h, e, k => by simpa [RO] using h
  | .int i, v, S, h, e, k => by simpa [RO] using h
  | .str s, v, S, h, e, k => by simpa [RO] using h
  | .fn c, v, S, h, e, k => by simpa [RO] using h
  | .scr ns, v, S, h, e, k => by
    simp only [RO] at h ⊢
    obtain ⟨⟨a, h1, h2⟩, h3⟩ := h
    exact ⟨⟨a, h1, sql_ext e h2⟩, h3⟩
  | .exc c d, v, S, h, e, k => by
    simp only [RO] at h ⊢
    obtain ⟨h0, a, dx, h1, h2, h3⟩ := h
    refine ⟨h0, a, dx, h1, e _ _ h2, h3.imp id fun ⟨q, b, u, T, g1, g2, g3, g4⟩ => ⟨q, b, u, T, g1, e _ _ g2, RO.mono d g3 e fun x hx => ?_, g4⟩⟩
    rw [g4] at hx
    exact hx.elim
  | .lst o xs, v, S, h, e, k => by
    simp only [RO] at h ⊢
    obtain ⟨a, vs, T, rfl, hT, c⟩ := h
    cases o with
    | true =>
      simp only [if_true] at c ⊢
      obtain ⟨h1, h2, rfl⟩ := c
      exact ⟨a, vs, T, rfl, ROs.mono xs hT e (fun b hb => k b (.inr hb)), by rw [k a (.inl rfl)]; exact h1, h2, rfl⟩
    | false =>
      simp only [Bool.false_eq_true, if_false] at c ⊢
      obtain ⟨h1, rfl, rfl⟩ := c
      exact ⟨a, vs, em, rfl, ROs.mono xs hT e (fun b hb => hb.elim), e _ _ h1, rfl, rfl⟩
  | .tup o xs, v, S, h, e, k => by
    simp only [RO] at h ⊢
    obtain ⟨a, vs, T, rfl, hT, c⟩ := h
    cases o with
    | true =>
      simp only [if_true] at c ⊢
      obtain ⟨h1, h2, rfl⟩ := c
      exact ⟨a, vs, T, rfl, ROs.mono xs hT e (fun b hb => k b (.inr hb)), by rw [k a (.inl rfl)]; exact h1, h2, rfl⟩
    | false =>
      simp only [Bool.false_eq_true, if_false] at c ⊢
      obtain ⟨h1, rfl, rfl⟩ := c
      exact ⟨a, vs, em, rfl, ROs.mono xs hT e (fun b hb => hb.elim), e _ _ h1, rfl, rfl⟩
  | .dct o t ks vs, v, S, h, e, k => by
    simp only [RO] at h ⊢
    obtain ⟨a, ws, T, rfl, hT, ho, hk, c⟩ := h
    cases o with
    | true =>
      simp only [if_true] at c ⊢
      obtain ⟨h1, h2, rfl⟩ := c
      exact ⟨a, ws, T, rfl, ROs.mono vs hT e (fun b hb => k b (.inr hb)), ho, hk, by rw [k a (.inl rfl)]; exact h1, h2, rfl⟩
    | false =>
      simp only [Bool.false_eq_true, if_false] at c ⊢
      obtain ⟨h1, rfl, rfl⟩ := c
      exact ⟨a, ws, em, rfl, ROs.mono vs hT e (fun b hb => hb.elim), ho, hk, e _ _ h1, rfl, rfl⟩
  | .ins o c fs vs, v, S, h, e, k => by
    simp only [RO] at h ⊢
    obtain ⟨a, dx, ws, T, rfl, hT, kvs, hf, hw, c⟩ := h
    cases o with
    | true =>
      simp only [if_true] at c ⊢
      obtain ⟨h1, h2, h3, h4, h5, rfl⟩ := c
      exact ⟨a, dx, ws, T, rfl, ROs.mono vs hT e (fun b hb => k b (.inr (.inr hb))), kvs, hf, hw, by rw [k a (.inl rfl)]; exact h1, by rw [k dx (.inr (.inl rfl))]; exact h2, h3, h4, h5, rfl⟩
    | false =>
      simp only [Bool.false_eq_true, if_false] at c ⊢
      obtain ⟨h1, h2, rfl, rfl⟩ := c
      exact ⟨a, dx, ws, em, rfl, ROs.mono vs hT e (fun b hb => hb.elim), kvs, hf, hw, e _ _ h1, e _ _ h2, rfl, rfl⟩
theorem ROs.mono : ∀ (ds : List D) {vs : List V} {S : AS}, ROs M F H ds vs S → Ext F F' → (∀ a, S a → H' a = H a) → ROs M F' H' ds vs S
  | [], vs, S, h, e, k => by simpa [ROs] using h
  | d :: ds, vs, S, h, e, k => by
    simp only [ROs] at h ⊢
    obtain ⟨v, ws, S1, S2, rfl, h1, h2, hd, rfl⟩ := h
    exact ⟨v, ws, S1, S2, rfl, RO.mono d h1 e (fun a ha => k a (.inl ha)), ROs.mono ds h2 e (fun a ha => k a (.inr ha)), hd, rfl⟩
end

/-- no table, nothing of the kit's own -/
def pl : HO → Prop
  | .tbl _ => False
  | .ext _ => False
  | _ => True
mutual
/-- what is owned stands -/
theorem RO.alive : ∀ (d : D) {v : V} {S : AS}, RO M F H d v S → ∀ a, S a → ∃ o, H a = some o ∧ pl o
  | .unset, v, S, h => by simp only [RO] at h; subst h; exact fun a ha => ha.elim
  | .hole, v, S, h => by simp only [RO] at h; subst h; exact fun a ha => ha.elim
  | .non, v, S, h => by simp only [RO] at h; obtain ⟨_, rfl⟩ := h; exact fun a ha => ha.elim
  | .bl b, v, S, h => by simp only [RO] at h; obtain ⟨_, rfl⟩ := h; exact fun a ha => ha.elim
  | .int i, v, S, h => by simp only [RO] at h; obtain ⟨_, rfl⟩ := h; exact fun a ha => ha.elim
  | .str s, v, S, h => by simp only [RO] at h; obtain ⟨_, rfl⟩ := h; exact fun a ha => ha.elim
  | .scr ns, v, S, h => by simp only [RO] at h; obtain ⟨_, rfl⟩ := h; exact fun a ha => ha.elim
  | .fn c, v, S, h => by simp only [RO] at h; obtain ⟨_, rfl⟩ := h; exact fun a ha => ha.elim
  | .exc c d, v, S, h => by simp only [RO] at h; obtain ⟨rfl, _⟩ := h; exact fun a ha => ha.elim
  | .lst o xs, v, S, h => by
    simp only [RO] at h
    obtain ⟨a, vs, T, rfl, hT, c⟩ := h
    cases o with
    | true =>
      simp only [if_true] at c
      obtain ⟨h1, h2, rfl⟩ := c
      rintro b (rfl | hb)
      · exact ⟨_, h1, by first | exact True.intro | (cases t <;> (obtain ⟨_, rfl, _⟩ := hk; exact True.intro))⟩
      · exact ROs.alive xs hT b hb
    | false =>
      simp only [Bool.false_eq_true, if_false] at c
      obtain ⟨h1, rfl, rfl⟩ := c
      exact fun a ha => ha.elim
  | .tup o xs, v, S, h => by
    simp only [RO] at h
    obtain ⟨a, vs, T, rfl, hT, c⟩ := h
    cases o with
    | true =>
      simp only [if_true] at c
      obtain ⟨h1, h2, rfl⟩ := c
      rintro b (rfl | hb)
      · exact ⟨_, h1, by first | exact True.intro | (cases t <;> (obtain ⟨_, rfl, _⟩ := hk; exact True.intro))⟩
      · exact ROs.alive xs hT b hb
    | false =>
      simp only [Bool.false_eq_true, if_false] at c
      obtain ⟨h1, rfl, rfl⟩ := c
      exact fun a ha => ha.elim
  | .dct o t ks vs, v, S, h => by
    simp only [RO] at h
    obtain ⟨a, ws, T, rfl, hT, ho, hk, c⟩ := h
    cases o with
    | true =>
      simp only [if_true] at c
      obtain ⟨h1, h2, rfl⟩ := c
      rintro b (rfl | hb)
      · exact ⟨_, h1, by first | exact True.intro | (cases t <;> (obtain ⟨_, rfl, _⟩ := hk; exact True.intro))⟩
      · exact ROs.alive vs hT b hb
    | false =>
      simp only [Bool.false_eq_true, if_false] at c
      obtain ⟨h1, rfl, rfl⟩ := c
      exact fun a ha => ha.elim
  | .ins o c fs vs, v, S, h => by
    simp only [RO] at h
    obtain ⟨a, dx, ws, T, rfl, hT, kvs, hf, hw, c⟩ := h
    cases o with
    | true =>
      simp only [if_true] at c
      obtain ⟨h1, h2, h3, h4, h5, rfl⟩ := c
      rintro b (rfl | rfl | hb)
      · exact ⟨_, h1, by first | exact True.intro | (cases t <;> (obtain ⟨_, rfl, _⟩ := hk; exact True.intro))⟩
      · exact ⟨_, h2, True.intro⟩
      · exact ROs.alive vs hT b hb
    | false =>
      simp only [Bool.false_eq_true, if_false] at c
      obtain ⟨h1, h2, rfl, rfl⟩ := c
      exact fun a ha => ha.elim
theorem ROs.alive : ∀ (ds : List D) {vs : List V} {S : AS}, ROs M F H ds vs S → ∀ a, S a → ∃ o, H a = some o ∧ pl o
  | [], vs, S, h => by simp only [ROs] at h; obtain ⟨_, rfl⟩ := h; exact fun a ha => ha.elim
  | d :: ds, vs, S, h => by
    simp only [ROs] at h
    obtain ⟨v, ws, S1, S2, rfl, h1, h2, hd, rfl⟩ := h
    rintro a (ha | ha)
    · exact RO.alive d h1 a ha
    · exact ROs.alive ds h2 a ha
end

/-! ### frozen -/
mutual
def fz : D → D
  | .lst _ xs => .lst false (fzs xs)
  | .tup _ xs => .tup false (fzs xs)
  | .dct _ t ks vs => .dct false t ks (fzs vs)
  | .ins _ c fs vs => .ins false c fs (fzs vs)
  | d => d
def fzs : List D → List D
  | [] => []
  | d :: ds => fz d :: fzs ds
end
theorem fzs_map : ∀ ds : List D, fzs ds = ds.map fz
  | [] => rfl
  | d :: ds => by simp [fzs, fzs_map ds]
def isFz : D → Bool
  | .lst o _ => !o
  | .tup o _ => !o
  | .dct o _ _ _ => !o
  | .ins o _ _ _ => !o
  | .unset => false
  | .hole => false
  | _ => true
/-- a frozen thing owns nothing -/
theorem RO.fz_em {d : D} {v : V} {S : AS} (h : RO M F H d v S) (f : isFz d = true) : S = em := by
  cases d with
  | unset => cases f
  | hole => cases f
  | non => simp only [RO] at h; exact h.2
  | bl b => simp only [RO] at h; exact h.2
  | int i => simp only [RO] at h; exact h.2
  | str s => simp only [RO] at h; exact h.2
  | scr ns => simp only [RO] at h; exact h.2
  | fn c => simp only [RO] at h; exact h.2
  | exc c d => simp only [RO] at h; exact h.1
  | lst o xs =>
    simp only [RO] at h
    obtain ⟨a, vs, T, rfl, hT, c⟩ := h
    have : o = false := by simpa [isFz] using f
    subst this
    simp only [Bool.false_eq_true, if_false] at c
    exact c.2.2
  | tup o xs =>
    simp only [RO] at h
    obtain ⟨a, vs, T, rfl, hT, c⟩ := h
    have : o = false := by simpa [isFz] using f
    subst this
    simp only [Bool.false_eq_true, if_false] at c
    exact c.2.2
  | dct o t ks vs =>
    simp only [RO] at h
    obtain ⟨a, ws, T, rfl, hT, ho, hk, c⟩ := h
    have : o = false := by simpa [isFz] using f
    subst this
    simp only [Bool.false_eq_true, if_false] at c
    exact c.2.2
  | ins o c fs vs =>
    simp only [RO] at h
    obtain ⟨a, dx, ws, T, rfl, hT, kvs, hf, hw, c⟩ := h
    have : o = false := by simpa [isFz] using f
    subst this
    simp only [Bool.false_eq_true, if_false] at c
    exact c.2.2.2
mutual
/-- freezing: what is owned is put into F -/
theorem RO.freeze : ∀ (d : D) {v : V} {S : AS}, RO M F H d v S → Ext F F' → (∀ a, S a → F' a = H a) → RO M F' H' (fz d) v em
  | .unset, v, S, h, e, k => by simp only [RO, fz] at h ⊢
  | .hole, v, S, h, e, k => by simp only [RO, fz] at h ⊢
  | .non, v, S, h, e, k => by simp only [RO, fz] at h ⊢; exact ⟨h.1, by trivial⟩
  | .bl b, v, S, h, e, k => by simp only [RO, fz] at h ⊢; exact ⟨h.1, by trivial⟩
  | .int i, v, S, h, e, k => by simp only [RO, fz] at h ⊢; exact ⟨h.1, by trivial⟩
  | .str s, v, S, h, e, k => by simp only [RO, fz] at h ⊢; exact ⟨h.1, by trivial⟩
  | .fn c, v, S, h, e, k => by simp only [RO, fz] at h ⊢; exact ⟨h.1, by trivial⟩
  | .scr ns, v, S, h, e, k => by
    simp only [RO, fz] at h ⊢
    obtain ⟨⟨a, h1, h2⟩, _⟩ := h
    exact ⟨⟨a, h1, sql_ext e h2⟩, by trivial⟩
  | .exc c d, v, S, h, e, k => by
    simp only [RO, fz] at h ⊢
    obtain ⟨_, a, dx, h1, h2, h3⟩ := h
    refine ⟨trivial, a, dx, h1, e _ _ h2, h3.imp id fun ⟨q, b, u, T, g1, g2, g3, g4⟩ => ⟨q, b, u, T, g1, e _ _ g2, RO.mono d g3 e fun x hx => ?_, g4⟩⟩
    rw [g4] at hx
    exact hx.elim
  | .lst o xs, v, S, h, e, k => by
    simp only [RO, fz] at h ⊢
    obtain ⟨a, vs, T, rfl, hT, c⟩ := h
    simp only [Bool.false_eq_true, if_false]
    cases o with
    | true =>
      simp only [if_true] at c
      obtain ⟨h1, h2, rfl⟩ := c
      exact ⟨a, vs, em, rfl, ROs.freeze xs hT e (fun b hb => k b (.inr hb)), by rw [k a (.inl rfl)]; exact h1, rfl, by trivial⟩
    | false =>
      simp only [Bool.false_eq_true, if_false] at c
      obtain ⟨h1, rfl, rfl⟩ := c
      exact ⟨a, vs, em, rfl, ROs.freeze xs hT e (fun b hb => hb.elim), e _ _ h1, rfl, by trivial⟩
  | .tup o xs, v, S, h, e, k => by
    simp only [RO, fz] at h ⊢
    obtain ⟨a, vs, T, rfl, hT, c⟩ := h
    simp only [Bool.false_eq_true, if_false]
    cases o with
    | true =>
      simp only [if_true] at c
      obtain ⟨h1, h2, rfl⟩ := c
      exact ⟨a, vs, em, rfl, ROs.freeze xs hT e (fun b hb => k b (.inr hb)), by rw [k a (.inl rfl)]; exact h1, rfl, by trivial⟩
    | false =>
      simp only [Bool.false_eq_true, if_false] at c
      obtain ⟨h1, rfl, rfl⟩ := c
      exact ⟨a, vs, em, rfl, ROs.freeze xs hT e (fun b hb => hb.elim), e _ _ h1, rfl, by trivial⟩
  | .dct o t ks vs, v, S, h, e, k => by
    simp only [RO, fz] at h ⊢
    obtain ⟨a, ws, T, rfl, hT, ho, hk, c⟩ := h
    simp only [Bool.false_eq_true, if_false]
    cases o with
    | true =>
      simp only [if_true] at c
      obtain ⟨h1, h2, rfl⟩ := c
      exact ⟨a, ws, em, rfl, ROs.freeze vs hT e (fun b hb => k b (.inr hb)), ho, hk, by rw [k a (.inl rfl)]; exact h1, rfl, by trivial⟩
    | false =>
      simp only [Bool.false_eq_true, if_false] at c
      obtain ⟨h1, rfl, rfl⟩ := c
      exact ⟨a, ws, em, rfl, ROs.freeze vs hT e (fun b hb => hb.elim), ho, hk, e _ _ h1, rfl, by trivial⟩
  | .ins o c fs vs, v, S, h, e, k => by
    simp only [RO, fz] at h ⊢
    obtain ⟨a, dx, ws, T, rfl, hT, kvs, hf, hw, c⟩ := h
    simp only [Bool.false_eq_true, if_false]
    cases o with
    | true =>
      simp only [if_true] at c
      obtain ⟨h1, h2, h3, h4, h5, rfl⟩ := c
      exact ⟨a, dx, ws, em, rfl, ROs.freeze vs hT e (fun b hb => k b (.inr (.inr hb))), kvs, hf, hw, by rw [k a (.inl rfl)]; exact h1, by rw [k dx (.inr (.inl rfl))]; exact h2, rfl, by trivial⟩
    | false =>
      simp only [Bool.false_eq_true, if_false] at c
      obtain ⟨h1, h2, rfl, rfl⟩ := c
      exact ⟨a, dx, ws, em, rfl, ROs.freeze vs hT e (fun b hb => hb.elim), kvs, hf, hw, e _ _ h1, e _ _ h2, rfl, by trivial⟩
theorem ROs.freeze : ∀ (ds : List D) {vs : List V} {S : AS}, ROs M F H ds vs S → Ext F F' → (∀ a, S a → F' a = H a) → ROs M F' H' (fzs ds) vs em
  | [], vs, S, h, e, k => by simp only [ROs, fzs] at h ⊢; exact ⟨h.1, by trivial⟩
  | d :: ds, vs, S, h, e, k => by
    simp only [ROs, fzs] at h ⊢
    obtain ⟨v, ws, S1, S2, rfl, h1, h2, hd, rfl⟩ := h
    exact ⟨v, ws, em, em, rfl, RO.freeze d h1 e (fun a ha => k a (.inl ha)), ROs.freeze ds h2 e (fun a ha => k a (.inr ha)), fun _ h _ => h.elim, (un_em em).symm⟩
end

/-! ### one of several -/
theorem ROs.len : ∀ {ds : List D} {vs : List V} {S : AS}, ROs M F H ds vs S → ds.length = vs.length
  | [], vs, S, h => by simp only [ROs] at h; obtain ⟨rfl, _⟩ := h; rfl
  | d :: ds, vs, S, h => by
    simp only [ROs] at h
    obtain ⟨v, ws, S1, S2, rfl, h1, h2, hd, rfl⟩ := h
    simp [ROs.len h2]
/-- what one owns and what the others own -/
theorem ROs.focus : ∀ {ds : List D} {vs : List V} {S : AS} (i : Nat) {d : D}, ROs M F H ds vs S → ds[i]? = some d →
    ∃ v S1 S2, vs[i]? = some v ∧ RO M F H d v S1 ∧ dj S1 S2 ∧ S = un S1 S2 ∧
      ∀ (F' H' : Hp) (d' : D) (v' : V) (S1' : AS), Ext F F' → (∀ a, S2 a → H' a = H a) → RO M F' H' d' v' S1' → dj S1' S2 → ROs M F' H' (ds.set i d') (vs.set i v') (un S1' S2)
  | [], vs, S, i, d, h, e => by simp at e
  | d0 :: ds, vs, S, 0, d, h, e => by
    simp only [ROs] at h
    obtain ⟨v, ws, S1, S2, rfl, h1, h2, hd, rfl⟩ := h
    have e' : d0 = d := by simpa using e
    subst e'
    refine ⟨v, S1, S2, rfl, h1, hd, rfl, fun F' H' d' v' S1' ef k r q => ?_⟩
    simp only [List.set_cons_zero, ROs]
    exact ⟨v', ws, S1', S2, rfl, r, h2.mono ds ef k, q, rfl⟩
  | d0 :: ds, vs, S, i + 1, d, h, e => by
    simp only [ROs] at h
    obtain ⟨v, ws, S1, S2, rfl, h1, h2, hd, rfl⟩ := h
    obtain ⟨u, T1, T2, e1, r1, q1, rfl, k1⟩ := ROs.focus (ds := ds) i h2 (by simpa using e)
    refine ⟨u, T1, un S1 T2, by simpa using e1, r1, ?_, ?_, fun F' H' d' v' S1' ef k r q => ?_⟩
    · rintro b hb (h | h)
      · exact hd b h (.inl hb)
      · exact q1 b hb h
    · exact AS.ext fun b => by simp only [un]; constructor <;> (rintro (h | h | h) <;> simp [h])
    · simp only [List.set_cons_succ, ROs]
      refine ⟨v, ws.set i v', S1, un S1' T2, rfl, h1.mono d0 ef (fun a ha => k a (.inl ha)), k1 F' H' d' v' S1' ef (fun a ha => k a (.inr ha)) r (fun b hb hc => q b hb (.inr hc)), ?_, ?_⟩
      · rintro b hb (h | h)
        · exact q b h (.inl hb)
        · exact hd b hb (.inr h)
      · exact AS.ext fun b => by simp only [un]; constructor <;> (rintro (h | h | h) <;> simp [h])
end
end VS
/-! VSSem: states, steps, environments, paths, the judgements. -/
namespace VS
open PySem L2

/-! ### paths -/
def kids : D → List D
  | .lst _ xs => xs
  | .tup _ xs => xs
  | .dct _ _ _ vs => vs
  | .ins _ _ _ vs => vs
  | _ => []
def withKids : D → List D → D
  | .lst o _, xs => .lst o xs
  | .tup o _, xs => .tup o xs
  | .dct o t ks _, xs => .dct o t ks xs
  | .ins o c fs _, xs => .ins o c fs xs
  | d, _ => d
def own : D → Bool
  | .lst o _ => o
  | .tup o _ => o
  | .dct o _ _ _ => o
  | .ins o _ _ _ => o
  | _ => false
def getP : D → List Nat → Option D
  | d, [] => some d
  | d, k :: p => if own d = true then (kids d)[k]?.bind (getP · p) else none
def setP : D → List Nat → D → D
  | _, [], e => e
  | d, k :: p, e => match (kids d)[k]? with
    | some c => withKids d ((kids d).set k (setP c p e))
    | none => d
def hkids (H : Hp) (a : Addr) : Option (List V) := match H a with
  | some (.lst vs) => some vs
  | some (.tup vs) => some vs
  | some (.dK kvs) => some (kvs.map (·.2))
  | some (.dT kvs) => some (kvs.map (·.2))
  | some (.ins _ _ fs) => some (fs.map (·.2))
  | _ => none
def PV (H : Hp) : V → List Nat → V → Prop
  | v, [], w => w = v
  | v, k :: p, w => ∃ a vs u, v = .ref a ∧ hkids H a = some vs ∧ vs[k]? = some u ∧ PV H u p w
theorem PV.inj {H : Hp} : ∀ {p : List Nat} {v w w' : V}, PV H v p w → PV H v p w' → w = w'
  | [], v, w, w', h, h' => by rw [show w = v from h, show w' = v from h']
  | k :: p, v, w, w', h, h' => by
    obtain ⟨a, vs, u, rfl, e1, e2, h⟩ := h
    obtain ⟨a', vs', u', e, e3, e4, h'⟩ := h'
    cases e
    rw [e1] at e3; cases e3
    rw [e2] at e4; cases e4
    exact h.inj h'
theorem hkids_ext {H H' : Hp} {a : Addr} {vs : List V} (e : Ext H H') (h : hkids H a = some vs) : hkids H' a = some vs := by
  unfold hkids at h ⊢
  cases q : H a with
  | none => rw [q] at h; cases h
  | some o => rw [e a o q]; rw [q] at h; exact h
theorem PV.ext {H H' : Hp} (e : Ext H H') : ∀ {p : List Nat} {v w : V}, PV H v p w → PV H' v p w
  | [], v, w, h => h
  | k :: p, v, w, ⟨a, vs, u, e0, e1, e2, h⟩ => ⟨a, vs, u, e0, hkids_ext e e1, e2, h.ext e⟩

theorem list_set_self {α : Type} : ∀ {l : List α} {i : Nat} {x : α}, l[i]? = some x → l.set i x = l
  | [], i, x, h => by simp at h
  | a :: l, 0, x, h => by simp at h; simp [h]
  | a :: l, i + 1, x, h => by simp at h; simp [list_set_self h]
theorem map_set_snd {α β : Type} (l : List (α × β)) (i : Nat) {p : α × β} (h : l[i]? = some p) : (l.map (·.1)) = ((l.set i (p.1, p.2)).map (·.1)) := by
  rw [list_set_self (by simpa using h)]

section
variable {M : Mn} {F H F' H' : Hp}
/-- an owned container: what it owns is its own address(es) A and what its items own -/
theorem RO.own_kids {d : D} {v : V} {S : AS} (h : RO M F H d v S) (o : own d = true) :
    ∃ a vs T A, v = .ref a ∧ hkids H a = some vs ∧ ROs M F H (kids d) vs T ∧ dj A T ∧ S = un A T ∧ A a ∧
      ∀ (F' H' : Hp) (xs : List D) (T' : AS), (∀ b, A b → H' b = H b) → ROs M F' H' xs vs T' → dj A T' → RO M F' H' (withKids d xs) v (un A T') := by
  cases d with
  | unset => cases o
  | hole => cases o
  | non => cases o
  | bl b => cases o
  | int i => cases o
  | str s => cases o
  | scr ns => cases o
  | fn c => cases o
  | exc c d => cases o
  | lst ow xs =>
    have e : ow = true := o
    subst e
    simp only [RO, if_true] at h
    obtain ⟨a, vs, T, rfl, hT, h1, h2, rfl⟩ := h
    refine ⟨a, vs, T, fun b => b = a, rfl, by unfold hkids; rw [h1], hT, fun b e t => by subst e; exact h2 t, rfl, rfl, fun F' H' xs T' k r q => ?_⟩
    simp only [withKids, RO, if_true]
    exact ⟨a, vs, T', rfl, r, by rw [k a rfl]; exact h1, fun t => q a rfl t, rfl⟩
  | tup ow xs =>
    have e : ow = true := o
    subst e
    simp only [RO, if_true] at h
    obtain ⟨a, vs, T, rfl, hT, h1, h2, rfl⟩ := h
    refine ⟨a, vs, T, fun b => b = a, rfl, by unfold hkids; rw [h1], hT, fun b e t => by subst e; exact h2 t, rfl, rfl, fun F' H' xs T' k r q => ?_⟩
    simp only [withKids, RO, if_true]
    exact ⟨a, vs, T', rfl, r, by rw [k a rfl]; exact h1, fun t => q a rfl t, rfl⟩
  | dct ow t ks ds =>
    have e : ow = true := o
    subst e
    simp only [RO, if_true] at h
    obtain ⟨a, vs, T, rfl, hT, ho, hk, h1, h2, rfl⟩ := h
    refine ⟨a, vs, T, fun b => b = a, rfl, ?_, hT, fun b e t => by subst e; exact h2 t, rfl, rfl, fun F' H' xs T' k r q => ?_⟩
    · unfold hkids
      rw [h1]
      cases t with
      | true =>
        simp only [if_true] at hk
        obtain ⟨kvs, rfl, _, rfl, _⟩ := hk
        rfl
      | false =>
        simp only [Bool.false_eq_true, if_false] at hk
        obtain ⟨kvs, rfl, _, rfl, _⟩ := hk
        rfl
    · simp only [withKids, RO, if_true]
      exact ⟨a, vs, T', rfl, r, ho, hk, by rw [k a rfl]; exact h1, fun t => q a rfl t, rfl⟩
  | ins ow c fs ds =>
    have e : ow = true := o
    subst e
    simp only [RO, if_true] at h
    obtain ⟨a, dx, vs, T, rfl, hT, kvs, hf, hw, h1, h2, h3, h4, h5, rfl⟩ := h
    refine ⟨a, vs, T, fun b => b = a ∨ b = dx, rfl, by unfold hkids; rw [h1, hw], hT, fun b e t => ?_, ?_, .inl rfl, fun F' H' xs T' k r q => ?_⟩
    · rcases e with rfl | rfl
      · exact h4 t
      · exact h5 t
    · exact AS.ext fun b => by simp only [un, on1]; constructor <;> intro z <;> simp_all [or_assoc]
    · simp only [withKids, RO, if_true]
      refine ⟨a, dx, vs, T', rfl, r, kvs, hf, hw, by rw [k a (.inl rfl)]; exact h1, by rw [k dx (.inr rfl)]; exact h2, h3, fun t => q a (.inl rfl) t, fun t => q dx (.inr rfl) t, ?_⟩
      exact AS.ext fun b => by simp only [un, on1]; constructor <;> intro z <;> simp_all [or_assoc]

theorem un_assoc3 {A S T : AS} : un S (un A T) = un A (un S T) := AS.ext fun b => by simp only [un]; constructor <;> (rintro (h | h | h) <;> simp [h])
/-- the focus at a path -/
theorem RO.path : ∀ (p : List Nat) {d : D} {v : V} {S : AS} {e : D}, RO M F H d v S → getP d p = some e →
    ∃ w S1 S2, PV H v p w ∧ RO M F H e w S1 ∧ dj S1 S2 ∧ S = un S1 S2 ∧
      ∀ (F' H' : Hp) (e' : D) (S1' : AS), Ext F F' → (∀ a, S2 a → H' a = H a) → RO M F' H' e' w S1' → dj S1' S2 → RO M F' H' (setP d p e') v (un S1' S2) ∧ PV H' v p w
  | [], d, v, S, e, h, g => by
    cases g
    exact ⟨v, S, em, rfl, h, fun _ _ h => h.elim, (un_em S).symm, fun F' H' e' S1' _ _ r _ => ⟨by rw [un_em]; exact r, rfl⟩⟩
  | k :: p, d, v, S, e, h, g => by
    unfold getP at g
    split at g
    · rename_i ho
      obtain ⟨a, vs, T, A, rfl, hk, hT, hd, rfl, hA, k1⟩ := h.own_kids ho
      cases q : (kids d)[k]? with
      | none => rw [q] at g; cases g
      | some c =>
        rw [q] at g
        obtain ⟨u, T1, T2, eu, ru, du, rfl, k2⟩ := hT.focus k q
        obtain ⟨w, S1, S2, pw, rw', dw, rfl, k3⟩ := RO.path p ru (show getP c p = some e from g)
        refine ⟨w, S1, un A (un S2 T2), ⟨a, vs, u, rfl, hk, eu, pw⟩, rw', ?_, ?_, fun F' H' e' S1' ef kk r dd => ?_⟩
        · rintro b hb (h | h | h)
          · exact hd b h (.inl (.inl hb))
          · exact dw b hb h
          · exact du b (.inl hb) h
        · exact AS.ext fun b => by
            simp only [un]
            constructor
            · rintro (h | (h | h) | h) <;> simp [h]
            · rintro (h | h | h | h) <;> simp [h]
        · obtain ⟨r3, p3⟩ := k3 F' H' e' S1' ef (fun b hb => kk b (.inr (.inl hb))) r (fun b hb hc => dd b hb (.inr (.inl hc)))
          have r2 := k2 F' H' (setP c p e') u (un S1' S2) ef (fun b hb => kk b (.inr (.inr hb))) r3 (by
            rintro b (h | h) hc
            · exact dd b h (.inr (.inr hc))
            · exact du b (.inr h) hc)
          rw [list_set_self eu] at r2
          have r1 := k1 F' H' ((kids d).set k (setP c p e')) _ (fun b hb => kk b (.inl hb)) r2 (by
            rintro b hb ((h | h) | h)
            · exact dd b h (.inl hb)
            · exact hd b hb (.inl (.inr h))
            · exact hd b hb (.inr h))
          refine ⟨?_, a, vs, u, rfl, ?_, eu, p3⟩
          · unfold setP
            rw [q]
            have : un S1' (un A (un S2 T2)) = un A (un (un S1' S2) T2) := AS.ext fun b => by
              simp only [un]
              constructor
              · rintro (h | h | h | h) <;> simp [h]
              · rintro (h | (h | h) | h) <;> simp [h]
            rw [this]
            exact r1
          · unfold hkids at hk ⊢
            rw [kk a (.inl hA)]
            exact hk
    · cases g
end

/-! ### states -/
def Lockable : HO → Prop
  | .dK _ => True
  | .dT _ => True
  | _ => False
/-- what is frozen stands (a dict perhaps locked) -/
def FH (F H : Hp) : Prop := ∀ a u, F a = some u → H a = some u ∨ (Lockable u ∧ ∃ o, H a = some (.frz o u))
theorem FH.rd {F H : Hp} (f : FH F H) {a : Addr} {u : HO} (h : F a = some u) : Rd H a u := (f a u h).imp id fun h => h.2
structure Stt (M : Mn) (F H : Hp) (S : AS) : Prop where
  fh : FH F H
  fr : ∀ a, S a → F a = none
  al : ∀ a, S a → ∃ o, H a = some o ∧ pl o
  tb : LamX.Tabs M.tabs H
  ft : ∀ p ∈ M.tabs, F p.1 = none
def nt (o : HO) : Prop := ∀ ps, o ≠ .tbl ps
/-- no table gets frozen -/
theorem Stt.ftN {M : Mn} {F H F' : Hp} {S : AS} (s : Stt M F H S) (n : ∀ a u, F' a = some u → F a = some u ∨ S a ∨ H a = none) : ∀ p ∈ M.tabs, F' p.1 = none := fun p hp => by
  obtain ⟨ps, h1, _, _⟩ := s.tb p hp
  cases q : F' p.1 with
  | none => rfl
  | some u =>
    exfalso
    rcases n _ u q with z | z | z
    · rw [s.ft p hp] at z; cases z
    · obtain ⟨o, e, k⟩ := s.al _ z
      rw [h1] at e; cases e
      exact k
    · rw [h1] at z; cases z
theorem pl.nt {o : HO} (h : pl o) : nt o := fun ps e => by rw [e] at h; exact h
theorem frz_nt {o : Obj} {u : HO} : nt (.frz o u) := fun ps e => by cases e
theorem Stt.al1 {M : Mn} {F H : Hp} {S : AS} (s : Stt M F H S) (a : Addr) (h : S a) : ∃ o, H a = some o := let ⟨o, e, _⟩ := s.al a h; ⟨o, e⟩
/-- the tables stay where nothing else is lost -/
theorem Stt.tabs {M : Mn} {F H H' : Hp} {S : AS} (s : Stt M F H S) (k : ∀ a o, H a = some o → ¬ S a → H' a = some o) : LamX.Tabs M.tabs H' := fun p hp => by
  obtain ⟨ps, h1, h2, h3⟩ := s.tb p hp
  refine ⟨ps, k _ _ h1 fun z => ?_, h2, fun pos cv e => ?_⟩
  · obtain ⟨o, e, q⟩ := s.al _ z
    rw [h1] at e; cases e
    exact q
  · obtain ⟨c, e1, e2⟩ := h3 pos cv e
    refine ⟨c, e1, k _ _ e2 fun z => ?_⟩
    obtain ⟨o, e3, q⟩ := s.al _ z
    rw [e2] at e3; cases e3
    exact q
theorem tabs_upd {M : Mn} {H : Hp} {a : Addr} {o u : HO} (t : LamX.Tabs M.tabs H) (e : H a = some u) (p : pl u) : LamX.Tabs M.tabs (upd H a o) := fun q hq => by
  obtain ⟨ps, h1, h2, h3⟩ := t q hq
  refine ⟨ps, by rw [upd_ne (fun z => by rw [z, e] at h1; cases h1; exact p)]; exact h1, h2, fun pos cv ec => ?_⟩
  obtain ⟨c, e1, e2⟩ := h3 pos cv ec
  exact ⟨c, e1, by rw [upd_ne (fun z => by rw [z, e] at e2; cases e2; exact p)]; exact e2⟩
theorem Stt.tabsE {M : Mn} {F H H' : Hp} {S : AS} (s : Stt M F H S) (k : ∀ a o, H a = some o → H' a = some o) : LamX.Tabs M.tabs H' := s.tabs fun a o e _ => k a o e
/-- nothing stands there, or a table -/
def vac (H : Hp) (a : Addr) : Prop := ∀ o, H a = some o → ∃ ps, o = .tbl ps
theorem vac.of {H : Hp} {a : Addr} (h : H a = none) : vac H a := fun o e => by rw [h] at e; cases e
theorem vac.no {H : Hp} {a : Addr} {o : HO} (h : vac H a) (e : H a = some o) (p : pl o) : False := by
  obtain ⟨ps, rfl⟩ := h o e
  exact p
theorem vac.nt {H : Hp} {a : Addr} {o : HO} (h : vac H a) (e : H a = some o) (p : nt o) : False := by
  obtain ⟨ps, rfl⟩ := h o e
  exact p ps rfl
theorem vac.back {H H1 : Hp} {a : Addr} (k : ∀ o, H a = some o → VS.nt o → H1 a = some o) (h : vac H1 a) : vac H a := fun o e => by
  by_cases n : VS.nt o
  · exact h o (k o e n)
  · exact Classical.byContradiction fun z => n fun ps q => z ⟨ps, q⟩
structure Step (F H : Hp) (S : AS) (F' H' : Hp) (S' : AS) : Prop where
  ext : Ext F F'
  keep : ∀ a o, H a = some o → nt o → ¬ S a → H' a = some o
  own : ∀ a, S' a → S a ∨ vac H a
  new : ∀ a u, F' a = some u → F a = some u ∨ S a ∨ vac H a
theorem Step.refl {F H : Hp} {S : AS} : Step F H S F H S := ⟨Ext.refl F, fun _ _ h _ _ => h, fun _ h => .inl h, fun _ _ h => .inl h⟩
/-- all is kept but what is owned -/
theorem Step.mk0 {F H F' H' : Hp} {S S' : AS} (e : Ext F F') (k : ∀ a o, H a = some o → ¬ S a → H' a = some o) (o : ∀ a, S' a → S a ∨ H a = none) (n : ∀ a u, F' a = some u → F a = some u ∨ S a ∨ H a = none) : Step F H S F' H' S' :=
  ⟨e, fun a o h _ => k a o h, fun a h => (o a h).imp id vac.of, fun a u h => (n a u h).imp id fun z => z.imp id vac.of⟩
theorem Step.back {F H F1 H1 : Hp} {S S1 : AS} (a : Step F H S F1 H1 S1) {x : Addr} (h : vac H1 x) : S x ∨ vac H x := by
  by_cases hs : S x
  · exact .inl hs
  · exact .inr (h.back fun o e n => a.keep x o e n hs)
theorem Step.trans {F H F1 H1 F2 H2 : Hp} {S S1 S2 : AS} (a : Step F H S F1 H1 S1) (b : Step F1 H1 S1 F2 H2 S2) : Step F H S F2 H2 S2 := by
  refine ⟨a.ext.trans b.ext, fun x o h n hs => b.keep x o (a.keep x o h n hs) n fun h1 => ?_, fun x h => ?_, fun x u h => ?_⟩
  · rcases a.own x h1 with h2 | h2
    · exact hs h2
    · exact h2.nt h n
  · rcases b.own x h with h1 | h1
    · exact a.own x h1
    · exact a.back h1
  · rcases b.new x u h with h1 | h1 | h1
    · exact a.new x u h1
    · exact .inr (a.own x h1)
    · exact .inr (a.back h1)
/-- what one holds besides -/
theorem Step.frame {M : Mn} {F H F' H' : Hp} {S S' T : AS} (a : Step F H S F' H' S') (st : Stt M F H (un S T)) (st' : Stt M F' H' S') (d : dj S T) :
    Step F H (un S T) F' H' (un S' T) ∧ Stt M F' H' (un S' T) ∧ dj S' T ∧ ∀ x, T x → H' x = H x := by
  have kT : ∀ x, T x → H' x = H x := fun x hx => by
    obtain ⟨o, e, p⟩ := st.al x (.inr hx)
    rw [e]
    exact a.keep x o e p.nt fun hs => d x hs hx
  have dd : dj S' T := fun x h1 h2 => by
    rcases a.own x h1 with h | h
    · exact d x h h2
    · obtain ⟨o, e, p⟩ := st.al x (.inr h2)
      exact h.no e p
  refine ⟨⟨a.ext, fun x o h n hs => a.keep x o h n fun z => hs (.inl z), fun x h => ?_, fun x u h => ?_⟩, ⟨st'.fh, fun x h => ?_, fun x h => ?_, st'.tb, st'.ft⟩, dd, kT⟩
  · rcases h with h | h
    · exact (a.own x h).imp .inl id
    · exact .inl (.inr h)
  · rcases a.new x u h with h | h | h
    · exact .inl h
    · exact .inr (.inl (.inl h))
    · exact .inr (.inr h)
  · rcases h with h | h
    · exact st'.fr x h
    · cases q : F' x with
      | none => rfl
      | some u =>
        exfalso
        rcases a.new x u q with z | z | z
        · rw [st.fr x (.inr h)] at z; cases z
        · exact d x z h
        · obtain ⟨o, e, p⟩ := st.al x (.inr h)
          exact z.no e p
  · rcases h with h | h
    · exact st'.al x h
    · obtain ⟨o, e, p⟩ := st.al x (.inr h)
      exact ⟨o, by rw [kT x h]; exact e, p⟩
theorem Stt.sub {M : Mn} {F H : Hp} {S T : AS} (s : Stt M F H S) (h : ∀ a, T a → S a) : Stt M F H T := ⟨s.fh, fun a t => s.fr a (h a t), fun a t => s.al a (h a t), s.tb, s.ft⟩
/-- forgetting what one owns -/
theorem Step.drop {F H F' H' : Hp} {S S' T : AS} (a : Step F H S F' H' S') (h : ∀ x, T x → S' x) : Step F H S F' H' T := ⟨a.ext, a.keep, fun x t => a.own x (h x t), a.new⟩
/-- more was owned ahead -/
theorem Step.more {F H F' H' : Hp} {S S' T : AS} (a : Step F H S F' H' S') (h : ∀ x, S x → T x) : Step F H T F' H' S' :=
  ⟨a.ext, fun x o e n m => a.keep x o e n fun z => m (h x z), fun x t => (a.own x t).imp (h x) id, fun x u e => (a.new x u e).imp id fun z => z.imp (h x) id⟩

/-! ### environments -/
def isSet : D → Bool
  | .unset => false
  | _ => true
def EnvR (M : Mn) (F H : Hp) (env : List D) (σ : L2.St) (S : AS) : Prop :=
  ∃ vs : List V, ROs M F H env vs S ∧ env.length = σ.length ∧ ∀ (i : Nat) (d : D), env[i]? = some d → isSet d = true → σ[i]? = some (vs[i]?)
def getE (env : List D) (i : Nat) (p : List Nat) : Option D := env[i]?.bind (getP · p)
def setE (env : List D) (i : Nat) (p : List Nat) (e : D) : List D := match env[i]? with
  | some d => env.set i (setP d p e)
  | none => env
theorem isSet_setP : ∀ {p : List Nat} {d e : D}, isSet d = true → isSet (setP d p e) = true ∨ p = []
  | [], d, e, h => .inr rfl
  | k :: p, d, e, h => by
    left
    unfold setP
    split
    · cases d <;> first | rfl | exact h
    · exact h
theorem getP_set {p : List Nat} {d e : D} (h : getP d p = some e) (he : isSet e = true) : isSet d = true := by
  cases p with
  | nil => cases h; exact he
  | cons k p =>
    unfold getP at h
    split at h
    · rename_i ho
      cases d <;> first | rfl | cases ho
    · cases h
section
variable {M : Mn} {F H F' H' : Hp} {env : List D} {σ : L2.St} {S : AS}
theorem EnvR.mono (h : EnvR M F H env σ S) (e : Ext F F') (k : ∀ a, S a → H' a = H a) : EnvR M F' H' env σ S :=
  let ⟨vs, r, l, q⟩ := h
  ⟨vs, r.mono env e k, l, q⟩
theorem EnvR.path (h : EnvR M F H env σ S) {i : Nat} {p : List Nat} {e : D} (g : getE env i p = some e) (he : isSet e = true) :
    ∃ v w S1 S2, σ[i]? = some (some v) ∧ PV H v p w ∧ RO M F H e w S1 ∧ dj S1 S2 ∧ S = un S1 S2 ∧
      ∀ (F' H' : Hp) (e' : D) (S1' : AS), Ext F F' → (∀ a, S2 a → H' a = H a) → RO M F' H' e' w S1' → dj S1' S2 → EnvR M F' H' (setE env i p e') σ (un S1' S2) ∧ PV H' v p w := by
  obtain ⟨vs, r, l, q⟩ := h
  unfold getE at g
  cases qi : env[i]? with
  | none => rw [qi] at g; cases g
  | some d =>
    rw [qi] at g
    have g' : getP d p = some e := g
    obtain ⟨v, T1, T2, ev, rv, dv, rfl, k1⟩ := r.focus i qi
    obtain ⟨w, S1, S2, pw, rw', dw, rfl, k2⟩ := rv.path p g'
    have hs := q i d qi (getP_set g' he)
    rw [ev] at hs
    refine ⟨v, w, S1, un S2 T2, hs, pw, rw', ?_, ?_, fun F' H' e' S1' ef kk r' dd => ?_⟩
    · rintro b hb (h | h)
      · exact dw b hb h
      · exact dv b (.inl hb) h
    · exact AS.ext fun b => by
        simp only [un]
        constructor
        · rintro ((h | h) | h) <;> simp [h]
        · rintro (h | h | h) <;> simp [h]
    · obtain ⟨r2, p2⟩ := k2 F' H' e' S1' ef (fun b hb => kk b (.inl hb)) r' (fun b hb hc => dd b hb (.inl hc))
      have r1 := k1 F' H' (setP d p e') v (un S1' S2) ef (fun b hb => kk b (.inr hb)) r2 (by
        rintro b (h | h) hc
        · exact dd b h (.inr hc)
        · exact dv b (.inr h) hc)
      rw [list_set_self ev] at r1
      refine ⟨⟨vs, ?_, ?_, fun j c hj hc => ?_⟩, p2⟩
      · unfold setE
        rw [qi]
        have : un S1' (un S2 T2) = un (un S1' S2) T2 := AS.ext fun b => by
          simp only [un]
          constructor
          · rintro (h | h | h) <;> simp [h]
          · rintro ((h | h) | h) <;> simp [h]
        rw [this]
        exact r1
      · unfold setE
        rw [qi]
        simpa using l
      · unfold setE at hj
        rw [qi] at hj
        by_cases hij : i = j
        · subst hij
          rw [ev]
          exact hs
        · have hj' : (env.set i (setP d p e'))[j]? = some c := hj
          rw [List.getElem?_set_ne hij] at hj'
          exact q j c hj' hc
/-- a slot is given a new value -/
theorem EnvR.put {i : Nat} {d d' : D} {v : V} {S' : AS} (h : EnvR M F H env σ S) (g : env[i]? = some d) (r : RO M F H d' v S') (dd : dj S S') :
    ∃ T, EnvR M F H (env.set i d') (σ.set i (some v)) (un S' T) ∧ dj S' T ∧ ∀ a, T a → S a := by
  obtain ⟨vs, rs, l, q⟩ := h
  obtain ⟨v0, T1, T2, ev, rv, dv, rfl, k1⟩ := rs.focus i g
  have d2 : dj S' T2 := fun b h1 h2 => dd b (.inr h2) h1
  refine ⟨T2, ⟨vs.set i v, k1 F H d' v S' (Ext.refl F) (fun _ _ => rfl) r d2, by simpa using l, fun j c hj hc => ?_⟩, d2, fun a h => .inr h⟩
  have hi : i < env.length := (List.getElem?_eq_some_iff.mp g).1
  have hiv : i < vs.length := by rw [← rs.len]; exact hi
  have his : i < σ.length := by rw [← l]; exact hi
  by_cases hij : i = j
  · subst hij
    rw [List.getElem?_set_self hiv, List.getElem?_set_self his]
  · rw [List.getElem?_set_ne hij] at hj
    rw [List.getElem?_set_ne hij, List.getElem?_set_ne hij]
    exact q j c hj hc
/-- a slot is forgotten -/
theorem EnvR.forget {i : Nat} (h : EnvR M F H env σ S) : ∃ T, EnvR M F H (env.set i .unset) σ T ∧ ∀ a, T a → S a := by
  obtain ⟨vs, rs, l, q⟩ := h
  cases g : env[i]? with
  | none =>
    have : env.set i .unset = env := by
      apply List.set_eq_of_length_le
      exact List.getElem?_eq_none_iff.mp g
    rw [this]
    exact ⟨S, ⟨vs, rs, l, q⟩, fun _ h => h⟩
  | some d =>
    obtain ⟨v0, T1, T2, ev, rv, dv, rfl, k1⟩ := rs.focus i g
    have r := k1 F H .unset v0 em (Ext.refl F) (fun _ _ => rfl) (by simp only [RO]) (fun _ h _ => h.elim)
    rw [list_set_self ev, em_un] at r
    refine ⟨T2, ⟨vs, r, by simpa using l, fun j c hj hc => ?_⟩, fun a h => .inr h⟩
    by_cases hij : i = j
    · subst hij
      rw [List.getElem?_set_self (List.getElem?_eq_some_iff.mp g).1] at hj
      cases hj
      cases hc
    · rw [List.getElem?_set_ne hij] at hj
      exact q j c hj hc
end

/-! ### results -/
inductive Rv where
  | tmp (d : D) | pth (i : Nat) (p : List Nat)
inductive R (α : Type) where
  | ok (a : α) (env : List D) | err (c : Str) (d : D) (env : List D) | stuck
def R.bind {α β : Type} (x : R α) (k : α → List D → R β) : R β := match x with
  | .ok a env => k a env
  | .err c d env => .err c d env
  | .stuck => .stuck
def fetch (env : List D) : Rv → Option D
  | .tmp d => if isSet d = true then some d else none
  | .pth i p => match getE env i p with
    | some e => if (own e || (p.isEmpty && isSet e)) = true then some e else none
    | none => none
/-- what is held of a result -/
def Rv.hold : Rv → D
  | .tmp d => d
  | .pth _ _ => .unset
theorem own_isSet {e : D} (h : own e = true) : isSet e = true := by cases e <;> first | rfl | cases h
theorem fet_isSet {e : D} {p : List Nat} (h : (own e || (p.isEmpty && isSet e)) = true) : isSet e = true := by
  rcases Bool.or_eq_true _ _ |>.mp h with h | h
  · exact own_isSet h
  · exact (Bool.and_eq_true _ _ |>.mp h).2

section
variable (M : Mn) (F H : Hp) (env : List D) (σ : L2.St)
/-- the results as they stand beside the environment -/
def ResR (rs : List Rv) (vs : List V) (S : AS) : Prop :=
  ∃ S1 S2, EnvR M F H env σ S1 ∧ ROs M F H (rs.map Rv.hold) vs S2 ∧ dj S1 S2 ∧ S = un S1 S2 ∧
    ∀ (j i : Nat) (p : List Nat), rs[j]? = some (.pth i p) → ∃ u v, σ[i]? = some (some u) ∧ vs[j]? = some v ∧ PV H u p v
end
end VS
/-! VSRule: the judgements, arguments, pure operations, tests. -/
namespace VS
open PySem L2

abbrev WD := Value → Option Addr → L2.St → Hp → Prop
structure ErrR (M : Mn) (F H : Hp) (c : Str) (d : D) (cls : Value) (dx : Option Addr) : Prop where
  cls : cls = .ref (M.cm c)
  non : isSet d = false → dx = none
  fld : isSet d = true → ∃ a v, dx = some a ∧ F a = some (.xd [(M.en c, v)]) ∧ RO M F H d v em

section
variable (M : Mn) (W : WD) (b : Bool) (F H : Hp) (env : List D) (σ : L2.St) (S : AS)
def Post (Q : V → Hp → Prop) : R Rv → Prop
  | .ok r env' => ∀ v F' H' S', Step F H S F' H' S' → Stt M F' H' S' → (b = true → Ext H H') → ResR M F' H' env' σ [r] [v] S' → Q v H'
  | .err c d env' => ∀ F' H' S' cls dx, Step F H S F' H' S' → Stt M F' H' S' → ErrR M F' H' c d cls dx → EnvR M F' H' env' σ S' → W cls dx σ H'
  | .stuck => False
def PostA (Q : List V → Hp → Prop) : R (List Rv) → Prop
  | .ok rs env' => ∀ vs F' H' S', Step F H S F' H' S' → Stt M F' H' S' → (b = true → Ext H H') → ResR M F' H' env' σ rs vs S' → Q vs H'
  | .err c d env' => ∀ F' H' S' cls dx, Step F H S F' H' S' → Stt M F' H' S' → ErrR M F' H' c d cls dx → EnvR M F' H' env' σ S' → W cls dx σ H'
  | .stuck => False
def PostT (Q : Bool → Hp → Prop) : R Bool → Prop
  | .ok k env' => ∀ F' H' S', Step F H S F' H' S' → Stt M F' H' S' → (b = true → Ext H H') → EnvR M F' H' env' σ S' → Q k H'
  | .err c d env' => ∀ F' H' S' cls dx, Step F H S F' H' S' → Stt M F' H' S' → ErrR M F' H' c d cls dx → EnvR M F' H' env' σ S' → W cls dx σ H'
  | .stuck => False
end
def SE (M : Mn) (W : WD) (b : Bool) (te : TE) (f : List D → R Rv) : Prop :=
  ∀ F H env σ S Q, Stt M F H S → EnvR M F H env σ S → Post M W b F H σ S Q (f env) → te σ H Q
def SA (M : Mn) (W : WD) (b : Bool) (ta : TA) (f : List D → R (List Rv)) : Prop :=
  ∀ F H env σ S Q, Stt M F H S → EnvR M F H env σ S → PostA M W b F H σ S Q (f env) → ta σ H Q
def ST (M : Mn) (W : WD) (b : Bool) (tt : TT) (f : List D → R Bool) : Prop :=
  ∀ F H env σ S Q, Stt M F H S → EnvR M F H env σ S → PostT M W b F H σ S Q (f env) → tt σ H Q

section
variable {M : Mn} {W : WD} {b b1 b2 : Bool} {F H F' H' F1 H1 : Hp} {env env' env1 : List D} {σ : L2.St} {S S' S1 T : AS}
theorem un_em' {S : AS} : S = un S em := (un_em S).symm
theorem ResR.one_tmp {d : D} {v : V} {S T : AS} (h : EnvR M F H env σ S) (r : RO M F H d v T) (dd : dj S T) : ResR M F H env σ [.tmp d] [v] (un S T) := by
  refine ⟨S, T, h, ?_, dd, rfl, fun j i p e => ?_⟩
  · simp only [List.map, Rv.hold, ROs]
    exact ⟨v, [], T, em, rfl, r, ⟨rfl, rfl⟩, fun _ _ h => h.elim, un_em'⟩
  · cases j <;> simp at e
theorem ResR.envp {rs : List Rv} {vs : List V} (h : ResR M F H env σ rs vs S) : ∃ S1, EnvR M F H env σ S1 ∧ ∀ a, S1 a → S a := by
  obtain ⟨S1, S2, h1, _, _, rfl, _⟩ := h
  exact ⟨S1, h1, fun a h => .inl h⟩
theorem EnvR.dj_emp (h : EnvR M F H env σ S) : dj S em := fun _ _ h => h.elim
theorem ErrR.step {c : Str} {d : D} {cls : Value} {dx : Option Addr} (h : ErrR M F H c d cls dx) (e : Ext F F') (k : ∀ a o, H a = some o → H' a = some o) : ErrR M F' H' c d cls dx :=
  ⟨h.cls, h.non, fun q => by
    obtain ⟨a, v, h1, h2, h3⟩ := h.fld q
    exact ⟨a, v, h1, e _ _ h2, h3.mono d e fun _ z => z.elim⟩⟩
/-! ### from one result to the next -/
theorem Post.mono_b {Q : V → Hp → Prop} {x : R Rv} (h : Post M W b F H σ S Q x) : Post M W true F H σ S Q x := by
  cases x with
  | ok r env' => exact fun v F' H' S' s st hb r => h v F' H' S' s st (fun _ => hb rfl) r
  | err c d env' => exact h
  | stuck => exact h
/-- the start of a further one: from an environment's own part, all else held -/
structure At (M : Mn) (F H : Hp) (env : List D) (σ : L2.St) (S : AS) (F1 H1 : Hp) (env1 : List D) (Se St : AS) : Prop where
  step : Step F H S F1 H1 (un Se St)
  stt : Stt M F1 H1 (un Se St)
  env : EnvR M F1 H1 env1 σ Se
  d : dj Se St
theorem At.run {Se St : AS} (a : At M F H env σ S F1 H1 env1 Se St) (s : Step F1 H1 Se F' H' S') (st : Stt M F' H' S') : Step F H S F' H' (un S' St) ∧ Stt M F' H' (un S' St) ∧ dj S' St ∧ ∀ x, St x → H' x = H1 x :=
  let ⟨h1, h2, h3, h4⟩ := s.frame a.stt st a.d
  ⟨a.step.trans h1, h2, h3, h4⟩
theorem At.sub {Se St : AS} (a : At M F H env σ S F1 H1 env1 Se St) : Stt M F1 H1 Se := a.stt.sub fun _ h => .inl h

/-! ### arguments -/
def tmpd (d : D) : List D → R Rv := fun env => .ok (.tmp d) env
def nilF : List D → R (List Rv) := fun env => .ok [] env
def nested : Rv → Bool
  | .pth _ (_ :: _) => true
  | _ => false
def consF (b2 : Bool) (f : List D → R Rv) (g : List D → R (List Rv)) : List D → R (List Rv) := fun env =>
  (f env).bind fun r env1 => if nested r = true ∧ b2 = false then .stuck else (g env1).bind fun rs env2 => .ok (r :: rs) env2
theorem sa_nil : SA M W true tNil nilF := by
  intro F H env σ S Q st en h
  refine h [] F H S Step.refl st (fun _ => Ext.refl H) ?_
  exact ⟨S, em, en, by simp [ROs], fun _ _ h => h.elim, un_em', fun j i p e => by simp at e⟩
theorem sa_cons {te : TE} {ta : TA} {f : List D → R Rv} {g : List D → R (List Rv)} (h1 : SE M W b1 te f) (h2 : SA M W b2 ta g) : SA M W (b1 && b2) (tCons te ta) (consF b2 f g) := by
  intro F H env σ S Q st en h
  refine h1 F H env σ S _ st en ?_
  unfold consF at h
  cases hf : f env with
  | stuck => rw [hf] at h; exact h
  | err c d env1 => rw [hf] at h; exact h
  | ok r env1 =>
    rw [hf] at h
    intro v F1 H1 S1 s1 st1 hb1 res1
    obtain ⟨Se, St, en1, ro1, d1, rfl, pth1⟩ := res1
    have h : PostA M W (b1 && b2) F H σ S Q (if nested r = true ∧ b2 = false then .stuck else (g env1).bind fun rs env2 => .ok (r :: rs) env2) := h
    split at h
    · exact h.elim
    rename_i hn
    have A : At M F H env σ S F1 H1 env1 Se St := ⟨s1, st1, en1, d1⟩
    refine h2 F1 H1 env1 σ Se _ A.sub en1 ?_
    cases hg : g env1 with
    | stuck => rw [hg] at h; exact h
    | err c d env2 =>
      rw [hg] at h
      intro F2 H2 S2 cls dx s2 st2 er en2
      obtain ⟨h3, h4, h5, h6⟩ := A.run s2 st2
      exact h F2 H2 S2 cls dx (h3.drop fun _ z => .inl z) (h4.sub fun _ z => .inl z) er en2
    | ok rs env2 =>
      rw [hg] at h
      intro vs F2 H2 S2 s2 st2 hb2 res2
      obtain ⟨Se2, Sr, en2, ro2, d2, rfl, pth2⟩ := res2
      obtain ⟨h3, h4, h5, h6⟩ := A.run s2 st2
      refine h (v :: vs) F2 H2 (un (un Se2 Sr) St) h3 h4 (fun hb => ?_) ?_
      · obtain ⟨hb1', hb2'⟩ := Bool.and_eq_true_iff.mp hb
        have x1 := hb1 hb1'
        have x2 := hb2 hb2'
        exact x1.trans x2
      · have ro1' := ro1.mono _ s2.ext (fun a ha => h6 a ha)
        simp only [List.map, ROs] at ro1'
        obtain ⟨v', ws, T1, T2, e, r1, ⟨rfl, rfl⟩, dd, rfl⟩ := ro1'
        cases e
        refine ⟨Se2, un T1 Sr, en2, ?_, ?_, ?_, fun j i p e => ?_⟩
        · simp only [List.map, ROs]
          exact ⟨v, vs, T1, Sr, rfl, r1, ro2, fun x hx hy => h5 x (.inr hy) (.inl hx), rfl⟩
        · rintro x hx (hy | hy)
          · exact h5 x (.inl hx) (.inl hy)
          · exact d2 x hx hy
        · rw [un_em]
          exact AS.ext fun x => by
            simp only [un]
            constructor
            · rintro ((h | h) | h) <;> simp [h]
            · rintro (h | h | h) <;> simp [h]
        · cases j with
          | succ j => exact pth2 j i p (by simpa using e)
          | zero =>
            have e' : r = .pth i p := by simpa using e
            obtain ⟨u, w, e1, e2, e3⟩ := pth1 0 i p (by simp [e'])
            have e2' : v = w := by simpa using e2
            subst e2'
            refine ⟨u, v, e1, rfl, ?_⟩
            cases p with
            | nil => exact e3
            | cons k p =>
              subst e'
              have hb : b2 = true := by
                cases b2 with
                | true => rfl
                | false => exact (hn ⟨rfl, rfl⟩).elim
              exact e3.ext (hb2 hb)

/-! ### what stands at the results -/
def RL (M : Mn) (F H : Hp) : List D → List V → Prop
  | [], vs => vs = []
  | d :: ds, vs => ∃ v ws S, vs = v :: ws ∧ RO M F H d v S ∧ RL M F H ds ws
def fetchs (env : List D) : List Rv → Option (List D)
  | [] => some []
  | r :: rs => (fetch env r).bind fun d => (fetchs env rs).bind fun ds => some (d :: ds)
theorem rl_of {Se St : AS} (en : EnvR M F H env σ Se) : ∀ {rs : List Rv} {vs : List V} {St : AS} {ds : List D}, ROs M F H (rs.map Rv.hold) vs St →
    (∀ (j i : Nat) (p : List Nat), rs[j]? = some (.pth i p) → ∃ u v, σ[i]? = some (some u) ∧ vs[j]? = some v ∧ PV H u p v) → fetchs env rs = some ds → RL M F H ds vs
  | [], vs, St, ds, h, _, e => by
    simp only [List.map, ROs] at h
    obtain ⟨rfl, _⟩ := h
    cases e
    rfl
  | r :: rs, vs, St, ds, h, hp, e => by
    simp only [List.map, ROs] at h
    obtain ⟨v, ws, T1, T2, rfl, r1, r2, dd, rfl⟩ := h
    unfold fetchs at e
    cases q : fetch env r with
    | none => rw [q] at e; cases e
    | some d =>
      rw [q] at e
      cases q2 : fetchs env rs with
      | none => rw [q2] at e; cases e
      | some ds' =>
        rw [q2] at e
        cases e
        have tail := rl_of (Se := Se) (St := St) en r2 (fun j i p hj => by simpa using hp (j + 1) i p (by simpa using hj)) q2
        cases r with
        | tmp d0 =>
          simp only [fetch] at q
          split at q
          · cases q
            exact ⟨v, ws, T1, rfl, r1, tail⟩
          · cases q
        | pth i p =>
          simp only [fetch] at q
          cases g : getE env i p with
          | none => rw [g] at q; cases q
          | some e =>
            rw [g] at q
            have q' : (if (own e || (p.isEmpty && isSet e)) = true then some e else none) = some d := q
            split at q'
            · rename_i ho
              cases q'
              obtain ⟨u, v', e1, e2, e3⟩ := hp 0 i p (by simp)
              have e2' : v = v' := by simpa using e2
              subst e2'
              obtain ⟨u', w, S1, S2, f1, f2, f3, f4, f5, f6⟩ := en.path g (fet_isSet ho)
              rw [e1] at f1
              cases f1
              have := e3.inj f2
              subst this
              exact ⟨v, ws, S1, rfl, f3, tail⟩
            · cases q'

/-- a new value: what it is made of is new, or frozen -/
structure NewR (M : Mn) (F H F' H' : Hp) (z : D) (v : V) (S : AS) : Prop where
  ext : Ext F F'
  keep : Ext H H'
  ro : RO M F' H' z v S
  fresh : ∀ a, S a → H a = none
  fr : ∀ a, S a → F' a = none
  new : ∀ a u, F' a = some u → F a = some u ∨ H a = none
  fh : FH F' H'
theorem NewR.same {z : D} {v : V} (f : FH F H) (r : RO M F H z v em) : NewR M F H F H z v em := ⟨Ext.refl F, Ext.refl H, r, fun _ h => h.elim, fun _ h => h.elim, fun _ _ h => .inl h, f⟩
def RN (M : Mn) (r : List V → Hp → (V → Hp → Prop) → Prop) (opd : List D → Option D) : Prop :=
  ∀ F H ds vs z Q, FH F H → RL M F H ds vs → opd ds = some z → (∀ v F' H' S', NewR M F H F' H' z v S' → Q v H') → r vs H Q
def opN (opd : List D → Option D) (fs : List D → R (List Rv)) : List D → R Rv := fun env => (fs env).bind fun rs env1 => match (fetchs env1 rs).bind opd with
  | some z => .ok (.tmp z) env1
  | none => .stuck
/-- the end of a pure operation -/
theorem NewR.post {Se St S' : AS} {z : D} {v : V} (A : At M F H env σ S F1 H1 env1 Se St) (n : NewR M F1 H1 F' H' z v S') :
    Step F H S F' H' (un Se S') ∧ Stt M F' H' (un Se S') ∧ ResR M F' H' env1 σ [.tmp z] [v] (un Se S') := by
  have kk : ∀ a, Se a → H' a = H1 a := fun a ha => by
    obtain ⟨o, e⟩ := A.stt.al1 a (.inl ha)
    rw [e]
    exact n.keep a o e
  have dd : dj Se S' := fun a h1 h2 => by
    obtain ⟨o, e⟩ := A.stt.al1 a (.inl h1)
    rw [n.fresh a h2] at e
    cases e
  refine ⟨A.step.trans (Step.mk0 n.ext (fun a o e _ => n.keep a o e) (fun a h => ?_) fun a u e => (n.new a u e).imp id .inr), ⟨n.fh, fun a h => ?_, fun a h => ?_, A.stt.tabsE n.keep, A.stt.ftN fun a u e => (n.new a u e).imp id .inr⟩, ResR.one_tmp (A.env.mono n.ext kk) n.ro dd⟩
  · rcases h with h | h
    · exact .inl (.inl h)
    · exact .inr (n.fresh a h)
  · rcases h with h | h
    · cases q : F' a with
      | none => rfl
      | some u =>
        exfalso
        rcases n.new a u q with z | z
        · rw [A.stt.fr a (.inl h)] at z; cases z
        · obtain ⟨o, e⟩ := A.stt.al1 a (.inl h)
          rw [z] at e; cases e
    · exact n.fr a h
  · rcases h with h | h
    · rw [kk a h]
      exact A.stt.al a (.inl h)
    · exact n.ro.alive z a h
theorem se_n {ta : TA} {fs : List D → R (List Rv)} {r : List V → Hp → (V → Hp → Prop) → Prop} {opd : List D → Option D} (h1 : SA M W b ta fs) (hr : RN M r opd) :
    SE M W b (fun σ H Q => ta σ H fun vs H1 => r vs H1 Q) (opN opd fs) := by
  intro F H env σ S Q st en h
  refine h1 F H env σ S _ st en ?_
  unfold opN at h
  cases hf : fs env with
  | stuck => rw [hf] at h; exact h
  | err c d env1 => rw [hf] at h; exact h
  | ok rs env1 =>
    rw [hf] at h
    intro vs F1 H1 S1 s1 st1 hb1 res1
    obtain ⟨Se, St, en1, ro1, d1, rfl, pth1⟩ := res1
    have A : At M F H env σ S F1 H1 env1 Se St := ⟨s1, st1, en1, d1⟩
    have h : Post M W b F H σ S Q (match (fetchs env1 rs).bind opd with | some z => .ok (.tmp z) env1 | none => .stuck) := h
    cases q : fetchs env1 rs with
    | none => rw [q] at h; exact h.elim
    | some ds =>
      rw [q] at h
      have h : Post M W b F H σ S Q (match opd ds with | some z => .ok (.tmp z) env1 | none => .stuck) := h
      cases q2 : opd ds with
      | none => rw [q2] at h; exact h.elim
      | some z =>
        rw [q2] at h
        refine hr F1 H1 ds vs z Q st1.fh (rl_of (Se := Se) (St := St) en1 ro1 pth1 q) q2 fun v F2 H2 S2 n => ?_
        obtain ⟨g1, g2, g3⟩ := n.post A
        exact h v F2 H2 _ g1 g2 (fun hb => (hb1 hb).trans n.keep) g3

/-! ### names, constants -/
def varF (i : Nat) : List D → R Rv := fun env => match env[i]? with
  | some d => if isFz d = true then .ok (.tmp d) env else if own d = true then .ok (.pth i []) env else .stuck
  | none => .stuck
theorem se_var (i : Nat) : SE M W true (tVar i) (varF i) := by
  intro F H env σ S Q st en h
  unfold varF at h
  cases q : env[i]? with
  | none => rw [q] at h; exact h.elim
  | some d =>
    rw [q] at h
    have h : Post M W true F H σ S Q (if isFz d = true then .ok (.tmp d) env else if own d = true then .ok (.pth i []) env else .stuck) := h
    split at h
    · rename_i hf
      have hs : isSet d = true := by cases d <;> first | rfl | cases hf
      obtain ⟨v, w, S1, S2, e1, e2, e3, e4, rfl, _⟩ := en.path (i := i) (p := []) (e := d) (by unfold getE; rw [q]; rfl) hs
      have : w = v := e2
      subst this
      have := e3.fz_em hf
      subst this
      refine ⟨w, e1, h w F H _ Step.refl st (fun _ => Ext.refl H) ?_⟩
      have r := ResR.one_tmp en e3 en.dj_emp
      rw [un_em] at r
      exact r
    · split at h
      · rename_i ho
        obtain ⟨v, w, S1, S2, e1, e2, e3, e4, e5, _⟩ := en.path (i := i) (p := []) (e := d) (by unfold getE; rw [q]; rfl) (own_isSet ho)
        have : w = v := e2
        subst this
        refine ⟨w, e1, h w F H _ Step.refl st (fun _ => Ext.refl H) ?_⟩
        refine ⟨S, em, en, by simp only [List.map, Rv.hold, ROs, RO]; exact ⟨w, [], em, em, rfl, rfl, ⟨rfl, rfl⟩, fun _ h _ => h.elim, un_em'⟩, en.dj_emp, un_em', fun j i' p e => ?_⟩
        cases j with
        | zero =>
          simp only [List.getElem?_cons_zero, Option.some.injEq, Rv.pth.injEq] at e
          obtain ⟨rfl, rfl⟩ := e
          exact ⟨w, w, e1, rfl, rfl⟩
        | succ j => simp at e
      · exact h.elim
theorem se_c {v : V} {d : D} (hr : ∀ F H, RO M F H d v em) : SE M W true (tC v) (tmpd d) := by
  intro F H env σ S Q st en h
  refine h v F H _ Step.refl st (fun _ => Ext.refl H) ?_
  have r := ResR.one_tmp en (hr F H) en.dj_emp
  rw [un_em] at r
  exact r
theorem se_int {i : Int} : SE M W true (tC (.int i)) (tmpd (.int i)) := se_c fun F H => by simp [RO]
theorem se_bl {k : Bool} : SE M W true (tC (.bl k)) (tmpd (.bl k)) := se_c fun F H => by simp [RO]
theorem se_non : SE M W true (tC .non) (tmpd .non) := se_c fun F H => by simp [RO]
theorem se_str {x : Str} (l : List Nat) (hl : x = ⟨l.toArray⟩ := by rfl) : SE M W true (tC (.str x)) (tmpd (.str l)) := se_c fun F H => by simp [RO, hl]

/-! ### tests -/
def testF (f : List D → R Rv) : List D → R Bool := fun env => (f env).bind fun r env1 => match r with
  | .tmp (.bl k) => .ok k env1
  | _ => .stuck
theorem Post.test {te : TE} {f : List D → R Rv} (h : SE M W b te f) : ST M W b (tTest te) (testF f) := by
  intro F H env σ S Q st en h1
  refine h F H env σ S _ st en ?_
  unfold testF at h1
  cases hf : f env with
  | stuck => rw [hf] at h1; exact h1
  | err c d env1 => rw [hf] at h1; exact h1
  | ok r env1 =>
    rw [hf] at h1
    intro v F1 H1 S1 s1 st1 hb1 res1
    cases r with
    | pth i p => exact h1.elim
    | tmp d =>
      cases d with
      | bl k =>
        obtain ⟨Se, St, en1, ro1, d1, rfl, pth1⟩ := res1
        simp only [List.map, Rv.hold, ROs, RO] at ro1
        obtain ⟨v', ws, T1, T2, e, ⟨rfl, rfl⟩, ⟨rfl, rfl⟩, dd, rfl⟩ := ro1
        cases e
        refine ⟨k, rfl, ?_⟩
        exact h1 F1 H1 Se (s1.drop fun _ z => .inl z) (st1.sub fun _ z => .inl z) hb1 en1
      | _ => exact h1.elim
theorem st_test {te : TE} {f : List D → R Rv} (h : SE M W b te f) : ST M W b (tTest te) (testF f) := Post.test h
theorem st_B {te : TE} {f : List D → R Rv} (h : SE M W b te f) : ST M W b (tB te) (testF f) := Post.test h
def andF (f g : List D → R Bool) : List D → R Bool := fun env => (f env).bind fun k env1 => if k = true then g env1 else .ok false env1
def orF (f g : List D → R Bool) : List D → R Bool := fun env => (f env).bind fun k env1 => if k = true then .ok true env1 else g env1
def notF (f : List D → R Bool) : List D → R Bool := fun env => (f env).bind fun k env1 => .ok (!k) env1
/-- a test, then what hangs on it -/
theorem ST.then_ {α : Type} {tt : TT} {f : List D → R Bool} (h : ST M W b tt f) (st : Stt M F H S) (en : EnvR M F H env σ S) {Q : Bool → Hp → Prop}
    (hk : ∀ k env1, f env = .ok k env1 → ∀ F1 H1 S1, Step F H S F1 H1 S1 → Stt M F1 H1 S1 → (b = true → Ext H H1) → EnvR M F1 H1 env1 σ S1 → Q k H1)
    (he : ∀ c d env1, f env = .err c d env1 → ∀ F1 H1 S1 cls dx, Step F H S F1 H1 S1 → Stt M F1 H1 S1 → ErrR M F1 H1 c d cls dx → EnvR M F1 H1 env1 σ S1 → W cls dx σ H1)
    (hs : f env ≠ .stuck) : tt σ H Q := by
  refine h F H env σ S Q st en ?_
  cases hf : f env with
  | stuck => exact (hs hf).elim
  | err c d env1 => exact fun F1 H1 S1 cls dx a b c' d' => he c d env1 hf F1 H1 S1 cls dx a b c' d'
  | ok k env1 => exact fun F1 H1 S1 a b c d => hk k env1 hf F1 H1 S1 a b c d
theorem st_and {t u : TT} {f g : List D → R Bool} (h1 : ST M W b1 t f) (h2 : ST M W b2 u g) : ST M W (b1 && b2) (tAnd t u) (andF f g) := by
  intro F H env σ S Q st en h
  unfold andF at h
  refine h1 F H env σ S _ st en ?_
  cases hf : f env with
  | stuck => rw [hf] at h; exact h
  | err c d env1 => rw [hf] at h; exact h
  | ok k env1 =>
    rw [hf] at h
    intro F1 H1 S1 s1 st1 hb1 en1
    cases k with
    | false =>
      refine iteF ?_
      exact h F1 H1 S1 s1 st1 (fun hb => hb1 (Bool.and_eq_true_iff.mp hb).1) en1
    | true =>
      refine iteT ?_
      have h : PostT M W (b1 && b2) F H σ S Q (g env1) := h
      refine h2 F1 H1 env1 σ S1 Q st1 en1 ?_
      cases hg : g env1 with
      | stuck => rw [hg] at h; exact h
      | err c d env2 => rw [hg] at h; exact fun F2 H2 S2 cls dx s2 st2 er en2 => h F2 H2 S2 cls dx (s1.trans s2) st2 er en2
      | ok k2 env2 =>
        rw [hg] at h
        exact fun F2 H2 S2 s2 st2 hb2 en2 => h F2 H2 S2 (s1.trans s2) st2 (fun hb => by
          obtain ⟨x, y⟩ := Bool.and_eq_true_iff.mp hb
          exact (hb1 x).trans (hb2 y)) en2
theorem st_or {t u : TT} {f g : List D → R Bool} (h1 : ST M W b1 t f) (h2 : ST M W b2 u g) : ST M W (b1 && b2) (tOr t u) (orF f g) := by
  intro F H env σ S Q st en h
  unfold orF at h
  refine h1 F H env σ S _ st en ?_
  cases hf : f env with
  | stuck => rw [hf] at h; exact h
  | err c d env1 => rw [hf] at h; exact h
  | ok k env1 =>
    rw [hf] at h
    intro F1 H1 S1 s1 st1 hb1 en1
    cases k with
    | true =>
      refine iteT ?_
      exact h F1 H1 S1 s1 st1 (fun hb => hb1 (Bool.and_eq_true_iff.mp hb).1) en1
    | false =>
      refine iteF ?_
      have h : PostT M W (b1 && b2) F H σ S Q (g env1) := h
      refine h2 F1 H1 env1 σ S1 Q st1 en1 ?_
      cases hg : g env1 with
      | stuck => rw [hg] at h; exact h
      | err c d env2 => rw [hg] at h; exact fun F2 H2 S2 cls dx s2 st2 er en2 => h F2 H2 S2 cls dx (s1.trans s2) st2 er en2
      | ok k2 env2 =>
        rw [hg] at h
        exact fun F2 H2 S2 s2 st2 hb2 en2 => h F2 H2 S2 (s1.trans s2) st2 (fun hb => by
          obtain ⟨x, y⟩ := Bool.and_eq_true_iff.mp hb
          exact (hb1 x).trans (hb2 y)) en2
theorem st_not {t : TT} {f : List D → R Bool} (h1 : ST M W b t f) : ST M W b (tNot t) (notF f) := by
  intro F H env σ S Q st en h
  unfold notF at h
  refine h1 F H env σ S _ st en ?_
  cases hf : f env with
  | stuck => rw [hf] at h; exact h
  | err c d env1 => rw [hf] at h; exact h
  | ok k env1 => rw [hf] at h; exact fun F1 H1 S1 s1 st1 hb1 en1 => h F1 H1 S1 s1 st1 hb1 en1
end
end VS
/-! VSStm: escape, statements, loops. -/
namespace VS
open PySem L2

inductive SR where
  | nx (env : List D) | ret (d : D) (env : List D) | brk (env : List D) | ct (env : List D) | err (c : Str) (d : D) (env : List D) | stuck
/-- slots that aren't stored -/
def Pr (pr : Nat → Bool) (σ σ' : L2.St) : Prop := σ'.length = σ.length ∧ ∀ i, pr i = true → σ'[i]? = σ[i]?
theorem Pr.refl {pr : Nat → Bool} {σ : L2.St} : Pr pr σ σ := ⟨rfl, fun _ _ => rfl⟩
theorem Pr.trans {pr : Nat → Bool} {σ σ1 σ2 : L2.St} (a : Pr pr σ σ1) (b : Pr pr σ1 σ2) : Pr pr σ σ2 := ⟨b.1.trans a.1, fun i h => (b.2 i h).trans (a.2 i h)⟩
def PostS (M : Mn) (W : WD) (pr : Nat → Bool) (F H : Hp) (σ : L2.St) (S : AS) (D : Ends) : SR → Prop
  | .nx env' => ∀ σ' F' H' S', Step F H S F' H' S' → Stt M F' H' S' → EnvR M F' H' env' σ' S' → Pr pr σ σ' → D.nx σ' H'
  | .brk env' => ∀ σ' F' H' S', Step F H S F' H' S' → Stt M F' H' S' → EnvR M F' H' env' σ' S' → Pr pr σ σ' → D.bk σ' H'
  | .ct env' => ∀ σ' F' H' S', Step F H S F' H' S' → Stt M F' H' S' → EnvR M F' H' env' σ' S' → Pr pr σ σ' → D.ct σ' H'
  | .ret d env' => ∀ v σ' F' H' S', Step F H S F' H' S' → Stt M F' H' S' → ResR M F' H' env' σ' [.tmp d] [v] S' → Pr pr σ σ' → D.rt v H'
  | .err c d env' => ∀ σ' F' H' S' cls dx, Step F H S F' H' S' → Stt M F' H' S' → ErrR M F' H' c d cls dx → EnvR M F' H' env' σ' S' → Pr pr σ σ' → W cls dx σ' H'
  | .stuck => False
def SS (M : Mn) (W : WD) (pr : Nat → Bool) (ts : TS) (f : List D → SR) : Prop :=
  ∀ D F H env σ S, Stt M F H S → EnvR M F H env σ S → PostS M W pr F H σ S D (f env) → ts D σ H
/-- the next statement -/
def SR.seq (x : SR) (k : List D → SR) : SR := match x with
  | .nx env => k env
  | y => y
/-- an expression, then .. -/
def SR.of {α : Type} (x : R α) (k : α → List D → SR) : SR := match x with
  | .ok a env => k a env
  | .err c d env => .err c d env
  | .stuck => .stuck

section
variable {M : Mn} {W : WD} {b b1 b2 : Bool} {F H F' H' F1 H1 : Hp} {env env' env1 : List D} {σ : L2.St} {S S' S1 T : AS} {pr : Nat → Bool} {D : Ends}
/-- .. from a state behind -/
theorem PostS.behind {σ1 : L2.St} {x : SR} (h : PostS M W pr F H σ S D x) (s : Step F H S F1 H1 S1) (p : Pr pr σ σ1) : PostS M W pr F1 H1 σ1 S1 D x := by
  cases x with
  | nx e => exact fun σ' F' H' S' a b c d => h σ' F' H' S' (s.trans a) b c (p.trans d)
  | brk e => exact fun σ' F' H' S' a b c d => h σ' F' H' S' (s.trans a) b c (p.trans d)
  | ct e => exact fun σ' F' H' S' a b c d => h σ' F' H' S' (s.trans a) b c (p.trans d)
  | ret d e => exact fun v σ' F' H' S' a b c d => h v σ' F' H' S' (s.trans a) b c (p.trans d)
  | err c d e => exact fun σ' F' H' S' cls dx a b c d e => h σ' F' H' S' cls dx (s.trans a) b c d (p.trans e)
  | stuck => exact h
theorem PostS.weak {pr' : Nat → Bool} {x : SR} (h : PostS M W pr F H σ S D x) (hp : ∀ i, pr i = true → pr' i = true) : PostS M W pr' F H σ S D x := by
  have w : ∀ {σ'}, Pr pr' σ σ' → Pr pr σ σ' := fun q => ⟨q.1, fun i hi => q.2 i (hp i hi)⟩
  cases x with
  | nx e => exact fun σ' F' H' S' a b c d => h σ' F' H' S' a b c (w d)
  | brk e => exact fun σ' F' H' S' a b c d => h σ' F' H' S' a b c (w d)
  | ct e => exact fun σ' F' H' S' a b c d => h σ' F' H' S' a b c (w d)
  | ret d e => exact fun v σ' F' H' S' a b c d => h v σ' F' H' S' a b c (w d)
  | err c d e => exact fun σ' F' H' S' cls dx a b c d e => h σ' F' H' S' cls dx a b c d (w e)
  | stuck => exact h
theorem SS.weak {pr' : Nat → Bool} {ts : TS} {f : List VS.D → SR} (h : SS M W pr' ts f) (hp : ∀ i, pr i = true → pr' i = true) : SS M W pr ts f :=
  fun D F H env σ S st en q => h D F H env σ S st en (q.weak hp)

/-! ### escape: what is kept elsewhere is frozen, a new thing moves -/
def escs : List Rv → List VS.D → Option (List VS.D × List VS.D)
  | [], env => some ([], env)
  | .tmp d :: rs, env => if isSet d = true then (escs rs env).map fun q => (d :: q.1, q.2) else none
  | .pth i p :: rs, env => match getE env i p with
    | some e => if own e = true then (escs rs (setE env i p (fz e))).map fun q => (fz e :: q.1, q.2) else none
    | none => none
theorem isSet_fz {d : VS.D} : isSet (fz d) = isSet d := by cases d <;> rfl
theorem list_take_drop {α : Type} : ∀ {l : List α} {j : Nat} {x : α}, l[j]? = some x → l = l.take j ++ x :: l.drop (j + 1)
  | [], j, x, h => by simp at h
  | a :: l, 0, x, h => by simp at h; simp [h]
  | a :: l, j + 1, x, h => by simp at h; simp [← list_take_drop h]
/-- one path among the results is frozen -/
theorem ResR.freeze {rs : List Rv} {vs : List V} (h : ResR M F H env σ rs vs S) (st : Stt M F H S) {j i : Nat} {p : List Nat} (hj : rs[j]? = some (.pth i p)) {e : VS.D} (g : getE env i p = some e) (ho : own e = true) :
    ∃ F' S', Step F H S F' H S' ∧ Stt M F' H S' ∧ ResR M F' H (setE env i p (fz e)) σ (rs.set j (.tmp (fz e))) vs S' := by
  obtain ⟨Se, St, en, ro, d1, rfl, hp⟩ := h
  obtain ⟨u, v, e1, e2, e3⟩ := hp j i p hj
  obtain ⟨u', w, S1, S2, f1, f2, f3, f4, rfl, k⟩ := en.path g (own_isSet ho)
  rw [e1] at f1; cases f1
  have := e3.inj f2
  subst this
  -- F' : F and what S1 has
  have hdec : ∀ a, S1 a ∨ ¬ S1 a := fun a => Classical.em _
  let F' : Hp := fun a => if F a = none then (open Classical in if S1 a then H a else none) else F a
  have eF : Ext F F' := fun a u h => by
    show (if F a = none then _ else F a) = _
    rw [if_neg (by rw [h]; exact fun z => nomatch z)]
    exact h
  have fS : ∀ a, S1 a → F' a = H a := fun a ha => by
    show (if F a = none then _ else F a) = _
    rw [if_pos (st.fr a (.inl (.inl ha))), if_pos ha]
  have fN : ∀ a u, F' a = some u → F a = some u ∨ (S1 a ∧ H a = some u) := fun a u h => by
    cases q : F a with
    | some x => rw [eF a x q] at h; exact .inl h
    | none =>
      right
      have h' : (if F a = none then (open Classical in if S1 a then H a else none) else F a) = some u := h
      rw [if_pos q] at h'
      by_cases hs : S1 a
      · rw [if_pos hs] at h'; exact ⟨hs, h'⟩
      · rw [if_neg hs] at h'; cases h'
  have rz : RO M F' H (fz e) v em := f3.freeze e eF fS
  obtain ⟨en', _⟩ := k F' H (fz e) em eF (fun _ _ => rfl) rz (fun _ h => h.elim)
  rw [em_un] at en'
  refine ⟨F', un S2 St, Step.mk0 eF (fun _ _ h _ => h) (fun a h => .inl ?_) (fun a u h => ?_), ⟨fun a u h => ?_, fun a h => ?_, fun a h => ?_, st.tb, st.ftN fun a u h => (fN a u h).imp id fun z => .inl (.inl (.inl z.1))⟩, S2, St, en', ?_, fun a h1 h2 => d1 a (.inr h1) h2, rfl, fun j' i' p' hj' => ?_⟩
  · rcases h with h | h
    · exact .inl (.inr h)
    · exact .inr h
  · rcases fN a u h with h | ⟨h, _⟩
    · exact .inl h
    · exact .inr (.inl (.inl (.inl h)))
  · rcases fN a u h with h | ⟨_, h⟩
    · exact st.fh a u h
    · exact .inl h
  · cases q : F' a with
    | none => rfl
    | some u =>
      exfalso
      rcases fN a u q with z | ⟨z, _⟩
      · have : F a = none := by
          rcases h with h | h
          · exact st.fr a (.inl (.inr h))
          · exact st.fr a (.inr h)
        rw [this] at z; cases z
      · rcases h with h | h
        · exact f4 a z h
        · exact d1 a (.inl z) h
  · rcases h with h | h
    · exact st.al a (.inl (.inr h))
    · exact st.al a (.inr h)
  · have ro' := ro.mono _ eF (fun _ _ => rfl) (H' := H)
    have hjm : (rs.map Rv.hold)[j]? = some .unset := by rw [List.getElem?_map, hj]; rfl
    obtain ⟨v', T1, T2, g1, g2, g3, rfl, g5⟩ := ro'.focus j hjm
    rw [e2] at g1; cases g1
    have g2' : T1 = em := by simpa only [RO] using g2
    subst g2'
    have r2 := g5 F' H (fz e) v em (Ext.refl F') (fun _ _ => rfl) rz (fun _ h => h.elim)
    rw [list_set_self e2] at r2
    rw [List.map_set]
    exact r2
  · by_cases hjj : j = j'
    · subst hjj
      rw [List.getElem?_set_self (List.getElem?_eq_some_iff.mp hj).1] at hj'
      cases hj'
    · rw [List.getElem?_set_ne hjj] at hj'
      exact hp j' i' p' hj'
theorem escs_ok : ∀ {rs : List Rv} {ts : List VS.D} {env : List VS.D} {ds env' : List VS.D} {F : Hp} {S : AS} {vs : List V}, escs rs env = some (ds, env') → Stt M F H S → ResR M F H env σ (ts.map Rv.tmp ++ rs) vs S →
    ∃ F' S', Step F H S F' H S' ∧ Stt M F' H S' ∧ ResR M F' H env' σ ((ts ++ ds).map Rv.tmp) vs S'
  | [], ts, env, ds, env', F, S, vs, h, st, r => by
    unfold escs at h
    cases h
    exact ⟨F, S, Step.refl, st, by simpa using r⟩
  | .tmp d :: rs, ts, env, ds, env', F, S, vs, h, st, r => by
    unfold escs at h
    split at h
    · cases q : escs rs env with
      | none => rw [q] at h; cases h
      | some x =>
        rw [q] at h
        cases h
        have := escs_ok (rs := rs) (ts := ts ++ [d]) q st (by simpa using r)
        simpa using this
    · cases h
  | .pth i p :: rs, ts, env, ds, env', F, S, vs, h, st, r => by
    unfold escs at h
    cases g : getE env i p with
    | none => rw [g] at h; cases h
    | some e =>
      rw [g] at h
      have h : (if own e = true then (escs rs (setE env i p (fz e))).map fun q => (fz e :: q.1, q.2) else none) = some (ds, env') := h
      split at h
      · rename_i ho
        cases q : escs rs (setE env i p (fz e)) with
        | none => rw [q] at h; cases h
        | some x =>
          rw [q] at h
          cases h
          obtain ⟨F1, S1, s1, st1, r1⟩ := r.freeze st (j := ts.length) (by rw [List.getElem?_append_right (by simp)]; simp) g ho
          have e1 : (ts.map Rv.tmp ++ Rv.pth i p :: rs).set ts.length (Rv.tmp (fz e)) = (ts ++ [fz e]).map Rv.tmp ++ rs := by
            rw [List.set_append_right _ _ (by simp)]
            simp
          rw [e1] at r1
          obtain ⟨F2, S2, s2, st2, r2⟩ := escs_ok (rs := rs) (ts := ts ++ [fz e]) q st1 r1
          exact ⟨F2, S2, s1.trans s2, st2, by simpa using r2⟩
      · cases h
def esc1 (r : Rv) (env : List VS.D) : Option (VS.D × List VS.D) := match r with
  | .tmp d => if isSet d = true then some (d, env) else none
  | .pth i p => match getE env i p with
    | some e => if own e = true then some (fz e, setE env i p (fz e)) else none
    | none => none
theorem esc1_escs {r : Rv} {env env' : List VS.D} {d : VS.D} (h : esc1 r env = some (d, env')) : escs [r] env = some ([d], env') := by
  cases r with
  | tmp d0 =>
    unfold esc1 at h
    unfold escs
    have h : (if isSet d0 = true then some (d0, env) else none) = some (d, env') := h
    split at h
    · rename_i hs
      rw [if_pos hs]
      cases h
      rfl
    · cases h
  | pth i p =>
    unfold esc1 at h
    unfold escs
    cases g : getE env i p with
    | none => simp only [g] at h; cases h
    | some e =>
      simp only [g] at h ⊢
      split at h
      · rename_i ho
        rw [if_pos ho]
        cases h
        rfl
      · cases h
theorem esc1_set {r : Rv} {env env' : List VS.D} {d : VS.D} (h : esc1 r env = some (d, env')) : isSet d = true := by
  cases r with
  | tmp d0 =>
    have h : (if isSet d0 = true then some (d0, env) else none) = some (d, env') := h
    split at h
    · rename_i hs; cases h; exact hs
    · cases h
  | pth i p =>
    unfold esc1 at h
    cases g : getE env i p with
    | none => simp only [g] at h; cases h
    | some e =>
      simp only [g] at h
      split at h
      · rename_i ho
        cases h
        rw [isSet_fz]
        exact own_isSet ho
      · cases h
theorem esc1_ok {r : Rv} {d : VS.D} {v : V} (h : esc1 r env = some (d, env')) (st : Stt M F H S) (rr : ResR M F H env σ [r] [v] S) :
    ∃ F' S', Step F H S F' H S' ∧ Stt M F' H S' ∧ ResR M F' H env' σ [.tmp d] [v] S' := by
  have := escs_ok (ts := []) (esc1_escs h) st (by simpa using rr)
  simpa using this

/-! ### statements -/
def nextS : List VS.D → SR := fun env => .nx env
theorem ss_next : SS M W pr tNext nextS := fun D F H env σ S st en h => h σ F H S Step.refl st en Pr.refl
def seqS (f g : List VS.D → SR) : List VS.D → SR := fun env => (f env).seq g
theorem ss_seq {t u : TS} {f g : List VS.D → SR} (h1 : SS M W pr t f) (h2 : SS M W pr u g) : SS M W pr (tSeq t u) (seqS f g) := by
  intro D F H env σ S st en h
  refine h1 _ F H env σ S st en ?_
  unfold seqS at h
  cases hf : f env with
  | nx e =>
    rw [hf] at h
    have h : PostS M W pr F H σ S D (g e) := h
    intro σ' F' H' S' s st' en' p
    exact h2 D F' H' e σ' S' st' en' (h.behind s p)
  | brk e => rw [hf] at h; exact h
  | ct e => rw [hf] at h; exact h
  | ret d e => rw [hf] at h; exact h
  | err c d e => rw [hf] at h; exact h
  | stuck => rw [hf] at h; exact h
def brkS : List VS.D → SR := fun env => .brk env
def ctS : List VS.D → SR := fun env => .ct env
theorem ss_brk : SS M W pr tBreak brkS := fun D F H env σ S st en h => h σ F H S Step.refl st en Pr.refl
theorem ss_ct : SS M W pr tCont ctS := fun D F H env σ S st en h => h σ F H S Step.refl st en Pr.refl
/-! ### targets -/
def SG (M : Mn) (pr : Nat → Bool) (g : TG) (gf : VS.D → List VS.D → Option (List VS.D)) : Prop :=
  ∀ F H env σ S d v S' (Q : L2.St → Hp → Prop), FH F H → EnvR M F H env σ S → RO M F H d v S' → dj S S' → isSet d = true →
    (match gf d env with
      | some env1 => ∀ σ1 S1, EnvR M F H env1 σ1 S1 → (∀ a, S1 a → S a ∨ S' a) → Pr pr σ σ1 → Q σ1 H
      | none => False) → g v σ H Q
def nameG (i : Nat) : VS.D → List VS.D → Option (List VS.D) := fun d env => match env[i]? with
  | some _ => some (env.set i d)
  | none => none
theorem Pr.set {i : Nat} {v : Option V} (h : pr i = false) : Pr pr σ (σ.set i v) := ⟨by simp, fun j hj => by
  have : i ≠ j := fun e => by subst e; rw [h] at hj; cases hj
  rw [List.getElem?_set_ne this]⟩
theorem sg_name (i : Nat) (hp : pr i = false := by rfl) : SG M pr (gName i) (nameG i) := by
  intro F H env σ S d v S' Q fh en ro dd hs h
  unfold nameG at h
  cases q : env[i]? with
  | none => rw [q] at h; exact h.elim
  | some d0 =>
    rw [q] at h
    obtain ⟨T, e1, e2, e3⟩ := en.put q ro dd
    exact h _ _ e1 (fun a ha => ha.elim .inr fun z => .inl (e3 a z)) (Pr.set hp)
def nilG : List VS.D → List VS.D → Option (List VS.D) := fun ds env => match ds with
  | [] => some env
  | _ => none
def consG (g : VS.D → List VS.D → Option (List VS.D)) (gs : List VS.D → List VS.D → Option (List VS.D)) : List VS.D → List VS.D → Option (List VS.D) := fun ds env => match ds with
  | d :: ds => if isSet d = true then (g d env).bind fun env1 => gs ds env1 else none
  | [] => none
def SGs (M : Mn) (pr : Nat → Bool) (g : TGs) (gf : List VS.D → List VS.D → Option (List VS.D)) : Prop :=
  ∀ F H env σ S ds vs S' (Q : L2.St → Hp → Prop), FH F H → EnvR M F H env σ S → ROs M F H ds vs S' → dj S S' →
    (match gf ds env with
      | some env1 => ∀ σ1 S1, EnvR M F H env1 σ1 S1 → (∀ a, S1 a → S a ∨ S' a) → Pr pr σ σ1 → Q σ1 H
      | none => False) → g vs σ H Q
theorem sgs_nil : SGs M pr gNil nilG := by
  intro F H env σ S ds vs S' Q fh en ro dd h
  cases ds with
  | nil =>
    simp only [ROs] at ro
    obtain ⟨rfl, rfl⟩ := ro
    exact ⟨rfl, h σ S en (fun a h => .inl h) Pr.refl⟩
  | cons d ds => exact h.elim
theorem sgs_cons {g : TG} {gs : TGs} {gf : VS.D → List VS.D → Option (List VS.D)} {gfs : List VS.D → List VS.D → Option (List VS.D)} (h1 : SG M pr g gf) (h2 : SGs M pr gs gfs) : SGs M pr (gCons g gs) (consG gf gfs) := by
  intro F H env σ S ds vs S' Q fh en ro dd h
  cases ds with
  | nil => exact h.elim
  | cons d ds =>
    simp only [ROs] at ro
    obtain ⟨v, ws, S1, S2, rfl, r1, r2, d12, rfl⟩ := ro
    refine ⟨v, ws, rfl, ?_⟩
    simp only [consG] at h
    split at h
    · rename_i env1 hh
      split at hh
      · rename_i hs
        cases q : gf d env with
        | none => rw [q] at hh; cases hh
        | some env2 =>
          rw [q] at hh
          refine h1 F H env σ S d v S1 _ fh en r1 (fun a x y => dd a x (.inl y)) hs ?_
          rw [q]
          intro σ1 T1 en1 o1 p1
          refine h2 F H env2 σ1 T1 ds ws S2 Q fh en1 r2 (fun a x y => ?_) ?_
          · rcases o1 a x with z | z
            · exact dd a z (.inr y)
            · exact d12 a z y
          · have hh' : gfs ds env2 = some env1 := hh
            rw [hh']
            intro σ2 T2 en2 o2 p2
            refine h σ2 T2 en2 (fun a z => ?_) (p1.trans p2)
            rcases o2 a z with z | z
            · rcases o1 a z with z | z
              · exact .inl z
              · exact .inr (.inl z)
            · exact .inr (.inr z)
      · cases hh
    · exact h.elim
/-- (a, b, ..): a tuple of that length -/
def tupG (gs : List VS.D → List VS.D → Option (List VS.D)) : VS.D → List VS.D → Option (List VS.D) := fun d env => match d with
  | .tup _ xs => gs xs env
  | _ => none
theorem rd_tupH {a : Addr} {vs : List V} (f : FH F H) (h : F a = some (.tup vs)) : H a = some (.tup vs) := by
  rcases f a _ h with z | ⟨z, _⟩
  · exact z
  · exact z.elim
theorem rd_tup {a : Addr} {vs : List V} (f : FH F H) (h : F a = some (.tup vs)) : SqT M.K H a vs := SqT.of (rd_tupH f h)
theorem rd_lstH {a : Addr} {vs : List V} (f : FH F H) (h : F a = some (.lst vs)) : H a = some (.lst vs) := by
  rcases f a _ h with z | ⟨z, _⟩
  · exact z
  · exact z.elim
theorem rd_lst {a : Addr} {vs : List V} (f : FH F H) (h : F a = some (.lst vs)) : SqL M.K H a vs := SqL.of (rd_lstH f h)
theorem rd_scr {a : Addr} {vs : List V} (f : FH F H) (h : SqL M.K F a vs) : SqL M.K H a vs := by
  rcases h with (h | ⟨o, h⟩) | h
  · exact .inl (f.rd h)
  · rcases f a _ h with z | ⟨z, _⟩
    · exact .inl (.inr ⟨o, z⟩)
    · exact z.elim
  · exact .inr h
/-- what a tuple, a list is -/
theorem RO.tup_in {o : Bool} {xs : List VS.D} {v : V} (h : RO M F H (.tup o xs) v S) (f : FH F H) : ∃ a vs T, v = .ref a ∧ SqT M.K H a vs ∧ ROs M F H xs vs T ∧ ∀ b, T b → S b := by
  simp only [RO] at h
  obtain ⟨a, vs, T, rfl, hT, c⟩ := h
  cases o with
  | true =>
    simp only [if_true] at c
    obtain ⟨h1, h2, rfl⟩ := c
    exact ⟨a, vs, T, rfl, SqT.of h1, hT, fun b h => .inr h⟩
  | false =>
    simp only [Bool.false_eq_true, if_false] at c
    obtain ⟨h1, rfl, rfl⟩ := c
    exact ⟨a, vs, em, rfl, rd_tup f h1, hT, fun b h => h⟩
theorem RO.lst_in {o : Bool} {xs : List VS.D} {v : V} (h : RO M F H (.lst o xs) v S) (f : FH F H) : ∃ a vs T, v = .ref a ∧ SqL M.K H a vs ∧ ROs M F H xs vs T ∧ ∀ b, T b → S b := by
  simp only [RO] at h
  obtain ⟨a, vs, T, rfl, hT, c⟩ := h
  cases o with
  | true =>
    simp only [if_true] at c
    obtain ⟨h1, h2, rfl⟩ := c
    exact ⟨a, vs, T, rfl, SqL.of h1, hT, fun b h => .inr h⟩
  | false =>
    simp only [Bool.false_eq_true, if_false] at c
    obtain ⟨h1, rfl, rfl⟩ := c
    exact ⟨a, vs, em, rfl, rd_lst f h1, hT, fun b h => h⟩
theorem gsLen : ∀ {gs : TGs} {vs : List V} {σ : L2.St} {H : Hp} {Q : L2.St → Hp → Prop}, True := by intros; trivial
theorem sg_tup {gs : TGs} {gfs : List VS.D → List VS.D → Option (List VS.D)} {n : Nat} (h2 : SGs M pr gs gfs) (hn : ∀ ds env, ds.length ≠ n → gfs ds env = none) : SG M pr (gTup M.K n gs) (tupG gfs) := by
  intro F H env σ S d v S' Q fh en ro dd hs h
  cases d with
  | tup o xs =>
    obtain ⟨a, vs, T, rfl, sq, rs, hT⟩ := ro.tup_in fh
    have hl : xs.length = n := by
      by_cases hl : xs.length = n
      · exact hl
      · have h : (match gfs xs env with
            | some env1 => ∀ σ1 S1, EnvR M F H env1 σ1 S1 → (∀ a, S1 a → S a ∨ S' a) → Pr pr σ σ1 → Q σ1 H
            | none => False) := h
        rw [hn xs env hl] at h
        exact h.elim
    refine ⟨a, vs, rfl, sq, by rw [← rs.len]; exact hl, ?_⟩
    refine h2 F H env σ S xs vs T Q fh en rs (fun a x y => dd a x (hT a y)) ?_
    have h : (match gfs xs env with
            | some env1 => ∀ σ1 S1, EnvR M F H env1 σ1 S1 → (∀ a, S1 a → S a ∨ S' a) → Pr pr σ σ1 → Q σ1 H
            | none => False) := h
    split at h
    · exact fun σ1 S1 e o p => h σ1 S1 e (fun a z => (o a z).imp id (hT a)) p
    · exact h.elim
  | _ => exact h.elim
/-! ### x = e, e, return e -/
def asgS (f : List VS.D → R Rv) (g : VS.D → List VS.D → Option (List VS.D)) : List VS.D → SR := fun env => SR.of (f env) fun r env1 => match esc1 r env1 with
  | some (d, env2) => match g d env2 with
    | some env3 => .nx env3
    | none => .stuck
  | none => .stuck
theorem ResR.tmp_in {d : VS.D} {v : V} (h : ResR M F H env σ [.tmp d] [v] S) : ∃ Se St, EnvR M F H env σ Se ∧ RO M F H d v St ∧ dj Se St ∧ S = un Se St := by
  obtain ⟨Se, St, en, ro, dd, rfl, _⟩ := h
  simp only [List.map, Rv.hold, ROs] at ro
  obtain ⟨v', ws, T1, T2, e, r1, ⟨rfl, rfl⟩, d12, rfl⟩ := ro
  cases e
  exact ⟨Se, T1, en, r1, fun a x y => dd a x (.inl y), by rw [un_em]⟩
theorem SE.of {te : TE} {f : List VS.D → R Rv} (h : SE M W b te f) {k : Rv → List VS.D → SR} (st : Stt M F H S) (en : EnvR M F H env σ S) {Q : V → Hp → Prop} (hp : PostS M W pr F H σ S D (SR.of (f env) k))
    (hk : ∀ r env1, PostS M W pr F H σ S D (k r env1) → ∀ v F1 H1 S1, Step F H S F1 H1 S1 → Stt M F1 H1 S1 → ResR M F1 H1 env1 σ [r] [v] S1 → Q v H1) : te σ H Q := by
  refine h F H env σ S Q st en ?_
  cases hf : f env with
  | stuck => rw [hf] at hp; exact hp
  | err c d env1 =>
    rw [hf] at hp
    exact fun F' H' S' cls dx a b c d => hp σ F' H' S' cls dx a b c d Pr.refl
  | ok r env1 =>
    rw [hf] at hp
    exact fun v F' H' S' a b _ d => hk r env1 hp v F' H' S' a b d
theorem ss_asg {te : TE} {f : List VS.D → R Rv} {g : TG} {gf : VS.D → List VS.D → Option (List VS.D)} (h1 : SE M W b te f) (h2 : SG M pr g gf) : SS M W pr (tAsg te g) (asgS f gf) := by
  intro D F H env σ S st en h
  refine h1.of st en h fun r env1 h v F1 H1 S1 s1 st1 r1 => ?_
  cases q : esc1 r env1 with
  | none => simp only [q] at h; exact h.elim
  | some x =>
    obtain ⟨d, env2⟩ := x
    simp only [q] at h
    obtain ⟨F2, S2, s2, st2, r2⟩ := esc1_ok q st1 r1
    obtain ⟨Se, St, en2, ro2, dd, rfl⟩ := r2.tmp_in
    refine h2 F2 H1 env2 σ Se d v St _ st2.fh en2 ro2 dd (esc1_set q) ?_
    cases q2 : gf d env2 with
    | none => simp only [q2] at h; exact h.elim
    | some env3 =>
      simp only [q2] at h
      exact fun σ1 S3 en3 o3 p3 => h σ1 F2 H1 S3 ((s1.trans s2).drop o3) (st2.sub o3) en3 p3
def dropS (f : List VS.D → R Rv) : List VS.D → SR := fun env => SR.of (f env) fun _ env1 => .nx env1
theorem ss_drop {te : TE} {f : List VS.D → R Rv} (h1 : SE M W b te f) : SS M W pr (tDrop te) (dropS f) := by
  intro D F H env σ S st en h
  refine h1.of st en h fun r env1 h v F1 H1 S1 s1 st1 r1 => ?_
  obtain ⟨Se, en1, o1⟩ := r1.envp
  exact h σ F1 H1 Se (s1.drop o1) (st1.sub o1) en1 Pr.refl
/-- a name that is no parameter's moves out -/
def retS (pr : Nat → Bool) (f : List VS.D → R Rv) : List VS.D → SR := fun env => SR.of (f env) fun r env1 => match r with
  | .pth i [] => if pr i = true then (match esc1 (.pth i []) env1 with
      | some (d, env2) => .ret d env2
      | none => .stuck) else (match env1[i]? with
      | some e => if own e = true then .ret e (env1.set i .unset) else .stuck
      | none => .stuck)
  | r => match esc1 r env1 with
    | some (d, env2) => .ret d env2
    | none => .stuck
theorem ss_ret {te : TE} {f : List VS.D → R Rv} (h1 : SE M W b te f) : SS M W pr (tRet te) (retS pr f) := by
  intro D F H env σ S st en h
  refine h1.of st en h fun r env1 h v F1 H1 S1 s1 st1 r1 => ?_
  have plain : ∀ r, ResR M F1 H1 env1 σ [r] [v] S1 → PostS M W pr F H σ S D (match esc1 r env1 with
    | some (d, env2) => .ret d env2
    | none => .stuck) → D.rt v H1 := fun r r1 h => by
    cases q : esc1 r env1 with
    | none => simp only [q] at h; exact h.elim
    | some x =>
      obtain ⟨d, env2⟩ := x
      simp only [q] at h
      obtain ⟨F2, S2, s2, st2, r2⟩ := esc1_ok q st1 r1
      exact h v σ F2 H1 S2 (s1.trans s2) st2 r2 Pr.refl
  cases r with
  | tmp d => exact plain _ r1 h
  | pth i p =>
    cases p with
    | cons k p => exact plain _ r1 h
    | nil =>
      by_cases hp : pr i = true
      · simp only [hp, if_true] at h
        exact plain _ r1 h
      · simp only [hp, if_false] at h
        cases q : env1[i]? with
        | none => simp only [q] at h; exact h.elim
        | some e =>
          simp only [q] at h
          by_cases ho : own e = true
          · simp only [ho, if_true] at h
            -- move out
            obtain ⟨Se, St, en1, ro1, d1, rfl, hpp⟩ := r1
            obtain ⟨u, v', e1, e2, e3⟩ := hpp 0 i [] (by simp)
            have e2' : v = v' := by simpa using e2
            subst e2'
            have e3' : v = u := e3
            subst e3'
            obtain ⟨vs, rs, l, qq⟩ := en1
            obtain ⟨w, T1, T2, g1, g2, g3, rfl, g5⟩ := rs.focus i q
            have := qq i e q (own_isSet ho)
            rw [e1, g1] at this
            have : v = w := by simpa using this
            subst this
            have r2 := g5 F1 H1 .unset v em (Ext.refl F1) (fun _ _ => rfl) (by simp only [RO]) (fun _ h => h.elim)
            rw [list_set_self g1, em_un] at r2
            have en2 : EnvR M F1 H1 (env1.set i .unset) σ T2 := ⟨vs, r2, by simpa using l, fun j c hj hc => by
              by_cases hij : i = j
              · subst hij
                rw [List.getElem?_set_self (List.getElem?_eq_some_iff.mp q).1] at hj
                cases hj
                cases hc
              · rw [List.getElem?_set_ne hij] at hj
                exact qq j c hj hc⟩
            have o : ∀ a, un T2 T1 a → un (un T1 T2) St a := fun a z => z.elim (fun z => .inl (.inr z)) fun z => .inl (.inl z)
            exact h v σ F1 H1 _ (s1.drop o) (st1.sub o) (ResR.one_tmp en2 g2 (fun a x y => g3 a y x)) Pr.refl
          · simp only [ho, if_false] at h
            exact h.elim
def retNS : List VS.D → SR := fun env => .ret .non env
theorem ss_retN : SS M W pr tRetN retNS := by
  intro D F H env σ S st en h
  have r := ResR.one_tmp (M := M) (F := F) (H := H) (d := .non) (v := .non) (T := em) en (by simp [RO]) en.dj_emp
  rw [un_em] at r
  exact h .non σ F H S Step.refl st r Pr.refl
def ifS (t : List VS.D → R Bool) (f g : List VS.D → SR) : List VS.D → SR := fun env => SR.of (t env) fun k env1 => if k = true then f env1 else g env1
theorem ss_if {tt : TT} {t u : TS} {tf : List VS.D → R Bool} {f g : List VS.D → SR} (h0 : ST M W b tt tf) (h1 : SS M W pr t f) (h2 : SS M W pr u g) : SS M W pr (tIfS tt t u) (ifS tf f g) := by
  intro D F H env σ S st en h
  refine h0 F H env σ S _ st en ?_
  unfold ifS at h
  cases hf : tf env with
  | stuck => rw [hf] at h; exact h
  | err c d env1 =>
    rw [hf] at h
    exact fun F' H' S' cls dx a b c d => h σ F' H' S' cls dx a b c d Pr.refl
  | ok k env1 =>
    rw [hf] at h
    intro F1 H1 S1 s1 st1 _ en1
    cases k with
    | true => exact iteT (h1 D F1 H1 env1 σ S1 st1 en1 (PostS.behind (x := f env1) h s1 Pr.refl))
    | false => exact iteF (h2 D F1 H1 env1 σ S1 st1 en1 (PostS.behind (x := g env1) h s1 Pr.refl))
end
end VS
/-! VSLoop: what is walked, for, while, comprehensions. -/
namespace VS
open PySem L2

section
variable {M : Mn} {W : WD} {b b1 b2 : Bool} {F H F' H' F1 H1 : Hp} {env env' env1 : List D} {σ : L2.St} {S S' S1 T : AS} {pr : Nat → Bool} {D : Ends}
theorem hn_nil : ∀ (ds : List VS.D) (env : List VS.D), ds.length ≠ 0 → nilG ds env = none := fun ds env h => by
  cases ds with
  | nil => exact (h rfl).elim
  | cons d ds => rfl
theorem hn_cons {n : Nat} {g : VS.D → List VS.D → Option (List VS.D)} {gs : List VS.D → List VS.D → Option (List VS.D)} (h : ∀ (ds : List VS.D) (env : List VS.D), ds.length ≠ n → gs ds env = none) :
    ∀ (ds : List VS.D) (env : List VS.D), ds.length ≠ n + 1 → consG g gs ds env = none := fun ds env hl => by
  cases ds with
  | nil => rfl
  | cons d ds =>
    simp only [consG]
    split
    · cases g d env with
      | none => rfl
      | some e => exact h ds e fun z => hl (by simp [z])
    · rfl

/-- the iterator J hands out the items ds, while what T owns stands: each is frozen, or new and frozen at once -/
def FK (F H H2 : Hp) : Prop := ∀ a o, H a = some o → nt o → F a ≠ none → H2 a = some o
theorem FK.refl : FK F H H := fun _ _ h _ _ => h
theorem FK.step {F2 H2 F3 H3 : Hp} {S2 S3 : AS} (k : FK F H H2) (e : Ext F F2) (st : Stt M F2 H2 S2) (s : Step F2 H2 S2 F3 H3 S3) : FK F H H3 := fun a o h m n => by
  refine s.keep a o (k a o h m n) m fun z => ?_
  cases q : F a with
  | none => exact n q
  | some u => have := e a u q; rw [st.fr a z] at this; cases this
theorem FK.ext {H2 H3 : Hp} (k : FK F H H2) (e : Ext H2 H3) : FK F H H3 := fun a o h m n => e a o (k a o h m n)
def ItOk (M : Mn) (J : It) (F H : Hp) (T : AS) (ds : List VS.D) : Prop :=
  ∀ F2 H2, Ext F F2 → FH F2 H2 → (∀ a, T a → H2 a = H a) → (∀ a, T a → F2 a = none) → FK F H H2 → ∀ n,
    (n < ds.length → J.go n H2 ∧ ∀ x H3, J.yld n H2 x H3 → ∃ F3, Ext F2 F3 ∧ Ext H2 H3 ∧ FH F3 H3 ∧ (∀ a u, F3 a = some u → F2 a = some u ∨ H2 a = none) ∧ ∃ d, ds[n]? = some d ∧ isSet d = true ∧ RO M F3 H3 d x em) ∧
    (ds.length ≤ n → J.stop n H2)
def PostI (M : Mn) (W : WD) (F H : Hp) (σ : L2.St) (S : AS) (Q : It → Hp → Prop) : R (List VS.D) → Prop
  | .ok ds env' => ∀ J F' H' Se T, Step F H S F' H' (un Se T) → Stt M F' H' (un Se T) → dj Se T → EnvR M F' H' env' σ Se → ItOk M J F' H' T ds → Q J H'
  | .err c d env' => ∀ F' H' S' cls dx, Step F H S F' H' S' → Stt M F' H' S' → ErrR M F' H' c d cls dx → EnvR M F' H' env' σ S' → W cls dx σ H'
  | .stuck => False
/-- what a for walks over: the items as they stand at its begin -/
def SI (M : Mn) (W : WD) (wi : TI) (f : List VS.D → R (List VS.D)) : Prop :=
  ∀ F H env σ S Q, Stt M F H S → EnvR M F H env σ S → PostI M W F H σ S Q (f env) → wi σ H Q

/-- the loop -/
def loopS (g : VS.D → List VS.D → Option (List VS.D)) (body : List VS.D → SR) : List VS.D → List VS.D → SR
  | [], env => .nx env
  | d :: ds, env => match g d env with
    | none => .stuck
    | some env1 => match body env1 with
      | .nx e => loopS g body ds e
      | .ct e => loopS g body ds e
      | .brk e => .nx e
      | .ret d e => .ret d e
      | .err c d e => .err c d e
      | .stuck => .stuck
def forS (it : List VS.D → R (List VS.D)) (g : VS.D → List VS.D → Option (List VS.D)) (body : List VS.D → SR) : List VS.D → SR := fun env => SR.of (it env) fun ds env1 => loopS g body ds env1
theorem getElem?_drop_cons {α : Type} {l : List α} {i : Nat} {x : α} (h : l[i]? = some x) : l.drop i = x :: l.drop (i + 1) := by
  obtain ⟨h1, h2⟩ := List.getElem?_eq_some_iff.mp h
  rw [List.drop_eq_getElem_cons h1, h2]
theorem for_at {wi : TI} {g : TG} {tb : TS} {it : List VS.D → R (List VS.D)} {gf : VS.D → List VS.D → Option (List VS.D)} {body : List VS.D → SR} (h1 : ∀ Q, PostI M W F H σ S Q (it env) → wi σ H Q) (h2 : SG M pr g gf) (h3 : SS M W pr tb body)
    (st : Stt M F H S) (en : EnvR M F H env σ S) (h : PostS M W pr F H σ S D (forS it gf body env)) : tFor wi g tb D σ H := by
  refine h1 _ ?_
  unfold forS at h
  cases hi : it env with
  | stuck => rw [hi] at h; exact h
  | err c d env1 =>
    rw [hi] at h
    exact fun F' H' S' cls dx a b c d => h σ F' H' S' cls dx a b c d Pr.refl
  | ok ds env1 =>
    rw [hi] at h
    intro J F1 H1 Se T s1 st1 d1 en1 itok
    have h : PostS M W pr F H σ S D (loopS gf body ds env1) := h
    refine ⟨fun i m σ2 H2 => m = ds.length - i ∧ i ≤ ds.length ∧ ∃ env2 F2 S2, Step F H S F2 H2 (un S2 T) ∧ Stt M F2 H2 (un S2 T) ∧ dj S2 T ∧ EnvR M F2 H2 env2 σ2 S2 ∧ Pr pr σ σ2 ∧ Ext F1 F2 ∧ (∀ a, T a → H2 a = H1 a) ∧ FK F1 H1 H2 ∧ PostS M W pr F H σ S D (loopS gf body (ds.drop i) env2),
      ⟨ds.length, by simp, Nat.zero_le _, env1, F1, Se, s1, st1, d1, en1, Pr.refl, Ext.refl F1, fun _ _ => rfl, FK.refl, by simpa using h⟩, ?_⟩
    rintro i m σ2 H2 ⟨rfl, hle, env2, F2, S2, s2, st2, d2, en2, p2, x2, k2, fk2, q2⟩
    obtain ⟨ig, is⟩ := itok F2 H2 x2 st2.fh k2 (fun a ha => st2.fr a (.inr ha)) fk2 i
    by_cases hlt : i < ds.length
    · right
      obtain ⟨go, yl⟩ := ig hlt
      refine ⟨go, fun σ' H' => ∃ env2 F2 S2, Step F H S F2 H' (un S2 T) ∧ Stt M F2 H' (un S2 T) ∧ dj S2 T ∧ EnvR M F2 H' env2 σ' S2 ∧ Pr pr σ σ' ∧ Ext F1 F2 ∧ (∀ a, T a → H' a = H1 a) ∧ FK F1 H1 H' ∧ PostS M W pr F H σ S D (loopS gf body (ds.drop (i + 1)) env2),
        fun σ' H' p => ⟨ds.length - (i + 1), by omega, rfl, hlt, p⟩, fun x H3 y => ?_⟩
      obtain ⟨F3, x3, e3, fh3, new3, d, hd, hs, ro⟩ := yl x H3 y
      have alive2 : ∀ a, un S2 T a → H3 a = H2 a := fun a ha => by
        obtain ⟨o, e⟩ := st2.al1 a ha
        rw [e]; exact e3 a o e
      have fr3 : ∀ a, un S2 T a → F3 a = none := fun a ha => by
        cases q : F3 a with
        | none => rfl
        | some u =>
          exfalso
          rcases new3 a u q with z | z
          · rw [st2.fr a ha] at z; cases z
          · obtain ⟨o, e⟩ := st2.al1 a ha
            rw [z] at e; cases e
      have st3 : Stt M F3 H3 (un S2 T) := ⟨fh3, fr3, fun a ha => by rw [alive2 a ha]; exact st2.al a ha, st2.tabsE e3, st2.ftN fun a u h => (new3 a u h).imp id .inr⟩
      have s3 : Step F H S F3 H3 (un S2 T) := s2.trans (Step.mk0 x3 (fun a o e _ => e3 a o e) (fun a h => .inl h) fun a u h => (new3 a u h).imp id .inr)
      have en3 : EnvR M F3 H3 env2 σ2 S2 := en2.mono x3 fun a ha => alive2 a (.inl ha)
      rw [getElem?_drop_cons hd] at q2
      refine h2 F3 H3 env2 σ2 S2 d x em _ fh3 en3 ro en3.dj_emp hs ?_
      unfold loopS at q2
      cases hg : gf d env2 with
      | none => rw [hg] at q2; exact q2.elim
      | some env3 =>
        rw [hg] at q2
        intro σ4 S4 en4 o4 p4
        have o4' : ∀ a, S4 a → S2 a := fun a ha => (o4 a ha).elim id fun z => z.elim
        have st4 : Stt M F3 H3 S4 := st3.sub fun a ha => .inl (o4' a ha)
        have st4T : Stt M F3 H3 (un S4 T) := st3.sub fun a ha => ha.imp (o4' a) id
        have d4 : dj S4 T := fun a x y => d2 a (o4' a x) y
        have s4 : Step F H S F3 H3 (un S4 T) := s3.drop fun a ha => ha.imp (o4' a) id
        have k4 : ∀ a, T a → H3 a = H1 a := fun a ha => (alive2 a (.inr ha)).trans (k2 a ha)
        have x4 : Ext F1 F3 := x2.trans x3
        have pp : Pr pr σ σ4 := p2.trans p4
        refine h3 _ F3 H3 env3 σ4 S4 st4 en4 ?_
        -- from the loop's rest
        have q2 : PostS M W pr F H σ S D (match body env3 with
          | .nx e => loopS gf body (ds.drop (i + 1)) e
          | .ct e => loopS gf body (ds.drop (i + 1)) e
          | .brk e => .nx e
          | .ret d e => .ret d e
          | .err c d e => .err c d e
          | .stuck => .stuck) := q2
        have fr : ∀ {F5 H5 : Hp} {S5 : AS}, Step F3 H3 S4 F5 H5 S5 → Stt M F5 H5 S5 → Step F H S F5 H5 (un S5 T) ∧ Stt M F5 H5 (un S5 T) ∧ dj S5 T ∧ (∀ a, T a → H5 a = H1 a) ∧ Ext F1 F5 ∧ FK F1 H1 H5 := fun a b => by
          obtain ⟨g1, g2, g3, g4⟩ := a.frame st4T b d4
          exact ⟨s4.trans g1, g2, g3, fun x hx => (g4 x hx).trans (k4 x hx), x4.trans a.ext, (fk2.ext e3).step x4 st4 a⟩
        cases hb : body env3 with
        | nx e =>
          rw [hb] at q2
          intro σ5 F5 H5 S5 s5 st5 en5 p5
          obtain ⟨g1, g2, g3, g4, g5, g6⟩ := fr s5 st5
          exact ⟨e, F5, S5, g1, g2, g3, en5, pp.trans p5, g5, g4, g6, q2⟩
        | ct e =>
          rw [hb] at q2
          intro σ5 F5 H5 S5 s5 st5 en5 p5
          obtain ⟨g1, g2, g3, g4, g5, g6⟩ := fr s5 st5
          exact ⟨e, F5, S5, g1, g2, g3, en5, pp.trans p5, g5, g4, g6, q2⟩
        | brk e =>
          rw [hb] at q2
          intro σ5 F5 H5 S5 s5 st5 en5 p5
          obtain ⟨g1, g2, g3, g4, g5, g6⟩ := fr s5 st5
          exact q2 σ5 F5 H5 S5 (g1.drop fun a h => .inl h) (g2.sub fun a h => .inl h) en5 (pp.trans p5)
        | ret d e =>
          rw [hb] at q2
          intro v σ5 F5 H5 S5 s5 st5 r5 p5
          obtain ⟨g1, g2, g3, g4, g5, g6⟩ := fr s5 st5
          exact q2 v σ5 F5 H5 S5 (g1.drop fun a h => .inl h) (g2.sub fun a h => .inl h) r5 (pp.trans p5)
        | err c d e =>
          rw [hb] at q2
          intro σ5 F5 H5 S5 cls dx s5 st5 er5 en5 p5
          obtain ⟨g1, g2, g3, g4, g5, g6⟩ := fr s5 st5
          exact q2 σ5 F5 H5 S5 cls dx (g1.drop fun a h => .inl h) (g2.sub fun a h => .inl h) er5 en5 (pp.trans p5)
        | stuck => rw [hb] at q2; exact q2.elim
    · left
      have e : i = ds.length := by omega
      subst e
      refine ⟨is (Nat.le_refl _), ?_⟩
      rw [List.drop_length] at q2
      exact q2 σ2 F2 H2 S2 (s2.drop fun a h => .inl h) (st2.sub fun a h => .inl h) en2 p2

theorem ss_for {wi : TI} {g : TG} {tb : TS} {it : List VS.D → R (List VS.D)} {gf : VS.D → List VS.D → Option (List VS.D)} {body : List VS.D → SR} (h1 : SI M W wi it) (h2 : SG M pr g gf) (h3 : SS M W pr tb body) :
    SS M W pr (tFor wi g tb) (forS it gf body) := fun D F H env σ S st en h => for_at (fun Q => h1 F H env σ S Q st en) h2 h3 st en h

/-! ### while -/
def whileN (t : List VS.D → R Bool) (body : List VS.D → SR) : Nat → List VS.D → SR
  | 0, _ => .stuck
  | n + 1, env => SR.of (t env) fun k env1 => if k = true then (match body env1 with
      | .nx e => whileN t body n e
      | .ct e => whileN t body n e
      | .brk e => .nx e
      | .ret d e => .ret d e
      | .err c d e => .err c d e
      | .stuck => .stuck) else .nx env1
theorem whileN_mono {t : List VS.D → R Bool} {body : List VS.D → SR} : ∀ {n : Nat} {env : List VS.D}, whileN t body n env ≠ .stuck → whileN t body (n + 1) env = whileN t body n env
  | 0, env, h => (h rfl).elim
  | n + 1, env, h => by
    rw [whileN]
    rw [whileN] at h ⊢
    cases q : t env with
    | stuck => rfl
    | err c d e => rfl
    | ok k env1 =>
      rw [q] at h
      simp only [SR.of] at h ⊢
      cases k with
      | false => rfl
      | true =>
        simp only [if_true] at h ⊢
        cases q2 : body env1 with
        | nx e => rw [q2] at h; exact whileN_mono h
        | ct e => rw [q2] at h; exact whileN_mono h
        | _ => rfl
theorem whileN_le {t : List VS.D → R Bool} {body : List VS.D → SR} {n m : Nat} {env : List VS.D} (hm : n ≤ m) (h : whileN t body n env ≠ .stuck) : whileN t body m env = whileN t body n env := by
  induction hm with
  | refl => rfl
  | step _ ih => rw [whileN_mono (by rw [ih]; exact h), ih]
open Classical in
noncomputable def whileS (t : List VS.D → R Bool) (body : List VS.D → SR) : List VS.D → SR := fun env =>
  if h : ∃ n, whileN t body n env ≠ .stuck then whileN t body h.choose env else .stuck
theorem whileS_of {t : List VS.D → R Bool} {body : List VS.D → SR} {n : Nat} {env : List VS.D} (h : whileN t body n env ≠ .stuck) : whileS t body env = whileN t body n env := by
  unfold whileS
  have hx : ∃ n, whileN t body n env ≠ .stuck := ⟨n, h⟩
  rw [dif_pos hx]
  rcases Nat.le_total n hx.choose with z | z
  · exact whileN_le z h
  · exact (whileN_le z hx.choose_spec).symm
/-- one turn -/
theorem whileS_eq (t : List VS.D → R Bool) (body : List VS.D → SR) (env : List VS.D) : whileS t body env = SR.of (t env) fun k env1 => if k = true then (match body env1 with
      | .nx e => whileS t body e
      | .ct e => whileS t body e
      | .brk e => .nx e
      | .ret d e => .ret d e
      | .err c d e => .err c d e
      | .stuck => .stuck) else .nx env1 := by
  cases q : t env with
  | stuck =>
    have : ¬ ∃ n, whileN t body n env ≠ .stuck := fun ⟨n, h⟩ => by
      cases n with
      | zero => exact h rfl
      | succ n => rw [whileN, q] at h; exact h rfl
    unfold whileS
    rw [dif_neg this]
    rfl
  | err c d e =>
    rw [whileS_of (n := 1) (by rw [whileN, q]; exact fun z => nomatch z), whileN, q]
    rfl
  | ok k env1 =>
    cases k with
    | false =>
      rw [whileS_of (n := 1) (by rw [whileN, q]; exact fun z => nomatch z), whileN, q]
      rfl
    | true =>
      have step : ∀ e, (body env1 = .nx e ∨ body env1 = .ct e) → whileS t body env = whileS t body e := fun e hb => by
        by_cases hx : ∃ n, whileN t body n e ≠ .stuck
        · obtain ⟨n, hn⟩ := hx
          have : whileN t body (n + 1) env = whileN t body n e := by
            rw [whileN, q]
            rcases hb with hb | hb <;> simp [SR.of, hb]
          rw [whileS_of hn, whileS_of (n := n + 1) (by rw [this]; exact hn), this]
        · have : ¬ ∃ n, whileN t body n env ≠ .stuck := fun ⟨n, h⟩ => by
            cases n with
            | zero => exact h rfl
            | succ n =>
              apply hx
              refine ⟨n, ?_⟩
              rw [whileN, q] at h
              rcases hb with hb | hb <;> simpa [SR.of, hb] using h
          unfold whileS
          rw [dif_neg this, dif_neg hx]
      have stop : ∀ y, y ≠ SR.stuck → (∀ n, whileN t body (n + 1) env = y) → whileS t body env = y := fun y hy h => by
        rw [whileS_of (n := 1) (by rw [h 0]; exact hy), h 0]
      simp only [SR.of, if_true]
      cases hb : body env1 with
      | nx e => exact step e (.inl hb)
      | ct e => exact step e (.inr hb)
      | brk e => exact stop _ (fun z => nomatch z) fun n => by rw [whileN, q]; simp [SR.of, hb]
      | ret d e => exact stop _ (fun z => nomatch z) fun n => by rw [whileN, q]; simp [SR.of, hb]
      | err c d e => exact stop _ (fun z => nomatch z) fun n => by rw [whileN, q]; simp [SR.of, hb]
      | stuck =>
        have : ¬ ∃ n, whileN t body n env ≠ .stuck := fun ⟨n, h⟩ => by
          cases n with
          | zero => exact h rfl
          | succ n => rw [whileN, q] at h; simp [SR.of, hb] at h
        unfold whileS
        rw [dif_neg this]
theorem whileS_nst {t : List VS.D → R Bool} {body : List VS.D → SR} {env : List VS.D} (h : whileS t body env ≠ .stuck) : ∃ n, whileN t body n env ≠ .stuck := by
  unfold whileS at h
  split at h
  · rename_i hx; exact ⟨_, h⟩
  · exact (h rfl).elim
theorem ss_while {tt : TT} {tb : TS} {t : List VS.D → R Bool} {body : List VS.D → SR} (h1 : ST M W b tt t) (h2 : SS M W pr tb body) : SS M W pr (tWhile tt tb) (whileS t body) := by
  intro D F H env σ S st en h
  have hns : whileS t body env ≠ .stuck := fun z => by rw [z] at h; exact h
  obtain ⟨n0, hn0⟩ := whileS_nst hns
  rw [whileS_of hn0] at h
  refine ⟨fun m σ2 H2 => ∃ env2 F2 S2, Step F H S F2 H2 S2 ∧ Stt M F2 H2 S2 ∧ EnvR M F2 H2 env2 σ2 S2 ∧ Pr pr σ σ2 ∧ PostS M W pr F H σ S D (whileN t body m env2), ⟨n0, env, F, S, Step.refl, st, en, Pr.refl, h⟩, ?_⟩
  rintro m σ2 H2 ⟨env2, F2, S2, s2, st2, en2, p2, q2⟩
  cases m with
  | zero => exact q2.elim
  | succ m =>
    rw [whileN] at q2
    refine h1 F2 H2 env2 σ2 S2 _ st2 en2 ?_
    cases ht : t env2 with
    | stuck => rw [ht] at q2; exact q2
    | err c d e =>
      rw [ht] at q2
      exact fun F' H' S' cls dx a b c d => q2 σ2 F' H' S' cls dx (s2.trans a) b c d p2
    | ok k env3 =>
      rw [ht] at q2
      intro F3 H3 S3 s3 st3 _ en3
      cases k with
      | false => exact iteF (q2 σ2 F3 H3 S3 (s2.trans s3) st3 en3 p2)
      | true =>
        refine iteT ?_
        have q2 : PostS M W pr F H σ S D (match body env3 with
          | .nx e => whileN t body m e
          | .ct e => whileN t body m e
          | .brk e => .nx e
          | .ret d e => .ret d e
          | .err c d e => .err c d e
          | .stuck => .stuck) := q2
        refine ⟨fun σ' H' => ∃ env2 F2 S2, Step F H S F2 H' S2 ∧ Stt M F2 H' S2 ∧ EnvR M F2 H' env2 σ' S2 ∧ Pr pr σ σ' ∧ PostS M W pr F H σ S D (whileN t body m env2), fun σ' H' p => ⟨m, Nat.lt_succ_self m, p⟩, ?_⟩
        refine h2 _ F3 H3 env3 σ2 S3 st3 en3 ?_
        have s3' := s2.trans s3
        cases hb : body env3 with
        | nx e => rw [hb] at q2; exact fun σ5 F5 H5 S5 s5 st5 en5 p5 => ⟨e, F5, S5, s3'.trans s5, st5, en5, p2.trans p5, q2⟩
        | ct e => rw [hb] at q2; exact fun σ5 F5 H5 S5 s5 st5 en5 p5 => ⟨e, F5, S5, s3'.trans s5, st5, en5, p2.trans p5, q2⟩
        | brk e => rw [hb] at q2; exact fun σ5 F5 H5 S5 s5 st5 en5 p5 => q2 σ5 F5 H5 S5 (s3'.trans s5) st5 en5 (p2.trans p5)
        | ret d e => rw [hb] at q2; exact fun v σ5 F5 H5 S5 s5 st5 r5 p5 => q2 v σ5 F5 H5 S5 (s3'.trans s5) st5 r5 (p2.trans p5)
        | err c d e => rw [hb] at q2; exact fun σ5 F5 H5 S5 cls dx s5 st5 er5 en5 p5 => q2 σ5 F5 H5 S5 cls dx (s3'.trans s5) st5 er5 en5 (p2.trans p5)
        | stuck => rw [hb] at q2; exact q2.elim
end
end VS
/-! VSCall: defs and their calls. -/
namespace VS
open PySem PyProof.Rows L2

inductive FR where
  | ok (d : D) (ds : List D) | err (c : Str) (d : D) (ds : List D) | stuck
/-- the promise: hands back what Fn tells; the arguments are given back as Fn tells -/
def spD (M : Mn) (Fn : List D → FR) : Sp := fun vs H Q E => ∃ F ds S, Stt M F H S ∧ ROs M F H ds vs S ∧
  match Fn ds with
  | .ok d ds' => ∀ v F' H' S1 S2, Step F H S F' H' (un S1 S2) → Stt M F' H' (un S1 S2) → ROs M F' H' ds' vs S1 → RO M F' H' d v S2 → dj S1 S2 → Q v H'
  | .err c d ds' => ∀ cls dx F' H' S1, Step F H S F' H' S1 → Stt M F' H' S1 → ErrR M F' H' c d cls dx → ROs M F' H' ds' vs S1 → E cls dx H'
  | .stuck => False

section
variable {M : Mn} {W : WD} {b b1 b2 : Bool} {F H F' H' F1 H1 : Hp} {env env' env1 : List D} {σ : L2.St} {S S' S1 T : AS} {pr : Nat → Bool}
theorem ROs.app : ∀ {ds es : List D} {vs ws : List V} {S T : AS}, ROs M F H ds vs S → ROs M F H es ws T → dj S T → ROs M F H (ds ++ es) (vs ++ ws) (un S T)
  | [], es, vs, ws, S, T, h, h2, d => by
    simp only [ROs] at h
    obtain ⟨rfl, rfl⟩ := h
    rw [em_un]
    exact h2
  | d0 :: ds, es, vs, ws, S, T, h, h2, d => by
    simp only [ROs] at h
    obtain ⟨v, vs', S1, S2, rfl, r1, r2, dd, rfl⟩ := h
    have ih := ROs.app r2 h2 (fun a x y => d a (.inr x) y)
    simp only [List.cons_append, ROs]
    refine ⟨v, vs' ++ ws, S1, un S2 T, rfl, r1, ih, ?_, ?_⟩
    · rintro a x (y | y)
      · exact dd a x y
      · exact d a (.inl x) y
    · exact AS.ext fun a => by
        simp only [un]
        constructor
        · rintro ((h | h) | h) <;> simp [h]
        · rintro (h | h | h) <;> simp [h]
theorem ROs.split : ∀ {ds : List D} {n : Nat} {vs : List V} {S : AS}, ROs M F H ds vs S → ∃ S1 S2, ROs M F H (ds.take n) (vs.take n) S1 ∧ ROs M F H (ds.drop n) (vs.drop n) S2 ∧ dj S1 S2 ∧ S = un S1 S2
  | ds, 0, vs, S, h => ⟨em, S, by simp [ROs], by simpa using h, fun _ h _ => h.elim, (em_un S).symm⟩
  | [], n + 1, vs, S, h => by
    simp only [ROs] at h
    obtain ⟨rfl, rfl⟩ := h
    exact ⟨em, em, by simp [ROs], by simp [ROs], fun _ h _ => h.elim, (em_un em).symm⟩
  | d :: ds, n + 1, vs, S, h => by
    simp only [ROs] at h
    obtain ⟨v, ws, S1, S2, rfl, r1, r2, dd, rfl⟩ := h
    obtain ⟨T1, T2, h1, h2, h3, rfl⟩ := ROs.split (n := n) r2
    refine ⟨un S1 T1, T2, ?_, h2, ?_, ?_⟩
    · simp only [List.take_succ_cons, ROs]
      exact ⟨v, ws.take n, S1, T1, rfl, r1, h1, fun a x y => dd a x (.inl y), rfl⟩
    · rintro a (x | x) y
      · exact dd a x (.inr y)
      · exact h3 a x y
    · exact AS.ext fun a => by
        simp only [un]
        constructor
        · rintro (h | h | h) <;> simp [h]
        · rintro ((h | h) | h) <;> simp [h]
theorem ROs.unsets : ∀ (n : Nat), ROs M F H (List.replicate n .unset) (List.replicate n V.non) em
  | 0 => by simp [ROs]
  | n + 1 => by
    simp only [List.replicate_succ, ROs]
    exact ⟨.non, _, em, em, rfl, by simp [RO], ROs.unsets n, fun _ h _ => h.elim, (em_un em).symm⟩

/-! ### a def's body -/
def backD : List Bool → List D → List D → List D
  | r :: rs, d :: ds, es => (if r = true then d else es.headD .unset) :: backD rs ds es.tail
  | _, _, _ => []
def reOk : List Bool → List D → Bool
  | r :: rs, d :: ds => (!r || isFz d) && reOk rs ds
  | _, _ => true
def bodyF (re : List Bool) (m : Nat) (f : List D → SR) : List D → FR := fun ds => if ds.length = re.length ∧ reOk re ds = true then (match f (ds ++ List.replicate m .unset) with
  | .nx env => .ok .non (backD re ds env)
  | .ret d env => .ok d (backD re ds env)
  | .err c d env => .err c d (backD re ds env)
  | _ => .stuck) else .stuck
def prOf (re : List Bool) : Nat → Bool := fun i => re[i]? == some false
theorem backD_ok : ∀ {re : List Bool} {ds env : List D} {ws vs : List V} {S1 : AS}, ROs M F H env ws S1 → re.length = ds.length → ds.length = vs.length →
    (∀ (i : Nat) (d : D), env[i]? = some d → isSet d = true → re[i]? = some false → ws[i]? = vs[i]?) → (∀ (i : Nat) (d : D), ds[i]? = some d → re[i]? = some true → ∃ v, vs[i]? = some v ∧ RO M F H d v em) →
    ∃ T, ROs M F H (backD re ds env) vs T ∧ ∀ a, T a → S1 a
  | [], ds, env, ws, vs, S1, h, l1, l2, k1, k2 => by
    have e1 : ds = [] := List.length_eq_zero_iff.mp (by simpa using l1.symm)
    subst e1
    have e2 : vs = [] := List.length_eq_zero_iff.mp (by simpa using l2.symm)
    subst e2
    exact ⟨em, by simp [backD, ROs], fun _ h => h.elim⟩
  | r :: re, [], env, ws, vs, S1, h, l1, l2, k1, k2 => by simp at l1
  | r :: re, d :: ds, env, ws, [], S1, h, l1, l2, k1, k2 => by simp at l2
  | r :: re, d :: ds, [], ws, v :: vs, S1, h, l1, l2, k1, k2 => by
    simp only [ROs] at h
    obtain ⟨rfl, rfl⟩ := h
    obtain ⟨T, h1, h2⟩ := backD_ok (re := re) (ds := ds) (env := []) (ws := []) (S1 := em) (vs := vs) (show ROs M F H [] [] em by simp [ROs]) (by simpa using l1) (by simpa using l2) (fun i d hd => by simp at hd)
      (fun i d hd hr => by simpa using k2 (i + 1) d (by simpa using hd) (by simpa using hr))
    refine ⟨T, ?_, h2⟩
    simp only [backD]
    cases r with
    | true =>
      obtain ⟨v', e1, e2⟩ := k2 0 d rfl rfl
      have e1' : v = v' := by simpa using e1
      subst e1'
      simp only [if_true, ROs]
      exact ⟨v, vs, em, T, rfl, e2, h1, fun _ h _ => h.elim, (em_un T).symm⟩
    | false =>
      simp only [Bool.false_eq_true, if_false, ROs]
      exact ⟨v, vs, em, T, rfl, by simp [RO], h1, fun _ h _ => h.elim, (em_un T).symm⟩
  | r :: re, d :: ds, e :: es, ws, v :: vs, S1, h, l1, l2, k1, k2 => by
    simp only [ROs] at h
    obtain ⟨w, ws', T1, T2, rfl, r1, r2, dd, rfl⟩ := h
    obtain ⟨T, h1, h2⟩ := backD_ok (re := re) (ds := ds) (vs := vs) r2 (by simpa using l1) (by simpa using l2) (fun i d hd hs hr => by simpa using k1 (i + 1) d (by simpa using hd) hs (by simpa using hr))
      (fun i d hd hr => by simpa using k2 (i + 1) d (by simpa using hd) (by simpa using hr))
    simp only [backD]
    cases r with
    | true =>
      obtain ⟨v', e1, e2⟩ := k2 0 d rfl rfl
      have e1' : v = v' := by simpa using e1
      subst e1'
      refine ⟨T, ?_, fun a z => .inr (h2 a z)⟩
      simp only [if_true, ROs]
      exact ⟨v, vs, em, T, rfl, e2, h1, fun _ h _ => h.elim, (em_un T).symm⟩
    | false =>
      by_cases hs : isSet e = true
      · have e1 : w = v := by simpa using k1 0 e rfl hs rfl
        subst e1
        refine ⟨un T1 T, ?_, fun a z => z.imp id (h2 a)⟩
        simp only [Bool.false_eq_true, if_false, ROs]
        exact ⟨w, vs, T1, T, rfl, r1, h1, fun a x y => dd a x (h2 a y), rfl⟩
      · have e0 : e = .unset := by cases e <;> first | rfl | exact (hs rfl).elim
        subst e0
        refine ⟨T, ?_, fun a z => .inr (h2 a z)⟩
        simp only [Bool.false_eq_true, if_false, ROs]
        exact ⟨v, vs, em, T, rfl, by simp [RO], h1, fun _ h _ => h.elim, (em_un T).symm⟩
theorem reOk_get : ∀ {re : List Bool} {ds : List D} {i : Nat} {d : D}, reOk re ds = true → ds[i]? = some d → re[i]? = some true → isFz d = true
  | [], ds, i, d, h, h1, h2 => by simp at h2
  | r :: re, [], i, d, h, h1, h2 => by simp at h1
  | r :: re, d0 :: ds, 0, d, h, h1, h2 => by
    simp at h1 h2
    subst h1 h2
    simp [reOk] at h
    exact h.1
  | r :: re, d0 :: ds, i + 1, d, h, h1, h2 => by
    simp only [reOk, Bool.and_eq_true] at h
    exact reOk_get h.2 (by simpa using h1) (by simpa using h2)
theorem ROs.get : ∀ {ds : List D} {vs : List V} {S : AS} {i : Nat} {d : D}, ROs M F H ds vs S → ds[i]? = some d → ∃ v T, vs[i]? = some v ∧ RO M F H d v T := fun {ds vs S i d} h e =>
  let ⟨v, S1, _, e1, r, _⟩ := h.focus i e
  ⟨v, S1, e1, r⟩

/-- A DEF: its body denotes f -/
theorem fnD {P : Program} {w : World} {mg : Str → Option Value} {base : Heap} {x qual : Str} {params : Arguments} {body : List Stmt} {scope : Scope} {dvs : List V} {kws : List (Str × V)} {fa : Addr} {fd : FuncData} {N ps : List Str} {k m : Nat} {re : List Bool} {f : List D → SR}
    (FD : FunD M.K x qual params body scope dvs kws fa fd) (SC : FnScope N ps scope) (hre : re.length = ps.length) (hm : N.length = ps.length + m)
    (hb : ∀ (cdv : Value) (A : Around) (outer : List Env) (s : Shared) (H : Hp) (E : XK), Room k (A.deeper (envOfC qual scope s.heap.objs.size fa cdv)) →
      ∃ ts, PSs (cxOf (L2.CX P w) P w M.K mg base N qual scope fa cdv A outer s H E) body ts ∧ SS M (fun cls d _ H => E cls d H) (prOf re) ts f) :
    FnOk P w M.K mg base (L2.CX P w) (k + 1) fa fd ps (spD M (bodyF re m f)) := by
  refine FD.ok SC (fun vs H Q E h => ?_) (fun cdv A outer s H vs Q E hr h => ?_)
  · obtain ⟨F, ds, S, st, ro, h⟩ := h
    unfold bodyF at h
    split at h
    · rename_i hh
      split at hh
      · rename_i hc
        rw [← ro.len, hc.1, hre]
      · cases hh
    · rename_i hh
      split at hh
      · rename_i hc
        rw [← ro.len, hc.1, hre]
      · cases hh
    · exact h.elim
  · obtain ⟨ts, p1, p2⟩ := hb cdv A outer s H E hr
    refine ⟨ts, p1, ?_⟩
    obtain ⟨F, ds, S, st, ro, h⟩ := h
    unfold bodyF at h
    by_cases hc : ds.length = re.length ∧ reOk re ds = true
    · rw [if_pos hc] at h
      have hv : vs.length = ps.length := by rw [← ro.len, hc.1, hre]
      have hl : N.length - vs.length = m := by omega
      have en : EnvR M F H (ds ++ List.replicate m .unset) (L2.start N vs) S := by
        refine ⟨vs ++ List.replicate m V.non, ?_, ?_, fun i d hd hs => ?_⟩
        · have := ro.app (ROs.unsets (M := M) (F := F) (H := H) m) (fun _ _ h => h.elim)
          rw [un_em] at this
          exact this
        · simp [L2.start, hl, ro.len]
        · have hi : i < ds.length := by
            by_cases hi : i < ds.length
            · exact hi
            · rw [List.getElem?_append_right (by omega)] at hd
              have := List.eq_of_mem_replicate (List.mem_of_getElem? hd)
              subst this
              cases hs
          have hiv : i < vs.length := by rw [← ro.len]; exact hi
          unfold L2.start
          rw [List.getElem?_append_left (by simpa using hiv), List.getElem?_append_left hiv, List.getElem?_map]
          rw [List.getElem?_eq_getElem hiv]
          rfl
      refine p2 _ F H _ _ S st en ?_
      -- what is given back
      have back : ∀ {env' : List D} {σ' : L2.St} {F' H' : Hp} {S1 : AS}, EnvR M F' H' env' σ' S1 → Ext F F' → Pr (prOf re) (L2.start N vs) σ' → ∃ T, ROs M F' H' (backD re ds env') vs T ∧ ∀ a, T a → S1 a := fun {env' σ' F' H' S1} en' ef p => by
        obtain ⟨ws, rw', lw, qw⟩ := en'
        have lσ : ∀ i, i < vs.length → (L2.start N vs)[i]? = some (vs[i]?) := fun i hi => by
          unfold L2.start
          rw [List.getElem?_append_left (by simpa using hi), List.getElem?_map, List.getElem?_eq_getElem hi]
          rfl
        have hre2 : ∀ i, re[i]? = some false → i < vs.length := fun i h => by
          have := (List.getElem?_eq_some_iff.mp h).1
          rw [← ro.len, hc.1]; exact this
        refine backD_ok rw' hc.1.symm ro.len (fun i d hd hs hr => ?_) (fun i d hd hr => ?_)
        · have e1 := qw i d hd hs
          have e2 := p.2 i (by simp [prOf, hr])
          rw [e2, lσ i (hre2 i hr)] at e1
          exact (Option.some.inj e1).symm
        · obtain ⟨v, T, e1, e2⟩ := ro.get hd
          have := e2.fz_em (reOk_get hc.2 hd hr)
          subst this
          exact ⟨v, e1, e2.mono d ef fun _ h => h.elim⟩
      have pS : ∀ {E1 : V} {σ' : L2.St} {F' H' : Hp} {S' : AS}, True := trivial
      cases hf : f (ds ++ List.replicate m .unset) with
      | nx env' =>
        rw [hf] at h
        intro σ' F' H' S' s1 st1 en1 p1
        obtain ⟨T, t1, t2⟩ := back en1 s1.ext p1
        refine h .non F' H' T em ?_ ?_ t1 (by simp [RO]) (fun _ _ h => h.elim)
        · rw [un_em]; exact s1.drop t2
        · rw [un_em]; exact st1.sub t2
      | ret d env' =>
        rw [hf] at h
        intro v σ' F' H' S' s1 st1 r1 p1
        obtain ⟨Se, St, en1, ro1, dd, rfl⟩ := r1.tmp_in
        obtain ⟨T, t1, t2⟩ := back en1 s1.ext p1
        have o : ∀ a, un T St a → un Se St a := fun a z => z.imp (t2 a) id
        exact h v F' H' T St (s1.drop o) (st1.sub o) t1 ro1 (fun a x y => dd a (t2 a x) y)
      | err c d env' =>
        rw [hf] at h
        intro σ' F' H' S' cls dx s1 st1 er1 en1 p1
        obtain ⟨T, t1, t2⟩ := back en1 s1.ext p1
        exact h cls dx F' H' T (s1.drop t2) (st1.sub t2) er1 t1
      | brk e => rw [hf] at h; exact h.elim
      | ct e => rw [hf] at h; exact h.elim
      | stuck => rw [hf] at h; exact h.elim
    · rw [if_neg hc] at h
      exact h.elim

/-! ### calls: what is handed on is lent -/
def takes : List Rv → List D → Option (List D × List D)
  | [], env => some ([], env)
  | .tmp d :: rs, env => if isSet d = true then (takes rs env).map fun q => (d :: q.1, q.2) else none
  | .pth i p :: rs, env => match env[i]? with
    | some d => match getP d p with
      | some e => if own e = true then (takes rs (env.set i .hole)).map fun q => (e :: q.1, q.2) else none
      | none => none
    | none => none
def putBack : List Rv → List D → List D → List D → List D
  | .pth i p :: rs, env0, d' :: ds', env => match env0[i]? with
    | some d => (putBack rs (env0.set i .hole) ds' env).set i (setP d p d')
    | none => env
  | .tmp _ :: rs, env0, _ :: ds', env => putBack rs env0 ds' env
  | _, _, _, env => env
theorem EnvR.hole {i : Nat} {d : D} (h : EnvR M F H env σ S) (g : env[i]? = some d) (hs : isSet d = true) :
    ∃ v S1 S2, σ[i]? = some (some v) ∧ RO M F H d v S1 ∧ dj S1 S2 ∧ S = un S1 S2 ∧ EnvR M F H (env.set i .hole) σ S2 := by
  obtain ⟨vs, r, l, q⟩ := h
  obtain ⟨v, S1, S2, e1, r1, d1, rfl, k⟩ := r.focus i g
  have r2 := k F H .hole v em (Ext.refl F) (fun _ _ => rfl) (by simp only [RO]) (fun _ h _ => h.elim)
  rw [list_set_self e1, em_un] at r2
  have hs' := q i d g hs
  rw [e1] at hs'
  refine ⟨v, S1, S2, hs', r1, d1, rfl, vs, r2, by simpa using l, fun j c hj hc => ?_⟩
  by_cases hij : i = j
  · subst hij
    rw [e1]
    exact hs'
  · rw [List.getElem?_set_ne hij] at hj
    exact q j c hj hc
/-- a slot is filled again, at the same value -/
theorem EnvR.fill {i : Nat} {d : D} {v : V} {T : AS} (h : EnvR M F H env σ S) (hσ : σ[i]? = some (some v)) (r : RO M F H d v T) (dd : dj S T) : ∃ T', EnvR M F H (env.set i d) σ T' ∧ ∀ a, T' a → S a ∨ T a := by
  cases g : env[i]? with
  | none =>
    rw [List.set_eq_of_length_le (List.getElem?_eq_none_iff.mp g)]
    exact ⟨S, h, fun a z => .inl z⟩
  | some d0 =>
    obtain ⟨T2, e1, e2, e3⟩ := h.put g r dd
    rw [list_set_self hσ] at e1
    exact ⟨_, e1, fun a z => z.elim .inr fun z => .inl (e3 a z)⟩
theorem takes_ok : ∀ {rs : List Rv} {env : List D} {vs : List V} {Se St : AS} {ds env2 : List D}, EnvR M F H env σ Se → ROs M F H (rs.map Rv.hold) vs St → dj Se St →
    (∀ (j i : Nat) (p : List Nat), rs[j]? = some (.pth i p) → ∃ u v, σ[i]? = some (some u) ∧ vs[j]? = some v ∧ PV H u p v) → takes rs env = some (ds, env2) →
    ∃ Se2 Sr Sa, EnvR M F H env2 σ Se2 ∧ ROs M F H ds vs Sa ∧ dj Se2 Sr ∧ dj Se2 Sa ∧ dj Sr Sa ∧ (∀ a, un Se St a ↔ Se2 a ∨ Sr a ∨ Sa a) ∧
      ∀ (F' H' : Hp) (ds' : List D) (Sa' : AS), Ext F F' → (∀ a, Se2 a ∨ Sr a → H' a = H a) → ROs M F' H' ds' vs Sa' → dj Se2 Sa' → dj Sr Sa' →
        ∃ T, EnvR M F' H' (putBack rs env ds' env2) σ T ∧ ∀ a, T a → Se2 a ∨ Sr a ∨ Sa' a
  | [], env, vs, Se, Sx, ds, env2, en, ro, dd, hp, h => by
    simp only [List.map, ROs] at ro
    obtain ⟨rfl, rfl⟩ := ro
    unfold takes at h
    cases h
    refine ⟨Se, em, em, en, by simp [ROs], fun _ _ h => h.elim, fun _ _ h => h.elim, fun _ h _ => h.elim, fun a => by simp [un, em], fun F' H' ds' Sa' e k r d1 d2 => ?_⟩
    refine ⟨Se, ?_, fun a h => .inl h⟩
    have : putBack [] env ds' env = env := by cases ds' <;> rfl
    rw [this]
    exact en.mono e fun a ha => k a (.inl ha)
  | .tmp d :: rs, env, vs, Se, Sx, ds, env2, en, ro, dd, hp, h => by
    simp only [List.map, Rv.hold, ROs] at ro
    obtain ⟨v, ws, T1, T2, rfl, r1, r2, d12, rfl⟩ := ro
    unfold takes at h
    split at h
    · rename_i hset
      cases q : takes rs env with
      | none => rw [q] at h; cases h
      | some x =>
        rw [q] at h
        cases h
        obtain ⟨Se2, Sr, Sa, g1, g2, g3, g4, g5, g6, g7⟩ := takes_ok (rs := rs) en r2 (fun a x y => dd a x (.inr y)) (fun j i p hj => by simpa using hp (j + 1) i p (by simpa using hj)) q
        have hT1 : ∀ a, T1 a → ¬ (Se2 a ∨ Sr a ∨ Sa a) := fun a ha hb => by
          rcases (g6 a).mpr hb with z | z
          · exact dd a z (.inl ha)
          · exact d12 a ha z
        refine ⟨Se2, Sr, un T1 Sa, g1, ?_, g3, ?_, ?_, fun a => ?_, fun F' H' ds' Sa' e k r e1 e2 => ?_⟩
        · simp only [ROs]
          exact ⟨v, ws, T1, Sa, rfl, r1, g2, fun a x y => hT1 a x (.inr (.inr y)), rfl⟩
        · rintro a x (y | y)
          · exact hT1 a y (.inl x)
          · exact g4 a x y
        · rintro a x (y | y)
          · exact hT1 a y (.inr (.inl x))
          · exact g5 a x y
        · have := g6 a
          simp only [un] at this ⊢
          constructor
          · rintro (z | z | z)
            · rcases this.mp (.inl z) with z | z | z <;> simp [z]
            · simp [z]
            · rcases this.mp (.inr z) with z | z | z <;> simp [z]
          · rintro (z | z | z | z)
            · rcases this.mpr (.inl z) with z | z <;> simp [z]
            · rcases this.mpr (.inr (.inl z)) with z | z <;> simp [z]
            · simp [z]
            · rcases this.mpr (.inr (.inr z)) with z | z <;> simp [z]
        · cases ds' with
          | nil => simp only [ROs] at r; exact absurd r.1 (by simp)
          | cons d' ds' =>
            simp only [ROs] at r
            obtain ⟨v', ws', U1, U2, ee, s1, s2, s3, rfl⟩ := r
            cases ee
            obtain ⟨T, t1, t2⟩ := g7 F' H' ds' U2 e k s2 (fun a x y => e1 a x (.inr y)) (fun a x y => e2 a x (.inr y))
            refine ⟨T, by simpa [putBack] using t1, fun a z => ?_⟩
            rcases t2 a z with z | z | z
            · exact .inl z
            · exact .inr (.inl z)
            · exact .inr (.inr (.inr z))
    · cases h
  | .pth i p :: rs, env, vs, Se, Sx, ds, env2, en, ro, dd, hp, h => by
    simp only [List.map, Rv.hold, ROs] at ro
    obtain ⟨v, ws, T1, T2, rfl, r1, r2, d12, rfl⟩ := ro
    simp only [RO] at r1
    subst r1
    unfold takes at h
    cases gi : env[i]? with
    | none => simp only [gi] at h; cases h
    | some d =>
      simp only [gi] at h
      cases gp : getP d p with
      | none => simp only [gp] at h; cases h
      | some e =>
        simp only [gp] at h
        split at h
        · rename_i ho
          cases q : takes rs (env.set i .hole) with
          | none => rw [q] at h; cases h
          | some x =>
            rw [q] at h
            cases h
            obtain ⟨u, v', e1, e2, e3⟩ := hp 0 i p rfl
            have e2' : v = v' := by simpa using e2
            subst e2'
            obtain ⟨u', U1, U2, f1, f2, f3, rfl, en1⟩ := en.hole gi (getP_set gp (own_isSet ho))
            rw [e1] at f1; cases f1
            obtain ⟨w, S1, S2, p1, p2, p3, rfl, p5⟩ := f2.path p gp
            have := e3.inj p1
            subst this
            obtain ⟨Se2, Sr, Sa, g1, g2, g3, g4, g5, g6, g7⟩ := takes_ok (rs := rs) en1 r2 (fun a x y => dd a (.inr x) (.inr y)) (fun j i p hj => by simpa using hp (j + 1) i p (by simpa using hj)) q
            have hU : ∀ a, un S1 S2 a → ¬ (Se2 a ∨ Sr a ∨ Sa a) := fun a ha hb => by
              rcases (g6 a).mpr hb with z | z
              · exact f3 a ha z
              · exact dd a (.inl ha) (.inr z)
            refine ⟨Se2, un S2 Sr, un S1 Sa, g1, ?_, ?_, ?_, ?_, fun a => ?_, fun F' H' ds' Sa' ef k r c1 c2 => ?_⟩
            · simp only [ROs]
              exact ⟨v, ws, S1, Sa, rfl, p2, g2, fun a x y => hU a (.inl x) (.inr (.inr y)), rfl⟩
            · rintro a x (y | y)
              · exact hU a (.inr y) (.inl x)
              · exact g3 a x y
            · rintro a x (y | y)
              · exact hU a (.inl y) (.inl x)
              · exact g4 a x y
            · rintro a (x | x) (y | y)
              · exact p3 a y x
              · exact hU a (.inr x) (.inr (.inr y))
              · exact hU a (.inl y) (.inr (.inl x))
              · exact g5 a x y
            · have := g6 a
              simp only [un, em, false_or] at this ⊢
              constructor
              · rintro (((z | z) | z) | z)
                · simp [z]
                · simp [z]
                · rcases this.mp (.inl z) with z | z | z <;> simp [z]
                · rcases this.mp (.inr z) with z | z | z <;> simp [z]
              · rintro (z | (z | z) | (z | z))
                · rcases this.mpr (.inl z) with z | z <;> simp [z]
                · simp [z]
                · rcases this.mpr (.inr (.inl z)) with z | z <;> simp [z]
                · simp [z]
                · rcases this.mpr (.inr (.inr z)) with z | z <;> simp [z]
            · cases ds' with
              | nil => simp only [ROs] at r; exact absurd r.1 (by simp)
              | cons d' ds' =>
                simp only [ROs] at r
                obtain ⟨v', ws', V1, V2, ee, s1, s2, s3, rfl⟩ := r
                cases ee
                obtain ⟨T, t1, t2⟩ := g7 F' H' ds' V2 ef (fun a ha => k a (ha.imp id .inr)) s2 (fun a x y => c1 a x (.inr y)) (fun a x y => c2 a (.inr x) (.inr y))
                obtain ⟨r3, _⟩ := p5 F' H' d' V1 ef (fun a ha => k a (.inr (.inl ha))) s1 (fun a x y => c2 a (.inl y) (.inl x))
                have dT : dj T (un V1 S2) := fun a x y => by
                  rcases t2 a x with z | z | z
                  · rcases y with y | y
                    · exact c1 a z (.inl y)
                    · exact hU a (.inr y) (.inl z)
                  · rcases y with y | y
                    · exact c2 a (.inr z) (.inl y)
                    · exact hU a (.inr y) (.inr (.inl z))
                  · rcases y with y | y
                    · exact s3 a y z
                    · exact c2 a (.inl y) (.inr z)
                obtain ⟨T', t3, t4⟩ := t1.fill e1 r3 dT
                refine ⟨T', by simpa [putBack, gi] using t3, fun a z => ?_⟩
                rcases t4 a z with z | z | z
                · rcases t2 a z with z | z | z
                  · exact .inl z
                  · exact .inr (.inl (.inr z))
                  · exact .inr (.inr (.inr z))
                · exact .inr (.inr (.inl z))
                · exact .inr (.inl (.inl z))
        · cases h
/-- f(..) with the values dd of the defaults -/
def callF (Fn : List D → FR) (dd : List D) (fs : List D → R (List Rv)) : List D → R Rv := fun env => (fs env).bind fun rs env1 => match takes rs env1 with
  | some (ds, env2) => match Fn (ds ++ dd) with
    | .ok d ds' => .ok (.tmp d) (putBack rs env1 (ds'.take ds.length) env2)
    | .err c d ds' => .err c d (putBack rs env1 (ds'.take ds.length) env2)
    | .stuck => .stuck
  | none => .stuck
theorem se_call {ta : TA} {fs : List D → R (List Rv)} {Fn : List D → FR} {dvs : List V} {dd : List D} (h1 : SA M W b ta fs) (hdd : ∀ F H, ROs M F H dd dvs em) :
    SE M W false (tCallSD (spD M Fn) dvs (WE W) ta) (callF Fn dd fs) := by
  intro F H env σ S Q st en h
  refine h1 F H env σ S _ st en ?_
  unfold callF at h
  cases hf : fs env with
  | stuck => rw [hf] at h; exact h
  | err c d env1 => rw [hf] at h; exact h
  | ok rs env1 =>
    rw [hf] at h
    intro vs F1 H1 S1 s1 st1 hb1 res1
    obtain ⟨Se, St, en1, ro1, d1, rfl, pth1⟩ := res1
    have h : Post M W false F H σ S Q (match takes rs env1 with
      | some (ds, env2) => match Fn (ds ++ dd) with
        | .ok d ds' => .ok (.tmp d) (putBack rs env1 (ds'.take ds.length) env2)
        | .err c d ds' => .err c d (putBack rs env1 (ds'.take ds.length) env2)
        | .stuck => .stuck
      | none => .stuck) := h
    cases ht : takes rs env1 with
    | none => rw [ht] at h; exact h.elim
    | some x =>
      obtain ⟨ds, env2⟩ := x
      simp only [ht] at h
      obtain ⟨Se2, Sr, Sa, g1, g2, g3, g4, g5, g6, g7⟩ := takes_ok en1 ro1 d1 pth1 ht
      have e6 : un Se St = un Sa (un Se2 Sr) := AS.ext fun a => by
        rw [g6 a]
        simp only [un]
        constructor
        · rintro (z | z | z) <;> simp [z]
        · rintro (z | z | z) <;> simp [z]
      rw [e6] at s1 st1
      have dA : dj Sa (un Se2 Sr) := fun a x y => y.elim (fun y => g4 a y x) fun y => g5 a y x
      have roA : ROs M F1 H1 (ds ++ dd) (vs ++ dvs) Sa := by
        have := g2.app (hdd F1 H1) (fun _ _ h => h.elim)
        rw [un_em] at this
        exact this
      have hl : ds.length = vs.length := g2.len
      show spD M Fn (vs ++ dvs) H1 Q (WE W σ)
      refine ⟨F1, ds ++ dd, Sa, st1.sub fun a z => .inl z, roA, ?_⟩
      cases hF : Fn (ds ++ dd) with
      | stuck => rw [hF] at h; exact h.elim
      | ok d ds' =>
        rw [hF] at h
        intro v F2 H2 T1 T2 s2 st2 r1 r2 d2
        obtain ⟨w1, w2, w3, w4⟩ := s2.frame st1 st2 dA
        obtain ⟨Ta, Tb, k1, k2, k3, rfl⟩ := r1.split (n := ds.length)
        have k1' : ROs M F2 H2 (ds'.take ds.length) vs Ta := by
          have e : (vs ++ dvs).take ds.length = vs := by rw [hl, List.take_left']; rfl
          rw [e] at k1
          exact k1
        obtain ⟨T, t1, t2⟩ := g7 F2 H2 (ds'.take ds.length) Ta s2.ext (fun a ha => w4 a ha) k1' (fun a x y => w3 a (.inl (.inl y)) (.inl x)) (fun a x y => w3 a (.inl (.inl y)) (.inr x))
        have o : ∀ a, un T T2 a → un (un (un Ta Tb) T2) (un Se2 Sr) a := by
          rintro a (z | z)
          · rcases t2 a z with z | z | z
            · exact .inr (.inl z)
            · exact .inr (.inr z)
            · exact .inl (.inl (.inl z))
          · exact .inl (.inr z)
        refine h v F2 H2 (un T T2) ((s1.trans w1).drop o) (w2.sub o) (fun z => nomatch z) (ResR.one_tmp t1 r2 fun a x y => ?_)
        rcases t2 a x with z | z | z
        · exact w3 a (.inr y) (.inl z)
        · exact w3 a (.inr y) (.inr z)
        · exact d2 a (.inl z) y
      | err c d ds' =>
        rw [hF] at h
        intro cls dx F2 H2 T1 s2 st2 er2 r1
        obtain ⟨w1, w2, w3, w4⟩ := s2.frame st1 st2 dA
        obtain ⟨Ta, Tb, k1, k2, k3, rfl⟩ := r1.split (n := ds.length)
        have k1' : ROs M F2 H2 (ds'.take ds.length) vs Ta := by
          have e : (vs ++ dvs).take ds.length = vs := by rw [hl, List.take_left']; rfl
          rw [e] at k1
          exact k1
        obtain ⟨T, t1, t2⟩ := g7 F2 H2 (ds'.take ds.length) Ta s2.ext (fun a ha => w4 a ha) k1' (fun a x y => w3 a (.inl y) (.inl x)) (fun a x y => w3 a (.inl y) (.inr x))
        have o : ∀ a, T a → un (un Ta Tb) (un Se2 Sr) a := fun a z => by
          rcases t2 a z with z | z | z
          · exact .inr (.inl z)
          · exact .inr (.inr z)
          · exact .inl (.inl z)
        exact h F2 H2 T cls dx ((s1.trans w1).drop o) (w2.sub o) er2 t1
end
end VS
/-! VSComp: things that are kept in others, displays, comprehensions. -/
namespace VS
open PySem PyProof.Rows L2

section
variable {M : Mn} {W : WD} {b b1 b2 : Bool} {F H F' H' F1 H1 : Hp} {env env' env1 : List D} {σ : L2.St} {S S' S1 T : AS} {pr : Nat → Bool}
/-- what is owned is put into F -/
theorem ROs.freezeF {ds : List D} {vs : List V} {St : AS} (h : ROs M F H ds vs St) (st : Stt M F H (un S St)) (dd : dj S St) :
    ∃ F', Ext F F' ∧ ROs M F' H (fzs ds) vs em ∧ Stt M F' H S ∧ Step F H (un S St) F' H S := by
  let F' : Hp := fun a => if F a = none then (open Classical in if St a then H a else none) else F a
  have eF : Ext F F' := fun a u h => by
    show (if F a = none then _ else F a) = _
    rw [if_neg (by rw [h]; exact fun z => nomatch z)]
    exact h
  have fS : ∀ a, St a → F' a = H a := fun a ha => by
    show (if F a = none then _ else F a) = _
    rw [if_pos (st.fr a (.inr ha)), if_pos ha]
  have fN : ∀ a u, F' a = some u → F a = some u ∨ (St a ∧ H a = some u) := fun a u h => by
    cases q : F a with
    | some x => rw [eF a x q] at h; exact .inl h
    | none =>
      right
      have h' : (if F a = none then (open Classical in if St a then H a else none) else F a) = some u := h
      rw [if_pos q] at h'
      by_cases hs : St a
      · rw [if_pos hs] at h'; exact ⟨hs, h'⟩
      · rw [if_neg hs] at h'; cases h'
  refine ⟨F', eF, h.freeze ds eF fS, ⟨fun a u h => ?_, fun a h => ?_, fun a h => st.al a (.inl h), st.tb, st.ftN fun a u h => (fN a u h).imp id fun z => .inl (.inr z.1)⟩, Step.mk0 eF (fun _ _ h _ => h) (fun a h => .inl (.inl h)) fun a u h => ?_⟩
  · rcases fN a u h with h | ⟨_, h⟩
    · exact st.fh a u h
    · exact .inl h
  · cases q : F' a with
    | none => rfl
    | some u =>
      exfalso
      rcases fN a u q with z | ⟨z, _⟩
      · rw [st.fr a (.inl h)] at z; cases z
      · exact dd a h z
  · rcases fN a u h with h | ⟨h, _⟩
    · exact .inl h
    · exact .inr (.inl (.inr h))
/-- kept in another thing: frozen -/
def escz (rs : List Rv) (env : List D) : Option (List D × List D) := (escs rs env).map fun q => (fzs q.1, q.2)
theorem hold_tmp (ds : List D) : (ds.map Rv.tmp).map Rv.hold = ds := by induction ds with
  | nil => rfl
  | cons d ds ih => simp only [List.map, Rv.hold, ih]
theorem escz_ok {rs : List Rv} {ds : List D} {vs : List V} (h : escz rs env = some (ds, env')) (st : Stt M F H S) (r : ResR M F H env σ rs vs S) :
    ∃ F' S', Step F H S F' H S' ∧ Stt M F' H S' ∧ EnvR M F' H env' σ S' ∧ ROs M F' H ds vs em := by
  unfold escz at h
  cases q : escs rs env with
  | none => rw [q] at h; cases h
  | some x =>
    rw [q] at h
    cases h
    obtain ⟨F1, S1, s1, st1, r1⟩ := escs_ok (ts := []) (ds := x.1) (env' := x.2) q st (by simpa using r)
    obtain ⟨Se, St, en, ro, dd, rfl, _⟩ := r1
    rw [List.nil_append, hold_tmp] at ro
    obtain ⟨F2, e2, ro2, st2, s2⟩ := ro.freezeF st1 dd
    exact ⟨F2, Se, s1.trans s2, st2, en.mono e2 (fun _ _ => rfl), ro2⟩

/-! ### displays -/
def LIM : Nat := 1000000
theorem lim_ok {n : Nat} (h : n ≤ LIM) : n ≤ sizeLine := Nat.le_trans h (by decide)
theorem lim_lt {n : Nat} (h : n < LIM) : n < sizeLine := Nat.lt_of_lt_of_le h (by decide)
/-- a new object -/
theorem new_obj {z : D} {o : HO} {p : Addr} (st : Stt M F H S) (en : EnvR M F H env σ S) (hp : H p = none) (ro : RO M F (upd H p o) z (.ref p) (fun a => a = p)) (hpl : pl o := by exact True.intro) :
    Step F H S F (upd H p o) (un S fun a => a = p) ∧ Stt M F (upd H p o) (un S fun a => a = p) ∧ ResR M F (upd H p o) env σ [.tmp z] [.ref p] (un S fun a => a = p) := by
  have kk : ∀ a, S a → upd H p o a = H a := fun a ha => by
    obtain ⟨u, e⟩ := st.al1 a ha
    exact upd_ne (fun z => by rw [z, hp] at e; cases e)
  have Fp : F p = none := by
    cases q : F p with
    | none => rfl
    | some u =>
      rcases st.fh p u q with z | ⟨_, _, z⟩ <;> (rw [hp] at z; cases z)
  have ex : Ext H (upd H p o) := fun a u e => by rw [upd_ne (fun z => by rw [z, hp] at e; cases e)]; exact e
  refine ⟨Step.mk0 (Ext.refl F) (fun a u e _ => ex a u e) (fun a h => ?_) (fun a u h => .inl h), ⟨fun a u e => ?_, fun a h => ?_, fun a h => ?_, st.tabsE ex, st.ft⟩, ResR.one_tmp (en.mono (Ext.refl F) kk) ro fun a h1 h2 => ?_⟩
  · rcases h with h | h
    · exact .inl h
    · exact .inr (by rw [h]; exact hp)
  · rcases st.fh a u e with z | ⟨l, o', z⟩
    · exact .inl (ex a u z)
    · exact .inr ⟨l, o', ex a _ z⟩
  · rcases h with h | h
    · exact st.fr a h
    · rw [h]; exact Fp
  · rcases h with h | h
    · rw [kk a h]; exact st.al a h
    · exact ⟨o, by rw [h]; exact upd_same, hpl⟩
  · obtain ⟨u, e⟩ := st.al1 a h1
    rw [h2, hp] at e
    cases e
/-- a new object that is frozen at once -/
theorem new_frz {z : D} {o : HO} {p : Addr} (st : Stt M F H S) (en : EnvR M F H env σ S) (hp : H p = none) (ro : RO M (upd F p o) (upd H p o) z (.ref p) em) :
    Step F H S (upd F p o) (upd H p o) S ∧ Stt M (upd F p o) (upd H p o) S ∧ ResR M (upd F p o) (upd H p o) env σ [.tmp z] [.ref p] S := by
  have kk : ∀ a, S a → upd H p o a = H a := fun a ha => by
    obtain ⟨u, e⟩ := st.al1 a ha
    exact upd_ne (fun z => by rw [z, hp] at e; cases e)
  have Fp : F p = none := by
    cases q : F p with
    | none => rfl
    | some u =>
      rcases st.fh p u q with z | ⟨_, _, z⟩ <;> (rw [hp] at z; cases z)
  have exH : Ext H (upd H p o) := fun a u e => by rw [upd_ne (fun z => by rw [z, hp] at e; cases e)]; exact e
  have exF : Ext F (upd F p o) := fun a u e => by rw [upd_ne (fun z => by rw [z, Fp] at e; cases e)]; exact e
  have r := ResR.one_tmp (en.mono exF kk) ro (fun _ _ h => h.elim)
  rw [un_em] at r
  refine ⟨Step.mk0 exF (fun a u e _ => exH a u e) (fun a h => .inl h) (fun a u h => ?_), ⟨fun a u e => ?_, fun a h => ?_, fun a h => ?_, st.tabsE exH, st.ftN fun a u h => by
    by_cases e : a = p
    · exact .inr (.inr (by rw [e]; exact hp))
    · rw [upd_ne e] at h; exact .inl h⟩, r⟩
  · by_cases e : a = p
    · exact .inr (.inr (by rw [e]; exact hp))
    · rw [upd_ne e] at h; exact .inl h
  · by_cases ea : a = p
    · subst ea
      rw [upd_same] at e
      cases e
      exact .inl upd_same
    · rw [upd_ne ea] at e
      rw [upd_ne ea]
      exact st.fh a u e
  · have : a ≠ p := fun z => by
      obtain ⟨u, e⟩ := st.al1 a h
      rw [z, hp] at e
      cases e
    rw [upd_ne this]
    exact st.fr a h
  · rw [kk a h]; exact st.al a h
def lstF (fs : List D → R (List Rv)) : List D → R Rv := fun env => (fs env).bind fun rs env1 => match escz rs env1 with
  | some (ds, env2) => if ds.length ≤ LIM then .ok (.tmp (.lst true ds)) env2 else .stuck
  | none => .stuck
def tupF (fs : List D → R (List Rv)) : List D → R Rv := fun env => (fs env).bind fun rs env1 => match escz rs env1 with
  | some (ds, env2) => if ds.length ≤ LIM then .ok (.tmp (.tup false ds)) env2 else .stuck
  | none => .stuck
theorem se_lst {ta : TA} {fs : List D → R (List Rv)} (h1 : SA M W b ta fs) : SE M W b (tLst ta) (lstF fs) := by
  intro F H env σ S Q st en h
  refine h1 F H env σ S _ st en ?_
  unfold lstF at h
  cases hf : fs env with
  | stuck => rw [hf] at h; exact h
  | err c d env1 => rw [hf] at h; exact h
  | ok rs env1 =>
    rw [hf] at h
    intro vs F1 H1 S1 s1 st1 hb1 res1
    have h : Post M W b F H σ S Q (match escz rs env1 with
      | some (ds, env2) => if ds.length ≤ LIM then .ok (.tmp (.lst true ds)) env2 else .stuck
      | none => .stuck) := h
    cases q : escz rs env1 with
    | none => rw [q] at h; exact h.elim
    | some x =>
      obtain ⟨ds, env2⟩ := x
      rw [q] at h
      obtain ⟨F2, S2, s2, st2, en2, ro2⟩ := escz_ok q st1 res1
      have h : Post M W b F H σ S Q (if ds.length ≤ LIM then .ok (.tmp (.lst true ds)) env2 else .stuck) := h
      split at h
      · rename_i hl
        refine ⟨by rw [← ro2.len]; exact lim_ok hl, fun p hp => ?_⟩
        have ro3 : RO M F2 (upd H1 p (.lst vs)) (.lst true ds) (.ref p) (fun a => a = p) := by
          simp only [RO, if_true]
          refine ⟨p, vs, em, rfl, ro2.mono ds (Ext.refl _) (fun _ h => h.elim), upd_same, fun h => h, AS.ext fun a => by simp [on1, em]⟩
        obtain ⟨g1, g2, g3⟩ := new_obj st2 en2 hp ro3
        exact h (.ref p) F2 _ _ ((s1.trans s2).trans g1) g2 (fun hb => (hb1 hb).trans (fun a u e => by rw [upd_ne (fun z => by rw [z, hp] at e; cases e)]; exact e)) g3
      · exact h.elim
theorem se_tup {ta : TA} {fs : List D → R (List Rv)} (h1 : SA M W b ta fs) : SE M W b (tTup ta) (tupF fs) := by
  intro F H env σ S Q st en h
  refine h1 F H env σ S _ st en ?_
  unfold tupF at h
  cases hf : fs env with
  | stuck => rw [hf] at h; exact h
  | err c d env1 => rw [hf] at h; exact h
  | ok rs env1 =>
    rw [hf] at h
    intro vs F1 H1 S1 s1 st1 hb1 res1
    have h : Post M W b F H σ S Q (match escz rs env1 with
      | some (ds, env2) => if ds.length ≤ LIM then .ok (.tmp (.tup false ds)) env2 else .stuck
      | none => .stuck) := h
    cases q : escz rs env1 with
    | none => rw [q] at h; exact h.elim
    | some x =>
      obtain ⟨ds, env2⟩ := x
      rw [q] at h
      obtain ⟨F2, S2, s2, st2, en2, ro2⟩ := escz_ok q st1 res1
      have h : Post M W b F H σ S Q (if ds.length ≤ LIM then .ok (.tmp (.tup false ds)) env2 else .stuck) := h
      split at h
      · rename_i hl
        refine ⟨by rw [← ro2.len]; exact lim_ok hl, fun p hp => ?_⟩
        have Fp : F2 p = none := by
          cases q : F2 p with
          | none => rfl
          | some u =>
            rcases st2.fh p u q with z | ⟨_, _, z⟩ <;> (rw [hp] at z; cases z)
        have ro3 : RO M (upd F2 p (.tup vs)) (upd H1 p (.tup vs)) (.tup false ds) (.ref p) em := by
          simp only [RO, Bool.false_eq_true, if_false]
          refine ⟨p, vs, em, rfl, ro2.mono ds (fun a u e => ?_) (fun _ h => h.elim), upd_same, by trivial, by trivial⟩
          rw [upd_ne (fun z => by rw [z, Fp] at e; cases e)]
          exact e
        obtain ⟨g1, g2, g3⟩ := new_frz st2 en2 hp ro3
        exact h (.ref p) _ _ _ ((s1.trans s2).trans g1) g2 (fun hb => (hb1 hb).trans (fun a u e => by rw [upd_ne (fun z => by rw [z, hp] at e; cases e)]; exact e)) g3
      · exact h.elim

/-! ### what is walked -/
theorem RL.get : ∀ {ds : List D} {vs : List V} {i : Nat} {d : D}, RL M F H ds vs → ds[i]? = some d → ∃ v S, vs[i]? = some v ∧ RO M F H d v S
  | [], vs, i, d, h, e => by simp at e
  | d0 :: ds, vs, 0, d, h, e => by
    obtain ⟨v, ws, S, rfl, r, _⟩ := h
    have : d0 = d := by simpa using e
    subst this
    exact ⟨v, S, rfl, r⟩
  | d0 :: ds, vs, i + 1, d, h, e => by
    obtain ⟨v, ws, S, rfl, _, r⟩ := h
    obtain ⟨v', S', e1, r1⟩ := RL.get (i := i) r (by simpa using e)
    exact ⟨v', S', by simpa using e1, r1⟩
def intsD (lo : Int) (n : Nat) : List D := (List.range n).map fun k => .int (lo + (k : Nat))
theorem intsD_get {lo : Int} {n i : Nat} (h : i < n) : (intsD lo n)[i]? = some (.int (lo + (i : Nat))) := by simp [intsD, h]
theorem intsD_len {lo : Int} {n : Nat} : (intsD lo n).length = n := by simp [intsD]
theorem itOk_range {lo : Int} {n : Nat} : ItOk M (Itr lo n) F H T (intsD lo n) := by
  intro F2 H2 e fh k kn _ i
  rw [intsD_len]
  refine ⟨fun hi => ⟨hi, fun x H3 y => ?_⟩, fun hi => hi⟩
  obtain ⟨rfl, rfl⟩ := y
  exact ⟨F2, Ext.refl _, Ext.refl _, fh, fun a u h => .inl h, _, intsD_get hi, rfl, by simp [RO]⟩
def itF (fs : List D → R (List Rv)) (k : List D → Option (List D)) : List D → R (List D) := fun env => (fs env).bind fun rs env1 => match (fetchs env1 rs).bind k with
      | some its => .ok its env1
      | none => .stuck
/-- arguments, then an iterator -/
theorem si_args {ta : TA} {fs : List D → R (List Rv)} {k : List D → Option (List D)} {kk : List V → Hp → (It → Hp → Prop) → Prop} (h1 : SA M W b ta fs)
    (hk : ∀ F H ds vs its R T, Stt M F H T → RL M F H ds vs → k ds = some its → (∀ J, ItOk M J F H T its → R J H) → kk vs H R) :
    SI M W (fun σ H R => ta σ H fun vs H1 => kk vs H1 R) (itF fs k) := by
  intro F H env σ S Q st en h
  unfold itF at h
  refine h1 F H env σ S _ st en ?_
  cases hf : fs env with
  | stuck => rw [hf] at h; exact h
  | err c d env1 => rw [hf] at h; exact h
  | ok rs env1 =>
    rw [hf] at h
    intro vs F1 H1 S1 s1 st1 hb1 res1
    have h : PostI M W F H σ S Q (match (fetchs env1 rs).bind k with
      | some its => .ok its env1
      | none => .stuck) := h
    obtain ⟨Se, St, en1, ro1, d1, rfl, pth1⟩ := res1
    cases q : fetchs env1 rs with
    | none => rw [q] at h; exact h.elim
    | some ds =>
      rw [q] at h
      cases q2 : k ds with
      | none =>
        have h : PostI M W F H σ S Q (match k ds with
          | some its => .ok its env1
          | none => .stuck) := h
        rw [q2] at h; exact h.elim
      | some its =>
        have h : PostI M W F H σ S Q (match k ds with
          | some its => .ok its env1
          | none => .stuck) := h
        rw [q2] at h
        have sT : Stt M F1 H1 St := st1.sub fun a z => .inr z
        have := rl_of (Se := Se) (St := St) en1 ro1 pth1 q
        exact hk F1 H1 ds vs its _ St sT this q2 fun J hJ => h J F1 H1 Se St s1 st1 d1 en1 hJ
def big : Int := 2 ^ 62
def rng1K : List D → Option (List D) := fun ds => match ds with
  | [.int j] => if -big ≤ j ∧ j < big then some (intsD 0 j.toNat) else none
  | _ => none
def rng2K : List D → Option (List D) := fun ds => match ds with
  | [.int i, .int j] => if -big ≤ i ∧ i < big ∧ -big ≤ j ∧ j < big then some (intsD i (j - i).toNat) else none
  | _ => none
theorem si_range1 {ta : TA} {fs : List D → R (List Rv)} (h1 : SA M W b ta fs) : SI M W (iRng1 ta) (itF fs rng1K) := by
  refine si_args (k := rng1K) (kk := fun vs H1 R => ∃ j : Int, vs = [.int j] ∧ -(2 ^ 62) ≤ j ∧ j < 2 ^ 62 ∧ R (Itr 0 j.toNat) H1) h1 fun F H ds vs its R T st rl e hR => ?_
  unfold rng1K at e
  split at e
  · rename_i j
    split at e
    · rename_i hb
      cases e
      obtain ⟨v, ws, S, rfl, r, rr⟩ := rl
      simp only [RL] at rr
      simp only [RO] at r
      obtain ⟨rfl, _⟩ := r
      subst rr
      exact ⟨j, rfl, hb.1, hb.2, hR _ itOk_range⟩
    · cases e
  · cases e
theorem si_range2 {ta : TA} {fs : List D → R (List Rv)} (h1 : SA M W b ta fs) : SI M W (iRng2 ta) (itF fs rng2K) := by
  refine si_args (k := rng2K) (kk := fun vs H1 R => ∃ i j : Int, vs = [.int i, .int j] ∧ (-(2 ^ 62) ≤ i ∧ i < 2 ^ 62 ∧ -(2 ^ 62) ≤ j ∧ j < 2 ^ 62) ∧ R (Itr i (j - i).toNat) H1) h1 fun F H ds vs its R T st rl e hR => ?_
  unfold rng2K at e
  split at e
  · rename_i i j
    split at e
    · rename_i hb
      cases e
      obtain ⟨v, ws, S, rfl, r, v2, ws2, S2, rfl, r2, rr⟩ := rl
      simp only [RL] at rr
      simp only [RO] at r r2
      obtain ⟨rfl, _⟩ := r
      obtain ⟨rfl, _⟩ := r2
      subst rr
      exact ⟨i, j, rfl, hb, hR _ itOk_range⟩
    · cases e
  · cases e

/-! ### sequences -/
def allFz (xs : List D) : Bool := xs.all isFz
theorem ROs.fz_em : ∀ {ds : List D} {vs : List V} {S : AS}, ROs M F H ds vs S → allFz ds = true → S = em
  | [], vs, S, h, _ => by simp only [ROs] at h; exact h.2
  | d :: ds, vs, S, h, e => by
    simp only [ROs] at h
    obtain ⟨v, ws, S1, S2, rfl, r1, r2, dd, rfl⟩ := h
    simp only [allFz, List.all_cons, Bool.and_eq_true] at e
    rw [r1.fz_em e.1, ROs.fz_em r2 e.2, un_em]
/-- the items of a list, a tuple, a text -/
def itemsD : D → Option (List D)
  | .lst o xs => if o = true then (if allFz xs = true then some xs else none) else some xs
  | .tup o xs => if o = true then (if allFz xs = true then some xs else none) else some xs
  | .str s => some (s.map fun c => .str [c])
  | .scr ns => some (ns.map .int)
  | _ => none
def setAll (xs : List D) : Bool := xs.all isSet
def seqF (f : List D → R Rv) : List D → R (List D) := fun env => (f env).bind fun r env1 => match esc1 r env1 with
  | some (d, env2) => match itemsD d with
    | some its => if setAll its = true then .ok its env2 else .stuck
    | none => .stuck
  | none => .stuck
theorem setAll_get {xs : List D} {i : Nat} {d : D} (h : setAll xs = true) (e : xs[i]? = some d) : isSet d = true := List.all_eq_true.mp h d (List.mem_of_getElem? e)
theorem Stt.none_of {p : Addr} (st : Stt M F H S) (hp : H p = none) : F p = none := by
  cases q : F p with
  | none => rfl
  | some u =>
    rcases st.fh p u q with z | ⟨_, _, z⟩ <;> (rw [hp] at z; cases z)
theorem itOk_seq {J : It} {xs : List D} {vs : List V} {Sq : Hp → List V → Prop} (hJ : J = ⟨fun i H => ∃ xs x, Sq H xs ∧ xs[i]? = some x, fun i H x H' => H' = H ∧ ∀ xs, Sq H xs → xs[i]? = some x, fun i H => ∃ xs, Sq H xs ∧ xs.length ≤ i⟩)
    (rs : ROs M F H xs vs em) (hs : setAll xs = true) (st : ∀ F2 H2, Ext F F2 → FH F2 H2 → (∀ a, S a → H2 a = H a) → Sq H2 vs) : ItOk M J F H S xs := by
  subst hJ
  intro F2 H2 e fh2 k kn _ i
  have sq := st F2 H2 e fh2 k
  refine ⟨fun hi => ⟨?_, fun x H3 y => ?_⟩, fun hi => ⟨vs, sq, by rw [← rs.len]; exact hi⟩⟩
  · have hv : i < vs.length := by rw [← rs.len]; exact hi
    exact ⟨vs, vs[i], sq, List.getElem?_eq_getElem hv⟩
  · obtain ⟨rfl, y⟩ := y
    have e1 := y vs sq
    have hd : xs[i]? = some xs[i] := List.getElem?_eq_getElem hi
    obtain ⟨v, S1, S2, e2, r1, _, e3, _⟩ := rs.focus i hd
    rw [e1] at e2
    cases e2
    have : S1 = em := AS.ext fun a => ⟨fun z => by
      have : (un S1 S2) a := .inl z
      rw [← e3] at this
      exact this, fun z => z.elim⟩
    subst this
    exact ⟨F2, Ext.refl _, Ext.refl _, fh2, fun a u h => .inl h, xs[i], hd, setAll_get hs hd, r1.mono _ e fun _ h => h.elim⟩
theorem itOk_list {o : Bool} {xs : List D} {v : V} (r : RO M F H (.lst o xs) v S) (fh : FH F H) (hz : o = true → allFz xs = true) (hs : setAll xs = true) :
    ∃ a vs, v = .ref a ∧ SqL M.K H a vs ∧ ItOk M (Itl M.K a) F H S xs := by
  simp only [RO] at r
  obtain ⟨a, vs, T, rfl, hT, c⟩ := r
  cases o with
  | true =>
    simp only [if_true] at c
    obtain ⟨h1, h2, rfl⟩ := c
    have := hT.fz_em (hz rfl)
    subst this
    exact ⟨a, vs, rfl, SqL.of h1, itOk_seq (Sq := fun H => SqL M.K H a) rfl hT hs fun F2 H2 e fh2 k => SqL.of (by rw [k a (.inl rfl)]; exact h1)⟩
  | false =>
    simp only [Bool.false_eq_true, if_false] at c
    obtain ⟨h1, rfl, rfl⟩ := c
    exact ⟨a, vs, rfl, rd_lst fh h1, itOk_seq (Sq := fun H => SqL M.K H a) rfl hT hs fun F2 H2 e fh2 k => rd_lst fh2 (e _ _ h1)⟩
theorem itOk_tup {o : Bool} {xs : List D} {v : V} (r : RO M F H (.tup o xs) v S) (fh : FH F H) (hz : o = true → allFz xs = true) (hs : setAll xs = true) :
    ∃ a vs, v = .ref a ∧ SqT M.K H a vs ∧ ItOk M (Itt M.K a) F H S xs := by
  simp only [RO] at r
  obtain ⟨a, vs, T, rfl, hT, c⟩ := r
  cases o with
  | true =>
    simp only [if_true] at c
    obtain ⟨h1, h2, rfl⟩ := c
    have := hT.fz_em (hz rfl)
    subst this
    exact ⟨a, vs, rfl, SqT.of h1, itOk_seq (Sq := fun H => SqT M.K H a) rfl hT hs fun F2 H2 e fh2 k => SqT.of (by rw [k a (.inl rfl)]; exact h1)⟩
  | false =>
    simp only [Bool.false_eq_true, if_false] at c
    obtain ⟨h1, rfl, rfl⟩ := c
    exact ⟨a, vs, rfl, rd_tup fh h1, itOk_seq (Sq := fun H => SqT M.K H a) rfl hT hs fun F2 H2 e fh2 k => rd_tup fh2 (e _ _ h1)⟩
theorem itOk_str {s : List Nat} : ItOk M (Its ⟨s.toArray⟩) F H S (s.map fun c => .str [c]) := by
  intro F2 H2 e fh2 k kn _ i
  refine ⟨fun hi => ⟨by simpa [Its] using hi, fun x H3 y => ?_⟩, fun hi => by simpa [Its] using hi⟩
  obtain ⟨rfl, c, h1, rfl⟩ := y
  have h1' : s[i]? = some c := by simpa using h1
  exact ⟨F2, Ext.refl _, Ext.refl _, fh2, fun a u h => .inl h, .str [c], by rw [List.getElem?_map, h1']; rfl, rfl, by simp [RO]⟩
theorem ros_ints : ∀ ns : List Int, ROs M F H (ns.map D.int) (ns.map V.int) em
  | [] => by simp [ROs]
  | n :: ns => by
    simp only [List.map, ROs, RO]
    exact ⟨_, _, em, em, rfl, ⟨rfl, rfl⟩, ros_ints ns, fun _ h _ => h.elim, (em_un em).symm⟩
theorem setAll_ints (ns : List Int) : setAll (ns.map D.int) = true := by simp [setAll, isSet]
theorem itOk_scr {ns : List Int} {a : Addr} (sq : SqL M.K F a (ns.map V.int)) (fh : FH F H) : ItOk M (Itl M.K a) F H S (ns.map D.int) :=
  itOk_seq (Sq := fun H => SqL M.K H a) rfl (ros_ints ns) (setAll_ints ns) fun F2 H2 e fh2 k => rd_scr fh2 (sql_ext e sq)
/-- over a list, a tuple or a text -/
def iSeq (K : PySem.W.Frag) (te : TE) : TI := fun σ H R => iList K te σ H R ∨ iTup K te σ H R ∨ iStr te σ H R
theorem pi_seq {X : Cx} {tg l : Expr} {te : TE} (h : PE X l te) : PI X tg l (iSeq X.K te) :=
  ⟨fun pins s σ H R I q => q.elim (fun q => (pi_list h).run pins s σ H R I q) fun q => q.elim (fun q => (pi_tup h).run pins s σ H R I q) fun q => (pi_str h).run pins s σ H R I q⟩
theorem si_seq {te : TE} {f : List D → R Rv} (h1 : SE M W b te f) : SI M W (iSeq M.K te) (seqF f) := by
  intro F H env σ S Q st en h
  unfold seqF at h
  have go : ∀ {R : V → Hp → Prop}, (∀ r env1 v F1 H1 S1, f env = .ok r env1 → Step F H S F1 H1 S1 → Stt M F1 H1 S1 → ResR M F1 H1 env1 σ [r] [v] S1 → R v H1) → te σ H R := fun {R} hk => by
    refine h1 F H env σ S R st en ?_
    cases hf : f env with
    | stuck => rw [hf] at h; exact h
    | err c d env1 => rw [hf] at h; exact h
    | ok r env1 => exact fun v F1 H1 S1 s1 st1 _ r1 => hk r env1 v F1 H1 S1 hf s1 st1 r1
  cases hf : f env with
  | stuck => rw [hf] at h; exact h.elim
  | err c d env1 => exact .inl (go fun r e v F1 H1 S1 q => by rw [hf] at q; cases q)
  | ok r env1 =>
    rw [hf] at h
    have h : PostI M W F H σ S Q (match esc1 r env1 with
      | some (d, env2) => match itemsD d with
        | some its => if setAll its = true then .ok its env2 else .stuck
        | none => .stuck
      | none => .stuck) := h
    cases q : esc1 r env1 with
    | none => rw [q] at h; exact h.elim
    | some x =>
      obtain ⟨d, env2⟩ := x
      rw [q] at h
      cases qi : itemsD d with
      | none => simp only [qi] at h; exact h.elim
      | some its =>
        simp only [qi] at h
        split at h
        · rename_i hs
          -- behind the escape
          have fin : ∀ {R : V → Hp → Prop}, (∀ v F2 H1 Se St, Step F H S F2 H1 (un Se St) → Stt M F2 H1 (un Se St) → dj Se St → EnvR M F2 H1 env2 σ Se → RO M F2 H1 d v St → R v H1) → te σ H R := fun {R} hk =>
            go fun r' e' v F1 H1 S1 qq s1 st1 r1 => by
              rw [hf] at qq
              cases qq
              obtain ⟨F2, S2, s2, st2, r2⟩ := esc1_ok q st1 r1
              obtain ⟨Se, St, en2, ro2, dd, rfl⟩ := r2.tmp_in
              exact hk v F2 H1 Se St (s1.trans s2) st2 dd en2 ro2
          cases d with
          | lst o xs =>
            refine .inl (fin fun v F2 H1 Se St s2 st2 dd en2 ro2 => ?_)
            have hx : its = xs ∧ (o = true → allFz xs = true) := by
              cases o with
              | true =>
                simp only [itemsD, if_true] at qi
                split at qi
                · rename_i hz; cases qi; exact ⟨rfl, fun _ => hz⟩
                · cases qi
              | false =>
                simp only [itemsD, Bool.false_eq_true, if_false] at qi
                cases qi
                exact ⟨rfl, fun z => nomatch z⟩
            obtain ⟨rfl, hz⟩ := hx
            obtain ⟨a, vs, rfl, sq, ok⟩ := itOk_list ro2 st2.fh hz hs
            exact ⟨a, rfl, ⟨vs, sq⟩, h _ F2 H1 Se St s2 st2 dd en2 ok⟩
          | tup o xs =>
            refine .inr (.inl (fin fun v F2 H1 Se St s2 st2 dd en2 ro2 => ?_))
            have hx : its = xs ∧ (o = true → allFz xs = true) := by
              cases o with
              | true =>
                simp only [itemsD, if_true] at qi
                split at qi
                · rename_i hz; cases qi; exact ⟨rfl, fun _ => hz⟩
                · cases qi
              | false =>
                simp only [itemsD, Bool.false_eq_true, if_false] at qi
                cases qi
                exact ⟨rfl, fun z => nomatch z⟩
            obtain ⟨rfl, hz⟩ := hx
            obtain ⟨a, vs, rfl, sq, ok⟩ := itOk_tup ro2 st2.fh hz hs
            exact ⟨a, rfl, ⟨vs, sq⟩, h _ F2 H1 Se St s2 st2 dd en2 ok⟩
          | str s =>
            refine .inr (.inr (fin fun v F2 H1 Se St s2 st2 dd en2 ro2 => ?_))
            simp only [RO] at ro2
            obtain ⟨rfl, rfl⟩ := ro2
            simp only [itemsD] at qi
            cases qi
            exact ⟨_, rfl, h _ F2 H1 Se em s2 st2 dd en2 itOk_str⟩
          | scr ns =>
            refine .inl (fin fun v F2 H1 Se St s2 st2 dd en2 ro2 => ?_)
            simp only [RO] at ro2
            obtain ⟨⟨a, rfl, sq⟩, rfl⟩ := ro2
            simp only [itemsD] at qi
            cases qi
            exact ⟨a, rfl, ⟨_, rd_scr st2.fh sq⟩, h _ F2 H1 Se em s2 st2 dd en2 (itOk_scr sq st2.fh)⟩
          | _ => simp [itemsD] at qi
        · exact h.elim

/-! ### comprehensions -/
def wipeE (env : List D) : List Nat → List D
  | [] => env
  | v :: vs => (wipeE env vs).set v .unset
/-- the block's own slots hold nothing that is owned -/
def okW (env : List D) (vs : List Nat) : Bool := vs.all fun v => match env[v]? with
  | some d => !isSet d || isFz d
  | none => true
def unwipe (env0 : List D) : List Nat → List D → List D
  | [], env => env
  | v :: vs, env => (unwipe env0 vs env).set v (env0.getD v .unset)
theorem EnvR.forget1 {i : Nat} {x : Option V} (h : EnvR M F H env σ S) : ∃ T, EnvR M F H (env.set i .unset) (σ.set i x) T ∧ ∀ a, T a → S a := by
  obtain ⟨T, ⟨vs, rs, l, q⟩, o⟩ := h.forget (i := i)
  refine ⟨T, ⟨vs, rs, by simpa using l, fun j c hj hc => ?_⟩, o⟩
  by_cases hij : i = j
  · subst hij
    by_cases hi : i < env.length
    · rw [List.getElem?_set_self hi] at hj
      cases hj
      cases hc
    · rw [List.getElem?_eq_none (by simpa using hi)] at hj
      cases hj
  · rw [List.getElem?_set_ne hij]
    exact q j c hj hc
theorem EnvR.wipe (h : EnvR M F H env σ S) : ∀ vs : List Nat, ∃ T, EnvR M F H (wipeE env vs) (L2.wipe σ vs) T ∧ ∀ a, T a → S a
  | [] => ⟨S, h, fun _ z => z⟩
  | v :: vs => by
    obtain ⟨T, h1, o1⟩ := EnvR.wipe h vs
    obtain ⟨T2, h2, o2⟩ := h1.forget1 (i := v)
    exact ⟨T2, h2, fun a z => o1 a (o2 a z)⟩
theorem wipe_get {σ : L2.St} {i : Nat} : ∀ {vs : List Nat}, i ∉ vs → (L2.wipe σ vs)[i]? = σ[i]?
  | [], _ => rfl
  | v :: vs, h => by
    unfold L2.wipe
    rw [List.getElem?_set_ne (fun e => h (by simp [e])), wipe_get (fun z => h (by simp [z]))]
/-- the slots are as they were -/
theorem EnvR.unwipe {vs0 : List Nat} {env0 : List D} {F0 H0 : Hp} {S0 : AS} (h : EnvR M F H env (L2.wipe σ vs0) S) (h0 : EnvR M F0 H0 env0 σ S0) (e : Ext F0 F) (ok : okW env0 vs0 = true) :
    ∃ T, EnvR M F H (VS.unwipe env0 vs0 env) σ T ∧ ∀ a, T a → S a := by
  obtain ⟨ws0, rs0, l0, q0⟩ := h0
  have go : ∀ vs : List Nat, (∀ v ∈ vs, v ∈ vs0) → ∃ (σ' : L2.St) (T : AS), EnvR M F H (VS.unwipe env0 vs env) σ' T ∧ (∀ a, T a → S a) ∧ σ'.length = σ.length ∧ ∀ i, (i ∈ vs ∨ i ∉ vs0) → σ'[i]? = σ[i]? := by
    intro vs
    induction vs with
    | nil => exact fun _ => ⟨L2.wipe σ vs0, S, h, fun _ z => z, L2.wipe_length σ vs0, fun i hi => hi.elim (fun z => by simp at z) fun z => wipe_get z⟩
    | cons v vs ih =>
      intro hv
      obtain ⟨σ1, T1, en1, o1, l1, q1⟩ := ih fun x hx => hv x (by simp [hx])
      have hv0 := hv v (by simp)
      have fin : ∀ {x : Option V}, v < σ.length → σ[v]? = some x → ∀ i, (i ∈ v :: vs ∨ i ∉ vs0) → (σ1.set v x)[i]? = σ[i]? := fun {x} hl hx i hi => by
        by_cases hiv : v = i
        · subst hiv
          rw [List.getElem?_set_self (by rw [l1]; exact hl), hx]
        · rw [List.getElem?_set_ne hiv]
          refine q1 i (hi.imp (fun z => ?_) id)
          rcases List.mem_cons.mp z with z | z
          · exact (hiv z.symm).elim
          · exact z
      by_cases hl : v < σ.length
      · have hl0 : v < env0.length := by rw [l0]; exact hl
        have hd0 : env0[v]? = some (env0.getD v .unset) := by simp [hl0]
        by_cases hs : isSet (env0.getD v .unset) = true
        · have okv := List.all_eq_true.mp ok v hv0
          rw [hd0] at okv
          have hf : isFz (env0.getD v .unset) = true := by
            have okv' : (!isSet (env0.getD v .unset) || isFz (env0.getD v .unset)) = true := okv
            rw [hs] at okv'
            exact okv'
          obtain ⟨v0, S1, S2, e1, e2, _⟩ := rs0.focus v hd0
          have := e2.fz_em hf
          subst this
          have hσ : σ[v]? = some (some v0) := by rw [q0 v _ hd0 hs, e1]
          obtain ⟨ws1, rs1, lw1, _⟩ := id en1
          have hlv : v < (VS.unwipe env0 vs env).length := by rw [lw1, l1]; exact hl
          obtain ⟨T2, g1, g2, g3⟩ := en1.put (i := v) (List.getElem?_eq_getElem hlv) (e2.mono _ e (fun _ h => h.elim)) (fun _ _ h => h.elim)
          rw [em_un] at g1
          exact ⟨_, T2, g1, fun a z => o1 a (g3 a z), by simpa using l1, fin hl hσ⟩
        · have hu : env0.getD v .unset = .unset := by
            cases h : env0.getD v .unset <;> first | rfl | (rw [h] at hs; exact (hs rfl).elim)
          obtain ⟨T2, g1, g2⟩ := en1.forget1 (i := v) (x := σ[v])
          refine ⟨σ1.set v σ[v], T2, ?_, fun a z => o1 a (g2 a z), by simpa using l1, fin hl (List.getElem?_eq_getElem hl)⟩
          show EnvR M F H ((VS.unwipe env0 vs env).set v (env0.getD v .unset)) _ T2
          rw [hu]
          exact g1
      · obtain ⟨ws1, rs1, lw1, _⟩ := id en1
        have hlv : (VS.unwipe env0 vs env).length ≤ v := by rw [lw1, l1]; omega
        refine ⟨σ1, T1, ?_, o1, l1, fun i hi => ?_⟩
        · show EnvR M F H ((VS.unwipe env0 vs env).set v (env0.getD v .unset)) _ T1
          rw [List.set_eq_of_length_le hlv]
          exact en1
        · by_cases hiv : i = v
          · subst hiv
            rw [List.getElem?_eq_none (by rw [l1]; omega), List.getElem?_eq_none (by omega)]
          · refine q1 i (hi.imp (fun z => ?_) id)
            rcases List.mem_cons.mp z with z | z
            · exact (hiv z).elim
            · exact z
  obtain ⟨σ1, T1, en1, o1, l1, q1⟩ := go vs0 fun _ z => z
  have : σ1 = σ := List.ext_getElem? fun i => q1 i (Classical.em _)
  subst this
  exact ⟨T1, en1, o1⟩
def W0 : WD := fun _ _ _ _ => False
def lcL (gf : D → List D → Option (List D)) (t : List D → R Bool) (e : List D → R Rv) (vs : List Nat) : List D → List D → List D → R (List D)
  | [], env, acc => .ok acc env
  | d :: ds, env, acc => match gf d env with
    | none => .stuck
    | some env1 => match t env1 with
      | .ok k env2 => if k = true then (match e env2 with
          | .ok r env3 => match escz [r] env3 with
            | some ([x], env4) => if acc.length < LIM then lcL gf t e vs ds (wipeE env4 vs) (acc ++ [x]) else .stuck
            | _ => .stuck
          | _ => .stuck) else lcL gf t e vs ds (wipeE env2 vs) acc
      | _ => .stuck
/-- [e for g in it if t] -/
def lcF (it : List D → R (List D)) (gf : D → List D → Option (List D)) (t : List D → R Bool) (e : List D → R Rv) (vs : List Nat) : List D → R Rv := fun env => (it env).bind fun ds env1 =>
  if okW env1 vs = true then ((lcL gf t e vs ds (wipeE env1 vs) []).bind fun acc env2 => .ok (.tmp (.lst true acc)) (unwipe env1 vs env2)) else .stuck
def prC (vs : List Nat) : Nat → Bool := fun i => !vs.contains i
theorem wipe_len_eq {σ σ2 : L2.St} {vs : List Nat} (h : Pr (prC vs) (L2.wipe σ vs) σ2) : L2.wipe σ2 vs = L2.wipe σ vs := by
  refine List.ext_getElem? fun i => ?_
  by_cases hi : i ∈ vs
  · have go : ∀ (us : List Nat) (τ : L2.St), i ∈ us → (L2.wipe τ us)[i]? = if i < τ.length then some none else none := by
      intro us τ
      induction us with
      | nil => intro h; simp at h
      | cons u us ih =>
        intro hm
        show ((L2.wipe τ us).set u none)[i]? = _
        by_cases hu : u = i
        · subst hu
          by_cases hl : u < τ.length
          · rw [List.getElem?_set_self (by rw [L2.wipe_length]; exact hl), if_pos hl]
          · rw [List.getElem?_eq_none (by rw [List.length_set, L2.wipe_length]; omega), if_neg hl]
        · rw [List.getElem?_set_ne hu]
          refine ih ?_
          rcases List.mem_cons.mp hm with z | z
          · exact (hu z.symm).elim
          · exact z
    rw [go vs σ2 hi, go vs σ hi, h.1, L2.wipe_length]
  · rw [wipe_get hi, h.2 i (by simp [prC, hi])]
/-- what is owned is written -/
theorem Step.write {F2 H2 : Hp} {U : AS} {p : Addr} {o : HO} (s : Step F H S F2 H2 U) (st : Stt M F2 H2 U) (u : U p) (hpl : pl o := by exact True.intro) : Step F H S F2 (upd H2 p o) U ∧ Stt M F2 (upd H2 p o) U := by
  refine ⟨⟨s.ext, fun a w e nn n => ?_, s.own, s.new⟩, ⟨fun a w e => ?_, st.fr, fun a h => ?_, ?_, st.ft⟩⟩
  · have : a ≠ p := fun z => by
      subst z
      rcases s.own a u with z | z
      · exact n z
      · exact z.nt e nn
    rw [upd_ne this]
    exact s.keep a w e nn n
  · have : a ≠ p := fun z => by
      subst z
      rw [st.fr a u] at e
      cases e
    rw [upd_ne this]
    exact st.fh a w e
  · by_cases ha : a = p
    · exact ⟨o, by rw [ha]; exact upd_same, hpl⟩
    · rw [upd_ne ha]
      exact st.al a h
  · exact st.tabs fun a w e n => by rw [upd_ne (fun z => n (by rw [z]; exact u))]; exact e
theorem lcL_err (gf : D → List D → Option (List D)) (t : List D → R Bool) (e : List D → R Rv) (vs : List Nat) : ∀ (ds env acc : List D) (c : Str) (d : D) (e' : List D), lcL gf t e vs ds env acc ≠ .err c d e' := by
  intro ds
  induction ds with
  | nil => intro env acc c d e' z; unfold lcL at z; cases z
  | cons x ds ih =>
    intro env acc c d e' z
    unfold lcL at z
    split at z
    · cases z
    · split at z
      · split at z
        · split at z
          · split at z
            · split at z
              · exact ih _ _ _ _ _ z
              · cases z
            · cases z
          · cases z
        · exact ih _ _ _ _ _ z
      · cases z
/-- one turn's item is kept -/
theorem escz_one {r : Rv} {x : D} {v : V} (h : escz [r] env = some ([x], env')) (st : Stt M F H S) (rr : ResR M F H env σ [r] [v] S) :
    ∃ F' S', Step F H S F' H S' ∧ Stt M F' H S' ∧ EnvR M F' H env' σ S' ∧ RO M F' H x v em := by
  obtain ⟨F1, S1, s1, st1, en1, ro1⟩ := escz_ok h st rr
  simp only [ROs] at ro1
  obtain ⟨v', ws, T1, T2, e, r1, ⟨rfl, rfl⟩, d, q⟩ := ro1
  cases e
  have : T1 = em := AS.ext fun a => ⟨fun z => by
    have : (un T1 em) a := .inl z
    rw [← q] at this
    exact this, fun z => z.elim⟩
  subst this
  exact ⟨F1, S1, s1, st1, en1, r1⟩
theorem ROs.snoc {ds : List D} {vs : List V} {d : D} {v : V} (h : ROs M F H ds vs em) (r : RO M F H d v em) : ROs M F H (ds ++ [d]) (vs ++ [v]) em := by
  have := h.app (es := [d]) (ws := [v]) (T := em) (by simp only [ROs]; exact ⟨v, [], em, em, rfl, r, ⟨rfl, rfl⟩, fun _ h _ => h.elim, (em_un em).symm⟩) (fun _ h _ => h.elim)
  rw [em_un] at this
  exact this
theorem lc_at {wi : TI} {g : TG} {tt : TT} {te : TE} {vs : List Nat} {it : List D → R (List D)} {gf : D → List D → Option (List D)} {t : List D → R Bool} {ef : List D → R Rv} {Q : V → Hp → Prop}
    (h1 : ∀ Q, PostI M W F H σ S Q (it env) → wi σ H Q) (h2 : SG M (prC vs) g gf) (h3 : ST M W0 b1 tt t) (h4 : SE M W0 b2 te ef) (st : Stt M F H S) (en : EnvR M F H env σ S) (h : Post M W false F H σ S Q (lcF it gf t ef vs env)) : tLc wi g tt te vs σ H Q := by
  refine h1 _ ?_
  unfold lcF at h
  cases hi : it env with
  | stuck => rw [hi] at h; exact h
  | err c d env1 => rw [hi] at h; exact h
  | ok ds env1 =>
    rw [hi] at h
    intro J F1 H1 Se T s1 st1 d1 en1 itok Dl hDl
    have h : Post M W false F H σ S Q (if okW env1 vs = true then ((lcL gf t ef vs ds (wipeE env1 vs) []).bind fun acc env2 => .ok (.tmp (.lst true acc)) (unwipe env1 vs env2)) else .stuck) := h
    split at h
    · rename_i hok
      cases hL : lcL gf t ef vs ds (wipeE env1 vs) [] with
      | stuck => rw [hL] at h; exact h.elim
      | err c d e => exact (lcL_err _ _ _ _ _ _ _ _ _ _ hL).elim
      | ok accf envf =>
        rw [hL] at h
        obtain ⟨S0, en0, o0⟩ := en1.wipe vs
        -- the new list is held besides
        let T2 : AS := un T fun a => a = Dl
        have roD : RO M F1 (upd H1 Dl (.lst [])) (.lst true []) (.ref Dl) (fun a => a = Dl) := by
          simp only [RO, if_true, ROs]
          exact ⟨Dl, [], em, rfl, ⟨rfl, rfl⟩, upd_same, fun h => h, AS.ext fun a => by simp [on1, em]⟩
        have stS0 : Stt M F1 H1 (un S0 T) := st1.sub fun a z => z.imp (o0 a) id
        have dS0 : dj S0 T := fun a x y => d1 a (o0 a x) y
        have n0 : ∀ a, un S0 T a → a ≠ Dl := fun a ha z => by
          obtain ⟨o, q⟩ := stS0.al1 a ha
          rw [z, hDl] at q; cases q
        have Fp := st1.none_of hDl
        have ex0 : Ext H1 (upd H1 Dl (.lst [])) := fun a u e => by rw [upd_ne (fun z => by rw [z, hDl] at e; cases e)]; exact e
        have e2 : un (un S0 T) (fun a => a = Dl) = un S0 T2 := AS.ext fun a => by simp only [un, T2]; constructor <;> (intro z; simpa [or_assoc] using z)
        have sA : Step F1 H1 (un S0 T) F1 (upd H1 Dl (.lst [])) (un S0 T2) := by
          rw [← e2]
          exact Step.mk0 (Ext.refl _) (fun a u e _ => ex0 a u e) (fun a z => z.imp id fun z => by rw [z]; exact hDl) fun a u z => .inl z
        have stA : Stt M F1 (upd H1 Dl (.lst [])) (un S0 T2) := by
          rw [← e2]
          refine ⟨fun a u e => (st1.fh a u e).imp (ex0 a u) fun ⟨l, o, z⟩ => ⟨l, o, ex0 a _ z⟩, fun a z => z.elim (stS0.fr a) fun z => by rw [z]; exact Fp, fun a z => ?_, st1.tabsE ex0, st1.ft⟩
          rcases z with z | z
          · obtain ⟨o, q, q'⟩ := stS0.al a z
            exact ⟨o, ex0 a o q, q'⟩
          · exact ⟨.lst [], by rw [z]; exact upd_same, True.intro⟩
        have dA : dj S0 T2 := fun a x y => y.elim (dS0 a x) fun y => n0 a (.inl x) y
        have enA : EnvR M F1 (upd H1 Dl (.lst [])) (wipeE env1 vs) (L2.wipe σ vs) S0 := en0.mono (Ext.refl _) fun a ha => upd_ne (n0 a (.inl ha))
        have sA' : Step F H S F1 (upd H1 Dl (.lst [])) (un S0 T2) := (s1.drop fun a z => z.imp (o0 a) id).trans sA
        -- the word of the turns
        let Wd : Nat → Hp → Prop := fun i H2 => ∃ env2 acc accV F2 S2, Step F H S F2 H2 (un S2 T2) ∧ Stt M F2 H2 (un S2 T2) ∧ dj S2 T2 ∧ EnvR M F2 H2 env2 (L2.wipe σ vs) S2 ∧ Ext F1 F2 ∧ (∀ a, T a → H2 a = H1 a) ∧ FK F1 H1 H2 ∧
          H2 Dl = some (.lst accV) ∧ ROs M F2 H2 acc accV em ∧ lcL gf t ef vs (ds.drop i) env2 acc = .ok accf envf
        refine ⟨fun i m H2 => m = ds.length - i ∧ i ≤ ds.length ∧ Wd i H2, ⟨ds.length, by simp, Nat.zero_le _, wipeE env1 vs, [], [], F1, S0, sA', stA, dA, enA, Ext.refl _, fun a ha => upd_ne (n0 a (.inr ha)), FK.refl.ext ex0, upd_same, by simp [ROs], by simpa using hL⟩, ?_⟩
        rintro i m H2 ⟨rfl, hle, env2, acc, accV, F2, S2, s2, st2, d2, en2, x2, k2, fk2, hacc, roA, q2⟩
        obtain ⟨ig, is⟩ := itok F2 H2 x2 st2.fh k2 (fun a ha => st2.fr a (.inr (.inl ha))) fk2 i
        by_cases hlt : i < ds.length
        · right
          obtain ⟨go, yl⟩ := ig hlt
          refine ⟨go, fun H' => Wd (i + 1) H', fun H' p => ⟨ds.length - (i + 1), by omega, rfl, hlt, p⟩, fun x H3 y => ?_⟩
          obtain ⟨F3, x3, e3, fh3, new3, d, hd, hs, ro⟩ := yl x H3 y
          have alive2 : ∀ a, un S2 T2 a → H3 a = H2 a := fun a ha => by
            obtain ⟨o, e⟩ := st2.al1 a ha
            rw [e]; exact e3 a o e
          have fr3 : ∀ a, un S2 T2 a → F3 a = none := fun a ha => by
            cases q : F3 a with
            | none => rfl
            | some u =>
              exfalso
              rcases new3 a u q with z | z
              · rw [st2.fr a ha] at z; cases z
              · obtain ⟨o, e⟩ := st2.al1 a ha
                rw [z] at e; cases e
          have st3 : Stt M F3 H3 (un S2 T2) := ⟨fh3, fr3, fun a ha => by rw [alive2 a ha]; exact st2.al a ha, st2.tabsE e3, st2.ftN fun a u h => (new3 a u h).imp id .inr⟩
          have s3 : Step F H S F3 H3 (un S2 T2) := s2.trans (Step.mk0 x3 (fun a o e _ => e3 a o e) (fun a h => .inl h) fun a u h => (new3 a u h).imp id .inr)
          have en3 : EnvR M F3 H3 env2 (L2.wipe σ vs) S2 := en2.mono x3 fun a ha => alive2 a (.inl ha)
          have hacc3 : H3 Dl = some (.lst accV) := e3 _ _ hacc
          have roA3 := roA.mono acc x3 (H' := H3) fun _ h => h.elim
          rw [getElem?_drop_cons hd] at q2
          unfold lcL at q2
          refine h2 F3 H3 env2 (L2.wipe σ vs) S2 d x em _ fh3 en3 ro en3.dj_emp hs ?_
          cases hg : gf d env2 with
          | none => rw [hg] at q2; cases q2
          | some env3 =>
            rw [hg] at q2
            intro σ4 S4 en4 o4 p4
            refine ⟨wipe_len_eq p4, ?_⟩
            have hw : L2.wipe σ4 vs = L2.wipe σ vs := wipe_len_eq p4
            have o4' : ∀ a, S4 a → S2 a := fun a ha => (o4 a ha).elim id fun z => z.elim
            have st4 : Stt M F3 H3 S4 := st3.sub fun a ha => .inl (o4' a ha)
            have st4T : Stt M F3 H3 (un S4 T2) := st3.sub fun a ha => ha.imp (o4' a) id
            have d4 : dj S4 T2 := fun a x y => d2 a (o4' a x) y
            have s4 : Step F H S F3 H3 (un S4 T2) := s3.drop fun a ha => ha.imp (o4' a) id
            have k4 : ∀ a, T a → H3 a = H1 a := fun a ha => (alive2 a (.inr (.inl ha))).trans (k2 a ha)
            have fr : ∀ {F5 H5 : Hp} {S5 : AS}, Step F3 H3 S4 F5 H5 S5 → Stt M F5 H5 S5 → Step F H S F5 H5 (un S5 T2) ∧ Stt M F5 H5 (un S5 T2) ∧ dj S5 T2 ∧ (∀ a, T2 a → H5 a = H3 a) ∧ Ext F1 F5 ∧ FK F1 H1 H5 := fun a b => by
              obtain ⟨g1, g2, g3, g4⟩ := a.frame st4T b d4
              exact ⟨s4.trans g1, g2, g3, g4, (x2.trans x3).trans a.ext, (fk2.ext e3).step (x2.trans x3) st4 a⟩
            refine h3 F3 H3 env3 σ4 S4 _ st4 en4 ?_
            simp only at q2
            cases ht : t env3 with
            | stuck => rw [ht] at q2; cases q2
            | err c d e => rw [ht] at q2; cases q2
            | ok k env4 =>
              rw [ht] at q2
              intro F5 H5 S5 s5 st5 _ en5
              obtain ⟨g1, g2, g3, g4, g5, g6⟩ := fr s5 st5
              have hacc5 : H5 Dl = some (.lst accV) := by rw [g4 Dl (.inr rfl)]; exact hacc3
              cases k with
              | false =>
                refine iteF ?_
                obtain ⟨S6, en6, o6⟩ := en5.wipe vs
                rw [hw] at en6
                refine ⟨wipeE env4 vs, acc, accV, F5, S6, g1.drop fun a z => z.imp (o6 a) id, g2.sub fun a z => z.imp (o6 a) id, fun a x y => g3 a (o6 a x) y, en6, g5, fun a ha => (g4 a (.inl ha)).trans (k4 a ha), g6, hacc5, roA3.mono acc s5.ext (fun _ h => h.elim), q2⟩
              | true =>
                refine iteT ?_
                simp only [if_true] at q2
                refine h4 F5 H5 env4 σ4 S5 _ st5 en5 ?_
                cases he : ef env4 with
                | stuck => rw [he] at q2; cases q2
                | err c d e => rw [he] at q2; cases q2
                | ok r env5 =>
                  rw [he] at q2
                  intro yv F6 H6 S6 s6 st6 _ r6
                  cases hz : escz [r] env5 with
                  | none => simp only [hz] at q2; cases q2
                  | some z =>
                    obtain ⟨xs, env6⟩ := z
                    match xs, hz, q2 with
                    | [], hz, q2 => simp only [hz] at q2; cases q2
                    | _ :: _ :: _, hz, q2 => simp only [hz] at q2; cases q2
                    | [xd], hz, q2 =>
                      simp only [hz] at q2
                      split at q2
                      · rename_i hlim
                        obtain ⟨F7, S7, s7, st7, en7, ro7⟩ := escz_one hz st6 r6
                        obtain ⟨w1, w2, w3, w4, w5, w6⟩ := fr ((s5.trans s6).trans s7) st7
                        have hacc7 : H6 Dl = some (.lst accV) := by rw [w4 Dl (.inr rfl)]; exact hacc3
                        have hal : accV.length < sizeLine := by rw [← roA3.len]; exact lim_lt hlim
                        refine ⟨accV, hacc7, hal, ?_⟩
                        obtain ⟨u1, u2⟩ := w1.write (o := .lst (accV ++ [yv])) w2 (p := Dl) (.inr (.inr rfl))
                        obtain ⟨S8, en8, o8⟩ := en7.wipe vs
                        rw [hw] at en8
                        have nD : ∀ a, S7 a → a ≠ Dl := fun a x z => w3 a x (.inr z)
                        refine ⟨wipeE env6 vs, acc ++ [xd], accV ++ [yv], F7, S8, u1.drop fun a z => z.imp (o8 a) id, u2.sub fun a z => z.imp (o8 a) id, fun a x y => w3 a (o8 a x) y,
                          en8.mono (Ext.refl _) (fun a ha => upd_ne (nD a (o8 a ha))), w5, fun a ha => ?_, ?_, upd_same, ?_, q2⟩
                        · rw [upd_ne (fun z => n0 a (.inr ha) z)]
                          exact (w4 a (.inl ha)).trans (k4 a ha)
                        · intro a o h m n
                          rw [upd_ne (fun z => by rw [z, hDl] at h; cases h)]
                          exact w6 a o h m n
                        · exact ROs.snoc (roA3.mono acc ((s5.trans s6).trans s7).ext (fun _ h => h.elim)) (ro7.mono xd (Ext.refl _) fun _ h => h.elim)
                      · cases q2
        · left
          have e : i = ds.length := by omega
          subst e
          refine ⟨is (Nat.le_refl _), ?_⟩
          rw [List.drop_length] at q2
          unfold lcL at q2
          cases q2
          obtain ⟨T3, en3, o3⟩ := en2.unwipe en1 x2 hok
          have oD : ∀ a, un T3 (fun a => a = Dl) a → un S2 T2 a := fun a z => z.imp (o3 a) .inr
          have roF : RO M F2 H2 (.lst true accf) (.ref Dl) (fun a => a = Dl) := by
            simp only [RO, if_true]
            exact ⟨Dl, accV, em, rfl, roA, hacc, fun h => h, AS.ext fun a => by simp [on1, em]⟩
          exact h (.ref Dl) F2 H2 _ (s2.drop oD) (st2.sub oD) (fun z => nomatch z) (ResR.one_tmp en3 roF fun a x y => d2 a (o3 a x) (.inr y))
    · exact h.elim
theorem se_lc {wi : TI} {g : TG} {tt : TT} {te : TE} {vs : List Nat} {it : List D → R (List D)} {gf : D → List D → Option (List D)} {t : List D → R Bool} {ef : List D → R Rv}
    (h1 : SI M W wi it) (h2 : SG M (prC vs) g gf) (h3 : ST M W0 b1 tt t) (h4 : SE M W0 b2 te ef) : SE M W false (tLc wi g tt te vs) (lcF it gf t ef vs) := fun F H env σ S Q st en h =>
  lc_at (fun Q => h1 F H env σ S Q st en) h2 h3 h4 st en h
theorem st_yes : ST M W true tYes (fun env => .ok true env) := fun F H env σ S Q st en h => h F H S Step.refl st (fun _ => Ext.refl H) en
end
end VS
set_option maxHeartbeats 1000000
/-! VSOps: operations by values. -/
namespace VS
open PySem PyProof.Rows L2

section
variable {M : Mn} {W : WD} {b b1 b2 : Bool} {F H F' H' F1 H1 : Hp} {env env' env1 : List D} {σ : L2.St} {S S' S1 T : AS} {pr : Nat → Bool}
/-! ### two operands -/
def op2 (f : D → D → Option D) : List D → Option D := fun ds => match ds with
  | [a, b] => f a b
  | _ => none
def op1 (f : D → Option D) : List D → Option D := fun ds => match ds with
  | [a] => f a
  | _ => none
def RN2 (M : Mn) (r : R2) (opd : D → D → Option D) : Prop :=
  ∀ F H x y d e z Sx Sy Q, FH F H → RO M F H d x Sx → RO M F H e y Sy → opd d e = some z → (∀ v F' H' S', NewR M F H F' H' z v S' → Q v H') → r x y H Q
def RN1 (M : Mn) (r : V → Hp → VK → Prop) (opd : D → Option D) : Prop :=
  ∀ F H x d z Sx Q, FH F H → RO M F H d x Sx → opd d = some z → (∀ v F' H' S', NewR M F H F' H' z v S' → Q v H') → r x H Q
def r2L (r : R2) : List V → Hp → VK → Prop := fun vs H Q => match vs with
  | [x, y] => r x y H Q
  | _ => False
def r1L (r : V → Hp → VK → Prop) : List V → Hp → VK → Prop := fun vs H Q => match vs with
  | [x] => r x H Q
  | _ => False
theorem rn_of2 {r : R2} {f : D → D → Option D} (h : RN2 M r f) : RN M (r2L r) (op2 f) := by
  intro F H ds vs z Q fh rl e k
  unfold op2 at e
  split at e
  · rename_i a b
    obtain ⟨x, ws, Sx, rfl, r1, y, ws2, Sy, rfl, r2, rr⟩ := rl
    simp only [RL] at rr
    subst rr
    exact h F H x y a b z Sx Sy Q fh r1 r2 e k
  · cases e
theorem rn_of1 {r : V → Hp → VK → Prop} {f : D → Option D} (h : RN1 M r f) : RN M (r1L r) (op1 f) := by
  intro F H ds vs z Q fh rl e k
  unfold op1 at e
  split at e
  · rename_i a
    obtain ⟨x, ws, Sx, rfl, r1, rr⟩ := rl
    simp only [RL] at rr
    subst rr
    exact h F H x a z Sx Q fh r1 e k
  · cases e
def bin (b2 : Bool) (f : D → D → Option D) (fa fb : List D → R Rv) : List D → R Rv := opN (op2 f) (consF (b2 && true) fa (consF true fb nilF))
theorem se_op {ta tb : TE} {fa fb : List D → R Rv} {r : R2} {f : D → D → Option D} (hr : RN2 M r f) (h1 : SE M W b1 ta fa) (h2 : SE M W b2 tb fb) : SE M W (b1 && (b2 && true)) (tOp r ta tb) (bin b2 f fa fb) :=
  se_n (ta := tCons ta (tCons tb tNil)) (r := r2L r) (sa_cons h1 (sa_cons h2 sa_nil)) (rn_of2 hr)
def una (f : D → Option D) (fa : List D → R Rv) : List D → R Rv := opN (op1 f) (consF true fa nilF)
theorem se_un {ta : TE} {fa : List D → R Rv} {r : V → Hp → VK → Prop} {f : D → Option D} (hr : RN1 M r f) (h1 : SE M W b1 ta fa) : SE M W (b1 && true) (tUn r ta) (una f fa) :=
  se_n (ta := tCons ta tNil) (r := r1L r) (sa_cons h1 sa_nil) (rn_of1 hr)
/-- a built-in called -/
theorem se_cb {ta : TA} {fs : List D → R (List Rv)} {r : List V → Hp → VK → Prop} {opd : List D → Option D} (hr : RN M r opd) (h1 : SA M W b ta fs) : SE M W b (tCB r ta) (opN opd fs) := se_n h1 hr

/-! ### new things -/
theorem FH.none_of {p : Addr} (fh : FH F H) (hp : H p = none) : F p = none := by
  cases q : F p with
  | none => rfl
  | some u =>
    rcases fh p u q with z | ⟨_, _, z⟩ <;> (rw [hp] at z; cases z)
theorem ext_upd {p : Addr} {o : HO} (hp : H p = none) : Ext H (upd H p o) := fun a u e => by rw [upd_ne (fun z => by rw [z, hp] at e; cases e)]; exact e
theorem NewR.lst {xs : List D} {vs : List V} {p : Addr} (fh : FH F H) (r : ROs M F H xs vs em) (hp : H p = none) : NewR M F H F (upd H p (.lst vs)) (.lst true xs) (.ref p) (fun a => a = p) where
  ext := Ext.refl F
  keep := ext_upd hp
  ro := by
    simp only [RO, if_true]
    exact ⟨p, vs, em, rfl, r.mono xs (Ext.refl _) (fun _ h => h.elim), upd_same, fun h => h, AS.ext fun a => by simp [on1, em]⟩
  fresh := fun a h => by rw [h]; exact hp
  fr := fun a h => by rw [h]; exact fh.none_of hp
  new := fun a u h => .inl h
  fh := fun a u e => (fh a u e).imp (ext_upd hp a u) fun ⟨l, o, z⟩ => ⟨l, o, ext_upd hp a _ z⟩
theorem NewR.tup {xs : List D} {vs : List V} {p : Addr} (fh : FH F H) (r : ROs M F H xs vs em) (hp : H p = none) : NewR M F H (upd F p (.tup vs)) (upd H p (.tup vs)) (.tup false xs) (.ref p) em where
  ext := ext_upd (fh.none_of hp)
  keep := ext_upd hp
  ro := by
    simp only [RO, Bool.false_eq_true, if_false]
    exact ⟨p, vs, em, rfl, r.mono xs (ext_upd (fh.none_of hp)) (fun _ h => h.elim), upd_same, by trivial, by trivial⟩
  fresh := fun _ h => h.elim
  fr := fun _ h => h.elim
  new := fun a u h => by
    by_cases e : a = p
    · right; rw [e]; exact hp
    · rw [upd_ne e] at h; exact .inl h
  fh := fun a u e => by
    by_cases ea : a = p
    · subst ea
      rw [upd_same] at e
      cases e
      exact .inl upd_same
    · rw [upd_ne ea] at e
      rw [upd_ne ea]
      exact fh a u e
/-- the items of a list that may be handed on -/
def lstI : D → Option (List D)
  | .lst o xs => if o = true then (if allFz xs = true then some xs else none) else some xs
  | _ => none
def tupI : D → Option (List D)
  | .tup o xs => if o = true then none else some xs
  | _ => none
theorem lstI_in {d : D} {xs : List D} {v : V} (e : lstI d = some xs) (r : RO M F H d v S) (fh : FH F H) : ∃ a vs, v = .ref a ∧ H a = some (.lst vs) ∧ ROs M F H xs vs em := by
  cases d with
  | lst o ys =>
    simp only [RO] at r
    obtain ⟨a, vs, T, rfl, hT, c⟩ := r
    cases o with
    | true =>
      simp only [if_true] at c
      obtain ⟨h1, h2, rfl⟩ := c
      simp only [lstI, if_true] at e
      split at e
      · rename_i hz
        cases e
        have := hT.fz_em hz
        subst this
        exact ⟨a, vs, rfl, h1, hT⟩
      · cases e
    | false =>
      simp only [Bool.false_eq_true, if_false] at c
      obtain ⟨h1, rfl, rfl⟩ := c
      simp only [lstI, Bool.false_eq_true, if_false] at e
      cases e
      exact ⟨a, vs, rfl, rd_lstH fh h1, hT⟩
  | _ => cases e
theorem tupI_in {d : D} {xs : List D} {v : V} (e : tupI d = some xs) (r : RO M F H d v S) (fh : FH F H) : ∃ a vs, v = .ref a ∧ H a = some (.tup vs) ∧ ROs M F H xs vs em := by
  cases d with
  | tup o ys =>
    simp only [RO] at r
    obtain ⟨a, vs, T, rfl, hT, c⟩ := r
    cases o with
    | true =>
      simp only [if_true] at c
      obtain ⟨h1, h2, rfl⟩ := c
      simp only [tupI, if_true] at e
      cases e
    | false =>
      simp only [Bool.false_eq_true, if_false] at c
      obtain ⟨h1, rfl, rfl⟩ := c
      simp only [tupI, Bool.false_eq_true, if_false] at e
      cases e
      exact ⟨a, vs, rfl, rd_tupH fh h1, hT⟩
  | _ => cases e
theorem ROs.app_em {ds es : List D} {vs ws : List V} (h : ROs M F H ds vs em) (h2 : ROs M F H es ws em) : ROs M F H (ds ++ es) (vs ++ ws) em := by
  have := h.app h2 (fun _ _ h => h.elim)
  rw [un_em] at this
  exact this
theorem str_len (l : List Nat) : (⟨l.toArray⟩ : Str).length = l.length := by simp [Str.length]

/-! ### + -/
def addD : D → D → Option D
  | .int i, .int j => some (.int (i + j))
  | .str s, .str t => if s.length + t.length ≤ LIM then some (.str (s ++ t)) else none
  | .lst o xs, .lst o' ys => (lstI (.lst o xs)).bind fun xs => (lstI (.lst o' ys)).bind fun ys => if xs.length + ys.length ≤ LIM then some (.lst true (xs ++ ys)) else none
  | _, _ => none
abbrev rAddA (K : PySem.W.Frag) : R2 := fun x y H Q => (rI0 fun i j => .int (i + j)) x y H Q ∨ ((fun x y H Q => ∃ i j, x = .str i ∧ y = .str j ∧ i.length + j.length ≤ sizeLine ∧ Q (.str (i ++ j)) H) x y H Q ∨ rCat x y H Q)
theorem op_addA {X : Cx} : OpR X (binaryOp .Add) (rAddA X.K) := op_add.or (op_add_str.or op_cat)
theorem rn_add : RN2 M (rAddA M.K) addD := by
  intro F H x y d e z Sx Sy Q fh rx ry h k
  unfold addD at h
  split at h
  · rename_i i j
    cases h
    simp only [RO] at rx ry
    obtain ⟨rfl, _⟩ := rx
    obtain ⟨rfl, _⟩ := ry
    exact .inl ⟨i, j, rfl, rfl, k _ _ _ _ (NewR.same fh (by simp [RO]))⟩
  · rename_i s t
    split at h
    · rename_i hl
      cases h
      simp only [RO] at rx ry
      obtain ⟨rfl, _⟩ := rx
      obtain ⟨rfl, _⟩ := ry
      refine .inr (.inl ⟨_, _, rfl, rfl, by rw [str_len, str_len]; exact lim_ok hl, k _ _ _ _ (NewR.same fh ?_)⟩)
      simp only [RO]
      exact ⟨congrArg V.str (by show (⟨s.toArray ++ t.toArray⟩ : Str) = _; simp), by trivial⟩
    · cases h
  · rename_i o xs o' ys
    cases e1 : lstI (.lst o xs) with
    | none => rw [e1] at h; cases h
    | some xs' =>
      cases e2 : lstI (.lst o' ys) with
      | none => rw [e1, e2] at h; cases h
      | some ys' =>
        rw [e1, e2] at h
        have h : (if xs'.length + ys'.length ≤ LIM then some (D.lst true (xs' ++ ys')) else none) = some z := h
        split at h
        · rename_i hl
          cases h
          obtain ⟨a, vs, rfl, sa, ra⟩ := lstI_in e1 rx fh
          obtain ⟨b, ws, rfl, sb, rb⟩ := lstI_in e2 ry fh
          exact .inr (.inr ⟨a, b, vs, ws, rfl, rfl, sa, sb, by rw [← ra.len, ← rb.len]; exact lim_ok hl, fun p hp => k _ _ _ _ (NewR.lst fh (ra.app_em rb) hp)⟩)
        · cases h
  · cases h

/-! ### ints -/
theorem rn_int {r : R2} {C : Int → Int → Prop} {g : Int → Int → V} {f : D → D → Option D} (hr : r = rI C g) (gd : Int → Int → D) (hg : ∀ i j F H, RO M F H (gd i j) (g i j) em)
    (hf : ∀ d e z, f d e = some z → ∃ i j, d = .int i ∧ e = .int j ∧ C i j ∧ z = gd i j) : RN2 M r f := by
  intro F H x y d e z Sx Sy Q fh rx ry h k
  obtain ⟨i, j, rfl, rfl, hc, rfl⟩ := hf d e z h
  simp only [RO] at rx ry
  obtain ⟨rfl, _⟩ := rx
  obtain ⟨rfl, _⟩ := ry
  subst hr
  exact ⟨i, j, rfl, rfl, hc, k _ _ _ _ (NewR.same fh (hg i j F H))⟩
theorem rn_int0 {r : R2} {g : Int → Int → V} {f : D → D → Option D} (hr : r = rI0 g) (gd : Int → Int → D) (hg : ∀ i j F H, RO M F H (gd i j) (g i j) em)
    (hf : ∀ d e z, f d e = some z → ∃ i j, d = .int i ∧ e = .int j ∧ z = gd i j) : RN2 M r f := by
  intro F H x y d e z Sx Sy Q fh rx ry h k
  obtain ⟨i, j, rfl, rfl, rfl⟩ := hf d e z h
  simp only [RO] at rx ry
  obtain ⟨rfl, _⟩ := rx
  obtain ⟨rfl, _⟩ := ry
  subst hr
  exact ⟨i, j, rfl, rfl, k _ _ _ _ (NewR.same fh (hg i j F H))⟩
def subD : D → D → Option D
  | .int i, .int j => some (.int (i - j))
  | _, _ => none
theorem rn_sub : RN2 M (rI0 fun i j => .int (i - j)) subD := rn_int0 rfl (fun i j => .int (i - j)) (fun _ _ _ _ => by simp [RO]) fun d e z h => by
  unfold subD at h
  split at h
  · cases h; exact ⟨_, _, rfl, rfl, rfl⟩
  · cases h
def modD : D → D → Option D
  | .int i, .int j => if 0 < j then some (.int (i % j)) else none
  | _, _ => none
theorem rn_mod : RN2 M (rI (fun _ j => 0 < j) fun i j => .int (i % j)) modD := rn_int rfl (fun i j => .int (i % j)) (fun _ _ _ _ => by simp [RO]) fun d e z h => by
  unfold modD at h
  split at h
  · split at h
    · rename_i hj; cases h; exact ⟨_, _, rfl, rfl, hj, rfl⟩
    · cases h
  · cases h
def fdivD : D → D → Option D
  | .int i, .int j => if 0 < j ∧ j < 1000000000 then some (.int (i / j)) else none
  | _, _ => none
theorem rn_fdiv : RN2 M (rI CDiv fun i j => .int (i / j)) fdivD := rn_int rfl (fun i j => .int (i / j)) (fun _ _ _ _ => by simp [RO]) fun d e z h => by
  unfold fdivD at h
  split at h
  · split at h
    · rename_i hj; cases h; exact ⟨_, _, rfl, rfl, ⟨by omega, by omega⟩, rfl⟩
    · cases h
  · cases h
def B64 : Int := 2 ^ 64
def powD : D → D → Option D
  | .int i, .int j => if 0 ≤ j ∧ j ≤ 1000 ∧ i.natAbs < 2 ^ 64 then some (.int (i ^ j.toNat)) else none
  | _, _ => none
theorem rn_pow : RN2 M (rI CPow fun i j => .int (i ^ j.toNat)) powD := rn_int rfl (fun i j => .int (i ^ j.toNat)) (fun _ _ _ _ => by simp [RO]) fun d e z h => by
  unfold powD at h
  split at h
  · split at h
    · rename_i hj; cases h; exact ⟨_, _, rfl, rfl, ⟨by omega, by omega, hj.2.2⟩, rfl⟩
    · cases h
  · cases h
def mulD : D → D → Option D
  | .int i, .int j => if (-(2 ^ 64) < i ∧ i < 2 ^ 64) ∨ (-(2 ^ 64) < j ∧ j < 2 ^ 64) then some (.int (i * j)) else none
  | .lst o xs, .int k => (lstI (.lst o xs)).bind fun xs => if 0 ≤ k ∧ k ≤ 1000000 ∧ xs.length * k.toNat ≤ LIM then some (.lst true (List.replicate k.toNat xs).flatten) else none
  | _, _ => none
abbrev rMulA : R2 := fun x y H Q => (rI CMul fun i j => .int (i * j)) x y H Q ∨ rRep x y H Q
theorem op_mulA {X : Cx} : OpR X (binaryOp .Mult) rMulA := op_mul.or op_rep
theorem ROs.rep {xs : List D} {vs : List V} (h : ROs M F H xs vs em) : ∀ n : Nat, ROs M F H (List.replicate n xs).flatten (List.replicate n vs).flatten em
  | 0 => by simp [ROs]
  | n + 1 => by
    rw [List.replicate_succ, List.replicate_succ, List.flatten_cons, List.flatten_cons]
    exact h.app_em (ROs.rep h n)
theorem rn_mul : RN2 M rMulA mulD := by
  intro F H x y d e z Sx Sy Q fh rx ry h k
  unfold mulD at h
  split at h
  · rename_i i j
    split at h
    · rename_i hc
      cases h
      simp only [RO] at rx ry
      obtain ⟨rfl, _⟩ := rx
      obtain ⟨rfl, _⟩ := ry
      exact .inl ⟨i, j, rfl, rfl, hc, k _ _ _ _ (NewR.same fh (by simp [RO]))⟩
    · cases h
  · rename_i o xs n
    cases e1 : lstI (.lst o xs) with
    | none => rw [e1] at h; cases h
    | some xs' =>
      rw [e1] at h
      have h : (if 0 ≤ n ∧ n ≤ 1000000 ∧ xs'.length * n.toNat ≤ LIM then some (D.lst true (List.replicate n.toNat xs').flatten) else none) = some z := h
      split at h
      · rename_i hc
        cases h
        obtain ⟨a, vs, rfl, sa, ra⟩ := lstI_in e1 rx fh
        simp only [RO] at ry
        obtain ⟨rfl, _⟩ := ry
        refine .inr ⟨a, n, vs, rfl, rfl, sa, by omega, by omega, by rw [← ra.len]; exact lim_ok hc.2.2, fun p hp => k _ _ _ _ (NewR.lst fh (ra.rep n.toNat) hp)⟩
      · cases h
  · cases h
def negD : D → Option D
  | .int i => some (.int (-i))
  | _ => none
theorem rn_neg : RN1 M (rU fun i => .int (-i)) negD := by
  intro F H x d z Sx Q fh rx h k
  unfold negD at h
  split at h
  · cases h
    simp only [RO] at rx
    obtain ⟨rfl, _⟩ := rx
    exact ⟨_, rfl, k _ _ _ _ (NewR.same fh (by simp [RO]))⟩
  · cases h

/-! ### order -/
theorem cps_list (l : List Nat) : (⟨l.toArray⟩ : Str).cps.toList = l := rfl
def cmpD (fi : Int → Int → Bool) (fs : List Nat → List Nat → Bool) : D → D → Option D
  | .int i, .int j => some (.bl (fi i j))
  | .str s, .str t => some (.bl (fs s t))
  | _, _ => none
theorem rn_cmp {ri rs : R2} {fi : Int → Int → Bool} {fs : List Nat → List Nat → Bool} (h1 : ri = rI0 fun i j => .bl (fi i j)) (h2 : rs = fun x y H Q => ∃ i j, x = .str i ∧ y = .str j ∧ Q (.bl (fs i.cps.toList j.cps.toList)) H) :
    RN2 M (fun x y H Q => ri x y H Q ∨ rs x y H Q) (cmpD fi fs) := by
  intro F H x y d e z Sx Sy Q fh rx ry h k
  subst h1 h2
  unfold cmpD at h
  split at h
  · cases h
    simp only [RO] at rx ry
    obtain ⟨rfl, _⟩ := rx
    obtain ⟨rfl, _⟩ := ry
    exact .inl ⟨_, _, rfl, rfl, k _ _ _ _ (NewR.same fh (by simp [RO]))⟩
  · cases h
    simp only [RO] at rx ry
    obtain ⟨rfl, _⟩ := rx
    obtain ⟨rfl, _⟩ := ry
    exact .inr ⟨_, _, rfl, rfl, k _ _ _ _ (NewR.same fh (by simp [RO]))⟩
  · cases h
abbrev rCmpA (fi : Int → Int → Bool) (fs : List Nat → List Nat → Bool) : R2 := fun x y H Q => (rI0 fun i j => .bl (fi i j)) x y H Q ∨ (fun x y H Q => ∃ i j, x = .str i ∧ y = .str j ∧ Q (.bl (fs i.cps.toList j.cps.toList)) H) x y H Q
theorem rn_cmpA {fi : Int → Int → Bool} {fs : List Nat → List Nat → Bool} : RN2 M (rCmpA fi fs) (cmpD fi fs) := rn_cmp rfl rfl
abbrev ltD := cmpD (fun i j => decide (i < j)) (fun s t => decide (s < t))
theorem op_ltA {X : Cx} : OpR X (compareOp .Lt) (rCmpA (fun i j => decide (i < j)) (fun s t => decide (s < t))) := op_lt.or op_lt_str
abbrev leD := cmpD (fun i j => decide (i ≤ j)) (fun s t => !decide (t < s))
theorem op_leA {X : Cx} : OpR X (compareOp .LtE) (rCmpA (fun i j => decide (i ≤ j)) (fun s t => !decide (t < s))) := op_le.or op_le_str
abbrev gtD := cmpD (fun i j => decide (j < i)) (fun s t => decide (t < s))
theorem op_gtA {X : Cx} : OpR X (compareOp .Gt) (rCmpA (fun i j => decide (j < i)) (fun s t => decide (t < s))) := op_gt.or op_gt_str
abbrev geD := cmpD (fun i j => decide (j ≤ i)) (fun s t => !decide (s < t))
theorem op_geA {X : Cx} : OpR X (compareOp .GtE) (rCmpA (fun i j => decide (j ≤ i)) (fun s t => !decide (s < t))) := op_ge.or op_ge_str
/-! ### equal -/
mutual
def deq : D → D → Bool
  | .unset, .unset => true
  | .hole, .hole => true
  | .non, .non => true
  | .bl a, .bl b => a == b
  | .int a, .int b => a == b
  | .str a, .str b => a == b
  | .scr a, .scr b => a == b
  | .fn a, .fn b => decide (a = b)
  | .exc c a, .exc c' b => decide (c = c') && deq a b
  | .lst o xs, .lst o' ys => o == o' && deqs xs ys
  | .tup o xs, .tup o' ys => o == o' && deqs xs ys
  | .dct o t ks vs, .dct o' t' ks' vs' => o == o' && t == t' && deqs ks ks' && deqs vs vs'
  | .ins o c fs vs, .ins o' c' fs' vs' => o == o' && decide (c = c') && decide (fs = fs') && deqs vs vs'
  | _, _ => false
def deqs : List D → List D → Bool
  | [], [] => true
  | x :: xs, y :: ys => deq x y && deqs xs ys
  | _, _ => false
end
mutual
theorem deq_iff : ∀ (a b : D), deq a b = true ↔ a = b
  | .unset, b => by cases b <;> simp [deq]
  | .hole, b => by cases b <;> simp [deq]
  | .non, b => by cases b <;> simp [deq]
  | .bl x, b => by cases b <;> simp [deq]
  | .int x, b => by cases b <;> simp [deq]
  | .str x, b => by cases b <;> simp [deq]
  | .scr x, b => by cases b <;> simp [deq]
  | .fn x, b => by cases b <;> simp [deq]
  | .exc c x, b => by cases b <;> simp [deq, deq_iff x]
  | .lst o xs, b => by cases b <;> simp [deq, deqs_iff xs]
  | .tup o xs, b => by cases b <;> simp [deq, deqs_iff xs]
  | .dct o t ks vs, b => by cases b <;> simp [deq, deqs_iff ks, deqs_iff vs, and_assoc]
  | .ins o c fs vs, b => by cases b <;> simp [deq, deqs_iff vs, and_assoc]
theorem deqs_iff : ∀ (a b : List D), deqs a b = true ↔ a = b
  | [], b => by cases b <;> simp [deqs]
  | x :: xs, b => by cases b <;> simp [deqs, deq_iff x, deqs_iff xs]
end
instance : DecidableEq D := fun a b => decidable_of_iff _ (deq_iff a b)
mutual
/-- as == sees it: True is 1, False is 0 -/
def nf : D → D
  | .bl k => .int (if k = true then 1 else 0)
  | .lst _ xs => .lst false (nfs xs)
  | .tup _ xs => .tup false (nfs xs)
  | d => d
def nfs : List D → List D
  | [] => []
  | d :: ds => nf d :: nfs ds
end
theorem nfs_map : ∀ ds : List D, nfs ds = ds.map nf
  | [] => rfl
  | d :: ds => by simp [nfs, nfs_map ds]
mutual
/-- what == may be asked of; n: how deep -/
def eqOk : Nat → D → Bool
  | _, .non => true
  | _, .bl _ => true
  | _, .int _ => true
  | _, .str s => s.all (· < 0x110000)
  | n + 1, .lst _ xs => eqOks n xs
  | n + 1, .tup _ xs => eqOks n xs
  | _, _ => false
def eqOks : Nat → List D → Bool
  | _, [] => true
  | n, d :: ds => eqOk n d && eqOks n ds
end
theorem eqOks_all : ∀ (n : Nat) (ds : List D), eqOks n ds = ds.all (eqOk n)
  | n, [] => by simp [eqOks]
  | n, d :: ds => by simp [eqOks, eqOks_all n ds]
mutual
def toPy : D → PyData
  | .non => .none
  | .bl k => .bool k
  | .int i => .int i
  | .str s => .str ⟨s.toArray⟩
  | .lst _ xs => .list (toPys xs)
  | .tup _ xs => .tuple (toPys xs)
  | _ => .none
def toPys : List D → List PyData
  | [] => []
  | d :: ds => toPy d :: toPys ds
end
mutual
theorem toPy_dp (fh : FH F H) : ∀ (n : Nat) (d : D) {v : V} {S : AS}, eqOk n d = true → RO M F H d v S → Dp M.K H v (toPy d)
  | n, .unset, v, S, e, r => by simp [eqOk] at e
  | n, .hole, v, S, e, r => by simp [eqOk] at e
  | n, .scr _, v, S, e, r => by simp [eqOk] at e
  | n, .dct _ _ _ _, v, S, e, r => by simp [eqOk] at e
  | n, .ins _ _ _ _, v, S, e, r => by simp [eqOk] at e
  | n, .non, v, S, e, r => by simp only [RO] at r; obtain ⟨rfl, _⟩ := r; exact .non
  | n, .bl k, v, S, e, r => by simp only [RO] at r; obtain ⟨rfl, _⟩ := r; exact .bl k
  | n, .int i, v, S, e, r => by simp only [RO] at r; obtain ⟨rfl, _⟩ := r; exact .int i
  | n, .str s, v, S, e, r => by simp only [RO] at r; obtain ⟨rfl, _⟩ := r; exact .str _
  | 0, .lst o xs, v, S, e, r => by simp [eqOk] at e
  | 0, .tup o xs, v, S, e, r => by simp [eqOk] at e
  | n + 1, .lst o xs, v, S, e, r => by
    simp only [eqOk] at e
    obtain ⟨a, vs, T, rfl, sq, rs, _⟩ := r.lst_in fh
    exact .lst sq (toPys_dp fh n xs e rs)
  | n + 1, .tup o xs, v, S, e, r => by
    simp only [eqOk] at e
    obtain ⟨a, vs, T, rfl, sq, rs, _⟩ := r.tup_in fh
    exact .tup sq (toPys_dp fh n xs e rs)
theorem toPys_dp (fh : FH F H) : ∀ (n : Nat) (ds : List D) {vs : List V} {S : AS}, eqOks n ds = true → ROs M F H ds vs S → DpAll M.K H vs (toPys ds)
  | n, [], vs, S, e, r => by simp only [ROs] at r; obtain ⟨rfl, _⟩ := r; exact .nil
  | n, d :: ds, vs, S, e, r => by
    simp only [ROs] at r
    simp only [eqOks, Bool.and_eq_true] at e
    obtain ⟨v, ws, S1, S2, rfl, r1, r2, _⟩ := r
    exact .cons (toPy_dp fh n d e.1 r1) (toPys_dp fh n ds e.2 r2)
end
mutual
theorem toPy_can : ∀ (n : Nat) (d : D), eqOk n d = true → PyData.canLay0 (toPy d) = true ∧ PyData.depth (toPy d) ≤ n
  | n, .unset, e => by simp [eqOk] at e
  | n, .hole, e => by simp [eqOk] at e
  | n, .scr _, e => by simp [eqOk] at e
  | n, .dct _ _ _ _, e => by simp [eqOk] at e
  | n, .ins _ _ _ _, e => by simp [eqOk] at e
  | n, .non, e => by simp [toPy, PyData.canLay0, PyData.depth]
  | n, .bl k, e => by simp [toPy, PyData.canLay0, PyData.depth]
  | n, .int i, e => by simp [toPy, PyData.canLay0, PyData.depth]
  | n, .str s, e => by
    simp only [eqOk] at e
    refine ⟨?_, by simp [toPy, PyData.depth]⟩
    simp only [toPy, PyData.canLay0, PyData.strOk]
    simpa using e
  | 0, .lst o xs, e => by simp [eqOk] at e
  | 0, .tup o xs, e => by simp [eqOk] at e
  | n + 1, .lst o xs, e => by
    simp only [eqOk] at e
    have := toPys_can n xs e
    simp only [toPy, PyData.canLay0, PyData.depth]
    exact ⟨this.1, by omega⟩
  | n + 1, .tup o xs, e => by
    simp only [eqOk] at e
    have := toPys_can n xs e
    simp only [toPy, PyData.canLay0, PyData.depth]
    exact ⟨this.1, by omega⟩
theorem toPys_can : ∀ (n : Nat) (ds : List D), eqOks n ds = true → PyData.canLayAll0 (toPys ds) = true ∧ PyData.depthAll (toPys ds) ≤ n
  | n, [], e => by simp [toPys, PyData.canLayAll0, PyData.depthAll]
  | n, d :: ds, e => by
    simp only [eqOks, Bool.and_eq_true] at e
    have h1 := toPy_can n d e.1
    have h2 := toPys_can n ds e.2
    simp only [toPys, PyData.canLayAll0, PyData.depthAll, Bool.and_eq_true]
    exact ⟨⟨h1.1, h2.1⟩, by omega⟩
end
theorem toPy_shaped {n : Nat} {d : D} (hn : n ≤ 64) (e : eqOk n d = true) : SeqAt.shaped (toPy d) = true := by
  have := toPy_can n d e
  simp only [SeqAt.shaped, Bool.and_eq_true, decide_eq_true_eq]
  exact ⟨this.1, by omega⟩
mutual
theorem toPy_eqv : ∀ (n : Nat) (d e : D) (m : Nat), eqOk n d = true → eqOk m e = true → PyData.eqv (toPy d) (toPy e) = decide (nf d = nf e)
  | n, .unset, e, m, h, h2 => by simp [eqOk] at h
  | n, .hole, e, m, h, h2 => by simp [eqOk] at h
  | n, .scr _, e, m, h, h2 => by simp [eqOk] at h
  | n, .dct _ _ _ _, e, m, h, h2 => by simp [eqOk] at h
  | n, .ins _ _ _ _, e, m, h, h2 => by simp [eqOk] at h
  | n, .non, e, m, h, h2 => by cases e <;> simp_all [eqOk, toPy, nf, PyData.eqv]
  | n, .bl k, e, m, h, h2 => by cases e <;> simp_all [eqOk, toPy, nf, PyData.eqv] <;> (rename_i b; first | (cases k <;> cases b <;> rfl) | (cases k <;> simp [Bool.beq_eq_decide_eq]))
  | n, .int i, e, m, h, h2 => by cases e <;> simp_all [eqOk, toPy, nf, PyData.eqv, Bool.beq_eq_decide_eq]
  | n, .str s, e, m, h, h2 => by
    cases e <;> simp_all [eqOk, toPy, nf, PyData.eqv]
    rename_i t
    by_cases hs : s = t
    · subst hs; simp
    · have : ¬ ((⟨s.toArray⟩ : Str) = ⟨t.toArray⟩) := fun z => hs (by injection z with z; simpa using z)
      simp [hs, this]
  | 0, .lst o xs, e, m, h, h2 => by simp [eqOk] at h
  | 0, .tup o xs, e, m, h, h2 => by simp [eqOk] at h
  | n + 1, .lst o xs, e, m, h, h2 => by
    simp only [eqOk] at h
    cases e with
    | lst o' ys =>
      cases m with
      | zero => simp [eqOk] at h2
      | succ m =>
        simp only [eqOk] at h2
        simp only [toPy, PyData.eqv, nf, D.lst.injEq, true_and]
        exact toPys_eqv n xs ys m h h2
    | _ => simp_all [eqOk, toPy, nf, PyData.eqv]
  | n + 1, .tup o xs, e, m, h, h2 => by
    simp only [eqOk] at h
    cases e with
    | tup o' ys =>
      cases m with
      | zero => simp [eqOk] at h2
      | succ m =>
        simp only [eqOk] at h2
        simp only [toPy, PyData.eqv, nf, D.tup.injEq, true_and]
        exact toPys_eqv n xs ys m h h2
    | _ => simp_all [eqOk, toPy, nf, PyData.eqv]
theorem toPys_eqv : ∀ (n : Nat) (ds es : List D) (m : Nat), eqOks n ds = true → eqOks m es = true → PyData.eqvAll (toPys ds) (toPys es) = decide (nfs ds = nfs es)
  | n, [], es, m, h, h2 => by cases es <;> simp [toPys, PyData.eqvAll, nfs]
  | n, d :: ds, es, m, h, h2 => by
    cases es with
    | nil => simp [toPys, PyData.eqvAll, nfs]
    | cons e es =>
      simp only [eqOks, Bool.and_eq_true] at h h2
      simp only [toPys, PyData.eqvAll, nfs, toPy_eqv n d e m h.1 h2.1, toPys_eqv n ds es m h.2 h2.2]
      by_cases z : nf d = nf e <;> simp [z]
end
def eqD : D → D → Option D := fun d e => if eqOk 60 d = true ∧ eqOk 60 e = true then some (.bl (decide (nf d = nf e))) else none
def neD : D → D → Option D := fun d e => if eqOk 60 d = true ∧ eqOk 60 e = true then some (.bl (!decide (nf d = nf e))) else none
theorem rn_eq : RN2 M (rEqD M.K) eqD := by
  intro F H x y d e z Sx Sy Q fh rx ry h k
  unfold eqD at h
  split at h
  · rename_i hc
    cases h
    refine ⟨toPy d, toPy e, toPy_dp fh 60 d hc.1 rx, toPy_dp fh 60 e hc.2 ry, toPy_shaped (by decide) hc.1, toPy_shaped (by decide) hc.2, ?_⟩
    rw [toPy_eqv 60 d e 60 hc.1 hc.2]
    exact k _ _ _ _ (NewR.same fh (by simp [RO]))
  · cases h
theorem rn_ne : RN2 M (rNeD M.K) neD := by
  intro F H x y d e z Sx Sy Q fh rx ry h k
  unfold neD at h
  split at h
  · rename_i hc
    cases h
    refine ⟨toPy d, toPy e, toPy_dp fh 60 d hc.1 rx, toPy_dp fh 60 e hc.2 ry, toPy_shaped (by decide) hc.1, toPy_shaped (by decide) hc.2, ?_⟩
    rw [toPy_eqv 60 d e 60 hc.1 hc.2]
    exact k _ _ _ _ (NewR.same fh (by simp [RO]))
  · cases h
/-! ### is None -/
def isND : D → D → Option D
  | d, .non => if isSet d = true then some (.bl (decide (d = .non))) else none
  | _, _ => none
def notND : D → D → Option D
  | d, .non => if isSet d = true then some (.bl (!decide (d = .non))) else none
  | _, _ => none
theorem RO.non_iff {d : D} {v : V} (hs : isSet d = true) (hh : d ≠ .hole) (r : RO M F H d v S) : decide (v = .non) = decide (d = .non) := by
  cases d with
  | unset => cases hs
  | hole => exact (hh rfl).elim
  | non => simp only [RO] at r; simp [r.1]
  | bl k => simp only [RO] at r; simp [r.1]
  | int k => simp only [RO] at r; simp [r.1]
  | str k => simp only [RO] at r; simp [r.1]
  | scr k => simp only [RO] at r; obtain ⟨⟨a, rfl, _⟩, _⟩ := r; simp
  | fn c => simp only [RO] at r; simp [r.1]
  | exc c x => simp only [RO] at r; obtain ⟨_, a, dx, rfl, _⟩ := r; simp
  | lst o xs => simp only [RO] at r; obtain ⟨a, vs, T, rfl, _⟩ := r; simp
  | tup o xs => simp only [RO] at r; obtain ⟨a, vs, T, rfl, _⟩ := r; simp
  | dct o t ks vs => simp only [RO] at r; obtain ⟨a, vs, T, rfl, _⟩ := r; simp
  | ins o c fs vs => simp only [RO] at r; obtain ⟨a, dx, vs, T, rfl, _⟩ := r; simp
end
end VS
set_option maxHeartbeats 1000000
/-! VSOps2: kinds, lengths, items, slices, built-in functions, methods. -/
namespace VS
open PySem PyProof.Rows L2

section
variable {M : Mn} {W : WD} {b b1 b2 : Bool} {F H F' H' F1 H1 : Hp} {env env' env1 : List D} {σ : L2.St} {S S' S1 T : AS} {pr : Nat → Bool}
def known (d : D) : Bool := isFz d || own d
theorem known_hole {d : D} (h : known d = true) : d ≠ .hole := fun z => by subst z; cases h
theorem known_set {d : D} (h : known d = true) : isSet d = true := by cases d <;> first | rfl | cases h
def isNoneD : D → D → Option D := fun d e => match e with
  | .non => if known d = true then some (.bl (decide (d = .non))) else none
  | _ => none
def notNoneD : D → D → Option D := fun d e => match e with
  | .non => if known d = true then some (.bl (!decide (d = .non))) else none
  | _ => none
theorem rn_isN : RN2 M (fun x y H Q => y = .non ∧ Q (.bl (decide (x = .non))) H) isNoneD := by
  intro F H x y d e z Sx Sy Q fh rx ry h k
  unfold isNoneD at h
  split at h
  · split at h
    · rename_i hk
      cases h
      simp only [RO] at ry
      refine ⟨ry.1, ?_⟩
      rw [RO.non_iff (known_set hk) (known_hole hk) rx]
      exact k _ _ _ _ (NewR.same fh (by simp [RO]))
    · cases h
  · cases h
theorem rn_notN : RN2 M (fun x y H Q => y = .non ∧ Q (.bl (!decide (x = .non))) H) notNoneD := by
  intro F H x y d e z Sx Sy Q fh rx ry h k
  unfold notNoneD at h
  split at h
  · split at h
    · rename_i hk
      cases h
      simp only [RO] at ry
      refine ⟨ry.1, ?_⟩
      rw [RO.non_iff (known_set hk) (known_hole hk) rx]
      exact k _ _ _ _ (NewR.same fh (by simp [RO]))
    · cases h
  · cases h
/-! ### isinstance -/
def tyName : D → Option String
  | .non => some "NoneType"
  | .bl _ => some "bool"
  | .int _ => some "int"
  | .str _ => some "str"
  | .lst _ _ => some "list"
  | .scr _ => some "list"
  | .tup _ _ => some "tuple"
  | .dct o t _ _ => if o = true ∨ t = false then some "dict" else none
  | _ => none
theorem ty_of {d : D} {v : V} {n : String} (e : tyName d = some n) (r : RO M F H d v S) (fh : FH F H) : TyX M.K H v (.type n) := by
  cases d with
  | unset => cases e
  | hole => cases e
  | ins _ _ _ _ => cases e
  | fn _ => cases e
  | exc _ _ => cases e
  | non => cases e; simp only [RO] at r; rw [r.1]; exact .base .non
  | bl k => cases e; simp only [RO] at r; rw [r.1]; exact .base (.bl k)
  | int k => cases e; simp only [RO] at r; rw [r.1]; exact .base (.int k)
  | str k => cases e; simp only [RO] at r; rw [r.1]; exact .base (.str _)
  | scr k =>
    cases e
    simp only [RO] at r
    obtain ⟨⟨a, rfl, sq⟩, _⟩ := r
    rcases rd_scr fh sq with (h | ⟨o, h⟩) | ⟨o, its, n, h, c, _⟩
    · exact .base (.lst h)
    · exact .base (.frz h)
    · exact .kList h c
  | lst o xs =>
    cases e
    simp only [RO] at r
    obtain ⟨a, vs, T, rfl, _, c⟩ := r
    cases o with
    | true => simp only [if_true] at c; exact .base (.lst c.1)
    | false => simp only [Bool.false_eq_true, if_false] at c; exact .base (.lst (rd_lstH fh c.1))
  | tup o xs =>
    cases e
    obtain ⟨a, vs, T, rfl, sq, _⟩ := r.tup_in fh
    rcases sq with (h | ⟨o, h⟩) | ⟨o, its, n, h, c, _⟩
    · exact .base (.tup h)
    · exact .fTuple h
    · exact .kTuple h c
  | dct o t ks vs =>
    simp only [tyName] at e
    split at e
    · rename_i ho
      cases e
      simp only [RO] at r
      obtain ⟨a, ws, T, rfl, hT, ho', hk, c⟩ := r
      have key : (∃ kvs, ho' = .dT kvs) ∨ ∃ kvs, ho' = .dK kvs := by
        cases t with
        | true => simp only [if_true] at hk; obtain ⟨kvs, q, _⟩ := hk; exact .inl ⟨kvs, q⟩
        | false => simp only [Bool.false_eq_true, if_false] at hk; obtain ⟨kvs, q, _⟩ := hk; exact .inr ⟨kvs, q⟩
      cases o with
      | true =>
        simp only [if_true] at c
        rcases key with ⟨kvs, rfl⟩ | ⟨kvs, rfl⟩
        · exact .base (.dT c.1)
        · exact .base (.dK c.1)
      | false =>
        simp only [Bool.false_eq_true, if_false] at c
        have ht : t = false := by simpa using ho
        subst ht
        simp only [Bool.false_eq_true, if_false] at hk
        obtain ⟨kvs, rfl, _⟩ := hk
        rcases fh a _ c.1 with z | ⟨_, ob, z⟩
        · exact .base (.dK z)
        · exact .fDict z
    · cases e
/-- the kinds that are asked for -/
def kitT (n T : String) : Option Bool := if n ∈ ["NoneType", "bool", "int", "str", "list", "tuple", "dict"] ∧ T ∈ ["bool", "int", "str", "list", "tuple", "dict"] then some (n == T || (n == "bool" && T == "int")) else none
theorem kitT_ok {K : PySem.W.Frag} {n T : String} {r : Bool} (h : kitT n T = some r) : PySem.W.kitOne K (.type n) (.type T) = some r := by
  unfold kitT at h
  split at h
  · rename_i hc
    obtain ⟨h1, h2⟩ := hc
    cases h
    simp only [List.mem_cons, List.not_mem_nil, or_false] at h1 h2
    rcases h1 with rfl | rfl | rfl | rfl | rfl | rfl | rfl <;> rcases h2 with rfl | rfl | rfl | rfl | rfl | rfl <;> exact kit_ty (by decide +kernel)
  · cases h
def isiD (T : String) : D → Option D := fun d => (tyName d).bind fun n => (kitT n T).map .bl
theorem rn_isi {T : String} : RN M (fun vs H Q => match vs with | [x] => rIsi M.K [x, .ty T] H Q | _ => False) (op1 (isiD T)) := by
  intro F H ds vs z Q fh rl e k
  unfold op1 at e
  split at e
  · rename_i a
    obtain ⟨x, ws, Sx, rfl, r1, rr⟩ := rl
    simp only [RL] at rr
    subst rr
    unfold isiD at e
    cases q : tyName a with
    | none => rw [q] at e; cases e
    | some n =>
      rw [q] at e
      cases q2 : kitT n T with
      | none =>
        have e : (kitT n T).map D.bl = some z := e
        rw [q2] at e; cases e
      | some r =>
        have e : (kitT n T).map D.bl = some z := e
        rw [q2] at e
        cases e
        exact ⟨x, _, _, _, r, rfl, .ty T, ty_of q r1 fh, kitT_ok q2, k _ _ _ _ (NewR.same fh (by simp [RO]))⟩
  · cases e
theorem se_isi {te : TE} {f : List D → R Rv} (T : String) (h : SE M W b te f) : SE M W (b && true) (tCB (rIsi M.K) (tCons te (tCons (tC (.ty T)) tNil))) (una (isiD T) f) :=
  se_n (ta := tCons te tNil) (r := fun vs H Q => match vs with | [x] => rIsi M.K [x, .ty T] H Q | _ => False) (sa_cons h sa_nil) rn_isi
def kitTs (n : String) : List String → Option Bool
  | [] => some false
  | T :: Ts => match kitT n T with
    | some true => some true
    | some false => kitTs n Ts
    | none => none
theorem kitTs_ok {K : PySem.W.Frag} {n : String} : ∀ {Ts : List String} {r : Bool}, kitTs n Ts = some r → PySem.W.kitAny K (.type n) (Ts.map Value.type) = some r
  | [], r, h => by
    simp only [kitTs] at h
    cases h
    rfl
  | T :: Ts, r, h => by
    simp only [kitTs] at h
    simp only [List.map, PySem.W.kitAny]
    cases q : kitT n T with
    | none => rw [q] at h; cases h
    | some k =>
      rw [q] at h
      rw [kitT_ok (K := K) q]
      cases k with
      | true => exact h
      | false => exact kitTs_ok h
def isiTD (Ts : List String) : D → Option D := fun d => (tyName d).bind fun n => (kitTs n Ts).map .bl
theorem paired_ty : ∀ Ts : List String, Paired ClsV (Ts.map V.ty) (Ts.map Value.type)
  | [] => .nil
  | T :: Ts => .cons (.ty T) (paired_ty Ts)
theorem se_isi2 {te : TE} {f : List D → R Rv} (T1 T2 : String) (h : SE M W b te f) : SE M W (b && true) (tCB (rIsiT M.K) (tCons te (tCons (tTup (tCons (tC (.ty T1)) (tCons (tC (.ty T2)) tNil))) tNil))) (una (isiTD [T1, T2]) f) := by
  refine se_n (ta := tCons te tNil) (r := fun vs H Q => match vs with | [x] => 2 ≤ sizeLine ∧ ∀ p, H p = none → rIsiT M.K [x, .ref p] (upd H p (.tup [.ty T1, .ty T2])) Q | _ => False) (sa_cons h sa_nil) ?_
  intro F H ds vs z Q fh rl e k
  unfold op1 at e
  split at e
  · rename_i a
    obtain ⟨x, ws, Sx, rfl, r1, rr⟩ := rl
    simp only [RL] at rr
    subst rr
    unfold isiTD at e
    cases q : tyName a with
    | none => rw [q] at e; cases e
    | some n =>
      rw [q] at e
      cases q2 : kitTs n [T1, T2] with
      | none =>
        have e : (kitTs n [T1, T2]).map D.bl = some z := e
        rw [q2] at e; cases e
      | some r =>
        have e : (kitTs n [T1, T2]).map D.bl = some z := e
        rw [q2] at e
        cases e
        refine ⟨by decide, fun p hp => ?_⟩
        have hF := fh.none_of hp
        have fh2 : FH F (upd H p (.tup [.ty T1, .ty T2])) := fun a u e => (fh a u e).imp (ext_upd hp a u) fun ⟨l, o, z⟩ => ⟨l, o, ext_upd hp a _ z⟩
        have r1' : RO M F (upd H p (.tup [.ty T1, .ty T2])) a x Sx := r1.mono a (Ext.refl _) fun b hb => upd_ne fun e => by
          obtain ⟨o, q, _⟩ := r1.alive a b hb
          rw [e, hp] at q
          cases q
        refine ⟨x, p, _, _, [.type T1, .type T2], r, rfl, upd_same, paired_ty [T1, T2], ty_of q r1' fh2, kitTs_ok q2, k _ F _ em ⟨Ext.refl _, ext_upd hp, by simp [RO], fun _ h => h.elim, fun _ h => h.elim, fun _ _ h => .inl h, fh2⟩⟩
  · cases e
/-! ### all, any -/
def blsD : List D → Option (List Bool)
  | [] => some []
  | .bl k :: ds => (blsD ds).map (k :: ·)
  | _ => none
theorem blsD_ok : ∀ {ds : List D} {bs : List Bool} {vs : List V} {S : AS}, blsD ds = some bs → ROs M F H ds vs S → vs = bs.map V.bl
  | [], bs, vs, S, e, r => by
    simp only [blsD] at e
    cases e
    simp only [ROs] at r
    exact r.1
  | d :: ds, bs, vs, S, e, r => by
    cases d with
    | bl k =>
      simp only [blsD] at e
      cases q : blsD ds with
      | none => rw [q] at e; cases e
      | some cs =>
        rw [q] at e
        cases e
        simp only [ROs, RO] at r
        obtain ⟨v, ws, S1, S2, rfl, ⟨rfl, _⟩, r2, _⟩ := r
        rw [blsD_ok q r2]
        rfl
    | _ => cases e
def allD : D → Option D := fun d => (lstI d).bind fun xs => (blsD xs).map fun bs => .bl (bs.all id)
def anyD : D → Option D := fun d => (lstI d).bind fun xs => (blsD xs).map fun bs => .bl (bs.any id)
theorem rn_all : RN M (rAll M.K) (op1 allD) := by
  intro F H ds vs z Q fh rl e k
  unfold op1 at e
  split at e
  · rename_i a
    obtain ⟨x, ws, Sx, rfl, r1, rr⟩ := rl
    simp only [RL] at rr
    subst rr
    unfold allD at e
    cases q : lstI a with
    | none => rw [q] at e; cases e
    | some xs =>
      rw [q] at e
      have e : (blsD xs).map (fun bs => D.bl (bs.all id)) = some z := e
      cases q2 : blsD xs with
      | none => rw [q2] at e; cases e
      | some bs =>
        rw [q2] at e
        cases e
        obtain ⟨p, us, rfl, h1, h2⟩ := lstI_in q r1 fh
        have := blsD_ok q2 h2
        subst this
        exact ⟨p, bs, rfl, SqL.of h1, k _ _ _ _ (NewR.same fh (by simp [RO]))⟩
  · cases e
theorem rn_any : RN M (rAny M.K) (op1 anyD) := by
  intro F H ds vs z Q fh rl e k
  unfold op1 at e
  split at e
  · rename_i a
    obtain ⟨x, ws, Sx, rfl, r1, rr⟩ := rl
    simp only [RL] at rr
    subst rr
    unfold anyD at e
    cases q : lstI a with
    | none => rw [q] at e; cases e
    | some xs =>
      rw [q] at e
      have e : (blsD xs).map (fun bs => D.bl (bs.any id)) = some z := e
      cases q2 : blsD xs with
      | none => rw [q2] at e; cases e
      | some bs =>
        rw [q2] at e
        cases e
        obtain ⟨p, us, rfl, h1, h2⟩ := lstI_in q r1 fh
        have := blsD_ok q2 h2
        subst this
        exact ⟨p, bs, rfl, SqL.of h1, k _ _ _ _ (NewR.same fh (by simp [RO]))⟩
  · cases e
/-! ### len -/
def lenD : D → Option D
  | .lst _ xs => some (.int xs.length)
  | .tup _ xs => some (.int xs.length)
  | .scr ns => some (.int ns.length)
  | .str s => if s.length ≤ LIM then some (.int s.length) else none
  | .dct o t ks _ => if o = true ∧ t = false then some (.int ks.length) else none
  | _ => none
abbrev rLenA (K : PySem.W.Frag) : List V → Hp → VK → Prop := fun xs H Q => (∃ x n, xs = [x] ∧ LenV K x H n ∧ Q (.int n) H) ∨ (fun xs H Q => ∃ a kvs, xs = [V.ref a] ∧ H a = some (.dK kvs) ∧ Q (.int kvs.length) H) xs H Q
theorem call_lenA {X : Cx} : CallR X (.builtin "len") (rLenA X.K) := call_len.or call_lenD
theorem rn_len : RN M (rLenA M.K) (op1 lenD) := by
  intro F H ds vs z Q fh rl e k
  unfold op1 at e
  split at e
  · rename_i a
    obtain ⟨x, ws, Sx, rfl, r1, rr⟩ := rl
    simp only [RL] at rr
    subst rr
    cases a with
    | lst o xs =>
      simp only [lenD] at e
      cases e
      obtain ⟨p, us, T, rfl, sq, rs, _⟩ := r1.lst_in fh
      exact .inl ⟨_, us.length, rfl, .inl ⟨us, sq, rfl⟩, by rw [← rs.len]; exact k _ _ _ _ (NewR.same fh (by simp [RO]))⟩
    | tup o xs =>
      simp only [lenD] at e
      cases e
      obtain ⟨p, us, T, rfl, sq, rs, _⟩ := r1.tup_in fh
      exact .inl ⟨_, us.length, rfl, .inr ⟨us, sq, rfl⟩, by rw [← rs.len]; exact k _ _ _ _ (NewR.same fh (by simp [RO]))⟩
    | scr ns =>
      simp only [lenD] at e
      cases e
      simp only [RO] at r1
      obtain ⟨⟨p, rfl, sq⟩, _⟩ := r1
      exact .inl ⟨_, _, rfl, .inl ⟨_, rd_scr fh sq, rfl⟩, by rw [List.length_map]; exact k _ _ _ _ (NewR.same fh (by simp [RO]))⟩
    | str s =>
      simp only [lenD] at e
      split at e
      · rename_i hl
        cases e
        simp only [RO] at r1
        obtain ⟨rfl, _⟩ := r1
        exact .inl ⟨_, s.length, rfl, ⟨by rw [str_len]; exact lim_ok hl, (str_len s).symm⟩, k _ _ _ _ (NewR.same fh (by simp [RO]))⟩
      · cases e
    | dct o t ks ds =>
      simp only [lenD] at e
      split at e
      · rename_i ho
        obtain ⟨rfl, rfl⟩ := ho
        cases e
        simp only [RO, if_true, Bool.false_eq_true, if_false] at r1
        obtain ⟨p, us, T, rfl, rs, ho, ⟨kvs, rfl, rfl, rfl, _⟩, h1, _⟩ := r1
        exact .inr ⟨p, kvs, rfl, h1, by have := k (.int kvs.length) F H em (NewR.same fh (by simp [RO])); exact this⟩
      · cases e
    | _ => cases e
  · cases e
/-! ### items -/
def ixD : D → D → Option D
  | .lst _ xs, .int i => (atI xs i).bind fun d => if isFz d = true then some d else none
  | .tup _ xs, .int i => (atI xs i).bind fun d => if isFz d = true then some d else none
  | .str s, .int i => if s.length ≤ LIM then (atI s i).map fun c => .str [c] else none
  | .scr ns, .int i => (atI ns i).map .int
  | _, _ => none
theorem atI_ros {xs : List D} {vs : List V} {S : AS} {i : Int} {d : D} (r : ROs M F H xs vs S) (e : atI xs i = some d) : ∃ v T, atI vs i = some v ∧ RO M F H d v T := by
  unfold atI at e ⊢
  rw [← r.len]
  cases q : ixN xs.length i with
  | none => rw [q] at e; cases e
  | some j =>
    rw [q] at e
    have e : xs[j]? = some d := e
    obtain ⟨v, T, e1, r1⟩ := r.get e
    exact ⟨v, T, e1, r1⟩
theorem rn_ix : RN2 M (rIx M.K) ixD := by
  intro F H x y d e z Sx Sy Q fh rx ry h k
  cases d with
  | lst o xs =>
    cases e with
    | int i =>
      simp only [ixD] at h
      cases q : atI xs i with
      | none => rw [q] at h; cases h
      | some c =>
        rw [q] at h
        have h : (if isFz c = true then some c else none) = some z := h
        split at h
        · rename_i hz
          cases h
          obtain ⟨p, us, T, rfl, sq, rs, _⟩ := rx.lst_in fh
          simp only [RO] at ry
          obtain ⟨rfl, _⟩ := ry
          obtain ⟨v, T', e1, r1⟩ := atI_ros rs q
          have := r1.fz_em hz
          subst this
          exact .inl ⟨p, us, i, v, rfl, rfl, sq, e1, k _ _ _ _ (NewR.same fh r1)⟩
        · cases h
    | _ => cases h
  | tup o xs =>
    cases e with
    | int i =>
      simp only [ixD] at h
      cases q : atI xs i with
      | none => rw [q] at h; cases h
      | some c =>
        rw [q] at h
        have h : (if isFz c = true then some c else none) = some z := h
        split at h
        · rename_i hz
          cases h
          obtain ⟨p, us, T, rfl, sq, rs, _⟩ := rx.tup_in fh
          simp only [RO] at ry
          obtain ⟨rfl, _⟩ := ry
          obtain ⟨v, T', e1, r1⟩ := atI_ros rs q
          have := r1.fz_em hz
          subst this
          exact .inr (.inl ⟨p, us, i, v, rfl, rfl, sq, e1, k _ _ _ _ (NewR.same fh r1)⟩)
        · cases h
    | _ => cases h
  | str s =>
    cases e with
    | int i =>
      simp only [ixD] at h
      split at h
      · rename_i hl
        cases q : atI s i with
        | none => rw [q] at h; cases h
        | some c =>
          rw [q] at h
          cases h
          simp only [RO] at rx ry
          obtain ⟨rfl, _⟩ := rx
          obtain ⟨rfl, _⟩ := ry
          exact .inr (.inr ⟨_, i, c, rfl, rfl, by rw [str_len]; exact lim_ok hl, q, k _ _ _ _ (NewR.same fh (by simp [RO]))⟩)
      · cases h
    | _ => cases h
  | scr ns =>
    cases e with
    | int i =>
      simp only [ixD] at h
      cases q : atI ns i with
      | none => rw [q] at h; cases h
      | some c =>
        rw [q] at h
        cases h
        simp only [RO] at rx ry
        obtain ⟨⟨p, rfl, sq⟩, _⟩ := rx
        obtain ⟨rfl, _⟩ := ry
        have : atI (ns.map V.int) i = some (.int c) := by
          unfold atI at q ⊢
          rw [List.length_map]
          cases q2 : ixN ns.length i with
          | none => rw [q2] at q; cases q
          | some j =>
            rw [q2] at q
            have q : ns[j]? = some c := q
            show (ns.map V.int)[j]? = _
            rw [List.getElem?_map, q]; rfl
        exact .inl ⟨p, _, i, _, rfl, rfl, rd_scr fh sq, this, k _ _ _ _ (NewR.same fh (by simp [RO]))⟩
    | _ => cases h
  | _ => cases h
/-! ### slices -/
def cutL {α : Type} (xs : List α) (lo hi : Option Int) : List α := (xs.drop (HT.sIx xs.length 0 lo)).take (HT.sIx xs.length xs.length hi - HT.sIx xs.length 0 lo)
def slD (lo hi : Option Int) : D → Option D
  | .lst o xs => (lstI (.lst o xs)).map fun xs => .lst true (cutL xs lo hi)
  | .scr ns => some (.lst true (cutL (ns.map D.int) lo hi))
  | .tup o xs => (tupI (.tup o xs)).map fun xs => .tup false (cutL xs lo hi)
  | .str s => if s.length ≤ LIM then some (.str (cutL s lo hi)) else none
  | _ => none
abbrev rSlAll (K : PySem.W.Frag) : V → Option Int → Option Int → Hp → VK → Prop := fun x lo hi H Q => rSlL K x lo hi H Q ∨ (fun x lo hi H Q => rSlA K x lo hi H Q ∨ rSlS x lo hi H Q) x lo hi H Q
theorem sl_all {X : Cx} : SlR X (rSlAll X.K) := sl_list.or (sl_tupA.or sl_str)
theorem ROs.drop_em {xs : List D} {vs : List V} (r : ROs M F H xs vs em) (n : Nat) : ROs M F H (xs.drop n) (vs.drop n) em := by
  obtain ⟨S1, S2, _, h2, _, e⟩ := r.split (n := n)
  have : S2 = em := AS.ext fun a => ⟨fun z => by
    have : (un S1 S2) a := .inr z
    rw [← e] at this
    exact this, fun z => z.elim⟩
  rw [this] at h2
  exact h2
theorem ROs.take_em {xs : List D} {vs : List V} (r : ROs M F H xs vs em) (n : Nat) : ROs M F H (xs.take n) (vs.take n) em := by
  obtain ⟨S1, S2, h1, _, _, e⟩ := r.split (n := n)
  have : S1 = em := AS.ext fun a => ⟨fun z => by
    have : (un S1 S2) a := .inl z
    rw [← e] at this
    exact this, fun z => z.elim⟩
  rw [this] at h1
  exact h1
theorem ROs.cut {xs : List D} {vs : List V} (r : ROs M F H xs vs em) (lo hi : Option Int) : ROs M F H (cutL xs lo hi) (cutV vs lo hi) em := by
  unfold cutL cutV
  rw [r.len]
  exact (r.drop_em _).take_em _
theorem rn_sl (lo hi : Option Int) : RN1 M (fun x H Q => rSlAll M.K x lo hi H Q) (slD lo hi) := by
  intro F H x d z Sx Q fh rx h k
  cases d with
  | lst o xs =>
    simp only [slD] at h
    cases q : lstI (.lst o xs) with
    | none => rw [q] at h; cases h
    | some ys =>
      rw [q] at h
      cases h
      obtain ⟨a, vs, rfl, h1, r1⟩ := lstI_in q rx fh
      exact .inl ⟨a, vs, rfl, SqL.of h1, fun p hp => k _ _ _ _ (NewR.lst fh (r1.cut lo hi) hp)⟩
  | scr ns =>
    simp only [slD] at h
    cases h
    simp only [RO] at rx
    obtain ⟨⟨a, rfl, sq⟩, _⟩ := rx
    exact .inl ⟨a, _, rfl, rd_scr fh sq, fun p hp => k _ _ _ _ (NewR.lst fh ((ros_ints ns).cut lo hi) hp)⟩
  | tup o xs =>
    simp only [slD] at h
    cases q : tupI (.tup o xs) with
    | none => rw [q] at h; cases h
    | some ys =>
      rw [q] at h
      cases h
      obtain ⟨a, vs, rfl, h1, r1⟩ := tupI_in q rx fh
      refine .inr (.inl ⟨a, vs, rfl, SqT.of h1, fun hw => ?_, fun _ p hp => k _ _ _ _ (NewR.tup fh (r1.cut lo hi) hp)⟩)
      -- the whole: the tuple itself
      have e : cutL ys lo hi = ys := by
        unfold cutL
        rw [r1.len, hw.1, hw.2, List.drop_zero, ← r1.len]
        simp
      have ho : o = false ∧ ys = xs := by
        cases o with
        | true => simp only [tupI, if_true] at q; cases q
        | false =>
          simp only [tupI, Bool.false_eq_true, if_false] at q
          cases q
          exact ⟨rfl, rfl⟩
      obtain ⟨rfl, rfl⟩ := ho
      have hz := rx.fz_em (by rfl)
      rw [hz] at rx
      exact k _ _ _ _ (NewR.same fh (by show RO M F H (.tup false (cutL ys lo hi)) _ _; rw [e]; exact rx))
  | str s =>
    simp only [slD] at h
    split at h
    · rename_i hl
      cases h
      simp only [RO] at rx
      obtain ⟨rfl, _⟩ := rx
      refine .inr (.inr ⟨_, rfl, by rw [str_len]; exact lim_ok hl, k _ _ _ _ (NewR.same fh ?_)⟩)
      simp only [RO]
      exact ⟨congrArg V.str (by unfold cutS cutL; rw [str_len]), by trivial⟩
    · cases h
  | _ => cases h
end
end VS
set_option maxHeartbeats 1000000
/-! VSOps3: choices, changing operations at a path, dicts. -/
namespace VS
open PySem PyProof.Rows L2

theorem _root_.PyV.pe_or {X : Cx} {e : Expr} {t1 t2 : TE} (h1 : PE X e t1) (h2 : PE X e t2) : PE X e (fun σ H Q => t1 σ H Q ∨ t2 σ H Q) :=
  ⟨fun pins s σ H Q I q => q.elim (h1.run pins s σ H Q I) (h2.run pins s σ H Q I)⟩
theorem _root_.PyV.pt_or {X : Cx} {e : Expr} {t1 t2 : TT} (h1 : PT X e t1) (h2 : PT X e t2) : PT X e (fun σ H Q => t1 σ H Q ∨ t2 σ H Q) :=
  ⟨fun pins s σ H Q I q => q.elim (h1.run pins s σ H Q I) (h2.run pins s σ H Q I)⟩
theorem _root_.PyV.ps_or {X : Cx} {e : Stmt} {t1 t2 : TS} (h1 : PS X e t1) (h2 : PS X e t2) : PS X e (fun D σ H => t1 D σ H ∨ t2 D σ H) :=
  ⟨fun pins s σ H D I q => q.elim (h1.run pins s σ H D I) (h2.run pins s σ H D I)⟩
theorem _root_.PyV.pi_or {X : Cx} {tg e : Expr} {t1 t2 : TI} (h1 : PI X tg e t1) (h2 : PI X tg e t2) : PI X tg e (fun σ H R => t1 σ H R ∨ t2 σ H R) :=
  ⟨fun pins s σ H R I q => q.elim (h1.run pins s σ H R I) (h2.run pins s σ H R I)⟩

section
variable {M : Mn} {W : WD} {b b1 b2 : Bool} {F H F' H' F1 H1 : Hp} {env env' env1 : List D} {σ : L2.St} {S S' S1 T : AS} {pr : Nat → Bool}
/-! ### choices -/
def teOr (t1 t2 : TE) : TE := fun σ H Q => t1 σ H Q ∨ t2 σ H Q
theorem se_or {t1 t2 : TE} {f f1 f2 : List D → R Rv} (h : ∀ env, f env = f1 env ∨ f env = f2 env) (h1 : SE M W b t1 f1) (h2 : SE M W b t2 f2) : SE M W b (fun σ H Q => t1 σ H Q ∨ t2 σ H Q) f := by
  intro F H env σ S Q st en q
  rcases h env with e | e
  · exact .inl (h1 F H env σ S Q st en (by rw [← e]; exact q))
  · exact .inr (h2 F H env σ S Q st en (by rw [← e]; exact q))
theorem opN_or {o o1 o2 : List D → Option D} {fs : List D → R (List Rv)} (h : ∀ ds, o ds = o1 ds ∨ o ds = o2 ds) : ∀ env, opN o fs env = opN o1 fs env ∨ opN o fs env = opN o2 fs env := by
  intro env
  unfold opN
  cases fs env with
  | stuck => exact .inl rfl
  | err c d e => exact .inl rfl
  | ok rs env1 =>
    simp only [R.bind]
    cases fetchs env1 rs with
    | none => exact .inl rfl
    | some ds =>
      simp only [Option.bind]
      rcases h ds with e | e
      · left; rw [e]
      · right; rw [e]
theorem bin_or {f f1 f2 : D → D → Option D} {fa fb : List D → R Rv} {b2 : Bool} (h : ∀ d e, f d e = f1 d e ∨ f d e = f2 d e) (env : List D) : bin b2 f fa fb env = bin b2 f1 fa fb env ∨ bin b2 f fa fb env = bin b2 f2 fa fb env :=
  opN_or (fun ds => by
    unfold op2
    split
    · exact h _ _
    · exact .inl rfl) env
theorem una_or {f f1 f2 : D → Option D} {fa : List D → R Rv} (h : ∀ d, f d = f1 d ∨ f d = f2 d) (env : List D) : una f fa env = una f1 fa env ∨ una f fa env = una f2 fa env :=
  opN_or (fun ds => by
    unfold op1
    split
    · exact h _
    · exact .inl rfl) env

/-! ### an argument at a path, behind the others -/
theorem em_of_un1 {S1 S2 : AS} (h : em = un S1 S2) : S1 = em := AS.ext fun a => ⟨fun z => by
  have : (un S1 S2) a := .inl z
  rw [← h] at this
  exact this, fun z => z.elim⟩
theorem em_of_un2 {S1 S2 : AS} (h : em = un S1 S2) : S2 = em := AS.ext fun a => ⟨fun z => by
  have : (un S1 S2) a := .inr z
  rw [← h] at this
  exact this, fun z => z.elim⟩
theorem ResR.rot {xs ys : List Rv} {i : Nat} {p : List Nat} {vs ws : List V} {v : V} (hl : xs.length = vs.length) (h : ResR M F H env σ (xs ++ .pth i p :: ys) (vs ++ v :: ws) S) :
    ResR M F H env σ (xs ++ ys ++ [.pth i p]) (vs ++ ws ++ [v]) S := by
  obtain ⟨S1, S2, en, ro, dd, rfl, hp⟩ := h
  refine ⟨S1, S2, en, ?_, dd, rfl, fun j i' p' hj => ?_⟩
  · simp only [List.map_append, List.map_cons, List.map_nil, Rv.hold] at ro ⊢
    obtain ⟨A, B, r1, r2, dAB, rfl⟩ := ro.split (n := xs.length)
    rw [List.take_left' (by simp), hl, List.take_left' rfl] at r1
    rw [List.drop_left' (by simp), hl, List.drop_left' rfl] at r2
    simp only [ROs, RO] at r2
    obtain ⟨v', ws', T1, T2, e, rfl, r3, d12, rfl⟩ := r2
    cases e
    rw [em_un] at dAB ⊢
    have := (r1.app r3 dAB).app (es := [.unset]) (ws := [v]) (T := em) (by simp only [ROs, RO]; exact ⟨v, [], em, em, rfl, rfl, ⟨rfl, rfl⟩, fun _ h _ => h.elim, (em_un em).symm⟩) (fun _ _ h => h.elim)
    rw [un_em] at this
    exact this
  · by_cases h1 : j < xs.length
    · have e1 : (xs ++ .pth i p :: ys)[j]? = some (.pth i' p') := by
        rw [List.append_assoc, List.getElem?_append_left h1] at hj
        rw [List.getElem?_append_left h1]; exact hj
      obtain ⟨u, w, g1, g2, g3⟩ := hp j i' p' e1
      refine ⟨u, w, g1, ?_, g3⟩
      rw [List.getElem?_append_left (by omega)] at g2
      rw [List.append_assoc, List.getElem?_append_left (by omega)]
      exact g2
    · by_cases h2 : j < xs.length + ys.length
      · have e1 : (xs ++ .pth i p :: ys)[j + 1]? = some (.pth i' p') := by
          rw [List.getElem?_append_left (by simpa using h2), List.getElem?_append_right (by omega)] at hj
          rw [List.getElem?_append_right (by omega)]
          have : j + 1 - xs.length = (j - xs.length) + 1 := by omega
          rw [this, List.getElem?_cons_succ]
          exact hj
        obtain ⟨u, w, g1, g2, g3⟩ := hp (j + 1) i' p' e1
        refine ⟨u, w, g1, ?_, g3⟩
        rw [List.getElem?_append_right (by omega)] at g2
        have : j + 1 - vs.length = (j - vs.length) + 1 := by omega
        rw [this, List.getElem?_cons_succ] at g2
        have hw : j - vs.length < ws.length := (List.getElem?_eq_some_iff.mp g2).1
        rw [List.append_assoc, List.getElem?_append_right (by omega), List.getElem?_append_left hw]
        exact g2
      · have hj0 := (List.getElem?_eq_some_iff.mp hj).1
        simp only [List.length_append, List.length_cons, List.length_nil] at hj0
        have ej : j = xs.length + ys.length := by omega
        subst ej
        rw [List.getElem?_append_right (by simp)] at hj
        have hj' : Rv.pth i p = Rv.pth i' p' := by simpa using hj
        cases hj'
        obtain ⟨u, w, g1, g2, g3⟩ := hp xs.length i p (by rw [List.getElem?_append_right (by omega)]; simp)
        have hlen := ro.len
        simp only [List.length_map, List.length_append, List.length_cons] at hlen
        refine ⟨u, w, g1, ?_, g3⟩
        rw [hl, List.getElem?_append_right (by omega)] at g2
        have g2' : v = w := by simpa using g2
        subst g2'
        rw [List.getElem?_append_right (by simp; omega)]
        have : xs.length + ys.length - (vs ++ ws).length = 0 := by simp; omega
        rw [this]
        rfl
theorem escs_okT : ∀ {rs us : List Rv} {ts : List D} {env : List D} {ds env' : List D} {F : Hp} {S : AS} {vs : List V}, escs rs env = some (ds, env') → Stt M F H S → ResR M F H env σ (ts.map Rv.tmp ++ (rs ++ us)) vs S →
    ∃ F' S', Step F H S F' H S' ∧ Stt M F' H S' ∧ ResR M F' H env' σ ((ts ++ ds).map Rv.tmp ++ us) vs S'
  | [], us, ts, env, ds, env', F, S, vs, h, st, r => by
    unfold escs at h
    cases h
    exact ⟨F, S, Step.refl, st, by simpa using r⟩
  | .tmp d :: rs, us, ts, env, ds, env', F, S, vs, h, st, r => by
    unfold escs at h
    split at h
    · cases q : escs rs env with
      | none => rw [q] at h; cases h
      | some x =>
        rw [q] at h
        cases h
        have := escs_okT (rs := rs) (us := us) (ts := ts ++ [d]) q st (by simpa using r)
        simpa using this
    · cases h
  | .pth i p :: rs, us, ts, env, ds, env', F, S, vs, h, st, r => by
    unfold escs at h
    cases g : getE env i p with
    | none => rw [g] at h; cases h
    | some e =>
      rw [g] at h
      have h : (if own e = true then (escs rs (setE env i p (fz e))).map fun q => (fz e :: q.1, q.2) else none) = some (ds, env') := h
      split at h
      · rename_i ho
        cases q : escs rs (setE env i p (fz e)) with
        | none => rw [q] at h; cases h
        | some x =>
          rw [q] at h
          cases h
          obtain ⟨F1, S1, s1, st1, r1⟩ := r.freeze st (j := ts.length) (by rw [List.getElem?_append_right (by simp)]; simp) g ho
          have e1 : (ts.map Rv.tmp ++ (Rv.pth i p :: rs ++ us)).set ts.length (Rv.tmp (fz e)) = (ts ++ [fz e]).map Rv.tmp ++ (rs ++ us) := by
            rw [List.set_append_right _ _ (by simp)]
            simp
          rw [e1] at r1
          obtain ⟨F2, S2, s2, st2, r2⟩ := escs_okT (rs := rs) (us := us) (ts := ts ++ [fz e]) q st1 r1
          exact ⟨F2, S2, s1.trans s2, st2, by simpa using r2⟩
      · cases h
/-- what a changing operation leaves -/
structure MutR (M : Mn) (F H H' : Hp) (d' : D) (x : V) (S S' : AS) (z : D) (v : V) : Prop where
  keep : ∀ a, ¬ S a → H' a = H a
  ro : RO M F H' d' x S'
  sub : ∀ a, S' a → S a
  rz : RO M F H' z v em
  al : ∀ a, S' a → ∃ o, H' a = some o
/-- r x vs: x is changed by values that are kept frozen -/
def RM (M : Mn) (r : V → List V → Hp → VK → Prop) (opm : D → List D → Option (D × D)) : Prop :=
  ∀ F H d x S ds vs d' z Q, FH F H → RO M F H d x S → own d = true → ROs M F H ds vs em → (∀ a, S a → F a = none) → opm d ds = some (d', z) → (∀ v H' S', MutR M F H H' d' x S S' z v → Q v H') → r x vs H Q
/-- the place j among the arguments is what is changed -/
def mutF (j : Nat) (opm : D → List D → Option (D × D)) (fs : List D → R (List Rv)) : List D → R Rv := fun env => (fs env).bind fun rs env1 => match rs[j]? with
  | some (.pth i p) => match escz (rs.eraseIdx j) env1 with
    | some (ds, env2) => match getE env2 i p with
      | some e => if own e = true then (match opm e ds with
        | some (e', z) => if isSet z = true then .ok (.tmp z) (setE env2 i p e') else .stuck
        | none => .stuck) else .stuck
      | none => .stuck
    | none => .stuck
  | _ => .stuck
theorem se_mut {ta : TA} {fs : List D → R (List Rv)} {r : V → List V → Hp → VK → Prop} {r' : List V → Hp → VK → Prop} {opm : D → List D → Option (D × D)} (j : Nat) (h1 : SA M W b ta fs) (hr : RM M r opm)
    (hr' : ∀ vs x H Q, vs[j]? = some x → r x (vs.eraseIdx j) H Q → r' vs H Q) :
    SE M W false (fun σ H Q => ta σ H fun vs H1 => r' vs H1 Q) (mutF j opm fs) := by
  intro F H env σ S Q st en h
  refine h1 F H env σ S _ st en ?_
  unfold mutF at h
  cases hf : fs env with
  | stuck => rw [hf] at h; exact h
  | err c d env1 => rw [hf] at h; exact h
  | ok rs env1 =>
    rw [hf] at h
    intro vs F1 H1 S1 s1 st1 _ res1
    simp only [R.bind] at h
    cases hj : rs[j]? with
    | none => rw [hj] at h; exact h.elim
    | some rj =>
      cases rj with
      | tmp d => rw [hj] at h; exact h.elim
      | pth i p =>
        rw [hj] at h
        simp only at h
        cases q : escz (rs.eraseIdx j) env1 with
        | none => rw [q] at h; exact h.elim
        | some y =>
          obtain ⟨ds, env2⟩ := y
          rw [q] at h
          simp only at h
          cases q2 : getE env2 i p with
          | none => rw [q2] at h; exact h.elim
          | some e =>
            rw [q2] at h
            simp only at h
            split at h
            · rename_i ho
              cases q3 : opm e ds with
              | none => rw [q3] at h; exact h.elim
              | some y =>
                obtain ⟨e', z⟩ := y
                rw [q3] at h
                simp only at h
                split at h
                · -- now the places
                  have hlen : rs.length = vs.length := by
                    obtain ⟨_, _, _, ro, _, _, _⟩ := res1
                    simpa using ro.len
                  have hjl : j < rs.length := (List.getElem?_eq_some_iff.mp hj).1
                  have hv : vs[j]? = some vs[j] := List.getElem?_eq_getElem (by omega)
                  have e1 := list_take_drop hj
                  have e2 := list_take_drop hv
                  have er : rs.eraseIdx j = rs.take j ++ rs.drop (j + 1) := List.eraseIdx_eq_take_drop_succ ..
                  have ev : vs.eraseIdx j = vs.take j ++ vs.drop (j + 1) := List.eraseIdx_eq_take_drop_succ ..
                  rw [e1, e2] at res1
                  have res2 := res1.rot (by simp; omega)
                  rw [← er, ← ev] at res2
                  have hq : ∃ ds0, escs (rs.eraseIdx j) env1 = some (ds0, env2) ∧ ds = fzs ds0 := by
                    unfold escz at q
                    cases qq : escs (rs.eraseIdx j) env1 with
                    | none => rw [qq] at q; cases q
                    | some x => rw [qq] at q; cases q; exact ⟨_, rfl, rfl⟩
                  obtain ⟨ds0, qe, rfl⟩ := hq
                  obtain ⟨F2, S2, s2, st2, r2⟩ := escs_okT (ts := []) (us := [.pth i p]) qe st1 (by simpa using res2)
                  rw [List.nil_append] at r2
                  obtain ⟨Se, St, en2, ro2, dd, rfl, hp⟩ := r2
                  rw [List.map_append, hold_tmp] at ro2
                  obtain ⟨A, B, r3, r4, dAB, rfl⟩ := ro2.split (n := ds0.length)
                  have hle : ds0.length = (vs.eraseIdx j).length := by
                    have := ro2.len
                    simp at this
                    omega
                  rw [List.take_left' rfl, hle, List.take_left' rfl] at r3
                  rw [List.drop_left' rfl, hle, List.drop_left' rfl] at r4
                  have r4' : B = em := by
                    simp only [List.map, Rv.hold, ROs, RO] at r4
                    obtain ⟨_, _, _, _, _, rfl, ⟨_, rfl⟩, _, rfl⟩ := r4
                    exact em_un em
                  subst r4'
                  rw [un_em] at dd
                  rw [un_em] at st2 s2
                  obtain ⟨F3, e3, ro3, st3, s3⟩ := r3.freezeF st2 dd
                  have en3 := en2.mono e3 (fun _ _ => rfl) (H' := H1)
                  obtain ⟨u, w0, g1, g2, g3⟩ := hp ds0.length i p (by rw [List.getElem?_append_right (by simp)]; simp)
                  have g2' : vs[j] = w0 := by
                    rw [hle, List.getElem?_append_right (by omega)] at g2
                    simpa using g2
                  subst g2'
                  obtain ⟨u', w, T1, T2, f1, f2, f3, f4, rfl, f6⟩ := en3.path q2 (own_isSet ho)
                  rw [g1] at f1; cases f1
                  have := g3.inj f2
                  subst this
                  refine hr' vs vs[j] H1 Q hv ?_
                  refine hr F3 H1 e vs[j] T1 (fzs ds0) (vs.eraseIdx j) e' z Q st3.fh f3 ho ro3 (fun a ha => st3.fr a (.inl ha)) q3 fun v H' S' m => ?_
                  have nT2 : ∀ a, T2 a → H' a = H1 a := fun a ha => m.keep a fun z => f4 a z ha
                  obtain ⟨en4, _⟩ := f6 F3 H' e' S' (Ext.refl _) nT2 m.ro (fun a x y => f4 a (m.sub a x) y)
                  have sub : ∀ a, un S' T2 a → un T1 T2 a := fun a z => z.imp (m.sub a) id
                  have st4 : Stt M F3 H' (un S' T2) := by
                    refine ⟨fun a u hu => ?_, fun a ha => st3.fr a (sub a ha), fun a ha => ?_, st3.tabs fun a o e n => by rw [m.keep a fun z => n (.inl z)]; exact e, st3.ft⟩
                    · have : ¬ T1 a := fun z => by rw [st3.fr a (.inl z)] at hu; cases hu
                      rw [m.keep a this]
                      exact st3.fh a u hu
                    · rcases ha with ha | ha
                      · exact m.ro.alive _ a ha
                      · rw [nT2 a ha]; exact st3.al a (.inr ha)
                  have s4 : Step F3 H1 (un T1 T2) F3 H' (un S' T2) := Step.mk0 (Ext.refl _) (fun a o e n => by rw [m.keep a fun z => n (.inl z)]; exact e) (fun a ha => .inl (sub a ha)) fun a u h => .inl h
                  have rr := ResR.one_tmp en4 m.rz (fun _ _ h => h.elim)
                  rw [un_em] at rr
                  exact h v F3 H' (un S' T2) (((s1.trans s2).trans s3).trans s4) st4 (fun z => nomatch z) rr
                · exact h.elim
            · exact h.elim
/-- .. as a statement -/
def mutS (j : Nat) (opm : D → List D → Option (D × D)) (fs : List D → R (List Rv)) : List D → SR := fun env => SR.of (mutF j opm fs env) fun _ env1 => .nx env1
theorem ss_mut {ta : TA} {fs : List D → R (List Rv)} {r : V → List V → Hp → VK → Prop} {r' : List V → Hp → VK → Prop} {opm : D → List D → Option (D × D)} (j : Nat) (h1 : SA M W b ta fs) (hr : RM M r opm)
    (hr' : ∀ vs x H Q, vs[j]? = some x → r x (vs.eraseIdx j) H Q → r' vs H Q) :
    SS M W pr (tDrop (fun σ H Q => ta σ H fun vs H1 => r' vs H1 Q)) (mutS j opm fs) := ss_drop (se_mut j h1 hr hr')
end
end VS
set_option maxHeartbeats 1000000
/-! VSHand: a few rules that the hand layer lacks. -/
namespace VH
open PySem PySem.Spec PyProof.Rows L2

/-! ### a text backwards -/
theorem rev_picked (z : Str) :
    (Builtin.Str.strSliceIndices none none (-1) z.length).filterMap (z.cps[·]?)
      = z.cps.toList.reverse := by
  have e : Builtin.Str.strSliceIndices none none (-1) z.length
      = sliceRange ((z.length : Int) - 1) (-1) (-1) := rfl
  rw [e, PySem.W.krv_sliceRange, PySem.W.krv_range]
  rw [List.filterMap_reverse]
  exact congrArg List.reverse (PySem.W.krv_all z.cps)
def tRevS (te : TE) : TE := fun σ H Q => te σ H fun x H1 =>
  ∃ z : Str, x = .str z ∧ z.length ≤ sizeLine ∧
    Q (.str ⟨z.cps.toList.reverse.toArray⟩) H1
theorem pe_revS {X : Cx} {e : Expr} {te : TE} {k : Nat} {p1 p2 p3 pos : Pos}
    (he : PE X e te) : PE X (.Subscript e (.Slice none none
      (some (.UnaryOp .USub (.Constant (.int 1) k p1) p2)) p3) pos) (tRevS te) := by
  constructor
  intro pins s σ H Q I h
  refine Subscript_ (thn (he.run pins s σ H _ I h) ?_)
  rintro v s1 ⟨x, H1, I1, r1, z, rfl, hz, q⟩
  obtain ⟨tk, rfl⟩ := r1
  have hst : PO X (some (.UnaryOp .USub (.Constant (.int 1) k p1) p2))
      (tPart (tUn (rU fun i => .int (-i)) (tC (.int 1)))) :=
    po_some (pe_un un_neg pe_int)
  refine wpAny_Slice (thn (po_none.run pins s1 σ H1
    (fun o G => o = none ∧ G = H1) I1 ⟨rfl, rfl⟩) ?_)
  rintro vl s2 ⟨l, H2, I2, pl, rfl, rfl⟩
  refine thn (po_none.run pins s2 σ H2
    (fun o G => o = none ∧ G = H2) I2 ⟨rfl, rfl⟩) ?_
  rintro vu s3 ⟨u, H3, I3, pu, rfl, rfl⟩
  refine thn (hst.run pins s3 σ H3
    (fun o G => o = some (-1) ∧ G = H3) I3 ⟨1, rfl, -1, rfl, rfl, rfl⟩) ?_
  rintro vs s4 ⟨o, H4, I4, ps, rfl, rfl⟩
  obtain ⟨l, rfl, el⟩ := IsPart.raw pl
  obtain ⟨u, rfl, eu⟩ := IsPart.raw pu
  obtain ⟨t, rfl, et⟩ := IsPart.raw ps
  have I5 := I4.kept (t' := s4.toks)
    (h' := s4.heap.push { cls := .type "slice", data := .fields #[partValue l, partValue u, partValue t] })
    fun b ob q => Heap.get?_push_of_some _ q
  refine tail_any (T := "str") (ops := [.str z tk, .ref s4.heap.objs.size])
    (typeIs_str _ _ _) PySem.F.slot_str_getitem.lookup ?_ (by with_unfolding_all rfl)
  refine wpAny_getItem_str_slice (l := l) (u := u) (st := t)
    ⟨_, Heap.get?_push_size _ rfl, rfl, rfl⟩ (by rw [et]; rfl) ?_
  unfold sliceMade slicePicked
  rw [et, el, eu]
  have c : ¬ ((Option.getD (some (-1 : Int)) 1 == 1 &&
      (Builtin.Str.strSliceIndices none none (Option.getD (some (-1 : Int)) 1) z.length).length
        == z.length) = true) := by simp
  rw [if_neg c]
  have e := rev_picked z
  show Made.post (.str ⟨((Builtin.Str.strSliceIndices none none (-1) z.length).filterMap
    (z.cps[·]?)).toArray⟩) _ _
  rw [e]
  refine ⟨?_, .str _, H4, I5.tok _, ⟨_, rfl⟩, q⟩
  show (z.cps.toList.reverse.toArray).size ≤ sizeLine
  rw [List.size_toArray, List.length_reverse]
  exact hz

/-! ### the less and the greater of two texts -/
def txtOf : Value → List Nat
  | .str z _ => z.cps.toList
  | _ => []
theorem cmp_txt_lt {prog : Program} {w : World} {A : Around} {a b : Str} {t u : Tok} :
    CmpOf prog w A .Lt (fun i v => #[Value.str a t, Value.str b u][i]? = some v)
      (fun i j => decide (txtOf (#[Value.str a t, Value.str b u].getD i .none)
        < txtOf (#[Value.str a t, Value.str b u].getD j .none))) := by
  intro i j vi vj s Q E hi hj h
  have two : ∀ k v, #[Value.str a t, Value.str b u][k]? = some v →
      #[Value.str a t, Value.str b u].getD k .none = v ∧ ∃ z tk, v = .str z tk := by
    intro k v hk
    refine ⟨by simp [Array.getD_eq_getD_getElem?, hk], ?_⟩
    match k, hk with
    | 0, hk => exact ⟨a, t, by simpa using hk.symm⟩
    | 1, hk => exact ⟨b, u, by simpa using hk.symm⟩
    | k + 2, hk => simp at hk
  obtain ⟨e1, x, tx, rfl⟩ := two i vi hi
  obtain ⟨e2, y, ty, rfl⟩ := two j vj hj
  simp only [e1, e2] at h
  exact lt_str h
theorem cmp_txt_gt {prog : Program} {w : World} {A : Around} {a b : Str} {t u : Tok} :
    CmpOf prog w A .Gt (fun i v => #[Value.str a t, Value.str b u][i]? = some v)
      (fun i j => decide (txtOf (#[Value.str a t, Value.str b u].getD j .none)
        < txtOf (#[Value.str a t, Value.str b u].getD i .none))) := by
  intro i j vi vj s Q E hi hj h
  have two : ∀ k v, #[Value.str a t, Value.str b u][k]? = some v →
      #[Value.str a t, Value.str b u].getD k .none = v ∧ ∃ z tk, v = .str z tk := by
    intro k v hk
    refine ⟨by simp [Array.getD_eq_getD_getElem?, hk], ?_⟩
    match k, hk with
    | 0, hk => exact ⟨a, t, by simpa using hk.symm⟩
    | 1, hk => exact ⟨b, u, by simpa using hk.symm⟩
    | k + 2, hk => simp at hk
  obtain ⟨e1, x, tx, rfl⟩ := two i vi hi
  obtain ⟨e2, y, ty, rfl⟩ := two j vj hj
  simp only [e1, e2] at h
  exact PySem.P.gt_str h
section
variable {prog : Program} {w : World} {A : Around} {E : Value → Shared → Prop} {s : Shared} {Q : Value → Shared → Prop} {a b : Str} {t u : Tok}
theorem fp_two (xs : Array Value) : ∀ c, c ∈ [(s.heap.push { cls := .type "tuple", data := .seq xs }).objs.size, s.heap.objs.size] →
    c < ((s.heap.push { cls := .type "tuple", data := .seq xs }).push { cls := .type "tuple_iterator", data := .fields #[.ref s.heap.objs.size, .int 0 0] }).objs.size := by
  intro c hc
  rw [Heap.size_push, Heap.size_push] at *
  simp at hc
  omega
theorem min_txt (hh : A.handled = none)
    (h : ∀ h' tk, (∀ c o, s.heap.get? c = some o → h'.get? c = some o) →
      Q (if b.cps.toList < a.cps.toList then .str b u else .str a t) { s with heap := h', toks := tk }) :
    wpAny (model prog w) A (call (.builtin "min") [.str a t, .str b u]) Q E s := by
  have hT : (s.heap.push { cls := .type "tuple", data := .seq #[.str a t, .str b u] }).IsTuple
      s.heap.objs.size #[.str a t, .str b u] := ⟨_, Heap.get?_push_size _ rfl, rfl, 0, rfl⟩
  refine call_min_two (wpAny_pyIter_tuple hT ?_)
  have hsz := Heap.size_push s.heap { cls := .type "tuple", data := .seq #[Value.str a t, .str b u] }
  refine ⟨_, [_, s.heap.objs.size], [_], _, _, _, _, rfl,
    Walks.tuple (A := A.in1) hh _ s.heap.objs.size (by rw [hsz]; exact Nat.ne_of_lt (Nat.lt_succ_self _)) #[.str a t, .str b u],
    ⟨⟨_, Heap.get?_push_size _ rfl, rfl, rfl⟩, hT.push _⟩, fp_two _, by simp, cmp_txt_lt, ?_⟩
  intro v h' tk hP hk
  have old : ∀ c o, s.heap.get? c = some o → h'.get? c = some o := by
    intro c o e
    have hl := Heap.lt_size e
    refine hk c o ?_ (Heap.get?_push_of_some _ (Heap.get?_push_of_some _ e))
    intro hm
    simp at hm
    rw [hm] at hl
    exact absurd hl (Nat.not_lt.mpr (Nat.le_succ _))
  have r := h h' tk old
  have hv : v = if b.cps.toList < a.cps.toList then .str b u else .str a t := by
    by_cases hc : b.cps.toList < a.cps.toList
    · simp [argBest, txtOf, hc] at hP
      simp [hP, hc]
    · simp [argBest, txtOf, hc] at hP
      simp [hP, hc]
  rw [hv]
  exact r
theorem max_txt (hh : A.handled = none)
    (h : ∀ h' tk, (∀ c o, s.heap.get? c = some o → h'.get? c = some o) →
      Q (if a.cps.toList < b.cps.toList then .str b u else .str a t) { s with heap := h', toks := tk }) :
    wpAny (model prog w) A (call (.builtin "max") [.str a t, .str b u]) Q E s := by
  have hT : (s.heap.push { cls := .type "tuple", data := .seq #[.str a t, .str b u] }).IsTuple
      s.heap.objs.size #[.str a t, .str b u] := ⟨_, Heap.get?_push_size _ rfl, rfl, 0, rfl⟩
  refine call_max_two (wpAny_pyIter_tuple hT ?_)
  have hsz := Heap.size_push s.heap { cls := .type "tuple", data := .seq #[Value.str a t, .str b u] }
  refine ⟨_, [_, s.heap.objs.size], [_], _, _, _, _, rfl,
    Walks.tuple (A := A.in1) hh _ s.heap.objs.size (by rw [hsz]; exact Nat.ne_of_lt (Nat.lt_succ_self _)) #[.str a t, .str b u],
    ⟨⟨_, Heap.get?_push_size _ rfl, rfl, rfl⟩, hT.push _⟩, fp_two _, by simp, cmp_txt_gt, ?_⟩
  intro v h' tk hP hk
  have old : ∀ c o, s.heap.get? c = some o → h'.get? c = some o := by
    intro c o e
    have hl := Heap.lt_size e
    refine hk c o ?_ (Heap.get?_push_of_some _ (Heap.get?_push_of_some _ e))
    intro hm
    simp at hm
    rw [hm] at hl
    exact absurd hl (Nat.not_lt.mpr (Nat.le_succ _))
  have r := h h' tk old
  have hv : v = if a.cps.toList < b.cps.toList then .str b u else .str a t := by
    by_cases hc : a.cps.toList < b.cps.toList
    · simp [argBest, txtOf, hc] at hP
      simp [hP, hc]
    · simp [argBest, txtOf, hc] at hP
      simp [hP, hc]
  rw [hv]
  exact r
end
section
variable {X : Cx}
def rMin2S : List V → Hp → VK → Prop := fun xs H Q => ∃ a b : Str, xs = [.str a, .str b] ∧
  Q (.str (if b.cps.toList < a.cps.toList then b else a)) H
def rMax2S : List V → Hp → VK → Prop := fun xs H Q => ∃ a b : Str, xs = [.str a, .str b] ∧
  Q (.str (if a.cps.toList < b.cps.toList then b else a)) H
theorem call_min2S (hc : X.calm = true) : CallR X (.builtin "min") rMin2S := by
  intro pins s σ H xs us Q I r h
  obtain ⟨a, b, rfl, q⟩ := h
  obtain ⟨u, w', rfl, ⟨t, rfl⟩, ⟨t', rfl⟩⟩ := vals2 r
  refine min_txt (I.ok.hd hc) fun h' tk k => ⟨_, H, I.kept k, ?_, q⟩
  split <;> exact ⟨_, rfl⟩
theorem call_max2S (hc : X.calm = true) : CallR X (.builtin "max") rMax2S := by
  intro pins s σ H xs us Q I r h
  obtain ⟨a, b, rfl, q⟩ := h
  obtain ⟨u, w', rfl, ⟨t, rfl⟩, ⟨t', rfl⟩⟩ := vals2 r
  refine max_txt (I.ok.hd hc) fun h' tk k => ⟨_, H, I.kept k, ?_, q⟩
  split <;> exact ⟨_, rfl⟩

/-! ### sorted, texts, any number -/
def rSortedSA (K : PySem.W.Frag) : List V → Hp → VK → Prop := fun vs H Q =>
  ∃ (a : Addr) (xs : List Str), vs = [V.ref a] ∧ SqL K H a (xs.map V.str) ∧
    ∀ (ys : List Str) (p : Addr), ys.Perm xs → sortedS ys = true → H p = none →
      Q (.ref p) (upd H p (.lst (ys.map V.str)))
theorem cr_sortedSA : CallR X (.builtin "sorted") (rSortedSA X.K) := by
  intro pins s σ H vs us Q I r h
  obtain ⟨a, xs, rfl, hs, q⟩ := h
  obtain ⟨its, rv, hl, hz⟩ := I.list hs
  rw [Vals.ref1 r]
  have hlen0 := rv.length
  refine PyProof.Rows.sorted_strsAny hl.isList rv.strs (by rw [← hlen0]; exact hz) ?_
  intro out ys h1 h2 h3
  obtain ⟨ep, he'⟩ := PyProof.Rows.sortedAll_at s.heap its out
  rw [List.length_map] at hz
  have hlen : (ys.map V.str).length ≤ sizeLine := by
    rw [List.length_map, h2.length_eq]; exact hz
  refine ⟨.ref _, upd H (s.heap.objs.size + 1) (.lst (ys.map V.str)), ?_, rfl,
    q ys _ h2 h3 (I.hok.fresh (Nat.le_succ _))⟩
  exact I.laid (t' := s.toks) (fun _ _ => PyProof.Rows.sortedAll_old) (Nat.le_succ _)
    ⟨hlen, out.toList, ep, vals_of_strs h1, he'⟩

/-! ### len(d), locked or not -/
def rLenDR : List V → Hp → VK → Prop := fun xs H Q =>
  ∃ a kvs, xs = [V.ref a] ∧ Rd H a (.dK kvs) ∧ Q (.int kvs.length) H
theorem call_lenDR : CallR X (.builtin "len") rLenDR := by
  intro pins s σ H xs us Q I r h
  obtain ⟨a, kvs, rfl, ha, q⟩ := h
  obtain ⟨u, rfl, ru⟩ := vals1 r
  cases ru
  exact d_len I ha fun t s' I' => ⟨.int kvs.length, H, I', ⟨t, rfl⟩, q⟩

/-! ### list(d.items()), list(d.values()), locked or not -/
def rItemsR : V → Hp → VK → Prop := fun x H Q =>
  ∃ (d : Addr) (kvs : List (Key × V)), x = .ref d ∧ Rd H d (.dK kvs) ∧
    ∀ (H' : Hp) (p : Addr) (ts : List Addr), (∀ b o, H b = some o → H' b = some o) →
      H p = none → (∀ t ∈ ts, H t = none) → p ∉ ts → H' p = some (.lst (ts.map V.ref)) →
      Paired (fun (t : Addr) (q : Key × V) => H' t = some (.tup [kV q.1, q.2])) ts kvs → Q (.ref p) H'
def tListItemsR (te : TE) : TE := fun σ H Q => te σ H fun x H1 => rItemsR x H1 Q
def rValsR : V → Hp → VK → Prop := fun x H Q =>
  ∃ (d : Addr) (kvs : List (Key × V)), x = .ref d ∧ Rd H d (.dK kvs) ∧
    ∀ p, H p = none → Q (.ref p) (upd H p (.lst (kvs.map (·.2))))
def tListVals (te : TE) : TE := fun σ H Q => te σ H fun x H1 => rValsR x H1 Q
variable {e : Expr} {te : TE} {p apos cpos pos : Pos}
theorem pe_listItemsR (hc : X.calm = true) (he : PE X e te) (hg : Gl X "list") (hm : X.mg "list" = none)
    (hv : bootBuiltins "list" = some (.type "list"))
    (hbase : attributeBase e "items" X.env (eval e X.env) = eval e X.env := by rfl)
    (hline : (apos.endLine == cpos.line) = true := by rfl)
    (hs : starEach [.Call (.Attribute e "items" apos) [] [] cpos] X.env
      = (false, eval (.Call (.Attribute e "items" apos) [] [] cpos) X.env) :: starEach [] X.env := by rfl) :
    PE X (.Call (.Name "list" p) [.Call (.Attribute e "items" apos) [] [] cpos] [] pos) (tListItemsR te) := by
  constructor
  intro pins s σ H Q I hq
  refine wpAny_Call_Name_kw (ld_blt I hg hm hv ?_)
  refine PyProof.Rows.callWith_type1 ?_ hs rfl
  rw [hs]
  show wpAny _ _ (spliced ((false, eval (.Call (.Attribute e "items" apos) [] [] cpos) X.env)
    :: backTo pos (starEach [] X.env))) _ _ s
  refine Calls.spliced_cons ?_
  refine wpAny_Call_method (T := "dict") (id := "dict.items") hbase rfl hline
    F.plainAttrs_dict F.slot_dict_items F.type_dict_items (thn (he.run pins s σ H _ I hq) ?_)
  rintro u s1 ⟨x, H1, I1, rx, d, kvs, rfl, hd, q⟩
  obtain rfl : u = Value.ref d := rx
  obtain ⟨hz, hs0, vs, kv, hdo⟩ := dk_rd I1.hok hd
  obtain ⟨ep, hat⟩ := hdo.dictAt
  have lk : kvs.length = vs.length := Paired.length kv
  have I2 := I1.kept (t' := s1.toks)
    (h' := s1.heap.push { cls := .type "dict_items", data := .fields #[.ref d] })
    fun b ob q => Heap.get?_push_of_some _ q
  refine ⟨hdo.typeIs, hdo.mapOf.noDict, ?_⟩
  show wpAny _ _ (callWith cpos (.builtin "dict.items") [.ref d] [] []) _ X.xe s1
  refine method_meetsIn F.slot_dict_items F.entry_dict_items rfl (PySem.evalArgs_none
    ⟨rfl, hdo.typeIs, F.args_dict_items_1 _, _, meets_dict_items (mixKind X.prog X.w) d hs0, ⟨vs, hdo⟩, ?_⟩)
  refine Calls.spliced_nil ?_
  refine PySem.W.kdx_call (knd := mixKind X.prog X.w) (kvs := vs) (ep := ep) (I1.ok.hd hc)
    ⟨_, Heap.get?_push_size _ rfl, rfl, rfl⟩ (hat.push _) (by omega) ?_
  intro h' tk acc c as hk hS hl hG hacc
  obtain ⟨H', k1, k2, k3, k4, k5, k6, J⟩ := LiI.items_laid (tk := tk) I2 hz kv hk hS hl hG hacc
  exact ⟨.ref _, H', J, rfl, q H' _ as k1 k2 k3 k4 k5 k6⟩
theorem pe_listVals (hc : X.calm = true) (he : PE X e te) (hg : Gl X "list") (hm : X.mg "list" = none)
    (hv : bootBuiltins "list" = some (.type "list"))
    (hbase : attributeBase e "values" X.env (eval e X.env) = eval e X.env := by rfl)
    (hline : (apos.endLine == cpos.line) = true := by rfl)
    (hs : starEach [.Call (.Attribute e "values" apos) [] [] cpos] X.env
      = (false, eval (.Call (.Attribute e "values" apos) [] [] cpos) X.env) :: starEach [] X.env := by rfl) :
    PE X (.Call (.Name "list" p) [.Call (.Attribute e "values" apos) [] [] cpos] [] pos) (tListVals te) := by
  constructor
  intro pins s σ H Q I hq
  refine wpAny_Call_Name_kw (ld_blt I hg hm hv ?_)
  refine PyProof.Rows.callWith_type1 ?_ hs rfl
  rw [hs]
  show wpAny _ _ (spliced ((false, eval (.Call (.Attribute e "values" apos) [] [] cpos) X.env)
    :: backTo pos (starEach [] X.env))) _ _ s
  refine Calls.spliced_cons ?_
  refine wpAny_Call_method (T := "dict") (id := "dict.values") hbase rfl hline
    F.plainAttrs_dict F.slot_dict_values F.type_dict_values (thn (he.run pins s σ H _ I hq) ?_)
  rintro u s1 ⟨x, H1, I1, rx, d, kvs, rfl, hd, q⟩
  obtain rfl : u = Value.ref d := rx
  obtain ⟨hz, hs0, vs, kv, hdo⟩ := dk_rd I1.hok hd
  obtain ⟨ep, hat⟩ := hdo.dictAt
  have lk : kvs.length = vs.length := Paired.length kv
  have I2 := I1.kept (t' := s1.toks)
    (h' := s1.heap.push { cls := .type "dict_values", data := .fields #[.ref d] })
    fun b ob q => Heap.get?_push_of_some _ q
  refine ⟨hdo.typeIs, hdo.mapOf.noDict, ?_⟩
  show wpAny _ _ (callWith cpos (.builtin "dict.values") [.ref d] [] []) _ X.xe s1
  refine method_meetsIn F.slot_dict_values F.entry_dict_values rfl (PySem.evalArgs_none
    ⟨rfl, hdo.typeIs, F.args_dict_values_1 _, _, meets_dict_values (mixKind X.prog X.w) d hs0, ⟨vs, hdo⟩, ?_⟩)
  refine Calls.spliced_nil ?_
  refine PySem.W.kdl_call (PySem.W.kdl_values (r := s1.heap.objs.size) (knd := mixKind X.prog X.w) (kvs := vs) (ep := ep)) (I1.ok.hd hc)
    ⟨⟨_, Heap.get?_push_size _ rfl, rfl, rfl⟩, hat.push _⟩ (by omega) ?_
  intro h' tk acc c' hk hD hacc
  have hv : Vals (kvs.map (·.2)) acc.toList := by
    refine vals_of_at (by rw [List.length_map, lk]; exact (Array.length_toList.trans hacc.1).symm) ?_
    intro j x u e1 e2
    obtain ⟨k, ek⟩ := hacc.2 j u (by rw [← Array.getElem?_toList]; exact e2)
    rw [List.getElem?_map] at e1
    obtain ⟨q0, eq0, rfl⟩ := Option.map_eq_some_iff.mp e1
    obtain ⟨y, ey, r⟩ := LiI.paired_get kv eq0
    rw [ek] at ey
    cases ey
    exact r.2
  have nw : H1 (s1.heap.push { cls := .type "dict_values", data := .fields #[.ref d] }).objs.size = none := by
    refine I1.hok.fresh ?_
    rw [Heap.size_push]
    omega
  refine ⟨.ref _, upd H1 _ (.lst (kvs.map (·.2))), I2.laid (t' := tk) hk (Nat.le_refl _) ?_, rfl, q _ nw⟩
  exact ⟨by rw [List.length_map]; exact hz, acc.toList, c', hv, by rw [Array.toArray_toList]; exact hD⟩
end
end VH
set_option maxHeartbeats 1000000
/-! VSOps4: dicts, lists that are changed. -/
namespace VS
open PySem PyProof.Rows L2

section
variable {M : Mn} {W : WD} {b b1 b2 : Bool} {F H F' H' F1 H1 : Hp} {env env' env1 : List D} {σ : L2.St} {S S' S1 T : AS} {pr : Nat → Bool}
/-! ### a checked first argument -/
def chkF (chk : D → Bool) (f : List D → R Rv) : List D → R Rv := fun env => (f env).bind fun r env1 => match fetch env1 r with
  | some d => if chk d = true then .ok r env1 else .stuck
  | none => .stuck
theorem sa_chk {to : TE} {ta : TA} {f : List D → R Rv} {g : List D → R (List Rv)} (chk : D → Bool) (C : V → Hp → ((List V → Hp → Prop) → Prop) → (List V → Hp → Prop) → Prop)
    (hC : ∀ F H x d S k R, FH F H → RO M F H d x S → chk d = true → k (fun vs H2 => R (x :: vs) H2) → C x H k R) (h1 : SE M W b1 to f) (h2 : SA M W b2 ta g) :
    SA M W (b1 && b2) (fun σ H R => to σ H fun x H1 => C x H1 (ta σ H1) R) (consF b2 (chkF chk f) g) := by
  intro F H env σ S Q st en h
  refine h1 F H env σ S _ st en ?_
  unfold consF chkF at h
  cases hf : f env with
  | stuck => rw [hf] at h; exact h
  | err c d env1 => rw [hf] at h; exact h
  | ok r env1 =>
    rw [hf] at h
    simp only [R.bind] at h
    intro v F1 H1 S1 s1 st1 hb1 res1
    obtain ⟨Se, St, en1, ro1, d1, rfl, pth1⟩ := res1
    cases hd : fetch env1 r with
    | none => rw [hd] at h; exact h.elim
    | some d =>
      rw [hd] at h
      by_cases hc : chk d = true
      · simp only [hc, if_true] at h
        split at h
        · exact h.elim
        rename_i hn
        have rl := rl_of (Se := Se) (St := St) en1 ro1 pth1 (ds := [d]) (by simp [fetchs, hd])
        obtain ⟨v', ws, Sx, e, rd, _⟩ := rl
        cases e
        refine hC F1 H1 v d Sx _ _ st1.fh rd hc ?_
        have A : At M F H env σ S F1 H1 env1 Se St := ⟨s1, st1, en1, d1⟩
        refine h2 F1 H1 env1 σ Se _ A.sub en1 ?_
        have h : PostA M W (b1 && b2) F H σ S Q ((g env1).bind fun rs env2 => .ok (r :: rs) env2) := h
        cases hg : g env1 with
        | stuck => rw [hg] at h; exact h
        | err c d env2 =>
          rw [hg] at h
          intro F2 H2 S2 cls dx s2 st2 er en2
          obtain ⟨h3, h4, h5, h6⟩ := A.run s2 st2
          exact h F2 H2 S2 cls dx (h3.drop fun _ z => .inl z) (h4.sub fun _ z => .inl z) er en2
        | ok rs env2 =>
          rw [hg] at h
          intro vs F2 H2 S2 s2 st2 hb2 res2
          obtain ⟨Se2, Sr, en2, ro2, d2, rfl, pth2⟩ := res2
          obtain ⟨h3, h4, h5, h6⟩ := A.run s2 st2
          refine h (v :: vs) F2 H2 (un (un Se2 Sr) St) h3 h4 (fun hb => ?_) ?_
          · obtain ⟨hb1', hb2'⟩ := Bool.and_eq_true_iff.mp hb
            exact (hb1 hb1').trans (hb2 hb2')
          · have ro1' := ro1.mono _ s2.ext (fun a ha => h6 a ha)
            simp only [List.map, ROs] at ro1'
            obtain ⟨v', ws, T1, T2, e, r1, ⟨rfl, rfl⟩, dd, rfl⟩ := ro1'
            cases e
            refine ⟨Se2, un T1 Sr, en2, ?_, ?_, ?_, fun j i p e => ?_⟩
            · simp only [List.map, ROs]
              exact ⟨v, vs, T1, Sr, rfl, r1, ro2, fun x hx hy => h5 x (.inr hy) (.inl hx), rfl⟩
            · rintro x hx (hy | hy)
              · exact h5 x (.inl hx) (.inl hy)
              · exact d2 x hx hy
            · rw [un_em]
              exact AS.ext fun x => by
                simp only [un]
                constructor
                · rintro ((h | h) | h) <;> simp [h]
                · rintro (h | h | h) <;> simp [h]
            · cases j with
              | succ j => exact pth2 j i p (by simpa using e)
              | zero =>
                have e' : r = .pth i p := by simpa using e
                obtain ⟨u, w, e1, e2, e3⟩ := pth1 0 i p (by simp [e'])
                have e2' : v = w := by simpa using e2
                subst e2'
                refine ⟨u, v, e1, rfl, ?_⟩
                cases p with
                | nil => exact e3
                | cons k p =>
                  subst e'
                  have hb : b2 = true := by
                    cases b2 with
                    | true => rfl
                    | false => exact (hn ⟨rfl, rfl⟩).elim
                  exact e3.ext (hb2 hb)
      · simp only [hc] at h
        exact h.elim
/-! ### dicts: keys -/
def isK : D → Bool
  | .int _ => true
  | .str _ => true
  | _ => false
def keyOk : Bool → D → Bool
  | false, d => isK d
  | true, .tup o xs => !o && xs.all isK
  | true, _ => false
theorem isK_in {d : D} {v : V} (h : isK d = true) (r : RO M F H d v S) : ∃ k : Key, d = dkey k ∧ v = kV k := by
  cases d with
  | int i => simp only [RO] at r; exact ⟨.inl i, rfl, r.1⟩
  | str s => simp only [RO] at r; exact ⟨.inr ⟨s.toArray⟩, rfl, r.1⟩
  | _ => cases h
theorem isKs_in : ∀ {ds : List D} {vs : List V} {S : AS}, ds.all isK = true → ROs M F H ds vs S → ∃ ks : List Key, ds = ks.map dkey ∧ vs = ks.map kV
  | [], vs, S, h, r => by simp only [ROs] at r; exact ⟨[], rfl, r.1⟩
  | d :: ds, vs, S, h, r => by
    simp only [ROs] at r
    obtain ⟨v, ws, S1, S2, rfl, r1, r2, _, _⟩ := r
    simp only [List.all_cons, Bool.and_eq_true] at h
    obtain ⟨k, rfl, rfl⟩ := isK_in h.1 r1
    obtain ⟨ks, rfl, rfl⟩ := isKs_in h.2 r2
    exact ⟨k :: ks, rfl, rfl⟩
theorem keyT_in {d : D} {v : V} (h : keyOk true d = true) (r : RO M F H d v S) (fh : FH F H) : ∃ (ks : List Key) (a : Addr), d = dkeyT ks ∧ v = .ref a ∧ H a = some (.tup (ks.map kV)) := by
  cases d with
  | tup o xs =>
    simp only [keyOk, Bool.and_eq_true, Bool.not_eq_true'] at h
    obtain ⟨rfl, h⟩ := h
    simp only [RO, Bool.false_eq_true, if_false] at r
    obtain ⟨a, vs, T, rfl, hT, h1, _, _⟩ := r
    obtain ⟨ks, rfl, rfl⟩ := isKs_in h hT
    exact ⟨ks, a, rfl, rfl, rd_tupH fh h1⟩
  | _ => cases h
theorem dkey_inj {k j : Key} (h : dkey k = dkey j) : k = j := by
  cases k with
  | inl i => cases j with
    | inl i' => cases h; rfl
    | inr s => cases h
  | inr s => cases j with
    | inl i' => cases h
    | inr s' =>
      have h : D.str s.cps.toList = D.str s'.cps.toList := h
      injection h with h
      cases s; cases s'
      simp at h
      rw [h]
theorem dkeyT_inj {k j : List Key} (h : dkeyT k = dkeyT j) : k = j := by
  have h : D.tup false (k.map dkey) = D.tup false (j.map dkey) := h
  injection h with _ h
  exact List.map_inj_right (fun _ _ => dkey_inj) |>.mp h
/-- what stands at a key -/
def lkD : List D → List D → D → Option D
  | k :: ks, v :: vs, j => if k = j then some v else lkD ks vs j
  | _, _, _ => none
def putKs (ks : List D) (k : D) : List D := if k ∈ ks then ks else ks ++ [k]
def putIn : List D → List D → D → D → List D
  | k :: ks, v :: vs, j, z => (if k = j then z else v) :: putIn ks vs j z
  | _, vs, _, _ => vs
def putVs (ks vs : List D) (k z : D) : List D := if k ∈ ks then putIn ks vs k z else vs ++ [z]
section
variable {κ : Type} [DecidableEq κ] {f : κ → D}
theorem lk_ok (inj : ∀ a b, f a = f b → a = b) : ∀ {kvs : List (κ × V)} {ds : List D} {S : AS} {j : κ}, ROs M F H ds (kvs.map (·.2)) S →
    (∀ z, lkD (kvs.map fun p => f p.1) ds (f j) = some z → ∃ v T, valV kvs j = some v ∧ RO M F H z v T) ∧ (lkD (kvs.map fun p => f p.1) ds (f j) = none → valV kvs j = none)
  | [], ds, S, j, r => ⟨fun z h => by (cases ds <;> simp [lkD] at h), fun _ => rfl⟩
  | p :: kvs, [], S, j, r => by simp only [List.map, ROs] at r; cases r.1
  | p :: kvs, d :: ds, S, j, r => by
    simp only [List.map, ROs] at r
    obtain ⟨v, ws, S1, S2, e, r1, r2, _, _⟩ := r
    cases e
    obtain ⟨h1, h2⟩ := lk_ok inj (j := j) r2
    by_cases hk : p.1 = j
    · have e1 : lkD ((p :: kvs).map fun p => f p.1) (d :: ds) (f j) = some d := by simp [lkD, hk]
      rw [e1, valV_pos hk]
      exact ⟨fun z h => by cases h; exact ⟨p.2, S1, rfl, r1⟩, fun h => by cases h⟩
    · have e1 : lkD ((p :: kvs).map fun p => f p.1) (d :: ds) (f j) = lkD (kvs.map fun p => f p.1) ds (f j) := by
        have : ¬ f p.1 = f j := fun z => hk (inj _ _ z)
        simp [lkD, this]
      rw [e1, valV_neg hk]
      exact ⟨h1, h2⟩
theorem mem_keys (inj : ∀ a b, f a = f b → a = b) {kvs : List (κ × V)} {j : κ} : f j ∈ kvs.map (fun p => f p.1) ↔ (kvs.any fun kv => decide (kv.1 = j)) = true := by
  constructor
  · intro h
    obtain ⟨p, hp, e⟩ := List.mem_map.mp h
    exact List.any_eq_true.mpr ⟨p, hp, by simpa using inj _ _ e⟩
  · intro h
    obtain ⟨p, hp, e⟩ := List.any_eq_true.mp h
    exact List.mem_map.mpr ⟨p, hp, by rw [of_decide_eq_true e]⟩
theorem putKs_ok (inj : ∀ a b, f a = f b → a = b) {kvs : List (κ × V)} {j : κ} {w : V} : (putK kvs j w).map (fun p => f p.1) = putKs (kvs.map fun p => f p.1) (f j) := by
  unfold putK putKs
  by_cases h : (kvs.any fun kv => decide (kv.1 = j)) = true
  · rw [if_pos h, if_pos ((mem_keys inj).mpr h), List.map_map]
    refine List.map_congr_left fun p _ => ?_
    simp only [Function.comp]
    split <;> rfl
  · rw [if_neg h, if_neg (fun z => h ((mem_keys inj).mp z)), List.map_append]
    rfl
theorem putIn_ok (inj : ∀ a b, f a = f b → a = b) {z : D} {w : V} {j : κ} (rz : RO M F H z w em) : ∀ {kvs : List (κ × V)} {ds : List D} {S : AS}, ROs M F H ds (kvs.map (·.2)) S →
    ∃ S', ROs M F H (putIn (kvs.map fun p => f p.1) ds (f j) z) ((kvs.map fun kv => if kv.1 = j then (kv.1, w) else kv).map (·.2)) S' ∧ ∀ a, S' a → S a
  | [], ds, S, r => by
    simp only [List.map, ROs] at r ⊢
    cases ds with
    | nil => exact ⟨S, r, fun _ h => h⟩
    | cons d ds => simp only [ROs] at r; obtain ⟨_, _, _, _, e, _⟩ := r; cases e
  | p :: kvs, [], S, r => by simp only [List.map, ROs] at r; cases r.1
  | p :: kvs, d :: ds, S, r => by
    simp only [List.map, ROs] at r
    obtain ⟨v, ws, S1, S2, e, r1, r2, dd, rfl⟩ := r
    cases e
    obtain ⟨S', h1, h2⟩ := putIn_ok inj (j := j) rz r2
    by_cases hk : p.1 = j
    · refine ⟨S', ?_, fun a h => .inr (h2 a h)⟩
      simp only [List.map, putIn, hk, if_true, ROs]
      exact ⟨w, _, em, S', rfl, rz, h1, fun _ h _ => h.elim, (em_un _).symm⟩
    · have : ¬ f p.1 = f j := fun z => hk (inj _ _ z)
      refine ⟨un S1 S', ?_, fun a h => h.imp id (h2 a)⟩
      simp only [List.map, putIn, hk, this, if_false, ROs]
      exact ⟨p.2, _, S1, S', rfl, r1, h1, fun a x y => dd a x (h2 a y), rfl⟩
theorem putVs_ok (inj : ∀ a b, f a = f b → a = b) {z : D} {w : V} {j : κ} (rz : RO M F H z w em) {kvs : List (κ × V)} {ds : List D} {S : AS} (r : ROs M F H ds (kvs.map (·.2)) S) :
    ∃ S', ROs M F H (putVs (kvs.map fun p => f p.1) ds (f j) z) ((putK kvs j w).map (·.2)) S' ∧ ∀ a, S' a → S a := by
  unfold putK putVs
  by_cases h : (kvs.any fun kv => decide (kv.1 = j)) = true
  · rw [if_pos h, if_pos ((mem_keys inj).mpr h)]
    exact putIn_ok inj rz r
  · rw [if_neg h, if_neg (fun z => h ((mem_keys inj).mp z)), List.map_append]
    have := r.app (es := [z]) (ws := [w]) (T := em) (by simp only [ROs]; exact ⟨w, [], em, em, rfl, rz, ⟨rfl, rfl⟩, fun _ h _ => h.elim, (em_un em).symm⟩) (fun _ _ h => h.elim)
    rw [un_em] at this
    exact ⟨S, this, fun _ h => h⟩
theorem putK_nodup {kvs : List (κ × V)} {j : κ} {w : V} (h : (kvs.map (·.1)).Nodup) : ((putK kvs j w).map (·.1)).Nodup := by
  unfold putK
  by_cases hk : (kvs.any fun kv => decide (kv.1 = j)) = true
  · rw [if_pos hk, List.map_map]
    have : (kvs.map ((fun x : κ × V => x.1) ∘ fun kv => if kv.1 = j then (kv.1, w) else kv)) = kvs.map (·.1) := by
      refine List.map_congr_left fun p _ => ?_
      simp only [Function.comp]
      split <;> rfl
    rw [this]
    exact h
  · rw [if_neg hk, List.map_append]
    refine List.nodup_append.mpr ⟨h, by simp, ?_⟩
    intro a ha b hb e
    have hb' : b = j := by simpa using hb
    subst e hb'
    obtain ⟨p, hp, e⟩ := List.mem_map.mp ha
    exact hk (List.any_eq_true.mpr ⟨p, hp, by simpa using e⟩)
end
/-- a dict as it is read -/
theorem RO.dctK {o : Bool} {ks vs : List D} {v : V} (h : RO M F H (.dct o false ks vs) v S) (fh : FH F H) :
    ∃ a T kvs, v = .ref a ∧ Rd H a (.dK kvs) ∧ ks = kvs.map (fun p => dkey p.1) ∧ ROs M F H vs (kvs.map (·.2)) T ∧ (kvs.map (·.1)).Nodup ∧ (o = false → T = em) ∧ (o = true → H a = some (.dK kvs)) := by
  simp only [RO, Bool.false_eq_true, if_false] at h
  obtain ⟨a, ws, T, rfl, hT, ho, ⟨kvs, rfl, rfl, rfl, hn⟩, c⟩ := h
  refine ⟨a, T, kvs, rfl, ?_, rfl, hT, hn, fun z => ?_, fun z => ?_⟩
  · split at c
    · exact .inl c.1
    · exact fh.rd c.1
  · subst z
    simp only [Bool.false_eq_true, if_false] at c
    exact c.2.1
  · rw [if_pos z] at c
    exact c.1
theorem RO.dctT {o : Bool} {ks vs : List D} {v : V} (h : RO M F H (.dct o true ks vs) v S) (fh : FH F H) :
    ∃ a T kvs, v = .ref a ∧ Rd H a (.dT kvs) ∧ ks = kvs.map (fun p => dkeyT p.1) ∧ ROs M F H vs (kvs.map (·.2)) T ∧ (kvs.map (·.1)).Nodup ∧ (o = false → T = em) ∧ (o = true → H a = some (.dT kvs)) := by
  simp only [RO, if_true] at h
  obtain ⟨a, ws, T, rfl, hT, ho, ⟨kvs, rfl, rfl, rfl, hn⟩, c⟩ := h
  refine ⟨a, T, kvs, rfl, ?_, rfl, hT, hn, fun z => ?_, fun z => ?_⟩
  · split at c
    · exact .inl c.1
    · exact fh.rd c.1
  · subst z
    simp only [Bool.false_eq_true, if_false] at c
    exact c.2.1
  · rw [if_pos z] at c
    exact c.1
/-- a dict asked for a key -/
theorem dget_in {o t : Bool} {ks vs : List D} {k : D} {x y : V} {Sx Sy : AS} (fh : FH F H) (rx : RO M F H (.dct o t ks vs) x Sx) (ry : RO M F H k y Sy) (hk : keyOk t k = true) :
    ∃ a r, x = .ref a ∧ DGet H a y r ∧ IsD H a ∧ (∀ z, lkD ks vs k = some z → ∃ v T, r = some v ∧ RO M F H z v T) ∧ (lkD ks vs k = none → r = none) := by
  cases t with
  | false =>
    obtain ⟨a, T, kvs, rfl, rd, rfl, rs, _, _⟩ := rx.dctK fh
    obtain ⟨j, rfl, rfl⟩ := isK_in hk ry
    obtain ⟨h1, h2⟩ := lk_ok (f := dkey) (fun _ _ => dkey_inj) (j := j) rs
    exact ⟨a, valV kvs j, rfl, .inl ⟨kvs, j, rd, rfl, rfl⟩, .inl ⟨kvs, rd⟩, h1, h2⟩
  | true =>
    obtain ⟨a, T, kvs, rfl, rd, rfl, rs, _, _⟩ := rx.dctT fh
    obtain ⟨j, c, rfl, rfl, hc⟩ := keyT_in hk ry fh
    obtain ⟨h1, h2⟩ := lk_ok (f := dkeyT) (fun _ _ => dkeyT_inj) (j := j) rs
    exact ⟨a, valV kvs j, rfl, .inr ⟨kvs, j, c, rd, rfl, hc, rfl⟩, .inr ⟨kvs, rd⟩, h1, h2⟩
/-! ### d[k], k in d, d.get(k), d.get(k, x) -/
def rDG : R2 := fun x y H Q => ∃ a v, x = .ref a ∧ DGet H a y (some v) ∧ Q v H
def fzO (z : D) : Option D := if isFz z = true then some z else none
def dgetD : D → D → Option D
  | .dct _ t ks vs, k => if keyOk t k = true then (lkD ks vs k).bind fzO else none
  | _, _ => none
theorem rn_dget : RN2 M rDG dgetD := by
  intro F H x y d e z Sx Sy Q fh rx ry h k
  cases d with
  | dct o t ks vs =>
    simp only [dgetD] at h
    split at h
    · rename_i hk
      obtain ⟨a, r, rfl, hg, _, h1, _⟩ := dget_in fh rx ry hk
      cases q : lkD ks vs e with
      | none => rw [q] at h; cases h
      | some c =>
        rw [q] at h
        have h : fzO c = some z := h
        unfold fzO at h
        split at h
        · rename_i hz
          cases h
          obtain ⟨v, T, rfl, rz⟩ := h1 z q
          have := rz.fz_em hz
          subst this
          exact ⟨a, v, rfl, hg, k _ _ _ _ (NewR.same fh rz)⟩
        · cases h
    · cases h
  | _ => cases h
/-- x[i], whatever x is -/
def itemD : D → D → Option D := fun d e => match d with
  | .dct o t ks vs => dgetD (.dct o t ks vs) e
  | d => ixD d e
theorem item_or (d e : D) : itemD d e = ixD d e ∨ itemD d e = dgetD d e := by
  cases d <;> first | exact .inl rfl | exact .inr rfl
theorem se_item {ta tb : TE} {fa fb : List D → R Rv} (h1 : SE M W b1 ta fa) (h2 : SE M W b2 tb fb) :
    SE M W (b1 && (b2 && true)) (fun σ H Q => tOp (rIx M.K) ta tb σ H Q ∨ tDGet ta tb σ H Q) (bin b2 itemD fa fb) :=
  se_or (bin_or item_or) (se_op rn_ix h1 h2) (se_op (r := rDG) rn_dget h1 h2)
def rDI : R2 := fun y x H Q => ∃ a o, x = .ref a ∧ DGet H a y o ∧ Q (.bl o.isSome) H
def rDNI : R2 := fun y x H Q => ∃ a o, x = .ref a ∧ DGet H a y o ∧ Q (.bl (!o.isSome)) H
def dinD (neg : Bool) : D → D → Option D
  | k, .dct _ t ks vs => if keyOk t k = true then some (.bl (if neg then !(lkD ks vs k).isSome else (lkD ks vs k).isSome)) else none
  | _, _ => none
theorem rn_din : RN2 M rDI (dinD false) := by
  intro F H x y d e z Sx Sy Q fh rx ry h k
  cases e with
  | dct o t ks vs =>
    simp only [dinD] at h
    split at h
    · rename_i hk
      cases h
      obtain ⟨a, r, rfl, hg, _, h1, h2⟩ := dget_in fh ry rx hk
      refine ⟨a, r, rfl, hg, ?_⟩
      have e : r.isSome = (lkD ks vs d).isSome := by
        cases q : lkD ks vs d with
        | none => rw [h2 q]; rfl
        | some c => obtain ⟨v, _, rfl, _⟩ := h1 c q; rfl
      rw [e]
      exact k _ _ _ _ (NewR.same fh (by simp [RO]))
    · cases h
  | _ => simp [dinD] at h
theorem rn_dnin : RN2 M rDNI (dinD true) := by
  intro F H x y d e z Sx Sy Q fh rx ry h k
  cases e with
  | dct o t ks vs =>
    simp only [dinD] at h
    split at h
    · rename_i hk
      cases h
      obtain ⟨a, r, rfl, hg, _, h1, h2⟩ := dget_in fh ry rx hk
      refine ⟨a, r, rfl, hg, ?_⟩
      have e : r.isSome = (lkD ks vs d).isSome := by
        cases q : lkD ks vs d with
        | none => rw [h2 q]; rfl
        | some c => obtain ⟨v, _, rfl, _⟩ := h1 c q; rfl
      rw [e]
      exact k _ _ _ _ (NewR.same fh (by simp [RO]))
    · cases h
  | _ => simp [dinD] at h
theorem se_din {ta tb : TE} {fa fb : List D → R Rv} (h1 : SE M W b1 ta fa) (h2 : SE M W b2 tb fb) : SE M W (b1 && (b2 && true)) (tDIn ta tb) (bin b2 (dinD false) fa fb) := se_op (r := rDI) rn_din h1 h2
theorem se_dnin {ta tb : TE} {fa fb : List D → R Rv} (h1 : SE M W b1 ta fa) (h2 : SE M W b2 tb fb) : SE M W (b1 && (b2 && true)) (tDNotIn ta tb) (bin b2 (dinD true) fa fb) := se_op (r := rDNI) rn_dnin h1 h2
def isDct : D → Bool
  | .dct _ _ _ _ => true
  | _ => false
def cDct (x : V) (H : Hp) (k : (List V → Hp → Prop) → Prop) (R : List V → Hp → Prop) : Prop := ∃ a, x = .ref a ∧ IsD H a ∧ k (fun vs H2 => R (.ref a :: vs) H2)
theorem cDct_ok : ∀ F H x d S (k : (List V → Hp → Prop) → Prop) R, FH F H → RO M F H d x S → isDct d = true → k (fun vs H2 => R (x :: vs) H2) → cDct x H k R := by
  intro F H x d S k R fh r hd h
  cases d with
  | dct o t ks vs =>
    cases t with
    | false =>
      obtain ⟨a, T, kvs, rfl, rd, _⟩ := r.dctK fh
      exact ⟨a, rfl, .inl ⟨kvs, rd⟩, h⟩
    | true =>
      obtain ⟨a, T, kvs, rfl, rd, _⟩ := r.dctT fh
      exact ⟨a, rfl, .inr ⟨kvs, rd⟩, h⟩
  | _ => cases hd
def getD3 : List D → Option D
  | [.dct _ t ks vs, k, x] => if keyOk t k = true then (match lkD ks vs k with
    | some z => fzO z
    | none => fzO x) else none
  | _ => none
def getD2 : List D → Option D
  | [.dct _ t ks vs, k] => if keyOk t k = true then (match lkD ks vs k with
    | some z => fzO z
    | none => some .non) else none
  | _ => none
theorem rn_get3 : RN M (fun vs H Q => match vs with | [.ref a, y, z] => ∃ o, DGet H a y o ∧ Q (o.getD z) H | _ => False) getD3 := by
  intro F H ds vs z Q fh rl e k
  unfold getD3 at e
  split at e
  · rename_i o t ks us kk x
    obtain ⟨x1, ws, S1, rfl, r1, y1, ws2, S2, rfl, r2, z1, ws3, S3, rfl, r3, rr⟩ := rl
    simp only [RL] at rr
    subst rr
    split at e
    · rename_i hk
      obtain ⟨a, r, rfl, hg, _, h1, h2⟩ := dget_in fh r1 r2 hk
      refine ⟨r, hg, ?_⟩
      cases q : lkD ks us kk with
      | none =>
        rw [q] at e
        have e : fzO x = some z := e
        unfold fzO at e
        split at e
        · rename_i hz
          cases e
          have := r3.fz_em hz
          subst this
          rw [h2 q]
          exact k _ _ _ _ (NewR.same fh r3)
        · cases e
      | some c =>
        rw [q] at e
        have e : fzO c = some z := e
        unfold fzO at e
        split at e
        · rename_i hz
          cases e
          obtain ⟨v, T, rfl, rz⟩ := h1 z q
          have := rz.fz_em hz
          subst this
          exact k _ _ _ _ (NewR.same fh rz)
        · cases e
    · cases e
  · cases e
theorem rn_get2 : RN M (fun vs H Q => match vs with | [.ref a, y] => ∃ o, DGet H a y o ∧ Q (o.getD .non) H | _ => False) getD2 := by
  intro F H ds vs z Q fh rl e k
  unfold getD2 at e
  split at e
  · rename_i o t ks us kk
    obtain ⟨x1, ws, S1, rfl, r1, y1, ws2, S2, rfl, r2, rr⟩ := rl
    simp only [RL] at rr
    subst rr
    split at e
    · rename_i hk
      obtain ⟨a, r, rfl, hg, _, h1, h2⟩ := dget_in fh r1 r2 hk
      refine ⟨r, hg, ?_⟩
      cases q : lkD ks us kk with
      | none =>
        rw [q] at e
        cases e
        rw [h2 q]
        exact k _ _ _ _ (NewR.same fh (by simp [RO]))
      | some c =>
        rw [q] at e
        have e : fzO c = some z := e
        unfold fzO at e
        split at e
        · rename_i hz
          cases e
          obtain ⟨v, T, rfl, rz⟩ := h1 z q
          have := rz.fz_em hz
          subst this
          exact k _ _ _ _ (NewR.same fh rz)
        · cases e
    · cases e
  · cases e
def dget3F (b2 b3 : Bool) (fd fk fx : List D → R Rv) : List D → R Rv := opN getD3 (consF (b2 && (b3 && true)) (chkF isDct fd) (consF (b3 && true) fk (consF true fx nilF)))
theorem se_get3 {td ty tx : TE} {fd fk fx : List D → R Rv} {b3 : Bool} (h1 : SE M W b1 td fd) (h2 : SE M W b2 ty fk) (h3 : SE M W b3 tx fx) : SE M W (b1 && (b2 && (b3 && true))) (tDGet2 td ty tx) (dget3F b2 b3 fd fk fx) :=
  se_n (sa_chk isDct cDct cDct_ok h1 (sa_cons h2 (sa_cons h3 sa_nil))) rn_get3
def dget2F (b2 : Bool) (fd fk : List D → R Rv) : List D → R Rv := opN getD2 (consF (b2 && true) (chkF isDct fd) (consF true fk nilF))
theorem se_get2 {td ty : TE} {fd fk : List D → R Rv} (h1 : SE M W b1 td fd) (h2 : SE M W b2 ty fk) : SE M W (b1 && (b2 && true)) (tDGet1 td ty) (dget2F b2 fd fk) :=
  se_n (sa_chk isDct cDct cDct_ok h1 (sa_cons h2 sa_nil)) rn_get2
end
end VS
set_option maxHeartbeats 1000000
/-! VSOps5: lists and dicts that are changed. -/
namespace VS
open PySem PyProof.Rows L2

section
variable {M : Mn} {W : WD} {b b1 b2 : Bool} {F H F' H' F1 H1 : Hp} {env env' env1 : List D} {σ : L2.St} {S S' S1 T : AS} {pr : Nat → Bool}
theorem mut_lst {xs : List D} {x : V} (r : RO M F H (.lst true xs) x S) : ∃ a us T, x = .ref a ∧ H a = some (.lst us) ∧ ROs M F H xs us T ∧
    ∀ ys ws T' z v, ROs M F H ys ws T' → (∀ c, T' c → T c) → RO M F H z v em → MutR M F H (upd H a (.lst ws)) (.lst true ys) x S (on1 a T') z v := by
  simp only [RO, if_true] at r
  obtain ⟨a, us, T, rfl, hT, h1, h2, rfl⟩ := r
  refine ⟨a, us, T, rfl, h1, hT, fun ys ws T' z v rs ts rz => ⟨fun c hc => upd_ne fun e => hc (.inl e), ?_, fun c hc => hc.imp id (ts c), rz.mono z (Ext.refl _) (fun _ h => h.elim), fun c hc => ?_⟩⟩
  · simp only [RO, if_true]
    exact ⟨a, ws, T', rfl, rs.mono ys (Ext.refl _) (fun c hc => upd_ne fun e => h2 (e ▸ ts c hc)), upd_same, fun z => h2 (ts a z), rfl⟩
  · rcases hc with rfl | hc
    · exact ⟨_, upd_same⟩
    · obtain ⟨o, e, _⟩ := hT.alive xs c (ts c hc)
      exact ⟨o, (upd_ne (fun z : c = a => h2 (z ▸ ts c hc))).trans e⟩
theorem ROs.one {ds : D} {vs : List V} {S : AS} (h : ROs M F H [ds] vs S) : ∃ v, vs = [v] ∧ RO M F H ds v S := by
  simp only [ROs] at h
  obtain ⟨v, ws, S1, S2, rfl, r, ⟨rfl, rfl⟩, _, rfl⟩ := h
  exact ⟨v, rfl, by rw [un_em]; exact r⟩
theorem ROs.nil_in {vs : List V} {S : AS} (h : ROs M F H [] vs S) : vs = [] := by simp only [ROs] at h; exact h.1
theorem ROs.two {d e : D} {vs : List V} (h : ROs M F H [d, e] vs em) : ∃ v w, vs = [v, w] ∧ RO M F H d v em ∧ RO M F H e w em := by
  simp only [ROs] at h
  obtain ⟨v, ws, S1, S2, rfl, r, ⟨w, ws', S3, S4, rfl, r2, ⟨rfl, rfl⟩, _, e2⟩, _, e1⟩ := h
  rw [un_em] at e2
  subst e2
  have h1 := em_of_un1 e1
  have h2 := em_of_un2 e1
  subst h1 h2
  exact ⟨v, w, rfl, r, r2⟩
/-! ### lists -/
def apM : D → List D → Option (D × D)
  | .lst true xs, [z] => if xs.length < LIM then some (.lst true (xs ++ [z]), .non) else none
  | _, _ => none
theorem rm_append : RM M rAppend apM := by
  intro F H d x S ds vs d' z Q fh r ho rs hf h k
  unfold apM at h
  split at h
  · rename_i xs y
    split at h
    · rename_i hl
      cases h
      obtain ⟨a, us, T, rfl, h1, hT, mk⟩ := mut_lst r
      obtain ⟨v, rfl, rv⟩ := rs.one
      refine ⟨a, us, v, rfl, rfl, h1, by rw [← hT.len]; exact lim_lt hl, k .non _ (on1 a T) (mk _ _ T .non .non ?_ (fun _ h => h) (by simp [RO]))⟩
      have := hT.app (es := [y]) (ws := [v]) (T := em) (by simp only [ROs]; exact ⟨v, [], em, em, rfl, rv, ⟨rfl, rfl⟩, fun _ h _ => h.elim, (em_un em).symm⟩) (fun _ _ h => h.elim)
      rw [un_em] at this
      exact this
    · cases h
  · cases h
def seM : D → List D → Option (D × D)
  | .lst true xs, [v, .int k] => (ixN xs.length k).map fun j => (.lst true (xs.set j v), .non)
  | _, _ => none
/-- v, o, i: o[i] = v -/
def rSetM : V → List V → Hp → VK → Prop := fun x vs H Q => match vs with
  | [v, i] => rSetL x i v H fun H4 => Q .non H4
  | _ => False
theorem rm_set : RM M rSetM seM := by
  intro F H d x S ds vs d' z Q fh r ho rs hf h k
  unfold seM at h
  split at h
  · rename_i xs y i
    cases q : ixN xs.length i with
    | none => rw [q] at h; cases h
    | some j =>
      rw [q] at h
      cases h
      obtain ⟨a, us, T, rfl, h1, hT, mk⟩ := mut_lst r
      obtain ⟨v, w, rfl, rv, rw'⟩ := rs.two
      simp only [RO] at rw'
      obtain ⟨rfl, _⟩ := rw'
      refine ⟨a, us, i, j, rfl, rfl, h1, by rw [← hT.len]; exact q, ?_⟩
      have hj : j < xs.length := by
        unfold ixN at q
        split at q
        · split at q
          · cases q; omega
          · cases q
        · split at q
          · cases q; omega
          · cases q
      obtain ⟨v0, S1, S2, e1, r1, dd, rfl, k1⟩ := hT.focus j (List.getElem?_eq_getElem hj)
      have r2 := k1 F H y v em (Ext.refl _) (fun _ _ => rfl) rv (fun _ h => h.elim)
      rw [em_un] at r2
      exact k .non _ _ (mk _ _ S2 .non .non r2 (fun _ h => .inr h) (by simp [RO]))
  · cases h
def clM : D → List D → Option (D × D)
  | .lst true _, [] => some (.lst true [], .non)
  | _, _ => none
theorem rm_clear : RM M rClear clM := by
  intro F H d x S ds vs d' z Q fh r ho rs hf h k
  unfold clM at h
  split at h
  · cases h
    obtain ⟨a, us, T, rfl, h1, hT, mk⟩ := mut_lst r
    have := rs.nil_in
    subst this
    exact ⟨a, us, rfl, rfl, h1, k .non _ _ (mk [] [] em .non .non (by simp [ROs]) (fun _ h => h.elim) (by simp [RO]))⟩
  · cases h
theorem ROs.rev : ∀ {ds : List D} {vs : List V} {S : AS}, ROs M F H ds vs S → ROs M F H ds.reverse vs.reverse S
  | [], vs, S, h => by simp only [ROs] at h; obtain ⟨rfl, rfl⟩ := h; simp [ROs]
  | d :: ds, vs, S, h => by
    simp only [ROs] at h
    obtain ⟨v, ws, S1, S2, rfl, r, rs, dd, rfl⟩ := h
    have := (ROs.rev rs).app (es := [d]) (ws := [v]) (T := S1) (by simp only [ROs]; exact ⟨v, [], S1, em, rfl, r, ⟨rfl, rfl⟩, fun _ _ h => h.elim, un_em'⟩) (fun a x y => dd a y x)
    rw [List.reverse_cons, List.reverse_cons]
    have e : un S1 S2 = un S2 S1 := AS.ext fun a => by simp only [un]; exact Or.comm
    rw [e]
    exact this
def rvM : D → List D → Option (D × D)
  | .lst true xs, [] => some (.lst true xs.reverse, .non)
  | _, _ => none
theorem rm_reverse : RM M rReverse rvM := by
  intro F H d x S ds vs d' z Q fh r ho rs hf h k
  unfold rvM at h
  split at h
  · cases h
    obtain ⟨a, us, T, rfl, h1, hT, mk⟩ := mut_lst r
    have := rs.nil_in
    subst this
    exact ⟨a, us, rfl, rfl, h1, k .non _ _ (mk _ _ T .non .non hT.rev (fun _ h => h) (by simp [RO]))⟩
  · cases h
theorem ROs.split_un {ds : List D} {vs : List V} {S : AS} (h : ROs M F H ds vs S) (n : Nat) : ∃ S1, ROs M F H (ds.take n) (vs.take n) S1 ∧ ∀ a, S1 a → S a := by
  obtain ⟨S1, S2, h1, h2, dd, rfl⟩ := h.split (n := n)
  exact ⟨S1, h1, fun _ h => .inl h⟩
theorem ROs.erase {ds : List D} {vs : List V} {S : AS} (h : ROs M F H ds vs S) (n : Nat) : ∃ S1, ROs M F H (ds.eraseIdx n) (vs.eraseIdx n) S1 ∧ ∀ a, S1 a → S a := by
  obtain ⟨S1, S2, h1, h2, dd, rfl⟩ := h.split (n := n)
  rw [List.eraseIdx_eq_take_drop_succ, List.eraseIdx_eq_take_drop_succ]
  obtain ⟨S3, S4, h3, h4, dd2, rfl⟩ := h2.split (n := 1)
  rw [List.drop_drop, List.drop_drop] at h4
  exact ⟨un S1 S4, h1.app h4 (fun a x y => dd a x (.inr y)), fun a z => z.imp id .inr⟩
def poM : D → List D → Option (D × D)
  | .lst true xs, [] => (xs[xs.length - 1]?).bind fun z => if isFz z = true then some (.lst true xs.dropLast, z) else none
  | _, _ => none
theorem rm_pop : RM M rPop poM := by
  intro F H d x S ds vs d' z Q fh r ho rs hf h k
  unfold poM at h
  split at h
  · rename_i xs
    cases q : xs[xs.length - 1]? with
    | none => rw [q] at h; cases h
    | some y =>
      rw [q] at h
      have h : (if isFz y = true then some (D.lst true xs.dropLast, y) else none) = some (d', z) := h
      split at h
      · rename_i hz
        cases h
        obtain ⟨a, us, T, rfl, h1, hT, mk⟩ := mut_lst r
        have := rs.nil_in
        subst this
        obtain ⟨v, T2, e1, rv⟩ := hT.get q
        have := rv.fz_em hz
        subst this
        obtain ⟨S1, r1, s1⟩ := hT.split_un (xs.length - 1)
        rw [hT.len] at e1
        have ed : us.dropLast = us.take (xs.length - 1) := by rw [List.dropLast_eq_take, hT.len]
        have ed2 : xs.dropLast = xs.take (xs.length - 1) := List.dropLast_eq_take ..
        refine ⟨a, us, v, rfl, rfl, h1, e1, ?_⟩
        rw [ed]
        rw [ed2] at k
        exact k v _ _ (mk _ _ S1 z v r1 s1 rv)
      · cases h
  · cases h
theorem ixN_nn {n : Nat} {i : Int} {k : Nat} (h : ixN n i = some k) : seqIndex? i n = some k := by
  obtain ⟨h1, _⟩ := ixN_seq h
  exact h1
def paM : D → List D → Option (D × D)
  | .lst true xs, [.int i] => if -big ≤ i ∧ i < big then (ixN xs.length i).bind fun j => (xs[j]?).bind fun z => if isFz z = true then some (.lst true (xs.eraseIdx j), z) else none else none
  | _, _ => none
theorem rm_popAt : RM M rPopAt paM := by
  intro F H d x S ds vs d' z Q fh r ho rs hf h k
  unfold paM at h
  split at h
  · rename_i xs i
    split at h
    · rename_i hb
      cases q : ixN xs.length i with
      | none => rw [q] at h; cases h
      | some j =>
        rw [q] at h
        simp only [Option.bind] at h
        cases q2 : xs[j]? with
        | none => rw [q2] at h; cases h
        | some y =>
          rw [q2] at h
          have h : (if isFz y = true then some (D.lst true (xs.eraseIdx j), y) else none) = some (d', z) := h
          split at h
          · rename_i hz
            cases h
            obtain ⟨a, us, T, rfl, h1, hT, mk⟩ := mut_lst r
            obtain ⟨w, rfl, rw'⟩ := rs.one
            simp only [RO] at rw'
            obtain ⟨rfl, _⟩ := rw'
            obtain ⟨v, T2, e1, rv⟩ := hT.get q2
            have := rv.fz_em hz
            subst this
            obtain ⟨S1, r1, s1⟩ := hT.erase j
            unfold big at hb
            exact ⟨a, us, i, j, v, rfl, rfl, h1, by omega, by omega, by rw [← hT.len]; exact ixN_nn q, e1, k v _ _ (mk _ _ S1 z v r1 s1 rv)⟩
          · cases h
    · cases h
  · cases h
def exM : D → List D → Option (D × D)
  | .lst true xs, [.lst false ys] => if xs.length + ys.length ≤ LIM then some (.lst true (xs ++ ys), .non) else none
  | _, _ => none
theorem rm_extend : RM M rExtend exM := by
  intro F H d x S ds vs d' z Q fh r ho rs hf h k
  unfold exM at h
  split at h
  · rename_i xs ys
    split at h
    · rename_i hl
      cases h
      obtain ⟨a, us, T, rfl, h1, hT, mk⟩ := mut_lst r
      obtain ⟨v, rfl, rv⟩ := rs.one
      simp only [RO, Bool.false_eq_true, if_false] at rv
      obtain ⟨c, ws, T2, rfl, r2, h2, rfl, _⟩ := rv
      refine ⟨a, c, us, ws, rfl, rfl, h1, rd_lstH fh h2, by rw [← hT.len, ← r2.len]; exact lim_ok hl, k .non _ (on1 a T) (mk _ _ T .non .non ?_ (fun _ h => h) (by simp [RO]))⟩
      have := hT.app r2 (fun _ _ h => h.elim)
      rw [un_em] at this
      exact this
    · cases h
  · cases h
/-! ### dicts -/
def isDctK : D → Bool
  | .dct o t _ _ => o && !t
  | _ => false
def puM : D → List D → Option (D × D)
  | .dct true t ks vs, [z, k] => if keyOk t k = true ∧ ks.length < LIM then some (.dct true t (putKs ks k) (putVs ks vs k z), .non) else none
  | _, _ => none
/-- v, d, k: d[k] = v -/
def rPutM : V → List V → Hp → VK → Prop := fun x vs H Q => match vs with
  | [v, y] => ∃ a H4, x = .ref a ∧ DPut H a y v H4 ∧ Q .non H4
  | _ => False
theorem rm_put : RM M rPutM puM := by
  intro F H d x S ds vs d' z Q fh r ho rs hf h k
  unfold puM at h
  split at h
  · rename_i t ks us y key
    split at h
    · rename_i hk
      cases h
      obtain ⟨v, w, rfl, rv, rw'⟩ := rs.two
      cases t with
      | false =>
        simp only [RO, if_true, Bool.false_eq_true, if_false] at r
        obtain ⟨a, ws, T, rfl, hT, ho, ⟨kvs, rfl, rfl, rfl, hn⟩, h1, h2, rfl⟩ := r
        obtain ⟨j, rfl, rfl⟩ := isK_in hk.1 rw'
        obtain ⟨T', r1, s1⟩ := putVs_ok (f := dkey) (fun _ _ => dkey_inj) (j := j) rv hT
        refine ⟨a, _, rfl, .k h1 (by have := lim_lt hk.2; simpa using this), k .non _ (on1 a T') ⟨fun c hc => upd_ne fun e => hc (.inl e), ?_, fun c hc => hc.imp id (s1 c), by simp [RO], fun c hc => ?_⟩⟩
        · simp only [RO, if_true, Bool.false_eq_true, if_false]
          exact ⟨a, _, T', rfl, r1.mono _ (Ext.refl _) (fun c hc => upd_ne fun e => h2 (e ▸ s1 c hc)), _, ⟨_, rfl, (putKs_ok (f := dkey) (fun _ _ => dkey_inj)).symm, rfl, putK_nodup hn⟩, upd_same, fun z => h2 (s1 a z), rfl⟩
        · rcases hc with rfl | hc
          · exact ⟨_, upd_same⟩
          · obtain ⟨o, e, _⟩ := hT.alive us c (s1 c hc)
            exact ⟨o, (upd_ne (fun z : c = a => h2 (z ▸ s1 c hc))).trans e⟩
      | true =>
        simp only [RO, if_true] at r
        obtain ⟨a, ws, T, rfl, hT, ho, ⟨kvs, rfl, rfl, rfl, hn⟩, h1, h2, rfl⟩ := r
        obtain ⟨j, c0, rfl, rfl, hc0⟩ := keyT_in hk.1 rw' fh
        obtain ⟨T', r1, s1⟩ := putVs_ok (f := dkeyT) (fun _ _ => dkeyT_inj) (j := j) rv hT
        refine ⟨a, _, rfl, .t h1 hc0 (by have := lim_lt hk.2; simpa using this), k .non _ (on1 a T') ⟨fun c hc => upd_ne fun e => hc (.inl e), ?_, fun c hc => hc.imp id (s1 c), by simp [RO], fun c hc => ?_⟩⟩
        · simp only [RO, if_true]
          exact ⟨a, _, T', rfl, r1.mono _ (Ext.refl _) (fun c hc => upd_ne fun e => h2 (e ▸ s1 c hc)), _, ⟨_, rfl, (putKs_ok (f := dkeyT) (fun _ _ => dkeyT_inj)).symm, rfl, putK_nodup hn⟩, upd_same, fun z => h2 (s1 a z), rfl⟩
        · rcases hc with rfl | hc
          · exact ⟨_, upd_same⟩
          · obtain ⟨o, e, _⟩ := hT.alive us c (s1 c hc)
            exact ⟨o, (upd_ne (fun z : c = a => h2 (z ▸ s1 c hc))).trans e⟩
    · cases h
  · cases h
def dcM : D → List D → Option (D × D)
  | .dct true false _ _, [] => some (.dct true false [] [], .non)
  | _, _ => none
theorem rm_dclear : RM M rDClear dcM := by
  intro F H d x S ds vs d' z Q fh r ho rs hf h k
  unfold dcM at h
  split at h
  · cases h
    have := rs.nil_in
    subst this
    simp only [RO, if_true, Bool.false_eq_true, if_false] at r
    obtain ⟨a, ws, T, rfl, hT, ho, ⟨kvs, rfl, rfl, rfl, hn⟩, h1, h2, rfl⟩ := r
    refine ⟨a, kvs, rfl, rfl, h1, k .non _ (on1 a em) ⟨fun c hc => upd_ne fun e => hc (.inl e), ?_, fun c hc => hc.imp id (fun z => z.elim), by simp [RO], fun c hc => ?_⟩⟩
    · simp only [RO, if_true, Bool.false_eq_true, if_false]
      exact ⟨a, [], em, rfl, by simp [ROs], .dK [], ⟨[], rfl, rfl, rfl, List.nodup_nil⟩, upd_same, fun z => z, rfl⟩
    · rcases hc with rfl | hc
      · exact ⟨_, upd_same⟩
      · exact hc.elim
  · cases h
/-! ### as they are written -/
def tyD (T : String) : D → Bool
  | .str _ => T == "str"
  | .int _ => T == "int"
  | .lst _ _ => T == "list"
  | .scr _ => T == "list"
  | .dct o _ _ _ => o && T == "dict"
  | _ => false
def cTy (K : PySem.W.Frag) (T : String) (x : V) (H : Hp) (k : (List V → Hp → Prop) → Prop) (R : List V → Hp → Prop) : Prop := tyV K T x H ∧ k (fun vs H2 => R (x :: vs) H2)
theorem cTy_ok {T : String} : ∀ F H x d S (k : (List V → Hp → Prop) → Prop) R, FH F H → RO M F H d x S → tyD T d = true → k (fun vs H2 => R (x :: vs) H2) → cTy M.K T x H k R := by
  intro F H x d S k R fh r hd h
  refine ⟨?_, h⟩
  cases d with
  | str s => simp only [RO] at r; obtain ⟨rfl, _⟩ := r; exact eq_of_beq hd
  | int i => simp only [RO] at r; obtain ⟨rfl, _⟩ := r; exact eq_of_beq hd
  | lst o xs =>
    obtain ⟨a, vs, T', rfl, sq, _⟩ := r.lst_in fh
    exact .inl ⟨eq_of_beq hd, vs, sq⟩
  | scr ns =>
    simp only [RO] at r
    obtain ⟨⟨a, rfl, sq⟩, _⟩ := r
    exact .inl ⟨eq_of_beq hd, _, rd_scr fh sq⟩
  | dct o t ks vs =>
    simp only [tyD, Bool.and_eq_true] at hd
    obtain ⟨rfl, hd⟩ := hd
    cases t with
    | false =>
      obtain ⟨a, T', kvs, rfl, _, _, _, _, _, h1⟩ := r.dctK fh
      exact .inr (.inr (.inl ⟨eq_of_beq hd, .inl ⟨kvs, h1 rfl⟩⟩))
    | true =>
      obtain ⟨a, T', kvs, rfl, _, _, _, _, _, h1⟩ := r.dctT fh
      exact .inr (.inr (.inl ⟨eq_of_beq hd, .inr ⟨kvs, h1 rfl⟩⟩))
  | _ => cases hd
def bmR (r : V → List V → Hp → VK → Prop) : List V → Hp → VK → Prop := fun vs H Q => match vs with
  | x :: xs => r x xs H Q
  | [] => False
theorem bm_ok {r : V → List V → Hp → VK → Prop} : ∀ (vs : List V) x H Q, vs[0]? = some x → r x (vs.eraseIdx 0) H Q → bmR r vs H Q := fun vs x H Q h q => by
  cases vs with
  | nil => cases h
  | cons y ys => cases h; exact q
/-- o.m(..): o is changed -/
def bmF (T : String) (b2 : Bool) (opm : D → List D → Option (D × D)) (fo : List D → R Rv) (fs : List D → R (List Rv)) : List D → R Rv := mutF 0 opm (consF b2 (chkF (tyD T) fo) fs)
theorem se_bm {to : TE} {ta : TA} {fo : List D → R Rv} {fs : List D → R (List Rv)} {r : V → List V → Hp → VK → Prop} {opm : D → List D → Option (D × D)} (T : String) (hr : RM M r opm) (h1 : SE M W b1 to fo) (h2 : SA M W b2 ta fs) :
    SE M W false (tBM M.K T r to ta) (bmF T b2 opm fo fs) :=
  se_mut 0 (sa_chk (tyD T) (cTy M.K T) cTy_ok h1 h2) hr bm_ok
theorem se_bm0 {to : TE} {fo : List D → R Rv} {r : V → List V → Hp → VK → Prop} {opm : D → List D → Option (D × D)} (T : String) (hr : RM M r opm) (h1 : SE M W b1 to fo) :
    SE M W false (tBM0 M.K T r to) (bmF T true opm fo nilF) :=
  se_mut 0 (sa_chk (tyD T) (cTy M.K T) cTy_ok h1 sa_nil) hr bm_ok
/-- o[i] = v, d[k] = v -/
theorem set_ok : ∀ (vs : List V) x H Q, vs[1]? = some x → rSetM x (vs.eraseIdx 1) H Q → (fun vs H (Q : VK) => match vs with | [v, x, y] => rSetL x y v H fun H4 => Q .non H4 | _ => False) vs H Q := fun vs x H Q h q => by
  match vs, h, q with
  | [v, x', i], h, q => cases h; exact q
  | [], h, q => cases h
  | [_], h, q => cases h
  | [v, x'], h, q => exact q.elim
  | _ :: _ :: _ :: _ :: _, h, q => exact q.elim
def setS (bo bi : Bool) (fv fo fi : List D → R Rv) : List D → SR := mutS 1 seM (consF (bo && (bi && true)) fv (consF (bi && true) fo (consF true fi nilF)))
theorem ss_set {tv to ti : TE} {fv fo fi : List D → R Rv} {bo bi : Bool} (h1 : SE M W b tv fv) (h2 : SE M W bo to fo) (h3 : SE M W bi ti fi) : SS M W pr (tAsg tv (gSub to ti rSetL)) (setS bo bi fv fo fi) :=
  ss_mut (ta := tCons tv (tCons to (tCons ti tNil))) 1 (sa_cons h1 (sa_cons h2 (sa_cons h3 sa_nil))) rm_set set_ok
theorem put_ok : ∀ (vs : List V) x H Q, vs[1]? = some x → rPutM x (vs.eraseIdx 1) H Q → (fun vs H (Q : VK) => match vs with | [v, x, y] => ∃ a H4, x = .ref a ∧ DPut H a y v H4 ∧ Q .non H4 | _ => False) vs H Q := fun vs x H Q h q => by
  match vs, h, q with
  | [v, x', i], h, q => cases h; exact q
  | [], h, q => cases h
  | [_], h, q => cases h
  | [v, x'], h, q => exact q.elim
  | _ :: _ :: _ :: _ :: _, h, q => exact q.elim
def putS (bo bi : Bool) (fv fo fi : List D → R Rv) : List D → SR := mutS 1 puM (consF (bo && (bi && true)) fv (consF (bi && true) fo (consF true fi nilF)))
theorem ss_put {tv to ti : TE} {fv fo fi : List D → R Rv} {bo bi : Bool} (h1 : SE M W b tv fv) (h2 : SE M W bo to fo) (h3 : SE M W bi ti fi) : SS M W pr (sDPut to ti tv) (putS bo bi fv fo fi) :=
  ss_mut (ta := tCons tv (tCons to (tCons ti tNil))) 1 (sa_cons h1 (sa_cons h2 (sa_cons h3 sa_nil))) rm_put put_ok
/-- .. whichever -/
def stoM : D → List D → Option (D × D) := fun d ds => match d with
  | .dct true t ks vs => puM (.dct true t ks vs) ds
  | d => seM d ds
theorem sto_or (d : D) (ds : List D) : stoM d ds = seM d ds ∨ stoM d ds = puM d ds := by
  unfold stoM
  split
  · exact .inr rfl
  · exact .inl rfl
def stoS (bo bi : Bool) (fv fo fi : List D → R Rv) : List D → SR := mutS 1 stoM (consF (bo && (bi && true)) fv (consF (bi && true) fo (consF true fi nilF)))
theorem ss_or {t1 t2 : TS} {f f1 f2 : List D → SR} (h : ∀ env, f env = f1 env ∨ f env = f2 env) (h1 : SS M W pr t1 f1) (h2 : SS M W pr t2 f2) : SS M W pr (fun D σ H => t1 D σ H ∨ t2 D σ H) f := by
  intro D F H env σ S st en q
  rcases h env with e | e
  · exact .inl (h1 D F H env σ S st en (by rw [← e]; exact q))
  · exact .inr (h2 D F H env σ S st en (by rw [← e]; exact q))
theorem mutS_or {j : Nat} {o o1 o2 : D → List D → Option (D × D)} {fs : List D → R (List Rv)} (h : ∀ d ds, o d ds = o1 d ds ∨ o d ds = o2 d ds) (env : List D) : mutS j o fs env = mutS j o1 fs env ∨ mutS j o fs env = mutS j o2 fs env := by
  unfold mutS mutF
  cases fs env with
  | stuck => exact .inl rfl
  | err c d e => exact .inl rfl
  | ok rs env1 =>
    simp only [R.bind]
    split
    · split
      · split
        · rename_i ds env2 _ _ e _
          rcases h e ds with q | q
          · rw [q]; exact .inl rfl
          · rw [q]; exact .inr rfl
        · exact .inl rfl
      · exact .inl rfl
    · exact .inl rfl
theorem ss_sto {tv to ti : TE} {fv fo fi : List D → R Rv} {bo bi : Bool} (h1 : SE M W b tv fv) (h2 : SE M W bo to fo) (h3 : SE M W bi ti fi) :
    SS M W pr (fun D σ H => tAsg tv (gSub to ti rSetL) D σ H ∨ sDPut to ti tv D σ H) (stoS bo bi fv fo fi) :=
  ss_or (mutS_or sto_or) (ss_set h1 h2 h3) (ss_put h1 h2 h3)
end
end VS
set_option maxHeartbeats 1000000
/-! VSOps6: truth, texts, sorted, the greatest, lists made of others. -/
namespace VS
open PySem PyProof.Rows L2

section
variable {M : Mn} {W : WD} {b b1 b2 : Bool} {F H F' H' F1 H1 : Hp} {env env' env1 : List D} {σ : L2.St} {S S' S1 T : AS} {pr : Nat → Bool}
/-! ### truth -/
def truD : D → Option Bool
  | .non => some false
  | .bl k => some k
  | .int i => some (i != 0)
  | .str s => if s.length ≤ LIM then some (!s.isEmpty) else none
  | .lst _ xs => some (!xs.isEmpty)
  | .tup _ xs => some (!xs.isEmpty)
  | .scr ns => some (!ns.isEmpty)
  | .dct o t ks _ => if o = true ∧ t = false then some (!ks.isEmpty) else none
  | _ => none
theorem emp_len {α β : Type} {xs : List α} {ys : List β} (h : xs.length = ys.length) : xs.isEmpty = ys.isEmpty := by
  cases xs <;> cases ys <;> first | rfl | simp at h
theorem truV_ok {d : D} {v : V} {k : Bool} (h : truD d = some k) (r : RO M F H d v S) (fh : FH F H) : TruV M.K v H k := by
  cases d with
  | non => simp only [RO] at r; obtain ⟨rfl, _⟩ := r; cases h; rfl
  | bl b => simp only [RO] at r; obtain ⟨rfl, _⟩ := r; cases h; rfl
  | int i => simp only [RO] at r; obtain ⟨rfl, _⟩ := r; cases h; rfl
  | str s =>
    simp only [RO] at r
    obtain ⟨rfl, _⟩ := r
    simp only [truD] at h
    split at h
    · rename_i hl
      cases h
      refine ⟨by rw [str_len]; exact lim_ok hl, ?_⟩
      rw [str_len]
      cases s <;> simp <;> omega
    · cases h
  | lst o xs =>
    obtain ⟨a, vs, T', rfl, sq, rs, _⟩ := r.lst_in fh
    cases h
    exact .inl ⟨vs, sq, by rw [emp_len rs.len]⟩
  | tup o xs =>
    obtain ⟨a, vs, T', rfl, sq, rs, _⟩ := r.tup_in fh
    cases h
    exact .inr (.inl ⟨vs, sq, by rw [emp_len rs.len]⟩)
  | scr ns =>
    simp only [RO] at r
    obtain ⟨⟨a, rfl, sq⟩, _⟩ := r
    cases h
    exact .inl ⟨_, rd_scr fh sq, by cases ns <;> rfl⟩
  | dct o t ks vs =>
    simp only [truD] at h
    split at h
    · rename_i ho
      obtain ⟨rfl, rfl⟩ := ho
      cases h
      obtain ⟨a, T', kvs, rfl, _, rfl, _, _, _, h1⟩ := r.dctK fh
      exact .inr (.inr ⟨kvs, h1 rfl, by cases kvs <;> rfl⟩)
    · cases h
  | _ => cases h
def truF (f : List D → R Rv) : List D → R Bool := fun env => (f env).bind fun r env1 => match (fetch env1 r).bind truD with
  | some k => .ok k env1
  | none => .stuck
theorem st_tru {te : TE} {f : List D → R Rv} (h1 : SE M W b te f) : ST M W b (tTru M.K te) (truF f) := by
  intro F H env σ S Q st en h
  refine h1 F H env σ S _ st en ?_
  unfold truF at h
  cases hf : f env with
  | stuck => rw [hf] at h; exact h
  | err c d env1 => rw [hf] at h; exact h
  | ok r env1 =>
    rw [hf] at h
    simp only [R.bind] at h
    intro v F1 H1 S1 s1 st1 hb1 res1
    obtain ⟨Se, St, en1, ro1, d1, rfl, pth1⟩ := res1
    cases hd : fetch env1 r with
    | none => rw [hd] at h; exact h.elim
    | some d =>
      rw [hd] at h
      simp only [Option.bind] at h
      cases hk : truD d with
      | none => rw [hk] at h; exact h.elim
      | some k =>
        rw [hk] at h
        obtain ⟨v', ws, Sx, e, rd, _⟩ := rl_of (Se := Se) (St := St) en1 ro1 pth1 (ds := [d]) (by simp [fetchs, hd])
        cases e
        exact ⟨k, truV_ok hk rd st1.fh, h F1 H1 Se (s1.drop fun _ z => .inl z) (st1.sub fun _ z => .inl z) hb1 en1⟩
/-- a or b, a and b as values; neg: and -/
def lorF (neg : Bool) (fa fb : List D → R Rv) : List D → R Rv := fun env => (fa env).bind fun r env1 => match (fetch env1 r).bind truD with
  | some k => if (k != neg) = true then .ok r env1 else fb env1
  | none => .stuck
theorem se_lor {ta tb : TE} {fa fb : List D → R Rv} (h1 : SE M W b1 ta fa) (h2 : SE M W b2 tb fb) : SE M W (b1 && b2) (tOrT M.K ta tb) (lorF false fa fb) := by
  intro F H env σ S Q st en h
  refine h1 F H env σ S _ st en ?_
  unfold lorF at h
  cases hf : fa env with
  | stuck => rw [hf] at h; exact h
  | err c d env1 => rw [hf] at h; exact h
  | ok r env1 =>
    rw [hf] at h
    simp only [R.bind] at h
    intro v F1 H1 S1 s1 st1 hb1 res1
    have res1' := res1
    obtain ⟨Se, St, en1, ro1, d1, rfl, pth1⟩ := res1'
    cases hd : fetch env1 r with
    | none => rw [hd] at h; exact h.elim
    | some d =>
      rw [hd] at h
      simp only [Option.bind] at h
      cases hk : truD d with
      | none => rw [hk] at h; exact h.elim
      | some k =>
        rw [hk] at h
        obtain ⟨v', ws, Sx, e, rd, _⟩ := rl_of (Se := Se) (St := St) en1 ro1 pth1 (ds := [d]) (by simp [fetchs, hd])
        cases e
        refine ⟨k, truV_ok hk rd st1.fh, ?_⟩
        cases k with
        | true =>
          refine iteT ?_
          exact h v F1 H1 _ s1 st1 (fun hb => hb1 (Bool.and_eq_true_iff.mp hb).1) res1
        | false =>
          refine iteF ?_
          have h : Post M W (b1 && b2) F H σ S Q (fb env1) := h
          have s1' := s1.drop (T := Se) fun _ z => .inl z
          have st1' := st1.sub (T := Se) fun _ z => .inl z
          refine h2 F1 H1 env1 σ Se Q st1' en1 ?_
          cases hg : fb env1 with
          | stuck => rw [hg] at h; exact h
          | err c d env2 =>
            rw [hg] at h
            exact fun F' H' S' cls dx a b c d => h F' H' S' cls dx (s1'.trans a) b c d
          | ok r2 env2 =>
            rw [hg] at h
            exact fun v F' H' S' a b c d => h v F' H' S' (s1'.trans a) b (fun hb => by
              obtain ⟨x, y⟩ := Bool.and_eq_true_iff.mp hb
              exact (hb1 x).trans (c y)) d
theorem se_land {ta tb : TE} {fa fb : List D → R Rv} (h1 : SE M W b1 ta fa) (h2 : SE M W b2 tb fb) : SE M W (b1 && b2) (tAndT M.K ta tb) (lorF true fa fb) := by
  intro F H env σ S Q st en h
  refine h1 F H env σ S _ st en ?_
  unfold lorF at h
  cases hf : fa env with
  | stuck => rw [hf] at h; exact h
  | err c d env1 => rw [hf] at h; exact h
  | ok r env1 =>
    rw [hf] at h
    simp only [R.bind] at h
    intro v F1 H1 S1 s1 st1 hb1 res1
    have res1' := res1
    obtain ⟨Se, St, en1, ro1, d1, rfl, pth1⟩ := res1'
    cases hd : fetch env1 r with
    | none => rw [hd] at h; exact h.elim
    | some d =>
      rw [hd] at h
      simp only [Option.bind] at h
      cases hk : truD d with
      | none => rw [hk] at h; exact h.elim
      | some k =>
        rw [hk] at h
        obtain ⟨v', ws, Sx, e, rd, _⟩ := rl_of (Se := Se) (St := St) en1 ro1 pth1 (ds := [d]) (by simp [fetchs, hd])
        cases e
        refine ⟨k, truV_ok hk rd st1.fh, ?_⟩
        cases k with
        | false =>
          refine iteF ?_
          exact h v F1 H1 _ s1 st1 (fun hb => hb1 (Bool.and_eq_true_iff.mp hb).1) res1
        | true =>
          refine iteT ?_
          have h : Post M W (b1 && b2) F H σ S Q (fb env1) := h
          have s1' := s1.drop (T := Se) fun _ z => .inl z
          have st1' := st1.sub (T := Se) fun _ z => .inl z
          refine h2 F1 H1 env1 σ Se Q st1' en1 ?_
          cases hg : fb env1 with
          | stuck => rw [hg] at h; exact h
          | err c d env2 =>
            rw [hg] at h
            exact fun F' H' S' cls dx a b c d => h F' H' S' cls dx (s1'.trans a) b c d
          | ok r2 env2 =>
            rw [hg] at h
            exact fun v F' H' S' a b c d => h v F' H' S' (s1'.trans a) b (fun hb => by
              obtain ⟨x, y⟩ := Bool.and_eq_true_iff.mp hb
              exact (hb1 x).trans (c y)) d
/-- a if t else b -/
def ifeF (t : List D → R Bool) (fa fb : List D → R Rv) : List D → R Rv := fun env => (t env).bind fun k env1 => if k = true then fa env1 else fb env1
theorem se_ife {tt : TT} {ta tb : TE} {t : List D → R Bool} {fa fb : List D → R Rv} {b3 : Bool} (h0 : ST M W b tt t) (h1 : SE M W b1 ta fa) (h2 : SE M W b2 tb fb) : SE M W (b && (b1 && b2)) (tIf tt ta tb) (ifeF t fa fb) := by
  intro F H env σ S Q st en h
  refine h0 F H env σ S _ st en ?_
  unfold ifeF at h
  cases hf : t env with
  | stuck => rw [hf] at h; exact h
  | err c d env1 => rw [hf] at h; exact h
  | ok k env1 =>
    rw [hf] at h
    simp only [R.bind] at h
    intro F1 H1 S1 s1 st1 hb1 en1
    have go : ∀ {te : TE} {f : List D → R Rv} {b3 : Bool}, (∀ x, (b && (b1 && b2)) = true → (x = b3) → x = true) → SE M W b3 te f → Post M W (b && (b1 && b2)) F H σ S Q (f env1) → te σ H1 Q := fun {te f b3} hb3 he h => by
      refine he F1 H1 env1 σ S1 Q st1 en1 ?_
      cases hg : f env1 with
      | stuck => rw [hg] at h; exact h
      | err c d env2 =>
        rw [hg] at h
        exact fun F' H' S' cls dx a b c d => h F' H' S' cls dx (s1.trans a) b c d
      | ok r2 env2 =>
        rw [hg] at h
        exact fun v F' H' S' a b' c d => h v F' H' S' (s1.trans a) b' (fun hb => (hb1 (Bool.and_eq_true_iff.mp hb).1).trans (c (hb3 b3 hb rfl))) d
    cases k with
    | true => exact iteT (go (fun x hb e => by subst e; exact (Bool.and_eq_true_iff.mp (Bool.and_eq_true_iff.mp hb).2).1) h1 h)
    | false => exact iteF (go (fun x hb e => by subst e; exact (Bool.and_eq_true_iff.mp (Bool.and_eq_true_iff.mp hb).2).2) h2 h)
/-! ### texts -/
def strsD : List D → Option (List (List Nat))
  | [] => some []
  | .str s :: ds => (strsD ds).map (s :: ·)
  | _ => none
theorem strsD_ok : ∀ {ds : List D} {ss : List (List Nat)} {vs : List V} {S : AS}, strsD ds = some ss → ROs M F H ds vs S → vs = (ss.map fun s => (⟨s.toArray⟩ : Str)).map V.str
  | [], ss, vs, S, e, r => by
    simp only [strsD] at e
    cases e
    simp only [ROs] at r
    exact r.1
  | d :: ds, ss, vs, S, e, r => by
    cases d with
    | str s =>
      simp only [strsD] at e
      cases q : strsD ds with
      | none => rw [q] at e; cases e
      | some cs =>
        rw [q] at e
        cases e
        simp only [ROs, RO] at r
        obtain ⟨v, ws, S1, S2, rfl, ⟨rfl, _⟩, r2, _⟩ := r
        rw [strsD_ok q r2]
        rfl
    | _ => cases e
def glue (sep : List Nat) : List (List Nat) → List Nat
  | [] => []
  | [p] => p
  | p :: q :: r => p ++ (sep ++ glue sep (q :: r))
def seqI : D → Option (List D)
  | .lst _ xs => some xs
  | .tup _ xs => some xs
  | _ => none
def joinD : D → D → Option D
  | .str a, d => (seqI d).bind fun xs => (strsD xs).bind fun ss => if (ss.map List.length).sum + ss.length * a.length ≤ LIM then some (.str (glue a ss)) else none
  | _, _ => none
theorem seqI_in {d : D} {xs : List D} {v : V} (h : seqI d = some xs) (r : RO M F H d v S) (fh : FH F H) : ∃ p vs T, v = .ref p ∧ (SqL M.K H p vs ∨ SqT M.K H p vs) ∧ ROs M F H xs vs T := by
  cases d with
  | lst o ys =>
    cases h
    obtain ⟨a, vs, T', rfl, sq, rs, _⟩ := r.lst_in fh
    exact ⟨a, vs, T', rfl, .inl sq, rs⟩
  | tup o ys =>
    cases h
    obtain ⟨a, vs, T', rfl, sq, rs, _⟩ := r.tup_in fh
    exact ⟨a, vs, T', rfl, .inr sq, rs⟩
  | _ => cases h
theorem glue_ok (a : List Nat) : ∀ ss : List (List Nat), Str.join ⟨a.toArray⟩ (ss.map fun s => (⟨s.toArray⟩ : Str)) = ⟨(glue a ss).toArray⟩
  | [] => rfl
  | [p] => rfl
  | p :: q :: r => by
    have ih := glue_ok a (q :: r)
    show (⟨p.toArray⟩ : Str) ++ ⟨a.toArray⟩ ++ Str.join ⟨a.toArray⟩ ((q :: r).map fun s => (⟨s.toArray⟩ : Str)) = _
    rw [ih]
    show (⟨(p.toArray ++ a.toArray) ++ (glue a (q :: r)).toArray⟩ : Str) = _
    simp [glue]
def rJoin (K : PySem.W.Frag) : V → List V → Hp → VK → Prop := fun x xs H Q => ∃ a p, ∃ ys : List Str, x = .str a ∧ xs = [.ref p] ∧ (SqL K H p (ys.map V.str) ∨ SqT K H p (ys.map V.str)) ∧
    (ys.map (·.length)).sum + ys.length * a.length ≤ 16777216 ∧ Q (.str (Txt.join a ys)) H
theorem rn_join : RN M (fun vs H Q => match vs with | [x, y] => rJoin M.K x [y] H Q | _ => False) (op2 joinD) := by
  refine rn_of2 (r := fun x y H Q => rJoin M.K x [y] H Q) ?_
  intro F H x y d e z Sx Sy Q fh rx ry h k
  cases d with
  | str a =>
    simp only [joinD] at h
    cases q : seqI e with
    | none => rw [q] at h; cases h
    | some xs =>
      rw [q] at h
      simp only [Option.bind] at h
      cases q2 : strsD xs with
      | none => rw [q2] at h; cases h
      | some ss =>
        rw [q2] at h
        simp only at h
        split at h
        · rename_i hl
          cases h
          simp only [RO] at rx
          obtain ⟨rfl, _⟩ := rx
          obtain ⟨p, vs, T', rfl, sq, rs⟩ := seqI_in q ry fh
          have := strsD_ok q2 rs
          subst this
          refine ⟨_, p, _, rfl, rfl, sq, ?_, ?_⟩
          · rw [List.map_map, List.length_map, str_len]
            have e : (ss.map ((fun x : Str => x.length) ∘ fun s => (⟨s.toArray⟩ : Str))) = ss.map List.length := List.map_congr_left fun s _ => str_len s
            rw [e]
            unfold LIM at hl
            omega
          · rw [TL.join_eq, glue_ok]
            exact k _ _ _ _ (NewR.same fh (by simp [RO]))
        · cases h
  | _ => cases h
def isStrD : D → Bool
  | .str _ => true
  | _ => false
def cStr (x : V) (H : Hp) (k : (List V → Hp → Prop) → Prop) (R : List V → Hp → Prop) : Prop := (∃ a, x = .str a) ∧ k (fun vs H2 => R (x :: vs) H2)
theorem cStr_ok : ∀ F H x d S (k : (List V → Hp → Prop) → Prop) R, FH F H → RO M F H d x S → isStrD d = true → k (fun vs H2 => R (x :: vs) H2) → cStr x H k R := by
  intro F H x d S k R fh r hd h
  cases d with
  | str s => simp only [RO] at r; obtain ⟨rfl, _⟩ := r; exact ⟨⟨_, rfl⟩, h⟩
  | _ => cases hd
/-- s.m(e), s a text -/
def m1F (opd : D → D → Option D) (fs fe : List D → R Rv) : List D → R Rv := opN (op2 opd) (consF true (chkF isStrD fs) (consF true fe nilF))
theorem strs_nn {r : Rv} {env : List D} {d : D} (h : fetch env r = some d) (hs : isStrD d = true) : nested r = false := by
  cases r with
  | tmp d => rfl
  | pth i p =>
    simp only [fetch] at h
    cases g : getE env i p with
    | none => rw [g] at h; cases h
    | some e =>
      rw [g] at h
      have h : (if (own e || (p.isEmpty && isSet e)) = true then some e else none) = some d := h
      split at h
      · rename_i ho
        cases h
        cases p with
        | nil => rfl
        | cons k p => cases d <;> simp [isStrD, own] at hs ho
      · cases h
theorem se_m1 {to te : TE} {fs fe : List D → R Rv} {r : V → List V → Hp → VK → Prop} {opd : D → D → Option D} (hr : RN M (fun vs H Q => match vs with | [x, y] => r x [y] H Q | _ => False) (op2 opd)) (h1 : SE M W b1 to fs) (h2 : SE M W b2 te fe) :
    SE M W (b1 && (b2 && true)) (tM1 r to te) (m1F opd fs fe) := by
  have := se_n (sa_chk isStrD cStr cStr_ok h1 (sa_cons h2 sa_nil)) hr
  intro F H env σ S Q st en h
  refine this F H env σ S Q st en ?_
  have e : opN (op2 opd) (consF (b2 && true) (chkF isStrD fs) (consF true fe nilF)) env = m1F opd fs fe env := by
    unfold m1F opN consF chkF
    cases hf : fs env with
    | stuck => rfl
    | err c d env1 => rfl
    | ok r env1 =>
      simp only [R.bind]
      cases hd : fetch env1 r with
      | none => rfl
      | some d =>
        simp only
        by_cases hc : isStrD d = true
        · have := strs_nn hd hc
          simp [hc, this]
        · simp [hc]
  rw [e]
  exact h
/-! ### a text backwards -/
def revSD : D → Option D
  | .str s => if s.length ≤ LIM then some (.str s.reverse) else none
  | _ => none
theorem rn_revS : RN1 M (fun x H Q => ∃ z : Str, x = .str z ∧ z.length ≤ sizeLine ∧ Q (.str ⟨z.cps.toList.reverse.toArray⟩) H) revSD := by
  intro F H x d z Sx Q fh rx h k
  cases d with
  | str s =>
    simp only [revSD] at h
    split at h
    · rename_i hl
      cases h
      simp only [RO] at rx
      obtain ⟨rfl, _⟩ := rx
      exact ⟨_, rfl, by rw [str_len]; exact lim_ok hl, k _ _ _ _ (NewR.same fh (by simp [RO]))⟩
    · cases h
  | _ => cases h
theorem se_revS {te : TE} {f : List D → R Rv} (h : SE M W b te f) : SE M W (b && true) (VH.tRevS te) (una revSD f) := se_un (r := fun x H Q => ∃ z : Str, x = .str z ∧ z.length ≤ sizeLine ∧ Q (.str ⟨z.cps.toList.reverse.toArray⟩) H) rn_revS h
/-! ### the less, the greater of two -/
def min2D : D → D → Option D
  | .int i, .int j => some (.int (if j < i then j else i))
  | .str s, .str t => some (.str (if t < s then t else s))
  | _, _ => none
def max2D : D → D → Option D
  | .int i, .int j => some (.int (if j > i then j else i))
  | .str s, .str t => some (.str (if s < t then t else s))
  | _, _ => none
abbrev rMin2A : List V → Hp → VK → Prop := fun xs H Q => (fun xs H Q => ∃ i j, xs = [.int i, .int j] ∧ Q (.int (if j < i then j else i)) H) xs H Q ∨ VH.rMin2S xs H Q
abbrev rMax2A : List V → Hp → VK → Prop := fun xs H Q => (fun xs H Q => ∃ i j, xs = [.int i, .int j] ∧ Q (.int (if j > i then j else i)) H) xs H Q ∨ VH.rMax2S xs H Q
theorem call_min2A {X : Cx} (hc : X.calm = true) : CallR X (.builtin "min") rMin2A := (call_min2 hc).or (VH.call_min2S hc)
theorem call_max2A {X : Cx} (hc : X.calm = true) : CallR X (.builtin "max") rMax2A := (call_max2 hc).or (VH.call_max2S hc)
theorem rn_min2 : RN M rMin2A (op2 min2D) := by
  intro F H ds vs z Q fh rl e k
  unfold op2 at e
  split at e
  · obtain ⟨x1, ws, S1, rfl, r1, y1, ws2, S2, rfl, r2, rr⟩ := rl
    simp only [RL] at rr
    subst rr
    unfold min2D at e
    split at e
    · cases e
      simp only [RO] at r1 r2
      obtain ⟨rfl, _⟩ := r1
      obtain ⟨rfl, _⟩ := r2
      exact .inl ⟨_, _, rfl, k _ _ _ _ (NewR.same fh (by simp [RO]))⟩
    · cases e
      simp only [RO] at r1 r2
      obtain ⟨rfl, _⟩ := r1
      obtain ⟨rfl, _⟩ := r2
      refine .inr ⟨_, _, rfl, k _ _ _ _ (NewR.same fh ?_)⟩
      simp only [RO]
      refine ⟨?_, by trivial⟩
      rename_i s t _ _
      by_cases hc : t < s
      · rw [if_pos hc, if_pos (show t < s from hc)]
      · rw [if_neg hc, if_neg (show ¬ t < s from hc)]
    · cases e
  · cases e
theorem rn_max2 : RN M rMax2A (op2 max2D) := by
  intro F H ds vs z Q fh rl e k
  unfold op2 at e
  split at e
  · obtain ⟨x1, ws, S1, rfl, r1, y1, ws2, S2, rfl, r2, rr⟩ := rl
    simp only [RL] at rr
    subst rr
    unfold max2D at e
    split at e
    · cases e
      simp only [RO] at r1 r2
      obtain ⟨rfl, _⟩ := r1
      obtain ⟨rfl, _⟩ := r2
      exact .inl ⟨_, _, rfl, k _ _ _ _ (NewR.same fh (by simp [RO]))⟩
    · cases e
      simp only [RO] at r1 r2
      obtain ⟨rfl, _⟩ := r1
      obtain ⟨rfl, _⟩ := r2
      refine .inr ⟨_, _, rfl, k _ _ _ _ (NewR.same fh ?_)⟩
      simp only [RO]
      refine ⟨?_, by trivial⟩
      rename_i s t _ _
      by_cases hc : s < t
      · rw [if_pos hc, if_pos (show s < t from hc)]
      · rw [if_neg hc, if_neg (show ¬ s < t from hc)]
    · cases e
  · cases e
/-! ### of a list of ints -/
def numsD : List D → Option (List Int)
  | [] => some []
  | .int i :: ds => (numsD ds).map (i :: ·)
  | _ => none
theorem numsD_ok : ∀ {ds : List D} {ns : List Int} {vs : List V} {S : AS}, numsD ds = some ns → ROs M F H ds vs S → vs = ns.map V.int
  | [], ns, vs, S, e, r => by
    simp only [numsD] at e
    cases e
    simp only [ROs] at r
    exact r.1
  | d :: ds, ns, vs, S, e, r => by
    cases d with
    | int i =>
      simp only [numsD] at e
      cases q : numsD ds with
      | none => rw [q] at e; cases e
      | some cs =>
        rw [q] at e
        cases e
        simp only [ROs, RO] at r
        obtain ⟨v, ws, S1, S2, rfl, ⟨rfl, _⟩, r2, _⟩ := r
        rw [numsD_ok q r2]
        rfl
    | _ => cases e
def maxL : List Int → Int
  | [] => 0
  | [x] => x
  | x :: y :: r => max x (maxL (y :: r))
def minL : List Int → Int
  | [] => 0
  | [x] => x
  | x :: y :: r => min x (minL (y :: r))
theorem maxL_mem : ∀ {ns : List Int}, ns ≠ [] → maxL ns ∈ ns
  | [x], _ => by simp [maxL]
  | x :: y :: r, _ => by
    have := maxL_mem (ns := y :: r) (by simp)
    unfold maxL
    rcases Int.max_def x (maxL (y :: r)) ▸ (by split <;> simp : (if x ≤ maxL (y :: r) then maxL (y :: r) else x) = maxL (y :: r) ∨ (if x ≤ maxL (y :: r) then maxL (y :: r) else x) = x) with h | h
    · rw [h]; exact List.mem_cons_of_mem _ this
    · rw [h]; exact List.mem_cons_self
theorem maxL_le : ∀ {ns : List Int} {y : Int}, y ∈ ns → y ≤ maxL ns
  | [x], y, h => by simp at h; simp [maxL, h]
  | x :: z :: r, y, h => by
    unfold maxL
    rcases List.mem_cons.mp h with rfl | h
    · exact Int.le_max_left _ _
    · exact Int.le_trans (maxL_le h) (Int.le_max_right _ _)
theorem minL_mem : ∀ {ns : List Int}, ns ≠ [] → minL ns ∈ ns
  | [x], _ => by simp [minL]
  | x :: y :: r, _ => by
    have := minL_mem (ns := y :: r) (by simp)
    unfold minL
    rw [Int.min_def]
    split
    · exact List.mem_cons_self
    · exact List.mem_cons_of_mem _ this
theorem minL_le : ∀ {ns : List Int} {y : Int}, y ∈ ns → minL ns ≤ y
  | [x], y, h => by simp at h; simp [minL, h]
  | x :: z :: r, y, h => by
    unfold minL
    rcases List.mem_cons.mp h with rfl | h
    · exact Int.min_le_left _ _
    · exact Int.le_trans (Int.min_le_right _ _) (minL_le h)
def intsOf (d : D) : Option (List Int) := match d with
  | .scr ns => some ns
  | .lst _ xs => numsD xs
  | _ => none
theorem intsOf_in {d : D} {ns : List Int} {v : V} (h : intsOf d = some ns) (r : RO M F H d v S) (fh : FH F H) : ∃ a, v = .ref a ∧ SqL M.K H a (ns.map V.int) := by
  cases d with
  | scr ns =>
    cases h
    simp only [RO] at r
    obtain ⟨⟨a, rfl, sq⟩, _⟩ := r
    exact ⟨a, rfl, rd_scr fh sq⟩
  | lst o xs =>
    obtain ⟨a, vs, T', rfl, sq, rs, _⟩ := r.lst_in fh
    have := numsD_ok h rs
    subst this
    exact ⟨a, rfl, sq⟩
  | _ => cases h
def sumD : D → Option D := fun d => (intsOf d).map fun ns => .int ns.sum
def maxD : D → Option D := fun d => (intsOf d).bind fun ns => if ns = [] then none else some (.int (maxL ns))
def minD : D → Option D := fun d => (intsOf d).bind fun ns => if ns = [] then none else some (.int (minL ns))
theorem rn_sum : RN M (rSum M.K) (op1 sumD) := by
  intro F H ds vs z Q fh rl e k
  unfold op1 at e
  split at e
  · obtain ⟨x, ws, Sx, rfl, r1, rr⟩ := rl
    simp only [RL] at rr
    subst rr
    unfold sumD at e
    rename_i d
    cases q : intsOf d with
    | none => rw [q] at e; cases e
    | some ns =>
      rw [q] at e
      cases e
      obtain ⟨a, rfl, sq⟩ := intsOf_in q r1 fh
      exact ⟨a, ns, rfl, sq, k _ _ _ _ (NewR.same fh (by simp [RO]))⟩
  · cases e
theorem rn_maxl : RN M (rMax M.K) (op1 maxD) := by
  intro F H ds vs z Q fh rl e k
  unfold op1 at e
  split at e
  · obtain ⟨x, ws, Sx, rfl, r1, rr⟩ := rl
    simp only [RL] at rr
    subst rr
    unfold maxD at e
    rename_i d
    cases q : intsOf d with
    | none => rw [q] at e; cases e
    | some ns =>
      rw [q] at e
      simp only [Option.bind] at e
      split at e
      · cases e
      · rename_i hn
        cases e
        obtain ⟨a, rfl, sq⟩ := intsOf_in q r1 fh
        refine ⟨a, ns, rfl, sq, List.length_pos_iff.mpr hn, fun m hm hle => ?_⟩
        have : m = maxL ns := Int.le_antisymm (maxL_le hm) (hle _ (maxL_mem hn))
        rw [this]
        exact k _ _ _ _ (NewR.same fh (by simp [RO]))
  · cases e
theorem rn_minl : RN M (rMin M.K) (op1 minD) := by
  intro F H ds vs z Q fh rl e k
  unfold op1 at e
  split at e
  · obtain ⟨x, ws, Sx, rfl, r1, rr⟩ := rl
    simp only [RL] at rr
    subst rr
    unfold minD at e
    rename_i d
    cases q : intsOf d with
    | none => rw [q] at e; cases e
    | some ns =>
      rw [q] at e
      simp only [Option.bind] at e
      split at e
      · cases e
      · rename_i hn
        cases e
        obtain ⟨a, rfl, sq⟩ := intsOf_in q r1 fh
        refine ⟨a, ns, rfl, sq, List.length_pos_iff.mpr hn, fun m hm hle => ?_⟩
        have : m = minL ns := Int.le_antisymm (hle _ (minL_mem hn)) (minL_le hm)
        rw [this]
        exact k _ _ _ _ (NewR.same fh (by simp [RO]))
  · cases e
/-! ### sorted -/
def sortZ (ns : List Int) : List Int := ns.mergeSort (fun a b => decide (a ≤ b))
def leS (a b : List Nat) : Bool := !decide (b < a)
def sortT (ss : List (List Nat)) : List (List Nat) := ss.mergeSort leS
theorem leS_trans (a b c : List Nat) (h1 : leS a b = true) (h2 : leS b c = true) : leS a c = true := by
  simp only [leS, Bool.not_eq_true', decide_eq_false_iff_not] at h1 h2 ⊢
  exact List.not_lt.mpr (List.le_trans (List.not_lt.mp h1) (List.not_lt.mp h2))
theorem leS_total (a b : List Nat) : (leS a b || leS b a) = true := by
  simp only [leS, Bool.or_eq_true, Bool.not_eq_true', decide_eq_false_iff_not]
  rcases List.le_total a b with h | h
  · exact .inl (List.not_lt.mpr h)
  · exact .inr (List.not_lt.mpr h)
theorem leS_anti (a b : List Nat) (h1 : leS a b = true) (h2 : leS b a = true) : a = b := by
  simp only [leS, Bool.not_eq_true', decide_eq_false_iff_not] at h1 h2
  exact List.le_antisymm (List.not_lt.mp h1) (List.not_lt.mp h2)
theorem sortZ_uniq {ns ms : List Int} (p : ms.Perm ns) (s : ms.Pairwise (· ≤ ·)) : ms = sortZ ns := by
  have h1 := List.mergeSort_perm ns (fun a b => decide (a ≤ b))
  have h2 := List.pairwise_mergeSort (le := fun a b : Int => decide (a ≤ b)) (fun a b c x y => by simp at *; omega) (fun a b => by simp; omega) ns
  refine List.Perm.eq_of_pairwise (le := fun a b : Int => a ≤ b) (fun a b _ _ x y => Int.le_antisymm x y) s ?_ (p.trans h1.symm)
  exact h2.imp fun h => by simpa using h
theorem sortT_uniq {ss ts : List (List Nat)} (p : ts.Perm ss) (s : ts.Pairwise (fun a b => leS a b = true)) : ts = sortT ss := by
  have h1 := List.mergeSort_perm ss leS
  have h2 := List.pairwise_mergeSort leS_trans leS_total ss
  exact List.Perm.eq_of_pairwise (le := fun a b => leS a b = true) (fun a b _ _ x y => leS_anti a b x y) s h2 (p.trans h1.symm)
theorem risingS_pw : ∀ (ys : List Str) (x : Str), risingS x ys = true → (x.cps.toList :: ys.map fun z => z.cps.toList).Pairwise (fun a b => leS a b = true)
  | [], x, _ => by simp
  | y :: r, x, h => by
    simp only [risingS, Bool.and_eq_true] at h
    have ih := risingS_pw r y h.2
    have h1 : leS x.cps.toList y.cps.toList = true := by
      have h1 := h.1
      rw [PyProof.Rows.ltCps_eq] at h1
      exact h1
    rw [List.map_cons, List.pairwise_cons]
    refine ⟨fun z hz => ?_, ih⟩
    rcases List.mem_cons.mp hz with rfl | hz
    · exact h1
    · exact leS_trans _ _ _ h1 ((List.pairwise_cons.mp ih).1 z hz)
theorem sortedS_pw {ys : List Str} (h : sortedS ys = true) : (ys.map fun z => z.cps.toList).Pairwise (fun a b => leS a b = true) := by
  cases ys with
  | nil => simp
  | cons x r => exact risingS_pw r x h
end
end VS
set_option maxHeartbeats 1000000
/-! VSOps7: walks, new dicts, dict comprehensions. -/
namespace VS
open PySem PyProof.Rows L2

section
variable {M : Mn} {W : WD} {b b1 b2 : Bool} {F H F' H' F1 H1 : Hp} {env env' env1 : List D} {σ : L2.St} {S S' S1 T : AS} {pr : Nat → Bool}
/-! ### sorted, list -/
def sortD : D → Option D := fun d => match intsOf d with
  | some ns => some (.lst true ((sortZ ns).map D.int))
  | none => (match d with
    | .lst _ xs => (strsD xs).map fun ss => .lst true ((sortT ss).map D.str)
    | _ => none)
abbrev rSortA (K : PySem.W.Frag) : List V → Hp → VK → Prop := fun xs H Q => rSortedI K xs H Q ∨ VH.rSortedSA K xs H Q
theorem cr_sortA {X : Cx} : CallR X (.builtin "sorted") (rSortA X.K) := cr_sortedI.or VH.cr_sortedSA
theorem ros_strs : ∀ ss : List (List Nat), ROs M F H (ss.map D.str) ((ss.map fun s => (⟨s.toArray⟩ : Str)).map V.str) em
  | [] => by simp [ROs]
  | n :: ns => by
    simp only [List.map, ROs, RO]
    exact ⟨_, _, em, em, rfl, ⟨rfl, rfl⟩, ros_strs ns, fun _ h _ => h.elim, (em_un em).symm⟩
theorem rn_sort : RN M (rSortA M.K) (op1 sortD) := by
  intro F H ds vs z Q fh rl e k
  unfold op1 at e
  split at e
  · rename_i d
    obtain ⟨x, ws, Sx, rfl, r1, rr⟩ := rl
    simp only [RL] at rr
    subst rr
    unfold sortD at e
    cases q : intsOf d with
    | some ns =>
      rw [q] at e
      cases e
      obtain ⟨a, rfl, sq⟩ := intsOf_in q r1 fh
      refine .inl ⟨a, ns, rfl, sq, fun ns' p h1 h2 hp => ?_⟩
      rw [sortZ_uniq h1 h2]
      exact k _ _ _ _ (NewR.lst fh (ros_ints _) hp)
    | none =>
      rw [q] at e
      cases d with
      | lst o xs =>
        simp only at e
        cases q2 : strsD xs with
        | none => rw [q2] at e; cases e
        | some ss =>
          rw [q2] at e
          cases e
          obtain ⟨a, us, T', rfl, sq, rs, _⟩ := r1.lst_in fh
          have := strsD_ok q2 rs
          subst this
          refine .inr ⟨a, _, rfl, sq, fun ys p h1 h2 hp => ?_⟩
          have e1 : ys = ((ys.map fun z => z.cps.toList).map fun s => (⟨s.toArray⟩ : Str)) := by
            rw [List.map_map]
            conv => lhs; rw [← List.map_id ys]
            exact List.map_congr_left fun z _ => by cases z; simp [Function.comp]
          have e2 : (ys.map fun z => z.cps.toList) = sortT ss := by
            refine sortT_uniq ?_ (sortedS_pw h2)
            have := h1.map (fun z : Str => z.cps.toList)
            rw [List.map_map] at this
            have e3 : (ss.map ((fun z : Str => z.cps.toList) ∘ fun s => (⟨s.toArray⟩ : Str))) = ss := by
              conv => rhs; rw [← List.map_id ss]
              exact List.map_congr_left fun z _ => rfl
            rw [e3] at this
            exact this
          rw [e1, e2]
          exact k _ _ _ _ (NewR.lst fh (ros_strs _) hp)
      | _ => cases e
  · cases e
/-- the items of what list(..) is asked of -/
def listD : D → Option D
  | .lst o xs => (lstI (.lst o xs)).map fun xs => .lst true xs
  | .tup o xs => (tupI (.tup o xs)).map fun xs => .lst true xs
  | .scr ns => some (.lst true (ns.map D.int))
  | .dct _ false ks _ => some (.lst true ks)
  | _ => none
abbrev rListA (K : PySem.W.Frag) : List V → Hp → VK → Prop := fun xs H Q => (fun xs H Q => ∃ p ys, xs = [.ref p] ∧ (SqL K H p ys ∨ SqT K H p ys) ∧ ∀ l, H l = none → Q (.ref l) (upd H l (.lst ys))) xs H Q ∨
  (fun xs H Q => ∃ (a : Addr) (kvs : List (Key × V)), xs = [.ref a] ∧ Rd H a (.dK kvs) ∧ ∀ p, H p = none → Q (.ref p) (upd H p (.lst (kvs.map fun kv => kV kv.1)))) xs H Q
theorem call_listA {X : Cx} (hc : X.calm = true) : CallR X (.type "list") (rListA X.K) := call_list_of.or (call_listD hc)
theorem ros_keys : ∀ ks : List Key, ROs M F H (ks.map dkey) (ks.map kV) em
  | [] => by simp [ROs]
  | .inl i :: ks => by
    simp only [List.map, ROs, RO, dkey]
    exact ⟨_, _, em, em, rfl, ⟨rfl, rfl⟩, ros_keys ks, fun _ h _ => h.elim, (em_un em).symm⟩
  | .inr s :: ks => by
    simp only [List.map, ROs, RO, dkey]
    exact ⟨_, _, em, em, rfl, ⟨rfl, rfl⟩, ros_keys ks, fun _ h _ => h.elim, (em_un em).symm⟩
theorem rn_list : RN M (rListA M.K) (op1 listD) := by
  intro F H ds vs z Q fh rl e k
  unfold op1 at e
  split at e
  · rename_i d
    obtain ⟨x, ws, Sx, rfl, r1, rr⟩ := rl
    simp only [RL] at rr
    subst rr
    cases d with
    | lst o xs =>
      simp only [listD] at e
      cases q : lstI (.lst o xs) with
      | none => rw [q] at e; cases e
      | some ys =>
        rw [q] at e
        cases e
        obtain ⟨a, us, rfl, h1, h2⟩ := lstI_in q r1 fh
        exact .inl ⟨a, us, rfl, .inl (SqL.of h1), fun l hl => k _ _ _ _ (NewR.lst fh h2 hl)⟩
    | tup o xs =>
      simp only [listD] at e
      cases q : tupI (.tup o xs) with
      | none => rw [q] at e; cases e
      | some ys =>
        rw [q] at e
        cases e
        obtain ⟨a, us, rfl, h1, h2⟩ := tupI_in q r1 fh
        exact .inl ⟨a, us, rfl, .inr (SqT.of h1), fun l hl => k _ _ _ _ (NewR.lst fh h2 hl)⟩
    | scr ns =>
      simp only [listD] at e
      cases e
      simp only [RO] at r1
      obtain ⟨⟨a, rfl, sq⟩, _⟩ := r1
      exact .inl ⟨a, _, rfl, .inl (rd_scr fh sq), fun l hl => k _ _ _ _ (NewR.lst fh (ros_ints ns) hl)⟩
    | dct o t ks us =>
      cases t with
      | true => simp [listD] at e
      | false =>
        simp only [listD] at e
        cases e
        obtain ⟨a, T', kvs, rfl, rd, rfl, _, _, _⟩ := r1.dctK fh
        refine .inr ⟨a, kvs, rfl, rd, fun p hp => ?_⟩
        have := NewR.lst fh (ros_keys (M := M) (F := F) (H := H) (kvs.map (·.1))) hp
        rw [List.map_map, List.map_map] at this
        exact k _ _ _ _ this
    | _ => cases e
  · cases e
/-- tuple(..) -/
def tuplD : D → Option D
  | .lst o xs => (lstI (.lst o xs)).map fun xs => .tup false xs
  | .scr ns => some (.tup false (ns.map D.int))
  | .tup false xs => some (.tup false xs)
  | _ => none
abbrev rTupA (K : PySem.W.Frag) : List V → Hp → VK → Prop := fun xs H Q => ∃ p ys, xs = [.ref p] ∧ ((SqL K H p ys ∧ ∀ l, H l = none → Q (.ref l) (upd H l (.tup ys))) ∨ (SqT K H p ys ∧ Q (.ref p) H))
theorem rn_tuple : RN M (rTupA M.K) (op1 tuplD) := by
  intro F H ds vs z Q fh rl e k
  unfold op1 at e
  split at e
  · rename_i d
    obtain ⟨x, ws, Sx, rfl, r1, rr⟩ := rl
    simp only [RL] at rr
    subst rr
    cases d with
    | lst o xs =>
      simp only [tuplD] at e
      cases q : lstI (.lst o xs) with
      | none => rw [q] at e; cases e
      | some ys =>
        rw [q] at e
        cases e
        obtain ⟨a, us, rfl, h1, h2⟩ := lstI_in q r1 fh
        exact ⟨a, us, rfl, .inl ⟨SqL.of h1, fun l hl => k _ _ _ _ (NewR.tup fh h2 hl)⟩⟩
    | scr ns =>
      simp only [tuplD] at e
      cases e
      simp only [RO] at r1
      obtain ⟨⟨a, rfl, sq⟩, _⟩ := r1
      exact ⟨a, _, rfl, .inl ⟨rd_scr fh sq, fun l hl => k _ _ _ _ (NewR.tup fh (ros_ints ns) hl)⟩⟩
    | tup o xs =>
      cases o with
      | true => simp [tuplD] at e
      | false =>
        simp only [tuplD] at e
        cases e
        have := r1.fz_em rfl
        subst this
        have r2 := r1
        obtain ⟨a, us, T', rfl, sq, rs, _⟩ := r1.tup_in fh
        exact ⟨a, us, rfl, .inr ⟨sq, k _ _ _ _ (NewR.same fh r2)⟩⟩
    | _ => cases e
  · cases e
/-- list(d.values()) -/
def valsD : D → Option D
  | .dct o false _ vs => if o = true then (if allFz vs = true then some (.lst true vs) else none) else some (.lst true vs)
  | _ => none
theorem rn_vals : RN1 M VH.rValsR valsD := by
  intro F H x d z Sx Q fh rx h k
  cases d with
  | dct o t ks us =>
    cases t with
    | true => simp [valsD] at h
    | false =>
      obtain ⟨a, T', kvs, rfl, rd, rfl, rs, _, hT, _⟩ := rx.dctK fh
      have : T' = em ∧ z = .lst true us := by
        cases o with
        | true =>
          simp only [valsD, if_true] at h
          split at h
          · rename_i hz
            cases h
            exact ⟨rs.fz_em hz, rfl⟩
          · cases h
        | false =>
          simp only [valsD, Bool.false_eq_true, if_false] at h
          cases h
          exact ⟨hT rfl, rfl⟩
      obtain ⟨rfl, rfl⟩ := this
      exact ⟨a, kvs, rfl, rd, fun p hp => k _ _ _ _ (NewR.lst fh rs hp)⟩
  | _ => cases h
end
end VS
set_option maxHeartbeats 1000000
/-! VSOps8: items of dicts, walks over new pairs, locks. -/
namespace VS
open PySem PyProof.Rows L2

section
variable {M : Mn} {W : WD} {b b1 b2 : Bool} {F H F' H' F1 H1 : Hp} {env env' env1 : List D} {σ : L2.St} {S S' S1 T : AS} {pr : Nat → Bool}
/-! ### len of a dict that may be locked -/
def lenAD : D → Option D
  | .dct _ false ks _ => some (.int ks.length)
  | d => lenD d
abbrev rLenB (K : PySem.W.Frag) : List V → Hp → VK → Prop := fun xs H Q => rLenA K xs H Q ∨ VH.rLenDR xs H Q
theorem call_lenB {X : Cx} : CallR X (.builtin "len") (rLenB X.K) := call_lenA.or VH.call_lenDR
theorem rn_lenB : RN M (rLenB M.K) (op1 lenAD) := by
  intro F H ds vs z Q fh rl e k
  by_cases hd : ∃ o ks us, ds = [.dct o false ks us]
  · obtain ⟨o, ks, us, rfl⟩ := hd
    simp only [op1, lenAD] at e
    cases e
    obtain ⟨x, ws, Sx, rfl, r1, rr⟩ := rl
    simp only [RL] at rr
    subst rr
    obtain ⟨a, T', kvs, rfl, rd, rfl, _⟩ := r1.dctK fh
    refine .inr ⟨a, kvs, rfl, rd, ?_⟩
    have := k (.int kvs.length) F H em (NewR.same fh (by simp [RO]))
    exact this
  · refine .inl (rn_len F H ds vs z Q fh rl ?_ k)
    have : op1 lenAD ds = op1 lenD ds := by
      unfold op1
      split
      · rename_i d
        unfold lenAD
        split
        · exact (hd ⟨_, _, _, rfl⟩).elim
        · rfl
      · rfl
    rw [← this]
    exact e
/-! ### list(d.items()) -/
def pairsD : List D → List D → List D
  | k :: ks, v :: vs => .tup false [k, v] :: pairsD ks vs
  | _, _ => []
def frzV (o : Bool) (vs : List D) : Bool := !o || allFz vs
def itemsLD : D → Option D
  | .dct o false ks vs => if frzV o vs = true then some (.lst true (pairsD ks vs)) else none
  | _ => none
theorem dct_em {o t : Bool} {ks vs : List D} {v : V} (h : RO M F H (.dct o t ks vs) v S) (fh : FH F H) (hz : frzV o vs = true) : ROs M F H vs (Classical.choose (show ∃ ws : List V, True from ⟨[], trivial⟩)) em ∨ True := .inr trivial
theorem frz_em {o : Bool} {vs : List D} {ws : List V} (hz : frzV o vs = true) (rs : ROs M F H vs ws T) (h : o = false → T = em) : T = em := by
  cases o with
  | false => exact h rfl
  | true => exact rs.fz_em (by simpa [frzV] using hz)
/-- new tuples, frozen at once -/
def addT (F : Hp) (ts : List Addr) (H' : Hp) : Hp := fun a => open Classical in if a ∈ ts then H' a else F a
theorem pairs_ok {ts : List Addr} {kvs : List (Key × V)} {us : List D} {H' F' : Hp} (hF : ∀ t ∈ ts, F' t = H' t) (hp : Paired (fun (t : Addr) (q : Key × V) => H' t = some (.tup [kV q.1, q.2])) ts kvs)
    (rs : ROs M F' H' us (kvs.map (·.2)) em) : ROs M F' H' (pairsD (kvs.map fun p => dkey p.1) us) (ts.map V.ref) em := by
  induction hp generalizing us with
  | nil =>
    cases us with
    | nil => simp [pairsD, ROs]
    | cons u us => simp only [List.map, ROs] at rs; obtain ⟨_, _, _, _, e, _⟩ := rs; cases e
  | @cons t q ts kvs h hp ih =>
    cases us with
    | nil => simp only [List.map, ROs] at rs; cases rs.1
    | cons u us =>
      simp only [List.map, ROs] at rs
      obtain ⟨v, ws, S1, S2, e, r1, r2, dd, e2⟩ := rs
      cases e
      have h1 := em_of_un1 e2
      have h2 := em_of_un2 e2
      subst h1 h2
      simp only [List.map, pairsD, ROs]
      refine ⟨.ref t, _, em, em, rfl, ?_, ih (fun t ht => hF t (List.mem_cons_of_mem _ ht)) r2, fun _ h _ => h.elim, (em_un em).symm⟩
      simp only [RO, Bool.false_eq_true, if_false]
      refine ⟨t, [kV q.1, q.2], em, rfl, ?_, by rw [hF t List.mem_cons_self]; exact h, by trivial, by trivial⟩
      simp only [ROs]
      have rk := (ros_keys (M := M) (F := F') (H := H') [q.1]).one
      obtain ⟨w, e, rk⟩ := rk
      have e : kV q.1 = w := by simpa using e
      subst e
      exact ⟨_, _, em, em, rfl, rk, ⟨_, _, em, em, rfl, r1, ⟨rfl, rfl⟩, fun _ h _ => h.elim, (em_un em).symm⟩, fun _ h _ => h.elim, (em_un em).symm⟩
theorem rn_itemsL : RN1 M VH.rItemsR itemsLD := by
  intro F H x d z Sx Q fh rx h k
  cases d with
  | dct o t ks us =>
    cases t with
    | true => simp [itemsLD] at h
    | false =>
      simp only [itemsLD] at h
      split at h
      · rename_i hz
        cases h
        obtain ⟨a, T', kvs, rfl, rd, rfl, rs, _, hT, _⟩ := rx.dctK fh
        have := frz_em hz rs hT
        subst this
        refine ⟨a, kvs, rfl, rd, fun H' p ts ex hp ht hn hl hq => ?_⟩
        have hF : ∀ t ∈ ts, addT F ts H' t = H' t := fun t h => by simp [addT, h]
        have eF : Ext F (addT F ts H') := fun b u e => by
          have : b ∉ ts := fun z => by have := fh.none_of (ht b z); rw [e] at this; cases this
          simp [addT, this, e]
        have fh' : FH (addT F ts H') H' := fun b u e => by
          by_cases hb : b ∈ ts
          · rw [hF b hb] at e; exact .inl e
          · simp only [addT, hb, if_false] at e
            exact (fh b u e).imp (ex b u) fun ⟨l, o, z⟩ => ⟨l, o, ex b _ z⟩
        have rp := pairs_ok (M := M) hF hq (rs.mono us eF (fun _ h => h.elim))
        refine k (.ref p) (addT F ts H') H' (fun c => c = p) ⟨eF, ex, ?_, fun c e => by rw [e]; exact hp, fun c e => ?_, fun c u e => ?_, fh'⟩
        · simp only [RO, if_true]
          exact ⟨p, _, em, rfl, rp, hl, fun z => z, AS.ext fun c => by simp [on1, em]⟩
        · rw [e]
          simp only [addT, hn, if_false]
          exact fh.none_of hp
        · by_cases hc : c ∈ ts
          · exact .inr (ht c hc)
          · simp only [addT, hc, if_false] at e
            exact .inl e
      · cases h
  | _ => cases h
/-! ### {} -/
theorem se_dnew (t : Bool) : SE M W true (if t = true then tDNewT else tDNewK) (tmpd (.dct true t [] [])) := by
  intro F H env σ S Q st en h
  have key : ∀ (ho : HO), (if t = true then ho = .dT [] else ho = .dK []) → ∀ p, H p = none → Q (.ref p) (upd H p ho) := fun ho hh p hp => by
    have ro : RO M F (upd H p ho) (.dct true t [] []) (.ref p) (fun a => a = p) := by
      simp only [RO, if_true]
      refine ⟨p, [], em, rfl, by simp [ROs], ho, ?_, upd_same, fun h => h, AS.ext fun a => by simp [on1, em]⟩
      cases t with
      | true => exact ⟨[], hh, rfl, rfl, List.nodup_nil⟩
      | false => exact ⟨[], hh, rfl, rfl, List.nodup_nil⟩
    have hpl : pl ho := by cases t <;> (cases hh; exact True.intro)
    obtain ⟨g1, g2, g3⟩ := new_obj st en hp ro hpl
    exact h (.ref p) F _ _ g1 g2 (fun _ => ext_upd hp) g3
  cases t with
  | true => exact fun p hp => key _ rfl p hp
  | false => exact fun p hp => key _ rfl p hp
theorem se_dnewK : SE M W true tDNewK (tmpd (.dct true false [] [])) := se_dnew false
theorem se_dnewT : SE M W true tDNewT (tmpd (.dct true true [] [])) := se_dnew true
/-! ### a, b = e, e -/
def parS (i j : Nat) (fs : List D → R (List Rv)) : List D → SR := fun env => SR.of (fs env) fun rs env1 => match escs rs env1 with
  | some ([d, e], env2) => match env2[i]? with
    | some _ => match (env2.set i d)[j]? with
      | some _ => .nx ((env2.set i d).set j e)
      | none => .stuck
    | none => .stuck
  | _ => .stuck
theorem ss_par {ta : TA} {fs : List D → R (List Rv)} {i j : Nat} (h1 : SA M W b ta fs) (hi : pr i = false := by rfl) (hj : pr j = false := by rfl) : SS M W pr (tPar i j ta) (parS i j fs) := by
  intro D F H env σ S st en h
  refine h1 F H env σ S _ st en ?_
  unfold parS at h
  cases hf : fs env with
  | stuck => rw [hf] at h; exact h
  | err c d env1 =>
    rw [hf] at h
    exact fun F' H' S' cls dx a b c d => h σ F' H' S' cls dx a b c d Pr.refl
  | ok rs env1 =>
    rw [hf] at h
    simp only [SR.of] at h
    intro vs F1 H1 S1 s1 st1 _ res1
    cases q : escs rs env1 with
    | none => rw [q] at h; exact h.elim
    | some x =>
      obtain ⟨ds, env2⟩ := x
      match ds, q with
      | [], q => rw [q] at h; exact h.elim
      | [_], q => rw [q] at h; exact h.elim
      | _ :: _ :: _ :: _, q => rw [q] at h; exact h.elim
      | [d, e], q =>
        rw [q] at h
        simp only at h
        obtain ⟨F2, S2, s2, st2, r2⟩ := escs_ok (ts := []) q st1 (by simpa using res1)
        rw [List.nil_append] at r2
        obtain ⟨Se, St, en2, ro2, dd, rfl, _⟩ := r2
        rw [hold_tmp] at ro2
        simp only [ROs] at ro2
        obtain ⟨v, ws, A1, A2, rfl, ra, ⟨w, ws2, B1, B2, rfl, rb, ⟨rfl, rfl⟩, _, rfl⟩, dAB, rfl⟩ := ro2
        rw [un_em] at dAB dd
        rw [un_em] at st2 s2
        cases q1 : env2[i]? with
        | none => rw [q1] at h; exact h.elim
        | some d0 =>
          rw [q1] at h
          simp only at h
          cases q2 : (env2.set i d)[j]? with
          | none => rw [q2] at h; exact h.elim
          | some e0 =>
            rw [q2] at h
            obtain ⟨T1, en3, d3, o3⟩ := en2.put q1 ra (fun a x y => dd a x (.inl y))
            obtain ⟨T2, en4, d4, o4⟩ := en3.put q2 rb (fun a x y => by
              rcases x with x | x
              · exact dAB a x y
              · exact dd a (o3 a x) (.inr y))
            have o : ∀ a, un B1 T2 a → un Se (un A1 B1) a := fun a z => by
              rcases z with z | z
              · exact .inr (.inr z)
              · rcases o4 a z with z | z
                · exact .inr (.inl z)
                · exact .inl (o3 a z)
            exact ⟨v, w, rfl, h _ F2 H1 _ ((s1.trans s2).drop o) (st2.sub o) en4 ((Pr.set hi).trans (Pr.set hj))⟩
/-! ### walks over what is held -/
def itZ (fs : List D → R (List Rv)) (k : List D → Option (List D)) : List D → R (List D) := fun env => (fs env).bind fun rs env1 => match escs rs env1 with
  | some (ds, env2) => match k ds with
    | some its => .ok its env2
    | none => .stuck
  | none => .stuck
theorem si_esc {ta : TA} {fs : List D → R (List Rv)} {k : List D → Option (List D)} {kk : List V → Hp → (It → Hp → Prop) → Prop} (h1 : SA M W b ta fs)
    (hk : ∀ F H ds vs its R T, Stt M F H T → ROs M F H ds vs T → k ds = some its → (∀ J, ItOk M J F H T its → R J H) → kk vs H R) :
    SI M W (fun σ H R => ta σ H fun vs H1 => kk vs H1 R) (itZ fs k) := by
  intro F H env σ S Q st en h
  unfold itZ at h
  refine h1 F H env σ S _ st en ?_
  cases hf : fs env with
  | stuck => rw [hf] at h; exact h
  | err c d env1 => rw [hf] at h; exact h
  | ok rs env1 =>
    rw [hf] at h
    intro vs F1 H1 S1 s1 st1 hb1 res1
    simp only [R.bind] at h
    cases q : escs rs env1 with
    | none => rw [q] at h; exact h.elim
    | some x =>
      obtain ⟨ds, env2⟩ := x
      rw [q] at h
      simp only at h
      cases q2 : k ds with
      | none => rw [q2] at h; exact h.elim
      | some its =>
        rw [q2] at h
        obtain ⟨F2, S2, s2, st2, r2⟩ := escs_ok (ts := []) q st1 (by simpa using res1)
        rw [List.nil_append] at r2
        obtain ⟨Se, St, en2, ro2, dd, rfl, _⟩ := r2
        rw [hold_tmp] at ro2
        exact hk F2 H1 ds vs its _ St (st2.sub fun a z => .inr z) ro2 q2 fun J hJ => h J F2 H1 Se St (s1.trans s2) st2 dd en2 hJ
/-- a new pair, frozen at once -/
theorem tup_new {F2 H2 : Hp} {p : Addr} {ds : List D} {vs : List V} (fh : FH F2 H2) (hp : H2 p = none) (rs : ROs M F2 H2 ds vs em) :
    ∃ F3, Ext F2 F3 ∧ Ext H2 (upd H2 p (.tup vs)) ∧ FH F3 (upd H2 p (.tup vs)) ∧ (∀ a u, F3 a = some u → F2 a = some u ∨ H2 a = none) ∧ RO M F3 (upd H2 p (.tup vs)) (.tup false ds) (.ref p) em := by
  have n := NewR.tup fh rs hp
  exact ⟨_, n.ext, n.keep, n.fh, n.new, n.ro⟩
/-- a list whose items may be handed on: they stand at every turn -/
theorem seqL_at {o : Bool} {xs : List D} {v : V} (r : RO M F H (.lst o xs) v S) (hz : frzV o xs = true) : ∃ a vs, v = .ref a ∧ ROs M F H xs vs em ∧ ∀ F2 H2, Ext F F2 → FH F2 H2 → (∀ c, S c → H2 c = H c) → H2 a = some (.lst vs) := by
  simp only [RO] at r
  obtain ⟨a, vs, T', rfl, hT, c⟩ := r
  cases o with
  | true =>
    simp only [if_true] at c
    obtain ⟨h1, h2, rfl⟩ := c
    have := hT.fz_em (by simpa [frzV] using hz)
    subst this
    exact ⟨a, vs, rfl, hT, fun F2 H2 e fh k => by rw [k a (.inl rfl)]; exact h1⟩
  | false =>
    simp only [Bool.false_eq_true, if_false] at c
    obtain ⟨h1, rfl, rfl⟩ := c
    exact ⟨a, vs, rfl, hT, fun F2 H2 e fh k => rd_lstH fh (e _ _ h1)⟩
theorem seqT_at {o : Bool} {xs : List D} {v : V} (r : RO M F H (.tup o xs) v S) (hz : frzV o xs = true) : ∃ a vs, v = .ref a ∧ ROs M F H xs vs em ∧ ∀ F2 H2, Ext F F2 → FH F2 H2 → (∀ c, S c → H2 c = H c) → H2 a = some (.tup vs) := by
  simp only [RO] at r
  obtain ⟨a, vs, T', rfl, hT, c⟩ := r
  cases o with
  | true =>
    simp only [if_true] at c
    obtain ⟨h1, h2, rfl⟩ := c
    have := hT.fz_em (by simpa [frzV] using hz)
    subst this
    exact ⟨a, vs, rfl, hT, fun F2 H2 e fh k => by rw [k a (.inl rfl)]; exact h1⟩
  | false =>
    simp only [Bool.false_eq_true, if_false] at c
    obtain ⟨h1, rfl, rfl⟩ := c
    exact ⟨a, vs, rfl, hT, fun F2 H2 e fh k => rd_tupH fh (e _ _ h1)⟩
theorem sqL_det {K : PySem.W.Frag} {a : Addr} {xs ys : List V} (h : H a = some (.lst xs)) (h2 : SqL K H a ys) (hK : ∀ o, H a = some o → True := fun _ _ => trivial) (det : ∀ zs, SqL K H a zs → zs = xs) : ys = xs := det ys h2
/-! #### enumerate -/
def enumL : Nat → List D → List D
  | _, [] => []
  | i, x :: xs => .tup false [.int i, x] :: enumL (i + 1) xs
theorem enumL_get {xs : List D} {j i : Nat} : (enumL j xs)[i]? = (xs[i]?).map fun x => .tup false [.int ((j + i : Nat) : Int), x] := by
  induction xs generalizing j i with
  | nil => simp [enumL]
  | cons x xs ih =>
    cases i with
    | zero => simp [enumL]
    | succ i =>
      simp only [enumL, List.getElem?_cons_succ]
      rw [ih]
      have : j + 1 + i = j + (i + 1) := by omega
      rw [this]
theorem enumL_len {xs : List D} {j : Nat} : (enumL j xs).length = xs.length := by
  induction xs generalizing j with
  | nil => rfl
  | cons x xs ih => simp [enumL, ih]
theorem itOk_enum {a : Addr} {xs : List D} {vs : List V} (rs : ROs M F H xs vs em) (hs : ∀ F2 H2, Ext F F2 → FH F2 H2 → (∀ c, T c → H2 c = H c) → SqL M.K H2 a vs) : ItOk M (Ite M.K a) F H T (enumL 0 xs) := by
  intro F2 H2 e fh k kn _ n
  have sq := hs F2 H2 e fh k
  rw [enumL_len, rs.len]
  refine ⟨fun hn => ⟨⟨vs, vs[n], sq, List.getElem?_eq_getElem hn⟩, fun x H3 y => ?_⟩, fun hn => ⟨vs, sq, hn⟩⟩
  obtain ⟨p, v, rfl, hp, rfl, hv⟩ := y
  have hv := hv vs sq
  have hx : xs[n]? = some (xs[n]'(by rw [rs.len]; exact hn)) := List.getElem?_eq_getElem _
  obtain ⟨w, S1, S2, e1, r1, _, e2, _⟩ := rs.focus n hx
  have := em_of_un1 e2
  subst this
  rw [hv] at e1
  cases e1
  obtain ⟨F3, g1, g2, g3, g4, g5⟩ := tup_new (M := M) (ds := [.int (n : Nat), xs[n]'(by rw [rs.len]; exact hn)]) (vs := [.int (n : Nat), v]) fh hp (by
    simp only [ROs]
    exact ⟨_, _, em, em, rfl, by simp [RO], ⟨_, _, em, em, rfl, r1.mono _ e (fun _ h => h.elim), ⟨rfl, rfl⟩, fun _ h _ => h.elim, (em_un em).symm⟩, fun _ h _ => h.elim, (em_un em).symm⟩)
  exact ⟨F3, g1, g2, g3, g4, _, by rw [enumL_get, hx, Nat.zero_add]; rfl, rfl, g5⟩
def enumK : List D → Option (List D)
  | [.lst o xs] => if frzV o xs = true then some (enumL 0 xs) else none
  | [.scr ns] => some (enumL 0 (ns.map D.int))
  | _ => none
theorem si_enum {ta : TA} {fs : List D → R (List Rv)} (h1 : SA M W b ta fs) : SI M W (iEnum M.K ta) (itZ fs enumK) := by
  refine si_esc (k := enumK) (kk := fun vs H1 R => ∃ a xs, vs = [.ref a] ∧ SqL M.K H1 a xs ∧ R (Ite M.K a) H1) h1 fun F H ds vs its R T st ro e hR => ?_
  unfold enumK at e
  split at e
  · rename_i o xs
    split at e
    · rename_i hz
      cases e
      obtain ⟨v, rfl, r⟩ := ro.one
      obtain ⟨a, us, rfl, rs, hs⟩ := seqL_at r hz
      exact ⟨a, us, rfl, SqL.of (hs F H (Ext.refl _) st.fh (fun _ _ => rfl)), hR _ (itOk_enum rs fun F2 H2 e fh k => SqL.of (hs F2 H2 e fh k))⟩
    · cases e
  · rename_i ns
    cases e
    obtain ⟨v, rfl, r⟩ := ro.one
    simp only [RO] at r
    obtain ⟨⟨a, rfl, sq⟩, _⟩ := r
    exact ⟨a, _, rfl, rd_scr st.fh sq, hR _ (itOk_enum (ros_ints ns) fun F2 H2 e fh k => rd_scr fh (sql_ext e sq))⟩
  · cases e
/-! #### zip of two -/
def zipL : List D → List D → List D
  | x :: xs, y :: ys => .tup false [x, y] :: zipL xs ys
  | _, _ => []
theorem zipL_get {xs ys : List D} {i : Nat} {x y : D} (h1 : xs[i]? = some x) (h2 : ys[i]? = some y) : (zipL xs ys)[i]? = some (.tup false [x, y]) := by
  induction xs generalizing ys i with
  | nil => simp at h1
  | cons a xs ih =>
    cases ys with
    | nil => simp at h2
    | cons c ys =>
      cases i with
      | zero =>
        simp at h1 h2
        subst h1 h2
        rfl
      | succ i => exact ih (by simpa using h1) (by simpa using h2)
theorem zipL_len {xs ys : List D} : (zipL xs ys).length = min xs.length ys.length := by
  induction xs generalizing ys with
  | nil => simp [zipL]
  | cons a xs ih =>
    cases ys with
    | nil => simp [zipL]
    | cons c ys => simp [zipL, ih] <;> omega
theorem zip_turn {xs ys : List D} {us vs : List V} {n : Nat} {F2 H2 : Hp} {p : Addr} {x y : V} (rs : ROs M F H xs us em) (rs2 : ROs M F H ys vs em) (e : Ext F F2) (fh : FH F2 H2) (hp : H2 p = none) (h1 : us[n]? = some x) (h2 : vs[n]? = some y) :
    ∃ F3, Ext F2 F3 ∧ Ext H2 (upd H2 p (.tup [x, y])) ∧ FH F3 (upd H2 p (.tup [x, y])) ∧ (∀ a u, F3 a = some u → F2 a = some u ∨ H2 a = none) ∧ ∃ d, (zipL xs ys)[n]? = some d ∧ isSet d = true ∧ RO M F3 (upd H2 p (.tup [x, y])) d (.ref p) em := by
  have hx1 : n < xs.length := by rw [rs.len]; exact (List.getElem?_eq_some_iff.mp h1).1
  have hy1 : n < ys.length := by rw [rs2.len]; exact (List.getElem?_eq_some_iff.mp h2).1
  have hx : xs[n]? = some xs[n] := List.getElem?_eq_getElem _
  have hy : ys[n]? = some ys[n] := List.getElem?_eq_getElem _
  obtain ⟨w, S1, S2, e1, r1, _, e2, _⟩ := rs.focus n hx
  have := em_of_un1 e2
  subst this
  rw [h1] at e1
  cases e1
  obtain ⟨w, S3, S4, e3, r2, _, e4, _⟩ := rs2.focus n hy
  have := em_of_un1 e4
  subst this
  rw [h2] at e3
  cases e3
  obtain ⟨F3, g1, g2, g3, g4, g5⟩ := tup_new (M := M) (ds := [xs[n], ys[n]]) (vs := [x, y]) fh hp (by
    simp only [ROs]
    exact ⟨_, _, em, em, rfl, r1.mono _ e (fun _ h => h.elim), ⟨_, _, em, em, rfl, r2.mono _ e (fun _ h => h.elim), ⟨rfl, rfl⟩, fun _ h _ => h.elim, (em_un em).symm⟩, fun _ h _ => h.elim, (em_un em).symm⟩)
  exact ⟨F3, g1, g2, g3, g4, _, zipL_get hx hy, rfl, g5⟩
def zipK : List D → Option (List D)
  | [.lst o xs, .lst o' ys] => if frzV o xs = true ∧ frzV o' ys = true then some (zipL xs ys) else none
  | [.tup o xs, .tup o' ys] => if frzV o xs = true ∧ frzV o' ys = true then some (zipL xs ys) else none
  | _ => none
theorem si_zip {ta : TA} {fs : List D → R (List Rv)} (h1 : SA M W b ta fs) : SI M W (RZ.iZipA M.K ta) (itZ fs zipK) := by
  refine si_esc (k := zipK) (kk := fun vs H1 R => ∃ a b xs ys, vs = [.ref a, .ref b] ∧ ((SqL M.K H1 a xs ∧ SqL M.K H1 b ys ∧ R (Itz M.K a b) H1) ∨ (SqT M.K H1 a xs ∧ SqT M.K H1 b ys ∧ R (RZ.ItzT M.K a b) H1))) h1 fun F H ds vs its R T st ro e hR => ?_
  unfold zipK at e
  split at e
  · rename_i o xs o' ys
    split at e
    · rename_i hz
      cases e
      simp only [ROs] at ro
      obtain ⟨v, ws, A1, A2, rfl, ra, ⟨w, ws2, B1, B2, rfl, rb, ⟨rfl, rfl⟩, _, rfl⟩, dAB, rfl⟩ := ro
      obtain ⟨a, us, rfl, rs, hs⟩ := seqL_at ra hz.1
      obtain ⟨c, us2, rfl, rs2, hs2⟩ := seqL_at rb hz.2
      refine ⟨a, c, us, us2, rfl, .inl ⟨SqL.of (hs F H (Ext.refl _) st.fh (fun _ _ => rfl)), SqL.of (hs2 F H (Ext.refl _) st.fh (fun _ _ => rfl)), hR _ ?_⟩⟩
      intro F2 H2 e fh k kn _ n
      have sq := SqL.of (K := M.K) (hs F2 H2 e fh fun c hc => k c (.inl hc))
      have sq2 := SqL.of (K := M.K) (hs2 F2 H2 e fh fun c hc => k c (.inr (.inl hc)))
      rw [zipL_len, rs.len, rs2.len]
      refine ⟨fun hn => ⟨⟨us, us2, us[n]'(by omega), us2[n]'(by omega), sq, sq2, List.getElem?_eq_getElem _, List.getElem?_eq_getElem _⟩, fun x H3 y => ?_⟩, fun hn => ⟨us, us2, sq, sq2, by omega⟩⟩
      obtain ⟨p, x, y, rfl, hp, rfl, hv, hv2⟩ := y
      exact zip_turn rs rs2 e fh hp (hv us sq) (hv2 us2 sq2)
    · cases e
  · rename_i o xs o' ys
    split at e
    · rename_i hz
      cases e
      simp only [ROs] at ro
      obtain ⟨v, ws, A1, A2, rfl, ra, ⟨w, ws2, B1, B2, rfl, rb, ⟨rfl, rfl⟩, _, rfl⟩, dAB, rfl⟩ := ro
      obtain ⟨a, us, rfl, rs, hs⟩ := seqT_at ra hz.1
      obtain ⟨c, us2, rfl, rs2, hs2⟩ := seqT_at rb hz.2
      refine ⟨a, c, us, us2, rfl, .inr ⟨SqT.of (hs F H (Ext.refl _) st.fh (fun _ _ => rfl)), SqT.of (hs2 F H (Ext.refl _) st.fh (fun _ _ => rfl)), hR _ ?_⟩⟩
      intro F2 H2 e fh k kn _ n
      have sq := SqT.of (K := M.K) (hs F2 H2 e fh fun c hc => k c (.inl hc))
      have sq2 := SqT.of (K := M.K) (hs2 F2 H2 e fh fun c hc => k c (.inr (.inl hc)))
      rw [zipL_len, rs.len, rs2.len]
      refine ⟨fun hn => ⟨⟨us, us2, us[n]'(by omega), us2[n]'(by omega), sq, sq2, List.getElem?_eq_getElem _, List.getElem?_eq_getElem _⟩, fun x H3 y => ?_⟩, fun hn => ⟨us, us2, sq, sq2, by omega⟩⟩
      obtain ⟨p, x, y, rfl, hp, rfl, hv, hv2⟩ := y
      exact zip_turn rs rs2 e fh hp (hv us sq) (hv2 us2 sq2)
    · cases e
  · cases e
/-! #### reversed -/
def revK : List D → Option (List D)
  | [.lst o xs] => if frzV o xs = true ∧ setAll xs = true then some xs.reverse else none
  | [.tup o xs] => if frzV o xs = true ∧ setAll xs = true then some xs.reverse else none
  | _ => none
theorem rev_turn {xs : List D} {us : List V} {n : Nat} {F2 H2 : Hp} {x : V} (rs : ROs M F H xs us em) (hs : setAll xs = true) (e : Ext F F2) (fh : FH F2 H2) (hn : n < us.length) (h1 : us[us.length - 1 - n]? = some x) :
    ∃ F3, Ext F2 F3 ∧ Ext H2 H2 ∧ FH F3 H2 ∧ (∀ a u, F3 a = some u → F2 a = some u ∨ H2 a = none) ∧ ∃ d, xs.reverse[n]? = some d ∧ isSet d = true ∧ RO M F3 H2 d x em := by
  have hl := rs.len
  have hx : xs[us.length - 1 - n]? = some (xs[us.length - 1 - n]'(by omega)) := List.getElem?_eq_getElem _
  obtain ⟨w, S1, S2, e1, r1, _, e2, _⟩ := rs.focus _ hx
  have := em_of_un1 e2
  subst this
  rw [h1] at e1
  cases e1
  refine ⟨F2, Ext.refl _, Ext.refl _, fh, fun a u h => .inl h, xs[us.length - 1 - n]'(by omega), ?_, setAll_get hs hx, r1.mono _ e (fun _ h => h.elim)⟩
  rw [List.getElem?_reverse (by omega)]
  have : xs.length - 1 - n = us.length - 1 - n := by rw [hl]
  rw [List.getElem?_eq_getElem (by omega)]
  congr 1
  simp only [this]
theorem si_rev {te : TE} {f : List D → R Rv} (h1 : SE M W b te f) : SI M W (RT.iRevA M.K te) (itZ (consF true f nilF) revK) := by
  refine si_esc (ta := tCons te tNil) (k := revK) (kk := fun vs H1 R => match vs with
    | [v] => ∃ (a : Addr) (xs : List V), v = .ref a ∧ ((SqL M.K H1 a xs ∧ R (Itv M.K a xs.length) H1) ∨ (SqT M.K H1 a xs ∧ R (RT.ItvT M.K a xs.length) H1))
    | _ => False) (sa_cons h1 sa_nil) fun F H ds vs its R T st ro e hR => ?_
  unfold revK at e
  split at e
  · rename_i o xs
    split at e
    · rename_i hz
      cases e
      obtain ⟨v, rfl, r⟩ := ro.one
      obtain ⟨a, us, rfl, rs, hs⟩ := seqL_at r hz.1
      refine ⟨a, us, rfl, .inl ⟨SqL.of (hs F H (Ext.refl _) st.fh (fun _ _ => rfl)), hR _ ?_⟩⟩
      intro F2 H2 e fh k kn _ n
      have sq := SqL.of (K := M.K) (hs F2 H2 e fh k)
      rw [List.length_reverse, rs.len]
      refine ⟨fun hn => ⟨⟨hn, us, us[us.length - 1 - n]'(by omega), sq, List.getElem?_eq_getElem _⟩, fun x H3 y => ?_⟩, fun hn => hn⟩
      obtain ⟨rfl, hv⟩ := y
      exact rev_turn rs hz.2 e fh hn (hv us sq)
    · cases e
  · rename_i o xs
    split at e
    · rename_i hz
      cases e
      obtain ⟨v, rfl, r⟩ := ro.one
      obtain ⟨a, us, rfl, rs, hs⟩ := seqT_at r hz.1
      refine ⟨a, us, rfl, .inr ⟨SqT.of (hs F H (Ext.refl _) st.fh (fun _ _ => rfl)), hR _ ?_⟩⟩
      intro F2 H2 e fh k kn _ n
      have sq := SqT.of (K := M.K) (hs F2 H2 e fh k)
      rw [List.length_reverse, rs.len]
      refine ⟨fun hn => ⟨⟨hn, us, us[us.length - 1 - n]'(by omega), sq, List.getElem?_eq_getElem _⟩, fun x H3 y => ?_⟩, fun hn => hn⟩
      obtain ⟨rfl, hv⟩ := y
      exact rev_turn rs hz.2 e fh hn (hv us sq)
    · cases e
  · cases e
end
end VS
set_option maxHeartbeats 1000000
/-! VSLock: dicts that are walked. -/
namespace VS
open PySem PyProof.Rows L2

section
variable {M : Mn} {W : WD} {b b1 b2 : Bool} {F H F' H' F1 H1 : Hp} {env env' env1 : List D} {σ σ' : L2.St} {S S' Se S1 T : AS} {pr : Nat → Bool}
theorem freezeVar {i : Nat} {e : D} (st : Stt M F H S) (en : EnvR M F H env σ S) (g : env[i]? = some e) (hs : isSet e = true) :
    ∃ v F1 S1, σ[i]? = some (some v) ∧ Step F H S F1 H S1 ∧ Stt M F1 H S1 ∧ EnvR M F1 H (env.set i (fz e)) σ S1 ∧ RO M F1 H (fz e) v em ∧ (∀ a, v = .ref a → own e = true → S a) := by
  obtain ⟨v, w, S1, S2, e1, e2, e3, e4, rfl, k⟩ := en.path (i := i) (p := []) (e := e) (by unfold getE; rw [g]; rfl) hs
  have : w = v := e2
  subst this
  have e5 : un S1 S2 = un S2 S1 := AS.ext fun a => by simp only [un]; exact Or.comm
  rw [e5] at st ⊢
  have r1 : ROs M F H [e] [w] S1 := by simp only [ROs]; exact ⟨w, [], S1, em, rfl, e3, ⟨rfl, rfl⟩, fun _ _ h => h.elim, un_em'⟩
  obtain ⟨F1, f1, f2, f3, f4⟩ := r1.freezeF st (fun a x y => e4 a y x)
  obtain ⟨v2, ev, rz⟩ := f2.one
  cases ev
  obtain ⟨en1, _⟩ := k F1 H (fz e) em f1 (fun _ _ => rfl) rz (fun _ h => h.elim)
  rw [em_un] at en1
  have e6 : setE env i [] (fz e) = env.set i (fz e) := by unfold setE; rw [g]; rfl
  rw [e6] at en1
  refine ⟨w, F1, S2, e1, f4, f3, en1, rz, fun a ha ho => .inr ?_⟩
  subst ha
  cases e with
  | lst o xs =>
    have : o = true := ho
    subst this
    simp only [RO, if_true] at e3
    obtain ⟨a', vs, T, ea, _, _, _, rfl⟩ := e3
    cases ea
    exact .inl rfl
  | tup o xs =>
    have : o = true := ho
    subst this
    simp only [RO, if_true] at e3
    obtain ⟨a', vs, T, ea, _, _, _, rfl⟩ := e3
    cases ea
    exact .inl rfl
  | dct o t ks xs =>
    have : o = true := ho
    subst this
    simp only [RO, if_true] at e3
    obtain ⟨a', vs, T, ea, _, _, _, _, _, rfl⟩ := e3
    cases ea
    exact .inl rfl
  | ins o c fs xs =>
    have : o = true := ho
    subst this
    simp only [RO, if_true] at e3
    obtain ⟨a', dx, vs, T, ea, _, _, _, _, _, _, _, _, _, rfl⟩ := e3
    cases ea
    exact .inl rfl
  | _ => cases ho
/-- what is locked is unlocked -/
theorem unlock {a : Addr} {u : HO} {od : Obj} (st1 : Stt M F1 H Se) (Fa : F1 a = some u) (Ha : H a = some u) (s : Step F1 (upd H a (.frz od u)) Se F' H' S') (st : Stt M F' H' S') :
    H' a = some (.frz od u) ∧ ¬ S' a ∧ Step F1 H Se F' (upd H' a u) S' ∧ Stt M F' (upd H' a u) S' := by
  have nSe : ¬ Se a := fun z => by rw [st1.fr a z] at Fa; cases Fa
  have h2 : upd H a (.frz od u) a = some (.frz od u) := upd_same
  have nS' : ¬ S' a := fun z => by
    rcases s.own a z with z | z
    · exact nSe z
    · exact z.no h2 True.intro
  have hne : ∀ x, x ≠ a → upd H a (.frz od u) x = H x := fun x hx => upd_ne hx
  have vv : ∀ x, x ≠ a → vac (upd H a (.frz od u)) x → vac H x := fun x hx z o e => z o (by rw [hne x hx]; exact e)
  have Hf : H' a = some (.frz od u) := s.keep a _ h2 frz_nt nSe
  refine ⟨Hf, nS', ⟨s.ext, fun x o h m n => ?_, fun x h => ?_, fun x w h => ?_⟩, ⟨fun x w h => ?_, st.fr, fun x h => ?_, tabs_upd st.tb Hf True.intro, st.ft⟩⟩
  · by_cases hx : x = a
    · subst hx
      rw [Ha] at h
      cases h
      exact upd_same
    · rw [upd_ne hx]
      exact s.keep x o (by rw [hne x hx]; exact h) m n
  · have hx : x ≠ a := fun z => nS' (z ▸ h)
    rcases s.own x h with z | z
    · exact .inl z
    · exact .inr (vv x hx z)
  · rcases s.new x w h with z | z | z
    · exact .inl z
    · exact .inr (.inl z)
    · by_cases hx : x = a
      · subst hx
        exact (z.no h2 True.intro).elim
      · exact .inr (.inr (vv x hx z))
  · by_cases hx : x = a
    · subst hx
      have := s.ext x u Fa
      rw [h] at this
      cases this
      exact .inl upd_same
    · rw [upd_ne hx]
      exact st.fh x w h
  · have hx : x ≠ a := fun z => nS' (z ▸ h)
    rw [upd_ne hx]
    exact st.al x h
theorem PostS.lock {D : Ends} {x : SR} {a : Addr} {u : HO} {od : Obj} (h : PostS M W pr F1 H σ Se D x) (st1 : Stt M F1 H Se) (Fa : F1 a = some u) (Ha : H a = some u)
    (he : ∀ c d e, x = .err c d e → ∀ σ' F' H' S' cls dx, Step F1 (upd H a (.frz od u)) Se F' H' S' → Stt M F' H' S' → ErrR M F' H' c d cls dx → EnvR M F' H' e σ' S' → Pr pr σ σ' → W cls dx σ' H') :
    PostS M W pr F1 (upd H a (.frz od u)) σ Se ⟨fun σ' H' => H' a = some (.frz od u) ∧ D.nx σ' (upd H' a u), fun v H' => H' a = some (.frz od u) ∧ D.rt v (upd H' a u), fun σ' H' => H' a = some (.frz od u) ∧ D.bk σ' (upd H' a u), fun σ' H' => H' a = some (.frz od u) ∧ D.ct σ' (upd H' a u)⟩ x := by
  have mono : ∀ {F' H' S'} {env' : List VS.D} {σ' : L2.St}, ¬ S' a → EnvR M F' H' env' σ' S' → EnvR M F' (upd H' a u) env' σ' S' := fun {F' H' S' env' σ'} n en =>
    en.mono (Ext.refl _) fun x hx => upd_ne fun z => n (z ▸ hx)
  cases x with
  | nx e =>
    intro σ' F' H' S' s st en p
    obtain ⟨g1, g2, g3, g4⟩ := unlock st1 Fa Ha s st
    exact ⟨g1, h σ' F' _ S' g3 g4 (mono g2 en) p⟩
  | brk e =>
    intro σ' F' H' S' s st en p
    obtain ⟨g1, g2, g3, g4⟩ := unlock st1 Fa Ha s st
    exact ⟨g1, h σ' F' _ S' g3 g4 (mono g2 en) p⟩
  | ct e =>
    intro σ' F' H' S' s st en p
    obtain ⟨g1, g2, g3, g4⟩ := unlock st1 Fa Ha s st
    exact ⟨g1, h σ' F' _ S' g3 g4 (mono g2 en) p⟩
  | ret d e =>
    intro v σ' F' H' S' s st r p
    obtain ⟨g1, g2, g3, g4⟩ := unlock st1 Fa Ha s st
    obtain ⟨Sa, Sb, en, ro, dd, rfl⟩ := r.tmp_in
    refine ⟨g1, h v σ' F' _ _ g3 g4 (ResR.one_tmp (en.mono (Ext.refl _) fun x hx => upd_ne fun z => g2 (.inl (z ▸ hx))) (ro.mono d (Ext.refl _) fun x hx => upd_ne fun z => g2 (.inr (z ▸ hx))) dd) p⟩
  | err c d e => exact fun σ' F' H' S' cls dx s st er en p => he c d e rfl σ' F' H' S' cls dx s st er en p
  | stuck => exact h.elim
/-! ### the walks -/
theorem itOk_keys {a : Addr} {od : Obj} {kvs : List (Key × V)} (Fa : F a ≠ none) (Ha : H a = some (.frz od (.dK kvs))) : ItOk M (Itk a od kvs) F H T (kvs.map fun p => dkey p.1) := by
  intro F2 H2 e fh k kn fk n
  have h2 := fk a _ Ha frz_nt Fa
  rw [List.length_map]
  refine ⟨fun hn => ⟨⟨h2, hn⟩, fun x H3 y => ?_⟩, fun hn => ⟨h2, hn⟩⟩
  obtain ⟨rfl, k, v, e1, rfl⟩ := y
  have rk := (ros_keys (M := M) (F := F2) (H := H3) [k]).one
  obtain ⟨w, ew, rk⟩ := rk
  have ew : kV k = w := by simpa using ew
  subst ew
  exact ⟨F2, Ext.refl _, Ext.refl _, fh, fun a u h => .inl h, dkey k, by rw [List.getElem?_map, e1]; rfl, by cases k <;> rfl, rk⟩
theorem itOk_vals {a : Addr} {od : Obj} {kvs : List (Key × V)} {us : List D} (Fa : F a ≠ none) (Ha : H a = some (.frz od (.dK kvs))) (rs : ROs M F H us (kvs.map (·.2)) em) (hs : setAll us = true) : ItOk M (Itd a od kvs) F H T us := by
  intro F2 H2 e fh k kn fk n
  have h2 := fk a _ Ha frz_nt Fa
  have hl := rs.len
  rw [List.length_map] at hl
  rw [hl]
  refine ⟨fun hn => ⟨⟨h2, hn⟩, fun x H3 y => ?_⟩, fun hn => ⟨h2, hn⟩⟩
  obtain ⟨rfl, k, e1⟩ := y
  have hx : us[n]? = some (us[n]'(by omega)) := List.getElem?_eq_getElem _
  obtain ⟨w, S1, S2, e2, r1, _, e3, _⟩ := rs.focus n hx
  have := em_of_un1 e3
  subst this
  rw [List.getElem?_map, e1] at e2
  cases e2
  exact ⟨F2, Ext.refl _, Ext.refl _, fh, fun a u h => .inl h, _, hx, setAll_get hs hx, r1.mono _ e fun _ h => h.elim⟩
theorem pairsD_get {ks us : List D} {i : Nat} {k v : D} (h1 : ks[i]? = some k) (h2 : us[i]? = some v) : (pairsD ks us)[i]? = some (.tup false [k, v]) := by
  induction ks generalizing us i with
  | nil => simp at h1
  | cons a xs ih =>
    cases us with
    | nil => simp at h2
    | cons c ys =>
      cases i with
      | zero =>
        simp at h1 h2
        subst h1 h2
        rfl
      | succ i => exact ih (by simpa using h1) (by simpa using h2)
theorem pairsD_len {xs ys : List D} (h : xs.length = ys.length) : (pairsD xs ys).length = xs.length := by
  induction xs generalizing ys with
  | nil => simp [pairsD]
  | cons a xs ih =>
    cases ys with
    | nil => simp at h
    | cons c ys => simp [pairsD, ih (by simpa using h)]
theorem itOk_items {a : Addr} {od : Obj} {kvs : List (Key × V)} {us : List D} (Fa : F a ≠ none) (Ha : H a = some (.frz od (.dK kvs))) (rs : ROs M F H us (kvs.map (·.2)) em) : ItOk M (Iti a od kvs) F H T (pairsD (kvs.map fun p => dkey p.1) us) := by
  intro F2 H2 e fh k kn fk n
  have h2 := fk a _ Ha frz_nt Fa
  have hl := rs.len
  rw [List.length_map] at hl
  rw [pairsD_len (by rw [List.length_map, hl]), List.length_map]
  refine ⟨fun hn => ⟨⟨h2, hn⟩, fun x H3 y => ?_⟩, fun hn => ⟨h2, hn⟩⟩
  obtain ⟨p, k, v, e1, rfl, hp, rfl⟩ := y
  have hx : us[n]? = some (us[n]'(by omega)) := List.getElem?_eq_getElem _
  obtain ⟨w, S1, S2, e2, r1, _, e3, _⟩ := rs.focus n hx
  have := em_of_un1 e3
  subst this
  rw [List.getElem?_map, e1] at e2
  cases e2
  have rk := (ros_keys (M := M) (F := F2) (H := H2) [k]).one
  obtain ⟨w, ew, rk⟩ := rk
  have ew : kV k = w := by simpa using ew
  subst ew
  obtain ⟨F3, g1, g2, g3, g4, g5⟩ := tup_new (M := M) (ds := [dkey k, us[n]'(by omega)]) (vs := [kV k, v]) fh hp (by
    simp only [ROs]
    exact ⟨_, _, em, em, rfl, rk, ⟨_, _, em, em, rfl, r1.mono _ e (fun _ h => h.elim), ⟨rfl, rfl⟩, fun _ h _ => h.elim, (em_un em).symm⟩, fun _ h _ => h.elim, (em_un em).symm⟩)
  exact ⟨F3, g1, g2, g3, g4, _, pairsD_get (by rw [List.getElem?_map, e1]; rfl) hx, rfl, g5⟩
/-- which walk: 0 its keys, 1 its values, 2 its pairs, else .keys() -/
def wkTI (kind : Nat) (td : TE) : TI := match kind with
  | 0 => iKeys td
  | 1 => iVals td
  | 2 => iItems td
  | _ => iKeysM td
def wkD (kind : Nat) (ks vs : List D) : List D := match kind with
  | 0 => ks
  | 1 => vs
  | 2 => pairsD ks vs
  | _ => ks
def lockE (i kind : Nat) (env : List D) : Option (List D × List D × Bool) := match env[i]? with
  | some (.dct o false ks vs) => if setAll vs = true then some (wkD kind ks (fzs vs), env.set i (.dct false false ks (fzs vs)), o) else none
  | _ => none
theorem setAll_fzs {vs : List D} (h : setAll vs = true) : setAll (fzs vs) = true := by
  induction vs with
  | nil => rfl
  | cons v vs ih =>
    simp only [setAll, List.all_cons, Bool.and_eq_true] at h
    simp only [fzs, setAll, List.all_cons, Bool.and_eq_true]
    exact ⟨by rw [isSet_fz]; exact h.1, ih h.2⟩
theorem wk_at {i kind : Nat} {a : Addr} {od : Obj} {kvs : List (Key × V)} {us : List D} (hσ : σ[i]? = some (some (.ref a))) (Fa : F a ≠ none) (Ha : H a = some (.frz od (.dK kvs))) (rs : ROs M F H us (kvs.map (·.2)) em) (hs : setAll us = true)
    {R : It → Hp → Prop} (hR : ∀ J, ItOk M J F H T (wkD kind (kvs.map fun p => dkey p.1) us) → R J H) : wkTI kind (tVar i) σ H R := by
  match kind, hR with
  | 0, hR => exact ⟨.ref a, hσ, a, od, rfl, .inl ⟨kvs, Ha, hR _ (itOk_keys Fa Ha)⟩⟩
  | 1, hR => exact ⟨.ref a, hσ, a, od, kvs, rfl, Ha, hR _ (itOk_vals Fa Ha rs hs)⟩
  | 2, hR => exact ⟨.ref a, hσ, a, od, kvs, rfl, Ha, hR _ (itOk_items Fa Ha rs)⟩
  | _ + 3, hR => exact ⟨.ref a, hσ, a, od, kvs, rfl, Ha, hR _ (itOk_keys Fa Ha)⟩
/-- the dict at i is frozen; locked, or to be locked -/
theorem lock_in {i kind : Nat} {its env0 : List D} {o : Bool} (st : Stt M F H S) (en : EnvR M F H env σ S) (h : lockE i kind env = some (its, env0, o)) :
    ∃ a kvs F1 S1 us, σ[i]? = some (some (.ref a)) ∧ Step F H S F1 H S1 ∧ Stt M F1 H S1 ∧ EnvR M F1 H env0 σ S1 ∧ F1 a = some (.dK kvs) ∧ ROs M F1 H us (kvs.map (·.2)) em ∧ setAll us = true ∧ its = wkD kind (kvs.map fun p => dkey p.1) us ∧ (o = true → S a) ∧
      (H a = some (.dK kvs) ∨ ∃ od, H a = some (.frz od (.dK kvs))) := by
  unfold lockE at h
  split at h
  · rename_i o' ks vs hi
    split at h
    · rename_i hset
      cases h
      obtain ⟨v, F1, S1, e1, s1, st1, en1, rz, own1⟩ := freezeVar st en hi rfl
      have rz' : RO M F1 H (.dct false false ks (fzs vs)) v em := rz
      simp only [RO, Bool.false_eq_true, if_false] at rz'
      obtain ⟨a, ws, T', rfl, hT, ho, ⟨kvs, rfl, rfl, rfl, hn⟩, h1, rfl, _⟩ := rz'
      exact ⟨a, kvs, F1, S1, fzs vs, e1, s1, st1, en1, h1, hT, setAll_fzs hset, rfl, fun z => own1 a rfl z, st1.fh.rd h1⟩
    · cases h
  · cases h
def forDS (i kind : Nat) (gf : D → List D → Option (List D)) (body : List D → SR) : List D → SR := fun env => match lockE i kind env with
  | some (its, env0, o) => match loopS gf body its env0 with
    | .err c d e => if o = true then .err c d e else .stuck
    | x => x
  | none => .stuck
theorem ss_forD {g : TG} {tb : TS} {gf : D → List D → Option (List D)} {body : List D → SR} (i kind : Nat) (h2 : SG M pr g gf) (h3 : SS M W pr tb body) :
    SS M W pr (fun D σ H => tLock (tFor (wkTI kind (tVar i)) g tb) D σ H ∨ tFor (wkTI kind (tVar i)) g tb D σ H) (forDS i kind gf body) := by
  intro D F H env σ S st en h
  unfold forDS at h
  cases q : lockE i kind env with
  | none => rw [q] at h; exact h.elim
  | some y =>
    obtain ⟨its, env0, o⟩ := y
    rw [q] at h
    simp only at h
    obtain ⟨a, kvs, F1, S1, us, e1, s1, st1, en1, Fa, rs, hs, ei, ow, hH⟩ := lock_in st en q
    have nS1 : ¬ S1 a := fun z => by rw [st1.fr a z] at Fa; cases Fa
    -- the loop's end, and that it raises nothing over what was frozen
    have hp : PostS M W pr F H σ S D (loopS gf body its env0) ∧ ((∃ c d e, loopS gf body its env0 = .err c d e) → o = true) := by
      cases hl : loopS gf body its env0 with
      | err c d e =>
        rw [hl] at h
        simp only at h
        split at h
        · rename_i ho
          exact ⟨h, fun _ => ho⟩
        · exact h.elim
      | nx e => rw [hl] at h; exact ⟨h, fun ⟨_, _, _, z⟩ => nomatch z⟩
      | brk e => rw [hl] at h; exact ⟨h, fun ⟨_, _, _, z⟩ => nomatch z⟩
      | ct e => rw [hl] at h; exact ⟨h, fun ⟨_, _, _, z⟩ => nomatch z⟩
      | ret d e => rw [hl] at h; exact ⟨h, fun ⟨_, _, _, z⟩ => nomatch z⟩
      | stuck => rw [hl] at h; exact ⟨h, fun ⟨_, _, _, z⟩ => nomatch z⟩
    obtain ⟨hp, he⟩ := hp
    have hp1 : PostS M W pr F1 H σ S1 D (loopS gf body its env0) := hp.behind s1 Pr.refl
    have run : ∀ {D' : Ends} {H2 : Hp} {od : Obj}, Stt M F1 H2 S1 → EnvR M F1 H2 env0 σ S1 → H2 a = some (.frz od (.dK kvs)) → ROs M F1 H2 us (kvs.map (·.2)) em → PostS M W pr F1 H2 σ S1 D' (loopS gf body its env0) → tFor (wkTI kind (tVar i)) g tb D' σ H2 := fun {D' H2 od} st2 en2 Ha rs2 hq =>
      for_at (it := fun e => .ok its e) (gf := gf) (body := body) (fun Q hQ => wk_at (T := em) e1 (by rw [Fa]; exact fun z => nomatch z) Ha rs2 hs fun J hJ => by
        have e : un S1 em = S1 := un_em S1
        exact hQ J F1 H2 S1 em (by rw [e]; exact Step.refl) (by rw [e]; exact st2) (fun _ _ h => h.elim) en2 (by rw [ei]; exact hJ)) h2 h3 st2 en2 hq
    rcases hH with Ha | ⟨od, Ha⟩
    · refine .inl ⟨a, .dK kvs, Ha, trivial, fun od => ?_⟩
      have hne : ∀ x, x ≠ a → upd H a (.frz od (.dK kvs)) x = H x := fun x hx => upd_ne hx
      have st2 : Stt M F1 (upd H a (.frz od (.dK kvs))) S1 := by
        refine ⟨fun x w hx => ?_, st1.fr, fun x hx => ?_, tabs_upd st1.tb Ha True.intro, st1.ft⟩
        · by_cases hxa : x = a
          · subst hxa
            rw [Fa] at hx
            cases hx
            exact .inr ⟨trivial, od, upd_same⟩
          · rw [upd_ne hxa]; exact st1.fh x w hx
        · rw [upd_ne (show x ≠ a from fun z => nS1 (z ▸ hx))]; exact st1.al x hx
      refine run st2 (en1.mono (Ext.refl _) fun x hx => upd_ne fun z => nS1 (z ▸ hx)) upd_same (rs.mono us (Ext.refl _) fun _ h => h.elim) (hp1.lock st1 Fa Ha ?_)
      intro c d e hl σ' F' H' S' cls dx s st' er en' p
      have ho := he ⟨c, d, e, hl⟩
      rw [hl] at hp
      have sa : S a := ow ho
      have s0 : Step F H S F1 (upd H a (.frz od (.dK kvs))) S1 := ⟨s1.ext, fun x w hx _ n => by rw [upd_ne (show x ≠ a from fun z => n (z ▸ sa))]; exact hx, s1.own, s1.new⟩
      exact hp σ' F' H' S' cls dx (s0.trans s) st' er en' p
    · exact .inr (run st1 en1 Ha rs hp1)
/-! ### comprehensions over dicts -/
theorem Post.lock {x : R Rv} {a : Addr} {u : HO} {od : Obj} {Q : V → Hp → Prop} (h : Post M W false F1 H σ Se Q x) (st1 : Stt M F1 H Se) (Fa : F1 a = some u) (Ha : H a = some u) (he : ∀ c d e, x ≠ .err c d e) (hr : ∀ i p e, x ≠ .ok (.pth i p) e) :
    Post M W false F1 (upd H a (.frz od u)) σ Se (fun v H' => H' a = some (.frz od u) ∧ Q v (upd H' a u)) x := by
  cases x with
  | ok r e =>
    cases r with
    | pth i p => exact (hr i p e rfl).elim
    | tmp d =>
      intro v F' H' S' s st _ r
      obtain ⟨g1, g2, g3, g4⟩ := unlock st1 Fa Ha s st
      obtain ⟨Sa, Sb, en, ro, dd, rfl⟩ := r.tmp_in
      exact ⟨g1, h v F' _ _ g3 g4 (fun z => nomatch z) (ResR.one_tmp (en.mono (Ext.refl _) fun x hx => upd_ne fun z => g2 (.inl (z ▸ hx))) (ro.mono d (Ext.refl _) fun x hx => upd_ne fun z => g2 (.inr (z ▸ hx))) dd)⟩
  | err c d e => exact (he c d e rfl).elim
  | stuck => exact h.elim
def lcDF (i kind : Nat) (gf : D → List D → Option (List D)) (t : List D → R Bool) (e : List D → R Rv) (vs : List Nat) : List D → R Rv := fun env => match lockE i kind env with
  | some (its, env0, o) => lcF (fun e => .ok its e) gf t e vs env0
  | none => .stuck
theorem lcF_ok {it : List D → R (List D)} {gf : D → List D → Option (List D)} {t : List D → R Bool} {e : List D → R Rv} {vs : List Nat} (hit : ∀ env c d e', it env ≠ .err c d e') : ∀ env, (∀ c d e', lcF it gf t e vs env ≠ .err c d e') ∧ ∀ i p e', lcF it gf t e vs env ≠ .ok (.pth i p) e' := by
  intro env
  unfold lcF
  cases hi : it env with
  | stuck => exact ⟨(fun _ _ _ z => nomatch z), (fun _ _ _ z => nomatch z)⟩
  | err c d e' => exact (hit env c d e' hi).elim
  | ok ds env1 =>
    simp only [R.bind]
    split
    · cases hL : lcL gf t e vs ds (wipeE env1 vs) [] with
      | stuck => exact ⟨(fun _ _ _ z => nomatch z), (fun _ _ _ z => nomatch z)⟩
      | err c d e' => exact (lcL_err _ _ _ _ _ _ _ _ _ _ hL).elim
      | ok acc envf => exact ⟨(fun _ _ _ z => nomatch z), (fun _ _ _ z => nomatch z)⟩
    · exact ⟨(fun _ _ _ z => nomatch z), (fun _ _ _ z => nomatch z)⟩
/-- an expression that walks the dict at i -/
theorem lockE_at {te : TE} {f : List D → R Rv} {i kind : Nat} {its env0 : List D} {o : Bool} {Q : V → Hp → Prop} (st : Stt M F H S) (en : EnvR M F H env σ S) (q : lockE i kind env = some (its, env0, o)) (h : Post M W false F H σ S Q (f env0))
    (he : ∀ c d e, f env0 ≠ .err c d e) (hr : ∀ i p e, f env0 ≠ .ok (.pth i p) e)
    (run : ∀ {F1 H2 : Hp} {S1 : AS} {Q' : V → Hp → Prop}, Stt M F1 H2 S1 → EnvR M F1 H2 env0 σ S1 → (∀ R : It → Hp → Prop, (∀ J, ItOk M J F1 H2 em its → R J H2) → wkTI kind (tVar i) σ H2 R) → Post M W false F1 H2 σ S1 Q' (f env0) → te σ H2 Q') :
    tLockE te σ H Q ∨ te σ H Q := by
  obtain ⟨a, kvs, F1, S1, us, e1, s1, st1, en1, Fa, rs, hs, ei, ow, hH⟩ := lock_in st en q
  have nS1 : ¬ S1 a := fun z => by rw [st1.fr a z] at Fa; cases Fa
  have hp1 : Post M W false F1 H σ S1 Q (f env0) := by
    cases hx : f env0 with
    | stuck => rw [hx] at h; exact h.elim
    | err c d e => exact (he c d e hx).elim
    | ok r e =>
      rw [hx] at h
      exact fun v F' H' S' a b c d => h v F' H' S' (s1.trans a) b (fun z => nomatch z) d
  rcases hH with Ha | ⟨od, Ha⟩
  · refine .inl ⟨a, .dK kvs, Ha, trivial, fun od => ?_⟩
    have st2 : Stt M F1 (upd H a (.frz od (.dK kvs))) S1 := by
      refine ⟨fun x w hx => ?_, st1.fr, fun x hx => ?_, tabs_upd st1.tb Ha True.intro, st1.ft⟩
      · by_cases hxa : x = a
        · subst hxa
          rw [Fa] at hx
          cases hx
          exact .inr ⟨trivial, od, upd_same⟩
        · rw [upd_ne hxa]; exact st1.fh x w hx
      · rw [upd_ne (show x ≠ a from fun z => nS1 (z ▸ hx))]; exact st1.al x hx
    refine run st2 (en1.mono (Ext.refl _) fun x hx => upd_ne fun z => nS1 (z ▸ hx)) (fun R hR => ?_) (hp1.lock st1 Fa Ha he hr)
    exact wk_at (T := em) e1 (by rw [Fa]; exact fun z => nomatch z) upd_same (rs.mono us (Ext.refl _) fun _ h => h.elim) hs fun J hJ => hR J (by rw [ei]; exact hJ)
  · exact .inr (run st1 en1 (fun R hR => wk_at (T := em) e1 (by rw [Fa]; exact fun z => nomatch z) Ha rs hs fun J hJ => hR J (by rw [ei]; exact hJ)) hp1)
theorem se_lcD {g : TG} {tt : TT} {te : TE} {vs : List Nat} {gf : D → List D → Option (List D)} {t : List D → R Bool} {ef : List D → R Rv} (i kind : Nat)
    (h2 : SG M (prC vs) g gf) (h3 : ST M W0 b1 tt t) (h4 : SE M W0 b2 te ef) :
    SE M W false (fun σ H Q => tLockE (tLc (wkTI kind (tVar i)) g tt te vs) σ H Q ∨ tLc (wkTI kind (tVar i)) g tt te vs σ H Q) (lcDF i kind gf t ef vs) := by
  intro F H env σ S Q st en h
  unfold lcDF at h
  cases q : lockE i kind env with
  | none => rw [q] at h; exact h.elim
  | some y =>
    obtain ⟨its, env0, o⟩ := y
    rw [q] at h
    obtain ⟨n1, n2⟩ := lcF_ok (it := fun e => .ok its e) (gf := gf) (t := t) (e := ef) (vs := vs) (fun _ _ _ _ z => nomatch z) env0
    refine lockE_at (f := lcF (fun e => .ok its e) gf t ef vs) st en q h n1 n2 ?_
    intro F1 H2 S1 Q' st2 en2 hw hp
    refine lc_at (it := fun e => .ok its e) (fun Q hQ => hw _ fun J hJ => ?_) h2 h3 h4 st2 en2 hp
    have e : un S1 em = S1 := un_em S1
    exact hQ J F1 H2 S1 em (by rw [e]; exact Step.refl) (by rw [e]; exact st2) (fun _ _ h => h.elim) en2 hJ
end
end VS
set_option maxHeartbeats 1000000
/-! VSDc: dict comprehensions. -/
namespace VS
open PySem PyProof.Rows L2

section
variable {M : Mn} {W : WD} {b b1 b2 : Bool} {F H F' H' F1 H1 : Hp} {env env' env1 : List D} {σ : L2.St} {S S' S1 T : AS} {pr : Nat → Bool}
def dcL (gf : D → List D → Option (List D)) (t : List D → R Bool) (kv : List D → R (List Rv)) (vs : List Nat) : List D → List D → List D → List D → R (List D × List D)
  | [], env, ks, us => .ok (ks, us) env
  | d :: ds, env, ks, us => match gf d env with
    | none => .stuck
    | some env1 => match t env1 with
      | .ok k env2 => if k = true then (match kv env2 with
          | .ok rs env3 => match escz rs env3 with
            | some ([k, x], env4) => if isK k = true ∧ ks.length < LIM then dcL gf t kv vs ds (wipeE env4 vs) (putKs ks k) (putVs ks us k x) else .stuck
            | _ => .stuck
          | _ => .stuck) else dcL gf t kv vs ds (wipeE env2 vs) ks us
      | _ => .stuck
/-- {k: v for g in it if t} -/
def dcF (it : List D → R (List D)) (gf : D → List D → Option (List D)) (t : List D → R Bool) (kv : List D → R (List Rv)) (vs : List Nat) : List D → R Rv := fun env => (it env).bind fun ds env1 =>
  if okW env1 vs = true then ((dcL gf t kv vs ds (wipeE env1 vs) [] []).bind fun acc env2 => .ok (.tmp (.dct true false acc.1 acc.2)) (unwipe env1 vs env2)) else .stuck
theorem dcL_err (gf : D → List D → Option (List D)) (t : List D → R Bool) (kv : List D → R (List Rv)) (vs : List Nat) : ∀ (ds env ks us : List D) (c : Str) (d : D) (e' : List D), dcL gf t kv vs ds env ks us ≠ .err c d e' := by
  intro ds
  induction ds with
  | nil => intro env ks us c d e' z; unfold dcL at z; cases z
  | cons x ds ih =>
    intro env ks us c d e' z
    unfold dcL at z
    split at z
    · cases z
    · split at z
      · split at z
        · split at z
          · split at z
            · split at z
              · exact ih _ _ _ _ _ _ z
              · cases z
            · cases z
          · cases z
        · exact ih _ _ _ _ _ _ z
      · cases z
theorem dc_at {wi : TI} {g : TG} {tt : TT} {tk tv : TE} {vs : List Nat} {it : List D → R (List D)} {gf : D → List D → Option (List D)} {t : List D → R Bool} {kf vf : List D → R Rv} {b3 : Bool} {Q : V → Hp → Prop}
    (h1 : ∀ Q, PostI M W F H σ S Q (it env) → wi σ H Q) (h2 : SG M (prC vs) g gf) (h3 : ST M W0 b1 tt t) (h4 : SE M W0 b2 tk kf) (h5 : SE M W0 b3 tv vf) (st : Stt M F H S) (en : EnvR M F H env σ S) (h : Post M W false F H σ S Q (dcF it gf t (consF (b3 && true) kf (consF true vf nilF)) vs env)) : tDc wi g tt tk tv vs σ H Q := by
  refine h1 _ ?_
  unfold dcF at h
  cases hi : it env with
  | stuck => rw [hi] at h; exact h
  | err c d env1 => rw [hi] at h; exact h
  | ok ds env1 =>
    rw [hi] at h
    intro J F1 H1 Se T s1 st1 d1 en1 itok Dl hDl
    have h : Post M W false F H σ S Q (if okW env1 vs = true then ((dcL gf t (consF (b3 && true) kf (consF true vf nilF)) vs ds (wipeE env1 vs) [] []).bind fun acc env2 => .ok (.tmp (.dct true false acc.1 acc.2)) (unwipe env1 vs env2)) else .stuck) := h
    split at h
    · rename_i hok
      cases hL : dcL gf t (consF (b3 && true) kf (consF true vf nilF)) vs ds (wipeE env1 vs) [] [] with
      | stuck => rw [hL] at h; exact h.elim
      | err c d e => exact (dcL_err _ _ _ _ _ _ _ _ _ _ _ hL).elim
      | ok accf envf =>
        rw [hL] at h
        obtain ⟨S0, en0, o0⟩ := en1.wipe vs
        -- the new list is held besides
        let T2 : AS := un T fun a => a = Dl
        have stS0 : Stt M F1 H1 (un S0 T) := st1.sub fun a z => z.imp (o0 a) id
        have dS0 : dj S0 T := fun a x y => d1 a (o0 a x) y
        have n0 : ∀ a, un S0 T a → a ≠ Dl := fun a ha z => by
          obtain ⟨o, q⟩ := stS0.al1 a ha
          rw [z, hDl] at q; cases q
        have Fp := st1.none_of hDl
        have ex0 : Ext H1 (upd H1 Dl (.dK [])) := fun a u e => by rw [upd_ne (fun z => by rw [z, hDl] at e; cases e)]; exact e
        have e2 : un (un S0 T) (fun a => a = Dl) = un S0 T2 := AS.ext fun a => by simp only [un, T2]; constructor <;> (intro z; simpa [or_assoc] using z)
        have sA : Step F1 H1 (un S0 T) F1 (upd H1 Dl (.dK [])) (un S0 T2) := by
          rw [← e2]
          exact Step.mk0 (Ext.refl _) (fun a u e _ => ex0 a u e) (fun a z => z.imp id fun z => by rw [z]; exact hDl) fun a u z => .inl z
        have stA : Stt M F1 (upd H1 Dl (.dK [])) (un S0 T2) := by
          rw [← e2]
          refine ⟨fun a u e => (st1.fh a u e).imp (ex0 a u) fun ⟨l, o, z⟩ => ⟨l, o, ex0 a _ z⟩, fun a z => z.elim (stS0.fr a) fun z => by rw [z]; exact Fp, fun a z => ?_, st1.tabsE ex0, st1.ft⟩
          rcases z with z | z
          · obtain ⟨o, q, q'⟩ := stS0.al a z
            exact ⟨o, ex0 a o q, q'⟩
          · exact ⟨.dK [], by rw [z]; exact upd_same, True.intro⟩
        have dA : dj S0 T2 := fun a x y => y.elim (dS0 a x) fun y => n0 a (.inl x) y
        have enA : EnvR M F1 (upd H1 Dl (.dK [])) (wipeE env1 vs) (L2.wipe σ vs) S0 := en0.mono (Ext.refl _) fun a ha => upd_ne (n0 a (.inl ha))
        have sA' : Step F H S F1 (upd H1 Dl (.dK [])) (un S0 T2) := (s1.drop fun a z => z.imp (o0 a) id).trans sA
        -- the word of the turns
        let Wd : Nat → Hp → Prop := fun i H2 => ∃ env2 us kvs F2 S2, Step F H S F2 H2 (un S2 T2) ∧ Stt M F2 H2 (un S2 T2) ∧ dj S2 T2 ∧ EnvR M F2 H2 env2 (L2.wipe σ vs) S2 ∧ Ext F1 F2 ∧ (∀ a, T a → H2 a = H1 a) ∧ FK F1 H1 H2 ∧
          H2 Dl = some (.dK kvs) ∧ ROs M F2 H2 us (kvs.map (·.2)) em ∧ (kvs.map (·.1)).Nodup ∧ dcL gf t (consF (b3 && true) kf (consF true vf nilF)) vs (ds.drop i) env2 (kvs.map fun p => dkey p.1) us = .ok accf envf
        refine ⟨fun i m H2 => m = ds.length - i ∧ i ≤ ds.length ∧ Wd i H2, ⟨ds.length, by simp, Nat.zero_le _, wipeE env1 vs, [], [], F1, S0, sA', stA, dA, enA, Ext.refl _, fun a ha => upd_ne (n0 a (.inr ha)), FK.refl.ext ex0, upd_same, by simp [ROs], List.nodup_nil, by simpa using hL⟩, ?_⟩
        rintro i m H2 ⟨rfl, hle, env2, us, kvs, F2, S2, s2, st2, d2, en2, x2, k2, fk2, hacc, roA, hnd, q2⟩
        obtain ⟨ig, is⟩ := itok F2 H2 x2 st2.fh k2 (fun a ha => st2.fr a (.inr (.inl ha))) fk2 i
        by_cases hlt : i < ds.length
        · right
          obtain ⟨go, yl⟩ := ig hlt
          refine ⟨go, fun H' => Wd (i + 1) H', fun H' p => ⟨ds.length - (i + 1), by omega, rfl, hlt, p⟩, fun x H3 y => ?_⟩
          obtain ⟨F3, x3, e3, fh3, new3, d, hd, hs, ro⟩ := yl x H3 y
          have alive2 : ∀ a, un S2 T2 a → H3 a = H2 a := fun a ha => by
            obtain ⟨o, e⟩ := st2.al1 a ha
            rw [e]; exact e3 a o e
          have fr3 : ∀ a, un S2 T2 a → F3 a = none := fun a ha => by
            cases q : F3 a with
            | none => rfl
            | some u =>
              exfalso
              rcases new3 a u q with z | z
              · rw [st2.fr a ha] at z; cases z
              · obtain ⟨o, e⟩ := st2.al1 a ha
                rw [z] at e; cases e
          have st3 : Stt M F3 H3 (un S2 T2) := ⟨fh3, fr3, fun a ha => by rw [alive2 a ha]; exact st2.al a ha, st2.tabsE e3, st2.ftN fun a u h => (new3 a u h).imp id .inr⟩
          have s3 : Step F H S F3 H3 (un S2 T2) := s2.trans (Step.mk0 x3 (fun a o e _ => e3 a o e) (fun a h => .inl h) fun a u h => (new3 a u h).imp id .inr)
          have en3 : EnvR M F3 H3 env2 (L2.wipe σ vs) S2 := en2.mono x3 fun a ha => alive2 a (.inl ha)
          have hacc3 : H3 Dl = some (.dK kvs) := e3 _ _ hacc
          have roA3 := roA.mono us x3 (H' := H3) fun _ h => h.elim
          rw [getElem?_drop_cons hd] at q2
          unfold dcL at q2
          refine h2 F3 H3 env2 (L2.wipe σ vs) S2 d x em _ fh3 en3 ro en3.dj_emp hs ?_
          cases hg : gf d env2 with
          | none => rw [hg] at q2; cases q2
          | some env3 =>
            rw [hg] at q2
            intro σ4 S4 en4 o4 p4
            refine ⟨wipe_len_eq p4, ?_⟩
            have hw : L2.wipe σ4 vs = L2.wipe σ vs := wipe_len_eq p4
            have o4' : ∀ a, S4 a → S2 a := fun a ha => (o4 a ha).elim id fun z => z.elim
            have st4 : Stt M F3 H3 S4 := st3.sub fun a ha => .inl (o4' a ha)
            have st4T : Stt M F3 H3 (un S4 T2) := st3.sub fun a ha => ha.imp (o4' a) id
            have d4 : dj S4 T2 := fun a x y => d2 a (o4' a x) y
            have s4 : Step F H S F3 H3 (un S4 T2) := s3.drop fun a ha => ha.imp (o4' a) id
            have k4 : ∀ a, T a → H3 a = H1 a := fun a ha => (alive2 a (.inr (.inl ha))).trans (k2 a ha)
            have fr : ∀ {F5 H5 : Hp} {S5 : AS}, Step F3 H3 S4 F5 H5 S5 → Stt M F5 H5 S5 → Step F H S F5 H5 (un S5 T2) ∧ Stt M F5 H5 (un S5 T2) ∧ dj S5 T2 ∧ (∀ a, T2 a → H5 a = H3 a) ∧ Ext F1 F5 ∧ FK F1 H1 H5 := fun a b => by
              obtain ⟨g1, g2, g3, g4⟩ := a.frame st4T b d4
              exact ⟨s4.trans g1, g2, g3, g4, (x2.trans x3).trans a.ext, (fk2.ext e3).step (x2.trans x3) st4 a⟩
            refine h3 F3 H3 env3 σ4 S4 _ st4 en4 ?_
            simp only at q2
            cases ht : t env3 with
            | stuck => rw [ht] at q2; cases q2
            | err c d e => rw [ht] at q2; cases q2
            | ok k env4 =>
              rw [ht] at q2
              intro F5 H5 S5 s5 st5 _ en5
              obtain ⟨g1, g2, g3, g4, g5, g6⟩ := fr s5 st5
              have hacc5 : H5 Dl = some (.dK kvs) := by rw [g4 Dl (.inr rfl)]; exact hacc3
              cases k with
              | false =>
                refine iteF ?_
                obtain ⟨S6, en6, o6⟩ := en5.wipe vs
                rw [hw] at en6
                refine ⟨wipeE env4 vs, us, kvs, F5, S6, g1.drop fun a z => z.imp (o6 a) id, g2.sub fun a z => z.imp (o6 a) id, fun a x y => g3 a (o6 a x) y, en6, g5, fun a ha => (g4 a (.inl ha)).trans (k4 a ha), g6, hacc5, roA3.mono us s5.ext (fun _ h => h.elim), hnd, q2⟩
              | true =>
                refine iteT ?_
                simp only [if_true] at q2
                refine (sa_cons h4 (sa_cons h5 sa_nil)) F5 H5 env4 σ4 S5 (fun xs H5 => match xs with | [y, z] => ∃ kvs k, y = kV k ∧ H5 Dl = some (.dK kvs) ∧ kvs.length < sizeLine ∧ Wd (i + 1) (upd H5 Dl (.dK (putK kvs k z))) | _ => False) st5 en5 ?_
                cases he : consF (b3 && true) kf (consF true vf nilF) env4 with
                | stuck => rw [he] at q2; cases q2
                | err c d e => rw [he] at q2; cases q2
                | ok rs env5 =>
                  rw [he] at q2
                  intro yv F6 H6 S6 s6 st6 _ r6
                  cases hz : escz rs env5 with
                  | none => simp only [hz] at q2; cases q2
                  | some z =>
                    obtain ⟨xs, env6⟩ := z
                    match xs, hz, q2 with
                    | [], hz, q2 => simp only [hz] at q2; cases q2
                    | [_], hz, q2 => simp only [hz] at q2; cases q2
                    | _ :: _ :: _ :: _, hz, q2 => simp only [hz] at q2; cases q2
                    | [kd, xd], hz, q2 =>
                      simp only [hz] at q2
                      split at q2
                      · rename_i hlim
                        obtain ⟨F7, S7, s7, st7, en7, ro7⟩ := escz_ok hz st6 r6
                        obtain ⟨yk, yz, rfl, rk, rz⟩ := ro7.two
                        obtain ⟨k, rfl, rfl⟩ := isK_in hlim.1 rk
                        obtain ⟨w1, w2, w3, w4, w5, w6⟩ := fr ((s5.trans s6).trans s7) st7
                        have hacc7 : H6 Dl = some (.dK kvs) := by rw [w4 Dl (.inr rfl)]; exact hacc3
                        have hal : kvs.length < sizeLine := by have := lim_lt hlim.2; simpa using this
                        refine ⟨kvs, k, rfl, hacc7, hal, ?_⟩
                        obtain ⟨u1, u2⟩ := w1.write (o := .dK (putK kvs k yz)) w2 (p := Dl) (.inr (.inr rfl))
                        obtain ⟨S8, en8, o8⟩ := en7.wipe vs
                        rw [hw] at en8
                        have nD : ∀ a, S7 a → a ≠ Dl := fun a x z => w3 a x (.inr z)
                        obtain ⟨T', rp, tp⟩ := putVs_ok (f := dkey) (fun _ _ => dkey_inj) (j := k) rz (roA3.mono us ((s5.trans s6).trans s7).ext (fun _ h => h.elim) (H' := H6))
                        have : T' = em := AS.ext fun a => ⟨fun z => tp a z, fun z => z.elim⟩
                        subst this
                        refine ⟨wipeE env6 vs, _, putK kvs k yz, F7, S8, u1.drop fun a z => z.imp (o8 a) id, u2.sub fun a z => z.imp (o8 a) id, fun a x y => w3 a (o8 a x) y,
                          en8.mono (Ext.refl _) (fun a ha => upd_ne (nD a (o8 a ha))), w5, fun a ha => ?_, ?_, upd_same, rp.mono _ (Ext.refl _) (fun _ h => h.elim), putK_nodup hnd, ?_⟩
                        · rw [upd_ne (fun z => n0 a (.inr ha) z)]
                          exact (w4 a (.inl ha)).trans (k4 a ha)
                        · intro a o h n
                          rw [upd_ne (fun z => by rw [z, hDl] at h; cases h)]
                          exact w6 a o h n
                        · rw [putKs_ok (f := dkey) (fun _ _ => dkey_inj)]
                          exact q2
                      · cases q2
        · left
          have e : i = ds.length := by omega
          subst e
          refine ⟨is (Nat.le_refl _), ?_⟩
          rw [List.drop_length] at q2
          unfold dcL at q2
          cases q2
          obtain ⟨T3, en3, o3⟩ := en2.unwipe en1 x2 hok
          have oD : ∀ a, un T3 (fun a => a = Dl) a → un S2 T2 a := fun a z => z.imp (o3 a) .inr
          have roF : RO M F2 H2 (.dct true false (kvs.map fun p => dkey p.1) us) (.ref Dl) (fun a => a = Dl) := by
            simp only [RO, if_true, Bool.false_eq_true, if_false]
            exact ⟨Dl, _, em, rfl, roA, _, ⟨kvs, rfl, rfl, rfl, hnd⟩, hacc, fun h => h, AS.ext fun a => by simp [on1, em]⟩
          exact h (.ref Dl) F2 H2 _ (s2.drop oD) (st2.sub oD) (fun z => nomatch z) (ResR.one_tmp en3 roF fun a x y => d2 a (o3 a x) (.inr y))
    · exact h.elim
theorem se_dc {wi : TI} {g : TG} {tt : TT} {tk tv : TE} {vs : List Nat} {it : List D → R (List D)} {gf : D → List D → Option (List D)} {t : List D → R Bool} {kf vf : List D → R Rv} {b3 : Bool}
    (h1 : SI M W wi it) (h2 : SG M (prC vs) g gf) (h3 : ST M W0 b1 tt t) (h4 : SE M W0 b2 tk kf) (h5 : SE M W0 b3 tv vf) : SE M W false (tDc wi g tt tk tv vs) (dcF it gf t (consF (b3 && true) kf (consF true vf nilF)) vs) := fun F H env σ S Q st en h =>
  dc_at (fun Q => h1 F H env σ S Q st en) h2 h3 h4 h5 st en h
def dcDF (i kind : Nat) (gf : D → List D → Option (List D)) (t : List D → R Bool) (kv : List D → R (List Rv)) (vs : List Nat) : List D → R Rv := fun env => match lockE i kind env with
  | some (its, env0, o) => dcF (fun e => .ok its e) gf t kv vs env0
  | none => .stuck
theorem dcF_ok {it : List D → R (List D)} {gf : D → List D → Option (List D)} {t : List D → R Bool} {kv : List D → R (List Rv)} {vs : List Nat} (hit : ∀ env c d e', it env ≠ .err c d e') : ∀ env, (∀ c d e', dcF it gf t kv vs env ≠ .err c d e') ∧ ∀ i p e', dcF it gf t kv vs env ≠ .ok (.pth i p) e' := by
  intro env
  unfold dcF
  cases hi : it env with
  | stuck => exact ⟨(fun _ _ _ z => nomatch z), (fun _ _ _ z => nomatch z)⟩
  | err c d e' => exact (hit env c d e' hi).elim
  | ok ds env1 =>
    simp only [R.bind]
    split
    · cases hL : dcL gf t kv vs ds (wipeE env1 vs) [] [] with
      | stuck => exact ⟨(fun _ _ _ z => nomatch z), (fun _ _ _ z => nomatch z)⟩
      | err c d e' => exact (dcL_err _ _ _ _ _ _ _ _ _ _ _ hL).elim
      | ok acc envf => exact ⟨(fun _ _ _ z => nomatch z), (fun _ _ _ z => nomatch z)⟩
    · exact ⟨(fun _ _ _ z => nomatch z), (fun _ _ _ z => nomatch z)⟩
theorem se_dcD {g : TG} {tt : TT} {tk tv : TE} {vs : List Nat} {gf : D → List D → Option (List D)} {t : List D → R Bool} {kf vf : List D → R Rv} {b3 : Bool} (i kind : Nat)
    (h2 : SG M (prC vs) g gf) (h3 : ST M W0 b1 tt t) (h4 : SE M W0 b2 tk kf) (h5 : SE M W0 b3 tv vf) :
    SE M W false (fun σ H Q => tLockE (tDc (wkTI kind (tVar i)) g tt tk tv vs) σ H Q ∨ tDc (wkTI kind (tVar i)) g tt tk tv vs σ H Q) (dcDF i kind gf t (consF (b3 && true) kf (consF true vf nilF)) vs) := by
  intro F H env σ S Q st en h
  unfold dcDF at h
  cases q : lockE i kind env with
  | none => rw [q] at h; exact h.elim
  | some y =>
    obtain ⟨its, env0, o⟩ := y
    rw [q] at h
    obtain ⟨n1, n2⟩ := dcF_ok (it := fun e => .ok its e) (gf := gf) (t := t) (kv := consF (b3 && true) kf (consF true vf nilF)) (vs := vs) (fun _ _ _ _ z => nomatch z) env0
    refine lockE_at (f := dcF (fun e => .ok its e) gf t (consF (b3 && true) kf (consF true vf nilF)) vs) st en q h n1 n2 ?_
    intro F1 H2 S1 Q' st2 en2 hw hp
    refine dc_at (it := fun e => .ok its e) (fun Q hQ => hw _ fun J hJ => ?_) h2 h3 h4 h5 st2 en2 hp
    have e : un S1 em = S1 := un_em S1
    exact hQ J F1 H2 S1 em (by rw [e]; exact Step.refl) (by rw [e]; exact st2) (fun _ _ h => h.elim) en2 hJ
end
end VS
set_option maxHeartbeats 1000000
/-! VSGlob: the module's own dict of texts, its tuple of numbers; in. -/
namespace VS
open PySem PyProof.Rows L2

/-! ### a dict of the top whose keys and values are texts -/
def tabE (e : DictEntry) : Option (List Nat × List Nat) := match e.key, e.val with
  | .str x _, .str y _ => some (x.cps.toList, y.cps.toList)
  | _, _ => none
def tabW (K : PySem.W.Frag) (a : Addr) : Option (List (Option (List Nat × List Nat))) := match K.lookup a with
  | some ⟨_, _, .dict es _, _⟩ => some (es.toList.map tabE)
  | _ => none
/-- what stands at each key -/
def KTab (K : PySem.W.Frag) (a : Addr) (tbl : List (List Nat × List Nat)) : Prop :=
  ∀ z : List Nat, match tbl.lookup z with
    | some c => ∃ t, PySem.W.nsIn K a ⟨z.toArray⟩ = some (some (.str ⟨c.toArray⟩ t))
    | none => PySem.W.nsIn K a ⟨z.toArray⟩ = some none
theorem isStr_of {x : Str} {t : Tok} {z : List Nat} : (Value.str x t).isStr ⟨z.toArray⟩ = decide (z = x.cps.toList) := by
  rw [← Value.isStrByCps_eq]
  show ((x.cps.size == z.toArray.size) && (x.cps.toList == z.toArray.toList)) = _
  by_cases h : z = x.cps.toList
  · subst h
    simp
  · rw [decide_eq_false h]
    have : (x.cps.toList == z.toArray.toList) = false := beq_eq_false_iff_ne.mpr fun e => h (by simpa using e.symm)
    rw [this, Bool.and_false]
theorem tab_find : ∀ {es : List DictEntry} {tbl : List (List Nat × List Nat)} (z : List Nat), es.map tabE = tbl.map some → (match tbl.lookup z with
    | some c => ∃ e t, es.find? (·.key.isStr ⟨z.toArray⟩) = some e ∧ e.val = .str ⟨c.toArray⟩ t
    | none => es.find? (·.key.isStr ⟨z.toArray⟩) = none) ∧ es.any (·.refKey) = false
  | [], [], z, _ => ⟨rfl, rfl⟩
  | [], _ :: _, z, h => by cases h
  | _ :: _, [], z, h => by cases h
  | e :: es, p :: tbl, z, h => by
    simp only [List.map_cons, List.cons.injEq] at h
    obtain ⟨h1, h2⟩ := h
    obtain ⟨i1, i2⟩ := tab_find z h2
    unfold tabE at h1
    split at h1
    · rename_i x t y u hk hv
      cases h1
      have hs : e.key.isStr ⟨z.toArray⟩ = decide (z = x.cps.toList) := by rw [hk]; exact isStr_of
      have hr : e.refKey = false := by unfold DictEntry.refKey; rw [hk]
      refine ⟨?_, by rw [List.any_cons, hr, i2]; rfl⟩
      by_cases hz : z = x.cps.toList
      · have : List.lookup z ((x.cps.toList, y.cps.toList) :: tbl) = some y.cps.toList := by simp [List.lookup, hz]
        rw [this]
        refine ⟨e, u, ?_, by rw [hv]⟩
        rw [List.find?_cons, hs, decide_eq_true hz]
      · have : List.lookup z ((x.cps.toList, y.cps.toList) :: tbl) = List.lookup z tbl := by
          have : (z == x.cps.toList) = false := beq_eq_false_iff_ne.mpr hz
          simp [List.lookup, this]
        rw [this]
        have e2 : List.find? (fun x => x.key.isStr ⟨z.toArray⟩) (e :: es) = List.find? (fun x => x.key.isStr ⟨z.toArray⟩) es := by
          rw [List.find?_cons, hs, decide_eq_false hz]
        rw [e2]
        exact i1
    · cases h1
theorem tab_of {K : PySem.W.Frag} {a : Addr} {tbl : List (List Nat × List Nat)} (h : tabW K a = some (tbl.map some)) : KTab K a tbl := by
  intro z
  unfold tabW at h
  split at h
  · rename_i es n sl q
    obtain ⟨h1, h2⟩ := tab_find z (Option.some.inj h)
    unfold PySem.W.nsIn
    rw [q]
    simp only
    split at h1
    · rename_i c hc
      obtain ⟨e, t, g1, g2⟩ := h1
      rw [g1]
      simp only
      exact ⟨t, by rw [g2]⟩
    · rw [h1]
      simp only [h2]
      rfl
  · cases h
section
variable {M : Mn} {W : WD} {b b1 b2 : Bool} {F H F' H' F1 H1 : Hp} {env env' env1 : List D} {σ : L2.St} {S S' S1 T : AS} {pr : Nat → Bool} {a : Addr} {tbl : List (List Nat × List Nat)}
def kinD (neg : Bool) (tbl : List (List Nat × List Nat)) : D → Option D
  | .str s => some (.bl (if neg then !(tbl.lookup s).isSome else (tbl.lookup s).isSome))
  | _ => none
def kgetD (tbl : List (List Nat × List Nat)) : D → Option D
  | .str s => (tbl.lookup s).map .str
  | _ => none
def rKin (K : PySem.W.Frag) (d : Addr) : R2 := fun x y H Q => ∃ (z : Str) (r : Option Value), x = .str z ∧ y = .ref d ∧ PySem.W.nsIn K d z = some r ∧ Q (.bl r.isSome) H
def rKnin (K : PySem.W.Frag) (d : Addr) : R2 := fun x y H Q => ∃ (z : Str) (r : Option Value), x = .str z ∧ y = .ref d ∧ PySem.W.nsIn K d z = some r ∧ Q (.bl (!r.isSome)) H
def rKget (K : PySem.W.Frag) (d : Addr) : R2 := fun x y H Q => ∃ (z : Str) (u0 : Value) (v0 : V), x = .ref d ∧ y = .str z ∧ PySem.W.nsIn K d z = some (some u0) ∧ RelV v0 u0 ∧ Q v0 H
theorem rn_kin (kt : KTab M.K a tbl) : RN1 M (fun x H Q => rKin M.K a x (.ref a) H Q) (kinD false tbl) := by
  intro F H x d z Sx Q fh rx h k
  cases d with
  | str s =>
    cases h
    simp only [RO] at rx
    obtain ⟨rfl, _⟩ := rx
    have := kt s
    cases q : tbl.lookup s with
    | none =>
      rw [q] at this
      rw [q] at k
      exact ⟨_, _, rfl, rfl, this, k _ _ _ _ (NewR.same fh (by simp [RO]))⟩
    | some c =>
      rw [q] at this
      rw [q] at k
      obtain ⟨t, e⟩ := this
      exact ⟨_, _, rfl, rfl, e, k _ _ _ _ (NewR.same fh (by simp [RO]))⟩
  | _ => cases h
theorem rn_knin (kt : KTab M.K a tbl) : RN1 M (fun x H Q => rKnin M.K a x (.ref a) H Q) (kinD true tbl) := by
  intro F H x d z Sx Q fh rx h k
  cases d with
  | str s =>
    cases h
    simp only [RO] at rx
    obtain ⟨rfl, _⟩ := rx
    have := kt s
    cases q : tbl.lookup s with
    | none =>
      rw [q] at this
      rw [q] at k
      exact ⟨_, _, rfl, rfl, this, k _ _ _ _ (NewR.same fh (by simp [RO]))⟩
    | some c =>
      rw [q] at this
      rw [q] at k
      obtain ⟨t, e⟩ := this
      exact ⟨_, _, rfl, rfl, e, k _ _ _ _ (NewR.same fh (by simp [RO]))⟩
  | _ => cases h
theorem rn_kget (kt : KTab M.K a tbl) : RN1 M (fun y H Q => rKget M.K a (.ref a) y H Q) (kgetD tbl) := by
  intro F H x d z Sx Q fh rx h k
  cases d with
  | str s =>
    simp only [kgetD] at h
    cases q : tbl.lookup s with
    | none => rw [q] at h; cases h
    | some c =>
      rw [q] at h
      cases h
      simp only [RO] at rx
      obtain ⟨rfl, _⟩ := rx
      have := kt s
      rw [q] at this
      obtain ⟨t, e⟩ := this
      exact ⟨_, _, .str ⟨c.toArray⟩, rfl, rfl, e, ⟨t, rfl⟩, k _ _ _ _ (NewR.same fh (by simp [RO]))⟩
  | _ => cases h
theorem se_kin {ta : TE} {fa : List D → R Rv} (kt : KTab M.K a tbl) (h : SE M W b ta fa) : SE M W (b && true) (tOp (rKin M.K a) ta (tC (.ref a))) (una (kinD false tbl) fa) := se_un (rn_kin kt) h
theorem se_knin {ta : TE} {fa : List D → R Rv} (kt : KTab M.K a tbl) (h : SE M W b ta fa) : SE M W (b && true) (tOp (rKnin M.K a) ta (tC (.ref a))) (una (kinD true tbl) fa) := se_un (rn_knin kt) h
theorem se_kget {ta : TE} {fa : List D → R Rv} (kt : KTab M.K a tbl) (h : SE M W b ta fa) : SE M W (b && true) (tOp (rKget M.K a) (tC (.ref a)) ta) (una (kgetD tbl) fa) := se_un (rn_kget kt) h
/-! ### a tuple of numbers of the top -/
def intsW (K : PySem.W.Frag) (a : Addr) : Option (List (Option Int)) := match K.lookup a with
  | some ⟨.type c, _, .seq its _, _⟩ => if c = "tuple" ∧ its.size ≤ 1000 then some (its.toList.map fun v => match v with | .int i _ => some i | _ => none) else none
  | _ => none
def KInts (K : PySem.W.Frag) (a : Addr) (ns : List Int) : Prop := ∀ H, SqT K H a (ns.map V.int)
theorem ints_vals : ∀ {vs : List Value} {ns : List Int}, (vs.map fun v => match v with | .int i _ => some i | _ => none) = ns.map some → Vals (ns.map V.int) vs
  | [], [], _ => .nil
  | [], _ :: _, h => by cases h
  | _ :: _, [], h => by cases h
  | v :: vs, n :: ns, h => by
    simp only [List.map_cons, List.cons.injEq] at h
    obtain ⟨h1, h2⟩ := h
    split at h1
    · cases h1
      exact .cons ⟨_, rfl⟩ (ints_vals h2)
    · cases h1
theorem ints_of {K : PySem.W.Frag} {a : Addr} {ns : List Int} (h : intsW K a = some (ns.map some)) : KInts K a ns := by
  intro H
  unfold intsW at h
  split at h
  · rename_i c d its n sl q
    split at h
    · rename_i hc
      obtain ⟨rfl, hl⟩ := hc
      exact .inr ⟨_, its, n, q, rfl, rfl, Nat.le_trans hl (by decide), ints_vals (Option.some.inj h)⟩
    · cases h
  · cases h
def tinD (neg : Bool) (ns : List Int) : D → Option D
  | .int i => some (.bl (if neg then !(ns.any fun n => n == i) else ns.any fun n => n == i))
  | _ => none
theorem inV_ints (i : Int) (ns : List Int) : inV (.int i) (ns.map V.int) = ns.any fun n => n == i := by
  unfold inV
  rw [List.any_map]
  rfl
theorem flat_ints (ns : List Int) : (ns.map V.int).all flatV = true := by
  rw [List.all_map]
  exact List.all_eq_true.mpr fun _ _ => rfl
theorem rn_tin {ns : List Int} (neg : Bool) (ki : KInts M.K a ns) : RN1 M (fun x H Q => rIn M.K neg x (.ref a) H Q) (tinD neg ns) := by
  intro F H x d z Sx Q fh rx h k
  cases d with
  | int i =>
    cases h
    simp only [RO] at rx
    obtain ⟨rfl, _⟩ := rx
    refine ⟨a, _, rfl, .inr (ki H), rfl, flat_ints ns, ?_⟩
    rw [inV_ints]
    exact k _ _ _ _ (NewR.same fh (by simp [RO]))
  | _ => cases h
theorem se_tin {ns : List Int} {ta : TE} {fa : List D → R Rv} (neg : Bool) (ki : KInts M.K a ns) (h : SE M W b ta fa) : SE M W (b && true) (tOp (rIn M.K neg) ta (tC (.ref a))) (una (tinD neg ns) fa) := se_un (rn_tin neg ki) h
/-- for k in SIZES -/
theorem si_kints {ns : List Int} (ki : KInts M.K a ns) : SI M W (iTup M.K (tC (.ref a))) (fun env => .ok (ns.map D.int) env) := by
  intro F H env σ S Q st en h
  have h : PostI M W F H σ S Q (.ok (ns.map D.int) env) := h
  refine ⟨a, rfl, ⟨_, ki H⟩, h _ F H S em (by rw [un_em]; exact Step.refl) (by rw [un_em]; exact st) (fun _ _ h => h.elim) en ?_⟩
  exact itOk_seq (Sq := fun H => SqT M.K H a) rfl (ros_ints ns) (setAll_ints ns) fun F2 H2 e fh2 k => ki H2
end
/-- D[key], D a dict of the top -/
theorem _root_.PyV.ix_kd {X : Cx} {d : Addr} {es : Array DictEntry} {n : Nat} (D : KDict X.K X.w d es n) : IxR X (rKget X.K d) := by
  intro value slice pins s σ H x y v u Q I rx ry h hs
  have h2 := h
  obtain ⟨z, u0, v0, rfl, rfl, e, r, q⟩ := h
  have g := op_item_kd (X := X) D pins s σ H _ _ v u Q I rx ry h2
  cases rx
  exact tail_any (kd_type D I) PySem.F.slot_dict_getitem.lookup g hs
end VS
set_option maxHeartbeats 1000000
/-! VSSl: slices, not, the last parts. -/
namespace VS
open PySem PyProof.Rows L2
section
variable {M : Mn} {W : WD} {b b1 b2 b3 : Bool} {F H F' H' F1 H1 : Hp} {env env' env1 : List D} {σ : L2.St} {S S' S1 T : AS} {pr : Nat → Bool}
def isIntD : D → Bool
  | .int _ => true
  | _ => false
def cInt (x : V) (H : Hp) (k : (List V → Hp → Prop) → Prop) (R : List V → Hp → Prop) : Prop := ∃ i, x = .int i ∧ k (fun vs H2 => R (.int i :: vs) H2)
theorem cInt_ok : ∀ F H x d S (k : (List V → Hp → Prop) → Prop) R, FH F H → RO M F H d x S → isIntD d = true → k (fun vs H2 => R (x :: vs) H2) → cInt x H k R := by
  intro F H x d S k R fh r hd h
  cases d with
  | int i => simp only [RO] at r; obtain ⟨rfl, _⟩ := r; exact ⟨i, rfl, h⟩
  | _ => cases hd
def slLHd : List D → Option D
  | [d, .int i, .int j] => slD (some i) (some j) d
  | _ => none
def slLd : List D → Option D
  | [d, .int i] => slD (some i) none d
  | _ => none
def slHd : List D → Option D
  | [d, .int j] => slD none (some j) d
  | _ => none
def slNd : List D → Option D
  | [d] => slD none none d
  | _ => none
theorem rn_slLH : RN M (fun vs H Q => match vs with | [x, .int i, .int j] => rSlAll M.K x (some i) (some j) H Q | _ => False) slLHd := by
  intro F H ds vs z Q fh rl e k
  unfold slLHd at e
  split at e
  · rename_i d i j
    obtain ⟨x, ws, S1, rfl, r1, y, ws2, S2, rfl, r2, y3, ws3, S3, rfl, r3, rr⟩ := rl
    simp only [RL] at rr
    subst rr
    simp only [RO] at r2 r3
    obtain ⟨rfl, _⟩ := r2
    obtain ⟨rfl, _⟩ := r3
    exact rn_sl (some i) (some j) F H x d z S1 Q fh r1 e k
  · cases e
theorem rn_slL : RN M (fun vs H Q => match vs with | [x, .int i] => rSlAll M.K x (some i) none H Q | _ => False) slLd := by
  intro F H ds vs z Q fh rl e k
  unfold slLd at e
  split at e
  · rename_i d i
    obtain ⟨x, ws, S1, rfl, r1, y, ws2, S2, rfl, r2, rr⟩ := rl
    simp only [RL] at rr
    subst rr
    simp only [RO] at r2
    obtain ⟨rfl, _⟩ := r2
    exact rn_sl (some i) none F H x d z S1 Q fh r1 e k
  · cases e
theorem rn_slH : RN M (fun vs H Q => match vs with | [x, .int i] => rSlAll M.K x none (some i) H Q | _ => False) slHd := by
  intro F H ds vs z Q fh rl e k
  unfold slHd at e
  split at e
  · rename_i d i
    obtain ⟨x, ws, S1, rfl, r1, y, ws2, S2, rfl, r2, rr⟩ := rl
    simp only [RL] at rr
    subst rr
    simp only [RO] at r2
    obtain ⟨rfl, _⟩ := r2
    exact rn_sl none (some i) F H x d z S1 Q fh r1 e k
  · cases e
theorem rn_slN : RN M (fun vs H Q => match vs with | [x] => rSlAll M.K x none none H Q | _ => False) slNd := by
  intro F H ds vs z Q fh rl e k
  unfold slNd at e
  split at e
  · rename_i d
    obtain ⟨x, ws, S1, rfl, r1, rr⟩ := rl
    simp only [RL] at rr
    subst rr
    exact rn_sl none none F H x d z S1 Q fh r1 e k
  · cases e
def slLHF (b2 b3 : Bool) (f fl fh : List D → R Rv) : List D → R Rv := opN slLHd (consF (b2 && (b3 && true)) f (consF (b3 && true) (chkF isIntD fl) (consF true (chkF isIntD fh) nilF)))
theorem se_slLH {te tl th : TE} {f fl fh : List D → R Rv} (h1 : SE M W b1 te f) (h2 : SE M W b2 tl fl) (h3 : SE M W b3 th fh) :
    SE M W (b1 && (b2 && (b3 && true))) (tSl (rSlAll M.K) te (tPart tl) (tPart th)) (slLHF b2 b3 f fl fh) :=
  se_n (sa_cons h1 (sa_chk isIntD cInt cInt_ok h2 (sa_chk isIntD cInt cInt_ok h3 sa_nil))) rn_slLH
def slLF (b2 : Bool) (f fl : List D → R Rv) : List D → R Rv := opN slLd (consF (b2 && true) f (consF true (chkF isIntD fl) nilF))
theorem se_slL {te tl : TE} {f fl : List D → R Rv} (h1 : SE M W b1 te f) (h2 : SE M W b2 tl fl) : SE M W (b1 && (b2 && true)) (tSl (rSlAll M.K) te (tPart tl) tNoPart) (slLF b2 f fl) :=
  se_n (sa_cons h1 (sa_chk isIntD cInt cInt_ok h2 sa_nil)) rn_slL
def slHF (b2 : Bool) (f fl : List D → R Rv) : List D → R Rv := opN slHd (consF (b2 && true) f (consF true (chkF isIntD fl) nilF))
theorem se_slH {te tl : TE} {f fl : List D → R Rv} (h1 : SE M W b1 te f) (h2 : SE M W b2 tl fl) : SE M W (b1 && (b2 && true)) (tSl (rSlAll M.K) te tNoPart (tPart tl)) (slHF b2 f fl) :=
  se_n (sa_cons h1 (sa_chk isIntD cInt cInt_ok h2 sa_nil)) rn_slH
def slNF (f : List D → R Rv) : List D → R Rv := opN slNd (consF true f nilF)
theorem se_slN {te : TE} {f : List D → R Rv} (h1 : SE M W b1 te f) : SE M W (b1 && true) (tSl (rSlAll M.K) te tNoPart tNoPart) (slNF f) :=
  se_n (sa_cons h1 sa_nil) rn_slN
/-! ### not x, as a value -/
def notD : D → Option D := fun d => (truD d).map fun k => .bl (!k)
theorem rn_not : RN1 M (fun x H Q => ∃ k, TruV M.K x H k ∧ Q (.bl (!k)) H) notD := by
  intro F H x d z Sx Q fh rx h k
  unfold notD at h
  cases q : truD d with
  | none => rw [q] at h; cases h
  | some c =>
    rw [q] at h
    cases h
    exact ⟨c, truV_ok q rx fh, k _ _ _ _ (NewR.same fh (by simp [RO]))⟩
theorem se_not {te : TE} {f : List D → R Rv} (h : SE M W b te f) : SE M W (b && true) (tNotT M.K te) (una notD f) := se_un rn_not h
/-! ### list(d.items()), list(d.values()) -/
theorem se_litems {te : TE} {f : List D → R Rv} (h : SE M W b te f) : SE M W (b && true) (VH.tListItemsR te) (una itemsLD f) := se_un rn_itemsL h
theorem se_lvals {te : TE} {f : List D → R Rv} (h : SE M W b te f) : SE M W (b && true) (VH.tListVals te) (una valsD f) := se_un rn_vals h
theorem ros_cons {d : D} {ds : List D} {v : V} {vs : List V} (h : RO M F H d v em) (h2 : ROs M F H ds vs em) : ROs M F H (d :: ds) (v :: vs) em := by
  simp only [ROs]
  exact ⟨v, vs, em, em, rfl, h, h2, fun _ h _ => h.elim, (em_un em).symm⟩
theorem ros_nil : ROs M F H [] [] em := by simp [ROs]
/-! ### what is never reached -/
theorem ss_never : SS M W pr tNever (fun _ => .stuck) := fun D F H env σ S st en h => h.elim
/-! ### nothing may be let out -/
theorem pass0W {X : Cx} {P : Program} {w : World} (σ : L2.St) : PassesAt (L2.CX P w) X σ (WE W0 σ) := fun _ _ _ _ _ _ c => by
  obtain ⟨_, _, _, _, _, _, _, _, _, _, _, _, h⟩ := c
  exact h.elim
end
/-- a promise that lets out nothing -/
def spD0 (M : Mn) (Fn : List D → FR) : Sp := fun vs H Q E => ∃ F ds S, Stt M F H S ∧ ROs M F H ds vs S ∧
  match Fn ds with
  | .ok d ds' => ∀ v F' H' S1 S2, Step F H S F' H' (un S1 S2) → Stt M F' H' (un S1 S2) → ROs M F' H' ds' vs S1 → RO M F' H' d v S2 → dj S1 S2 → Q v H'
  | _ => False
section
variable {M : Mn} {W : WD} {b b1 b2 : Bool} {F H F' H' F1 H1 : Hp} {env env' env1 : List D} {σ : L2.St} {S S' S1 T : AS} {pr : Nat → Bool}
theorem fnD0 {P : Program} {w : World} {mg : Str → Option Value} {base : Heap} {x qual : Str} {params : Arguments} {body : List Stmt} {scope : Scope} {dvs : List V} {kws : List (Str × V)} {fa : Addr} {fd : FuncData} {N ps : List Str} {k m : Nat} {re : List Bool} {f : List D → SR} {CX : CXT}
    (FD : FunD M.K x qual params body scope dvs kws fa fd) (SC : FnScope N ps scope) (hre : re.length = ps.length) (hm : N.length = ps.length + m)
    (hb : ∀ (cdv : Value) (A : Around) (outer : List Env) (s : Shared) (H : Hp) (E : XK), Room k (A.deeper (envOfC qual scope s.heap.objs.size fa cdv)) →
      ∃ ts, PSs (cxOf CX P w M.K mg base N qual scope fa cdv A outer s H E) body ts ∧ SS M W0 (prOf re) ts f) :
    FnOk P w M.K mg base CX (k + 1) fa fd ps (spD0 M (bodyF re m f)) := by
  refine FD.ok SC (fun vs H Q E h => ?_) (fun cdv A outer s H vs Q E hr h => ?_)
  · obtain ⟨F, ds, S, st, ro, h⟩ := h
    unfold bodyF at h
    split at h
    · rename_i hh
      split at hh
      · rename_i hc
        rw [← ro.len, hc.1, hre]
      · cases hh
    · exact h.elim
  · obtain ⟨ts, p1, p2⟩ := hb cdv A outer s H E hr
    refine ⟨ts, p1, ?_⟩
    obtain ⟨F, ds, S, st, ro, h⟩ := h
    unfold bodyF at h
    by_cases hc : ds.length = re.length ∧ reOk re ds = true
    · rw [if_pos hc] at h
      have hv : vs.length = ps.length := by rw [← ro.len, hc.1, hre]
      have hl : N.length - vs.length = m := by omega
      have en : EnvR M F H (ds ++ List.replicate m .unset) (L2.start N vs) S := by
        refine ⟨vs ++ List.replicate m V.non, ?_, ?_, fun i d hd hs => ?_⟩
        · have := ro.app (ROs.unsets (M := M) (F := F) (H := H) m) (fun _ _ h => h.elim)
          rw [un_em] at this
          exact this
        · simp [L2.start, hl, ro.len]
        · have hi : i < ds.length := by
            by_cases hi : i < ds.length
            · exact hi
            · rw [List.getElem?_append_right (by omega)] at hd
              have := List.eq_of_mem_replicate (List.mem_of_getElem? hd)
              subst this
              cases hs
          have hiv : i < vs.length := by rw [← ro.len]; exact hi
          unfold L2.start
          rw [List.getElem?_append_left (by simpa using hiv), List.getElem?_append_left hiv, List.getElem?_map]
          rw [List.getElem?_eq_getElem hiv]
          rfl
      refine p2 _ F H _ _ S st en ?_
      -- what is given back
      have back : ∀ {env' : List D} {σ' : L2.St} {F' H' : Hp} {S1 : AS}, EnvR M F' H' env' σ' S1 → Ext F F' → Pr (prOf re) (L2.start N vs) σ' → ∃ T, ROs M F' H' (backD re ds env') vs T ∧ ∀ a, T a → S1 a := fun {env' σ' F' H' S1} en' ef p => by
        obtain ⟨ws, rw', lw, qw⟩ := en'
        have lσ : ∀ i, i < vs.length → (L2.start N vs)[i]? = some (vs[i]?) := fun i hi => by
          unfold L2.start
          rw [List.getElem?_append_left (by simpa using hi), List.getElem?_map, List.getElem?_eq_getElem hi]
          rfl
        have hre2 : ∀ i, re[i]? = some false → i < vs.length := fun i h => by
          have := (List.getElem?_eq_some_iff.mp h).1
          rw [← ro.len, hc.1]; exact this
        refine backD_ok rw' hc.1.symm ro.len (fun i d hd hs hr => ?_) (fun i d hd hr => ?_)
        · have e1 := qw i d hd hs
          have e2 := p.2 i (by simp [prOf, hr])
          rw [e2, lσ i (hre2 i hr)] at e1
          exact (Option.some.inj e1).symm
        · obtain ⟨v, T, e1, e2⟩ := ro.get hd
          have := e2.fz_em (reOk_get hc.2 hd hr)
          subst this
          exact ⟨v, e1, e2.mono d ef fun _ h => h.elim⟩
      have pS : ∀ {E1 : V} {σ' : L2.St} {F' H' : Hp} {S' : AS}, True := trivial
      cases hf : f (ds ++ List.replicate m .unset) with
      | nx env' =>
        rw [hf] at h
        intro σ' F' H' S' s1 st1 en1 p1
        obtain ⟨T, t1, t2⟩ := back en1 s1.ext p1
        refine h .non F' H' T em ?_ ?_ t1 (by simp [RO]) (fun _ _ h => h.elim)
        · rw [un_em]; exact s1.drop t2
        · rw [un_em]; exact st1.sub t2
      | ret d env' =>
        rw [hf] at h
        intro v σ' F' H' S' s1 st1 r1 p1
        obtain ⟨Se, St, en1, ro1, dd, rfl⟩ := r1.tmp_in
        obtain ⟨T, t1, t2⟩ := back en1 s1.ext p1
        have o : ∀ a, un T St a → un Se St a := fun a z => z.imp (t2 a) id
        exact h v F' H' T St (s1.drop o) (st1.sub o) t1 ro1 (fun a x y => dd a (t2 a x) y)
      | err c d env' => rw [hf] at h; exact h.elim
      | brk e => rw [hf] at h; exact h.elim
      | ct e => rw [hf] at h; exact h.elim
      | stuck => rw [hf] at h; exact h.elim
    · rw [if_neg hc] at h
      exact h.elim

end
end VS
set_option maxHeartbeats 1000000
/-! VSEq: dicts compared. -/
namespace VH
open PySem PySem.Spec PyProof.Rows L2
variable {X : Cx}
def rEqDR (neg : Bool) : R2 := fun x y H Q => ∃ a b ks ls, x = .ref a ∧ y = .ref b ∧ Rd H a (.dK ks) ∧ Rd H b (.dK ls) ∧
  ks.length = ls.length ∧ (∀ p ∈ ks, valV ls p.1 = some p.2 ∧ flatB p.2 = true) ∧ Q (.bl (!neg)) H
theorem op_eqDR (hu : X.A.units < cLine) : OpR X (compareOp .Eq) (rEqDR false) := by
  intro pins s σ H x y v u Q I rx ry h
  obtain ⟨a, b, ks, ls, rfl, rfl, ea, eb, hlen, hp, q⟩ := h
  obtain rfl : v = Value.ref a := rx
  obtain rfl : u = Value.ref b := ry
  obtain ⟨_, ya, va, ra, da⟩ := dk_rd I.hok ea
  obtain ⟨_, yb, vb, rb, db⟩ := dk_rd I.hok eb
  have hl : va.length = vb.length := by rw [← ra.length, ← rb.length]; exact hlen
  exact PySem.W.keq_eq (knd := mixKind X.prog X.w) (r := true) ya yb da db hu
    (fun _ => hits_all rb ra hp) (fin_bl I q (by simp [hl]))
theorem op_neDR (hu : X.A.units < cLine) : OpR X (compareOp .NotEq) (rEqDR true) := by
  intro pins s σ H x y v u Q I rx ry h
  obtain ⟨a, b, ks, ls, rfl, rfl, ea, eb, hlen, hp, q⟩ := h
  obtain rfl : v = Value.ref a := rx
  obtain rfl : u = Value.ref b := ry
  obtain ⟨_, ya, va, ra, da⟩ := dk_rd I.hok ea
  obtain ⟨_, yb, vb, rb, db⟩ := dk_rd I.hok eb
  have hl : va.length = vb.length := by rw [← ra.length, ← rb.length]; exact hlen
  exact PySem.W.keq_ne (knd := mixKind X.prog X.w) (r := true) ya yb da db hu
    (fun _ => hits_all rb ra hp) (fin_bl I q (by simp [hl]))
end VH
namespace VS
open PySem PyProof.Rows L2
section
variable {M : Mn} {W : WD} {b b1 b2 b3 : Bool} {F H F' H' F1 H1 : Hp} {env env' env1 : List D} {σ : L2.St} {S S' S1 T : AS} {pr : Nat → Bool}
def flatD : D → Bool
  | .non => true
  | .bl _ => true
  | .int _ => true
  | .str _ => true
  | _ => false
def allIn (ls ws : List D) : List D → List D → Bool
  | k :: ks, v :: vs => decide (lkD ls ws k = some v) && (flatD v && allIn ls ws ks vs)
  | _, _ => true
def eqdD (neg : Bool) : D → D → Option D
  | .dct _ false ks vs, .dct _ false ls ws => if ks.length = ls.length ∧ allIn ls ws ks vs = true then some (.bl (!neg)) else none
  | _, _ => none
theorem flat_det {d : D} {v w : V} {S T : AS} (h : flatD d = true) (r1 : RO M F H d v S) (r2 : RO M F H d w T) : v = w ∧ flatB v = true := by
  cases d with
  | non => simp only [RO] at r1 r2; rw [r1.1, r2.1]; exact ⟨rfl, rfl⟩
  | bl b => simp only [RO] at r1 r2; rw [r1.1, r2.1]; exact ⟨rfl, rfl⟩
  | int b => simp only [RO] at r1 r2; rw [r1.1, r2.1]; exact ⟨rfl, rfl⟩
  | str b => simp only [RO] at r1 r2; rw [r1.1, r2.1]; exact ⟨rfl, rfl⟩
  | _ => cases h
theorem allIn_ok {kvs lvs : List (Key × V)} {us ws : List D} {S T : AS} (r2 : ROs M F H ws (lvs.map (·.2)) T) (r : ROs M F H us (kvs.map (·.2)) S)
    (h : allIn (lvs.map fun p => dkey p.1) ws (kvs.map fun p => dkey p.1) us = true) : ∀ p ∈ kvs, valV lvs p.1 = some p.2 ∧ flatB p.2 = true := by
  induction kvs generalizing us S with
  | nil => intro p hp; cases hp
  | cons q kvs ih =>
    cases us with
    | nil => simp only [List.map, ROs] at r; cases r.1
    | cons u us =>
      simp only [List.map, ROs] at r
      obtain ⟨v, vs, S1, S2, e, ra, rb, _, _⟩ := r
      cases e
      simp only [List.map, allIn, Bool.and_eq_true] at h
      intro p hp
      rcases List.mem_cons.mp hp with rfl | hp
      · have hl := of_decide_eq_true h.1
        obtain ⟨w, T', e1, rw'⟩ := (lk_ok (f := dkey) (fun _ _ => dkey_inj) (j := p.1) r2).1 u hl
        obtain ⟨e2, fl⟩ := flat_det h.2.1 ra rw'
        rw [e1, e2]
        exact ⟨rfl, by rw [← e2]; exact fl⟩
      · exact ih rb h.2.2 p hp
theorem rn_eqd (neg : Bool) : RN2 M (VH.rEqDR neg) (eqdD neg) := by
  intro F H x y d e z Sx Sy Q fh rx ry h k
  unfold eqdD at h
  split at h
  · rename_i o ks vs o' ls ws
    split at h
    · rename_i hc
      cases h
      obtain ⟨a, Ta, kvs, rfl, rda, rfl, ra, _⟩ := rx.dctK fh
      obtain ⟨c, Tc, lvs, rfl, rdc, rfl, rc, _⟩ := ry.dctK fh
      refine ⟨a, c, kvs, lvs, rfl, rfl, rda, rdc, by simpa using hc.1, allIn_ok rc ra hc.2, k _ _ _ _ (NewR.same fh (by simp [RO]))⟩
    · cases h
  · cases h
end
end VS
/-! VSim: what the words answer, for simp; loops by invariants. -/
namespace VS
open PySem PyProof.Rows L2
@[simp] theorem R_bind_ok {α β : Type} (a : α) (e : List D) (k : α → List D → R β) : (R.ok a e).bind k = k a e := rfl
@[simp] theorem R_bind_err {α β : Type} (c : Str) (d : D) (e : List D) (k : α → List D → R β) : (R.err c d e : R α).bind k = .err c d e := rfl
@[simp] theorem R_bind_st {α β : Type} (k : α → List D → R β) : (R.stuck : R α).bind k = .stuck := rfl
@[simp] theorem SR_seq_nx (e : List D) (k : List D → SR) : (SR.nx e).seq k = k e := rfl
@[simp] theorem SR_seq_ret (d : D) (e : List D) (k : List D → SR) : (SR.ret d e).seq k = .ret d e := rfl
@[simp] theorem SR_seq_err (c : Str) (d : D) (e : List D) (k : List D → SR) : (SR.err c d e).seq k = .err c d e := rfl
@[simp] theorem SR_seq_brk (e : List D) (k : List D → SR) : (SR.brk e).seq k = .brk e := rfl
@[simp] theorem SR_seq_ct (e : List D) (k : List D → SR) : (SR.ct e).seq k = .ct e := rfl
@[simp] theorem SR_of_ok {α : Type} (a : α) (e : List D) (k : α → List D → SR) : SR.of (.ok a e) k = k a e := rfl
@[simp] theorem SR_of_err {α : Type} (c : Str) (d : D) (e : List D) (k : α → List D → SR) : SR.of (.err c d e) k = .err c d e := rfl
section
variable (env : List D)
@[simp] theorem ev_seqS (f g : List D → SR) : seqS f g env = (f env).seq g := rfl
@[simp] theorem ev_nextS : nextS env = .nx env := rfl
@[simp] theorem ev_brkS : brkS env = .brk env := rfl
@[simp] theorem ev_ctS : ctS env = .ct env := rfl
@[simp] theorem ev_retNS : retNS env = .ret .non env := rfl
@[simp] theorem ev_asgS (f : List D → R Rv) (g : D → List D → Option (List D)) : asgS f g env = SR.of (f env) fun r env1 => match esc1 r env1 with
  | some (d, env2) => match g d env2 with
    | some env3 => .nx env3
    | none => .stuck
  | none => .stuck := rfl
@[simp] theorem ev_dropS (f : List D → R Rv) : dropS f env = SR.of (f env) fun _ env1 => .nx env1 := rfl
@[simp] theorem ev_ifS (t : List D → R Bool) (f g : List D → SR) : ifS t f g env = SR.of (t env) fun k env1 => if k = true then f env1 else g env1 := rfl
@[simp] theorem ev_forS (it : List D → R (List D)) (g : D → List D → Option (List D)) (body : List D → SR) : forS it g body env = SR.of (it env) fun ds env1 => loopS g body ds env1 := rfl
theorem ev_retS (pr : Nat → Bool) (f : List D → R Rv) : retS pr f env = SR.of (f env) fun r env1 => match r with
  | .pth i [] => if pr i = true then (match esc1 (.pth i []) env1 with
      | some (d, env2) => .ret d env2
      | none => .stuck) else (match env1[i]? with
      | some e => if own e = true then .ret e (env1.set i .unset) else .stuck
      | none => .stuck)
  | r => match esc1 r env1 with
    | some (d, env2) => .ret d env2
    | none => .stuck := rfl
@[simp] theorem ret_tmp (pr : Nat → Bool) (f : List D → R Rv) {d : D} {e : List D} (h : f env = .ok (.tmp d) e) (hs : isSet d = true) : retS pr f env = .ret d e := by
  rw [ev_retS, h]
  simp [SR.of, esc1, hs]
@[simp] theorem esc1_tmp (d : D) : esc1 (.tmp d) env = if isSet d = true then some (d, env) else none := rfl
@[simp] theorem esc1_pth (i : Nat) (p : List Nat) : esc1 (.pth i p) env = match getE env i p with
    | some e => if own e = true then some (fz e, setE env i p (fz e)) else none
    | none => none := rfl
@[simp] theorem ev_tmpd (d : D) : tmpd d env = .ok (.tmp d) env := rfl
@[simp] theorem ev_nilF : nilF env = .ok [] env := rfl
@[simp] theorem ev_consF (b2 : Bool) (f : List D → R Rv) (g : List D → R (List Rv)) : consF b2 f g env = (f env).bind fun r env1 => if nested r = true ∧ b2 = false then .stuck else (g env1).bind fun rs env2 => .ok (r :: rs) env2 := rfl
@[simp] theorem nested_tmp (d : D) : nested (.tmp d) = false := rfl
@[simp] theorem nested_nil (i : Nat) : nested (.pth i []) = false := rfl
@[simp] theorem ev_varF (i : Nat) : varF i env = match env[i]? with
  | some d => if isFz d = true then .ok (.tmp d) env else if own d = true then .ok (.pth i []) env else .stuck
  | none => .stuck := rfl
@[simp] theorem fetch_tmp (d : D) : fetch env (.tmp d) = if isSet d = true then some d else none := rfl
@[simp] theorem fetch_pth_nil (i : Nat) : fetch env (.pth i []) = match getE env i [] with
    | some e => if isSet e = true then some e else none
    | none => none := by
  have h : ∀ e : D, (own e || isSet e) = isSet e := fun e => by cases e <;> simp [own, isSet]
  cases g : getE env i [] <;> simp [fetch, g, h]
@[simp] theorem fetch_pth_cons (i k : Nat) (p : List Nat) : fetch env (.pth i (k :: p)) = match getE env i (k :: p) with
    | some e => if own e = true then some e else none
    | none => none := by
  cases g : getE env i (k :: p) <;> simp [fetch, g]
@[simp] theorem getE_nil (i : Nat) : getE env i [] = env[i]? := by
  unfold getE
  cases env[i]? <;> rfl
@[simp] theorem setE_nil (i : Nat) (d : D) (h : i < env.length) : setE env i [] d = env.set i d := by
  unfold setE
  rw [List.getElem?_eq_getElem h]
  rfl
@[simp] theorem fetchs_nil : fetchs env [] = some [] := rfl
@[simp] theorem fetchs_cons (r : Rv) (rs : List Rv) : fetchs env (r :: rs) = (fetch env r).bind fun d => (fetchs env rs).bind fun ds => some (d :: ds) := rfl
@[simp] theorem ev_opN (o : List D → Option D) (fs : List D → R (List Rv)) : opN o fs env = (fs env).bind fun rs env1 => match (fetchs env1 rs).bind o with
  | some z => .ok (.tmp z) env1
  | none => .stuck := rfl
@[simp] theorem ev_bin (b2 : Bool) (f : D → D → Option D) (fa fb : List D → R Rv) : bin b2 f fa fb env = opN (op2 f) (consF (b2 && true) fa (consF true fb nilF)) env := rfl
@[simp] theorem ev_una (f : D → Option D) (fa : List D → R Rv) : una f fa env = opN (op1 f) (consF true fa nilF) env := rfl
@[simp] theorem op1_one (f : D → Option D) (a : D) : op1 f [a] = f a := rfl
@[simp] theorem op2_two (f : D → D → Option D) (a b : D) : op2 f [a, b] = f a b := rfl
@[simp] theorem ev_lstF (fs : List D → R (List Rv)) : lstF fs env = (fs env).bind fun rs env1 => match escz rs env1 with
  | some (ds, env2) => if ds.length ≤ LIM then .ok (.tmp (.lst true ds)) env2 else .stuck
  | none => .stuck := rfl
@[simp] theorem ev_tupF (fs : List D → R (List Rv)) : tupF fs env = (fs env).bind fun rs env1 => match escz rs env1 with
  | some (ds, env2) => if ds.length ≤ LIM then .ok (.tmp (.tup false ds)) env2 else .stuck
  | none => .stuck := rfl
@[simp] theorem escs_nil : escs [] env = some ([], env) := rfl
@[simp] theorem escs_tmp (d : D) (rs : List Rv) : escs (.tmp d :: rs) env = if isSet d = true then (escs rs env).map fun q => (d :: q.1, q.2) else none := rfl
@[simp] theorem escs_pth (i : Nat) (p : List Nat) (rs : List Rv) : escs (.pth i p :: rs) env = match getE env i p with
    | some e => if own e = true then (escs rs (setE env i p (fz e))).map fun q => (fz e :: q.1, q.2) else none
    | none => none := rfl
@[simp] theorem ev_escz (rs : List Rv) : escz rs env = (escs rs env).map fun q => (fzs q.1, q.2) := rfl
@[simp] theorem ev_nameG (i : Nat) (d : D) : nameG i d env = match env[i]? with
  | some _ => some (env.set i d)
  | none => none := rfl
@[simp] theorem ev_tupG (gs : List D → List D → Option (List D)) (o : Bool) (xs : List D) : tupG gs (.tup o xs) env = gs xs env := rfl
@[simp] theorem ev_consG (g : D → List D → Option (List D)) (gs : List D → List D → Option (List D)) (d : D) (ds : List D) : consG g gs (d :: ds) env = if isSet d = true then (g d env).bind fun env1 => gs ds env1 else none := rfl
@[simp] theorem ev_nilG : nilG [] env = some env := rfl
@[simp] theorem ev_callF (Fn : List D → FR) (dd : List D) (fs : List D → R (List Rv)) : callF Fn dd fs env = (fs env).bind fun rs env1 => match takes rs env1 with
  | some (ds, env2) => match Fn (ds ++ dd) with
    | .ok d ds' => .ok (.tmp d) (putBack rs env1 (ds'.take ds.length) env2)
    | .err c d ds' => .err c d (putBack rs env1 (ds'.take ds.length) env2)
    | .stuck => .stuck
  | none => .stuck := rfl
@[simp] theorem takes_nil : takes [] env = some ([], env) := rfl
@[simp] theorem takes_tmp (d : D) (rs : List Rv) : takes (.tmp d :: rs) env = if isSet d = true then (takes rs env).map fun q => (d :: q.1, q.2) else none := rfl
@[simp] theorem takes_pth (i : Nat) (p : List Nat) (rs : List Rv) : takes (.pth i p :: rs) env = match env[i]? with
    | some d => match getP d p with
      | some e => if own e = true then (takes rs (env.set i .hole)).map fun q => (e :: q.1, q.2) else none
      | none => none
    | none => none := rfl
@[simp] theorem getP_nil (d : D) : getP d [] = some d := rfl
@[simp] theorem setP_nil (d e : D) : setP d [] e = e := rfl
@[simp] theorem putBack_nil (e0 ds : List D) : putBack [] e0 ds env = env := by cases ds <;> rfl
@[simp] theorem putBack_tmp (d d' : D) (rs : List Rv) (e0 ds : List D) : putBack (.tmp d :: rs) e0 (d' :: ds) env = putBack rs e0 ds env := rfl
@[simp] theorem putBack_pth (i : Nat) (p : List Nat) (d' : D) (rs : List Rv) (e0 ds : List D) : putBack (.pth i p :: rs) e0 (d' :: ds) env = match e0[i]? with
    | some d => (putBack rs (e0.set i .hole) ds env).set i (setP d p d')
    | none => env := rfl
@[simp] theorem ev_testF (f : List D → R Rv) : testF f env = (f env).bind fun r env1 => match r with
  | .tmp (.bl k) => .ok k env1
  | _ => .stuck := rfl
@[simp] theorem ev_truF (f : List D → R Rv) : truF f env = (f env).bind fun r env1 => match (fetch env1 r).bind truD with
  | some k => .ok k env1
  | none => .stuck := rfl
@[simp] theorem ev_andF (f g : List D → R Bool) : andF f g env = (f env).bind fun k env1 => if k = true then g env1 else .ok false env1 := rfl
@[simp] theorem ev_orF (f g : List D → R Bool) : orF f g env = (f env).bind fun k env1 => if k = true then .ok true env1 else g env1 := rfl
@[simp] theorem ev_notF (f : List D → R Bool) : notF f env = (f env).bind fun k env1 => .ok (!k) env1 := rfl
@[simp] theorem ev_lorF (neg : Bool) (fa fb : List D → R Rv) : lorF neg fa fb env = (fa env).bind fun r env1 => match (fetch env1 r).bind truD with
  | some k => if (k != neg) = true then .ok r env1 else fb env1
  | none => .stuck := rfl
@[simp] theorem ev_ifeF (t : List D → R Bool) (fa fb : List D → R Rv) : ifeF t fa fb env = (t env).bind fun k env1 => if k = true then fa env1 else fb env1 := rfl
@[simp] theorem ev_chkF (chk : D → Bool) (f : List D → R Rv) : chkF chk f env = (f env).bind fun r env1 => match fetch env1 r with
  | some d => if chk d = true then .ok r env1 else .stuck
  | none => .stuck := rfl
@[simp] theorem ev_mutF (j : Nat) (opm : D → List D → Option (D × D)) (fs : List D → R (List Rv)) : mutF j opm fs env = (fs env).bind fun rs env1 => match rs[j]? with
  | some (.pth i p) => match escz (rs.eraseIdx j) env1 with
    | some (ds, env2) => match getE env2 i p with
      | some e => if own e = true then (match opm e ds with
        | some (e', z) => if isSet z = true then .ok (.tmp z) (setE env2 i p e') else .stuck
        | none => .stuck) else .stuck
      | none => .stuck
    | none => .stuck
  | _ => .stuck := rfl
@[simp] theorem ev_mutS (j : Nat) (opm : D → List D → Option (D × D)) (fs : List D → R (List Rv)) : mutS j opm fs env = SR.of (mutF j opm fs env) fun _ env1 => .nx env1 := rfl
@[simp] theorem ev_bmF (T : String) (b2 : Bool) (opm : D → List D → Option (D × D)) (fo : List D → R Rv) (fs : List D → R (List Rv)) : bmF T b2 opm fo fs env = mutF 0 opm (consF b2 (chkF (tyD T) fo) fs) env := rfl
@[simp] theorem ev_setS (bo bi : Bool) (fv fo fi : List D → R Rv) : setS bo bi fv fo fi env = mutS 1 seM (consF (bo && (bi && true)) fv (consF (bi && true) fo (consF true fi nilF))) env := rfl
@[simp] theorem ev_putS (bo bi : Bool) (fv fo fi : List D → R Rv) : putS bo bi fv fo fi env = mutS 1 puM (consF (bo && (bi && true)) fv (consF (bi && true) fo (consF true fi nilF))) env := rfl
@[simp] theorem ev_stoS (bo bi : Bool) (fv fo fi : List D → R Rv) : stoS bo bi fv fo fi env = mutS 1 stoM (consF (bo && (bi && true)) fv (consF (bi && true) fo (consF true fi nilF))) env := rfl
@[simp] theorem ev_parS (i j : Nat) (fs : List D → R (List Rv)) : parS i j fs env = SR.of (fs env) fun rs env1 => match escs rs env1 with
  | some ([d, e], env2) => match env2[i]? with
    | some _ => match (env2.set i d)[j]? with
      | some _ => .nx ((env2.set i d).set j e)
      | none => .stuck
    | none => .stuck
  | _ => .stuck := rfl
@[simp] theorem ev_itF (fs : List D → R (List Rv)) (k : List D → Option (List D)) : itF fs k env = (fs env).bind fun rs env1 => match (fetchs env1 rs).bind k with
      | some its => .ok its env1
      | none => .stuck := rfl
@[simp] theorem ev_itZ (fs : List D → R (List Rv)) (k : List D → Option (List D)) : itZ fs k env = (fs env).bind fun rs env1 => match escs rs env1 with
  | some (ds, env2) => match k ds with
    | some its => .ok its env2
    | none => .stuck
  | none => .stuck := rfl
@[simp] theorem ev_seqF (f : List D → R Rv) : seqF f env = (f env).bind fun r env1 => match esc1 r env1 with
  | some (d, env2) => match itemsD d with
    | some its => if setAll its = true then .ok its env2 else .stuck
    | none => .stuck
  | none => .stuck := rfl
@[simp] theorem ev_m1F (opd : D → D → Option D) (fs fe : List D → R Rv) : m1F opd fs fe env = opN (op2 opd) (consF true (chkF isStrD fs) (consF true fe nilF)) env := rfl
@[simp] theorem ev_dget3F (b2 b3 : Bool) (fd fk fx : List D → R Rv) : dget3F b2 b3 fd fk fx env = opN getD3 (consF (b2 && (b3 && true)) (chkF isDct fd) (consF (b3 && true) fk (consF true fx nilF))) env := rfl
@[simp] theorem ev_dget2F (b2 : Bool) (fd fk : List D → R Rv) : dget2F b2 fd fk env = opN getD2 (consF (b2 && true) (chkF isDct fd) (consF true fk nilF)) env := rfl
@[simp] theorem ev_slLHF (b2 b3 : Bool) (f fl fh : List D → R Rv) : slLHF b2 b3 f fl fh env = opN slLHd (consF (b2 && (b3 && true)) f (consF (b3 && true) (chkF isIntD fl) (consF true (chkF isIntD fh) nilF))) env := rfl
@[simp] theorem ev_slLF (b2 : Bool) (f fl : List D → R Rv) : slLF b2 f fl env = opN slLd (consF (b2 && true) f (consF true (chkF isIntD fl) nilF)) env := rfl
@[simp] theorem ev_slHF (b2 : Bool) (f fl : List D → R Rv) : slHF b2 f fl env = opN slHd (consF (b2 && true) f (consF true (chkF isIntD fl) nilF)) env := rfl
@[simp] theorem ev_slNF (f : List D → R Rv) : slNF f env = opN slNd (consF true f nilF) env := rfl
@[simp] theorem ev_lcF (it : List D → R (List D)) (gf : D → List D → Option (List D)) (t : List D → R Bool) (e : List D → R Rv) (vs : List Nat) : lcF it gf t e vs env = (it env).bind fun ds env1 =>
  if okW env1 vs = true then ((lcL gf t e vs ds (wipeE env1 vs) []).bind fun acc env2 => .ok (.tmp (.lst true acc)) (unwipe env1 vs env2)) else .stuck := rfl
@[simp] theorem ev_dcF (it : List D → R (List D)) (gf : D → List D → Option (List D)) (t : List D → R Bool) (kv : List D → R (List Rv)) (vs : List Nat) : dcF it gf t kv vs env = (it env).bind fun ds env1 =>
  if okW env1 vs = true then ((dcL gf t kv vs ds (wipeE env1 vs) [] []).bind fun acc env2 => .ok (.tmp (.dct true false acc.1 acc.2)) (unwipe env1 vs env2)) else .stuck := rfl
@[simp] theorem ev_lcDF (i kind : Nat) (gf : D → List D → Option (List D)) (t : List D → R Bool) (e : List D → R Rv) (vs : List Nat) : lcDF i kind gf t e vs env = match lockE i kind env with
  | some (its, env0, o) => lcF (fun e => .ok its e) gf t e vs env0
  | none => .stuck := rfl
@[simp] theorem ev_dcDF (i kind : Nat) (gf : D → List D → Option (List D)) (t : List D → R Bool) (kv : List D → R (List Rv)) (vs : List Nat) : dcDF i kind gf t kv vs env = match lockE i kind env with
  | some (its, env0, o) => dcF (fun e => .ok its e) gf t kv vs env0
  | none => .stuck := rfl
@[simp] theorem ev_forDS (i kind : Nat) (gf : D → List D → Option (List D)) (body : List D → SR) : forDS i kind gf body env = match lockE i kind env with
  | some (its, env0, o) => match loopS gf body its env0 with
    | .err c d e => if o = true then .err c d e else .stuck
    | x => x
  | none => .stuck := rfl
theorem ev_bodyF (re : List Bool) (m : Nat) (f : List D → SR) (ds : List D) : bodyF re m f ds = if ds.length = re.length ∧ reOk re ds = true then (match f (ds ++ List.replicate m .unset) with
  | .nx env => .ok .non (backD re ds env)
  | .ret d env => .ok d (backD re ds env)
  | .err c d env => .err c d (backD re ds env)
  | _ => .stuck) else .stuck := rfl
end
/-! ### data -/
section
variable (o : Bool) (xs : List D) (i j : Int) (s t : List Nat)
@[simp] theorem isFz_int : isFz (.int i) = true := rfl
@[simp] theorem isFz_str : isFz (.str s) = true := rfl
@[simp] theorem isFz_bl (b : Bool) : isFz (.bl b) = true := rfl
@[simp] theorem isFz_non : isFz .non = true := rfl
@[simp] theorem isFz_scr (ns : List Int) : isFz (.scr ns) = true := rfl
@[simp] theorem isFz_fn (c : Str) : isFz (.fn c) = true := rfl
@[simp] theorem isSet_fn (c : Str) : isSet (.fn c) = true := rfl
@[simp] theorem fz_fn (c : Str) : fz (.fn c) = .fn c := rfl
@[simp] theorem own_fn (c : Str) : VS.own (.fn c) = false := rfl
@[simp] theorem isFz_exc (c : Str) (d : D) : isFz (.exc c d) = true := rfl
@[simp] theorem isSet_exc (c : Str) (d : D) : isSet (.exc c d) = true := rfl
@[simp] theorem fz_exc (c : Str) (d : D) : fz (.exc c d) = .exc c d := rfl
@[simp] theorem own_exc (c : Str) (d : D) : VS.own (.exc c d) = false := rfl
@[simp] theorem isFz_lst : isFz (.lst o xs) = !o := rfl
@[simp] theorem isFz_tup : isFz (.tup o xs) = !o := rfl
@[simp] theorem isFz_dct (t : Bool) (ks : List D) : isFz (.dct o t ks xs) = !o := rfl
@[simp] theorem isFz_unset : isFz .unset = false := rfl
@[simp] theorem isSet_int : isSet (.int i) = true := rfl
@[simp] theorem isSet_str : isSet (.str s) = true := rfl
@[simp] theorem isSet_bl (b : Bool) : isSet (.bl b) = true := rfl
@[simp] theorem isSet_non : isSet .non = true := rfl
@[simp] theorem isSet_scr (ns : List Int) : isSet (.scr ns) = true := rfl
@[simp] theorem isSet_lst : isSet (.lst o xs) = true := rfl
@[simp] theorem isSet_tup : isSet (.tup o xs) = true := rfl
@[simp] theorem isSet_dct (t : Bool) (ks : List D) : isSet (.dct o t ks xs) = true := rfl
@[simp] theorem isSet_unset : isSet .unset = false := rfl
@[simp] theorem own_lst : own (.lst o xs) = o := rfl
@[simp] theorem own_tup : own (.tup o xs) = o := rfl
@[simp] theorem own_dct (t : Bool) (ks : List D) : own (.dct o t ks xs) = o := rfl
@[simp] theorem own_int : own (.int i) = false := rfl
@[simp] theorem own_str : own (.str s) = false := rfl
@[simp] theorem fz_int : fz (.int i) = .int i := rfl
@[simp] theorem fz_str : fz (.str s) = .str s := rfl
@[simp] theorem fz_bl (b : Bool) : fz (.bl b) = .bl b := rfl
@[simp] theorem fz_non : fz .non = .non := rfl
@[simp] theorem fz_scr (ns : List Int) : fz (.scr ns) = .scr ns := rfl
@[simp] theorem fz_lst : fz (.lst o xs) = .lst false (xs.map fz) := by rw [← fzs_map]; rfl
@[simp] theorem fz_tup : fz (.tup o xs) = .tup false (xs.map fz) := by rw [← fzs_map]; rfl
@[simp] theorem fz_dct (t : Bool) (ks : List D) : fz (.dct o t ks xs) = .dct false t ks (xs.map fz) := by rw [← fzs_map]; rfl
@[simp] theorem fzs_is : fzs xs = xs.map fz := fzs_map xs
@[simp] theorem addD_int : addD (.int i) (.int j) = some (.int (i + j)) := rfl
@[simp] theorem addD_str : addD (.str s) (.str t) = if s.length + t.length ≤ LIM then some (.str (s ++ t)) else none := rfl
@[simp] theorem subD_int : subD (.int i) (.int j) = some (.int (i - j)) := rfl
@[simp] theorem modD_int : modD (.int i) (.int j) = if 0 < j then some (.int (i % j)) else none := rfl
@[simp] theorem fdivD_int : fdivD (.int i) (.int j) = if 0 < j ∧ j < 1000000000 then some (.int (i / j)) else none := rfl
@[simp] theorem powD_int : powD (.int i) (.int j) = if 0 ≤ j ∧ j ≤ 1000 ∧ i.natAbs < 2 ^ 64 then some (.int (i ^ j.toNat)) else none := rfl
@[simp] theorem mulD_int : mulD (.int i) (.int j) = if (-(2 ^ 64) < i ∧ i < 2 ^ 64) ∨ (-(2 ^ 64) < j ∧ j < 2 ^ 64) then some (.int (i * j)) else none := rfl
@[simp] theorem negD_int : negD (.int i) = some (.int (-i)) := rfl
@[simp] theorem cmpD_int (fi : Int → Int → Bool) (fs : List Nat → List Nat → Bool) : cmpD fi fs (.int i) (.int j) = some (.bl (fi i j)) := rfl
@[simp] theorem cmpD_str (fi : Int → Int → Bool) (fs : List Nat → List Nat → Bool) : cmpD fi fs (.str s) (.str t) = some (.bl (fs s t)) := rfl
@[simp] theorem truD_bl (b : Bool) : truD (.bl b) = some b := rfl
@[simp] theorem truD_int : truD (.int i) = some (i != 0) := rfl
@[simp] theorem truD_lst : truD (.lst o xs) = some (!xs.isEmpty) := rfl
@[simp] theorem truD_tup : truD (.tup o xs) = some (!xs.isEmpty) := rfl
@[simp] theorem truD_scr (ns : List Int) : truD (.scr ns) = some (!ns.isEmpty) := rfl
@[simp] theorem truD_str : truD (.str s) = if s.length ≤ LIM then some (!s.isEmpty) else none := rfl
@[simp] theorem truD_non : truD .non = some false := rfl
@[simp] theorem notD_is (d : D) : notD d = (truD d).map fun k => .bl (!k) := rfl
@[simp] theorem lenAD_lst : lenAD (.lst o xs) = some (.int xs.length) := rfl
@[simp] theorem lenAD_tup : lenAD (.tup o xs) = some (.int xs.length) := rfl
@[simp] theorem lenAD_scr (ns : List Int) : lenAD (.scr ns) = some (.int ns.length) := rfl
@[simp] theorem lenAD_str : lenAD (.str s) = if s.length ≤ LIM then some (.int s.length) else none := rfl
@[simp] theorem lenAD_dct (ks : List D) : lenAD (.dct o false ks xs) = some (.int ks.length) := rfl
end
@[simp] theorem wipeE_nil (env : List D) : wipeE env [] = env := rfl
@[simp] theorem wipeE_cons (env : List D) (v : Nat) (vs : List Nat) : wipeE env (v :: vs) = (wipeE env vs).set v .unset := rfl
@[simp] theorem unwipe_nil (e0 env : List D) : unwipe e0 [] env = env := rfl
@[simp] theorem unwipe_cons (e0 env : List D) (v : Nat) (vs : List Nat) : unwipe e0 (v :: vs) env = (unwipe e0 vs env).set v (e0.getD v .unset) := rfl
@[simp] theorem okW_is (env : List D) (vs : List Nat) : okW env vs = vs.all fun v => match env[v]? with
  | some d => !isSet d || isFz d
  | none => true := rfl
@[simp] theorem reOk_cons (r : Bool) (rs : List Bool) (d : D) (ds : List D) : reOk (r :: rs) (d :: ds) = ((!r || isFz d) && reOk rs ds) := rfl
@[simp] theorem reOk_nil (rs : List Bool) : reOk rs [] = true := by cases rs <;> rfl
@[simp] theorem reOk_nil2 (ds : List D) : reOk [] ds = true := by cases ds <;> rfl
@[simp] theorem isStrD_str (s : List Nat) : isStrD (.str s) = true := rfl
@[simp] theorem isIntD_int (i : Int) : isIntD (.int i) = true := rfl
@[simp] theorem isDct_dct (o t : Bool) (ks vs : List D) : isDct (.dct o t ks vs) = true := rfl
@[simp] theorem tyD_lst (o : Bool) (xs : List D) : tyD "list" (.lst o xs) = true := rfl
@[simp] theorem tyD_dct (ks xs : List D) (o t : Bool) : tyD "dict" (.dct o t ks xs) = o := by cases o <;> rfl
@[simp] theorem itemD_lst (o : Bool) (xs : List D) (e : D) : itemD (.lst o xs) e = ixD (.lst o xs) e := rfl
@[simp] theorem itemD_tup (o : Bool) (xs : List D) (e : D) : itemD (.tup o xs) e = ixD (.tup o xs) e := rfl
@[simp] theorem itemD_scr (xs : List Int) (e : D) : itemD (.scr xs) e = ixD (.scr xs) e := rfl
@[simp] theorem itemD_str (xs : List Nat) (e : D) : itemD (.str xs) e = ixD (.str xs) e := rfl
@[simp] theorem itemD_dct (o t : Bool) (ks xs : List D) (e : D) : itemD (.dct o t ks xs) e = dgetD (.dct o t ks xs) e := rfl
@[simp] theorem itemsD_lst (o : Bool) (xs : List D) : itemsD (.lst o xs) = if o = true then (if xs.all isFz = true then some xs else none) else some xs := rfl
@[simp] theorem itemsD_tup (o : Bool) (xs : List D) : itemsD (.tup o xs) = if o = true then (if xs.all isFz = true then some xs else none) else some xs := rfl
@[simp] theorem itemsD_str (s : List Nat) : itemsD (.str s) = some (s.map fun c => .str [c]) := rfl
@[simp] theorem itemsD_scr (ns : List Int) : itemsD (.scr ns) = some (ns.map .int) := rfl
theorem sum_ones {α : Type} (cs : List α) : (cs.map fun _ => 1).sum = cs.length := by
  induction cs with
  | nil => rfl
  | cons c cs ih => simp [ih]; omega
@[simp] theorem setAll_is (xs : List D) : setAll xs = xs.all isSet := rfl
@[simp] theorem allFz_is (xs : List D) : allFz xs = xs.all isFz := rfl
@[simp] theorem lstI_is (o : Bool) (xs : List D) : lstI (.lst o xs) = if o = true then (if xs.all isFz = true then some xs else none) else some xs := rfl
@[simp] theorem frzV_is (o : Bool) (xs : List D) : frzV o xs = (!o || xs.all isFz) := rfl
/-! ### loops -/
theorem loop_nx {g : D → List D → Option (List D)} {body : List D → SR} (I : Nat → List D → Prop) : ∀ (ds : List D) (k : Nat) (env : List D), I k env →
    (∀ i d env, ds[i]? = some d → I (k + i) env → ∃ env1 e, g d env = some env1 ∧ (body env1 = .nx e ∨ body env1 = .ct e) ∧ I (k + i + 1) e) → ∃ e, loopS g body ds env = .nx e ∧ I (k + ds.length) e
  | [], k, env, h0, _ => ⟨env, rfl, h0⟩
  | d :: ds, k, env, h0, hs => by
    obtain ⟨env1, e, h1, h2, h3⟩ := hs 0 d env rfl h0
    have ih := loop_nx I ds (k + 1) e h3 fun i d' env' hd hi => by
      have := hs (i + 1) d' env' (by simpa using hd) (by rw [show k + (i + 1) = k + 1 + i by omega]; exact hi)
      rw [show k + (i + 1) + 1 = k + 1 + i + 1 by omega] at this
      exact this
    obtain ⟨e', h4, h5⟩ := ih
    refine ⟨e', ?_, by rw [List.length_cons, show k + (ds.length + 1) = k + 1 + ds.length by omega]; exact h5⟩
    unfold loopS
    rw [h1]
    rcases h2 with h2 | h2 <;> simp only [h2] <;> exact h4
theorem lc_ok {g : D → List D → Option (List D)} {t : List D → R Bool} {ef : List D → R Rv} {vs : List Nat} (I : Nat → List D → List D → Prop) : ∀ (ds : List D) (k : Nat) (env acc : List D), I k env acc →
    (∀ i d env acc, ds[i]? = some d → I (k + i) env acc → ∃ env1 env2 b, g d env = some env1 ∧ t env1 = .ok b env2 ∧ (b = false → I (k + i + 1) (wipeE env2 vs) acc) ∧
      (b = true → ∃ r x env3 env4, ef env2 = .ok r env3 ∧ escz [r] env3 = some ([x], env4) ∧ acc.length < LIM ∧ I (k + i + 1) (wipeE env4 vs) (acc ++ [x]))) →
    ∃ acc' e, lcL g t ef vs ds env acc = .ok acc' e ∧ I (k + ds.length) e acc'
  | [], k, env, acc, h0, _ => ⟨acc, env, rfl, h0⟩
  | d :: ds, k, env, acc, h0, hs => by
    obtain ⟨env1, env2, b, h1, h2, h3, h4⟩ := hs 0 d env acc rfl h0
    have next : ∀ e a, I (k + 1) e a → ∃ acc' e', lcL g t ef vs ds e a = .ok acc' e' ∧ I (k + (d :: ds).length) e' acc' := fun e a h => by
      obtain ⟨a', e', h5, h6⟩ := lc_ok I ds (k + 1) e a h fun i d' env' acc' hd hi => by
        have := hs (i + 1) d' env' acc' (by simpa using hd) (by rw [show k + (i + 1) = k + 1 + i by omega]; exact hi)
        rw [show k + (i + 1) + 1 = k + 1 + i + 1 by omega] at this
        exact this
      exact ⟨a', e', h5, by rw [List.length_cons, show k + (ds.length + 1) = k + 1 + ds.length by omega]; exact h6⟩
    unfold lcL
    rw [h1]
    simp only [h2]
    cases b with
    | false =>
      simp only [Bool.false_eq_true, if_false]
      exact next _ _ (h3 rfl)
    | true =>
      obtain ⟨r, x, env3, env4, h5, h6, h7, h8⟩ := h4 rfl
      simp only [if_true, h5, h6, h7]
      exact next _ _ h8
/-- one that leaves the slots as they are: a map with a filter -/
theorem lc_map {t : List D → R Bool} {ef : List D → R Rv} {i : Nat} {env : List D} (p : D → Bool) (h : D → D) (hi : env[i]? = some .unset) : ∀ (ds acc : List D),
    (∀ d ∈ ds, t (env.set i d) = .ok (p d) (env.set i d) ∧ (p d = true → ∃ r, ef (env.set i d) = .ok r (env.set i d) ∧ escz [r] (env.set i d) = some ([h d], env.set i d))) →
    acc.length + ds.length ≤ LIM → lcL (nameG i) t ef [i] ds env acc = .ok (acc ++ (ds.filter p).map h) env
  | [], acc, _, _ => by simp [lcL]
  | d :: ds, acc, hs, hl => by
    have hlen : i < env.length := (List.getElem?_eq_some_iff.mp hi).1
    have hw : wipeE (env.set i d) [i] = env := by
      show (env.set i d).set i .unset = env
      rw [List.set_set]
      refine List.ext_getElem? fun j => ?_
      by_cases hj : i = j
      · subst hj; rw [List.getElem?_set_self hlen, hi]
      · rw [List.getElem?_set_ne hj]
    obtain ⟨h1, h2⟩ := hs d List.mem_cons_self
    have ih := fun acc hl => lc_map p h hi ds acc (fun d' hd => hs d' (List.mem_cons_of_mem _ hd)) hl
    unfold lcL
    simp only [nameG, hi, h1]
    simp only [List.length_cons] at hl
    cases hp : p d with
    | false =>
      simp only [Bool.false_eq_true, if_false]
      rw [hw, ih acc (by omega)]
      simp [hp]
    | true =>
      obtain ⟨r, h3, h4⟩ := h2 hp
      simp only [if_true, h3, h4]
      rw [if_pos (by omega), hw, ih (acc ++ [h d]) (by simp; omega)]
      simp [hp]
theorem lc_mapA {α : Type} {t : List D → R Bool} {ef : List D → R Rv} {i : Nat} {env : List D} (f : α → D) (p : α → Bool) (h : α → D) (hi : env[i]? = some .unset) : ∀ (xs : List α) (acc : List D),
    (∀ x ∈ xs, t (env.set i (f x)) = .ok (p x) (env.set i (f x)) ∧ (p x = true → ∃ r, ef (env.set i (f x)) = .ok r (env.set i (f x)) ∧ escz [r] (env.set i (f x)) = some ([h x], env.set i (f x)))) →
    acc.length + xs.length ≤ LIM → lcL (nameG i) t ef [i] (xs.map f) env acc = .ok (acc ++ (xs.filter p).map h) env
  | [], acc, _, _ => by simp [lcL]
  | d :: ds, acc, hs, hl => by
    have hlen : i < env.length := (List.getElem?_eq_some_iff.mp hi).1
    have hw : wipeE (env.set i (f d)) [i] = env := by
      show (env.set i (f d)).set i .unset = env
      rw [List.set_set]
      refine List.ext_getElem? fun j => ?_
      by_cases hj : i = j
      · subst hj; rw [List.getElem?_set_self hlen, hi]
      · rw [List.getElem?_set_ne hj]
    obtain ⟨h1, h2⟩ := hs d List.mem_cons_self
    have ih := fun acc hl => lc_mapA f p h hi ds acc (fun d' hd => hs d' (List.mem_cons_of_mem _ hd)) hl
    rw [List.map_cons]
    unfold lcL
    simp only [nameG, hi, h1]
    simp only [List.length_cons] at hl
    cases hp : p d with
    | false =>
      simp only [Bool.false_eq_true, if_false]
      rw [hw, ih acc (by omega)]
      simp [hp]
    | true =>
      obtain ⟨r, h3, h4⟩ := h2 hp
      simp only [if_true, h3, h4]
      rw [if_pos (by omega), hw, ih (acc ++ [h d]) (by simp; omega)]
      simp [hp]
/-- a comprehension that changes no slot, no filter -/
theorem lc_all {α : Type} {ef : List D → R Rv} {i : Nat} {env : List D} (f : α → D) (h : α → D) (hi : env[i]? = some .unset) (xs : List α)
    (hs : ∀ x ∈ xs, ∃ r, ef (env.set i (f x)) = .ok r (env.set i (f x)) ∧ escz [r] (env.set i (f x)) = some ([h x], env.set i (f x))) (hl : xs.length ≤ LIM) :
    lcL (nameG i) (fun env => .ok true env) ef [i] (xs.map f) env [] = .ok (xs.map h) env := by
  have := lc_mapA (t := fun env => .ok true env) (ef := ef) f (fun _ => true) h hi xs [] (fun x hx => ⟨rfl, fun _ => hs x hx⟩) (by simpa using hl)
  rw [List.filter_eq_self.mpr (fun _ _ => rfl)] at this
  exact this
/-- .. with a filter -/
theorem lc_some {α : Type} {t : List D → R Bool} {ef : List D → R Rv} {i : Nat} {env : List D} (f : α → D) (p : α → Bool) (h : α → D) (hi : env[i]? = some .unset) (xs : List α)
    (ht : ∀ x ∈ xs, t (env.set i (f x)) = .ok (p x) (env.set i (f x))) (hs : ∀ x ∈ xs, p x = true → ∃ r, ef (env.set i (f x)) = .ok r (env.set i (f x)) ∧ escz [r] (env.set i (f x)) = some ([h x], env.set i (f x))) (hl : xs.length ≤ LIM) :
    lcL (nameG i) t ef [i] (xs.map f) env [] = .ok ((xs.filter p).map h) env := by
  have := lc_mapA f p h hi xs [] (fun x hx => ⟨ht x hx, hs x hx⟩) (by simpa using hl)
  simpa using this
/-- a comprehension that changes no slot, any target -/
theorem lc_gen {α : Type} {gf : D → List D → Option (List D)} {t : List D → R Bool} {ef : List D → R Rv} {vs : List Nat} {env : List D} (f : α → D) (E : α → List D) (p : α → Bool) (h : α → D) : ∀ (xs : List α) (acc : List D),
    (∀ x ∈ xs, gf (f x) env = some (E x) ∧ wipeE (E x) vs = env ∧ t (E x) = .ok (p x) (E x) ∧ (p x = true → ∃ r, ef (E x) = .ok r (E x) ∧ escz [r] (E x) = some ([h x], E x))) →
    acc.length + xs.length ≤ LIM → lcL gf t ef vs (xs.map f) env acc = .ok (acc ++ (xs.filter p).map h) env
  | [], acc, _, _ => by simp [lcL]
  | d :: ds, acc, hs, hl => by
    obtain ⟨h0, hw, h1, h2⟩ := hs d List.mem_cons_self
    have ih := fun acc hl => lc_gen f E p h ds acc (fun d' hd => hs d' (List.mem_cons_of_mem _ hd)) hl
    rw [List.map_cons]
    unfold lcL
    simp only [h0, h1]
    simp only [List.length_cons] at hl
    cases hp : p d with
    | false =>
      simp only [Bool.false_eq_true, if_false]
      rw [hw, ih acc (by omega)]
      simp [hp]
    | true =>
      obtain ⟨r, h3, h4⟩ := h2 hp
      simp only [if_true, h3, h4]
      rw [if_pos (by omega), hw, ih (acc ++ [h d]) (by simp; omega)]
      simp [hp]
/-! ### dicts that count -/
def look (T : List (D × Int)) (k : D) : Int := (T.lookup k).getD 0
def bump (T : List (D × Int)) (k : D) : List (D × Int) := if k ∈ T.map (·.1) then T.map (fun p => if p.1 = k then (p.1, look T k + 1) else p) else T ++ [(k, 1)]
def dk (T : List (D × Int)) : List D := T.map (·.1)
def dvs (T : List (D × Int)) : List D := T.map fun p => .int p.2
theorem lk_T (T : List (D × Int)) (k : D) : lkD (dk T) (dvs T) k = (T.lookup k).map .int := by
  induction T with
  | nil => rfl
  | cons p T ih =>
    simp only [dk, dvs, List.map_cons, lkD] at ih ⊢
    by_cases h : p.1 = k
    · have hb : (k == p.1) = true := by simp [h]
      rw [if_pos h, List.lookup, hb]
      rfl
    · have hb : (k == p.1) = false := by simpa using fun e => h e.symm
      rw [if_neg h, ih, List.lookup, hb]
theorem look_not {T : List (D × Int)} {k : D} (h : k ∉ T.map (·.1)) : T.lookup k = none := by
  induction T with
  | nil => rfl
  | cons p T ih =>
    simp only [List.map_cons, List.mem_cons, not_or] at h
    have hb : (k == p.1) = false := by simpa using h.1
    rw [List.lookup, hb]
    exact ih h.2
@[simp] theorem get_T (o : Bool) (T : List (D × Int)) (k : D) (hk : isK k = true) : getD3 [.dct o false (dk T) (dvs T), k, .int 0] = some (.int (look T k)) := by
  simp only [getD3, keyOk, hk, if_true, lk_T, look]
  cases T.lookup k <;> rfl
theorem putIn_T (T : List (D × Int)) (k : D) (v : Int) : putIn (dk T) (dvs T) k (.int v) = dvs (T.map fun p => if p.1 = k then (p.1, v) else p) := by
  induction T with
  | nil => rfl
  | cons p T ih =>
    simp only [dk, dvs, List.map_cons, putIn] at ih ⊢
    rw [ih]
    by_cases h : p.1 = k <;> simp [h]
theorem dk_map (T : List (D × Int)) (k : D) (v : Int) : dk (T.map fun p => if p.1 = k then (p.1, v) else p) = dk T := by
  unfold dk
  rw [List.map_map]
  refine List.map_congr_left fun p _ => ?_
  simp only [Function.comp]
  split <;> rfl
@[simp] theorem put_T (T : List (D × Int)) (k : D) (hk : isK k = true) (hl : T.length < LIM) : puM (.dct true false (dk T) (dvs T)) [.int (look T k + 1), k] = some (.dct true false (dk (bump T k)) (dvs (bump T k)), .non) := by
  have hl' : (dk T).length < LIM := by simpa [dk] using hl
  simp only [puM, keyOk, hk, hl', true_and, and_self, if_true]
  by_cases h : k ∈ T.map (·.1)
  · have h' : k ∈ dk T := h
    simp only [putKs, putVs, h', if_true, bump, h, putIn_T, dk_map]
  · have h' : k ∉ dk T := h
    have : look T k = 0 := by unfold look; rw [look_not h]; rfl
    simp only [putKs, putVs, h', if_false, bump, h, this]
    simp [dk, dvs]
theorem dk_bump (T : List (D × Int)) (k : D) : dk (bump T k) = putKs (dk T) k := by
  unfold bump putKs
  by_cases h : k ∈ T.map (·.1)
  · have h' : k ∈ dk T := h
    simp only [h, if_true, dk_map, h']
  · have h' : k ∉ dk T := h
    simp only [h, if_false, h']
    simp [dk]
theorem bump_len (T : List (D × Int)) (k : D) : (bump T k).length ≤ T.length + 1 := by
  unfold bump
  split <;> simp
theorem nodup_bump {T : List (D × Int)} (k : D) (h : (dk T).Nodup) : (dk (bump T k)).Nodup := by
  rw [dk_bump]
  unfold putKs
  split
  · exact h
  · rename_i hk
    refine List.nodup_append.mpr ⟨h, by simp, ?_⟩
    intro a ha b hb e
    have : b = k := by simpa using hb
    subst e this
    exact hk ha
theorem mem_bump {T : List (D × Int)} {k j : D} : j ∈ dk (bump T k) ↔ j ∈ dk T ∨ j = k := by
  rw [dk_bump]
  unfold putKs
  split
  · rename_i h
    constructor
    · exact .inl
    · rintro (z | rfl)
      · exact z
      · exact h
  · simp
theorem look_map (T : List (D × Int)) (k j : D) (v : Int) : (T.map fun p => if p.1 = k then (p.1, v) else p).lookup j = if j = k then (T.lookup j).map (fun _ => v) else T.lookup j := by
  induction T with
  | nil => simp [List.lookup]
  | cons p T ih =>
    rw [List.map_cons]
    by_cases hp : p.1 = k
    · rw [if_pos hp]
      by_cases hj : j = p.1
      · have hb : (j == p.1) = true := by simp [hj]
        rw [List.lookup, hb, List.lookup, hb, if_pos (hj.trans hp)]
        rfl
      · have hb : (j == p.1) = false := by simpa using hj
        rw [List.lookup, hb, ih, List.lookup, hb]
    · rw [if_neg hp]
      by_cases hj : j = p.1
      · have hb : (j == p.1) = true := by simp [hj]
        rw [List.lookup, hb, List.lookup, hb, if_neg (fun e => hp (hj.symm.trans e))]
      · have hb : (j == p.1) = false := by simpa using hj
        rw [List.lookup, hb, ih, List.lookup, hb]
theorem look_app (T : List (D × Int)) (k j : D) (v : Int) (h : T.lookup k = none) : (T ++ [(k, v)]).lookup j = if j = k then some v else T.lookup j := by
  induction T with
  | nil =>
    by_cases hj : j = k
    · simp [List.lookup, hj]
    · have hb : (j == k) = false := by simpa using hj
      simp [List.lookup, hb, hj]
  | cons p T ih =>
    rw [List.cons_append]
    have hk : (k == p.1) = false := by
      cases q : (k == p.1) with
      | false => rfl
      | true => rw [List.lookup, q] at h; cases h
    have hT : T.lookup k = none := by rw [List.lookup, hk] at h; exact h
    by_cases hj : j = p.1
    · have hb : (j == p.1) = true := by simp [hj]
      rw [List.lookup, hb, List.lookup, hb, if_neg]
      intro e
      rw [← e] at hk
      rw [hb] at hk
      cases hk
    · have hb : (j == p.1) = false := by simpa using hj
      rw [List.lookup, hb, ih hT, List.lookup, hb]
theorem look_bump (T : List (D × Int)) (k j : D) : look (bump T k) j = look T j + if j = k then 1 else 0 := by
  unfold bump
  by_cases h : k ∈ T.map (·.1)
  · rw [if_pos h]
    unfold look
    rw [look_map]
    by_cases hj : j = k
    · subst hj
      rw [if_pos rfl, if_pos rfl]
      have : ∃ v, T.lookup j = some v := by
        cases q : T.lookup j with
        | some v => exact ⟨v, rfl⟩
        | none =>
          exfalso
          rw [List.lookup_eq_none_iff] at q
          obtain ⟨p, hp, e⟩ := List.mem_map.mp h
          have := q p hp
          simp [e] at this
      obtain ⟨v, e⟩ := this
      rw [e]
      rfl
    · rw [if_neg hj, if_neg hj]
      simp
  · rw [if_neg h]
    unfold look
    rw [look_app _ _ _ _ (look_not h)]
    by_cases hj : j = k
    · subst hj
      rw [if_pos rfl, if_pos rfl, look_not h]
      rfl
    · rw [if_neg hj, if_neg hj]
      simp
/-- the counts of a list -/
def tally (xs : List D) : List (D × Int) := xs.foldl bump []
theorem tally_look_go (xs : List D) (j : D) : ∀ T : List (D × Int), look (xs.foldl bump T) j = look T j + (xs.count j : Nat) := by
  induction xs with
  | nil => intro T; simp
  | cons x xs ih =>
    intro T
    rw [List.foldl_cons, ih, look_bump, List.count_cons]
    by_cases h : j = x
    · subst h; simp; omega
    · have : ¬ x = j := fun e => h e.symm
      simp [h, this]
theorem tally_look (xs : List D) (j : D) : look (tally xs) j = (xs.count j : Nat) := by
  unfold tally
  rw [tally_look_go]
  simp [look, List.lookup]
theorem tally_nodup_go (xs : List D) : ∀ T : List (D × Int), (dk T).Nodup → (dk (xs.foldl bump T)).Nodup := by
  induction xs with
  | nil => intro T h; exact h
  | cons x xs ih => intro T h; exact ih _ (nodup_bump x h)
theorem tally_nodup (xs : List D) : (dk (tally xs)).Nodup := tally_nodup_go xs [] List.nodup_nil
theorem tally_mem_go (xs : List D) (j : D) : ∀ T : List (D × Int), j ∈ dk (xs.foldl bump T) ↔ j ∈ dk T ∨ j ∈ xs := by
  induction xs with
  | nil => intro T; simp
  | cons x xs ih =>
    intro T
    rw [List.foldl_cons, ih, mem_bump, List.mem_cons]
    constructor
    · rintro ((h | h) | h) <;> simp [h]
    · rintro (h | h | h) <;> simp [h]
theorem tally_mem (xs : List D) (j : D) : j ∈ dk (tally xs) ↔ j ∈ xs := by
  rw [tally, tally_mem_go]
  simp [dk]
theorem tally_len_go (xs : List D) : ∀ T : List (D × Int), (xs.foldl bump T).length ≤ T.length + xs.length := by
  induction xs with
  | nil => intro T; simp
  | cons x xs ih =>
    intro T
    have := ih (bump T x)
    have := bump_len T x
    simp only [List.foldl_cons, List.length_cons]
    omega
theorem tally_len (xs : List D) : (tally xs).length ≤ xs.length := by simpa [tally] using tally_len_go xs []
/-- keys and values by the keys -/
theorem T_by (T : List (D × Int)) (h : (dk T).Nodup) : dvs T = (dk T).map fun k => .int (look T k) := by
  induction T with
  | nil => rfl
  | cons p T ih =>
    have h1 : p.1 ∉ dk T := (List.nodup_cons.mp h).1
    have h2 : (dk T).Nodup := (List.nodup_cons.mp h).2
    simp only [dk, dvs, List.map_cons] at ih h1 h2 ⊢
    have e0 : look (p :: T) p.1 = p.2 := by simp [look, List.lookup]
    rw [e0, ih h2]
    refine congrArg _ (List.map_congr_left fun k hk => ?_)
    have : (k == p.1) = false := by
      simp only [beq_eq_false_iff_ne]
      intro e
      rw [e] at hk
      exact h1 hk
    simp [look, List.lookup, this]
/-! ### dict comprehensions over unlike keys -/
theorem putKs_new {ks : List D} {k : D} (h : k ∉ ks) : putKs ks k = ks ++ [k] := by simp [putKs, h]
theorem putVs_new {ks vs : List D} {k z : D} (h : k ∉ ks) : putVs ks vs k z = vs ++ [z] := by simp [putVs, h]
theorem dc_all {α : Type} {gf : D → List D → Option (List D)} {kv : List D → R (List Rv)} {vs : List Nat} {env : List D} (f : α → D) (E : α → List D) (kf vf : α → D) : ∀ (xs : List α) (ks us : List D),
    (∀ x ∈ xs, gf (f x) env = some (E x) ∧ wipeE (E x) vs = env ∧ isK (kf x) = true ∧ ∃ rs, kv (E x) = .ok rs (E x) ∧ escz rs (E x) = some ([kf x, vf x], E x)) →
    (ks ++ xs.map kf).Nodup → ks.length + xs.length ≤ LIM → dcL gf (fun env => .ok true env) kv vs (xs.map f) env ks us = .ok (ks ++ xs.map kf, us ++ xs.map vf) env
  | [], ks, us, _, _, _ => by simp [dcL]
  | d :: ds, ks, us, hs, hn, hl => by
    obtain ⟨h0, hw, h1, rs, h3, h4⟩ := hs d List.mem_cons_self
    have hnk : kf d ∉ ks := by
      intro hm
      rw [List.map_cons] at hn
      exact (List.nodup_append.mp hn).2.2 _ hm _ List.mem_cons_self rfl
    have ih := dc_all f E kf vf ds (ks ++ [kf d]) (us ++ [vf d]) (fun d' hd => hs d' (List.mem_cons_of_mem _ hd)) (by simpa using hn) (by simp at hl ⊢; omega)
    rw [List.map_cons]
    unfold dcL
    simp only [List.length_cons] at hl
    simp only [h0, h3, h4, if_true]
    rw [if_pos ⟨h1, by omega⟩, hw, putKs_new hnk, putVs_new hnk, ih]
    simp
@[simp] theorem fz_comp_str : fz ∘ D.str = D.str := rfl
@[simp] theorem fz_comp_int : fz ∘ D.int = D.int := rfl
@[simp] theorem isFz_comp_str : isFz ∘ D.str = fun _ => true := rfl
@[simp] theorem isFz_comp_int : isFz ∘ D.int = fun _ => true := rfl
@[simp] theorem isSet_comp_str : isSet ∘ D.str = fun _ => true := rfl
@[simp] theorem isSet_comp_int : isSet ∘ D.int = fun _ => true := rfl
theorem blsD_of {α : Type} (f : α → Bool) (s : List α) : blsD (s.map fun c => D.bl (f c)) = some (s.map f) := by
  induction s with
  | nil => rfl
  | cons c s ih => simp [blsD, ih]
theorem numsD_ints (ns : List Int) : numsD (ns.map .int) = some ns := by
  induction ns with
  | nil => rfl
  | cons n ns ih => simp [numsD, ih]
theorem strsD_strs (ss : List (List Nat)) : strsD (ss.map .str) = some ss := by
  induction ss with
  | nil => rfl
  | cons n ns ih => simp [strsD, ih]
@[simp] theorem sort_strs (o : Bool) (ss : List (List Nat)) : sortD (.lst o (ss.map .str)) = some (.lst true ((sortT ss).map .str)) := by
  cases ss with
  | nil => simp [sortD, intsOf, numsD, sortZ, sortT]
  | cons s ss =>
    have h1 : intsOf (.lst o ((s :: ss).map .str)) = none := rfl
    have h2 := strsD_strs (s :: ss)
    simp only [sortD, h1, h2, Option.map]
@[simp] theorem sort_ints (o : Bool) (ns : List Int) : sortD (.lst o (ns.map .int)) = some (.lst true ((sortZ ns).map .int)) := by
  have h1 : intsOf (.lst o (ns.map .int)) = some ns := numsD_ints ns
  simp only [sortD, h1]
theorem sortT_perm (ss : List (List Nat)) : (sortT ss).Perm ss := List.mergeSort_perm ss leS
theorem sortZ_perm (ns : List Int) : (sortZ ns).Perm ns := List.mergeSort_perm ns _
theorem sortZ_sorted (ns : List Int) : (sortZ ns).Pairwise (· ≤ ·) := by
  have h2 := List.pairwise_mergeSort (le := fun a b : Int => decide (a ≤ b)) (fun a b c x y => by simp at *; omega) (fun a b => by simp; omega) ns
  exact h2.imp fun h => by simpa using h
@[simp] theorem listD_dct (o : Bool) (ks vs : List D) : listD (.dct o false ks vs) = some (.lst true ks) := rfl
theorem fz_dvs (T : List (D × Int)) : (dvs T).map fz = dvs T := by
  unfold dvs
  rw [List.map_map]
  rfl
theorem all_dvs (T : List (D × Int)) : (dvs T).all isFz = true := by
  unfold dvs
  rw [List.all_map]
  exact List.all_eq_true.mpr fun _ _ => rfl
theorem allS_dvs (T : List (D × Int)) : (dvs T).all isSet = true := by
  unfold dvs
  rw [List.all_map]
  exact List.all_eq_true.mpr fun _ _ => rfl
theorem pairs_T (T : List (D × Int)) : pairsD (dk T) (dvs T) = T.map fun p => .tup false [p.1, .int p.2] := by
  induction T with
  | nil => rfl
  | cons p T ih =>
    simp only [dk, dvs, List.map_cons, pairsD] at ih ⊢
    rw [ih]
theorem lookup_of_mem {T : List (D × Int)} {k : D} (h : k ∈ dk T) : T.lookup k = some (look T k) := by
  unfold look
  cases q : T.lookup k with
  | some v => rfl
  | none =>
    exfalso
    rw [List.lookup_eq_none_iff] at q
    obtain ⟨p, hp, e⟩ := List.mem_map.mp h
    have := q p hp
    simp [e] at this
@[simp] theorem item_T (o : Bool) (T : List (D × Int)) (k : D) (hk : isK k = true) (h : k ∈ dk T) : dgetD (.dct o false (dk T) (dvs T)) k = some (.int (look T k)) := by
  simp only [dgetD, keyOk, hk, if_true, lk_T, lookup_of_mem h]
  rfl
@[simp] theorem isK_str (s : List Nat) : isK (.str s) = true := rfl
@[simp] theorem isK_int (i : Int) : isK (.int i) = true := rfl
theorem look_mem {T : List (D × Int)} (h : (dk T).Nodup) {p : D × Int} (hp : p ∈ T) : look T p.1 = p.2 := by
  induction T with
  | nil => cases hp
  | cons q T ih =>
    rcases List.mem_cons.mp hp with rfl | hp
    · simp [look, List.lookup]
    · have h1 : q.1 ∉ dk T := (List.nodup_cons.mp h).1
      have : (p.1 == q.1) = false := by
        simp only [beq_eq_false_iff_ne]
        intro e
        exact h1 (e ▸ List.mem_map.mpr ⟨p, hp, rfl⟩)
      have i := ih (List.nodup_cons.mp h).2 hp
      simp only [look, List.lookup, this] at i ⊢
      exact i
/-- keys that rise, counted -/
theorem tally_rise : ∀ (xs : List Int) (T : List (D × Int)) (ks : List Int), dk T = ks.map .int → ks.Pairwise (· ≤ ·) → (∀ a ∈ ks, ∀ x ∈ xs, a ≤ x) → xs.Pairwise (· ≤ ·) →
    ∃ ks' : List Int, dk ((xs.map D.int).foldl bump T) = ks'.map .int ∧ ks'.Pairwise (· ≤ ·)
  | [], T, ks, h1, h2, _, _ => ⟨ks, h1, h2⟩
  | x :: xs, T, ks, h1, h2, h3, h4 => by
    have hx := List.pairwise_cons.mp h4
    rw [List.map_cons, List.foldl_cons]
    by_cases hm : x ∈ ks
    · refine tally_rise xs (bump T (.int x)) ks ?_ h2 (fun a ha y hy => h3 a ha y (List.mem_cons_of_mem _ hy)) hx.2
      rw [dk_bump, h1, putKs, if_pos (List.mem_map.mpr ⟨x, hm, rfl⟩)]
    · refine tally_rise xs (bump T (.int x)) (ks ++ [x]) ?_ ?_ ?_ hx.2
      · rw [dk_bump, h1, putKs, if_neg]
        · simp
        · intro h
          obtain ⟨y, hy, e⟩ := List.mem_map.mp h
          cases e
          exact hm hy
      · refine List.pairwise_append.mpr ⟨h2, by simp, fun a ha b hb => ?_⟩
        have : b = x := by simpa using hb
        rw [this]
        exact h3 a ha x List.mem_cons_self
      · intro a ha y hy
        rcases List.mem_append.mp ha with ha | ha
        · exact h3 a ha y (List.mem_cons_of_mem _ hy)
        · have : a = x := by simpa using ha
          rw [this]
          exact hx.1 y hy
theorem nodup_ints {ks : List Int} (h : (ks.map D.int).Nodup) : ks.Nodup := by
  refine List.Pairwise.imp (fun {a b} h e => h (by rw [e])) (List.pairwise_map.mp h)
theorem tally_ints (xs : List Int) : ∃ ks : List Int, dk (tally (xs.map .int)) = ks.map .int ∧ ks.Nodup ∧ ∀ k, k ∈ ks ↔ k ∈ xs := by
  have hk : ∀ T : List (D × Int), (∃ ks : List Int, dk T = ks.map .int) → ∃ ks : List Int, dk ((xs.map D.int).foldl bump T) = ks.map .int := by
    induction xs with
    | nil => intro T h; exact h
    | cons x xs ih =>
      rintro T ⟨ks, e⟩
      rw [List.map_cons, List.foldl_cons]
      refine ih _ ?_
      rw [dk_bump, e, putKs]
      split
      · exact ⟨ks, rfl⟩
      · exact ⟨ks ++ [x], by simp⟩
  obtain ⟨ks, e⟩ := hk [] ⟨[], rfl⟩
  have e' : dk (tally (xs.map .int)) = ks.map .int := e
  refine ⟨ks, e', nodup_ints (e' ▸ tally_nodup _), fun k => ?_⟩
  have := tally_mem (xs.map .int) (.int k)
  rw [e'] at this
  simpa using this
/-- counted in order, the keys are those of the counts, in order -/
theorem tally_sorted (xs : List Int) {ks : List Int} (hk : dk (tally (xs.map .int)) = ks.map .int) : dk (tally ((sortZ xs).map .int)) = (sortZ ks).map .int := by
  obtain ⟨ks', e, s⟩ := tally_rise (sortZ xs) [] [] rfl List.Pairwise.nil (by simp) (sortZ_sorted xs)
  have e' : dk (tally ((sortZ xs).map .int)) = ks'.map .int := e
  rw [e']
  have n1 : ks'.Nodup := nodup_ints (e' ▸ tally_nodup _)
  have n2 : ks.Nodup := nodup_ints (hk ▸ tally_nodup _)
  have p : ks'.Perm ks := (List.perm_ext_iff_of_nodup n1 n2).mpr fun a => by
    have h1 := tally_mem ((sortZ xs).map .int) (.int a)
    have h2 := tally_mem (xs.map .int) (.int a)
    rw [e'] at h1
    rw [hk] at h2
    have h3 := (sortZ_perm xs).mem_iff (a := a)
    have h1' : a ∈ ks' ↔ a ∈ sortZ xs := by simpa using h1
    have h2' : a ∈ ks ↔ a ∈ xs := by simpa using h2
    rw [h1', h2', h3]
  rw [sortZ_uniq p s]
theorem tally_look_perm {xs ys : List D} (p : xs.Perm ys) (k : D) : look (tally xs) k = look (tally ys) k := by
  rw [tally_look, tally_look, p.count_eq]
theorem ne_same {d e : D} (h : eqOk 60 d = true) (he : eqOk 60 e = true) (q : nf d = nf e) : neD d e = some (.bl false) := by
  simp [neD, h, he, q]
theorem eq_same {d e : D} (h : eqOk 60 d = true) (he : eqOk 60 e = true) (q : nf d = nf e) : eqD d e = some (.bl true) := by
  simp [eqD, h, he, q]
end VS
set_option maxHeartbeats 1000000
/-! VSSort: sorted of data of any depth. -/
namespace VH
open PySem PySem.Spec PyProof.Rows L2
variable {X : Cx}
/-- pairs sorted by their data -/
def srtDat (xs : List V) (ds : List PyData) : List V := ((xs.zip ds).mergeSort (PySem.W.dataLe false Prod.snd)).map Prod.fst
def rSortedDat (K : PySem.W.Frag) : List V → Hp → VK → Prop := fun vs H Q =>
  ∃ (a : Addr) (xs : List V) (ds : List PyData), vs = [V.ref a] ∧ SqL K H a xs ∧ DpAll K H xs ds ∧ PySem.W.AllAlike ds ∧
    PySem.W.Sortable ds ∧ (∀ d ∈ ds, d.depth ≤ 60) ∧
    ∀ p, H p = none → Q (.ref p) (upd H p (.lst (srtDat xs ds)))
theorem each_of {h : Heap} : ∀ {us : List Value} {xs : List V} {ds : List PyData} {as : List Addr}, Vals xs us → ReadsAll h us ds as →
    PySem.W.EachIs (fun (v : Value) (p : V × PyData) => RelV p.1 v) us (xs.zip ds) ∧
    PySem.W.EachIs (fun (v : Value) (p : V × PyData) => ∃ as, Reads h v p.2 as) us (xs.zip ds) ∧ (xs.zip ds).map Prod.snd = ds
  | [], xs, ds, as, hv, hr => by
    cases hv
    cases hr
    exact ⟨.nil, .nil, rfl⟩
  | u :: us, xs, ds, as, hv, hr => by
    cases hv with
    | cons h1 h2 =>
      cases hr with
      | cons r1 r2 =>
        obtain ⟨q1, q2, q3⟩ := each_of h2 r2
        exact ⟨.cons h1 q1, .cons ⟨_, r1⟩ q2, by rw [List.zip_cons_cons, List.map_cons, q3]⟩
theorem vals_each : ∀ {us : List Value} {ps : List (V × PyData)}, PySem.W.EachIs (fun (v : Value) (p : V × PyData) => RelV p.1 v) us ps → Vals (ps.map Prod.fst) us
  | [], [], _ => .nil
  | u :: us, p :: ps, h => by
    cases h with
    | cons h1 h2 => exact .cons h1 (vals_each h2)
theorem cr_sortedDat (hu : X.A.units + 64 < cLine) : CallR X (.builtin "sorted") (rSortedDat X.K) := by
  intro pins s σ H vs us Q I r h
  obtain ⟨a, xs, ds, rfl, hs, hd, hal, hk, hp, q⟩ := h
  obtain ⟨its, rv, hl, hz⟩ := I.list hs
  rw [Vals.ref1 r]
  obtain ⟨as, rd⟩ := Dp.readsAll I ds xs its hd rv
  obtain ⟨e1, e2, e3⟩ := each_of rv rd
  have el := e1.length
  have hlen0 := rv.length
  refine PySem.W.sorted_data (enc := Prod.snd) (bs := xs.zip ds) hl.isList e1 e2 (by rw [e3]; exact hal) (by rw [e3]; exact hk) (by omega) (fun b hb => ?_) ?_
  · have : b.2 ∈ ds := by
      rw [← e3]
      exact List.mem_map.mpr ⟨b, hb, rfl⟩
    have := hp _ this
    omega
  · intro out ho he
    obtain ⟨ep, he'⟩ := PyProof.Rows.sortedAll_at s.heap its out.toArray
    have hv := vals_each he
    have hlen : (srtDat xs ds).length ≤ sizeLine := by
      show (List.map _ _).length ≤ _
      have := hv.length
      omega
    refine ⟨.ref _, upd H (s.heap.objs.size + 1) (.lst (srtDat xs ds)), ?_, rfl, q _ (I.hok.fresh (Nat.le_succ _))⟩
    exact I.laid (t' := s.toks) (fun _ _ => PyProof.Rows.sortedAll_old) (Nat.le_succ _) ⟨hlen, out, ep, hv, he'⟩
end VH
set_option maxHeartbeats 1000000
/-! VSVals: sum(d.values()). -/
namespace VH
open PySem PySem.Spec PyProof.Rows L2 PySem.Calls
section
variable {X : Cx} {e : Expr} {te : TE} {p apos cpos pos : Pos}
def tSumVals (te : TE) : TE := fun σ H Q => te σ H fun x H1 => ∃ (d : Addr) (kvs : List (Key × V)) (ns : List Int),
  x = .ref d ∧ Rd H1 d (.dK kvs) ∧ kvs.map (·.2) = ns.map V.int ∧ Q (.int ns.sum) H1
theorem sum_getD : ∀ ns : List Int, preSum (fun i => ns.getD i 0) ns.length = ns.sum
  | [] => rfl
  | n :: ns => by
    rw [List.length_cons, PySem.W.kdu_shift]
    have := sum_getD ns
    simpa using this
theorem pe_sumVals (hc : X.calm = true) (he : PE X e te) (hg : Gl X "sum") (hm : X.mg "sum" = none)
    (hbase : attributeBase e "values" X.env (eval e X.env) = eval e X.env := by rfl)
    (hline : (apos.endLine == cpos.line) = true := by rfl)
    (hs : starEach [.Call (.Attribute e "values" apos) [] [] cpos] X.env
      = [(false, eval (.Call (.Attribute e "values" apos) [] [] cpos) X.env)] := by rfl) :
    PE X (.Call (.Name "sum" p) [.Call (.Attribute e "values" apos) [] [] cpos] [] pos) (tSumVals te) := by
  constructor
  intro pins s σ H Q I hq
  refine wpAny_Call_Name_kw (ld_blt I hg hm (u := .builtin "sum") (by first | rfl | decide +kernel) ?_ (by first | decide +kernel | decide) (by first | decide +kernel | decide))
  rw [hs]
  refine PySem.callWith_builtin1 (wpAny_Call_method (T := "dict") (id := "dict.values") hbase rfl hline
    F.plainAttrs_dict F.slot_dict_values F.type_dict_values (thn (he.run pins s σ H _ I hq) ?_))
  rintro u s1 ⟨x, H1, I1, rx, d, kvs, ns, rfl, hd, hn, q⟩
  obtain rfl : u = Value.ref d := rx
  obtain ⟨hz, hs0, vs, kv, hdo⟩ := dk_rd I1.hok hd
  obtain ⟨ep, hat⟩ := hdo.dictAt
  have lk : kvs.length = vs.length := Paired.length kv
  have I2 := I1.kept (t' := s1.toks)
    (h' := s1.heap.push { cls := .type "dict_values", data := .fields #[.ref d] })
    fun b ob q => Heap.get?_push_of_some _ q
  refine ⟨hdo.typeIs, hdo.mapOf.noDict, ?_⟩
  show wpAny _ _ (callWith cpos (.builtin "dict.values") [.ref d] [] []) _ X.xe s1
  refine method_meetsIn F.slot_dict_values F.entry_dict_values rfl (PySem.evalArgs_none
    ⟨rfl, hdo.typeIs, F.args_dict_values_1 _, _, meets_dict_values (mixKind X.prog X.w) d hs0, ⟨vs, hdo⟩, ?_⟩)
  refine call_sum_walkAnyS ?_
  have K0 := PySem.W.kdl_values (r := s1.heap.objs.size) (d := d) (knd := mixKind X.prog X.w) (kvs := vs) (ep := ep)
  have hok : (fun h : Heap => h.IsValuesView s1.heap.objs.size d ∧ h.DictAt (mixKind X.prog X.w) d vs ep) (s1.heap.push { cls := .type "dict_values", data := .fields #[.ref d] }) :=
    ⟨⟨_, Heap.get?_push_size _ rfl, rfl, rfl⟩, hat.push _⟩
  obtain ⟨oI, St, hit, W, st⟩ := K0.iter X.A.in1 { s1 with heap := s1.heap.push { cls := .type "dict_values", data := .fields #[.ref d] } } (I1.ok.hd hc) hok
  have hlen : vs.length = ns.length := by
    have := congrArg List.length hn
    simp only [List.length_map] at this
    omega
  refine hit _ _ ⟨(s1.heap.push { cls := .type "dict_values", data := .fields #[.ref d] }).objs.size, _, _, _, vs.length, _, _, fun i => ns.getD i 0, rfl, W.toS, st, fun b hb => ?_, fun i v ⟨k, hk⟩ => ?_, fun s' t' hm => ?_⟩
  · show b < (Heap.push _ oI).objs.size
    rw [Heap.size_push]
    rcases List.mem_cons.mp hb with e | hb
    · rw [e]; exact Nat.lt_succ_self _
    · rw [List.mem_singleton.mp hb]; exact Nat.lt_succ_of_lt (K0.there _ hok).2
  · obtain ⟨x, h1, h2⟩ := KV.at' kv hk
    have e1 : (kvs.map (·.2))[i]? = some x := by rw [List.getElem?_map, h1] <;> rfl
    rw [hn, List.getElem?_map] at e1
    obtain ⟨j, hj, e2⟩ := Option.map_eq_some_iff.mp e1
    subst e2
    obtain ⟨t, e3⟩ := h2
    refine ⟨t, ?_⟩
    show v = Value.int (ns.getD i 0) t
    rw [e3, List.getD_eq_getElem?_getD, hj] <;> rfl
  · have hk : ∀ b o, s1.heap.get? b = some o → s'.heap.get? b = some o := fun b o e => by
      have hb := Heap.lt_size e
      refine hm.heap b o (fun hI => ?_) (Heap.get?_push_of_some _ (Heap.get?_push_of_some _ e))
      have e1 : b = (s1.heap.push { cls := .type "dict_values", data := .fields #[.ref d] }).objs.size := List.mem_singleton.mp hI
      rw [Heap.size_push] at e1
      exact Nat.ne_of_lt (Nat.lt_succ_of_lt hb) e1
    rw [Moved.eq_with hm]
    refine ⟨.int ns.sum, H1, I1.kept (t' := s'.toks) (h' := s'.heap) hk, ⟨t', ?_⟩, q⟩
    rw [hlen, sum_getD]
end
end VH
set_option maxHeartbeats 1000000
/-! VSDeep: sum(d.values()), sorted of data of any depth, over the value layer. -/
namespace VS
open PySem PyProof.Rows L2
section
variable {M : Mn} {W : WD} {b b1 b2 : Bool} {F H F' H' F1 H1 : Hp} {env env' env1 : List D} {σ : L2.St} {S S' S1 T : AS} {pr : Nat → Bool}
/-! ### sum(d.values()) -/
def sumvD : D → Option D
  | .dct _ false _ vs => (numsD vs).map fun ns => .int ns.sum
  | _ => none
def rSumVals : V → Hp → VK → Prop := fun x H1 Q => ∃ (d : Addr) (kvs : List (Key × V)) (ns : List Int),
  x = .ref d ∧ Rd H1 d (.dK kvs) ∧ kvs.map (·.2) = ns.map V.int ∧ Q (.int ns.sum) H1
theorem rn_sumv : RN1 M rSumVals sumvD := by
  intro F H x d z Sx Q fh rx h k
  cases d with
  | dct o t ks us =>
    cases t with
    | true => simp [sumvD] at h
    | false =>
      obtain ⟨a, T', kvs, rfl, rd, rfl, rs, _, hT, _⟩ := rx.dctK fh
      simp only [sumvD] at h
      cases q : numsD us with
      | none => rw [q] at h; cases h
      | some ns =>
        rw [q] at h
        cases h
        exact ⟨a, kvs, ns, rfl, rd, numsD_ok q rs, k _ _ _ _ (NewR.same fh (by simp [RO]))⟩
  | _ => cases h
theorem se_sumv {te : TE} {f : List D → R Rv} (h : SE M W b te f) : SE M W (b && true) (VH.tSumVals te) (una sumvD f) := se_un rn_sumv h
/-! ### sorted, data of any depth -/
def dpSize : Nat → List D → Bool := fun n ds => eqOks n ds
open PySem.W (alike AllAlike Sortable dataLe)
def allAl (ds : List PyData) : Bool := ds.all fun d => ds.all fun e => alike d e
theorem allAl_ok {ds : List PyData} (h : allAl ds = true) : AllAlike ds := fun d hd e he => by
  have := List.all_eq_true.mp h d hd
  exact List.all_eq_true.mp this e he
def tupC : PyData → Bool
  | .tuple (_ :: _) => true
  | _ => false
def notTN : PyData → Bool
  | .tuple _ => false
  | .none => false
  | _ => true
def sortab (ds : List PyData) : Bool := ds.all tupC || ds.all notTN
theorem sortab_ok {ds : List PyData} (h : sortab ds = true) : Sortable ds := by
  rcases Bool.or_eq_true _ _ |>.mp h with h | h
  · refine .inl fun d hd => ?_
    have := List.all_eq_true.mp h d hd
    cases d with
    | tuple xs =>
      cases xs with
      | nil => cases this
      | cons x r => exact ⟨x, r, rfl⟩
    | _ => cases this
  · refine .inr fun d hd => ?_
    have := List.all_eq_true.mp h d hd
    cases d with
    | tuple xs => cases this
    | none => cases this
    | _ => exact ⟨by simp, by simp⟩
/-- sorted by their data -/
def srtD (xs : List D) : List D := xs.mergeSort (dataLe false toPy)
def deepOk (xs : List D) : Bool := eqOks 59 xs && allAl (toPys xs) && sortab (toPys xs)
def sortDD : D → Option D := fun d => (lstI d).bind fun xs => if deepOk xs = true then some (.lst true (srtD xs)) else none
theorem toPys_map : ∀ ds : List D, toPys ds = ds.map toPy
  | [] => rfl
  | d :: ds => by simp [toPys, toPys_map ds]
theorem each_ro : ∀ {xs : List D} {vs : List V}, ROs M F H xs vs em →
    PySem.W.EachIs (fun (x : D) (p : V × PyData) => RO M F H x p.1 em ∧ p.2 = toPy x) xs (vs.zip (toPys xs))
  | [], vs, r => by
    simp only [ROs] at r
    obtain ⟨rfl, _⟩ := r
    exact .nil
  | x :: xs, vs, r => by
    simp only [ROs] at r
    obtain ⟨v, ws, S1, S2, rfl, r1, r2, _, e⟩ := r
    have h1 : S1 = em := by
      funext a
      exact propext ⟨fun h => by rw [e]; exact .inl h, fun h => h.elim⟩
    have h2 : S2 = em := by
      funext a
      exact propext ⟨fun h => by rw [e]; exact .inr h, fun h => h.elim⟩
    subst h1 h2
    exact .cons ⟨r1, rfl⟩ (each_ro r2)
theorem ros_each : ∀ {xs : List D} {ps : List (V × PyData)}, PySem.W.EachIs (fun (x : D) (p : V × PyData) => RO M F H x p.1 em ∧ p.2 = toPy x) xs ps → ROs M F H xs (ps.map Prod.fst) em
  | [], _, h => by
    cases h
    exact ros_nil
  | x :: xs, _, h => by
    cases h with
    | cons h1 h2 => exact ros_cons h1.1 (ros_each h2)
theorem ros_srt {xs : List D} {vs : List V} (r : ROs M F H xs vs em) : ROs M F H (srtD xs) (VH.srtDat vs (toPys xs)) em := by
  have e := each_ro r
  refine ros_each (PySem.W.sort_each (r := dataLe false toPy) (s := dataLe false Prod.snd) e fun p hp q hq => ?_)
  have h1 := (e.zip p hp).2
  have h2 := (e.zip q hq).2
  show dataLe false toPy p.1 q.1 = dataLe false Prod.snd p.2 q.2
  unfold PySem.W.dataLe
  simp only [PySem.W.sortLe, h1, h2]
theorem deep_depth : ∀ {xs : List D}, eqOks 59 xs = true → ∀ d ∈ toPys xs, d.depth ≤ 60
  | [], _, d, hd => by simp [toPys] at hd
  | x :: xs, h, d, hd => by
    simp only [eqOks, Bool.and_eq_true] at h
    simp only [toPys, List.mem_cons] at hd
    rcases hd with rfl | hd
    · have := (toPy_can 59 x h.1).2
      omega
    · exact deep_depth h.2 d hd
theorem rn_sortD : RN M (VH.rSortedDat M.K) (op1 sortDD) := by
  intro F H ds vs z Q fh rl e k
  unfold op1 at e
  split at e
  · rename_i d
    obtain ⟨x, ws, Sx, rfl, r1, rr⟩ := rl
    simp only [RL] at rr
    subst rr
    unfold sortDD at e
    cases q : lstI d with
    | none => rw [q] at e; cases e
    | some xs =>
      rw [q] at e
      simp only [Option.bind_some] at e
      split at e
      · rename_i hd
        cases e
        unfold deepOk at hd
        simp only [Bool.and_eq_true] at hd
        obtain ⟨a, us, rfl, h1, h2⟩ := lstI_in q r1 fh
        refine ⟨a, us, toPys xs, rfl, SqL.of h1, toPys_dp fh 59 xs hd.1.1 h2, allAl_ok hd.1.2, sortab_ok hd.2, deep_depth hd.1.1, fun p hp => ?_⟩
        exact k _ _ _ _ (NewR.lst fh (ros_srt h2) hp)
      · cases e
  · cases e
end
end VS
set_option maxHeartbeats 1000000
/-! VSItems: sorted(d.items()). -/
namespace VH
open PySem PySem.Spec PyProof.Rows L2 PySem.Calls LiI
section
variable {X : Cx} {e : Expr} {te : TE} {p apos cpos pos : Pos}
theorem pairs_laid {pins : List (Addr × Obj)} {σ : L2.St} {H : Hp} {s : Shared} {g : Heap} {tk : Nat} {kvs : List (Key × V)}
    {vs : List (Key × Value)} {acc : List Value} {c : Nat} {as : List Addr} {B lo : Addr} {ws : List V}
    (I : Inv X pins σ H s) (kv : KV kvs vs) (hw : ws.length ≤ sizeLine) (rw_ : Vals ws acc)
    (hk : ∀ b o, s.heap.get? b = some o → g.get? b = some o) (hlo : s.heap.objs.size ≤ lo) (hB : s.heap.objs.size ≤ B) (hBn : B ∉ as)
    (hS : g.get? B = some { cls := .type "list", dict := none, data := .seq acc.toArray c, slots := #[] })
    (hl : as.length = vs.length) (hG : PySem.W.KdxG (mixKind X.prog X.w) vs lo g as) :
    ∃ H' : Hp, (∀ b o, H b = some o → H' b = some o) ∧ H B = none ∧ (∀ t ∈ as, H t = none) ∧
      H' B = some (.lst ws) ∧ Paired (fun (t : Addr) (q : Key × V) => H' t = some (.tup [kV q.1, q.2])) as kvs ∧
      Inv X pins σ H' { s with heap := g, toks := tk } := by
  have lk : kvs.length = vs.length := Paired.length kv
  have nd : as.Nodup := List.Pairwise.imp (fun {a b} (h : a < b) => Nat.ne_of_lt h) hG.rise
  have new : ∀ t ∈ as, H t = none := fun t ht => I.hok.fresh (Nat.le_of_lt (Nat.lt_of_le_of_lt hlo (hG.above t ht)))
  have newS : H B = none := I.hok.fresh hB
  generalize e0 : putT (upd H B (.lst ws)) as kvs = H2
  have atP := putT_at as kvs (upd H B (.lst ws)) (by omega) nd
  rw [e0] at atP
  have off : ∀ b, b ∉ as → b ≠ B → H2 b = H b := fun b h1 h2 => by rw [← e0, putT_off as kvs _ h1, upd_ne h2]
  have low : ∀ b o, s.heap.get? b = some o → b ∉ as ∧ b ≠ B := fun b o e =>
    ⟨fun z => absurd (Heap.lt_size e) (Nat.not_lt.mpr (Nat.le_of_lt (Nat.lt_of_le_of_lt hlo (hG.above b z)))),
      Nat.ne_of_lt (Nat.lt_of_lt_of_le (Heap.lt_size e) hB)⟩
  have kp : ∀ b u, H b = some u → H2 b = some u := fun b u e => by
    rw [off b (fun z => by rw [new b z] at e; cases e) (fun z => by rw [z, newS] at e; cases e)]
    exact e
  have eS : H2 B = some (.lst ws) := by rw [← e0, putT_off as kvs _ hBn, upd_same]
  refine ⟨H2, kp, newS, new, eS, atP, ?_⟩
  refine I.call' (ch := []) rfl ⟨fun b o q _ _ _ => hk b o q, fun b o q _ _ _ => ⟨o.slots, hk b o q⟩,
    fun b o q n _ => ?_, fun b o q _ => ⟨o, hk b o q⟩, fun b xs q => kp b _ q, fun b o u q => kp b _ q,
    fun b ps q => ⟨#[], by rw [kp b _ q]; simp⟩⟩ (fun b u q => ?_) I.bare fun b z => by simp at z
  · obtain ⟨z1, z2⟩ := low b o q
    rw [off b z1 z2]
    exact n
  · by_cases hb : b ∈ as
    · obtain ⟨j, pk, e1, e2, e3⟩ := paired_ix atP hb
      rw [e3] at q
      cases q
      obtain ⟨key, k, x, f1, f2, f3⟩ := hG.pairs j b e1
      obtain ⟨qv, g1, g2, g3⟩ := LiI.paired_get kv e2
      rw [f1] at g1
      cases g1
      have rk : RelV (kV pk.1) key := by
        rw [g2]
        exact relV_key (show keyIs k key = true from f2)
      exact ⟨by show 2 ≤ sizeLine; decide, [key, x], .cons rk (.cons g3 .nil), ⟨_, f3, rfl, _, rfl⟩⟩
    · by_cases hb2 : b = B
      · rw [hb2] at q ⊢
        rw [eS] at q
        cases q
        exact ⟨hw, acc, c, rw_, hS⟩
      · rw [off b hb hb2] at q
        exact (I.hok b u q).stay (fun d v _ y => hk d v y) (fun d y => kp d _ y) fun d xs y => kp d _ y
def keyPy : Key → PyData
  | .inl i => .int i
  | .inr x => .str x
def itemsDat : List (Key × V) → List PyData → List PyData
  | q :: kvs, d :: ds => .tuple [keyPy q.1, d] :: itemsDat kvs ds
  | _, _ => []
def rSortItems (K : PySem.W.Frag) : V → Hp → VK → Prop := fun x H Q =>
  ∃ (d : Addr) (kvs : List (Key × V)) (es : List PyData), x = .ref d ∧ Rd H d (.dK kvs) ∧ DpAll K H (kvs.map (·.2)) es ∧
    PySem.W.AllAlike (itemsDat kvs es) ∧ (∀ d ∈ itemsDat kvs es, d.depth ≤ 60) ∧
    ∀ (H' : Hp) (p : Addr) (ts : List Addr), (∀ b o, H b = some o → H' b = some o) →
      H p = none → (∀ t ∈ ts, H t = none) → H' p = some (.lst (srtDat (ts.map V.ref) (itemsDat kvs es))) →
      Paired (fun (t : Addr) (q : Key × V) => H' t = some (.tup [kV q.1, q.2])) ts kvs → Q (.ref p) H'
def tSortItems (K : PySem.W.Frag) (te : TE) : TE := fun σ H Q => te σ H fun x H1 => rSortItems K x H1 Q
theorem itemsDat_sortable : ∀ (kvs : List (Key × V)) (es : List PyData), ∀ d ∈ itemsDat kvs es, ∃ x r, d = .tuple (x :: r)
  | [], _, d, h => by simp [itemsDat] at h
  | _ :: _, [], d, h => by simp [itemsDat] at h
  | q :: kvs, e :: es, d, h => by
    rcases List.mem_cons.mp h with rfl | h
    · exact ⟨_, _, rfl⟩
    · exact itemsDat_sortable kvs es d h
theorem dpAll_len {K : PySem.W.Frag} {H : Hp} : ∀ {vs : List V} {es : List PyData}, DpAll K H vs es → vs.length = es.length
  | _, _, .nil => rfl
  | _, _, .cons _ t => by rw [List.length_cons, List.length_cons, dpAll_len t]
theorem itemsDat_len : ∀ {kvs : List (Key × V)} {es : List PyData}, kvs.length = es.length → (itemsDat kvs es).length = kvs.length
  | [], [], _ => rfl
  | [], _ :: _, h => by cases h
  | _ :: _, [], h => by cases h
  | q :: kvs, e :: es, h => by
    show (itemsDat kvs es).length + 1 = _
    rw [itemsDat_len (Nat.succ.inj h)]
    rfl
/-- the tuples read as their data -/
theorem items_read {h0 h : Heap} (hk : ∀ b o, h0.get? b = some o → h.get? b = some o) :
    ∀ (kvs : List (Key × V)) (vs : List (Key × Value)) (es : List PyData) (as : List Addr) (bs : List Addr), KV kvs vs → ReadsAll h0 (vs.map (·.2)) es bs →
      (∀ (j : Nat) (a : Addr), as[j]? = some a → ∃ key k x, vs[j]? = some (k, x) ∧ keyIs k key = true ∧ h.get? a = some { cls := .type "tuple", data := .seq #[key, x] }) → as.length = vs.length →
      PySem.W.EachIs (fun (v : Value) (p : V × PyData) => RelV p.1 v) (as.map Value.ref) ((as.map V.ref).zip (itemsDat kvs es)) ∧
      PySem.W.EachIs (fun (v : Value) (p : V × PyData) => ∃ as, Reads h v p.2 as) (as.map Value.ref) ((as.map V.ref).zip (itemsDat kvs es)) ∧
      ((as.map V.ref).zip (itemsDat kvs es)).map Prod.snd = itemsDat kvs es
  | [], vs, es, as, bs, kv, rd, hp, hl => by
    cases kv
    cases as with
    | nil => exact ⟨.nil, .nil, rfl⟩
    | cons a as => cases hl
  | q :: kvs, _, es, as, bs, kv, rd, hp, hl => by
    cases kv with
    | @cons _ qv _ vs h1 h2 =>
      cases as with
      | nil => cases hl
      | cons a as =>
        cases rd with
        | cons r1 r2 =>
          obtain ⟨q1, q2, q3⟩ := items_read hk kvs vs _ as _ h2 r2 (fun j b hj => hp (j + 1) b hj) (Nat.succ.inj hl)
          obtain ⟨key, k, x, e1, e2, e3⟩ := hp 0 a rfl
          cases e1
          have rkey : ∃ as, Reads h key (keyPy q.1) as := by
            have hq : q.1 = k := h1.1
            rw [hq]
            cases k with
            | inl i =>
              obtain ⟨t, rfl⟩ := relV_key (k := .inl i) e2
              exact ⟨_, .int _ _⟩
            | inr z =>
              obtain ⟨t, rfl⟩ := relV_key (k := .inr z) e2
              exact ⟨_, .str _ _⟩
          obtain ⟨b1, rk⟩ := rkey
          refine ⟨.cons rfl q1, .cons ⟨_, Reads.tuple e3 rfl rfl (ReadsAll.cons rk (ReadsAll.cons (Reads.keeps hk r1) .nil))⟩ q2, ?_⟩
          show _ :: List.map _ (List.zip _ _) = _ :: _
          rw [q3]
theorem pe_sortItems (hc : X.calm = true) (hu : X.A.units + 64 < cLine) (he : PE X e te) (hg : Gl X "sorted") (hm : X.mg "sorted" = none)
    (hbase : attributeBase e "items" X.env (eval e X.env) = eval e X.env := by rfl)
    (hline : (apos.endLine == cpos.line) = true := by rfl)
    (hs : starEach [.Call (.Attribute e "items" apos) [] [] cpos] X.env
      = [(false, eval (.Call (.Attribute e "items" apos) [] [] cpos) X.env)] := by rfl) :
    PE X (.Call (.Name "sorted" p) [.Call (.Attribute e "items" apos) [] [] cpos] [] pos) (tSortItems X.K te) := by
  constructor
  intro pins s σ H Q I hq
  refine wpAny_Call_Name_kw (ld_blt I hg hm (u := .builtin "sorted") (by first | rfl | decide +kernel) ?_ (by first | decide +kernel | decide) (by first | decide +kernel | decide))
  rw [hs]
  refine PySem.callWith_builtin1 (wpAny_Call_method (T := "dict") (id := "dict.items") hbase rfl hline
    F.plainAttrs_dict F.slot_dict_items F.type_dict_items (thn (he.run pins s σ H _ I hq) ?_))
  rintro u s1 ⟨x, H1, I1, rx, d, kvs, es, rfl, hd, hes, hal, hdp, q⟩
  obtain rfl : u = Value.ref d := rx
  obtain ⟨hz, hs0, vs, kv, hdo⟩ := dk_rd I1.hok hd
  obtain ⟨ep, hat⟩ := hdo.dictAt
  have lk : kvs.length = vs.length := Paired.length kv
  have hvv : Vals (kvs.map (·.2)) (vs.map (·.2)) := by
    clear hdp hal hes hdo hat lk hz q hd
    unfold KV at kv
    induction kv with
    | nil => exact .nil
    | cons h1 _ ih => exact .cons h1.2 ih
  obtain ⟨bs, rd⟩ := Dp.readsAll I1 es _ _ hes hvv
  have I2 := I1.kept (t' := s1.toks)
    (h' := s1.heap.push { cls := .type "dict_items", data := .fields #[.ref d] })
    fun b ob q => Heap.get?_push_of_some _ q
  refine ⟨hdo.typeIs, hdo.mapOf.noDict, ?_⟩
  show wpAny _ _ (callWith cpos (.builtin "dict.items") [.ref d] [] []) _ X.xe s1
  refine method_meetsIn F.slot_dict_items F.entry_dict_items rfl (PySem.evalArgs_none
    ⟨rfl, hdo.typeIs, F.args_dict_items_1 _, _, meets_dict_items (mixKind X.prog X.w) d hs0, ⟨vs, hdo⟩, ?_⟩)
  refine call_function_entry kind_sorted plain_sorted entry_sorted (args_sorted1 _) ?_
  unfold Builtin.«sorted»
  refine wpAny_bind (m := checkCount "sorted" 1 1 _) (wpAny_pure ?_)
  refine wpAny_bind (PySem.W.kdx_collect (A := X.A.in1) (knd := mixKind X.prog X.w) (kvs := vs) (ep := ep) (I1.ok.hd hc)
    ⟨_, Heap.get?_push_size _ rfl, rfl, rfl⟩ (hat.push _) (by omega) fun h' tk as hk hl hG => ?_)
  have hlen : (as.map Value.ref).length ≤ sizeLine := by
    rw [List.length_map]
    omega
  refine wpAny_bind (wpAny_newList ?_ hlen)
  have hk0 : ∀ b o, s1.heap.get? b = some o → h'.get? b = some o := fun b o e => hk b o (Heap.get?_push_of_some _ e)
  obtain ⟨e1, e2, e3⟩ := items_read hk0 kvs vs es as bs kv rd hG.pairs (by omega)
  have hoL : (h'.push (seqObj "list" (as.map Value.ref).toArray 0)).get? h'.objs.size = some (seqObj "list" (as.map Value.ref).toArray 0) := Heap.get?_push_size _ rfl
  have up : ∀ b o, h'.get? b = some o → (PySem.W.sortingHeap (h'.push (seqObj "list" (as.map Value.ref).toArray 0)) h'.objs.size (as.map Value.ref)).get? b = some o := fun b o e =>
    PySem.W.sortingHeap_old (Nat.ne_of_lt (Heap.lt_size e)) (Heap.get?_push_of_some _ e)
  have e2' := e2.mono fun _ _ ⟨as, r⟩ => (⟨as, Reads.keeps up r⟩ : ∃ as, Reads _ _ _ as)
  have hsd := itemsDat_sortable kvs es
  have S := PySem.W.SortsAt.data (prog := X.prog) (w := X.w) (A := X.A.in1.in1)
    (s := { s1 with heap := PySem.W.sortingHeap (h'.push (seqObj "list" (as.map Value.ref).toArray 0)) h'.objs.size (as.map Value.ref), toks := tk })
    (PySem.W.each_map (R := fun v d => ∃ as, Reads _ v d as) Prod.snd e2') (by rw [e3]; exact hal) (.inl (by rw [e3]; exact hsd))
    (by
      rw [e3]
      intro d hd
      have := hdp d hd
      show X.A.units + 1 + 1 + d.depth < cLine
      omega)
  refine wpAny_bind (wpAny_holding (wpAny_call_entry slot_list_sort ⟨_, hoL, rfl⟩ entry_list_sort
    (PySem.W.list_sort_vals hoL S hlen ⟨_, rfl, ?_⟩) (args_list_sort _)))
  have eo := PySem.W.sortVals_data (R := fun (v : Value) (p : V × PyData) => RelV p.1 v) false e1 e2' (by rw [e3]; exact hal)
  have hv := vals_each eo
  obtain ⟨ce, hfin⟩ := sortedHeap_at (out := (PySem.W.sortVals (PySem.W.dataKind (PySem.W.sortingHeap (h'.push (seqObj "list" (as.map Value.ref).toArray 0)) h'.objs.size (as.map Value.ref)) (((as.map V.ref).zip (itemsDat kvs es)).map Prod.snd)) false (as.map Value.ref) (as.map Value.ref)).toArray) hoL
  have lowB : s1.heap.objs.size < h'.objs.size := Heap.lt_size (hk _ _ (Heap.get?_push_size s1.heap (o := { cls := .type "dict_items", data := .fields #[.ref d] }) rfl))
  have kp : ∀ b o, h'.get? b = some o → (sortedHeap (h'.push (seqObj "list" (as.map Value.ref).toArray 0)) h'.objs.size (as.map Value.ref) (PySem.W.sortVals (PySem.W.dataKind (PySem.W.sortingHeap (h'.push (seqObj "list" (as.map Value.ref).toArray 0)) h'.objs.size (as.map Value.ref)) (((as.map V.ref).zip (itemsDat kvs es)).map Prod.snd)) false (as.map Value.ref) (as.map Value.ref)).toArray).get? b = some o := fun b o e => by
    have hb := Heap.lt_size e
    rw [sortedHeap_old (Nat.ne_of_lt hb) (by rw [Heap.size_push]; exact Nat.lt_succ_of_lt hb)]
    exact Heap.get?_push_of_some _ e
  have hG' : PySem.W.KdxG (mixKind X.prog X.w) vs (s1.heap.push { cls := .type "dict_items", data := .fields #[.ref d] }).objs.size _ as :=
    ⟨hG.rise, hG.above, fun j a ha => by
      obtain ⟨key, k, x, f1, f2, f3⟩ := hG.pairs j a ha
      exact ⟨key, k, x, f1, f2, kp _ _ f3⟩⟩
  obtain ⟨H', k1, k2, k3, k4, k5, J⟩ := pairs_laid (tk := tk) (B := h'.objs.size) (ws := srtDat (as.map V.ref) (itemsDat kvs es)) I1 kv
    (by
      have := hv.length
      have h2 := PySem.W.sortVals_length (κ := PySem.W.dataKind (PySem.W.sortingHeap (h'.push (seqObj "list" (as.map Value.ref).toArray 0)) h'.objs.size (as.map Value.ref)) (((as.map V.ref).zip (itemsDat kvs es)).map Prod.snd)) (ks := as.map Value.ref) (vs := as.map Value.ref) false rfl
      show (List.map _ _).length ≤ _
      omega)
    hv (fun b o e => kp b o (hk0 b o e)) (by rw [Heap.size_push]; exact Nat.le_succ _) (Nat.le_of_lt lowB) (fun hm => Nat.lt_irrefl _ (hG.there hm)) hfin (by omega) hG'
  exact wpAny_pure ⟨_, rfl, .ref _, H', J, rfl, q H' _ as k1 k2 k3 k4 k5⟩
end
end VH
namespace VS
open PySem PyProof.Rows L2
section
variable {M : Mn} {W : WD} {b b1 b2 : Bool} {F H F' H' F1 H1 : Hp} {env env' env1 : List D} {σ : L2.St} {S S' S1 T : AS} {pr : Nat → Bool}
theorem keyPy_toPy : ∀ k : Key, VH.keyPy k = toPy (dkey k)
  | .inl i => rfl
  | .inr s => by cases s; simp [VH.keyPy, dkey, toPy]
theorem itemsDat_toPys : ∀ (kvs : List (Key × V)) (us : List D), VH.itemsDat kvs (toPys us) = toPys (pairsD (kvs.map fun p => dkey p.1) us)
  | [], us => by cases us <;> simp [VH.itemsDat, pairsD, toPys]
  | q :: kvs, [] => by simp [VH.itemsDat, pairsD, toPys]
  | q :: kvs, u :: us => by simp [VH.itemsDat, pairsD, toPys, toPy, itemsDat_toPys kvs us, keyPy_toPy]
def sortItD : D → Option D
  | .dct o false ks vs => if (frzV o vs && eqOks 57 vs && deepOk (pairsD ks vs)) = true then some (.lst true (srtD (pairsD ks vs))) else none
  | _ => none
theorem rn_sortIt : RN1 M (VH.rSortItems M.K) sortItD := by
  intro F H x d z Sx Q fh rx h k
  cases d with
  | dct o t ks us =>
    cases t with
    | true => simp [sortItD] at h
    | false =>
      simp only [sortItD] at h
      split at h
      · rename_i hz
        cases h
        simp only [Bool.and_eq_true, deepOk] at hz
        obtain ⟨⟨hz, he⟩, ⟨hd, hal⟩, hso⟩ := hz
        obtain ⟨a, T', kvs, rfl, rd, rfl, rs, _, hT, _⟩ := rx.dctK fh
        have := frz_em hz rs hT
        subst this
        have eq := itemsDat_toPys kvs us
        refine ⟨a, kvs, toPys us, rfl, rd, toPys_dp fh 57 us he rs, by rw [eq]; exact allAl_ok hal, by rw [eq]; exact deep_depth hd, fun H' p ts ex hp ht hl hq => ?_⟩
        rw [eq] at hl
        have hn : p ∉ ts := fun hm => by
          obtain ⟨_, q, _, _, e⟩ := LiI.paired_ix hq hm
          rw [hl] at e
          cases e
        have hF : ∀ t ∈ ts, addT F ts H' t = H' t := fun t h => by simp [addT, h]
        have eF : Ext F (addT F ts H') := fun b u e => by
          have : b ∉ ts := fun z => by have := fh.none_of (ht b z); rw [e] at this; cases this
          simp [addT, this, e]
        have fh' : FH (addT F ts H') H' := fun b u e => by
          by_cases hb : b ∈ ts
          · rw [hF b hb] at e; exact .inl e
          · simp only [addT, hb, if_false] at e
            exact (fh b u e).imp (ex b u) fun ⟨l, o, z⟩ => ⟨l, o, ex b _ z⟩
        have rp := pairs_ok (M := M) hF hq (rs.mono us eF (fun _ h => h.elim))
        have rq := ros_srt rp
        refine k (.ref p) (addT F ts H') H' (fun c => c = p) ⟨eF, ex, ?_, fun c e => by rw [e]; exact hp, fun c e => ?_, fun c u e => ?_, fh'⟩
        · simp only [RO, if_true]
          exact ⟨p, _, em, rfl, rq, hl, fun z => z, AS.ext fun c => by simp [on1, em]⟩
        · rw [e]
          simp only [addT, hn, if_false]
          exact fh.none_of hp
        · by_cases hc : c ∈ ts
          · exact .inr (ht c hc)
          · simp only [addT, hc, if_false] at e
            exact .inl e
      · cases h
  | _ => cases h
theorem se_sitems {te : TE} {f : List D → R Rv} (h : SE M W b te f) : SE M W (b && true) (VH.tSortItems M.K te) (una sortItD f) := se_un rn_sortIt h
end
end VS
set_option maxHeartbeats 1000000
/-! VSParT: x, y = a, b where a name is captured. -/
namespace VS
open PySem PyProof.Rows L2
section
variable {M : Mn} {W : WD} {b b1 b2 : Bool} {F H F' H' F1 H1 : Hp} {env env' env1 : List D} {σ : L2.St} {S S' S1 T : AS} {pr : Nat → Bool}
theorem alloc {o : HO} {p : Addr} (st : Stt M F H S) (hp : H p = none) : Step F H S F (upd H p o) S ∧ Stt M F (upd H p o) S ∧ (∀ a, S a → upd H p o a = H a) := by
  have kk : ∀ a, S a → upd H p o a = H a := fun a ha => by
    obtain ⟨u, e⟩ := st.al1 a ha
    exact upd_ne (fun z => by rw [z, hp] at e; cases e)
  have ex : Ext H (upd H p o) := ext_upd hp
  refine ⟨Step.mk0 (Ext.refl F) (fun a u e _ => ex a u e) (fun a h => .inl h) (fun a u h => .inl h), ⟨fun a u e => ?_, st.fr, fun a h => ?_, st.tabsE ex, st.ft⟩, kk⟩
  · rcases st.fh a u e with z | ⟨l, o', z⟩
    · exact .inl (ex a u z)
    · exact .inr ⟨l, o', ex a _ z⟩
  · rw [kk a h]; exact st.al a h
theorem ss_parT {ta : TA} {fs : List D → R (List Rv)} {i j : Nat} (h1 : SA M W b ta fs) (hi : pr i = false := by rfl) (hj : pr j = false := by rfl) : SS M W pr (tAsg (tTup ta) (gTup M.K 2 (gCons (gName i) (gCons (gName j) gNil)))) (parS i j fs) := by
  intro D F H env σ S st en h
  refine h1 F H env σ S _ st en ?_
  unfold parS at h
  cases hf : fs env with
  | stuck => rw [hf] at h; exact h
  | err c d env1 =>
    rw [hf] at h
    exact fun F' H' S' cls dx a b c d => h σ F' H' S' cls dx a b c d Pr.refl
  | ok rs env1 =>
    rw [hf] at h
    simp only [SR.of] at h
    intro vs F1 H1 S1 s1 st1 _ res1
    cases q : escs rs env1 with
    | none => rw [q] at h; exact h.elim
    | some x =>
      obtain ⟨ds, env2⟩ := x
      match ds, q with
      | [], q => rw [q] at h; exact h.elim
      | [_], q => rw [q] at h; exact h.elim
      | _ :: _ :: _ :: _, q => rw [q] at h; exact h.elim
      | [d, e], q =>
        rw [q] at h
        simp only at h
        obtain ⟨F2, S2, s2, st2, r2⟩ := escs_ok (ts := []) q st1 (by simpa using res1)
        rw [List.nil_append] at r2
        obtain ⟨Se, St, en2, ro2, dd, rfl, _⟩ := r2
        rw [hold_tmp] at ro2
        simp only [ROs] at ro2
        obtain ⟨v, ws, A1, A2, rfl, ra, ⟨w, ws2, B1, B2, rfl, rb, ⟨rfl, rfl⟩, _, rfl⟩, dAB, rfl⟩ := ro2
        rw [un_em] at dAB dd
        rw [un_em] at st2 s2
        cases q1 : env2[i]? with
        | none => rw [q1] at h; exact h.elim
        | some d0 =>
          rw [q1] at h
          simp only at h
          cases q2 : (env2.set i d)[j]? with
          | none => rw [q2] at h; exact h.elim
          | some e0 =>
            rw [q2] at h
            obtain ⟨T1, en3, d3, o3⟩ := en2.put q1 ra (fun a x y => dd a x (.inl y))
            obtain ⟨T2, en4, d4, o4⟩ := en3.put q2 rb (fun a x y => by
              rcases x with x | x
              · exact dAB a x y
              · exact dd a (o3 a x) (.inr y))
            have o : ∀ a, un B1 T2 a → un Se (un A1 B1) a := fun a z => by
              rcases z with z | z
              · exact .inr (.inr z)
              · rcases o4 a z with z | z
                · exact .inr (.inl z)
                · exact .inl (o3 a z)
            refine ⟨(show (2 : Nat) ≤ sizeLine by decide), fun p hp => ⟨p, [v, w], rfl, SqT.of upd_same, rfl, v, [w], rfl, w, [], rfl, rfl, ?_⟩⟩
            have st3 := st2.sub o
            obtain ⟨g1, g2, g3⟩ := alloc (o := .tup [v, w]) st3 hp
            exact h _ F2 _ _ ((((s1.trans s2).drop o)).trans g1) g2 (en4.mono (Ext.refl F2) g3) ((Pr.set hi).trans (Pr.set hj))
end
end VS
set_option maxHeartbeats 1000000
/-! VSPath: parts of things as places; displays that own what they hold. -/
namespace VS
open PySem PyProof.Rows L2
section
variable {M : Mn} {W : WD} {b b1 b2 : Bool} {F H F' H' F1 H1 : Hp} {env env' env1 : List D} {σ : L2.St} {S S' S1 T : AS} {pr : Nat → Bool}
theorem PV.snoc {a : Addr} {vs : List V} {k : Nat} {u : V} (e1 : hkids H a = some vs) (e2 : vs[k]? = some u) : ∀ {p : List Nat} {v : V}, PV H v p (.ref a) → PV H v (p ++ [k]) u
  | [], v, h => by
    have : V.ref a = v := h
    exact ⟨a, vs, u, this.symm, e1, e2, rfl⟩
  | j :: p, v, ⟨c, ws, w, h0, h1, h2, h3⟩ => ⟨c, ws, w, h0, h1, h2, PV.snoc e1 e2 h3⟩
/-- a rule that reads a part -/
def KR (M : Mn) (r : List V → Hp → VK → Prop) (kf : List D → Option Nat) : Prop :=
  ∀ F H d x S ds vs k, FH F H → RO M F H d x S → RL M F H ds vs → kf (d :: ds) = some k →
    ∃ a ws T, x = V.ref a ∧ ROs M F H (kids d) ws T ∧ (own d = true → hkids H a = some ws) ∧ (∀ b, T b → S b) ∧ ∀ u Q, ws[k]? = some u → Q u H → r (x :: vs) H Q
def kidN (kf : List D → Option Nat) (fs : List D → R (List Rv)) : List D → R Rv := fun env => (fs env).bind fun rs env1 => match rs, fetchs env1 rs with
  | r :: _, some (d :: ds) => match kf (d :: ds) with
    | some k => match (kids d)[k]? with
      | some c => if isFz c = true then .ok (.tmp c) env1 else if own c = true then (match r with
        | .pth i p => if own d = true then .ok (.pth i (p ++ [k])) env1 else .stuck
        | .tmp _ => .ok (.tmp c) env1) else .stuck
      | none => .stuck
    | none => .stuck
  | _, _ => .stuck
theorem ros_get {ds : List D} {vs : List V} {S : AS} {k : Nat} {c : D} (h : ROs M F H ds vs S) (e : ds[k]? = some c) : ∃ u Sc, vs[k]? = some u ∧ RO M F H c u Sc ∧ ∀ b, Sc b → S b := by
  obtain ⟨v, S1, S2, e1, r1, _, rfl, _⟩ := h.focus k e
  exact ⟨v, S1, e1, r1, fun b z => .inl z⟩
theorem se_kid {ta : TA} {fs : List D → R (List Rv)} {r : List V → Hp → VK → Prop} {kf : List D → Option Nat} (h1 : SA M W b ta fs) (hr : KR M r kf) :
    SE M W b (fun σ H Q => ta σ H fun vs H1 => r vs H1 Q) (kidN kf fs) := by
  intro F H env σ S Q st en h
  refine h1 F H env σ S _ st en ?_
  unfold kidN at h
  cases hf : fs env with
  | stuck => rw [hf] at h; exact h
  | err c d env1 => rw [hf] at h; exact h
  | ok rs env1 =>
    rw [hf] at h
    simp only [R.bind] at h
    intro vs F1 H1 S1 s1 st1 hb1 res1
    obtain ⟨Se, St, en1, ro1, d1, rfl, pth1⟩ := res1
    cases rs with
    | nil => exact h.elim
    | cons q rs =>
      cases hq : fetchs env1 (q :: rs) with
      | none => rw [hq] at h; exact h.elim
      | some ds =>
        rw [hq] at h
        cases ds with
        | nil => exact h.elim
        | cons d ds =>
          simp only at h
          cases hk : kf (d :: ds) with
          | none => rw [hk] at h; exact h.elim
          | some k =>
            rw [hk] at h
            simp only at h
            cases hc : (kids d)[k]? with
            | none => rw [hc] at h; exact h.elim
            | some c =>
              rw [hc] at h
              simp only at h
              have rl := rl_of (Se := Se) (St := St) en1 ro1 pth1 hq
              obtain ⟨v, ws, Sx, rfl, rd, rl2⟩ := rl
              -- what it is worth when it is frozen
              split at h
              · rename_i hz
                obtain ⟨a, us, T, rfl, rT, _, _, kk⟩ := hr F1 H1 d v Sx ds ws k st1.fh rd rl2 hk
                obtain ⟨u, Sc, e1, r1, _⟩ := ros_get rT hc
                have := r1.fz_em hz
                subst this
                refine kk u _ e1 ?_
                have res := ResR.one_tmp en1 r1 en1.dj_emp
                rw [un_em] at res
                exact h u F1 H1 Se (s1.drop fun _ z => .inl z) (st1.sub fun _ z => .inl z) hb1 res
              · split at h
                · rename_i ho
                  cases q with
                  | pth i p =>
                    simp only at h
                    split at h
                    case isFalse => exact h.elim
                    rename_i hod
                    obtain ⟨a, us, T, rfl, rT, hh, _, kk⟩ := hr F1 H1 d v Sx ds ws k st1.fh rd rl2 hk
                    obtain ⟨u, Sc, e1, r1, _⟩ := ros_get rT hc
                    refine kk u _ e1 ?_
                    obtain ⟨u0, v0, g1, g2, g3⟩ := pth1 0 i p rfl
                    have g2' : V.ref a = v0 := by simpa using g2
                    subst g2'
                    refine h u F1 H1 Se (s1.drop fun _ z => .inl z) (st1.sub fun _ z => .inl z) hb1 ⟨Se, em, en1, ?_, en1.dj_emp, un_em', fun j i' p' e => ?_⟩
                    · simp only [List.map, Rv.hold, ROs, RO]
                      exact ⟨u, [], em, em, rfl, rfl, ⟨rfl, rfl⟩, fun _ h _ => h.elim, un_em'⟩
                    · cases j with
                      | zero =>
                        simp only [List.getElem?_cons_zero, Option.some.injEq, Rv.pth.injEq] at e
                        obtain ⟨rfl, rfl⟩ := e
                        exact ⟨u0, u, g1, rfl, g3.snoc (hh hod) e1⟩
                      | succ j => simp at e
                  | tmp d0 =>
                    simp only at h
                    simp only [fetchs, fetch] at hq
                    have e0 : d0 = d := by
                      by_cases he : isSet d0 = true
                      · simp only [he, if_true] at hq
                        cases q2 : fetchs env1 rs with
                        | none => rw [q2] at hq; cases hq
                        | some zs =>
                          rw [q2] at hq
                          have hq : some (d0 :: zs) = some (d :: ds) := hq
                          cases hq
                          rfl
                      · simp only [he] at hq
                        cases hq
                    subst e0
                    simp only [List.map, Rv.hold, ROs] at ro1
                    obtain ⟨v', ws', T1, T2, e, rA, _, _, rfl⟩ := ro1
                    cases e
                    obtain ⟨a, us, T, rfl, rT, _, tS, kk⟩ := hr F1 H1 d0 v T1 ds ws k st1.fh rA rl2 hk
                    obtain ⟨u, Sc, e1, r1, cS⟩ := ros_get rT hc
                    refine kk u _ e1 ?_
                    have o : ∀ a, un Se Sc a → un Se (un T1 T2) a := fun a z => z.imp id fun z => .inl (tS a (cS a z))
                    exact h u F1 H1 (un Se Sc) (s1.drop o) (st1.sub o) hb1 (ResR.one_tmp en1 r1 fun a x y => d1 a x (.inl (tS a (cS a y))))
                · exact h.elim
/-! ### x[i] -/
def lkI : List D → D → Option Nat
  | [], _ => none
  | k :: ks, j => if k = j then some 0 else (lkI ks j).map (· + 1)
def kfItem : List D → Option Nat
  | [.lst _ xs, .int i] => ixN xs.length i
  | [.tup _ xs, .int i] => ixN xs.length i
  | [.dct _ t ks _, k] => if keyOk t k = true then lkI ks k else none
  | _ => none
section
variable {κ : Type} [DecidableEq κ] {f : κ → D}
theorem lkI_ok (inj : ∀ a b, f a = f b → a = b) : ∀ {kvs : List (κ × V)} {j : κ} {k : Nat} {u : V}, lkI (kvs.map fun p => f p.1) (f j) = some k → (kvs.map (·.2))[k]? = some u → valV kvs j = some u
  | [], j, k, u, h, e => by simp [lkI] at h
  | p :: kvs, j, k, u, h, e => by
    by_cases hk : p.1 = j
    · have e1 : lkI ((p :: kvs).map fun p => f p.1) (f j) = some 0 := by simp [lkI, hk]
      rw [e1] at h
      cases h
      rw [valV_pos hk]
      simpa using e
    · have e1 : lkI ((p :: kvs).map fun p => f p.1) (f j) = (lkI (kvs.map fun p => f p.1) (f j)).map (· + 1) := by
        have : ¬ f p.1 = f j := fun z => hk (inj _ _ z)
        simp [lkI, this]
      rw [e1] at h
      cases q : lkI (kvs.map fun p => f p.1) (f j) with
      | none => rw [q] at h; cases h
      | some m =>
        rw [q] at h
        cases h
        rw [valV_neg hk]
        exact lkI_ok inj q (by simpa using e)
end
def kfIx : List D → Option Nat
  | [.lst _ xs, .int i] => ixN xs.length i
  | [.tup _ xs, .int i] => ixN xs.length i
  | _ => none
def kfDg : List D → Option Nat
  | [.dct _ t ks _, k] => if keyOk t k = true then lkI ks k else none
  | _ => none
theorem kf_or (ds : List D) : kfItem ds = kfIx ds ∨ kfItem ds = kfDg ds := by
  rcases ds with _ | ⟨d, _ | ⟨e, _ | ⟨f, ds⟩⟩⟩
  · exact .inl rfl
  · cases d <;> exact .inl rfl
  · cases d <;> first | exact .inr rfl | (cases e <;> exact .inl rfl)
  · cases d <;> first | exact .inl rfl | (cases e <;> exact .inl rfl)
theorem kidN_or {kf kf1 kf2 : List D → Option Nat} {fs : List D → R (List Rv)} (h : ∀ ds, kf ds = kf1 ds ∨ kf ds = kf2 ds) (env : List D) : kidN kf fs env = kidN kf1 fs env ∨ kidN kf fs env = kidN kf2 fs env := by
  unfold kidN
  cases fs env with
  | stuck => exact .inl rfl
  | err c d e => exact .inl rfl
  | ok rs env1 =>
    simp only [R.bind]
    cases rs with
    | nil => exact .inl rfl
    | cons r rs =>
      cases fetchs env1 (r :: rs) with
      | none => exact .inl rfl
      | some ds =>
        cases ds with
        | nil => exact .inl rfl
        | cons d ds =>
          simp only
          rcases h (d :: ds) with e | e
          · left; rw [e]
          · right; rw [e]
theorem atI_ix {us : List V} {i : Int} {k : Nat} {u : V} (h : ixN us.length i = some k) (e : us[k]? = some u) : atI us i = some u := by
  unfold atI
  rw [h]
  exact e
theorem kr_ix : KR M (r2L (rIx M.K)) kfIx := by
  intro F H d x S ds vs k fh ro rl hk
  cases d with
  | lst o xs =>
    match ds, hk with
    | [.int i], hk =>
      have hk : ixN xs.length i = some k := hk
      obtain ⟨y, ws2, Sy, rfl, ry, rr⟩ := rl
      simp only [RL] at rr
      subst rr
      simp only [RO] at ry
      obtain ⟨rfl, _⟩ := ry
      simp only [RO] at ro
      obtain ⟨a, us, T, rfl, hT, c⟩ := ro
      rw [show xs.length = us.length from hT.len] at hk
      have hH : H a = some (.lst us) ∧ ∀ b, T b → S b := by
        cases o with
        | true =>
          simp only [if_true] at c
          obtain ⟨c1, c2, rfl⟩ := c
          exact ⟨c1, fun b z => .inr z⟩
        | false =>
          simp only [Bool.false_eq_true, if_false] at c
          obtain ⟨c1, rfl, rfl⟩ := c
          exact ⟨rd_lstH fh c1, fun b z => z⟩
      exact ⟨a, us, T, rfl, hT, fun _ => by unfold hkids; rw [hH.1], hH.2, fun u Q e q => (.inl ⟨a, us, i, u, rfl, rfl, SqL.of hH.1, atI_ix hk e, q⟩)⟩
    | [], hk => cases hk
  | tup o xs =>
    match ds, hk with
    | [.int i], hk =>
      have hk : ixN xs.length i = some k := hk
      obtain ⟨y, ws2, Sy, rfl, ry, rr⟩ := rl
      simp only [RL] at rr
      subst rr
      simp only [RO] at ry
      obtain ⟨rfl, _⟩ := ry
      simp only [RO] at ro
      obtain ⟨a, us, T, rfl, hT, c⟩ := ro
      rw [show xs.length = us.length from hT.len] at hk
      have hH : H a = some (.tup us) ∧ ∀ b, T b → S b := by
        cases o with
        | true =>
          simp only [if_true] at c
          obtain ⟨c1, c2, rfl⟩ := c
          exact ⟨c1, fun b z => .inr z⟩
        | false =>
          simp only [Bool.false_eq_true, if_false] at c
          obtain ⟨c1, rfl, rfl⟩ := c
          exact ⟨rd_tupH fh c1, fun b z => z⟩
      exact ⟨a, us, T, rfl, hT, fun _ => by unfold hkids; rw [hH.1], hH.2, fun u Q e q => .inr (.inl ⟨a, us, i, u, rfl, rfl, SqT.of hH.1, atI_ix hk e, q⟩)⟩
    | [], hk => cases hk
  | _ => cases ds <;> cases hk
theorem kr_dg : KR M (r2L rDG) kfDg := by
  intro F H d x S ds vs k fh ro rl hk
  cases d with
  | dct o t ks us =>
    match ds, hk with
    | [e], hk =>
      have hq : (if keyOk t e = true then lkI ks e else none) = some k := by cases o <;> exact hk
      split at hq
      · rename_i hko
        obtain ⟨y, ws2, Sy, rfl, ry, rr⟩ := rl
        simp only [RL] at rr
        subst rr
        simp only [RO] at ro
        obtain ⟨a, wv, T, rfl, hT, ho, hk', c⟩ := ro
        have hS : Rd H a ho ∧ (∀ b, T b → S b) ∧ (o = true → H a = some ho) := by
          cases o with
          | true =>
            simp only [if_true] at c
            obtain ⟨c1, c2, rfl⟩ := c
            exact ⟨.inl c1, fun b z => .inr z, fun _ => c1⟩
          | false =>
            simp only [Bool.false_eq_true, if_false] at c
            obtain ⟨c1, rfl, rfl⟩ := c
            exact ⟨fh.rd c1, fun b z => z, fun z => nomatch z⟩
        obtain ⟨rd, tS, hH⟩ := hS
        cases t with
        | false =>
          simp only [Bool.false_eq_true, if_false] at hk'
          obtain ⟨kvs, rfl, rfl, rfl, _⟩ := hk'
          obtain ⟨j, rfl, rfl⟩ := isK_in hko ry
          exact ⟨a, _, T, rfl, hT, fun z => by unfold hkids; rw [hH z], tS, fun u Q e q => ⟨a, u, rfl, .inl ⟨kvs, j, rd, rfl, (lkI_ok (f := dkey) (fun _ _ => dkey_inj) hq e).symm⟩, q⟩⟩
        | true =>
          simp only [if_true] at hk'
          obtain ⟨kvs, rfl, rfl, rfl, _⟩ := hk'
          obtain ⟨j, p, rfl, rfl, hp⟩ := keyT_in hko ry fh
          exact ⟨a, _, T, rfl, hT, fun z => by unfold hkids; rw [hH z], tS, fun u Q e q => ⟨a, u, rfl, .inr ⟨kvs, j, p, rd, rfl, hp, (lkI_ok (f := dkeyT) (fun _ _ => dkeyT_inj) hq e).symm⟩, q⟩⟩
      · cases hq
    | [], hk => cases hk
  | _ => cases ds <;> cases hk
def itemP (b2 : Bool) (fa fb : List D → R Rv) : List D → R Rv := kidN kfItem (consF (b2 && true) fa (consF true fb nilF))
theorem se_itemP {ta tb : TE} {fa fb : List D → R Rv} (h1 : SE M W b1 ta fa) (h2 : SE M W b2 tb fb) :
    SE M W (b1 && (b2 && true)) (fun σ H Q => tOp (rIx M.K) ta tb σ H Q ∨ tDGet ta tb σ H Q) (itemP b2 fa fb) :=
  se_or (kidN_or kf_or) (se_kid (ta := tCons ta (tCons tb tNil)) (sa_cons h1 (sa_cons h2 sa_nil)) kr_ix) (se_kid (ta := tCons ta (tCons tb tNil)) (sa_cons h1 (sa_cons h2 sa_nil)) kr_dg)
/-! ### attributes -/
def lkN : List Str → Str → Option Nat
  | [], _ => none
  | k :: ks, j => if k = j then some 0 else (lkN ks j).map (· + 1)
def kfAttr (c f : Str) : List D → Option Nat
  | [.ins _ d fs _] => if d = c then lkN fs f else none
  | _ => none
theorem lkN_ok : ∀ {kvs : List (Str × V)} {j : Str} {k : Nat} {u : V}, lkN (kvs.map (·.1)) j = some k → (kvs.map (·.2))[k]? = some u → kvs.lookup j = some u
  | [], j, k, u, h, e => by simp [lkN] at h
  | p :: kvs, j, k, u, h, e => by
    by_cases hk : p.1 = j
    · simp only [List.map_cons, lkN, hk, if_true] at h
      cases h
      have : (j == p.1) = true := by simp [hk]
      obtain ⟨p1, p2⟩ := p
      simp only at hk this
      rw [List.lookup, this]
      simpa using e
    · simp only [List.map_cons, lkN, hk, if_false] at h
      cases q : lkN (kvs.map (·.1)) j with
      | none => rw [q] at h; cases h
      | some m =>
        rw [q] at h
        cases h
        have : (j == p.1) = false := by
          simp only [beq_eq_false_iff_ne]
          exact fun e => hk e.symm
        obtain ⟨p1, p2⟩ := p
        simp only at this
        rw [List.lookup, this]
        exact lkN_ok q (by simpa using e)
def rAttr (K : PySem.W.Frag) (f : Str) : List V → Hp → VK → Prop := fun vs H Q => match vs with
  | [x] => ∃ a C dx fs v, x = V.ref a ∧ H a = some (.ins C dx fs) ∧ Cls K C ∧ NoAttr K C f ∧ fs.lookup f = some v ∧ Q v H
  | _ => False
theorem kr_attr {c f : Str} (hc : Cls M.K (M.cm c)) (hn : NoAttr M.K (M.cm c) f) : KR M (rAttr M.K f) (kfAttr c f) := by
  intro F H d x S ds vs k fh ro rl hk
  cases d with
  | ins o c' fs us =>
    cases ds with
    | nil =>
      have hq : (if c' = c then lkN fs f else none) = some k := hk
      split at hq
      · rename_i hcc
        subst hcc
        simp only [RL] at rl
        subst rl
        simp only [RO] at ro
        obtain ⟨a, dx, ws, T, rfl, hT, kvs, rfl, rfl, c⟩ := ro
        have hS : H a = some (.ins (M.cm c') dx kvs) ∧ (∀ b, T b → S b) := by
          cases o with
          | true =>
            simp only [if_true] at c
            obtain ⟨c1, c2, c3, c4, c5, rfl⟩ := c
            exact ⟨c1, fun b z => .inr (.inr z)⟩
          | false =>
            simp only [Bool.false_eq_true, if_false] at c
            obtain ⟨c1, c2, rfl, rfl⟩ := c
            refine ⟨?_, fun b z => z⟩
            rcases fh a _ c1 with z | ⟨z, _⟩
            · exact z
            · exact z.elim
        exact ⟨a, _, T, rfl, hT, fun z => by unfold hkids; rw [hS.1], hS.2, fun u Q e q => ⟨a, _, dx, kvs, u, rfl, hS.1, hc, hn, lkN_ok hq e, q⟩⟩
      · cases hq
    | cons e ds => cases hk
  | _ => cases ds <;> cases hk
def attrF (c f : Str) (fa : List D → R Rv) : List D → R Rv := kidN (kfAttr c f) (consF true fa nilF)
theorem se_attr {ta : TE} {fa : List D → R Rv} (c f : Str) (hc : Cls M.K (M.cm c)) (hn : NoAttr M.K (M.cm c) f) (h1 : SE M W b1 ta fa) :
    SE M W (b1 && true) (tFld M.K ta f) (attrF c f fa) :=
  se_kid (ta := tCons ta tNil) (sa_cons h1 sa_nil) (kr_attr hc hn)
/-! ### displays that own -/
theorem new_objK {z : D} {o : HO} {p : Addr} {Se St : AS} (st : Stt M F H (un Se St)) (en : EnvR M F H env σ Se) (dd : dj Se St) (hp : H p = none) (ro : RO M F (upd H p o) z (.ref p) (on1 p St)) (hpl : pl o := by exact True.intro) :
    Step F H (un Se St) F (upd H p o) (un Se (on1 p St)) ∧ Stt M F (upd H p o) (un Se (on1 p St)) ∧ ResR M F (upd H p o) env σ [.tmp z] [.ref p] (un Se (on1 p St)) := by
  have kk : ∀ a, un Se St a → upd H p o a = H a := fun a ha => by
    obtain ⟨u, e⟩ := st.al1 a ha
    exact upd_ne (fun z => by rw [z, hp] at e; cases e)
  have Fp : F p = none := by
    cases q : F p with
    | none => rfl
    | some u =>
      rcases st.fh p u q with z | ⟨_, _, z⟩ <;> (rw [hp] at z; cases z)
  have nS : ∀ a, un Se St a → a ≠ p := fun a ha z => by
    obtain ⟨u, e⟩ := st.al1 a ha
    rw [z, hp] at e; cases e
  have ex : Ext H (upd H p o) := fun a u e => by rw [upd_ne (fun z => by rw [z, hp] at e; cases e)]; exact e
  refine ⟨Step.mk0 (Ext.refl F) (fun a u e _ => ex a u e) (fun a h => ?_) (fun a u h => .inl h), ⟨fun a u e => ?_, fun a h => ?_, fun a h => ?_, st.tabsE ex, st.ft⟩, ResR.one_tmp (en.mono (Ext.refl F) fun a ha => kk a (.inl ha)) ro fun a h1 h2 => ?_⟩
  · rcases h with h | h | h
    · exact .inl (.inl h)
    · exact .inr (by rw [h]; exact hp)
    · exact .inl (.inr h)
  · rcases st.fh a u e with z | ⟨l, o', z⟩
    · exact .inl (ex a u z)
    · exact .inr ⟨l, o', ex a _ z⟩
  · rcases h with h | h | h
    · exact st.fr a (.inl h)
    · rw [h]; exact Fp
    · exact st.fr a (.inr h)
  · rcases h with h | h | h
    · rw [kk a (.inl h)]; exact st.al a (.inl h)
    · exact ⟨o, by rw [h]; exact upd_same, hpl⟩
    · rw [kk a (.inr h)]; exact st.al a (.inr h)
  · rcases h2 with h | h
    · exact nS a (.inl h1) h
    · exact dd a h1 h
theorem escs_res {rs : List Rv} {ds : List D} {vs : List V} (h : escs rs env = some (ds, env')) (st : Stt M F H S) (r : ResR M F H env σ rs vs S) :
    ∃ F' Se St, Step F H S F' H (un Se St) ∧ Stt M F' H (un Se St) ∧ EnvR M F' H env' σ Se ∧ ROs M F' H ds vs St ∧ dj Se St := by
  obtain ⟨F1, S1, s1, st1, r1⟩ := escs_ok (ts := []) h st (by simpa using r)
  obtain ⟨Se, St, en, ro, dd, rfl, _⟩ := r1
  rw [List.nil_append, hold_tmp] at ro
  exact ⟨F1, Se, St, s1, st1, en, ro, dd⟩
def lstO (fs : List D → R (List Rv)) : List D → R Rv := fun env => (fs env).bind fun rs env1 => match escs rs env1 with
  | some (ds, env2) => if ds.length ≤ LIM then .ok (.tmp (.lst true ds)) env2 else .stuck
  | none => .stuck
def tupO (fs : List D → R (List Rv)) : List D → R Rv := fun env => (fs env).bind fun rs env1 => match escs rs env1 with
  | some (ds, env2) => if ds.length ≤ LIM then .ok (.tmp (.tup true ds)) env2 else .stuck
  | none => .stuck
theorem se_lstO {ta : TA} {fs : List D → R (List Rv)} (h1 : SA M W b ta fs) : SE M W b (tLst ta) (lstO fs) := by
  intro F H env σ S Q st en h
  refine h1 F H env σ S _ st en ?_
  unfold lstO at h
  cases hf : fs env with
  | stuck => rw [hf] at h; exact h
  | err c d env1 => rw [hf] at h; exact h
  | ok rs env1 =>
    rw [hf] at h
    intro vs F1 H1 S1 s1 st1 hb1 res1
    simp only [R.bind] at h
    cases q : escs rs env1 with
    | none => rw [q] at h; exact h.elim
    | some x =>
      obtain ⟨ds, env2⟩ := x
      rw [q] at h
      obtain ⟨F2, Se, St, s2, st2, en2, ro2, dd⟩ := escs_res q st1 res1
      simp only at h
      split at h
      · rename_i hl
        refine ⟨by rw [← ro2.len]; exact lim_ok hl, fun p hp => ?_⟩
        have nT : ∀ a, St a → a ≠ p := fun a ha z => by
          obtain ⟨u, e⟩ := st2.al1 a (.inr ha)
          rw [z, hp] at e; cases e
        have ro3 : RO M F2 (upd H1 p (.lst vs)) (.lst true ds) (.ref p) (on1 p St) := by
          simp only [RO, if_true]
          exact ⟨p, vs, St, rfl, ro2.mono ds (Ext.refl _) (fun a ha => upd_ne (nT a ha)), upd_same, fun z => nT p z rfl, rfl⟩
        obtain ⟨g1, g2, g3⟩ := new_objK st2 en2 dd hp ro3
        exact h (.ref p) F2 _ _ ((s1.trans s2).trans g1) g2 (fun hb => (hb1 hb).trans (fun a u e => by rw [upd_ne (fun z => by rw [z, hp] at e; cases e)]; exact e)) g3
      · exact h.elim
theorem se_tupO {ta : TA} {fs : List D → R (List Rv)} (h1 : SA M W b ta fs) : SE M W b (tTup ta) (tupO fs) := by
  intro F H env σ S Q st en h
  refine h1 F H env σ S _ st en ?_
  unfold tupO at h
  cases hf : fs env with
  | stuck => rw [hf] at h; exact h
  | err c d env1 => rw [hf] at h; exact h
  | ok rs env1 =>
    rw [hf] at h
    intro vs F1 H1 S1 s1 st1 hb1 res1
    simp only [R.bind] at h
    cases q : escs rs env1 with
    | none => rw [q] at h; exact h.elim
    | some x =>
      obtain ⟨ds, env2⟩ := x
      rw [q] at h
      obtain ⟨F2, Se, St, s2, st2, en2, ro2, dd⟩ := escs_res q st1 res1
      simp only at h
      split at h
      · rename_i hl
        refine ⟨by rw [← ro2.len]; exact lim_ok hl, fun p hp => ?_⟩
        have nT : ∀ a, St a → a ≠ p := fun a ha z => by
          obtain ⟨u, e⟩ := st2.al1 a (.inr ha)
          rw [z, hp] at e; cases e
        have ro3 : RO M F2 (upd H1 p (.tup vs)) (.tup true ds) (.ref p) (on1 p St) := by
          simp only [RO, if_true]
          exact ⟨p, vs, St, rfl, ro2.mono ds (Ext.refl _) (fun a ha => upd_ne (nT a ha)), upd_same, fun z => nT p z rfl, rfl⟩
        obtain ⟨g1, g2, g3⟩ := new_objK st2 en2 dd hp ro3
        exact h (.ref p) F2 _ _ ((s1.trans s2).trans g1) g2 (fun hb => (hb1 hb).trans (fun a u e => by rw [upd_ne (fun z => by rw [z, hp] at e; cases e)]; exact e)) g3
      · exact h.elim
/-! ### {k: v, ..} -/
inductive PK : List (TE × TE) → TA → List Str → Prop where
  | nil : PK [] tNil []
  | cons {t : TE} {trs : List (TE × TE)} {ta : TA} {k : Str} {ks : List Str} (h : PK trs ta ks) : PK ((tC (.str k), t) :: trs) (tCons t ta) (k :: ks)
theorem PK.eq {trs : List (TE × TE)} {ta : TA} {ks : List Str} (h : PK trs ta ks) : ∀ {σ : L2.St} {H : Hp} {R : List (V × V) → Hp → Prop},
    tPairs trs σ H R = ta σ H (fun vs H' => R ((ks.map V.str).zip vs) H') := by
  induction h with
  | nil => intros; rfl
  | cons _ ih =>
    intro σ H R
    rename_i t trs ta k ks h
    show t σ H (fun y H2 => tPairs trs σ H2 fun ps H3 => R ((.str k, y) :: ps) H3) = t σ H (fun x H1 => ta σ H1 fun xs H2 => R (((k :: ks).map V.str).zip (x :: xs)) H2)
    congr 1
    funext y H2
    exact ih
def dispF (kl : List (List Nat)) (fs : List D → R (List Rv)) : List D → R Rv := fun env => (fs env).bind fun rs env1 => match escs rs env1 with
  | some (ds, env2) => if ds.length = kl.length then .ok (.tmp (.dct true false (kl.map .str) ds)) env2 else .stuck
  | none => .stuck
theorem merge_nd : ∀ (more kvs : List (Key × V)), ((kvs ++ more).map (·.1)).Nodup → mergeK kvs more = kvs ++ more
  | [], kvs, _ => by simp [mergeK]
  | p :: more, kvs, h => by
    have hp : (kvs.any fun kv => decide (kv.1 = p.1)) = false := by
      rw [List.any_eq_false]
      intro q hq e
      rw [List.map_append] at h
      exact (List.nodup_append.mp h).2.2 q.1 (List.mem_map.mpr ⟨q, hq, rfl⟩) p.1 (List.mem_map.mpr ⟨p, List.mem_cons_self, rfl⟩) (of_decide_eq_true e)
    have e : putK kvs p.1 p.2 = kvs ++ [p] := by
      unfold putK
      rw [hp]
      rfl
    show mergeK (putK kvs p.1 p.2) more = _
    rw [e, merge_nd more (kvs ++ [p]) (by simpa using h)]
    simp
theorem se_disp {ta : TA} {fs : List D → R (List Rv)} {trs : List (TE × TE)} {ks : List Str} (kl : List (List Nat)) (pk : PK trs ta ks) (hk : ks = kl.map fun l => (⟨l.toArray⟩ : Str)) (hn : kl.Nodup) (h15 : kl.length ≤ 15) (h1 : SA M W b ta fs) :
    SE M W b (tDisp trs) (dispF kl fs) := by
  intro F H env σ S Q st en h p hp
  rw [pk.eq]
  obtain ⟨s0, st0, k0⟩ := alloc (o := HO.dK []) st hp
  have Sp : ¬ S p := fun z => by
    obtain ⟨u, e⟩ := st.al1 p z
    rw [hp] at e; cases e
  have ex0 : Ext H (upd H p (.dK [])) := fun a u e => by rw [upd_ne (fun z => by rw [z, hp] at e; cases e)]; exact e
  have un0 : ∀ a, vac (upd H p (.dK [])) a → vac H a := fun a e => e.back fun o q _ => ex0 a o q
  refine h1 F _ env σ S _ st0 (en.mono (Ext.refl F) k0) ?_
  unfold dispF at h
  cases hf : fs env with
  | stuck => rw [hf] at h; exact h
  | err c d env1 =>
    rw [hf] at h
    exact fun F' H' S' cls dx a b c d => h F' H' S' cls dx (s0.trans a) b c d
  | ok rs env1 =>
    rw [hf] at h
    simp only [R.bind] at h
    intro vs F1 H1 S1 s1 st1 hb1 res1
    cases q : escs rs env1 with
    | none => rw [q] at h; exact h.elim
    | some x =>
      obtain ⟨ds, env2⟩ := x
      rw [q] at h
      obtain ⟨F2, Se, Sx, s2, st2, en2, ro2, dd⟩ := escs_res q st1 res1
      simp only at h
      split at h
      · rename_i hl
        have Hp : H1 p = some (.dK []) := s1.keep p (.dK []) upd_same (fun _ z => nomatch z) Sp
        have s12 := s1.trans s2
        have Fp : F2 p = none := by
          cases q2 : F2 p with
          | none => rfl
          | some u =>
            exfalso
            rcases s12.new p u q2 with z | z | z
            · rcases st.fh p u z with z | ⟨_, _, z⟩ <;> (rw [hp] at z; cases z)
            · exact Sp z
            · exact z.no upd_same True.intro
        have nS : ∀ a, un Se Sx a → a ≠ p := fun a ha z => by
          rcases s12.own a ha with y | y
          · rw [z] at y; exact Sp y
          · exact y.no (show upd H p (.dK []) a = some (.dK []) by rw [z]; exact upd_same) True.intro
        let kvs : List (Key × V) := (ks.map Sum.inr).zip vs
        have lk : ks.length = kl.length := by rw [hk, List.length_map]
        have lv : vs.length = ks.length := by rw [← ro2.len, hl, lk]
        have k1 : kvs.map (·.1) = ks.map Sum.inr := List.map_fst_zip (by simp [lv])
        have k2 : kvs.map (·.2) = vs := List.map_snd_zip (by simp [lv])
        have knd : (kvs.map (·.1)).Nodup := by
          rw [k1, hk, List.map_map]
          refine List.pairwise_map.mpr (hn.imp fun {a b} ne e => ne ?_)
          have e : (Sum.inr (⟨a.toArray⟩ : Str) : Key) = Sum.inr (⟨b.toArray⟩ : Str) := e
          injection e with e
          injection e with e
          simpa using e
        refine ⟨Hp, kvs, ?_, ?_, ?_⟩
        · show (ks.map V.str).zip vs = ((ks.map Sum.inr).zip vs).map fun kv => (kV kv.1, kv.2)
          have : ∀ (l : List Str) (ws : List V), (l.map V.str).zip ws = ((l.map (Sum.inr : Str → Key)).zip ws).map fun kv => (kV kv.1, kv.2) := by
            intro l
            induction l with
            | nil => intro ws; rfl
            | cons z l ih =>
              intro ws
              cases ws with
              | nil => rfl
              | cons w ws => simp only [List.map_cons, List.zip_cons_cons, ih ws]; rfl
          exact this ks vs
        · have : kvs.length = vs.length := by rw [← k2, List.length_map]
          omega
        · rw [merge_nd kvs [] (by simpa using knd), List.nil_append]
          have kk : ∀ a, un Se Sx a → upd H1 p (.dK kvs) a = H1 a := fun a ha => upd_ne (nS a ha)
          have ro3 : RO M F2 (upd H1 p (.dK kvs)) (.dct true false (kl.map .str) ds) (.ref p) (on1 p Sx) := by
            simp only [RO, if_true, Bool.false_eq_true, if_false]
            refine ⟨p, vs, Sx, rfl, ro2.mono ds (Ext.refl _) (fun a ha => kk a (.inr ha)), .dK kvs, ⟨kvs, rfl, ?_, k2.symm, knd⟩, upd_same, fun z => nS p (.inr z) rfl, rfl⟩
            have : kvs.map (fun q => dkey q.1) = (kvs.map (·.1)).map dkey := by simp
            rw [this, k1, hk, List.map_map, List.map_map]
            exact List.map_congr_left fun l _ => by simp [Function.comp, dkey]
          refine h (.ref p) F2 _ (un Se (on1 p Sx)) ⟨s12.ext, fun a o e nn n => ?_, fun a z => ?_, fun a u e => ?_⟩ ⟨fun a u e => ?_, fun a z => ?_, fun a z => ?_, tabs_upd st2.tb Hp True.intro, st2.ft⟩ (fun hb a u e => ?_) (ResR.one_tmp (en2.mono (Ext.refl F2) fun a ha => kk a (.inl ha)) ro3 fun a x y => ?_)
          · have ap : a ≠ p := fun z => by rw [z, hp] at e; cases e
            rw [upd_ne ap]
            exact s12.keep a o (ex0 a o e) nn n
          · rcases z with z | z | z
            · exact (s12.own a (.inl z)).imp id (un0 a)
            · exact .inr (vac.of (by rw [z]; exact hp))
            · exact (s12.own a (.inr z)).imp id (un0 a)
          · rcases s12.new a u e with z | z | z
            · exact .inl z
            · exact .inr (.inl z)
            · exact .inr (.inr (un0 a z))
          · have ap : a ≠ p := fun z => by rw [z, Fp] at e; cases e
            rw [upd_ne ap]
            exact st2.fh a u e
          · rcases z with z | z | z
            · exact st2.fr a (.inl z)
            · rw [z]; exact Fp
            · exact st2.fr a (.inr z)
          · rcases z with z | z | z
            · rw [kk a (.inl z)]; exact st2.al a (.inl z)
            · exact ⟨.dK kvs, by rw [z]; exact upd_same, True.intro⟩
            · rw [kk a (.inr z)]; exact st2.al a (.inr z)
          · have ap : a ≠ p := fun z => by rw [z, hp] at e; cases e
            rw [upd_ne ap]
            exact hb1 hb a u (ex0 a u e)
          · rcases y with y | y
            · exact nS a (.inl x) y
            · exact dd a x y
      · exact h.elim
end
end VS
set_option maxHeartbeats 1000000
/-! VSSetDc: x = {k: v for ..}. -/
namespace VH
open PySem PySem.Spec PyProof.Rows L2
variable {X : Cx}
theorem sw_dict {kx vx : Expr} {gs : List Comprehension} {bsc : Scope} {dp np : Pos} {nm : Str} {ln : Nat} {ev : Env} (h1 : ev.scope.kind = .function) (h2 : ev.scope.names.lookup nm = some .local) (h3 : (np.line == dp.line) = true)
    (h4 : (bsc.names.any fun (n, k) => n == nm && (k == .local || k == .cell)) = false) : swapsWith (.DictComp kx vx gs bsc dp) (some (.Name nm np)) ln ev = pure true := by
  have q1 : ev.kindOf nm = some .local := h2
  have q2 : ev.blockKind = .function := by
    unfold Env.blockKind
    rw [h1]
    rfl
  unfold swapsWith
  simp only [q2, q1, h4, Expr.pos, h3]
  rfl
theorem ps_setDc {i : Nat} {nm : Str} {np : Pos} {kx vx tg it : Expr} {ifs : List Expr} {bsc : Scope} {own : List (Str × Nat)} {dp sp : Pos} {wi : TI} {g : TG} {tt : TT} {tk tv : TE} (hc : X.calm = true) (hN : X.N.Nodup) (hy : X.N[i]? = some nm) (hl : X.env.scope.names.lookup nm = some .local)
    (hw : swapsWith (.DictComp kx vx [⟨tg, it, ifs, 0⟩] bsc dp) (some (.Name nm np)) sp.line X.env = pure true) (hi : PI X tg it wi) (ok : BlkOk X.N X.env.scope bsc own)
    (hg : ∀ (s : Shared) (H : Hp) (C : Addr) (cl : List (Str × Addr)) (fp : List Addr), PG (X.blk s H bsc (compEnvC bsc cl C X.env) fp) tg g) (ht : ∀ (s : Shared) (H : Hp) (C : Addr) (cl : List (Str × Addr)) (fp : List Addr), PTs (X.blk s H bsc (compEnvC bsc cl C X.env) fp) ifs tt)
    (hk : ∀ (s : Shared) (H : Hp) (C : Addr) (cl : List (Str × Addr)) (fp : List Addr), PE (X.blk s H bsc (compEnvC bsc cl C X.env) fp) kx tk)
    (hv : ∀ (s : Shared) (H : Hp) (C : Addr) (cl : List (Str × Addr)) (fp : List Addr), PE (X.blk s H bsc (compEnvC bsc cl C X.env) fp) vx tv) (hs : ∀ x, foldedSetIterable it X.env x = pure x := by intro _; rfl) :
    PS X (.Assign [.Name nm np] (.DictComp kx vx [⟨tg, it, ifs, 0⟩] bsc dp) sp) (tAsg (tDc wi g tt tk tv (own.map (·.2))) (gName i)) := by
  constructor
  intro pins s0 σ H D I hq
  rw [exec_Assign_Name_used _ _ _ _ hw]
  apply wpAny_bind
  apply wpAny_standAt
  apply wpAny_bind
  have hq : tDc wi g tt tk tv (own.map (·.2)) σ H (fun x H1 => gName i x σ H1 D.nx) := hq
  have core := dc_core (pos := dp) (use := some (assign (.Name nm np) X.env)) (pos' := firstIterPos [⟨tg, it, ifs, 0⟩] dp) (Qf := fun _ s' => SP X pins D .next s') hc hN I hi ok hg ht hk hv hs hq (by
    intro L C s1 m H1 I1 q hn f
    show wpAny _ _ (assign (.Name nm np) X.env (.ref L)) _ _ _
    apply wpAny_assign_Name
    refine store_ok2 (v := V.ref L) I1 hN hy (.inl hl) rfl (fun s2 I2 w => ?_) (.inr hl)
    obtain ⟨a, sb, ha⟩ := w
    obtain ⟨f0, f1, f2, f3, f4, f5⟩ := f
    have haC : C ≠ a := ha.elim (fun z => by rw [z]; exact f1) (fun z e => f4 nm a z e.symm)
    refine ⟨m, hn.sameBut sb haC, fun h3 sb3 => ⟨_, H1, ?_, q⟩⟩
    exact I2.turned (t' := s2.toks) (fun b o hb e => (sb3.2 b hb).trans e) f0 f1 f3 f4 f5)
  exact wpAny_bind (thn core fun _ s' hs' => wpAny_pure (wpAny_pure hs'))
end VH
set_option maxHeartbeats 1000000
/-! VSTop: the law's def called from the top alone, where nothing is being shown. -/
namespace VH
open PySem PySem.Spec PyProof.Rows L2
/-- one call of the law's def, from the top -/
def TopRun (P : Program) (w : World) (K : PySem.W.Frag) (mg : Str → Option Value) (base : Heap) (CX : CXT) (fa : Addr) (sp : Sp) : Prop :=
  ∀ (s : Shared) (H : Hp) (u : Value) (v : V), Env0 P w K mg base callerA [] s H → RelV v u → sp [v] H (fun v _ => v = .bl true) (fun _ _ _ => False) →
    codeAny (model P w) callerA (.call (.ref fa) ⟨[u], []⟩) (CR CX [] P w H s (fun v _ => v = .bl true) fun _ _ _ => False) s
theorem call_top {P : Program} {w : World} {K : PySem.W.Frag} {mg mb : Str → Option Value} {CX : CXT} {fa a : Addr} {sp : Sp} {s : Shared} {vs : List Value} {ns : List Int}
    (kin : K.In s.heap) (gl : s.heap.Ns mainGlobals mg) (bl : s.heap.Ns builtinsNs mb) (bb : ∀ x : Str, x ≠ "__name__" → mb x = bootBuiltins x) (lim : s.heap.NoLimit) (gens : s.gens = #[])
    (at_a : s.heap.get? a = some { cls := .type "list", data := .seq vs.toArray }) (isI : IntsAre vs ns) (size : ns.length ≤ sizeLine)
    (run : ∀ base : Heap, K.In base → base.Ns mainGlobals mg → TopRun P w K mg base CX fa sp)
    (start : ∀ H : Hp, Only H → SqL K H a (ns.map V.int) → sp [.ref a] H (fun v _ => v = .bl true) fun _ _ _ => False)
    (noerr : ∀ H e s', CX [] H s (fun _ _ _ => False) e s' → False) :
    codeAny (model P w) callerA (.call (.ref fa) ⟨[.ref a], []⟩) (fun r s' => r = .ok (.ret (.bool true)) ∧ OldK s.heap s'.heap ∧ s'.os = s.os ∧ AllBare s'.gens) s := by
  have vals := vals_ints isI
  have llen := isI.length
  let ob : Obj := { cls := .type "list", data := .seq vs.toArray }
  let H : Hp := fun b => if b = a ∧ K.lookup a = none then some (.frz ob (.lst (ns.map V.int))) else none
  have Hs : ∀ b u, H b = some u → b = a ∧ K.lookup a = none ∧ u = .frz ob (.lst (ns.map V.int)) := fun b u e => by
    have e : (if b = a ∧ K.lookup a = none then some (HO.frz ob (.lst (ns.map V.int))) else none) = some u := e
    split at e
    · rename_i c
      cases e
      exact ⟨c.1, c.2, rfl⟩
    · cases e
  have Hn : ∀ b, (b = a → K.lookup a = none → False) → H b = none := fun b n => by
    cases q : H b with
    | none => rfl
    | some u => exact (n (Hs b u q).1 (Hs b u q).2.1).elim
  have only : Only H := fun b => by
    cases q : H b with
    | none => exact .inl rfl
    | some u =>
      obtain ⟨_, _, rfl⟩ := Hs b u q
      exact .inr ⟨_, _, rfl⟩
  have seq : SqL K H a (ns.map V.int) := by
    cases q : K.lookup a with
    | none => exact .inl (.inr ⟨ob, if_pos ⟨rfl, q⟩⟩)
    | some o =>
      have e := kin a o q
      rw [at_a] at e
      cases e
      exact .inr ⟨_, vs.toArray, _, q, rfl, rfl, rfl, by rw [List.size_toArray, llen]; exact size, by simpa using vals⟩
  have hok : HOk P w H s.heap := fun b u e => by
    obtain ⟨rfl, _, rfl⟩ := Hs b u e
    exact ⟨at_a, by rw [List.length_map]; exact size, vs, _, vals, at_a⟩
  have nd : ∀ {b : Addr} {o : Obj} {es : Array DictEntry} {ep : Nat}, s.heap.get? b = some o → o.data = .dict es ep → H b = none := fun {b o es ep} e d => Hn b fun z _ => by
    rw [z, at_a] at e
    cases e
    have d : Data.seq vs.toArray _ = Data.dict es ep := d
    cases d
  have up : ∀ {b : Addr} {m : Str → Option Value}, s.heap.Ns b m → (hidT s.heap H).Ns b m := fun {b m} ⟨o, es, ep, e, d, r⟩ => ⟨o, es, ep, hidT_get e (nd e d), d, r⟩
  have kinB : K.In (hidT s.heap H) := fun b o e => hidT_get (kin b o e) (Hn b fun z n => by rw [z, n] at e; cases e)
  obtain ⟨mc, l1, l2⟩ := lim
  have env : Env0 P w K mg (hidT s.heap H) callerA [] s H := {
    frames := rfl, mod := ⟨kinB, up gl, ⟨mb, up bl, bb⟩, ⟨mc, up l1, l2⟩⟩, bs := fun b o e => of_hidT e, bsz := Nat.le_of_eq (hidT_size _ _), funs := trivial,
    frf := fun b z => (nomatch (show b ∈ ([] : List Addr) from z)), hok := hok, bare := .of_eq gens }
  refine codeAny_mono (run _ kinB (up gl) s H (.ref a) (.ref a) env rfl (start H only seq)) fun r s' res => ?_
  match r, res with
  | .error e, res => exact (noerr H e s' res).elim
  | .ok .next, res => exact (show False from res).elim
  | .ok .brk, res => exact (show False from res).elim
  | .ok .cont, res => exact (show False from res).elim
  | .ok (.ret u), res =>
    obtain ⟨v, H2, os, bare, un, hok2, rv, rfl⟩ := res
    cases (show u = Value.bool true from rv)
    refine ⟨rfl, OldK.of_keep fun b o e => ?_, os, bare⟩
    cases q : H b with
    | none => exact un.keep b o e q (fun z => nomatch (show b ∈ ([] : List Addr) from z)) (fun z => nomatch z)
    | some u =>
      obtain ⟨_, _, rfl⟩ := Hs b u q
      have o1 := (hok b _ q).1
      have o2 := (hok2 b _ (un.frzs b ob _ q)).1
      rw [o1] at e
      cases e
      exact o2
end VH
namespace VS
open PySem PyProof.Rows L2
section
variable {M : Mn} {W : WD} {b b1 b2 : Bool} {F H F' H' F1 H1 : Hp} {env env' env1 : List D} {σ : L2.St} {S S' S1 T : AS} {pr : Nat → Bool}
/-- a body's run, by its promise -/
theorem d0_body {N ps : List Str} {m : Nat} {re : List Bool} {f : List D → SR} {ts : TS} {vs : List V} {Q : VK} {E : XK} (hre : re.length = ps.length) (hm : N.length = ps.length + m)
    (p2 : SS M W0 (prOf re) ts f) (h : spD0 M (bodyF re m f) vs H Q E) : ts { nx := fun _ H' => Q .non H', rt := Q } (L2.start N vs) H := by
  obtain ⟨F, ds, S, st, ro, h⟩ := h
  unfold bodyF at h
  by_cases hc : ds.length = re.length ∧ reOk re ds = true
  · rw [if_pos hc] at h
    have hv : vs.length = ps.length := by rw [← ro.len, hc.1, hre]
    have hl : N.length - vs.length = m := by omega
    have en : EnvR M F H (ds ++ List.replicate m .unset) (L2.start N vs) S := by
      refine ⟨vs ++ List.replicate m V.non, ?_, ?_, fun i d hd hs => ?_⟩
      · have := ro.app (ROs.unsets (M := M) (F := F) (H := H) m) (fun _ _ h => h.elim)
        rw [un_em] at this
        exact this
      · simp [L2.start, hl, ro.len]
      · have hi : i < ds.length := by
          by_cases hi : i < ds.length
          · exact hi
          · rw [List.getElem?_append_right (by omega)] at hd
            have := List.eq_of_mem_replicate (List.mem_of_getElem? hd)
            subst this
            cases hs
        have hiv : i < vs.length := by rw [← ro.len]; exact hi
        unfold L2.start
        rw [List.getElem?_append_left (by simpa using hiv), List.getElem?_append_left hiv, List.getElem?_map]
        rw [List.getElem?_eq_getElem hiv]
        rfl
    refine p2 _ F H _ _ S st en ?_
    -- what is given back
    have back : ∀ {env' : List D} {σ' : L2.St} {F' H' : Hp} {S1 : AS}, EnvR M F' H' env' σ' S1 → Ext F F' → Pr (prOf re) (L2.start N vs) σ' → ∃ T, ROs M F' H' (backD re ds env') vs T ∧ ∀ a, T a → S1 a := fun {env' σ' F' H' S1} en' ef p => by
      obtain ⟨ws, rw', lw, qw⟩ := en'
      have lσ : ∀ i, i < vs.length → (L2.start N vs)[i]? = some (vs[i]?) := fun i hi => by
        unfold L2.start
        rw [List.getElem?_append_left (by simpa using hi), List.getElem?_map, List.getElem?_eq_getElem hi]
        rfl
      have hre2 : ∀ i, re[i]? = some false → i < vs.length := fun i h => by
        have := (List.getElem?_eq_some_iff.mp h).1
        rw [← ro.len, hc.1]; exact this
      refine backD_ok rw' hc.1.symm ro.len (fun i d hd hs hr => ?_) (fun i d hd hr => ?_)
      · have e1 := qw i d hd hs
        have e2 := p.2 i (by simp [prOf, hr])
        rw [e2, lσ i (hre2 i hr)] at e1
        exact (Option.some.inj e1).symm
      · obtain ⟨v, T, e1, e2⟩ := ro.get hd
        have := e2.fz_em (reOk_get hc.2 hd hr)
        subst this
        exact ⟨v, e1, e2.mono d ef fun _ h => h.elim⟩
    have pS : ∀ {E1 : V} {σ' : L2.St} {F' H' : Hp} {S' : AS}, True := trivial
    cases hf : f (ds ++ List.replicate m .unset) with
    | nx env' =>
      rw [hf] at h
      intro σ' F' H' S' s1 st1 en1 p1
      obtain ⟨T, t1, t2⟩ := back en1 s1.ext p1
      refine h .non F' H' T em ?_ ?_ t1 (by simp [RO]) (fun _ _ h => h.elim)
      · rw [un_em]; exact s1.drop t2
      · rw [un_em]; exact st1.sub t2
    | ret d env' =>
      rw [hf] at h
      intro v σ' F' H' S' s1 st1 r1 p1
      obtain ⟨Se, St, en1, ro1, dd, rfl⟩ := r1.tmp_in
      obtain ⟨T, t1, t2⟩ := back en1 s1.ext p1
      have o : ∀ a, un T St a → un Se St a := fun a z => z.imp (t2 a) id
      exact h v F' H' T St (s1.drop o) (st1.sub o) t1 ro1 (fun a x y => dd a (t2 a x) y)
    | err c d env' => rw [hf] at h; exact h.elim
    | brk e => rw [hf] at h; exact h.elim
    | ct e => rw [hf] at h; exact h.elim
    | stuck => rw [hf] at h; exact h.elim
  · rw [if_neg hc] at h
    exact h.elim

/-- the law's def, called from the top alone: nothing is being shown there -/
theorem fnTop {P : Program} {w : World} {mg : Str → Option Value} {base : Heap} {x qual : Str} {params : Arguments} {body : List Stmt} {scope : Scope} {dvs : List V} {kws : List (Str × V)} {fa : Addr} {fd : FuncData} {N : List Str} {p : Str} {k m : Nat} {re : List Bool} {f : List D → SR} {CX : CXT}
    (FD : FunD M.K x qual params body scope dvs kws fa fd) (SC : FnScope N [p] scope) (hre : re.length = [p].length) (hm : N.length = [p].length + m) (hr : Room (k + 1) callerA) (bind : ∀ (s : Shared) (u : Value), BindsTo s fd ⟨[u], []⟩ [(p, u)])
    (hb : ∀ (cdv : Value) (A : Around) (outer : List Env) (s : Shared) (H : Hp) (E : XK), A.guards = some [] → Room k (A.deeper (envOfC qual scope s.heap.objs.size fa cdv)) →
      ∃ ts, PSs (cxOf CX P w M.K mg base N qual scope fa cdv A outer s H E) body ts ∧ SS M W0 (prOf re) ts f) :
    VH.TopRun P w M.K mg base CX fa (spD0 M (bodyF re m f)) := by
  intro s H u v e0 rv h
  obtain ⟨oc, od, dV, kV, doc, pm, an, cdv, ct, osl, rfl, lk, hcd, _, _⟩ := FD.ex
  refine LamX.run_ofS (ps := [p]) (us := [u]) (vs := [v]) lk hcd SC hr e0 (bind s u) (.cons rv .nil) rfl fun hr2 => ?_
  obtain ⟨ts, p1, p2⟩ := hb cdv callerA [] s H (fun _ _ _ => False) rfl hr2
  exact ⟨ts, p1, d0_body hre hm p2 h⟩
end
end VS
set_option maxHeartbeats 1000000
/-! VSRepr: repr of data, in the law's own def. -/
namespace VH
open PySem PySem.Spec PyProof.Rows L2
theorem walk_top {l : PySem.W.OpenLaw} {n : Nat} {q : Program} {loose : List Str} {XP : (Str → Option Value) → Heap → Prop} {YP : World → Heap → Prop} {d : DefRec} {CX : CXT}
    (hn : l.most = some n) (hn2 : n ≤ sizeLine) (hdf : d.params.defaults = [])
    (F : ∀ (w : World) (mg : Str → Option Value) (fa : Addr) (h : Heap), YP w h → h.Ns mainGlobals mg → mg d.name = some (.ref fa) → ∃ (K : PySem.W.Frag) (sp : Sp), K.In h ∧
      (∀ (H : Hp) (a : Addr) (ns : List Int), ns.length ≤ n → Only H → SqL K H a (ns.map V.int) → sp [.ref a] H (fun v _ => v = .bl true) fun _ _ _ => False) ∧
      ∀ base : Heap, K.In base → base.Ns mainGlobals mg → TopRun l.prog w K mg base CX fa sp)
    (noerr : ∀ (H : Hp) (s : Shared) (e : Value) (s' : Shared), CX [] H s (fun _ _ _ => False) e s' → False) : PySem.W.WalkO q loose XP YP l.row.toRowW d [] (fun f vs => PySem.call f vs) := by
  refine Att.attach_call hn hdf fun w sA sB mg mb fa o pm cd doc a vs ns G Y _ _ _ hmg hob hin hle hgn => ?_
  obtain ⟨K, sp, kin, hsp, run⟩ := F w mg fa _ Y G.T.g hmg
  exact call_top kin G.T.g G.T.b G.T.builtins G.T.nolimit hgn hob hin (Nat.le_trans hle hn2) run (fun H hO hS => hsp H a ns hle hO hS) fun H e s' => noerr H sB e s'
variable {X : Cx}
def rReprD (K : PySem.W.Frag) : List V → Hp → VK → Prop := fun vs H Q => ∃ (a : Addr) (d : PyData), vs = [.ref a] ∧ Dp K H (.ref a) d ∧ d.showable = true ∧ d.hasDict = false ∧ d.depth ≤ 60 ∧ d.shown.length ≤ sizeLine ∧ Q (.str d.shown) H
theorem cr_repr (hg : X.A.guards = some []) (hu : X.A.units + 64 < cLine) : CallR X (.builtin "repr") (rReprD X.K) := by
  intro pins s σ H vs us Q I r h
  obtain ⟨a, d, rfl, hd, hs, hn, hp, hz, q⟩ := h
  rw [Vals.ref1 r]
  obtain ⟨as, rd⟩ := Dp.reads I d (.ref a) (.ref a) hd rfl
  exact repr_of_reads' rd hs (PyData.noDict_hsm hn) hg (by omega) (fun _ _ e => e) (fun h' u tk hk => ⟨.str d.shown, H, I.kept hk, ⟨u, rfl⟩, q⟩) hz
/-! ### how long it is -/
mutual
def szP : PyData → Nat
  | .none => 4
  | .bool _ => 5
  | .int _ => 70
  | .str x => 10 * x.length + 2
  | .list xs => szAll xs + 2
  | .tuple xs => szAll xs + 3
  | .dict _ => 0
def szAll : List PyData → Nat
  | [] => 0
  | x :: xs => szP x + 2 + szAll xs
end
mutual
def smallP : PyData → Bool
  | .none => true
  | .bool _ => true
  | .int i => decide (i.natAbs < 2 ^ 64)
  | .str x => x.cps.toList.all fun c => decide (c < 16 ^ 8)
  | .list xs => smallAll xs
  | .tuple xs => smallAll xs
  | .dict _ => false
def smallAll : List PyData → Bool
  | [] => true
  | x :: xs => smallP x && smallAll xs
end
theorem textFrom_le : ∀ (ts : List Str) (k : Nat) (acc : Str), (textFrom k acc ts).length ≤ acc.length + (ts.map fun t => t.length + 2).sum
  | [], k, acc => by simp [textFrom]
  | t :: ts, k, acc => by
    have ih := textFrom_le ts (k + 1) (acc ++ (if k > 0 then ", " else "" : String) ++ t)
    have e : (acc ++ (if k > 0 then ", " else "" : String) ++ t).length ≤ acc.length + 2 + t.length := by
      rw [strLen_append, strLen_append]
      split
      · exact Nat.le_refl _
      · show acc.length + 0 + t.length ≤ _
        omega
    rw [textFrom, List.map_cons, List.sum_cons]
    omega
theorem join_le (ts : List Str) : (Str.join ", " ts).length ≤ (ts.map fun t => t.length + 2).sum := by
  by_cases h : ts = []
  · subst h; exact Nat.zero_le _
  · have h1 := join_length_add ts h
    have h2 : ∀ l : List Str, piled l = (l.map fun t => t.length + 2).sum := fun l => by
      induction l with
      | nil => rfl
      | cons x l ih => rw [List.map_cons, List.sum_cons, ← ih]; simp [piled]
    rw [h2] at h1
    omega
mutual
theorem shown_le : ∀ d : PyData, smallP d = true → d.shown.length ≤ szP d
  | .none, _ => by simp only [PyData.shown, szP]; exact Nat.le_refl _
  | .bool b, _ => by cases b <;> (simp only [PyData.shown, szP]; decide)
  | .int i, h => by
    simp only [smallP, decide_eq_true_eq] at h
    simp only [PyData.shown, szP]
    have e := int_text_length_le10 (a := i) (k := 20) (by decide) (Nat.lt_trans h (by decide))
    have e2 : (Str.ofString (toString i)).length = (toString i).length := PySem.ofString_length _
    show (Str.ofString (toString i)).length ≤ 70
    omega
  | .str x, h => by
    simp only [smallP, List.all_eq_true, decide_eq_true_eq] at h
    simp only [PyData.shown, szP]
    exact StrLaws.reprText_len x h
  | .list xs, h => by
    simp only [smallP] at h
    have := shownAll_le xs h
    simp only [PyData.shown, szP]
    unfold listText
    rw [strLen_append]
    have h2 := textFrom_le (PyData.shownAll xs) 0 "["
    have e1 : (("[" : String) : Str).length = 1 := rfl
    have e2 : (("]" : String) : Str).length = 1 := rfl
    omega
  | .tuple xs, h => by
    simp only [smallP] at h
    have := shownAll_le xs h
    simp only [PyData.shown, szP]
    unfold tupleText
    rw [strLen_append, strLen_append]
    have h2 := join_le (PyData.shownAll xs)
    have e1 : ((if (PyData.shownAll xs).length == 1 then ",)" else ")" : String) : Str).length ≤ 2 := by
      split <;> decide
    have e2 : (("(" : String) : Str).length = 1 := rfl
    omega
  | .dict _, h => by simp [smallP] at h
theorem shownAll_le : ∀ ds : List PyData, smallAll ds = true → ((PyData.shownAll ds).map fun t => t.length + 2).sum ≤ szAll ds
  | [], _ => by simp [PyData.shownAll, szAll]
  | d :: ds, h => by
    simp only [smallAll, Bool.and_eq_true] at h
    have h1 := shown_le d h.1
    have h2 := shownAll_le ds h.2
    simp only [PyData.shownAll, szAll, List.map_cons, List.sum_cons]
    omega
end
end VH
namespace VS
open PySem PyProof.Rows L2
section
variable {M : Mn} {W : WD} {b b1 b2 : Bool} {F H F' H' F1 H1 : Hp} {env env' env1 : List D} {σ : L2.St} {S S' S1 T : AS} {pr : Nat → Bool}
def shownD (d : D) : List Nat := (toPy d).shown.cps.toList
def repOk (d : D) : Bool := (match d with | .lst _ _ => true | .tup _ _ => true | _ => false) && eqOk 59 d && VH.smallP (toPy d) && decide (VH.szP (toPy d) ≤ 16000000)
def reprD : D → Option D := fun d => if repOk d = true then some (.str (shownD d)) else none
mutual
theorem small_shows : ∀ d : PyData, VH.smallP d = true → d.showable = true
  | .none, _ => by simp [PyData.showable]
  | .bool _, _ => by simp [PyData.showable]
  | .int i, h => by
    simp only [VH.smallP, decide_eq_true_eq] at h
    simp only [PyData.showable, decide_eq_true_eq]
    by_cases h0 : i.natAbs = 0
    · rw [h0]; decide
    · exact Nat.lt_of_lt_of_le ((Nat.log2_lt h0).mpr h) (by decide)
  | .str _, _ => by simp [PyData.showable]
  | .list xs, h => by
    simp only [VH.smallP] at h
    simp only [PyData.showable]
    exact small_showsAll xs h
  | .tuple xs, h => by
    simp only [VH.smallP] at h
    simp only [PyData.showable]
    exact small_showsAll xs h
  | .dict _, h => by simp [VH.smallP] at h
theorem small_showsAll : ∀ ds : List PyData, VH.smallAll ds = true → PyData.showableAll ds = true
  | [], _ => by simp [PyData.showableAll]
  | d :: ds, h => by
    simp only [VH.smallAll, Bool.and_eq_true] at h
    simp only [PyData.showableAll, Bool.and_eq_true]
    exact ⟨small_shows d h.1, small_showsAll ds h.2⟩
end
theorem rn_repr : RN M (VH.rReprD M.K) (op1 reprD) := by
  intro F H ds vs z Q fh rl e k
  unfold op1 at e
  split at e
  · rename_i d
    obtain ⟨x, ws, Sx, rfl, r1, rr⟩ := rl
    simp only [RL] at rr
    subst rr
    unfold reprD at e
    split at e
    · rename_i hd
      cases e
      unfold repOk at hd
      simp only [Bool.and_eq_true, decide_eq_true_eq] at hd
      obtain ⟨⟨⟨h1, h2⟩, h3⟩, h4⟩ := hd
      have dp := toPy_dp fh 59 d h2 r1
      obtain ⟨c1, c2⟩ := toPy_can 59 d h2
      have ex : ∃ a, x = V.ref a := by
        cases d with
        | lst o xs => simp only [RO] at r1; obtain ⟨a, _, _, e, _⟩ := r1; exact ⟨a, e⟩
        | tup o xs => simp only [RO] at r1; obtain ⟨a, _, _, e, _⟩ := r1; exact ⟨a, e⟩
        | _ => cases h1
      obtain ⟨a, rfl⟩ := ex
      refine ⟨a, toPy d, rfl, dp, small_shows _ h3, PyData.hasDict_of_canLay _ c1, by omega, ?_, k _ _ _ _ (NewR.same fh (by simp [RO, shownD]))⟩
      have := VH.shown_le _ h3
      have hz : (16000000 : Nat) ≤ sizeLine := by decide
      omega
    · cases e
  · cases e
/-! ### texts compared -/
def neSD : D → D → Option D
  | .str s, .str t => some (.bl (!decide (s = t)))
  | _, _ => none
def eqSD : D → D → Option D
  | .str s, .str t => some (.bl (decide (s = t)))
  | _, _ => none
theorem strV_eq {s t : List Nat} : (V.str ⟨s.toArray⟩ = V.str ⟨t.toArray⟩) ↔ s = t := by
  constructor
  · intro h
    injection h with h
    injection h with h
    simpa using h
  · rintro rfl; rfl
theorem rn_neS : RN2 M L2.rNe neSD := by
  intro F H x y d e z Sx Sy Q fh rx ry h k
  unfold neSD at h
  split at h
  · rename_i s t
    cases h
    simp only [RO] at rx ry
    obtain ⟨rfl, _⟩ := rx
    obtain ⟨rfl, _⟩ := ry
    refine ⟨rfl, ?_⟩
    have := k (.bl (!decide (s = t))) F H em (NewR.same fh (by simp [RO]))
    simpa only [strV_eq] using this
  · cases h
theorem rn_eqS : RN2 M L2.rEq eqSD := by
  intro F H x y d e z Sx Sy Q fh rx ry h k
  unfold eqSD at h
  split at h
  · rename_i s t
    cases h
    simp only [RO] at rx ry
    obtain ⟨rfl, _⟩ := rx
    obtain ⟨rfl, _⟩ := ry
    refine ⟨rfl, ?_⟩
    have := k (.bl (decide (s = t))) F H em (NewR.same fh (by simp [RO]))
    simpa only [strV_eq] using this
  · cases h
end
end VS
set_option maxHeartbeats 1000000
/-! VSKit1: in, chains, int(), str(), the least of a dict's values. -/
namespace VS
open PySem PyProof.Rows L2
section
variable {M : Mn} {W : WD} {b b1 b2 b3 : Bool} {F H F' H' F1 H1 : Hp} {env env' env1 : List D} {σ : L2.St} {S S' S1 T : AS} {pr : Nat → Bool}
/-! ### a sign in a text -/
def inSD (neg : Bool) : D → D → Option D
  | .str [c], .str s => some (.bl (if neg then !decide (c ∈ s) else decide (c ∈ s)))
  | _, _ => none
def rInSg (neg : Bool) : R2 := fun x y H Q => ∃ (c : Nat) (z : Str), x = .str ⟨#[c]⟩ ∧ y = .str z ∧ Q (.bl (if neg then !decide (c ∈ z.cps.toList) else decide (c ∈ z.cps.toList))) H
theorem op_inSg {X : Cx} : OpR X (compareOp .In) (rInSg false) := op_in_sign
theorem op_notInSg {X : Cx} : OpR X (compareOp .NotIn) (rInSg true) := op_notIn_sign
theorem rn_inS (neg : Bool) : RN2 M (rInSg neg) (inSD neg) := by
  intro F H x y d e z Sx Sy Q fh rx ry h k
  unfold inSD at h
  split at h
  · rename_i c s
    cases h
    simp only [RO] at rx ry
    obtain ⟨rfl, _⟩ := rx
    obtain ⟨rfl, _⟩ := ry
    exact ⟨c, _, rfl, rfl, k _ _ _ _ (NewR.same fh (by simp [RO]))⟩
  · cases h
/-! ### a thing in a list -/
def inLD (neg : Bool) : D → D → Option D
  | d, .lst o xs => if eqOk 59 d = true ∧ eqOk 60 (.lst o xs) = true then some (.bl (if neg then !(xs.any fun z => decide (nf z = nf d)) else xs.any fun z => decide (nf z = nf d))) else none
  | _, _ => none
theorem any_eqv {d : D} (hd : eqOk 59 d = true) : ∀ xs : List D, eqOks 59 xs = true → ((toPys xs).any fun z => PyData.eqv z (toPy d)) = xs.any fun z => decide (nf z = nf d)
  | [], _ => rfl
  | x :: xs, h => by
    simp only [eqOks, Bool.and_eq_true] at h
    simp only [toPys, List.any_cons, toPy_eqv 59 x d 59 h.1 hd, any_eqv hd xs h.2]
theorem rn_inL : RN2 M (rInD M.K) (inLD false) := by
  intro F H x y d e z Sx Sy Q fh rx ry h k
  unfold inLD at h
  split at h
  · rename_i o xs
    split at h
    · rename_i hc
      cases h
      have h2 : eqOks 59 xs = true := by simpa [eqOk] using hc.2
      refine ⟨toPy d, toPys xs, toPy_dp fh 59 d hc.1 rx, toPy_dp fh 60 (.lst o xs) hc.2 ry, toPy_shaped (by decide) hc.1, toPy_shaped (d := .lst o xs) (by decide) hc.2, ?_⟩
      rw [any_eqv hc.1 xs h2]
      exact k _ _ _ _ (NewR.same fh (by simp [RO]))
    · cases h
  · cases h
theorem rn_notInL : RN2 M (rNotInD M.K) (inLD true) := by
  intro F H x y d e z Sx Sy Q fh rx ry h k
  unfold inLD at h
  split at h
  · rename_i o xs
    split at h
    · rename_i hc
      cases h
      have h2 : eqOks 59 xs = true := by simpa [eqOk] using hc.2
      refine ⟨toPy d, toPys xs, toPy_dp fh 59 d hc.1 rx, toPy_dp fh 60 (.lst o xs) hc.2 ry, toPy_shaped (by decide) hc.1, toPy_shaped (d := .lst o xs) (by decide) hc.2, ?_⟩
      rw [any_eqv hc.1 xs h2]
      exact k _ _ _ _ (NewR.same fh (by simp [RO]))
    · cases h
  · cases h
/-! ### int(x), str(x) -/
abbrev rIntA : List V → Hp → VK → Prop := fun xs H Q => (fun xs H Q => (∃ i, xs = [.int i] ∧ Q (.int i) H) ∨ ∃ k, xs = [.bl k] ∧ Q (.int (if k then 1 else 0)) H) xs H Q ∨ (fun xs H Q => ∃ a n, xs = [.str a] ∧ PySem.intText? a = some n ∧ a.length ≤ 640 ∧ Q (.int n) H) xs H Q
theorem call_intA {X : Cx} : CallR X (.type "int") rIntA := call_int1.or call_int_str
def intD : D → Option D
  | .int i => some (.int i)
  | .bl k => some (.int (if k then 1 else 0))
  | .str s => if s.length ≤ 640 then (PySem.intText? ⟨s.toArray⟩).map .int else none
  | _ => none
theorem rn_intD : RN M rIntA (op1 intD) := by
  intro F H ds vs z Q fh rl e k
  unfold op1 at e
  split at e
  · rename_i d
    obtain ⟨x, ws, Sx, rfl, r1, rr⟩ := rl
    simp only [RL] at rr
    subst rr
    cases d with
    | int i => cases e; simp only [RO] at r1; obtain ⟨rfl, _⟩ := r1; exact .inl (.inl ⟨i, rfl, k _ _ _ _ (NewR.same fh (by simp [RO]))⟩)
    | bl i => cases e; simp only [RO] at r1; obtain ⟨rfl, _⟩ := r1; exact .inl (.inr ⟨i, rfl, k _ _ _ _ (NewR.same fh (by simp [RO]))⟩)
    | str s =>
      simp only [intD] at e
      split at e
      · rename_i hl
        cases q : PySem.intText? ⟨s.toArray⟩ with
        | none => rw [q] at e; cases e
        | some n =>
          rw [q] at e
          cases e
          simp only [RO] at r1
          obtain ⟨rfl, _⟩ := r1
          exact .inr ⟨_, n, rfl, q, by rw [str_len]; exact hl, k _ _ _ _ (NewR.same fh (by simp [RO]))⟩
      · cases e
    | _ => cases e
  · cases e
abbrev rStrA : List V → Hp → VK → Prop := fun xs H Q => (fun xs H Q => ∃ i, xs = [.int i] ∧ i.natAbs.log2 < 1920 ∧ Q (.str (toString i)) H) xs H Q ∨ (fun xs H Q => ∃ a, xs = [.str a] ∧ Q (.str a) H) xs H Q
theorem call_strA {X : Cx} : CallR X (.type "str") rStrA := call_str_int.or SkE.call_str_str
def strD : D → Option D
  | .int i => if i.natAbs < 2 ^ 64 then some (.str (Str.ofString (toString i)).cps.toList) else none
  | .str s => some (.str s)
  | _ => none
theorem rn_strD : RN M rStrA (op1 strD) := by
  intro F H ds vs z Q fh rl e k
  unfold op1 at e
  split at e
  · rename_i d
    obtain ⟨x, ws, Sx, rfl, r1, rr⟩ := rl
    simp only [RL] at rr
    subst rr
    cases d with
    | int i =>
      simp only [strD] at e
      split at e
      · rename_i hi
        cases e
        simp only [RO] at r1
        obtain ⟨rfl, _⟩ := r1
        refine .inl ⟨i, rfl, ?_, k _ _ _ _ (NewR.same fh (by simp [RO]))⟩
        by_cases h0 : i.natAbs = 0
        · rw [h0]; decide
        · exact Nat.lt_of_lt_of_le ((Nat.log2_lt h0).mpr hi) (by decide)
      · cases e
    | str s => cases e; simp only [RO] at r1; obtain ⟨rfl, _⟩ := r1; exact .inr ⟨_, rfl, k _ _ _ _ (NewR.same fh (by simp [RO]))⟩
    | _ => cases e
  · cases e
/-! ### min(d.values()) -/
def minvD : D → Option D
  | .dct true false _ vs => (numsD vs).bind fun ns => if ns = [] then none else some (.int (minL ns))
  | _ => none
def rMinV : V → Hp → VK → Prop := fun x H1 Q => ∃ a kvs is, x = V.ref a ∧ H1 a = some (.dK kvs) ∧ kvs.map (·.2) = is.map V.int ∧ is ≠ [] ∧ ∀ m, m ∈ is → (∀ j ∈ is, m ≤ j) → Q (.int m) H1
theorem rn_minv : RN1 M rMinV minvD := by
  intro F H x d z Sx Q fh rx h k
  cases d with
  | dct o t ks us =>
    cases t with
    | true => cases o <;> simp [minvD] at h
    | false =>
      cases o with
      | false => simp [minvD] at h
      | true =>
        obtain ⟨a, T', kvs, rfl, rd, rfl, rs, _, _, hH⟩ := rx.dctK fh
        simp only [minvD] at h
        cases q : numsD us with
        | none => rw [q] at h; cases h
        | some ns =>
          rw [q] at h
          have h : (if ns = [] then none else some (D.int (minL ns))) = some z := h
          split at h
          · cases h
          · rename_i hn
            cases h
            refine ⟨a, kvs, ns, rfl, hH rfl, numsD_ok q rs, hn, fun m hm hle => ?_⟩
            have e : m = minL ns := Int.le_antisymm (hle _ (minL_mem hn)) (minL_le hm)
            rw [e]
            exact k _ _ _ _ (NewR.same fh (by simp [RO]))
  | _ => cases h
theorem se_minv {te : TE} {f : List D → R Rv} (h : SE M W b te f) : SE M W (b && true) (tMinVals te) (una minvD f) := se_un (r := rMinV) rn_minv h
/-! ### a < b <= c -/
theorem flat_ro {e : D} {y : V} (h : flatD e = true) (r : RO M F H e y S) : RO M F' H' e y em := by
  cases e with
  | non => simp only [RO] at r ⊢; exact ⟨r.1, by trivial⟩
  | bl i => simp only [RO] at r ⊢; exact ⟨r.1, by trivial⟩
  | int i => simp only [RO] at r ⊢; exact ⟨r.1, by trivial⟩
  | str i => simp only [RO] at r ⊢; exact ⟨r.1, by trivial⟩
  | _ => cases h
def chainF (b2 : Bool) (o1 o2 : D → D → Option D) (fa fb fc : List D → R Rv) : List D → R Rv := fun env => ((consF b2 fa (consF true fb nilF)) env).bind fun rs env1 => match fetchs env1 rs with
  | some [d, e] => match flatD e, o1 d e with
    | true, some (.bl k) => if k = true then (fc env1).bind fun r env2 => match (fetch env2 r).bind (o2 e) with
        | some z => .ok (.tmp z) env2
        | none => .stuck
      else .ok (.tmp (.bl false)) env1
    | _, _ => .stuck
  | _ => .stuck
theorem se_chain {r r' : R2} {ta tb tc : TE} {fa fb fc : List D → R Rv} {o1 o2 : D → D → Option D} (hr : RN2 M r o1) (hr' : RN2 M r' o2) (h1 : SE M W b1 ta fa) (h2 : SE M W b2 tb fb) (h3 : SE M W b3 tc fc) :
    SE M W false (tChain r r' ta tb tc) (chainF (b2 && true) o1 o2 fa fb fc) := by
  intro F H env σ S Q st en h
  have key := sa_cons h1 (sa_cons h2 (sa_nil (M := M) (W := W))) F H env σ S (fun vs H2 => match vs with
    | [x, y] => r x y H2 fun z H3 => ∃ k, z = .bl k ∧ (if k = true then tc σ H3 fun w' H4 => r' y w' H4 Q else Q (.bl false) H3)
    | _ => False) st en
  refine key ?_
  unfold chainF at h
  cases hf : (consF (b2 && true) fa (consF true fb nilF)) env with
  | stuck => rw [hf] at h; exact h
  | err c d env1 => rw [hf] at h; exact h
  | ok rs env1 =>
    rw [hf] at h
    simp only [R.bind] at h
    intro vs F1 H1 S1 s1 st1 _ res1
    obtain ⟨Se, St, en1, ro1, d1, rfl, pth1⟩ := res1
    cases q : fetchs env1 rs with
    | none => rw [q] at h; exact h.elim
    | some ds =>
      rw [q] at h
      have rl := rl_of (Se := Se) (St := St) en1 ro1 pth1 q
      match ds, rl, h with
      | [d, e], rl, h =>
        simp only at h
        obtain ⟨x, ws, Sx, rfl, rx, y, ws2, Sy, rfl, ry, rr⟩ := rl
        simp only [RL] at rr
        subst rr
        cases hfl : flatD e with
        | false => rw [hfl] at h; exact h.elim
        | true =>
          rw [hfl] at h
          cases ho : o1 d e with
          | none => rw [ho] at h; exact h.elim
          | some z =>
            rw [ho] at h
            cases z with
            | bl k =>
              simp only at h
              show r x y H1 _
              refine hr F1 H1 x y d e (.bl k) Sx Sy _ st1.fh rx ry ho fun v F2 H2 S2 n => ?_
              have hv : v = .bl k := by have := n.ro; simp only [RO] at this; exact this.1
              refine ⟨k, hv, ?_⟩
              have kk : ∀ a, Se a → H2 a = H1 a := fun a ha => by
                obtain ⟨o, e⟩ := st1.al1 a (.inl ha)
                rw [e]; exact n.keep a o e
              have hS2 : S2 = em := by have := n.ro; simp only [RO] at this; exact this.2
              subst hS2
              have A : At M F H env σ S F1 H1 env1 Se St := ⟨s1, st1, en1, d1⟩
              obtain ⟨g1, g2, g3⟩ := n.post A
              rw [un_em] at g1 g2 g3
              have en2 : EnvR M F2 H2 env1 σ Se := en1.mono n.ext kk
              have hy2 : ∀ {F3 H3 : Hp}, RO M F3 H3 e y em := fun {F3 H3} => flat_ro hfl ry
              cases k with
              | false =>
                simp only [Bool.false_eq_true, if_false] at h ⊢
                refine h (.bl false) F2 H2 Se g1 g2 (fun z => nomatch z) ?_
                have := ResR.one_tmp (d := .bl false) (v := .bl false) en2 (by simp [RO]) en2.dj_emp
                rw [un_em] at this
                exact this
              | true =>
                simp only [if_true] at h ⊢
                refine h3 F2 H2 env1 σ Se _ g2 en2 ?_
                cases hc : fc env1 with
                | stuck => rw [hc] at h; exact h
                | err c d env2 => rw [hc] at h; exact fun F' H' S' cls dx a b c d => h F' H' S' cls dx (g1.trans a) b c d
                | ok rc env2 =>
                  rw [hc] at h
                  simp only [R.bind] at h
                  intro w F3 H3 S3 s3 st3 _ res3
                  obtain ⟨Se3, St3, en3, ro3, d3, rfl, pth3⟩ := res3
                  cases q3 : fetch env2 rc with
                  | none => rw [q3] at h; exact h.elim
                  | some c =>
                    rw [q3] at h
                    simp only [Option.bind_some] at h
                    cases ho2 : o2 e c with
                    | none => rw [ho2] at h; exact h.elim
                    | some z2 =>
                      rw [ho2] at h
                      have rl3 := rl_of (Se := Se3) (St := St3) en3 ro3 pth3 (ds := [c]) (by simp [fetchs, q3])
                      obtain ⟨w', _, Sw, e3, rw3, _⟩ := rl3
                      cases e3
                      refine hr' F3 H3 y w e c z2 em Sw Q st3.fh hy2 rw3 ho2 fun v F4 H4 S4 n4 => ?_
                      have A3 : At M F H env σ S F3 H3 env2 Se3 St3 := ⟨g1.trans s3, st3, en3, d3⟩
                      obtain ⟨k1, k2, k3⟩ := n4.post A3
                      exact h v F4 H4 _ k1 k2 (fun z => nomatch z) k3
            | _ => exact h.elim
      | [], rl, h => exact h.elim
      | [_], rl, h => exact h.elim
      | _ :: _ :: _ :: _, rl, h => exact h.elim
end
end VS
set_option maxHeartbeats 1000000
/-! VSLc2: comprehensions with two walks. -/
namespace VS
open PySem PyProof.Rows L2
section
variable {M : Mn} {W : WD} {b b1 b2 b3 b4 : Bool} {F H F' H' F1 H1 Fi Hi : Hp} {env env' env1 env0 envf : List D} {σ : L2.St} {S S' S1 T U : AS} {pr : Nat → Bool}
/-- the turns of a walk that fills the list at Dl -/
theorem turns_run {J : It} {Dl : Addr} {g : TG} {tt : TT} {te : TE} {vs : List Nat} {gf : D → List D → Option (List D)} {t : List D → R Bool} {ef : List D → R Rv} {ds acc0 accf : List D} {accV0 : List V} {Ev : Hp → Prop}
    (itok : ItOk M J Fi Hi T ds) (h2 : SG M (prC vs) g gf) (h3 : ST M W0 b1 tt t) (h4 : SE M W0 b2 te ef)
    (sI : Step F H S F1 H1 (un S1 U)) (stI : Stt M F1 H1 (un S1 U)) (dI : dj S1 U) (enI : EnvR M F1 H1 env0 (L2.wipe σ vs) S1) (hTU : ∀ a, T a → U a) (nTD : ¬ T Dl) (hD : U Dl)
    (xI : Ext Fi F1) (kI : ∀ a, T a → H1 a = Hi a) (fkI : FK Fi Hi H1) (haccI : H1 Dl = some (.lst accV0)) (roI : ROs M F1 H1 acc0 accV0 em) (hL : lcL gf t ef vs ds env0 acc0 = .ok accf envf) (hiF : Fi Dl = none)
    (hEnd : ∀ F2 H2 S2 accV, Step F H S F2 H2 (un S2 U) → Stt M F2 H2 (un S2 U) → dj S2 U → EnvR M F2 H2 envf (L2.wipe σ vs) S2 → Ext F1 F2 → (∀ a, U a → a ≠ Dl → H2 a = H1 a) → FK Fi Hi H2 → H2 Dl = some (.lst accV) → ROs M F2 H2 accf accV em → Ev H2) :
    ∃ Wt : Nat → Nat → Hp → Prop, (∃ m, Wt 0 m H1) ∧ ∀ i m H, Wt i m H → (J.stop i H ∧ Ev H) ∨ (J.go i H ∧ ∃ Nx : Hp → Prop, (∀ H', Nx H' → ∃ m', m' < m ∧ Wt (i + 1) m' H') ∧ ∀ x H', J.yld i H x H' → g x (L2.wipe σ vs) H' fun σ2 H2 => L2.wipe σ2 vs = L2.wipe σ vs ∧ tt σ2 H2 fun b H3 =>
      if b = true then te σ2 H3 fun y H4 => ∃ acc, H4 Dl = some (.lst acc) ∧ acc.length < sizeLine ∧ Nx (upd H4 Dl (.lst (acc ++ [y]))) else Nx H3) := by
  let Wd : Nat → Hp → Prop := fun i H2 => ∃ env2 acc accV F2 S2, Step F H S F2 H2 (un S2 U) ∧ Stt M F2 H2 (un S2 U) ∧ dj S2 U ∧ EnvR M F2 H2 env2 (L2.wipe σ vs) S2 ∧ Ext F1 F2 ∧ (∀ a, U a → a ≠ Dl → H2 a = H1 a) ∧ FK Fi Hi H2 ∧
    H2 Dl = some (.lst accV) ∧ ROs M F2 H2 acc accV em ∧ lcL gf t ef vs (ds.drop i) env2 acc = .ok accf envf
  refine ⟨fun i m H2 => m = ds.length - i ∧ i ≤ ds.length ∧ Wd i H2, ⟨ds.length, by simp, Nat.zero_le _, env0, acc0, accV0, F1, S1, sI, stI, dI, enI, Ext.refl _, fun _ _ _ => rfl, fkI, haccI, roI, by simpa using hL⟩, ?_⟩
  rintro i m H2 ⟨rfl, hle, env2, acc, accV, F2, S2, s2, st2, d2, en2, x2, k2, fk2, hacc, roA, q2⟩
  obtain ⟨ig, is⟩ := itok F2 H2 (xI.trans x2) st2.fh (fun a ha => (k2 a (hTU a ha) (fun z => nTD (z ▸ ha))).trans (kI a ha)) (fun a ha => st2.fr a (.inr (hTU a ha))) fk2 i
  by_cases hlt : i < ds.length
  · right
    obtain ⟨go, yl⟩ := ig hlt
    refine ⟨go, fun H' => Wd (i + 1) H', fun H' p => ⟨ds.length - (i + 1), by omega, rfl, hlt, p⟩, fun x H3 y => ?_⟩
    obtain ⟨F3, x3, e3, fh3, new3, d, hd, hs, ro⟩ := yl x H3 y
    have alive2 : ∀ a, un S2 U a → H3 a = H2 a := fun a ha => by
      obtain ⟨o, e⟩ := st2.al1 a ha
      rw [e]; exact e3 a o e
    have fr3 : ∀ a, un S2 U a → F3 a = none := fun a ha => by
      cases q : F3 a with
      | none => rfl
      | some u =>
        exfalso
        rcases new3 a u q with z | z
        · rw [st2.fr a ha] at z; cases z
        · obtain ⟨o, e⟩ := st2.al1 a ha
          rw [z] at e; cases e
    have st3 : Stt M F3 H3 (un S2 U) := ⟨fh3, fr3, fun a ha => by rw [alive2 a ha]; exact st2.al a ha, st2.tabsE e3, st2.ftN fun a u h => (new3 a u h).imp id .inr⟩
    have s3 : Step F H S F3 H3 (un S2 U) := s2.trans (Step.mk0 x3 (fun a o e _ => e3 a o e) (fun a h => .inl h) fun a u h => (new3 a u h).imp id .inr)
    have en3 : EnvR M F3 H3 env2 (L2.wipe σ vs) S2 := en2.mono x3 fun a ha => alive2 a (.inl ha)
    have hacc3 : H3 Dl = some (.lst accV) := e3 _ _ hacc
    have roA3 := roA.mono acc x3 (H' := H3) fun _ h => h.elim
    rw [getElem?_drop_cons hd] at q2
    unfold lcL at q2
    refine h2 F3 H3 env2 (L2.wipe σ vs) S2 d x em _ fh3 en3 ro en3.dj_emp hs ?_
    cases hg : gf d env2 with
    | none => rw [hg] at q2; cases q2
    | some env3 =>
      rw [hg] at q2
      intro σ4 S4 en4 o4 p4
      refine ⟨wipe_len_eq p4, ?_⟩
      have hw : L2.wipe σ4 vs = L2.wipe σ vs := wipe_len_eq p4
      have o4' : ∀ a, S4 a → S2 a := fun a ha => (o4 a ha).elim id fun z => z.elim
      have st4 : Stt M F3 H3 S4 := st3.sub fun a ha => .inl (o4' a ha)
      have st4T : Stt M F3 H3 (un S4 U) := st3.sub fun a ha => ha.imp (o4' a) id
      have d4 : dj S4 U := fun a x y => d2 a (o4' a x) y
      have s4 : Step F H S F3 H3 (un S4 U) := s3.drop fun a ha => ha.imp (o4' a) id
      have k4 : ∀ a, U a → a ≠ Dl → H3 a = H1 a := fun a ha n => (alive2 a (.inr ha)).trans (k2 a ha n)
      have fr : ∀ {F5 H5 : Hp} {S5 : AS}, Step F3 H3 S4 F5 H5 S5 → Stt M F5 H5 S5 → Step F H S F5 H5 (un S5 U) ∧ Stt M F5 H5 (un S5 U) ∧ dj S5 U ∧ (∀ a, U a → H5 a = H3 a) ∧ Ext F1 F5 ∧ FK Fi Hi H5 := fun a b => by
        obtain ⟨g1, g2, g3, g4⟩ := a.frame st4T b d4
        exact ⟨s4.trans g1, g2, g3, g4, (x2.trans x3).trans a.ext, (fk2.ext e3).step (xI.trans (x2.trans x3)) st4 a⟩
      refine h3 F3 H3 env3 σ4 S4 _ st4 en4 ?_
      simp only at q2
      cases ht : t env3 with
      | stuck => rw [ht] at q2; cases q2
      | err c d e => rw [ht] at q2; cases q2
      | ok k env4 =>
        rw [ht] at q2
        intro F5 H5 S5 s5 st5 _ en5
        obtain ⟨g1, g2, g3, g4, g5, g6⟩ := fr s5 st5
        have hacc5 : H5 Dl = some (.lst accV) := by rw [g4 Dl hD]; exact hacc3
        cases k with
        | false =>
          refine iteF ?_
          obtain ⟨S6, en6, o6⟩ := en5.wipe vs
          rw [hw] at en6
          refine ⟨wipeE env4 vs, acc, accV, F5, S6, g1.drop fun a z => z.imp (o6 a) id, g2.sub fun a z => z.imp (o6 a) id, fun a x y => g3 a (o6 a x) y, en6, g5, fun a ha n => (g4 a ha).trans (k4 a ha n), g6, hacc5, roA3.mono acc s5.ext (fun _ h => h.elim), q2⟩
        | true =>
          refine iteT ?_
          simp only [if_true] at q2
          refine h4 F5 H5 env4 σ4 S5 _ st5 en5 ?_
          cases he : ef env4 with
          | stuck => rw [he] at q2; cases q2
          | err c d e => rw [he] at q2; cases q2
          | ok r env5 =>
            rw [he] at q2
            intro yv F6 H6 S6 s6 st6 _ r6
            cases hz : escz [r] env5 with
            | none => simp only [hz] at q2; cases q2
            | some z =>
              obtain ⟨xs, env6⟩ := z
              match xs, hz, q2 with
              | [], hz, q2 => simp only [hz] at q2; cases q2
              | _ :: _ :: _, hz, q2 => simp only [hz] at q2; cases q2
              | [xd], hz, q2 =>
                simp only [hz] at q2
                split at q2
                · rename_i hlim
                  obtain ⟨F7, S7, s7, st7, en7, ro7⟩ := escz_one hz st6 r6
                  obtain ⟨w1, w2, w3, w4, w5, w6⟩ := fr ((s5.trans s6).trans s7) st7
                  have hacc7 : H6 Dl = some (.lst accV) := by rw [w4 Dl hD]; exact hacc3
                  have hal : accV.length < sizeLine := by rw [← roA3.len]; exact lim_lt hlim
                  refine ⟨accV, hacc7, hal, ?_⟩
                  obtain ⟨u1, u2⟩ := w1.write (o := .lst (accV ++ [yv])) w2 (p := Dl) (.inr hD)
                  obtain ⟨S8, en8, o8⟩ := en7.wipe vs
                  rw [hw] at en8
                  have nD : ∀ a, S7 a → a ≠ Dl := fun a x z => w3 a x (by rw [z]; exact hD)
                  refine ⟨wipeE env6 vs, acc ++ [xd], accV ++ [yv], F7, S8, u1.drop fun a z => z.imp (o8 a) id, u2.sub fun a z => z.imp (o8 a) id, fun a x y => w3 a (o8 a x) y,
                    en8.mono (Ext.refl _) (fun a ha => upd_ne (nD a (o8 a ha))), w5, fun a ha n => ?_, ?_, upd_same, ?_, q2⟩
                  · rw [upd_ne n]
                    exact (w4 a ha).trans (k4 a ha n)
                  · intro a o h m n
                    rw [upd_ne (fun z => n (by rw [z]; exact hiF))]
                    exact w6 a o h m n
                  · exact ROs.snoc (roA3.mono acc ((s5.trans s6).trans s7).ext (fun _ h => h.elim)) (ro7.mono xd (Ext.refl _) fun _ h => h.elim)
                · cases q2
  · left
    have e : i = ds.length := by omega
    subst e
    refine ⟨is (Nat.le_refl _), ?_⟩
    rw [List.drop_length] at q2
    unfold lcL at q2
    cases q2
    exact hEnd F2 H2 S2 accV s2 st2 d2 en2 x2 k2 fk2 hacc roA

def lcL2 (gf : D → List D → Option (List D)) (t : List D → R Bool) (it1 : List D → R (List D)) (gf1 : D → List D → Option (List D)) (t1 : List D → R Bool) (e : List D → R Rv) (vs vs1 : List Nat) : List D → List D → List D → R (List D)
  | [], env, acc => .ok acc env
  | d :: ds, env, acc => match gf d env with
    | none => .stuck
    | some env1 => match t env1 with
      | .ok k env2 => if k = true then (match it1 env2 with
          | .ok its env3 => match lcL gf1 t1 e vs1 its (wipeE env3 vs1) acc with
            | .ok acc' env4 => lcL2 gf t it1 gf1 t1 e vs vs1 ds (wipeE env4 vs) acc'
            | _ => .stuck
          | _ => .stuck) else lcL2 gf t it1 gf1 t1 e vs vs1 ds (wipeE env2 vs) acc
      | _ => .stuck
theorem lcL2_err (gf : D → List D → Option (List D)) (t : List D → R Bool) (it1 : List D → R (List D)) (gf1 : D → List D → Option (List D)) (t1 : List D → R Bool) (e : List D → R Rv) (vs vs1 : List Nat) : ∀ (ds env acc : List D) (c : Str) (d : D) (e' : List D), lcL2 gf t it1 gf1 t1 e vs vs1 ds env acc ≠ .err c d e' := by
  intro ds
  induction ds with
  | nil => intro env acc c d e' z; unfold lcL2 at z; cases z
  | cons x ds ih =>
    intro env acc c d e' z
    unfold lcL2 at z
    split at z
    · cases z
    · split at z
      · split at z
        · split at z
          · split at z
            · exact ih _ _ _ _ _ z
            · cases z
          · cases z
        · exact ih _ _ _ _ _ z
      · cases z
/-- [e for g in it if t for g1 in it1 if t1] -/
def lcF2 (it : List D → R (List D)) (gf : D → List D → Option (List D)) (t : List D → R Bool) (it1 : List D → R (List D)) (gf1 : D → List D → Option (List D)) (t1 : List D → R Bool) (e : List D → R Rv) (vs vs1 : List Nat) : List D → R Rv := fun env => (it env).bind fun ds env1 =>
  if okW env1 vs = true then ((lcL2 gf t it1 gf1 t1 e vs vs1 ds (wipeE env1 vs) []).bind fun acc env2 => .ok (.tmp (.lst true acc)) (unwipe env1 vs env2)) else .stuck
theorem wipe_two {vs vs1 : List Nat} (hv : ∀ i ∈ vs1, i ∈ vs) (σ : L2.St) : L2.wipe (L2.wipe σ vs1) vs = L2.wipe σ vs := by
  refine List.ext_getElem? fun i => ?_
  by_cases hi : i ∈ vs
  · have go : ∀ (us : List Nat) (τ : L2.St), i ∈ us → (L2.wipe τ us)[i]? = if i < τ.length then some none else none := by
      intro us τ
      induction us with
      | nil => intro h; simp at h
      | cons u us ih =>
        intro hm
        show ((L2.wipe τ us).set u none)[i]? = _
        by_cases hu : u = i
        · subst hu
          by_cases hl : u < τ.length
          · rw [List.getElem?_set_self (by rw [L2.wipe_length]; exact hl), if_pos hl]
          · rw [List.getElem?_eq_none (by rw [List.length_set, L2.wipe_length]; omega), if_neg hl]
        · rw [List.getElem?_set_ne hu]
          exact ih ((List.mem_cons.mp hm).resolve_left fun z => hu z.symm)
    rw [go vs _ hi, go vs σ hi, L2.wipe_length]
  · rw [wipe_get hi, wipe_get hi, wipe_get fun z => hi (hv i z)]
theorem se_lc2 {wi wi1 : TI} {g g1 : TG} {tt tt1 : TT} {te : TE} {vs vs1 : List Nat} {it it1 : List D → R (List D)} {gf gf1 : D → List D → Option (List D)} {t t1 : List D → R Bool} {ef : List D → R Rv}
    (h1 : SI M W wi it) (h2 : SG M (prC vs) g gf) (h3 : ST M W0 b1 tt t) (i1 : SI M W0 wi1 it1) (j2 : SG M (prC vs1) g1 gf1) (j3 : ST M W0 b3 tt1 t1) (j4 : SE M W0 b4 te ef) (hv : ∀ i ∈ vs1, i ∈ vs) :
    SE M W false (tLc2 wi g tt wi1 g1 tt1 te vs vs1) (lcF2 it gf t it1 gf1 t1 ef vs vs1) := by
  intro F H env σ S Q st en h
  refine h1 F H env σ S _ st en ?_
  unfold lcF2 at h
  cases hi : it env with
  | stuck => rw [hi] at h; exact h
  | err c d env1 => rw [hi] at h; exact h
  | ok ds env1 =>
    rw [hi] at h
    intro J F1 H1 Se T s1 st1 d1 en1 itok Dl hDl
    have h : Post M W false F H σ S Q (if okW env1 vs = true then ((lcL2 gf t it1 gf1 t1 ef vs vs1 ds (wipeE env1 vs) []).bind fun acc env2 => .ok (.tmp (.lst true acc)) (unwipe env1 vs env2)) else .stuck) := h
    split at h
    · rename_i hok
      cases hL : lcL2 gf t it1 gf1 t1 ef vs vs1 ds (wipeE env1 vs) [] with
      | stuck => rw [hL] at h; exact h.elim
      | err c d e => exact (lcL2_err _ _ _ _ _ _ _ _ _ _ _ _ _ _ hL).elim
      | ok accf envf =>
        rw [hL] at h
        obtain ⟨S0, en0, o0⟩ := en1.wipe vs
        -- the new list is held besides
        let U : AS := un T fun a => a = Dl
        have roD : RO M F1 (upd H1 Dl (.lst [])) (.lst true []) (.ref Dl) (fun a => a = Dl) := by
          simp only [RO, if_true, ROs]
          exact ⟨Dl, [], em, rfl, ⟨rfl, rfl⟩, upd_same, fun h => h, AS.ext fun a => by simp [on1, em]⟩
        have stS0 : Stt M F1 H1 (un S0 T) := st1.sub fun a z => z.imp (o0 a) id
        have dS0 : dj S0 T := fun a x y => d1 a (o0 a x) y
        have n0 : ∀ a, un S0 T a → a ≠ Dl := fun a ha z => by
          obtain ⟨o, q⟩ := stS0.al1 a ha
          rw [z, hDl] at q; cases q
        have Fp := st1.none_of hDl
        have ex0 : Ext H1 (upd H1 Dl (.lst [])) := fun a u e => by rw [upd_ne (fun z => by rw [z, hDl] at e; cases e)]; exact e
        have e2 : un (un S0 T) (fun a => a = Dl) = un S0 U := AS.ext fun a => by simp only [un, U]; constructor <;> (intro z; simpa [or_assoc] using z)
        have sA : Step F1 H1 (un S0 T) F1 (upd H1 Dl (.lst [])) (un S0 U) := by
          rw [← e2]
          exact Step.mk0 (Ext.refl _) (fun a u e _ => ex0 a u e) (fun a z => z.imp id fun z => by rw [z]; exact hDl) fun a u z => .inl z
        have stA : Stt M F1 (upd H1 Dl (.lst [])) (un S0 U) := by
          rw [← e2]
          refine ⟨fun a u e => (st1.fh a u e).imp (ex0 a u) fun ⟨l, o, z⟩ => ⟨l, o, ex0 a _ z⟩, fun a z => z.elim (stS0.fr a) fun z => by rw [z]; exact Fp, fun a z => ?_, st1.tabsE ex0, st1.ft⟩
          rcases z with z | z
          · obtain ⟨o, q, q'⟩ := stS0.al a z
            exact ⟨o, ex0 a o q, q'⟩
          · exact ⟨.lst [], by rw [z]; exact upd_same, True.intro⟩
        have dA : dj S0 U := fun a x y => y.elim (dS0 a x) fun y => n0 a (.inl x) y
        have enA : EnvR M F1 (upd H1 Dl (.lst [])) (wipeE env1 vs) (L2.wipe σ vs) S0 := en0.mono (Ext.refl _) fun a ha => upd_ne (n0 a (.inl ha))
        have sA' : Step F H S F1 (upd H1 Dl (.lst [])) (un S0 U) := (s1.drop fun a z => z.imp (o0 a) id).trans sA
        have nTD : ¬ T Dl := fun z => n0 Dl (.inr z) rfl
        have hD : U Dl := .inr rfl
        have hTU : ∀ a, T a → U a := fun a z => .inl z
        have F1D : F1 Dl = none := Fp
        let Wd : Nat → Hp → Prop := fun i H2 => ∃ env2 acc accV F2 S2, Step F H S F2 H2 (un S2 U) ∧ Stt M F2 H2 (un S2 U) ∧ dj S2 U ∧ EnvR M F2 H2 env2 (L2.wipe σ vs) S2 ∧ Ext F1 F2 ∧ (∀ a, U a → a ≠ Dl → H2 a = H1 a) ∧ FK F1 H1 H2 ∧
          H2 Dl = some (.lst accV) ∧ ROs M F2 H2 acc accV em ∧ lcL2 gf t it1 gf1 t1 ef vs vs1 (ds.drop i) env2 acc = .ok accf envf
        refine ⟨fun i m H2 => m = ds.length - i ∧ i ≤ ds.length ∧ Wd i H2, ⟨ds.length, by simp, Nat.zero_le _, wipeE env1 vs, [], [], F1, S0, sA', stA, dA, enA, Ext.refl _, fun a ha n => upd_ne n, FK.refl.ext ex0, upd_same, by simp [ROs], by simpa using hL⟩, ?_⟩
        rintro i m H2 ⟨rfl, hle, env2, acc, accV, F2, S2, s2, st2, d2, en2, x2, k2, fk2, hacc, roA, q2⟩
        obtain ⟨ig, is⟩ := itok F2 H2 x2 st2.fh (fun a ha => (k2 a (hTU a ha) (fun z => nTD (z ▸ ha)))) (fun a ha => st2.fr a (.inr (hTU a ha))) fk2 i
        by_cases hlt : i < ds.length
        · right
          obtain ⟨go, yl⟩ := ig hlt
          refine ⟨go, fun H' => Wd (i + 1) H', fun H' p => ⟨ds.length - (i + 1), by omega, rfl, hlt, p⟩, fun x H3 y => ?_⟩
          obtain ⟨F3, x3, e3, fh3, new3, d, hd, hs, ro⟩ := yl x H3 y
          have alive2 : ∀ a, un S2 U a → H3 a = H2 a := fun a ha => by
            obtain ⟨o, e⟩ := st2.al1 a ha
            rw [e]; exact e3 a o e
          have fr3 : ∀ a, un S2 U a → F3 a = none := fun a ha => by
            cases q : F3 a with
            | none => rfl
            | some u =>
              exfalso
              rcases new3 a u q with z | z
              · rw [st2.fr a ha] at z; cases z
              · obtain ⟨o, e⟩ := st2.al1 a ha
                rw [z] at e; cases e
          have st3 : Stt M F3 H3 (un S2 U) := ⟨fh3, fr3, fun a ha => by rw [alive2 a ha]; exact st2.al a ha, st2.tabsE e3, st2.ftN fun a u h => (new3 a u h).imp id .inr⟩
          have s3 : Step F H S F3 H3 (un S2 U) := s2.trans (Step.mk0 x3 (fun a o e _ => e3 a o e) (fun a h => .inl h) fun a u h => (new3 a u h).imp id .inr)
          have en3 : EnvR M F3 H3 env2 (L2.wipe σ vs) S2 := en2.mono x3 fun a ha => alive2 a (.inl ha)
          have hacc3 : H3 Dl = some (.lst accV) := e3 _ _ hacc
          have roA3 := roA.mono acc x3 (H' := H3) fun _ h => h.elim
          rw [getElem?_drop_cons hd] at q2
          unfold lcL2 at q2
          refine h2 F3 H3 env2 (L2.wipe σ vs) S2 d x em _ fh3 en3 ro en3.dj_emp hs ?_
          cases hg : gf d env2 with
          | none => rw [hg] at q2; cases q2
          | some env3 =>
            rw [hg] at q2
            intro σ4 S4 en4 o4 p4
            refine ⟨wipe_len_eq p4, ?_⟩
            have hw : L2.wipe σ4 vs = L2.wipe σ vs := wipe_len_eq p4
            have o4' : ∀ a, S4 a → S2 a := fun a ha => (o4 a ha).elim id fun z => z.elim
            have st4 : Stt M F3 H3 S4 := st3.sub fun a ha => .inl (o4' a ha)
            have st4T : Stt M F3 H3 (un S4 U) := st3.sub fun a ha => ha.imp (o4' a) id
            have d4 : dj S4 U := fun a x y => d2 a (o4' a x) y
            have s4 : Step F H S F3 H3 (un S4 U) := s3.drop fun a ha => ha.imp (o4' a) id
            have k4 : ∀ a, U a → a ≠ Dl → H3 a = H1 a := fun a ha n => (alive2 a (.inr ha)).trans (k2 a ha n)
            have fr : ∀ {F5 H5 : Hp} {S5 : AS}, Step F3 H3 S4 F5 H5 S5 → Stt M F5 H5 S5 → Step F H S F5 H5 (un S5 U) ∧ Stt M F5 H5 (un S5 U) ∧ dj S5 U ∧ (∀ a, U a → H5 a = H3 a) ∧ Ext F1 F5 ∧ FK F1 H1 H5 := fun a b => by
              obtain ⟨g1, g2, g3, g4⟩ := a.frame st4T b d4
              exact ⟨s4.trans g1, g2, g3, g4, (x2.trans x3).trans a.ext, (fk2.ext e3).step (x2.trans x3) st4 a⟩
            refine h3 F3 H3 env3 σ4 S4 _ st4 en4 ?_
            simp only at q2
            cases ht : t env3 with
            | stuck => rw [ht] at q2; cases q2
            | err c d e => rw [ht] at q2; cases q2
            | ok k env4 =>
              rw [ht] at q2
              intro F5 H5 S5 s5 st5 _ en5
              obtain ⟨g1, g2, g3, g4, g5, g6⟩ := fr s5 st5
              have hacc5 : H5 Dl = some (.lst accV) := by rw [g4 Dl hD]; exact hacc3
              cases k with
              | false =>
                refine iteF ?_
                obtain ⟨S6, en6, o6⟩ := en5.wipe vs
                rw [hw] at en6
                refine ⟨wipeE env4 vs, acc, accV, F5, S6, g1.drop fun a z => z.imp (o6 a) id, g2.sub fun a z => z.imp (o6 a) id, fun a x y => g3 a (o6 a x) y, en6, g5, fun a ha n => (g4 a ha).trans (k4 a ha n), g6, hacc5, roA3.mono acc s5.ext (fun _ h => h.elim), q2⟩
              | true =>
                refine iteT ?_
                simp only [if_true] at q2
                refine i1 F5 H5 env4 σ4 S5 _ st5 en5 ?_
                cases hit1 : it1 env4 with
                | stuck => rw [hit1] at q2; cases q2
                | err c d e => rw [hit1] at q2; cases q2
                | ok its env5 =>
                  rw [hit1] at q2
                  simp only at q2
                  intro J1 F6 H6 S6 T1 s6 st6 d6 en6 itok1
                  cases hI : lcL gf1 t1 ef vs1 its (wipeE env5 vs1) acc with
                  | stuck => rw [hI] at q2; cases q2
                  | err c d e => rw [hI] at q2; cases q2
                  | ok acc6 env7 =>
                    rw [hI] at q2
                    simp only at q2
                    obtain ⟨w1, w2, w3, w4, w5, w6⟩ := fr (s5.trans s6) st6
                    obtain ⟨S7, en7, o7⟩ := en6.wipe vs1
                    have eU : un (un S6 T1) U = un S6 (un T1 U) := AS.ext fun a => by
                      simp only [un]
                      constructor
                      · rintro ((z | z) | z) <;> simp [z]
                      · rintro (z | z | z) <;> simp [z]
                    rw [eU] at w1 w2
                    have o8 : ∀ a, un S7 (un T1 U) a → un S6 (un T1 U) a := fun a z => z.imp (o7 a) id
                    have d8 : dj S7 (un T1 U) := fun a x y => y.elim (fun y => d6 a (o7 a x) y) fun y => w3 a (.inl (o7 a x)) y
                    have acc8 : H6 Dl = some (.lst accV) := by rw [w4 Dl hD]; exact hacc3
                    have F6D : F6 Dl = none := w2.fr Dl (.inr (.inr hD))
                    have nT1 : ¬ T1 Dl := fun z => w3 Dl (.inr z) hD
                    refine turns_run (F := F) (H := H) (S := S) (F1 := F6) (H1 := H6) (S1 := S7) (U := un T1 U) (T := T1) (Fi := F6) (Hi := H6) (σ := σ4) (Dl := Dl) (env0 := wipeE env5 vs1) (acc0 := acc) (accV0 := accV) itok1 j2 j3 j4
                      (w1.drop o8) (w2.sub o8) d8 en7 (fun a z => .inl z) nT1 (.inr hD) (Ext.refl _) (fun _ _ => rfl) FK.refl acc8 (roA3.mono acc (s5.trans s6).ext fun _ h => h.elim) hI F6D ?_
                    intro F9 H9 S9 accV9 s9 st9 d9 en9 x9 k9 fk9 hacc9 ro9
                    obtain ⟨S10, en10, o10⟩ := en9.wipe vs
                    rw [wipe_two hv, hw] at en10
                    have o11 : ∀ a, un S10 U a → un S9 (un T1 U) a := fun a z => z.elim (fun z => .inl (o10 a z)) fun z => .inr (.inr z)
                    refine ⟨wipeE env7 vs, acc6, accV9, F9, S10, s9.drop o11, st9.sub o11, fun a x y => d9 a (o10 a x) (.inr y), en10, w5.trans x9, fun a ha n => ?_, ?_, hacc9, ro9, q2⟩
                    · rw [k9 a (.inr ha) n, w4 a ha]
                      exact k4 a ha n
                    · intro a o e m n
                      have e6 := w6 a o e m n
                      refine fk9 a o e6 m fun z => ?_
                      cases qf : F1 a with
                      | none => exact n qf
                      | some u => rw [w5 a u qf] at z; cases z
        · left
          have e : i = ds.length := by omega
          subst e
          refine ⟨is (Nat.le_refl _), ?_⟩
          rw [List.drop_length] at q2
          unfold lcL2 at q2
          cases q2
          obtain ⟨T3, en3, o3⟩ := en2.unwipe en1 x2 hok
          have oD : ∀ a, un T3 (fun a => a = Dl) a → un S2 U a := fun a z => z.imp (o3 a) .inr
          have roF : RO M F2 H2 (.lst true accf) (.ref Dl) (fun a => a = Dl) := by
            simp only [RO, if_true]
            exact ⟨Dl, accV, em, rfl, roA, hacc, fun h => h, AS.ext fun a => by simp [on1, em]⟩
          exact h (.ref Dl) F2 H2 _ (s2.drop oD) (st2.sub oD) (fun z => nomatch z) (ResR.one_tmp en3 roF fun a x y => d2 a (o3 a x) (.inr y))
    · exact h.elim
end
end VS
set_option maxHeartbeats 1000000
/-! VSKw: calls by the parameters' names. -/
namespace VH
open PySem PySem.Spec PyProof.Rows L2
variable {X : Cx} {CX : CXT} {k : Nat} {f : Addr} {fd : FuncData} {ps ks : List Str} {sp : Sp} {E : XK} {x : Str} {p pos : Pos} {kws : List Keyword} {tk : TA} {g : List Value → List Value → List Value} {gV : List V → List V → List V}
theorem pe_callK0 (F : FnOk X.prog X.w X.K X.mg X.base CX k f fd ps sp) (room : Room k X.A) (glo : Gl X x) (isf : X.mg x = some (.ref f)) (kept : PySem.W.keepIn X.K (.ref f) = true) (bd : KBinds X.K fd ps ks g gV) (lets : Passes CX X E) (kk : PK X kws tk)
    (names : (backToKw pos (keywordEach kws X.env)).all (·.1.isSome) = true := by rfl) (own : (backToKw pos (keywordEach kws X.env)).filterMap (·.1) = ks := by rfl) (nodeb : (x == ("__debug__" : Str)) = false := by decide)
    (plain : ((backTo pos (starEach [] X.env)).any (·.1) || (backToKw pos (keywordEach kws X.env)).any (·.1.isNone)) = false := by rfl) :
    PE X (.Call (.Name x p) [] kws pos) (tCallK sp gV E tNil tk) := by
  constructor
  intro pins s σ H Q I h
  have go := PySem.W.callWith_KW0 (h₀ := X.base) (M := model X.prog X.w) (A := X.A) (E := X.xe) (s := s) (Q := EP X pins σ Q) (first := []) (env := X.env) (f := .ref f) I.ok.mod.kin kept names
    (thn (kk.run pos pins s σ H _ I h) fun ws s2 ⟨zs, H2, I2, rz, q2⟩ => ⟨I2.kIn, by rw [own]; exact run_fnk F room bd lets I2 .nil rz q2⟩) plain
  exact wpAny_Call_Name_kw (ld_glob I glo isf go nodeb)
theorem passK0 {P : Program} {w : World} : Passes (L2.CX P w) X (fun _ _ _ => False) := fun _ _ _ _ _ _ _ c => by
  obtain ⟨_, _, _, _, _, _, _, _, _, _, _, _, h⟩ := c
  exact h.elim
def g1 {α : Type} : List α → List α → List α := fun us ws => match us, ws with
  | [], [a] => [a]
  | _, _ => []
def g2 {α : Type} : List α → List α → List α := fun us ws => match us, ws with
  | [], [a, b] => [a, b]
  | _, _ => []
def g2s {α : Type} : List α → List α → List α := fun us ws => match us, ws with
  | [], [a, b] => [b, a]
  | _, _ => []
theorem vals_nil {us : List Value} (h : Vals [] us) : us = [] := by cases h; rfl
theorem g1_rel {vs zs : List V} {us ws : List Value} (h : Vals vs us) (h2 : Vals zs ws) : Vals (g1 vs zs) (g1 us ws) := by
  cases h with
  | nil => cases h2 with
    | nil => exact .nil
    | cons a t => cases t with
      | nil => exact .cons a .nil
      | cons b t => exact .nil
  | cons a t => exact .nil
theorem g2_rel {vs zs : List V} {us ws : List Value} (h : Vals vs us) (h2 : Vals zs ws) : Vals (g2 vs zs) (g2 us ws) := by
  cases h with
  | nil => cases h2 with
    | nil => exact .nil
    | cons a t => cases t with
      | nil => exact .nil
      | cons b t => cases t with
        | nil => exact .cons a (.cons b .nil)
        | cons c t => exact .nil
  | cons a t => exact .nil
theorem g2s_rel {vs zs : List V} {us ws : List Value} (h : Vals vs us) (h2 : Vals zs ws) : Vals (g2s vs zs) (g2s us ws) := by
  cases h with
  | nil => cases h2 with
    | nil => exact .nil
    | cons a t => cases t with
      | nil => exact .nil
      | cons b t => cases t with
        | nil => exact .cons b (.cons a .nil)
        | cons c t => exact .nil
  | cons a t => exact .nil
section
variable {K : PySem.W.Frag} {qual : Str} {params : Arguments} {body : List Stmt} {scope : Scope} {kwd : List (Str × V)} {a b : Str}
theorem kb1 (FD : FunD K x qual params body scope [] kwd f fd)
    (h : ∀ (kV doc pm : Value) (an : Option Addr) (cdv ct u : Value), bindArgs (PySem.W.fnOf x qual params body scope .none kV doc pm an cdv ct) ⟨[], [(a, u)]⟩ = pure [(a, u)]) : KBinds K fd [a] [a] g1 g1 := by
  obtain ⟨oc, od, dV, kV, doc, pm, an, cdv, ct, osl, rfl, lk, hcd, hD, hK⟩ := FD.ex
  rcases hD with ⟨_, rfl⟩ | ⟨e, _⟩
  · refine ⟨fun s us ws _ hl => ?_, g1_rel⟩
    match us, ws, hl with
    | [], [u], _ => exact .of_eq (h kV doc pm an cdv ct u)
  · exact absurd rfl e
theorem kb2 (FD : FunD K x qual params body scope [] kwd f fd)
    (h : ∀ (kV doc pm : Value) (an : Option Addr) (cdv ct u v : Value), bindArgs (PySem.W.fnOf x qual params body scope .none kV doc pm an cdv ct) ⟨[], [(a, u), (b, v)]⟩ = pure [(a, u), (b, v)]) : KBinds K fd [a, b] [a, b] g2 g2 := by
  obtain ⟨oc, od, dV, kV, doc, pm, an, cdv, ct, osl, rfl, lk, hcd, hD, hK⟩ := FD.ex
  rcases hD with ⟨_, rfl⟩ | ⟨e, _⟩
  · refine ⟨fun s us ws _ hl => ?_, g2_rel⟩
    match us, ws, hl with
    | [], [u, v], _ => exact .of_eq (h kV doc pm an cdv ct u v)
  · exact absurd rfl e
theorem kb2s (FD : FunD K x qual params body scope [] kwd f fd)
    (h : ∀ (kV doc pm : Value) (an : Option Addr) (cdv ct u v : Value), bindArgs (PySem.W.fnOf x qual params body scope .none kV doc pm an cdv ct) ⟨[], [(b, u), (a, v)]⟩ = pure [(a, v), (b, u)]) : KBinds K fd [a, b] [b, a] g2s g2s := by
  obtain ⟨oc, od, dV, kV, doc, pm, an, cdv, ct, osl, rfl, lk, hcd, hD, hK⟩ := FD.ex
  rcases hD with ⟨_, rfl⟩ | ⟨e, _⟩
  · refine ⟨fun s us ws _ hl => ?_, g2s_rel⟩
    match us, ws, hl with
    | [], [u, v], _ => exact .of_eq (h kV doc pm an cdv ct u v)
  · exact absurd rfl e
end
end VH
namespace VS
open PySem PyProof.Rows L2
section
variable {M : Mn} {W : WD} {b b1 b2 b3 : Bool} {F H F' H' F1 H1 : Hp} {env env' env1 : List D} {σ : L2.St} {S S' S1 T : AS} {pr : Nat → Bool}
theorem PostA.mono {Q Z : List V → Hp → Prop} {x : R (List Rv)} (h : PostA M W b F H σ S Q x) (k : ∀ vs H', Q vs H' → Z vs H') : PostA M W b F H σ S Z x := by
  cases x with
  | ok rs env' => exact fun vs F' H' S' a b c d => k _ _ (h vs F' H' S' a b c d)
  | err c d env' => exact h
  | stuck => exact h
/-- what a call by names asks, from what the call by places asks -/
theorem kw_of {tk : TA} {gs : List D → R (List Rv)} {Fn : List D → FR} {Q : VK} {Z : List V → Hp → Prop} (h1 : SA M W0 b tk gs) (st : Stt M F H S) (en : EnvR M F H env σ S) (h : Post M W0 false F H σ S Q (callF Fn [] gs env))
    (hR : ∀ vs H1, spD M Fn vs H1 Q (fun _ _ _ => False) → Z vs H1) : tk σ H Z := by
  let ta : TA := fun σ' H' Q' => ∃ F' env' S', Stt M F' H' S' ∧ EnvR M F' H' env' σ' S' ∧ PostA M W0 b F' H' σ' S' Q' (gs env')
  have sa : SA M W0 b ta gs := fun F' H' env' σ' S' Q' a b c => ⟨F', env', S', a, b, c⟩
  obtain ⟨F', env', S', a, b', c⟩ := se_call (dd := []) (dvs := []) sa (fun _ _ => ros_nil) F H env σ S Q st en h
  exact h1 F' H env' σ S' Z a b' (PostA.mono c fun vs H1 q => hR vs H1 (by
    have q : spD M Fn (vs ++ []) H1 Q (WE W0 σ) := q
    rw [List.append_nil] at q
    exact q))
theorem spD_len {Fn : List D → FR} {n : Nat} (hn : ∀ ds, ds.length ≠ n → Fn ds = .stuck) {vs : List V} {Q : VK} {E : XK} (h : spD M Fn vs H Q E) : vs.length = n := by
  obtain ⟨F, ds, S, _, ro, q⟩ := h
  rw [← ro.len]
  by_cases e : ds.length = n
  · exact e
  · rw [hn ds e] at q
    exact q.elim
theorem se_kw1 {tk : TA} {gs : List D → R (List Rv)} {Fn : List D → FR} (hn : ∀ ds, ds.length ≠ 1 → Fn ds = .stuck) (h1 : SA M W0 b tk gs) : SE M W0 false (tCallK (spD M Fn) VH.g1 (fun _ _ _ => False) tNil tk) (callF Fn [] gs) := by
  intro F H env σ S Q st en h
  show tk σ H (fun zs H2 => spD M Fn (VH.g1 [] zs) H2 Q _)
  refine kw_of h1 st en h fun vs H1 q => ?_
  have hl := spD_len hn q
  match vs, hl, q with
  | [v], _, q => exact q
theorem se_kw2 {tk : TA} {gs : List D → R (List Rv)} {Fn : List D → FR} (hn : ∀ ds, ds.length ≠ 2 → Fn ds = .stuck) (h1 : SA M W0 b tk gs) : SE M W0 false (tCallK (spD M Fn) VH.g2 (fun _ _ _ => False) tNil tk) (callF Fn [] gs) := by
  intro F H env σ S Q st en h
  show tk σ H (fun zs H2 => spD M Fn (VH.g2 [] zs) H2 Q _)
  refine kw_of h1 st en h fun vs H1 q => ?_
  have hl := spD_len hn q
  match vs, hl, q with
  | [v, w], _, q => exact q
/-- the arguments the other way about -/
def swapFn (Fn : List D → FR) : List D → FR := fun ds => match ds with
  | [a, b] => match Fn [b, a] with
    | .ok d [b', a'] => .ok d [a', b']
    | _ => .stuck
  | _ => .stuck
theorem ros_swap {a b : D} {v w : V} (h : ROs M F H [a, b] [v, w] S) : ROs M F H [b, a] [w, v] S := by
  simp only [ROs] at h ⊢
  obtain ⟨v', ws, S1, S2, e, r1, ⟨w', ws2, S3, S4, e2, r2, ⟨rfl, rfl⟩, _, rfl⟩, dd, rfl⟩ := h
  cases e
  cases e2
  rw [un_em] at dd ⊢
  exact ⟨w, [v], S3, S1, rfl, r2, ⟨v, [], S1, em, rfl, r1, ⟨rfl, rfl⟩, fun _ _ h => h.elim, (un_em S1).symm⟩, fun a x y => dd a y x, AS.ext fun a => by simp only [un]; exact or_comm⟩
theorem se_kw2s {tk : TA} {gs : List D → R (List Rv)} {Fn : List D → FR} (h1 : SA M W0 b tk gs) : SE M W0 false (tCallK (spD M Fn) VH.g2s (fun _ _ _ => False) tNil tk) (callF (swapFn Fn) [] gs) := by
  intro F H env σ S Q st en h
  show tk σ H (fun zs H2 => spD M Fn (VH.g2s [] zs) H2 Q _)
  refine kw_of h1 st en h fun vs H1 q => ?_
  have hl := spD_len (n := 2) (Fn := swapFn Fn) (fun ds hd => by
    match ds, hd with
    | [], _ => rfl
    | [_], _ => rfl
    | _ :: _ :: _ :: _, _ => rfl) q
  match vs, hl, q with
  | [v, w], _, q =>
    show spD M Fn [w, v] H1 Q _
    obtain ⟨F2, ds, S2, st2, ro, q⟩ := q
    have hds := ro.len
    match ds, hds, ro, q with
    | [a, c], _, ro, q =>
      refine ⟨F2, [c, a], S2, st2, ros_swap ro, ?_⟩
      have q : (match swapFn Fn [a, c] with
        | .ok d ds' => ∀ v0 F' H' S1 S2', Step F2 H1 S2 F' H' (un S1 S2') → Stt M F' H' (un S1 S2') → ROs M F' H' ds' [v, w] S1 → RO M F' H' d v0 S2' → dj S1 S2' → Q v0 H'
        | .err c d ds' => ∀ cls dx F' H' S1, Step F2 H1 S2 F' H' S1 → Stt M F' H' S1 → ErrR M F' H' c d cls dx → ROs M F' H' ds' [v, w] S1 → False
        | .stuck => False) := q
      unfold swapFn at q
      simp only at q
      cases hF : Fn [c, a] with
      | stuck => rw [hF] at q; exact q.elim
      | err c d ds' => rw [hF] at q; exact q.elim
      | ok d ds' =>
        rw [hF] at q
        match ds', q with
        | [c', a'], q => exact fun v0 F' H' S1 S2' s1 st1 r1 r2 d2 => q v0 F' H' S1 S2' s1 st1 (ros_swap r1) r2 d2
        | [], q => exact q.elim
        | [_], q => exact q.elim
        | _ :: _ :: _ :: _, q => exact q.elim
end
end VS
namespace VS
open PySem PyProof.Rows L2
theorem u65 {k : Nat} {A : Around} (hr : Room k A) : A.units + 65 < cLine := by
  have := hr.un
  omega
theorem bodyF_len {re : List Bool} {n m : Nat} {f : List D → SR} (h : re.length = n) (ds : List D) (hd : ds.length ≠ n) : bodyF re m f ds = .stuck := by
  unfold bodyF
  rw [if_neg]
  rintro ⟨a, _⟩
  exact hd (a.trans h)
end VS
set_option maxHeartbeats 1000000
/-! VSZipT: zip of two texts. -/
namespace VH
open PySem PySem.Spec PyProof.Rows L2 RZ
/-- the signs of two texts, in new pairs -/
def ItzS (x y : Str) : It :=
  ⟨fun i _ => i < x.cps.size ∧ i < y.cps.size,
    fun i H v H' => ∃ T c d, v = .ref T ∧ H T = none ∧ H' = upd H T (.tup [.str ⟨#[c]⟩, .str ⟨#[d]⟩]) ∧ x.cps[i]? = some c ∧ y.cps[i]? = some d,
    fun i _ => x.cps.size ≤ i ∨ y.cps.size ≤ i⟩
theorem turn_zipS {P : Program} {w : World} {K : PySem.W.Frag} {elts : List Expr} {kk : Nat} {tpos : Pos} {x y : Str} {t u : Tok} {z TI TO i1 i2 : Addr} (D : ZipSep2 z TI TO i1 i2 [i1] [i2]) :
    Turn P w K (.Tuple elts kk tpos) (ItzS x y) [z, TI, TO, i1, i2] z (fun i h => IsZip h z TI TO .none ∧ IsTupOf2 h TI (.ref i1) (.ref i2) ∧ (∃ a b, IsTupOf2 h TO a b) ∧ h.IsStrIter i1 (strIterType x) x t i ∧ h.IsStrIter i2 (strIterType y) y u i ∧ i ≤ x.cps.size ∧ i ≤ y.cps.size) where
  mem := by simp
  obj := fun i h st c hc => by
    obtain ⟨hz, hTI, ⟨a, b, hTO⟩, ⟨o1, e1, _, d1⟩, ⟨o2, e2, _, d2⟩, _⟩ := st
    have e' : c = z ∨ c = TI ∨ c = TO ∨ c = i1 ∨ c = i2 := by simpa using hc
    rcases e' with q | q | q | q | q
    · rw [q]; exact ⟨_, hz, fun v q => nomatch q⟩
    · rw [q]; exact ⟨_, hTI, fun v q => nomatch q⟩
    · rw [q]; exact ⟨_, hTO, fun v q => nomatch q⟩
    · rw [q]; exact ⟨o1, e1, fun v q => by rw [d1] at q; cases q⟩
    · rw [q]; exact ⟨o2, e2, fun v q => by rw [d2] at q; cases q⟩
  keep := fun i h h' st k => by
    obtain ⟨hz, hTI, ⟨a, b, hTO⟩, ⟨o1, e1, r1⟩, ⟨o2, e2, r2⟩, le⟩ := st
    exact ⟨k z (by simp) _ hz, k TI (by simp) _ hTI, ⟨a, b, k TO (by simp) _ hTO⟩, ⟨o1, k i1 (by simp) _ e1, r1⟩, ⟨o2, k i2 (by simp) _ e2, r2⟩, le⟩
  item := by
    intro X hP hw hK hc i pins s σ H E I hf st hg
    subst hP hw hK
    obtain ⟨hz, hTI, ⟨a0, b0, hTO⟩, h1, h2, le1, le2⟩ := st
    have hd := I.ok.hd hc
    have hzl : z < s.heap.objs.size := Heap.lt_size hz
    refine wpAny_pyNext_zipD2_item D (Draws.text (A := X.A.in1) hd i1 x t) (Draws.text (A := X.A.in1) hd i2 y u) hz hTI hTO h1 h2 hg.1 hg.2 fun x1 x2 h' tk p1 p2 z' TO' h1' h2' hT hsz hk => ?_
    obtain ⟨c, t1, hc1, rfl⟩ := p1
    obtain ⟨d, t2, hd1, rfl⟩ := p2
    refine ⟨_, rfl, wpAny_letOwnedTupleGo_zip (s := { s with heap := h', toks := tk }) z' fun h'' z'' sb => ?_⟩
    have hT2 : h''.get? s.heap.objs.size = some { cls := .type "tuple", data := .seq #[.str ⟨#[c]⟩ t1, .str ⟨#[d]⟩ t2] } := (sb.2 _ (Nat.ne_of_gt hzl)).trans hT
    have new : ObjOk X.prog X.w (upd H s.heap.objs.size (.tup [.str ⟨#[c]⟩, .str ⟨#[d]⟩])) h'' s.heap.objs.size (.tup [.str ⟨#[c]⟩, .str ⟨#[d]⟩]) :=
      ⟨by show 2 ≤ sizeLine; decide, [.str ⟨#[c]⟩ t1, .str ⟨#[d]⟩ t2], .cons ⟨_, rfl⟩ (.cons ⟨_, rfl⟩ .nil), ⟨_, hT2, rfl, _, rfl⟩⟩
    have I1 : Inv X pins σ (upd H s.heap.objs.size (.tup [.str ⟨#[c]⟩, .str ⟨#[d]⟩])) { s with heap := h'', toks := tk } :=
      I.turnedNew (t' := tk) (ch := [z, TI, TO, i1, i2]) (fun b o hb q => (sb.2 b (fun q' => hb (by simp [q']))).trans (hk b o (fun q' => hb (by simp [q'])) (fun q' => hb (by simp [q'])) (fun q' => hb (by simp [q'])) (fun q' => hb (by simp [q'])) q)) hf (Nat.le_refl _) new
    refine ⟨.ref s.heap.objs.size, _, I1, rfl, ⟨_, c, d, rfl, I.hok.fresh (Nat.le_refl _), rfl, hc1, hd1⟩, ⟨z'', ?_, ⟨.str ⟨#[c]⟩ t1, .str ⟨#[d]⟩ t2, ?_⟩, ?_, ?_, hg.1, hg.2⟩, fun b hcm => ?_⟩
    · exact (sb.2 _ D.TIz).trans (hk _ _ D.TIz D.TITO D.TIi1 D.TIi2 hTI)
    · exact (sb.2 _ D.TOz).trans TO'
    · obtain ⟨o, e, r⟩ := h1'
      exact ⟨o, (sb.2 _ D.zi1.symm).trans e, r⟩
    · obtain ⟨o, e, r⟩ := h2'
      exact ⟨o, (sb.2 _ D.zi2.symm).trans e, r⟩
    · have hlt : b < s.heap.objs.size := by
        have e' : b = z ∨ b = TI ∨ b = TO ∨ b = i1 ∨ b = i2 := by simpa using hcm
        rcases e' with q | q | q | q | q
        · rw [q]; exact hzl
        · rw [q]; exact Heap.lt_size hTI
        · rw [q]; exact Heap.lt_size hTO
        · rw [q]; obtain ⟨_, e1, _⟩ := h1; exact Heap.lt_size e1
        · rw [q]; obtain ⟨_, e2, _⟩ := h2; exact Heap.lt_size e2
      rw [upd_ne (Nat.ne_of_lt hlt)]
      exact (hf b hcm).1
  done := by
    intro X hP hw hK hc i pins s σ H E I hf st hg
    subst hP hw hK
    obtain ⟨hz, hTI, ⟨a0, b0, hTO⟩, h1, h2, le1, le2⟩ := st
    have hd := I.ok.hd hc
    exact wpAny_pyNext_zipD2_end D (Draws.text (A := X.A.in1) hd i1 x t) (Draws.text (A := X.A.in1) hd i2 y u) hz hTI hTO h1 h2 le1 le2 (by rcases hg with q | q <;> omega) fun h' tk hk => ⟨rfl, I.turnedL (t' := tk) (ch := [z, TI, TO, i1, i2]) (fun c o hb q =>
      hk c o (fun q' => hb (by simp [q'])) (fun q' => hb (by simp [q'])) (fun q' => hb (by simp [q'])) (fun q' => hb (by simp [q'])) q) hf⟩
  self := fun A i s Q E st h => wpAny_pyIter_zip st.1 h
theorem zipS_apart (I : Nat) : ZipSep2 (I + 4) (I + 2) (I + 3) I (I + 1) [I] [I + 1] where
  TIz := by show ¬ ((I + 2 : Nat) = I + 4); omega
  TOz := by show ¬ ((I + 3 : Nat) = I + 4); omega
  TITO := by show ¬ ((I + 2 : Nat) = I + 3); omega
  TIi1 := by show ¬ ((I + 2 : Nat) = I); omega
  mem1 := by simp
  zf1 := by simp
  Tf1 := by simp
  TIi2 := by show ¬ ((I + 2 : Nat) = I + 1); omega
  mem2 := by simp
  zf2 := by simp
  Tf2 := by simp
  sep1_2 := by simp
  sep2_1 := by simp
def iZipB (K : PySem.W.Frag) (ta : TA) : TI := fun σ H R => ta σ H fun vs H1 => (∃ a b xs ys, vs = [.ref a, .ref b] ∧ ((SqL K H1 a xs ∧ SqL K H1 b ys ∧ R (Itz K a b) H1) ∨ (SqT K H1 a xs ∧ SqT K H1 b ys ∧ R (ItzT K a b) H1))) ∨
  ∃ x y, vs = [.str x, .str y] ∧ R (ItzS x y) H1
theorem pi_zipB {X : Cx} {e e2 : Expr} {ta : TA} {p pos tpos : Pos} {elts : List Expr} {kk : Nat} (hg : Gl X "zip") (hm : X.mg "zip" = none) (ha : PA X [e, e2] ta)
    (hs : starEach [e, e2] X.env = (false, eval e X.env) :: starEach [e2] X.env := by rfl) (hpl : (backTo pos (starEach [e2] X.env)).any (·.1) = false := by rfl) :
    PI X (.Tuple elts kk tpos) (.Call (.Name "zip" p) [e, e2] [] pos) (iZipB X.K ta) := by
  refine ⟨fun pins s σ H R I h => ?_⟩
  refine Call_ (ld_blt I hg hm PyProof.Rows.boot_zip (PyProof.Rows.callWith_type1 (thn (ha.run pos pins s σ H _ I h) fun us s1 ⟨vs, H1, I1, r1, q1⟩ => ?_) hs hpl))
  have fresh5 : ∀ c, c ∈ [s1.heap.objs.size + 4, s1.heap.objs.size + 2, s1.heap.objs.size + 3, s1.heap.objs.size, s1.heap.objs.size + 1] → FpOk X pins H1 c := fun c hcm => by
    have e' : c = s1.heap.objs.size + 4 ∨ c = s1.heap.objs.size + 2 ∨ c = s1.heap.objs.size + 3 ∨ c = s1.heap.objs.size ∨ c = s1.heap.objs.size + 1 := by simpa using hcm
    have hle : s1.heap.objs.size ≤ c := by
      rcases e' with z | z | z | z | z
      · rw [z]; exact Nat.le_add_right _ _
      · rw [z]; exact Nat.le_add_right _ _
      · rw [z]; exact Nat.le_add_right _ _
      · rw [z]; exact Nat.le_refl _
      · rw [z]; exact Nat.le_add_right _ _
    exact I1.fpOk hle (I1.hok.fresh hle)
  rcases q1 with ⟨a, b, xs, ys, ex, q1⟩ | ⟨x, y, ex, q1⟩
  · subst ex
    cases r1 with
    | cons r rr =>
      cases rr with
      | cons r' rr =>
        cases rr
        cases r
        cases r'
        rcases q1 with ⟨hqx, hqy, q⟩ | ⟨hqx, hqy, q⟩
        · obtain ⟨its, rv, p1, _⟩ := I1.list hqx
          obtain ⟨its2, rv2, p2, _⟩ := I1.list hqy
          refine call_zip_2 p1.isList p2.isList fun h' hz hTI hTO h1 h2 hsz hk => wpAny_pyIter_zip hz ?_
          have I2 : Inv X pins σ H1 { s1 with heap := h' } := I1.kept (t' := s1.toks) hk
          exact ⟨s1.heap.objs.size + 4, [s1.heap.objs.size + 4, s1.heap.objs.size + 2, s1.heap.objs.size + 3, s1.heap.objs.size, s1.heap.objs.size + 1], _, _, H1, rfl, I2, turn_zip (PySem.W.ktu_apart s1.heap.objs.size a b p1.lt p2.lt), ⟨hz, hTI, ⟨_, _, hTO⟩, h1, h2⟩, fresh5, q⟩
        · obtain ⟨its, rv, p1, _⟩ := I1.tuple hqx
          obtain ⟨its2, rv2, p2, _⟩ := I1.tuple hqy
          obtain ⟨o1, ho1, _⟩ := id p1
          obtain ⟨o2, ho2, _⟩ := id p2
          refine call_zipT (show s1.heap.IsTuple a its.toArray from p1) (show s1.heap.IsTuple b its2.toArray from p2) fun h' hz hTI hTO h1 h2 hsz hk => wpAny_pyIter_zip hz ?_
          have I2 : Inv X pins σ H1 { s1 with heap := h' } := I1.kept (t' := s1.toks) hk
          exact ⟨s1.heap.objs.size + 4, [s1.heap.objs.size + 4, s1.heap.objs.size + 2, s1.heap.objs.size + 3, s1.heap.objs.size, s1.heap.objs.size + 1], _, _, H1, rfl, I2, turn_zipT (PySem.W.ktu_apart s1.heap.objs.size a b (Heap.lt_size ho1) (Heap.lt_size ho2)), ⟨hz, hTI, ⟨_, _, hTO⟩, h1, h2⟩, fresh5, q⟩
  · subst ex
    cases r1 with
    | cons r rr =>
      cases rr with
      | cons r' rr =>
        cases rr
        obtain ⟨t, rfl⟩ := r
        obtain ⟨u, rfl⟩ := r'
        refine zip_begins2 (begins_text x t) (begins_text y u) trivial trivial fun h' hz hTI hTO h1 h2 hsz hk => wpAny_pyIter_zip hz ?_
        have I2 : Inv X pins σ H1 { s1 with heap := h' } := I1.kept (t' := s1.toks) hk
        exact ⟨s1.heap.objs.size + 4, [s1.heap.objs.size + 4, s1.heap.objs.size + 2, s1.heap.objs.size + 3, s1.heap.objs.size, s1.heap.objs.size + 1], _, _, H1, rfl, I2, turn_zipS (zipS_apart s1.heap.objs.size), ⟨hz, hTI, ⟨_, _, hTO⟩, ⟨_, h1, rfl, rfl⟩, ⟨_, h2, rfl, rfl⟩, Nat.zero_le _, Nat.zero_le _⟩, fresh5, q1⟩
end VH
namespace VS
open PySem PyProof.Rows L2
variable {M : Mn} {W : WD} {b : Bool}
theorem itOk_zipS {T : AS} {F H : Hp} (x y : List Nat) : ItOk M (VH.ItzS ⟨x.toArray⟩ ⟨y.toArray⟩) F H T (zipL (x.map fun c => D.str [c]) (y.map fun c => D.str [c])) := by
  intro F2 H2 e fh k kn _ n
  rw [zipL_len, List.length_map, List.length_map]
  refine ⟨fun hn => ⟨⟨by simp; omega, by simp; omega⟩, fun v H3 yy => ?_⟩, fun hn => ?_⟩
  · obtain ⟨p, c, d, rfl, hp, rfl, hc, hd⟩ := yy
    have hc' : x[n]? = some c := by simpa using hc
    have hd' : y[n]? = some d := by simpa using hd
    obtain ⟨F3, g1, g2, g3, g4, g5⟩ := tup_new (M := M) (ds := [.str [c], .str [d]]) (vs := [.str ⟨#[c]⟩, .str ⟨#[d]⟩]) fh hp (by
      simp only [ROs]
      exact ⟨_, _, em, em, rfl, by simp [RO], ⟨_, _, em, em, rfl, by simp [RO], ⟨rfl, rfl⟩, fun _ h => h.elim, (em_un em).symm⟩, fun _ h => h.elim, (em_un em).symm⟩)
    exact ⟨F3, g1, g2, g3, g4, _, zipL_get (by rw [List.getElem?_map, hc']; rfl) (by rw [List.getElem?_map, hd']; rfl), rfl, g5⟩
  · show _ ≤ n ∨ _ ≤ n
    simp
    omega
def zipSK : List D → Option (List D)
  | [.lst o xs, .lst o' ys] => if frzV o xs = true ∧ frzV o' ys = true then some (zipL xs ys) else none
  | [.tup o xs, .tup o' ys] => if frzV o xs = true ∧ frzV o' ys = true then some (zipL xs ys) else none
  | [.str x, .str y] => some (zipL (x.map fun c => D.str [c]) (y.map fun c => D.str [c]))
  | _ => none
theorem zipSK_eq {ds its : List D} (h : zipSK ds = some its) : zipK ds = some its ∨ ∃ x y, ds = [.str x, .str y] ∧ its = zipL (x.map fun c => D.str [c]) (y.map fun c => D.str [c]) := by
  unfold zipSK at h
  split at h
  · exact .inl h
  · exact .inl h
  · cases h; exact .inr ⟨_, _, rfl, rfl⟩
  · cases h
theorem si_zipB {ta : TA} {fs : List D → R (List Rv)} (h1 : SA M W b ta fs) : SI M W (VH.iZipB M.K ta) (itZ fs zipSK) := by
  refine si_esc (k := zipSK) (kk := fun vs H1 R => (∃ a b xs ys, vs = [.ref a, .ref b] ∧ ((SqL M.K H1 a xs ∧ SqL M.K H1 b ys ∧ R (Itz M.K a b) H1) ∨ (SqT M.K H1 a xs ∧ SqT M.K H1 b ys ∧ R (RZ.ItzT M.K a b) H1))) ∨ ∃ x y, vs = [.str x, .str y] ∧ R (VH.ItzS x y) H1) h1 fun F H ds vs its R T st ro e hR => ?_
  rcases zipSK_eq e with e | ⟨x, y, rfl, rfl⟩
  · left
    unfold zipK at e
    split at e
    · rename_i o xs o' ys
      split at e
      · rename_i hz
        cases e
        simp only [ROs] at ro
        obtain ⟨v, ws, A1, A2, rfl, ra, ⟨w, ws2, B1, B2, rfl, rb, ⟨rfl, rfl⟩, _, rfl⟩, dAB, rfl⟩ := ro
        obtain ⟨a, us, rfl, rs, hs⟩ := seqL_at ra hz.1
        obtain ⟨c, us2, rfl, rs2, hs2⟩ := seqL_at rb hz.2
        refine ⟨a, c, us, us2, rfl, .inl ⟨SqL.of (hs F H (Ext.refl _) st.fh (fun _ _ => rfl)), SqL.of (hs2 F H (Ext.refl _) st.fh (fun _ _ => rfl)), hR _ ?_⟩⟩
        intro F2 H2 e fh k kn _ n
        have sq := SqL.of (K := M.K) (hs F2 H2 e fh fun c hc => k c (.inl hc))
        have sq2 := SqL.of (K := M.K) (hs2 F2 H2 e fh fun c hc => k c (.inr (.inl hc)))
        rw [zipL_len, rs.len, rs2.len]
        refine ⟨fun hn => ⟨⟨us, us2, us[n]'(by omega), us2[n]'(by omega), sq, sq2, List.getElem?_eq_getElem _, List.getElem?_eq_getElem _⟩, fun x H3 y => ?_⟩, fun hn => ⟨us, us2, sq, sq2, by omega⟩⟩
        obtain ⟨p, x, y, rfl, hp, rfl, hv, hv2⟩ := y
        exact zip_turn rs rs2 e fh hp (hv us sq) (hv2 us2 sq2)
      · cases e
    · rename_i o xs o' ys
      split at e
      · rename_i hz
        cases e
        simp only [ROs] at ro
        obtain ⟨v, ws, A1, A2, rfl, ra, ⟨w, ws2, B1, B2, rfl, rb, ⟨rfl, rfl⟩, _, rfl⟩, dAB, rfl⟩ := ro
        obtain ⟨a, us, rfl, rs, hs⟩ := seqT_at ra hz.1
        obtain ⟨c, us2, rfl, rs2, hs2⟩ := seqT_at rb hz.2
        refine ⟨a, c, us, us2, rfl, .inr ⟨SqT.of (hs F H (Ext.refl _) st.fh (fun _ _ => rfl)), SqT.of (hs2 F H (Ext.refl _) st.fh (fun _ _ => rfl)), hR _ ?_⟩⟩
        intro F2 H2 e fh k kn _ n
        have sq := SqT.of (K := M.K) (hs F2 H2 e fh fun c hc => k c (.inl hc))
        have sq2 := SqT.of (K := M.K) (hs2 F2 H2 e fh fun c hc => k c (.inr (.inl hc)))
        rw [zipL_len, rs.len, rs2.len]
        refine ⟨fun hn => ⟨⟨us, us2, us[n]'(by omega), us2[n]'(by omega), sq, sq2, List.getElem?_eq_getElem _, List.getElem?_eq_getElem _⟩, fun x H3 y => ?_⟩, fun hn => ⟨us, us2, sq, sq2, by omega⟩⟩
        obtain ⟨p, x, y, rfl, hp, rfl, hv, hv2⟩ := y
        exact zip_turn rs rs2 e fh hp (hv us sq) (hv2 us2 sq2)
      · cases e
    · cases e
  · right
    simp only [ROs] at ro
    obtain ⟨v, ws, A1, A2, rfl, ra, ⟨w, ws2, B1, B2, rfl, rb, ⟨rfl, rfl⟩, _, rfl⟩, dAB, rfl⟩ := ro
    simp only [RO] at ra rb
    obtain ⟨rfl, _⟩ := ra
    obtain ⟨rfl, _⟩ := rb
    exact ⟨_, _, rfl, hR _ (itOk_zipS x y)⟩
end VS
set_option maxHeartbeats 1000000
/-! VSEnumT: enumerate of a tuple, of a text. -/
namespace VH
open PySem PySem.Spec PyProof.Rows L2 RZ
theorem meets_enumB1 {v : Value} {o : Obj} {H : Heap → Prop} (B : Begins v o H) :
    Meets (Builtin.«enumerate.__new__» ⟨[.type "enumerate", v], []⟩) (fun _ R s => H s.heap ∧
      R (.ok (.ret (.ref (s.heap.push o).objs.size))) { s with heap := (s.heap.push o).push { cls := .type "enumerate", data := .fields #[.none, .bool false, .ref s.heap.objs.size, rawInt 0, .none, .none] } }) :=
  .of_wp fun prog w A R s h => by
    obtain ⟨hp, g, d, tk, os⟩ := s; obtain ⟨h1, h⟩ := h
    have hsub := sub_enumerate
    have q1 : ∀ {A' : Around} {E : Value → Shared → Prop} {Q : Value → Shared → Prop}, Q (.ref hp.objs.size) ⟨hp.push o, g, d, tk, os⟩ → wpAny (model prog w) A' (pyIter v) Q E ⟨hp, g, d, tk, os⟩ :=
      fun q => B.iter prog w _ _ ⟨hp, g, d, tk, os⟩ _ h1 q
    wp_walk using q1
    refine wpAny_stack_any fun st => wpAny_pure ?_
    split
    · rename_i c _ _ _ _ _
      cases (c == Value.type "enumerate")
      · wp_walk using q1
        exact ⟨_, rfl, h⟩
      · wp_walk using q1
        exact ⟨_, rfl, h⟩
    · wp_walk using q1
      exact ⟨_, rfl, h⟩
theorem enum_begins1 {prog : Program} {w : World} {A : Around} {E : Value → Shared → Prop} {s : Shared} {v : Value} {o : Obj} {H : Heap → Prop} {Q : Value → Shared → Prop} (B : Begins v o H) (h1 : H s.heap)
    (h : ∀ h', IsEnum h' (s.heap.objs.size + 1) s.heap.objs.size 0 .none → h'.get? s.heap.objs.size = some o → h'.objs.size = s.heap.objs.size + 2 →
      (∀ b o, s.heap.get? b = some o → h'.get? b = some o) → Q (.ref (s.heap.objs.size + 1)) { s with heap := h' }) :
    wpAny (model prog w) A (call (.type "enumerate") [v]) Q E s := by
  refine callType_new F.called_enumerate (by decide) (F.typeCall_enumerate_1 _) (F.newCall_enumerate_1 _) (fun obj => F.args_object_init_2 obj _) F.entry_enumerate_new
    (meets_enumB1 B) ⟨h1, ?_⟩
  have hz : (s.heap.push o).objs.size = s.heap.objs.size + 1 := Heap.size_push ..
  show _ ∧ _
  rw [hz]
  have he : IsEnum ((s.heap.push o).push { cls := .type "enumerate", data := .fields #[.none, .bool false, .ref s.heap.objs.size, rawInt 0, .none, .none] }) (s.heap.objs.size + 1) s.heap.objs.size 0 .none := by
    have := Heap.get?_push_size (s.heap.push o) (o := { cls := .type "enumerate", data := .fields #[.none, .bool false, .ref s.heap.objs.size, rawInt 0, .none, .none] }) rfl
    rw [hz] at this; exact this
  refine ⟨⟨_, he, rfl⟩, h _ he (Heap.get?_push_of_some _ (Heap.get?_push_size _ B.free)) (by rw [Heap.size_push, hz]) fun b o x => Heap.get?_push_of_some _ (Heap.get?_push_of_some _ x)⟩
theorem enumT_end {prog : Program} {w : World} {A : Around} {E : Value → Shared → Prop} {s : Shared} {e it l : Addr} {i : Nat} {items : Array Value} {old : Value} {Q : Option Value → Shared → Prop} (hh : A.handled = none)
    (he : IsEnum s.heap e it i old) (hit : s.heap.IsTupleIter it l i) (hl : s.heap.IsTuple l items) (hx : items[i]? = none)
    (hQ : ∀ h', Heap.ExtBut it s.heap h' → Q none { s with heap := h' }) : wpAny (model prog w) A (pyNext (.ref e)) Q E s := by
  have hT : s.TypeIs (.ref e) "enumerate" := ⟨_, he, rfl⟩
  unfold pyNext
  refine wpAny_bind (wpAny_attempt (wpAny_callSpecial?_slot (name := Str.ofString "__next__") hT F.slot_enumerate_next
    (wpAny_call_entry F.slot_enumerate_next hT F.entry_enumerate_next ?_ (F.args_enumerate_next_1 _))))
  show wpAny _ _ (field (.ref e) 2 >>= _) _ _ _
  refine wpAny_bind (wpAny_field he rfl (x := .ref it) rfl ?_)
  refine wpAny_bind (wpAny_nextOf_tuple_end hh hit hl hx fun h' x he' hx' => ?_)
  obtain ⟨o, ho, hc⟩ := hx'
  refine wpAny_bind (wpAny_isInstance (T := "StopIteration") (b := true) ⟨o, ho, hc⟩ isSubtype_stop ?_)
  exact wpAny_pure (hQ _ he')
/-- the tuple at a, each item in a new pair -/
def IteT (K : PySem.W.Frag) (a : Addr) : It :=
  ⟨fun i H => ∃ (xs : List V) (x : V), SqT K H a xs ∧ xs[i]? = some x, fun i H v H' => ∃ T x, v = .ref T ∧ H T = none ∧ H' = upd H T (.tup [.int (i : Nat), x]) ∧ ∀ xs, SqT K H a xs → xs[i]? = some x, fun i H => ∃ xs : List V, SqT K H a xs ∧ xs.length ≤ i⟩
/-- the signs of a text, each in a new pair -/
def IteS (x : Str) : It :=
  ⟨fun i _ => i < x.cps.size, fun i H v H' => ∃ T c, v = .ref T ∧ H T = none ∧ H' = upd H T (.tup [.int (i : Nat), .str ⟨#[c]⟩]) ∧ x.cps[i]? = some c, fun i _ => x.cps.size ≤ i⟩
theorem turn_enumS {P : Program} {w : World} {K : PySem.W.Frag} {elts : List Expr} {kk : Nat} {tpos : Pos} (x : Str) (t : Tok) (e it : Addr) :
    Turn P w K (.Tuple elts kk tpos) (IteS x) [e, it] e (fun i h => (∃ old, IsEnum h e it ((i : Nat) : Int) old) ∧ h.IsStrIter it (strIterType x) x t i ∧ e ≠ it ∧ i ≤ x.cps.size) where
  mem := by simp
  obj := fun i h st b hb => by
    obtain ⟨⟨old, he⟩, ⟨o, ho, hc, hd⟩, _⟩ := st
    have e' : b = e ∨ b = it := by simpa using hb
    rcases e' with z | z
    · rw [z]; exact ⟨_, he, fun v q => nomatch q⟩
    · rw [z]; exact ⟨o, ho, fun v q => by rw [hd] at q; cases q⟩
  keep := fun i h h' st k => let ⟨⟨old, he⟩, ⟨o, ho, r⟩, hne⟩ := st; ⟨⟨old, k e (by simp) _ he⟩, ⟨o, k it (by simp) _ ho, r⟩, hne⟩
  item := by
    intro X hP hw hK hc i pins s σ H E I hf st hg
    subst hP hw hK
    obtain ⟨⟨old, he⟩, hit, hne, hle⟩ := st
    have hel : e < s.heap.objs.size := Heap.lt_size he
    have hil : it < s.heap.objs.size := by obtain ⟨_, q, _⟩ := hit; exact Heap.lt_size q
    refine wpAny_pyNext_enum_itemD (Draws.text (A := X.A.in1) (I.ok.hd hc) it x t) he hit hg hne (by simpa using hne) fun u h' tk p ho hit' hT hsz hk => ?_
    obtain ⟨c, t1, hc1, rfl⟩ := p
    refine ⟨_, rfl, wpAny_letOwnedTupleGo_enum (s := { s with heap := h', toks := tk + 1 }) ho fun h'' he' sb => ?_⟩
    have hT2 : h''.get? s.heap.objs.size = some { cls := .type "tuple", data := .seq #[.int i tk, .str ⟨#[c]⟩ t1] } := (sb.2 _ (Nat.ne_of_gt hel)).trans hT
    have new : ObjOk X.prog X.w (upd H s.heap.objs.size (.tup [.int (i : Nat), .str ⟨#[c]⟩])) h'' s.heap.objs.size (.tup [.int (i : Nat), .str ⟨#[c]⟩]) :=
      ⟨by show 2 ≤ sizeLine; decide, [.int i tk, .str ⟨#[c]⟩ t1], .cons ⟨_, rfl⟩ (.cons ⟨_, rfl⟩ .nil), ⟨_, hT2, rfl, _, rfl⟩⟩
    have I1 : Inv X pins σ (upd H s.heap.objs.size (.tup [.int (i : Nat), .str ⟨#[c]⟩])) { s with heap := h'', toks := tk + 1 } :=
      I.turnedNew (ch := [e, it]) (fun b ob hb q => (sb.2 b (fun z => hb (by simp [z]))).trans (hk b ob (fun z => hb (by simp [z])) (fun z => hb (by simp [z])) q)) hf (Nat.le_refl _) new
    refine ⟨.ref s.heap.objs.size, _, I1, rfl, ⟨_, c, rfl, I.hok.fresh (Nat.le_refl _), rfl, hc1⟩, ⟨⟨.str ⟨#[c]⟩ t1, ?_⟩, ?_, hne, hg⟩, fun b hb => ?_⟩
    · have e1 : ((i + 1 : Nat) : Int) = (i : Int) + 1 := by omega
      rw [e1]; exact he'
    · obtain ⟨o, q, r⟩ := hit'
      exact ⟨o, (sb.2 it (Ne.symm hne)).trans q, r⟩
    · have hb' : b < s.heap.objs.size := by
        have e' : b = e ∨ b = it := by simpa using hb
        rcases e' with z | z
        · rw [z]; exact hel
        · rw [z]; exact hil
      rw [upd_ne (Nat.ne_of_lt hb')]
      exact (hf b hb).1
  done := by
    intro X hP hw hK hc i pins s σ H E I hf st hg
    subst hP hw hK
    obtain ⟨⟨old, he⟩, hit, hne, hle⟩ := st
    obtain ⟨f0, f1, f2, f3, f4, f5⟩ := hf it (by simp)
    have hge : x.cps.size ≤ i := hg
    have hi : i = x.cps.size := Nat.le_antisymm hle hge
    subst hi
    exact wpAny_pyNext_enum_endD (Draws.text (A := X.A.in1) (I.ok.hd hc) it x t) he hit fun h' eb => ⟨rfl, I.turned (t' := s.toks) (fun b o hb q => eb b o hb q) f0 f1 f3 f4 f5⟩
  self := fun A i s Q E st h => let ⟨⟨_, he⟩, _⟩ := st; wpAny_pyIter_enum he h
theorem turn_enumT {P : Program} {w : World} {K : PySem.W.Frag} {elts : List Expr} {kk : Nat} {tpos : Pos} (a e it : Addr) (hea : e ≠ a) (hai : a ≠ it) :
    Turn P w K (.Tuple elts kk tpos) (IteT K a) [e, it] e (fun i h => (∃ old, IsEnum h e it ((i : Nat) : Int) old) ∧ h.IsTupleIter it a i ∧ e ≠ it) where
  mem := by simp
  obj := fun i h st b hb => by
    obtain ⟨⟨old, he⟩, ⟨o, ho, hc, hd⟩, _⟩ := st
    have e' : b = e ∨ b = it := by simpa using hb
    rcases e' with z | z
    · rw [z]; exact ⟨_, he, fun v q => nomatch q⟩
    · rw [z]; exact ⟨o, ho, fun v q => by rw [hd] at q; cases q⟩
  keep := fun i h h' st k => let ⟨⟨old, he⟩, ⟨o, ho, r⟩, hne⟩ := st; ⟨⟨old, k e (by simp) _ he⟩, ⟨o, k it (by simp) _ ho, r⟩, hne⟩
  item := by
    intro X hP hw hK hc i pins s σ H E I hf st hg
    subst hP hw hK
    obtain ⟨⟨old, he⟩, hit, hne⟩ := st
    obtain ⟨xs, x, hq, hx⟩ := hg
    obtain ⟨its, rv, p, _⟩ := I.tuple hq
    obtain ⟨u, hu, ru⟩ := rv.get hx
    have hel : e < s.heap.objs.size := Heap.lt_size he
    have hil : it < s.heap.objs.size := by obtain ⟨_, q, _⟩ := hit; exact Heap.lt_size q
    have hlen : i < its.toArray.size := by simpa using (List.getElem?_eq_some_iff.mp hu).1
    refine wpAny_pyNext_enum_itemD (Draws.tuple (A := X.A.in1) (I.ok.hd hc) it a hai its.toArray) he ⟨hit, p⟩ hlen hne (by simp [hne, hea]) fun u' h' tk pu ho hit' hT hsz hk => ?_
    have eu : u' = u := by
      have : its[i]? = some u' := by simpa using pu
      rw [hu] at this
      cases this; rfl
    subst eu
    refine ⟨_, rfl, wpAny_letOwnedTupleGo_enum (s := { s with heap := h', toks := tk + 1 }) ho fun h'' he' sb => ?_⟩
    have hT2 : h''.get? s.heap.objs.size = some { cls := .type "tuple", data := .seq #[.int i tk, u'] } := (sb.2 _ (Nat.ne_of_gt hel)).trans hT
    have new : ObjOk X.prog X.w (upd H s.heap.objs.size (.tup [.int (i : Nat), x])) h'' s.heap.objs.size (.tup [.int (i : Nat), x]) :=
      ⟨by show 2 ≤ sizeLine; decide, [.int i tk, u'], .cons ⟨_, rfl⟩ (.cons ru .nil), ⟨_, hT2, rfl, _, rfl⟩⟩
    have I1 : Inv X pins σ (upd H s.heap.objs.size (.tup [.int (i : Nat), x])) { s with heap := h'', toks := tk + 1 } :=
      I.turnedNew (ch := [e, it]) (fun b ob hb q => (sb.2 b (fun z => hb (by simp [z]))).trans (hk b ob (fun z => hb (by simp [z])) (fun z => hb (by simp [z])) q)) hf (Nat.le_refl _) new
    refine ⟨.ref s.heap.objs.size, _, I1, rfl, ⟨_, x, rfl, I.hok.fresh (Nat.le_refl _), rfl, fun ys hy => by rw [I.tuple_inj hy hq]; exact hx⟩, ⟨⟨u', ?_⟩, hit'.1.at fun o q => (sb.2 it (Ne.symm hne)).trans q, hne⟩, fun b hb => ?_⟩
    · have e1 : ((i + 1 : Nat) : Int) = (i : Int) + 1 := by omega
      rw [e1]; exact he'
    · have hb' : b < s.heap.objs.size := by
        have e' : b = e ∨ b = it := by simpa using hb
        rcases e' with z | z
        · rw [z]; exact hel
        · rw [z]; exact hil
      rw [upd_ne (Nat.ne_of_lt hb')]
      exact (hf b hb).1
  done := by
    intro X hP hw hK hc i pins s σ H E I hf st hg
    subst hP hw hK
    obtain ⟨⟨old, he⟩, hit, hne⟩ := st
    obtain ⟨xs, hq, hx⟩ := hg
    obtain ⟨its, rv, p, _⟩ := I.tuple hq
    obtain ⟨f0, f1, f2, f3, f4, f5⟩ := hf it (by simp)
    have hl := rv.length
    exact enumT_end (I.ok.hd hc) he hit p (by simp; omega) fun h' eb => ⟨rfl, I.turned (t' := s.toks) (fun b o hb q => eb b o hb q) f0 f1 f3 f4 f5⟩
  self := fun A i s Q E st h => let ⟨⟨_, he⟩, _⟩ := st; wpAny_pyIter_enum he h
def iEnumB (K : PySem.W.Frag) (ta : TA) : TI := fun σ H R => ta σ H fun vs H1 => (∃ a xs, vs = [.ref a] ∧ SqL K H1 a xs ∧ R (Ite K a) H1) ∨ (∃ a xs, vs = [.ref a] ∧ SqT K H1 a xs ∧ R (IteT K a) H1) ∨ ∃ x, vs = [.str x] ∧ R (IteS x) H1
theorem pi_enumB {X : Cx} {e : Expr} {ta : TA} {p pos tpos : Pos} {elts : List Expr} {kk : Nat} (hg : Gl X "enumerate") (hm : X.mg "enumerate" = none) (ha : PA X [e] ta) (hs : starEach [e] X.env = [(false, eval e X.env)] := by rfl) :
    PI X (.Tuple elts kk tpos) (.Call (.Name "enumerate" p) [e] [] pos) (iEnumB X.K ta) := by
  refine ⟨fun pins s σ H R I h => ?_⟩
  refine Call_ (ld_blt I hg hm boot_enumerate (PyProof.Rows.callWith_type1 (thn (ha.run pos pins s σ H _ I h) fun us s1 ⟨vs, H1, I1, r1, q1⟩ => ?_) hs rfl))
  have fresh2 : ∀ b, b ∈ [s1.heap.objs.size + 1, s1.heap.objs.size] → FpOk X pins H1 b := fun b hb => by
    have e' : b = s1.heap.objs.size + 1 ∨ b = s1.heap.objs.size := by simpa using hb
    have hle : s1.heap.objs.size ≤ b := by
      rcases e' with z | z
      · rw [z]; exact Nat.le_add_right _ _
      · rw [z]; exact Nat.le_refl _
    exact I1.fpOk hle (I1.hok.fresh hle)
  rcases q1 with ⟨a, xs, ex, hq, q⟩ | ⟨a, xs, ex, hq, q⟩ | ⟨x, ex, q⟩
  · subst ex
    cases r1 with
    | cons r rr =>
      cases rr
      cases r
      obtain ⟨its, rv, p', hz⟩ := I1.list hq
      refine call_enumerate_list p'.isList fun h' he hit hsz hk => wpAny_pyIter_enum he ?_
      have I2 : Inv X pins σ H1 { s1 with heap := h' } := I1.kept (t' := s1.toks) hk
      exact ⟨s1.heap.objs.size + 1, [s1.heap.objs.size + 1, s1.heap.objs.size], _, _, H1, rfl, I2, turn_enum a (s1.heap.objs.size + 1) s1.heap.objs.size, ⟨⟨.none, he⟩, hit, Nat.succ_ne_self _⟩, fresh2, q⟩
  · subst ex
    cases r1 with
    | cons r rr =>
      cases rr
      cases r
      obtain ⟨its, rv, p', hz⟩ := I1.tuple hq
      have hlt : a < s1.heap.objs.size := by obtain ⟨o, ho, _⟩ := id p'; exact Heap.lt_size ho
      refine enum_begins1 (begins_tuple a its.toArray) p' fun h' he hit hsz hk => wpAny_pyIter_enum he ?_
      have I2 : Inv X pins σ H1 { s1 with heap := h' } := I1.kept (t' := s1.toks) hk
      exact ⟨s1.heap.objs.size + 1, [s1.heap.objs.size + 1, s1.heap.objs.size], _, _, H1, rfl, I2, turn_enumT a (s1.heap.objs.size + 1) s1.heap.objs.size (Nat.ne_of_gt (Nat.lt_succ_of_lt hlt)) (Nat.ne_of_lt hlt), ⟨⟨.none, he⟩, ⟨_, hit, rfl, rfl⟩, Nat.succ_ne_self _⟩, fresh2, q⟩
  · subst ex
    cases r1 with
    | cons r rr =>
      cases rr
      obtain ⟨t, rfl⟩ := r
      refine enum_begins1 (begins_text x t) trivial fun h' he hit hsz hk => wpAny_pyIter_enum he ?_
      have I2 : Inv X pins σ H1 { s1 with heap := h' } := I1.kept (t' := s1.toks) hk
      exact ⟨s1.heap.objs.size + 1, [s1.heap.objs.size + 1, s1.heap.objs.size], _, _, H1, rfl, I2, turn_enumS x t (s1.heap.objs.size + 1) s1.heap.objs.size, ⟨⟨.none, he⟩, ⟨_, hit, rfl, rfl⟩, Nat.succ_ne_self _, Nat.zero_le _⟩, fresh2, q⟩
end VH
namespace VS
open PySem PyProof.Rows L2
variable {M : Mn} {W : WD} {b : Bool} {T : AS} {F H : Hp}
theorem itOk_enumT {a : Addr} {xs : List D} {vs : List V} (rs : ROs M F H xs vs em) (hs : ∀ F2 H2, Ext F F2 → FH F2 H2 → (∀ c, T c → H2 c = H c) → SqT M.K H2 a vs) : ItOk M (VH.IteT M.K a) F H T (enumL 0 xs) := by
  intro F2 H2 e fh k kn _ n
  have sq := hs F2 H2 e fh k
  rw [enumL_len, rs.len]
  refine ⟨fun hn => ⟨⟨vs, vs[n], sq, List.getElem?_eq_getElem hn⟩, fun x H3 y => ?_⟩, fun hn => ⟨vs, sq, hn⟩⟩
  obtain ⟨p, v, rfl, hp, rfl, hv⟩ := y
  have hv := hv vs sq
  have hx : xs[n]? = some (xs[n]'(by rw [rs.len]; exact hn)) := List.getElem?_eq_getElem _
  obtain ⟨w, S1, S2, e1, r1, _, e2, _⟩ := rs.focus n hx
  have := em_of_un1 e2
  subst this
  rw [hv] at e1
  cases e1
  obtain ⟨F3, g1, g2, g3, g4, g5⟩ := tup_new (M := M) (ds := [.int (n : Nat), xs[n]'(by rw [rs.len]; exact hn)]) (vs := [.int (n : Nat), v]) fh hp (by
    simp only [ROs]
    exact ⟨_, _, em, em, rfl, by simp [RO], ⟨_, _, em, em, rfl, r1.mono _ e (fun _ h => h.elim), ⟨rfl, rfl⟩, fun _ h _ => h.elim, (em_un em).symm⟩, fun _ h _ => h.elim, (em_un em).symm⟩)
  exact ⟨F3, g1, g2, g3, g4, _, by rw [enumL_get, hx, Nat.zero_add]; rfl, rfl, g5⟩
theorem itOk_enumS (x : List Nat) : ItOk M (VH.IteS ⟨x.toArray⟩) F H T (enumL 0 (x.map fun c => D.str [c])) := by
  intro F2 H2 e fh k kn _ n
  rw [enumL_len, List.length_map]
  refine ⟨fun hn => ⟨by show n < _; simpa using hn, fun v H3 y => ?_⟩, fun hn => by show _ ≤ n; simpa using hn⟩
  obtain ⟨p, c, rfl, hp, rfl, hc⟩ := y
  have hc' : x[n]? = some c := by simpa using hc
  obtain ⟨F3, g1, g2, g3, g4, g5⟩ := tup_new (M := M) (ds := [.int (n : Nat), .str [c]]) (vs := [.int (n : Nat), .str ⟨#[c]⟩]) fh hp (by
    simp only [ROs]
    exact ⟨_, _, em, em, rfl, by simp [RO], ⟨_, _, em, em, rfl, by simp [RO], ⟨rfl, rfl⟩, fun _ h => h.elim, (em_un em).symm⟩, fun _ h => h.elim, (em_un em).symm⟩)
  exact ⟨F3, g1, g2, g3, g4, _, by rw [enumL_get, List.getElem?_map, hc', Nat.zero_add]; rfl, rfl, g5⟩
def enumBK : List D → Option (List D)
  | [.lst o xs] => if frzV o xs = true then some (enumL 0 xs) else none
  | [.tup o xs] => if frzV o xs = true then some (enumL 0 xs) else none
  | [.scr ns] => some (enumL 0 (ns.map D.int))
  | [.str x] => some (enumL 0 (x.map fun c => D.str [c]))
  | _ => none
theorem si_enumB {ta : TA} {fs : List D → R (List Rv)} (h1 : SA M W b ta fs) : SI M W (VH.iEnumB M.K ta) (itZ fs enumBK) := by
  refine si_esc (k := enumBK) (kk := fun vs H1 R => (∃ a xs, vs = [.ref a] ∧ SqL M.K H1 a xs ∧ R (Ite M.K a) H1) ∨ (∃ a xs, vs = [.ref a] ∧ SqT M.K H1 a xs ∧ R (VH.IteT M.K a) H1) ∨ ∃ x, vs = [.str x] ∧ R (VH.IteS x) H1) h1 fun F H ds vs its R T st ro e hR => ?_
  unfold enumBK at e
  split at e
  · rename_i o xs
    split at e
    · rename_i hz
      cases e
      obtain ⟨v, rfl, r⟩ := ro.one
      obtain ⟨a, us, rfl, rs, hs⟩ := seqL_at r hz
      exact .inl ⟨a, us, rfl, SqL.of (hs F H (Ext.refl _) st.fh (fun _ _ => rfl)), hR _ (itOk_enum rs fun F2 H2 e fh k => SqL.of (hs F2 H2 e fh k))⟩
    · cases e
  · rename_i o xs
    split at e
    · rename_i hz
      cases e
      obtain ⟨v, rfl, r⟩ := ro.one
      obtain ⟨a, us, rfl, rs, hs⟩ := seqT_at r hz
      exact .inr (.inl ⟨a, us, rfl, SqT.of (hs F H (Ext.refl _) st.fh (fun _ _ => rfl)), hR _ (itOk_enumT rs fun F2 H2 e fh k => SqT.of (hs F2 H2 e fh k))⟩)
    · cases e
  · rename_i ns
    cases e
    obtain ⟨v, rfl, r⟩ := ro.one
    simp only [RO] at r
    obtain ⟨⟨a, rfl, sq⟩, _⟩ := r
    exact .inl ⟨a, _, rfl, rd_scr st.fh sq, hR _ (itOk_enum (ros_ints ns) fun F2 H2 e fh k => rd_scr fh (sql_ext e sq))⟩
  · rename_i x
    cases e
    obtain ⟨v, rfl, r⟩ := ro.one
    simp only [RO] at r
    obtain ⟨rfl, _⟩ := r
    exact .inr (.inr ⟨_, rfl, hR _ (itOk_enumS x)⟩)
  · cases e
end VS
set_option maxHeartbeats 1000000
/-! VSMin: the least of data of any depth, of a list or a tuple. -/
namespace VH
open PySem PySem.Spec PyProof.Rows L2
variable {X : Cx}
open PySem.W (dataLt alike AllAlike)
def bestAt (ds : List PyData) : Nat := argBest (fun i j => dataLt (ds.getD i .none) (ds.getD j .none)) (ds.length - 1)
def rMinDat (K : PySem.W.Frag) : List V → Hp → VK → Prop := fun vs H Q =>
  ∃ (a : Addr) (xs : List V) (ds : List PyData), vs = [V.ref a] ∧ (SqL K H a xs ∨ SqT K H a xs) ∧ DpAll K H xs ds ∧ AllAlike ds ∧
    (∀ d ∈ ds, d ≠ .none) ∧ (∀ d ∈ ds, d.depth ≤ 60) ∧ 0 < ds.length ∧ ∀ v, xs[bestAt ds]? = some v → Q v H
theorem vals_getV : ∀ {xs : List V} {us : List Value} {i : Nat} {u : Value}, Vals xs us → us[i]? = some u → ∃ x, xs[i]? = some x ∧ RelV x u
  | _, _, _, _, .nil, e => by simp at e
  | _, _, 0, _, .cons r _, e => by simp at e; subst e; exact ⟨_, rfl, r⟩
  | _, _, i + 1, u, .cons _ t, e => by
    obtain ⟨x, h1, h2⟩ := vals_getV (i := i) (u := u) t (by simpa using e)
    exact ⟨x, by simpa using h1, h2⟩
theorem depthAll_le {n : Nat} : ∀ {ds : List PyData}, (∀ d ∈ ds, d.depth ≤ n) → PyData.depthAll ds ≤ n
  | [], _ => by simp [PyData.depthAll]
  | d :: ds, h => by
    have h1 := h d List.mem_cons_self
    have h2 := depthAll_le (ds := ds) fun x hx => h x (List.mem_cons_of_mem _ hx)
    simp only [PyData.depthAll]
    omega
theorem cr_minDat (hc : X.calm = true) (hu : X.A.units + 65 < cLine) : CallR X (.builtin "min") (rMinDat X.K) := by
  intro pins s σ H vs us Q I r h
  obtain ⟨a, xs, ds, rfl, hs, hd, hal, hk, hp, hn, q⟩ := h
  rw [Vals.ref1 r]
  have hdep := depthAll_le hp
  have hh := I.ok.hd hc
  rcases hs with hs | hs
  · obtain ⟨its, rv, hl, hz⟩ := I.list hs
    obtain ⟨as, rd⟩ := Dp.readsAll I ds xs its hd rv
    have hsz : its.toArray.size = ds.length := by
      have := PySem.W.readsAll_len (vs := its.toArray) (by simpa using rd)
      simpa using this
    refine PySem.call_min_walkH (PySem.W.iter_listW (A := X.A.in1) hh hl.isList fun s₂ e W st hfp hw hk2 => ?_)
    refine ⟨_, _, _, _, _, _, _, s.heap, _, rfl, W, st, hfp, by omega, hw, hk2, PySem.W.cmpIn_lt (A := X.A.in1) (vs := its.toArray) (by simpa using rd) ⟨hal, hk⟩ (by show X.A.units + 1 + _ < _; omega), fun v s' hP m => ?_⟩
    obtain ⟨h', tk, rfl, hk'⟩ := PySem.W.moved_old e rfl m
    have hP' : its[bestAt ds]? = some v := by
      rw [hsz] at hP
      have hP2 : its.toArray[bestAt ds]? = some v := hP
      rw [List.getElem?_toArray] at hP2
      exact hP2
    obtain ⟨w, hw1, rw1⟩ := vals_getV rv hP'
    exact ⟨w, H, I.kept hk', rw1, q w hw1⟩
  · obtain ⟨its, rv, hl, hz⟩ := I.tuple hs
    obtain ⟨as, rd⟩ := Dp.readsAll I ds xs its hd rv
    have hsz : its.toArray.size = ds.length := by
      have := PySem.W.readsAll_len (vs := its.toArray) (by simpa using rd)
      simpa using this
    refine PySem.call_min_walkH (PySem.W.iter_tupleW (A := X.A.in1) hh (show s.heap.IsTuple a its.toArray from hl) fun s₂ e W st hfp hw hk2 => ?_)
    refine ⟨_, _, _, _, _, _, _, s.heap, _, rfl, W, st, hfp, by omega, hw, hk2, PySem.W.cmpIn_lt (A := X.A.in1) (vs := its.toArray) (by simpa using rd) ⟨hal, hk⟩ (by show X.A.units + 1 + _ < _; omega), fun v s' hP m => ?_⟩
    obtain ⟨h', tk, rfl, hk'⟩ := PySem.W.moved_old e rfl m
    have hP' : its[bestAt ds]? = some v := by
      rw [hsz] at hP
      have hP2 : its.toArray[bestAt ds]? = some v := hP
      rw [List.getElem?_toArray] at hP2
      exact hP2
    obtain ⟨w, hw1, rw1⟩ := vals_getV rv hP'
    exact ⟨w, H, I.kept hk', rw1, q w hw1⟩
end VH
namespace VS
open PySem PyProof.Rows L2
open PySem.W (alike AllAlike dataLt)
section
variable {M : Mn} {W : WD} {b b1 b2 : Bool} {F H F' H' F1 H1 : Hp} {env env' env1 : List D} {σ : L2.St} {S S' S1 T : AS} {pr : Nat → Bool}
def seqFz : D → Option (List D)
  | .lst o xs => lstI (.lst o xs)
  | .tup o xs => tupI (.tup o xs)
  | _ => none
def noNon (xs : List D) : Bool := xs.all fun d => match d with
  | .bl _ => true
  | .int _ => true
  | .str _ => true
  | .lst _ _ => true
  | .tup _ _ => true
  | _ => false
/-- the first of the least -/
def minF (x : D) (xs : List D) : D := xs.foldl (fun a y => if dataLt (toPy y) (toPy a) = true then y else a) x
def minDatD (d : D) : Option D := (seqFz d).bind fun xs => match xs with
  | [] => none
  | x :: r => if eqOks 59 (x :: r) = true ∧ allAl (toPys (x :: r)) = true ∧ noNon (x :: r) = true then some (minF x r) else none
def minAD (d : D) : Option D := match minD d with
  | some z => some z
  | none => minDatD d
abbrev rMinB (K : PySem.W.Frag) : List V → Hp → VK → Prop := fun xs H Q => rMin K xs H Q ∨ VH.rMinDat K xs H Q
theorem call_minB {X : Cx} (hc : X.calm = true) (hu : X.A.units + 65 < cLine) : CallR X (.builtin "min") (rMinB X.K) := (cr_min hc).or (VH.cr_minDat hc hu)
theorem seqFz_in {d : D} {xs : List D} {v : V} (e : seqFz d = some xs) (r : RO M F H d v S) (fh : FH F H) : ∃ a vs, v = .ref a ∧ (SqL M.K H a vs ∨ SqT M.K H a vs) ∧ ROs M F H xs vs em := by
  cases d with
  | lst o ys =>
    obtain ⟨a, vs, e1, e2, e3⟩ := lstI_in (d := .lst o ys) e r fh
    exact ⟨a, vs, e1, .inl (SqL.of e2), e3⟩
  | tup o ys =>
    obtain ⟨a, vs, e1, e2, e3⟩ := tupI_in (d := .tup o ys) e r fh
    exact ⟨a, vs, e1, .inr (SqT.of e2), e3⟩
  | _ => cases e
theorem toPys_getD (xs : List D) (i : Nat) : (toPys xs).getD i .none = toPy (xs.getD i .non) := by
  rw [toPys_map]
  simp only [List.getD_eq_getElem?_getD, List.getElem?_map]
  cases xs[i]? <;> rfl
theorem minF_at (x : D) (r : List D) : (x :: r)[VH.bestAt (toPys (x :: r))]? = some (minF x r) := by
  have h := PySem.W.argBest_fold (fun y a : D => dataLt (toPy y) (toPy a)) D.non x r r.length (Nat.le_refl _)
  rw [List.take_length] at h
  have e : VH.bestAt (toPys (x :: r)) = argBest (fun i j => dataLt (toPy ((x :: r).getD i .non)) (toPy ((x :: r).getD j .non))) r.length := by
    unfold VH.bestAt
    have hl : (toPys (x :: r)).length - 1 = r.length := by rw [toPys_map]; simp
    rw [hl]
    congr 1
    funext i j
    rw [toPys_getD, toPys_getD]
  rw [e]
  obtain ⟨h1, h2⟩ := h
  generalize argBest (fun i j => dataLt (toPy ((x :: r).getD i .non)) (toPy ((x :: r).getD j .non))) r.length = k at h1 h2
  have hk : k < (x :: r).length := by simp; omega
  rw [List.getElem?_eq_getElem hk]
  rw [List.getD_eq_getElem?_getD, List.getElem?_eq_getElem hk] at h2
  exact congrArg some h2
theorem noNon_ok {xs : List D} (h : noNon xs = true) (h2 : eqOks 59 xs = true) : ∀ d ∈ toPys xs, d ≠ .none := by
  rw [toPys_map]
  intro d hd
  obtain ⟨x, hx, rfl⟩ := List.mem_map.mp hd
  have h1 := List.all_eq_true.mp h x hx
  rw [eqOks_all] at h2
  have h3 := List.all_eq_true.mp h2 x hx
  cases x <;> first | (cases h1; done) | (intro z; simp [toPy] at z)
theorem rn_minB : RN M (rMinB M.K) (op1 minAD) := by
  intro F H ds vs z Q fh rl e k
  unfold op1 at e
  split at e
  · rename_i d
    unfold minAD at e
    cases q : minD d with
    | some y =>
      rw [q] at e
      exact .inl (rn_minl F H [d] vs z Q fh rl (by simpa [op1, q] using e) k)
    | none =>
      rw [q] at e
      obtain ⟨x, ws, Sx, rfl, r1, rr⟩ := rl
      simp only [RL] at rr
      subst rr
      unfold minDatD at e
      cases q2 : seqFz d with
      | none => rw [q2] at e; cases e
      | some xs =>
        rw [q2] at e
        simp only [Option.bind_some] at e
        cases xs with
        | nil => cases e
        | cons x0 r0 =>
          simp only at e
          split at e
          · rename_i hd
            cases e
            obtain ⟨a, us, rfl, h1, h2⟩ := seqFz_in q2 r1 fh
            refine .inr ⟨a, us, toPys (x0 :: r0), rfl, h1, toPys_dp fh 59 _ hd.1 h2, allAl_ok hd.2.1, noNon_ok hd.2.2 hd.1, deep_depth hd.1, by rw [toPys_map]; simp, fun v hv => ?_⟩
            have hm := minF_at x0 r0
            obtain ⟨w, S1, S2, e1, rr1, _, e2, _⟩ := h2.focus _ hm
            have := em_of_un1 e2
            subst this
            rw [hv] at e1
            cases e1
            exact k _ _ _ _ (NewR.same fh rr1)
          · cases e
  · cases e
end
end VS
set_option maxHeartbeats 1000000
/-! VSTal: counts of texts, as lists. -/
namespace VS
open PySem PyProof.Rows L2
def uq : List (List Nat) → List (List Nat)
  | [] => []
  | x :: xs => if x ∈ uq xs then uq xs else x :: uq xs
theorem uq_mem {x : List Nat} : ∀ {xs : List (List Nat)}, x ∈ uq xs ↔ x ∈ xs
  | [] => by simp [uq]
  | y :: xs => by
    unfold uq
    split
    · rename_i h
      rw [uq_mem, List.mem_cons]
      constructor
      · exact .inr
      · rintro (rfl | z)
        · exact uq_mem.mp h
        · exact z
    · rw [List.mem_cons, List.mem_cons, uq_mem]
theorem uq_nodup : ∀ xs : List (List Nat), (uq xs).Nodup
  | [] => List.nodup_nil
  | y :: xs => by
    unfold uq
    split
    · exact uq_nodup xs
    · rename_i h
      exact List.nodup_cons.mpr ⟨h, uq_nodup xs⟩
def kys (l : List (List Nat)) : List (List Nat) := sortT (uq l)
theorem kys_mem {l : List (List Nat)} {x : List Nat} : x ∈ kys l ↔ x ∈ l := (sortT_perm _).mem_iff.trans uq_mem
theorem kys_nodup (l : List (List Nat)) : (kys l).Nodup := (sortT_perm _).nodup_iff.mpr (uq_nodup l)
theorem sortT_sorted (ss : List (List Nat)) : (sortT ss).Pairwise (fun a b => leS a b = true) := List.pairwise_mergeSort leS_trans leS_total ss
theorem kys_sorted (l : List (List Nat)) : (kys l).Pairwise (fun a b => leS a b = true) := sortT_sorted _
theorem kys_uniq {l ss : List (List Nat)} (n : ss.Nodup) (h : ∀ x, x ∈ ss ↔ x ∈ l) : sortT ss = kys l :=
  sortT_uniq ((sortT_perm ss).trans ((List.perm_ext_iff_of_nodup n (uq_nodup l)).mpr fun a => (h a).trans uq_mem.symm)) (sortT_sorted ss)
theorem kys_perm {l m : List (List Nat)} (h : ∀ x, x ∈ l ↔ x ∈ m) : kys l = kys m := kys_uniq (uq_nodup l) fun x => uq_mem.trans (h x)
theorem sort_kys (l : List (List Nat)) : sortT (kys l) = kys l := kys_uniq (kys_nodup l) fun _ => kys_mem
def cnt (l : List (List Nat)) : List (List Nat × Int) := (kys l).map fun w => (w, (l.count w : Int))
theorem cnt_perm {l m : List (List Nat)} (p : l.Perm m) : cnt l = cnt m := by
  unfold cnt
  rw [kys_perm fun x => p.mem_iff]
  exact List.map_congr_left fun w _ => by rw [p.count_eq]
theorem cnt_keys (l : List (List Nat)) : (cnt l).map (·.1) = kys l := by
  unfold cnt
  rw [List.map_map]
  exact List.map_id _
theorem tally_strs (l : List (List Nat)) : ∃ ss : List (List Nat), dk (tally (l.map D.str)) = ss.map D.str ∧ ss.Nodup ∧ ∀ x, x ∈ ss ↔ x ∈ l := by
  have key : ∀ (xs : List (List Nat)) (T : List (D × Int)), (∃ ss : List (List Nat), dk T = ss.map D.str) → ∃ ss : List (List Nat), dk ((xs.map D.str).foldl bump T) = ss.map D.str := by
    intro xs
    induction xs with
    | nil => exact fun T h => h
    | cons x xs ih =>
      rintro T ⟨ss, e⟩
      rw [List.map_cons, List.foldl_cons]
      refine ih _ ?_
      rw [dk_bump, e, putKs]
      split
      · exact ⟨ss, rfl⟩
      · exact ⟨ss ++ [x], by simp⟩
  obtain ⟨ss, e⟩ := key l [] ⟨[], rfl⟩
  have e' : dk (tally (l.map D.str)) = ss.map D.str := e
  refine ⟨ss, e', ?_, fun x => ?_⟩
  · have := tally_nodup (l.map D.str)
    rw [e'] at this
    exact List.Pairwise.imp (fun {a b} h e => h (by rw [e])) (List.pairwise_map.mp this)
  · have := tally_mem (l.map D.str) (.str x)
    rw [e'] at this
    simpa using this
theorem count_strs (l : List (List Nat)) (w : List Nat) : (l.map D.str).count (D.str w) = l.count w := by
  induction l with
  | nil => rfl
  | cons x l ih =>
    rw [List.map_cons, List.count_cons, List.count_cons, ih]
    by_cases h : x = w
    · subst h; simp
    · have h1 : (D.str x == D.str w) = false := by simpa using h
      have h2 : (x == w) = false := by simpa using h
      rw [h1, h2]
theorem look_strs (l : List (List Nat)) (w : List Nat) : look (tally (l.map D.str)) (.str w) = (l.count w : Nat) := by rw [tally_look, count_strs]
/-! ### sums -/
theorem sum_add {α : Type} (ks : List α) (f g : α → Int) : (ks.map fun w => f w + g w).sum = (ks.map f).sum + (ks.map g).sum := by
  induction ks with
  | nil => rfl
  | cons k ks ih => simp only [List.map_cons, List.sum_cons, ih]; omega
theorem sum_zero {α : Type} (ks : List α) : (ks.map fun _ => (0 : Int)).sum = 0 := by
  induction ks with
  | nil => rfl
  | cons k ks ih => simp only [List.map_cons, List.sum_cons, ih]; omega
theorem sum_ind {α : Type} [DecidableEq α] (ks : List α) (x : α) (n : ks.Nodup) (h : x ∈ ks) : (ks.map fun w => if x = w then (1 : Int) else 0).sum = 1 := by
  induction ks with
  | nil => cases h
  | cons k ks ih =>
    have hn := List.nodup_cons.mp n
    simp only [List.map_cons, List.sum_cons]
    by_cases e : x = k
    · subst e
      have : (ks.map fun w => if x = w then (1 : Int) else 0) = ks.map fun _ => (0 : Int) := List.map_congr_left fun w hw => by
        rw [if_neg]
        intro z
        exact hn.1 (z ▸ hw)
      rw [this, sum_zero]
      simp
    · rw [ih hn.2 ((List.mem_cons.mp h).resolve_left e)]
      simp [e]
theorem sum_count {α : Type} [BEq α] [LawfulBEq α] [DecidableEq α] (l ks : List α) (n : ks.Nodup) (h : ∀ x ∈ l, x ∈ ks) : (ks.map fun w => (l.count w : Int)).sum = l.length := by
  induction l with
  | nil => simpa using sum_zero ks
  | cons x l ih =>
    have e : (ks.map fun w => ((x :: l).count w : Int)) = ks.map fun w => (l.count w : Int) + if x = w then 1 else 0 := List.map_congr_left fun w _ => by
      rw [List.count_cons]
      by_cases hx : x = w
      · subst hx; simp
      · have : (x == w) = false := by simpa using hx
        simp [hx]
    rw [e, sum_add, ih fun y hy => h y (List.mem_cons_of_mem _ hy), sum_ind ks x n (h x List.mem_cons_self)]
    simp
theorem sum_cnt (l : List (List Nat)) : ((cnt l).map (·.2)).sum = l.length := by
  have := sum_count l (kys l) (kys_nodup l) fun x hx => kys_mem.mpr hx
  rw [← this]
  unfold cnt
  rw [List.map_map]
  rfl
theorem numsD_dvs (T : List (D × Int)) : numsD (dvs T) = some (T.map (·.2)) := by
  have : dvs T = (T.map (·.2)).map D.int := by simp [dvs, Function.comp_def]
  rw [this]
  exact numsD_ints _
theorem sum_tally (xs : List D) : ((tally xs).map (·.2)).sum = xs.length := by
  have h := T_by (tally xs) (tally_nodup xs)
  have e : (tally xs).map (·.2) = (dk (tally xs)).map fun k => look (tally xs) k := by
    have h2 : (((tally xs).map (·.2)).map D.int) = ((dk (tally xs)).map fun k => look (tally xs) k).map D.int := by
      rw [List.map_map, List.map_map]
      exact h
    exact List.map_inj_right (fun a b e => by cases e; rfl) |>.mp h2
  rw [e]
  have e2 : ((dk (tally xs)).map fun k => look (tally xs) k) = (dk (tally xs)).map fun k => (xs.count k : Int) := List.map_congr_left fun k _ => tally_look xs k
  rw [e2]
  exact sum_count xs _ (tally_nodup xs) fun x hx => (tally_mem xs x).mpr hx
/-! ### items, sorted -/
theorem dataLe_pr (a b : List Nat) (i j : Int) (h : a = b → i ≤ j) : PySem.W.dataLe false toPy (.tup false [.str a, .int i]) (.tup false [.str b, .int j]) = leS a b := by
  show (!PyProof.Rows.lexLt PyProof.Rows.itemOrd [.inl 1, .inr b, .inl 1, .inl j, .inl 0] [.inl 1, .inr a, .inl 1, .inl i, .inl 0]) = _
  rw [PyProof.Rows.lex_self]
  by_cases e : a = b
  · subst e
    have h := h rfl
    rw [PyProof.Rows.lex_self, PyProof.Rows.lex_self]
    have e1 : PyProof.Rows.lexLt PyProof.Rows.itemOrd [.inl j, .inl 0] [.inl i, .inl 0] = false := by
      by_cases q : i = j
      · subst q
        rw [PyProof.Rows.lex_self, PyProof.Rows.lex_self]
        rfl
      · rw [PyProof.Rows.lex_diff (by intro z; cases z; exact q rfl)]
        show decide (j < i) = false
        simp; omega
    rw [e1]
    simp [leS, List.lt_irrefl]
  · rw [PyProof.Rows.lex_diff (by intro z; cases z; exact e rfl)]
    rfl
def prD (f : List Nat → Int) (w : List Nat) : D := .tup false [.str w, .int (f w)]
theorem srt_prs (ss : List (List Nat)) (f : List Nat → Int) : srtD (ss.map (prD f)) = (sortT ss).map (prD f) :=
  (List.map_mergeSort (r := leS) (s := PySem.W.dataLe false toPy) (f := prD f) fun a _ b _ => (dataLe_pr a b (f a) (f b) fun e => by rw [e]; exact Int.le_refl _).symm).symm
def okS (s : List Nat) : Bool := s.all (· < 0x110000)
theorem eqOk_str {s : List Nat} (h : okS s = true) (n : Nat) : eqOk n (.str s) = true := by
  cases n <;> simpa [eqOk, okS] using h
theorem eqOk_prD (f : List Nat → Int) {w : List Nat} (h : okS w = true) (n : Nat) : eqOk (n + 1) (prD f w) = true := by
  show eqOk (n + 1) (.tup false [.str w, .int (f w)]) = true
  rw [eqOk, eqOks, eqOks, eqOks, eqOk_str h]
  cases n <;> rfl
theorem eqOks_map {α : Type} (n : Nat) (g : α → D) (xs : List α) (h : ∀ x ∈ xs, eqOk n (g x) = true) : eqOks n (xs.map g) = true := by
  rw [eqOks_all, List.all_map]
  exact List.all_eq_true.mpr h
theorem deep_prs (ss : List (List Nat)) (f : List Nat → Int) (h : ∀ s ∈ ss, okS s = true) : deepOk (ss.map (prD f)) = true := by
  have h1 := eqOks_map 59 (prD f) ss fun s hs => eqOk_prD f (h s hs) 58
  have e : toPys (ss.map (prD f)) = ss.map fun w => .tuple [.str ⟨w.toArray⟩, .int (f w)] := by
    rw [toPys_map, List.map_map]
    rfl
  unfold deepOk
  rw [h1, e, Bool.true_and, Bool.and_eq_true]
  refine ⟨?_, ?_⟩
  · unfold allAl
    refine List.all_eq_true.mpr fun x hx => List.all_eq_true.mpr fun y hy => ?_
    obtain ⟨a, _, rfl⟩ := List.mem_map.mp hx
    obtain ⟨b, _, rfl⟩ := List.mem_map.mp hy
    rfl
  · unfold sortab
    rw [Bool.or_eq_true]
    left
    refine List.all_eq_true.mpr fun x hx => ?_
    obtain ⟨a, _, rfl⟩ := List.mem_map.mp hx
    rfl
theorem pairs_prs (ss : List (List Nat)) (f : List Nat → Int) : pairsD (ss.map D.str) (ss.map fun w => .int (f w)) = ss.map (prD f) := by
  induction ss with
  | nil => rfl
  | cons s ss ih => simp only [List.map_cons, pairsD, ih]; rfl
/-- the items of what was counted, sorted -/
theorem sortIt_tally (l : List (List Nat)) (h : ∀ s ∈ l, okS s = true) :
    sortItD (.dct true false (dk (tally (l.map D.str))) (dvs (tally (l.map D.str)))) = some (.lst true ((kys l).map (prD fun w => (l.count w : Int)))) := by
  obtain ⟨ss, e, n, m⟩ := tally_strs l
  have ev : dvs (tally (l.map D.str)) = ss.map fun w => .int (l.count w : Int) := by
    rw [T_by _ (tally_nodup _), e, List.map_map]
    exact List.map_congr_left fun w _ => by simp only [Function.comp]; rw [look_strs]
  have hs : ∀ s ∈ ss, okS s = true := fun s hs => h s ((m s).mp hs)
  have h1 : frzV true (ss.map fun w => D.int (l.count w : Int)) = true := by simp [frzV]
  have h2 : eqOks 57 (ss.map fun w => D.int (l.count w : Int)) = true := eqOks_map 57 _ ss fun _ _ => rfl
  rw [e, ev]
  show (if (frzV true (ss.map fun w => D.int (l.count w : Int)) && eqOks 57 (ss.map fun w => D.int (l.count w : Int)) && deepOk (pairsD (ss.map D.str) (ss.map fun w => .int (l.count w : Int)))) = true then _ else none) = _
  rw [h1, h2, pairs_prs, deep_prs ss _ hs, if_pos (by rfl), srt_prs, kys_uniq n m]
end VS
namespace VS
open PySem PyProof.Rows L2
/-- a while by an invariant and a measure -/
theorem while_nx {t : List D → R Bool} {body : List D → SR} (I : Nat → List D → Prop) (P : List D → Prop)
    (hs : ∀ m env, I m env → (∃ env1, t env = .ok false env1 ∧ P env1) ∨ ∃ env1 e m', t env = .ok true env1 ∧ (body env1 = .nx e ∨ body env1 = .ct e) ∧ I m' e ∧ m' < m) :
    ∀ (m : Nat) (env : List D), I m env → ∃ e, whileS t body env = .nx e ∧ P e := by
  intro m
  induction m using Nat.strongRecOn with
  | _ m ih =>
    intro env h
    rw [whileS_eq]
    rcases hs m env h with ⟨env1, h1, h2⟩ | ⟨env1, e, m', h1, h2, h3, h4⟩
    · exact ⟨env1, by rw [h1]; rfl, h2⟩
    · obtain ⟨e2, h5, h6⟩ := ih m' h4 e h3
      refine ⟨e2, ?_, h6⟩
      rw [h1]
      rcases h2 with h2 | h2
      · simp only [SR.of, if_true, h2, h5]
      · simp only [SR.of, if_true, h2, h5]
end VS
namespace VS
theorem map_er {α β : Type} (f : α → β) : ∀ (xs : List α) (i : Nat), (xs.map f).eraseIdx i = (xs.eraseIdx i).map f
  | [], i => by simp
  | x :: xs, 0 => by simp
  | x :: xs, i + 1 => by simp [map_er f xs i]
theorem er_perm {α : Type} : ∀ (xs : List α) (i : Nat) (h : i < xs.length), (xs[i] :: xs.eraseIdx i).Perm xs
  | [], i, h => by simp at h
  | x :: xs, 0, h => by simp
  | x :: xs, i + 1, h => by
    have := er_perm xs i (by simpa using h)
    simp only [List.getElem_cons_succ, List.eraseIdx_cons_succ]
    exact (List.Perm.swap _ _ _).trans (this.cons x)
end VS
set_option maxHeartbeats 2000000
/-! VSExc: an exception kept behind its suite; asked for its class there. -/
namespace VH
open PySem PySem.Spec PyProof.Rows L2
section
variable {X : Cx} {pins : List (Addr × Obj)} {σ : L2.St} {H : Hp} {s : Shared}
/-- an object that stands untracked is tracked from now on -/
theorem track {a : Addr} {o : HO} (I : Inv X pins σ H s) (na : H a = none) (hn : ∀ q, X.s_0.heap.get? a = some q → X.H_0 a = none → a ∉ X.ex → False)
    (nL : a ≠ X.env.locals) (nC : ∀ x c, X.env.cells.lookup x = some c → c ≠ a) (np : ∀ p ∈ X.pn ++ pins, p.1 ≠ a) (new : ObjOk X.prog X.w (upd H a o) s.heap a o) :
    Inv X pins σ (upd H a o) s := by
  have ne : ∀ {b u}, H b = some u → b ≠ a := fun {b u} e z => by rw [z, na] at e; cases e
  have up : ∀ {b u}, H b = some u → upd H a o b = some u := fun {b u} e => (upd_ne (ne e)).trans e
  have B := I.base
  exact { ok := I.ok, os := I.os, bare := I.bare, loc := I.loc, cell := I.cell, len := I.len
          base := { keep := B.keep, slot := B.slot, there := B.there
                    free := fun b q e n x => by
                      by_cases hb : b = a
                      · subst hb; exact (hn q e n x).elim
                      · exact (upd_ne hb).trans (B.free b q e n x)
                    tups := fun b xs e => up (B.tups b xs e)
                    frzs := fun b q u e => up (B.frzs b q u e)
                    tbls := fun b ps e => (B.tbls b ps e).imp fun m z => up z }
          free := (upd_ne (Ne.symm nL)).trans I.free
          freeC := fun x c e => (upd_ne (nC x c e)).trans (I.freeC x c e)
          pin := fun p hp => by
            obtain ⟨h1, h2, h3, h4, h5⟩ := I.pin p hp
            exact ⟨h1, (upd_ne (np p hp)).trans h2, h3, h4, h5⟩
          hok := fun b u e => by
            by_cases hb : b = a
            · subst hb
              rw [upd_same] at e
              cases e
              exact new
            · rw [upd_ne hb] at e
              exact (I.hok b u e).stay (fun _ _ _ q => q) (fun c q => up q) (fun c xs q => up q) }
/-- an exception's object, by what it is -/
theorem exO_ok {P : Program} {w : World} {h : Heap} {a C : Addr} {d : Option Addr} {oe : Obj} (ha : h.get? a = some oe) (hz : Zc (.ref C) d oe) (hf : ∃ fs, oe.data = .fields fs) : ObjOk P w H h a (VS.exO a C d) := by
  obtain ⟨fs, hf⟩ := hf
  refine ⟨⟨oe, fs, ha, hz.1, hz.2, hf⟩, ⟨oe, ha⟩, fun h1 h2 q k => ?_⟩
  obtain ⟨o, gs, e1, e2⟩ := q
  exact ⟨o, gs, k o e1, e2⟩
theorem exO_at {P : Program} {w : World} {h : Heap} {a C : Addr} {d : Option Addr} (hok : HOk P w H h) (e : H a = some (VS.exO a C d)) : ∃ (oe : Obj) (fs : Array Value), h.get? a = some oe ∧ oe.cls = .ref C ∧ oe.dict = d ∧ oe.data = .fields fs := by
  have q : ObjOk P w H h a (.ext fun h => ∃ (oe : Obj) (fs : Array Value), h.get? a = some oe ∧ oe.cls = .ref C ∧ oe.dict = d ∧ oe.data = .fields fs) := hok a _ e
  exact q.1
/-- the wish of the clause 'except x as n: v = n' -/
def wKeep (K : PySem.W.Frag) (c : Value) (i j : Nat) (Wout : WX) (D : Ends) : WX := fun cls d σ H =>
  ∃ b, PySem.W.exmOne K cls c = some b ∧ (b = true → ∃ C, cls = .ref C ∧ ∀ a, H a = none → D.nx (((σ.set i (some (.ref a))).set j (some (.ref a))).set i none) (upd H a (VS.exO a C d))) ∧ (b = false → Wout cls d σ H)
end
section
variable {X : Cx} {x n v : Str} {c : Value} {i j : Nat} {body : List Stmt} {np pos pos' q1 q2 q3 : Pos} {tb : WX → TS} {Wout : WX}
theorem ps_try_keep (hs : X.stack = X.env :: X.outer) (hf : X.env.frame = some X.env.locals) (hN : X.N.Nodup) (hi : X.N[i]? = some n) (hj : X.N[j]? = some v) (hij : i ≠ j) (hln : X.env.kindOf n = some .local) (hlv : Loc X.env.scope v) (hfv : X.fn v = true) (hc : Names X x c) (tk : Takes X Wout)
    (hdn : (n == ("__debug__" : Str)) = false) (hcn : (n == ("__classdict__" : Str)) = false) (hi2 : i < X.N.length)
    (hb : ∀ (W : WX) (pn : List (Addr × Obj)) (xe : Value → Shared → Prop), Takes (X.tr pn xe) W → PassesOwn (model X.prog X.w) X.A X.env xe → PSs (X.tr pn xe) body (tb W)) :
    PS X (.Try body [.ExceptHandler (some (.Name x np)) (some n) [.Assign [.Name v q1] (.Name n q2) q3] pos'] [] [] pos) (fun D σ H => tb (wKeep X.K c i j Wout D) D σ H) := by
  constructor
  intro pins s σ H Dn Iv hq
  have okX := Iv.ok
  have framesX : X.A.frames = some (X.env :: X.outer) := by rw [okX.frames, hs]
  refine wpAny_Try_except (wpAny_mono ((hb (wKeep X.K c i j Wout Dn) (X.pn ++ pins) (fun e t1 => wpAny (model X.prog X.w) X.A (noteFrame e X.env) (fun _ t2 =>
    wpAny (model X.prog X.w) X.A (setFlight e none) (fun _ t3 => wpAny (model X.prog X.w) X.A (handleBy e X.env [.ExceptHandler (some (.Name x np)) (some n) [.Assign [.Name v q1] (.Name n q2) q3] pos'])
      (SP X pins Dn) X.xe t3) X.xe t2) X.xe t1) (fun u t0 flying => ?caught) PassesOwn.looking).run [] s σ H Dn (Iv.toTry _) hq) (fun fl t1 through => ?calm) fun _ _ he => he)
  case calm =>
    cases fl with
    | next => exact let ⟨σ1, H1, J1, w1⟩ := through; wpAny_execs_nil ⟨σ1, H1, J1.ofTry okX, w1⟩
    | brk => exact let ⟨σ1, H1, J1, w1⟩ := through; ⟨σ1, H1, J1.ofTry okX, w1⟩
    | cont => exact let ⟨σ1, H1, J1, w1⟩ := through; ⟨σ1, H1, J1.ofTry okX, w1⟩
    | ret u => exact let ⟨y1, σ1, H1, J1, r1, w1⟩ := through; ⟨y1, σ1, H1, J1.ofTry okX, r1, w1⟩
  case caught =>
    obtain ⟨a, gr, sA, pinsA, σA, HA, cls, d, rfl, JA', inGr, upA, skyA', naA, osA, agA, b, hexm, yes, no⟩ := flying
    have JA : Inv X pins σA HA sA := JA'.ofTry okX
    have skyA : Sky gr (X.env :: X.outer) a (Zc cls d) X.env.locals t0.heap := by rw [← hs]; exact skyA'
    show wpAny (model X.prog X.w) X.A (noteFrame (.ref a) X.env) _ _ _
    refine Sky.land Zc.steady framesX hf skyA fun hB flyB upB => ?_
    have JB : Inv X pins σA HA { t0 with heap := hB } := JA.landed inGr flyB.1 (upA.trans upB) osA agA
    obtain ⟨oB, fB, atB, zB, dB⟩ := flyB.there
    have outFr : a ∉ frs (X.env :: X.outer) := fun hm => by
      obtain ⟨_, o', e', no'⟩ := flyB.2.2.1.mem hm
      rw [atB] at e'
      cases e'
      exact no' _ dB
    have nL : a ≠ X.env.locals := fun z => outFr (List.mem_filterMap.mpr ⟨X.env, List.mem_cons_self, by rw [hf, z]⟩)
    have outFs : ∀ y, y ∉ frs X.stack → y ∉ X.fs := fun y h hm => h (by
      rw [hs]
      obtain ⟨e, he, q⟩ := List.mem_filterMap.mp hm
      exact List.mem_filterMap.mpr ⟨e, List.mem_cons_of_mem _ he, q⟩)
    have onFr : ∀ y, y ∉ X.fs → y ≠ X.env.locals → y ∉ frs X.stack := fun y h1 h2 hm => by
      rw [hs] at hm
      obtain ⟨e, he, q⟩ := List.mem_filterMap.mp hm
      rcases List.mem_cons.mp he with z | z
      · subst z
        rw [hf] at q
        exact h2 (Option.some.inj q).symm
      · exact h1 (List.mem_filterMap.mpr ⟨e, z, q⟩)
    have nF : a ∉ X.fs := outFs a (by rw [hs]; exact outFr)
    -- the exception stands where nothing stood that was known
    have groundA : gr.get? a = none := flyB.2.1
    have apart : ∀ y o, sA.heap.get? y = some o → y ∉ frs X.stack → y ≠ a := fun y o e h z => by
      have := inGr y o e h
      rw [z, groundA] at this
      cases this
    have SB := JB.suite atB dB naA nL nF
    refine wpAny_handleBy_cons (codeAny_handlers_test ?_) (by intro q; cases q)
    have lookT : PySem.W.Looks (model X.prog X.w) hB (typeOf (.ref a)) cls := fun A Q E t k q => wpAny_typeOf_ref (k _ _ atB) (by rw [zB.1]; exact q)
    have lookM := PySem.W.exm_one (M := model X.prog X.w) JB.kIn lookT hexm
    have tested : ∀ {Q : Value → Shared → Prop} {E : Value → Shared → Prop}, Q c { t0 with heap := hB } → wpAny (model X.prog X.w) (X.A.mark (some (.ref a))) (eval (.Name x np) X.env) Q E { t0 with heap := hB } := fun {Q E} q =>
      match hc with
      | ⟨g1, g2, .inl g3⟩ => ld_glob (X := X.suite a ((a, oB) :: (X.pn ++ pins))) SB g1 g3 q g2
      | ⟨g1, g2, .inr ⟨g3, g4, g5⟩⟩ => ld_blt (X := X.suite a ((a, oB) :: (X.pn ++ pins))) SB g1 g3 g4 q g5 g2
    refine tested (lookM.here ?_)
    cases b with
    | false =>
      show wpAny _ X.A (handleBy (.ref a) X.env []) _ _ _
      refine wpAny_handleBy_nil ?_
      obtain ⟨_, _, _, oe, vs, T, oT, us, he, hz, hd, h1, hr⟩ := id flyB
      unfold PySem.passOn
      refine wpAny_bind (wpAny_field he hd h1 ?_)
      have nn : ¬ ((Value.ref T == Value.none) = true) := by simp
      rw [if_neg nn]
      have away : wpAny (model X.prog X.w) X.A (setFlight (.ref a) X.env.frame) (fun _ t4 => wpAny (model X.prog X.w) X.A (throw (.ref a) : Sem Flow) (SP X pins Dn) X.xe t4) X.xe { t0 with heap := hB } := by
        rw [hf]
        exact HandSPX.setFlight_upZ flyB fun hC heldC upC => wpAny_throw (tk _ _ ⟨a, gr, sA, pins, σA, HA, cls, d, rfl, JA, inGr, (upA.trans upB).trans upC, .inr (.inr (by rw [hs]; exact heldC)), naA, osA, agA, no rfl⟩)
      first
        | exact wpAny_bind (wpAny_pure (wpAny_bind away))
        | exact wpAny_bind away
    | true =>
      refine codeAny_handlers_suite_as (HandSPX.lands_againZ flyB fun hC flyC upC => ?_)
      have JC : Inv X pins σA HA { t0 with heap := hC } := JA.landed inGr flyC.1 ((upA.trans upB).trans upC) osA agA
      obtain ⟨oC, fC, atC, zC, dC⟩ := flyC.there
      have SC := JC.suite atC dC naA nL nF
      obtain ⟨C, rfl, yesC⟩ := yes rfl
      refine store_ok (X := X.suite a ((a, oC) :: (X.pn ++ pins))) (v := .ref a) SC hN hi (.inl hln) rfl (fun t5 S5 => ?_) (.inr hln)
      have suiteP : PSs (X.suite a ((a, oC) :: (X.pn ++ pins))) [.Assign [.Name v q1] (.Name n q2) q3] (tSeq (tAsg (tVar i) (gName j)) tNext) :=
        pss_cons (ps_set (X := X.suite a ((a, oC) :: (X.pn ++ pins))) (i := j) hN hj hlv (pe_var hi (.inl hln) hdn hcn) rfl (.inl hfv)) pss_nil
      refine wpAny_mono (suiteP.run [] t5 (σA.set i (some (.ref a))) HA { nx := fun σ6 H6 => σ6 = (σA.set i (some (.ref a))).set j (some (.ref a)) ∧ H6 = HA, rt := fun _ _ => False } S5 ?_) (fun f t6 hsp => ?_) (fun _ _ z => False.elim z)
      · refine ⟨.ref a, ?_, rfl, rfl⟩
        have : i < σA.length := by rw [JA.len]; exact hi2
        rw [List.getElem?_set_self this]
      · have fin : ∀ {σ6 : L2.St} {H6 : Hp}, Inv (X.suite a ((a, oC) :: (X.pn ++ pins))) [] σ6 H6 t6 → σ6 = (σA.set i (some (.ref a))).set j (some (.ref a)) → H6 = HA →
            wpAny (model X.prog X.w) X.A (do bindName X.env n .none; unbindBehindTheSuite X.env n pos') (fun _ t7 => ∃ σ' H', Inv X pins σ' H' t7 ∧ Dn.nx σ' H') X.xe t6 := fun {σ6 H6} S6 e1 e2 => by
          subst e1 e2
          have at6 := (S6.pin (a, oC) (by simp)).1
          have J6 := S6.unsuite okX
          have tr := track (o := VS.exO a C d) J6 naA (fun q e n ex => apart a q (JA.base.keep a q e n nF ex) (by rw [hs]; exact outFr) rfl) nL
            (fun y cc e z => by
              obtain ⟨v0, o0, k1, k2⟩ := JA.cell y cc e
              by_cases hm : cc ∈ frs X.stack
              · rw [z, hs] at hm
                exact outFr hm
              · exact apart cc o0 k1 hm z)
            (fun p hp z => by
              obtain ⟨k1, k2, k3, k4, k5⟩ := JA.pin p hp
              exact apart p.1 _ k1 (onFr _ k4 k3) z)
            (exO_ok at6 zC ⟨_, dC⟩)
          exact gone_ok tr hN hi hln fun t7 J7 => ⟨_, _, J7, yesC a naA⟩
        cases f with
        | next =>
          obtain ⟨σ6, H6, S6, e1, e2⟩ := hsp
          exact fin S6 e1 e2
        | brk => obtain ⟨σ6, H6, S6, z⟩ := hsp; exact False.elim z
        | cont => obtain ⟨σ6, H6, S6, z⟩ := hsp; exact False.elim z
        | ret u => obtain ⟨v6, σ6, H6, S6, r6, z⟩ := hsp; exact False.elim z
end
end VH
set_option maxHeartbeats 2000000
/-! VSLam: a lambda without parameters handed to a def that calls it in a try. -/
namespace VH
open PySem PySem.Spec PyProof.Rows L2 LamX
/-- all but what stands at P is kept -/
def Gro (P : Addr) (H H1 : Hp) : Prop := ∀ b o, H b = some o → b ≠ P → H1 b = some o
section
variable {X : Cx} {pins : List (Addr × Obj)} {σ : L2.St} {H HZ : Hp} {s s1 : Shared}
theorem lam_laid {c P : Addr} {params : Arguments} {body : Expr} {scope : Scope} {pos : Pos} {E : Value → Shared → Prop} {Q : Value → Shared → Prop} (I : Inv X pins σ H s) (B : TabB X.base X.mg c P) (hcode : X.env.code = .ref c)
    (hT : TabS H P (X.env.qual ++ "<lambda>")) (hdef : defaultsOf params X.env = ([], [])) (hfree : ∀ y ∈ scope.names, y.2 = .free → ∃ c, X.env.cells.lookup y.1 = some c)
    (k : ∀ (f co : Addr) (pm ctv : Value) (H1 : Hp) (t : Shared), Inv X pins σ H1 t → Gro P H H1 → TabS H1 P (X.env.qual ++ "<lambda>") →
      t.heap.get? f = some (PySem.W.kla_obj "<lambda>" (X.env.qual ++ "<lambda>") params body scope (cloFrom X.env.cells scope.names []) pm co ctv) → H1 f = none → f ∉ frs X.stack → H1 co = some (CodeO co (X.env.qual ++ "<lambda>")) → Q (.ref f) t) :
    wpAny (model X.prog X.w) X.A (eval (.Lambda params body scope pos) X.env) Q E s := by
  obtain ⟨ps, tabAt, triples, known⟩ := hT
  have builtinsP : s.heap.BuiltinsAt X.mg P := B.bm.keeps I.bk
  have objP : s.heap.get? P = some { cls := .none, data := .fields ps } := I.hok P _ tabAt
  have fresh : ∀ g, s.heap.objs.size ≤ g → g ∉ frs X.stack := fun g hg z => (List.mem_cons.mp (I.stkSub _ z)).elim
    (fun e => absurd (e ▸ hg) (Nat.not_le.mpr I.lt)) fun e => I.nofs hg e
  refine PySem.W.kla_eval hdef ?_
  cases among : codeAmong pos ps.toList with
  | some cv =>
    obtain ⟨co, rfl, coAt⟩ := known pos cv among
    refine PySem.W.kla_makeFunctionHit (mg := X.mg) (c := c) (P := P) (ps := ps) (closure_ok hfree) I.ok.glob (I.mod.glob.keeps I.bk) hcode (B.code.keeps I.bk) objP triples among builtinsP fun ctv hp tk old big => ?_
    exact k hp.objs.size co ((X.mg "__name__").getD .none) ctv H _ (I.kept (t' := tk) fun b o e => Heap.get?_push_of_some _ (old b o e)) (fun _ _ e _ => e) ⟨ps, tabAt, triples, known⟩ (Heap.get?_push_size _ rfl) (I.hok.fresh big) (fresh _ big) coAt
  | none =>
    refine PySem.W.kla_makeFunction (mg := X.mg) (c := c) (P := P) (ps := ps) (closure_ok hfree) I.ok.glob (I.mod.glob.keeps I.bk) hcode (B.code.keeps I.bk) objP triples among B.gP builtinsP fun co ctv hp tk old lo hi record grown => ?_
    obtain ⟨co', oc, us, t, e, hoc, hd, hv⟩ := record
    cases e
    have big : s.heap.objs.size ≤ hp.objs.size := Nat.le_trans lo (Nat.le_of_lt hi)
    have noC : H co = none := I.hok.fresh lo
    have apart : P ≠ co := ne_of_none tabAt noC
    have J := inv_table (t' := tk) (more := #[rawInt pos.line, rawInt pos.col, .ref co]) (h' := hp.push (PySem.W.kla_obj "<lambda>" (X.env.qual ++ "<lambda>") params body scope (cloFrom X.env.cells scope.names []) ((X.mg "__name__").getD .none) co ctv)) I tabAt
      (fun b o hb e => Heap.get?_push_of_some _ (old b o hb e)) (Heap.get?_push_of_some _ grown) lo ⟨oc, us, t, Heap.get?_push_of_some _ hoc, hd, hv⟩
    have stay : ∀ b o, H b = some o → b ≠ P → upd (upd H P (.tbl (ps ++ #[rawInt pos.line, rawInt pos.col, .ref co]))) co (CodeO co (X.env.qual ++ "<lambda>")) b = some o := fun b o e n => by
      rw [upd_ne (ne_of_none e noC), upd_ne n]
      exact e
    have asList : (ps ++ #[rawInt pos.line, rawInt pos.col, .ref co]).toList = ps.toList ++ [rawInt pos.line, rawInt pos.col, .ref co] := by simp
    refine k hp.objs.size co ((X.mg "__name__").getD .none) ctv _ _ J stay ⟨_, by rw [upd_ne apart, upd_same], by rw [asList]; exact PySem.TriplesOk_snoc _ _ _ _ triples, fun p2 cv hcv => ?_⟩ (Heap.get?_push_size _ rfl) ?_ (fresh _ big) upd_same
    · rw [asList] at hcv
      rcases among_app _ triples hcv with z | z
      · obtain ⟨c0, e1, e2⟩ := known p2 cv z
        refine ⟨c0, e1, stay _ _ e2 fun q => ?_⟩
        rw [q, tabAt] at e2
        exact codeO_ne _ (Option.some.inj e2).symm
      · exact ⟨co, z, upd_same⟩
    · have n1 : hp.objs.size ≠ co := Nat.ne_of_gt hi
      have n2 : hp.objs.size ≠ P := Nat.ne_of_gt (Nat.lt_of_lt_of_le (Heap.lt_size objP) big)
      rw [upd_ne n1, upd_ne n2]
      exact I.hok.fresh big
/-- a(), in the def that got the lambda; what it lets out is wished for at the slots as they stand -/
theorem pe_actS {Ng : List Str} {qg : Str} {sg : Scope} {g f co : Addr} {cdg pm ctv : Value} {params : Arguments} {body : Expr} {scope : Scope} {k i : Nat} {a : Str} {pn : List (Addr × Obj)} {xe : Value → Shared → Prop} {W : WX} {CXg : CXT} {Eg : XK} {t : XK → TE} {p1 p2 : Pos}
    (I : Inv X pins σ H s) (L : LamS X.env.scope scope) (hf : s.heap.get? f = some (PySem.W.kla_obj "<lambda>" (X.env.qual ++ "<lambda>") params body scope (cloFrom X.env.cells scope.names []) pm co ctv)) (hfn : H f = none) (hfr : f ∉ frs X.stack)
    (hbind : bindArgs (PySem.W.kla_fn "<lambda>" (X.env.qual ++ "<lambda>") params body scope (cloFrom X.env.cells scope.names []) pm (.ref co) ctv) ⟨[], []⟩ = pure [])
    (tk : Takes ((cxOf CXg X.prog X.w X.K X.mg X.base Ng qg sg g cdg X.A X.stack s H Eg).tr pn xe) W) (hr : Room (k + 1) (X.A.deeper (envOfC qg sg s.heap.objs.size g cdg)))
    (hbody : ∀ (E : XK) (A : Around) (outer : List Env) (s : Shared) (H : Hp), Room k (A.deeper (lamEnv X scope s.heap.objs.size f co)) → PE (lamCx X A outer s H E scope f co) body (t E))
    (hN : Ng[i]? = some a) (hv : Vis sg a) (hd : (a == ("__debug__" : Str)) = false) (hcd : (a == ("__classdict__" : Str)) = false) :
    PE ((cxOf CXg X.prog X.w X.K X.mg X.base Ng qg sg g cdg X.A X.stack s H Eg).tr pn xe) (.Call (.Name a p1) [] [] p2)
      (fun σZ HZ Q => σZ[i]? = some (some (.ref f)) ∧ HZ co = some (CodeO co (X.env.qual ++ "<lambda>")) ∧ t (WE W σZ) σ HZ Q) := by
  constructor
  rintro pinsZ sZ σZ HZ Q IZ ⟨atI, atC, run⟩
  refine wpAny_Call_Name_kw (thn ((pe_var (pos := p1) (i := i) hN hv hd hcd).run pinsZ sZ σZ HZ (fun v H1 => v = .ref f ∧ H1 = HZ) IZ ⟨.ref f, atI, rfl, rfl⟩) fun u t1 q1 => ?_)
  obtain ⟨v, H1, I1, r1, rfl, rfl⟩ := q1
  obtain rfl : u = Value.ref f := r1
  have fn1 := I1.base.keep f _ hf hfn hfr (fun z => nomatch (show f ∈ ([] : List Addr) from z))
  have un : Un (frs X.stack) [] H H1 s.heap t1.heap := I1.base
  obtain ⟨⟨oc, us, tc, hoc, hdc, hvc⟩, _, _⟩ := I1.hok co _ atC
  refine PySem.W.callWith_F0 ⟨_, _, _, _, fn1⟩ (wpAny_call (codeAny_mono (R := CR (L2.CX X.prog X.w) (envOfC qg sg s.heap.objs.size g cdg :: X.stack) X.prog X.w H1 t1 Q (WE W σZ)) ?_ fun r t2 hq => ?_))
  · show codeAny (model X.prog X.w) (X.A.deeper (envOfC qg sg s.heap.objs.size g cdg)) (.call (.ref f) ⟨[], []⟩) _ t1
    refine PySem.W.kla_callFunE hr.depth fn1 rfl L.co L.gen rfl ⟨co, oc, us, tc, rfl, hoc, hdc, hvc⟩ ?_
    rw [hbind]
    refine wpAny_pure (wpAny_newFunctionEnv (fun y hy => (L.own y hy).2) (fun y hy => absurd hy (by simp)) (fun hp hns hsb => ⟨I1.nolimit.fresh _ hsb, ?_⟩) L.kind)
    show codeAny _ _ (.expr body (lamEnv X scope t1.heap.objs.size f co)) _ _
    have kp : ∀ b o, t1.heap.get? b = some o → hp.get? b = some o := fun b o e => hsb.extBut b o (Nat.ne_of_lt (Heap.lt_size e)) (Heap.get?_push_of_some _ e)
    have J : Inv (lamCx X (X.A.deeper (envOfC qg sg s.heap.objs.size g cdg)) (envOfC qg sg s.heap.objs.size g cdg :: X.stack) t1 H1 (WE W σZ) scope f co) [] σ H1 { t1 with heap := hp, toks := t1.toks + ([] : List (Str × Value)).length } :=
      lam_start2 I L I1.env0 hr.hd un hns kp
    exact PySem.W.kla_codeExpr (wpAny_mono ((hbody _ _ _ t1 H1 (hr.deeper _)).run [] _ _ H1 Q J run) (fun v t2 ⟨w, H2, J2, rv, q⟩ => ⟨w, H2, J2.os, J2.bare, J2.base, J2.hok, rv, q⟩) fun e t2 hq => hq)
  · cases r with
    | error e => exact passAt tk σZ pinsZ H1 t1 e t2 I1 hq
    | ok fl =>
      cases fl with
      | ret u => exact I1.after hq
      | next => exact False.elim hq
      | brk => exact False.elim hq
      | cont => exact False.elim hq
end
/-- the def that calls what it got in a try -/
def Gives (X : Cx) (Ng : List Str) (x : Str) (sg : Scope) (g : Addr) (cdg : Value) (bg : List Stmt) (a : Str) (q : Str) (TT : (XK → Hp → VK → Prop) → Hp → VK → Prop) : Prop :=
  ∀ (f co : Addr) (s : Shared) (H : Hp) (Q : VK) (tl : XK → Hp → VK → Prop), Room 1 (X.A.deeper (envOfC x sg s.heap.objs.size g cdg)) →
    (∀ (W : WX) (pn : List (Addr × Obj)) (xe : Value → Shared → Prop) (p1 p2 : Pos), Takes ((cxOf C8.CX0 X.prog X.w X.K X.mg X.base Ng x sg g cdg X.A X.stack s H C8.E0).tr pn xe) W →
      PE ((cxOf C8.CX0 X.prog X.w X.K X.mg X.base Ng x sg g cdg X.A X.stack s H C8.E0).tr pn xe) (.Call (.Name a p1) [] [] p2) (fun σZ HZ Q => σZ[0]? = some (some (.ref f)) ∧ HZ co = some (CodeO co q) ∧ tl (WE W σZ) HZ Q)) →
    H co = some (CodeO co q) → TT tl H Q →
    ∃ t, PSs (cxOf C8.CX0 X.prog X.w X.K X.mg X.base Ng x sg g cdg X.A X.stack s H C8.E0).nox bg t ∧ t { nx := fun _ H' => Q .non H', rt := Q } (L2.start Ng [.ref f]) H
def tLm (P : Addr) (q : Str) (TT : (XK → Hp → VK → Prop) → Hp → VK → Prop) (t : XK → TE) : TE := fun σ H Q => TabS H P q ∧ ∀ H1, Gro P H H1 → TabS H1 P q → TT (fun E H' Q' => t E σ H' Q') H1 Q
section
variable {X : Cx}
/-- x(lambda: body) -/
theorem pe_lamtry {TT : (XK → Hp → VK → Prop) → Hp → VK → Prop} {x a : Str} {g c P : Addr} {k : Nat} {pg : Arguments} {bg : List Stmt} {sg : Scope} {fd : FuncData} {dvs : List V} {Ng : List Str}
    {params : Arguments} {body : Expr} {scope : Scope} {t : XK → TE} {p lpos pos : Pos} (hg : Gl X x) (hm : X.mg x = some (.ref g)) (FD : FunD X.K x x pg bg sg dvs [] g fd) (hb : L2.Binds X.K fd [a] []) (Sg : FnScope Ng [a] sg) (hNg : Ng[0]? = some a) (hva : Vis sg a)
    (hG : ∀ cdv, Gives X Ng x sg g cdv bg a (X.env.qual ++ "<lambda>") TT)
    (B : TabB X.base X.mg c P) (hcode : X.env.code = .ref c) (hr : Room (k + 2) X.A) (L : LamS X.env.scope scope) (hdef : defaultsOf params X.env = ([], []))
    (hbind : ∀ (q : Str) (cl : List (Str × Addr)) (pm cv ctv : Value), bindArgs (PySem.W.kla_fn "<lambda>" q params body scope cl pm cv ctv) ⟨[], []⟩ = pure [])
    (hbody : ∀ (E : XK) (A : Around) (outer : List Env) (s : Shared) (H : Hp) (f co : Addr), Room k (A.deeper (lamEnv X scope s.heap.objs.size f co)) → PE (lamCx X A outer s H E scope f co) body (t E))
    (hdb : (x == ("__debug__" : Str)) = false := by decide) (hd : (a == ("__debug__" : Str)) = false := by decide) (hcd : (a == ("__classdict__" : Str)) = false := by decide) :
    PE X (.Call (.Name x p) [.Lambda params body scope lpos] [] pos) (tLm P (X.env.qual ++ "<lambda>") TT t) := by
  obtain ⟨oc, od, dV, kV, doc, pm0, an, cdv, ct, osl, rfl, lk, hcg, _, _⟩ := FD.ex
  constructor
  rintro pins s σ H Q I ⟨tab, h⟩
  refine wpAny_Call_Name_kw (ld_glob I hg hm (PySem.W.callWith_K (h₀ := X.base) I.ok.mod.kin FD.kp ?_ (by rfl) (by rfl)) hdb)
  show wpAny _ _ (spliced ((false, eval (.Lambda params body scope lpos) X.env) :: backTo pos (starEach [] X.env))) _ _ s
  refine Calls.spliced_cons (lam_laid I B hcode tab hdef (L.has I.ok) fun f co pm' ctv H1 t1 I1 gro tab1 hf hfn hfr hco => ?_)
  refine Calls.spliced_nil ⟨I1.kIn, wpAny_call (codeAny_mono (R := CR C8.CX0 X.stack X.prog X.w H1 t1 Q C8.E0) (run_ofS (N := Ng) (ps := [a]) (us := [.ref f]) (vs := [.ref f]) lk hcg Sg hr I1.env0 (hb t1 [.ref f] I1.kIn rfl) (.cons rfl .nil) rfl fun hr' => ?_) fun r t2 hq => ?_)⟩
  · have act := fun (W : WX) (pn : List (Addr × Obj)) (xe : Value → Shared → Prop) (p1 p2 : Pos) (tk : Takes ((cxOf C8.CX0 X.prog X.w X.K X.mg X.base Ng x sg g cdv X.A X.stack t1 H1 C8.E0).tr pn xe) W) =>
      pe_actS (i := 0) (p1 := p1) (p2 := p2) I1 L hf hfn hfr (hbind _ _ _ _ _) tk hr' (fun E A outer s H hr2 => hbody E A outer s H f co hr2) hNg hva hd hcd
    obtain ⟨t', ht', hq'⟩ := hG cdv f co t1 H1 Q (fun E H' Q' => t E σ H' Q') (hr'.mono (by omega)) act hco (h H1 gro tab1)
    exact ⟨t', ht'.nox, hq'⟩
  · cases r with
    | error e => exact (show False from hq).elim
    | ok fl =>
      cases fl with
      | ret u => exact I1.after hq
      | next => exact False.elim hq
      | brk => exact False.elim hq
      | cont => exact False.elim hq
end
end VH
set_option maxHeartbeats 2000000
/-! VSTry: x(lambda: e), where x calls what it got in a try and keeps the error. -/
namespace VH
open PySem PySem.Spec PyProof.Rows L2 LamX
/-- what x makes of it: its first statement, the call, the rest at either end -/
def TTt (K : PySem.W.Frag) (cS : Value) (N : List Str) (i j l : Nat) (q : Str) (tI tR : TS) : (XK → Hp → VK → Prop) → Hp → VK → Prop := fun tl H Q =>
  ∀ f co : Addr, H co = some (CodeO co q) →
    tI { nx := fun σ1 H1 => σ1[0]? = some (some (.ref f)) ∧ H1 co = some (CodeO co q) ∧
          tl (WE (wKeep K cS i j (fun _ _ _ _ => False) { nx := tR { nx := fun _ H' => Q .non H', rt := Q }, rt := Q }) σ1) H1 (fun v H2 => tR { nx := fun _ H' => Q .non H', rt := Q } (σ1.set l (some v)) H2), rt := Q }
      (L2.start N [.ref f]) H
section
variable {X : Cx}
theorem gives_try {Ng : List Str} {x a n v y e : Str} {q : Str} {sg : Scope} {g CS : Addr} {cdg : Value} {i j l : Nat} {s1 : Stmt} {rest : List Stmt} {tI tR : TS} {p1 p2 p3 p4 p5 p6 p7 p8 p9 q3 : Pos}
    (hN : Ng.Nodup) (hi : Ng[i]? = some n) (hj : Ng[j]? = some v) (hl : Ng[l]? = some y) (hij : i ≠ j) (hln : sg.names.lookup n = some .local) (hlv : Loc sg v) (hly : sg.names.lookup y = some .local)
    (hge : sg.names.lookup e = some .globalImplicit) (hme : X.mg e = some (.ref CS)) (hde : (e == ("__debug__" : Str)) = false) (hdn : (n == ("__debug__" : Str)) = false) (hcn : (n == ("__classdict__" : Str)) = false)
    (hI : ∀ s H, Room 1 (X.A.deeper (envOfC x sg s.heap.objs.size g cdg)) → PS (cxOf C8.CX0 X.prog X.w X.K X.mg X.base Ng x sg g cdg X.A X.stack s H C8.E0).nox s1 tI) (hR : ∀ s H, Room 1 (X.A.deeper (envOfC x sg s.heap.objs.size g cdg)) → PSs (cxOf C8.CX0 X.prog X.w X.K X.mg X.base Ng x sg g cdg X.A X.stack s H C8.E0).nox rest tR) :
    Gives X Ng x sg g cdg (s1 :: .Try [.Assign [.Name y p1] (.Call (.Name a p2) [] [] p3) p4] [.ExceptHandler (some (.Name e p5)) (some n) [.Assign [.Name v p6] (.Name n p7) q3] p8] [] [] p9 :: rest) a q (TTt X.K (.ref CS) Ng i j l q tI tR) := by
  intro f co s H Q tl hroom act hco h
  have hgl : Gl (cxOf C8.CX0 X.prog X.w X.K X.mg X.base Ng x sg g cdg X.A X.stack s H C8.E0).nox e := hge
  refine ⟨_, pss_cons (hI s H hroom) (pss_cons (ps_try_keep (X := (cxOf C8.CX0 X.prog X.w X.K X.mg X.base Ng x sg g cdg X.A X.stack s H C8.E0).nox) (c := .ref CS) (i := i) (j := j) (Wout := fun _ _ _ _ => False)
      (tb := fun W => tAsg (fun σZ HZ Q => σZ[0]? = some (some (.ref f)) ∧ HZ co = some (CodeO co q) ∧ tl (WE W σZ) HZ Q) (gName l))
      rfl rfl hN hi hj hij hln hlv rfl ⟨hgl, hde, .inl hme⟩ L2.takes0 hdn hcn (List.getElem?_eq_some_iff.mp hi).1 fun W pn xe tk _ => ?_) (hR s H hroom)), ?_⟩
  · exact pss_one (ps_set (i := l) hN hl (.inl hly) (act W pn xe _ _ tk) rfl (.inr hly))
  · exact h f co hco
end
end VH
namespace VS
open PySem PyProof.Rows L2
section
variable {M : Mn} {W : WD} {b b1 b2 : Bool} {F H F' H' F1 H1 : Hp} {env env' env1 : List D} {σ : L2.St} {S S' S1 T : AS} {pr : Nat → Bool}
/-- a slot that is not known may hold anything -/
theorem EnvR.any {i : Nat} {x : Option V} (h : EnvR M F H env σ S) (g : env[i]? = some .unset) : EnvR M F H env (σ.set i x) S := by
  obtain ⟨vs, r, l, q⟩ := h
  refine ⟨vs, r, by simpa using l, fun k d hk hd => ?_⟩
  have : i ≠ k := fun z => by
    subst z
    rw [g] at hk
    cases hk
    cases hd
  rw [List.getElem?_set_ne this]
  exact q k d hk hd
def endR (x : SR) (env : List D) : R Rv := match x with
  | .ret d _ => .ok (.tmp d) env
  | .nx _ => .ok (.tmp .non) env
  | _ => .stuck
/-- x(lambda: e) -/
def lamF (i j l m : Nat) (sub : Str → Bool) (fI fR : List D → SR) (f : List D → R Rv) : List D → R Rv := fun env => match fI (.hole :: List.replicate m .unset) with
  | .nx e1 => match f env with
    | .ok r env1 => match esc1 r env1 with
      | some (d, env2) => endR (fR (e1.set l d)) env2
      | none => .stuck
    | .err c d env1 => if sub c = true then endR (fR ((e1.set i .unset).set j (.exc c d))) env1 else .stuck
    | .stuck => .stuck
  | _ => .stuck
/-- the rest's end, beside what the caller holds -/
theorem end_ok {tR : TS} {fR : List D → SR} {pr1 : Nat → Bool} {Sg Sc : AS} {eg env2 : List D} {σg : L2.St} {F0 H0 : Hp} {S0 : AS} {Q : V → Hp → Prop} (hR : SS M W0 pr1 tR fR) (s : Step F0 H0 S0 F H (un Sg Sc)) (st : Stt M F H (un Sg Sc)) (dd : dj Sg Sc)
    (eng : EnvR M F H eg σg Sg) (enc : EnvR M F H env2 σ Sc) (h : Post M W false F0 H0 σ S0 Q (endR (fR eg) env2)) : tR { nx := fun _ H' => Q .non H', rt := Q } σg H := by
  refine hR _ F H eg σg Sg (st.sub fun _ z => .inl z) eng ?_
  cases q : fR eg with
  | nx e =>
    rw [q] at h
    intro σ' F1 H1 S1 s1 st1 en1 _
    obtain ⟨w1, w2, w3, w4⟩ := s1.frame st st1 dd
    have en2 := enc.mono s1.ext w4
    have rr := ResR.one_tmp en2 (show RO M F1 H1 .non .non em by simp [RO]) (fun _ _ h => h.elim)
    rw [un_em] at rr
    exact h .non F1 H1 Sc ((s.trans w1).drop fun _ z => .inr z) (w2.sub fun _ z => .inr z) (fun z => nomatch z) rr
  | ret d e =>
    rw [q] at h
    intro v σ' F1 H1 S1 s1 st1 r1 _
    obtain ⟨w1, w2, w3, w4⟩ := s1.frame st st1 dd
    obtain ⟨Se, St, en1, ro1, d1, rfl⟩ := r1.tmp_in
    have en2 := enc.mono s1.ext w4
    have o : ∀ a, un Sc St a → un (un Se St) Sc a := fun a z => z.elim .inr fun z => .inl (.inr z)
    exact h v F1 H1 (un Sc St) ((s.trans w1).drop o) (w2.sub o) (fun z => nomatch z) (ResR.one_tmp en2 ro1 fun a x y => w3 a (.inr y) x)
  | brk e => rw [q] at h; exact h.elim
  | ct e => rw [q] at h; exact h.elim
  | err c d e => rw [q] at h; exact h.elim
  | stuck => rw [q] at h; exact h.elim
theorem se_lamtry {P : Addr} {q : Str} {t : XK → TE} {f : List D → R Rv} {N : List Str} {i j l m : Nat} {cS : Value} {sub : Str → Bool} {tI tR : TS} {fI fR : List D → SR} {pr1 : Nat → Bool}
    (hM : M.tabs = [(P, q)]) (hm : N.length = 1 + m) (hp0 : pr1 0 = true) (hij : i ≠ j) (he : ∀ E : XK, SE M (fun cls d _ H => E cls d H) false (t E) f) (hI : SS M W0 pr1 tI fI) (hR : SS M W0 pr1 tR fR)
    (hsub : ∀ c, sub c = true → PySem.W.exmOne M.K (.ref (M.cm c)) cS = some true) (hl : ∀ e1, fI (.hole :: List.replicate m .unset) = .nx e1 → l < e1.length ∧ i < e1.length ∧ j < e1.length) :
    SE M W false (VH.tLm P q (VH.TTt M.K cS N i j l q tI tR) t) (lamF i j l m sub fI fR f) := by
  intro F H env σ S Q st en h
  have tbl : ∃ ps, H P = some (.tbl ps) := let ⟨ps, e, _⟩ := st.tb (P, q) (by rw [hM]; exact List.mem_cons_self); ⟨ps, e⟩
  obtain ⟨ps, hP⟩ := tbl
  refine ⟨st.tb (P, q) (by rw [hM]; exact List.mem_cons_self), fun H1 gro tab1 => ?_⟩
  have FP : F P = none := st.ft (P, q) (by rw [hM]; exact List.mem_cons_self)
  have keep1 : ∀ a o, H a = some o → nt o → H1 a = some o := fun a o e n => gro a o e fun z => by
    rw [z, hP] at e
    exact n ps (Option.some.inj e).symm
  have keepS : ∀ a, S a → H1 a = H a := fun a ha => by
    obtain ⟨o, e, p⟩ := st.al a ha
    rw [e]
    exact keep1 a o e p.nt
  have s1 : Step F H S F H1 S := ⟨Ext.refl F, fun a o e n _ => keep1 a o e n, fun a h => .inl h, fun a u h => .inl h⟩
  have st1 : Stt M F H1 S := by
    refine ⟨fun a u e => ?_, st.fr, fun a h => by rw [keepS a h]; exact st.al a h, fun p hp => ?_, st.ft⟩
    · have ap : a ≠ P := fun z => by rw [z, FP] at e; cases e
      exact (st.fh a u e).imp (fun z => gro a u z ap) fun ⟨k, o, z⟩ => ⟨k, o, gro a _ z ap⟩
    · rw [hM] at hp
      rw [List.mem_singleton.mp hp]
      exact tab1
  have en1 : EnvR M F H1 env σ S := en.mono (Ext.refl F) keepS
  intro g co hco
  have st0 : Stt M F H1 em := st1.sub fun _ z => z.elim
  have en0 : EnvR M F H1 (.hole :: List.replicate m .unset) (L2.start N [.ref g]) em := by
    have r0 : ROs M F H1 (.hole :: List.replicate m .unset) (.ref g :: List.replicate m V.non) em := by
      simp only [ROs]
      exact ⟨_, _, em, em, rfl, by simp only [RO], ROs.unsets m, fun _ h _ => h.elim, un_em'⟩
    refine ⟨_, r0, by simp [L2.start, hm], fun k d hk hd => ?_⟩
    cases k with
    | zero => simp [L2.start]
    | succ k =>
      have hk : (List.replicate m D.unset)[k]? = some d := by simpa using hk
      have := List.eq_of_mem_replicate (List.mem_of_getElem? hk)
      subst this
      cases hd
  unfold lamF at h
  refine hI _ F H1 _ _ em st0 en0 ?_
  cases q1 : fI (.hole :: List.replicate m .unset) with
  | stuck => rw [q1] at h; exact h.elim
  | ret d e => rw [q1] at h; exact h.elim
  | brk e => rw [q1] at h; exact h.elim
  | ct e => rw [q1] at h; exact h.elim
  | err c d e => rw [q1] at h; exact h.elim
  | nx e1 =>
    rw [q1] at h
    obtain ⟨l1, l2, l3⟩ := hl e1 q1
    intro σ1 F2 H2 S2 s2 st2 en2 p2
    have d0 : dj em S := fun _ z => z.elim
    obtain ⟨a1, a2, a3, a4⟩ := s2.frame (T := S) (by rw [em_un]; exact st1) st2 d0
    rw [em_un] at a1
    refine ⟨by rw [p2.2 0 hp0]; simp [L2.start], s2.keep co _ hco (fun ps z => LamX.codeO_ne ps z) (fun z => z), ?_⟩
    have enc : EnvR M F2 H2 env σ S := en1.mono s2.ext a4
    refine he _ F2 H2 env σ S _ (a2.sub fun _ z => .inr z) enc ?_
    have a2' : Stt M F2 H2 (un S S2) := a2.sub fun a z => z.elim .inr .inl
    have a3' : dj S S2 := fun a x y => a3 a y x
    have a1' : Step F H1 S F2 H2 (un S S2) := a1.drop fun a z => z.elim .inr .inl
    cases q2 : f env with
    | stuck => rw [q2] at h; exact h.elim
    | ok r env1 =>
      rw [q2] at h
      intro v F3 H3 S3 s3 st3 _ res3
      obtain ⟨b1, b2, b3, b4⟩ := s3.frame a2' st3 a3'
      simp only at h
      cases q3 : esc1 r env1 with
      | none => rw [q3] at h; exact h.elim
      | some x =>
        obtain ⟨d, env2⟩ := x
        rw [q3] at h
        simp only at h
        obtain ⟨F4, S4, s4, st4, r4⟩ := esc1_ok q3 st3 res3
        obtain ⟨c1, c2, c3, c4⟩ := s4.frame b2 st4 b3
        obtain ⟨Se, St, en4, ro4, d4, rfl⟩ := r4.tmp_in
        have eng := en2.mono (s3.ext.trans s4.ext) fun a ha => (c4 a ha).trans (b4 a ha)
        have lt : l < e1.length := l1
        obtain ⟨T, g1, g2, g3⟩ := eng.put (i := l) (d := e1[l]) (d' := d) (List.getElem?_eq_getElem lt) ro4 (fun a x y => c3 a (.inr y) x)
        have o : ∀ a, un (un St T) Se a → un (un Se St) S2 a := by
          rintro a ((z | z) | z)
          · exact .inl (.inr z)
          · exact .inr (g3 a z)
          · exact .inl (.inl z)
        refine end_ok (σ := σ) (env2 := env2) hR ((((s1.trans a1').trans b1).trans c1).drop o) (c2.sub o) (fun a x y => ?_) g1 en4 h
        rcases x with x | x
        · exact d4 a y x
        · exact c3 a (.inl y) (g3 a x)
    | err c d env1 =>
      rw [q2] at h
      intro F3 H3 S3 cls dx s3 st3 er en3
      obtain ⟨b1, b2, b3, b4⟩ := s3.frame a2' st3 a3'
      simp only at h
      split at h
      · rename_i hc
        have ec := er.cls
        subst ec
        refine ⟨true, hsub c hc, fun _ => ⟨_, rfl, fun a na => ?_⟩, fun z => nomatch z⟩
        have Fa : F3 a = none := st3.none_of na
        have exF : Ext F3 (upd F3 a (exO a (M.cm c) dx)) := fun x u e => by rw [upd_ne (fun z => by rw [z, Fa] at e; cases e)]; exact e
        have ro : RO M (upd F3 a (exO a (M.cm c) dx)) (upd H3 a (exO a (M.cm c) dx)) (.exc c d) (.ref a) em := by
          simp only [RO]
          refine ⟨by trivial, a, dx, rfl, upd_same, ?_⟩
          cases qd : exB d with
          | false =>
            have : isSet d = false := by cases d <;> first | rfl | cases qd
            exact .inl ⟨rfl, er.non this⟩
          | true =>
            have : isSet d = true := by cases d <;> first | rfl | cases qd
            obtain ⟨a2, v, k1, k2, k3⟩ := er.fld this
            exact .inr ⟨rfl, a2, v, em, k1, exF _ _ k2, k3.mono d exF fun _ z => z.elim, rfl⟩
        obtain ⟨c1, c2, c3⟩ := new_frz st3 en3 na ro
        obtain ⟨k1, k2, k3, k4⟩ := c1.frame b2 c2 b3
        have eng := en2.mono (s3.ext.trans c1.ext) fun x hx => (k4 x hx).trans (b4 x hx)
        have enc3 : EnvR M (upd F3 a (exO a (M.cm c) dx)) (upd H3 a (exO a (M.cm c) dx)) env1 σ S3 := en3.mono c1.ext fun x hx => upd_ne fun z => by
          obtain ⟨o, e⟩ := st3.al1 x hx
          rw [z, na] at e
          cases e
        obtain ⟨T1, f1, f2⟩ := eng.forget (i := i)
        have f3 := f1.any (i := i) (x := some (.ref a)) (by rw [List.getElem?_set_self l2])
        obtain ⟨T2, f4, f5, f6⟩ := f3.put (i := j) (d := (e1.set i .unset)[j]'(by simpa using l3)) (d' := .exc c d) (List.getElem?_eq_getElem _) ro (fun _ _ z => z.elim)
        have f7 := f4.any (i := i) (x := none) (by rw [List.getElem?_set_ne (Ne.symm hij), List.getElem?_set_self l2])
        rw [em_un] at f7
        have o : ∀ x, un T2 S3 x → un S3 S2 x := fun x z => z.elim (fun z => .inr (f2 x (f6 x z))) .inl
        exact end_ok (σ := σ) (env2 := env1) hR ((((s1.trans a1').trans b1).trans k1).drop o) (k2.sub o) (fun x y z => k3 x z (f2 x (f6 x y))) f7 enc3 h
      · exact h.elim
end
end VS
set_option maxHeartbeats 2000000
/-! VSErr: raise; the class of an error that is kept; what is never reached; the law's def with its table. -/
namespace VH
open PySem PySem.Spec PyProof.Rows L2
theorem pe_never {X : Cx} {e : Expr} : PE X e (fun _ _ _ => False) := ⟨fun _ _ _ _ _ _ h => h.elim⟩
/-- isinstance(x, c), x an error of the class D that is kept -/
def rIsX (K : PySem.W.Frag) : List V → Hp → VK → Prop := fun xs H Q => ∃ (a D : Addr) (c : V) (cv : Value) (k : Bool), xs = [.ref a, c] ∧ H a = some (VS.exO a D none) ∧ ExcC K D ∧ ClsV c cv ∧ PySem.W.kitOne K (.ref D) cv = some k ∧ Q (.bl k) H
def rIsXT (K : PySem.W.Frag) : List V → Hp → VK → Prop := fun xs H Q => ∃ (a D tp : Addr) (cs : List V) (us : List Value) (k : Bool), xs = [.ref a, .ref tp] ∧ H a = some (VS.exO a D none) ∧ H tp = some (.tup cs) ∧ ExcC K D ∧ Paired ClsV cs us ∧ PySem.W.kitAny K (.ref D) us = some k ∧ Q (.bl k) H
section
variable {X : Cx}
theorem inst_at {P : Program} {w : World} {H : Hp} {h : Heap} {a D : Addr} (hok : HOk P w H h) (e : H a = some (VS.exO a D none)) : ∃ oe, PySem.W.InstAt h a oe D none := by
  obtain ⟨⟨oc, od, oda, osl⟩, fs, e1, e2, e3, e4⟩ := exO_at hok e
  dsimp only at e2 e3 e4
  subst e2 e3 e4
  exact ⟨_, e1, rfl, rfl, trivial⟩
theorem call_isX : CallR X (.builtin "isinstance") (rIsX X.K) := by
  rintro pins s σ H xs us Q I r ⟨a, D, c, cv, k, rfl, ea, C, hc, hk, q⟩
  obtain ⟨u1, u2, rfl, r1, r2⟩ := vals2 r
  cases r1
  have e2 := hc.eq r2
  subst e2
  obtain ⟨oe, J⟩ := inst_at I.hok ea
  exact PySem.W.kia_one (PySem.W.handS_kitx_exc C.hg C.hk C.hs C.hd C.ha C.hn C.ht C.hm) I.kIn J hk (fun z => nomatch z) fun tk => ⟨.bl k, H, I.tok tk, rfl, q⟩
theorem call_isXT : CallR X (.builtin "isinstance") (rIsXT X.K) := by
  rintro pins s σ H xs us Q I r ⟨a, D, tp, cs, ws, k, rfl, ea, et, C, hc, hk, q⟩
  obtain ⟨u1, u2, rfl, r1, r2⟩ := vals2 r
  cases r1
  cases (show u2 = Value.ref tp from r2)
  obtain ⟨oe, J⟩ := inst_at I.hok ea
  obtain ⟨_, its, rv, o, h1, h2, n, h3⟩ := (show ObjOk X.prog X.w H s.heap tp (.tup cs) from I.hok tp _ et)
  have e3 := ClsV.all hc rv
  subst e3
  obtain ⟨oc, od, dt, sl⟩ := o
  simp only at h2 h3
  subst h2 h3
  exact PySem.W.kia_tup (PySem.W.handS_kitx_exc C.hg C.hk C.hs C.hd C.ha C.hn C.ht C.hm) I.kIn J h1 hk (fun z => nomatch z) fun tk => ⟨.bl k, H, I.tok tk, rfl, q⟩
end
/-- the class's facts, looked at -/
def excB (K : PySem.W.Frag) (D : Addr) : Bool :=
  decide (PySem.W.findIn K (.ref D) "__getattribute__" = some (some (.builtin "BaseException.__getattribute__"))) && (decide (PySem.W.findIn K (.ref D) "__getattr__" = some none) && (decide (PySem.W.subIn K (.ref D) (.type "BaseException") = some true) &&
    (PySem.W.hasDictIn K D && (decide (PySem.W.findIn K (.ref D) "__class__" = some (some (.builtin "object.__class__"))) && (decide (PySem.W.specialIn K (.builtin "object.__class__") "__get__" = some (some (.builtin "getset_descriptor.__get__"))) &&
      (decide (PySem.W.takesIn K (.builtin "object.__class__") = some true) && decide (PySem.W.mroIn K D (.type "object") = some true)))))))
theorem excB_ok {K : PySem.W.Frag} {D : Addr} (h : excB K D = true) : ExcC K D := by
  unfold excB at h
  simp only [Bool.and_eq_true, decide_eq_true_eq] at h
  obtain ⟨h1, h2, h3, h4, h5, h6, h7, h8⟩ := h
  exact ⟨h1, h2, h3, h4, h5, h6, h7, h8⟩
end VH
namespace VS
open PySem PyProof.Rows L2
section
variable {M : Mn} {W : WD} {b b1 b2 : Bool} {F H F' H' F1 H1 : Hp} {env env' env1 : List D} {σ : L2.St} {S S' S1 T : AS} {pr : Nat → Bool}
theorem se_never : SE M W b (fun _ _ _ => False) (fun _ => .stuck) := fun _ _ _ _ _ _ _ _ h => h
/-- raise C("..") -/
def raiseS (c : Str) : List D → SR := fun env => .err c .unset env
theorem ss_raise {WX0 : L2.WX} {c : Str} (hw : ∀ cls dx σ H, W cls dx σ H → WX0 cls dx σ H) : SS M W pr (fun _ σ H => WX0 (.ref (M.cm c)) none σ H) (raiseS c) := by
  intro D F H env σ S st en h
  exact hw _ _ _ _ (h σ F H S _ none Step.refl st ⟨rfl, fun _ => rfl, fun z => nomatch z⟩ en Pr.refl)
/-- isinstance(x, c), x an error without a field -/
def isxD (l : List (Str × Bool)) : D → Option D
  | .exc c .unset => (l.lookup c).map .bl
  | _ => none
theorem lookup_in {l : List (Str × Bool)} {c : Str} {k : Bool} (h : l.lookup c = some k) : (c, k) ∈ l := PySem.mem_of_lookup h
theorem exc_in {c : Str} {v : V} (r : RO M F H (.exc c .unset) v S) (fh : FH F H) : S = em ∧ ∃ a, v = .ref a ∧ H a = some (exO a (M.cm c) none) := by
  simp only [RO] at r
  obtain ⟨h0, a, dx, rfl, h2, h3⟩ := r
  refine ⟨h0, a, rfl, ?_⟩
  rcases h3 with ⟨_, rfl⟩ | ⟨z, _⟩
  · rcases fh a _ h2 with z | ⟨z, _⟩
    · exact z
    · exact z.elim
  · cases z
theorem se_isx {te : TE} {f : List D → R Rv} {cV : V} {cv : Value} (l : List (Str × Bool)) (hc : ClsV cV cv) (hl : ∀ p ∈ l, ExcC M.K (M.cm p.1) ∧ PySem.W.kitOne M.K (.ref (M.cm p.1)) cv = some p.2) (h : SE M W b te f) :
    SE M W (b && true) (tCB (VH.rIsX M.K) (tCons te (tCons (tC cV) tNil))) (una (isxD l) f) := by
  refine se_n (ta := tCons te tNil) (r := fun vs H Q => match vs with | [x] => VH.rIsX M.K [x, cV] H Q | _ => False) (sa_cons h sa_nil) ?_
  intro F H ds vs z Q fh rl e k
  unfold op1 at e
  split at e
  · rename_i a
    obtain ⟨x, ws, Sx, rfl, r1, rr⟩ := rl
    simp only [RL] at rr
    subst rr
    unfold isxD at e
    split at e
    · rename_i c
      cases q : l.lookup c with
      | none => rw [q] at e; cases e
      | some r =>
        rw [q] at e
        cases e
        obtain ⟨rfl, a, rfl, ea⟩ := exc_in r1 fh
        obtain ⟨g1, g2⟩ := hl _ (lookup_in q)
        exact ⟨a, M.cm c, _, _, r, rfl, ea, g1, hc, g2, k _ _ _ _ (NewR.same fh (by simp [RO]))⟩
    · cases e
  · cases e
/-- a row of constants -/
def taC : List V → TA
  | [] => tNil
  | v :: vs => tCons (tC v) (taC vs)
theorem taC_eq : ∀ (cs : List V) {σ : L2.St} {H : Hp} {Q : List V → Hp → Prop}, taC cs σ H Q = Q cs H
  | [], _, _, _ => rfl
  | v :: vs, σ, H, Q => by
    show taC vs σ H (fun ws H' => Q (v :: ws) H') = _
    rw [taC_eq vs]
theorem se_isxT {te : TE} {f : List D → R Rv} {cs : List V} {us : List Value} (l : List (Str × Bool)) (hc : Paired ClsV cs us) (hl : ∀ p ∈ l, ExcC M.K (M.cm p.1) ∧ PySem.W.kitAny M.K (.ref (M.cm p.1)) us = some p.2) (hn : Nat.ble cs.length 30 = true) (h : SE M W b te f) :
    SE M W (b && true) (tCB (VH.rIsXT M.K) (tCons te (tCons (tTup (taC cs)) tNil))) (una (isxD l) f) := by
  have hq : ∀ (g : TE) σ H (Q : V → Hp → Prop), g = tCB (VH.rIsXT M.K) (tCons te (tCons (tTup (taC cs)) tNil)) → g σ H Q = (te σ H fun x H1 => cs.length ≤ sizeLine ∧ ∀ p, H1 p = none → VH.rIsXT M.K [x, .ref p] (upd H1 p (.tup cs)) Q) := by
    intro g σ H Q e
    subst e
    show te σ H (fun x H1 => taC cs σ H1 _) = _
    congr 1
    funext x H1
    rw [taC_eq]
    rfl
  have key : SE M W (b && true) (fun σ H Q => te σ H fun x H1 => cs.length ≤ sizeLine ∧ ∀ p, H1 p = none → VH.rIsXT M.K [x, .ref p] (upd H1 p (.tup cs)) Q) (una (isxD l) f) := by
    refine se_n (ta := tCons te tNil) (r := fun vs H Q => match vs with | [x] => cs.length ≤ sizeLine ∧ ∀ p, H p = none → VH.rIsXT M.K [x, .ref p] (upd H p (.tup cs)) Q | _ => False) (sa_cons h sa_nil) ?_
    intro F H ds vs z Q fh rl e k
    unfold op1 at e
    split at e
    · rename_i a
      obtain ⟨x, ws, Sx, rfl, r1, rr⟩ := rl
      simp only [RL] at rr
      subst rr
      unfold isxD at e
      split at e
      · rename_i c
        cases q : l.lookup c with
        | none => rw [q] at e; cases e
        | some r =>
          rw [q] at e
          cases e
          refine ⟨Nat.le_trans (Nat.le_of_ble_eq_true hn) (by decide), fun p hp => ?_⟩
          have fh2 : FH F (upd H p (.tup cs)) := fun a u e => (fh a u e).imp (ext_upd hp a u) fun ⟨l, o, z⟩ => ⟨l, o, ext_upd hp a _ z⟩
          have r1' : RO M F (upd H p (.tup cs)) (.exc c .unset) x Sx := r1.mono _ (Ext.refl _) fun b hb => upd_ne fun e => by
            obtain ⟨o, q, _⟩ := r1.alive _ b hb
            rw [e, hp] at q
            cases q
          obtain ⟨rfl, a, rfl, ea⟩ := exc_in r1' fh2
          obtain ⟨g1, g2⟩ := hl _ (lookup_in q)
          exact ⟨a, M.cm c, p, cs, us, r, rfl, ea, upd_same, g1, hc, g2, k _ F _ em ⟨Ext.refl _, ext_upd hp, by simp [RO], fun _ h => h.elim, fun _ h => h.elim, fun _ _ h => .inl h, fh2⟩⟩
      · cases e
    · cases e
  intro F H env σ S Q st en hp
  rw [hq _ σ H Q rfl]
  exact key F H env σ S Q st en hp
/-! ### a text in a text -/
def subT (p s : List Nat) : Bool := (List.range (s.length + 1)).any fun i => decide (i + p.length ≤ s.length) && ((s.drop i).take p.length == p)
theorem found_subT (p s : List Nat) : (!(Builtin.Str.occurrences ⟨s.toArray⟩ ⟨p.toArray⟩ 0 (⟨s.toArray⟩ : Str).length 1).isEmpty) = subT p s := by
  rw [Bool.eq_iff_iff, PySem.StrLaws.found_iff]
  unfold subT
  rw [List.any_eq_true]
  have e1 : (⟨s.toArray⟩ : Str).length = s.length := by simp [Str.length]
  have e2 : (⟨p.toArray⟩ : Str).length = p.length := by simp [Str.length]
  rw [e1, e2]
  constructor
  · rintro ⟨i, h1, h2⟩
    rw [PySem.StrLaws.subAt_eq] at h2
    refine ⟨i, List.mem_range.mpr (by omega), ?_⟩
    rw [Bool.and_eq_true]
    exact ⟨decide_eq_true h1, by simpa [Str.length] using h2⟩
  · rintro ⟨i, _, h⟩
    rw [Bool.and_eq_true] at h
    refine ⟨i, of_decide_eq_true h.1, ?_⟩
    rw [PySem.StrLaws.subAt_eq]
    simpa [Str.length] using h.2
def inTD (neg : Bool) : D → D → Option D
  | .str p, .str s => some (.bl (if neg then !subT p s else subT p s))
  | _, _ => none
theorem rn_inT : RN2 M (fun x y H Q => ∃ i j, x = .str i ∧ y = .str j ∧ Q (.bl (!(Builtin.Str.occurrences j i 0 j.length 1).isEmpty)) H) (inTD false) := by
  intro F H x y d e z Sx Sy Q fh rx ry h k
  unfold inTD at h
  split at h
  · rename_i p s
    cases h
    simp only [RO] at rx ry
    refine ⟨_, _, rx.1, ry.1, ?_⟩
    rw [found_subT]
    exact k _ _ _ _ (NewR.same fh (by simp [RO]))
  · cases h
theorem rn_notInT : RN2 M (fun x y H Q => ∃ i j, x = .str i ∧ y = .str j ∧ Q (.bl (!(!(Builtin.Str.occurrences j i 0 j.length 1).isEmpty))) H) (inTD true) := by
  intro F H x y d e z Sx Sy Q fh rx ry h k
  unfold inTD at h
  split at h
  · rename_i p s
    cases h
    simp only [RO] at rx ry
    refine ⟨_, _, rx.1, ry.1, ?_⟩
    rw [found_subT]
    exact k _ _ _ _ (NewR.same fh (by simp [RO]))
  · cases h
/-! ### a text times a number -/
theorem foldl_rep (k : Nat) (a : Array Nat) : ∀ acc : Array Nat, ((List.replicate k a).foldl (· ++ ·) acc).toList = acc.toList ++ (List.replicate k a.toList).flatten := by
  induction k with
  | zero => intro acc; simp
  | succ k ih =>
    intro acc
    rw [List.replicate_succ, List.foldl_cons, ih, List.replicate_succ, List.flatten_cons, Array.toList_append, List.append_assoc]
theorem mul_txt (s : List Nat) (n : Nat) : PySem.Txt.mul ⟨s.toArray⟩ (n : Int) = ⟨((List.replicate n s).flatten).toArray⟩ := by
  unfold PySem.Txt.mul
  by_cases h : (n : Int) < 1
  · have : n = 0 := by omega
    subst this
    rw [if_pos h]
    rfl
  · rw [if_neg h]
    split
    · rename_i hc
      rcases (Bool.or_eq_true _ _).mp hc with h1 | h1
      · have h1 : (n : Int) = 1 := by simpa using h1
        have : n = 1 := by omega
        subst this
        simp
      · have h1 : s.length = 0 := by simpa [Str.length] using h1
        have : s = [] := List.length_eq_zero_iff.mp h1
        subst this
        simp
    · rw [Int.toNat_natCast]
      congr 1
      apply Array.toList_inj.mp
      rw [foldl_rep]
      simp
def rMulT : R2 := fun x y H Q => ∃ (s : List Nat) (n : Nat), x = .str ⟨s.toArray⟩ ∧ y = .int n ∧ s.length ≤ 1000 ∧ n ≤ 1000 ∧ Q (.str ⟨((List.replicate n s).flatten).toArray⟩) H
theorem op_mulT {X : Cx} : OpR X (binaryOp .Mult) rMulT := by
  rintro pins σ' σ H x y v u Q I rx ry ⟨s, n, rfl, rfl, h1, h2, q⟩
  obtain ⟨t, rfl⟩ := rx
  obtain ⟨t', rfl⟩ := ry
  have hl : (⟨s.toArray⟩ : Str).length ≤ 1000 := by simpa [Str.length] using h1
  exact PySem.SB.mul (mulOk_of 1000 1000 hl (by omega) (by omega) (by decide) (by decide)) fun t2 k => ⟨.str ⟨((List.replicate n s).flatten).toArray⟩, H, I.kept (t' := k) fun _ _ z => z, ⟨t2, by rw [mul_txt]⟩, q⟩
def mulBD : D → D → Option D
  | .str s, .int i => if 0 ≤ i ∧ i ≤ 1000 ∧ s.length ≤ 1000 then some (.str ((List.replicate i.toNat s).flatten)) else none
  | d, e => mulD d e
theorem op_mulB {X : Cx} : OpR X (binaryOp .Mult) (fun x y H Q => rMulT x y H Q ∨ rMulA x y H Q) := op_mulT.or op_mulA
theorem rn_mulB : RN2 M (fun x y H Q => rMulT x y H Q ∨ rMulA x y H Q) mulBD := by
  intro F H x y d e z Sx Sy Q fh rx ry h k
  unfold mulBD at h
  split at h
  · rename_i s i
    split at h
    · rename_i hc
      cases h
      simp only [RO] at rx ry
      exact .inl ⟨s, i.toNat, rx.1, by rw [Int.toNat_of_nonneg hc.1]; exact ry.1, hc.2.2, by omega, k _ _ _ _ (NewR.same fh (by simp [RO]))⟩
    · cases h
  · exact .inr (rn_mul F H x y _ _ z Sx Sy Q fh rx ry h k)
/-! ### list of a text -/
def rListT : List V → Hp → VK → Prop := fun xs H Q => ∃ s : List Nat, xs = [.str ⟨s.toArray⟩] ∧ s.length ≤ sizeLine ∧ ∀ p, H p = none → Q (.ref p) (upd H p (.lst (s.map fun c => .str ⟨#[c]⟩)))
theorem call_listT {X : Cx} (hc : X.calm = true) : CallR X (.type "list") rListT := by
  rintro pins s0 σ H xs us Q I r ⟨s, rfl, hz, q⟩
  obtain ⟨u, rfl, ru⟩ := vals1 r
  obtain ⟨t, rfl⟩ := ru
  refine PySem.call_list_str (I.ok.hd hc) ⟨s.toArray⟩ t (fun h' tk acc c' hk e hi => ?_) (by simpa using hz)
  have hv : Vals (s.map fun c => V.str ⟨#[c]⟩) acc.toList := by
    refine vals_of_at (by simpa using hi.1.symm) ?_
    intro j x u e1 e2
    rw [List.getElem?_map] at e1
    obtain ⟨c, ec, rfl⟩ := Option.map_eq_some_iff.mp e1
    obtain ⟨c2, t2, e3, e4⟩ := hi.2 j u (by rw [← Array.getElem?_toList]; exact e2)
    have e3 : s[j]? = some c2 := by simpa using e3
    rw [ec] at e3
    cases e3
    exact ⟨t2, e4⟩
  have hn : H s0.heap.objs.size = none := I.hok.fresh (Nat.le_refl _)
  exact ⟨.ref _, upd H _ (.lst (s.map fun c => .str ⟨#[c]⟩)), I.laid (t' := tk) hk (Nat.le_refl _) ⟨by rw [List.length_map]; exact hz, acc.toList, c', hv, by rw [Array.toArray_toList]; exact e⟩, rfl, q _ hn⟩
def listTD : D → Option D
  | .str s => if s.length ≤ LIM then some (.lst true (s.map fun c => .str [c])) else none
  | d => listD d
theorem ros_chars (s : List Nat) : ROs M F H (s.map fun c => D.str [c]) (s.map fun c => V.str ⟨#[c]⟩) em := by
  induction s with
  | nil => simp [ROs]
  | cons c s ih =>
    simp only [List.map_cons, ROs, RO]
    exact ⟨_, _, em, em, rfl, ⟨rfl, rfl⟩, ih, fun _ h _ => h.elim, (em_un em).symm⟩
theorem call_listTA {X : Cx} (hc : X.calm = true) : CallR X (.type "list") (fun xs H Q => rListT xs H Q ∨ rListA X.K xs H Q) := (call_listT hc).or (call_listA hc)
theorem rn_listT : RN M (fun xs H Q => rListT xs H Q ∨ rListA M.K xs H Q) (op1 listTD) := by
  intro F H ds vs z Q fh rl e k
  unfold op1 at e
  split at e
  · rename_i d
    by_cases hd : ∃ s, d = .str s
    · obtain ⟨s, rfl⟩ := hd
      obtain ⟨x, ws, Sx, rfl, r1, rr⟩ := rl
      simp only [RL] at rr
      subst rr
      simp only [listTD] at e
      split at e
      · rename_i hl
        cases e
        simp only [RO] at r1
        obtain ⟨rfl, _⟩ := r1
        exact .inl ⟨s, rfl, lim_ok hl, fun p hp => k _ _ _ _ (NewR.lst fh (ros_chars s) hp)⟩
      · cases e
    · have e2 : op1 listD [d] = some z := by
        show listD d = some z
        cases d <;> first | exact e | exact (hd ⟨_, rfl⟩).elim
      exact .inr (rn_list F H [d] vs z Q fh rl e2 k)
  · cases e
/-! ### is True -/
def isBlD : D → D → Option D
  | .bl x, .bl y => some (.bl (decide (x = y)))
  | _, _ => none
def isNotBlD : D → D → Option D
  | .bl x, .bl y => some (.bl (!decide (x = y)))
  | _, _ => none
theorem rn_isBl : RN2 M rIsB isBlD := by
  intro F H x y d e z Sx Sy Q fh rx ry h k
  unfold isBlD at h
  split at h
  · cases h
    simp only [RO] at rx ry
    exact ⟨_, _, rx.1, ry.1, k _ _ _ _ (NewR.same fh (by simp [RO]))⟩
  · cases h
theorem rn_isNotBl : RN2 M rNotB isNotBlD := by
  intro F H x y d e z Sx Sy Q fh rx ry h k
  unfold isNotBlD at h
  split at h
  · cases h
    simp only [RO] at rx ry
    exact ⟨_, _, rx.1, ry.1, k _ _ _ _ (NewR.same fh (by simp [RO]))⟩
  · cases h
/-! ### the start, where tables stand -/
def noTab (H : Hp) : Hp := fun b => match H b with
  | some (.tbl _) => none
  | o => o
theorem noTab_in {H : Hp} {a : Addr} {u : HO} (h : noTab H a = some u) : H a = some u := by
  unfold noTab at h
  split at h
  · cases h
  · exact h
theorem noTab_at {H : Hp} {a : Addr} {ps : Array Value} (h : H a = some (.tbl ps)) : noTab H a = none := by
  unfold noTab
  rw [h]
theorem noTab_of {H : Hp} {a : Addr} {u : HO} (h : H a = some u) (n : nt u) : noTab H a = some u := by
  unfold noTab
  rw [h]
  split
  · rename_i q
    exact (n _ (Option.some.inj q)).elim
  · rfl
theorem sql_noTab {K : PySem.W.Frag} {H : Hp} {a : Addr} {vs : List V} (h : SqL K H a vs) : SqL K (noTab H) a vs :=
  h.imp (fun z => z.imp (fun z => noTab_of z fun _ q => nomatch q) fun ⟨o, z⟩ => ⟨o, noTab_of z frz_nt⟩) id
theorem stt_start {H : Hp} {P : Addr} {q : Str} (hM : M.tabs = [(P, q)]) (h : H P = some (.tbl #[])) : Stt M (noTab H) H em := by
  refine ⟨fun a u e => .inl (noTab_in e), fun _ h => h.elim, fun _ h => h.elim, fun p hp => ?_, fun p hp => ?_⟩
  · rw [hM] at hp
    rw [List.mem_singleton.mp hp]
    exact LamX.TabS.nil h
  · rw [hM] at hp
    rw [List.mem_singleton.mp hp]
    exact noTab_at h
/-- the law's def, by its code object -/
theorem fnD0C {P : Program} {w : World} {mg : Str → Option Value} {base : Heap} {x qual : Str} {params : Arguments} {body : List Stmt} {scope : Scope} {dvs : List V} {kws : List (Str × V)} {fa c : Addr} {fd : FuncData} {N ps : List Str} {k m : Nat} {re : List Bool} {f : List D → SR} {CX : CXT}
    (FD : FunD M.K x qual params body scope dvs kws fa fd) (SC : FnScope N ps scope) (hre : re.length = ps.length) (hm : N.length = ps.length + m) (hc : fd.code = .ref c)
    (hb : ∀ (A : Around) (outer : List Env) (s : Shared) (H : Hp) (E : XK), Room k (A.deeper (envOfC qual scope s.heap.objs.size fa (.ref c))) →
      ∃ ts, PSs (cxOf CX P w M.K mg base N qual scope fa (.ref c) A outer s H E) body ts ∧ SS M W0 (prOf re) ts f) :
    FnOk P w M.K mg base CX (k + 1) fa fd ps (spD0 M (bodyF re m f)) := by
  obtain ⟨oc, od, dV, kV, doc, pm, an, cdv, ct, osl, rfl, lk, hcd, _, _⟩ := FD.ex
  have hc : cdv = .ref c := hc
  subst hc
  refine fn_of lk hcd SC (fun vs H Q E h => ?_) fun A outer s H vs Q E hr h => ?_
  · obtain ⟨F, ds, S, st, ro, h⟩ := h
    unfold bodyF at h
    by_cases hq : ds.length = re.length ∧ reOk re ds = true
    · rw [← ro.len, hq.1, hre]
    · rw [if_neg hq] at h
      exact h.elim
  · obtain ⟨ts, p1, p2⟩ := hb A outer s H E hr
    exact ⟨ts, p1, d0_body hre hm p2 h⟩
end
end VS
set_option maxHeartbeats 1000000
/-! VSFn: functions as values, and calls of what a variable holds. -/
namespace VH
open PySem PySem.Spec PyProof.Rows L2
section
variable {X : Cx} {CX : CXT} {k : Nat} {f : Addr} {fd : FuncData} {ps : List Str} {sp : Sp} {dvs : List V} {ds : List Value} {E : L2.St → XK} {x : Str} {p pos : Pos} {e : Expr} {es : List Expr} {t : TA}
/-- g(e, ..), g a variable that holds this function -/
theorem pe_callV (i : Nat) (F : FnOk X.prog X.w X.K X.mg X.base CX k f fd ps sp) (hr : Room k X.A) (hk : PySem.W.keepIn X.K (.ref f) = true) (hb : Binds X.K fd ps ds) (hd : Vals dvs ds) (hx : ∀ σ, PassesAt CX X σ (E σ))
    (ha : PA X (e :: es) t) (hN : X.N[i]? = some x := by rfl) (hv : Vis X.env.scope x := by first | exact Or.inl rfl | exact Or.inr (Or.inl rfl) | exact Or.inr (Or.inr rfl)) (hdb : (x == ("__debug__" : Str)) = false := by decide)
    (hcd : (x == ("__classdict__" : Str)) = false := by decide)
    (he : starEach (e :: es) X.env = (false, eval e X.env) :: starEach es X.env := by rfl) (hpl : (backTo pos (starEach es X.env)).any (·.1) = false := by rfl) :
    PE X (.Call (.Name x p) (e :: es) [] pos) (fun σ H Q => σ[i]? = some (some (.ref f)) ∧ tCallSD sp dvs E t σ H Q) := by
  refine ⟨fun pins s σ H Q I h => ?_⟩
  obtain ⟨hat, h⟩ := h
  refine wpAny_Call_Name_kw (thn ((pe_var (pos := p) (i := i) hN hv hdb hcd).run pins s σ H (fun v H1 => v = .ref f ∧ H1 = H) I ⟨.ref f, hat, rfl, rfl⟩) fun u s1 q1 => ?_)
  obtain ⟨v, H1, I1, r1, rfl, rfl⟩ := q1
  obtain rfl : u = Value.ref f := r1
  refine PySem.W.callWith_K (h₀ := X.base) I1.ok.mod.kin hk (thn (ha.run pos pins s1 σ H1 _ I1 h) fun us s2 ⟨vs, H2, I2, r, q⟩ => ⟨I2.kIn, ?_⟩) he hpl
  exact run_fnSD F hr hb hd (hx σ) I2 r q
end
end VH
namespace VS
open PySem PyProof.Rows L2
section
variable {M : Mn} {W : WD} {b b1 b2 : Bool} {F H F' H' F1 H1 : Hp} {env env' env1 : List D} {σ : L2.St} {S S' S1 T : AS} {pr : Nat → Bool}
theorem se_fn (c : Str) : SE M W true (tC (.ref (M.cm c))) (tmpd (.fn c)) := se_c fun F H => by simp [RO]
/-- what is done where the variable holds this function -/
def onF (i : Nat) (c : Str) (f : List D → R Rv) : List D → R Rv := fun env => match env[i]? with
  | some (.fn c') => if c' = c then f env else .stuck
  | _ => .stuck
theorem se_on (i : Nat) (c : Str) {te : TE} {f : List D → R Rv} (h : SE M W b te f) : SE M W b (fun σ H Q => σ[i]? = some (some (.ref (M.cm c))) ∧ te σ H Q) (onF i c f) := by
  intro F H env σ S Q st en q
  unfold onF at q
  cases e : env[i]? with
  | none => rw [e] at q; exact q.elim
  | some d =>
    rw [e] at q
    cases d with
    | fn c' =>
      have q : Post M W b F H σ S Q (if c' = c then f env else .stuck) := q
      by_cases hc : c' = c
      · subst hc
        rw [if_pos rfl] at q
        obtain ⟨v, w, S1, S2, e1, e2, e3, e4, e5, _⟩ := en.path (i := i) (p := []) (e := .fn c') (by unfold getE; rw [e]; rfl) rfl
        have : w = v := e2
        subst this
        simp only [RO] at e3
        rw [e3.1] at e1
        exact ⟨e1, h F H env σ S Q st en q⟩
      · rw [if_neg hc] at q
        exact q.elim
    | _ => exact q.elim
def orE (f g : List D → R Rv) : List D → R Rv := fun env => match f env with
  | .stuck => g env
  | r => r
theorem se_orE {t1 t2 : TE} {f g : List D → R Rv} (h1 : SE M W b t1 f) (h2 : SE M W b t2 g) : SE M W b (fun σ H Q => t1 σ H Q ∨ t2 σ H Q) (orE f g) := by
  intro F H env σ S Q st en q
  unfold orE at q
  cases e : f env with
  | stuck => rw [e] at q; exact .inr (h2 F H env σ S Q st en q)
  | ok r env1 => rw [e] at q; exact .inl (h1 F H env σ S Q st en (by rw [e]; exact q))
  | err c d env1 => rw [e] at q; exact .inl (h1 F H env σ S Q st en (by rw [e]; exact q))
end
end VS
set_option maxHeartbeats 1000000
/-! VSOex: errors with a field of their own. -/
namespace VH
open PySem PySem.Spec PyProof.Rows L2
/-- __init__(self, f): self.f = f -/
def spI (C : Addr) (f : Str) : Sp := fun vs H Q _ => ∃ (a : Addr) (x : V), vs = [.ref a, x] ∧ H a = some (exo a C none) ∧ ∀ d, H d = none → d ≠ a → Q .non (upd (upd H d (exd d [(f, x)])) a (exo a C (some d)))
theorem init_ok {P : Program} {w : World} {K : PySem.W.Frag} {mg : Str → Option Value} {base : Heap} {CX : CXT} {C fI : Addr} {f qual : Str} {params : Arguments} {body : List Stmt} {scope : Scope} {fd : FuncData} {N ps : List Str}
    (T : OexC K C) (hno : PySem.W.findIn K (.ref C) f = some none) (FD : FunD K "__init__" qual params body scope [] [] fI fd) (SC : FnScope N ps scope) (hN : N.length = 2) (hp : ps.length = 2)
    (hb : ∀ (cdv : Value) (A : Around) (outer : List Env) (s : Shared) (H : Hp) (E : XK), PSs (cxOf CX P w K mg base N qual scope fI cdv A outer s H E) body (fun D σ H => tOst K f (tVar 0) (tVar 1) D σ H)) :
    FnOk P w K mg base CX 1 fI fd ps (spI C f) := by
  refine FD.ok SC (fun vs H Q E h => ?_) (fun cdv A outer s H vs Q E hr h => ?_)
  · obtain ⟨a, x, rfl, _⟩ := h
    exact hp.symm
  · refine ⟨_, hb cdv A outer s H E, ?_⟩
    obtain ⟨a, x, rfl, ha, q⟩ := h
    refine ⟨x, by simp [L2.start, hN], .ref a, by simp [L2.start, hN], a, C, rfl, T, hno, .inl ⟨ha, fun dx hn hne => q dx hn hne⟩⟩
theorem spI_end {C : Addr} {f : Str} {v : V} {H1 : Hp} {Q : XK} (q : ∀ d, H1 d = none → Q (.ref C) (some d) (upd H1 d (.xd [(f, v)]))) :
    ([v] : List V).length ≤ 1000 ∧ ∀ a, H1 a = none → spI C f (.ref a :: ([v] ++ [])) (upd H1 a (exo a C none)) (fun u H2 => u = .non ∧ ∃ (d : Addr) (fs : List (Str × V)), H2 a = some (exo a C (some d)) ∧ H2 d = some (exd d fs) ∧ H1 d = none ∧ Q (.ref C) (some d) (upd (del H2 a) d (.xd fs))) (fun _ _ _ => False) := by
  refine ⟨by simp, fun a ha => ⟨a, v, rfl, upd_same, fun d hd hne => ⟨rfl, d, [(f, v)], upd_same, ?_, ?_, ?_⟩⟩⟩
  · rw [upd_ne hne, upd_same]
  · rw [upd_ne hne] at hd
    exact hd
  · rw [upd_ne hne] at hd
    have e : upd (del (upd (upd (upd H1 a (exo a C none)) d (exd d [(f, v)])) a (exo a C (some d))) a) d (.xd [(f, v)]) = upd H1 d (.xd [(f, v)]) := by
      funext b
      by_cases hb : b = d
      · subst hb; rw [upd_same, upd_same]
      · rw [upd_ne hb, upd_ne hb]
        by_cases hba : b = a
        · subst hba; rw [del_same, ha]
        · rw [del_ne hba, upd_ne hba, upd_ne hb, upd_ne hba]
    rw [e]
    exact q d hd
theorem passN {P : Program} {w : World} {X : Cx} : Passes (L2.CX P w) X (fun _ _ _ => False) := fun _ _ _ _ _ _ _ h => by
  obtain ⟨_, _, _, _, _, _, _, _, _, _, _, _, z⟩ := h
  exact z.elim
end VH
namespace VS
open PySem PyProof.Rows L2
section
variable {M : Mn} {W : WD} {b b1 b2 : Bool} {F H F' H' F1 H1 : Hp} {env env' env1 : List D} {σ : L2.St} {S S' S1 T : AS} {pr : Nat → Bool}
/-- raise C(e), C an error with a field -/
def raiseFS (c : Str) (f : List D → R Rv) : List D → SR := fun env => SR.of (f env) fun r env1 => match escz [r] env1 with
  | some ([d], env2) => if isSet d = true then .err c d env2 else .stuck
  | _ => .stuck
theorem ss_raiseF {WX0 : L2.WX} {c : Str} {te : TE} {f : List D → R Rv} (h1 : SE M W b te f) (hw : ∀ cls dx σ H, W cls dx σ H → WX0 cls dx σ H) :
    SS M W pr (fun _ σ H => tMkO (M.cm c) (VH.spI (M.cm c) (M.en c)) [] (tCons te tNil) σ H fun cls d H' => WX0 cls d σ H') (raiseFS c f) := by
  intro D F H env σ S st en h
  show te σ H _
  refine h1.of st en h fun r env1 h v F1 H1 S1 s1 st1 r1 => ?_
  have h : PostS M W pr F H σ S D (match escz [r] env1 with
    | some ([d], env2) => if isSet d = true then .err c d env2 else .stuck
    | _ => .stuck) := h
  cases q : escz [r] env1 with
  | none => rw [q] at h; exact h.elim
  | some x =>
    obtain ⟨ds, env2⟩ := x
    rw [q] at h
    obtain ⟨F2, S2, s2, st2, en2, ro2⟩ := escz_ok q st1 r1
    match ds, h, ro2 with
    | [], h, ro2 => exact h.elim
    | _ :: _ :: _, h, ro2 => exact h.elim
    | [d], h, ro2 =>
      have h : PostS M W pr F H σ S D (if isSet d = true then .err c d env2 else .stuck) := h
      split at h
      · obtain ⟨w, e1, rd⟩ := ro2.one
        have e1 : v = w := by simpa using e1
        subst e1
        refine VH.spI_end (C := M.cm c) (f := M.en c) (v := v) (H1 := H1) (Q := fun cls d H' => WX0 cls d σ H') fun dx hn => ?_
        obtain ⟨g1, g2, g3⟩ := new_frz (z := .unset) (o := .xd [(M.en c, v)]) st2 en2 hn (by simp [RO])
        obtain ⟨Se, en3, o3⟩ := g3.envp
        have exF : Ext F2 (upd F2 dx (.xd [(M.en c, v)])) := g1.ext
        refine hw _ _ _ _ (h σ _ _ Se _ (some dx) (((s1.trans s2).trans g1).drop o3) (g2.sub o3) ⟨rfl, (fun z => by rename_i hs; rw [hs] at z; cases z), fun _ => ⟨dx, v, rfl, upd_same, rd.mono d exF fun _ z => z.elim⟩⟩ en3 Pr.refl)
      · exact h.elim
end
end VS
set_option maxHeartbeats 1000000
/-! VSIsx: isinstance of a kept error that has a dict. -/
namespace VH
open PySem PySem.Spec PySem.Calls PyProof.Rows PySem.W
section
variable {prog : Program} {w : World} {A : Around} {E : Value → Shared → Prop} {s : Shared} {K : Frag} {x D : Addr} {ox : Obj} {od : Option Obj}
theorem obj_class (C : L2.ExcC K D) : findObj K D od "__class__" = some (.bind (.builtin "getset_descriptor.__get__") (.builtin "object.__class__")) := by
  obtain ⟨cd, hc, _⟩ := any_some C.hd
  unfold findObj
  simp [hc, C.ha, C.hn, C.ht]
theorem asks_class {Q : Option Value → Shared → Prop} (C : L2.ExcC K D) (hX : K.In s.heap) (hI : InstAt s.heap x ox D od) (h : Q (some (.ref D)) { s with toks := s.toks + 1 }) :
    wpAny (model prog w) A (getAttr? (.ref x) "__class__") Q E s := by
  obtain ⟨hp, gs, dr, tk, osz⟩ := s
  have ty := hI.type (M := model prog w)
  have isE : Looks (model prog w) hp (isInstance (.ref x) (.type "BaseException")) true := ty.andThen (looks_subIn hX C.hs)
  have no : (Value.builtin "BaseException.__getattribute__" == Value.builtin "object.__getattribute__") = false := by decide +kernel
  unfold getAttr? getAttrBy? getAttrBy
  refine wpAny_bind (wpAny_mkText (wpAny_bind (wpAny_attempt (wpAny_holding (wpAny_bind (ty.at (wpAny_bind ((looks_findIn (M := model prog w) hX C.hg).at ?_))))))))
  show wpAny _ _ (if (onTheHeap (Value.ref D) && Value.builtin "BaseException.__getattribute__" == Value.builtin "object.__getattribute__") = true then _ else _) _ _ _
  rw [no, Bool.and_false, if_neg Bool.false_ne_true]
  unfold getAttrByItsOwn hookBefore
  refine wpAny_bind ?_
  rw [if_pos (show onTheHeap (Value.ref D) = true from rfl)]
  refine (looks_findIn (M := model prog w) hX C.hk).at (wpAny_bind (wpAny_attempt (wpAny_holding ?_)))
  unfold callGetattribute
  rw [show (false && onTheHeap (Value.builtin "BaseException.__getattribute__")) = false from rfl, if_neg Bool.false_ne_true]
  unfold boundAndCalled
  rw [PySem.F.excAttr_ValueError.ga.bind (.ref x)]
  refine wpAny_bind (wpAny_pure (wpAny_call (codeAny_call_builtin PySem.F.excAttr_ValueError.ga.plain PySem.F.entry_bexc_ga ?_)))
  refine @check_slot (model prog w) _ _ ⟨hp, gs, dr, tk + 1, osz⟩ "BaseException.__getattribute__" "BaseException" "__getattribute__" (.ref x) [.str "__class__" tk] [] _ (by decide +kernel) (by decide +kernel) isE (PySem.F.args_bexc_ga (.ref x) (.str "__class__" tk)) ?_
  unfold Builtin.«object.__getattribute__»
  refine wpAny_bind (wpAny_of_eq (a := ((Value.ref x : Value), [Value.str "__class__" tk])) (by first | rfl | (simp only [slotArgs]; rfl)) ?_)
  refine wpAny_bind (wpAny_pure (wpAny_bind (ty.at (wpAny_bind ((looks_find (M := model prog w) hX hI (obj_class C)).at ?_)))))
  show wpAny _ _ (holding [Value.builtin "object.__class__"] (call (.builtin "getset_descriptor.__get__") [.builtin "object.__class__", .ref x, .ref D]) >>= ret) _ _ _
  refine wpAny_bind (wpAny_holding (wpAny_call (class_get (s := ⟨hp, gs, dr, tk + 1, osz⟩) (ox := ox) (od := od) hX hI C.hm (wpAny_pure ?_))))
  show wpAny _ _ (handedOut (.ref D)) _ _ _
  rw [handedOut_of (v := .ref D) rfl]
  first
    | exact wpAny_pure (wpAny_pure h)
    | exact wpAny_pure h
    | exact wpAny_pure (wpAny_bind (wpAny_pure (wpAny_pure h)))
theorem kitx_od (C : L2.ExcC K D) : KitX K (.ref x) (.ref D) (fun h => InstAt h x ox D od) where
  ty := fun _ _ _ I => I.type
  it := fun M h X _ => by
    obtain ⟨cd, hc, _⟩ := any_some C.hd
    cases q : K.lookup D with
    | none => simp [clsIn, q] at hc
    | some ob =>
      obtain ⟨oc, odd, dt, sl⟩ := ob
      cases dt with
      | cls c =>
        intro A' Q' E' s' k hq
        unfold isType loadHead
        exact wpAny_bind (wpAny_loadPart (k _ _ (X _ _ q)) (wpAny_pure hq))
      | _ => simp [clsIn, q] at hc
  ne := (handS_kitx_exc (x := x) C.hg C.hk C.hs C.hd C.ha C.hn C.ht C.hm (ox := ox)).ne
  ca := fun X I k => asks_class C X I k
end
end VH
namespace VH
open PySem PySem.Spec PyProof.Rows L2
/-- isinstance(x, c), x a kept error of the class D with the field f -/
def rIsF (K : PySem.W.Frag) : List V → Hp → VK → Prop := fun xs H Q => ∃ (a D b : Addr) (f : Str) (u : V) (c : V) (cv : Value) (k : Bool), xs = [.ref a, c] ∧ H a = some (VS.exO a D (some b)) ∧ H b = some (.xd [(f, u)]) ∧ ExcC K D ∧ ClsV c cv ∧ PySem.W.kitOne K (.ref D) cv = some k ∧ Q (.bl k) H
def rIsFT (K : PySem.W.Frag) : List V → Hp → VK → Prop := fun xs H Q => ∃ (a D b tp : Addr) (f : Str) (u : V) (cs : List V) (us : List Value) (k : Bool), xs = [.ref a, .ref tp] ∧ H a = some (VS.exO a D (some b)) ∧ H b = some (.xd [(f, u)]) ∧ H tp = some (.tup cs) ∧ ExcC K D ∧ Paired ClsV cs us ∧ PySem.W.kitAny K (.ref D) us = some k ∧ Q (.bl k) H
section
variable {X : Cx}
theorem inst_od {P : Program} {w : World} {H : Hp} {h : Heap} {a b D : Addr} {f : Str} {u : V} (hok : HOk P w H h) (e : H a = some (VS.exO a D (some b))) (e2 : H b = some (.xd [(f, u)])) : ∃ oe ob, PySem.W.InstAt h a oe D (some ob) := by
  obtain ⟨⟨oc, odx, oda, osl⟩, fs, g1, g2, g3, g4⟩ := exO_at hok e
  dsimp only at g2 g3 g4
  subst g2 g3 g4
  obtain ⟨mA, ⟨o, es, ep, h1, h2, h3⟩, _⟩ := (show ObjOk P w H h b (.xd [(f, u)]) from hok b _ e2)
  exact ⟨_, o, g1, rfl, rfl, h1⟩
theorem call_isF : CallR X (.builtin "isinstance") (rIsF X.K) := by
  rintro pins s σ H xs us Q I r ⟨a, D, b, f, u, c, cv, k, rfl, ea, eb, C, hc, hk, q⟩
  obtain ⟨u1, u2, rfl, r1, r2⟩ := vals2 r
  cases r1
  have e2 := hc.eq r2
  subst e2
  obtain ⟨oe, ob, J⟩ := inst_od I.hok ea eb
  exact PySem.W.kia_one (kitx_od C) I.kIn J hk (fun z => nomatch z) fun tk => ⟨.bl k, H, I.tok tk, rfl, q⟩
theorem call_isFT : CallR X (.builtin "isinstance") (rIsFT X.K) := by
  rintro pins s σ H xs us Q I r ⟨a, D, b, tp, f, u, cs, ws, k, rfl, ea, eb, et, C, hc, hk, q⟩
  obtain ⟨u1, u2, rfl, r1, r2⟩ := vals2 r
  cases r1
  cases (show u2 = Value.ref tp from r2)
  obtain ⟨oe, ob, J⟩ := inst_od I.hok ea eb
  obtain ⟨_, its, rv, o, h1, h2, n, h3⟩ := (show ObjOk X.prog X.w H s.heap tp (.tup cs) from I.hok tp _ et)
  have e3 := ClsV.all hc rv
  subst e3
  obtain ⟨oc, od, dt, sl⟩ := o
  simp only at h2 h3
  subst h2 h3
  exact PySem.W.kia_tup (kitx_od C) I.kIn J h1 hk (fun z => nomatch z) fun tk => ⟨.bl k, H, I.tok tk, rfl, q⟩
end
end VH
set_option maxHeartbeats 1000000
/-! VSFld: kept errors with fields: isinstance, the field. -/
namespace VH
open PySem PySem.Spec PyProof.Rows L2
abbrev rIsY (K : PySem.W.Frag) : List V → Hp → VK → Prop := fun xs H Q => rIsX K xs H Q ∨ rIsF K xs H Q
abbrev rIsYT (K : PySem.W.Frag) : List V → Hp → VK → Prop := fun xs H Q => rIsXT K xs H Q ∨ rIsFT K xs H Q
theorem call_isY {X : Cx} : CallR X (.builtin "isinstance") (rIsY X.K) := call_isX.or call_isF
theorem call_isYT {X : Cx} : CallR X (.builtin "isinstance") (rIsYT X.K) := call_isXT.or call_isFT
/-- x.n, x a kept error with the field n -/
def rFld (K : PySem.W.Frag) (n : Str) : V → Hp → VK → Prop := fun x H Q => ∃ (a C b : Addr) (v : V), x = .ref a ∧ XfC K C ∧ PySem.W.findIn K (.ref C) n = some none ∧ H a = some (VS.exO a C (some b)) ∧ H b = some (.xd [(n, v)]) ∧ Q v H
def tFld (K : PySem.W.Frag) (n : Str) (te : TE) : TE := fun σ H Q => te σ H fun x H1 => rFld K n x H1 Q
theorem pe_fld {X : Cx} {e : Expr} {te : TE} {pos : Pos} {n : Str} (he : PE X e te) (hb : attributeBase e n X.env (eval e X.env) = eval e X.env := by rfl) : PE X (.Attribute e n pos) (tFld X.K n te) := by
  refine ⟨fun pins s σ H Q I h => ?_⟩
  refine attr_of hb (thn (he.run pins s σ H _ I h) fun u s1 ⟨x, H1, I1, rx, a, C, b, v, ex, T, hno, ea, eb, q⟩ => ?_)
  subst ex
  obtain rfl : u = Value.ref a := rx
  obtain ⟨⟨oc, odx, oda, osl⟩, fs, g1, g2, g3, g4⟩ := exO_at I1.hok ea
  dsimp only at g2 g3 g4
  subst g2 g3 g4
  obtain ⟨mA, hns, hr⟩ := (show ObjOk X.prog X.w H1 s1.heap b (.xd [(n, v)]) from I1.hok b _ eb)
  obtain ⟨od, ho, hl⟩ := lookIn_ns hns
  obtain ⟨u, hu, ru⟩ := RelO.some_of (v := v) (o := mA n) (by have := hr n; simpa using this)
  exact HandSPX.exc_get I1.kIn ⟨g1, rfl, rfl, ho⟩ T.ga T.gg T.exC (PySem.W.findObj_own T.hdC hno rfl (by rw [hl, hu])) (handed_of ru) ⟨v, H1, I1.tok _, ru, q⟩
end VH
namespace VS
open PySem PyProof.Rows L2
section
variable {M : Mn} {W : WD} {b b1 b2 : Bool} {F H F' H' F1 H1 : Hp} {env env' env1 : List D} {σ : L2.St} {S S' S1 T : AS} {pr : Nat → Bool}
/-- isinstance(x, c), x a kept error -/
def isyD (l : List (Str × Bool)) : D → Option D
  | .exc c _ => (l.lookup c).map .bl
  | _ => none
theorem not_lock_ext {P : Heap → Prop} : ¬ Lockable (.ext P) := fun z => z
theorem exc_in2 {c : Str} {d : D} {v : V} (r : RO M F H (.exc c d) v S) (fh : FH F H) : S = em ∧ ∃ a, v = .ref a ∧ (H a = some (exO a (M.cm c) none) ∨ ∃ b u, H a = some (exO a (M.cm c) (some b)) ∧ H b = some (.xd [(M.en c, u)]) ∧ RO M F H d u em) := by
  simp only [RO] at r
  obtain ⟨h0, a, dx, rfl, h2, h3⟩ := r
  have at_ : ∀ {x : Addr} {o : HO}, F x = some o → ¬ Lockable o → H x = some o := fun {x o} e n => by
    rcases fh x _ e with z | ⟨z, _⟩
    · exact z
    · exact (n z).elim
  have ha := at_ h2 (fun z => z)
  refine ⟨h0, a, rfl, ?_⟩
  rcases h3 with ⟨_, rfl⟩ | ⟨_, b, u, T, rfl, hb, hd, rfl⟩
  · exact .inl ha
  · exact .inr ⟨b, u, ha, at_ hb (fun z => z), hd⟩
theorem se_isy {te : TE} {f : List D → R Rv} {cV : V} {cv : Value} (l : List (Str × Bool)) (hc : ClsV cV cv) (hl : ∀ p ∈ l, ExcC M.K (M.cm p.1) ∧ PySem.W.kitOne M.K (.ref (M.cm p.1)) cv = some p.2) (h : SE M W b te f) :
    SE M W (b && true) (tCB (VH.rIsY M.K) (tCons te (tCons (tC cV) tNil))) (una (isyD l) f) := by
  refine se_n (ta := tCons te tNil) (r := fun vs H Q => match vs with | [x] => VH.rIsY M.K [x, cV] H Q | _ => False) (sa_cons h sa_nil) ?_
  intro F H ds vs z Q fh rl e k
  unfold op1 at e
  split at e
  · rename_i a
    obtain ⟨x, ws, Sx, rfl, r1, rr⟩ := rl
    simp only [RL] at rr
    subst rr
    unfold isyD at e
    split at e
    · rename_i c d
      cases q : l.lookup c with
      | none => rw [q] at e; cases e
      | some r =>
        rw [q] at e
        cases e
        obtain ⟨rfl, a, rfl, ea⟩ := exc_in2 r1 fh
        obtain ⟨g1, g2⟩ := hl _ (lookup_in q)
        rcases ea with ea | ⟨b, u, ea, eb, _⟩
        · exact .inl ⟨a, M.cm c, _, _, r, rfl, ea, g1, hc, g2, k _ _ _ _ (NewR.same fh (by simp [RO]))⟩
        · exact .inr ⟨a, M.cm c, b, _, u, _, _, r, rfl, ea, eb, g1, hc, g2, k _ _ _ _ (NewR.same fh (by simp [RO]))⟩
    · cases e
  · cases e
theorem se_isyT {te : TE} {f : List D → R Rv} {cs : List V} {us : List Value} (l : List (Str × Bool)) (hc : Paired ClsV cs us) (hl : ∀ p ∈ l, ExcC M.K (M.cm p.1) ∧ PySem.W.kitAny M.K (.ref (M.cm p.1)) us = some p.2) (hn : Nat.ble cs.length 30 = true) (h : SE M W b te f) :
    SE M W (b && true) (tCB (VH.rIsYT M.K) (tCons te (tCons (tTup (taC cs)) tNil))) (una (isyD l) f) := by
  have hq : ∀ (g : TE) σ H (Q : V → Hp → Prop), g = tCB (VH.rIsYT M.K) (tCons te (tCons (tTup (taC cs)) tNil)) → g σ H Q = (te σ H fun x H1 => cs.length ≤ sizeLine ∧ ∀ p, H1 p = none → VH.rIsYT M.K [x, .ref p] (upd H1 p (.tup cs)) Q) := by
    intro g σ H Q e
    subst e
    show te σ H (fun x H1 => taC cs σ H1 _) = _
    congr 1
    funext x H1
    rw [taC_eq]
    rfl
  have key : SE M W (b && true) (fun σ H Q => te σ H fun x H1 => cs.length ≤ sizeLine ∧ ∀ p, H1 p = none → VH.rIsYT M.K [x, .ref p] (upd H1 p (.tup cs)) Q) (una (isyD l) f) := by
    refine se_n (ta := tCons te tNil) (r := fun vs H Q => match vs with | [x] => cs.length ≤ sizeLine ∧ ∀ p, H p = none → VH.rIsYT M.K [x, .ref p] (upd H p (.tup cs)) Q | _ => False) (sa_cons h sa_nil) ?_
    intro F H ds vs z Q fh rl e k
    unfold op1 at e
    split at e
    · rename_i a
      obtain ⟨x, ws, Sx, rfl, r1, rr⟩ := rl
      simp only [RL] at rr
      subst rr
      unfold isyD at e
      split at e
      · rename_i c d
        cases q : l.lookup c with
        | none => rw [q] at e; cases e
        | some r =>
          rw [q] at e
          cases e
          refine ⟨Nat.le_trans (Nat.le_of_ble_eq_true hn) (by decide), fun p hp => ?_⟩
          have fh2 : FH F (upd H p (.tup cs)) := fun a u e => (fh a u e).imp (ext_upd hp a u) fun ⟨l, o, z⟩ => ⟨l, o, ext_upd hp a _ z⟩
          have r1' : RO M F (upd H p (.tup cs)) (.exc c d) x Sx := r1.mono _ (Ext.refl _) fun b hb => upd_ne fun e => by
            obtain ⟨o, q, _⟩ := r1.alive _ b hb
            rw [e, hp] at q
            cases q
          obtain ⟨rfl, a, rfl, ea⟩ := exc_in2 r1' fh2
          obtain ⟨g1, g2⟩ := hl _ (lookup_in q)
          have fin := k (.bl r) F (upd H p (.tup cs)) em ⟨Ext.refl _, ext_upd hp, by simp [RO], fun _ h => h.elim, fun _ h => h.elim, fun _ _ h => .inl h, fh2⟩
          rcases ea with ea | ⟨b, u, ea, eb, _⟩
          · exact .inl ⟨a, M.cm c, p, cs, us, r, rfl, ea, upd_same, g1, hc, g2, fin⟩
          · exact .inr ⟨a, M.cm c, b, p, _, u, cs, us, r, rfl, ea, eb, upd_same, g1, hc, g2, fin⟩
      · cases e
    · cases e
  intro F H env σ S Q st en hp
  rw [hq _ σ H Q rfl]
  exact key F H env σ S Q st en hp
theorem exB_set {d : D} (h : isSet d = true) : exB d = true := by cases d <;> first | rfl | cases h
/-- the field of a kept error -/
def fldD (l : List Str) : D → Option D
  | .exc c d => if c ∈ l ∧ isSet d = true then some d else none
  | _ => none
theorem rn_fld (l : List Str) (n : Str) (hl : ∀ c ∈ l, XfC M.K (M.cm c) ∧ PySem.W.findIn M.K (.ref (M.cm c)) n = some none ∧ M.en c = n) : RN1 M (VH.rFld M.K n) (fldD l) := by
  intro F H x d z Sx Q fh rx h k
  unfold fldD at h
  split at h
  · rename_i c d
    split at h
    · rename_i hc
      cases h
      simp only [RO] at rx
      obtain ⟨rfl, a, dx, rfl, h2, h3⟩ := rx
      have at_ : ∀ {x : Addr} {o : HO}, F x = some o → ¬ Lockable o → H x = some o := fun {x o} e n => by
        rcases fh x _ e with z | ⟨z, _⟩
        · exact z
        · exact (n z).elim
      rcases h3 with ⟨z, _⟩ | ⟨_, b, u, T, rfl, hb, hd, rfl⟩
      · have hs := hc.2
        have : exB _ = true := exB_set hs
        rw [this] at z
        cases z
      · obtain ⟨g1, g2, g3⟩ := hl c hc.1
        rw [g3] at hb
        exact ⟨a, M.cm c, b, u, rfl, g1, g2, at_ h2 (fun z => z), at_ hb (fun z => z), k _ _ _ _ (NewR.same fh hd)⟩
    · cases h
  · cases h
theorem se_fld {te : TE} {f : List D → R Rv} (l : List Str) (n : Str) (hl : ∀ c ∈ l, XfC M.K (M.cm c) ∧ PySem.W.findIn M.K (.ref (M.cm c)) n = some none ∧ M.en c = n) (h : SE M W b te f) :
    SE M W (b && true) (VH.tFld M.K n te) (una (fldD l) f) := se_un (rn_fld l n hl) h
end
end VS
set_option maxHeartbeats 1000000
/-! VSOexB: the facts of a class of errors with a field, looked at. -/
namespace VH
open PySem PySem.Spec PyProof.Rows L2
/-- the class object has the form of an own error class -/
def mroB (C : Addr) : List Value → Bool
  | m :: bm => decide (m = .ref C) && PySem.HandSPX.refsVE bm
  | [] => false
def slotB : List (Option Value) → Bool
  | [_, _, _, _, n, _] => decide (n = some (.builtin "ValueError.__new__"))
  | _ => false
def formB (C : Addr) : Option Obj → Bool
  | none => false
  | some o => decide (o.cls = .type "type") && (match o.data with
      | .cls cd => cd.hasDict && (!cd.hasDel && (mroB C cd.mro && slotB o.slots.toList))
      | _ => false)
theorem mroB_ok {C : Addr} {l : List Value} (h : mroB C l = true) : ∃ bm, l = .ref C :: bm ∧ PySem.HandSPX.refsVE bm = true := by
  cases l with
  | nil => cases h
  | cons m bm =>
    obtain ⟨h1, h2⟩ := Bool.and_eq_true_iff.mp h
    exact ⟨bm, by rw [of_decide_eq_true h1], h2⟩
theorem slotB_ok : ∀ {l : List (Option Value)}, slotB l = true → ∃ k0 k1 k2 k3 k5, l = [k0, k1, k2, k3, some (.builtin "ValueError.__new__"), k5]
  | [k0, k1, k2, k3, n, k5], h => ⟨k0, k1, k2, k3, k5, by rw [of_decide_eq_true (show decide (n = some (.builtin "ValueError.__new__")) = true from h)]⟩
theorem formB_ok {C : Addr} {q : Option Obj} (h : formB C q = true) : ∃ nm qn N bs bm sn sub ab col dd k0 k1 k2 k3 k5, q = some (PySem.excClassObj nm qn C N bs bm true sn sub ab col dd k0 k1 k2 k3 k5 "ValueError.__new__") ∧ PySem.HandSPX.refsVE bm = true := by
  cases q with
  | none => cases h
  | some o =>
    obtain ⟨cl, dd, dt, sl⟩ := o
    obtain ⟨h1, h2⟩ := Bool.and_eq_true_iff.mp h
    have h1 : cl = .type "type" := of_decide_eq_true h1
    subst h1
    cases dt with
    | cls cd =>
      obtain ⟨nm, bs, mro, ns, qn, hd, sn, sub, ab, col, del⟩ := cd
      obtain ⟨h3, h4⟩ := Bool.and_eq_true_iff.mp h2
      obtain ⟨h4, h5⟩ := Bool.and_eq_true_iff.mp h4
      obtain ⟨h5, h6⟩ := Bool.and_eq_true_iff.mp h5
      have h3 : hd = true := h3
      have hdl : del = false := by simpa using h4
      clear h4
      subst h3 hdl
      obtain ⟨bm, e, hb⟩ := mroB_ok h5
      have e : mro = .ref C :: bm := e
      subst e
      obtain ⟨sl⟩ := sl
      obtain ⟨k0, k1, k2, k3, k5, e⟩ := slotB_ok h6
      have e : sl = [k0, k1, k2, k3, some (.builtin "ValueError.__new__"), k5] := e
      subst e
      exact ⟨nm, qn, ns, bs, bm, sn, sub, ab, col, dd, k0, k1, k2, k3, k5, rfl, hb⟩
    | _ => cases h2
def oexB (K : PySem.W.Frag) (C : Addr) (f : Str) : Bool := formB C (K.lookup C) && (decide (PySem.W.findIn K (.ref C) "__setattr__" = some (some (.builtin "object.__setattr__"))) && (decide (PySem.W.subIn K (.ref C) (.type "BaseException") = some true) &&
  (decide (PySem.W.typeIn K (.ref C) = some (.type "type")) && (PySem.W.keepIn K (.ref C) && (decide (PySem.W.findIn K (.ref C) f = some none) && (xfB K C && (decide (PySem.W.findIn K (.ref C) "__init__" = some (some (.ref (He.ma K C "__init__")))) && decide (PySem.W.typeIn K (.ref (He.ma K C "__init__")) = some (.type "function")))))))))
/-- all that is asked of such a class -/
structure OexT (K : PySem.W.Frag) (C : Addr) (f : Str) : Prop where
  ox : OexC K C
  no : PySem.W.findIn K (.ref C) f = some none
  xf : XfC K C
  ini : PySem.W.findIn K (.ref C) "__init__" = some (some (.ref (He.ma K C "__init__")))
  fn : PySem.W.typeIn K (.ref (He.ma K C "__init__")) = some (.type "function")
theorem oexB_ok {K : PySem.W.Frag} {C : Addr} {f : Str} (h : oexB K C f = true) : OexT K C f := by
  unfold oexB at h
  simp only [Bool.and_eq_true, decide_eq_true_eq] at h
  obtain ⟨h1, h2, h3, h4, h5, h6, h7, h8, h9⟩ := h
  obtain ⟨nm, qn, N, bs, bm, sn, sub, ab, col, dd, k0, k1, k2, k3, k5, e, hb⟩ := formB_ok h1
  exact ⟨⟨⟨nm, qn, N, bs, bm, sn, sub, ab, col, dd, k0, k1, k2, k3, k5, e, hb⟩, h2, h3, h4, h5⟩, h6, xfB_ok h7, h8, h9⟩
end VH
set_option maxHeartbeats 1000000
/-! VSInQ: a thing in a list or a tuple. -/
namespace VH
open PySem PySem.Spec PyProof.Rows L2
section
variable {X : Cx}
def rInP (K : PySem.W.Frag) (neg : Bool) : R2 := fun x y H Q => ∃ d ds, Dp K H x d ∧ Dp K H y (.tuple ds) ∧ SeqAt.shaped d = true ∧ SeqAt.shaped (.tuple ds) = true ∧ Q (.bl (if neg then !ds.any fun z => PyData.eqv z d else ds.any fun z => PyData.eqv z d)) H
theorem op_inP (hu : X.A.units + 65 < cLine) : OpR X (compareOp .In) (rInP X.K false) := by
  rintro pins s σ H x y v u Q I rx ry ⟨d, ds, hd, he, sd, se, q⟩
  obtain ⟨_, r1⟩ := Dp.reads I d x v hd rx
  obtain ⟨_, r2⟩ := Dp.reads I (.tuple ds) y u he ry
  exact SeqAt.in_tuple_reads r2 r1 (SeqAt.canLay_of_shaped se) (SeqAt.canLay_of_shaped sd) (room_in_shaped sd hu) ⟨.bl _, H, I, rfl, q⟩
theorem op_notInP (hu : X.A.units + 65 < cLine) : OpR X (compareOp .NotIn) (rInP X.K true) := by
  rintro pins s σ H x y v u Q I rx ry ⟨d, ds, hd, he, sd, se, q⟩
  obtain ⟨_, r1⟩ := Dp.reads I d x v hd rx
  obtain ⟨_, r2⟩ := Dp.reads I (.tuple ds) y u he ry
  exact SeqAt.notIn_tuple_reads r2 r1 (SeqAt.canLay_of_shaped se) (SeqAt.canLay_of_shaped sd) (room_in_shaped sd hu) ⟨.bl _, H, I, rfl, q⟩
abbrev rInQ (K : PySem.W.Frag) : R2 := fun x y H Q => rInD K x y H Q ∨ rInP K false x y H Q
abbrev rNotInQ (K : PySem.W.Frag) : R2 := fun x y H Q => rNotInD K x y H Q ∨ rInP K true x y H Q
theorem op_inQ (hu : X.A.units + 65 < cLine) : OpR X (compareOp .In) (rInQ X.K) := (op_inD hu).or (op_inP hu)
theorem op_notInQ (hu : X.A.units + 65 < cLine) : OpR X (compareOp .NotIn) (rNotInQ X.K) := (op_notInD hu).or (op_notInP hu)
end
end VH
namespace VS
open PySem PyProof.Rows L2
section
variable {M : Mn} {W : WD} {b b1 b2 : Bool} {F H F' H' F1 H1 : Hp} {env env' env1 : List D} {σ : L2.St} {S S' S1 T : AS} {pr : Nat → Bool}
/-- a thing in a list or a tuple -/
def inQD (neg : Bool) : D → D → Option D
  | d, .tup o xs => if eqOk 59 d = true ∧ eqOk 60 (.tup o xs) = true then some (.bl (if neg then !(xs.any fun z => decide (nf z = nf d)) else xs.any fun z => decide (nf z = nf d))) else none
  | d, e => inLD neg d e
theorem inP_ok {neg : Bool} {d e z : D} {o : Bool} {xs : List D} {x y : V} {Sx Sy : AS} {Q : V → Hp → Prop} (fh : FH F H) (rx : RO M F H d x Sx) (ry : RO M F H (.tup o xs) y Sy)
    (h : (if eqOk 59 d = true ∧ eqOk 60 (.tup o xs) = true then some (D.bl (if neg then !(xs.any fun z => decide (nf z = nf d)) else xs.any fun z => decide (nf z = nf d))) else none) = some z)
    (k : ∀ v F' H' S', NewR M F H F' H' z v S' → Q v H') : VH.rInP M.K neg x y H Q := by
  split at h
  · rename_i hc
    cases h
    have h2 : eqOks 59 xs = true := by simpa [eqOk] using hc.2
    refine ⟨toPy d, toPys xs, toPy_dp fh 59 d hc.1 rx, toPy_dp fh 60 (.tup o xs) hc.2 ry, toPy_shaped (by decide) hc.1, toPy_shaped (d := .tup o xs) (by decide) hc.2, ?_⟩
    rw [any_eqv hc.1 xs h2]
    exact k _ _ _ _ (NewR.same fh (by simp [RO]))
  · cases h
theorem rn_inQ : RN2 M (VH.rInQ M.K) (inQD false) := by
  intro F H x y d e z Sx Sy Q fh rx ry h k
  unfold inQD at h
  split at h
  · exact .inr (inP_ok (e := .non) fh rx ry h k)
  · exact .inl (rn_inL F H x y d e z Sx Sy Q fh rx ry h k)
theorem rn_notInQ : RN2 M (VH.rNotInQ M.K) (inQD true) := by
  intro F H x y d e z Sx Sy Q fh rx ry h k
  unfold inQD at h
  split at h
  · exact .inr (inP_ok (e := .non) fh rx ry h k)
  · exact .inl (rn_notInL F H x y d e z Sx Sy Q fh rx ry h k)
end
end VS
set_option maxHeartbeats 1000000
/-! VSRevL: a list backwards. -/
namespace VS
open PySem PyProof.Rows L2
section
variable {M : Mn} {W : WD} {b b1 b2 : Bool} {F H F' H' F1 H1 : Hp} {env env' env1 : List D} {σ : L2.St} {S S' S1 T : AS} {pr : Nat → Bool}
def revLD : D → Option D
  | .lst o xs => (lstI (.lst o xs)).map fun ys => .lst true ys.reverse
  | _ => none
def rRevL (K : PySem.W.Frag) : V → Hp → VK → Prop := fun x H Q => ∃ a xs, x = .ref a ∧ SqL K H a xs ∧ ∀ p, H p = none → Q (.ref p) (upd H p (.lst xs.reverse))
theorem rn_revL : RN1 M (rRevL M.K) revLD := by
  intro F H x d z Sx Q fh rx h k
  cases d with
  | lst o xs =>
    simp only [revLD] at h
    cases q : lstI (.lst o xs) with
    | none => rw [q] at h; cases h
    | some ys =>
      rw [q] at h
      cases h
      obtain ⟨a, us, rfl, h1, h2⟩ := lstI_in q rx fh
      exact ⟨a, us, rfl, SqL.of h1, fun p hp => k _ _ _ _ (NewR.lst fh h2.rev hp)⟩
  | _ => cases h
theorem se_revL {te : TE} {f : List D → R Rv} (h : SE M W b te f) : SE M W (b && true) (tRevL M.K te) (una revLD f) := se_un rn_revL h
end
end VS
set_option maxHeartbeats 4000000
namespace G
open PySem PySem.Spec PyProof.Rows L2 VS
noncomputable section
def top (i : Nat) : Stmt := PySem.Challenge.pw_shardread_k11_right_rows.main.body.getD i (.Pass ⟨0, 0, 0, 0⟩)
def tb_PARTNERS : List (List Nat × List Nat) := [([97], [116]), ([99], [103]), ([103], [99]), ([116], [97])]
def ns_SIZES : List Int := [3, 5, 7, 9]
def isx_0 : List (Str × Bool) := [("NoRow", false), ("NoWord", false)]
def isx_1 : List (Str × Bool) := [("NoRow", true), ("NoWord", false)]
def isx_2 : List (Str × Bool) := [("NoRow", false), ("NoWord", false)]
def isx_3 : List (Str × Bool) := [("NoRow", false), ("NoWord", false)]
def isx_4 : List (Str × Bool) := [("NoRow", false), ("NoWord", false)]
def isx_5 : List (Str × Bool) := [("NoRow", false), ("NoWord", true)]
def isx_6 : List (Str × Bool) := [("NoRow", false), ("NoWord", false)]
def isx_7 : List (Str × Bool) := [("NoRow", false), ("NoWord", false)]
def isx_8 : List (Str × Bool) := [("NoRow", false), ("NoWord", false)]
def isx_9 : List (Str × Bool) := [("NoRow", true), ("NoWord", true)]
abbrev nm__law_begun : List Str := ["_law_cell", "_law_k"]
abbrev ps__law_begun : List Str := ["_law_cell", "_law_k"]
abbrev re__law_begun : List Bool := [false, false]
noncomputable def d__law_begun : List D → SR :=
  (retS (prOf re__law_begun) (lstF (consF true (opN (op2 max2D) (consF true (tmpd (.int 0)) (consF true (bin true subD (varF 0) (bin true powD (tmpd (.int 10)) (tmpd (.int 18)))) nilF))) (consF true (bin true addD (varF 0) (bin true mulD (tmpd (.int 977)) (varF 1))) (consF true (tmpd (.int 0)) nilF)))))
noncomputable def F__law_begun : List D → FR := bodyF re__law_begun 0 d__law_begun
abbrev nm__law_next : List Str := ["_law_draw", "_law_size", "_law_found"]
abbrev ps__law_next : List Str := ["_law_draw", "_law_size"]
abbrev re__law_next : List Bool := [false, false]
noncomputable def d__law_next : List D → SR :=
  (seqS (ifS (testF (bin true gtD (bin true itemD (varF 0) (tmpd (.int 0))) (tmpd (.int 0)))) (seqS (asgS (bin true modD (bin true itemD (varF 0) (tmpd (.int 0))) (varF 1)) (nameG 2))
    (seqS (stoS true true (bin true fdivD (bin true itemD (varF 0) (tmpd (.int 0))) (varF 1)) (varF 0) (tmpd (.int 0)))
    (retS (prOf re__law_next) (varF 2)))) nextS)
    (seqS (stoS true true (bin true addD (bin true itemD (varF 0) (tmpd (.int 2))) (tmpd (.int 1))) (varF 0) (tmpd (.int 2)))
    (seqS (asgS (bin true addD (bin true modD (bin true itemD (varF 0) (tmpd (.int 1))) (tmpd (.int 2147483629))) (bin true mulD (tmpd (.int 104729)) (bin true itemD (varF 0) (tmpd (.int 2))))) (nameG 2))
    (seqS (asgS (bin true mulD (varF 2) (bin true addD (bin true addD (bin true modD (bin true itemD (varF 0) (tmpd (.int 1))) (tmpd (.int 2147483587))) (bin true mulD (bin true mulD (tmpd (.int 7919)) (bin true itemD (varF 0) (tmpd (.int 2)))) (bin true itemD (varF 0) (tmpd (.int 2))))) (tmpd (.int 11)))) (nameG 2))
    (retS (prOf re__law_next) (bin true modD (bin true fdivD (bin true modD (bin true powD (varF 2) (tmpd (.int 3))) (tmpd (.int 2147483647))) (tmpd (.int 11))) (varF 1)))))))
noncomputable def F__law_next : List D → FR := bodyF re__law_next 1 d__law_next
abbrev nm__law_pick : List Str := ["_law_draw", "_law_some"]
abbrev ps__law_pick : List Str := ["_law_draw", "_law_some"]
abbrev re__law_pick : List Bool := [false, false]
noncomputable def d__law_pick : List D → SR :=
  (retS (prOf re__law_pick) (bin false itemD (varF 1) (callF F__law_next [] (consF true (varF 0) (consF true (opN (op1 lenAD) (consF true (varF 1) nilF)) nilF)))))
noncomputable def F__law_pick : List D → FR := bodyF re__law_pick 0 d__law_pick
abbrev nm__law_row : List Str := ["_law_draw", "_law_low", "_law_high", "_law_signs", "_law_turn"]
abbrev ps__law_row : List Str := ["_law_draw", "_law_low", "_law_high"]
abbrev re__law_row : List Bool := [false, false, false]
noncomputable def d__law_row : List D → SR :=
  (seqS (asgS (callF F__law_pick [] (consF true (varF 0) (consF true (lstF (consF true (tmpd (.str [97, 99, 103, 116])) (consF true (tmpd (.str [97, 99, 103, 116])) (consF true (tmpd (.str [97, 99])) (consF true (tmpd (.str [97, 116])) (consF true (tmpd (.str [97])) (consF true (tmpd (.str [99, 103, 116])) (consF true (tmpd (.str [103, 103, 103, 116])) nilF)))))))) nilF))) (nameG 3))
    (retS (prOf re__law_row) (m1F joinD (tmpd (.str [])) (lcF (itF (consF true (bin false addD (varF 1) (callF F__law_next [] (consF true (varF 0) (consF true (bin true addD (bin true subD (varF 2) (varF 1)) (tmpd (.int 1))) nilF)))) nilF) rng1K) (nameG 4) (fun env => .ok true env) (callF F__law_pick [] (consF true (varF 0) (consF true (varF 3) nilF))) [4]))))
noncomputable def F__law_row : List D → FR := bodyF re__law_row 2 d__law_row
abbrev nm__law_contrary : List Str := ["_law_row_here", "_law_sign"]
abbrev ps__law_contrary : List Str := ["_law_row_here"]
abbrev re__law_contrary : List Bool := [false]
noncomputable def d__law_contrary : List D → SR :=
  (retS (prOf re__law_contrary) (m1F joinD (tmpd (.str [])) (lcF (seqF (una revSD (varF 0))) (nameG 1) (fun env => .ok true env) (bin true itemD (dispF [[97], [99], [103], [116]] (consF true (tmpd (.str [116])) (consF true (tmpd (.str [103])) (consF true (tmpd (.str [99])) (consF true (tmpd (.str [97])) nilF))))) (varF 1)) [1])))
noncomputable def F__law_contrary : List D → FR := bodyF re__law_contrary 1 d__law_contrary
abbrev nm__law_forms : List Str := ["_law_draw", "_law_many", "_law_row_here", "_law_some", "_law_found", "_law_word_here", "_law_form", "_law_at", "_law_turn", "_law_sign"]
abbrev ps__law_forms : List Str := ["_law_draw", "_law_many"]
abbrev re__law_forms : List Bool := [false, false]
noncomputable def d__law_forms : List D → SR :=
  (seqS (asgS (callF F__law_row [] (consF true (varF 0) (consF true (varF 1) (consF true (bin true addD (varF 1) (tmpd (.int 12))) nilF)))) (nameG 2))
    (seqS (asgS (lcF (itF (consF true (bin true addD (bin true subD (opN (op1 lenAD) (consF true (varF 2) nilF)) (varF 1)) (tmpd (.int 1))) nilF) rng1K) (nameG 7) (fun env => .ok true env) (slLHF true true (varF 2) (varF 7) (bin true addD (varF 7) (varF 1))) [7]) (nameG 3))
    (seqS (asgS (bin false addD (varF 3) (lcF (itF (consF true (callF F__law_next [] (consF true (varF 0) (consF true (tmpd (.int 3)) nilF))) nilF) rng1K) (nameG 8) (fun env => .ok true env) (m1F joinD (tmpd (.str [])) (lcF (itF (consF true (varF 1) nilF) rng1K) (nameG 9) (fun env => .ok true env) (callF F__law_pick [] (consF true (varF 0) (consF true (tmpd (.str [97, 99, 103, 116])) nilF))) [9])) [8])) (nameG 3))
    (seqS (asgS (lstF nilF) (nameG 4))
    (seqS (forS (seqF (varF 3)) (nameG 5) (seqS (asgS (opN (op2 min2D) (consF false (varF 5) (consF true (callF F__law_contrary [] (consF true (varF 5) nilF)) nilF))) (nameG 6))
    (ifS (andF (testF (bin true (inLD true) (varF 6) (varF 4))) (orF (testF (bin true eqD (varF 4) (lstF nilF))) (testF (bin true gtD (callF F__law_next [] (consF true (varF 0) (consF true (tmpd (.int 8)) nilF))) (tmpd (.int 0)))))) (dropS (bmF "list" true apM (varF 4) (consF true (varF 6) nilF))) nextS)))
    (retS (prOf re__law_forms) (ifeF (testF (bin true eqD (callF F__law_next [] (consF true (varF 0) (consF true (tmpd (.int 2)) nilF))) (tmpd (.int 0)))) (una revLD (varF 4)) (varF 4))))))))
noncomputable def F__law_forms : List D → FR := bodyF re__law_forms 8 d__law_forms
abbrev nm_is_list : List Str := ["thing"]
abbrev ps_is_list : List Str := ["thing"]
abbrev re_is_list : List Bool := [false]
noncomputable def d_is_list : List D → SR :=
  (retS (prOf re_is_list) (una (isiTD ["list", "tuple"]) (varF 0)))
noncomputable def F_is_list : List D → FR := bodyF re_is_list 0 d_is_list
abbrev nm_is_number : List Str := ["thing"]
abbrev ps_is_number : List Str := ["thing"]
abbrev re_is_number : List Bool := [false]
noncomputable def d_is_number : List D → SR :=
  (retS (prOf re_is_number) (lorF true (una (isiD "int") (varF 0)) (una notD (una (isiD "bool") (varF 0)))))
noncomputable def F_is_number : List D → FR := bodyF re_is_number 0 d_is_number
abbrev nm_is_size : List Str := ["thing"]
abbrev ps_is_size : List Str := ["thing"]
abbrev re_is_size : List Bool := [false]
noncomputable def d_is_size : List D → SR :=
  (retS (prOf re_is_size) (lorF true (callF F_is_number [] (consF true (varF 0) nilF)) (una (tinD false ns_SIZES) (varF 0))))
noncomputable def F_is_size : List D → FR := bodyF re_is_size 0 d_is_size
abbrev nm_is_row : List Str := ["thing", "sign"]
abbrev ps_is_row : List Str := ["thing"]
abbrev re_is_row : List Bool := [false]
noncomputable def d_is_row : List D → SR :=
  (retS (prOf re_is_row) (lorF true (una (isiD "str") (varF 0)) (opN (op1 allD) (consF true (lcF (seqF (varF 0)) (nameG 1) (fun env => .ok true env) (una (kinD false tb_PARTNERS) (varF 1)) [1]) nilF))))
noncomputable def F_is_row : List D → FR := bodyF re_is_row 1 d_is_row
abbrev nm_need_row : List Str := ["thing", "least"]
abbrev ps_need_row : List Str := ["thing", "least"]
abbrev re_need_row : List Bool := [false, false]
noncomputable def d_need_row : List D → SR :=
  (ifS (orF (notF (truF (callF F_is_row [] (consF true (varF 0) nilF)))) (testF (bin true ltD (opN (op1 lenAD) (consF true (varF 0) nilF)) (varF 1)))) (raiseS "NoRow") nextS)
noncomputable def F_need_row : List D → FR := bodyF re_need_row 0 d_need_row
abbrev nm_contrary : List Str := ["row", "sign"]
abbrev ps_contrary : List Str := ["row"]
abbrev re_contrary : List Bool := [false]
noncomputable def d_contrary : List D → SR :=
  (seqS (dropS (callF F_need_row [.int 0] (consF true (varF 0) nilF)))
    (retS (prOf re_contrary) (m1F joinD (tmpd (.str [])) (lcF (seqF (una revSD (varF 0))) (nameG 1) (fun env => .ok true env) (una (kgetD tb_PARTNERS) (varF 1)) [1]))))
noncomputable def F_contrary : List D → FR := bodyF re_contrary 1 d_contrary
abbrev nm_form_of : List Str := ["row"]
abbrev ps_form_of : List Str := ["row"]
abbrev re_form_of : List Bool := [false]
noncomputable def d_form_of : List D → SR :=
  (retS (prOf re_form_of) (opN (op2 min2D) (consF false (varF 0) (consF true (callF F_contrary [] (consF true (varF 0) nilF)) nilF))))
noncomputable def F_form_of : List D → FR := bodyF re_form_of 0 d_form_of
abbrev nm_is_form : List Str := ["thing", "k"]
abbrev ps_is_form : List Str := ["thing", "k"]
abbrev re_is_form : List Bool := [false, false]
noncomputable def d_is_form : List D → SR :=
  (retS (prOf re_is_form) (lorF true (callF F_is_row [] (consF true (varF 0) nilF)) (lorF true (bin true eqD (opN (op1 lenAD) (consF true (varF 0) nilF)) (varF 1)) (bin true eqD (callF F_form_of [] (consF true (varF 0) nilF)) (varF 0)))))
noncomputable def F_is_form : List D → FR := bodyF re_is_form 0 d_is_form
abbrev nm_need_forms : List Str := ["forms", "k", "met", "form"]
abbrev ps_need_forms : List Str := ["forms"]
abbrev re_need_forms : List Bool := [false]
noncomputable def d_need_forms : List D → SR :=
  (seqS (ifS (orF (notF (truF (callF F_is_list [] (consF true (varF 0) nilF)))) (testF (bin true eqD (opN (op1 lenAD) (consF true (varF 0) nilF)) (tmpd (.int 0))))) (raiseFS "NoWord" (tmpd .non)) nextS)
    (seqS (asgS (ifeF (truF (una (isiD "str") (bin true itemD (varF 0) (tmpd (.int 0))))) (opN (op1 lenAD) (consF true (bin true itemD (varF 0) (tmpd (.int 0))) nilF)) (tmpd (.int 0))) (nameG 1))
    (seqS (asgS (tmpd (.dct true false [] [])) (nameG 2))
    (seqS (forS (seqF (varF 0)) (nameG 3) (seqS (ifS (orF (notF (truF (callF F_is_size [] (consF true (varF 1) nilF)))) (orF (notF (truF (callF F_is_form [] (consF true (varF 3) (consF true (varF 1) nilF))))) (testF (bin true (dinD false) (varF 3) (varF 2))))) (raiseFS "NoWord" (varF 3)) nextS)
    (putS true true (tmpd (.bl true)) (varF 2) (varF 3))))
    (retS (prOf re_need_forms) (varF 1))))))
noncomputable def F_need_forms : List D → FR := bodyF re_need_forms 3 d_need_forms
abbrev nm_words_in : List Str := ["row", "k", "at"]
abbrev ps_words_in : List Str := ["row", "k"]
abbrev re_words_in : List Bool := [false, false]
noncomputable def d_words_in : List D → SR :=
  (retS (prOf re_words_in) (lcF (itF (consF true (bin true addD (bin true subD (opN (op1 lenAD) (consF true (varF 0) nilF)) (varF 1)) (tmpd (.int 1))) nilF) rng1K) (nameG 2) (fun env => .ok true env) (slLHF true true (varF 0) (varF 2) (bin true addD (varF 2) (varF 1))) [2]))
noncomputable def F_words_in : List D → FR := bodyF re_words_in 1 d_words_in
abbrev nm_is_right : List Str := ["forms", "row", "k", "word"]
abbrev ps_is_right : List Str := ["forms", "row"]
abbrev re_is_right : List Bool := [false, false]
noncomputable def d_is_right : List D → SR :=
  (seqS (asgS (callF F_need_forms [] (consF true (varF 0) nilF)) (nameG 2))
    (seqS (dropS (callF F_need_row [] (consF true (varF 1) (consF true (varF 2) nilF))))
    (retS (prOf re_is_right) (opN (op1 allD) (consF true (lcF (seqF (callF F_words_in [] (consF true (varF 1) (consF true (varF 2) nilF)))) (nameG 3) (fun env => .ok true env) (bin true (inQD false) (callF F_form_of [] (consF true (varF 3) nilF)) (varF 0)) [3]) nilF)))))
noncomputable def F_is_right : List D → FR := bodyF re_is_right 2 d_is_right
abbrev nm__law_word : List Str := ["_law_work", "_law_some", "_law_kinds", "_law_caught", "_law_found", "_law_word_here", "_law_there", "e"]
abbrev ps__law_word : List Str := ["_law_work"]
abbrev re__law_word : List Bool := [false]
noncomputable def d__law_word_init : List D → SR :=
  (parS 3 4 (consF true (tmpd .non) (consF true (tmpd .non) nilF)))
noncomputable def d__law_word_rest : List D → SR :=
  (seqS (ifS (testF (bin true isNoneD (varF 3) (tmpd .non))) (retS (prOf re__law_word) (lstF (consF true (varF 4) nilF))) nextS)
    (seqS (asgS (lstF (consF true (tupF (consF true (tmpd (.str [114, 111, 119])) (consF true (una (isyD isx_1) (varF 3)) nilF))) (consF true (tupF (consF true (tmpd (.str [115, 105, 122, 101])) (consF true (una (isyD isx_0) (varF 3)) nilF))) nilF))) (nameG 1))
    (seqS (asgS (bin true addD (varF 1) (lstF (consF true (tupF (consF true (tmpd (.str [112, 105, 101, 99, 101])) (consF true (una (isyD isx_3) (varF 3)) nilF))) (consF true (tupF (consF true (tmpd (.str [116, 101, 120, 116])) (consF true (una (isyD isx_2) (varF 3)) nilF))) nilF)))) (nameG 1))
    (seqS (asgS (bin true addD (varF 1) (lstF (consF true (tupF (consF true (tmpd (.str [119, 111, 114, 100])) (consF true (una (isyD isx_5) (varF 3)) nilF))) (consF true (tupF (consF true (tmpd (.str [114, 105, 110, 103])) (consF true (una (isyD isx_4) (varF 3)) nilF))) nilF)))) (nameG 1))
    (seqS (asgS (bin true addD (varF 1) (lstF (consF true (tupF (consF true (tmpd (.str [110, 97, 109, 101])) (consF true (una (isyD isx_7) (varF 3)) nilF))) (consF true (tupF (consF true (tmpd (.str [100, 101, 101, 100])) (consF true (una (isyD isx_6) (varF 3)) nilF))) nilF)))) (nameG 1))
    (seqS (asgS (bin true addD (varF 1) (lstF (consF true (tupF (consF true (tmpd (.str [111, 116, 104, 101, 114])) (consF true (una (isyD isx_8) (varF 3)) nilF))) nilF))) (nameG 1))
    (seqS (asgS (m1F joinD (tmpd (.str [])) (lcF (seqF (varF 1)) (tupG (consG (nameG 5) (consG (nameG 6) nilG))) (andF (truF (varF 6)) (truF (una (isyD isx_9) (varF 3)))) (varF 5) [5, 6])) (nameG 2))
    (seqS (ifS (testF (bin true eqD (varF 2) (tmpd (.str [112, 105, 101, 99, 101])))) (retS (prOf re__law_word) (tupF (consF true (varF 2) (consF true (fun _ => .stuck) nilF)))) nextS)
    (seqS (ifS (testF (bin true eqD (varF 2) (tmpd (.str [116, 101, 120, 116])))) (retS (prOf re__law_word) (tupF (consF true (varF 2) (consF true (fun _ => .stuck) nilF)))) nextS)
    (retS (prOf re__law_word) (ifeF (testF (bin true eqD (varF 2) (tmpd (.str [119, 111, 114, 100])))) (tupF (consF true (varF 2) (consF true (una (fldD ["NoWord"]) (varF 3)) nilF))) (tupF (consF true (varF 2) (consF true (tmpd .non) nilF))))))))))))))
theorem init__law_word : d__law_word_init (.hole :: List.replicate 7 .unset) = .nx [.hole, .unset, .unset, .non, .non, .unset, .unset, .unset] := rfl
theorem hl__law_word : ∀ e1, d__law_word_init (.hole :: List.replicate 7 .unset) = .nx e1 → 4 < e1.length ∧ 7 < e1.length ∧ 3 < e1.length := fun e1 h => by
  rw [init__law_word] at h
  cases h
  decide
def sub__law_word (c : Str) : Bool := decide (c ∈ (["NoRow", "NoWord"] : List Str))
abbrev nm__law_is_right : List Str := ["_law_forms_here", "_law_row_here", "_law_many", "_law_words", "_law_at", "_law_word_here"]
abbrev ps__law_is_right : List Str := ["_law_forms_here", "_law_row_here"]
abbrev re__law_is_right : List Bool := [false, false]
noncomputable def d__law_is_right : List D → SR :=
  (seqS (asgS (opN (op1 lenAD) (consF true (bin true itemD (varF 0) (tmpd (.int 0))) nilF)) (nameG 2))
    (seqS (asgS (lcF (itF (consF true (bin true addD (bin true subD (opN (op1 lenAD) (consF true (varF 1) nilF)) (varF 2)) (tmpd (.int 1))) nilF) rng1K) (nameG 4) (fun env => .ok true env) (slLHF true true (varF 1) (varF 4) (bin true addD (varF 4) (varF 2))) [4]) (nameG 3))
    (retS (prOf re__law_is_right) (bin true eqD (lcF (seqF (varF 3)) (nameG 5) (testF (bin true (inLD true) (opN (op2 min2D) (consF false (varF 5) (consF true (callF F__law_contrary [] (consF true (varF 5) nilF)) nilF))) (varF 0))) (varF 5) [5]) (lstF nilF)))))
noncomputable def F__law_is_right : List D → FR := bodyF re__law_is_right 4 d__law_is_right
abbrev nm_law : List Str := ["_law_script", "_law_k", "_law_cell", "_law_draw", "_law_many", "_law_forms_here", "_law_turn", "_law_short", "_law_odd", "_law_thing", "_law_row_here", "_law_step", "_law_told", "_law_some", "_law_at", "_law_way", "_law_sign"]
abbrev ps_law : List Str := ["_law_script"]
abbrev re_law : List Bool := [false]
noncomputable def b_law_1 : List D → SR :=
  (seqS (asgS (lcF (seqF (tmpd (.str [97, 99, 103, 116]))) (nameG 16) (truF (callF F__law_is_right [] (consF true (varF 5) (consF true (bin true addD (varF 10) (varF 16)) nilF)))) (bin true addD (varF 10) (varF 16)) [16]) (nameG 13))
    (asgS (ifeF (testF (bin true neD (varF 13) (lstF nilF))) (callF F__law_pick [] (consF true (varF 3) (consF true (varF 13) nilF))) (varF 10)) (nameG 10)))
noncomputable def b_law_2 : List D → SR :=
  (seqS (asgS (callF F__law_pick [] (consF true (varF 3) (consF true (varF 5) nilF))) (nameG 10))
    (seqS (forS (itF (consF true (callF F__law_next [] (consF true (varF 3) (consF true (tmpd (.int 12)) nilF))) nilF) rng1K) (nameG 11) b_law_1)
    (seqS (parS 14 15 (consF false (callF F__law_next [] (consF true (varF 3) (consF true (opN (op1 lenAD) (consF true (varF 10) nilF)) nilF))) (consF true (callF F__law_next [] (consF true (varF 3) (consF true (tmpd (.int 4)) nilF))) nilF)))
    (seqS (ifS (testF (bin true eqD (varF 15) (tmpd (.int 0)))) (asgS (bin true addD (bin false addD (slHF true (varF 10) (varF 14)) (callF F__law_pick [] (consF true (varF 3) (consF true (tmpd (.str [97, 99, 103, 116])) nilF)))) (slLF true (varF 10) (bin true addD (varF 14) (tmpd (.int 1))))) (nameG 10)) (ifS (testF (bin true eqD (varF 15) (tmpd (.int 1)))) (asgS (callF F__law_contrary [] (consF true (varF 10) nilF)) (nameG 10)) (ifS (testF (bin true eqD (varF 15) (tmpd (.int 2)))) (asgS (callF F__law_row [] (consF true (varF 3) (consF true (varF 4) (consF true (bin true addD (varF 4) (tmpd (.int 6))) nilF)))) (nameG 10)) nextS)))
    (seqS (asgS (callF F_is_right [] (consF true (ifeF (testF (bin true eqD (varF 6) (tmpd (.int 3)))) (opN (op1 tuplD) (consF true (varF 5) nilF)) (varF 5)) (consF true (varF 10) nilF))) (nameG 12))
    (ifS (orF (notF (truF (una (isiD "bool") (varF 12)))) (testF (bin false neD (varF 12) (callF F__law_is_right [] (consF true (varF 5) (consF true (varF 10) nilF)))))) (retS (prOf re_law) (tmpd (.bl false))) nextS))))))
noncomputable def b_law_3 : List D → SR :=
  (ifS (testF (bin true neD (lamF 7 3 4 7 sub__law_word d__law_word_init d__law_word_rest (callF F_is_right [] (consF true (varF 5) (consF true (varF 9) nilF)))) (tupF (consF true (tmpd (.str [114, 111, 119])) (consF true (tmpd .non) nilF))))) (retS (prOf re_law) (tmpd (.bl false))) nextS)
noncomputable def b_law_4 : List D → SR :=
  (seqS (asgS (callF F__law_begun [] (consF true (varF 2) (consF true (varF 1) nilF))) (nameG 3))
    (seqS (asgS (callF F__law_pick [] (consF true (varF 3) (consF true (lstF (consF true (tmpd (.int 3)) (consF true (tmpd (.int 3)) (consF true (tmpd (.int 5)) (consF true (tmpd (.int 7)) (consF true (tmpd (.int 9)) nilF)))))) nilF))) (nameG 4))
    (seqS (asgS (callF F__law_forms [] (consF true (varF 3) (consF true (varF 4) nilF))) (nameG 5))
    (seqS (forS (itF (consF true (tmpd (.int 6)) nilF) rng1K) (nameG 6) b_law_2)
    (seqS (asgS (callF F__law_row [] (consF true (varF 3) (consF true (tmpd (.int 0)) (consF true (bin true subD (varF 4) (tmpd (.int 1))) nilF)))) (nameG 7))
    (seqS (asgS (callF F__law_pick [] (consF true (varF 3) (consF true (lstF (consF true (tmpd .non) (consF true (tmpd (.int 5)) (consF true (lstF (consF true (tmpd (.str [97, 99, 103])) nilF)) (consF true (tmpd (.str [97, 99, 120])) (consF true (tmpd (.str [])) (consF true (tmpd (.bl true)) nilF))))))) nilF))) (nameG 8))
    (seqS (forS (seqF (tupF (consF true (varF 7) (consF true (varF 8) nilF)))) (nameG 9) b_law_3)
    (ifS (testF (bin true neD (lamF 7 3 4 7 sub__law_word d__law_word_init d__law_word_rest (callF F_is_right [] (consF true (lstF nilF) (consF true (varF 8) nilF)))) (tupF (consF true (tmpd (.str [119, 111, 114, 100])) (consF true (tmpd .non) nilF))))) (retS (prOf re_law) (tmpd (.bl false))) nextS))))))))
noncomputable def d_law : List D → SR :=
  (seqS (forS (itZ (consF true (slHF true (lorF false (varF 0) (lstF (consF true (tmpd (.int 5)) nilF))) (tmpd (.int 10))) nilF) enumBK) (tupG (consG (nameG 1) (consG (nameG 2) nilG))) b_law_4)
    (retS (prOf re_law) (tmpd (.bl true))))
noncomputable def F_law : List D → FR := bodyF re_law 16 d_law
end
end G
namespace G
open PySem PySem.Spec PyProof.Rows L2 VS
abbrev s__law_begun : Stmt := top 32
abbrev s__law_next : Stmt := top 33
abbrev s__law_pick : Stmt := top 34
abbrev s__law_row : Stmt := top 35
abbrev s__law_contrary : Stmt := top 36
abbrev s__law_forms : Stmt := top 38
abbrev s_is_list : Stmt := top 20
abbrev s_is_number : Stmt := top 19
abbrev s_is_size : Stmt := top 23
abbrev s_is_row : Stmt := top 21
abbrev s_need_row : Stmt := top 22
abbrev s_contrary : Stmt := top 24
abbrev s_form_of : Stmt := top 25
abbrev s_is_form : Stmt := top 28
abbrev s_need_forms : Stmt := top 29
abbrev s_words_in : Stmt := top 26
abbrev s_is_right : Stmt := top 30
abbrev s__law_word : Stmt := top 37
abbrev s__law_is_right : Stmt := top 39
abbrev s_law : Stmt := top 40
def clsB : Stmt → List Stmt
  | .ClassDef _ _ _ b _ _ _ _ _ _ _ => b
  | _ => []
abbrev i_NoWord : Stmt := (clsB (top 6)).getD 0 (.Pass ⟨0, 0, 0, 0⟩)
abbrev nmi_NoWord : List Str := ["self", "word"]
abbrev mn (K : PySem.W.Frag) : Mn := { K := K, cm := fun c => He.ga K c, en := fun c => if c = "NoWord" then "word" else c, tabs := [(He.tabOf K (He.codeOf K ("law", none)), Str.ofString "law" ++ ".<locals>." ++ "<lambda>")] }
abbrev dv__law_begun : List He.Dv := []
abbrev dd__law_begun (K : PySem.W.Frag) : List V := dv__law_begun.map (He.Dv.v K)
abbrev dv__law_next : List He.Dv := []
abbrev dd__law_next (K : PySem.W.Frag) : List V := dv__law_next.map (He.Dv.v K)
abbrev dv__law_pick : List He.Dv := []
abbrev dd__law_pick (K : PySem.W.Frag) : List V := dv__law_pick.map (He.Dv.v K)
abbrev dv__law_row : List He.Dv := []
abbrev dd__law_row (K : PySem.W.Frag) : List V := dv__law_row.map (He.Dv.v K)
abbrev dv__law_contrary : List He.Dv := []
abbrev dd__law_contrary (K : PySem.W.Frag) : List V := dv__law_contrary.map (He.Dv.v K)
abbrev dv__law_forms : List He.Dv := []
abbrev dd__law_forms (K : PySem.W.Frag) : List V := dv__law_forms.map (He.Dv.v K)
abbrev dv_is_list : List He.Dv := []
abbrev dd_is_list (K : PySem.W.Frag) : List V := dv_is_list.map (He.Dv.v K)
abbrev dv_is_number : List He.Dv := []
abbrev dd_is_number (K : PySem.W.Frag) : List V := dv_is_number.map (He.Dv.v K)
abbrev dv_is_size : List He.Dv := []
abbrev dd_is_size (K : PySem.W.Frag) : List V := dv_is_size.map (He.Dv.v K)
abbrev dv_is_row : List He.Dv := []
abbrev dd_is_row (K : PySem.W.Frag) : List V := dv_is_row.map (He.Dv.v K)
abbrev dv_need_row : List He.Dv := [.int 0]
abbrev dd_need_row (K : PySem.W.Frag) : List V := dv_need_row.map (He.Dv.v K)
abbrev dv_contrary : List He.Dv := []
abbrev dd_contrary (K : PySem.W.Frag) : List V := dv_contrary.map (He.Dv.v K)
abbrev dv_form_of : List He.Dv := []
abbrev dd_form_of (K : PySem.W.Frag) : List V := dv_form_of.map (He.Dv.v K)
abbrev dv_is_form : List He.Dv := []
abbrev dd_is_form (K : PySem.W.Frag) : List V := dv_is_form.map (He.Dv.v K)
abbrev dv_need_forms : List He.Dv := []
abbrev dd_need_forms (K : PySem.W.Frag) : List V := dv_need_forms.map (He.Dv.v K)
abbrev dv_words_in : List He.Dv := []
abbrev dd_words_in (K : PySem.W.Frag) : List V := dv_words_in.map (He.Dv.v K)
abbrev dv_is_right : List He.Dv := []
abbrev dd_is_right (K : PySem.W.Frag) : List V := dv_is_right.map (He.Dv.v K)
abbrev dv__law_word : List He.Dv := []
abbrev dd__law_word (K : PySem.W.Frag) : List V := dv__law_word.map (He.Dv.v K)
abbrev dv__law_is_right : List He.Dv := []
abbrev dd__law_is_right (K : PySem.W.Frag) : List V := dv__law_is_right.map (He.Dv.v K)
abbrev dv_law : List He.Dv := []
abbrev dd_law (K : PySem.W.Frag) : List V := dv_law.map (He.Dv.v K)
structure Tx (K : PySem.W.Frag) (w : World) (mg : Str → Option Value) : Prop where
  n_ValueError : mg "ValueError" = none
  n_all : mg "all" = none
  n_bool : mg "bool" = none
  n_enumerate : mg "enumerate" = none
  n_int : mg "int" = none
  n_isinstance : mg "isinstance" = none
  n_len : mg "len" = none
  n_list : mg "list" = none
  n_max : mg "max" = none
  n_min : mg "min" = none
  n_range : mg "range" = none
  n_str : mg "str" = none
  n_tuple : mg "tuple" = none
  g__law_begun : mg "_law_begun" = some (.ref (He.ga K "_law_begun"))
  d__law_begun : ∃ fd, FunD K "_law_begun" "_law_begun" (defArgs s__law_begun) (defBody s__law_begun) (defScope s__law_begun) (dd__law_begun K) [] (He.ga K "_law_begun") fd
  g__law_next : mg "_law_next" = some (.ref (He.ga K "_law_next"))
  d__law_next : ∃ fd, FunD K "_law_next" "_law_next" (defArgs s__law_next) (defBody s__law_next) (defScope s__law_next) (dd__law_next K) [] (He.ga K "_law_next") fd
  g__law_pick : mg "_law_pick" = some (.ref (He.ga K "_law_pick"))
  d__law_pick : ∃ fd, FunD K "_law_pick" "_law_pick" (defArgs s__law_pick) (defBody s__law_pick) (defScope s__law_pick) (dd__law_pick K) [] (He.ga K "_law_pick") fd
  g__law_row : mg "_law_row" = some (.ref (He.ga K "_law_row"))
  d__law_row : ∃ fd, FunD K "_law_row" "_law_row" (defArgs s__law_row) (defBody s__law_row) (defScope s__law_row) (dd__law_row K) [] (He.ga K "_law_row") fd
  g__law_contrary : mg "_law_contrary" = some (.ref (He.ga K "_law_contrary"))
  d__law_contrary : ∃ fd, FunD K "_law_contrary" "_law_contrary" (defArgs s__law_contrary) (defBody s__law_contrary) (defScope s__law_contrary) (dd__law_contrary K) [] (He.ga K "_law_contrary") fd
  g__law_forms : mg "_law_forms" = some (.ref (He.ga K "_law_forms"))
  d__law_forms : ∃ fd, FunD K "_law_forms" "_law_forms" (defArgs s__law_forms) (defBody s__law_forms) (defScope s__law_forms) (dd__law_forms K) [] (He.ga K "_law_forms") fd
  g_is_list : mg "is_list" = some (.ref (He.ga K "is_list"))
  d_is_list : ∃ fd, FunD K "is_list" "is_list" (defArgs s_is_list) (defBody s_is_list) (defScope s_is_list) (dd_is_list K) [] (He.ga K "is_list") fd
  g_is_number : mg "is_number" = some (.ref (He.ga K "is_number"))
  d_is_number : ∃ fd, FunD K "is_number" "is_number" (defArgs s_is_number) (defBody s_is_number) (defScope s_is_number) (dd_is_number K) [] (He.ga K "is_number") fd
  g_is_size : mg "is_size" = some (.ref (He.ga K "is_size"))
  d_is_size : ∃ fd, FunD K "is_size" "is_size" (defArgs s_is_size) (defBody s_is_size) (defScope s_is_size) (dd_is_size K) [] (He.ga K "is_size") fd
  g_is_row : mg "is_row" = some (.ref (He.ga K "is_row"))
  d_is_row : ∃ fd, FunD K "is_row" "is_row" (defArgs s_is_row) (defBody s_is_row) (defScope s_is_row) (dd_is_row K) [] (He.ga K "is_row") fd
  g_need_row : mg "need_row" = some (.ref (He.ga K "need_row"))
  d_need_row : ∃ fd, FunD K "need_row" "need_row" (defArgs s_need_row) (defBody s_need_row) (defScope s_need_row) (dd_need_row K) [] (He.ga K "need_row") fd
  g_contrary : mg "contrary" = some (.ref (He.ga K "contrary"))
  d_contrary : ∃ fd, FunD K "contrary" "contrary" (defArgs s_contrary) (defBody s_contrary) (defScope s_contrary) (dd_contrary K) [] (He.ga K "contrary") fd
  g_form_of : mg "form_of" = some (.ref (He.ga K "form_of"))
  d_form_of : ∃ fd, FunD K "form_of" "form_of" (defArgs s_form_of) (defBody s_form_of) (defScope s_form_of) (dd_form_of K) [] (He.ga K "form_of") fd
  g_is_form : mg "is_form" = some (.ref (He.ga K "is_form"))
  d_is_form : ∃ fd, FunD K "is_form" "is_form" (defArgs s_is_form) (defBody s_is_form) (defScope s_is_form) (dd_is_form K) [] (He.ga K "is_form") fd
  g_need_forms : mg "need_forms" = some (.ref (He.ga K "need_forms"))
  d_need_forms : ∃ fd, FunD K "need_forms" "need_forms" (defArgs s_need_forms) (defBody s_need_forms) (defScope s_need_forms) (dd_need_forms K) [] (He.ga K "need_forms") fd
  g_words_in : mg "words_in" = some (.ref (He.ga K "words_in"))
  d_words_in : ∃ fd, FunD K "words_in" "words_in" (defArgs s_words_in) (defBody s_words_in) (defScope s_words_in) (dd_words_in K) [] (He.ga K "words_in") fd
  g_is_right : mg "is_right" = some (.ref (He.ga K "is_right"))
  d_is_right : ∃ fd, FunD K "is_right" "is_right" (defArgs s_is_right) (defBody s_is_right) (defScope s_is_right) (dd_is_right K) [] (He.ga K "is_right") fd
  g__law_word : mg "_law_word" = some (.ref (He.ga K "_law_word"))
  d__law_word : ∃ fd, FunD K "_law_word" "_law_word" (defArgs s__law_word) (defBody s__law_word) (defScope s__law_word) (dd__law_word K) [] (He.ga K "_law_word") fd
  g__law_is_right : mg "_law_is_right" = some (.ref (He.ga K "_law_is_right"))
  d__law_is_right : ∃ fd, FunD K "_law_is_right" "_law_is_right" (defArgs s__law_is_right) (defBody s__law_is_right) (defScope s__law_is_right) (dd__law_is_right K) [] (He.ga K "_law_is_right") fd
  g_law : mg "law" = some (.ref (He.ga K "law"))
  d_law : ∃ fd, FunD K "law" "law" (defArgs s_law) (defBody s_law) (defScope s_law) (dd_law K) [] (He.ga K "law") fd
  g_PARTNERS : mg "PARTNERS" = some (.ref (He.ga K "PARTNERS"))
  g_SIZES : mg "SIZES" = some (.ref (He.ga K "SIZES"))
  t_PARTNERS : KTab K (He.ga K "PARTNERS") tb_PARTNERS
  kd_PARTNERS : ∃ es n, KDict K w (He.ga K "PARTNERS") es n
  t_SIZES : KInts K (He.ga K "SIZES") ns_SIZES
  g_NoColumn : mg "NoColumn" = some (.ref (He.ga K "NoColumn"))
  g_NoDeed : mg "NoDeed" = some (.ref (He.ga K "NoDeed"))
  g_NoLayout : mg "NoLayout" = some (.ref (He.ga K "NoLayout"))
  g_NoLink : mg "NoLink" = some (.ref (He.ga K "NoLink"))
  g_NoName : mg "NoName" = some (.ref (He.ga K "NoName"))
  g_NoPatch : mg "NoPatch" = some (.ref (He.ga K "NoPatch"))
  g_NoPiece : mg "NoPiece" = some (.ref (He.ga K "NoPiece"))
  g_NoRing : mg "NoRing" = some (.ref (He.ga K "NoRing"))
  g_NoRow : mg "NoRow" = some (.ref (He.ga K "NoRow"))
  g_NoSight : mg "NoSight" = some (.ref (He.ga K "NoSight"))
  g_NoSize : mg "NoSize" = some (.ref (He.ga K "NoSize"))
  g_NoText : mg "NoText" = some (.ref (He.ga K "NoText"))
  g_NoWord : mg "NoWord" = some (.ref (He.ga K "NoWord"))
  g_ShardError : mg "ShardError" = some (.ref (He.ga K "ShardError"))
  g_Twice : mg "Twice" = some (.ref (He.ga K "Twice"))
  xe_NoRow : PySem.W.excIn K (He.ga K "NoRow") He.veBase "ValueError.__new__" = true ∧ PySem.W.keepIn K (.ref (He.ga K "NoRow")) = true ∧ PySem.W.subIn K (.ref (He.ga K "NoRow")) (.type "BaseException") = some true ∧ PySem.W.typeIn K (.ref (He.ga K "NoRow")) = some (.type "type")
  xm_NoRow : PySem.W.exmOne K (.ref (He.ga K "NoRow")) (.ref (He.ga K "ShardError")) = some true
  xf_NoWord : VH.OexT K (He.ga K "NoWord") "word"
  xm_NoWord : PySem.W.exmOne K (.ref (He.ga K "NoWord")) (.ref (He.ga K "ShardError")) = some true
  di_NoWord : ∃ fd, FunD K "__init__" "NoWord.__init__" (defArgs i_NoWord) (defBody i_NoWord) (defScope i_NoWord) [] [] (He.ma K (He.ga K "NoWord") "__init__") fd
  x_0 : ∀ p ∈ isx_0, ExcC K (He.ga K p.1) ∧ PySem.W.kitOne K (.ref (He.ga K p.1)) (.ref (He.ga K "NoSize")) = some p.2
  x_1 : ∀ p ∈ isx_1, ExcC K (He.ga K p.1) ∧ PySem.W.kitOne K (.ref (He.ga K p.1)) (.ref (He.ga K "NoRow")) = some p.2
  x_2 : ∀ p ∈ isx_2, ExcC K (He.ga K p.1) ∧ PySem.W.kitOne K (.ref (He.ga K p.1)) (.ref (He.ga K "NoText")) = some p.2
  x_3 : ∀ p ∈ isx_3, ExcC K (He.ga K p.1) ∧ PySem.W.kitOne K (.ref (He.ga K p.1)) (.ref (He.ga K "NoPiece")) = some p.2
  x_4 : ∀ p ∈ isx_4, ExcC K (He.ga K p.1) ∧ PySem.W.kitOne K (.ref (He.ga K p.1)) (.ref (He.ga K "NoRing")) = some p.2
  x_5 : ∀ p ∈ isx_5, ExcC K (He.ga K p.1) ∧ PySem.W.kitOne K (.ref (He.ga K p.1)) (.ref (He.ga K "NoWord")) = some p.2
  x_6 : ∀ p ∈ isx_6, ExcC K (He.ga K p.1) ∧ PySem.W.kitOne K (.ref (He.ga K p.1)) (.ref (He.ga K "NoDeed")) = some p.2
  x_7 : ∀ p ∈ isx_7, ExcC K (He.ga K p.1) ∧ PySem.W.kitAny K (.ref (He.ga K p.1)) [.ref (He.ga K "NoName"), .ref (He.ga K "Twice")] = some p.2
  x_8 : ∀ p ∈ isx_8, ExcC K (He.ga K p.1) ∧ PySem.W.kitAny K (.ref (He.ga K p.1)) [.ref (He.ga K "NoColumn"), .ref (He.ga K "NoLink"), .ref (He.ga K "NoLayout"), .ref (He.ga K "NoPatch"), .ref (He.ga K "NoSight")] = some p.2
  x_9 : ∀ p ∈ isx_9, ExcC K (He.ga K p.1) ∧ PySem.W.kitOne K (.ref (He.ga K p.1)) (.type "ValueError") = some p.2
section
variable {P : Program} {w : World} {K : PySem.W.Frag} {mg : Str → Option Value} {base : Heap}
theorem en_NoWord : (mn K).en "NoWord" = "word" := by rfl
theorem sci_NoWord : FnScope nmi_NoWord nmi_NoWord (defScope i_NoWord) := ⟨rfl, rfl, rfl, by decide +kernel, rfl, by decide +kernel, by decide +kernel⟩
theorem bdi_NoWord {fd : FuncData} (F : FunD K "__init__" "NoWord.__init__" (defArgs i_NoWord) (defBody i_NoWord) (defScope i_NoWord) [] [] (He.ma K (He.ga K "NoWord") "__init__") fd) : Binds K fd nmi_NoWord [] :=
  FunD.bindsN (ps := nmi_NoWord) F fun _ _ _ _ _ _ us hl => match us, hl with | [_, _], _ => rfl
theorem oki_NoWord (T : Tx K w mg) {fd : FuncData} (F : FunD K "__init__" "NoWord.__init__" (defArgs i_NoWord) (defBody i_NoWord) (defScope i_NoWord) [] [] (He.ma K (He.ga K "NoWord") "__init__") fd) : FnOk P w K mg base (L2.CX P w) 1 (He.ma K (He.ga K "NoWord") "__init__") fd nmi_NoWord (VH.spI (He.ga K "NoWord") ((mn K).en "NoWord")) := by
  rw [en_NoWord]
  exact VH.init_ok T.xf_NoWord.ox T.xf_NoWord.no F sci_NoWord rfl rfl fun cdv A outer s H E => pss_one (ps_ost (pv 0) (pv 1))
theorem lf_word (T : Tx K w mg) : ∀ c ∈ (["NoWord"] : List Str), XfC (mn K).K ((mn K).cm c) ∧ PySem.W.findIn (mn K).K (.ref ((mn K).cm c)) "word" = some none ∧ (mn K).en c = "word" := fun c h => by
  simp only [List.mem_cons, List.not_mem_nil, or_false] at h
  rcases h with rfl
  · exact ⟨T.xf_NoWord.xf, T.xf_NoWord.no, en_NoWord⟩
theorem sc__law_begun : FnScope nm__law_begun ps__law_begun (defScope s__law_begun) := ⟨rfl, rfl, rfl, by decide +kernel, rfl, by decide +kernel, by decide +kernel⟩
theorem bd__law_begun {fd : FuncData} (F : FunD K "_law_begun" "_law_begun" (defArgs s__law_begun) (defBody s__law_begun) (defScope s__law_begun) (dd__law_begun K) [] (He.ga K "_law_begun") fd) : Binds K fd ps__law_begun [] :=
  FunD.bindsN (ps := ps__law_begun) F fun _ _ _ _ _ _ us hl => match us, hl with | [_, _], _ => rfl
theorem ok__law_begun (T : Tx K w mg) {fd : FuncData} (F : FunD K "_law_begun" "_law_begun" (defArgs s__law_begun) (defBody s__law_begun) (defScope s__law_begun) (dd__law_begun K) [] (He.ga K "_law_begun") fd) :
    FnOk P w K mg base (L2.CX P w) 1 (He.ga K "_law_begun") fd ps__law_begun (spD (mn K) F__law_begun) := by
  obtain ⟨_, _, kd_PARTNERS⟩ := T.kd_PARTNERS
  have sc := sc__law_begun
  refine fnD (M := mn K) (m := 0) (re := re__law_begun) (f := d__law_begun) F sc rfl rfl fun cdv A outer s H E hr => ?_
  have tk := takes_of (X := cxOf (L2.CX P w) P w K mg base nm__law_begun "_law_begun" (defScope s__law_begun) (He.ga K "_law_begun") cdv A outer s H E) (E := E) rfl rfl rfl rfl
  refine ⟨_, ?_, (ss_ret (se_lst (sa_cons (se_cb rn_max2 (sa_cons se_int (sa_cons (se_op rn_sub (se_var 0) (se_op rn_pow se_int se_int)) sa_nil))) (sa_cons (se_op rn_add (se_var 0) (se_op rn_mul se_int (se_var 1))) (sa_cons se_int sa_nil)))))⟩
  exact (pss_one (ps_ret (pe_lst (pa_cons (pe_callB (call_max2A rfl) (by rfl) T.n_max (by decide +kernel) (pa_cons pe_int (pa_cons (pe_op op_sub (pv 0) (pe_op op_pow pe_int pe_int)) pa_nil))) (pa_cons (pe_op op_addA (pv 0) (pe_op op_mulA pe_int (pv 1))) (pa_cons pe_int pa_nil))))))
theorem sc__law_next : FnScope nm__law_next ps__law_next (defScope s__law_next) := ⟨rfl, rfl, rfl, by decide +kernel, rfl, by decide +kernel, by decide +kernel⟩
theorem bd__law_next {fd : FuncData} (F : FunD K "_law_next" "_law_next" (defArgs s__law_next) (defBody s__law_next) (defScope s__law_next) (dd__law_next K) [] (He.ga K "_law_next") fd) : Binds K fd ps__law_next [] :=
  FunD.bindsN (ps := ps__law_next) F fun _ _ _ _ _ _ us hl => match us, hl with | [_, _], _ => rfl
theorem ok__law_next (T : Tx K w mg) {fd : FuncData} (F : FunD K "_law_next" "_law_next" (defArgs s__law_next) (defBody s__law_next) (defScope s__law_next) (dd__law_next K) [] (He.ga K "_law_next") fd) :
    FnOk P w K mg base (L2.CX P w) 1 (He.ga K "_law_next") fd ps__law_next (spD (mn K) F__law_next) := by
  obtain ⟨_, _, kd_PARTNERS⟩ := T.kd_PARTNERS
  have sc := sc__law_next
  refine fnD (M := mn K) (m := 1) (re := re__law_next) (f := d__law_next) F sc rfl rfl fun cdv A outer s H E hr => ?_
  have tk := takes_of (X := cxOf (L2.CX P w) P w K mg base nm__law_next "_law_next" (defScope s__law_next) (He.ga K "_law_next") cdv A outer s H E) (E := E) rfl rfl rfl rfl
  refine ⟨_, ?_, (ss_seq (ss_if (st_test (se_op rn_cmpA (se_item (se_var 0) se_int) se_int)) (ss_seq (ss_asg (se_op rn_mod (se_item (se_var 0) se_int) (se_var 1)) (sg_name 2))
    (ss_seq (ss_sto (se_op rn_fdiv (se_item (se_var 0) se_int) (se_var 1)) (se_var 0) se_int)
    (ss_ret (se_var 2)))) ss_next)
    (ss_seq (ss_sto (se_op rn_add (se_item (se_var 0) se_int) se_int) (se_var 0) se_int)
    (ss_seq (ss_asg (se_op rn_add (se_op rn_mod (se_item (se_var 0) se_int) se_int) (se_op rn_mul se_int (se_item (se_var 0) se_int))) (sg_name 2))
    (ss_seq (ss_asg (se_op rn_mul (se_var 2) (se_op rn_add (se_op rn_add (se_op rn_mod (se_item (se_var 0) se_int) se_int) (se_op rn_mul (se_op rn_mul se_int (se_item (se_var 0) se_int)) (se_item (se_var 0) se_int))) se_int)) (sg_name 2))
    (ss_ret (se_op rn_mod (se_op rn_fdiv (se_op rn_mod (se_op rn_pow (se_var 2) se_int) se_int) se_int) (se_var 1)))))))⟩
  exact (pss_cons (ps_if (pt_cmpR op_gtA (PyV.pe_or (pe_ix ix_seq (pv 0) pe_int (fun _ _ => rfl)) (pe_dget (hu_of hr) (pv 0) pe_int (fun _ _ => rfl))) pe_int (nomark _)) (pss_cons (ps_set (i := 2) sc.nd rfl (by first | exact Or.inl rfl | exact Or.inr rfl) (pe_op op_mod (PyV.pe_or (pe_ix ix_seq (pv 0) pe_int (fun _ _ => rfl)) (pe_dget (hu_of hr) (pv 0) pe_int (fun _ _ => rfl))) (pv 1)))
    (pss_cons (PyV.ps_or (ps_asg (pe_op op_fdiv (PyV.pe_or (pe_ix ix_seq (pv 0) pe_int (fun _ _ => rfl)) (pe_dget (hu_of hr) (pv 0) pe_int (fun _ _ => rfl))) (pv 1)) (pg_sub (pv 0) pe_int set_list (by intro _; rfl))) (ps_dput (hu_of hr) (pv 0) pe_int (pe_op op_fdiv (PyV.pe_or (pe_ix ix_seq (pv 0) pe_int (fun _ _ => rfl)) (pe_dget (hu_of hr) (pv 0) pe_int (fun _ _ => rfl))) (pv 1)) (by rfl)))
    (pss_one (ps_ret (pv 2))))) pss_nil)
    (pss_cons (PyV.ps_or (ps_asg (pe_op op_addA (PyV.pe_or (pe_ix ix_seq (pv 0) pe_int (fun _ _ => rfl)) (pe_dget (hu_of hr) (pv 0) pe_int (fun _ _ => rfl))) pe_int) (pg_sub (pv 0) pe_int set_list (by intro _; rfl))) (ps_dput (hu_of hr) (pv 0) pe_int (pe_op op_addA (PyV.pe_or (pe_ix ix_seq (pv 0) pe_int (fun _ _ => rfl)) (pe_dget (hu_of hr) (pv 0) pe_int (fun _ _ => rfl))) pe_int) (by rfl)))
    (pss_cons (ps_set (i := 2) sc.nd rfl (by first | exact Or.inl rfl | exact Or.inr rfl) (pe_op op_addA (pe_op op_mod (PyV.pe_or (pe_ix ix_seq (pv 0) pe_int (fun _ _ => rfl)) (pe_dget (hu_of hr) (pv 0) pe_int (fun _ _ => rfl))) pe_int) (pe_op op_mulA pe_int (PyV.pe_or (pe_ix ix_seq (pv 0) pe_int (fun _ _ => rfl)) (pe_dget (hu_of hr) (pv 0) pe_int (fun _ _ => rfl))))))
    (pss_cons (ps_set (i := 2) sc.nd rfl (by first | exact Or.inl rfl | exact Or.inr rfl) (pe_op op_mulA (pv 2) (pe_op op_addA (pe_op op_addA (pe_op op_mod (PyV.pe_or (pe_ix ix_seq (pv 0) pe_int (fun _ _ => rfl)) (pe_dget (hu_of hr) (pv 0) pe_int (fun _ _ => rfl))) pe_int) (pe_op op_mulA (pe_op op_mulA pe_int (PyV.pe_or (pe_ix ix_seq (pv 0) pe_int (fun _ _ => rfl)) (pe_dget (hu_of hr) (pv 0) pe_int (fun _ _ => rfl)))) (PyV.pe_or (pe_ix ix_seq (pv 0) pe_int (fun _ _ => rfl)) (pe_dget (hu_of hr) (pv 0) pe_int (fun _ _ => rfl))))) pe_int)))
    (pss_one (ps_ret (pe_op op_mod (pe_op op_fdiv (pe_op op_mod (pe_op op_pow (pv 2) pe_int) pe_int) pe_int) (pv 1))))))))
theorem sc__law_pick : FnScope nm__law_pick ps__law_pick (defScope s__law_pick) := ⟨rfl, rfl, rfl, by decide +kernel, rfl, by decide +kernel, by decide +kernel⟩
theorem bd__law_pick {fd : FuncData} (F : FunD K "_law_pick" "_law_pick" (defArgs s__law_pick) (defBody s__law_pick) (defScope s__law_pick) (dd__law_pick K) [] (He.ga K "_law_pick") fd) : Binds K fd ps__law_pick [] :=
  FunD.bindsN (ps := ps__law_pick) F fun _ _ _ _ _ _ us hl => match us, hl with | [_, _], _ => rfl
theorem ok__law_pick (T : Tx K w mg) {fd : FuncData} (F : FunD K "_law_pick" "_law_pick" (defArgs s__law_pick) (defBody s__law_pick) (defScope s__law_pick) (dd__law_pick K) [] (He.ga K "_law_pick") fd) :
    FnOk P w K mg base (L2.CX P w) 2 (He.ga K "_law_pick") fd ps__law_pick (spD (mn K) F__law_pick) := by
  obtain ⟨fd__law_next, F__law_next⟩ := T.d__law_next
  have G__law_next := ok__law_next (P := P) (base := base) T F__law_next
  have b__law_next := bd__law_next F__law_next
  obtain ⟨_, _, kd_PARTNERS⟩ := T.kd_PARTNERS
  have sc := sc__law_pick
  refine fnD (M := mn K) (m := 0) (re := re__law_pick) (f := d__law_pick) F sc rfl rfl fun cdv A outer s H E hr => ?_
  have tk := takes_of (X := cxOf (L2.CX P w) P w K mg base nm__law_pick "_law_pick" (defScope s__law_pick) (He.ga K "_law_pick") cdv A outer s H E) (E := E) rfl rfl rfl rfl
  refine ⟨_, ?_, (ss_ret (se_item (se_var 1) (se_call (dd := []) (dvs := []) (sa_cons (se_var 0) (sa_cons (se_cb rn_lenB (sa_cons (se_var 1) sa_nil)) sa_nil)) (fun _ _ => ros_nil))))⟩
  exact (pss_one (ps_ret (PyV.pe_or (pe_ix ix_seq (pv 1) (pe_callSD G__law_next (hr.mono (by decide)) (by rfl) T.g__law_next F__law_next.kp b__law_next .nil (passAt tk) (pa_cons (pv 0) (pa_cons (pe_callB call_lenB (by rfl) T.n_len (by decide +kernel) (pa_cons (pv 1) pa_nil)) pa_nil))) (fun _ _ => rfl)) (pe_dget (hu_of hr) (pv 1) (pe_callSD G__law_next (hr.mono (by decide)) (by rfl) T.g__law_next F__law_next.kp b__law_next .nil (passAt tk) (pa_cons (pv 0) (pa_cons (pe_callB call_lenB (by rfl) T.n_len (by decide +kernel) (pa_cons (pv 1) pa_nil)) pa_nil))) (fun _ _ => rfl)))))
theorem sc__law_row : FnScope nm__law_row ps__law_row (defScope s__law_row) := ⟨rfl, rfl, rfl, by decide +kernel, rfl, by decide +kernel, by decide +kernel⟩
theorem bd__law_row {fd : FuncData} (F : FunD K "_law_row" "_law_row" (defArgs s__law_row) (defBody s__law_row) (defScope s__law_row) (dd__law_row K) [] (He.ga K "_law_row") fd) : Binds K fd ps__law_row [] :=
  FunD.bindsN (ps := ps__law_row) F fun _ _ _ _ _ _ us hl => match us, hl with | [_, _, _], _ => rfl
theorem ok__law_row (T : Tx K w mg) {fd : FuncData} (F : FunD K "_law_row" "_law_row" (defArgs s__law_row) (defBody s__law_row) (defScope s__law_row) (dd__law_row K) [] (He.ga K "_law_row") fd) :
    FnOk P w K mg base (L2.CX P w) 3 (He.ga K "_law_row") fd ps__law_row (spD (mn K) F__law_row) := by
  obtain ⟨fd__law_pick, F__law_pick⟩ := T.d__law_pick
  have G__law_pick := ok__law_pick (P := P) (base := base) T F__law_pick
  have b__law_pick := bd__law_pick F__law_pick
  obtain ⟨fd__law_next, F__law_next⟩ := T.d__law_next
  have G__law_next := ok__law_next (P := P) (base := base) T F__law_next
  have b__law_next := bd__law_next F__law_next
  obtain ⟨_, _, kd_PARTNERS⟩ := T.kd_PARTNERS
  have sc := sc__law_row
  refine fnD (M := mn K) (m := 2) (re := re__law_row) (f := d__law_row) F sc rfl rfl fun cdv A outer s H E hr => ?_
  have tk := takes_of (X := cxOf (L2.CX P w) P w K mg base nm__law_row "_law_row" (defScope s__law_row) (He.ga K "_law_row") cdv A outer s H E) (E := E) rfl rfl rfl rfl
  refine ⟨_, ?_, (ss_seq (ss_asg (se_call (dd := []) (dvs := []) (sa_cons (se_var 0) (sa_cons (se_lst (sa_cons (se_str (x := Str.ofString "acgt") [97, 99, 103, 116]) (sa_cons (se_str (x := Str.ofString "acgt") [97, 99, 103, 116]) (sa_cons (se_str (x := Str.ofString "ac") [97, 99]) (sa_cons (se_str (x := Str.ofString "at") [97, 116]) (sa_cons (se_str (x := Str.ofString "a") [97]) (sa_cons (se_str (x := Str.ofString "cgt") [99, 103, 116]) (sa_cons (se_str (x := Str.ofString "gggt") [103, 103, 103, 116]) sa_nil)))))))) sa_nil)) (fun _ _ => ros_nil)) (sg_name 3))
    (ss_ret (se_m1 rn_join (se_str (x := Str.ofString "") []) (se_lc (vs := [4]) (si_range1 (sa_cons (se_op rn_add (se_var 1) (se_call (dd := []) (dvs := []) (sa_cons (se_var 0) (sa_cons (se_op rn_add (se_op rn_sub (se_var 2) (se_var 1)) se_int) sa_nil)) (fun _ _ => ros_nil))) sa_nil)) (sg_name 4) st_yes (se_call (dd := []) (dvs := []) (sa_cons (se_var 0) (sa_cons (se_var 3) sa_nil)) (fun _ _ => ros_nil))))))⟩
  exact (pss_cons (ps_set (i := 3) sc.nd rfl (by first | exact Or.inl rfl | exact Or.inr rfl) (pe_callSD G__law_pick (hr.mono (by decide)) (by rfl) T.g__law_pick F__law_pick.kp b__law_pick .nil (passAt tk) (pa_cons (pv 0) (pa_cons (pe_lst (pa_cons pe_str (pa_cons pe_str (pa_cons pe_str (pa_cons pe_str (pa_cons pe_str (pa_cons pe_str (pa_cons pe_str pa_nil)))))))) pa_nil))))
    (pss_one (ps_ret (pe_join pe_str (pe_lc (own := [("_law_turn", 4)]) (g := (gName 4)) (by rfl) sc.nd (pi_range1 (by rfl) T.n_range (pa_cons (pe_op op_addA (pv 1) (pe_callSD G__law_next (hr.mono (by decide)) (by rfl) T.g__law_next F__law_next.kp b__law_next .nil (passAt tk) (pa_cons (pv 0) (pa_cons (pe_op op_addA (pe_op op_sub (pv 2) (pv 1)) pe_int) pa_nil)))) pa_nil)) (blkOk_by (own := [("_law_turn", 4)]) (by kernel_rfl)) (fun _ _ _ _ _ => (pg_name (i := 4) sc.nd rfl (by first | exact Or.inl rfl | exact Or.inr rfl))) (fun _ _ _ _ _ => pts_nil) (fun _ _ _ _ _ => (pe_callSD G__law_pick (hr.mono (by decide)) (by rfl) T.g__law_pick F__law_pick.kp b__law_pick .nil pass0W (pa_cons (pv 0) (pa_cons (pv 3) pa_nil)))))))))
theorem sc__law_contrary : FnScope nm__law_contrary ps__law_contrary (defScope s__law_contrary) := ⟨rfl, rfl, rfl, by decide +kernel, rfl, by decide +kernel, by decide +kernel⟩
theorem bd__law_contrary {fd : FuncData} (F : FunD K "_law_contrary" "_law_contrary" (defArgs s__law_contrary) (defBody s__law_contrary) (defScope s__law_contrary) (dd__law_contrary K) [] (He.ga K "_law_contrary") fd) : Binds K fd ps__law_contrary [] :=
  FunD.bindsN (ps := ps__law_contrary) F fun _ _ _ _ _ _ us hl => match us, hl with | [_], _ => rfl
theorem ok__law_contrary (T : Tx K w mg) {fd : FuncData} (F : FunD K "_law_contrary" "_law_contrary" (defArgs s__law_contrary) (defBody s__law_contrary) (defScope s__law_contrary) (dd__law_contrary K) [] (He.ga K "_law_contrary") fd) :
    FnOk P w K mg base (L2.CX P w) 1 (He.ga K "_law_contrary") fd ps__law_contrary (spD (mn K) F__law_contrary) := by
  obtain ⟨_, _, kd_PARTNERS⟩ := T.kd_PARTNERS
  have sc := sc__law_contrary
  refine fnD (M := mn K) (m := 1) (re := re__law_contrary) (f := d__law_contrary) F sc rfl rfl fun cdv A outer s H E hr => ?_
  have tk := takes_of (X := cxOf (L2.CX P w) P w K mg base nm__law_contrary "_law_contrary" (defScope s__law_contrary) (He.ga K "_law_contrary") cdv A outer s H E) (E := E) rfl rfl rfl rfl
  refine ⟨_, ?_, (ss_ret (se_m1 rn_join (se_str (x := Str.ofString "") []) (se_lc (vs := [1]) (si_seq (se_revS (se_var 0))) (sg_name 1) st_yes (se_item (se_disp [[97], [99], [103], [116]] (VS.PK.cons (VS.PK.cons (VS.PK.cons (VS.PK.cons VS.PK.nil)))) (by rfl) (by decide) (by decide) (sa_cons (se_str (x := Str.ofString "t") [116]) (sa_cons (se_str (x := Str.ofString "g") [103]) (sa_cons (se_str (x := Str.ofString "c") [99]) (sa_cons (se_str (x := Str.ofString "a") [97]) sa_nil))))) (se_var 1)))))⟩
  exact (pss_one (ps_ret (pe_join pe_str (pe_lc (own := [("_law_sign", 1)]) (g := (gName 1)) (by rfl) sc.nd (pi_seq (VH.pe_revS (pv 0))) (blkOk_by (own := [("_law_sign", 1)]) (by kernel_rfl)) (fun _ _ _ _ _ => (pg_name (i := 1) sc.nd rfl (by first | exact Or.inl rfl | exact Or.inr rfl))) (fun _ _ _ _ _ => pts_nil) (fun _ _ _ _ _ => (PyV.pe_or (pe_ix ix_seq (pe_disp (pps_cons pe_str pe_str (pps_cons pe_str pe_str (pps_cons pe_str pe_str (pps_cons pe_str pe_str pps_nil)))) (by rfl) (by rfl) (by intro h; cases h) (by decide)) (pv 1) (fun _ _ => rfl)) (pe_dget (hu_of hr) (pe_disp (pps_cons pe_str pe_str (pps_cons pe_str pe_str (pps_cons pe_str pe_str (pps_cons pe_str pe_str pps_nil)))) (by rfl) (by rfl) (by intro h; cases h) (by decide)) (pv 1) (fun _ _ => rfl))))))))
theorem sc__law_forms : FnScope nm__law_forms ps__law_forms (defScope s__law_forms) := ⟨rfl, rfl, rfl, by decide +kernel, rfl, by decide +kernel, by decide +kernel⟩
theorem bd__law_forms {fd : FuncData} (F : FunD K "_law_forms" "_law_forms" (defArgs s__law_forms) (defBody s__law_forms) (defScope s__law_forms) (dd__law_forms K) [] (He.ga K "_law_forms") fd) : Binds K fd ps__law_forms [] :=
  FunD.bindsN (ps := ps__law_forms) F fun _ _ _ _ _ _ us hl => match us, hl with | [_, _], _ => rfl
theorem ok__law_forms (T : Tx K w mg) {fd : FuncData} (F : FunD K "_law_forms" "_law_forms" (defArgs s__law_forms) (defBody s__law_forms) (defScope s__law_forms) (dd__law_forms K) [] (He.ga K "_law_forms") fd) :
    FnOk P w K mg base (L2.CX P w) 4 (He.ga K "_law_forms") fd ps__law_forms (spD (mn K) F__law_forms) := by
  obtain ⟨fd__law_row, F__law_row⟩ := T.d__law_row
  have G__law_row := ok__law_row (P := P) (base := base) T F__law_row
  have b__law_row := bd__law_row F__law_row
  obtain ⟨fd__law_next, F__law_next⟩ := T.d__law_next
  have G__law_next := ok__law_next (P := P) (base := base) T F__law_next
  have b__law_next := bd__law_next F__law_next
  obtain ⟨fd__law_pick, F__law_pick⟩ := T.d__law_pick
  have G__law_pick := ok__law_pick (P := P) (base := base) T F__law_pick
  have b__law_pick := bd__law_pick F__law_pick
  obtain ⟨fd__law_contrary, F__law_contrary⟩ := T.d__law_contrary
  have G__law_contrary := ok__law_contrary (P := P) (base := base) T F__law_contrary
  have b__law_contrary := bd__law_contrary F__law_contrary
  obtain ⟨_, _, kd_PARTNERS⟩ := T.kd_PARTNERS
  have sc := sc__law_forms
  refine fnD (M := mn K) (m := 8) (re := re__law_forms) (f := d__law_forms) F sc rfl rfl fun cdv A outer s H E hr => ?_
  have tk := takes_of (X := cxOf (L2.CX P w) P w K mg base nm__law_forms "_law_forms" (defScope s__law_forms) (He.ga K "_law_forms") cdv A outer s H E) (E := E) rfl rfl rfl rfl
  refine ⟨_, ?_, (ss_seq (ss_asg (se_call (dd := []) (dvs := []) (sa_cons (se_var 0) (sa_cons (se_var 1) (sa_cons (se_op rn_add (se_var 1) se_int) sa_nil))) (fun _ _ => ros_nil)) (sg_name 2))
    (ss_seq (ss_asg (se_lc (vs := [7]) (si_range1 (sa_cons (se_op rn_add (se_op rn_sub (se_cb rn_lenB (sa_cons (se_var 2) sa_nil)) (se_var 1)) se_int) sa_nil)) (sg_name 7) st_yes (se_slLH (se_var 2) (se_var 7) (se_op rn_add (se_var 7) (se_var 1)))) (sg_name 3))
    (ss_seq (ss_asg (se_op rn_add (se_var 3) (se_lc (vs := [8]) (si_range1 (sa_cons (se_call (dd := []) (dvs := []) (sa_cons (se_var 0) (sa_cons se_int sa_nil)) (fun _ _ => ros_nil)) sa_nil)) (sg_name 8) st_yes (se_m1 rn_join (se_str (x := Str.ofString "") []) (se_lc (vs := [9]) (si_range1 (sa_cons (se_var 1) sa_nil)) (sg_name 9) st_yes (se_call (dd := []) (dvs := []) (sa_cons (se_var 0) (sa_cons (se_str (x := Str.ofString "acgt") [97, 99, 103, 116]) sa_nil)) (fun _ _ => ros_nil)))))) (sg_name 3))
    (ss_seq (ss_asg (se_lst sa_nil) (sg_name 4))
    (ss_seq (ss_for (si_seq (se_var 3)) (sg_name 5) (ss_seq (ss_asg (se_cb rn_min2 (sa_cons (se_var 5) (sa_cons (se_call (dd := []) (dvs := []) (sa_cons (se_var 5) sa_nil) (fun _ _ => ros_nil)) sa_nil))) (sg_name 6))
    (ss_if (st_and (st_test (se_op rn_notInL (se_var 6) (se_var 4))) (st_or (st_test (se_op rn_eq (se_var 4) (se_lst sa_nil))) (st_test (se_op rn_cmpA (se_call (dd := []) (dvs := []) (sa_cons (se_var 0) (sa_cons se_int sa_nil)) (fun _ _ => ros_nil)) se_int)))) (ss_drop (se_bm "list" rm_append (se_var 4) (sa_cons (se_var 6) sa_nil))) ss_next)))
    (ss_ret (se_ife (b3 := true) (st_test (se_op rn_eq (se_call (dd := []) (dvs := []) (sa_cons (se_var 0) (sa_cons se_int sa_nil)) (fun _ _ => ros_nil)) se_int)) (se_revL (se_var 4)) (se_var 4))))))))⟩
  exact (pss_cons (ps_set (i := 2) sc.nd rfl (by first | exact Or.inl rfl | exact Or.inr rfl) (pe_callSD G__law_row (hr.mono (by decide)) (by rfl) T.g__law_row F__law_row.kp b__law_row .nil (passAt tk) (pa_cons (pv 0) (pa_cons (pv 1) (pa_cons (pe_op op_addA (pv 1) pe_int) pa_nil)))))
    (pss_cons (ps_setLc (i := 3) (own := [("_law_at", 7)]) (g := (gName 7)) (by rfl) sc.nd rfl rfl (sw_true rfl rfl rfl (by decide +kernel)) (pi_range1 (by rfl) T.n_range (pa_cons (pe_op op_addA (pe_op op_sub (pe_callB call_lenB (by rfl) T.n_len (by decide +kernel) (pa_cons (pv 2) pa_nil)) (pv 1)) pe_int) pa_nil)) (blkOk_by (own := [("_law_at", 7)]) (by kernel_rfl)) (fun _ _ _ _ _ => (pg_name (i := 7) sc.nd rfl (by first | exact Or.inl rfl | exact Or.inr rfl))) (fun _ _ _ _ _ => pts_nil) (fun _ _ _ _ _ => (pe_slice sl_all (pv 2) (po_some (pv 7)) (po_some (pe_op op_addA (pv 7) (pv 1))))))
    (pss_cons (ps_set (i := 3) sc.nd rfl (by first | exact Or.inl rfl | exact Or.inr rfl) (pe_op op_addA (pv 3) (pe_lc (own := [("_law_turn", 8)]) (g := (gName 8)) (by rfl) sc.nd (pi_range1 (by rfl) T.n_range (pa_cons (pe_callSD G__law_next (hr.mono (by decide)) (by rfl) T.g__law_next F__law_next.kp b__law_next .nil (passAt tk) (pa_cons (pv 0) (pa_cons pe_int pa_nil))) pa_nil)) (blkOk_by (own := [("_law_turn", 8)]) (by kernel_rfl)) (fun _ _ _ _ _ => (pg_name (i := 8) sc.nd rfl (by first | exact Or.inl rfl | exact Or.inr rfl))) (fun _ _ _ _ _ => pts_nil) (fun _ _ _ _ _ => (pe_join pe_str (pe_lc (own := [("_law_sign", 9)]) (g := (gName 9)) (by rfl) sc.nd (pi_range1 (by rfl) T.n_range (pa_cons (pv 1) pa_nil)) (blkOk_by (own := [("_law_sign", 9)]) (by kernel_rfl)) (fun _ _ _ _ _ => (pg_name (i := 9) sc.nd rfl (by first | exact Or.inl rfl | exact Or.inr rfl))) (fun _ _ _ _ _ => pts_nil) (fun _ _ _ _ _ => (pe_callSD G__law_pick (hr.mono (by decide)) (by rfl) T.g__law_pick F__law_pick.kp b__law_pick .nil pass0W (pa_cons (pv 0) (pa_cons pe_str pa_nil))))))))))
    (pss_cons (ps_set (i := 4) sc.nd rfl (by first | exact Or.inl rfl | exact Or.inr rfl) (pe_lst pa_nil))
    (pss_cons (ps_for (passes_of rfl) rfl (pi_seq (pv 3)) (pg_name (i := 5) sc.nd rfl (by first | exact Or.inl rfl | exact Or.inr rfl)) (pss_cons (ps_set (i := 6) sc.nd rfl (by first | exact Or.inl rfl | exact Or.inr rfl) (pe_callB (call_min2A rfl) (by rfl) T.n_min (by decide +kernel) (pa_cons (pv 5) (pa_cons (pe_callSD G__law_contrary (hr.mono (by decide)) (by rfl) T.g__law_contrary F__law_contrary.kp b__law_contrary .nil (passAt tk) (pa_cons (pv 5) pa_nil)) pa_nil))))
    (pss_one (ps_if (PW.pt (pw_and (pt_cmpR (op_notInD (u65 hr)) (pv 6) (pv 4) (by with_unfolding_all rfl)) (pw_and1 (PW.pt (pw_or (pt_cmpR (op_eqD hr.units) (pv 4) (pe_lst pa_nil) (nomark _)) (pw_or1 (pt_cmpR op_gtA (pe_callSD G__law_next (hr.mono (by decide)) (by rfl) T.g__law_next F__law_next.kp b__law_next .nil (passAt tk) (pa_cons (pv 0) (pa_cons pe_int pa_nil))) pe_int (nomark _)))))))) (pss_one (ps_expr (pe_bm PySem.F.plainAttrs_list PySem.F.slot_list_append PySem.F.type_list_append mt_append (pv 4) (pa_cons (pv 6) pa_nil)))) pss_nil))))
    (pss_one (ps_ret (pe_ifExp (pt_cmpR (op_eqD hr.units) (pe_callSD G__law_next (hr.mono (by decide)) (by rfl) T.g__law_next F__law_next.kp b__law_next .nil (passAt tk) (pa_cons (pv 0) (pa_cons pe_int pa_nil))) pe_int (nomark _)) (pe_revL (pv 4)) (pv 4)))))))))
theorem sc_is_list : FnScope nm_is_list ps_is_list (defScope s_is_list) := ⟨rfl, rfl, rfl, by decide +kernel, rfl, by decide +kernel, by decide +kernel⟩
theorem bd_is_list {fd : FuncData} (F : FunD K "is_list" "is_list" (defArgs s_is_list) (defBody s_is_list) (defScope s_is_list) (dd_is_list K) [] (He.ga K "is_list") fd) : Binds K fd ps_is_list [] :=
  FunD.bindsN (ps := ps_is_list) F fun _ _ _ _ _ _ us hl => match us, hl with | [_], _ => rfl
theorem ok_is_list (T : Tx K w mg) {fd : FuncData} (F : FunD K "is_list" "is_list" (defArgs s_is_list) (defBody s_is_list) (defScope s_is_list) (dd_is_list K) [] (He.ga K "is_list") fd) :
    FnOk P w K mg base (L2.CX P w) 1 (He.ga K "is_list") fd ps_is_list (spD (mn K) F_is_list) := by
  obtain ⟨_, _, kd_PARTNERS⟩ := T.kd_PARTNERS
  have sc := sc_is_list
  refine fnD (M := mn K) (m := 0) (re := re_is_list) (f := d_is_list) F sc rfl rfl fun cdv A outer s H E hr => ?_
  have tk := takes_of (X := cxOf (L2.CX P w) P w K mg base nm_is_list "is_list" (defScope s_is_list) (He.ga K "is_list") cdv A outer s H E) (E := E) rfl rfl rfl rfl
  refine ⟨_, ?_, (ss_ret (se_isi2 "list" "tuple" (se_var 0)))⟩
  exact (pss_one (ps_ret (pe_callB call_isiT (by rfl) T.n_isinstance (by decide +kernel) (pa_cons (pv 0) (pa_cons (pe_tup (pa_cons (pe_bltn (v := .ty "list") (u := .type "list") (by rfl) T.n_list (by decide +kernel) rfl) (pa_cons (pe_bltn (v := .ty "tuple") (u := .type "tuple") (by rfl) T.n_tuple (by decide +kernel) rfl) pa_nil))) pa_nil)))))
theorem sc_is_number : FnScope nm_is_number ps_is_number (defScope s_is_number) := ⟨rfl, rfl, rfl, by decide +kernel, rfl, by decide +kernel, by decide +kernel⟩
theorem bd_is_number {fd : FuncData} (F : FunD K "is_number" "is_number" (defArgs s_is_number) (defBody s_is_number) (defScope s_is_number) (dd_is_number K) [] (He.ga K "is_number") fd) : Binds K fd ps_is_number [] :=
  FunD.bindsN (ps := ps_is_number) F fun _ _ _ _ _ _ us hl => match us, hl with | [_], _ => rfl
theorem ok_is_number (T : Tx K w mg) {fd : FuncData} (F : FunD K "is_number" "is_number" (defArgs s_is_number) (defBody s_is_number) (defScope s_is_number) (dd_is_number K) [] (He.ga K "is_number") fd) :
    FnOk P w K mg base (L2.CX P w) 1 (He.ga K "is_number") fd ps_is_number (spD (mn K) F_is_number) := by
  obtain ⟨_, _, kd_PARTNERS⟩ := T.kd_PARTNERS
  have sc := sc_is_number
  refine fnD (M := mn K) (m := 0) (re := re_is_number) (f := d_is_number) F sc rfl rfl fun cdv A outer s H E hr => ?_
  have tk := takes_of (X := cxOf (L2.CX P w) P w K mg base nm_is_number "is_number" (defScope s_is_number) (He.ga K "is_number") cdv A outer s H E) (E := E) rfl rfl rfl rfl
  refine ⟨_, ?_, (ss_ret (se_land (se_isi "int" (se_var 0)) (se_not (se_isi "bool" (se_var 0)))))⟩
  exact (pss_one (ps_ret (pe_andT (pe_callB call_isi (by rfl) T.n_isinstance (by decide +kernel) (pa_cons (pv 0) (pa_cons (pe_bltn (v := .ty "int") (u := .type "int") (by rfl) T.n_int (by decide +kernel) rfl) pa_nil))) (pe_one (pe_notT (pe_callB call_isi (by rfl) T.n_isinstance (by decide +kernel) (pa_cons (pv 0) (pa_cons (pe_bltn (v := .ty "bool") (u := .type "bool") (by rfl) T.n_bool (by decide +kernel) rfl) pa_nil))))))))
theorem sc_is_size : FnScope nm_is_size ps_is_size (defScope s_is_size) := ⟨rfl, rfl, rfl, by decide +kernel, rfl, by decide +kernel, by decide +kernel⟩
theorem bd_is_size {fd : FuncData} (F : FunD K "is_size" "is_size" (defArgs s_is_size) (defBody s_is_size) (defScope s_is_size) (dd_is_size K) [] (He.ga K "is_size") fd) : Binds K fd ps_is_size [] :=
  FunD.bindsN (ps := ps_is_size) F fun _ _ _ _ _ _ us hl => match us, hl with | [_], _ => rfl
theorem ok_is_size (T : Tx K w mg) {fd : FuncData} (F : FunD K "is_size" "is_size" (defArgs s_is_size) (defBody s_is_size) (defScope s_is_size) (dd_is_size K) [] (He.ga K "is_size") fd) :
    FnOk P w K mg base (L2.CX P w) 2 (He.ga K "is_size") fd ps_is_size (spD (mn K) F_is_size) := by
  obtain ⟨fd_is_number, F_is_number⟩ := T.d_is_number
  have G_is_number := ok_is_number (P := P) (base := base) T F_is_number
  have b_is_number := bd_is_number F_is_number
  obtain ⟨_, _, kd_PARTNERS⟩ := T.kd_PARTNERS
  have sc := sc_is_size
  refine fnD (M := mn K) (m := 0) (re := re_is_size) (f := d_is_size) F sc rfl rfl fun cdv A outer s H E hr => ?_
  have tk := takes_of (X := cxOf (L2.CX P w) P w K mg base nm_is_size "is_size" (defScope s_is_size) (He.ga K "is_size") cdv A outer s H E) (E := E) rfl rfl rfl rfl
  refine ⟨_, ?_, (ss_ret (se_land (se_call (dd := []) (dvs := []) (sa_cons (se_var 0) sa_nil) (fun _ _ => ros_nil)) (se_tin false T.t_SIZES (se_var 0))))⟩
  exact (pss_one (ps_ret (pe_andT (pe_callSD G_is_number (hr.mono (by decide)) (by rfl) T.g_is_number F_is_number.kp b_is_number .nil (passAt tk) (pa_cons (pv 0) pa_nil)) (pe_one (pe_cmpR op_in_seq (pv 0) (pe_glob (v := .ref (He.ga K "SIZES")) (by rfl) T.g_SIZES rfl) (by with_unfolding_all rfl))))))
theorem sc_is_row : FnScope nm_is_row ps_is_row (defScope s_is_row) := ⟨rfl, rfl, rfl, by decide +kernel, rfl, by decide +kernel, by decide +kernel⟩
theorem bd_is_row {fd : FuncData} (F : FunD K "is_row" "is_row" (defArgs s_is_row) (defBody s_is_row) (defScope s_is_row) (dd_is_row K) [] (He.ga K "is_row") fd) : Binds K fd ps_is_row [] :=
  FunD.bindsN (ps := ps_is_row) F fun _ _ _ _ _ _ us hl => match us, hl with | [_], _ => rfl
theorem ok_is_row (T : Tx K w mg) {fd : FuncData} (F : FunD K "is_row" "is_row" (defArgs s_is_row) (defBody s_is_row) (defScope s_is_row) (dd_is_row K) [] (He.ga K "is_row") fd) :
    FnOk P w K mg base (L2.CX P w) 1 (He.ga K "is_row") fd ps_is_row (spD (mn K) F_is_row) := by
  obtain ⟨_, _, kd_PARTNERS⟩ := T.kd_PARTNERS
  have sc := sc_is_row
  refine fnD (M := mn K) (m := 1) (re := re_is_row) (f := d_is_row) F sc rfl rfl fun cdv A outer s H E hr => ?_
  have tk := takes_of (X := cxOf (L2.CX P w) P w K mg base nm_is_row "is_row" (defScope s_is_row) (He.ga K "is_row") cdv A outer s H E) (E := E) rfl rfl rfl rfl
  refine ⟨_, ?_, (ss_ret (se_land (se_isi "str" (se_var 0)) (se_cb rn_all (sa_cons (se_lc (vs := [1]) (si_seq (se_var 0)) (sg_name 1) st_yes (se_kin T.t_PARTNERS (se_var 1))) sa_nil))))⟩
  exact (pss_one (ps_ret (pe_andT (pe_callB call_isi (by rfl) T.n_isinstance (by decide +kernel) (pa_cons (pv 0) (pa_cons (pe_bltn (v := .ty "str") (u := .type "str") (by rfl) T.n_str (by decide +kernel) rfl) pa_nil))) (pe_one (pe_callB (cr_all rfl) (by rfl) T.n_all (by decide +kernel) (pa_cons (pe_lc (own := [("sign", 1)]) (g := (gName 1)) (by rfl) sc.nd (pi_seq (pv 0)) (blkOk_by (own := [("sign", 1)]) (by kernel_rfl)) (fun _ _ _ _ _ => (pg_name (i := 1) sc.nd rfl (by first | exact Or.inl rfl | exact Or.inr rfl))) (fun _ _ _ _ _ => pts_nil) (fun _ _ _ _ _ => (pe_cmpR (op_in_kd kd_PARTNERS) (pv 1) (pe_glob (v := .ref (He.ga K "PARTNERS")) (by rfl) T.g_PARTNERS rfl) (by with_unfolding_all rfl)))) pa_nil))))))
theorem sc_need_row : FnScope nm_need_row ps_need_row (defScope s_need_row) := ⟨rfl, rfl, rfl, by decide +kernel, rfl, by decide +kernel, by decide +kernel⟩
theorem bd0_need_row {fd : FuncData} (F : FunD K "need_row" "need_row" (defArgs s_need_row) (defBody s_need_row) (defScope s_need_row) (dd_need_row K) [] (He.ga K "need_row") fd) : ∃ ds, Vals ((dd_need_row K).drop 1) ds ∧ Binds K fd ps_need_row ds :=
  FunD.binds1 (ps := ps_need_row) F 2 1 (by simp) (by simp) fun _ _ _ _ _ _ _ us its h1 h2 => match us, its, h1, h2 with | [_, _], [_], _, _ => ⟨_, rfl, rfl⟩
theorem bd1_need_row {fd : FuncData} (F : FunD K "need_row" "need_row" (defArgs s_need_row) (defBody s_need_row) (defScope s_need_row) (dd_need_row K) [] (He.ga K "need_row") fd) : ∃ ds, Vals ((dd_need_row K).drop 0) ds ∧ Binds K fd ps_need_row ds :=
  FunD.binds1 (ps := ps_need_row) F 1 0 (by simp) (by simp) fun _ _ _ _ _ _ _ us its h1 h2 => match us, its, h1, h2 with | [_], [_], _, _ => ⟨_, rfl, rfl⟩
theorem ok_need_row (T : Tx K w mg) {fd : FuncData} (F : FunD K "need_row" "need_row" (defArgs s_need_row) (defBody s_need_row) (defScope s_need_row) (dd_need_row K) [] (He.ga K "need_row") fd) :
    FnOk P w K mg base (L2.CX P w) 2 (He.ga K "need_row") fd ps_need_row (spD (mn K) F_need_row) := by
  obtain ⟨fd_is_row, F_is_row⟩ := T.d_is_row
  have G_is_row := ok_is_row (P := P) (base := base) T F_is_row
  have b_is_row := bd_is_row F_is_row
  obtain ⟨_, _, kd_PARTNERS⟩ := T.kd_PARTNERS
  have sc := sc_need_row
  refine fnD (M := mn K) (m := 0) (re := re_need_row) (f := d_need_row) F sc rfl rfl fun cdv A outer s H E hr => ?_
  have tk := takes_of (X := cxOf (L2.CX P w) P w K mg base nm_need_row "need_row" (defScope s_need_row) (He.ga K "need_row") cdv A outer s H E) (E := E) rfl rfl rfl rfl
  refine ⟨_, ?_, (ss_if (st_or (st_not (st_tru (se_call (dd := []) (dvs := []) (sa_cons (se_var 0) sa_nil) (fun _ _ => ros_nil)))) (st_test (se_op rn_cmpA (se_cb rn_lenB (sa_cons (se_var 0) sa_nil)) (se_var 1)))) (ss_raise (c := "NoRow") (fun _ _ _ _ h => h)) ss_next)⟩
  exact (pss_one (ps_if (PW.pt (pw_or (pt_not (pt_truth (pe_callSD G_is_row (hr.mono (by decide)) (by rfl) T.g_is_row F_is_row.kp b_is_row .nil (passAt tk) (pa_cons (pv 0) pa_nil)) (by intro _; rfl))) (pw_or1 (pt_cmpR op_ltA (pe_callB call_lenB (by rfl) T.n_len (by decide +kernel) (pa_cons (pv 0) pa_nil)) (pv 1) (nomark _))))) (pss_one (ps_raise rfl tk (pmk_own PySem.F.excBase_ValueError T.xe_NoRow.1 T.g_NoRow T.xe_NoRow.2.1 (raises_own T.xe_NoRow.2.2.1 T.xe_NoRow.2.2.2) (by rfl)))) pss_nil))
theorem sc_contrary : FnScope nm_contrary ps_contrary (defScope s_contrary) := ⟨rfl, rfl, rfl, by decide +kernel, rfl, by decide +kernel, by decide +kernel⟩
theorem bd_contrary {fd : FuncData} (F : FunD K "contrary" "contrary" (defArgs s_contrary) (defBody s_contrary) (defScope s_contrary) (dd_contrary K) [] (He.ga K "contrary") fd) : Binds K fd ps_contrary [] :=
  FunD.bindsN (ps := ps_contrary) F fun _ _ _ _ _ _ us hl => match us, hl with | [_], _ => rfl
theorem ok_contrary (T : Tx K w mg) {fd : FuncData} (F : FunD K "contrary" "contrary" (defArgs s_contrary) (defBody s_contrary) (defScope s_contrary) (dd_contrary K) [] (He.ga K "contrary") fd) :
    FnOk P w K mg base (L2.CX P w) 3 (He.ga K "contrary") fd ps_contrary (spD (mn K) F_contrary) := by
  obtain ⟨fd_need_row, F_need_row⟩ := T.d_need_row
  have G_need_row := ok_need_row (P := P) (base := base) T F_need_row
  obtain ⟨e_need_row, vv_need_row, b_need_row⟩ := bd0_need_row F_need_row
  have z_need_row : e_need_row = [] := by cases vv_need_row; rfl
  subst z_need_row
  obtain ⟨e1_need_row, v1_need_row, b1_need_row⟩ := bd1_need_row F_need_row
  obtain ⟨_, _, kd_PARTNERS⟩ := T.kd_PARTNERS
  have sc := sc_contrary
  refine fnD (M := mn K) (m := 1) (re := re_contrary) (f := d_contrary) F sc rfl rfl fun cdv A outer s H E hr => ?_
  have tk := takes_of (X := cxOf (L2.CX P w) P w K mg base nm_contrary "contrary" (defScope s_contrary) (He.ga K "contrary") cdv A outer s H E) (E := E) rfl rfl rfl rfl
  refine ⟨_, ?_, (ss_seq (ss_drop (se_call (dd := [.int 0]) (dvs := [.int 0]) (sa_cons (se_var 0) sa_nil) (fun _ _ => ros_cons (by simp [RO]) ros_nil)))
    (ss_ret (se_m1 rn_join (se_str (x := Str.ofString "") []) (se_lc (vs := [1]) (si_seq (se_revS (se_var 0))) (sg_name 1) st_yes (se_kget T.t_PARTNERS (se_var 1))))))⟩
  exact (pss_cons (ps_expr (pe_callSD G_need_row (hr.mono (by decide)) (by rfl) T.g_need_row F_need_row.kp b1_need_row v1_need_row (passAt tk) (pa_cons (pv 0) pa_nil)))
    (pss_one (ps_ret (pe_join pe_str (pe_lc (own := [("sign", 1)]) (g := (gName 1)) (by rfl) sc.nd (pi_seq (VH.pe_revS (pv 0))) (blkOk_by (own := [("sign", 1)]) (by kernel_rfl)) (fun _ _ _ _ _ => (pg_name (i := 1) sc.nd rfl (by first | exact Or.inl rfl | exact Or.inr rfl))) (fun _ _ _ _ _ => pts_nil) (fun _ _ _ _ _ => (pe_ix (PyV.ix_kd kd_PARTNERS) (pe_glob (v := .ref (He.ga K "PARTNERS")) (by rfl) T.g_PARTNERS rfl) (pv 1) (fun _ _ => rfl))))))))
theorem sc_form_of : FnScope nm_form_of ps_form_of (defScope s_form_of) := ⟨rfl, rfl, rfl, by decide +kernel, rfl, by decide +kernel, by decide +kernel⟩
theorem bd_form_of {fd : FuncData} (F : FunD K "form_of" "form_of" (defArgs s_form_of) (defBody s_form_of) (defScope s_form_of) (dd_form_of K) [] (He.ga K "form_of") fd) : Binds K fd ps_form_of [] :=
  FunD.bindsN (ps := ps_form_of) F fun _ _ _ _ _ _ us hl => match us, hl with | [_], _ => rfl
theorem ok_form_of (T : Tx K w mg) {fd : FuncData} (F : FunD K "form_of" "form_of" (defArgs s_form_of) (defBody s_form_of) (defScope s_form_of) (dd_form_of K) [] (He.ga K "form_of") fd) :
    FnOk P w K mg base (L2.CX P w) 4 (He.ga K "form_of") fd ps_form_of (spD (mn K) F_form_of) := by
  obtain ⟨fd_contrary, F_contrary⟩ := T.d_contrary
  have G_contrary := ok_contrary (P := P) (base := base) T F_contrary
  have b_contrary := bd_contrary F_contrary
  obtain ⟨_, _, kd_PARTNERS⟩ := T.kd_PARTNERS
  have sc := sc_form_of
  refine fnD (M := mn K) (m := 0) (re := re_form_of) (f := d_form_of) F sc rfl rfl fun cdv A outer s H E hr => ?_
  have tk := takes_of (X := cxOf (L2.CX P w) P w K mg base nm_form_of "form_of" (defScope s_form_of) (He.ga K "form_of") cdv A outer s H E) (E := E) rfl rfl rfl rfl
  refine ⟨_, ?_, (ss_ret (se_cb rn_min2 (sa_cons (se_var 0) (sa_cons (se_call (dd := []) (dvs := []) (sa_cons (se_var 0) sa_nil) (fun _ _ => ros_nil)) sa_nil))))⟩
  exact (pss_one (ps_ret (pe_callB (call_min2A rfl) (by rfl) T.n_min (by decide +kernel) (pa_cons (pv 0) (pa_cons (pe_callSD G_contrary (hr.mono (by decide)) (by rfl) T.g_contrary F_contrary.kp b_contrary .nil (passAt tk) (pa_cons (pv 0) pa_nil)) pa_nil)))))
theorem sc_is_form : FnScope nm_is_form ps_is_form (defScope s_is_form) := ⟨rfl, rfl, rfl, by decide +kernel, rfl, by decide +kernel, by decide +kernel⟩
theorem bd_is_form {fd : FuncData} (F : FunD K "is_form" "is_form" (defArgs s_is_form) (defBody s_is_form) (defScope s_is_form) (dd_is_form K) [] (He.ga K "is_form") fd) : Binds K fd ps_is_form [] :=
  FunD.bindsN (ps := ps_is_form) F fun _ _ _ _ _ _ us hl => match us, hl with | [_, _], _ => rfl
theorem ok_is_form (T : Tx K w mg) {fd : FuncData} (F : FunD K "is_form" "is_form" (defArgs s_is_form) (defBody s_is_form) (defScope s_is_form) (dd_is_form K) [] (He.ga K "is_form") fd) :
    FnOk P w K mg base (L2.CX P w) 5 (He.ga K "is_form") fd ps_is_form (spD (mn K) F_is_form) := by
  obtain ⟨fd_is_row, F_is_row⟩ := T.d_is_row
  have G_is_row := ok_is_row (P := P) (base := base) T F_is_row
  have b_is_row := bd_is_row F_is_row
  obtain ⟨fd_form_of, F_form_of⟩ := T.d_form_of
  have G_form_of := ok_form_of (P := P) (base := base) T F_form_of
  have b_form_of := bd_form_of F_form_of
  obtain ⟨_, _, kd_PARTNERS⟩ := T.kd_PARTNERS
  have sc := sc_is_form
  refine fnD (M := mn K) (m := 0) (re := re_is_form) (f := d_is_form) F sc rfl rfl fun cdv A outer s H E hr => ?_
  have tk := takes_of (X := cxOf (L2.CX P w) P w K mg base nm_is_form "is_form" (defScope s_is_form) (He.ga K "is_form") cdv A outer s H E) (E := E) rfl rfl rfl rfl
  refine ⟨_, ?_, (ss_ret (se_land (se_call (dd := []) (dvs := []) (sa_cons (se_var 0) sa_nil) (fun _ _ => ros_nil)) (se_land (se_op rn_eq (se_cb rn_lenB (sa_cons (se_var 0) sa_nil)) (se_var 1)) (se_op rn_eq (se_call (dd := []) (dvs := []) (sa_cons (se_var 0) sa_nil) (fun _ _ => ros_nil)) (se_var 0)))))⟩
  exact (pss_one (ps_ret (pe_andT (pe_callSD G_is_row (hr.mono (by decide)) (by rfl) T.g_is_row F_is_row.kp b_is_row .nil (passAt tk) (pa_cons (pv 0) pa_nil)) (pe_andT (pe_cmpR (op_eqD hr.units) (pe_callB call_lenB (by rfl) T.n_len (by decide +kernel) (pa_cons (pv 0) pa_nil)) (pv 1) (nomark _)) (pe_one (pe_cmpR (op_eqD hr.units) (pe_callSD G_form_of (hr.mono (by decide)) (by rfl) T.g_form_of F_form_of.kp b_form_of .nil (passAt tk) (pa_cons (pv 0) pa_nil)) (pv 0) (nomark _)))))))
theorem sc_need_forms : FnScope nm_need_forms ps_need_forms (defScope s_need_forms) := ⟨rfl, rfl, rfl, by decide +kernel, rfl, by decide +kernel, by decide +kernel⟩
theorem bd_need_forms {fd : FuncData} (F : FunD K "need_forms" "need_forms" (defArgs s_need_forms) (defBody s_need_forms) (defScope s_need_forms) (dd_need_forms K) [] (He.ga K "need_forms") fd) : Binds K fd ps_need_forms [] :=
  FunD.bindsN (ps := ps_need_forms) F fun _ _ _ _ _ _ us hl => match us, hl with | [_], _ => rfl
theorem ok_need_forms (T : Tx K w mg) {fd : FuncData} (F : FunD K "need_forms" "need_forms" (defArgs s_need_forms) (defBody s_need_forms) (defScope s_need_forms) (dd_need_forms K) [] (He.ga K "need_forms") fd) :
    FnOk P w K mg base (L2.CX P w) 6 (He.ga K "need_forms") fd ps_need_forms (spD (mn K) F_need_forms) := by
  obtain ⟨fdi_NoWord, Fi_NoWord⟩ := T.di_NoWord
  have I_NoWord := oki_NoWord (P := P) (base := base) T Fi_NoWord
  have bi_NoWord := bdi_NoWord Fi_NoWord
  obtain ⟨fd_is_list, F_is_list⟩ := T.d_is_list
  have G_is_list := ok_is_list (P := P) (base := base) T F_is_list
  have b_is_list := bd_is_list F_is_list
  obtain ⟨fd_is_size, F_is_size⟩ := T.d_is_size
  have G_is_size := ok_is_size (P := P) (base := base) T F_is_size
  have b_is_size := bd_is_size F_is_size
  obtain ⟨fd_is_form, F_is_form⟩ := T.d_is_form
  have G_is_form := ok_is_form (P := P) (base := base) T F_is_form
  have b_is_form := bd_is_form F_is_form
  obtain ⟨_, _, kd_PARTNERS⟩ := T.kd_PARTNERS
  have sc := sc_need_forms
  refine fnD (M := mn K) (m := 3) (re := re_need_forms) (f := d_need_forms) F sc rfl rfl fun cdv A outer s H E hr => ?_
  have tk := takes_of (X := cxOf (L2.CX P w) P w K mg base nm_need_forms "need_forms" (defScope s_need_forms) (He.ga K "need_forms") cdv A outer s H E) (E := E) rfl rfl rfl rfl
  refine ⟨_, ?_, (ss_seq (ss_if (st_or (st_not (st_tru (se_call (dd := []) (dvs := []) (sa_cons (se_var 0) sa_nil) (fun _ _ => ros_nil)))) (st_test (se_op rn_eq (se_cb rn_lenB (sa_cons (se_var 0) sa_nil)) se_int))) (ss_raiseF (c := "NoWord") se_non (fun _ _ _ _ h => h)) ss_next)
    (ss_seq (ss_asg (se_ife (b3 := true) (st_tru (se_isi "str" (se_item (se_var 0) se_int))) (se_cb rn_lenB (sa_cons (se_item (se_var 0) se_int) sa_nil)) se_int) (sg_name 1))
    (ss_seq (ss_asg se_dnewK (sg_name 2))
    (ss_seq (ss_for (si_seq (se_var 0)) (sg_name 3) (ss_seq (ss_if (st_or (st_not (st_tru (se_call (dd := []) (dvs := []) (sa_cons (se_var 1) sa_nil) (fun _ _ => ros_nil)))) (st_or (st_not (st_tru (se_call (dd := []) (dvs := []) (sa_cons (se_var 3) (sa_cons (se_var 1) sa_nil)) (fun _ _ => ros_nil)))) (st_B (se_din (se_var 3) (se_var 2))))) (ss_raiseF (c := "NoWord") (se_var 3) (fun _ _ _ _ h => h)) ss_next)
    (ss_put se_bl (se_var 2) (se_var 3))))
    (ss_ret (se_var 1))))))⟩
  exact (pss_cons (ps_if (PW.pt (pw_or (pt_not (pt_truth (pe_callSD G_is_list (hr.mono (by decide)) (by rfl) T.g_is_list F_is_list.kp b_is_list .nil (passAt tk) (pa_cons (pv 0) pa_nil)) (by intro _; rfl))) (pw_or1 (pt_cmpR (op_eqD hr.units) (pe_callB call_lenB (by rfl) T.n_len (by decide +kernel) (pa_cons (pv 0) pa_nil)) pe_int (nomark _))))) (pss_one (ps_raise rfl tk (pmk_oex T.xf_NoWord.ox T.xf_NoWord.ini T.xf_NoWord.fn I_NoWord (hr.mono (by decide)) bi_NoWord .nil VH.passN (by rfl) T.g_NoWord (pa_cons pe_non pa_nil)))) pss_nil)
    (pss_cons (ps_set (i := 1) sc.nd rfl (by first | exact Or.inl rfl | exact Or.inr rfl) (pe_ifExp (pt_truth (pe_callB call_isi (by rfl) T.n_isinstance (by decide +kernel) (pa_cons (PyV.pe_or (pe_ix ix_seq (pv 0) pe_int (fun _ _ => rfl)) (pe_dget (hu_of hr) (pv 0) pe_int (fun _ _ => rfl))) (pa_cons (pe_bltn (v := .ty "str") (u := .type "str") (by rfl) T.n_str (by decide +kernel) rfl) pa_nil))) (by intro _; rfl)) (pe_callB call_lenB (by rfl) T.n_len (by decide +kernel) (pa_cons (PyV.pe_or (pe_ix ix_seq (pv 0) pe_int (fun _ _ => rfl)) (pe_dget (hu_of hr) (pv 0) pe_int (fun _ _ => rfl))) pa_nil)) pe_int))
    (pss_cons (ps_set (i := 2) sc.nd rfl (by first | exact Or.inl rfl | exact Or.inr rfl) pe_dnewK)
    (pss_cons (ps_for (passes_of rfl) rfl (pi_seq (pv 0)) (pg_name (i := 3) sc.nd rfl (by first | exact Or.inl rfl | exact Or.inr rfl)) (pss_cons (ps_if (PW.pt (pw_or (pt_not (pt_truth (pe_callSD G_is_size (hr.mono (by decide)) (by rfl) T.g_is_size F_is_size.kp b_is_size .nil (passAt tk) (pa_cons (pv 1) pa_nil)) (by intro _; rfl))) (pw_or (pt_not (pt_truth (pe_callSD G_is_form (hr.mono (by decide)) (by rfl) T.g_is_form F_is_form.kp b_is_form .nil (passAt tk) (pa_cons (pv 3) (pa_cons (pv 1) pa_nil))) (by intro _; rfl))) (pw_or1 (pt_cmp (pc_din (hu_of hr) (pv 3) (pv 2)) rfl))))) (pss_one (ps_raise rfl tk (pmk_oex T.xf_NoWord.ox T.xf_NoWord.ini T.xf_NoWord.fn I_NoWord (hr.mono (by decide)) bi_NoWord .nil VH.passN (by rfl) T.g_NoWord (pa_cons (pv 3) pa_nil)))) pss_nil)
    (pss_one (ps_dput (hu_of hr) (pv 2) (pv 3) pe_bl (by rfl)))))
    (pss_one (ps_ret (pv 1)))))))
theorem sc_words_in : FnScope nm_words_in ps_words_in (defScope s_words_in) := ⟨rfl, rfl, rfl, by decide +kernel, rfl, by decide +kernel, by decide +kernel⟩
theorem bd_words_in {fd : FuncData} (F : FunD K "words_in" "words_in" (defArgs s_words_in) (defBody s_words_in) (defScope s_words_in) (dd_words_in K) [] (He.ga K "words_in") fd) : Binds K fd ps_words_in [] :=
  FunD.bindsN (ps := ps_words_in) F fun _ _ _ _ _ _ us hl => match us, hl with | [_, _], _ => rfl
theorem ok_words_in (T : Tx K w mg) {fd : FuncData} (F : FunD K "words_in" "words_in" (defArgs s_words_in) (defBody s_words_in) (defScope s_words_in) (dd_words_in K) [] (He.ga K "words_in") fd) :
    FnOk P w K mg base (L2.CX P w) 1 (He.ga K "words_in") fd ps_words_in (spD (mn K) F_words_in) := by
  obtain ⟨_, _, kd_PARTNERS⟩ := T.kd_PARTNERS
  have sc := sc_words_in
  refine fnD (M := mn K) (m := 1) (re := re_words_in) (f := d_words_in) F sc rfl rfl fun cdv A outer s H E hr => ?_
  have tk := takes_of (X := cxOf (L2.CX P w) P w K mg base nm_words_in "words_in" (defScope s_words_in) (He.ga K "words_in") cdv A outer s H E) (E := E) rfl rfl rfl rfl
  refine ⟨_, ?_, (ss_ret (se_lc (vs := [2]) (si_range1 (sa_cons (se_op rn_add (se_op rn_sub (se_cb rn_lenB (sa_cons (se_var 0) sa_nil)) (se_var 1)) se_int) sa_nil)) (sg_name 2) st_yes (se_slLH (se_var 0) (se_var 2) (se_op rn_add (se_var 2) (se_var 1)))))⟩
  exact (pss_one (ps_ret (pe_lc (own := [("at", 2)]) (g := (gName 2)) (by rfl) sc.nd (pi_range1 (by rfl) T.n_range (pa_cons (pe_op op_addA (pe_op op_sub (pe_callB call_lenB (by rfl) T.n_len (by decide +kernel) (pa_cons (pv 0) pa_nil)) (pv 1)) pe_int) pa_nil)) (blkOk_by (own := [("at", 2)]) (by kernel_rfl)) (fun _ _ _ _ _ => (pg_name (i := 2) sc.nd rfl (by first | exact Or.inl rfl | exact Or.inr rfl))) (fun _ _ _ _ _ => pts_nil) (fun _ _ _ _ _ => (pe_slice sl_all (pv 0) (po_some (pv 2)) (po_some (pe_op op_addA (pv 2) (pv 1))))))))
theorem sc_is_right : FnScope nm_is_right ps_is_right (defScope s_is_right) := ⟨rfl, rfl, rfl, by decide +kernel, rfl, by decide +kernel, by decide +kernel⟩
theorem bd_is_right {fd : FuncData} (F : FunD K "is_right" "is_right" (defArgs s_is_right) (defBody s_is_right) (defScope s_is_right) (dd_is_right K) [] (He.ga K "is_right") fd) : Binds K fd ps_is_right [] :=
  FunD.bindsN (ps := ps_is_right) F fun _ _ _ _ _ _ us hl => match us, hl with | [_, _], _ => rfl
theorem ok_is_right (T : Tx K w mg) {fd : FuncData} (F : FunD K "is_right" "is_right" (defArgs s_is_right) (defBody s_is_right) (defScope s_is_right) (dd_is_right K) [] (He.ga K "is_right") fd) :
    FnOk P w K mg base (L2.CX P w) 7 (He.ga K "is_right") fd ps_is_right (spD (mn K) F_is_right) := by
  obtain ⟨fd_need_forms, F_need_forms⟩ := T.d_need_forms
  have G_need_forms := ok_need_forms (P := P) (base := base) T F_need_forms
  have b_need_forms := bd_need_forms F_need_forms
  obtain ⟨fd_need_row, F_need_row⟩ := T.d_need_row
  have G_need_row := ok_need_row (P := P) (base := base) T F_need_row
  obtain ⟨e_need_row, vv_need_row, b_need_row⟩ := bd0_need_row F_need_row
  have z_need_row : e_need_row = [] := by cases vv_need_row; rfl
  subst z_need_row
  obtain ⟨fd_words_in, F_words_in⟩ := T.d_words_in
  have G_words_in := ok_words_in (P := P) (base := base) T F_words_in
  have b_words_in := bd_words_in F_words_in
  obtain ⟨fd_form_of, F_form_of⟩ := T.d_form_of
  have G_form_of := ok_form_of (P := P) (base := base) T F_form_of
  have b_form_of := bd_form_of F_form_of
  obtain ⟨_, _, kd_PARTNERS⟩ := T.kd_PARTNERS
  have sc := sc_is_right
  refine fnD (M := mn K) (m := 2) (re := re_is_right) (f := d_is_right) F sc rfl rfl fun cdv A outer s H E hr => ?_
  have tk := takes_of (X := cxOf (L2.CX P w) P w K mg base nm_is_right "is_right" (defScope s_is_right) (He.ga K "is_right") cdv A outer s H E) (E := E) rfl rfl rfl rfl
  refine ⟨_, ?_, (ss_seq (ss_asg (se_call (dd := []) (dvs := []) (sa_cons (se_var 0) sa_nil) (fun _ _ => ros_nil)) (sg_name 2))
    (ss_seq (ss_drop (se_call (dd := []) (dvs := []) (sa_cons (se_var 1) (sa_cons (se_var 2) sa_nil)) (fun _ _ => ros_nil)))
    (ss_ret (se_cb rn_all (sa_cons (se_lc (vs := [3]) (si_seq (se_call (dd := []) (dvs := []) (sa_cons (se_var 1) (sa_cons (se_var 2) sa_nil)) (fun _ _ => ros_nil))) (sg_name 3) st_yes (se_op rn_inQ (se_call (dd := []) (dvs := []) (sa_cons (se_var 3) sa_nil) (fun _ _ => ros_nil)) (se_var 0))) sa_nil)))))⟩
  exact (pss_cons (ps_set (i := 2) sc.nd rfl (by first | exact Or.inl rfl | exact Or.inr rfl) (pe_callSD G_need_forms (hr.mono (by decide)) (by rfl) T.g_need_forms F_need_forms.kp b_need_forms .nil (passAt tk) (pa_cons (pv 0) pa_nil)))
    (pss_cons (ps_expr (pe_callSD G_need_row (hr.mono (by decide)) (by rfl) T.g_need_row F_need_row.kp b_need_row .nil (passAt tk) (pa_cons (pv 1) (pa_cons (pv 2) pa_nil))))
    (pss_one (ps_ret (pe_callB (cr_all rfl) (by rfl) T.n_all (by decide +kernel) (pa_cons (pe_lc (own := [("word", 3)]) (g := (gName 3)) (by rfl) sc.nd (pi_seq (pe_callSD G_words_in (hr.mono (by decide)) (by rfl) T.g_words_in F_words_in.kp b_words_in .nil (passAt tk) (pa_cons (pv 1) (pa_cons (pv 2) pa_nil)))) (blkOk_by (own := [("word", 3)]) (by kernel_rfl)) (fun _ _ _ _ _ => (pg_name (i := 3) sc.nd rfl (by first | exact Or.inl rfl | exact Or.inr rfl))) (fun _ _ _ _ _ => pts_nil) (fun _ _ _ _ _ => (pe_cmpR (VH.op_inQ (u65 hr)) (pe_callSD G_form_of (hr.mono (by decide)) (by rfl) T.g_form_of F_form_of.kp b_form_of .nil pass0W (pa_cons (pv 3) pa_nil)) (pv 0) (by with_unfolding_all rfl)))) pa_nil))))))
theorem sc__law_word : FnScope nm__law_word ps__law_word (defScope s__law_word) := ⟨rfl, rfl, rfl, by decide +kernel, rfl, by decide +kernel, by decide +kernel⟩
theorem bd__law_word {fd : FuncData} (F : FunD K "_law_word" "_law_word" (defArgs s__law_word) (defBody s__law_word) (defScope s__law_word) (dd__law_word K) [] (He.ga K "_law_word") fd) : Binds K fd ps__law_word [] :=
  FunD.bindsN (ps := ps__law_word) F fun _ _ _ _ _ _ us hl => match us, hl with | [_], _ => rfl
theorem hsub__law_word (T : Tx K w mg) : ∀ c, sub__law_word c = true → PySem.W.exmOne (mn K).K (.ref ((mn K).cm c)) (.ref (He.ga K "ShardError")) = some true := fun c h => by
  have h := of_decide_eq_true h
  simp only [List.mem_cons, List.not_mem_nil, or_false] at h
  rcases h with rfl | rfl
  · exact T.xm_NoRow
  · exact T.xm_NoWord
theorem gvx__law_word {X : Cx} (T : Tx X.K X.w X.mg) : ∃ tI tR, SS (mn X.K) W0 (prOf re__law_word) tI d__law_word_init ∧ SS (mn X.K) W0 (prOf re__law_word) tR d__law_word_rest ∧
    ∀ (cdv : Value) (q : Str), VH.Gives X nm__law_word "_law_word" (defScope s__law_word) (He.ga X.K "_law_word") cdv (defBody s__law_word) "_law_work" q (VH.TTt X.K (.ref (He.ga X.K "ShardError")) nm__law_word 7 3 4 q tI tR) := by
  have sc := sc__law_word
  refine ⟨_, _, (ss_parT (i := 3) (j := 4) (sa_cons se_non (sa_cons se_non sa_nil))), (ss_seq (ss_if (st_test (se_op rn_isN (se_var 3) se_non)) (ss_ret (se_lst (sa_cons (se_var 4) sa_nil))) ss_next)
    (ss_seq (ss_asg (se_lst (sa_cons (se_tup (sa_cons (se_str (x := Str.ofString "row") [114, 111, 119]) (sa_cons (se_isy (cV := .ref (He.ga X.K "NoRow")) isx_1 (.own _) T.x_1 (se_var 3)) sa_nil))) (sa_cons (se_tup (sa_cons (se_str (x := Str.ofString "size") [115, 105, 122, 101]) (sa_cons (se_isy (cV := .ref (He.ga X.K "NoSize")) isx_0 (.own _) T.x_0 (se_var 3)) sa_nil))) sa_nil))) (sg_name 1))
    (ss_seq (ss_asg (se_op rn_add (se_var 1) (se_lst (sa_cons (se_tup (sa_cons (se_str (x := Str.ofString "piece") [112, 105, 101, 99, 101]) (sa_cons (se_isy (cV := .ref (He.ga X.K "NoPiece")) isx_3 (.own _) T.x_3 (se_var 3)) sa_nil))) (sa_cons (se_tup (sa_cons (se_str (x := Str.ofString "text") [116, 101, 120, 116]) (sa_cons (se_isy (cV := .ref (He.ga X.K "NoText")) isx_2 (.own _) T.x_2 (se_var 3)) sa_nil))) sa_nil)))) (sg_name 1))
    (ss_seq (ss_asg (se_op rn_add (se_var 1) (se_lst (sa_cons (se_tup (sa_cons (se_str (x := Str.ofString "word") [119, 111, 114, 100]) (sa_cons (se_isy (cV := .ref (He.ga X.K "NoWord")) isx_5 (.own _) T.x_5 (se_var 3)) sa_nil))) (sa_cons (se_tup (sa_cons (se_str (x := Str.ofString "ring") [114, 105, 110, 103]) (sa_cons (se_isy (cV := .ref (He.ga X.K "NoRing")) isx_4 (.own _) T.x_4 (se_var 3)) sa_nil))) sa_nil)))) (sg_name 1))
    (ss_seq (ss_asg (se_op rn_add (se_var 1) (se_lst (sa_cons (se_tup (sa_cons (se_str (x := Str.ofString "name") [110, 97, 109, 101]) (sa_cons (se_isyT (cs := [.ref (He.ga X.K "NoName"), .ref (He.ga X.K "Twice")]) (us := [.ref (He.ga X.K "NoName"), .ref (He.ga X.K "Twice")]) isx_7 (.cons (.own _) (.cons (.own _) .nil)) T.x_7 rfl (se_var 3)) sa_nil))) (sa_cons (se_tup (sa_cons (se_str (x := Str.ofString "deed") [100, 101, 101, 100]) (sa_cons (se_isy (cV := .ref (He.ga X.K "NoDeed")) isx_6 (.own _) T.x_6 (se_var 3)) sa_nil))) sa_nil)))) (sg_name 1))
    (ss_seq (ss_asg (se_op rn_add (se_var 1) (se_lst (sa_cons (se_tup (sa_cons (se_str (x := Str.ofString "other") [111, 116, 104, 101, 114]) (sa_cons (se_isyT (cs := [.ref (He.ga X.K "NoColumn"), .ref (He.ga X.K "NoLink"), .ref (He.ga X.K "NoLayout"), .ref (He.ga X.K "NoPatch"), .ref (He.ga X.K "NoSight")]) (us := [.ref (He.ga X.K "NoColumn"), .ref (He.ga X.K "NoLink"), .ref (He.ga X.K "NoLayout"), .ref (He.ga X.K "NoPatch"), .ref (He.ga X.K "NoSight")]) isx_8 (.cons (.own _) (.cons (.own _) (.cons (.own _) (.cons (.own _) (.cons (.own _) .nil))))) T.x_8 rfl (se_var 3)) sa_nil))) sa_nil))) (sg_name 1))
    (ss_seq (ss_asg (se_m1 rn_join (se_str (x := Str.ofString "") []) (se_lc (vs := [5, 6]) (si_seq (se_var 1)) (sg_tup (sgs_cons (sg_name 5) (sgs_cons (sg_name 6) sgs_nil)) (hn_cons (hn_cons hn_nil))) (st_and (st_tru (se_var 6)) (st_tru (se_isy (cV := .ty "ValueError") isx_9 (.ty _) T.x_9 (se_var 3)))) (se_var 5))) (sg_name 2))
    (ss_seq (ss_if (st_test (se_op rn_eq (se_var 2) (se_str (x := Str.ofString "piece") [112, 105, 101, 99, 101]))) (ss_ret (se_tup (sa_cons (se_var 2) (sa_cons (se_never (b := true)) sa_nil)))) ss_next)
    (ss_seq (ss_if (st_test (se_op rn_eq (se_var 2) (se_str (x := Str.ofString "text") [116, 101, 120, 116]))) (ss_ret (se_tup (sa_cons (se_var 2) (sa_cons (se_never (b := true)) sa_nil)))) ss_next)
    (ss_ret (se_ife (b3 := true) (st_test (se_op rn_eq (se_var 2) (se_str (x := Str.ofString "word") [119, 111, 114, 100]))) (se_tup (sa_cons (se_var 2) (sa_cons (se_fld ["NoWord"] "word" (lf_word T) (se_var 3)) sa_nil))) (se_tup (sa_cons (se_var 2) (sa_cons se_non sa_nil)))))))))))))), fun cdv q => ?_⟩
  exact VH.gives_try sc.nd rfl rfl rfl (by decide) rfl (by first | exact Or.inl rfl | exact Or.inr rfl) rfl rfl T.g_ShardError rfl rfl rfl (fun s H hr => (ps_asg (pe_tup (pa_cons pe_non (pa_cons pe_non pa_nil))) (pg_tup (by rfl) (pgs_cons (pg_name (i := 3) sc.nd rfl (by first | exact Or.inl rfl | exact Or.inr rfl)) (pgs_cons (pg_name (i := 4) sc.nd rfl (by first | exact Or.inl rfl | exact Or.inr rfl)) pgs_nil))))) (fun s H hr => (pss_cons (ps_if (pt_cmpR op_isN (pv 3) pe_non (nomark _)) (pss_one (ps_ret (pe_lst (pa_cons (pv 4) pa_nil)))) pss_nil)
    (pss_cons (ps_set (i := 1) sc.nd rfl (by first | exact Or.inl rfl | exact Or.inr rfl) (pe_lst (pa_cons (pe_tup (pa_cons pe_str (pa_cons (pe_callB VH.call_isY (by rfl) T.n_isinstance (by decide +kernel) (pa_cons (pv 3) (pa_cons (pe_glob (v := .ref (He.ga X.K "NoRow")) (by rfl) T.g_NoRow rfl) pa_nil))) pa_nil))) (pa_cons (pe_tup (pa_cons pe_str (pa_cons (pe_callB VH.call_isY (by rfl) T.n_isinstance (by decide +kernel) (pa_cons (pv 3) (pa_cons (pe_glob (v := .ref (He.ga X.K "NoSize")) (by rfl) T.g_NoSize rfl) pa_nil))) pa_nil))) pa_nil))))
    (pss_cons (ps_set (i := 1) sc.nd rfl (by first | exact Or.inl rfl | exact Or.inr rfl) (pe_op op_addA (pv 1) (pe_lst (pa_cons (pe_tup (pa_cons pe_str (pa_cons (pe_callB VH.call_isY (by rfl) T.n_isinstance (by decide +kernel) (pa_cons (pv 3) (pa_cons (pe_glob (v := .ref (He.ga X.K "NoPiece")) (by rfl) T.g_NoPiece rfl) pa_nil))) pa_nil))) (pa_cons (pe_tup (pa_cons pe_str (pa_cons (pe_callB VH.call_isY (by rfl) T.n_isinstance (by decide +kernel) (pa_cons (pv 3) (pa_cons (pe_glob (v := .ref (He.ga X.K "NoText")) (by rfl) T.g_NoText rfl) pa_nil))) pa_nil))) pa_nil)))))
    (pss_cons (ps_set (i := 1) sc.nd rfl (by first | exact Or.inl rfl | exact Or.inr rfl) (pe_op op_addA (pv 1) (pe_lst (pa_cons (pe_tup (pa_cons pe_str (pa_cons (pe_callB VH.call_isY (by rfl) T.n_isinstance (by decide +kernel) (pa_cons (pv 3) (pa_cons (pe_glob (v := .ref (He.ga X.K "NoWord")) (by rfl) T.g_NoWord rfl) pa_nil))) pa_nil))) (pa_cons (pe_tup (pa_cons pe_str (pa_cons (pe_callB VH.call_isY (by rfl) T.n_isinstance (by decide +kernel) (pa_cons (pv 3) (pa_cons (pe_glob (v := .ref (He.ga X.K "NoRing")) (by rfl) T.g_NoRing rfl) pa_nil))) pa_nil))) pa_nil)))))
    (pss_cons (ps_set (i := 1) sc.nd rfl (by first | exact Or.inl rfl | exact Or.inr rfl) (pe_op op_addA (pv 1) (pe_lst (pa_cons (pe_tup (pa_cons pe_str (pa_cons (pe_callB VH.call_isYT (by rfl) T.n_isinstance (by decide +kernel) (pa_cons (pv 3) (pa_cons (pe_tup (pa_cons (pe_glob (v := .ref (He.ga X.K "NoName")) (by rfl) T.g_NoName rfl) (pa_cons (pe_glob (v := .ref (He.ga X.K "Twice")) (by rfl) T.g_Twice rfl) pa_nil))) pa_nil))) pa_nil))) (pa_cons (pe_tup (pa_cons pe_str (pa_cons (pe_callB VH.call_isY (by rfl) T.n_isinstance (by decide +kernel) (pa_cons (pv 3) (pa_cons (pe_glob (v := .ref (He.ga X.K "NoDeed")) (by rfl) T.g_NoDeed rfl) pa_nil))) pa_nil))) pa_nil)))))
    (pss_cons (ps_set (i := 1) sc.nd rfl (by first | exact Or.inl rfl | exact Or.inr rfl) (pe_op op_addA (pv 1) (pe_lst (pa_cons (pe_tup (pa_cons pe_str (pa_cons (pe_callB VH.call_isYT (by rfl) T.n_isinstance (by decide +kernel) (pa_cons (pv 3) (pa_cons (pe_tup (pa_cons (pe_glob (v := .ref (He.ga X.K "NoColumn")) (by rfl) T.g_NoColumn rfl) (pa_cons (pe_glob (v := .ref (He.ga X.K "NoLink")) (by rfl) T.g_NoLink rfl) (pa_cons (pe_glob (v := .ref (He.ga X.K "NoLayout")) (by rfl) T.g_NoLayout rfl) (pa_cons (pe_glob (v := .ref (He.ga X.K "NoPatch")) (by rfl) T.g_NoPatch rfl) (pa_cons (pe_glob (v := .ref (He.ga X.K "NoSight")) (by rfl) T.g_NoSight rfl) pa_nil)))))) pa_nil))) pa_nil))) pa_nil))))
    (pss_cons (ps_set (i := 2) sc.nd rfl (by first | exact Or.inl rfl | exact Or.inr rfl) (pe_join pe_str (pe_lc (own := [("_law_word_here", 5), ("_law_there", 6)]) (g := (gTup X.K 2 (gCons (gName 5) (gCons (gName 6) gNil)))) (by rfl) sc.nd (pi_seq (pv 1)) (blkOk_by (own := [("_law_word_here", 5), ("_law_there", 6)]) (by kernel_rfl)) (fun _ _ _ _ _ => (pg_tup (by rfl) (pgs_cons (pg_name (i := 5) sc.nd rfl (by first | exact Or.inl rfl | exact Or.inr rfl)) (pgs_cons (pg_name (i := 6) sc.nd rfl (by first | exact Or.inl rfl | exact Or.inr rfl)) pgs_nil)))) (fun _ _ _ _ _ => (pts_one (PW.pt (pw_and (pt_truth (pv 6) (by intro _; rfl)) (pw_and1 (pt_truth (pe_callB VH.call_isY (by rfl) T.n_isinstance (by decide +kernel) (pa_cons (pv 3) (pa_cons (pe_bltn (v := .ty "ValueError") (u := .type "ValueError") (by rfl) T.n_ValueError (by decide +kernel) rfl) pa_nil))) (by intro _; rfl))))))) (fun _ _ _ _ _ => (pv 5)))))
    (pss_cons (ps_if (pt_cmpR (op_eqD hr.units) (pv 2) pe_str (nomark _)) (pss_one (ps_ret (pe_tup (pa_cons (pv 2) (pa_cons VH.pe_never pa_nil))))) pss_nil)
    (pss_cons (ps_if (pt_cmpR (op_eqD hr.units) (pv 2) pe_str (nomark _)) (pss_one (ps_ret (pe_tup (pa_cons (pv 2) (pa_cons VH.pe_never pa_nil))))) pss_nil)
    (pss_one (ps_ret (pe_ifExp (pt_cmpR (op_eqD hr.units) (pv 2) pe_str (nomark _)) (pe_tup (pa_cons (pv 2) (pa_cons (VH.pe_fld (pv 3)) pa_nil))) (pe_tup (pa_cons (pv 2) (pa_cons pe_non pa_nil))))))))))))))))
theorem sc__law_is_right : FnScope nm__law_is_right ps__law_is_right (defScope s__law_is_right) := ⟨rfl, rfl, rfl, by decide +kernel, rfl, by decide +kernel, by decide +kernel⟩
theorem bd__law_is_right {fd : FuncData} (F : FunD K "_law_is_right" "_law_is_right" (defArgs s__law_is_right) (defBody s__law_is_right) (defScope s__law_is_right) (dd__law_is_right K) [] (He.ga K "_law_is_right") fd) : Binds K fd ps__law_is_right [] :=
  FunD.bindsN (ps := ps__law_is_right) F fun _ _ _ _ _ _ us hl => match us, hl with | [_, _], _ => rfl
theorem ok__law_is_right (T : Tx K w mg) {fd : FuncData} (F : FunD K "_law_is_right" "_law_is_right" (defArgs s__law_is_right) (defBody s__law_is_right) (defScope s__law_is_right) (dd__law_is_right K) [] (He.ga K "_law_is_right") fd) :
    FnOk P w K mg base (L2.CX P w) 2 (He.ga K "_law_is_right") fd ps__law_is_right (spD (mn K) F__law_is_right) := by
  obtain ⟨fd__law_contrary, F__law_contrary⟩ := T.d__law_contrary
  have G__law_contrary := ok__law_contrary (P := P) (base := base) T F__law_contrary
  have b__law_contrary := bd__law_contrary F__law_contrary
  obtain ⟨_, _, kd_PARTNERS⟩ := T.kd_PARTNERS
  have sc := sc__law_is_right
  refine fnD (M := mn K) (m := 4) (re := re__law_is_right) (f := d__law_is_right) F sc rfl rfl fun cdv A outer s H E hr => ?_
  have tk := takes_of (X := cxOf (L2.CX P w) P w K mg base nm__law_is_right "_law_is_right" (defScope s__law_is_right) (He.ga K "_law_is_right") cdv A outer s H E) (E := E) rfl rfl rfl rfl
  refine ⟨_, ?_, (ss_seq (ss_asg (se_cb rn_lenB (sa_cons (se_item (se_var 0) se_int) sa_nil)) (sg_name 2))
    (ss_seq (ss_asg (se_lc (vs := [4]) (si_range1 (sa_cons (se_op rn_add (se_op rn_sub (se_cb rn_lenB (sa_cons (se_var 1) sa_nil)) (se_var 2)) se_int) sa_nil)) (sg_name 4) st_yes (se_slLH (se_var 1) (se_var 4) (se_op rn_add (se_var 4) (se_var 2)))) (sg_name 3))
    (ss_ret (se_op rn_eq (se_lc (vs := [5]) (si_seq (se_var 3)) (sg_name 5) (st_test (se_op rn_notInL (se_cb rn_min2 (sa_cons (se_var 5) (sa_cons (se_call (dd := []) (dvs := []) (sa_cons (se_var 5) sa_nil) (fun _ _ => ros_nil)) sa_nil))) (se_var 0))) (se_var 5)) (se_lst sa_nil)))))⟩
  exact (pss_cons (ps_set (i := 2) sc.nd rfl (by first | exact Or.inl rfl | exact Or.inr rfl) (pe_callB call_lenB (by rfl) T.n_len (by decide +kernel) (pa_cons (PyV.pe_or (pe_ix ix_seq (pv 0) pe_int (fun _ _ => rfl)) (pe_dget (hu_of hr) (pv 0) pe_int (fun _ _ => rfl))) pa_nil)))
    (pss_cons (ps_setLc (i := 3) (own := [("_law_at", 4)]) (g := (gName 4)) (by rfl) sc.nd rfl rfl (sw_true rfl rfl rfl (by decide +kernel)) (pi_range1 (by rfl) T.n_range (pa_cons (pe_op op_addA (pe_op op_sub (pe_callB call_lenB (by rfl) T.n_len (by decide +kernel) (pa_cons (pv 1) pa_nil)) (pv 2)) pe_int) pa_nil)) (blkOk_by (own := [("_law_at", 4)]) (by kernel_rfl)) (fun _ _ _ _ _ => (pg_name (i := 4) sc.nd rfl (by first | exact Or.inl rfl | exact Or.inr rfl))) (fun _ _ _ _ _ => pts_nil) (fun _ _ _ _ _ => (pe_slice sl_all (pv 1) (po_some (pv 4)) (po_some (pe_op op_addA (pv 4) (pv 2))))))
    (pss_one (ps_ret (pe_cmpR (op_eqD hr.units) (pe_lc (own := [("_law_word_here", 5)]) (g := (gName 5)) (by rfl) sc.nd (pi_seq (pv 3)) (blkOk_by (own := [("_law_word_here", 5)]) (by kernel_rfl)) (fun _ _ _ _ _ => (pg_name (i := 5) sc.nd rfl (by first | exact Or.inl rfl | exact Or.inr rfl))) (fun _ _ _ _ _ => (pts_one (pt_cmpR (op_notInD (u65 hr)) (pe_callB (call_min2A rfl) (by rfl) T.n_min (by decide +kernel) (pa_cons (pv 5) (pa_cons (pe_callSD G__law_contrary (hr.mono (by decide)) (by rfl) T.g__law_contrary F__law_contrary.kp b__law_contrary .nil pass0W (pa_cons (pv 5) pa_nil)) pa_nil))) (pv 0) (by with_unfolding_all rfl)))) (fun _ _ _ _ _ => (pv 5))) (pe_lst pa_nil) (nomark _))))))
theorem sc_law : FnScope nm_law ps_law (defScope s_law) := ⟨rfl, rfl, rfl, by decide +kernel, rfl, by decide +kernel, by decide +kernel⟩
theorem bd_law {fd : FuncData} (F : FunD K "law" "law" (defArgs s_law) (defBody s_law) (defScope s_law) (dd_law K) [] (He.ga K "law") fd) : Binds K fd ps_law [] :=
  FunD.bindsN (ps := ps_law) F fun _ _ _ _ _ _ us hl => match us, hl with | [_], _ => rfl
theorem ok_law (T : Tx K w mg) {fd : FuncData} (F : FunD K "law" "law" (defArgs s_law) (defBody s_law) (defScope s_law) (dd_law K) [] (He.ga K "law") fd) (hcode : fd.code = .ref (He.codeOf K ("law", none))) (TB : LamX.TabB base mg (He.codeOf K ("law", none)) (He.tabOf K (He.codeOf K ("law", none)))) :
    FnOk P w K mg base CX0 10 (He.ga K "law") fd ps_law (spD0 (mn K) F_law) := by
  obtain ⟨fd__law_begun, F__law_begun⟩ := T.d__law_begun
  have G__law_begun := ok__law_begun (P := P) (base := base) T F__law_begun
  have b__law_begun := bd__law_begun F__law_begun
  obtain ⟨fd__law_pick, F__law_pick⟩ := T.d__law_pick
  have G__law_pick := ok__law_pick (P := P) (base := base) T F__law_pick
  have b__law_pick := bd__law_pick F__law_pick
  obtain ⟨fd__law_forms, F__law_forms⟩ := T.d__law_forms
  have G__law_forms := ok__law_forms (P := P) (base := base) T F__law_forms
  have b__law_forms := bd__law_forms F__law_forms
  obtain ⟨fd__law_next, F__law_next⟩ := T.d__law_next
  have G__law_next := ok__law_next (P := P) (base := base) T F__law_next
  have b__law_next := bd__law_next F__law_next
  obtain ⟨fd__law_is_right, F__law_is_right⟩ := T.d__law_is_right
  have G__law_is_right := ok__law_is_right (P := P) (base := base) T F__law_is_right
  have b__law_is_right := bd__law_is_right F__law_is_right
  obtain ⟨fd__law_contrary, F__law_contrary⟩ := T.d__law_contrary
  have G__law_contrary := ok__law_contrary (P := P) (base := base) T F__law_contrary
  have b__law_contrary := bd__law_contrary F__law_contrary
  obtain ⟨fd__law_row, F__law_row⟩ := T.d__law_row
  have G__law_row := ok__law_row (P := P) (base := base) T F__law_row
  have b__law_row := bd__law_row F__law_row
  obtain ⟨fd_is_right, F_is_right⟩ := T.d_is_right
  have G_is_right := ok_is_right (P := P) (base := base) T F_is_right
  have b_is_right := bd_is_right F_is_right
  obtain ⟨fd__law_word, F__law_word⟩ := T.d__law_word
  have b__law_word := bd__law_word F__law_word
  obtain ⟨_, _, kd_PARTNERS⟩ := T.kd_PARTNERS
  have sc := sc_law
  refine fnD0C (M := mn K) (m := 16) (re := re_law) (f := d_law) F sc rfl rfl hcode fun A outer s H E hr => ?_
  obtain ⟨tI__law_word, tR__law_word, ssI__law_word, ssR__law_word, gv__law_word⟩ := gvx__law_word (X := cxOf CX0 P w K mg base nm_law "law" (defScope s_law) (He.ga K "law") (.ref (He.codeOf K ("law", none))) A outer s H E) T
  refine ⟨_, ?_, (ss_seq (ss_for (si_enumB (sa_cons (se_slH (se_lor (se_var 0) (se_lst (sa_cons se_int sa_nil))) se_int) sa_nil)) (sg_tup (sgs_cons (sg_name 1) (sgs_cons (sg_name 2) sgs_nil)) (hn_cons (hn_cons hn_nil))) (ss_seq (ss_asg (se_call (dd := []) (dvs := []) (sa_cons (se_var 2) (sa_cons (se_var 1) sa_nil)) (fun _ _ => ros_nil)) (sg_name 3))
    (ss_seq (ss_asg (se_call (dd := []) (dvs := []) (sa_cons (se_var 3) (sa_cons (se_lst (sa_cons se_int (sa_cons se_int (sa_cons se_int (sa_cons se_int (sa_cons se_int sa_nil)))))) sa_nil)) (fun _ _ => ros_nil)) (sg_name 4))
    (ss_seq (ss_asg (se_call (dd := []) (dvs := []) (sa_cons (se_var 3) (sa_cons (se_var 4) sa_nil)) (fun _ _ => ros_nil)) (sg_name 5))
    (ss_seq (ss_for (si_range1 (sa_cons se_int sa_nil)) (sg_name 6) (ss_seq (ss_asg (se_call (dd := []) (dvs := []) (sa_cons (se_var 3) (sa_cons (se_var 5) sa_nil)) (fun _ _ => ros_nil)) (sg_name 10))
    (ss_seq (ss_for (si_range1 (sa_cons (se_call (dd := []) (dvs := []) (sa_cons (se_var 3) (sa_cons se_int sa_nil)) (fun _ _ => ros_nil)) sa_nil)) (sg_name 11) (ss_seq (ss_asg (se_lc (vs := [16]) (si_seq (se_str (x := Str.ofString "acgt") [97, 99, 103, 116])) (sg_name 16) (st_tru (se_call (dd := []) (dvs := []) (sa_cons (se_var 5) (sa_cons (se_op rn_add (se_var 10) (se_var 16)) sa_nil)) (fun _ _ => ros_nil))) (se_op rn_add (se_var 10) (se_var 16))) (sg_name 13))
    (ss_asg (se_ife (b3 := true) (st_test (se_op rn_ne (se_var 13) (se_lst sa_nil))) (se_call (dd := []) (dvs := []) (sa_cons (se_var 3) (sa_cons (se_var 13) sa_nil)) (fun _ _ => ros_nil)) (se_var 10)) (sg_name 10))))
    (ss_seq (ss_par (i := 14) (j := 15) (sa_cons (se_call (dd := []) (dvs := []) (sa_cons (se_var 3) (sa_cons (se_cb rn_lenB (sa_cons (se_var 10) sa_nil)) sa_nil)) (fun _ _ => ros_nil)) (sa_cons (se_call (dd := []) (dvs := []) (sa_cons (se_var 3) (sa_cons se_int sa_nil)) (fun _ _ => ros_nil)) sa_nil)))
    (ss_seq (ss_if (st_test (se_op rn_eq (se_var 15) se_int)) (ss_asg (se_op rn_add (se_op rn_add (se_slH (se_var 10) (se_var 14)) (se_call (dd := []) (dvs := []) (sa_cons (se_var 3) (sa_cons (se_str (x := Str.ofString "acgt") [97, 99, 103, 116]) sa_nil)) (fun _ _ => ros_nil))) (se_slL (se_var 10) (se_op rn_add (se_var 14) se_int))) (sg_name 10)) (ss_if (st_test (se_op rn_eq (se_var 15) se_int)) (ss_asg (se_call (dd := []) (dvs := []) (sa_cons (se_var 10) sa_nil) (fun _ _ => ros_nil)) (sg_name 10)) (ss_if (st_test (se_op rn_eq (se_var 15) se_int)) (ss_asg (se_call (dd := []) (dvs := []) (sa_cons (se_var 3) (sa_cons (se_var 4) (sa_cons (se_op rn_add (se_var 4) se_int) sa_nil))) (fun _ _ => ros_nil)) (sg_name 10)) ss_next)))
    (ss_seq (ss_asg (se_call (dd := []) (dvs := []) (sa_cons (se_ife (b3 := true) (st_test (se_op rn_eq (se_var 6) se_int)) (se_cb rn_tuple (sa_cons (se_var 5) sa_nil)) (se_var 5)) (sa_cons (se_var 10) sa_nil)) (fun _ _ => ros_nil)) (sg_name 12))
    (ss_if (st_or (st_not (st_tru (se_isi "bool" (se_var 12)))) (st_test (se_op rn_ne (se_var 12) (se_call (dd := []) (dvs := []) (sa_cons (se_var 5) (sa_cons (se_var 10) sa_nil)) (fun _ _ => ros_nil))))) (ss_ret se_bl) ss_next)))))))
    (ss_seq (ss_asg (se_call (dd := []) (dvs := []) (sa_cons (se_var 3) (sa_cons se_int (sa_cons (se_op rn_sub (se_var 4) se_int) sa_nil))) (fun _ _ => ros_nil)) (sg_name 7))
    (ss_seq (ss_asg (se_call (dd := []) (dvs := []) (sa_cons (se_var 3) (sa_cons (se_lst (sa_cons se_non (sa_cons se_int (sa_cons (se_lst (sa_cons (se_str (x := Str.ofString "acg") [97, 99, 103]) sa_nil)) (sa_cons (se_str (x := Str.ofString "acx") [97, 99, 120]) (sa_cons (se_str (x := Str.ofString "") []) (sa_cons se_bl sa_nil))))))) sa_nil)) (fun _ _ => ros_nil)) (sg_name 8))
    (ss_seq (ss_for (si_seq (se_tup (sa_cons (se_var 7) (sa_cons (se_var 8) sa_nil)))) (sg_name 9) (ss_if (st_test (se_op rn_ne (se_lamtry (i := 7) (j := 3) (l := 4) (m := 7) (N := nm__law_word) (sub := sub__law_word) (fI := d__law_word_init) (fR := d__law_word_rest) rfl rfl rfl (by decide) (fun E => (se_call (dd := []) (dvs := []) (sa_cons (se_var 5) (sa_cons (se_var 9) sa_nil)) (fun _ _ => ros_nil))) ssI__law_word ssR__law_word (hsub__law_word T) hl__law_word) (se_tup (sa_cons (se_str (x := Str.ofString "row") [114, 111, 119]) (sa_cons se_non sa_nil))))) (ss_ret se_bl) ss_next))
    (ss_if (st_test (se_op rn_ne (se_lamtry (i := 7) (j := 3) (l := 4) (m := 7) (N := nm__law_word) (sub := sub__law_word) (fI := d__law_word_init) (fR := d__law_word_rest) rfl rfl rfl (by decide) (fun E => (se_call (dd := []) (dvs := []) (sa_cons (se_lst sa_nil) (sa_cons (se_var 8) sa_nil)) (fun _ _ => ros_nil))) ssI__law_word ssR__law_word (hsub__law_word T) hl__law_word) (se_tup (sa_cons (se_str (x := Str.ofString "word") [119, 111, 114, 100]) (sa_cons se_non sa_nil))))) (ss_ret se_bl) ss_next)))))))))
    (ss_ret se_bl))⟩
  exact (pss_cons (ps_for (passes_of rfl) rfl (VH.pi_enumB (by rfl) T.n_enumerate (pa_cons (pe_slice sl_all (pe_orT (pv 0) (pe_one (pe_lst (pa_cons pe_int pa_nil)))) po_none (po_some pe_int)) pa_nil)) (pg_tup (by rfl) (pgs_cons (pg_name (i := 1) sc.nd rfl (by first | exact Or.inl rfl | exact Or.inr rfl)) (pgs_cons (pg_name (i := 2) sc.nd rfl (by first | exact Or.inl rfl | exact Or.inr rfl)) pgs_nil))) (pss_cons (ps_set (i := 3) sc.nd rfl (by first | exact Or.inl rfl | exact Or.inr rfl) (pe_callSD G__law_begun (hr.mono (by decide)) (by rfl) T.g__law_begun F__law_begun.kp b__law_begun .nil pass0W (pa_cons (pv 2) (pa_cons (pv 1) pa_nil))))
    (pss_cons (ps_set (i := 4) sc.nd rfl (by first | exact Or.inl rfl | exact Or.inr rfl) (pe_callSD G__law_pick (hr.mono (by decide)) (by rfl) T.g__law_pick F__law_pick.kp b__law_pick .nil pass0W (pa_cons (pv 3) (pa_cons (pe_lst (pa_cons pe_int (pa_cons pe_int (pa_cons pe_int (pa_cons pe_int (pa_cons pe_int pa_nil)))))) pa_nil))))
    (pss_cons (ps_set (i := 5) sc.nd rfl (by first | exact Or.inl rfl | exact Or.inr rfl) (pe_callSD G__law_forms (hr.mono (by decide)) (by rfl) T.g__law_forms F__law_forms.kp b__law_forms .nil pass0W (pa_cons (pv 3) (pa_cons (pv 4) pa_nil))))
    (pss_cons (ps_for (passes_of rfl) rfl (pi_range1 (by rfl) T.n_range (pa_cons pe_int pa_nil)) (pg_name (i := 6) sc.nd rfl (by first | exact Or.inl rfl | exact Or.inr rfl)) (pss_cons (ps_set (i := 10) sc.nd rfl (by first | exact Or.inl rfl | exact Or.inr rfl) (pe_callSD G__law_pick (hr.mono (by decide)) (by rfl) T.g__law_pick F__law_pick.kp b__law_pick .nil pass0W (pa_cons (pv 3) (pa_cons (pv 5) pa_nil))))
    (pss_cons (ps_for (passes_of rfl) rfl (pi_range1 (by rfl) T.n_range (pa_cons (pe_callSD G__law_next (hr.mono (by decide)) (by rfl) T.g__law_next F__law_next.kp b__law_next .nil pass0W (pa_cons (pv 3) (pa_cons pe_int pa_nil))) pa_nil)) (pg_name (i := 11) sc.nd rfl (by first | exact Or.inl rfl | exact Or.inr rfl)) (pss_cons (ps_setLc (i := 13) (own := [("_law_sign", 16)]) (g := (gName 16)) (by rfl) sc.nd rfl rfl (sw_true rfl rfl rfl (by decide +kernel)) (pi_seq pe_str) (blkOk_by (own := [("_law_sign", 16)]) (by kernel_rfl)) (fun _ _ _ _ _ => (pg_name (i := 16) sc.nd rfl (by first | exact Or.inl rfl | exact Or.inr rfl))) (fun _ _ _ _ _ => (pts_one (pt_truth (pe_callSD G__law_is_right (hr.mono (by decide)) (by rfl) T.g__law_is_right F__law_is_right.kp b__law_is_right .nil pass0W (pa_cons (pv 5) (pa_cons (pe_op op_addA (pv 10) (pv 16)) pa_nil))) (by intro _; rfl)))) (fun _ _ _ _ _ => (pe_op op_addA (pv 10) (pv 16))))
    (pss_one (ps_set (i := 10) sc.nd rfl (by first | exact Or.inl rfl | exact Or.inr rfl) (pe_ifExp (pt_cmpR (op_neD hr.units) (pv 13) (pe_lst pa_nil) (nomark _)) (pe_callSD G__law_pick (hr.mono (by decide)) (by rfl) T.g__law_pick F__law_pick.kp b__law_pick .nil pass0W (pa_cons (pv 3) (pa_cons (pv 13) pa_nil))) (pv 10))))))
    (pss_cons (ps_par (i := 14) (j := 15) (by rfl) sc.nd rfl rfl (by decide) rfl rfl (pa_cons (pe_callSD G__law_next (hr.mono (by decide)) (by rfl) T.g__law_next F__law_next.kp b__law_next .nil pass0W (pa_cons (pv 3) (pa_cons (pe_callB call_lenB (by rfl) T.n_len (by decide +kernel) (pa_cons (pv 10) pa_nil)) pa_nil))) (pa_cons (pe_callSD G__law_next (hr.mono (by decide)) (by rfl) T.g__law_next F__law_next.kp b__law_next .nil pass0W (pa_cons (pv 3) (pa_cons pe_int pa_nil))) pa_nil)) (by rfl))
    (pss_cons (ps_if (pt_cmpR (op_eqD hr.units) (pv 15) pe_int (nomark _)) (pss_one (ps_set (i := 10) sc.nd rfl (by first | exact Or.inl rfl | exact Or.inr rfl) (pe_op op_addA (pe_op op_addA (pe_slice sl_all (pv 10) po_none (po_some (pv 14))) (pe_callSD G__law_pick (hr.mono (by decide)) (by rfl) T.g__law_pick F__law_pick.kp b__law_pick .nil pass0W (pa_cons (pv 3) (pa_cons pe_str pa_nil)))) (pe_slice sl_all (pv 10) (po_some (pe_op op_addA (pv 14) pe_int)) po_none)))) (pss_one (ps_if (pt_cmpR (op_eqD hr.units) (pv 15) pe_int (nomark _)) (pss_one (ps_set (i := 10) sc.nd rfl (by first | exact Or.inl rfl | exact Or.inr rfl) (pe_callSD G__law_contrary (hr.mono (by decide)) (by rfl) T.g__law_contrary F__law_contrary.kp b__law_contrary .nil pass0W (pa_cons (pv 10) pa_nil)))) (pss_one (ps_if (pt_cmpR (op_eqD hr.units) (pv 15) pe_int (nomark _)) (pss_one (ps_set (i := 10) sc.nd rfl (by first | exact Or.inl rfl | exact Or.inr rfl) (pe_callSD G__law_row (hr.mono (by decide)) (by rfl) T.g__law_row F__law_row.kp b__law_row .nil pass0W (pa_cons (pv 3) (pa_cons (pv 4) (pa_cons (pe_op op_addA (pv 4) pe_int) pa_nil)))))) pss_nil)))))
    (pss_cons (ps_set (i := 12) sc.nd rfl (by first | exact Or.inl rfl | exact Or.inr rfl) (pe_callSD G_is_right (hr.mono (by decide)) (by rfl) T.g_is_right F_is_right.kp b_is_right .nil pass0W (pa_cons (pe_ifExp (pt_cmpR (op_eqD hr.units) (pv 6) pe_int (nomark _)) (pe_callTy call_tuple_of (by rfl) T.n_tuple (by decide +kernel) (pa_cons (pv 5) pa_nil)) (pv 5)) (pa_cons (pv 10) pa_nil))))
    (pss_one (ps_if (PW.pt (pw_or (pt_not (pt_truth (pe_callB call_isi (by rfl) T.n_isinstance (by decide +kernel) (pa_cons (pv 12) (pa_cons (pe_bltn (v := .ty "bool") (u := .type "bool") (by rfl) T.n_bool (by decide +kernel) rfl) pa_nil))) (by intro _; rfl))) (pw_or1 (pt_cmpR (op_neD hr.units) (pv 12) (pe_callSD G__law_is_right (hr.mono (by decide)) (by rfl) T.g__law_is_right F__law_is_right.kp b__law_is_right .nil pass0W (pa_cons (pv 5) (pa_cons (pv 10) pa_nil))) (nomark _))))) (pss_one (ps_ret pe_bl)) pss_nil))))))))
    (pss_cons (ps_set (i := 7) sc.nd rfl (by first | exact Or.inl rfl | exact Or.inr rfl) (pe_callSD G__law_row (hr.mono (by decide)) (by rfl) T.g__law_row F__law_row.kp b__law_row .nil pass0W (pa_cons (pv 3) (pa_cons pe_int (pa_cons (pe_op op_sub (pv 4) pe_int) pa_nil)))))
    (pss_cons (ps_set (i := 8) sc.nd rfl (by first | exact Or.inl rfl | exact Or.inr rfl) (pe_callSD G__law_pick (hr.mono (by decide)) (by rfl) T.g__law_pick F__law_pick.kp b__law_pick .nil pass0W (pa_cons (pv 3) (pa_cons (pe_lst (pa_cons pe_non (pa_cons pe_int (pa_cons (pe_lst (pa_cons pe_str pa_nil)) (pa_cons pe_str (pa_cons pe_str (pa_cons pe_bl pa_nil))))))) pa_nil))))
    (pss_cons (ps_for (passes_of rfl) rfl (pi_seq (pe_tup (pa_cons (pv 7) (pa_cons (pv 8) pa_nil)))) (pg_name (i := 9) sc.nd rfl (by first | exact Or.inl rfl | exact Or.inr rfl)) (pss_one (ps_if (pt_cmpR (op_neD hr.units) (VH.pe_lamtry (k := 7) (by rfl) T.g__law_word F__law_word b__law_word sc__law_word rfl (Or.inl rfl) (fun cdv => gv__law_word cdv _) TB rfl (hr.mono (by decide)) (LamX.lamS_by (by first | rfl | kernel_rfl)) rfl (fun _ _ _ _ _ => rfl) (fun E A outer s H f co hr => (pe_callSD G_is_right (hr.mono (by decide)) (by rfl) T.g_is_right F_is_right.kp b_is_right .nil (passAt (takes_of (E := E) rfl rfl rfl rfl)) (pa_cons (pv 5) (pa_cons (pv 9) pa_nil))))) (pe_tup (pa_cons pe_str (pa_cons pe_non pa_nil))) (nomark _)) (pss_one (ps_ret pe_bl)) pss_nil)))
    (pss_one (ps_if (pt_cmpR (op_neD hr.units) (VH.pe_lamtry (k := 7) (by rfl) T.g__law_word F__law_word b__law_word sc__law_word rfl (Or.inl rfl) (fun cdv => gv__law_word cdv _) TB rfl (hr.mono (by decide)) (LamX.lamS_by (by first | rfl | kernel_rfl)) rfl (fun _ _ _ _ _ => rfl) (fun E A outer s H f co hr => (pe_callSD G_is_right (hr.mono (by decide)) (by rfl) T.g_is_right F_is_right.kp b_is_right .nil (passAt (takes_of (E := E) rfl rfl rfl rfl)) (pa_cons (pe_lst pa_nil) (pa_cons (pv 8) pa_nil))))) (pe_tup (pa_cons pe_str (pa_cons pe_non pa_nil))) (nomark _)) (pss_one (ps_ret pe_bl)) pss_nil))))))))))
    (pss_one (ps_ret pe_bl)))
end
end G
set_option maxHeartbeats 1000000
namespace G
open PySem PyProof.Rows L2 VS
theorem addD_lst (o o2 : Bool) (xs ys : List D) (h : allFz xs = true) (h2 : allFz ys = true) (hl : xs.length + ys.length ≤ LIM) : addD (.lst o xs) (.lst o2 ys) = some (.lst true (xs ++ ys)) := by
  have h3 := List.all_eq_true.mp h
  have h4 := List.all_eq_true.mp h2
  have e1 : (lstI (.lst o xs)) = some xs := by cases o <;> simp [lstI]; exact h3
  have e2 : (lstI (.lst o2 ys)) = some ys := by cases o2 <;> simp [lstI]; exact h4
  simp only [addD, e1, e2, Option.bind_some, if_pos hl]
theorem okS_eq {s : List Nat} (h : okS s = true) (n : Nat) : eqOk n (.str s) = true := eqOk_str h n
theorem eq_txt {s t : List Nat} (h1 : okS s = true) (h2 : okS t = true) : eqD (.str s) (.str t) = some (.bl (decide (s = t))) := by
  unfold eqD
  rw [if_pos ⟨eqOk_str h1 60, eqOk_str h2 60⟩]
  simp [nf]
theorem ne_txt {s t : List Nat} (h1 : okS s = true) (h2 : okS t = true) : neD (.str s) (.str t) = some (.bl (!decide (s = t))) := by
  unfold neD
  rw [if_pos ⟨eqOk_str h1 60, eqOk_str h2 60⟩]
  simp [nf]
/-! the helper that keeps the error -/
def LL (L : List (List Nat × Bool)) : D := .lst false (L.map fun p => .tup false [.str p.1, .bl p.2])
def kinds : List (List Nat × Bool) := [([114, 111, 119], true), ([115, 105, 122, 101], false), ([112, 105, 101, 99, 101], false), ([116, 101, 120, 116], false), ([119, 111, 114, 100], false), ([114, 105, 110, 103], false), ([110, 97, 109, 101], false), ([100, 101, 101, 100], false), ([111, 116, 104, 101, 114], false)]
theorem rest_norow : ∃ e, d__law_word_rest [.hole, .unset, .unset, .exc "NoRow" .unset, .non, .unset, .unset, .unset] =
    .ret (.tup false [.str [114, 111, 119], .non]) e := by
  have n1 : isNoneD (.exc "NoRow" .unset) .non = some (.bl false) := rfl
  have i0 : isyD isx_0 (.exc "NoRow" .unset) = some (.bl false) := rfl
  have i1 : isyD isx_1 (.exc "NoRow" .unset) = some (.bl true) := rfl
  have i2 : isyD isx_2 (.exc "NoRow" .unset) = some (.bl false) := rfl
  have i3 : isyD isx_3 (.exc "NoRow" .unset) = some (.bl false) := rfl
  have i4 : isyD isx_4 (.exc "NoRow" .unset) = some (.bl false) := rfl
  have i5 : isyD isx_5 (.exc "NoRow" .unset) = some (.bl false) := rfl
  have i6 : isyD isx_6 (.exc "NoRow" .unset) = some (.bl false) := rfl
  have i7 : isyD isx_7 (.exc "NoRow" .unset) = some (.bl false) := rfl
  have i8 : isyD isx_8 (.exc "NoRow" .unset) = some (.bl false) := rfl
  have i9 : isyD isx_9 (.exc "NoRow" .unset) = some (.bl true) := rfl
  have a : ∀ (xs ys : List D), allFz xs = true → allFz ys = true → xs.length + ys.length ≤ LIM → addD (.lst true xs) (.lst true ys) = some (.lst true (xs ++ ys)) := fun xs ys h1 h2 h3 => addD_lst true true xs ys h1 h2 h3
  have q1 : eqD (.str [114, 111, 119]) (.str [112, 105, 101, 99, 101]) = some (.bl false) := by rw [eq_txt rfl rfl]; rfl
  have q2 : eqD (.str [114, 111, 119]) (.str [116, 101, 120, 116]) = some (.bl false) := by rw [eq_txt rfl rfl]; rfl
  have q3 : eqD (.str [114, 111, 119]) (.str [119, 111, 114, 100]) = some (.bl false) := by rw [eq_txt rfl rfl]; rfl
  have a1 := a [.tup false [.str [114, 111, 119], .bl true], .tup false [.str [115, 105, 122, 101], .bl false]] [.tup false [.str [112, 105, 101, 99, 101], .bl false], .tup false [.str [116, 101, 120, 116], .bl false]] rfl rfl (by simp [LIM])
  have a2 := a _ [.tup false [.str [119, 111, 114, 100], .bl false], .tup false [.str [114, 105, 110, 103], .bl false]] (show allFz ([.tup false [.str [114, 111, 119], .bl true], .tup false [.str [115, 105, 122, 101], .bl false]] ++ [.tup false [.str [112, 105, 101, 99, 101], .bl false], .tup false [.str [116, 101, 120, 116], .bl false]]) = true from rfl) rfl (by simp [LIM])
  have a3 := a _ [.tup false [.str [110, 97, 109, 101], .bl false], .tup false [.str [100, 101, 101, 100], .bl false]] (show allFz ([.tup false [.str [114, 111, 119], .bl true], .tup false [.str [115, 105, 122, 101], .bl false]] ++ [.tup false [.str [112, 105, 101, 99, 101], .bl false], .tup false [.str [116, 101, 120, 116], .bl false]] ++ [.tup false [.str [119, 111, 114, 100], .bl false], .tup false [.str [114, 105, 110, 103], .bl false]]) = true from rfl) rfl (by simp [LIM])
  have a4 := a _ [.tup false [.str [111, 116, 104, 101, 114], .bl false]] (show allFz ([.tup false [.str [114, 111, 119], .bl true], .tup false [.str [115, 105, 122, 101], .bl false]] ++ [.tup false [.str [112, 105, 101, 99, 101], .bl false], .tup false [.str [116, 101, 120, 116], .bl false]] ++ [.tup false [.str [119, 111, 114, 100], .bl false], .tup false [.str [114, 105, 110, 103], .bl false]] ++ [.tup false [.str [110, 97, 109, 101], .bl false], .tup false [.str [100, 101, 101, 100], .bl false]]) = true from rfl) rfl (by simp [LIM])
  simp only [List.cons_append, List.nil_append] at a1 a2 a3 a4
  have key := lc_gen (gf := tupG (consG (nameG 5) (consG (nameG 6) nilG))) (t := andF (truF (varF 6)) (truF (una (isyD isx_9) (varF 3)))) (ef := varF 5) (vs := [5, 6])
    (env := [.hole, LL kinds, .unset, .exc "NoRow" .unset, .non, .unset, .unset, .unset]) (fun p : List Nat × Bool => D.tup false [.str p.1, .bl p.2]) (fun p => [.hole, LL kinds, .unset, .exc "NoRow" .unset, .non, .str p.1, .bl p.2, .unset]) (fun p => p.2) (fun p => .str p.1) kinds []
    (fun p _ => ⟨by simp, by simp, by cases h : p.2 <;> simp [andF, h, i9], fun _ => ⟨.tmp (.str p.1), by simp, by simp⟩⟩) (by simp [kinds, LIM])
  simp [kinds, LL] at key
  simp [LIM, d__law_word_rest, n1, i0, i1, i2, i3, i4, i5, i6, i7, i8, a1, a2, a3, a4, key, joinD, seqI, strsD, glue, q1, q2, q3, ifeF, ev_retS]
end G
set_option maxHeartbeats 1000000
namespace G
open PySem PyProof.Rows L2 VS
def sg (c : Nat) : Bool := (tb_PARTNERS.lookup [c]).isSome
theorem setAll_map {α : Type} (f : α → D) (xs : List α) (h : ∀ x, isSet (f x) = true) : setAll (xs.map f) = true := by simp [setAll, h]
theorem blsD_map (f : Nat → Bool) (s : List Nat) : blsD (s.map fun c => D.bl (f c)) = some (s.map f) := by
  induction s with
  | nil => rfl
  | cons c s ih => simp [blsD, ih]
theorem is_row_str (s : List Nat) (h : s.length ≤ LIM) : F_is_row [.str s] = .ok (.bl (s.all sg)) [.str s] := by
  have key := lc_all (ef := una (kinD false tb_PARTNERS) (varF 1)) (i := 1) (env := [.str s, .unset]) (fun c : Nat => D.str [c]) (fun c => .bl (sg c)) rfl s (by
    intro c hc
    simp [kinD, sg]) h
  simp [F_is_row, d_is_row, ev_bodyF, isiD, tyName, kitT, ev_retS, itemsD, key, allD, blsD_map, backD]
abbrev Dw (a b n : Int) : D := .lst true [.int a, .int b, .int n]
theorem next_pos (a b n s : Int) (ha : 0 < a) (hs : 0 < s) (hs2 : s < 1000000000) : F__law_next [Dw a b n, .int s] = .ok (.int (a % s)) [Dw (a / s) b n, .int s] := by
  simp [F__law_next, d__law_next, ev_bodyF, itemD, ixD, atI, ixN, ha, hs, hs2, stoM, seM, ev_retS, backD]
theorem next_not (a b n s : Int) (ha : ¬ 0 < a) (hs : 0 < s) (hn : 0 ≤ n) (hn2 : n ≤ 800) : ∃ r, F__law_next [Dw a b n, .int s] = .ok (.int r) [Dw a b (n + 1), .int s] ∧ 0 ≤ r ∧ r < s := by
  have h1 : n + 1 < 18446744073709551616 := by omega
  have h2 : -18446744073709551616 < n + 1 := by omega
  have b1 := Int.emod_nonneg b (b := 2147483629) (by decide)
  have b2 := Int.emod_lt_of_pos b (b := 2147483629) (by decide)
  have b3 := Int.emod_nonneg b (b := 2147483587) (by decide)
  have b4 := Int.emod_lt_of_pos b (b := 2147483587) (by decide)
  have m1 : 0 ≤ 7919 * (n + 1) * (n + 1) := Int.mul_nonneg (by omega) (by omega)
  have m2 : 7919 * (n + 1) * (n + 1) ≤ 7919 * 801 * 801 := Int.mul_le_mul (by omega) (by omega) (by omega) (by omega)
  have x1 : 0 ≤ b % 2147483629 + 104729 * (n + 1) := by omega
  have x2 : b % 2147483629 + 104729 * (n + 1) ≤ 2231371557 := by omega
  have y1 : 0 ≤ b % 2147483587 + 7919 * (n + 1) * (n + 1) + 11 := by omega
  have y2 : b % 2147483587 + 7919 * (n + 1) * (n + 1) + 11 ≤ 7228321916 := by omega
  have z1 : 0 ≤ (b % 2147483629 + 104729 * (n + 1)) * (b % 2147483587 + 7919 * (n + 1) * (n + 1) + 11) := Int.mul_nonneg x1 y1
  have z2 : (b % 2147483629 + 104729 * (n + 1)) * (b % 2147483587 + 7919 * (n + 1) * (n + 1) + 11) ≤ 2231371557 * 7228321916 := Int.mul_le_mul x2 y2 y1 (by decide)
  have c1 : -18446744073709551616 < b % 2147483629 + 104729 * (n + 1) := by omega
  have c2 : b % 2147483629 + 104729 * (n + 1) < 18446744073709551616 := by omega
  have c3 : ((b % 2147483629 + 104729 * (n + 1)) * (b % 2147483587 + 7919 * (n + 1) * (n + 1) + 11)).natAbs < 18446744073709551616 := by omega
  simp [F__law_next, d__law_next, ev_bodyF, itemD, ixD, atI, ixN, ha, hs, stoM, seM, ev_retS, backD, h1, h2, c1, c2, c3]
  exact ⟨Int.emod_nonneg _ (by omega), Int.emod_lt_of_pos _ hs⟩
theorem next_ok (a b n s : Int) (hs : 0 < s) (hs2 : s < 1000000000) (hn : 0 ≤ n) (hn2 : n ≤ 800) :
    ∃ r a' n', F__law_next [Dw a b n, .int s] = .ok (.int r) [Dw a' b n', .int s] ∧ 0 ≤ r ∧ r < s ∧ n ≤ n' ∧ n' ≤ n + 1 := by
  by_cases ha : 0 < a
  · exact ⟨a % s, a / s, n, next_pos a b n s ha hs hs2, Int.emod_nonneg _ (by omega), Int.emod_lt_of_pos _ hs, by omega, by omega⟩
  · obtain ⟨r, h1, h2, h3⟩ := next_not a b n s ha hs hn hn2
    exact ⟨r, a, n + 1, h1, h2, h3, by omega, by omega⟩
theorem begun_ok (c k : Int) : ∃ a b, F__law_begun [.int c, .int k] = .ok (Dw a b 0) [.int c, .int k] := by
  simp [F__law_begun, d__law_begun, ev_bodyF, max2D, ev_retS, backD, LIM]
theorem atI_of {α : Type} {xs : List α} {r : Int} (h0 : 0 ≤ r) (h1 : r < xs.length) : ∃ x, atI xs r = some x ∧ x ∈ xs := by
  have h2 : r.toNat < xs.length := by omega
  refine ⟨xs[r.toNat], ?_, List.getElem_mem h2⟩
  simp [atI, ixN, h0, h1, h2]
theorem pick_lst (a b n : Int) (xs : List D) (hx : xs ≠ []) (hl : xs.length < 1000) (hf : ∀ x ∈ xs, isFz x = true) (hn : 0 ≤ n) (hn2 : n ≤ 800) :
    ∃ x a' n', F__law_pick [Dw a b n, .lst true xs] = .ok x [Dw a' b n', .lst true xs] ∧ x ∈ xs ∧ n ≤ n' ∧ n' ≤ n + 1 := by
  have hp : 0 < xs.length := List.length_pos_iff.mpr hx
  obtain ⟨r, a', n', h1, h2, h3, h4, h5⟩ := next_ok a b n xs.length (by omega) (by omega) hn hn2
  obtain ⟨x, e1, e2⟩ := atI_of h2 h3
  refine ⟨x, a', n', ?_, e2, h4, h5⟩
  have hfx := hf x e2
  have hs : isSet x = true := by cases x <;> first | rfl | cases hfx
  simp [F__law_pick, d__law_pick, ev_bodyF, h1, itemD, ixD, e1, hfx, hs, ev_retS, backD]
theorem pick_str (a b n : Int) (s : List Nat) (hx : s ≠ []) (hl : s.length < 1000) (hn : 0 ≤ n) (hn2 : n ≤ 800) :
    ∃ c a' n', F__law_pick [Dw a b n, .str s] = .ok (.str [c]) [Dw a' b n', .str s] ∧ c ∈ s ∧ n ≤ n' ∧ n' ≤ n + 1 := by
  have hp : 0 < s.length := List.length_pos_iff.mpr hx
  obtain ⟨r, a', n', h1, h2, h3, h4, h5⟩ := next_ok a b n s.length (by omega) (by omega) hn hn2
  obtain ⟨x, e1, e2⟩ := atI_of h2 h3
  refine ⟨x, a', n', ?_, e2, h4, h5⟩
  have hl2 : s.length ≤ LIM := by unfold LIM; omega
  simp [F__law_pick, d__law_pick, ev_bodyF, hl2, h1, itemD, ixD, e1, ev_retS, backD]
theorem strsD_map (cs : List Nat) : strsD (cs.map fun c => D.str [c]) = some (cs.map fun c => [c]) := by
  induction cs with
  | nil => rfl
  | cons c cs ih => simp [strsD, ih]
theorem glue_nil : ∀ cs : List Nat, glue [] (cs.map fun c => [c]) = cs
  | [] => rfl
  | [c] => rfl
  | c :: d :: cs => by
    have := glue_nil (d :: cs)
    simp only [List.map_cons] at this ⊢
    simp [glue, this]
def acgt : List Nat := [97, 99, 103, 116]
theorem row_ok (a b n lo hi : Int) (h0 : 0 ≤ lo) (h1 : lo ≤ hi) (hh : hi ≤ 60) (hn : 0 ≤ n) (hn2 : n ≤ 700) : ∃ s a' n', F__law_row [Dw a b n, .int lo, .int hi] = .ok (.str s) [Dw a' b n', .int lo, .int hi] ∧ lo ≤ s.length ∧ s.length ≤ hi ∧ (∀ c ∈ s, c ∈ acgt) ∧ n ≤ n' ∧ n' ≤ n + hi + 2 := by
  obtain ⟨x, a1, n1, e1, h2, h3, h4⟩ := pick_lst a b n [.str [97, 99, 103, 116], .str [97, 99, 103, 116], .str [97, 99], .str [97, 116], .str [97], .str [99, 103, 116], .str [103, 103, 103, 116]] (by simp) (by decide) (by simp) hn (by omega)
  obtain ⟨signs, rfl, hs1, hs2, hs3⟩ : ∃ signs, x = .str signs ∧ signs ≠ [] ∧ signs.length < 1000 ∧ ∀ c ∈ signs, c ∈ acgt := by
    simp only [List.mem_cons, List.not_mem_nil, or_false] at h2
    rcases h2 with rfl | rfl | rfl | rfl | rfl | rfl | rfl <;> exact ⟨_, rfl, by simp, by decide, by decide⟩
  obtain ⟨r, a2, n2, h5, h6, h7, h8, h9⟩ := next_ok a1 b n1 (hi - lo + 1) (by omega) (by omega) (by omega) (by omega)
  obtain ⟨acc, e, g1, g2⟩ := lc_ok (g := nameG 4) (t := fun env => .ok true env) (ef := callF F__law_pick [] (consF true (varF 0) (consF true (varF 3) nilF))) (vs := [4])
    (fun k env acc => ∃ a' n' cs, env = [Dw a' b n', .int lo, .int hi, .str signs, .unset] ∧ acc = cs.map (fun c => D.str [c]) ∧ cs.length = k ∧ (∀ c ∈ cs, c ∈ acgt) ∧ n2 ≤ n' ∧ n' ≤ n2 + k)
    (intsD 0 (lo + r).toNat) 0 [Dw a2 b n2, .int lo, .int hi, .str signs, .unset] [] ⟨a2, n2, [], rfl, rfl, rfl, by simp, by omega, by omega⟩ (by
      rintro i d env acc hd ⟨a', n', cs, rfl, rfl, hl, hc, k1, k2⟩
      have hir : i < (lo + r).toNat := by
        have := (List.getElem?_eq_some_iff.mp hd).1
        simpa [intsD_len] using this
      obtain ⟨c, a3, n3, q1, q2, q3, q4⟩ := pick_str a' b n' signs hs1 hs2 (by omega) (by omega)
      refine ⟨[Dw a' b n', .int lo, .int hi, .str signs, d], [Dw a' b n', .int lo, .int hi, .str signs, d], true, by simp, by simp, by simp, fun _ => ?_⟩
      refine ⟨.tmp (.str [c]), .str [c], [Dw a3 b n3, .int lo, .int hi, .str signs, d], [Dw a3 b n3, .int lo, .int hi, .str signs, d], by simp [q1], by simp, by simp [LIM]; omega, a3, n3, cs ++ [c], by simp, by simp, by simp [hl], ?_, by omega, by omega⟩
      intro z hz
      rcases List.mem_append.mp hz with hz | hz
      · exact hc z hz
      · have : z = c := by simpa using hz
        rw [this]
        exact hs3 c q2)
  obtain ⟨a4, n4, cs, rfl, rfl, hl, hc, k1, k2⟩ := g2
  rw [intsD_len] at hl k2
  refine ⟨cs, a4, n4, ?_, by omega, by omega, hc, by omega, by omega⟩
  have hb : -big ≤ lo + r ∧ lo + r < big := by unfold big; omega
  have hl40 : cs.length ≤ LIM := by unfold LIM; omega
  have l7 : 7 ≤ LIM := by decide
  simp [F__law_row, d__law_row, ev_bodyF, l7, e1, h5, rng1K, hb.1, hb.2, g1, joinD, seqI, strsD_map, Function.comp_def, glue_nil, sum_ones, hl40, ev_retS, backD]
def ptn (c : Nat) : Nat := if c = 97 then 116 else if c = 99 then 103 else if c = 103 then 99 else 97
theorem lk_ptn {c : Nat} (h : c ∈ acgt) : tb_PARTNERS.lookup [c] = some [ptn c] := by
  simp only [acgt, List.mem_cons, List.not_mem_nil, or_false] at h
  rcases h with rfl | rfl | rfl | rfl <;> rfl
theorem ptn_in {c : Nat} : ptn c ∈ acgt := by
  unfold ptn acgt
  split <;> (try split) <;> (try split) <;> simp
theorem sg_of {c : Nat} (h : c ∈ acgt) : sg c = true := by simp [sg, lk_ptn h]
structure Rw (s : List Nat) : Prop where
  len : s.length ≤ 100
  sg : ∀ c ∈ s, c ∈ acgt
theorem Rw.lim {s : List Nat} (h : Rw s) : s.length ≤ LIM := Nat.le_trans h.len (by decide)
theorem Rw.all {s : List Nat} (h : Rw s) : s.all G.sg = true := List.all_eq_true.mpr fun c hc => sg_of (h.sg c hc)
theorem need_row_ok {s : List Nat} (h : Rw s) : F_need_row [.str s, .int 0] = .ok .non [.str s, .int 0] := by
  have h0 : ¬ ((s.length : Int) < 0) := by omega
  simp [F_need_row, d_need_row, ev_bodyF, is_row_str s h.lim, h.all, h.lim, h0, backD]
theorem lam_norow {f : List D → R Rv} {env env1 : List D} (h : f env = .err "NoRow" .unset env1) :
    lamF 7 3 4 7 sub__law_word d__law_word_init d__law_word_rest f env = .ok (.tmp (.tup false [.str [114, 111, 119], .non])) env1 := by
  obtain ⟨e, he⟩ := rest_norow
  unfold lamF
  rw [init__law_word, h]
  simp only
  rw [if_pos (by decide)]
  rw [show (([D.hole, .unset, .unset, .non, .non, .unset, .unset, .unset].set 7 .unset).set 3 (.exc "NoRow" .unset)) = [.hole, .unset, .unset, .exc "NoRow" .unset, .non, .unset, .unset, .unset] from rfl, he]
  rfl
/-! ### rows refused -/
theorem need_row_bad {x : D} (l : Int) (hx : isFz x = true) (h : F_is_row [x] = .ok (.bl false) [x]) : F_need_row [x, .int l] = .err "NoRow" .unset [x, .int l] := by
  have hs : isSet x = true := by cases x <;> first | rfl | cases hx
  simp [F_need_row, d_need_row, ev_bodyF, h, hx, hs, raiseS, backD]
theorem need_row_short {s : List Nat} (h : s.length ≤ LIM) (hs : s.all sg = true) (l : Int) (hl : (s.length : Int) < l) : F_need_row [.str s, .int l] = .err "NoRow" .unset [.str s, .int l] := by
  simp [F_need_row, d_need_row, ev_bodyF, is_row_str s h, hs, h, hl, raiseS, backD]
theorem need_row_at {s : List Nat} (h : Rw s) (l : Int) (hl : l ≤ s.length) : F_need_row [.str s, .int l] = .ok .non [.str s, .int l] := by
  have h0 : ¬ ((s.length : Int) < l) := by omega
  simp [F_need_row, d_need_row, ev_bodyF, is_row_str s h.lim, h.all, h.lim, h0, backD]
theorem is_row_not {x : D} (hx : isFz x = true) (h : isiD "str" x = some (.bl false)) : F_is_row [x] = .ok (.bl false) [x] := by
  have hs : isSet x = true := by cases x <;> first | rfl | cases hx
  simp [F_is_row, d_is_row, ev_bodyF, h, hx, hs, lorF, ev_retS, backD]
end G
set_option maxHeartbeats 1000000
namespace G
open PySem PyProof.Rows L2 VS
noncomputable section
def con (s : List Nat) : List Nat := s.reverse.map ptn
theorem con_rw {s : List Nat} (h : Rw s) : Rw (con s) := ⟨by simpa [con] using h.len, fun c hc => by
  simp only [con, List.mem_map] at hc
  obtain ⟨z, _, rfl⟩ := hc
  exact ptn_in⟩
theorem contrary_ok {s : List Nat} (h : Rw s) : F_contrary [.str s] = .ok (.str (con s)) [.str s] := by
  have key := lc_all (ef := una (kgetD tb_PARTNERS) (varF 1)) (i := 1) (env := [.str s, .unset]) (fun c : Nat => D.str [c]) (fun c => .str [ptn c]) rfl s.reverse (by
    intro c hc
    have := lk_ptn (h.sg c (by simpa using hc))
    refine ⟨.tmp (.str [ptn c]), ?_, ?_⟩ <;> simp [kgetD, this]) (by simpa using h.lim)
  have e : (s.reverse.map fun c => D.str [ptn c]) = (con s).map fun c => D.str [c] := by simp [con]
  rw [e] at key
  have hl := (con_rw h).lim
  have hr := need_row_ok h
  simp only [List.map_reverse] at key
  simp [F_contrary, d_contrary, ev_bodyF, hr, revSD, h.lim, key, joinD, seqI, strsD_map, Function.comp_def, glue_nil, sum_ones, hl, ev_retS, backD]
def frm (s : List Nat) : List Nat := if con s < s then con s else s
theorem frm_rw {s : List Nat} (h : Rw s) : Rw (frm s) := by
  unfold frm
  split
  · exact con_rw h
  · exact h
theorem form_of_ok {s : List Nat} (h : Rw s) : F_form_of [.str s] = .ok (.str (frm s)) [.str s] := by
  simp [F_form_of, d_form_of, ev_bodyF, contrary_ok h, min2D, ev_retS, backD, frm]
theorem ptn_ptn {c : Nat} (h : c ∈ acgt) : ptn (ptn c) = c := by
  simp only [acgt, List.mem_cons, List.not_mem_nil, or_false] at h
  rcases h with rfl | rfl | rfl | rfl <;> rfl
theorem con_con {s : List Nat} (h : Rw s) : con (con s) = s := by
  unfold con
  rw [← List.map_reverse, List.reverse_reverse, List.map_map]
  conv => rhs; rw [← List.map_id s]
  exact List.map_congr_left fun c hc => ptn_ptn (h.sg c hc)
theorem frm_con {s : List Nat} (h : Rw s) : frm (con s) = frm s := by
  unfold frm
  rw [con_con h]
  by_cases h1 : s < con s
  · rw [if_pos h1, if_neg (fun z => List.lt_irrefl _ (List.lt_trans h1 z))]
  · rw [if_neg h1]
    by_cases h2 : con s < s
    · rw [if_pos h2]
    · rw [if_neg h2]
      exact List.le_antisymm (List.not_lt.mp h1) (List.not_lt.mp h2)
theorem con_len (s : List Nat) : (con s).length = s.length := by simp [con]

theorem atI_nat {s : List Nat} {m : Nat} (h : m < s.length) : atI s (m : Int) = some (s.getD m 0) := by
  have e2 : ixN s.length (m : Int) = some m := by
    simp only [ixN]
    rw [if_pos (by omega)]
    simp [h]
  unfold atI
  rw [e2, List.getD_eq_getElem?_getD]
  simp [h]
theorem rng1_nat (N : Nat) (h : N ≤ 1000000) : rng1K [.int (N : Int)] = some (intsD 0 N) := by
  have hb : -big ≤ (N : Int) ∧ (N : Int) < big := by unfold big; omega
  simp only [rng1K, if_pos hb, Int.toNat_natCast]
theorem body_ret {re : List Bool} {m : Nat} {f : List D → SR} {ds env : List D} {z : D} (hl : ds.length = re.length) (ho : reOk re ds = true) (h : f (ds ++ List.replicate m .unset) = .ret z env) : bodyF re m f ds = .ok z (backD re ds env) := by
  rw [ev_bodyF, if_pos ⟨hl, ho⟩, h]
theorem it_of {A : List D → R Rv} {env : List D} {n : Nat} {K : List D → Option (List D)} {ys : List D} (hA : A env = .ok (.tmp (.int n)) env) (hr : K [.int n] = some ys) : itF (consF true A nilF) K env = .ok ys env := by
  simp [hA, hr]
theorem lc_it {it : List D → R (List D)} {g : D → List D → Option (List D)} {t : List D → R Bool} {ef : List D → R Rv} {vs : List Nat} {env env' ys ds : List D} (e : it env = .ok ds env) (ho : okW env vs = true)
    (h : lcL g t ef vs ds (wipeE env vs) [] = .ok ys env') : lcF it g t ef vs env = .ok (.tmp (.lst true ys)) (unwipe env vs env') := by
  unfold lcF
  rw [e]
  simp only [R.bind, ho, if_true, h]
theorem join_chars {A : List D → R Rv} {env : List D} {cs : List Nat} (h : A env = .ok (.tmp (.lst true (cs.map fun c => .str [c]))) env) (hl : cs.length ≤ LIM) : m1F joinD (tmpd (.str [])) A env = .ok (.tmp (.str cs)) env := by
  simp [h, joinD, seqI, strsD_map, Function.comp_def, glue_nil, sum_ones, hl]
theorem ret_str {pr : Nat → Bool} {A : List D → R Rv} {env : List D} {s : List Nat} (h : A env = .ok (.tmp (.str s)) env) : retS pr A env = .ret (.str s) env := by
  simp [ev_retS, h]
theorem okS_of {s : List Nat} (h : ∀ c ∈ s, c ∈ acgt) : okS s = true := List.all_eq_true.mpr fun c hc => by
  have := h c hc
  simp only [acgt, List.mem_cons, List.not_mem_nil, or_false] at this
  rcases this with rfl | rfl | rfl | rfl <;> rfl

theorem is_number_int (i : Int) : F_is_number [.int i] = .ok (.bl true) [.int i] := by
  simp [F_is_number, d_is_number, ev_bodyF, isiD, tyName, kitT, ev_retS, backD]
theorem is_size_int (i : Int) : F_is_size [.int i] = .ok (.bl (ns_SIZES.any fun n => n == i)) [.int i] := by
  simp [F_is_size, d_is_size, ev_bodyF, is_number_int, tinD, ev_retS, backD]
theorem is_list_lst (o : Bool) (xs : List D) : F_is_list [.lst o xs] = .ok (.bl true) [.lst o xs] := by
  cases o <;> simp [F_is_list, d_is_list, ev_bodyF, isiTD, tyName, kitTs, kitT, ev_retS, backD]
theorem sIx_in {n d : Nat} {i : Int} (h0 : 0 ≤ i) (h1 : i ≤ n) : HT.sIx n d (some i) = i.toNat := by
  show (if i < 0 then (i + n).toNat else min i.toNat n) = _
  rw [if_neg (by omega)]
  omega
theorem cut_in {α : Type} (s : List α) (j K : Nat) (h : j + K ≤ s.length) : cutL s (some (0 + (j : Int))) (some (0 + (j : Int) + K)) = (s.drop j).take K := by
  unfold cutL
  rw [sIx_in (by omega) (by omega), sIx_in (by omega) (by omega)]
  congr 1 <;> (try congr 1) <;> omega
def wds (s : List Nat) (K : Nat) : List (List Nat) := (List.range (s.length + 1 - K)).map fun j => (s.drop j).take K
theorem wds_mem {s w : List Nat} {K : Nat} (h : w ∈ wds s K) : ∃ j, j + K ≤ s.length + 1 - 1 + (if K ≤ s.length then 0 else K) ∧ w = (s.drop j).take K := by
  obtain ⟨j, hj, rfl⟩ := List.mem_map.mp h
  have := List.mem_range.mp hj
  exact ⟨j, by split <;> omega, rfl⟩
theorem wds_rw {s w : List Nat} {K : Nat} (hs : Rw s) (h : w ∈ wds s K) : Rw w := by
  obtain ⟨j, hj, rfl⟩ := List.mem_map.mp h
  exact ⟨Nat.le_trans (by simp only [List.length_take, List.length_drop]; omega) hs.len, fun c hc => hs.sg c (List.mem_of_mem_drop (List.mem_of_mem_take hc))⟩
theorem wds_len (s : List Nat) (K : Nat) : (wds s K).length = s.length + 1 - K := by simp [wds]
theorem words_ok {s : List Nat} (h : Rw s) (K : Nat) (hk : 1 ≤ K) (hk2 : K ≤ 9) : F_words_in [.str s, .int K] = .ok (.lst true ((wds s K).map .str)) [.str s, .int K] := by
  have hl := h.len
  have en : ((s.length : Int) - K + 1).toNat = s.length + 1 - K := by omega
  have key := lc_all (ef := slLHF true true (varF 0) (varF 2) (bin true addD (varF 2) (varF 1))) (i := 2) (env := [.str s, .int K, .unset]) (fun j : Nat => D.int (0 + (j : Int))) (fun j => .str ((s.drop j).take K)) rfl
    (List.range ((s.length : Int) - K + 1).toNat) (by
      intro j hj
      have hj := List.mem_range.mp hj
      have e := cut_in s j K (by omega)
      simp only [Int.zero_add] at e
      refine ⟨.tmp (.str ((s.drop j).take K)), ?_, ?_⟩ <;> simp [slLHd, slD, h.lim, e]) (by simp [LIM]; omega)
  have hb : -big ≤ (s.length : Int) - K + 1 ∧ (s.length : Int) - K + 1 < big := by unfold big; omega
  have e : intsD 0 ((s.length : Int) - K + 1).toNat = (List.range ((s.length : Int) - K + 1).toNat).map fun (j : Nat) => D.int (0 + (j : Int)) := rfl
  rw [← e] at key
  have e2 : (wds s K).map D.str = (List.range ((s.length : Int) - K + 1).toNat).map fun j => D.str ((s.drop j).take K) := by simp [wds, en]
  simp [F_words_in, d_words_in, ev_bodyF, h.lim, rng1K, hb.1, hb.2, key, ev_retS, backD, e2]
theorem itemD_ptn {c : Nat} (h : c ∈ acgt) : itemD (.dct true false [.str [97], .str [99], .str [103], .str [116]] [.str [116], .str [103], .str [99], .str [97]]) (.str [c]) = some (.str [ptn c]) := by
  simp only [acgt, List.mem_cons, List.not_mem_nil, or_false] at h
  rcases h with rfl | rfl | rfl | rfl <;> rfl
def lcL1 : List D → R Rv := lcF (seqF (una revSD (varF 0))) (nameG 1) (fun env => .ok true env) (bin true itemD (dispF [[97], [99], [103], [116]] (consF true (tmpd (.str [116])) (consF true (tmpd (.str [103])) (consF true (tmpd (.str [99])) (consF true (tmpd (.str [97])) nilF))))) (varF 1)) [1]
theorem dlc_eq : d__law_contrary = retS (prOf re__law_contrary) (m1F joinD (tmpd (.str [])) lcL1) := rfl
theorem it_rev {s : List Nat} (h : s.length ≤ LIM) : seqF (una revSD (varF 0)) [.str s, .unset] = .ok (s.reverse.map fun c => .str [c]) [.str s, .unset] := by
  simp [revSD, h, itemsD]
theorem lcL1_ok {s : List Nat} (h : Rw s) : lcL1 [.str s, .unset] = .ok (.tmp (.lst true ((con s).map fun c => .str [c]))) [.str s, .unset] := by
  have key := lc_all (ef := bin true itemD (dispF [[97], [99], [103], [116]] (consF true (tmpd (.str [116])) (consF true (tmpd (.str [103])) (consF true (tmpd (.str [99])) (consF true (tmpd (.str [97])) nilF))))) (varF 1)) (i := 1) (env := [.str s, .unset]) (fun c : Nat => D.str [c]) (fun c => .str [ptn c]) rfl s.reverse (by
    intro c hc
    have := itemD_ptn (h.sg c (by simpa using hc))
    refine ⟨.tmp (.str [ptn c]), ?_, ?_⟩ <;> simp [dispF, this]) (by simpa using h.lim)
  have e : (s.reverse.map fun c => D.str [ptn c]) = (con s).map fun c => D.str [c] := by simp [con]
  rw [e] at key
  exact lc_it (it_rev h.lim) rfl key
theorem law_con {s : List Nat} (h : Rw s) : F__law_contrary [.str s] = .ok (.str (con s)) [.str s] := by
  have e := ret_str (pr := prOf re__law_contrary) (join_chars (lcL1_ok h) (con_rw h).lim)
  rw [← dlc_eq] at e
  exact body_ret (m := 1) (ds := [.str s]) rfl rfl e
theorem is_list_tup (o : Bool) (xs : List D) : F_is_list [.tup o xs] = .ok (.bl true) [.tup o xs] := by
  cases o <;> simp [F_is_list, d_is_list, ev_bodyF, isiTD, tyName, kitTs, kitT, ev_retS, backD]
def kindsW : List (List Nat × Bool) := [([114, 111, 119], false), ([115, 105, 122, 101], false), ([112, 105, 101, 99, 101], false), ([116, 101, 120, 116], false), ([119, 111, 114, 100], true), ([114, 105, 110, 103], false), ([110, 97, 109, 101], false), ([100, 101, 101, 100], false), ([111, 116, 104, 101, 114], false)]
theorem rest_noword : ∃ e, d__law_word_rest [.hole, .unset, .unset, .exc "NoWord" .non, .non, .unset, .unset, .unset] =
    .ret (.tup false [.str [119, 111, 114, 100], .non]) e := by
  have n1 : isNoneD (.exc "NoWord" .non) .non = some (.bl false) := rfl
  have i0 : isyD isx_0 (.exc "NoWord" .non) = some (.bl false) := rfl
  have i1 : isyD isx_1 (.exc "NoWord" .non) = some (.bl false) := rfl
  have i2 : isyD isx_2 (.exc "NoWord" .non) = some (.bl false) := rfl
  have i3 : isyD isx_3 (.exc "NoWord" .non) = some (.bl false) := rfl
  have i4 : isyD isx_4 (.exc "NoWord" .non) = some (.bl false) := rfl
  have i5 : isyD isx_5 (.exc "NoWord" .non) = some (.bl true) := rfl
  have i6 : isyD isx_6 (.exc "NoWord" .non) = some (.bl false) := rfl
  have i7 : isyD isx_7 (.exc "NoWord" .non) = some (.bl false) := rfl
  have i8 : isyD isx_8 (.exc "NoWord" .non) = some (.bl false) := rfl
  have i9 : isyD isx_9 (.exc "NoWord" .non) = some (.bl true) := rfl
  have a : ∀ (xs ys : List D), allFz xs = true → allFz ys = true → xs.length + ys.length ≤ LIM → addD (.lst true xs) (.lst true ys) = some (.lst true (xs ++ ys)) := fun xs ys h1 h2 h3 => addD_lst true true xs ys h1 h2 h3
  have q1 : eqD (.str [119, 111, 114, 100]) (.str [112, 105, 101, 99, 101]) = some (.bl false) := by rw [eq_txt rfl rfl]; rfl
  have q2 : eqD (.str [119, 111, 114, 100]) (.str [116, 101, 120, 116]) = some (.bl false) := by rw [eq_txt rfl rfl]; rfl
  have q3 : eqD (.str [119, 111, 114, 100]) (.str [119, 111, 114, 100]) = some (.bl true) := by rw [eq_txt rfl rfl]; rfl
  have a1 := a [.tup false [.str [114, 111, 119], .bl false], .tup false [.str [115, 105, 122, 101], .bl false]] [.tup false [.str [112, 105, 101, 99, 101], .bl false], .tup false [.str [116, 101, 120, 116], .bl false]] rfl rfl (by simp [LIM])
  have a2 := a _ [.tup false [.str [119, 111, 114, 100], .bl true], .tup false [.str [114, 105, 110, 103], .bl false]] (show allFz ([.tup false [.str [114, 111, 119], .bl false], .tup false [.str [115, 105, 122, 101], .bl false]] ++ [.tup false [.str [112, 105, 101, 99, 101], .bl false], .tup false [.str [116, 101, 120, 116], .bl false]]) = true from rfl) rfl (by simp [LIM])
  have a3 := a _ [.tup false [.str [110, 97, 109, 101], .bl false], .tup false [.str [100, 101, 101, 100], .bl false]] (show allFz ([.tup false [.str [114, 111, 119], .bl false], .tup false [.str [115, 105, 122, 101], .bl false]] ++ [.tup false [.str [112, 105, 101, 99, 101], .bl false], .tup false [.str [116, 101, 120, 116], .bl false]] ++ [.tup false [.str [119, 111, 114, 100], .bl true], .tup false [.str [114, 105, 110, 103], .bl false]]) = true from rfl) rfl (by simp [LIM])
  have a4 := a _ [.tup false [.str [111, 116, 104, 101, 114], .bl false]] (show allFz ([.tup false [.str [114, 111, 119], .bl false], .tup false [.str [115, 105, 122, 101], .bl false]] ++ [.tup false [.str [112, 105, 101, 99, 101], .bl false], .tup false [.str [116, 101, 120, 116], .bl false]] ++ [.tup false [.str [119, 111, 114, 100], .bl true], .tup false [.str [114, 105, 110, 103], .bl false]] ++ [.tup false [.str [110, 97, 109, 101], .bl false], .tup false [.str [100, 101, 101, 100], .bl false]]) = true from rfl) rfl (by simp [LIM])
  simp only [List.cons_append, List.nil_append] at a1 a2 a3 a4
  have key := lc_gen (gf := tupG (consG (nameG 5) (consG (nameG 6) nilG))) (t := andF (truF (varF 6)) (truF (una (isyD isx_9) (varF 3)))) (ef := varF 5) (vs := [5, 6])
    (env := [.hole, LL kindsW, .unset, .exc "NoWord" .non, .non, .unset, .unset, .unset]) (fun p : List Nat × Bool => D.tup false [.str p.1, .bl p.2]) (fun p => [.hole, LL kindsW, .unset, .exc "NoWord" .non, .non, .str p.1, .bl p.2, .unset]) (fun p => p.2) (fun p => .str p.1) kindsW []
    (fun p _ => ⟨by simp, by simp, by cases h : p.2 <;> simp [andF, h, i9], fun _ => ⟨.tmp (.str p.1), by simp, by simp⟩⟩) (by simp [kindsW, LIM])
  simp [kindsW, LL] at key
  have fw : fldD ["NoWord"] (.exc "NoWord" .non) = some .non := by simp [fldD]
  simp [LIM, d__law_word_rest, fw, n1, i0, i1, i2, i3, i4, i5, i6, i7, i8, a1, a2, a3, a4, key, joinD, seqI, strsD, glue, q1, q2, q3, ifeF, ev_retS]
theorem lam_noword {f : List D → R Rv} {env env1 : List D} (h : f env = .err "NoWord" .non env1) :
    lamF 7 3 4 7 sub__law_word d__law_word_init d__law_word_rest f env = .ok (.tmp (.tup false [.str [119, 111, 114, 100], .non])) env1 := by
  obtain ⟨e, he⟩ := rest_noword
  unfold lamF
  rw [init__law_word, h]
  simp only
  rw [if_pos (by decide)]
  rw [show (([D.hole, .unset, .unset, .non, .non, .unset, .unset, .unset].set 7 .unset).set 3 (.exc "NoWord" .non)) = [.hole, .unset, .unset, .exc "NoWord" .non, .non, .unset, .unset, .unset] from rfl, he]
  rfl
end
end G
set_option maxHeartbeats 1000000
namespace G
open PySem PyProof.Rows L2 VS
noncomputable section
theorem for_of {it : List D → R (List D)} {B : List D → SR} {g : D → List D → Option (List D)} {env env1 e its : List D} (h1 : it env = .ok its env1) (l : loopS g B its env1 = .nx e) :
    forS it g B env = .nx e := by
  unfold forS
  rw [h1]
  exact l
theorem eq_int (i j : Int) : eqD (.int i) (.int j) = some (.bl (decide (i = j))) := by
  unfold eqD
  rw [if_pos ⟨by rfl, by rfl⟩]
  simp [nf]
theorem ifS_b {t : List D → R Bool} {f g : List D → SR} {env env1 : List D} {b : Bool} (h : t env = .ok b env1) : ifS t f g env = if b then f env1 else g env1 := by
  unfold ifS
  rw [h]
  cases b <;> rfl
theorem body_err {re : List Bool} {m : Nat} {f : List D → SR} {ds env : List D} {c : Str} {z : D} (hl : ds.length = re.length) (ho : reOk re ds = true) (h : f (ds ++ List.replicate m .unset) = .err c z env) : bodyF re m f ds = .err c z (backD re ds env) := by
  rw [ev_bodyF, if_pos ⟨hl, ho⟩, h]
/-- forms of K signs, unlike ones -/
structure Fs (fs : List (List Nat)) (K : Nat) : Prop where
  ne : fs ≠ []
  nd : fs.Nodup
  fm : ∀ w ∈ fs, Rw w ∧ w.length = K ∧ frm w = w
  len : fs.length ≤ 40
  hk : (K : Int) ∈ ns_SIZES
theorem Fs.k {fs : List (List Nat)} {K : Nat} (h : Fs fs K) : 1 ≤ K ∧ K ≤ 9 := by
  have := h.hk
  simp [ns_SIZES] at this
  omega
theorem Rw.okS {s : List Nat} (h : Rw s) : VS.okS s = true := okS_of h.sg
theorem is_form_ok {s : List Nat} (h : Rw s) (hf : frm s = s) : F_is_form [.str s, .int (s.length : Int)] = .ok (.bl true) [.str s, .int (s.length : Int)] := by
  have e1 := is_row_str s h.lim
  rw [h.all] at e1
  have e2 := form_of_ok h
  rw [hf] at e2
  have q1 := eq_int (s.length : Int) s.length
  have q2 : eqD (.str s) (.str s) = some (.bl true) := eq_same (eqOk_str h.okS 60) (eqOk_str h.okS 60) rfl
  have hl := h.lim
  unfold F_is_form d_is_form
  generalize F_is_row = A at e1 ⊢
  generalize F_form_of = B at e2 ⊢
  simp [ev_bodyF, e1, e2, q1, q2, hl, lorF, ev_retS, backD]
theorem lk_notin (L : List (List Nat)) (w : List Nat) (h : w ∉ L) (vs : List D) : lkD (L.map .str) vs (.str w) = none := by
  induction L generalizing vs with
  | nil => cases vs <;> rfl
  | cons x L ih =>
    cases vs with
    | nil => rfl
    | cons v vs =>
      rw [List.map_cons, lkD, if_neg (fun e => h (by cases e; exact List.mem_cons_self))]
      exact ih (fun z => h (List.mem_cons_of_mem _ z)) vs
def nfB : List D → SR := seqS (ifS (orF (notF (truF (callF F_is_size [] (consF true (varF 1) nilF)))) (orF (notF (truF (callF F_is_form [] (consF true (varF 3) (consF true (varF 1) nilF))))) (testF (bin true (dinD false) (varF 3) (varF 2))))) (raiseFS "NoWord" (varF 3)) nextS) (putS true true (tmpd (.bl true)) (varF 2) (varF 3))
def nf1 : List D → SR := ifS (orF (notF (truF (callF F_is_list [] (consF true (varF 0) nilF)))) (testF (bin true eqD (opN (op1 lenAD) (consF true (varF 0) nilF)) (tmpd (.int 0))))) (raiseFS "NoWord" (tmpd .non)) nextS
def nf2 : List D → SR := asgS (ifeF (truF (una (isiD "str") (bin true itemD (varF 0) (tmpd (.int 0))))) (opN (op1 lenAD) (consF true (bin true itemD (varF 0) (tmpd (.int 0))) nilF)) (tmpd (.int 0))) (nameG 1)
theorem dn_eq : d_need_forms = seqS nf1 (seqS nf2 (seqS (asgS (tmpd (.dct true false [] [])) (nameG 2)) (seqS (forS (seqF (varF 0)) (nameG 3) nfB) (retS (prOf re_need_forms) (varF 1))))) := rfl
abbrev Sq (tp : Bool) (o : Bool) (L : List D) : D := if tp then .tup false L else .lst o L
theorem nfB_ok {f : D} {w : List Nat} {K : Nat} (done : List (List Nat)) (hw : Rw w ∧ w.length = K ∧ frm w = w) (hk : (K : Int) ∈ ns_SIZES) (hd : w ∉ done) (hl : done.length ≤ 40) :
    nfB [f, .int K, .dct true false (done.map .str) (done.map fun _ => .bl true), .str w] = .nx [f, .int K, .dct true false ((done ++ [w]).map .str) ((done ++ [w]).map fun _ => .bl true), .str w] := by
  have e1 := is_size_int K
  rw [List.any_eq_true.mpr ⟨(K : Int), hk, by simp⟩] at e1
  have e2 := is_form_ok hw.1 hw.2.2
  rw [hw.2.1] at e2
  have l1 := lk_notin done w hd (done.map fun _ => .bl true)
  have e3 : dinD false (.str w) (.dct true false (done.map .str) (done.map fun _ => .bl true)) = some (.bl false) := by
    simp [dinD, keyOk, isK, l1]
  have hm : D.str w ∉ done.map D.str := fun z => by
    obtain ⟨u, hu, e⟩ := List.mem_map.mp z
    cases e
    exact hd hu
  have e4 : puM (.dct true false (done.map .str) (done.map fun _ => .bl true)) [.bl true, .str w] = some (.dct true false ((done ++ [w]).map .str) ((done ++ [w]).map fun _ => .bl true), .non) := by
    have hlim : (done.map D.str).length < LIM := by rw [List.length_map]; unfold LIM; omega
    simp [puM, putKs, putVs, hm, keyOk, isK, hlim]
    try (unfold LIM; omega)
  unfold nfB
  rw [List.map_append, List.map_append] at e4 ⊢
  generalize F_is_size = A at e1 ⊢
  generalize F_is_form = B at e2 ⊢
  generalize done.map D.str = ks at *
  generalize (done.map fun _ => D.bl true) = vs at *
  simp [e1, e2, e3, e4, mutS, getE, setE, getP, setP, kids, withKids]
end
end G
set_option maxHeartbeats 1000000
namespace G
open PySem PyProof.Rows L2 VS
noncomputable section
theorem is_list_sq (tp o : Bool) (L : List D) : F_is_list [Sq tp o L] = .ok (.bl true) [Sq tp o L] := by
  cases tp <;> cases o <;> simp [Sq, F_is_list, d_is_list, ev_bodyF, isiTD, tyName, kitTs, kitT, ev_retS, backD]
theorem need_forms_ok {fs : List (List Nat)} {K : Nat} (h : Fs fs K) (tp o : Bool) : F_need_forms [Sq tp o (fs.map .str)] = .ok (.int K) [Sq tp false (fs.map .str)] := by
  obtain ⟨w0, hw0⟩ : ∃ w, fs[0]? = some w := by
    cases fs with
    | nil => exact absurd rfl h.ne
    | cons w r => exact ⟨w, rfl⟩
  have hm0 : w0 ∈ fs := List.mem_of_getElem? hw0
  obtain ⟨r0, k0, _⟩ := h.fm w0 hm0
  have hp : 0 < fs.length := List.length_pos_iff.mpr h.ne
  have l1 := is_list_sq tp o (fs.map .str)
  have q1 := eq_int (fs.length : Int) 0
  have q1' : decide ((fs.length : Int) = 0) = false := decide_eq_false (by omega)
  rw [q1'] at q1
  have a0 : atI (fs.map D.str) 0 = some (.str w0) := by
    have i0 : ixN fs.length 0 = some 0 := by simp [ixN, hp]
    unfold atI
    rw [List.length_map, i0]
    show (fs.map D.str)[0]? = _
    rw [List.getElem?_map, hw0]
    rfl
  have ln : (fs.map D.str).length = fs.length := List.length_map _
  have fz1 : (fs.map D.str).all isFz = true := by simp
  have e1 : nf1 [Sq tp o (fs.map .str), .unset, .unset, .unset] = .nx [Sq tp o (fs.map .str), .unset, .unset, .unset] := by
    unfold nf1
    generalize F_is_list = A at l1 ⊢
    generalize fs.map D.str = L at *
    have fz2 : ∀ x ∈ L, isFz x = true := by simpa using fz1
    cases tp <;> cases o <;> (try simp [Sq] at l1) <;> simp [Sq, l1, ln, q1]
  have e2 : nf2 [Sq tp o (fs.map .str), .unset, .unset, .unset] = .nx [Sq tp o (fs.map .str), .int K, .unset, .unset] := by
    have i1 : isiD "str" (.str w0) = some (.bl true) := rfl
    have hl := r0.lim
    have hK : K ≤ LIM := by rw [← k0]; exact hl
    unfold nf2
    generalize fs.map D.str = L at *
    cases tp <;> cases o <;> simp [Sq, itemD, ixD, a0, i1, hl, k0, hK]
  obtain ⟨e, lp, x3, rfl⟩ := loop_nx (g := nameG 3) (body := nfB)
    (fun i env => ∃ x3, env = [Sq tp false (fs.map .str), .int K, .dct true false ((fs.take i).map .str) ((fs.take i).map fun _ => .bl true), x3])
    (fs.map .str) 0 [Sq tp false (fs.map .str), .int K, .dct true false [] [], .unset] ⟨.unset, rfl⟩ (by
      rintro i d env hd ⟨x3, rfl⟩
      rw [Nat.zero_add] at *
      rw [List.getElem?_map] at hd
      obtain ⟨w, hw, rfl⟩ := Option.map_eq_some_iff.mp hd
      have hm : w ∈ fs := List.mem_of_getElem? hw
      have hi : i < fs.length := (List.getElem?_eq_some_iff.mp hw).1
      have ht : fs.take (i + 1) = fs.take i ++ [w] := by
        rw [List.take_add_one, hw]
        rfl
      have hno : w ∉ fs.take i := fun z => by
        have hnd := h.nd
        rw [← List.take_append_drop i fs] at hnd
        have hdw : w ∈ fs.drop i := by
          rw [List.mem_iff_getElem?]
          exact ⟨0, by rw [List.getElem?_drop]; simpa using hw⟩
        exact (List.nodup_append.mp hnd).2.2 w z w hdw rfl
      have hb := nfB_ok (f := Sq tp false (fs.map .str)) (fs.take i) (h.fm w hm) h.hk hno (by have := h.len; simp; omega)
      rw [← ht] at hb
      exact ⟨[Sq tp false (fs.map .str), .int K, .dct true false ((fs.take i).map .str) ((fs.take i).map fun _ => .bl true), .str w], _, by simp, .inl hb, .str w, rfl⟩)
  have e4 : seqF (varF 0) [Sq tp o (fs.map .str), .int K, .dct true false [] [], .unset] = .ok (fs.map .str) [Sq tp false (fs.map .str), .int K, .dct true false [] [], .unset] := by
    cases tp <;> cases o <;> simp [Sq]
  have e5 : asgS (tmpd (.dct true false [] [])) (nameG 2) [Sq tp o (fs.map .str), .int K, .unset, .unset] = .nx [Sq tp o (fs.map .str), .int K, .dct true false [] [], .unset] := by simp
  have p1 : prOf re_need_forms 1 = false := rfl
  have ed : d_need_forms ([Sq tp o (fs.map .str)] ++ List.replicate 3 .unset) = .ret (.int K) [Sq tp false (fs.map .str), .int K, .dct true false ((fs.take (0 + (fs.map D.str).length)).map .str) ((fs.take (0 + (fs.map D.str).length)).map fun _ => .bl true), x3] := by
    show d_need_forms [Sq tp o (fs.map .str), .unset, .unset, .unset] = _
    rw [dn_eq, ev_seqS, e1, SR_seq_nx, ev_seqS, e2, SR_seq_nx, ev_seqS, e5, SR_seq_nx, ev_seqS, for_of e4 lp, SR_seq_nx]
    generalize Sq tp false (fs.map .str) = S
    simp [ev_retS, p1]
  have ho : reOk re_need_forms [Sq tp o (fs.map .str)] = true := by cases tp <;> cases o <;> simp [reOk, re_need_forms]
  exact body_ret (m := 3) rfl ho ed
theorem need_forms_nil : F_need_forms [.lst true []] = .err "NoWord" .non [.lst false []] ∨ F_need_forms [.lst true []] = .err "NoWord" .non [.lst true []] := by
  have l1 := is_list_sq false true []
  have q1 := eq_int 0 0
  have e1 : nf1 [.lst true [], .unset, .unset, .unset] = .err "NoWord" .non [.lst true [], .unset, .unset, .unset] := by
    unfold nf1 raiseFS
    generalize F_is_list = A at l1 ⊢
    try simp [Sq] at l1
    simp [l1, q1]
  have ed : d_need_forms ([.lst true []] ++ List.replicate 3 .unset) = .err "NoWord" .non [.lst true [], .unset, .unset, .unset] := by
    show d_need_forms [.lst true [], .unset, .unset, .unset] = _
    rw [dn_eq, ev_seqS, e1]
    rfl
  exact .inr (body_err (m := 3) rfl rfl ed)
end
end G
set_option maxHeartbeats 1000000
namespace G
open PySem PyProof.Rows L2 VS
noncomputable section
theorem strs_eqOk (o : Bool) (n : Nat) (L : List (List Nat)) (h : ∀ t ∈ L, okS t = true) : eqOk (n + 1) (.lst o (L.map .str)) = true := by
  rw [eqOk]
  exact eqOks_map n D.str L fun t ht => eqOk_str (h t ht) n
theorem strs_eqOkT (o : Bool) (n : Nat) (L : List (List Nat)) (h : ∀ t ∈ L, okS t = true) : eqOk (n + 1) (.tup o (L.map .str)) = true := by
  rw [eqOk]
  exact eqOks_map n D.str L fun t ht => eqOk_str (h t ht) n
theorem eq_nil (o : Bool) (L : List (List Nat)) (h : ∀ t ∈ L, okS t = true) : eqD (.lst o (L.map .str)) (.lst true []) = some (.bl L.isEmpty) := by
  unfold eqD
  rw [if_pos ⟨strs_eqOk o 59 L h, by rfl⟩]
  cases L <;> simp [nf, nfs]
theorem ne_nil (o : Bool) (L : List (List Nat)) (h : ∀ t ∈ L, okS t = true) : neD (.lst o (L.map .str)) (.lst true []) = some (.bl (!L.isEmpty)) := by
  unfold neD
  rw [if_pos ⟨strs_eqOk o 59 L h, by rfl⟩]
  cases L <;> simp [nf, nfs]
theorem any_nf (L : List (List Nat)) (u : List Nat) : ((L.map D.str).any fun z => decide (nf z = nf (.str u))) = decide (u ∈ L) := by
  induction L with
  | nil => simp
  | cons w L ih =>
    rw [List.map_cons, List.any_cons, ih]
    have e : (nf (.str w) = nf (.str u)) = (w = u) := by simp [nf]
    by_cases h : w = u
    · subst h
      simp
    · have h2 : ¬ u = w := fun z => h z.symm
      simp [nf, h, h2]
theorem inQ_ok (tp o : Bool) (L : List (List Nat)) (u : List Nat) (hL : ∀ t ∈ L, okS t = true) (hu : okS u = true) : inQD false (.str u) (Sq tp o (L.map .str)) = some (.bl (decide (u ∈ L))) := by
  have a := any_nf L u
  cases tp
  · have c : eqOk 59 (.str u) = true ∧ eqOk 60 (.lst o (L.map .str)) = true := ⟨eqOk_str hu 59, strs_eqOk o 59 L hL⟩
    show (if eqOk 59 (.str u) = true ∧ eqOk 60 (.lst o (L.map .str)) = true then _ else none) = _
    rw [if_pos c]
    simp only [Bool.false_eq_true, if_false, a]
  · have c : eqOk 59 (.str u) = true ∧ eqOk 60 (.tup false (L.map .str)) = true := ⟨eqOk_str hu 59, strs_eqOkT false 59 L hL⟩
    show (if eqOk 59 (.str u) = true ∧ eqOk 60 (.tup false (L.map .str)) = true then _ else none) = _
    rw [if_pos c]
    simp only [Bool.false_eq_true, if_false, a]
theorem notIn_ok (o : Bool) (L : List (List Nat)) (u : List Nat) (hL : ∀ t ∈ L, okS t = true) (hu : okS u = true) : inLD true (.str u) (.lst o (L.map .str)) = some (.bl (!decide (u ∈ L))) := by
  have a := any_nf L u
  have c : eqOk 59 (.str u) = true ∧ eqOk 60 (.lst o (L.map .str)) = true := ⟨eqOk_str hu 59, strs_eqOk o 59 L hL⟩
  show (if eqOk 59 (.str u) = true ∧ eqOk 60 (.lst o (L.map .str)) = true then _ else none) = _
  rw [if_pos c]
  simp only [if_true, a]
theorem Fs.ok {fs : List (List Nat)} {K : Nat} (h : Fs fs K) : ∀ t ∈ fs, VS.okS t = true := fun t ht => (h.fm t ht).1.okS
/-- whether the forms of all words are among these -/
def rt (fs : List (List Nat)) (r : List Nat) (K : Nat) : Bool := (wds r K).all fun w => decide (frm w ∈ fs)
def irL : List D → R Rv := lcF (seqF (callF F_words_in [] (consF true (varF 1) (consF true (varF 2) nilF)))) (nameG 3) (fun env => .ok true env) (bin true (inQD false) (callF F_form_of [] (consF true (varF 3) nilF)) (varF 0)) [3]
def ir1 : List D → SR := asgS (callF F_need_forms [] (consF true (varF 0) nilF)) (nameG 2)
def ir2 : List D → SR := dropS (callF F_need_row [] (consF true (varF 1) (consF true (varF 2) nilF)))
theorem di_eq : d_is_right = seqS ir1 (seqS ir2 (retS (prOf re_is_right) (opN (op1 allD) (consF true irL nilF)))) := rfl
theorem ir1_ok {fs : List (List Nat)} {K : Nat} (h : Fs fs K) (tp o : Bool) (x : D) (hx : isFz x = true) : ir1 [Sq tp o (fs.map .str), x, .unset, .unset] = .nx [Sq tp false (fs.map .str), x, .int K, .unset] := by
  have e := need_forms_ok h tp o
  have fz1 : (fs.map D.str).all isFz = true := by simp
  unfold ir1
  generalize F_need_forms = A at e ⊢
  generalize fs.map D.str = L at *
  have fz2 : ∀ x ∈ L, isFz x = true := by simpa using fz1
  cases tp <;> cases o <;> (try simp [Sq] at e) <;> simp [Sq, e, fz2]
theorem irL_ok {fs : List (List Nat)} {K : Nat} (h : Fs fs K) (tp : Bool) {r : List Nat} (hr : Rw r) : irL [Sq tp false (fs.map .str), .str r, .int K, .unset] = .ok (.tmp (.lst true ((wds r K).map fun w => .bl (decide (frm w ∈ fs))))) [Sq tp false (fs.map .str), .str r, .int K, .unset] := by
  have hk := h.k
  have key := lc_all (ef := bin true (inQD false) (callF F_form_of [] (consF true (varF 3) nilF)) (varF 0)) (i := 3) (env := [Sq tp false (fs.map .str), .str r, .int K, .unset]) D.str (fun w => .bl (decide (frm w ∈ fs))) rfl
    (wds r K) (by
      intro w hw
      have rw' := wds_rw hr hw
      have e1 := form_of_ok rw'
      have e2 := inQ_ok tp false fs (frm w) h.ok (frm_rw rw').okS
      have fz1 : (fs.map D.str).all isFz = true := by simp
      refine ⟨.tmp (.bl (decide (frm w ∈ fs))), ?_, by simp⟩
      generalize F_form_of = A at e1 ⊢
      generalize decide (frm w ∈ fs) = dd at *
      generalize fs.map D.str = L at *
      have fz2 : ∀ x ∈ L, isFz x = true := by simpa using fz1
      cases tp <;> simp only [Sq, if_true, if_false, Bool.false_eq_true] at e2 ⊢ <;> simp [e1, e2, fz2]) (by rw [wds_len]; have := hr.len; unfold LIM; omega)
  have w1 := words_ok hr K hk.1 hk.2
  have hi : seqF (callF F_words_in [] (consF true (varF 1) (consF true (varF 2) nilF))) [Sq tp false (fs.map .str), .str r, .int K, .unset] = .ok ((wds r K).map .str) [Sq tp false (fs.map .str), .str r, .int K, .unset] := by
    have fz1 : ((wds r K).map D.str).all isFz = true := by simp
    have st1 : ∀ x ∈ (wds r K).map D.str, isSet x = true := fun x hx => by obtain ⟨_, _, rfl⟩ := List.mem_map.mp hx; rfl
    generalize F_words_in = A at w1 ⊢
    generalize (wds r K).map D.str = W at *
    have fz2 : ∀ x ∈ W, isFz x = true := by simpa using fz1
    generalize Sq tp false (fs.map .str) = S
    simp [w1]
    rw [if_pos fz2]
    simp only
    rw [if_pos st1]
  exact lc_it (vs := [3]) hi rfl key
theorem is_right_ok {fs : List (List Nat)} {K : Nat} (h : Fs fs K) (tp o : Bool) {r : List Nat} (hr : Rw r) (hl : K ≤ r.length) : F_is_right [Sq tp o (fs.map .str), .str r] = .ok (.bl (rt fs r K)) [Sq tp false (fs.map .str), .str r] := by
  have e1 := ir1_ok h tp o (.str r) rfl
  have n1 := need_row_at hr K (by omega)
  have e2 : ir2 [Sq tp false (fs.map .str), .str r, .int K, .unset] = .nx [Sq tp false (fs.map .str), .str r, .int K, .unset] := by
    unfold ir2
    generalize F_need_row = A at n1 ⊢
    generalize Sq tp false (fs.map .str) = S
    simp [n1]
  have k := irL_ok h tp hr
  have hb : blsD ((wds r K).map fun w => .bl (decide (frm w ∈ fs))) = some ((wds r K).map fun w => decide (frm w ∈ fs)) := by
    have := blsD_of (fun w : List Nat => decide (frm w ∈ fs)) (wds r K)
    exact this
  have ha : ((wds r K).map fun w => decide (frm w ∈ fs)).all id = rt fs r K := by simp [rt, List.all_map, Function.comp_def]
  have ed : d_is_right ([Sq tp o (fs.map .str), .str r] ++ List.replicate 2 .unset) = .ret (.bl (rt fs r K)) [Sq tp false (fs.map .str), .str r, .int K, .unset] := by
    show d_is_right [Sq tp o (fs.map .str), .str r, .unset, .unset] = _
    rw [di_eq, ev_seqS, e1, SR_seq_nx, ev_seqS, e2, SR_seq_nx]
    generalize irL = A at k ⊢
    generalize Sq tp false (fs.map .str) = S at *
    simp [k, allD, hb, ha, ev_retS]
    try (rw [← ha]; simp)
  have ho : reOk re_is_right [Sq tp o (fs.map .str), .str r] = true := by cases tp <;> cases o <;> simp [reOk, re_is_right, Sq]
  exact body_ret (m := 2) rfl ho ed
theorem is_right_row {fs : List (List Nat)} {K : Nat} (h : Fs fs K) (o : Bool) {x : D} (hx : isFz x = true) (hn : F_need_row [x, .int K] = .err "NoRow" .unset [x, .int K]) : F_is_right [.lst o (fs.map .str), x] = .err "NoRow" .unset [.lst false (fs.map .str), x] := by
  have hs : isSet x = true := by cases x <;> first | rfl | cases hx
  have e1 := ir1_ok h false o x hx
  have e2 : ir2 [Sq false false (fs.map .str), x, .int K, .unset] = .err "NoRow" .unset [Sq false false (fs.map .str), x, .int K, .unset] := by
    unfold ir2
    generalize F_need_row = A at hn ⊢
    generalize Sq false false (fs.map .str) = S
    simp [hn, hx, hs]
  have ed : d_is_right ([.lst o (fs.map .str), x] ++ List.replicate 2 .unset) = .err "NoRow" .unset [Sq false false (fs.map .str), x, .int K, .unset] := by
    show d_is_right [Sq false o (fs.map .str), x, .unset, .unset] = _
    rw [di_eq, ev_seqS, e1, SR_seq_nx, ev_seqS, e2]
    rfl
  have ho : reOk re_is_right [.lst o (fs.map .str), x] = true := by cases o <;> simp [reOk, re_is_right, hx, hs]
  exact body_err (m := 2) rfl ho ed
end
end G
set_option maxHeartbeats 1000000
namespace G
open PySem PyProof.Rows L2 VS
noncomputable section
theorem min_frm (w : List Nat) : min2D (.str w) (.str (con w)) = some (.str (frm w)) := rfl
theorem con_okS {w : List Nat} (h : Rw w) : okS (con w) = true := (con_rw h).okS
def jr1 : List D → SR := asgS (opN (op1 lenAD) (consF true (bin true itemD (varF 0) (tmpd (.int 0))) nilF)) (nameG 2)
def jrW : List D → R Rv := lcF (itF (consF true (bin true addD (bin true subD (opN (op1 lenAD) (consF true (varF 1) nilF)) (varF 2)) (tmpd (.int 1))) nilF) rng1K) (nameG 4) (fun env => .ok true env) (slLHF true true (varF 1) (varF 4) (bin true addD (varF 4) (varF 2))) [4]
def jrL : List D → R Rv := lcF (seqF (varF 3)) (nameG 5) (testF (bin true (inLD true) (opN (op2 min2D) (consF false (varF 5) (consF true (callF F__law_contrary [] (consF true (varF 5) nilF)) nilF))) (varF 0))) (varF 5) [5]
theorem dj_eq : d__law_is_right = seqS jr1 (seqS (asgS jrW (nameG 3)) (retS (prOf re__law_is_right) (bin true eqD jrL (lstF nilF)))) := rfl
theorem law_is_right_ok {fs : List (List Nat)} {K : Nat} (h : Fs fs K) (o : Bool) {r : List Nat} (hr : Rw r) (hl : K ≤ r.length) : F__law_is_right [.lst o (fs.map .str), .str r] = .ok (.bl (rt fs r K)) [.lst o (fs.map .str), .str r] := by
  have hk := h.k
  have hlen := hr.len
  obtain ⟨w0, hw0⟩ : ∃ w, fs[0]? = some w := by
    cases fs with
    | nil => exact absurd rfl h.ne
    | cons w r => exact ⟨w, rfl⟩
  have hm0 : w0 ∈ fs := List.mem_of_getElem? hw0
  obtain ⟨r0, k0, _⟩ := h.fm w0 hm0
  have hp : 0 < fs.length := List.length_pos_iff.mpr h.ne
  have a0 : atI (fs.map D.str) 0 = some (.str w0) := by
    have i0 : ixN fs.length 0 = some 0 := by simp [ixN, hp]
    unfold atI
    rw [List.length_map, i0]
    show (fs.map D.str)[0]? = _
    rw [List.getElem?_map, hw0]
    rfl
  have e1 : jr1 [.lst o (fs.map .str), .str r, .unset, .unset, .unset, .unset] = .nx [.lst o (fs.map .str), .str r, .int K, .unset, .unset, .unset] := by
    have hl0 := r0.lim
    have hK : K ≤ LIM := by rw [← k0]; exact hl0
    unfold jr1
    generalize fs.map D.str = L at *
    cases o <;> simp [itemD, ixD, a0, hl0, k0, hK]
  have keyW := lc_all (ef := slLHF true true (varF 1) (varF 4) (bin true addD (varF 4) (varF 2))) (i := 4) (env := [.lst o (fs.map .str), .str r, .int K, .unset, .unset, .unset]) (fun j : Nat => D.int (0 + (j : Int))) (fun j => .str ((r.drop j).take K)) rfl
    (List.range (r.length + 1 - K)) (by
      intro j hj
      have hj := List.mem_range.mp hj
      have e := cut_in r j K (by omega)
      simp only [Int.zero_add] at e
      refine ⟨.tmp (.str ((r.drop j).take K)), ?_, ?_⟩ <;> simp [slLHd, slD, hr.lim, e]) (by simp [LIM]; omega)
  have e2 : (wds r K).map D.str = (List.range (r.length + 1 - K)).map fun j => D.str ((r.drop j).take K) := by simp [wds]
  have e : intsD 0 (r.length + 1 - K) = (List.range (r.length + 1 - K)).map fun (j : Nat) => D.int (0 + (j : Int)) := rfl
  rw [← e2, ← e] at keyW
  have hiW : itF (consF true (bin true addD (bin true subD (opN (op1 lenAD) (consF true (varF 1) nilF)) (varF 2)) (tmpd (.int 1))) nilF) rng1K [.lst o (fs.map .str), .str r, .int K, .unset, .unset, .unset] = .ok (intsD 0 (r.length + 1 - K)) [.lst o (fs.map .str), .str r, .int K, .unset, .unset, .unset] := by
    refine it_of (n := r.length + 1 - K) ?_ (rng1_nat _ (by omega))
    generalize fs.map D.str = L
    have z : ((r.length : Int) - K + 1) = ((r.length + 1 - K : Nat) : Int) := by omega
    cases o <;> simp [hr.lim, z]
  have kW : jrW [.lst o (fs.map .str), .str r, .int K, .unset, .unset, .unset] = .ok (.tmp (.lst true ((wds r K).map .str))) [.lst o (fs.map .str), .str r, .int K, .unset, .unset, .unset] := lc_it (vs := [4]) hiW rfl keyW
  have e3 : asgS jrW (nameG 3) [.lst o (fs.map .str), .str r, .int K, .unset, .unset, .unset] = .nx [.lst o (fs.map .str), .str r, .int K, .lst true ((wds r K).map .str), .unset, .unset] := by
    generalize jrW = A at kW ⊢
    generalize fs.map D.str = L at *
    generalize (wds r K).map D.str = W at *
    simp [kW]
  have keyL := lc_some (t := testF (bin true (inLD true) (opN (op2 min2D) (consF false (varF 5) (consF true (callF F__law_contrary [] (consF true (varF 5) nilF)) nilF))) (varF 0))) (ef := varF 5) (i := 5) (env := [.lst o (fs.map .str), .str r, .int K, .lst false ((wds r K).map .str), .unset, .unset]) D.str (fun w => !decide (frm w ∈ fs)) D.str rfl (wds r K) (by
      intro w hw
      have rw' := wds_rw hr hw
      have c1 := law_con rw'
      have m1 := min_frm w
      have n1 := notIn_ok o fs (frm w) h.ok (frm_rw rw').okS
      generalize F__law_contrary = A at c1 ⊢
      generalize con w = cw at *
      generalize (!decide (frm w ∈ fs)) = bb at *
      generalize frm w = fw at *
      generalize fs.map D.str = L at *
      generalize (wds r K).map D.str = W at *
      cases o <;> simp [c1, m1, n1]) (by
      intro w hw _
      exact ⟨.tmp (.str w), by simp, by simp⟩) (by rw [wds_len]; unfold LIM; omega)
  have hiL : seqF (varF 3) [.lst o (fs.map .str), .str r, .int K, .lst true ((wds r K).map .str), .unset, .unset] = .ok ((wds r K).map .str) [.lst o (fs.map .str), .str r, .int K, .lst false ((wds r K).map .str), .unset, .unset] := by simp
  have kL : jrL [.lst o (fs.map .str), .str r, .int K, .lst true ((wds r K).map .str), .unset, .unset] = .ok (.tmp (.lst true (((wds r K).filter fun w => !decide (frm w ∈ fs)).map .str))) [.lst o (fs.map .str), .str r, .int K, .lst false ((wds r K).map .str), .unset, .unset] := by
    unfold jrL lcF
    rw [hiL]
    simp only [R.bind]
    have hw : okW [.lst o (fs.map .str), .str r, .int K, .lst false ((wds r K).map .str), .unset, .unset] [5] = true := rfl
    rw [if_pos hw]
    have w : wipeE [.lst o (fs.map .str), .str r, .int K, .lst false ((wds r K).map .str), .unset, .unset] [5] = [.lst o (fs.map .str), .str r, .int K, .lst false ((wds r K).map .str), .unset, .unset] := rfl
    rw [w, keyL]
    rfl
  have q := eq_nil true ((wds r K).filter fun w => !decide (frm w ∈ fs)) (fun t ht => (wds_rw hr (List.mem_filter.mp ht).1).okS)
  have hrt : ((wds r K).filter fun w => !decide (frm w ∈ fs)).isEmpty = rt fs r K := by
    rw [Bool.eq_iff_iff, List.isEmpty_iff, List.filter_eq_nil_iff, rt, List.all_eq_true]
    simp
  rw [hrt] at q
  have ed : d__law_is_right ([.lst o (fs.map .str), .str r] ++ List.replicate 4 .unset) = .ret (.bl (rt fs r K)) [.lst o (fs.map .str), .str r, .int K, .lst false ((wds r K).map .str), .unset, .unset] := by
    show d__law_is_right [.lst o (fs.map .str), .str r, .unset, .unset, .unset, .unset] = _
    rw [dj_eq, ev_seqS, e1, SR_seq_nx, ev_seqS, e3, SR_seq_nx]
    have l0 : 0 ≤ LIM := by decide
    generalize jrL = A at kL ⊢
    generalize ((wds r K).filter fun w => !decide (frm w ∈ fs)).map D.str = Z at *
    generalize fs.map D.str = L at *
    generalize (wds r K).map D.str = W at *
    simp [kL, q, ev_retS, l0]
  have ho : reOk re__law_is_right [.lst o (fs.map .str), .str r] = true := by cases o <;> simp [reOk, re__law_is_right]
  have := body_ret (m := 4) rfl ho ed
  cases o <;> exact this
end
end G
set_option maxHeartbeats 1000000
namespace G
open PySem PyProof.Rows L2 VS
noncomputable section
def f1 : List D → SR := asgS (callF F__law_row [] (consF true (varF 0) (consF true (varF 1) (consF true (bin true addD (varF 1) (tmpd (.int 12))) nilF)))) (nameG 2)
def fW : List D → R Rv := lcF (itF (consF true (bin true addD (bin true subD (opN (op1 lenAD) (consF true (varF 2) nilF)) (varF 1)) (tmpd (.int 1))) nilF) rng1K) (nameG 7) (fun env => .ok true env) (slLHF true true (varF 2) (varF 7) (bin true addD (varF 7) (varF 1))) [7]
def fS : List D → R Rv := lcF (itF (consF true (varF 1) nilF) rng1K) (nameG 9) (fun env => .ok true env) (callF F__law_pick [] (consF true (varF 0) (consF true (tmpd (.str [97, 99, 103, 116])) nilF))) [9]
def fT : List D → R Rv := lcF (itF (consF true (callF F__law_next [] (consF true (varF 0) (consF true (tmpd (.int 3)) nilF))) nilF) rng1K) (nameG 8) (fun env => .ok true env) (m1F joinD (tmpd (.str [])) fS) [8]
def f3 : List D → SR := asgS (bin false addD (varF 3) fT) (nameG 3)
def fB1 : List D → SR := asgS (opN (op2 min2D) (consF false (varF 5) (consF true (callF F__law_contrary [] (consF true (varF 5) nilF)) nilF))) (nameG 6)
def fBt : List D → R Bool := andF (testF (bin true (inLD true) (varF 6) (varF 4))) (orF (testF (bin true eqD (varF 4) (lstF nilF))) (testF (bin true gtD (callF F__law_next [] (consF true (varF 0) (consF true (tmpd (.int 8)) nilF))) (tmpd (.int 0)))))
def fBa : List D → SR := dropS (bmF "list" true apM (varF 4) (consF true (varF 6) nilF))
def fB : List D → SR := seqS fB1 (ifS fBt fBa nextS)
def fR : List D → SR := retS (prOf re__law_forms) (ifeF (testF (bin true eqD (callF F__law_next [] (consF true (varF 0) (consF true (tmpd (.int 2)) nilF))) (tmpd (.int 0)))) (una revLD (varF 4)) (varF 4))
theorem df_eq : d__law_forms = seqS f1 (seqS (asgS fW (nameG 3)) (seqS f3 (seqS (asgS (lstF nilF) (nameG 4)) (seqS (forS (seqF (varF 3)) (nameG 5) fB) fR)))) := rfl
section
variable (b : Int)
/-- K drawn signs -/
theorem fS_ok (K : Nat) (hK : K ≤ 9) (rw so fd wd fm at_ tu : D) (a n : Int) (hn : 0 ≤ n) (hn2 : n ≤ 200)   : ∃ (cs : List Nat) (a' n' : Int), fS [Dw a b n, .int K, rw, so, fd, wd, fm, at_, tu, .unset] = .ok (.tmp (.lst true (cs.map fun c => .str [c]))) [Dw a' b n', .int K, rw, so, fd, wd, fm, at_, tu, .unset] ∧ cs.length = K ∧ (∀ c ∈ cs, c ∈ acgt) ∧ n ≤ n' ∧ n' ≤ n + 9 := by
  obtain ⟨acc, e, g1, a', n', cs, rfl, rfl, hl, hc, k1, k2⟩ := lc_ok (g := nameG 9) (t := fun env => .ok true env) (ef := callF F__law_pick [] (consF true (varF 0) (consF true (tmpd (.str [97, 99, 103, 116])) nilF))) (vs := [9])
    (fun k env acc => ∃ (a' n' : Int) (cs : List Nat), env = [Dw a' b n', .int K, rw, so, fd, wd, fm, at_, tu, .unset] ∧ acc = cs.map (fun c => D.str [c]) ∧ cs.length = k ∧ (∀ c ∈ cs, c ∈ acgt) ∧ n ≤ n' ∧ n' ≤ n + k)
    (intsD 0 K) 0 [Dw a b n, .int K, rw, so, fd, wd, fm, at_, tu, .unset] [] ⟨a, n, [], rfl, rfl, rfl, by simp, by omega, by omega⟩ (by
      rintro i d env acc hd ⟨a', n', cs, rfl, rfl, hl, hc, k1, k2⟩
      have hir : i < K := by
        have := (List.getElem?_eq_some_iff.mp hd).1
        simpa [intsD_len] using this
      rw [intsD_get hir] at hd
      cases hd
      obtain ⟨c, a3, n3, q1, q2, q3, q4⟩ := pick_str a' b n' [97, 99, 103, 116] (by simp) (by simp) (by omega) (by omega)
      refine ⟨[Dw a' b n', .int K, rw, so, fd, wd, fm, at_, tu, .int (0 + (i : Int))], [Dw a' b n', .int K, rw, so, fd, wd, fm, at_, tu, .int (0 + (i : Int))], true, by simp, by simp, by simp, fun _ => ?_⟩
      refine ⟨.tmp (.str [c]), .str [c], [Dw a3 b n3, .int K, rw, so, fd, wd, fm, at_, tu, .int (0 + (i : Int))], [Dw a3 b n3, .int K, rw, so, fd, wd, fm, at_, tu, .int (0 + (i : Int))], ?_, by simp, by simp [LIM]; omega, a3, n3, cs ++ [c], by simp, by simp, by simp [hl], ?_, by omega, by omega⟩
      · generalize F__law_pick = A at q1 ⊢
        simp [q1]
      · intro z hz
        rcases List.mem_append.mp hz with hz | hz
        · exact hc z hz
        · rw [List.mem_singleton.mp hz]; exact q2)
  rw [intsD_len] at hl k2
  have hi : itF (consF true (varF 1) nilF) rng1K [Dw a b n, .int K, rw, so, fd, wd, fm, at_, tu, .unset] = .ok (intsD 0 K) [Dw a b n, .int K, rw, so, fd, wd, fm, at_, tu, .unset] := it_of (n := K) (by simp) (rng1_nat K (by omega))
  exact ⟨cs, a', n', lc_it (vs := [9]) hi rfl g1, by omega, hc, k1, by omega⟩
theorem join_chars' {A : List D → R Rv} {env env1 : List D} {cs : List Nat} (h : A env = .ok (.tmp (.lst true (cs.map fun c => .str [c]))) env1) (hl : cs.length ≤ LIM) : m1F joinD (tmpd (.str [])) A env = .ok (.tmp (.str cs)) env1 := by
  simp [h, joinD, seqI, strsD_map, Function.comp_def, glue_nil, sum_ones, hl]
/-- what words are drawn from -/
structure Ws (L : List (List Nat)) (K : Nat) : Prop where
  w : ∀ t ∈ L, Rw t ∧ t.length = K
theorem it_of' {A : List D → R Rv} {env env1 : List D} {n : Int} {K : List D → Option (List D)} {ys : List D} (hA : A env = .ok (.tmp (.int n)) env1) (hr : K [.int n] = some ys) : itF (consF true A nilF) K env = .ok ys env1 := by
  simp [hA, hr]
theorem fT_ok (K : Nat) (hK : K ≤ 9) (rw so fd wd fm at_ : D) (a n : Int) (hn : 0 ≤ n) (hn2 : n ≤ 100) : ∃ (L : List (List Nat)) (a' n' : Int), fT [Dw a b n, .int K, rw, so, fd, wd, fm, at_, .unset, .unset] = .ok (.tmp (.lst true (L.map .str))) [Dw a' b n', .int K, rw, so, fd, wd, fm, at_, .unset, .unset] ∧ Ws L K ∧ L.length ≤ 2 ∧ n ≤ n' ∧ n' ≤ n + 20 := by
  obtain ⟨m, a1, n1, e1, m0, m1, m2, m3⟩ := next_ok a b n 3 (by omega) (by omega) hn (by omega)
  obtain ⟨acc, e, g1, a', n', L, rfl, rfl, hl, hc, k1, k2⟩ := lc_ok (g := nameG 8) (t := fun env => .ok true env) (ef := m1F joinD (tmpd (.str [])) fS) (vs := [8])
    (fun k env acc => ∃ (a' n' : Int) (L : List (List Nat)), env = [Dw a' b n', .int K, rw, so, fd, wd, fm, at_, .unset, .unset] ∧ acc = L.map D.str ∧ L.length = k ∧ Ws L K ∧ n1 ≤ n' ∧ n' ≤ n1 + 9 * k)
    (intsD 0 m.toNat) 0 [Dw a1 b n1, .int K, rw, so, fd, wd, fm, at_, .unset, .unset] [] ⟨a1, n1, [], rfl, rfl, rfl, ⟨by simp⟩, by omega, by omega⟩ (by
      rintro i d env acc hd ⟨a', n', L, rfl, rfl, hl, hc, k1, k2⟩
      have hir : i < m.toNat := by
        have := (List.getElem?_eq_some_iff.mp hd).1
        simpa [intsD_len] using this
      rw [intsD_get hir] at hd
      cases hd
      obtain ⟨cs, a3, n3, q1, q2, q3, q4, q5⟩ := fS_ok b K hK rw so fd wd fm at_ (.int (0 + (i : Int))) a' n' (by omega) (by omega)
      refine ⟨[Dw a' b n', .int K, rw, so, fd, wd, fm, at_, .int (0 + (i : Int)), .unset], [Dw a' b n', .int K, rw, so, fd, wd, fm, at_, .int (0 + (i : Int)), .unset], true, by simp, by simp, by simp, fun _ => ?_⟩
      refine ⟨.tmp (.str cs), .str cs, [Dw a3 b n3, .int K, rw, so, fd, wd, fm, at_, .int (0 + (i : Int)), .unset], [Dw a3 b n3, .int K, rw, so, fd, wd, fm, at_, .int (0 + (i : Int)), .unset], ?_, by simp, by simp [LIM]; omega, a3, n3, L ++ [cs], by simp, by simp, by simp [hl], ⟨fun t ht => ?_⟩, by omega, by omega⟩
      · have hlim : cs.length ≤ LIM := by unfold LIM; omega
        exact join_chars' q1 hlim
      · rcases List.mem_append.mp ht with z | z
        · exact hc.w t z
        · rw [List.mem_singleton.mp z]
          exact ⟨⟨by omega, q3⟩, q2⟩)
  rw [intsD_len] at hl k2
  have hr1 : rng1K [.int m] = some (intsD 0 m.toNat) := by
    obtain ⟨k, rfl⟩ : ∃ k : Nat, m = k := ⟨m.toNat, by omega⟩
    rw [rng1_nat k (by omega)]
    simp
  have hi : itF (consF true (callF F__law_next [] (consF true (varF 0) (consF true (tmpd (.int 3)) nilF))) nilF) rng1K [Dw a b n, .int K, rw, so, fd, wd, fm, at_, .unset, .unset] = .ok (intsD 0 m.toNat) [Dw a1 b n1, .int K, rw, so, fd, wd, fm, at_, .unset, .unset] := by
    refine it_of' (n := m) ?_ hr1
    generalize F__law_next = A at e1 ⊢
    simp [e1]
  refine ⟨L, a', n', ?_, hc, by omega, by omega, by omega⟩
  unfold fT lcF
  rw [hi]
  simp only [R.bind]
  have hw : okW [Dw a1 b n1, .int K, rw, so, fd, wd, fm, at_, .unset, .unset] [8] = true := rfl
  rw [if_pos hw]
  have w : wipeE [Dw a1 b n1, .int K, rw, so, fd, wd, fm, at_, .unset, .unset] [8] = [Dw a1 b n1, .int K, rw, so, fd, wd, fm, at_, .unset, .unset] := rfl
  rw [w, g1]
  rfl
/-- what was found so far -/
structure Fd (fs : List (List Nat)) (K : Nat) : Prop where
  nd : fs.Nodup
  fm : ∀ w ∈ fs, Rw w ∧ w.length = K ∧ frm w = w
theorem Fd.ok {fs : List (List Nat)} {K : Nat} (h : Fd fs K) : ∀ t ∈ fs, VS.okS t = true := fun t ht => (h.fm t ht).1.okS
theorem frm_frm {w : List Nat} (h : Rw w) : frm (frm w) = frm w := by
  by_cases q : con w < w
  · have e : frm w = con w := by unfold frm; rw [if_pos q]
    rw [e, frm_con h, e]
  · have e : frm w = w := by unfold frm; rw [if_neg q]
    rw [e, e]
theorem frm_len (w : List Nat) : (frm w).length = w.length := by
  unfold frm
  split
  · exact con_len w
  · rfl
theorem fB_ok (K : Nat) {w : List Nat} (hw : Rw w ∧ w.length = K) (fs : List (List Nat)) (h : Fd fs K) (hl : fs.length ≤ 30) (rw so fm at_ tu sg : D) (a n : Int) (hn : 0 ≤ n) (hn2 : n ≤ 300) :
    ∃ (fs' : List (List Nat)) (a' n' : Int), fB [Dw a b n, .int K, rw, so, .lst true (fs.map .str), .str w, fm, at_, tu, sg] = .nx [Dw a' b n', .int K, rw, so, .lst true (fs'.map .str), .str w, .str (frm w), at_, tu, sg] ∧ Fd fs' K ∧ fs' ≠ [] ∧ fs'.length ≤ fs.length + 1 ∧ n ≤ n' ∧ n' ≤ n + 1 := by
  have c1 := law_con hw.1
  have m1 := min_frm w
  have e1 : fB1 [Dw a b n, .int K, rw, so, .lst true (fs.map .str), .str w, fm, at_, tu, sg] = .nx [Dw a b n, .int K, rw, so, .lst true (fs.map .str), .str w, .str (frm w), at_, tu, sg] := by
    unfold fB1
    generalize F__law_contrary = A at c1 ⊢
    generalize con w = cw at *
    generalize frm w = fw at *
    generalize fs.map D.str = L at *
    simp [c1, m1]
  have i1 := notIn_ok true fs (frm w) h.ok (frm_rw hw.1).okS
  have q1 := eq_nil true fs h.ok
  have app : frm w ∉ fs → fBa = fBa → ∀ (a' n' : Int), fBa [Dw a' b n', .int K, rw, so, .lst true (fs.map .str), .str w, .str (frm w), at_, tu, sg] = .nx [Dw a' b n', .int K, rw, so, .lst true ((fs ++ [frm w]).map .str), .str w, .str (frm w), at_, tu, sg] := fun _ _ a' n' => by
    have l3 : (fs.map D.str).length < LIM := by rw [List.length_map]; unfold LIM; omega
    unfold fBa
    rw [List.map_append]
    generalize fs.map D.str = L at *
    simp [apM, l3, getE, setE, getP, setP, kids, withKids]
  have fd2 : frm w ∉ fs → Fd (fs ++ [frm w]) K := fun hno => ⟨List.nodup_append.mpr ⟨h.nd, by simp, fun x hx y hy e => hno (by rw [List.mem_singleton.mp hy] at e; exact e ▸ hx)⟩, fun t ht => by
    rcases List.mem_append.mp ht with z | z
    · exact h.fm t z
    · rw [List.mem_singleton.mp z]
      exact ⟨frm_rw hw.1, by rw [frm_len]; exact hw.2, frm_frm hw.1⟩⟩
  unfold fB
  rw [ev_seqS, e1, SR_seq_nx]
  by_cases hin : frm w ∈ fs
  · have t0 : fBt [Dw a b n, .int K, rw, so, .lst true (fs.map .str), .str w, .str (frm w), at_, tu, sg] = .ok false [Dw a b n, .int K, rw, so, .lst true (fs.map .str), .str w, .str (frm w), at_, tu, sg] := by
      rw [decide_eq_true hin] at i1
      unfold fBt
      generalize frm w = fw at *
      generalize fs.map D.str = L at *
      simp [i1]
    refine ⟨fs, a, n, ?_, h, fun z => (by rw [z] at hin; cases hin), by omega, by omega, by omega⟩
    rw [ifS_b t0]
    rfl
  · rw [decide_eq_false hin] at i1
    by_cases he : fs = []
    · subst he
      have t0 : fBt [Dw a b n, .int K, rw, so, .lst true (([] : List (List Nat)).map .str), .str w, .str (frm w), at_, tu, sg] = .ok true [Dw a b n, .int K, rw, so, .lst true (([] : List (List Nat)).map .str), .str w, .str (frm w), at_, tu, sg] := by
        have l0 : 0 ≤ LIM := by decide
        simp only [List.map_nil, List.isEmpty_nil] at q1 i1 ⊢
        unfold fBt
        generalize frm w = fw at *
        simp [i1, q1, l0]
      refine ⟨[] ++ [frm w], a, n, ?_, fd2 hin, by simp, by simp, by omega, by omega⟩
      rw [ifS_b t0, if_pos rfl]
      exact app hin rfl a n
    · obtain ⟨x, a2, n2, e2, x0, x1, x2, x3⟩ := next_ok a b n 8 (by omega) (by omega) hn (by omega)
      have hemp : fs.isEmpty = false := by cases fs <;> simp at he ⊢
      rw [hemp] at q1
      have t0 : fBt [Dw a b n, .int K, rw, so, .lst true (fs.map .str), .str w, .str (frm w), at_, tu, sg] = .ok (decide (0 < x)) [Dw a2 b n2, .int K, rw, so, .lst true (fs.map .str), .str w, .str (frm w), at_, tu, sg] := by
        have l0 : 0 ≤ LIM := by decide
        unfold fBt
        generalize frm w = fw at *
        generalize fs.map D.str = L at *
        simp [i1, q1, e2, l0]
      by_cases hx : 0 < x
      · refine ⟨fs ++ [frm w], a2, n2, ?_, fd2 hin, by simp, by simp, by omega, by omega⟩
        rw [ifS_b t0, decide_eq_true hx, if_pos rfl]
        exact app hin rfl a2 n2
      · refine ⟨fs, a2, n2, ?_, h, he, by omega, by omega, by omega⟩
        rw [ifS_b t0, decide_eq_false hx]
        rfl
end
end
end G
set_option maxHeartbeats 1000000
namespace G
open PySem PyProof.Rows L2 VS
noncomputable section
theorem fz_strs (L : List (List Nat)) : (L.map D.str).all isFz = true := by simp
theorem rev_ok (fs : List (List Nat)) (hl : fs.length ≤ LIM) : revLD (.lst true (fs.map .str)) = some (.lst true (fs.reverse.map .str)) := by
  have h := fz_strs fs
  have e : (fs.reverse.map D.str) = (fs.map D.str).reverse := (List.map_reverse ..)
  rw [e]
  generalize fs.map D.str = L at *
  have h2 : ∀ x ∈ L, isFz x = true := by simpa using h
  simp [revLD, lstI_is]
  try exact h2
theorem forms_ok (a b n : Int) (K : Nat) (hk : (K : Int) ∈ ns_SIZES) (hn : 0 ≤ n) (hn2 : n ≤ 10) :
    ∃ (fs : List (List Nat)) (a' n' : Int), F__law_forms [Dw a b n, .int K] = .ok (.lst true (fs.map .str)) [Dw a' b n', .int K] ∧ Fs fs K ∧ n ≤ n' ∧ n' ≤ n + 70 := by
  have hk1 : 1 ≤ K ∧ K ≤ 9 := by simp [ns_SIZES] at hk; omega
  obtain ⟨r, a1, n1, e1, q1, q2, q3, q4, q5⟩ := row_ok a b n K (K + 12) (by omega) (by omega) (by omega) hn (by omega)
  have hr : Rw r := ⟨by omega, q3⟩
  have s1 : f1 [Dw a b n, .int K, .unset, .unset, .unset, .unset, .unset, .unset, .unset, .unset] = .nx [Dw a1 b n1, .int K, .str r, .unset, .unset, .unset, .unset, .unset, .unset, .unset] := by
    unfold f1
    generalize F__law_row = A at e1 ⊢
    simp [e1]
  have keyW := lc_all (ef := slLHF true true (varF 2) (varF 7) (bin true addD (varF 7) (varF 1))) (i := 7) (env := [Dw a1 b n1, .int K, .str r, .unset, .unset, .unset, .unset, .unset, .unset, .unset]) (fun j : Nat => D.int (0 + (j : Int))) (fun j => .str ((r.drop j).take K)) rfl
    (List.range (r.length + 1 - K)) (by
      intro j hj
      have hj := List.mem_range.mp hj
      have e := cut_in r j K (by omega)
      simp only [Int.zero_add] at e
      refine ⟨.tmp (.str ((r.drop j).take K)), ?_, ?_⟩ <;> simp [slLHd, slD, hr.lim, e]) (by simp [LIM]; omega)
  have e2 : (wds r K).map D.str = (List.range (r.length + 1 - K)).map fun j => D.str ((r.drop j).take K) := by simp [wds]
  have e : intsD 0 (r.length + 1 - K) = (List.range (r.length + 1 - K)).map fun (j : Nat) => D.int (0 + (j : Int)) := rfl
  rw [← e2, ← e] at keyW
  have hiW : itF (consF true (bin true addD (bin true subD (opN (op1 lenAD) (consF true (varF 2) nilF)) (varF 1)) (tmpd (.int 1))) nilF) rng1K [Dw a1 b n1, .int K, .str r, .unset, .unset, .unset, .unset, .unset, .unset, .unset] = .ok (intsD 0 (r.length + 1 - K)) [Dw a1 b n1, .int K, .str r, .unset, .unset, .unset, .unset, .unset, .unset, .unset] := by
    refine it_of (n := r.length + 1 - K) ?_ (rng1_nat _ (by omega))
    have z : ((r.length : Int) - K + 1) = ((r.length + 1 - K : Nat) : Int) := by omega
    simp [hr.lim, z]
  have kW : fW [Dw a1 b n1, .int K, .str r, .unset, .unset, .unset, .unset, .unset, .unset, .unset] = .ok (.tmp (.lst true ((wds r K).map .str))) [Dw a1 b n1, .int K, .str r, .unset, .unset, .unset, .unset, .unset, .unset, .unset] := lc_it (vs := [7]) hiW rfl keyW
  have s2 : asgS fW (nameG 3) [Dw a1 b n1, .int K, .str r, .unset, .unset, .unset, .unset, .unset, .unset, .unset] = .nx [Dw a1 b n1, .int K, .str r, .lst true ((wds r K).map .str), .unset, .unset, .unset, .unset, .unset, .unset] := by
    generalize fW = A at kW ⊢
    generalize (wds r K).map D.str = W at *
    simp [kW]
  obtain ⟨X, a3, n3, e3, hX, hXl, x1, x2⟩ := fT_ok b K hk1.2 (.str r) (.lst true ((wds r K).map .str)) .unset .unset .unset .unset a1 n1 (by omega) (by omega)
  have hWl : (wds r K).length ≤ 21 := by rw [wds_len]; omega
  have ad : addD (.lst true ((wds r K).map .str)) (.lst true (X.map .str)) = some (.lst true ((wds r K ++ X).map .str)) := by
    have h1 := fz_strs (wds r K)
    have h2 := fz_strs X
    have hl : ((wds r K).map D.str).length + (X.map D.str).length ≤ LIM := by rw [List.length_map, List.length_map]; unfold LIM; omega
    rw [List.map_append]
    simp only [addD, lstI_is, h1, h2]
    simp only [if_true, Option.bind_some]
    rw [if_pos hl]
  have s3 : f3 [Dw a1 b n1, .int K, .str r, .lst true ((wds r K).map .str), .unset, .unset, .unset, .unset, .unset, .unset] = .nx [Dw a3 b n3, .int K, .str r, .lst true ((wds r K ++ X).map .str), .unset, .unset, .unset, .unset, .unset, .unset] := by
    unfold f3
    generalize fT = A at e3 ⊢
    generalize (wds r K).map D.str = W at *
    generalize (wds r K ++ X).map D.str = W2 at *
    generalize X.map D.str = X2 at *
    simp [e3, ad]
  have s4 : asgS (lstF nilF) (nameG 4) [Dw a3 b n3, .int K, .str r, .lst true ((wds r K ++ X).map .str), .unset, .unset, .unset, .unset, .unset, .unset] = .nx [Dw a3 b n3, .int K, .str r, .lst true ((wds r K ++ X).map .str), .lst true [], .unset, .unset, .unset, .unset, .unset] := by
    have l0 : 0 ≤ LIM := by decide
    generalize (wds r K ++ X).map D.str = W2
    simp [l0]
  have hS : ∀ t ∈ wds r K ++ X, Rw t ∧ t.length = K := fun t ht => by
    rcases List.mem_append.mp ht with z | z
    · refine ⟨wds_rw hr z, ?_⟩
      obtain ⟨j, hj, rfl⟩ := List.mem_map.mp z
      have := List.mem_range.mp hj
      simp
      omega
    · exact hX.w t z
  have hne : 0 < (wds r K ++ X).length := by rw [List.length_append, wds_len]; omega
  have hle : (wds r K ++ X).length ≤ 23 := by rw [List.length_append]; omega
  generalize wds r K ++ X = S at *
  obtain ⟨ev, lp, a5, n5, fs, x5, x6, rfl, hF, hF0, hFl, k1, k2⟩ := loop_nx (g := nameG 5) (body := fB)
    (fun i env => ∃ (a5 n5 : Int) (fs : List (List Nat)) (x5 x6 : D), env = [Dw a5 b n5, .int K, .str r, .lst false (S.map .str), .lst true (fs.map .str), x5, x6, .unset, .unset, .unset] ∧ Fd fs K ∧ (1 ≤ i → fs ≠ []) ∧ fs.length ≤ i ∧ n3 ≤ n5 ∧ n5 ≤ n3 + i)
    (S.map .str) 0 [Dw a3 b n3, .int K, .str r, .lst false (S.map .str), .lst true [], .unset, .unset, .unset, .unset, .unset] ⟨a3, n3, [], .unset, .unset, rfl, ⟨List.nodup_nil, by simp⟩, by simp, by simp, by omega, by omega⟩ (by
      rintro i d env hd ⟨a5, n5, fs, x5, x6, rfl, hF, hF0, hFl, k1, k2⟩
      rw [List.getElem?_map] at hd
      obtain ⟨w, hw, rfl⟩ := Option.map_eq_some_iff.mp hd
      have hi : i < S.length := (List.getElem?_eq_some_iff.mp hw).1
      obtain ⟨fs2, a6, n6, e6, g1, g2, g3, g4, g5⟩ := fB_ok b K (hS w (List.mem_of_getElem? hw)) fs hF (by omega) (.str r) (.lst false (S.map .str)) x6 .unset .unset .unset a5 n5 (by omega) (by omega)
      refine ⟨[Dw a5 b n5, .int K, .str r, .lst false (S.map .str), .lst true (fs.map .str), .str w, x6, .unset, .unset, .unset], _, by simp, .inl e6, a6, n6, fs2, .str w, .str (frm w), rfl, g1, fun _ => g2, by omega, by omega, by omega⟩)
  rw [List.length_map] at hF0 hFl k2
  have e4 : seqF (varF 3) [Dw a3 b n3, .int K, .str r, .lst true (S.map .str), .lst true [], .unset, .unset, .unset, .unset, .unset] = .ok (S.map .str) [Dw a3 b n3, .int K, .str r, .lst false (S.map .str), .lst true [], .unset, .unset, .unset, .unset, .unset] := by simp
  obtain ⟨y, a7, n7, e7, y0, y1, y2, y3⟩ := next_ok a5 b n5 2 (by omega) (by omega) (by omega) (by omega)
  have qy := eq_int y 0
  have fin : ∀ (gs : List (List Nat)) (env : List D), gs.Perm fs → fR [Dw a5 b n5, .int K, .str r, .lst false (S.map .str), .lst true (fs.map .str), x5, x6, .unset, .unset, .unset] = .ret (.lst true (gs.map .str)) (Dw a7 b n7 :: .int K :: env) → ∃ (fs : List (List Nat)) (a' n' : Int), F__law_forms [Dw a b n, .int K] = .ok (.lst true (fs.map .str)) [Dw a' b n', .int K] ∧ Fs fs K ∧ n ≤ n' ∧ n' ≤ n + 70 := by
    intro gs env hp hfr
    refine ⟨gs, a7, n7, ?_, ⟨fun z => ?_, hp.nodup_iff.mpr hF.nd, fun w hw => hF.fm w (hp.mem_iff.mp hw), by have := hp.length_eq; omega, hk⟩, by omega, by omega⟩
    · have ed : d__law_forms ([Dw a b n, .int K] ++ List.replicate 8 .unset) = .ret (.lst true (gs.map .str)) (Dw a7 b n7 :: .int K :: env) := by
        show d__law_forms [Dw a b n, .int K, .unset, .unset, .unset, .unset, .unset, .unset, .unset, .unset] = _
        rw [df_eq, ev_seqS, s1, SR_seq_nx, ev_seqS, s2, SR_seq_nx, ev_seqS, s3, SR_seq_nx, ev_seqS, s4, SR_seq_nx, ev_seqS, for_of e4 lp, SR_seq_nx, hfr]
      exact body_ret (m := 8) rfl rfl ed
    · have := hp.length_eq
      rw [z] at this
      exact hF0 (by omega) (List.length_eq_zero_iff.mp this.symm)
  have rv := rev_ok fs (by unfold LIM; omega)
  by_cases hy : y = 0
  · subst hy
    refine fin fs.reverse [.str r, .lst false (S.map .str), .lst true (fs.map .str), x5, x6, .unset, .unset, .unset] (List.reverse_perm fs) ?_
    unfold fR
    generalize fs.reverse.map D.str = L2 at *
    generalize fs.map D.str = L at *
    generalize S.map D.str = S2
    simp [e7, qy, rv, ev_retS]
  · refine fin fs [.str r, .lst false (S.map .str), .unset, x5, x6, .unset, .unset, .unset] (List.Perm.refl fs) ?_
    have p1 : prOf re__law_forms 4 = false := rfl
    rw [decide_eq_false hy] at qy
    unfold fR
    generalize fs.map D.str = L at *
    generalize S.map D.str = S2
    simp [e7, qy, ev_retS, p1]
end
end G
set_option maxHeartbeats 1000000
namespace G
open PySem PyProof.Rows L2 VS
noncomputable section
theorem pick_lstF (a b n : Int) (xs : List D) (hx : xs ≠ []) (hl : xs.length < 1000) (hf : ∀ x ∈ xs, isFz x = true) (hn : 0 ≤ n) (hn2 : n ≤ 800) :
    ∃ x a' n', F__law_pick [Dw a b n, .lst false xs] = .ok x [Dw a' b n', .lst false xs] ∧ x ∈ xs ∧ n ≤ n' ∧ n' ≤ n + 1 := by
  have hp : 0 < xs.length := List.length_pos_iff.mpr hx
  obtain ⟨r, a', n', h1, h2, h3, h4, h5⟩ := next_ok a b n xs.length (by omega) (by omega) hn hn2
  obtain ⟨x, e1, e2⟩ := atI_of h2 h3
  refine ⟨x, a', n', ?_, e2, h4, h5⟩
  have hfx := hf x e2
  have hs : isSet x = true := by cases x <;> first | rfl | cases hfx
  simp [F__law_pick, d__law_pick, ev_bodyF, h1, itemD, ixD, e1, hfx, hs, ev_retS, backD]

theorem pick_o (o : Bool) (a b n : Int) (xs : List D) (hx : xs ≠ []) (hl : xs.length < 1000) (hf : ∀ x ∈ xs, isFz x = true) (hn : 0 ≤ n) (hn2 : n ≤ 800) :
    ∃ x a' n', F__law_pick [Dw a b n, .lst o xs] = .ok x [Dw a' b n', .lst o xs] ∧ x ∈ xs ∧ n ≤ n' ∧ n' ≤ n + 1 := by
  cases o
  · exact pick_lstF a b n xs hx hl hf hn hn2
  · exact pick_lst a b n xs hx hl hf hn hn2
def gL : List D → R Rv := lcF (seqF (tmpd (.str [97, 99, 103, 116]))) (nameG 16) (truF (callF F__law_is_right [] (consF true (varF 5) (consF true (bin true addD (varF 10) (varF 16)) nilF)))) (bin true addD (varF 10) (varF 16)) [16]
def g1 : List D → SR := asgS gL (nameG 13)
def g2 : List D → SR := asgS (ifeF (testF (bin true neD (varF 13) (lstF nilF))) (callF F__law_pick [] (consF true (varF 3) (consF true (varF 13) nilF))) (varF 10)) (nameG 10)
theorem b1_eq : b_law_1 = seqS g1 g2 := rfl
theorem nil_str {x : D} {L : List (List Nat)} (h : x ∈ L.map D.str) : isFz x = true := by
  obtain ⟨_, _, rfl⟩ := List.mem_map.mp h
  rfl
theorem rw_snoc {r : List Nat} (h : Rw r) (hl : r.length ≤ 60) {c : Nat} (hc : c ∈ acgt) : Rw (r ++ [c]) := ⟨by simp; omega, fun z hz => by
  rcases List.mem_append.mp hz with q | q
  · exact h.sg z q
  · rw [List.mem_singleton.mp q]; exact hc⟩
section
variable (sc k cl tn sh od th to st at_ wy : D) (b : Int)
abbrev Ez (dr mn fs tn sh od th rw st to so at_ wy : D) : List D := [sc, k, cl, dr, mn, fs, tn, sh, od, th, rw, st, to, so, at_, wy, .unset]
theorem gL_ok {fs : List (List Nat)} {K : Nat} (h : Fs fs K) (o : Bool) {r : List Nat} (hr : Rw r) (h60 : r.length ≤ 60) (hl : K ≤ r.length) (dr mn so : D) :
    gL (Ez sc k cl dr mn (.lst o (fs.map .str)) tn sh od th (.str r) st to so at_ wy) = .ok (.tmp (.lst true ((acgt.filter fun c => rt fs (r ++ [c]) K).map fun c => .str (r ++ [c])))) (Ez sc k cl dr mn (.lst o (fs.map .str)) tn sh od th (.str r) st to so at_ wy) := by
  have hlim : r.length + 1 ≤ LIM := by unfold LIM; omega
  have key := lc_some (t := truF (callF F__law_is_right [] (consF true (varF 5) (consF true (bin true addD (varF 10) (varF 16)) nilF)))) (ef := bin true addD (varF 10) (varF 16)) (i := 16) (env := Ez sc k cl dr mn (.lst o (fs.map .str)) tn sh od th (.str r) st to so at_ wy) (fun c : Nat => D.str [c]) (fun c => rt fs (r ++ [c]) K) (fun c => .str (r ++ [c])) rfl acgt (by
      intro c hc
      have e := law_is_right_ok h o (rw_snoc hr h60 hc) (by simp; omega)
      generalize F__law_is_right = A at e ⊢
      generalize rt fs (r ++ [c]) K = q at *
      generalize fs.map D.str = L at *
      cases o <;> simp [hlim, e]) (by
      intro c hc _
      refine ⟨.tmp (.str (r ++ [c])), ?_, by simp⟩
      generalize D.lst o (fs.map D.str) = L
      simp [hlim]) (by decide)
  have hi : seqF (tmpd (.str [97, 99, 103, 116])) (Ez sc k cl dr mn (.lst o (fs.map .str)) tn sh od th (.str r) st to so at_ wy) = .ok (acgt.map fun c => .str [c]) (Ez sc k cl dr mn (.lst o (fs.map .str)) tn sh od th (.str r) st to so at_ wy) := by
    generalize D.lst o (fs.map D.str) = L
    simp [acgt]
  exact lc_it (vs := [16]) hi rfl key
theorem b1_ok {fs : List (List Nat)} {K : Nat} (h : Fs fs K) (o : Bool) {r : List Nat} (hr : Rw r) (h60 : r.length ≤ 60) (hl : K ≤ r.length) (mn so : D) (a n : Int) (hn : 0 ≤ n) (hn2 : n ≤ 400) :
    ∃ (r' : List Nat) (a' n' : Int) (so' : D), b_law_1 (Ez sc k cl (Dw a b n) mn (.lst o (fs.map .str)) tn sh od th (.str r) st to so at_ wy) = .nx (Ez sc k cl (Dw a' b n') mn (.lst o (fs.map .str)) tn sh od th (.str r') st to so' at_ wy) ∧ Rw r' ∧ K ≤ r'.length ∧ r'.length ≤ r.length + 1 ∧ n ≤ n' ∧ n' ≤ n + 1 := by
  have e := gL_ok sc k cl tn sh od th to st at_ wy h o hr h60 hl (Dw a b n) mn so
  have em : ((acgt.filter fun c => rt fs (r ++ [c]) K).map fun c => D.str (r ++ [c])) = ((acgt.filter fun c => rt fs (r ++ [c]) K).map fun c => r ++ [c]).map D.str := by simp [Function.comp_def]
  rw [em] at e
  have hX : ∀ t ∈ ((acgt.filter fun c => rt fs (r ++ [c]) K).map fun c => r ++ [c]), Rw t ∧ t.length = r.length + 1 := fun t ht => by
    obtain ⟨c, hc, rfl⟩ := List.mem_map.mp ht
    exact ⟨rw_snoc hr h60 (List.mem_filter.mp hc).1, by simp⟩
  have hXl : ((acgt.filter fun c => rt fs (r ++ [c]) K).map fun c => r ++ [c]).length ≤ 4 := by
    rw [List.length_map]
    exact Nat.le_trans (List.length_filter_le _ _) (by decide)
  generalize ((acgt.filter fun c => rt fs (r ++ [c]) K).map fun c => r ++ [c]) = X at *
  have s1 : g1 (Ez sc k cl (Dw a b n) mn (.lst o (fs.map .str)) tn sh od th (.str r) st to so at_ wy) = .nx (Ez sc k cl (Dw a b n) mn (.lst o (fs.map .str)) tn sh od th (.str r) st to (.lst true (X.map .str)) at_ wy) := by
    unfold g1
    generalize gL = A at e ⊢
    generalize D.lst o (fs.map D.str) = L at *
    generalize X.map D.str = Y at *
    simp [e]
  have q := ne_nil true X fun t ht => (hX t ht).1.okS
  have l0 : 0 ≤ LIM := by decide
  by_cases hx : X = []
  · refine ⟨r, a, n, .lst true (X.map .str), ?_, hr, hl, by omega, by omega, by omega⟩
    rw [b1_eq, ev_seqS, s1, SR_seq_nx]
    subst hx
    simp only [List.map_nil, List.isEmpty_nil, Bool.not_true] at q ⊢
    unfold g2
    generalize D.lst o (fs.map D.str) = L at *
    simp [q, l0]
  · obtain ⟨y, a1, n1, e1, y1, y2, y3⟩ := pick_lst a b n (X.map .str) (by simpa using hx) (by rw [List.length_map]; omega) (fun x hx => nil_str hx) hn (by omega)
    obtain ⟨r', hr', rfl⟩ := List.mem_map.mp y1
    obtain ⟨g, gl⟩ := hX r' hr'
    refine ⟨r', a1, n1, .lst true (X.map .str), ?_, g, by omega, by omega, by omega, by omega⟩
    rw [b1_eq, ev_seqS, s1, SR_seq_nx]
    have hemp : X.isEmpty = false := by cases X <;> simp at hx ⊢
    rw [hemp] at q
    unfold g2
    generalize F__law_pick = A at e1 ⊢
    generalize D.lst o (fs.map D.str) = L at *
    generalize X.map D.str = Y at *
    simp [q, l0, e1]
end
end
end G
set_option maxHeartbeats 1000000
namespace G
open PySem PyProof.Rows L2 VS
noncomputable section
theorem cut_lo {α : Type} (s : List α) (j : Nat) (h : j ≤ s.length) : cutL s (some (j : Int)) none = s.drop j := by
  unfold cutL
  rw [sIx_in (by omega) (by omega)]
  simp [HT.sIx]
  exact List.take_of_length_le (by simp)
theorem cut_hi {α : Type} (s : List α) (j : Nat) (h : j ≤ s.length) : cutL s none (some (j : Int)) = s.take j := by
  unfold cutL
  rw [sIx_in (by omega) (by omega)]
  simp [HT.sIx]
def h1 : List D → SR := asgS (callF F__law_pick [] (consF true (varF 3) (consF true (varF 5) nilF))) (nameG 10)
def h2 : List D → SR := forS (itF (consF true (callF F__law_next [] (consF true (varF 3) (consF true (tmpd (.int 12)) nilF))) nilF) rng1K) (nameG 11) b_law_1
def h3 : List D → SR := parS 14 15 (consF false (callF F__law_next [] (consF true (varF 3) (consF true (opN (op1 lenAD) (consF true (varF 10) nilF)) nilF))) (consF true (callF F__law_next [] (consF true (varF 3) (consF true (tmpd (.int 4)) nilF))) nilF))
def h4 : List D → SR := ifS (testF (bin true eqD (varF 15) (tmpd (.int 0)))) (asgS (bin true addD (bin false addD (slHF true (varF 10) (varF 14)) (callF F__law_pick [] (consF true (varF 3) (consF true (tmpd (.str [97, 99, 103, 116])) nilF)))) (slLF true (varF 10) (bin true addD (varF 14) (tmpd (.int 1))))) (nameG 10)) (ifS (testF (bin true eqD (varF 15) (tmpd (.int 1)))) (asgS (callF F__law_contrary [] (consF true (varF 10) nilF)) (nameG 10)) (ifS (testF (bin true eqD (varF 15) (tmpd (.int 2)))) (asgS (callF F__law_row [] (consF true (varF 3) (consF true (varF 4) (consF true (bin true addD (varF 4) (tmpd (.int 6))) nilF)))) (nameG 10)) nextS))
def h5 : List D → SR := asgS (callF F_is_right [] (consF true (ifeF (testF (bin true eqD (varF 6) (tmpd (.int 3)))) (opN (op1 tuplD) (consF true (varF 5) nilF)) (varF 5)) (consF true (varF 10) nilF))) (nameG 12)
def h6 : List D → SR := ifS (orF (notF (truF (una (isiD "bool") (varF 12)))) (testF (bin false neD (varF 12) (callF F__law_is_right [] (consF true (varF 5) (consF true (varF 10) nilF)))))) (retS (prOf re_law) (tmpd (.bl false))) nextS
theorem b2_eq : b_law_2 = seqS h1 (seqS h2 (seqS h3 (seqS h4 (seqS h5 h6)))) := rfl
section
variable (sc k cl sh od th to : D) (b : Int)
theorem h1_ok {fs : List (List Nat)} {K : Nat} (h : Fs fs K) (o : Bool) (mn tn rw st to so at_ wy : D) (a n : Int) (hn : 0 ≤ n) (hn2 : n ≤ 400) :
    ∃ (r : List Nat) (a' n' : Int), h1 (Ez sc k cl (Dw a b n) mn (.lst o (fs.map .str)) tn sh od th rw st to so at_ wy) = .nx (Ez sc k cl (Dw a' b n') mn (.lst o (fs.map .str)) tn sh od th (.str r) st to so at_ wy) ∧ Rw r ∧ r.length = K ∧ n ≤ n' ∧ n' ≤ n + 1 := by
  obtain ⟨y, a1, n1, e1, y1, y2, y3⟩ := pick_o o a b n (fs.map .str) (by simpa using h.ne) (by rw [List.length_map]; have := h.len; omega) (fun x hx => nil_str hx) hn (by omega)
  obtain ⟨r, hr, rfl⟩ := List.mem_map.mp y1
  refine ⟨r, a1, n1, ?_, (h.fm r hr).1, (h.fm r hr).2.1, by omega, by omega⟩
  unfold h1
  generalize F__law_pick = A at e1 ⊢
  generalize fs.map D.str = L at *
  cases o <;> simp [e1]
theorem h2_ok {fs : List (List Nat)} {K : Nat} (h : Fs fs K) (o : Bool) {r : List Nat} (hr : Rw r) (hl : r.length = K) (mn tn st to so at_ wy : D) (a n : Int) (hn : 0 ≤ n) (hn2 : n ≤ 350) :
    ∃ (r' : List Nat) (a' n' : Int) (st' so' : D), h2 (Ez sc k cl (Dw a b n) mn (.lst o (fs.map .str)) tn sh od th (.str r) st to so at_ wy) = .nx (Ez sc k cl (Dw a' b n') mn (.lst o (fs.map .str)) tn sh od th (.str r') st' to so' at_ wy) ∧ Rw r' ∧ K ≤ r'.length ∧ r'.length ≤ 30 ∧ n ≤ n' ∧ n' ≤ n + 13 := by
  have hk := h.k
  obtain ⟨m, a1, n1, e1, m0, m1, m2, m3⟩ := next_ok a b n 12 (by omega) (by omega) hn (by omega)
  obtain ⟨e, l, r', a', n', st', so', rfl, g1, g2, g3, g4, g5⟩ := loop_nx (g := nameG 11) (body := b_law_1)
    (fun i env => ∃ (r' : List Nat) (a' n' : Int) (st' so' : D), env = Ez sc k cl (Dw a' b n') mn (.lst o (fs.map .str)) tn sh od th (.str r') st' to so' at_ wy ∧ Rw r' ∧ K ≤ r'.length ∧ r'.length ≤ K + i ∧ n1 ≤ n' ∧ n' ≤ n1 + i)
    (intsD 0 m.toNat) 0 (Ez sc k cl (Dw a1 b n1) mn (.lst o (fs.map .str)) tn sh od th (.str r) st to so at_ wy) ⟨r, a1, n1, st, so, rfl, hr, by omega, by omega, by omega, by omega⟩ (by
      rintro i d env hd ⟨r', a', n', st', so', rfl, g1, g2, g3, g4, g5⟩
      have hi : i < m.toNat := by
        have := (List.getElem?_eq_some_iff.mp hd).1
        simpa [intsD_len] using this
      rw [intsD_get hi] at hd
      cases hd
      obtain ⟨r2, a2, n2, so2, e2, q1, q2, q3, q4, q5⟩ := b1_ok sc k cl tn sh od th to (.int (0 + (i : Int))) at_ wy b h o g1 (by omega) g2 mn so' a' n' (by omega) (by omega)
      refine ⟨Ez sc k cl (Dw a' b n') mn (.lst o (fs.map .str)) tn sh od th (.str r') (.int (0 + (i : Int))) to so' at_ wy, _, by simp, .inl e2, r2, a2, n2, .int (0 + (i : Int)), so2, rfl, q1, q2, by omega, by omega, by omega⟩)
  rw [intsD_len] at g3 g5
  have hr1 : rng1K [.int m] = some (intsD 0 m.toNat) := by
    obtain ⟨k, rfl⟩ : ∃ k : Nat, m = k := ⟨m.toNat, by omega⟩
    rw [rng1_nat k (by omega)]
    simp
  have hi : itF (consF true (callF F__law_next [] (consF true (varF 3) (consF true (tmpd (.int 12)) nilF))) nilF) rng1K (Ez sc k cl (Dw a b n) mn (.lst o (fs.map .str)) tn sh od th (.str r) st to so at_ wy) = .ok (intsD 0 m.toNat) (Ez sc k cl (Dw a1 b n1) mn (.lst o (fs.map .str)) tn sh od th (.str r) st to so at_ wy) := by
    refine it_of' (n := m) ?_ hr1
    generalize F__law_next = A at e1 ⊢
    generalize D.lst o (fs.map D.str) = L
    simp [e1]
  exact ⟨r', a', n', st', so', for_of hi l, g1, g2, by omega, by omega, by omega⟩
theorem h3_ok {r : List Nat} (hr : Rw r) (hp : 0 < r.length) (L mn tn st to so at_ wy : D) (a n : Int) (hn : 0 ≤ n) (hn2 : n ≤ 400) :
    ∃ (p : Nat) (w : Int) (a' n' : Int), h3 (Ez sc k cl (Dw a b n) mn L tn sh od th (.str r) st to so at_ wy) = .nx (Ez sc k cl (Dw a' b n') mn L tn sh od th (.str r) st to so (.int p) (.int w)) ∧ p < r.length ∧ n ≤ n' ∧ n' ≤ n + 2 := by
  have hl := hr.lim
  have hlen := hr.len
  obtain ⟨x, a1, n1, e1, x0, x1, x2, x3⟩ := next_ok a b n r.length (by omega) (by omega) hn (by omega)
  obtain ⟨w, a2, n2, e2, w0, w1, w2, w3⟩ := next_ok a1 b n1 4 (by omega) (by omega) (by omega) (by omega)
  obtain ⟨p, rfl⟩ : ∃ p : Nat, x = p := ⟨x.toNat, by omega⟩
  refine ⟨p, w, a2, n2, ?_, by omega, by omega, by omega⟩
  unfold h3
  generalize F__law_next = A at e1 e2 ⊢
  simp [e1, e2, hl]
theorem h4_ok {K : Nat} (hk : 1 ≤ K ∧ K ≤ 9) {r : List Nat} (hr : Rw r) (hl : K ≤ r.length) (h30 : r.length ≤ 30) (p : Nat) (hp : p < r.length) (L tn st to so : D) (w : Int) (a n : Int) (hn : 0 ≤ n) (hn2 : n ≤ 400) :
    ∃ (r' : List Nat) (a' n' : Int), h4 (Ez sc k cl (Dw a b n) (.int K) L tn sh od th (.str r) st to so (.int p) (.int w)) = .nx (Ez sc k cl (Dw a' b n') (.int K) L tn sh od th (.str r') st to so (.int p) (.int w)) ∧ Rw r' ∧ K ≤ r'.length ∧ n ≤ n' ∧ n' ≤ n + 18 := by
  have q0 := eq_int w 0
  have q1 := eq_int w 1
  have q2 := eq_int w 2
  by_cases h0 : w = 0
  · obtain ⟨c, a1, n1, e1, c1, c2, c3⟩ := pick_str a b n [97, 99, 103, 116] (by simp) (by simp) hn (by omega)
    have k1 : slHd [.str r, .int (p : Int)] = some (.str (r.take p)) := by simp [slHd, slD, hr.lim, cut_hi r p (by omega)]
    have k2 : slLd [.str r, .int ((p : Int) + 1)] = some (.str (r.drop (p + 1))) := by
      have := cut_lo r (p + 1) (by omega)
      rw [show ((p + 1 : Nat) : Int) = (p : Int) + 1 by omega] at this
      simp [slLd, slD, hr.lim, this]
    have l1 : (r.take p).length + 1 ≤ LIM := by simp; unfold LIM; omega
    have l2 : (r.take p).length + 1 + (r.drop (p + 1)).length ≤ LIM := by simp; unfold LIM; omega
    refine ⟨r.take p ++ [c] ++ r.drop (p + 1), a1, n1, ?_, ⟨by simp; omega, fun z hz => ?_⟩, by simp; omega, by omega, by omega⟩
    · rw [decide_eq_true h0] at q0
      unfold h4
      generalize F__law_pick = A at e1 ⊢
      generalize r.take p = X at *
      generalize r.drop (p + 1) = Y at *
      simp [q0, e1, k1, k2, l1, l2]
    · rcases List.mem_append.mp hz with z1 | z1
      · rcases List.mem_append.mp z1 with z2 | z2
        · exact hr.sg z (List.mem_of_mem_take z2)
        · rw [List.mem_singleton.mp z2]; exact c1
      · exact hr.sg z (List.mem_of_mem_drop z1)
  · rw [decide_eq_false h0] at q0
    by_cases h1' : w = 1
    · have e := law_con hr
      rw [decide_eq_true h1'] at q1
      refine ⟨con r, a, n, ?_, con_rw hr, by rw [con_len]; omega, by omega, by omega⟩
      unfold h4
      generalize F__law_contrary = A at e ⊢
      generalize con r = C at *
      simp [q0, q1, e]
    · rw [decide_eq_false h1'] at q1
      by_cases h2' : w = 2
      · obtain ⟨s, a1, n1, e1, s1, s2, s3, s4, s5⟩ := row_ok a b n K (K + 6) (by omega) (by omega) (by omega) hn (by omega)
        rw [decide_eq_true h2'] at q2
        refine ⟨s, a1, n1, ?_, ⟨by omega, s3⟩, by omega, by omega, by omega⟩
        unfold h4
        generalize F__law_row = A at e1 ⊢
        simp [q0, q1, q2, e1]
      · rw [decide_eq_false h2'] at q2
        refine ⟨r, a, n, ?_, hr, hl, by omega, by omega⟩
        unfold h4
        simp [q0, q1, q2]
theorem h5_ok {fs : List (List Nat)} {K : Nat} (h : Fs fs K) (o : Bool) {r : List Nat} (hr : Rw r) (hl : K ≤ r.length) (dr mn st to so at_ wy : D) (t : Int) :
    ∃ o', h5 (Ez sc k cl dr mn (.lst o (fs.map .str)) (.int t) sh od th (.str r) st to so at_ wy) = .nx (Ez sc k cl dr mn (.lst o' (fs.map .str)) (.int t) sh od th (.str r) st (.bl (rt fs r K)) so at_ wy) := by
  have q := eq_int t 3
  have hz := fz_strs fs
  have ll : (fs.map D.str).length ≤ LIM := by rw [List.length_map]; have := h.len; unfold LIM; omega
  by_cases ht : t = 3
  · rw [decide_eq_true ht] at q
    have e := is_right_ok h true true hr hl
    refine ⟨o, ?_⟩
    simp only [Sq, if_true] at e
    unfold h5
    generalize F_is_right = A at e ⊢
    generalize fs.map D.str = L at *
    have h2 : ∀ x ∈ L, isFz x = true := by simpa using hz
    have t1 : tuplD (.lst o L) = some (.tup false L) := by simp only [tuplD, lstI_is, hz]; cases o <;> rfl
    cases o <;> simp [q, t1, e, h2]
  · rw [decide_eq_false ht] at q
    have e := is_right_ok h false o hr hl
    refine ⟨false, ?_⟩
    simp only [Sq, Bool.false_eq_true, if_false] at e
    unfold h5
    generalize F_is_right = A at e ⊢
    generalize fs.map D.str = L at *
    cases o <;> simp [q, e]
theorem h6_ok {fs : List (List Nat)} {K : Nat} (h : Fs fs K) (o : Bool) {r : List Nat} (hr : Rw r) (hl : K ≤ r.length) (dr mn tn st so at_ wy : D) :
    h6 (Ez sc k cl dr mn (.lst o (fs.map .str)) tn sh od th (.str r) st (.bl (rt fs r K)) so at_ wy) = .nx (Ez sc k cl dr mn (.lst o (fs.map .str)) tn sh od th (.str r) st (.bl (rt fs r K)) so at_ wy) := by
  have e := law_is_right_ok h o hr hl
  generalize rt fs r K = q at *
  have i1 : isiD "bool" (.bl q) = some (.bl true) := rfl
  have n1 : neD (.bl q) (.bl q) = some (.bl false) := ne_same rfl rfl rfl
  unfold h6
  generalize F__law_is_right = A at e ⊢
  generalize fs.map D.str = L at *
  cases o <;> simp [i1, n1, e]
end
end
end G
set_option maxHeartbeats 1000000
namespace G
open PySem PyProof.Rows L2 VS
noncomputable section
theorem nr_eq : neD (.tup false [.str [114, 111, 119], .non]) (.tup false [.str [114, 111, 119], .non]) = some (.bl false) := ne_same rfl rfl rfl
theorem nw_eq : neD (.tup false [.str [119, 111, 114, 100], .non]) (.tup false [.str [119, 111, 114, 100], .non]) = some (.bl false) := ne_same rfl rfl rfl
theorem nil_right {x : D} (hx : isFz x = true) : ∃ y, F_is_right [.lst true [], x] = .err "NoWord" .non [y, x] := by
  have hs : isSet x = true := by cases x <;> first | rfl | cases hx
  obtain ⟨y, e⟩ : ∃ y, F_need_forms [.lst true []] = .err "NoWord" .non [y] := by
    rcases need_forms_nil with e | e
    · exact ⟨_, e⟩
    · exact ⟨_, e⟩
  have e1 : ir1 [.lst true [], x, .unset, .unset] = .err "NoWord" .non [y, x, .unset, .unset] := by
    unfold ir1
    generalize F_need_forms = A at e ⊢
    simp [e, setE, getE, setP]
  have ed : d_is_right ([.lst true [], x] ++ List.replicate 2 .unset) = .err "NoWord" .non [y, x, .unset, .unset] := by
    show d_is_right [.lst true [], x, .unset, .unset] = _
    rw [di_eq, ev_seqS, e1]
    rfl
  have := body_err (m := 2) (re := re_is_right) rfl (by simp [reOk, re_is_right, hx, hs]) ed
  exact ⟨_, this⟩
section
variable (sc k cl : D) (b : Int)
theorem b2_ok {fs : List (List Nat)} {K : Nat} (h : Fs fs K) (o : Bool) (sh od th rw st to so at_ wy : D) (t : Int) (a n : Int) (hn : 0 ≤ n) (hn2 : n ≤ 310) :
    ∃ (o' : Bool) (a' n' : Int) (rw' st' to' so' at' wy' : D), b_law_2 (Ez sc k cl (Dw a b n) (.int K) (.lst o (fs.map .str)) (.int t) sh od th rw st to so at_ wy) = .nx (Ez sc k cl (Dw a' b n') (.int K) (.lst o' (fs.map .str)) (.int t) sh od th rw' st' to' so' at' wy') ∧ n ≤ n' ∧ n' ≤ n + 34 := by
  obtain ⟨r1, a1, n1, e1, g1, l1, u1, v1⟩ := h1_ok sc k cl sh od th b h o (.int K) (.int t) rw st to so at_ wy a n hn (by omega)
  obtain ⟨r2, a2, n2, st2, so2, e2, g2, l2, m2, u2, v2⟩ := h2_ok sc k cl sh od th b h o g1 l1 (.int K) (.int t) st to so at_ wy a1 n1 (by omega) (by omega)
  have hk := h.k
  obtain ⟨p, w, a3, n3, e3, hp, u3, v3⟩ := h3_ok sc k cl sh od th b g2 (by omega) (.lst o (fs.map .str)) (.int K) (.int t) st2 to so2 at_ wy a2 n2 (by omega) (by omega)
  obtain ⟨r4, a4, n4, e4, g4, l4, u4, v4⟩ := h4_ok sc k cl sh od th b hk g2 l2 m2 p hp (.lst o (fs.map .str)) (.int t) st2 to so2 w a3 n3 (by omega) (by omega)
  obtain ⟨o', e5⟩ := h5_ok sc k cl sh od th h o g4 l4 (Dw a4 b n4) (.int K) st2 to so2 (.int p) (.int w) t
  have e6 := h6_ok sc k cl sh od th h o' g4 l4 (Dw a4 b n4) (.int K) (.int t) st2 so2 (.int p) (.int w)
  refine ⟨o', a4, n4, .str r4, st2, .bl (rt fs r4 K), so2, .int p, .int w, ?_, by omega, by omega⟩
  simp only [Ez] at e1 e2 e3 e4 e5 e6 ⊢
  rw [b2_eq, ev_seqS, e1, SR_seq_nx, ev_seqS, e2, SR_seq_nx, ev_seqS, e3, SR_seq_nx, ev_seqS, e4, SR_seq_nx, ev_seqS, e5, SR_seq_nx, e6]
theorem b3_ok {fs : List (List Nat)} {K : Nat} (h : Fs fs K) (o : Bool) (dr mn tn sh od rw st to so at_ wy : D) {x : D} (hx : isFz x = true) (hn : F_need_row [x, .int K] = .err "NoRow" .unset [x, .int K]) :
    b_law_3 (Ez sc k cl dr mn (.lst o (fs.map .str)) tn sh od x rw st to so at_ wy) = .nx (Ez sc k cl dr mn (.lst false (fs.map .str)) tn sh od x rw st to so at_ wy) := by
  have hs : isSet x = true := by cases x <;> first | rfl | cases hx
  have e := is_right_row h o hx hn
  have c : callF F_is_right [] (consF true (varF 5) (consF true (varF 9) nilF)) (Ez sc k cl dr mn (.lst o (fs.map .str)) tn sh od x rw st to so at_ wy) = .err "NoRow" .unset (Ez sc k cl dr mn (.lst false (fs.map .str)) tn sh od x rw st to so at_ wy) := by
    generalize F_is_right = A at e ⊢
    generalize fs.map D.str = L at *
    cases o <;> simp [e, hx, hs]
  have e2 := lam_norow c
  have q := nr_eq
  have l2 : 2 ≤ LIM := by decide
  unfold b_law_3
  generalize lamF 7 3 4 7 sub__law_word d__law_word_init d__law_word_rest (callF F_is_right [] (consF true (varF 5) (consF true (varF 9) nilF))) = f at e2 ⊢
  generalize fs.map D.str = L at *
  simp [e2, q, l2]
abbrev oddL : List D := [.non, .int 5, .lst false [.str [97, 99, 103]], .str [97, 99, 120], .str [], .bl true]
theorem odd_bad {x : D} (h : x ∈ oddL) (K : Nat) (hk : 1 ≤ K) : isFz x = true ∧ fz x = x ∧ F_need_row [x, .int K] = .err "NoRow" .unset [x, .int K] := by
  simp only [oddL, List.mem_cons, List.not_mem_nil, or_false] at h
  rcases h with rfl | rfl | rfl | rfl | rfl | rfl
  · exact ⟨rfl, rfl, need_row_bad K rfl (is_row_not rfl rfl)⟩
  · exact ⟨rfl, rfl, need_row_bad K rfl (is_row_not rfl rfl)⟩
  · exact ⟨rfl, rfl, need_row_bad K rfl (is_row_not rfl rfl)⟩
  · exact ⟨rfl, rfl, need_row_bad K rfl (by rw [is_row_str _ (by decide)]; rfl)⟩
  · exact ⟨rfl, rfl, need_row_short (by decide) rfl K (by simp; omega)⟩
  · exact ⟨rfl, rfl, need_row_bad K rfl (is_row_not rfl rfl)⟩
def m1 : List D → SR := asgS (callF F__law_begun [] (consF true (varF 2) (consF true (varF 1) nilF))) (nameG 3)
def m2 : List D → SR := asgS (callF F__law_pick [] (consF true (varF 3) (consF true (lstF (consF true (tmpd (.int 3)) (consF true (tmpd (.int 3)) (consF true (tmpd (.int 5)) (consF true (tmpd (.int 7)) (consF true (tmpd (.int 9)) nilF)))))) nilF))) (nameG 4)
def m3 : List D → SR := asgS (callF F__law_forms [] (consF true (varF 3) (consF true (varF 4) nilF))) (nameG 5)
def m4 : List D → SR := forS (itF (consF true (tmpd (.int 6)) nilF) rng1K) (nameG 6) b_law_2
def m5 : List D → SR := asgS (callF F__law_row [] (consF true (varF 3) (consF true (tmpd (.int 0)) (consF true (bin true subD (varF 4) (tmpd (.int 1))) nilF)))) (nameG 7)
def m6 : List D → SR := asgS (callF F__law_pick [] (consF true (varF 3) (consF true (lstF (consF true (tmpd .non) (consF true (tmpd (.int 5)) (consF true (lstF (consF true (tmpd (.str [97, 99, 103])) nilF)) (consF true (tmpd (.str [97, 99, 120])) (consF true (tmpd (.str [])) (consF true (tmpd (.bl true)) nilF))))))) nilF))) (nameG 8)
def m7 : List D → SR := forS (seqF (tupF (consF true (varF 7) (consF true (varF 8) nilF)))) (nameG 9) b_law_3
def m8 : List D → SR := ifS (testF (bin true neD (lamF 7 3 4 7 sub__law_word d__law_word_init d__law_word_rest (callF F_is_right [] (consF true (lstF nilF) (consF true (varF 8) nilF)))) (tupF (consF true (tmpd (.str [119, 111, 114, 100])) (consF true (tmpd .non) nilF))))) (retS (prOf re_law) (tmpd (.bl false))) nextS
theorem b4_eq : b_law_4 = seqS m1 (seqS m2 (seqS m3 (seqS m4 (seqS m5 (seqS m6 (seqS m7 m8)))))) := rfl
theorem m1_ok (c i : Int) (dr mn fs tn sh od th rw st to so at_ wy : D) : ∃ a b, m1 (Ez sc (.int i) (.int c) dr mn fs tn sh od th rw st to so at_ wy) = .nx (Ez sc (.int i) (.int c) (Dw a b 0) mn fs tn sh od th rw st to so at_ wy) := by
  obtain ⟨a, b, e⟩ := begun_ok c i
  refine ⟨a, b, ?_⟩
  unfold m1
  generalize F__law_begun = A at e ⊢
  simp [e]
theorem m2_ok (mn fs tn sh od th rw st to so at_ wy : D) (a : Int) : ∃ (K : Nat) (a' n' : Int), m2 (Ez sc k cl (Dw a b 0) mn fs tn sh od th rw st to so at_ wy) = .nx (Ez sc k cl (Dw a' b n') (.int K) fs tn sh od th rw st to so at_ wy) ∧ (K : Int) ∈ ns_SIZES ∧ 0 ≤ n' ∧ n' ≤ 1 := by
  obtain ⟨x, a2, n2, e2, p1, p2, p3⟩ := pick_lst a b 0 [.int 3, .int 3, .int 5, .int 7, .int 9] (by simp) (by simp) (by simp) (by omega) (by omega)
  obtain ⟨K, rfl, hK⟩ : ∃ K : Nat, x = .int K ∧ (K : Int) ∈ ns_SIZES := by
    simp only [List.mem_cons, List.not_mem_nil, or_false] at p1
    rcases p1 with rfl | rfl | rfl | rfl | rfl
    · exact ⟨3, rfl, by decide⟩
    · exact ⟨3, rfl, by decide⟩
    · exact ⟨5, rfl, by decide⟩
    · exact ⟨7, rfl, by decide⟩
    · exact ⟨9, rfl, by decide⟩
  refine ⟨K, a2, n2, ?_, hK, p2, by omega⟩
  have l5 : 5 ≤ LIM := by decide
  unfold m2
  generalize F__law_pick = A at e2 ⊢
  simp [e2, l5]
theorem m3_ok {K : Nat} (hK : (K : Int) ∈ ns_SIZES) (fs tn sh od th rw st to so at_ wy : D) (a n : Int) (hn : 0 ≤ n) (hn2 : n ≤ 1) : ∃ (gs : List (List Nat)) (a' n' : Int), m3 (Ez sc k cl (Dw a b n) (.int K) fs tn sh od th rw st to so at_ wy) = .nx (Ez sc k cl (Dw a' b n') (.int K) (.lst true (gs.map .str)) tn sh od th rw st to so at_ wy) ∧ Fs gs K ∧ 0 ≤ n' ∧ n' ≤ 71 := by
  obtain ⟨gs, a1, n1, e1, h, u, v⟩ := forms_ok a b n K hK hn (by omega)
  refine ⟨gs, a1, n1, ?_, h, by omega, by omega⟩
  unfold m3
  generalize F__law_forms = A at e1 ⊢
  generalize gs.map D.str = L at *
  simp [e1]
theorem m4_ok {fs : List (List Nat)} {K : Nat} (h : Fs fs K) (tn sh od th rw st to so at_ wy : D) (a n : Int) (hn : 0 ≤ n) (hn2 : n ≤ 71) :
    ∃ (o' : Bool) (a' n' : Int) (tn' rw' st' to' so' at' wy' : D), m4 (Ez sc k cl (Dw a b n) (.int K) (.lst true (fs.map .str)) tn sh od th rw st to so at_ wy) = .nx (Ez sc k cl (Dw a' b n') (.int K) (.lst o' (fs.map .str)) tn' sh od th rw' st' to' so' at' wy') ∧ 0 ≤ n' ∧ n' ≤ 275 := by
  obtain ⟨e, l, o', a', n', tn', rw', st', to', so', at', wy', rfl, k1, k2⟩ := loop_nx (g := nameG 6) (body := b_law_2)
    (fun i env => ∃ (o' : Bool) (a' n' : Int) (tn' rw' st' to' so' at' wy' : D), env = Ez sc k cl (Dw a' b n') (.int K) (.lst o' (fs.map .str)) tn' sh od th rw' st' to' so' at' wy' ∧ 0 ≤ n' ∧ n' ≤ 71 + 34 * i)
    (intsD 0 6) 0 (Ez sc k cl (Dw a b n) (.int K) (.lst true (fs.map .str)) tn sh od th rw st to so at_ wy) ⟨true, a, n, tn, rw, st, to, so, at_, wy, rfl, hn, by omega⟩ (by
      rintro i d env hd ⟨o', a', n', tn', rw', st', to', so', at', wy', rfl, k1, k2⟩
      have hi : i < 6 := by
        have := (List.getElem?_eq_some_iff.mp hd).1
        simpa [intsD_len] using this
      rw [intsD_get hi] at hd
      cases hd
      obtain ⟨o2, a2, n2, rw2, st2, to2, so2, at2, wy2, e2, u, v⟩ := b2_ok sc k cl b h o' sh od th rw' st' to' so' at' wy' (0 + (i : Int)) a' n' k1 (by omega)
      refine ⟨Ez sc k cl (Dw a' b n') (.int K) (.lst o' (fs.map .str)) (.int (0 + (i : Int))) sh od th rw' st' to' so' at' wy', _, by simp, .inl e2, o2, a2, n2, .int (0 + (i : Int)), rw2, st2, to2, so2, at2, wy2, rfl, by omega, by omega⟩)
  rw [intsD_len] at k2
  have hi : itF (consF true (tmpd (.int 6)) nilF) rng1K (Ez sc k cl (Dw a b n) (.int K) (.lst true (fs.map .str)) tn sh od th rw st to so at_ wy) = .ok (intsD 0 6) (Ez sc k cl (Dw a b n) (.int K) (.lst true (fs.map .str)) tn sh od th rw st to so at_ wy) := it_of (n := 6) rfl (rng1_nat 6 (by decide))
  exact ⟨o', a', n', tn', rw', st', to', so', at', wy', for_of hi l, k1, by omega⟩
theorem m5_ok {K : Nat} (hk : 1 ≤ K ∧ K ≤ 9) (L tn sh od th rw st to so at_ wy : D) (a n : Int) (hn : 0 ≤ n) (hn2 : n ≤ 275) : ∃ (s : List Nat) (a' n' : Int), m5 (Ez sc k cl (Dw a b n) (.int K) L tn sh od th rw st to so at_ wy) = .nx (Ez sc k cl (Dw a' b n') (.int K) L tn (.str s) od th rw st to so at_ wy) ∧ Rw s ∧ s.length < K ∧ 0 ≤ n' ∧ n' ≤ 300 := by
  obtain ⟨s, a1, n1, e1, s1, s2, s3, s4, s5⟩ := row_ok a b n 0 ((K : Int) - 1) (by omega) (by omega) (by omega) hn (by omega)
  refine ⟨s, a1, n1, ?_, ⟨by omega, s3⟩, by omega, by omega, by omega⟩
  unfold m5
  generalize F__law_row = A at e1 ⊢
  simp [e1]
theorem m6_ok (mn L tn sh od th rw st to so at_ wy : D) (a n : Int) (hn : 0 ≤ n) (hn2 : n ≤ 300) : ∃ (x : D) (a' n' : Int), m6 (Ez sc k cl (Dw a b n) mn L tn sh od th rw st to so at_ wy) = .nx (Ez sc k cl (Dw a' b n') mn L tn sh x th rw st to so at_ wy) ∧ x ∈ oddL := by
  obtain ⟨x, a1, n1, e, q1, q2, q3⟩ := pick_lst a b n oddL (by simp) (by simp) (by simp) hn (by omega)
  obtain ⟨h1, _, _⟩ := odd_bad q1 1 (by omega)
  have h2 : isSet x = true := by cases x <;> first | rfl | cases h1
  have l6 : 6 ≤ LIM := by decide
  have l1 : 1 ≤ LIM := by decide
  refine ⟨x, a1, n1, ?_, q1⟩
  simp only [oddL] at e
  unfold m6
  generalize F__law_pick = A at e ⊢
  simp [l6, l1, e, h1, h2]
theorem m7_ok {fs : List (List Nat)} {K : Nat} (h : Fs fs K) (o : Bool) {s : List Nat} (hs : Rw s) (hl : s.length < K) {x : D} (hx : x ∈ oddL) (dr mn tn th rw st to so at_ wy : D) :
    ∃ th', m7 (Ez sc k cl dr mn (.lst o (fs.map .str)) tn (.str s) x th rw st to so at_ wy) = .nx (Ez sc k cl dr mn (.lst false (fs.map .str)) tn (.str s) x th' rw st to so at_ wy) := by
  obtain ⟨x1, x2, x3⟩ := odd_bad hx K h.k.1
  have x4 : isSet x = true := by cases x <;> first | rfl | cases x1
  have c1 := b3_ok sc k cl h o dr mn tn (.str s) x rw st to so at_ wy (x := .str s) rfl (need_row_short hs.lim hs.all K (by omega))
  have c2 := b3_ok sc k cl h false dr mn tn (.str s) x rw st to so at_ wy x1 x3
  have l2 : 2 ≤ LIM := by decide
  refine ⟨x, for_of (env1 := Ez sc k cl dr mn (.lst o (fs.map .str)) tn (.str s) x th rw st to so at_ wy) (its := [.str s, x]) ?_ ?_⟩
  · generalize D.lst o (fs.map D.str) = L
    simp [l2, x1, x4, x2]
  · have g1 : ∀ (o : Bool) (u v : D), nameG 9 u (Ez sc k cl dr mn (.lst o (fs.map .str)) tn (.str s) x v rw st to so at_ wy) = some (Ez sc k cl dr mn (.lst o (fs.map .str)) tn (.str s) x u rw st to so at_ wy) := fun o u v => by simp
    simp only [Ez] at *
    generalize b_law_3 = B at c1 c2 ⊢
    generalize nameG 9 = g at g1 ⊢
    simp only [loopS, g1, c1, c2]
theorem m8_ok {x : D} (hx : x ∈ oddL) (dr mn L tn sh th rw st to so at_ wy : D) : m8 (Ez sc k cl dr mn L tn sh x th rw st to so at_ wy) = .nx (Ez sc k cl dr mn L tn sh x th rw st to so at_ wy) := by
  obtain ⟨x1, _, _⟩ := odd_bad hx 1 (by omega)
  have x4 : isSet x = true := by cases x <;> first | rfl | cases x1
  obtain ⟨y, e⟩ := nil_right x1
  have l0 : 0 ≤ LIM := by decide
  have c : callF F_is_right [] (consF true (lstF nilF) (consF true (varF 8) nilF)) (Ez sc k cl dr mn L tn sh x th rw st to so at_ wy) = .err "NoWord" .non (Ez sc k cl dr mn L tn sh x th rw st to so at_ wy) := by
    generalize F_is_right = A at e ⊢
    simp [e, x1, x4, l0]
  have e2 := lam_noword c
  have q := nw_eq
  have l2 : 2 ≤ LIM := by decide
  unfold m8
  generalize lamF 7 3 4 7 sub__law_word d__law_word_init d__law_word_rest (callF F_is_right [] (consF true (lstF nilF) (consF true (varF 8) nilF))) = f at e2 ⊢
  simp [e2, q, l2]
end
theorem b4_ok (ns : List Int) (i c : Int) (y3 y4 y5 y6 y7 y8 y9 y10 y11 y12 y13 y14 y15 : D) : ∃ w3 w4 w5 w6 w7 w8 w9 w10 w11 w12 w13 w14 w15, b_law_4 [.scr ns, .int i, .int c, y3, y4, y5, y6, y7, y8, y9, y10, y11, y12, y13, y14, y15, .unset] = .nx [.scr ns, .int i, .int c, w3, w4, w5, w6, w7, w8, w9, w10, w11, w12, w13, w14, w15, .unset] := by
  obtain ⟨a, b, e1⟩ := m1_ok (.scr ns) c i y3 y4 y5 y6 y7 y8 y9 y10 y11 y12 y13 y14 y15
  obtain ⟨K, a2, n2, e2, hK, p1, p2⟩ := m2_ok (.scr ns) (.int i) (.int c) b y4 y5 y6 y7 y8 y9 y10 y11 y12 y13 y14 y15 a
  obtain ⟨fs, a3, n3, e3, h, q1, q2⟩ := m3_ok (.scr ns) (.int i) (.int c) b hK y5 y6 y7 y8 y9 y10 y11 y12 y13 y14 y15 a2 n2 p1 p2
  obtain ⟨o, a4, n4, t6, t10, t11, t12, t13, t14, t15, e4, r1, r2⟩ := m4_ok (.scr ns) (.int i) (.int c) b h y6 y7 y8 y9 y10 y11 y12 y13 y14 y15 a3 n3 q1 q2
  obtain ⟨s, a5, n5, e5, hs, hl, u1, u2⟩ := m5_ok (.scr ns) (.int i) (.int c) b h.k (.lst o (fs.map .str)) t6 y7 y8 y9 t10 t11 t12 t13 t14 t15 a4 n4 r1 r2
  obtain ⟨x, a6, n6, e6, hx⟩ := m6_ok (.scr ns) (.int i) (.int c) b (.int K) (.lst o (fs.map .str)) t6 (.str s) y8 y9 t10 t11 t12 t13 t14 t15 a5 n5 u1 u2
  obtain ⟨t9, e7⟩ := m7_ok (.scr ns) (.int i) (.int c) h o hs hl hx (Dw a6 b n6) (.int K) t6 y9 t10 t11 t12 t13 t14 t15
  have e8 := m8_ok (.scr ns) (.int i) (.int c) hx (Dw a6 b n6) (.int K) (.lst false (fs.map .str)) t6 (.str s) t9 t10 t11 t12 t13 t14 t15
  refine ⟨Dw a6 b n6, .int K, .lst false (fs.map .str), t6, .str s, x, t9, t10, t11, t12, t13, t14, t15, ?_⟩
  simp only [Ez] at e1 e2 e3 e4 e5 e6 e7 e8
  rw [b4_eq, ev_seqS, e1, SR_seq_nx, ev_seqS, e2, SR_seq_nx, ev_seqS, e3, SR_seq_nx, ev_seqS, e4, SR_seq_nx, ev_seqS, e5, SR_seq_nx, ev_seqS, e6, SR_seq_nx, ev_seqS, e7, SR_seq_nx, e8]
def iQ : List D → R (List D) := itZ (consF true (slHF true (lorF false (varF 0) (lstF (consF true (tmpd (.int 5)) nilF))) (tmpd (.int 10))) nilF) enumBK
theorem dl_eq : d_law = seqS (forS iQ (tupG (consG (nameG 1) (consG (nameG 2) nilG))) b_law_4) (retS (prOf re_law) (tmpd (.bl true))) := rfl
theorem law_true (ns : List Int) (hl : ns.length ≤ 63) : ∃ ds, F_law [.scr ns] = .ok (.bl true) ds := by
  have main : ∀ (cells : List Int), ∃ y1 y2 y3 y4 y5 y6 y7 y8 y9 y10 y11 y12 y13 y14 y15, loopS (tupG (consG (nameG 1) (consG (nameG 2) nilG))) b_law_4 (enumL 0 (cells.map D.int)) [.scr ns, .unset, .unset, .unset, .unset, .unset, .unset, .unset, .unset, .unset, .unset, .unset, .unset, .unset, .unset, .unset, .unset] =
      .nx [.scr ns, y1, y2, y3, y4, y5, y6, y7, y8, y9, y10, y11, y12, y13, y14, y15, .unset] := by
    intro cells
    obtain ⟨e, l, y1, y2, y3, y4, y5, y6, y7, y8, y9, y10, y11, y12, y13, y14, y15, rfl⟩ := loop_nx (g := tupG (consG (nameG 1) (consG (nameG 2) nilG))) (body := b_law_4)
      (fun i env => ∃ y1 y2 y3 y4 y5 y6 y7 y8 y9 y10 y11 y12 y13 y14 y15, env = [.scr ns, y1, y2, y3, y4, y5, y6, y7, y8, y9, y10, y11, y12, y13, y14, y15, .unset])
      (enumL 0 (cells.map D.int)) 0 [.scr ns, .unset, .unset, .unset, .unset, .unset, .unset, .unset, .unset, .unset, .unset, .unset, .unset, .unset, .unset, .unset, .unset] ⟨_, _, _, _, _, _, _, _, _, _, _, _, _, _, _, rfl⟩ (by
        rintro i d env hd ⟨y1, y2, y3, y4, y5, y6, y7, y8, y9, y10, y11, y12, y13, y14, y15, rfl⟩
        rw [enumL_get, List.getElem?_map] at hd
        cases hc : cells[i]? with
        | none => rw [hc] at hd; cases hd
        | some c =>
          rw [hc] at hd
          cases hd
          obtain ⟨w3, w4, w5, w6, w7, w8, w9, w10, w11, w12, w13, w14, w15, hb⟩ := b4_ok ns ((0 + i : Nat) : Int) c y3 y4 y5 y6 y7 y8 y9 y10 y11 y12 y13 y14 y15
          refine ⟨[.scr ns, .int ((0 + i : Nat) : Int), .int c, y3, y4, y5, y6, y7, y8, y9, y10, y11, y12, y13, y14, y15, .unset], _, by simp, .inl hb, _, _, _, _, _, _, _, _, _, _, _, _, _, _, _, rfl⟩)
    exact ⟨y1, y2, y3, y4, y5, y6, y7, y8, y9, y10, y11, y12, y13, y14, y15, l⟩
  have l1' : 1 ≤ LIM := by decide
  have mc : ∀ xs : List Int, cutL (xs.map D.int) none (some 10) = (cutL xs none (some 10)).map D.int := fun xs => by simp [cutL, List.map_take, List.map_drop]
  have hsl1 : slHd [.lst true [.int 5], .int 10] = some (.lst true ((cutL [5] none (some 10)).map D.int)) := by
    have := mc [5]
    simp only [List.map_cons, List.map_nil] at this
    simp [slHd, slD, this]
  have hsl2 : slHd [.scr ns, .int 10] = some (.lst true ((cutL ns none (some 10)).map D.int)) := by
    simp [slHd, slD, mc]
  have fin : ∀ (C : List Int), iQ [.scr ns, .unset, .unset, .unset, .unset, .unset, .unset, .unset, .unset, .unset, .unset, .unset, .unset, .unset, .unset, .unset, .unset] = .ok (enumL 0 (C.map D.int)) [.scr ns, .unset, .unset, .unset, .unset, .unset, .unset, .unset, .unset, .unset, .unset, .unset, .unset, .unset, .unset, .unset, .unset] → ∃ ds, F_law [.scr ns] = .ok (.bl true) ds := by
    intro C hi
    obtain ⟨y1, y2, y3, y4, y5, y6, y7, y8, y9, y10, y11, y12, y13, y14, y15, l⟩ := main C
    have r : retS (prOf re_law) (tmpd (.bl true)) [.scr ns, y1, y2, y3, y4, y5, y6, y7, y8, y9, y10, y11, y12, y13, y14, y15, .unset] = .ret (.bl true) [.scr ns, y1, y2, y3, y4, y5, y6, y7, y8, y9, y10, y11, y12, y13, y14, y15, .unset] := by simp [ev_retS]
    have ed : d_law ([.scr ns] ++ List.replicate 16 .unset) = .ret (.bl true) [.scr ns, y1, y2, y3, y4, y5, y6, y7, y8, y9, y10, y11, y12, y13, y14, y15, .unset] := by
      show d_law [.scr ns, .unset, .unset, .unset, .unset, .unset, .unset, .unset, .unset, .unset, .unset, .unset, .unset, .unset, .unset, .unset, .unset] = _
      rw [dl_eq, ev_seqS, for_of hi l, SR_seq_nx, r]
    exact ⟨_, body_ret (m := 16) rfl rfl ed⟩
  by_cases hn : ns = []
  · subst hn
    refine fin (cutL [5] none (some 10)) ?_
    generalize cutL ([5] : List Int) none (some 10) = C at hsl1 ⊢
    simp [iQ, l1', hsl1, enumBK]
  · have hne : ns.isEmpty = false := by cases ns <;> simp at hn ⊢
    refine fin (cutL ns none (some 10)) ?_
    generalize cutL ns none (some 10) = C at hsl2 ⊢
    simp [iQ, l1', hsl2, hne, enumBK]
end
end G
set_option maxHeartbeats 0
namespace G
open PySem PySem.Spec PyProof.Rows L2 VS
def hd__law_begun : He.DefD := ⟨("_law_begun", none), "_law_begun", "_law_begun", defArgs s__law_begun, defBody s__law_begun, defScope s__law_begun, dv__law_begun, []⟩
def hd__law_next : He.DefD := ⟨("_law_next", none), "_law_next", "_law_next", defArgs s__law_next, defBody s__law_next, defScope s__law_next, dv__law_next, []⟩
def hd__law_pick : He.DefD := ⟨("_law_pick", none), "_law_pick", "_law_pick", defArgs s__law_pick, defBody s__law_pick, defScope s__law_pick, dv__law_pick, []⟩
def hd__law_row : He.DefD := ⟨("_law_row", none), "_law_row", "_law_row", defArgs s__law_row, defBody s__law_row, defScope s__law_row, dv__law_row, []⟩
def hd__law_contrary : He.DefD := ⟨("_law_contrary", none), "_law_contrary", "_law_contrary", defArgs s__law_contrary, defBody s__law_contrary, defScope s__law_contrary, dv__law_contrary, []⟩
def hd__law_forms : He.DefD := ⟨("_law_forms", none), "_law_forms", "_law_forms", defArgs s__law_forms, defBody s__law_forms, defScope s__law_forms, dv__law_forms, []⟩
def hd_is_list : He.DefD := ⟨("is_list", none), "is_list", "is_list", defArgs s_is_list, defBody s_is_list, defScope s_is_list, dv_is_list, []⟩
def hd_is_number : He.DefD := ⟨("is_number", none), "is_number", "is_number", defArgs s_is_number, defBody s_is_number, defScope s_is_number, dv_is_number, []⟩
def hd_is_size : He.DefD := ⟨("is_size", none), "is_size", "is_size", defArgs s_is_size, defBody s_is_size, defScope s_is_size, dv_is_size, []⟩
def hd_is_row : He.DefD := ⟨("is_row", none), "is_row", "is_row", defArgs s_is_row, defBody s_is_row, defScope s_is_row, dv_is_row, []⟩
def hd_need_row : He.DefD := ⟨("need_row", none), "need_row", "need_row", defArgs s_need_row, defBody s_need_row, defScope s_need_row, dv_need_row, []⟩
def hd_contrary : He.DefD := ⟨("contrary", none), "contrary", "contrary", defArgs s_contrary, defBody s_contrary, defScope s_contrary, dv_contrary, []⟩
def hd_form_of : He.DefD := ⟨("form_of", none), "form_of", "form_of", defArgs s_form_of, defBody s_form_of, defScope s_form_of, dv_form_of, []⟩
def hd_is_form : He.DefD := ⟨("is_form", none), "is_form", "is_form", defArgs s_is_form, defBody s_is_form, defScope s_is_form, dv_is_form, []⟩
def hd_need_forms : He.DefD := ⟨("need_forms", none), "need_forms", "need_forms", defArgs s_need_forms, defBody s_need_forms, defScope s_need_forms, dv_need_forms, []⟩
def hd_words_in : He.DefD := ⟨("words_in", none), "words_in", "words_in", defArgs s_words_in, defBody s_words_in, defScope s_words_in, dv_words_in, []⟩
def hd_is_right : He.DefD := ⟨("is_right", none), "is_right", "is_right", defArgs s_is_right, defBody s_is_right, defScope s_is_right, dv_is_right, []⟩
def hd__law_word : He.DefD := ⟨("_law_word", none), "_law_word", "_law_word", defArgs s__law_word, defBody s__law_word, defScope s__law_word, dv__law_word, []⟩
def hd__law_is_right : He.DefD := ⟨("_law_is_right", none), "_law_is_right", "_law_is_right", defArgs s__law_is_right, defBody s__law_is_right, defScope s__law_is_right, dv__law_is_right, []⟩
def hd_law : He.DefD := ⟨("law", none), "law", "law", defArgs s_law, defBody s_law, defScope s_law, dv_law, []⟩
def hdi_NoWord : He.DefD := ⟨("NoWord", some "__init__"), "__init__", "NoWord.__init__", defArgs i_NoWord, defBody i_NoWord, defScope i_NoWord, [], []⟩
def hfn : List He.DefD := [hd__law_begun, hd__law_next, hd__law_pick, hd__law_row, hd__law_contrary, hd__law_forms, hd_is_list, hd_is_number, hd_is_size, hd_is_row, hd_need_row, hd_contrary, hd_form_of, hd_is_form, hd_need_forms, hd_words_in, hd_is_right, hd__law_word, hd__law_is_right, hd_law, hdi_NoWord]
def hfa : List He.Fa := [.glo "_law_begun", .glo "_law_next", .glo "_law_pick", .glo "_law_row", .glo "_law_contrary", .glo "_law_forms", .glo "is_list", .glo "is_number", .glo "is_size", .glo "is_row", .glo "need_row", .glo "contrary", .glo "form_of", .glo "is_form", .glo "need_forms", .glo "words_in", .glo "is_right", .glo "_law_word", .glo "_law_is_right", .glo "law", .glo "PARTNERS", .glo "SIZES", .glo "NoColumn", .glo "NoDeed", .glo "NoLayout", .glo "NoLink", .glo "NoName", .glo "NoPatch", .glo "NoPiece", .glo "NoRing", .glo "NoRow", .glo "NoSight", .glo "NoSize", .glo "NoText", .glo "NoWord", .glo "ShardError", .glo "Twice", .free "ValueError", .free "all", .free "bool", .free "enumerate", .free "int", .free "isinstance", .free "len", .free "list", .free "max", .free "min", .free "range", .free "str", .free "tuple", .exc "NoRow", .exm "NoRow" "ShardError" true, .exm "NoWord" "ShardError" true]
def hts : List He.Tab := [((fun K => He.ga K "PARTNERS"), ["a", "c", "g", "t"])]
def hex (K : PySem.W.Frag) : Bool := decide (tabW K (He.ga K "PARTNERS") = some (tb_PARTNERS.map some)) && (decide (intsW K (He.ga K "SIZES") = some (ns_SIZES.map some)) && ((isx_0.all fun p => VH.excB K (He.ga K p.1) && decide (PySem.W.kitOne K (.ref (He.ga K p.1)) (.ref (He.ga K "NoSize")) = some p.2)) && ((isx_1.all fun p => VH.excB K (He.ga K p.1) && decide (PySem.W.kitOne K (.ref (He.ga K p.1)) (.ref (He.ga K "NoRow")) = some p.2)) && ((isx_2.all fun p => VH.excB K (He.ga K p.1) && decide (PySem.W.kitOne K (.ref (He.ga K p.1)) (.ref (He.ga K "NoText")) = some p.2)) && ((isx_3.all fun p => VH.excB K (He.ga K p.1) && decide (PySem.W.kitOne K (.ref (He.ga K p.1)) (.ref (He.ga K "NoPiece")) = some p.2)) && ((isx_4.all fun p => VH.excB K (He.ga K p.1) && decide (PySem.W.kitOne K (.ref (He.ga K p.1)) (.ref (He.ga K "NoRing")) = some p.2)) && ((isx_5.all fun p => VH.excB K (He.ga K p.1) && decide (PySem.W.kitOne K (.ref (He.ga K p.1)) (.ref (He.ga K "NoWord")) = some p.2)) && ((isx_6.all fun p => VH.excB K (He.ga K p.1) && decide (PySem.W.kitOne K (.ref (He.ga K p.1)) (.ref (He.ga K "NoDeed")) = some p.2)) && ((isx_7.all fun p => VH.excB K (He.ga K p.1) && decide (PySem.W.kitAny K (.ref (He.ga K p.1)) [.ref (He.ga K "NoName"), .ref (He.ga K "Twice")] = some p.2)) && ((isx_8.all fun p => VH.excB K (He.ga K p.1) && decide (PySem.W.kitAny K (.ref (He.ga K p.1)) [.ref (He.ga K "NoColumn"), .ref (He.ga K "NoLink"), .ref (He.ga K "NoLayout"), .ref (He.ga K "NoPatch"), .ref (He.ga K "NoSight")] = some p.2)) && ((isx_9.all fun p => VH.excB K (He.ga K p.1) && decide (PySem.W.kitOne K (.ref (He.ga K p.1)) (.type "ValueError") = some p.2)) && (VH.oexB K (He.ga K "NoWord") "word" && (true)))))))))))))
abbrev R : PySem.W.OpenRow := PySem.W.OpenLaw.row PySem.Challenge.rw_shardread_k11_right_rows
def htf : List He.Defn := [("law", none)]
abbrev hk : PySem.W.Hook := He.hookX 6 hfa hfn hts htf hex
def ob (s : PySem.W.SharedT) : He.AlX := He.obsX 6 hfa hfn hts htf hex (HandSHeadRun.getT s)
theorem ob_eq (s : PySem.W.SharedT) : ob s = hk.obs s.abs := He.obsX_eq (HandSHeadRun.getT_eq s)
def loose : List Str := (["__name__", "ShardError", "NoRow", "NoSize", "NoPiece", "NoText", "NoWord", "NoRing", "NoColumn", "NoLink", "NoLayout", "NoPatch", "NoSight", "NoName", "Twice", "NoDeed", "PARTNERS", "SIZES", "is_number", "is_list", "is_row", "need_row", "is_size", "contrary", "form_of", "words_in", "is_form", "need_forms", "is_right", "_law_begun"] : List Str) ++ (["_law_next", "_law_pick", "_law_row", "_law_contrary", "_law_word", "_law_forms", "_law_is_right"] : List Str)
theorem run : ∀ w : World, HandSHeadRun.RunEq R (PySem.W.view R.prog [40]) hk ob 6000 loose w := by
  refine PySem.W.byRow2 "special-get-raises" ?_ ?_
  · intro w os; kernel_rfl
  · intro w os; kernel_rfl
theorem tx_of {w : World} {K : PySem.W.Frag} {h : Heap} {mg : Str → Option Value} (X : K.In h) (G : h.Ns mainGlobals mg) (c : He.SaysX hfa hfn hts htf hex w h K) : Tx K w mg := by
  have ce : hex K = true := c.more
  unfold hex at ce
  obtain ⟨c0, ce⟩ := Bool.and_eq_true_iff.mp ce
  obtain ⟨c1, ce⟩ := Bool.and_eq_true_iff.mp ce
  obtain ⟨c2, ce⟩ := Bool.and_eq_true_iff.mp ce
  obtain ⟨c3, ce⟩ := Bool.and_eq_true_iff.mp ce
  obtain ⟨c4, ce⟩ := Bool.and_eq_true_iff.mp ce
  obtain ⟨c5, ce⟩ := Bool.and_eq_true_iff.mp ce
  obtain ⟨c6, ce⟩ := Bool.and_eq_true_iff.mp ce
  obtain ⟨c7, ce⟩ := Bool.and_eq_true_iff.mp ce
  obtain ⟨c8, ce⟩ := Bool.and_eq_true_iff.mp ce
  obtain ⟨c9, ce⟩ := Bool.and_eq_true_iff.mp ce
  obtain ⟨c10, ce⟩ := Bool.and_eq_true_iff.mp ce
  obtain ⟨c11, ce⟩ := Bool.and_eq_true_iff.mp ce
  obtain ⟨c12, ce⟩ := Bool.and_eq_true_iff.mp ce
  exact {
    n_ValueError := He.free_ok X G (c.t.d.fact 37 (f := .free "ValueError") rfl)
    n_all := He.free_ok X G (c.t.d.fact 38 (f := .free "all") rfl)
    n_bool := He.free_ok X G (c.t.d.fact 39 (f := .free "bool") rfl)
    n_enumerate := He.free_ok X G (c.t.d.fact 40 (f := .free "enumerate") rfl)
    n_int := He.free_ok X G (c.t.d.fact 41 (f := .free "int") rfl)
    n_isinstance := He.free_ok X G (c.t.d.fact 42 (f := .free "isinstance") rfl)
    n_len := He.free_ok X G (c.t.d.fact 43 (f := .free "len") rfl)
    n_list := He.free_ok X G (c.t.d.fact 44 (f := .free "list") rfl)
    n_max := He.free_ok X G (c.t.d.fact 45 (f := .free "max") rfl)
    n_min := He.free_ok X G (c.t.d.fact 46 (f := .free "min") rfl)
    n_range := He.free_ok X G (c.t.d.fact 47 (f := .free "range") rfl)
    n_str := He.free_ok X G (c.t.d.fact 48 (f := .free "str") rfl)
    n_tuple := He.free_ok X G (c.t.d.fact 49 (f := .free "tuple") rfl)
    g__law_begun := He.glo_ok X G (c.t.d.fact 0 (f := .glo "_law_begun") rfl)
    g__law_next := He.glo_ok X G (c.t.d.fact 1 (f := .glo "_law_next") rfl)
    g__law_pick := He.glo_ok X G (c.t.d.fact 2 (f := .glo "_law_pick") rfl)
    g__law_row := He.glo_ok X G (c.t.d.fact 3 (f := .glo "_law_row") rfl)
    g__law_contrary := He.glo_ok X G (c.t.d.fact 4 (f := .glo "_law_contrary") rfl)
    g__law_forms := He.glo_ok X G (c.t.d.fact 5 (f := .glo "_law_forms") rfl)
    g_is_list := He.glo_ok X G (c.t.d.fact 6 (f := .glo "is_list") rfl)
    g_is_number := He.glo_ok X G (c.t.d.fact 7 (f := .glo "is_number") rfl)
    g_is_size := He.glo_ok X G (c.t.d.fact 8 (f := .glo "is_size") rfl)
    g_is_row := He.glo_ok X G (c.t.d.fact 9 (f := .glo "is_row") rfl)
    g_need_row := He.glo_ok X G (c.t.d.fact 10 (f := .glo "need_row") rfl)
    g_contrary := He.glo_ok X G (c.t.d.fact 11 (f := .glo "contrary") rfl)
    g_form_of := He.glo_ok X G (c.t.d.fact 12 (f := .glo "form_of") rfl)
    g_is_form := He.glo_ok X G (c.t.d.fact 13 (f := .glo "is_form") rfl)
    g_need_forms := He.glo_ok X G (c.t.d.fact 14 (f := .glo "need_forms") rfl)
    g_words_in := He.glo_ok X G (c.t.d.fact 15 (f := .glo "words_in") rfl)
    g_is_right := He.glo_ok X G (c.t.d.fact 16 (f := .glo "is_right") rfl)
    g__law_word := He.glo_ok X G (c.t.d.fact 17 (f := .glo "_law_word") rfl)
    g__law_is_right := He.glo_ok X G (c.t.d.fact 18 (f := .glo "_law_is_right") rfl)
    g_law := He.glo_ok X G (c.t.d.fact 19 (f := .glo "law") rfl)
    g_PARTNERS := He.glo_ok X G (c.t.d.fact 20 (f := .glo "PARTNERS") rfl)
    g_SIZES := He.glo_ok X G (c.t.d.fact 21 (f := .glo "SIZES") rfl)
    g_NoColumn := He.glo_ok X G (c.t.d.fact 22 (f := .glo "NoColumn") rfl)
    g_NoDeed := He.glo_ok X G (c.t.d.fact 23 (f := .glo "NoDeed") rfl)
    g_NoLayout := He.glo_ok X G (c.t.d.fact 24 (f := .glo "NoLayout") rfl)
    g_NoLink := He.glo_ok X G (c.t.d.fact 25 (f := .glo "NoLink") rfl)
    g_NoName := He.glo_ok X G (c.t.d.fact 26 (f := .glo "NoName") rfl)
    g_NoPatch := He.glo_ok X G (c.t.d.fact 27 (f := .glo "NoPatch") rfl)
    g_NoPiece := He.glo_ok X G (c.t.d.fact 28 (f := .glo "NoPiece") rfl)
    g_NoRing := He.glo_ok X G (c.t.d.fact 29 (f := .glo "NoRing") rfl)
    g_NoRow := He.glo_ok X G (c.t.d.fact 30 (f := .glo "NoRow") rfl)
    g_NoSight := He.glo_ok X G (c.t.d.fact 31 (f := .glo "NoSight") rfl)
    g_NoSize := He.glo_ok X G (c.t.d.fact 32 (f := .glo "NoSize") rfl)
    g_NoText := He.glo_ok X G (c.t.d.fact 33 (f := .glo "NoText") rfl)
    g_NoWord := He.glo_ok X G (c.t.d.fact 34 (f := .glo "NoWord") rfl)
    g_ShardError := He.glo_ok X G (c.t.d.fact 35 (f := .glo "ShardError") rfl)
    g_Twice := He.glo_ok X G (c.t.d.fact 36 (f := .glo "Twice") rfl)
    xe_NoRow := He.exc_ok (c.t.d.fact 50 (f := .exc "NoRow") rfl)
    xm_NoRow := He.exm_ok (c.t.d.fact 51 (f := .exm "NoRow" "ShardError" true) rfl)
    x_0 := fun p hp => by
      have h := List.all_eq_true.mp c2 p hp
      obtain ⟨h1, h2⟩ := Bool.and_eq_true_iff.mp h
      exact ⟨VH.excB_ok h1, of_decide_eq_true h2⟩
    x_1 := fun p hp => by
      have h := List.all_eq_true.mp c3 p hp
      obtain ⟨h1, h2⟩ := Bool.and_eq_true_iff.mp h
      exact ⟨VH.excB_ok h1, of_decide_eq_true h2⟩
    x_2 := fun p hp => by
      have h := List.all_eq_true.mp c4 p hp
      obtain ⟨h1, h2⟩ := Bool.and_eq_true_iff.mp h
      exact ⟨VH.excB_ok h1, of_decide_eq_true h2⟩
    x_3 := fun p hp => by
      have h := List.all_eq_true.mp c5 p hp
      obtain ⟨h1, h2⟩ := Bool.and_eq_true_iff.mp h
      exact ⟨VH.excB_ok h1, of_decide_eq_true h2⟩
    x_4 := fun p hp => by
      have h := List.all_eq_true.mp c6 p hp
      obtain ⟨h1, h2⟩ := Bool.and_eq_true_iff.mp h
      exact ⟨VH.excB_ok h1, of_decide_eq_true h2⟩
    x_5 := fun p hp => by
      have h := List.all_eq_true.mp c7 p hp
      obtain ⟨h1, h2⟩ := Bool.and_eq_true_iff.mp h
      exact ⟨VH.excB_ok h1, of_decide_eq_true h2⟩
    x_6 := fun p hp => by
      have h := List.all_eq_true.mp c8 p hp
      obtain ⟨h1, h2⟩ := Bool.and_eq_true_iff.mp h
      exact ⟨VH.excB_ok h1, of_decide_eq_true h2⟩
    x_7 := fun p hp => by
      have h := List.all_eq_true.mp c9 p hp
      obtain ⟨h1, h2⟩ := Bool.and_eq_true_iff.mp h
      exact ⟨VH.excB_ok h1, of_decide_eq_true h2⟩
    x_8 := fun p hp => by
      have h := List.all_eq_true.mp c10 p hp
      obtain ⟨h1, h2⟩ := Bool.and_eq_true_iff.mp h
      exact ⟨VH.excB_ok h1, of_decide_eq_true h2⟩
    x_9 := fun p hp => by
      have h := List.all_eq_true.mp c11 p hp
      obtain ⟨h1, h2⟩ := Bool.and_eq_true_iff.mp h
      exact ⟨VH.excB_ok h1, of_decide_eq_true h2⟩
    d__law_begun := c.t.d.def_ 0 (d := hd__law_begun) rfl
    d__law_next := c.t.d.def_ 1 (d := hd__law_next) rfl
    d__law_pick := c.t.d.def_ 2 (d := hd__law_pick) rfl
    d__law_row := c.t.d.def_ 3 (d := hd__law_row) rfl
    d__law_contrary := c.t.d.def_ 4 (d := hd__law_contrary) rfl
    d__law_forms := c.t.d.def_ 5 (d := hd__law_forms) rfl
    d_is_list := c.t.d.def_ 6 (d := hd_is_list) rfl
    d_is_number := c.t.d.def_ 7 (d := hd_is_number) rfl
    d_is_size := c.t.d.def_ 8 (d := hd_is_size) rfl
    d_is_row := c.t.d.def_ 9 (d := hd_is_row) rfl
    d_need_row := c.t.d.def_ 10 (d := hd_need_row) rfl
    d_contrary := c.t.d.def_ 11 (d := hd_contrary) rfl
    d_form_of := c.t.d.def_ 12 (d := hd_form_of) rfl
    d_is_form := c.t.d.def_ 13 (d := hd_is_form) rfl
    d_need_forms := c.t.d.def_ 14 (d := hd_need_forms) rfl
    d_words_in := c.t.d.def_ 15 (d := hd_words_in) rfl
    d_is_right := c.t.d.def_ 16 (d := hd_is_right) rfl
    d__law_word := c.t.d.def_ 17 (d := hd__law_word) rfl
    d__law_is_right := c.t.d.def_ 18 (d := hd__law_is_right) rfl
    d_law := c.t.d.def_ 19 (d := hd_law) rfl
    di_NoWord := c.t.d.def_ 20 (d := hdi_NoWord) rfl
    xm_NoWord := He.exm_ok (c.t.d.fact 52 (f := .exm "NoWord" "ShardError" true) rfl)
    xf_NoWord := VH.oexB_ok c12
    t_PARTNERS := tab_of (of_decide_eq_true c0)
    kd_PARTNERS := c.t.tab 0 rfl
    t_SIZES := ints_of (of_decide_eq_true c1)
  }
end G
open PySem PySem.W PySem.Calls PyProof.Rows
theorem holds (law_true : ∀ ns : List Int, ns.length ≤ 63 → ∃ ds, G.F_law [.scr ns] = .ok (.bl true) ds) : PySem.Challenge.rw_shardread_k11_right_rows.Holds := by
  w_on; o_law
  refine HandSHeadRun.head_any (r := OpenLaw.row PySem.Challenge.rw_shardread_k11_right_rows) (q := view (OpenLaw.row PySem.Challenge.rw_shardread_k11_right_rows).prog [40]) (H := G.hk) (ob := G.ob) (M := 6000) (loose := G.loose) (d := HandSHeadRun.topDef (OpenLaw.row PySem.Challenge.rw_shardread_k11_right_rows).prog 40) (kwd := []) G.ob_eq
    (by kernel_rfl) (fun s => by kernel_rfl) G.run (by kernel_rfl) (by kernel_rfl) (by kernel_rfl) (by rfl) (by first | assumption | decide +kernel) (by decide +kernel) ⟨rfl, rfl, rfl, rfl, rfl, by decide +kernel⟩ ?hw ?hc
  case hw => w_witness2
  case hc =>
    refine LamX.walk_ofTsE (l := PySem.Challenge.rw_shardread_k11_right_rows) (n := 63) (k := 10) (x := "_law_script") (CX := fun _ => L2.CX0) rfl (by decide) (by kernel_rfl) ⟨rfl, by decide, by decide⟩ ?hc2 (fun _ _ _ _ _ z => z)
    case hc2 =>
    intro w mg fa h Y GN hmg0
    obtain ⟨K, KX, c⟩ := Y
    have hmg : mg ("law" : PySem.Str) = some (.ref fa) := by
      have e : (HandSHeadRun.topDef (OpenLaw.row PySem.Challenge.rw_shardread_k11_right_rows).prog 40).name = ("law" : PySem.Str) := by kernel_rfl
      rw [← e]
      exact hmg0
    have T := G.tx_of KX GN c
    have e := hmg.symm.trans T.g_law
    cases e
    obtain ⟨fd, F⟩ := T.d_law
    have b := L2.FunD.bindsA (ps := ["_law_script"]) F fun _ _ _ _ _ _ us hl => match us, hl with | [_], _ => rfl
    have hcode : fd.code = .ref (He.codeOf K ("law", none)) := by
      obtain ⟨oc, od, dV, kV, doc, pm, an, cdv, ct, osl, e1, lk, hcd, _, _⟩ := F.ex
      obtain ⟨c0, e2⟩ := He.codeIn_ref hcd
      have e3 : fd.code = .ref c0 := by rw [e1]; exact e2
      rw [e3, He.codeOf_eq (p := ("law", none)) lk e3]
    refine ⟨K, KX, fd, [He.cT K ("law", none)], VS.spD0 (G.mn K) G.F_law, fun p hp => ?_, fun p hp => ?_, fun p hp => ?_, fun s v => b s [v] rfl, fun H a ns hl _ hT hS => ?_, fun base _ _ hTB => G.ok_law T F hcode (hTB _ List.mem_cons_self)⟩
    · rw [List.mem_singleton.mp hp]; exact c.empty _ List.mem_cons_self
    · rw [List.mem_singleton.mp hp]; exact c.out _ List.mem_cons_self
    · rw [List.mem_singleton.mp hp]; exact PySem.W.codeHd_of_K KX (c.hd _ List.mem_cons_self)
    obtain ⟨ds, e⟩ := law_true ns hl
    refine ⟨VS.noTab H, [.scr ns], VS.em, VS.stt_start rfl (hT _ List.mem_cons_self), VS.ros_cons (by simp only [VS.RO]; exact ⟨⟨a, rfl, VS.sql_noTab hS⟩, by trivial⟩) VS.ros_nil, ?_⟩
    rw [e]
    intro v F' H' S1 S2 _ _ _ r _
    simp only [VS.RO] at r
    exact r.1

theorem PySem.Challenge.cw_shardread_k11_right_rows_holds : PySem.Challenge.rw_shardread_k11_right_rows.Holds := by
  exact holds G.law_true
