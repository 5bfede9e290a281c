import PyProof.Rows.All
import Wide.All
import OpenK.AllK
import Wide.FinOn
import HandS.ForMost
import HandS.ForExc
import HandS.Walk
import HandS.Lambda
import HandS.MakeKwOnly
import HandS.Property
import HandS.TupAny
import HandS.Wide
import HandS.Style
import HandS.Deep
import HandS.Star
import HandS.IsInst
import HandS.Iter
import HandS.Zip
import KE.GoesMore
import KE.GoesEnum
import HandS.More
import HandS.CallSlots
import HandS.OwnEq
import HandS.Small
import HandS.Dict
import KE.SortData
import KE.SortKeyHeap
import HandS.SortKw
import HandS.Exc
import OpenK.KOps
import HandS.TryOnly
import HandS.ExcOwn
import HandS.EndTab
import KE.KNestM
import PySem.Challenge.RW_dropswaps_k34_by_hand
set_option Elab.async false
set_option linter.all false
set_option maxRecDepth 100000
set_option maxHeartbeats 0
/-! Fx1: data trees, environments, the relation between them and the layer's slots and heaps -/
namespace Fx
open PySem PySem.Spec PyProof.Rows L2 LamX

/-- not a table of code objects -/
abbrev NT (o : HO) : Prop := ∀ ps, o ≠ .tbl ps
/-- neither a table nor a thing told by a property -/
def PlO (o : HO) : Prop := NT o ∧ ∀ φ, o ≠ .ext φ
theorem plO_lst {H : Hp} {p : Addr} {ys : List V} (h : H p = some (.lst ys)) : ∀ u, H p = some u → PlO u := fun u e => by
  rw [h] at e; cases e; exact ⟨fun _ z => (by cases z), fun _ z => (by cases z)⟩
theorem plO_ins {H : Hp} {p C dx : Addr} {ys : List (Str × V)} (h : H p = some (.ins C dx ys)) : ∀ u, H p = some u → PlO u := fun u e => by
  rw [h] at e; cases e; exact ⟨fun _ z => (by cases z), fun _ z => (by cases z)⟩
theorem plO_dK {H : Hp} {p : Addr} {ys : List (Key × V)} (h : H p = some (.dK ys)) : ∀ u, H p = some u → PlO u := fun u e => by
  rw [h] at e; cases e; exact ⟨fun _ z => (by cases z), fun _ z => (by cases z)⟩
theorem plO_none {H : Hp} {p : Addr} (h : H p = none) : ∀ u, H p = some u → PlO u := fun u e => by rw [h] at e; cases e
theorem tab_upd {T : List (Addr × Str)} {H : Hp} {p : Addr} {o : HO} (t : Tabs T H) (h : ∀ u, H p = some u → PlO u) : Tabs T (upd H p o) := fun q hq => by
  obtain ⟨ps, h1, h2, h3⟩ := t q hq
  refine ⟨ps, by rw [upd_ne fun e => (h _ (by rw [← e]; exact h1)).1 ps rfl]; exact h1, h2, fun pos cv hc => ?_⟩
  obtain ⟨c, e1, e2⟩ := h3 pos cv hc
  exact ⟨c, e1, by rw [upd_ne fun e => (h _ (by rw [← e]; exact e2)).2 _ rfl]; exact e2⟩
/-- data: what a value is, to any depth -/
inductive D where
  | non | bl (b : Bool) | int (i : Int) | str (x : Str)
  | tup (xs : List D) | lst (xs : List D) | ins (c : Nat) (xs : List D) | scr (ns : List Int) | dic (kvs : List (Int × Int)) | cls (c : Nat) | dbt
  deriving Inhabited
/-- an object that one frame alone holds -/
inductive O where
  | lst (xs : List D) | dct (kvs : List (Int × D)) | obj (c : Nat) (fs : List D) | bench (w g : D) (past : List D)
  deriving Inhabited
/-- a slot's content -/
inductive S where
  | dat (d : D) | own (o : O) | ref (o : O) | hid
  deriving Inhabited
abbrev En := List (Option S)
/-- an expression's value: data, the object of a slot, a new object -/
inductive Vl where
  | dat (d : D) | loc (i : Nat) | own (o : O)
  deriving Inhabited
structure Xc where
  c : Nat
  line : Option Int
inductive Re (α : Type) where
  | ok (a : α) (E : En) | exc (x : Xc) (E : En) | bad
abbrev Mo (α : Type) := En → Re α

structure Gx where
  K : PySem.W.Frag
  cA : Nat → Addr
  xA : Nat → Addr
  T : List (Addr × Str)
/-- the attributes of each class of the program, in the order in which its __init__ stores them -/
def cFn : Nat → List Str
  | 0 => ["ends", "charge"]
  | 1 => ["width", "steps"]
  | 2 => ["rounds", "chain"]
  | 3 => ["left_out", "doubts"]
  | 4 => ["doubts"]
  | 5 => ["whole", "gone", "past"]
  | _ => []

/-- a dict of numbers that is never changed, locked or not -/
def kvI (p : Int × Int) : Key × V := (Sum.inl p.1, V.int p.2)
def DicAt (H : Hp) (a : Addr) (kvs : List (Int × Int)) : Prop := H a = some (.dK (kvs.map kvI)) ∨ ∃ od, H a = some (.frz od (.dK (kvs.map kvI)))
theorem DicAt.mono {H H' : Hp} {a : Addr} {kvs : List (Int × Int)} (e : Same H H') : DicAt H a kvs → DicAt H' a kvs
  | .inl h => .inl (e _ _ h)
  | .inr ⟨od, h⟩ => .inr ⟨od, e _ _ h⟩
/-- {0: True} -/
def dbtL : List (Key × V) := [(Sum.inl 0, V.bl true)]
def DbtAt (H : Hp) (a : Addr) : Prop := H a = some (.dK dbtL) ∨ ∃ od, H a = some (.frz od (.dK dbtL))
theorem DbtAt.mono {H H' : Hp} {a : Addr} (e : Same H H') : DbtAt H a → DbtAt H' a
  | .inl h => .inl (e _ _ h)
  | .inr ⟨od, h⟩ => .inr ⟨od, e _ _ h⟩
mutual
def Rep (g : Gx) (H : Hp) : D → V → Prop
  | .non, v => v = .non
  | .bl b, v => v = .bl b
  | .int i, v => v = .int i
  | .str x, v => v = .str x
  | .tup ds, v => ∃ a vs, v = .ref a ∧ H a = some (.tup vs) ∧ ds.length ≤ sizeLine ∧ RepL g H ds vs
  | .lst ds, v => ∃ a vs, v = .ref a ∧ H a = some (.lst vs) ∧ ds.length ≤ sizeLine ∧ RepL g H ds vs
  | .ins c ds, v => ∃ a dx vs, v = .ref a ∧ H a = some (.ins (g.cA c) dx ((cFn c).zip vs)) ∧ (cFn c).length = vs.length ∧ RepL g H ds vs
  | .scr ns, v => ∃ a, v = .ref a ∧ SqL g.K H a (ns.map V.int)
  | .dic kvs, v => ∃ a, v = .ref a ∧ DicAt H a kvs
  | .cls c, v => v = .ref (g.cA c)
  | .dbt, v => ∃ a, v = .ref a ∧ DbtAt H a
def RepL (g : Gx) (H : Hp) : List D → List V → Prop
  | [], vs => vs = []
  | d :: ds, vs => ∃ v ws, vs = v :: ws ∧ Rep g H d v ∧ RepL g H ds ws
end

section
variable {g : Gx} {H H' : Hp}
mutual
theorem Rep.mono (e : Same H H') : ∀ (d : D) {v : V}, Rep g H d v → Rep g H' d v
  | .non, _, h => by simpa only [Rep] using h
  | .bl _, _, h => by simpa only [Rep] using h
  | .int _, _, h => by simpa only [Rep] using h
  | .str _, _, h => by simpa only [Rep] using h
  | .tup ds, v, h => by
    simp only [Rep] at h ⊢
    obtain ⟨a, vs, e1, e2, e3, e4⟩ := h
    exact ⟨a, vs, e1, e _ _ e2, e3, RepL.mono e ds e4⟩
  | .lst ds, v, h => by
    simp only [Rep] at h ⊢
    obtain ⟨a, vs, e1, e2, e3, e4⟩ := h
    exact ⟨a, vs, e1, e _ _ e2, e3, RepL.mono e ds e4⟩
  | .ins c ds, v, h => by
    simp only [Rep] at h ⊢
    obtain ⟨a, dx, vs, e1, e2, e3, e4⟩ := h
    exact ⟨a, dx, vs, e1, e _ _ e2, e3, RepL.mono e ds e4⟩
  | .scr ns, v, h => by
    simp only [Rep] at h ⊢
    obtain ⟨a, e1, e2⟩ := h
    exact ⟨a, e1, e.seq e2⟩
  | .dic kvs, v, h => by
    simp only [Rep] at h ⊢
    obtain ⟨a, e1, e2⟩ := h
    exact ⟨a, e1, e2.mono e⟩
  | .cls c, _, h => by simpa only [Rep] using h
  | .dbt, v, h => by
    simp only [Rep] at h ⊢
    obtain ⟨a, e1, e2⟩ := h
    exact ⟨a, e1, e2.mono e⟩
theorem RepL.mono (e : Same H H') : ∀ (ds : List D) {vs : List V}, RepL g H ds vs → RepL g H' ds vs
  | [], _, h => by simpa only [RepL] using h
  | d :: ds, vs, h => by
    simp only [RepL] at h ⊢
    obtain ⟨v, ws, e1, e2, e3⟩ := h
    exact ⟨v, ws, e1, Rep.mono e d e2, RepL.mono e ds e3⟩
end
theorem RepL.nil_iff {vs : List V} : RepL g H [] vs ↔ vs = [] := by simp only [RepL]
theorem RepL.cons_iff {d : D} {ds : List D} {vs : List V} : RepL g H (d :: ds) vs ↔ ∃ v ws, vs = v :: ws ∧ Rep g H d v ∧ RepL g H ds ws := by simp only [RepL]
theorem RepL.nil : RepL g H [] [] := RepL.nil_iff.mpr rfl
theorem RepL.cons {d : D} {ds : List D} {v : V} {vs : List V} (h : Rep g H d v) (t : RepL g H ds vs) : RepL g H (d :: ds) (v :: vs) := RepL.cons_iff.mpr ⟨v, vs, rfl, h, t⟩
theorem RepL.length : ∀ {ds : List D} {vs : List V}, RepL g H ds vs → ds.length = vs.length
  | [], _, h => by rw [RepL.nil_iff.mp h]; rfl
  | d :: ds, vs, h => by
    obtain ⟨v, ws, rfl, _, t⟩ := RepL.cons_iff.mp h
    simp only [List.length_cons, RepL.length t]
theorem RepL.get : ∀ {ds : List D} {vs : List V} {i : Nat} {d : D}, RepL g H ds vs → ds[i]? = some d → ∃ v, vs[i]? = some v ∧ Rep g H d v
  | [], _, _, _, _, e => by simp at e
  | d :: ds, vs, i, d', h, e => by
    obtain ⟨v, ws, rfl, r, t⟩ := RepL.cons_iff.mp h
    cases i with
    | zero =>
      have e' : d = d' := by simpa using e
      subst e'
      exact ⟨v, rfl, r⟩
    | succ i =>
      obtain ⟨u, h1, h2⟩ := RepL.get (i := i) t (by simpa using e)
      exact ⟨u, by simpa using h1, h2⟩
theorem RepL.getB {ds : List D} {vs : List V} {i : Nat} {v : V} (h : RepL g H ds vs) (e : vs[i]? = some v) : ∃ d, ds[i]? = some d ∧ Rep g H d v := by
  have hl : i < ds.length := by rw [h.length]; exact (List.getElem?_eq_some_iff.mp e).1
  have q : ds[i]? = some (ds[i]'hl) := List.getElem?_eq_getElem hl
  obtain ⟨u, h1, h2⟩ := h.get q
  rw [e] at h1; cases h1
  exact ⟨_, q, h2⟩
theorem RepL.append : ∀ {ds es : List D} {vs ws : List V}, RepL g H ds vs → RepL g H es ws → RepL g H (ds ++ es) (vs ++ ws)
  | [], _, _, _, h, t => by rw [RepL.nil_iff.mp h]; exact t
  | d :: ds, es, vs, ws, h, t => by
    obtain ⟨v, us, rfl, r, q⟩ := RepL.cons_iff.mp h
    exact RepL.cons r (RepL.append q t)
theorem RepL.one {d : D} {v : V} (h : Rep g H d v) : RepL g H [d] [v] := RepL.cons h RepL.nil
theorem RepL.take : ∀ {ds : List D} {vs : List V} (n : Nat), RepL g H ds vs → RepL g H (ds.take n) (vs.take n)
  | [], _, n, h => by rw [RepL.nil_iff.mp h]; simp only [List.take_nil]; exact RepL.nil
  | d :: ds, vs, 0, h => by simp only [List.take_zero]; exact RepL.nil
  | d :: ds, vs, n + 1, h => by
    obtain ⟨v, ws, rfl, r, t⟩ := RepL.cons_iff.mp h
    simp only [List.take_succ_cons]
    exact RepL.cons r (RepL.take n t)
theorem RepL.drop : ∀ {ds : List D} {vs : List V} (n : Nat), RepL g H ds vs → RepL g H (ds.drop n) (vs.drop n)
  | [], _, n, h => by rw [RepL.nil_iff.mp h]; simp only [List.drop_nil]; exact RepL.nil
  | d :: ds, vs, 0, h => h
  | d :: ds, vs, n + 1, h => by
    obtain ⟨v, ws, rfl, r, t⟩ := RepL.cons_iff.mp h
    simp only [List.drop_succ_cons]
    exact RepL.drop n t
theorem RepL.set {x : D} {u : V} (r : Rep g H x u) : ∀ {ds : List D} {vs : List V} (i : Nat), RepL g H ds vs → RepL g H (ds.set i x) (vs.set i u)
  | [], _, i, h => by rw [RepL.nil_iff.mp h]; simp only [List.set_nil]; exact RepL.nil
  | d :: ds, vs, 0, h => by
    obtain ⟨v, ws, rfl, _, t⟩ := RepL.cons_iff.mp h
    simp only [List.set_cons_zero]
    exact RepL.cons r t
  | d :: ds, vs, i + 1, h => by
    obtain ⟨v, ws, rfl, q, t⟩ := RepL.cons_iff.mp h
    simp only [List.set_cons_succ]
    exact RepL.cons q (RepL.set r i t)
theorem RepL.erase : ∀ {ds : List D} {vs : List V} (i : Nat), RepL g H ds vs → RepL g H (ds.eraseIdx i) (vs.eraseIdx i)
  | [], _, i, h => by rw [RepL.nil_iff.mp h]; simp only [List.eraseIdx_nil]; exact RepL.nil
  | d :: ds, vs, 0, h => by
    obtain ⟨v, ws, rfl, _, t⟩ := RepL.cons_iff.mp h
    simp only [List.eraseIdx_cons_zero]
    exact t
  | d :: ds, vs, i + 1, h => by
    obtain ⟨v, ws, rfl, q, t⟩ := RepL.cons_iff.mp h
    simp only [List.eraseIdx_cons_succ]
    exact RepL.cons q (RepL.erase i t)
theorem RepL.dropLast {ds : List D} {vs : List V} (h : RepL g H ds vs) : RepL g H ds.dropLast vs.dropLast := by
  rw [List.dropLast_eq_take, List.dropLast_eq_take, ← h.length]
  exact h.take _
theorem RepL.ints_iff : ∀ {ns : List Int} {vs : List V}, RepL g H (ns.map D.int) vs ↔ vs = ns.map V.int
  | [], vs => RepL.nil_iff
  | n :: ns, vs => by
    rw [List.map_cons, RepL.cons_iff, List.map_cons]
    constructor
    · rintro ⟨v, ws, rfl, r, t⟩
      rw [RepL.ints_iff.mp t]
      simp only [Rep] at r
      rw [r]
    · rintro rfl
      exact ⟨_, _, rfl, by simp only [Rep], RepL.ints_iff.mpr rfl⟩
theorem RepL.bls_iff : ∀ {ns : List Bool} {vs : List V}, RepL g H (ns.map D.bl) vs ↔ vs = ns.map V.bl
  | [], vs => RepL.nil_iff
  | n :: ns, vs => by
    rw [List.map_cons, RepL.cons_iff, List.map_cons]
    constructor
    · rintro ⟨v, ws, rfl, r, t⟩
      rw [RepL.bls_iff.mp t]
      simp only [Rep] at r
      rw [r]
    · rintro rfl
      exact ⟨_, _, rfl, by simp only [Rep], RepL.bls_iff.mpr rfl⟩
theorem RepL.strs_iff : ∀ {ns : List Str} {vs : List V}, RepL g H (ns.map D.str) vs ↔ vs = ns.map V.str
  | [], vs => RepL.nil_iff
  | n :: ns, vs => by
    rw [List.map_cons, RepL.cons_iff, List.map_cons]
    constructor
    · rintro ⟨v, ws, rfl, r, t⟩
      rw [RepL.strs_iff.mp t]
      simp only [Rep] at r
      rw [r]
    · rintro rfl
      exact ⟨_, _, rfl, by simp only [Rep], RepL.strs_iff.mpr rfl⟩
end

def RepK (g : Gx) (H : Hp) : List (Int × D) → List (Key × V) → Prop
  | [], vs => vs = []
  | d :: ds, vs => ∃ v ws, vs = (Sum.inl d.1, v) :: ws ∧ Rep g H d.2 v ∧ RepK g H ds ws
theorem RepK.mono {g : Gx} {H H' : Hp} (e : Same H H') : ∀ {ds : List (Int × D)} {vs : List (Key × V)}, RepK g H ds vs → RepK g H' ds vs
  | [], _, h => h
  | d :: ds, vs, h => by
    obtain ⟨v, ws, rfl, r, t⟩ := h
    exact ⟨v, ws, rfl, r.mono e, RepK.mono e t⟩

/-- an object of one's own at p; A: the addresses that are its own; Hd: where data stands -/
def OwnRep (g : Gx) (Hd H : Hp) (A : Addr → Prop) (p : Addr) : O → Prop
  | .lst ds => A p ∧ ∃ vs, H p = some (.lst vs) ∧ ds.length ≤ sizeLine ∧ RepL g Hd ds vs
  | .dct kvs => A p ∧ ∃ vs, H p = some (.dK vs) ∧ RepK g Hd kvs vs
  | .obj c ds => A p ∧ ∃ dx vs, H p = some (.ins (g.cA c) dx ((cFn c).zip vs)) ∧ ds.length ≤ (cFn c).length ∧ RepL g Hd ds vs
  | .bench w b past => A p ∧ ∃ dx vw vb l vs, H p = some (.ins (g.cA 5) dx [("whole", vw), ("gone", vb), ("past", .ref l)]) ∧ Rep g Hd w vw ∧ Rep g Hd b vb ∧ A l ∧ H l = some (.lst vs) ∧ past.length ≤ sizeLine ∧ RepL g Hd past vs
theorem OwnRep.at {g : Gx} {Hd H : Hp} {A : Addr → Prop} {p : Addr} : ∀ {o : O}, OwnRep g Hd H A p o → A p
  | .lst _, h => h.1
  | .dct _, h => h.1
  | .obj _ _, h => h.1
  | .bench _ _ _, h => h.1
theorem OwnRep.keep {g : Gx} {Hd Hd' H H' : Hp} {A A' : Addr → Prop} {p : Addr} (e : Same Hd Hd') (k : ∀ a o, A a → H a = some o → NT o → H' a = some o) (ka : ∀ a, A a → H a ≠ none → A' a) : ∀ {o : O}, OwnRep g Hd H A p o → OwnRep g Hd' H' A' p o
  | .lst _, ⟨a, vs, e1, e2, e3⟩ => ⟨ka _ a (by rw [e1]; simp), vs, k _ _ a e1 (by intro _ z; cases z), e2, e3.mono e⟩
  | .dct _, ⟨a, vs, e1, e2⟩ => ⟨ka _ a (by rw [e1]; simp), vs, k _ _ a e1 (by intro _ z; cases z), e2.mono e⟩
  | .obj _ _, ⟨a, dx, vs, e1, e2, e3⟩ => ⟨ka _ a (by rw [e1]; simp), dx, vs, k _ _ a e1 (by intro _ z; cases z), e2, e3.mono e⟩
  | .bench _ _ _, ⟨a, dx, vw, vb, l, vs, e1, e2, e3, e4, e5, e6, e7⟩ => ⟨ka _ a (by rw [e1]; simp), dx, vw, vb, l, vs, k _ _ a e1 (by intro _ z; cases z), e2.mono e, e3.mono e, ka _ e4 (by rw [e5]; simp), k _ _ e4 e5 (by intro _ z; cases z), e6, e7.mono e⟩

abbrev Ow := Addr → Option Nat
/-- what a slot says -/
def SlotOk (g : Gx) (Hd H : Hp) (w : Ow) (σ : L2.St) (i : Nat) : Option S → Prop
  | none => True
  | some .hid => True
  | some (.dat d) => ∃ v, σ[i]? = some (some v) ∧ Rep g Hd d v
  | some (.own o) => ∃ p, σ[i]? = some (some (.ref p)) ∧ OwnRep g Hd H (fun a => w a = some i) p o
  | some (.ref o) => ∃ p, σ[i]? = some (some (.ref p)) ∧ OwnRep g Hd H (fun a => w a = some i) p o
/-- what stays through a frame -/
structure Fc where
  H0 : Hp
  rs : List (Nat × Addr)
def isRef : Option (Option S) → Prop
  | some (some (.ref _)) => True
  | some (some .hid) => True
  | _ => False
def hasO : Option (Option S) → Prop
  | some (some (.ref _)) => True
  | some (some (.own _)) => True
  | _ => False
structure Sr (g : Gx) (F : Fc) (Hd H : Hp) (E : En) (σ : L2.St) (w : Ow) : Prop where
  ext : Same Hd H
  dom : ∀ a, F.H0 a ≠ none → H a ≠ none
  hdn : ∀ a i, w a = some i → Hd a = none
  wh : ∀ a i, w a = some i → H a ≠ none
  len : E.length = σ.length
  slot : ∀ i s, E[i]? = some s → SlotOk g Hd H w σ i s
  frs : ∀ a i o, w a = some i → E[i]? = some (some (.own o)) → F.H0 a = none
  rk : ∀ q ∈ F.rs, σ[q.1]? = some (some (.ref q.2)) ∧ isRef E[q.1]?
  st : ∀ a i, w a = some i → hasO E[i]?
  tab : Tabs g.T H
  ntd : ∀ a ps, Hd a ≠ some (.tbl ps)
  ntw : ∀ a i ps, w a = some i → H a ≠ some (.tbl ps)
  nt0 : ∀ a ps, H a = some (.tbl ps) → F.H0 a ≠ none

/-- what an evaluation may do -/
structure Eff (Hd H : Hp) (w : Ow) (Hd' H' : Hp) (w' : Ow) : Prop where
  hd : Same Hd Hd'
  fr : ∀ a o, H a = some o → w a = none → NT o → H' a = some o
  dom : ∀ a, H a ≠ none → H' a ≠ none
  wi : ∀ a i, w' a = some i → w a = some i ∨ H a = none
  hn : ∀ a, Hd' a ≠ none → Hd a ≠ none ∨ w a ≠ none ∨ H a = none
  nt : ∀ a ps, H' a = some (.tbl ps) → ∃ qs, H a = some (.tbl qs)
theorem Eff.wn {Hd H Hd' H' : Hp} {w w' : Ow} (e : Eff Hd H w Hd' H' w') : ∀ a, w' a ≠ none → w a ≠ none ∨ H a = none := fun a h => by
  cases q : w' a with
  | none => exact absurd q h
  | some i => exact (e.wi a i q).elim (fun z => .inl (by rw [z]; simp)) .inr
theorem Eff.refl {Hd H : Hp} {w : Ow} : Eff Hd H w Hd H w := ⟨Same.refl _, fun _ _ h _ _ => h, fun _ h => h, fun _ _ h => .inl h, fun _ h => .inl h, fun _ ps h => ⟨ps, h⟩⟩
theorem Eff.trans {Hd H Hd1 H1 Hd2 H2 : Hp} {w w1 w2 : Ow} (a : Eff Hd H w Hd1 H1 w1) (b : Eff Hd1 H1 w1 Hd2 H2 w2) : Eff Hd H w Hd2 H2 w2 where
  hd := a.hd.trans b.hd
  fr := fun x o h n nt => by
    refine b.fr x o (a.fr x o h n nt) ?_ nt
    cases q : w1 x with
    | none => rfl
    | some i =>
      rcases a.wn x (by rw [q]; simp) with z | z
      · exact absurd n z
      · rw [h] at z; cases z
  dom := fun x h => b.dom x (a.dom x h)
  wi := fun x i h => by
    rcases b.wi x i h with z | z
    · exact a.wi x i z
    · right
      cases q : H x with
      | none => rfl
      | some o => exact absurd z (a.dom x (by rw [q]; simp))
  hn := fun x h => by
    rcases b.hn x h with z | z | z
    · exact a.hn x z
    · exact .inr (a.wn x z)
    · right; right
      cases q : H x with
      | none => rfl
      | some o => exact absurd z (a.dom x (by rw [q]; simp))
  nt := fun x ps h => by
    obtain ⟨qs, h⟩ := b.nt x ps h
    exact a.nt x qs h

/-- new data alone -/
structure Grow (Hd H Hd' H' : Hp) : Prop where
  hd : Same Hd Hd'
  hh : Same H H'
  ext : Same Hd' H'
  hn : ∀ a, Hd' a ≠ none → Hd a ≠ none ∨ H a = none
  nt : ∀ a ps, Hd' a = some (.tbl ps) → Hd a = some (.tbl ps)
  nth : ∀ a ps, H' a = some (.tbl ps) → H a = some (.tbl ps)
theorem Grow.refl {Hd H : Hp} (e : Same Hd H) : Grow Hd H Hd H := ⟨Same.refl _, Same.refl _, e, fun _ h => .inl h, fun _ _ h => h, fun _ _ h => h⟩
theorem Same.some_ne {H H' : Hp} (e : Same H H') {a : Addr} (h : H a ≠ none) : H' a ≠ none := by
  cases q : H a with
  | none => exact absurd q h
  | some o => rw [e a o q]; simp
theorem Grow.trans {Hd H Hd1 H1 Hd2 H2 : Hp} (a : Grow Hd H Hd1 H1) (b : Grow Hd1 H1 Hd2 H2) : Grow Hd H Hd2 H2 :=
  ⟨a.hd.trans b.hd, a.hh.trans b.hh, b.ext, fun x h => (b.hn x h).elim (a.hn x) fun z => .inr (a.hh.free z), fun x ps h => a.nt x ps (b.nt x ps h), fun x ps h => a.nth x ps (b.nth x ps h)⟩
theorem same_upd {H : Hp} {p : Addr} {o : HO} (h : H p = none) : Same H (upd H p o) := fun a u e => by
  rw [upd_ne (ne_of_none e h)]; exact e
theorem same_upd2 {Hd H : Hp} {p : Addr} {o : HO} (e : Same Hd H) : Same (upd Hd p o) (upd H p o) := fun a u h => by
  by_cases q : a = p
  · subst q; rw [upd_same] at h ⊢; exact h
  · rw [upd_ne q] at h ⊢; exact e a u h
/-- a new object that is data at once -/
theorem Grow.new {Hd H : Hp} {p : Addr} {o : HO} (e : Same Hd H) (h : H p = none) (hnt : NT o := by intro _ z; cases z) : Grow Hd H (upd Hd p o) (upd H p o) :=
  ⟨same_upd (e.free h), same_upd h, same_upd2 e, fun a z => by
    by_cases q : a = p
    · subst q; exact .inr h
    · rw [upd_ne q] at z; exact .inl z, fun a ps z => by
    by_cases q : a = p
    · subst q; rw [upd_same] at z; exact absurd (Option.some.inj z) (hnt ps)
    · rwa [upd_ne q] at z, fun a ps z => by
    by_cases q : a = p
    · subst q; rw [upd_same] at z; exact absurd (Option.some.inj z) (hnt ps)
    · rwa [upd_ne q] at z⟩
/-- a new object that is not data yet -/
theorem Grow.newO {Hd H : Hp} {p : Addr} {o : HO} (e : Same Hd H) (h : H p = none) (hnt : NT o := by intro _ z; cases z) : Grow Hd H Hd (upd H p o) :=
  ⟨Same.refl _, same_upd h, e.trans (same_upd h), fun _ z => .inl z, fun _ _ z => z, fun a ps z => by
    by_cases q : a = p
    · subst q; rw [upd_same] at z; exact absurd (Option.some.inj z) (hnt ps)
    · rwa [upd_ne q] at z⟩

section
variable {g : Gx} {F : Fc} {Hd H Hd' H' : Hp} {E : En} {σ : L2.St} {w : Ow}
theorem Sr.eff (s : Sr g F Hd H E σ w) (G : Grow Hd H Hd' H') : Eff Hd H w Hd' H' w :=
  ⟨G.hd, fun a o h _ _ => G.hh a o h, fun a h => Same.some_ne G.hh h, fun _ _ h => .inl h, fun a h => (G.hn a h).elim .inl fun z => .inr (.inr z), fun a ps h => ⟨ps, G.nth a ps h⟩⟩
theorem SlotOk.keep {i : Nat} {w' : Ow} (e : Same Hd Hd') (k : ∀ a o, w a = some i → H a = some o → NT o → H' a = some o) (kw : ∀ a, w a = some i → w' a = some i) : ∀ {s : Option S}, SlotOk g Hd H w σ i s → SlotOk g Hd' H' w' σ i s
  | none, _ => trivial
  | some .hid, _ => trivial
  | some (.dat _), ⟨v, h1, h2⟩ => ⟨v, h1, h2.mono e⟩
  | some (.own _), ⟨p, h1, h2⟩ => ⟨p, h1, h2.keep e k fun a x _ => kw a x⟩
  | some (.ref _), ⟨p, h1, h2⟩ => ⟨p, h1, h2.keep e k fun a x _ => kw a x⟩
theorem Sr.grow (s : Sr g F Hd H E σ w) (G : Grow Hd H Hd' H') : Sr g F Hd' H' E σ w where
  ext := G.ext
  dom := fun a h => Same.some_ne G.hh (s.dom a h)
  hdn := fun a i h => by
    cases q : Hd' a with
    | none => rfl
    | some o =>
      rcases G.hn a (by rw [q]; simp) with z | z
      · exact absurd (s.hdn a i h) z
      · exact absurd z (s.wh a i h)
  wh := fun a i h => Same.some_ne G.hh (s.wh a i h)
  len := s.len
  slot := fun i x h => (s.slot i x h).keep G.hd (fun a o _ e _ => G.hh a o e) fun _ z => z
  frs := s.frs
  rk := s.rk
  st := s.st
  tab := s.tab.ext G.hh
  ntd := fun a ps h => s.ntd a ps (G.nt a ps h)
  ntw := fun a i ps h z => by
    cases q : H a with
    | none => exact s.wh a i h q
    | some o =>
      rw [G.hh a o q] at z
      cases z
      exact s.ntw a i ps h q
  nt0 := fun a ps h => s.nt0 a ps (G.nth a ps h)
end

/-! ### values -/
def VRel (g : Gx) (Hd H : Hp) (w : Ow) (σ : L2.St) (Hs : Hp) (v : V) : Vl → Prop
  | .dat d => Rep g Hd d v
  | .loc i => σ[i]? = some (some v)
  | .own o => ∃ p A, v = .ref p ∧ (∀ a, A a → Hs a = none ∧ Hd a = none ∧ w a = none ∧ H a ≠ none) ∧ OwnRep g Hd H A p o
/-- .. behind a further evaluation -/
theorem VRel.eff {g : Gx} {Hd H Hd' H' Hs : Hp} {w w' : Ow} {σ : L2.St} {v : V} (e : Eff Hd H w Hd' H' w') : ∀ {a : Vl}, VRel g Hd H w σ Hs v a → VRel g Hd' H' w' σ Hs v a
  | .dat d, h => Rep.mono e.hd d h
  | .loc i, h => h
  | .own o, ⟨p, A, h1, h2, h3⟩ => ⟨p, A, h1, fun a x => by
      obtain ⟨z1, z2, z3, z4⟩ := h2 a x
      refine ⟨z1, ?_, ?_, e.dom a z4⟩
      · cases q : Hd' a with
        | none => rfl
        | some u =>
          rcases e.hn a (by rw [q]; simp) with y | y | y
          · exact absurd z2 y
          · exact absurd z3 y
          · exact absurd y z4
      · cases q : w' a with
        | none => rfl
        | some u =>
          rcases e.wn a (by rw [q]; simp) with y | y
          · exact absurd z3 y
          · exact absurd y z4, h3.keep e.hd (fun a o x y nt => e.fr a o y (h2 a x).2.2.1 nt) fun _ x _ => x⟩
/-- .. seen from an earlier start -/
theorem VRel.start {g : Gx} {Hd H Hs Hs' : Hp} {w : Ow} {σ : L2.St} {v : V} (k : ∀ a, Hs' a ≠ none → Hs a ≠ none) : ∀ {a : Vl}, VRel g Hd H w σ Hs v a → VRel g Hd H w σ Hs' v a
  | .dat _, h => h
  | .loc _, h => h
  | .own _, ⟨p, A, h1, h2, h3⟩ => ⟨p, A, h1, fun a x => by
      obtain ⟨z1, z2, z3, z4⟩ := h2 a x
      refine ⟨?_, z2, z3, z4⟩
      cases q : Hs' a with
      | none => rfl
      | some u => exact absurd z1 (k a (by rw [q]; simp)), h3⟩

/-- the content of a value -/
def oD : O → Option D
  | .lst xs => some (.lst xs)
  | _ => none
def deref (E : En) : Vl → Option D
  | .dat d => some d
  | .own o => oD o
  | .loc i => match E[i]? with
    | some (some (.own o)) => oD o
    | some (some (.ref o)) => oD o
    | _ => none
/-- a value at the top: data, or a list of data -/
def RepT (g : Gx) (Hd H : Hp) (d : D) (v : V) : Prop := Rep g Hd d v ∨ ∃ p vs ds, d = .lst ds ∧ v = .ref p ∧ H p = some (.lst vs) ∧ ds.length ≤ sizeLine ∧ RepL g Hd ds vs
theorem RepT.keep {g : Gx} {Hd H Hd' H' : Hp} {d : D} {v : V} (e : Same Hd Hd') (k : Same H H') : RepT g Hd H d v → RepT g Hd' H' d v
  | .inl h => .inl (h.mono e)
  | .inr ⟨p, vs, ds, h1, h2, h3, h4, h5⟩ => .inr ⟨p, vs, ds, h1, h2, k _ _ h3, h4, h5.mono e⟩
theorem RepT.rep {g : Gx} {Hd H : Hp} {d : D} {v : V} (e : Same Hd H) : RepT g Hd H d v → Rep g H d v
  | .inl h => h.mono e
  | .inr ⟨p, vs, ds, h1, h2, h3, h4, h5⟩ => by
    subst h1
    simp only [Rep]
    exact ⟨p, vs, h2, h3, h4, h5.mono e⟩
theorem RepT.lst {g : Gx} {Hd H : Hp} {ds : List D} {v : V} (e : Same Hd H) : RepT g Hd H (.lst ds) v → ∃ p vs, v = .ref p ∧ H p = some (.lst vs) ∧ ds.length ≤ sizeLine ∧ RepL g Hd ds vs
  | .inl h => by
    simp only [Rep] at h
    obtain ⟨a, vs, e1, e2, e3, e4⟩ := h
    exact ⟨a, vs, e1, e _ _ e2, e3, e4⟩
  | .inr ⟨p, vs, ds', h1, h2, h3, h4, h5⟩ => by
    cases h1
    exact ⟨p, vs, h2, h3, h4, h5⟩
theorem RepT.dat {g : Gx} {Hd H : Hp} {d : D} {v : V} (n : ∀ ds, d ≠ .lst ds) : RepT g Hd H d v → Rep g Hd d v
  | .inl h => h
  | .inr ⟨_, _, ds, h1, _⟩ => absurd h1 (n ds)
theorem RepT.tup {g : Gx} {Hd H : Hp} {ds : List D} {v : V} (e : Same Hd H) (h : RepT g Hd H (.tup ds) v) : ∃ p vs, v = .ref p ∧ H p = some (.tup vs) ∧ ds.length ≤ sizeLine ∧ RepL g Hd ds vs := by
  have q := h.dat (by intro _ z; cases z)
  simp only [Rep] at q
  obtain ⟨a, vs, e1, e2, e3, e4⟩ := q
  exact ⟨a, vs, e1, e _ _ e2, e3, e4⟩
theorem RepT.int {g : Gx} {Hd H : Hp} {i : Int} {v : V} (h : RepT g Hd H (.int i) v) : v = .int i := by
  have q := h.dat (by intro _ z; cases z)
  simpa only [Rep] using q
theorem RepT.bl {g : Gx} {Hd H : Hp} {i : Bool} {v : V} (h : RepT g Hd H (.bl i) v) : v = .bl i := by
  have q := h.dat (by intro _ z; cases z)
  simpa only [Rep] using q
theorem RepT.str {g : Gx} {Hd H : Hp} {i : Str} {v : V} (h : RepT g Hd H (.str i) v) : v = .str i := by
  have q := h.dat (by intro _ z; cases z)
  simpa only [Rep] using q

theorem RepT.of {g : Gx} {F : Fc} {Hd H Hs : Hp} {E : En} {σ : L2.St} {w : Ow} {v : V} (s : Sr g F Hd H E σ w) : ∀ {a : Vl} {d : D}, VRel g Hd H w σ Hs v a → deref E a = some d → RepT g Hd H d v
  | .dat d', d, h, e => by
    simp only [deref, Option.some.injEq] at e
    subst e
    exact .inl h
  | .own o, d, ⟨p, A, h1, h2, h3⟩, e => by
    cases o with
    | lst xs =>
      simp only [deref, oD, Option.some.injEq] at e
      obtain ⟨_, vs, e1, e2, e3⟩ := h3
      exact .inr ⟨p, vs, xs, e.symm, h1, e1, e2, e3⟩
    | dct _ => simp [deref, oD] at e
    | obj _ _ => simp [deref, oD] at e
    | bench _ _ _ => simp [deref, oD] at e
  | .loc i, d, h, e => by
    have key : ∀ o, (∃ p, σ[i]? = some (some (.ref p)) ∧ OwnRep g Hd H (fun a => w a = some i) p o) → oD o = some d → RepT g Hd H d v := fun o ⟨p, z1, z2⟩ e => by
      have hp : v = .ref p := by
        have q := (show σ[i]? = some (some v) from h).symm.trans z1
        simpa using q
      cases o with
      | lst xs =>
        simp only [oD, Option.some.injEq] at e
        obtain ⟨_, vs, e1, e2, e3⟩ := z2
        exact .inr ⟨p, vs, xs, e.symm, hp, e1, e2, e3⟩
      | dct _ => simp [oD] at e
      | obj _ _ => simp [oD] at e
      | bench _ _ _ => simp [oD] at e
    simp only [deref] at e
    split at e
    · rename_i o q
      exact key o (s.slot i _ q) e
    · rename_i o q
      exact key o (s.slot i _ q) e
    · cases e
end Fx

/-! Fx2: what an expression's reading is when it does as a function over environments says -/
namespace Fx
open PySem PySem.Spec PyProof.Rows L2 LamX

def mb {α β : Type} (f : Mo α) (k : α → Mo β) : Mo β := fun E => match f E with
  | .ok a E' => k a E'
  | .exc x E' => .exc x E'
  | .bad => .bad
def mp {α : Type} (a : α) : Mo α := fun E => .ok a E

def XRel (g : Gx) (x : Xc) (cls : Value) (d : Option Addr) (H : Hp) : Prop :=
  cls = .ref (g.xA x.c) ∧ match x.line with
    | none => d = none
    | some n => ∃ dd, d = some dd ∧ H dd = some (.xd [("line", .int n)])

section
variable {g : Gx} {F : Fc} {W : WX} {σ : L2.St}
def PostA {α : Type} (g : Gx) (F : Fc) (W : WX) (σ : L2.St) (Hd H : Hp) (w : Ow) (r : Re α) (K : α → En → Hp → Hp → Ow → Prop) : Prop := match r with
  | .ok a E' => ∀ Hd' H' w', Eff Hd H w Hd' H' w' → Sr g F Hd' H' E' σ w' → K a E' Hd' H' w'
  | .exc x E' => ∀ cls d Hd' H' w', Eff Hd H w Hd' H' w' → Sr g F Hd' H' E' σ w' → XRel g x cls d H' → W cls d σ H'
  | .bad => False
theorem PostA.shift {α : Type} {Hd H Hd1 H1 : Hp} {w w1 : Ow} {r : Re α} {K : α → En → Hp → Hp → Ow → Prop} (h : PostA g F W σ Hd H w r K) (e : Eff Hd H w Hd1 H1 w1) : PostA g F W σ Hd1 H1 w1 r K := by
  cases r with
  | ok a E' => exact fun Hd' H' w' e' s => h Hd' H' w' (e.trans e') s
  | exc x E' => exact fun cls d Hd' H' w' e' s z => h cls d Hd' H' w' (e.trans e') s z
  | bad => exact h
theorem PostA.imp {α : Type} {Hd H : Hp} {w : Ow} {r : Re α} {K K' : α → En → Hp → Hp → Ow → Prop} (h : PostA g F W σ Hd H w r K)
    (k : ∀ a E' Hd' H' w', r = .ok a E' → Eff Hd H w Hd' H' w' → Sr g F Hd' H' E' σ w' → K a E' Hd' H' w' → K' a E' Hd' H' w') : PostA g F W σ Hd H w r K' := by
  cases r with
  | ok a E' => exact fun Hd' H' w' e s => k a E' Hd' H' w' rfl e s (h Hd' H' w' e s)
  | exc x E' => exact h
  | bad => exact h
/-- one after the other -/
theorem PostA.bind {α β : Type} {Hd H : Hp} {w : Ow} {f : Mo α} {k : α → Mo β} {E : En} {K : β → En → Hp → Hp → Ow → Prop} (h : PostA g F W σ Hd H w (mb f k E) K) :
    PostA g F W σ Hd H w (f E) fun a E1 Hd1 H1 w1 => PostA g F W σ Hd1 H1 w1 (k a E1) K := by
  unfold mb at h
  cases q : f E with
  | ok a E' =>
    rw [q] at h
    exact fun Hd' H' w' e s => PostA.shift h e
  | exc x E' => rw [q] at h; exact h
  | bad => rw [q] at h; exact h
theorem PostA.here {α : Type} {Hd H : Hp} {w : Ow} {a : α} {E : En} {K : α → En → Hp → Hp → Ow → Prop} (h : PostA g F W σ Hd H w (.ok a E) K) (s : Sr g F Hd H E σ w) : K a E Hd H w := h Hd H w Eff.refl s
end

/-! ### readings -/
def tE (g : Gx) (W : WX) (f : Mo Vl) : TE := fun σ H Q => ∃ F Hd E w, Sr g F Hd H E σ w ∧ PostA g F W σ Hd H w (f E) fun a _ Hd' H' w' => ∀ v, VRel g Hd' H' w' σ H v a → Q v H'
def tT (g : Gx) (W : WX) (f : Mo Bool) : TT := fun σ H Q => ∃ F Hd E w, Sr g F Hd H E σ w ∧ PostA g F W σ Hd H w (f E) fun a _ _ H' _ => Q a H'
/-- data, one after another -/
def tD (g : Gx) (W : WX) (f : Mo (List D)) : TA := fun σ H Q => ∃ F Hd E w, Sr g F Hd H E σ w ∧ PostA g F W σ Hd H w (f E) fun a _ Hd' H' w' => ∀ vs, RepL g Hd' a vs → Q vs H'

theorem _root_.L2.PE.impF {X : Cx} {e : Expr} {t t' : TE} (h : PE X e t) (k : ∀ σ H Q, t' σ H Q → t σ H Q) : PE X e t' := ⟨fun pins s σ H Q I q => h.run pins s σ H Q I (k σ H Q q)⟩
theorem _root_.L2.PT.impF {X : Cx} {e : Expr} {t t' : TT} (h : PT X e t) (k : ∀ σ H Q, t' σ H Q → t σ H Q) : PT X e t' := ⟨fun pins s σ H Q I q => h.run pins s σ H Q I (k σ H Q q)⟩
theorem _root_.L2.PW.impF {X : Cx} {e : Expr} {t t' : TT} (h : PW X e t) (k : ∀ σ H Q, t' σ H Q → t σ H Q) : PW X e t' := ⟨fun wh pins s σ H Q I q => h.run wh pins s σ H Q I (k σ H Q q)⟩
theorem _root_.L2.PA.impF {X : Cx} {e : List Expr} {t t' : TA} (h : PA X e t) (k : ∀ σ H Q, t' σ H Q → t σ H Q) : PA X e t' := ⟨fun p pins s σ H Q I q => h.run p pins s σ H Q I (k σ H Q q)⟩
theorem _root_.L2.PS.impF {X : Cx} {e : Stmt} {t t' : TS} (h : PS X e t) (k : ∀ D σ H, t' D σ H → t D σ H) : PS X e t' := ⟨fun pins s σ H D I q => h.run pins s σ H D I (k D σ H q)⟩
theorem _root_.L2.PSs.impF {X : Cx} {e : List Stmt} {t t' : TS} (h : PSs X e t) (k : ∀ D σ H, t' D σ H → t D σ H) : PSs X e t' := ⟨fun pins s σ H D I q => h.run pins s σ H D I (k D σ H q)⟩

/-- a new value -/
def VNew (g : Gx) (Hd H Hs : Hp) (v : V) : Vl → Prop
  | .dat d => Rep g Hd d v
  | .loc _ => False
  | .own o => ∃ p A, v = .ref p ∧ (∀ a, A a → Hs a = none ∧ Hd a = none ∧ H a ≠ none) ∧ OwnRep g Hd H A p o
theorem VNew.rel {g : Gx} {F : Fc} {Hd0 H0 Hd H : Hp} {E : En} {w : Ow} {σ : L2.St} {v : V} (s : Sr g F Hd0 H0 E σ w) : ∀ {a : Vl}, VNew g Hd H H0 v a → VRel g Hd H w σ H0 v a
  | .dat _, h => h
  | .loc _, h => False.elim h
  | .own _, ⟨p, A, h1, h2, h3⟩ => ⟨p, A, h1, fun a x => by
      obtain ⟨z1, z2, z3⟩ := h2 a x
      refine ⟨z1, z2, ?_, z3⟩
      cases q : w a with
      | none => rfl
      | some i => exact absurd z1 (s.wh a i q), h3⟩

def lift1 (o : D → Option Vl) (a : Vl) : Mo Vl := fun E => match deref E a with
  | some x => match o x with
    | some v => .ok v E
    | none => .bad
  | none => .bad
def lift2 (o : D → D → Option Vl) (a b : Vl) : Mo Vl := fun E => match deref E a with
  | some x => match deref E b with
    | some y => match o x y with
      | some v => .ok v E
      | none => .bad
    | none => .bad
  | none => .bad
def d1 (o : D → Option Vl) (f : Mo Vl) : Mo Vl := mb f (lift1 o)
def d2 (o : D → D → Option Vl) (f h : Mo Vl) : Mo Vl := mb f fun a => mb h fun b => lift2 o a b

/-- an operation by values does as o says -/
def U1 (g : Gx) (r : V → Hp → VK → Prop) (o : D → Option Vl) : Prop := ∀ (Hd H : Hp) (x : V) (a : D) (u : Vl) (Q : VK), Same Hd H → RepT g Hd H a x → o a = some u → (∀ z Hd' H', Grow Hd H Hd' H' → VNew g Hd' H' H z u → Q z H') → r x H Q
def U2 (g : Gx) (r : R2) (o : D → D → Option Vl) : Prop := ∀ (Hd H : Hp) (x y : V) (a b : D) (u : Vl) (Q : VK), Same Hd H → RepT g Hd H a x → RepT g Hd H b y → o a b = some u → (∀ z Hd' H', Grow Hd H Hd' H' → VNew g Hd' H' H z u → Q z H') → r x y H Q

/-- as Grow, of a call that may write tables of code objects -/
structure GrowS (g : Gx) (Hd H Hd' H' : Hp) : Prop where
  hd : Same Hd Hd'
  fr : ∀ a o, H a = some o → NT o → H' a = some o
  dom : ∀ a, H a ≠ none → H' a ≠ none
  ext : Same Hd' H'
  hn : ∀ a, Hd' a ≠ none → Hd a ≠ none ∨ H a = none
  nt : ∀ a ps, H' a = some (.tbl ps) → ∃ qs, H a = some (.tbl qs)
  tab : Tabs g.T H'
  ntd : ∀ a ps, Hd' a ≠ some (.tbl ps)
theorem GrowS.refl {g : Gx} {Hd H : Hp} (e : Same Hd H) (t : Tabs g.T H) (n : ∀ a ps, Hd a ≠ some (.tbl ps)) : GrowS g Hd H Hd H := ⟨Same.refl _, fun _ _ h _ => h, fun _ h => h, e, fun _ h => .inl h, fun _ ps h => ⟨ps, h⟩, t, n⟩
theorem GrowS.trans {g : Gx} {Hd H Hd1 H1 Hd2 H2 : Hp} (a : GrowS g Hd H Hd1 H1) (b : GrowS g Hd1 H1 Hd2 H2) : GrowS g Hd H Hd2 H2 where
  hd := a.hd.trans b.hd
  fr := fun x o h n => b.fr x o (a.fr x o h n) n
  dom := fun x h => b.dom x (a.dom x h)
  ext := b.ext
  hn := fun x h => (b.hn x h).elim (a.hn x) fun z => .inr (by
    cases q : H x with
    | none => rfl
    | some o => exact absurd z (a.dom x (by rw [q]; simp)))
  nt := fun x ps h => by
    obtain ⟨qs, h⟩ := b.nt x ps h
    exact a.nt x qs h
  tab := b.tab
  ntd := b.ntd
section
variable {g : Gx} {F : Fc} {Hd H Hd' H' : Hp} {E : En} {σ : L2.St} {w : Ow}
theorem Sr.effS (_ : Sr g F Hd H E σ w) (G : GrowS g Hd H Hd' H') : Eff Hd H w Hd' H' w :=
  ⟨G.hd, fun a o h _ n => G.fr a o h n, G.dom, fun _ _ h => .inl h, fun a h => (G.hn a h).elim .inl fun z => .inr (.inr z), G.nt⟩
theorem Sr.growS (s : Sr g F Hd H E σ w) (G : GrowS g Hd H Hd' H') : Sr g F Hd' H' E σ w where
  ext := G.ext
  dom := fun a h => G.dom a (s.dom a h)
  hdn := fun a i h => by
    cases q : Hd' a with
    | none => rfl
    | some o =>
      rcases G.hn a (by rw [q]; simp) with z | z
      · exact absurd (s.hdn a i h) z
      · exact absurd z (s.wh a i h)
  wh := fun a i h => G.dom a (s.wh a i h)
  len := s.len
  slot := fun i x h => (s.slot i x h).keep G.hd (fun a o _ e n => G.fr a o e n) fun _ z => z
  frs := s.frs
  rk := s.rk
  st := s.st
  tab := G.tab
  ntd := G.ntd
  ntw := fun a i ps h z => by
    obtain ⟨qs, y⟩ := G.nt a ps z
    exact s.ntw a i qs h y
  nt0 := fun a ps h => by
    obtain ⟨qs, y⟩ := G.nt a ps h
    exact s.nt0 a qs y
end
/-- as U2, of an operation that calls defs -/
def U2S (g : Gx) (r : R2) (o : D → D → Option Vl) : Prop := ∀ (Hd H : Hp) (x y : V) (a b : D) (u : Vl) (Q : VK), Same Hd H → Tabs g.T H → (∀ a ps, Hd a ≠ some (.tbl ps)) → RepT g Hd H a x → RepT g Hd H b y → o a b = some u → (∀ z Hd' H', GrowS g Hd H Hd' H' → VNew g Hd' H' H z u → Q z H') → r x y H Q
section
variable {g : Gx} {W : WX} {X : Cx}
theorem tE_2S {r : R2} {o : D → D → Option Vl} {f h : Mo Vl} (u : U2S g r o) : ∀ σ H Q, tE g W (d2 o f h) σ H Q → tOp r (tE g W f) (tE g W h) σ H Q := by
  rintro σ H Q ⟨F, Hd, E, w, s, p⟩
  refine ⟨F, Hd, E, w, s, (PostA.bind p).imp fun a E1 Hd1 H1 w1 _ e s1 p1 x rx => ?_⟩
  refine ⟨F, Hd1, E1, w1, s1, (PostA.bind p1).imp fun b E2 Hd2 H2 w2 _ e2 s2 p2 y ry => ?_⟩
  unfold lift2 at p2
  cases q : deref E2 a with
  | none => rw [q] at p2; exact p2.elim
  | some da =>
    rw [q] at p2
    cases q' : deref E2 b with
    | none => simp only [q'] at p2; exact p2.elim
    | some db =>
      simp only [q'] at p2
      cases q2 : o da db with
      | none => simp only [q2] at p2; exact p2.elim
      | some v =>
        simp only [q2] at p2
        have rx2 := VRel.eff e2 rx
        refine u Hd2 H2 x y da db v Q s2.ext s2.tab s2.ntd (RepT.of s2 rx2 q) (RepT.of s2 ry q') q2 fun z Hd' H' G n => ?_
        exact p2 Hd' H' w2 (s2.effS G) (s2.growS G) z ((VNew.rel s2 n).start (e.trans e2).dom)
theorem lift1_ok {F : Fc} {σ : L2.St} {Hd H Hd0 H0 : Hp} {w w0 : Ow} {E : En} {r : V → Hp → VK → Prop} {o : D → Option Vl} {a : Vl} {x : V} {Q : VK} (u : U1 g r o) (e0 : Eff Hd0 H0 w0 Hd H w) (s : Sr g F Hd H E σ w) (rx : VRel g Hd H w σ H0 x a)
    (h : PostA g F W σ Hd H w (lift1 o a E) fun a _ Hd' H' w' => ∀ v, VRel g Hd' H' w' σ H0 v a → Q v H') : r x H Q := by
  unfold lift1 at h
  cases q : deref E a with
  | none => rw [q] at h; exact h.elim
  | some d =>
    rw [q] at h
    cases q2 : o d with
    | none => simp only [q2] at h; exact h.elim
    | some v =>
      simp only [q2] at h
      refine u Hd H x d v Q s.ext (RepT.of s rx q) q2 fun z Hd' H' G n => ?_
      exact h Hd' H' w (s.eff G) (s.grow G) z ((VNew.rel s n).start e0.dom)
theorem tE_1 {r : V → Hp → VK → Prop} {o : D → Option Vl} {f : Mo Vl} (u : U1 g r o) : ∀ σ H Q, tE g W (d1 o f) σ H Q → tE g W f σ H fun x H1 => r x H1 Q := by
  rintro σ H Q ⟨F, Hd, E, w, s, p⟩
  refine ⟨F, Hd, E, w, s, (PostA.bind p).imp fun a E1 Hd1 H1 w1 _ e s1 p1 x rx => ?_⟩
  exact lift1_ok u e s1 rx p1
theorem tE_2 {r : R2} {o : D → D → Option Vl} {f h : Mo Vl} (u : U2 g r o) : ∀ σ H Q, tE g W (d2 o f h) σ H Q → tOp r (tE g W f) (tE g W h) σ H Q := by
  rintro σ H Q ⟨F, Hd, E, w, s, p⟩
  refine ⟨F, Hd, E, w, s, (PostA.bind p).imp fun a E1 Hd1 H1 w1 _ e s1 p1 x rx => ?_⟩
  refine ⟨F, Hd1, E1, w1, s1, (PostA.bind p1).imp fun b E2 Hd2 H2 w2 _ e2 s2 p2 y ry => ?_⟩
  unfold lift2 at p2
  cases q : deref E2 a with
  | none => rw [q] at p2; exact p2.elim
  | some da =>
    rw [q] at p2
    cases q' : deref E2 b with
    | none => simp only [q'] at p2; exact p2.elim
    | some db =>
      simp only [q'] at p2
      cases q2 : o da db with
      | none => simp only [q2] at p2; exact p2.elim
      | some v =>
        simp only [q2] at p2
        have rx2 := VRel.eff e2 rx
        refine u Hd2 H2 x y da db v Q s2.ext (RepT.of s2 rx2 q) (RepT.of s2 ry q') q2 fun z Hd' H' G n => ?_
        exact p2 Hd' H' w2 (s2.eff G) (s2.grow G) z ((VNew.rel s2 n).start (e.trans e2).dom)

/-! ### names, constants -/
def dVar (i : Nat) : Mo Vl := fun E => match E[i]? with
  | some (some (.dat d)) => .ok (.dat d) E
  | some (some (.own _)) => .ok (.loc i) E
  | some (some (.ref _)) => .ok (.loc i) E
  | _ => .bad
def dC (d : D) : Mo Vl := mp (.dat d)
theorem tE_var {i : Nat} : ∀ σ H Q, tE g W (dVar i) σ H Q → tVar i σ H Q := by
  rintro σ H Q ⟨F, Hd, E, w, s, p⟩
  unfold dVar at p
  split at p
  · rename_i d q
    obtain ⟨v, h1, h2⟩ := s.slot i _ q
    exact ⟨v, h1, p.here s v h2⟩
  · rename_i d q
    obtain ⟨v, h1, h2⟩ := s.slot i _ q
    exact ⟨_, h1, p.here s _ h1⟩
  · rename_i d q
    obtain ⟨v, h1, h2⟩ := s.slot i _ q
    exact ⟨_, h1, p.here s _ h1⟩
  · exact p.elim
theorem tE_C {d : D} {v : V} (r : ∀ H, Rep g H d v) : ∀ σ H Q, tE g W (dC d) σ H Q → tC v σ H Q := by
  rintro σ H Q ⟨F, Hd, E, w, s, p⟩
  exact p.here s v (r Hd)
theorem de_var (i : Nat) {x : Str} {pos : Pos} (hN : X.N[i]? = some x := by rfl) (hv : Vis X.env.scope x := by first | exact Or.inl rfl | exact Or.inr (Or.inl rfl) | exact Or.inr (Or.inr rfl)) (hd : (x == ("__debug__" : Str)) = false := by decide)
    (hcd : (x == ("__classdict__" : Str)) = false := by decide) : PE X (.Name x pos) (tE g W (dVar i)) := (pe_var hN hv hd hcd).impF tE_var
theorem de_int {i j pos} : PE X (.Constant (.int i) j pos) (tE g W (dC (.int i))) := pe_int.impF (tE_C fun _ => by simp only [Rep])
theorem de_bl {i j pos} : PE X (.Constant (.bool i) j pos) (tE g W (dC (.bl i))) := pe_bl.impF (tE_C fun _ => by simp only [Rep])
theorem de_str {i j pos} : PE X (.Constant (.str i) j pos) (tE g W (dC (.str i))) := pe_str.impF (tE_C fun _ => by simp only [Rep])
theorem de_non {j pos} : PE X (.Constant .none j pos) (tE g W (dC .non)) := pe_non.impF (tE_C fun _ => by simp only [Rep])
/-- a module's constant -/
theorem de_gi {x : Str} {i : Int} {t : Tok} {pos : Pos} (hg : Gl X x) (hm : X.mg x = some (.int i t)) (hd : (x == ("__debug__" : Str)) = false := by decide) : PE X (.Name x pos) (tE g W (dC (.int i))) := (pe_glob (v := .int i) hg hm ⟨_, rfl⟩ hd).impF (tE_C fun _ => by simp only [Rep])
theorem de_gs {x : Str} {i : Str} {t : Tok} {pos : Pos} (hg : Gl X x) (hm : X.mg x = some (.str i t)) (hd : (x == ("__debug__" : Str)) = false := by decide) : PE X (.Name x pos) (tE g W (dC (.str i))) := (pe_glob (v := .str i) hg hm ⟨_, rfl⟩ hd).impF (tE_C fun _ => by simp only [Rep])

/-! ### operators by values -/
theorem de_bin {op : Operator} {a b : Expr} {pos : Pos} {r : R2} {o : D → D → Option Vl} {f h : Mo Vl} (ho : OpR X (binaryOp op) r) (u : U2 g r o) (ha : PE X a (tE g W f)) (hb : PE X b (tE g W h)) : PE X (.BinOp a op b pos) (tE g W (d2 o f h)) := (pe_op ho ha hb).impF (tE_2 u)
theorem de_cmp {op : CmpOp} {a b : Expr} {pos : Pos} {r : R2} {o : D → D → Option Vl} {f h : Mo Vl} (ho : OpR X (compareOp op) r) (u : U2 g r o) (ha : PE X a (tE g W f)) (hb : PE X b (tE g W h)) (hm : behindInMarks op b = false := by exact nomark _) : PE X (.Compare a [op] [b] pos) (tE g W (d2 o f h)) := (pe_cmpR ho ha hb hm).impF (tE_2 u)
theorem de_cmpS {op : CmpOp} {a b : Expr} {pos : Pos} {r : R2} {o : D → D → Option Vl} {f h : Mo Vl} (ho : OpR X (compareOp op) r) (u : U2S g r o) (ha : PE X a (tE g W f)) (hb : PE X b (tE g W h)) (hm : behindInMarks op b = false := by exact nomark _) : PE X (.Compare a [op] [b] pos) (tE g W (d2 o f h)) := (pe_cmpR ho ha hb hm).impF (tE_2S u)
theorem de_un {op : UnaryOp} {a : Expr} {pos : Pos} {r : V → Hp → VK → Prop} {o : D → Option Vl} {f : Mo Vl} (ho : UnR X (unaryOp op) r) (u : U1 g r o) (ha : PE X a (tE g W f)) : PE X (.UnaryOp op a pos) (tE g W (d1 o f)) := (pe_un ho ha).impF (tE_1 u)

theorem OpR.or {f : Value → Value → Sem Value} {r r' : R2} (h : OpR X f r) (h' : OpR X f r') : OpR X f (fun x y H Q => r x y H Q ∨ r' x y H Q) := by
  intro pins s σ H x y v u Q I rx ry q
  exact q.elim (h pins s σ H x y v u Q I rx ry) (h' pins s σ H x y v u Q I rx ry)
theorem U2.or {r r' : R2} {o o' : D → D → Option Vl} (h : U2 g r o) (h' : U2 g r' o') : U2 g (fun x y H Q => r x y H Q ∨ r' x y H Q) (fun a b => match o a b with | some v => some v | none => o' a b) := by
  intro Hd H x y a b u Q e ra rb q k
  dsimp only at q
  cases z : o a b with
  | some v => rw [z] at q; cases q; exact .inl (h Hd H x y a b _ Q e ra rb z k)
  | none => rw [z] at q; exact .inr (h' Hd H x y a b u Q e ra rb q k)
end
end Fx

/-! Fx3: what becomes data; names bound; statements -/
namespace Fx
open PySem PySem.Spec PyProof.Rows L2 LamX

/-- as data: a new object, or a slot's, is handed over for good -/
def frz (a : Vl) : Mo D := fun E => match a with
  | .dat d => .ok d E
  | .own (.lst xs) => .ok (.lst xs) E
  | .own (.obj c ds) => if (ds.length == (cFn c).length) = true then .ok (.ins c ds) E else .bad
  | .own _ => .bad
  | .loc i => match E[i]? with
    | some (some (.own (.lst xs))) => .ok (.lst xs) (E.set i (some (.dat (.lst xs))))
    | _ => .bad
def frzM (f : Mo Vl) : Mo D := mb f frz
def asD (f : Mo Vl) : Mo Vl := mb f fun a => mb (frz a) fun d => mp (.dat d)

open Classical in
/-- the objects at A become data -/
noncomputable def toData (Hd H : Hp) (A : Addr → Prop) : Hp := fun a => if A a then H a else Hd a
section
variable {g : Gx} {F : Fc} {W : WX} {σ : L2.St} {Hd H Hd0 H0 : Hp} {w w0 : Ow} {E : En}
theorem toData_in {A : Addr → Prop} {a : Addr} (h : A a) : toData Hd H A a = H a := by unfold toData; rw [if_pos h]
theorem toData_out {A : Addr → Prop} {a : Addr} (h : ¬ A a) : toData Hd H A a = Hd a := by unfold toData; rw [if_neg h]
theorem toData_same {A : Addr → Prop} (h : ∀ a, A a → Hd a = none) : Same Hd (toData Hd H A) := fun a o e => by
  rw [toData_out fun z => by rw [h a z] at e; cases e]; exact e
theorem toData_sub {A : Addr → Prop} (s : Same Hd H) : Same (toData Hd H A) H := fun a o e => by
  by_cases z : A a
  · rw [toData_in z] at e; exact e
  · rw [toData_out z] at e; exact s a o e
/-- w without slot i -/
def wOut (w : Ow) (i : Nat) : Ow := fun a => if w a = some i then none else w a
theorem wOut_some {a : Addr} {i j : Nat} : wOut w i a = some j ↔ w a = some j ∧ j ≠ i := by
  unfold wOut
  split
  · rename_i h
    constructor
    · intro z; cases z
    · rintro ⟨z, n⟩
      rw [h] at z
      exact absurd (Option.some.inj z).symm n
  · rename_i h
    constructor
    · intro z
      exact ⟨z, fun e => h (by rw [z, e])⟩
    · exact fun z => z.1
theorem isRef_ne {E : En} {i : Nat} {x : Option S} {j : Nat} (h : isRef E[j]?) (hi : ¬ isRef E[i]?) : isRef (E.set i x)[j]? := by
  by_cases e : i = j
  · subst e; exact absurd h hi
  · rw [List.getElem?_set_ne e]; exact h
theorem hasO_ne {E : En} {i j : Nat} {x : Option S} (h : hasO E[j]?) (hj : j ≠ i) : hasO (E.set i x)[j]? := by
  rw [List.getElem?_set_ne (Ne.symm hj)]; exact h
/-- a slot of one's own becomes data -/
theorem Sr.freeze {i : Nat} {xs : List D} (s : Sr g F Hd H E σ w) (q : E[i]? = some (some (.own (.lst xs)))) :
    ∃ v, σ[i]? = some (some v) ∧ Rep g (toData Hd H fun a => w a = some i) (.lst xs) v ∧ Sr g F (toData Hd H fun a => w a = some i) H (E.set i (some (.dat (.lst xs)))) σ (wOut w i) := by
  obtain ⟨p, h1, h2, vs, h3, h4, h5⟩ := s.slot i _ q
  have sd : Same Hd (toData Hd H fun a => w a = some i) := toData_same fun a z => s.hdn a i z
  have r : Rep g (toData Hd H fun a => w a = some i) (.lst xs) (.ref p) := by
    simp only [Rep]
    exact ⟨p, vs, rfl, (toData_in h2).trans h3, h4, h5.mono sd⟩
  refine ⟨.ref p, h1, r, toData_sub s.ext, s.dom, fun a j z => ?_, fun a j z => s.wh a j (wOut_some.mp z).1, by rw [List.length_set]; exact s.len, fun j x e => ?_, fun a j o z e => ?_, fun q' hq => ?_, fun a j z => ?_, s.tab, fun a ps z => ?_, fun a j ps z => s.ntw a j ps (wOut_some.mp z).1, s.nt0⟩
  · obtain ⟨z1, z2⟩ := wOut_some.mp z
    rw [toData_out fun y => z2 (Option.some.inj (z1.symm.trans y))]
    exact s.hdn a j z1
  · by_cases ij : i = j
    · subst ij
      rw [List.getElem?_set_self (by exact (List.getElem?_eq_some_iff.mp q).1)] at e
      cases e
      exact ⟨.ref p, h1, r⟩
    · rw [List.getElem?_set_ne ij] at e
      exact (s.slot j x e).keep sd (fun _ _ _ z _ => z) fun a z => wOut_some.mpr ⟨z, fun y => ij y.symm⟩
  · obtain ⟨z1, z2⟩ := wOut_some.mp z
    rw [List.getElem?_set_ne (fun y => z2 y.symm)] at e
    exact s.frs a j o z1 e
  · obtain ⟨y1, y2⟩ := s.rk q' hq
    exact ⟨y1, isRef_ne y2 (by rw [q]; exact fun z => z)⟩
  · exact hasO_ne (s.st a j (wOut_some.mp z).1) (wOut_some.mp z).2
  · by_cases y : w a = some i
    · rw [toData_in y] at z; exact s.ntw a i ps y z
    · rw [toData_out y] at z; exact s.ntd a ps z
theorem frz_ok {a : Vl} {d : D} {E' : En} {x : V} (e0 : Eff Hd0 H0 w0 Hd H w) (s : Sr g F Hd H E σ w) (rx : VRel g Hd H w σ H0 x a) (h : frz a E = .ok d E') : ∃ Hd' w', Eff Hd0 H0 w0 Hd' H w' ∧ Sr g F Hd' H E' σ w' ∧ Rep g Hd' d x := by
  have newD : ∀ {A : Addr → Prop}, (∀ a, A a → H0 a = none ∧ Hd a = none ∧ w a = none ∧ H a ≠ none) → Eff Hd0 H0 w0 (toData Hd H A) H w ∧ Sr g F (toData Hd H A) H E σ w ∧ Same Hd (toData Hd H A) := fun {A} hA => by
    have sd : Same Hd (toData Hd H A) := toData_same fun a z => (hA a z).2.1
    refine ⟨⟨e0.hd.trans sd, e0.fr, e0.dom, e0.wi, fun b z => ?_, e0.nt⟩, ⟨toData_sub s.ext, s.dom, fun b j z => ?_, s.wh, s.len, fun j y e => (s.slot j y e).keep sd (fun _ _ _ z _ => z) fun _ z => z, s.frs, s.rk, s.st, s.tab, fun b ps z => ?_, s.ntw, s.nt0⟩, sd⟩
    · by_cases hb : A b
      · exact .inr (.inr (hA b hb).1)
      · rw [toData_out hb] at z; exact e0.hn b z
    · rw [toData_out fun y => by rw [(hA b y).2.2.1] at z; cases z]
      exact s.hdn b j z
    · by_cases hb : A b
      · rw [toData_in hb] at z
        obtain ⟨qs, y⟩ := e0.nt b ps z
        rw [(hA b hb).1] at y; cases y
      · rw [toData_out hb] at z; exact s.ntd b ps z
  cases a with
  | dat d' =>
    simp only [frz, Re.ok.injEq] at h
    obtain ⟨rfl, rfl⟩ := h
    exact ⟨Hd, w, e0, s, rx⟩
  | own o =>
    obtain ⟨p, A, h1, h2, h3⟩ := rx
    obtain ⟨k1, k2, sd⟩ := newD h2
    cases o with
    | lst xs =>
      simp only [frz, Re.ok.injEq] at h
      obtain ⟨rfl, rfl⟩ := h
      obtain ⟨hp, vs, e1, e2, e3⟩ := h3
      refine ⟨_, w, k1, k2, ?_⟩
      simp only [Rep]
      exact ⟨p, vs, h1, (toData_in hp).trans e1, e2, e3.mono sd⟩
    | obj c fs =>
      simp only [frz] at h
      split at h
      · rename_i hc
        simp only [Re.ok.injEq] at h
        obtain ⟨rfl, rfl⟩ := h
        obtain ⟨hp, dx, vs, e1, e2, e3⟩ := h3
        refine ⟨_, w, k1, k2, ?_⟩
        simp only [Rep]
        exact ⟨p, dx, vs, h1, (toData_in hp).trans e1, by rw [← e3.length]; exact (eq_of_beq hc).symm, e3.mono sd⟩
      · cases h
    | dct _ => simp [frz] at h
    | bench _ _ _ => simp [frz] at h
  | loc i =>
    simp only [frz] at h
    split at h
    · rename_i xs q
      simp only [Re.ok.injEq] at h
      obtain ⟨rfl, rfl⟩ := h
      obtain ⟨v, z1, z2, z3⟩ := s.freeze q
      have hv : x = v := by
        have y := (show σ[i]? = some (some x) from rx).symm.trans z1
        simpa using y
      subst hv
      have sd : Same Hd (toData Hd H fun a => w a = some i) := toData_same fun a z => s.hdn a i z
      refine ⟨_, _, ⟨e0.hd.trans sd, e0.fr, e0.dom, fun b j z => e0.wi b j (wOut_some.mp z).1, fun b z => ?_, e0.nt⟩, z3, z2⟩
      · by_cases hb : w b = some i
        · rcases e0.wn b (by rw [hb]; simp) with y | y
          · exact .inr (.inl y)
          · exact .inr (.inr y)
        · rw [toData_out hb] at z; exact e0.hn b z
    · cases h
/-- the bind with frz, at the end of an evaluation -/
theorem frz_post {a : Vl} {x : V} {K : D → En → Hp → Hp → Ow → Prop} (e0 : Eff Hd0 H0 w0 Hd H w) (s : Sr g F Hd H E σ w) (rx : VRel g Hd H w σ H0 x a)
    (h : PostA g F W σ Hd0 H0 w0 (frz a E) K) : ∃ d E' Hd' w', frz a E = .ok d E' ∧ Eff Hd0 H0 w0 Hd' H w' ∧ Sr g F Hd' H E' σ w' ∧ Rep g Hd' d x ∧ K d E' Hd' H w' := by
  cases q : frz a E with
  | ok d E' =>
    rw [q] at h
    obtain ⟨Hd', w', k1, k2, k3⟩ := frz_ok e0 s rx q
    exact ⟨d, E', Hd', w', rfl, k1, k2, k3, h Hd' H w' k1 k2⟩
  | exc x E' =>
    exfalso
    cases a with
    | dat _ => simp [frz] at q
    | own o => cases o <;> simp [frz] at q <;> split at q <;> cases q
    | loc i => simp only [frz] at q; split at q <;> cases q
  | bad => rw [q] at h; exact h.elim
end
/-- as PostA.bind, with the state ahead -/
theorem PostA.bind0 {α β : Type} {g : Gx} {F : Fc} {W : WX} {σ : L2.St} {Hd H : Hp} {w : Ow} {f : Mo α} {k : α → Mo β} {E : En} {K : β → En → Hp → Hp → Ow → Prop} (h : PostA g F W σ Hd H w (mb f k E) K) :
    PostA g F W σ Hd H w (f E) fun a E1 _ _ _ => PostA g F W σ Hd H w (k a E1) K := by
  unfold mb at h
  cases q : f E with
  | ok a E' =>
    rw [q] at h
    exact fun Hd' H' w' e s => h
  | exc x E' => rw [q] at h; exact h
  | bad => rw [q] at h; exact h
section
variable {g : Gx} {W : WX} {X : Cx}
theorem de_asD {e : Expr} {f : Mo Vl} (h : PE X e (tE g W f)) : PE X e (tE g W (asD f)) := h.impF fun σ H Q ⟨F, Hd, E, w, s, p⟩ => by
  refine ⟨F, Hd, E, w, s, (PostA.bind0 p).imp fun a E1 Hd1 H1 w1 _ e1 s1 p1 x rx => ?_⟩
  obtain ⟨d, E', Hd', w', _, k1, k2, k3, k4⟩ := frz_post e1 s1 rx (PostA.bind0 p1)
  exact k4 Hd' H1 w' k1 k2 x k3

/-! ### statements -/
inductive Fl where
  | next | ret (a : Vl) | brk | cont
def PostS (g : Gx) (F : Fc) (W : WX) (Hd H : Hp) (w : Ow) (r : Re Fl) (D : Ends) : Prop := match r with
  | .ok f E' => ∀ σ' Hd' H' w', Eff Hd H w Hd' H' w' → Sr g F Hd' H' E' σ' w' → match f with
    | .next => D.nx σ' H'
    | .ret a => ∀ v, VRel g Hd' H' w' σ' F.H0 v a → D.rt v H'
    | .brk => D.bk σ' H'
    | .cont => D.ct σ' H'
  | .exc x E' => ∀ cls d σ' Hd' H' w', Eff Hd H w Hd' H' w' → Sr g F Hd' H' E' σ' w' → XRel g x cls d H' → W cls d σ' H'
  | .bad => False
def tS (g : Gx) (W : WX) (f : Mo Fl) : TS := fun D σ H => ∃ F Hd E w, Sr g F Hd H E σ w ∧ PostS g F W Hd H w (f E) D
theorem PostS.shift {F : Fc} {Hd H Hd1 H1 : Hp} {w w1 : Ow} {r : Re Fl} {D : Ends} (h : PostS g F W Hd H w r D) (e : Eff Hd H w Hd1 H1 w1) : PostS g F W Hd1 H1 w1 r D := by
  cases r with
  | ok f E' => exact fun σ' Hd' H' w' e' s => h σ' Hd' H' w' (e.trans e') s
  | exc x E' => exact fun cls d σ' Hd' H' w' e' s z => h cls d σ' Hd' H' w' (e.trans e') s z
  | bad => exact h
/-- an evaluation, then what follows -/
theorem PostS.bind {α : Type} {F : Fc} {Hd H : Hp} {w : Ow} {f : Mo α} {k : α → Mo Fl} {E : En} {D : Ends} {σ : L2.St} (h : PostS g F W Hd H w (mb f k E) D) :
    PostA g F W σ Hd H w (f E) fun a E1 Hd1 H1 w1 => PostS g F W Hd1 H1 w1 (k a E1) D := by
  unfold mb at h
  cases q : f E with
  | ok a E' =>
    rw [q] at h
    exact fun Hd' H' w' e s => PostS.shift h e
  | exc x E' => rw [q] at h; exact fun cls d Hd' H' w' e s z => h cls d σ Hd' H' w' e s z
  | bad => rw [q] at h; exact h
theorem PostS.bind0 {α : Type} {F : Fc} {Hd H : Hp} {w : Ow} {f : Mo α} {k : α → Mo Fl} {E : En} {D : Ends} {σ : L2.St} (h : PostS g F W Hd H w (mb f k E) D) :
    PostA g F W σ Hd H w (f E) fun a E1 Hd1 H1 w1 => PostS g F W Hd H w (k a E1) D := by
  unfold mb at h
  cases q : f E with
  | ok a E' =>
    rw [q] at h
    exact fun Hd' H' w' e s => h
  | exc x E' => rw [q] at h; exact fun cls d Hd' H' w' e s z => h cls d σ Hd' H' w' e s z
  | bad => rw [q] at h; exact h
def sSkip : Mo Fl := mp .next
def sSeq (f h : Mo Fl) : Mo Fl := mb f fun
  | .next => h
  | .ret a => mp (.ret a)
  | .brk => mp .brk
  | .cont => mp .cont
theorem dss_nil : PSs X [] (tS g W sSkip) := pss_nil.impF fun D σ H ⟨F, Hd, E, w, s, p⟩ => p σ Hd H w Eff.refl s
theorem ds_pass {pos} : PS X (.Pass pos) (tS g W sSkip) := ps_pass.impF fun D σ H ⟨F, Hd, E, w, s, p⟩ => p σ Hd H w Eff.refl s
theorem ds_break {pos} : PS X (.Break pos) (tS g W (mp .brk)) := ps_break.impF fun D σ H ⟨F, Hd, E, w, s, p⟩ => p σ Hd H w Eff.refl s
theorem ds_continue {pos} : PS X (.Continue pos) (tS g W (mp .cont)) := ps_continue.impF fun D σ H ⟨F, Hd, E, w, s, p⟩ => p σ Hd H w Eff.refl s
theorem dss_cons {st : Stmt} {rest : List Stmt} {f h : Mo Fl} (h1 : PS X st (tS g W f)) (h2 : PSs X rest (tS g W h)) : PSs X (st :: rest) (tS g W (sSeq f h)) := (pss_cons h1 h2).impF fun D σ H ⟨F, Hd, E, w, s, p⟩ => by
  refine ⟨F, Hd, E, w, s, ?_⟩
  unfold sSeq mb at p
  cases q : f E with
  | ok a E' =>
    rw [q] at p
    intro σ' Hd' H' w' e s'
    cases a with
    | next => exact ⟨F, Hd', E', w', s', PostS.shift p e⟩
    | ret a => exact p σ' Hd' H' w' e s'
    | brk => exact p σ' Hd' H' w' e s'
    | cont => exact p σ' Hd' H' w' e s'
  | exc x E' => rw [q] at p; exact p
  | bad => rw [q] at p; exact p
theorem dss_one {st : Stmt} {f : Mo Fl} (h1 : PS X st (tS g W f)) : PSs X [st] (tS g W f) := pss_one h1
def sDrop (f : Mo Vl) : Mo Fl := mb f fun _ => mp .next
theorem ds_expr {e : Expr} {pos : Pos} {f : Mo Vl} (he : PE X e (tE g W f)) (hs : swapsWith e none pos.line X.env = pure false := by rfl) : PS X (.Expr e pos) (tS g W (sDrop f)) := (ps_expr he hs).impF fun D σ H ⟨F, Hd, E, w, s, p⟩ => by
  refine ⟨F, Hd, E, w, s, (PostS.bind p).imp fun a E1 Hd1 H1 w1 _ e s1 p1 v _ => ?_⟩
  exact p1 σ Hd1 H1 w1 Eff.refl s1
def sRet (f : Mo Vl) : Mo Fl := mb f fun a => mp (.ret a)
theorem ds_ret {e : Expr} {pos : Pos} {f : Mo Vl} (he : PE X e (tE g W f)) : PS X (.Return (some e) pos) (tS g W (sRet f)) := (ps_ret he).impF fun D σ H ⟨F, Hd, E, w, s, p⟩ => by
  refine ⟨F, Hd, E, w, s, (PostS.bind p).imp fun a E1 Hd1 H1 w1 _ e s1 p1 v rv => ?_⟩
  exact p1 σ Hd1 H1 w1 Eff.refl s1 v (rv.start s.dom)
theorem ds_retN {pos} : PS X (.Return none pos) (tS g W (mp (.ret (.dat .non)))) := ps_retN.impF fun D σ H ⟨F, Hd, E, w, s, p⟩ => p σ Hd H w Eff.refl s .non (by show Rep g Hd .non .non; simp only [Rep])
def sIf (c : Mo Bool) (f h : Mo Fl) : Mo Fl := mb c fun b => if b = true then f else h
theorem ds_if {c : Expr} {a b : List Stmt} {pos : Pos} {fc : Mo Bool} {f h : Mo Fl} (hc : PT X c (tT g W fc)) (ha : PSs X a (tS g W f)) (hb : PSs X b (tS g W h)) : PS X (.If c a b pos) (tS g W (sIf fc f h)) := (ps_if hc ha hb).impF fun D σ H ⟨F, Hd, E, w, s, p⟩ => by
  refine ⟨F, Hd, E, w, s, (PostS.bind p).imp fun b E1 Hd1 H1 w1 _ e s1 p1 => ?_⟩
  cases b with
  | true => rw [if_pos rfl]; exact ⟨F, Hd1, E1, w1, s1, p1⟩
  | false => rw [if_neg Bool.false_ne_true]; exact ⟨F, Hd1, E1, w1, s1, p1⟩

/-! ### tests -/
def toB (f : Mo Vl) : Mo Bool := mb f fun a => match a with
  | .dat (.bl b) => mp b
  | _ => fun _ => .bad
theorem dt_val {e : Expr} {f : Mo Vl} (h : PE X e (tE g W f)) (he : ∀ whole, isTrue e X.env whole = (do let v ← whole; standAt e.pos; holding [v] (truthy v)) := by intro _; rfl) : PT X e (tT g W (toB f)) := (pt_val h he).impF fun σ H Q ⟨F, Hd, E, w, s, p⟩ => by
  refine ⟨F, Hd, E, w, s, (PostA.bind p).imp fun a E1 Hd1 H1 w1 _ e s1 p1 v rv => ?_⟩
  split at p1
  · rename_i b _
    have q : v = .bl b := by simpa only [VRel, Rep] using rv
    exact ⟨b, q, p1.here s1⟩
  · exact p1.elim
theorem dt_cmp {op : CmpOp} {a b : Expr} {pos : Pos} {r : R2} {o : D → D → Option Vl} {f h : Mo Vl} (ho : OpR X (compareOp op) r) (u : U2 g r o) (ha : PE X a (tE g W f)) (hb : PE X b (tE g W h)) (hm : behindInMarks op b = false := by exact nomark _) : PT X (.Compare a [op] [b] pos) (tT g W (toB (d2 o f h))) := (pt_cmpR ho ha hb hm).impF fun σ H Q ⟨F, Hd, E, w, s, p⟩ => by
  have z := tE_2 u σ H (fun v H1 => ∃ c, v = .bl c ∧ Q c H1) ⟨F, Hd, E, w, s, (PostA.bind p).imp fun a E1 Hd1 H1 w1 _ e s1 p1 v rv => by
    split at p1
    · rename_i b _
      have q : v = .bl b := by simpa only [VRel, Rep] using rv
      exact ⟨b, q, p1.here s1⟩
    · exact p1.elim⟩
  exact z
theorem dt_cmpS {op : CmpOp} {a b : Expr} {pos : Pos} {r : R2} {o : D → D → Option Vl} {f h : Mo Vl} (ho : OpR X (compareOp op) r) (u : U2S g r o) (ha : PE X a (tE g W f)) (hb : PE X b (tE g W h)) (hm : behindInMarks op b = false := by exact nomark _) : PT X (.Compare a [op] [b] pos) (tT g W (toB (d2 o f h))) := (pt_cmpR ho ha hb hm).impF fun σ H Q ⟨F, Hd, E, w, s, p⟩ => by
  have z := tE_2S u σ H (fun v H1 => ∃ c, v = .bl c ∧ Q c H1) ⟨F, Hd, E, w, s, (PostA.bind p).imp fun a E1 Hd1 H1 w1 _ e s1 p1 v rv => by
    split at p1
    · rename_i b _
      have q : v = .bl b := by simpa only [VRel, Rep] using rv
      exact ⟨b, q, p1.here s1⟩
    · exact p1.elim⟩
  exact z
def bNot (c : Mo Bool) : Mo Bool := mb c fun b => mp (!b)
def bAnd (c d : Mo Bool) : Mo Bool := mb c fun b => if b = true then d else mp false
def bOr (c d : Mo Bool) : Mo Bool := mb c fun b => if b = true then mp true else d
theorem dt_not {e : Expr} {pos : Pos} {f : Mo Bool} (h : PT X e (tT g W f)) : PT X (.UnaryOp .Not e pos) (tT g W (bNot f)) := (pt_not h).impF fun σ H Q ⟨F, Hd, E, w, s, p⟩ => by
  refine ⟨F, Hd, E, w, s, (PostA.bind p).imp fun b E1 Hd1 H1 w1 _ e s1 p1 => ?_⟩
  exact p1.here s1
theorem dw_and1 {a : Expr} {pos : Pos} {f : Mo Bool} (h : PT X a (tT g W f)) : PW X (.BoolOp .And [a] pos) (tT g W f) := pw_and1 h
theorem dw_or1 {a : Expr} {pos : Pos} {f : Mo Bool} (h : PT X a (tT g W f)) : PW X (.BoolOp .Or [a] pos) (tT g W f) := pw_or1 h
theorem dw_and {a b : Expr} {rest : List Expr} {pos : Pos} {f h : Mo Bool} (ha : PT X a (tT g W f)) (hb : PW X (.BoolOp .And (b :: rest) pos) (tT g W h)) : PW X (.BoolOp .And (a :: b :: rest) pos) (tT g W (bAnd f h)) := (pw_and ha hb).impF fun σ H Q ⟨F, Hd, E, w, s, p⟩ => by
  refine ⟨F, Hd, E, w, s, (PostA.bind p).imp fun b E1 Hd1 H1 w1 _ e s1 p1 => ?_⟩
  cases b with
  | true => rw [if_pos rfl]; exact ⟨F, Hd1, E1, w1, s1, p1⟩
  | false => rw [if_neg Bool.false_ne_true] at p1 ⊢; exact p1.here s1
theorem dw_or {a b : Expr} {rest : List Expr} {pos : Pos} {f h : Mo Bool} (ha : PT X a (tT g W f)) (hb : PW X (.BoolOp .Or (b :: rest) pos) (tT g W h)) : PW X (.BoolOp .Or (a :: b :: rest) pos) (tT g W (bOr f h)) := (pw_or ha hb).impF fun σ H Q ⟨F, Hd, E, w, s, p⟩ => by
  refine ⟨F, Hd, E, w, s, (PostA.bind p).imp fun b E1 Hd1 H1 w1 _ e s1 p1 => ?_⟩
  cases b with
  | true => rw [if_pos rfl] at p1 ⊢; exact p1.here s1
  | false => rw [if_neg Bool.false_ne_true] at p1 ⊢; exact ⟨F, Hd1, E1, w1, s1, p1⟩
def dIf (c : Mo Bool) (f h : Mo Vl) : Mo Vl := mb c fun b => if b = true then f else h
/-- another start of the fresh objects -/
theorem tE_of {f : Mo Vl} {F : Fc} {σ : L2.St} {Hd H Hd1 H1 : Hp} {w w1 : Ow} {E1 : En} {Q : VK} (e : Eff Hd H w Hd1 H1 w1) (s1 : Sr g F Hd1 H1 E1 σ w1)
    (p : PostA g F W σ Hd1 H1 w1 (f E1) fun a _ Hd' H' w' => ∀ v, VRel g Hd' H' w' σ H v a → Q v H') : tE g W f σ H1 Q :=
  ⟨F, Hd1, E1, w1, s1, p.imp fun a E' Hd' H' w' _ e' s' k v rv => k v (rv.start e.dom)⟩
theorem de_if {c a b : Expr} {pos : Pos} {fc : Mo Bool} {f h : Mo Vl} (hc : PT X c (tT g W fc)) (ha : PE X a (tE g W f)) (hb : PE X b (tE g W h)) : PE X (.IfExp c a b pos) (tE g W (dIf fc f h)) := (pe_ifExp hc ha hb).impF fun σ H Q ⟨F, Hd, E, w, s, p⟩ => by
  refine ⟨F, Hd, E, w, s, (PostA.bind p).imp fun b E1 Hd1 H1 w1 _ e s1 p1 => ?_⟩
  cases b with
  | true => rw [if_pos rfl]; exact tE_of e s1 p1
  | false => rw [if_neg Bool.false_ne_true]; exact tE_of e s1 p1
/-- a and b, a or b, not a as values (bools but the last) -/
def dAnd (f h : Mo Vl) : Mo Vl := mb (toB f) fun b => if b = true then h else mp (.dat (.bl false))
def dOr (f h : Mo Vl) : Mo Vl := mb (toB f) fun b => if b = true then mp (.dat (.bl true)) else h
def dNot (f : Mo Vl) : Mo Vl := mb (toB f) fun b => mp (.dat (.bl (!b)))
theorem toB_post {F : Fc} {σ : L2.St} {Hd H : Hp} {w : Ow} {E : En} {f : Mo Vl} {K : Bool → En → Hp → Hp → Ow → Prop} (p : PostA g F W σ Hd H w (toB f E) K) : PostA g F W σ Hd H w (f E) fun a E1 Hd1 H1 w1 => ∀ v, VRel g Hd1 H1 w1 σ H v a → ∃ c, v = .bl c ∧ K c E1 Hd1 H1 w1 :=
  (PostA.bind p).imp fun a E1 Hd1 H1 w1 _ e s1 p1 v rv => by
    split at p1
    · rename_i b _
      have q : v = .bl b := by simpa only [VRel, Rep] using rv
      exact ⟨b, q, p1.here s1⟩
    · exact p1.elim
theorem de_one {op} {a : Expr} {pos : Pos} {f : Mo Vl} (h : PE X a (tE g W f)) : PE X (.BoolOp op [a] pos) (tE g W f) := pe_one h
theorem PostA.and {α : Type} {F : Fc} {σ : L2.St} {Hd H : Hp} {w : Ow} {r : Re α} {K : α → En → Hp → Hp → Ow → Prop} (p : PostA g F W σ Hd H w r K) : PostA g F W σ Hd H w r fun a E' Hd' H' w' => K a E' Hd' H' w' ∧ Eff Hd H w Hd' H' w' ∧ Sr g F Hd' H' E' σ w' :=
  p.imp fun _ _ _ _ _ _ e s k => ⟨k, e, s⟩
theorem de_and {a b : Expr} {rest : List Expr} {pos : Pos} {f h : Mo Vl} (ha : PE X a (tE g W f)) (hb : PE X (.BoolOp .And (b :: rest) pos) (tE g W h)) : PE X (.BoolOp .And (a :: b :: rest) pos) (tE g W (dAnd f h)) := (pe_and ha hb).impF fun σ H Q ⟨F, Hd, E, w, s, p⟩ => by
  refine ⟨F, Hd, E, w, s, (toB_post (PostA.and (PostA.bind p))).imp fun a E1 Hd1 H1 w1 _ e s1 p1 v rv => ?_⟩
  obtain ⟨c, rfl, p1, _⟩ := p1 v rv
  refine ⟨c, rfl, ?_⟩
  cases c with
  | true => rw [if_pos rfl] at p1 ⊢; exact tE_of e s1 p1
  | false => rw [if_neg Bool.false_ne_true] at p1 ⊢; exact p1.here s1 _ (by show Rep g Hd1 (.bl false) (.bl false); simp only [Rep])
theorem de_or {a b : Expr} {rest : List Expr} {pos : Pos} {f h : Mo Vl} (ha : PE X a (tE g W f)) (hb : PE X (.BoolOp .Or (b :: rest) pos) (tE g W h)) : PE X (.BoolOp .Or (a :: b :: rest) pos) (tE g W (dOr f h)) := (pe_or ha hb).impF fun σ H Q ⟨F, Hd, E, w, s, p⟩ => by
  refine ⟨F, Hd, E, w, s, (toB_post (PostA.and (PostA.bind p))).imp fun a E1 Hd1 H1 w1 _ e s1 p1 v rv => ?_⟩
  obtain ⟨c, rfl, p1, _⟩ := p1 v rv
  refine ⟨c, rfl, ?_⟩
  cases c with
  | true => rw [if_pos rfl] at p1 ⊢; exact p1.here s1 _ (by show Rep g Hd1 (.bl true) (.bl true); simp only [Rep])
  | false => rw [if_neg Bool.false_ne_true] at p1 ⊢; exact tE_of e s1 p1
theorem de_not {a : Expr} {pos : Pos} {f : Mo Vl} (ha : PE X a (tE g W f)) : PE X (.UnaryOp .Not a pos) (tE g W (dNot f)) := (pe_not ha).impF fun σ H Q ⟨F, Hd, E, w, s, p⟩ => by
  refine ⟨F, Hd, E, w, s, (toB_post (PostA.and (PostA.bind p))).imp fun a E1 Hd1 H1 w1 _ e s1 p1 v rv => ?_⟩
  obtain ⟨c, rfl, p1, _⟩ := p1 v rv
  exact ⟨c, rfl, p1.here s1 _ (by show Rep g Hd1 (.bl (!c)) (.bl (!c)); simp only [Rep])⟩
end
end Fx

/-! Fx4: targets, assignments, loops -/
namespace Fx
open PySem PySem.Spec PyProof.Rows L2 LamX

def canSet : Option (Option S) → Bool
  | some none => true
  | some (some (.dat _)) => true
  | some (some (.own _)) => true
  | _ => false
def setD (i : Nat) (d : D) : Mo Unit := fun E => if canSet E[i]? = true then .ok () (E.set i (some (.dat d))) else .bad
def setO (i : Nat) (o : O) : Mo Unit := fun E => if canSet E[i]? = true then .ok () (E.set i (some (.own o))) else .bad
section
variable {g : Gx} {F : Fc} {W : WX} {σ : L2.St} {Hd H Hd0 H0 : Hp} {w w0 : Ow} {E : En}
theorem canSet_lt {i : Nat} (h : canSet E[i]? = true) : i < E.length := by
  cases q : E[i]? with
  | none => rw [q] at h; simp [canSet] at h
  | some x => exact (List.getElem?_eq_some_iff.mp q).1
theorem canSet_ref {i : Nat} (h : canSet E[i]? = true) : ¬ isRef E[i]? := by
  intro z
  unfold isRef at z
  split at z
  · rename_i q; rw [q] at h; simp [canSet] at h
  · rename_i q; rw [q] at h; simp [canSet] at h
  · exact z
theorem Eff.out {i : Nat} : Eff Hd H w Hd H (wOut w i) := ⟨Same.refl _, fun _ _ h _ _ => h, fun _ h => h, fun a j h => .inl (wOut_some.mp h).1, fun _ h => .inl h, fun _ ps h => ⟨ps, h⟩⟩
theorem Sr.setD {i : Nat} {d : D} {v : V} (s : Sr g F Hd H E σ w) (h : canSet E[i]? = true) (r : Rep g Hd d v) : Sr g F Hd H (E.set i (some (.dat d))) (σ.set i (some v)) (wOut w i) := by
  have li : i < E.length := canSet_lt h
  have nr : ¬ isRef E[i]? := canSet_ref h
  refine ⟨s.ext, s.dom, fun a j z => s.hdn a j (wOut_some.mp z).1, fun a j z => s.wh a j (wOut_some.mp z).1, by simpa using s.len, fun j x e => ?_, fun a j o z e => ?_, fun q hq => ?_, fun a j z => ?_, s.tab, s.ntd, fun a j ps z => s.ntw a j ps (wOut_some.mp z).1, s.nt0⟩
  · by_cases ij : i = j
    · subst ij
      rw [List.getElem?_set_self li] at e
      cases e
      exact ⟨v, List.getElem?_set_self (by rw [← s.len]; exact li), r⟩
    · rw [List.getElem?_set_ne ij] at e
      have k := (s.slot j x e).keep (Same.refl Hd) (H' := H) (w' := wOut w i) (fun _ _ _ z _ => z) fun a z => wOut_some.mpr ⟨z, fun y => ij y.symm⟩
      revert k
      unfold SlotOk
      rw [List.getElem?_set_ne ij]
      exact fun k => k
  · obtain ⟨z1, z2⟩ := wOut_some.mp z
    rw [List.getElem?_set_ne (fun y => z2 y.symm)] at e
    exact s.frs a j o z1 e
  · obtain ⟨y1, y2⟩ := s.rk q hq
    have ne : i ≠ q.1 := fun e => nr (by rw [e]; exact y2)
    exact ⟨by rw [List.getElem?_set_ne ne]; exact y1, isRef_ne y2 nr⟩
  · exact hasO_ne (s.st a j (wOut_some.mp z).1) (wOut_some.mp z).2
open Classical in
/-- w with the objects at A given to slot i -/
noncomputable def wIn (w : Ow) (i : Nat) (A : Addr → Prop) : Ow := fun a => if A a then some i else wOut w i a
theorem wIn_in {A : Addr → Prop} {a : Addr} {i : Nat} (h : A a) : wIn w i A a = some i := by unfold wIn; rw [if_pos h]
theorem wIn_out {A : Addr → Prop} {a : Addr} {i : Nat} (h : ¬ A a) : wIn w i A a = wOut w i a := by unfold wIn; rw [if_neg h]
theorem Sr.setO {i : Nat} {o : O} {p : Addr} {A : Addr → Prop} (s : Sr g F Hd H E σ w) (h : canSet E[i]? = true) (hA : ∀ a, A a → F.H0 a = none ∧ Hd a = none ∧ w a = none ∧ H a ≠ none) (r : OwnRep g Hd H A p o) :
    Sr g F Hd H (E.set i (some (.own o))) (σ.set i (some (.ref p))) (wIn w i A) := by
  have li : i < E.length := canSet_lt h
  have nr : ¬ isRef E[i]? := canSet_ref h
  have split : ∀ {a : Addr} {j : Nat}, wIn w i A a = some j → (A a ∧ j = i) ∨ (w a = some j ∧ j ≠ i) := fun {a j} z => by
    by_cases hb : A a
    · rw [wIn_in hb] at z; exact .inl ⟨hb, (Option.some.inj z).symm⟩
    · rw [wIn_out hb] at z; exact .inr (wOut_some.mp z)
  refine ⟨s.ext, s.dom, fun a j z => ?_, fun a j z => ?_, by simpa using s.len, fun j x e => ?_, fun a j u z e => ?_, fun q hq => ?_, fun a j z => ?_, s.tab, s.ntd, fun a j ps z y => ?_, s.nt0⟩
  · rcases split z with ⟨z, _⟩ | ⟨z, _⟩
    · exact (hA a z).2.1
    · exact s.hdn a j z
  · rcases split z with ⟨z, _⟩ | ⟨z, _⟩
    · exact (hA a z).2.2.2
    · exact s.wh a j z
  · by_cases ij : i = j
    · subst ij
      rw [List.getElem?_set_self li] at e
      cases e
      exact ⟨p, List.getElem?_set_self (by rw [← s.len]; exact li), r.keep (Same.refl _) (fun _ _ _ z _ => z) fun b z _ => wIn_in z⟩
    · rw [List.getElem?_set_ne ij] at e
      have k := (s.slot j x e).keep (Same.refl Hd) (H' := H) (w' := wIn w i A) (fun _ _ _ z _ => z) fun a z => by
        rw [wIn_out fun y => by rw [(hA a y).2.2.1] at z; cases z]
        exact wOut_some.mpr ⟨z, fun y => ij y.symm⟩
      revert k
      unfold SlotOk
      rw [List.getElem?_set_ne ij]
      exact fun k => k
  · rcases split z with ⟨z, e2⟩ | ⟨z, ne⟩
    · exact (hA a z).1
    · rw [List.getElem?_set_ne (fun y => ne y.symm)] at e
      exact s.frs a j u z e
  · obtain ⟨y1, y2⟩ := s.rk q hq
    have ne : i ≠ q.1 := fun e => nr (by rw [e]; exact y2)
    exact ⟨by rw [List.getElem?_set_ne ne]; exact y1, isRef_ne y2 nr⟩
  · rcases split z with ⟨_, e2⟩ | ⟨z, ne⟩
    · rw [e2, List.getElem?_set_self li]; trivial
    · exact hasO_ne (s.st a j z) ne
  · rcases split z with ⟨z, _⟩ | ⟨z, _⟩
    · exact s.nt0 a ps y (hA a z).1
    · exact s.ntw a j ps z y
theorem Eff.into {i : Nat} {A : Addr → Prop} (e0 : Eff Hd0 H0 w0 Hd H w) (hA : ∀ a, A a → H0 a = none) : Eff Hd0 H0 w0 Hd H (wIn w i A) := ⟨e0.hd, e0.fr, e0.dom, fun a j h => by
  by_cases z : A a
  · exact .inr (hA a z)
  · rw [wIn_out z] at h
    exact e0.wi a j (wOut_some.mp h).1, e0.hn, e0.nt⟩
end

/-! ### targets -/
def Touch (ts : List Nat) (σ σ' : L2.St) : Prop := σ'.length = σ.length ∧ ∀ i, i ∉ ts → σ'[i]? = σ[i]?
def PostG (g : Gx) (F : Fc) (ts : List Nat) (σ : L2.St) (Hd H : Hp) (w : Ow) (r : Re Unit) (Q : L2.St → Hp → Prop) : Prop := match r with
  | .ok _ E' => ∀ σ' Hd' H' w', Eff Hd H w Hd' H' w' → Sr g F Hd' H' E' σ' w' → Touch ts σ σ' → Q σ' H'
  | _ => False
theorem PostG.shift {g : Gx} {F : Fc} {ts : List Nat} {σ σ1 : L2.St} {Hd H Hd1 H1 : Hp} {w w1 : Ow} {r : Re Unit} {Q : L2.St → Hp → Prop} (h : PostG g F ts σ Hd H w r Q) (e : Eff Hd H w Hd1 H1 w1) (t : Touch ts σ σ1) : PostG g F ts σ1 Hd1 H1 w1 r Q := by
  cases r with
  | ok _ E' => exact fun σ' Hd' H' w' e' s t' => h σ' Hd' H' w' (e.trans e') s ⟨t'.1.trans t.1, fun i hi => (t'.2 i hi).trans (t.2 i hi)⟩
  | exc _ _ => exact h
  | bad => exact h
def tG (g : Gx) (ts : List Nat) (t : D → Mo Unit) : TG := fun v σ H Q => ∃ F Hd E w d, Sr g F Hd H E σ w ∧ Rep g Hd d v ∧ PostG g F ts σ Hd H w (t d E) Q
def tGs (g : Gx) (ts : List Nat) (t : List D → Mo Unit) : TGs := fun vs σ H Q => ∃ F Hd E w ds, Sr g F Hd H E σ w ∧ RepL g Hd ds vs ∧ PostG g F ts σ Hd H w (t ds E) Q
theorem _root_.L2.PG.impF {X : Cx} {e : Expr} {t t' : TG} (h : PG X e t) (k : ∀ v σ H Q, t' v σ H Q → t v σ H Q) : PG X e t' := ⟨fun pins s σ H v u Q I r q => h.run pins s σ H v u Q I r (k v σ H Q q)⟩
theorem _root_.L2.PGs.impF {X : Cx} {e : List Expr} {t t' : TGs} (h : PGs X e t) (k : ∀ v σ H Q, t' v σ H Q → t v σ H Q) : PGs X e t' := ⟨fun pins s σ H v u Q I r q => h.run pins s σ H v u Q I r (k v σ H Q q)⟩
section
variable {g : Gx} {W : WX} {X : Cx} {ts : List Nat}
def gN (i : Nat) : D → Mo Unit := fun d => setD i d
theorem dg_name {i : Nat} {x : Str} {pos : Pos} (hN : X.N.Nodup) (hi : X.N[i]? = some x) (hx : Loc X.env.scope x) (ht : i ∈ ts) (hf : X.fn x = true ∨ X.env.scope.names.lookup x = some .local := by first | exact .inl rfl | exact .inr rfl | assumption) : PG X (.Name x pos) (tG g ts (gN i)) :=
  (pg_name hN hi hx hf).impF fun v σ H Q ⟨F, Hd, E, w, d, s, r, p⟩ => by
    unfold gN setD at p
    split at p
    · rename_i h
      exact p _ Hd H (wOut w i) Eff.out (s.setD h r) ⟨List.length_set, fun j hj => List.getElem?_set_ne (fun e => hj (by rw [← e]; exact ht))⟩
    · exact p.elim
def gsNil : List D → Mo Unit := fun ds => match ds with
  | [] => mp ()
  | _ => fun _ => .bad
def gsCons (t : D → Mo Unit) (u : List D → Mo Unit) : List D → Mo Unit := fun ds => match ds with
  | d :: r => mb (t d) fun _ => u r
  | [] => fun _ => .bad
def gTupF (n : Nat) (t : List D → Mo Unit) : D → Mo Unit := fun d => match d with
  | .tup ds => if ds.length = n then t ds else fun _ => .bad
  | _ => fun _ => .bad
theorem dgs_nil : PGs X [] (tGs g ts gsNil) := pgs_nil.impF fun vs σ H Q ⟨F, Hd, E, w, ds, s, r, p⟩ => by
  cases ds with
  | nil => exact ⟨RepL.nil_iff.mp r, p σ Hd H w Eff.refl s ⟨rfl, fun _ _ => rfl⟩⟩
  | cons _ _ => exact p.elim
theorem PostG.bind {F : Fc} {σ : L2.St} {Hd H : Hp} {w : Ow} {f : Mo Unit} {k : Unit → Mo Unit} {E : En} {Q : L2.St → Hp → Prop} (h : PostG g F ts σ Hd H w (mb f k E) Q) :
    PostG g F ts σ Hd H w (f E) (fun σ1 H1 => ∃ Hd1 E1 w1, Eff Hd H w Hd1 H1 w1 ∧ Sr g F Hd1 H1 E1 σ1 w1 ∧ PostG g F ts σ1 Hd1 H1 w1 (k () E1) Q) := by
  unfold mb at h
  cases q : f E with
  | ok a E' =>
    rw [q] at h
    exact fun σ' Hd' H' w' e s t => ⟨Hd', E', w', e, s, PostG.shift h e t⟩
  | exc x E' => rw [q] at h; exact h
  | bad => rw [q] at h; exact h
theorem dgs_cons {e : Expr} {es : List Expr} {t : D → Mo Unit} {u : List D → Mo Unit} (h1 : PG X e (tG g ts t)) (h2 : PGs X es (tGs g ts u))
    (hs : (assignEach (e :: es) X.env).map (·.2) = assign e X.env :: (assignEach es X.env).map (·.2) := by rfl) : PGs X (e :: es) (tGs g ts (gsCons t u)) := (pgs_cons h1 h2 hs).impF fun vs σ H Q ⟨F, Hd, E, w, ds, s, r, p⟩ => by
  cases ds with
  | nil => exact p.elim
  | cons d r' =>
    obtain ⟨v, ws, rfl, r1, r2⟩ := RepL.cons_iff.mp r
    refine ⟨v, ws, rfl, F, Hd, E, w, d, s, r1, ?_⟩
    have p' := PostG.bind p
    revert p'
    cases t d E with
    | ok _ E' =>
      intro p' σ' Hd' H' w' e' s' t'
      obtain ⟨Hd1, E1, w1, e1, s1, p1⟩ := p' σ' Hd' H' w' e' s' t'
      exact ⟨F, Hd1, E1, w1, r', s1, r2.mono e1.hd, p1⟩
    | exc _ _ => exact fun p' => p'
    | bad => exact fun p' => p'
theorem dg_tup {es : List Expr} {k : Nat} {pos : Pos} {t : List D → Mo Unit} (hc : X.calm = true) (h : PGs X es (tGs g ts t)) (n : Nat)
    (hn : (assignEach es X.env).length = n := by rfl) (hst : (assignEach es X.env).findIdx? (·.1) = none := by rfl) : PG X (.Tuple es k pos) (tG g ts (gTupF n t)) :=
  (pg_tup hc h hn hst).impF fun v σ H Q ⟨F, Hd, E, w, d, s, r, p⟩ => by
    unfold gTupF at p
    split at p
    · rename_i ds
      split at p
      · rename_i hl
        simp only [Rep] at r
        obtain ⟨a, vs, rfl, h1, h2, h3⟩ := r
        exact ⟨a, vs, rfl, SqT.of (s.ext _ _ h1), by rw [← h3.length]; exact hl, F, Hd, E, w, ds, s, h3, p⟩
      · exact p.elim
    · exact p.elim

/-! ### name = value -/
def sSet (i : Nat) (f : Mo Vl) : Mo Fl := mb (frzM f) fun d => mb (setD i d) fun _ => mp .next
def sSetO (i : Nat) (f : Mo Vl) : Mo Fl := mb f fun a => match a with
  | .own o => mb (setO i o) fun _ => mp .next
  | _ => fun _ => .bad
/-- any target = data -/
def tgt (t : D → Mo Unit) (d : D) : Mo Fl := fun E => match t d E with
  | .ok _ E' => .ok .next E'
  | _ => .bad
def sAsg (t : D → Mo Unit) (f : Mo Vl) : Mo Fl := mb (frzM f) fun d => tgt t d
theorem sSet_ok {i : Nat} {f : Mo Vl} : ∀ D σ H, tS g W (sSet i f) D σ H → tAsg (tE g W f) (gName i) D σ H := by
  rintro D σ H ⟨F, Hd, E, w, s, p⟩
  unfold sSet frzM at p
  refine ⟨F, Hd, E, w, s, ?_⟩
  have p : PostS g F W Hd H w (mb f (fun a => mb (frz a) fun d => mb (setD i d) fun _ => mp .next) E) D := by
    unfold mb at p ⊢
    revert p
    cases f E <;> exact fun p => p
  refine (PostS.bind0 p).imp fun a E1 Hd1 H1 w1 _ e1 s1 p1 x rx => ?_
  obtain ⟨d, E', Hd', w', _, k1, k2, k3, k4⟩ := frz_post e1 s1 rx (PostS.bind0 (σ := σ) p1)
  unfold mb setD at k4
  split at k4
  · rename_i h
    split at h
    · rename_i hc
      cases h
      exact k4 _ Hd' H1 (wOut w' i) (k1.trans Eff.out) (k2.setD hc k3)
    · cases h
  · rename_i h
    split at h <;> cases h
  · exact k4.elim
theorem sSetO_ok {i : Nat} {f : Mo Vl} : ∀ D σ H, tS g W (sSetO i f) D σ H → tAsg (tE g W f) (gName i) D σ H := by
  rintro D σ H ⟨F, Hd, E, w, s, p⟩
  refine ⟨F, Hd, E, w, s, (PostS.bind0 p).imp fun a E1 Hd1 H1 w1 _ e1 s1 p1 x rx => ?_⟩
  cases a with
  | own o =>
    obtain ⟨q, A, rfl, hA, ro⟩ := rx
    dsimp only at p1
    unfold mb setO at p1
    split at p1
    · rename_i h
      split at h
      · rename_i hc
        cases h
        refine p1 _ Hd1 H1 (wIn w1 i A) (e1.into fun a z => (hA a z).1) (s1.setO hc (fun a z => ?_) ro)
        obtain ⟨z1, z2, z3, z4⟩ := hA a z
        refine ⟨?_, z2, z3, z4⟩
        cases y : F.H0 a with
        | none => rfl
        | some u => exact absurd z1 (s.dom a (by rw [y]; simp))
      · cases h
    · rename_i h
      split at h <;> cases h
    · exact p1.elim
  | dat _ => exact p1.elim
  | loc _ => exact p1.elim
theorem ds_set {i : Nat} {x : Str} {e : Expr} {f : Mo Vl} {pos pos' : Pos} (hN : X.N.Nodup) (hi : X.N[i]? = some x) (hx : Loc X.env.scope x) (he : PE X e (tE g W f)) (hs : swapsWith e (some (.Name x pos')) pos.line X.env = pure false := by rfl) (hf : X.fn x = true ∨ X.env.scope.names.lookup x = some .local := by first | exact .inl rfl | exact .inr rfl | assumption) :
    PS X (.Assign [.Name x pos'] e pos) (tS g W (sSet i f)) := (ps_set hN hi hx he hs hf).impF sSet_ok
theorem ds_setO {i : Nat} {x : Str} {e : Expr} {f : Mo Vl} {pos pos' : Pos} (hN : X.N.Nodup) (hi : X.N[i]? = some x) (hx : Loc X.env.scope x) (he : PE X e (tE g W f)) (hs : swapsWith e (some (.Name x pos')) pos.line X.env = pure false := by rfl) (hf : X.fn x = true ∨ X.env.scope.names.lookup x = some .local := by first | exact .inl rfl | exact .inr rfl | assumption) :
    PS X (.Assign [.Name x pos'] e pos) (tS g W (sSetO i f)) := (ps_set hN hi hx he hs hf).impF sSetO_ok
/-- where the value may be given to any target, as data -/
theorem sAsg_ok {t : D → Mo Unit} {f : Mo Vl} : ∀ D σ H, tS g W (sAsg t f) D σ H → tAsg (tE g W f) (tG g ts t) D σ H := by
  rintro D σ H ⟨F, Hd, E, w, s, p⟩
  unfold sAsg frzM at p
  refine ⟨F, Hd, E, w, s, ?_⟩
  have p : PostS g F W Hd H w (mb f (fun a => mb (frz a) fun d => tgt t d) E) D := by
    unfold mb at p ⊢
    revert p
    cases f E <;> exact fun p => p
  refine (PostS.bind0 p).imp fun a E1 Hd1 H1 w1 _ e1 s1 p1 x rx => ?_
  obtain ⟨d, E', Hd', w', _, k1, k2, k3, k4⟩ := frz_post e1 s1 rx (PostS.bind0 (σ := σ) p1)
  refine ⟨F, Hd', E', w', d, k2, k3, ?_⟩
  unfold tgt at k4
  revert k4
  cases t d E' with
  | ok a E2 => exact fun k4 σ2 Hd2 H2 w2 e2 s2 _ => k4 σ2 Hd2 H2 w2 (k1.trans e2) s2
  | exc x E2 => exact fun k4 => k4
  | bad => exact fun k4 => k4
end
end Fx

/-! Fx5: what is walked; for, while -/
namespace Fx
open PySem PySem.Spec PyProof.Rows L2 LamX

/-- an iterator gives ds; B: what must stand for it -/
def ItOk (g : Gx) (J : It) (B Hd : Hp) (ds : List D) : Prop := ds.length ≤ sizeLine ∧ ∃ G Y, Walk J ds.length G Y ∧ (∀ H, Same B H → G H) ∧
  ∀ i d Hd1 H1 x H2, ds[i]? = some d → Same Hd Hd1 → Same Hd1 H1 → Y i H1 x H2 → ∃ Hd2, Grow Hd1 H1 Hd2 H2 ∧ Rep g Hd2 d x
abbrev Its := List D × Option Nat
/-- what must stand: the data, and the object of the walked slot -/
noncomputable def baseOf (Hd H : Hp) (w : Ow) : Option Nat → Hp
  | none => Hd
  | some i => toData Hd H fun a => w a = some i
def tI (g : Gx) (W : WX) (n : Mo Its) : TI := fun σ H R => ∃ F Hd E w, Sr g F Hd H E σ w ∧ PostA g F W σ Hd H w (n E) fun q _ Hd' H' w' => ∀ J, ItOk g J (baseOf Hd' H' w' q.2) Hd' q.1 → R J H'
theorem _root_.L2.PI.impF {X : Cx} {tg it : Expr} {t t' : TI} (h : PI X tg it t) (k : ∀ σ H R, t' σ H R → t σ H R) : PI X tg it t' := ⟨fun pins s σ H R I q => h.run pins s σ H R I (k σ H R q)⟩

section
variable {g : Gx} {W : WX} {X : Cx} {ts : List Nat}
/-! ### sources -/
def seqOf : D → Option (List D)
  | .lst ds => some ds
  | .tup ds => some ds
  | _ => none
/-- a list or a tuple that is walked: what is new becomes data; a slot's own list is walked where it stands -/
def walkOf (a : Vl) : Mo Its := fun E => match a with
  | .dat d => match seqOf d with
    | some ds => .ok (ds, none) E
    | none => .bad
  | .own (.lst ds) => .ok (ds, none) E
  | .own _ => .bad
  | .loc i => match E[i]? with
    | some (some (.own (.lst ds))) => .ok (ds, some i) E
    | some (some (.ref (.lst ds))) => .ok (ds, some i) E
    | _ => .bad
def iSeq (f : Mo Vl) : Mo Its := mb f walkOf
theorem pi_seq {tg l : Expr} {tl : TE} (hl : PE X l tl) : PI X tg l (fun σ H R => tl σ H fun x H1 => ∃ a, x = .ref a ∧ ((∃ xs, SqL X.K H1 a xs ∧ R (Itl X.K a) H1) ∨ (∃ xs, SqT X.K H1 a xs ∧ R (Itt X.K a) H1))) := by
  refine ⟨fun pins s σ H R I h => ?_⟩
  refine thn (hl.run pins s σ H _ I h) fun v s1 ⟨x, H1, I1, r1, q1⟩ => ?_
  obtain ⟨a, e, q⟩ := q1
  subst e
  cases r1
  rcases q with ⟨xs, hq, q⟩ | ⟨xs, hq, q⟩
  · obtain ⟨its, rv, p, hz⟩ := I1.list hq
    refine wpAny_pyIter_list p.isList ?_
    refine ⟨s1.heap.objs.size, [s1.heap.objs.size], _, _, H1, rfl, I1.kept (t' := s1.toks) fun b o e => Heap.get?_push_of_some _ e, turn_list a _, ⟨_, Heap.get?_push_size _ rfl, rfl, rfl⟩, fun b hb => ?_, q⟩
    have e : b = s1.heap.objs.size := by simpa using hb
    subst e
    exact I1.fpOk (Nat.le_refl _) (I1.hok.fresh (Nat.le_refl _))
  · obtain ⟨its, rv, p, hz⟩ := I1.tuple hq
    refine wpAny_pyIter_tuple (show s1.heap.IsTuple a its.toArray from p) ?_
    refine ⟨s1.heap.objs.size, [s1.heap.objs.size], _, _, H1, rfl, I1.kept (t' := s1.toks) fun b o e => Heap.get?_push_of_some _ e, turn_tuple a _, ⟨_, Heap.get?_push_size _ rfl, rfl, rfl⟩, fun b hb => ?_, q⟩
    have e : b = s1.heap.objs.size := by simpa using hb
    subst e
    exact I1.fpOk (Nat.le_refl _) (I1.hok.fresh (Nat.le_refl _))
theorem yat_rep {Hd : Hp} {ds : List D} {vs : List V} (r : RepL g Hd ds vs) : ∀ (i : Nat) (d : D) (Hd1 H1 : Hp) (x : V) (H2 : Hp), ds[i]? = some d → Same Hd Hd1 → Same Hd1 H1 → YAt vs i H1 x H2 → ∃ Hd2, Grow Hd1 H1 Hd2 H2 ∧ Rep g Hd2 d x := by
  rintro i d Hd1 H1 x H2 hd e1 e2 ⟨rfl, hx⟩
  obtain ⟨d', h1, h2⟩ := r.getB hx
  rw [hd] at h1; cases h1
  exact ⟨Hd1, Grow.refl e2, h2.mono e1⟩
theorem itOk_list {K : PySem.W.Frag} {B Hd : Hp} {a : Addr} {ds : List D} {vs : List V} (hB : B a = some (.lst vs)) (hz : ds.length ≤ sizeLine) (r : RepL g Hd ds vs) : ItOk g (Itl K a) B Hd ds :=
  ⟨hz, _, _, by rw [r.length]; exact walk_list, fun H e => SqL.of (e _ _ hB), yat_rep r⟩
theorem itOk_tup {K : PySem.W.Frag} {B Hd : Hp} {a : Addr} {ds : List D} {vs : List V} (hB : B a = some (.tup vs)) (hz : ds.length ≤ sizeLine) (r : RepL g Hd ds vs) : ItOk g (Itt K a) B Hd ds :=
  ⟨hz, _, _, by rw [r.length]; exact walk_tup, fun H e => SqT.of (e _ _ hB), yat_rep r⟩
/-- a value that is walked -/
theorem walkOf_ok {F : Fc} {σ : L2.St} {Hd0 H0 Hd H : Hp} {w0 w : Ow} {E : En} {a : Vl} {x : V} {R : It → Hp → Prop} (e0 : Eff Hd0 H0 w0 Hd H w) (s : Sr g F Hd H E σ w) (rx : VRel g Hd H w σ H0 x a)
    (p : PostA g F W σ Hd0 H0 w0 (walkOf a E) fun q _ Hd' H' w' => ∀ J, ItOk g J (baseOf Hd' H' w' q.2) Hd' q.1 → R J H') :
    ∃ c, x = .ref c ∧ ((∃ xs, SqL X.K H c xs ∧ R (Itl X.K c) H) ∨ (∃ xs, SqT X.K H c xs ∧ R (Itt X.K c) H)) := by
  have lstCase : ∀ {Hd' : Hp} {w' : Ow} {ds : List D} {E' : En} (k1 : Eff Hd0 H0 w0 Hd' H w') (k2 : Sr g F Hd' H E' σ w') (k3 : Rep g Hd' (.lst ds) x) (k4 : ∀ J, ItOk g J Hd' Hd' ds → R J H), ∃ c, x = .ref c ∧ ((∃ xs, SqL X.K H c xs ∧ R (Itl X.K c) H) ∨ (∃ xs, SqT X.K H c xs ∧ R (Itt X.K c) H)) := fun {Hd' w' ds E'} k1 k2 k3 k4 => by
    simp only [Rep] at k3
    obtain ⟨c, vs, h1, h2, h3, h4⟩ := k3
    exact ⟨c, h1, .inl ⟨vs, SqL.of (k2.ext _ _ h2), k4 _ (itOk_list h2 h3 h4)⟩⟩
  cases a with
  | dat d =>
    simp only [walkOf] at p
    cases d with
    | lst ds =>
      simp only [seqOf] at p
      exact lstCase e0 s rx fun J z => p Hd H w e0 s J z
    | tup ds =>
      simp only [seqOf] at p
      have k3 : Rep g Hd (.tup ds) x := rx
      simp only [Rep] at k3
      obtain ⟨c, vs, h1, h2, h3, h4⟩ := k3
      exact ⟨c, h1, .inr ⟨vs, SqT.of (s.ext _ _ h2), p Hd H w e0 s _ (itOk_tup h2 h3 h4)⟩⟩
    | _ => simp only [seqOf] at p; exact p.elim
  | own o =>
    cases o with
    | lst ds =>
      simp only [walkOf] at p
      obtain ⟨Hd', w', k1, k2, k3⟩ := frz_ok (a := .own (.lst ds)) e0 s rx (by simp only [frz]; rfl)
      exact lstCase k1 k2 k3 fun J z => p Hd' H w' k1 k2 J z
    | _ => simp only [walkOf] at p; exact p.elim
  | loc i =>
    have key : ∀ (ds : List D), (∃ q, σ[i]? = some (some (.ref q)) ∧ OwnRep g Hd H (fun a => w a = some i) q (.lst ds)) → (∀ J, ItOk g J (baseOf Hd H w (some i)) Hd ds → R J H) →
        ∃ c, x = .ref c ∧ ((∃ xs, SqL X.K H c xs ∧ R (Itl X.K c) H) ∨ (∃ xs, SqT X.K H c xs ∧ R (Itt X.K c) H)) := fun ds ⟨q, z1, z2, vs, z3, z4, z5⟩ k4 => by
      have hx : x = .ref q := by
        have y := (show σ[i]? = some (some x) from rx).symm.trans z1
        simpa using y
      have hB : baseOf Hd H w (some i) q = some (.lst vs) := (toData_in (A := fun a => w a = some i) z2).trans z3
      exact ⟨q, hx, .inl ⟨vs, SqL.of z3, k4 _ (itOk_list hB z4 z5)⟩⟩
    simp only [walkOf] at p
    split at p
    · rename_i ds q
      exact key ds (s.slot i _ q) fun J z => p Hd H w e0 s J z
    · rename_i ds q
      exact key ds (s.slot i _ q) fun J z => p Hd H w e0 s J z
    · exact p.elim
theorem di_seq {tg l : Expr} {f : Mo Vl} (hl : PE X l (tE g W f)) : PI X tg l (tI g W (iSeq f)) := (pi_seq hl).impF fun σ H R ⟨F, Hd, E, w, s, p⟩ => by
  refine ⟨F, Hd, E, w, s, (PostA.bind0 p).imp fun a E1 Hd1 H1 w1 _ e1 s1 p1 x rx => ?_⟩
  exact walkOf_ok e1 s1 rx p1

/-! ### for -/
def killE (E : En) : List Nat → En
  | [] => E
  | i :: ks => killE (if canSet E[i]? = true then E.set i none else E) ks
theorem Sr.kill1 {F : Fc} {Hd H : Hp} {E : En} {σ : L2.St} {w : Ow} {i : Nat} (s : Sr g F Hd H E σ w) (h : canSet E[i]? = true) : Sr g F Hd H (E.set i none) σ (wOut w i) := by
  have nr : ¬ isRef E[i]? := canSet_ref h
  refine ⟨s.ext, s.dom, fun a j z => s.hdn a j (wOut_some.mp z).1, fun a j z => s.wh a j (wOut_some.mp z).1, by simpa using s.len, fun j x e => ?_, fun a j o z e => ?_, fun q hq => ?_, fun a j z => ?_, s.tab, s.ntd, fun a j ps z => s.ntw a j ps (wOut_some.mp z).1, s.nt0⟩
  · by_cases ij : i = j
    · subst ij
      rw [List.getElem?_set_self (canSet_lt h)] at e
      cases e
      trivial
    · rw [List.getElem?_set_ne ij] at e
      exact (s.slot j x e).keep (Same.refl Hd) (H' := H) (w' := wOut w i) (fun _ _ _ z _ => z) fun a z => wOut_some.mpr ⟨z, fun y => ij y.symm⟩
  · obtain ⟨z1, z2⟩ := wOut_some.mp z
    rw [List.getElem?_set_ne (fun y => z2 y.symm)] at e
    exact s.frs a j o z1 e
  · obtain ⟨y1, y2⟩ := s.rk q hq
    exact ⟨y1, isRef_ne y2 nr⟩
  · exact hasO_ne (s.st a j (wOut_some.mp z).1) (wOut_some.mp z).2
theorem Sr.kill {F : Fc} {Hd H : Hp} {σ : L2.St} : ∀ {ks : List Nat} {E : En} {w : Ow}, Sr g F Hd H E σ w → ∃ w', Eff Hd H w Hd H w' ∧ Sr g F Hd H (killE E ks) σ w'
  | [], E, w, s => ⟨w, Eff.refl, s⟩
  | i :: ks, E, w, s => by
    unfold killE
    split
    · rename_i h
      obtain ⟨w', e, s'⟩ := Sr.kill (ks := ks) (s.kill1 h)
      exact ⟨w', Eff.out.trans e, s'⟩
    · exact Sr.kill (ks := ks) s
def sLoop (t : D → Mo Unit) (body : Mo Fl) (ks : List Nat) : List D → Mo Fl
  | [] => mp .next
  | d :: ds => fun E => match t d E with
    | .ok _ E1 => match body E1 with
      | .ok .next E2 => sLoop t body ks ds (killE E2 ks)
      | .ok .cont E2 => sLoop t body ks ds (killE E2 ks)
      | .ok .brk E2 => .ok .next (killE E2 ks)
      | .ok (.ret a) E2 => .ok (.ret a) E2
      | .exc x E2 => .exc x E2
      | .bad => .bad
    | _ => .bad
/-- slot i can't be touched meanwhile -/
def hide {α : Type} (okv : α → Bool) (i : Nat) (f : Mo α) : Mo α := fun E => match f (E.set i (some .hid)) with
  | .ok a E' => match E'[i]? with
    | some (some .hid) => if okv a = true then .ok a (E'.set i (E[i]?.getD none)) else .bad
    | _ => .bad
  | .exc x E' => match E'[i]? with
    | some (some .hid) => .exc x (E'.set i (E[i]?.getD none))
    | _ => .bad
  | .bad => .bad
def onIts {α : Type} (okv : α → Bool) (q : Its) (k : List D → Mo α) : Mo α := match q.2 with
  | none => k q.1
  | some i => hide okv i (k q.1)
def okFl : Fl → Bool
  | .ret (.own _) => false
  | _ => true
def sFor (n : Mo Its) (t : D → Mo Unit) (body : Mo Fl) (ks : List Nat) : Mo Fl := mb n fun q => onIts okFl q (sLoop t body ks)

theorem loop_ok {F : Fc} {σ : L2.St} {Hd H B : Hp} {w : Ow} {E : En} {t : D → Mo Unit} {body : Mo Fl} {ks : List Nat} {ds : List D} {J : It} {D0 : Ends} (s : Sr g F Hd H E σ w) (hI : ItOk g J B Hd ds) (hB : ∀ a o, B a = some o → H a = some o ∧ w a = none ∧ NT o)
    (p : PostS g F W Hd H w (sLoop t body ks ds E) D0) : ∃ Wv : Nat → Nat → L2.St → Hp → Prop, (∃ m, Wv 0 m σ H) ∧ ∀ i m σ H, Wv i m σ H →
      (J.stop i H ∧ D0.nx σ H) ∨ (J.go i H ∧ ∃ N : L2.St → Hp → Prop, (∀ σ' H', N σ' H' → ∃ m', m' < m ∧ Wv (i + 1) m' σ' H') ∧ ∀ x H', J.yld i H x H' → tG g ts t x σ H' fun σ2 H2 => tS g W body { D0 with nx := N, ct := N, bk := D0.nx } σ2 H2) := by
  obtain ⟨hz, G, Y, wk, hG, hY⟩ := hI
  refine for_it wk (g := tG g ts t) (tb := tS g W body) (D := D0) (fun i σ1 H1 => ∃ Hd1 E1 w1, Eff Hd H w Hd1 H1 w1 ∧ Sr g F Hd1 H1 E1 σ1 w1 ∧ PostS g F W Hd1 H1 w1 (sLoop t body ks (ds.drop i) E1) D0) ⟨Hd, E, w, Eff.refl, s, p⟩ ?_ ?_ ?_
  · rintro i σ1 H1 hi ⟨Hd1, E1, w1, e1, s1, p1⟩
    exact hG H1 fun a o z => e1.fr a o (hB a o z).1 (hB a o z).2.1 (hB a o z).2.2
  · rintro i x σ1 H1 H2 hi ⟨Hd1, E1, w1, e1, s1, p1⟩ hy
    have hd : ds[i]? = some ds[i] := List.getElem?_eq_getElem hi
    obtain ⟨Hd2, gr, rd⟩ := hY i ds[i] Hd1 H1 x H2 hd e1.hd s1.ext hy
    have dr : ds.drop i = ds[i] :: ds.drop (i + 1) := (List.drop_eq_getElem_cons hi)
    rw [dr] at p1
    refine ⟨F, Hd2, E1, w1, ds[i], s1.grow gr, rd, ?_⟩
    have e2 : Eff Hd H w Hd2 H2 w1 := e1.trans (s1.eff gr)
    have p2 := PostS.shift p1 (s1.eff gr)
    unfold sLoop at p2
    revert p2
    cases t ds[i] E1 with
    | ok _ E2 =>
      intro p2 σ3 Hd3 H3 w3 e3 s3 _
      refine ⟨F, Hd3, E2, w3, s3, ?_⟩
      have p3 := PostS.shift p2 e3
      dsimp only at p3
      revert p3
      have e23 := e2.trans e3
      cases body E2 with
      | ok f E3 =>
        cases f with
        | next =>
          intro p3 σ4 Hd4 H4 w4 e4 s4
          obtain ⟨w5, e5, s5⟩ := s4.kill (ks := ks)
          exact ⟨Hd4, _, w5, e23.trans (e4.trans e5), s5, PostS.shift p3 (e4.trans e5)⟩
        | cont =>
          intro p3 σ4 Hd4 H4 w4 e4 s4
          obtain ⟨w5, e5, s5⟩ := s4.kill (ks := ks)
          exact ⟨Hd4, _, w5, e23.trans (e4.trans e5), s5, PostS.shift p3 (e4.trans e5)⟩
        | brk =>
          intro p3 σ4 Hd4 H4 w4 e4 s4
          obtain ⟨w5, e5, s5⟩ := s4.kill (ks := ks)
          exact p3 σ4 Hd4 H4 w5 (e4.trans e5) s5
        | ret a => exact fun p3 => p3
      | exc x E3 => exact fun p3 => p3
      | bad => exact fun p3 => p3
    | exc _ _ => exact fun p2 => p2
    | bad => exact fun p2 => p2
  · rintro σ1 H1 ⟨Hd1, E1, w1, e1, s1, p1⟩
    rw [List.drop_length] at p1
    exact p1 σ1 Hd1 H1 w1 Eff.refl s1
/-- the state while a slot is hidden -/
theorem Sr.hide {F : Fc} {Hd H : Hp} {E : En} {σ : L2.St} {w : Ow} {i : Nat} {p : Addr} (s : Sr g F Hd H E σ w) (hi : i < E.length) (hp : σ[i]? = some (some (.ref p))) : Sr g ⟨F.H0, (i, p) :: F.rs⟩ Hd H (E.set i (some .hid)) σ (wOut w i) := by
  refine ⟨s.ext, s.dom, fun a j z => s.hdn a j (wOut_some.mp z).1, fun a j z => s.wh a j (wOut_some.mp z).1, by simpa using s.len, fun j x e => ?_, fun a j o z e => ?_, fun q hq => ?_, fun a j z => ?_, s.tab, s.ntd, fun a j ps z => s.ntw a j ps (wOut_some.mp z).1, s.nt0⟩
  · by_cases ij : i = j
    · subst ij
      rw [List.getElem?_set_self hi] at e
      cases e
      trivial
    · rw [List.getElem?_set_ne ij] at e
      exact (s.slot j x e).keep (Same.refl Hd) (H' := H) (w' := wOut w i) (fun _ _ _ z _ => z) fun a z => wOut_some.mpr ⟨z, fun y => ij y.symm⟩
  · obtain ⟨z1, z2⟩ := wOut_some.mp z
    rw [List.getElem?_set_ne (fun y => z2 y.symm)] at e
    exact s.frs a j o z1 e
  · rcases List.mem_cons.mp hq with rfl | hq
    · exact ⟨hp, by rw [List.getElem?_set_self hi]; trivial⟩
    · obtain ⟨y1, y2⟩ := s.rk q hq
      refine ⟨y1, ?_⟩
      by_cases ij : i = q.1
      · rw [← ij, List.getElem?_set_self hi]; trivial
      · rw [List.getElem?_set_ne ij]; exact y2
  · exact hasO_ne (s.st a j (wOut_some.mp z).1) (wOut_some.mp z).2
open Classical in
/-- the hidden slot's objects given back -/
noncomputable def wBack (w w' : Ow) (i : Nat) : Ow := fun a => if w a = some i then some i else w' a
theorem Sr.back {F : Fc} {Hd H Hd' H' : Hp} {E E' : En} {σ σ' : L2.St} {w w' : Ow} {i : Nat} {p : Addr} {x : S} (s : Sr g F Hd H E σ w) (q : E[i]? = some (some x)) (hx : x = .hid ∨ (∃ o, x = .own o) ∨ ∃ o, x = .ref o) (hp : σ[i]? = some (some (.ref p)))
    (e : Eff Hd H (wOut w i) Hd' H' w') (s' : Sr g ⟨F.H0, (i, p) :: F.rs⟩ Hd' H' E' σ' w') (q' : E'[i]? = some (some .hid)) : Eff Hd H w Hd' H' (wBack w w' i) ∧ Sr g F Hd' H' (E'.set i (some x)) σ' (wBack w w' i) := by
  have li : i < E'.length := (List.getElem?_eq_some_iff.mp q').1
  have hid : ∀ a, w a = some i → wOut w i a = none := fun a z => by unfold wOut; rw [if_pos z]
  have nw : ∀ a, w a = some i → w' a = none := fun a z => by
    cases y : w' a with
    | none => rfl
    | some j =>
      rcases e.wn a (by rw [y]; simp) with u | u
      · exact absurd (hid a z) u
      · exact absurd u (s.wh a i z)
  have nh : ∀ a, w a = some i → Hd' a = none := fun a z => by
    cases y : Hd' a with
    | none => rfl
    | some j =>
      rcases e.hn a (by rw [y]; simp) with u | u | u
      · exact absurd (s.hdn a i z) u
      · exact absurd (hid a z) u
      · exact absurd u (s.wh a i z)
  have wb : ∀ {a : Addr} {j : Nat}, wBack w w' i a = some j → (w a = some i ∧ j = i) ∨ (w a ≠ some i ∧ w' a = some j) := fun {a j} z => by
    unfold wBack at z
    split at z
    · rename_i h; exact .inl ⟨h, (Option.some.inj z).symm⟩
    · rename_i h; exact .inr ⟨h, z⟩
  have kH : ∀ a o, w a = some i → H a = some o → NT o → H' a = some o := fun a o z h nt => e.fr a o h (hid a z) nt
  obtain ⟨r1, r2⟩ := s'.rk (i, p) List.mem_cons_self
  have nj : ∀ a j, w' a = some j → w a ≠ some i := fun a j z y => by rw [nw a y] at z; cases z
  refine ⟨⟨e.hd, fun a o h n nt => e.fr a o h (by unfold wOut; rw [n]; simp) nt, e.dom, fun a j h => ?_, fun a h => ?_, e.nt⟩, s'.ext, s'.dom, fun a j z => ?_, fun a j z => ?_, by simpa using s'.len, fun j y ej => ?_, fun a j o z ej => ?_, fun qq hq => ?_, fun a j z => ?_, s'.tab, s'.ntd, fun a j ps z y => ?_, s'.nt0⟩
  · rcases wb h with ⟨z, e2⟩ | ⟨_, z⟩
    · exact .inl (by rw [e2]; exact z)
    · rcases e.wi a j z with u | u
      · exact .inl (wOut_some.mp u).1
      · exact .inr u
  · rcases e.hn a h with u | u | u
    · exact .inl u
    · cases v : wOut w i a with
      | none => exact absurd v u
      | some k => exact .inr (.inl (by rw [(wOut_some.mp v).1]; simp))
    · exact .inr (.inr u)
  · rcases wb z with ⟨z, _⟩ | ⟨_, z⟩
    · exact nh a z
    · exact s'.hdn a j z
  · rcases wb z with ⟨z, _⟩ | ⟨_, z⟩
    · exact e.dom a (s.wh a i z)
    · exact s'.wh a j z
  · by_cases ij : i = j
    · subst ij
      rw [List.getElem?_set_self li] at ej
      cases ej
      have sl := s.slot i _ q
      have give : ∀ o, (∃ p, σ[i]? = some (some (.ref p)) ∧ OwnRep g Hd H (fun a => w a = some i) p o) → ∃ p, σ'[i]? = some (some (.ref p)) ∧ OwnRep g Hd' H' (fun a => wBack w w' i a = some i) p o := fun o ⟨p2, z1, z2⟩ => by
        rw [hp] at z1; cases z1
        exact ⟨p, r1, z2.keep e.hd kH fun a z _ => by unfold wBack; rw [if_pos z]⟩
      rcases hx with rfl | ⟨o, rfl⟩ | ⟨o, rfl⟩
      · trivial
      · exact give o sl
      · exact give o sl
    · rw [List.getElem?_set_ne ij] at ej
      exact (s'.slot j y ej).keep (Same.refl _) (H' := H') (w' := wBack w w' i) (fun _ _ _ z _ => z) fun a z => by unfold wBack; rw [if_neg (nj a j z)]; exact z
  · rcases wb z with ⟨z, e2⟩ | ⟨_, z⟩
    · subst e2
      rw [List.getElem?_set_self li] at ej
      cases ej
      exact s.frs a j o z q
    · by_cases ij : i = j
      · subst ij
        have u := s'.st a i z
        rw [q'] at u
        exact u.elim
      · rw [List.getElem?_set_ne ij] at ej
        exact s'.frs a j o z ej
  · obtain ⟨y1, y2⟩ := s'.rk qq (List.mem_cons_of_mem _ hq)
    refine ⟨y1, ?_⟩
    by_cases ij : i = qq.1
    · rw [← ij, List.getElem?_set_self li]
      have y3 := (s.rk qq hq).2
      rw [← ij, q] at y3
      exact y3
    · rw [List.getElem?_set_ne ij]; exact y2
  · rcases wb z with ⟨z1, e2⟩ | ⟨_, z1⟩
    · subst e2
      rw [List.getElem?_set_self li, ← q]
      exact s.st a j z1
    · refine hasO_ne (s'.st a j z1) fun e2 => ?_
      have u := s'.st a j z1
      rw [e2, q'] at u
      exact u.elim
  · rcases wb z with ⟨z1, _⟩ | ⟨_, z1⟩
    · obtain ⟨qs, y⟩ := e.nt a ps y
      exact s.ntw a i qs z1 y
    · exact s'.ntw a j ps z1 y
theorem hide_S {F : Fc} {Hd H : Hp} {E : En} {σ : L2.St} {w : Ow} {i : Nat} {p : Addr} {x : S} {f : Mo Fl} {D0 : Ends} (s : Sr g F Hd H E σ w) (q : E[i]? = some (some x)) (hx : x = .hid ∨ (∃ o, x = .own o) ∨ ∃ o, x = .ref o) (hp : σ[i]? = some (some (.ref p)))
    (h : PostS g F W Hd H w (hide okFl i f E) D0) : PostS g ⟨F.H0, (i, p) :: F.rs⟩ W Hd H (wOut w i) (f (E.set i (some .hid))) D0 := by
  have hg : E[i]?.getD none = some x := by rw [q]; rfl
  unfold hide at h
  rw [hg] at h
  revert h
  cases f (E.set i (some .hid)) with
  | ok a E' =>
    intro h σ' Hd' H' w' e s'
    dsimp only at h
    split at h
    · rename_i q'
      split at h
      · rename_i hok
        obtain ⟨k1, k2⟩ := s.back q hx hp e s' q'
        have h' := h σ' Hd' H' _ k1 k2
        cases a with
        | next => exact h'
        | brk => exact h'
        | cont => exact h'
        | ret a =>
          intro v rv
          cases a with
          | dat d => exact h' v rv
          | loc j => exact h' v rv
          | own o => simp [okFl] at hok
      · exact h.elim
    · exact h.elim
  | exc x E' =>
    intro h cls d σ' Hd' H' w' e s' z
    dsimp only at h
    split at h
    · rename_i q'
      obtain ⟨k1, k2⟩ := s.back q hx hp e s' q'
      exact h cls d σ' Hd' H' _ k1 k2 z
    · exact h.elim
  | bad => exact fun h => h
/-- which slot is walked -/
theorem onIts_S {F : Fc} {Hd H : Hp} {E : En} {σ : L2.St} {w : Ow} {q : Its} {k : List D → Mo Fl} {D0 : Ends} (s : Sr g F Hd H E σ w) (hq : ∀ i, q.2 = some i → ∃ x p, E[i]? = some (some x) ∧ (x = .hid ∨ (∃ o, x = .own o) ∨ ∃ o, x = .ref o) ∧ σ[i]? = some (some (.ref p)))
    (h : PostS g F W Hd H w (onIts okFl q k E) D0) : ∃ F' E' w', Sr g F' Hd H E' σ w' ∧ PostS g F' W Hd H w' (k q.1 E') D0 ∧ ∀ a o, baseOf Hd H w q.2 a = some o → H a = some o ∧ w' a = none ∧ NT o := by
  obtain ⟨ds, j⟩ := q
  have data0 : ∀ a o, Hd a = some o → H a = some o ∧ w a = none := fun a o e => ⟨s.ext a o e, by
    cases y : w a with
    | none => rfl
    | some k => rw [s.hdn a k y] at e; cases e⟩
  have data : ∀ a o, Hd a = some o → H a = some o ∧ w a = none ∧ NT o := fun a o e => ⟨(data0 a o e).1, (data0 a o e).2, fun ps z => s.ntd a ps (by rw [e, z])⟩
  cases j with
  | none => exact ⟨F, E, w, s, h, data⟩
  | some i =>
    obtain ⟨x, p, q1, q2, q3⟩ := hq i rfl
    refine ⟨_, _, _, s.hide (List.getElem?_eq_some_iff.mp q1).1 q3, hide_S s q1 q2 q3 h, fun a o e => ?_⟩
    by_cases z : w a = some i
    · have e' : toData Hd H (fun a => w a = some i) a = some o := e
      rw [toData_in z] at e'
      exact ⟨e', by unfold wOut; rw [if_pos z], fun ps y => s.ntw a i ps z (by rw [e', y])⟩
    · have e' : toData Hd H (fun a => w a = some i) a = some o := e
      rw [toData_out z] at e'
      obtain ⟨z1, z2, z3⟩ := data a o e'
      exact ⟨z1, by unfold wOut; rw [if_neg z]; exact z2, z3⟩
/-- a source's slot stands -/
def ItsIn (σ : L2.St) (E : En) (q : Its) : Prop := ∀ i, q.2 = some i → ∃ x p, E[i]? = some (some x) ∧ (x = .hid ∨ (∃ o, x = .own o) ∨ ∃ o, x = .ref o) ∧ σ[i]? = some (some (.ref p))
theorem itsIn_of {F : Fc} {Hd H : Hp} {E : En} {σ : L2.St} {w : Ow} {q : Its} (s : Sr g F Hd H E σ w) (h : ∀ i, q.2 = some i → hasO E[i]?) : ItsIn σ E q := fun i hi => by
  have z := h i hi
  unfold hasO at z
  split at z
  · rename_i o y
    obtain ⟨p, h1, _⟩ := s.slot i _ y
    exact ⟨_, p, y, .inr (.inr ⟨o, rfl⟩), h1⟩
  · rename_i o y
    obtain ⟨p, h1, _⟩ := s.slot i _ y
    exact ⟨_, p, y, .inr (.inl ⟨o, rfl⟩), h1⟩
  · exact z.elim
/-- sources name slots that hold an object -/
def ItsOk (n : Mo Its) : Prop := ∀ E q E', n E = .ok q E' → ∀ i, q.2 = some i → hasO E'[i]?
theorem itsOk_seq {f : Mo Vl} : ItsOk (iSeq f) := by
  intro E q E' h i hi
  unfold iSeq mb at h
  split at h
  · rename_i a E1 _
    cases a with
    | dat d =>
      simp only [walkOf] at h
      split at h
      · cases h; cases hi
      · cases h
    | own o => cases o <;> simp only [walkOf] at h <;> cases h; cases hi
    | loc j =>
      simp only [walkOf] at h
      split at h
      · rename_i ds y
        cases h; cases hi
        rw [y]; trivial
      · rename_i ds y
        cases h; cases hi
        rw [y]; trivial
      · cases h
  · cases h
  · cases h
theorem ds_for {tg iter : Expr} {body : List Stmt} {pos : Pos} {n : Mo Its} {t : D → Mo Unit} {b : Mo Fl} (ks : List Nat) (hp : PassesOwn (model X.prog X.w) X.A X.env X.xe) (hc : X.calm = true) (hn : ItsOk n) (hi : PI X tg iter (tI g W n)) (hg : PG X tg (tG g ts t)) (hb : PSs X body (tS g W b))
    (hs : ∀ x, foldedSetIterable iter X.env x = pure x := by intro _; rfl) : PS X (.For tg iter body [] pos) (tS g W (sFor n t b ks)) := (ps_for hp hc hi hg hb hs).impF fun D σ H ⟨F, Hd, E, w, s, p⟩ => by
  refine ⟨F, Hd, E, w, s, (PostS.bind p).imp fun q E1 Hd1 H1 w1 hq e1 s1 p1 J hJ => ?_⟩
  obtain ⟨F', E', w', s', p', hB⟩ := onIts_S s1 (itsIn_of s1 (hn E q E1 hq)) p1
  exact loop_ok s' hJ hB p'

/-! ### while -/
def sWhile (c : Mo Bool) (body : Mo Fl) (ks : List Nat) : Nat → Mo Fl
  | 0 => fun _ => .bad
  | n + 1 => fun E => match c E with
    | .ok true E1 => match body E1 with
      | .ok .next E2 => sWhile c body ks n (killE E2 ks)
      | .ok .cont E2 => sWhile c body ks n (killE E2 ks)
      | .ok .brk E2 => .ok .next (killE E2 ks)
      | .ok (.ret a) E2 => .ok (.ret a) E2
      | .exc x E2 => .exc x E2
      | .bad => .bad
    | .ok false E1 => .ok .next E1
    | .exc x E1 => .exc x E1
    | .bad => .bad
theorem ds_while {c : Expr} {body : List Stmt} {pos : Pos} {fc : Mo Bool} {b : Mo Fl} (ks : List Nat) (n : Nat) (hp : PassesOwn (model X.prog X.w) X.A X.env X.xe) (hc : PT X c (tT g W fc)) (hb : PSs X body (tS g W b)) : PS X (.While c body [] pos) (tS g W (sWhile fc b ks n)) := (ps_while hp hc hb).impF fun D σ H ⟨F, Hd, E, w, s, p⟩ => by
  refine ⟨fun m σ1 H1 => ∃ Hd1 E1 w1, Sr g F Hd1 H1 E1 σ1 w1 ∧ PostS g F W Hd1 H1 w1 (sWhile fc b ks m E1) D, ⟨n, Hd, E, w, s, p⟩, ?_⟩
  rintro m σ1 H1 ⟨Hd1, E1, w1, s1, p1⟩
  cases m with
  | zero => exact p1.elim
  | succ m =>
    refine ⟨F, Hd1, E1, w1, s1, ?_⟩
    unfold sWhile at p1
    revert p1
    cases fc E1 with
    | ok v E2 =>
      cases v with
      | true =>
        intro p1 Hd2 H2 w2 e2 s2
        dsimp only
        rw [if_pos rfl]
        refine ⟨fun σ' H' => ∃ Hd1 E1 w1, Sr g F Hd1 H' E1 σ' w1 ∧ PostS g F W Hd1 H' w1 (sWhile fc b ks m E1) D, fun σ' H' h => ⟨m, Nat.lt_succ_self m, h⟩, F, Hd2, E2, w2, s2, ?_⟩
        have p2 := PostS.shift p1 e2
        dsimp only at p2
        revert p2
        cases b E2 with
        | ok f E3 =>
          cases f with
          | next =>
            intro p3 σ4 Hd4 H4 w4 e4 s4
            obtain ⟨w5, e5, s5⟩ := s4.kill (ks := ks)
            exact ⟨Hd4, _, w5, s5, PostS.shift p3 (e4.trans e5)⟩
          | cont =>
            intro p3 σ4 Hd4 H4 w4 e4 s4
            obtain ⟨w5, e5, s5⟩ := s4.kill (ks := ks)
            exact ⟨Hd4, _, w5, s5, PostS.shift p3 (e4.trans e5)⟩
          | brk =>
            intro p3 σ4 Hd4 H4 w4 e4 s4
            obtain ⟨w5, e5, s5⟩ := s4.kill (ks := ks)
            exact p3 σ4 Hd4 H4 w5 (e4.trans e5) s5
          | ret a => exact fun p3 => p3
        | exc x E3 => exact fun p3 => p3
        | bad => exact fun p3 => p3
      | false =>
        intro p1 Hd2 H2 w2 e2 s2
        dsimp only
        rw [if_neg Bool.false_ne_true]
        exact p1 σ1 Hd2 H2 w2 e2 s2
    | exc x E2 => exact fun p1 cls d Hd' H' w' e s' z => p1 cls d σ1 Hd' H' w' e s' z
    | bad => exact fun p1 => p1
end
end Fx

/-! Fx6: list comprehensions -/
namespace Fx
open PySem PySem.Spec PyProof.Rows L2 LamX
abbrev Wn : WX := fun _ _ _ _ => False
def dLoop (t : D → Mo Unit) (c : Mo Bool) (e : Mo Vl) (vs : List Nat) : List D → Mo (List D)
  | [] => mp []
  | d :: ds => fun E => match t d E with
    | .ok _ E1 => match c E1 with
      | .ok true E2 => match frzM e E2 with
        | .ok x E3 => if vs.all (fun i => canSet E3[i]?) = true then match dLoop t c e vs ds (killE E3 vs) with
            | .ok xs E4 => .ok (x :: xs) E4
            | _ => .bad
          else .bad
        | _ => .bad
      | .ok false E2 => if vs.all (fun i => canSet E2[i]?) = true then dLoop t c e vs ds (killE E2 vs) else .bad
      | _ => .bad
    | _ => .bad
def plainAt (E : En) (i : Nat) : Bool := match E[i]? with
  | some none => true
  | some (some (.dat _)) => true
  | _ => false
def noneAt (E : En) (i : Nat) : Bool := match E[i]? with
  | some none => true
  | _ => false
/-- the slots vs as they stood in E -/
def restE (E : En) (E' : En) : List Nat → En
  | [] => E'
  | i :: vs => restE E (E'.set i (E[i]?.getD none)) vs
def blkM (vs : List Nat) (f : Mo (List D)) : Mo Vl := fun E => if vs.all (plainAt E) = true then
    match f (killE E vs) with
    | .ok xs E' => if vs.all (noneAt E') = true then .ok (.own (.lst xs)) (restE E E' vs) else .bad
    | _ => .bad
  else .bad
def okT {α : Type} : α → Bool := fun _ => true
def dLc (n : Mo Its) (t : D → Mo Unit) (c : Mo Bool) (e : Mo Vl) (vs : List Nat) : Mo Vl := mb n fun q => blkM vs (onIts okT q (dLoop t c e vs))

section
variable {g : Gx} {W : WX} {X : Cx} {vs : List Nat}
theorem Sr.sig {F : Fc} {Hd H : Hp} {E : En} {σ σ' : L2.St} {w : Ow} (s : Sr g F Hd H E σ w) (hl : σ'.length = σ.length) (h : ∀ (i : Nat) (x : S), E[i]? = some (some x) → σ'[i]? = σ[i]?) : Sr g F Hd H E σ' w where
  ext := s.ext
  dom := s.dom
  hdn := s.hdn
  wh := s.wh
  len := by rw [s.len, hl]
  slot := fun i x e => by
    have k := s.slot i x e
    cases x with
    | none => trivial
    | some x =>
      have q := h i x e
      cases x with
      | dat d => obtain ⟨v, z1, z2⟩ := k; exact ⟨v, q.trans z1, z2⟩
      | own d => obtain ⟨v, z1, z2⟩ := k; exact ⟨v, q.trans z1, z2⟩
      | ref d => obtain ⟨v, z1, z2⟩ := k; exact ⟨v, q.trans z1, z2⟩
      | hid => trivial
  tab := s.tab
  ntd := s.ntd
  ntw := s.ntw
  nt0 := s.nt0
  frs := s.frs
  rk := fun q hq => by
    obtain ⟨y1, y2⟩ := s.rk q hq
    refine ⟨?_, y2⟩
    have : ∃ x, E[q.1]? = some (some x) := by
      unfold isRef at y2
      split at y2
      · rename_i z; exact ⟨_, z⟩
      · rename_i z; exact ⟨_, z⟩
      · exact y2.elim
    obtain ⟨x, hx⟩ := this
    rw [h q.1 x hx]; exact y1
  st := s.st
theorem plain_wOut {F : Fc} {Hd H : Hp} {E : En} {σ : L2.St} {w : Ow} {i : Nat} (s : Sr g F Hd H E σ w) (h : plainAt E i = true) : wOut w i = w := by
  funext a
  unfold wOut
  split
  · rename_i z
    have q := s.st a i z
    unfold plainAt at h
    unfold hasO at q
    split at q
    · rename_i y; rw [y] at h; cases h
    · rename_i y; rw [y] at h; cases h
    · exact q.elim
  · rfl
theorem plain_can {E : En} {i : Nat} (h : plainAt E i = true) : canSet E[i]? = true := by
  unfold plainAt at h
  split at h
  · rename_i y; rw [y]; rfl
  · rename_i y; rw [y]; rfl
  · cases h
theorem plain_set {E : En} {i j : Nat} (h : plainAt E j = true) : plainAt (E.set i none) j = true := by
  by_cases e : i = j
  · subst e
    have hl := canSet_lt (plain_can h)
    unfold plainAt
    rw [List.getElem?_set_self hl]
  · unfold plainAt at h ⊢
    rw [List.getElem?_set_ne e]; exact h
theorem Sr.blk {F : Fc} {Hd H : Hp} {σ : L2.St} {w : Ow} : ∀ {vs : List Nat} {E : En}, Sr g F Hd H E σ w → (∀ i ∈ vs, plainAt E i = true) → Sr g F Hd H (killE E vs) σ w
  | [], E, s, _ => s
  | i :: vs, E, s, h => by
    unfold killE
    have hi := h i List.mem_cons_self
    rw [if_pos (plain_can hi)]
    have s1 := s.kill1 (plain_can hi)
    rw [plain_wOut s hi] at s1
    exact Sr.blk s1 fun j hj => plain_set (h j (List.mem_cons_of_mem _ hj))
theorem kill_out {i : Nat} : ∀ {vs : List Nat} {E : En}, i ∉ vs → (killE E vs)[i]? = E[i]?
  | [], _, _ => rfl
  | j :: vs, E, h => by
    unfold killE
    have hj : i ≠ j := fun e => h (by rw [e]; exact List.mem_cons_self)
    have hv : i ∉ vs := fun e => h (List.mem_cons_of_mem _ e)
    rw [kill_out hv]
    split
    · rw [List.getElem?_set_ne (Ne.symm hj)]
    · rfl
theorem kill_none {i : Nat} : ∀ {vs : List Nat} {E : En}, E[i]? = some none → (killE E vs)[i]? = some none
  | [], _, h => h
  | j :: vs, E, h => by
    unfold killE
    refine kill_none ?_
    split
    · by_cases e : j = i
      · subst e
        rw [List.getElem?_set_self (List.getElem?_eq_some_iff.mp h).1]
      · rw [List.getElem?_set_ne e]; exact h
    · exact h
/-- a killed slot holds nothing, or what can't be killed -/
theorem kill_in {i : Nat} {x : S} : ∀ {vs : List Nat} {E : En}, i ∈ vs → (killE E vs)[i]? = some (some x) → canSet (some (some x)) = false ∧ E[i]? = some (some x)
  | j :: vs, E, h, q => by
    unfold killE at q
    by_cases hv : i ∈ vs
    · obtain ⟨h1, h2⟩ := kill_in hv q
      refine ⟨h1, ?_⟩
      split at h2
      · by_cases e : j = i
        · subst e
          rename_i hc
          rw [List.getElem?_set_self (canSet_lt hc)] at h2
          cases h2
        · rw [List.getElem?_set_ne e] at h2; exact h2
      · exact h2
    · have e : i = j := (List.mem_cons.mp h).resolve_right hv
      subst e
      rw [kill_out hv] at q
      split at q
      · rename_i hc
        rw [List.getElem?_set_self (canSet_lt hc)] at q
        cases q
      · rename_i hc
        rw [q] at hc
        exact ⟨by simpa using hc, q⟩
theorem wipe_get {σ : L2.St} {i : Nat} : ∀ {vs : List Nat}, i ∉ vs → (wipe σ vs)[i]? = σ[i]? := fun h => wipe_out h
theorem wipe_in {σ : L2.St} {i : Nat} : ∀ {vs : List Nat}, i ∈ vs → i < σ.length → (wipe σ vs)[i]? = some none
  | j :: vs, h, hl => by
    unfold wipe
    by_cases e : j = i
    · subst e
      rw [List.getElem?_set_self (by rw [wipe_length]; exact hl)]
    · rw [List.getElem?_set_ne e]
      exact wipe_in ((List.mem_cons.mp h).resolve_left (Ne.symm e)) hl
theorem wipe_touch {σ σ' : L2.St} (h : Touch vs σ σ') : wipe σ' vs = wipe σ vs := by
  obtain ⟨hl, h⟩ := h
  apply List.ext_getElem?
  intro i
  by_cases hv : i ∈ vs
  · by_cases hi : i < σ.length
    · rw [wipe_in hv hi, wipe_in hv (by rw [hl]; exact hi)]
    · rw [List.getElem?_eq_none (by rw [wipe_length]; omega), List.getElem?_eq_none (by rw [wipe_length]; omega)]
  · rw [wipe_get hv, wipe_get hv]; exact h i hv
theorem wipe_wipe {σ : L2.St} : wipe (wipe σ vs) vs = wipe σ vs := wipe_touch ⟨wipe_length _ _, fun i hi => wipe_get hi⟩
theorem rest_out {E : En} {i : Nat} : ∀ {vs : List Nat} {E' : En}, i ∉ vs → (restE E E' vs)[i]? = E'[i]?
  | [], _, _ => rfl
  | j :: vs, E', h => by
    unfold restE
    rw [rest_out (fun e => h (List.mem_cons_of_mem _ e)), List.getElem?_set_ne fun e => h (by rw [e]; exact List.mem_cons_self)]
theorem rest_len {E : En} : ∀ {vs : List Nat} {E' : En}, (restE E E' vs).length = E'.length
  | [], _ => rfl
  | j :: vs, E' => by
    unfold restE
    rw [rest_len, List.length_set]
theorem rest_in {E : En} {i : Nat} : ∀ {vs : List Nat} {E' : En}, i ∈ vs → i < E'.length → (restE E E' vs)[i]? = some (E[i]?.getD none)
  | j :: vs, E', h, hl => by
    unfold restE
    by_cases hv : i ∈ vs
    · exact rest_in hv (by rw [List.length_set]; exact hl)
    · have e : i = j := (List.mem_cons.mp h).resolve_right hv
      subst e
      rw [rest_out hv, List.getElem?_set_self hl]
/-- behind a block -/
theorem Sr.rest {F : Fc} {Hd H Hd' H' : Hp} {E E' : En} {σ σ' : L2.St} {w w' : Ow} (s : Sr g F Hd H E σ w) (hp : ∀ i ∈ vs, plainAt E i = true) (e : Same Hd Hd') (s' : Sr g F Hd' H' E' σ' w') (hn : ∀ i ∈ vs, noneAt E' i = true) (ht : Touch vs σ σ') : Sr g F Hd' H' (restE E E' vs) σ w' := by
  obtain ⟨hl, ht⟩ := ht
  have ln : E'.length = σ.length := by rw [s'.len, hl]
  have ni : ∀ {a : Addr} {j : Nat}, w' a = some j → j ∉ vs := fun {a j} z hj => by
    have q := s'.st a j z
    have y := hn j hj
    unfold noneAt at y
    split at y
    · rename_i u; rw [u] at q; exact q.elim
    · cases y
  refine ⟨s'.ext, s'.dom, s'.hdn, s'.wh, by rw [rest_len]; exact ln, fun i x q => ?_, fun a i o z q => ?_, fun q hq => ?_, fun a i z => ?_, s'.tab, s'.ntd, s'.ntw, s'.nt0⟩
  · by_cases hi : i ∈ vs
    · have il : i < E'.length := by
        have := (List.getElem?_eq_some_iff.mp q).1
        rw [rest_len] at this; exact this
      rw [rest_in hi il] at q
      have pl := hp i hi
      unfold plainAt at pl
      split at pl
      · rename_i u; rw [u] at q; cases q; trivial
      · rename_i d u
        rw [u] at q; cases q
        obtain ⟨v, h1, h2⟩ := s.slot i _ u
        exact ⟨v, h1, h2.mono e⟩
      · cases pl
    · rw [rest_out hi] at q
      have k := s'.slot i x q
      have y := ht i hi
      cases x with
      | none => trivial
      | some x => cases x with
        | dat d => obtain ⟨v, z1, z2⟩ := k; exact ⟨v, y.symm.trans z1, z2⟩
        | own d => obtain ⟨v, z1, z2⟩ := k; exact ⟨v, y.symm.trans z1, z2⟩
        | ref d => obtain ⟨v, z1, z2⟩ := k; exact ⟨v, y.symm.trans z1, z2⟩
        | hid => trivial
  · rw [rest_out (ni z)] at q
    exact s'.frs a i o z q
  · obtain ⟨y1, y2⟩ := s'.rk q hq
    have hi : q.1 ∉ vs := fun hi => by
      have y := hn q.1 hi
      unfold noneAt at y
      split at y
      · rename_i u; rw [u] at y2; exact y2.elim
      · cases y
    exact ⟨(ht q.1 hi).symm.trans y1, by rw [rest_out hi]; exact y2⟩
  · rw [rest_out (ni z)]; exact s'.st a i z

/-- which slot is walked, for a list that is made -/
theorem onIts_A {α : Type} {F : Fc} {Hd H : Hp} {E : En} {σ : L2.St} {w : Ow} {q : Its} {k : List D → Mo α} {K : α → En → Hp → Hp → Ow → Prop} (s : Sr g F Hd H E σ w) (hq : ItsIn σ E q)
    (h : PostA g F Wn σ Hd H w (onIts okT q k E) K) : ∃ F' E' w', Sr g F' Hd H E' σ w' ∧ (∀ a o, baseOf Hd H w q.2 a = some o → H a = some o ∧ w' a = none ∧ NT o) ∧ (∀ a, w' a ≠ none → w a ≠ none) ∧
      PostA g F' Wn σ Hd H w' (k q.1 E') fun x E1 Hd1 H1 w1 => ∃ E2 w2, K x E2 Hd1 H1 w2 ∧ Eff Hd H w Hd1 H1 w2 ∧ Sr g F Hd1 H1 E2 σ w2 ∧ (∀ a, w1 a = none → H a = none → w2 a = none) := by
  obtain ⟨ds, j⟩ := q
  have data0 : ∀ a o, Hd a = some o → H a = some o ∧ w a = none := fun a o e => ⟨s.ext a o e, by
    cases y : w a with
    | none => rfl
    | some k => rw [s.hdn a k y] at e; cases e⟩
  have data : ∀ a o, Hd a = some o → H a = some o ∧ w a = none ∧ NT o := fun a o e => ⟨(data0 a o e).1, (data0 a o e).2, fun ps z => s.ntd a ps (by rw [e, z])⟩
  cases j with
  | none => exact ⟨F, E, w, s, data, fun _ z => z, h.imp fun x E1 Hd1 H1 w1 _ e s' k => ⟨E1, w1, k, e, s', fun _ z _ => z⟩⟩
  | some i =>
    obtain ⟨x, p, q1, q2, q3⟩ := hq i rfl
    refine ⟨_, _, _, s.hide (List.getElem?_eq_some_iff.mp q1).1 q3, fun a o e => ?_, fun a z => ?_, ?_⟩
    · by_cases z : w a = some i
      · have e' : toData Hd H (fun a => w a = some i) a = some o := e
        rw [toData_in z] at e'
        exact ⟨e', by unfold wOut; rw [if_pos z], fun ps y => s.ntw a i ps z (by rw [e', y])⟩
      · have e' : toData Hd H (fun a => w a = some i) a = some o := e
        rw [toData_out z] at e'
        obtain ⟨z1, z2⟩ := data a o e'
        exact ⟨z1, by unfold wOut; rw [if_neg z]; exact z2⟩
    · cases y : wOut w i a with
      | none => exact absurd y z
      | some k => rw [(wOut_some.mp y).1]; simp
    · have hg : E[i]?.getD none = some x := by rw [q1]; rfl
      have h : PostA g F Wn σ Hd H w (hide okT i (k ds) E) K := h
      unfold hide at h
      rw [hg] at h
      dsimp only at h ⊢
      revert h
      cases k ds (E.set i (some .hid)) with
      | ok a E' =>
        intro h Hd' H' w' e s'
        dsimp only at h
        split at h
        · rename_i q'
          rw [if_pos (by rfl)] at h
          obtain ⟨k1, k2⟩ := s.back q1 q2 q3 e s' q'
          refine ⟨_, _, h Hd' H' _ k1 k2, k1, k2, fun a z1 z2 => ?_⟩
          unfold wBack
          split
          · rename_i y
            exact absurd z2 (s.wh a i y)
          · exact z1
        · exact h.elim
      | exc y E' =>
        intro h cls d Hd' H' w' e s' z
        dsimp only at h
        split at h
        · rename_i q'
          obtain ⟨k1, k2⟩ := s.back q1 q2 q3 e s' q'
          exact h cls d Hd' H' _ k1 k2 z
        · exact h.elim
      | bad => exact fun h => h
/-- the list that is being made grows -/
theorem Sr.upd {F : Fc} {Hd H : Hp} {E : En} {σ : L2.St} {w : Ow} {p : Addr} {o : HO} (s : Sr g F Hd H E σ w) (h1 : Hd p = none) (h2 : w p = none) (h3 : ∀ u, H p = some u → PlO u) (h4 : NT o := by intro _ z; cases z) : Sr g F Hd (upd H p o) E σ w where
  ext := fun a u e => by
    rw [upd_ne fun q => by rw [q, h1] at e; cases e]
    exact s.ext a u e
  dom := fun a z => by
    by_cases q : a = p
    · rw [q, upd_same]; simp
    · rw [upd_ne q]; exact s.dom a z
  hdn := s.hdn
  wh := fun a i z => by
    by_cases q : a = p
    · rw [q, upd_same]; simp
    · rw [upd_ne q]; exact s.wh a i z
  len := s.len
  slot := fun i x e => (s.slot i x e).keep (Same.refl _) (fun a o z y _ => by rw [upd_ne fun q => by rw [q, h2] at z; cases z]; exact y) fun _ z => z
  frs := s.frs
  rk := s.rk
  st := s.st
  tab := tab_upd s.tab h3
  ntd := s.ntd
  ntw := fun a i ps z y => by
    by_cases q : a = p
    · rw [q, upd_same] at y; exact h4 ps (Option.some.inj y)
    · rw [upd_ne q] at y; exact s.ntw a i ps z y
  nt0 := fun a ps y => by
    by_cases q : a = p
    · rw [q, upd_same] at y; exact absurd (Option.some.inj y) (h4 ps)
    · rw [upd_ne q] at y; exact s.nt0 a ps y
theorem Eff.upd {Hd H Hd' H' : Hp} {w w' : Ow} {p : Addr} {o : HO} (e : Eff Hd H w Hd' H' w') (h : H p = none) (h4 : NT o := by intro _ z; cases z) : Eff Hd H w Hd' (upd H' p o) w' where
  hd := e.hd
  fr := fun a u z n nt => by
    rw [upd_ne fun q => by rw [q, h] at z; cases z]
    exact e.fr a u z n nt
  nt := fun a ps y => by
    by_cases q : a = p
    · rw [q, upd_same] at y; exact absurd (Option.some.inj y) (h4 ps)
    · rw [upd_ne q] at y; exact e.nt a ps y
  dom := fun a z => by
    rw [upd_ne fun q => z (by rw [q]; exact h)]
    exact e.dom a z
  wi := e.wi
  hn := e.hn
theorem lc_ok {F : Fc} {σ : L2.St} {Hd H B : Hp} {w : Ow} {E : En} {t : D → Mo Unit} {c : Mo Bool} {e : Mo Vl} {ds : List D} {J : It} {Dn : Addr} {Qd : Hp → Prop} {K : List D → En → Hp → Hp → Ow → Prop} (s : Sr g F Hd H E (wipe σ vs) w) (hI : ItOk g J B Hd ds) (hB : ∀ a o, B a = some o → H a = some o ∧ w a = none ∧ NT o) (hD : H Dn = none)
    (p : PostA g F Wn (wipe σ vs) Hd H w (dLoop t c e vs ds E) K)
    (fin : ∀ xs ys E' Hd' H' w', K xs E' Hd' H' w' → Eff Hd H w Hd' H' w' → Hd' Dn = none → w' Dn = none → H' Dn = some (.lst ys) → RepL g Hd' xs ys → xs.length ≤ sizeLine → Qd H') :
    ∃ Wv : Nat → Nat → Hp → Prop, (∃ m, Wv 0 m (upd H Dn (.lst []))) ∧ ∀ i m H, Wv i m H →
      (J.stop i H ∧ Qd H) ∨ (J.go i H ∧ ∃ Nx : Hp → Prop, (∀ H', Nx H' → ∃ m', m' < m ∧ Wv (i + 1) m' H') ∧ ∀ x H', J.yld i H x H' → tG g vs t x (wipe σ vs) H' fun σ2 H2 => wipe σ2 vs = wipe σ vs ∧ tT g Wn c σ2 H2 fun b H3 =>
        if b = true then tE g Wn e σ2 H3 fun y H4 => ∃ acc, H4 Dn = some (.lst acc) ∧ acc.length < sizeLine ∧ Nx (upd H4 Dn (.lst (acc ++ [y]))) else Nx H3) := by
  obtain ⟨hz, G, Y, wk, hG, hY⟩ := hI
  have wD : w Dn = none := by
    cases y : w Dn with
    | none => rfl
    | some i => exact absurd hD (s.wh _ i y)
  have hDd : Hd Dn = none := s.ext.free hD
  have keepW : ∀ {Hd1 H1 Hd2 H2 : Hp} {w1 w2 : Ow}, Eff Hd1 H1 w1 Hd2 H2 w2 → Hd1 Dn = none → w1 Dn = none → H1 Dn ≠ none → Hd2 Dn = none ∧ w2 Dn = none := fun {Hd1 H1 Hd2 H2 w1 w2} e h1 h2 h3 => by
    constructor
    · cases y : Hd2 Dn with
      | none => rfl
      | some o =>
        rcases e.hn Dn (by rw [y]; simp) with u | u | u
        · exact absurd h1 u
        · exact absurd h2 u
        · exact absurd u h3
    · cases y : w2 Dn with
      | none => rfl
      | some o =>
        rcases e.wn Dn (by rw [y]; simp) with u | u
        · exact absurd h2 u
        · exact absurd u h3
  refine lc_it wk (D := Dn) (fun i H1 => ∃ Hd1 E1 w1 xs ys, Eff Hd H w Hd1 H1 w1 ∧ Hd1 Dn = none ∧ w1 Dn = none ∧ Sr g F Hd1 H1 E1 (wipe σ vs) w1 ∧ H1 Dn = some (.lst ys) ∧ RepL g Hd1 xs ys ∧ xs.length ≤ i ∧
    PostA g F Wn (wipe σ vs) Hd H w (dLoop t c e vs (ds.drop i) E1) fun zs => K (xs ++ zs)) ?_ ?_ ?_ ?_
  · exact ⟨Hd, E, w, [], [], Eff.refl.upd hD, hDd, wD, s.upd hDd wD (plO_none hD), upd_same, RepL.nil, Nat.le_refl _, p⟩
  · rintro i H1 hi ⟨Hd1, E1, w1, xs, ys, e1, _⟩
    exact hG H1 fun a o z => e1.fr a o (hB a o z).1 (hB a o z).2.1 (hB a o z).2.2
  · rintro i x H1 H2 hi ⟨Hd1, E1, w1, xs, ys, e1, d1, v1, s1, l1, r1, n1, p1⟩ hy
    have hd : ds[i]? = some ds[i] := List.getElem?_eq_getElem hi
    obtain ⟨Hd2, gr, rd⟩ := hY i ds[i] Hd1 H1 x H2 hd e1.hd s1.ext hy
    have dr : ds.drop i = ds[i] :: ds.drop (i + 1) := (List.drop_eq_getElem_cons hi)
    rw [dr] at p1
    have ee := s1.eff gr
    have e2 := e1.trans ee
    obtain ⟨d2, v2⟩ := keepW ee d1 v1 (by rw [l1]; simp)
    have l2 : H2 Dn = some (.lst ys) := ee.fr _ _ l1 v1 (by intro _ z; cases z)
    refine ⟨F, Hd2, E1, w1, ds[i], s1.grow gr, rd, ?_⟩
    have p2 := p1
    unfold dLoop at p2
    revert p2
    cases t ds[i] E1 with
    | ok _ E2 =>
      intro p2 σ3 Hd3 H3 w3 e3 s3 t3
      have sigE : ∀ {Hd5 H5 : Hp} {E5 : En} {w5 : Ow}, Sr g F Hd5 H5 (killE E5 vs) σ3 w5 → vs.all (fun i => canSet E5[i]?) = true → Sr g F Hd5 H5 (killE E5 vs) (wipe σ vs) w5 := fun {Hd5 H5 E5 w5} k hc => by
        refine k.sig t3.1.symm fun j z hj => ?_
        by_cases hv : j ∈ vs
        · obtain ⟨y1, y2⟩ := kill_in hv hj
          have y3 := List.all_eq_true.mp hc j hv
          rw [y2, y1] at y3
          cases y3
        · exact (t3.2 j hv).symm
      refine ⟨by rw [wipe_touch t3, wipe_wipe], ?_⟩
      have p3 := p2
      have e13 := e2.trans e3
      obtain ⟨d3, v3⟩ := keepW e3 d2 v2 (by rw [l2]; simp)
      have l3 : H3 Dn = some (.lst ys) := e3.fr _ _ l2 v2 (by intro _ z; cases z)
      refine ⟨F, Hd3, E2, w3, s3, ?_⟩
      dsimp only at p3
      revert p3
      cases c E2 with
      | ok b E3 =>
        cases b with
        | true =>
          intro p3 Hd4 H4 w4 e4 s4
          dsimp only
          rw [if_pos rfl]
          have p4 := p3
          have e14 := e13.trans e4
          obtain ⟨d4, v4⟩ := keepW e4 d3 v3 (by rw [l3]; simp)
          have l4 : H4 Dn = some (.lst ys) := e4.fr _ _ l3 v3 (by intro _ z; cases z)
          refine ⟨F, Hd4, E3, w4, s4, ?_⟩
          dsimp only at p4
          unfold frzM mb at p4
          revert p4
          cases e E3 with
          | ok a E4 =>
            intro p4 Hd5 H5 w5 e5 s5 y ry
            dsimp only at p4
            cases q : frz a E4 with
            | ok d E5 =>
              rw [q] at p4
              dsimp only at p4
              split at p4
              · rename_i hc
                obtain ⟨Hd6, w6, k1, k2, k3⟩ := frz_ok e5 s5 ry q
                obtain ⟨d6, v6⟩ := keepW k1 d4 v4 (by rw [l4]; simp)
                have l6 : H5 Dn = some (.lst ys) := k1.fr _ _ l4 v4 (by intro _ z; cases z)
                obtain ⟨w7, k4, k5⟩ := k2.kill (ks := vs)
                have v7 := (keepW k4 d6 v6 (by rw [l6]; simp)).2
                have e16 := (e14.trans k1).trans k4
                refine ⟨ys, l6, ?_, Hd6, _, w7, xs ++ [d], ys ++ [y], e16.upd hD, d6, v7, (sigE k5 hc).upd d6 v7 (plO_lst l6), upd_same, ?_, ?_, ?_⟩
                · have := r1.length
                  omega
                · exact (r1.mono ((ee.hd.trans e3.hd).trans (e4.hd.trans k1.hd))).append (RepL.one k3)
                · simp only [List.length_append, List.length_singleton]; omega
                · revert p4
                  cases dLoop t c e vs (ds.drop (i + 1)) (killE E5 vs) with
                  | ok zs E6 =>
                    intro p5 Hd8 H8 w8 e8 s8
                    rw [List.append_assoc]
                    exact p5 Hd8 H8 w8 e8 s8
                  | exc _ _ => exact fun p5 => p5.elim
                  | bad => exact fun p5 => p5.elim
              · exact p4.elim
            | exc _ _ => rw [q] at p4; exact p4.elim
            | bad => rw [q] at p4; exact p4.elim
          | exc _ _ => exact fun p4 => p4.elim
          | bad => exact fun p4 => p4.elim
        | false =>
          intro p3 Hd4 H4 w4 e4 s4
          dsimp only
          rw [if_neg Bool.false_ne_true]
          dsimp only at p3
          split at p3
          · rename_i hc
            obtain ⟨w7, k4, k5⟩ := s4.kill (ks := vs)
            have k1 := e4.trans k4
            obtain ⟨d6, v6⟩ := keepW k1 d3 v3 (by rw [l3]; simp)
            have l6 : H4 Dn = some (.lst ys) := k1.fr _ _ l3 v3 (by intro _ z; cases z)
            exact ⟨Hd4, _, w7, xs, ys, e13.trans k1, d6, v6, sigE k5 hc, l6, r1.mono ((ee.hd.trans e3.hd).trans e4.hd), Nat.le_succ_of_le n1, p3⟩
          · exact p3.elim
      | exc _ _ => exact fun p3 => p3.elim
      | bad => exact fun p3 => p3.elim
    | exc _ _ => exact fun p2 => p2
    | bad => exact fun p2 => p2
  · rintro H1 ⟨Hd1, E1, w1, xs, ys, e1, d1, v1, s1, l1, r1, n1, p1⟩
    rw [List.drop_length] at p1
    have k := p1 Hd1 H1 w1 e1 s1
    simp only [List.append_nil] at k
    exact fin xs ys E1 Hd1 H1 w1 k e1 d1 v1 l1 r1 (Nat.le_trans n1 hz)
/-- what the block's end asks -/
theorem blk_end {F : Fc} {σ : L2.St} {Hd H Hd0 H0 : Hp} {w w0 : Ow} {E : En} {k : Mo (List D)} {K : Vl → En → Hp → Hp → Ow → Prop} (s : Sr g F Hd H E σ w) (p : PostA g F W σ Hd H w (blkM vs k E) K) :
    (∀ i ∈ vs, plainAt E i = true) ∧ Sr g F Hd H (killE E vs) (wipe σ vs) w ∧ PostA g F Wn (wipe σ vs) Hd H w (k (killE E vs)) fun xs E' Hd' H' w' => (∀ i ∈ vs, noneAt E' i = true) ∧ K (.own (.lst xs)) (restE E E' vs) Hd' H' w' := by
  unfold blkM at p
  split at p
  · rename_i hp
    have hp := List.all_eq_true.mp hp
    have sb : Sr g F Hd H (killE E vs) (wipe σ vs) w := (s.blk hp).sig (wipe_length _ _) fun i x q => by
      by_cases hi : i ∈ vs
      · obtain ⟨h1, h2⟩ := kill_in hi q
        have y := plain_can (hp i hi)
        rw [h2, h1] at y; cases y
      · exact wipe_get hi
    refine ⟨hp, sb, ?_⟩
    revert p
    cases k (killE E vs) with
    | ok xs E' =>
      intro p Hd' H' w' e s'
      dsimp only at p
      split at p
      · rename_i hn
        have hn := List.all_eq_true.mp hn
        refine ⟨hn, p Hd' H' w' e (s.rest hp e.hd s' hn ⟨wipe_length _ _, fun i hi => wipe_get hi⟩)⟩
      · exact p.elim
    | exc _ _ => exact fun p => p.elim
    | bad => exact fun p => p
  · exact p.elim
theorem tLc_ok {n : Mo Its} {t : D → Mo Unit} {c : Mo Bool} {e : Mo Vl} (hn : ItsOk n) : ∀ σ H Q, tE g W (dLc n t c e vs) σ H Q → tLc (tI g W n) (tG g vs t) (tT g Wn c) (tE g Wn e) vs σ H Q := by
  rintro σ H Q ⟨F, Hd, E, w, s, p⟩
  refine ⟨F, Hd, E, w, s, (PostA.bind p).imp fun q E1 Hd1 H1 w1 hq e1 s1 p1 J hJ Dn hD => ?_⟩
  obtain ⟨hp, sb, p2⟩ := blk_end (w0 := w) (Hd0 := Hd) (H0 := H) s1 p1
  have hI : ItsIn (wipe σ vs) (killE E1 vs) q := by
    refine itsIn_of sb fun i hi => ?_
    have z := hn E q E1 hq i hi
    have nv : i ∉ vs := fun hv => by
      have y := hp i hv
      unfold plainAt at y
      unfold hasO at z
      split at z
      · rename_i u; rw [u] at y; cases y
      · rename_i u; rw [u] at y; cases y
      · exact z
    rw [kill_out nv]; exact z
  obtain ⟨F', E', w', s', hB, hw, p3⟩ := onIts_A sb hI p2
  refine lc_ok (K := fun xs E2 Hd2 H2 w2 => _) s' hJ hB hD p3 fun xs ys E2 Hd2 H2 w2 k e2 d2 v2 l2 r2 n2 => ?_
  obtain ⟨E3, w3, ⟨_, k⟩, _, _, kw⟩ := k
  refine k (.ref Dn) ⟨Dn, fun a => a = Dn, rfl, fun a ha => ?_, rfl, ys, l2, n2, r2⟩
  subst ha
  refine ⟨?_, d2, kw a v2 hD, by rw [l2]; simp⟩
  cases y : H a with
  | none => rfl
  | some o => exact absurd hD (e1.dom a (by rw [y]; simp))
theorem dts_nil : PTs X [] (tT g W (mp true)) := ⟨fun pins s σ H Q I ⟨F, Hd, E, w, s', p⟩ => pts_nil.run pins s σ H Q I (p.here s')⟩
theorem dts_one {c : Expr} {f : Mo Bool} (h : PT X c (tT g W f)) : PTs X [c] (tT g W f) := pts_one h
theorem de_lc {elt tg iter : Expr} {ifs : List Expr} {scope : Scope} {own : List (Str × Nat)} {pos : Pos} {n : Mo Its} {t : D → Mo Unit} {c : Mo Bool} {e : Mo Vl} (hc : X.calm = true) (hN : X.N.Nodup) (hn : ItsOk n) (hi : PI X tg iter (tI g W n)) (ok : BlkOk X.N X.env.scope scope own)
    (hg : ∀ (s : Shared) (H : Hp) (C : Addr) (cl : List (Str × Addr)) (fp : List Addr), PG (X.blk s H scope (compEnvC scope cl C X.env) fp) tg (tG g (own.map (·.2)) t)) (ht : ∀ (s : Shared) (H : Hp) (C : Addr) (cl : List (Str × Addr)) (fp : List Addr), PTs (X.blk s H scope (compEnvC scope cl C X.env) fp) ifs (tT g Wn c))
    (he : ∀ (s : Shared) (H : Hp) (C : Addr) (cl : List (Str × Addr)) (fp : List Addr), PE (X.blk s H scope (compEnvC scope cl C X.env) fp) elt (tE g Wn e)) (hs : ∀ x, foldedSetIterable iter X.env x = pure x := by intro _; rfl) :
    PE X (.ListComp elt [⟨tg, iter, ifs, 0⟩] scope pos) (tE g W (dLc n t c e (own.map (·.2)))) := (pe_lc hc hN hi ok hg ht he hs).impF (tLc_ok hn)
theorem tE_mono {f : Mo Vl} {σ : L2.St} {H : Hp} {Q Q' : VK} (h : tE g W f σ H Q) (k : ∀ v H, Q v H → Q' v H) : tE g W f σ H Q' := by
  obtain ⟨F, Hd, E, w, s, p⟩ := h
  exact ⟨F, Hd, E, w, s, p.imp fun _ _ _ _ _ _ _ _ z v r => k v _ (z v r)⟩
/-- y = [..], y a local, on one line -/
theorem ds_setLc {i : Nat} {y : Str} {py : Pos} {elt tg iter : Expr} {ifs : List Expr} {scope : Scope} {own : List (Str × Nat)} {pos spos : Pos} {n : Mo Its} {t : D → Mo Unit} {c : Mo Bool} {e : Mo Vl} (hc : X.calm = true) (hN : X.N.Nodup) (hy : X.N[i]? = some y) (hyl : X.env.scope.names.lookup y = some .local)
    (hsw : swapsWith (.ListComp elt [⟨tg, iter, ifs, 0⟩] scope pos) (some (.Name y py)) spos.line X.env = pure true) (hn : ItsOk n) (hi : PI X tg iter (tI g W n)) (ok : BlkOk X.N X.env.scope scope own)
    (hg : ∀ (s : Shared) (H : Hp) (C : Addr) (cl : List (Str × Addr)) (fp : List Addr), PG (X.blk s H scope (compEnvC scope cl C X.env) fp) tg (tG g (own.map (·.2)) t)) (ht : ∀ (s : Shared) (H : Hp) (C : Addr) (cl : List (Str × Addr)) (fp : List Addr), PTs (X.blk s H scope (compEnvC scope cl C X.env) fp) ifs (tT g Wn c))
    (he : ∀ (s : Shared) (H : Hp) (C : Addr) (cl : List (Str × Addr)) (fp : List Addr), PE (X.blk s H scope (compEnvC scope cl C X.env) fp) elt (tE g Wn e)) (hs : ∀ x, foldedSetIterable iter X.env x = pure x := by intro _; rfl) :
    PS X (.Assign [.Name y py] (.ListComp elt [⟨tg, iter, ifs, 0⟩] scope pos) spos) (tS g W (sSet i (dLc n t c e (own.map (·.2))))) := (ps_setLc hc hN hy hyl hsw hi ok hg ht he hs).impF fun D σ H h => tLc_ok hn _ _ _ (sSet_ok D σ H h)
theorem ds_setLcO {i : Nat} {y : Str} {py : Pos} {elt tg iter : Expr} {ifs : List Expr} {scope : Scope} {own : List (Str × Nat)} {pos spos : Pos} {n : Mo Its} {t : D → Mo Unit} {c : Mo Bool} {e : Mo Vl} (hc : X.calm = true) (hN : X.N.Nodup) (hy : X.N[i]? = some y) (hyl : X.env.scope.names.lookup y = some .local)
    (hsw : swapsWith (.ListComp elt [⟨tg, iter, ifs, 0⟩] scope pos) (some (.Name y py)) spos.line X.env = pure true) (hn : ItsOk n) (hi : PI X tg iter (tI g W n)) (ok : BlkOk X.N X.env.scope scope own)
    (hg : ∀ (s : Shared) (H : Hp) (C : Addr) (cl : List (Str × Addr)) (fp : List Addr), PG (X.blk s H scope (compEnvC scope cl C X.env) fp) tg (tG g (own.map (·.2)) t)) (ht : ∀ (s : Shared) (H : Hp) (C : Addr) (cl : List (Str × Addr)) (fp : List Addr), PTs (X.blk s H scope (compEnvC scope cl C X.env) fp) ifs (tT g Wn c))
    (he : ∀ (s : Shared) (H : Hp) (C : Addr) (cl : List (Str × Addr)) (fp : List Addr), PE (X.blk s H scope (compEnvC scope cl C X.env) fp) elt (tE g Wn e)) (hs : ∀ x, foldedSetIterable iter X.env x = pure x := by intro _; rfl) :
    PS X (.Assign [.Name y py] (.ListComp elt [⟨tg, iter, ifs, 0⟩] scope pos) spos) (tS g W (sSetO i (dLc n t c e (own.map (·.2))))) := (ps_setLc hc hN hy hyl hsw hi ok hg ht he hs).impF fun D σ H h => tLc_ok hn _ _ _ (sSetO_ok D σ H h)
end
end Fx

/-! Fx7: defs and their calls -/
namespace Fx
open PySem PySem.Spec PyProof.Rows L2 LamX

def isArg : Option S → Bool
  | some (.dat _) => true
  | some (.ref _) => true
  | _ => false
def PostF (g : Gx) (H : Hp) (rs : List (Nat × Addr)) (vs : List V) (Hd : Hp) (w : Ow) (r : Re Vl) (Q : VK) (E : XK) : Prop := match r with
  | .ok a as' => ∀ v Hd' H' w', Eff Hd H w Hd' H' w' → Sr g ⟨H, rs⟩ Hd' H' as' (vs.map some) w' → VRel g Hd' H' w' [] H v a → Q v H'
  | .exc x as' => ∀ cls d Hd' H' w', Eff Hd H w Hd' H' w' → Sr g ⟨H, rs⟩ Hd' H' as' (vs.map some) w' → XRel g x cls d H' → E cls d H'
  | .bad => False
/-- a def does as F says -/
def spF (g : Gx) (n : Nat) (F : En → Re Vl) : Sp := fun vs H Q E => vs.length = n ∧ ∃ Hd w as rs, Sr g ⟨H, rs⟩ Hd H as (vs.map some) w ∧ (∀ k o, as[k]? = some (some (.ref o)) → ∃ p, (k, p) ∈ rs) ∧ as.all isArg = true ∧ PostF g H rs vs Hd w (F as) Q E

/-- the arguments behind the body: what was lent, as it is now -/
def fin1 : Option S → Option S → Option S
  | some (.ref _), some (.ref o) => some (.ref o)
  | some (.ref _), _ => some .hid
  | s, _ => s
def finE : En → En → En
  | s :: as, e :: E => fin1 s e :: finE as E
  | s :: as, [] => fin1 s none :: finE as []
  | [], _ => []
def leave (E : En) : Vl → Option Vl
  | .dat d => some (.dat d)
  | .own o => some (.own o)
  | .loc i => match E[i]? with
    | some (some (.own o)) => some (.own o)
    | _ => none
def mkF (m : Nat) (body : Mo Fl) : En → Re Vl := fun as => match body (as ++ List.replicate m none) with
  | .ok (.ret a) E => match leave E a with
    | some r => .ok r (finE as E)
    | none => .bad
  | .ok .next E => .ok (.dat .non) (finE as E)
  | .exc x E => .exc x (finE as E)
  | _ => .bad

section
variable {g : Gx} {W : WX}
theorem finE_len : ∀ {as E : En}, (finE as E).length = as.length
  | [], E => by cases E <;> rfl
  | s :: as, [] => by
    unfold finE
    rw [List.length_cons, List.length_cons, finE_len]
  | s :: as, e :: E => by
    unfold finE
    rw [List.length_cons, List.length_cons, finE_len]
theorem finE_at : ∀ {as E : En} {k : Nat} {s : Option S}, as[k]? = some s → (finE as E)[k]? = some (fin1 s (E[k]?.getD none))
  | [], _, _, _, h => by simp at h
  | x :: as, [], 0, s, h => by
    simp only [List.getElem?_cons_zero, Option.some.injEq] at h
    subst h
    rfl
  | x :: as, [], k + 1, s, h => by
    show (finE as [])[k]? = _
    rw [finE_at (E := []) (show as[k]? = some s by simpa using h)]
    rfl
  | x :: as, y :: E, 0, s, h => by
    simp only [List.getElem?_cons_zero, Option.some.injEq] at h
    subst h
    rfl
  | x :: as, y :: E, k + 1, s, h => by
    show (finE as E)[k]? = _
    rw [finE_at (E := E) (show as[k]? = some s by simpa using h)]
    rfl
theorem finE_get {as E : En} {k : Nat} {s : Option S} (h : (finE as E)[k]? = some s) (ha : as.all isArg = true) : (∃ d, s = some (.dat d) ∧ as[k]? = some s) ∨ (∃ o o', s = some (.ref o') ∧ as[k]? = some (some (.ref o)) ∧ E[k]? = some (some (.ref o'))) ∨ (s = some .hid ∧ (∃ o, as[k]? = some (some (.ref o))) ∧ ∀ o', E[k]? ≠ some (some (.ref o'))) := by
  have hk : k < as.length := by rw [← finE_len (E := E)]; exact (List.getElem?_eq_some_iff.mp h).1
  have q : as[k]? = some as[k] := List.getElem?_eq_getElem hk
  rw [finE_at q] at h
  have ia := List.all_eq_true.mp ha as[k] (List.getElem_mem hk)
  generalize as[k] = x at q h ia
  cases x with
  | none => simp [isArg] at ia
  | some x =>
    cases x with
    | dat d =>
      simp only [fin1, Option.some.injEq] at h
      exact .inl ⟨d, h.symm, by rw [← h]; exact q⟩
    | ref o =>
      by_cases hc : ∃ o', E[k]? = some (some (.ref o'))
      · obtain ⟨o', q'⟩ := hc
        rw [q'] at h
        simp only [Option.getD_some, fin1, Option.some.injEq] at h
        exact .inr (.inl ⟨o, o', h.symm, q, q'⟩)
      · have e : fin1 (some (.ref o)) (E[k]?.getD none) = some .hid := by
          cases y : E[k]? with
          | none => rfl
          | some y' => cases y' with
            | none => rfl
            | some y' => cases y' <;> first | rfl | exact absurd ⟨_, y⟩ hc
        rw [e] at h
        exact .inr (.inr ⟨(Option.some.inj h).symm, ⟨o, q⟩, fun o' z => hc ⟨o', z⟩⟩)
    | own o => simp [isArg] at ia
    | hid => simp [isArg] at ia
/-- what was lent, and nothing else -/
def wLent (as : En) (w : Ow) : Ow := fun a => match w a with
  | some i => match as[i]? with
    | some (some (.ref _)) => some i
    | _ => none
  | none => none
theorem wLent_some {as : En} {w : Ow} {a : Addr} {i : Nat} : wLent as w a = some i ↔ w a = some i ∧ ∃ o, as[i]? = some (some (.ref o)) := by
  unfold wLent
  constructor
  · intro h
    split at h
    · rename_i j e
      split at h
      · rename_i o q
        cases h
        exact ⟨e, o, q⟩
      · cases h
    · cases h
  · rintro ⟨h, o, q⟩
    simp only [h, q]
theorem wLent_le {as : En} {w : Ow} {a : Addr} (h : w a = none) : wLent as w a = none := by
  unfold wLent; rw [h]
/-- behind the body -/
theorem Sr.fin {rs : List (Nat × Addr)} {vs : List V} {H Hd Hd' H' : Hp} {as E' : En} {σ' : L2.St} {w w' : Ow} (s : Sr g ⟨H, rs⟩ Hd H as (vs.map some) w) (hr : ∀ k o, as[k]? = some (some (.ref o)) → ∃ p, (k, p) ∈ rs) (ha : as.all isArg = true)
    (e : Eff Hd H w Hd' H' w') (hrs : ∀ q ∈ rs, (vs.map some)[q.1]? = some (some (.ref q.2))) (s' : Sr g ⟨H, rs⟩ Hd' H' E' σ' w') : Eff Hd H w Hd' H' (wLent as w') ∧ Sr g ⟨H, rs⟩ Hd' H' (finE as E') (vs.map some) (wLent as w') := by
  refine ⟨⟨e.hd, e.fr, e.dom, fun a i z => e.wi a i (wLent_some.mp z).1, e.hn, e.nt⟩, s'.ext, s'.dom, fun a i z => s'.hdn a i (wLent_some.mp z).1, fun a i z => s'.wh a i (wLent_some.mp z).1, by rw [finE_len]; exact s.len, fun k x q => ?_, fun a i o z q => ?_, fun q hq => ?_, fun a i z => ?_, s'.tab, s'.ntd, fun a i ps z => s'.ntw a i ps (wLent_some.mp z).1, s'.nt0⟩
  · rcases finE_get q ha with ⟨d, rfl, q2⟩ | ⟨o, o', rfl, q2, q3⟩ | ⟨rfl, _⟩
    · obtain ⟨v, h1, h2⟩ := s.slot k _ q2
      exact ⟨v, h1, h2.mono e.hd⟩
    · obtain ⟨p, hp⟩ := hr k o q2
      obtain ⟨p', h1, h2⟩ := s'.slot k _ q3
      have e1 := (s'.rk _ hp).1
      rw [h1] at e1
      cases e1
      exact ⟨p, hrs _ hp, h2.keep (Same.refl _) (fun _ _ _ z _ => z) fun a z _ => wLent_some.mpr ⟨z, o, q2⟩⟩
    · trivial
  · rcases finE_get q ha with ⟨d, e1, _⟩ | ⟨o, o', e1, _⟩ | ⟨e1, _⟩ <;> cases e1
  · refine ⟨hrs q hq, ?_⟩
    have r0 := (s.rk q hq).2
    have hk : q.1 < as.length := by
      cases y : as[q.1]? with
      | none => rw [y] at r0; exact r0.elim
      | some x => exact (List.getElem?_eq_some_iff.mp y).1
    have hk' : q.1 < (finE as E').length := by rw [finE_len]; exact hk
    have y : (finE as E')[q.1]? = some (finE as E')[q.1] := List.getElem?_eq_getElem hk'
    rw [y]
    rcases finE_get y ha with ⟨d, e1, q2⟩ | ⟨o, o', e1, _⟩ | ⟨e1, _⟩
    · rw [e1] at q2
      rw [q2] at r0
      exact r0.elim
    · rw [e1]; trivial
    · rw [e1]; trivial
  · obtain ⟨z1, o, z2⟩ := wLent_some.mp z
    have hk : i < (finE as E').length := by rw [finE_len]; exact (List.getElem?_eq_some_iff.mp z2).1
    have y : (finE as E')[i]? = some (finE as E')[i] := List.getElem?_eq_getElem hk
    rw [y]
    rcases finE_get y ha with ⟨d, e1, q2⟩ | ⟨o, o', e1, _⟩ | ⟨e1, _⟩
    · rw [z2] at q2
      rw [← Option.some.inj q2] at e1
      cases e1
    · rw [e1]; trivial
    · exfalso
      rename_i hne
      have u := s'.st a i z1
      obtain ⟨p, hp⟩ := hr i o z2
      have u2 := (s'.rk _ hp).2
      have u2 : isRef E'[i]? := u2
      unfold hasO at u
      split at u
      · rename_i o' y'
        exact hne.2 o' y'
      · rename_i o' y'
        rw [y'] at u2
        exact u2.elim
      · exact u.elim
end
end Fx

/-! Fx8: a def's rule; calls by values -/
namespace Fx
open PySem PySem.Spec PyProof.Rows L2 LamX

section
variable {g : Gx} {W : WX}
theorem start_eq (N : List Str) (vs : List V) : start N vs = vs.map some ++ List.replicate (N.length - vs.length) none := rfl
/-- the state at a body's entry -/
theorem Sr.start {F : Fc} {Hd H : Hp} {as : En} {vs : List V} {w : Ow} {m : Nat} (s : Sr g F Hd H as (vs.map some) w) : Sr g F Hd H (as ++ List.replicate m none) (vs.map some ++ List.replicate m none) w := by
  have inl : ∀ {i : Nat} {x : S}, (as ++ List.replicate m none)[i]? = some (some x) → as[i]? = some (some x) := fun {i x} e => by
    by_cases hi : i < as.length
    · rw [List.getElem?_append_left hi] at e; exact e
    · rw [List.getElem?_append_right (by omega)] at e
      obtain ⟨h1, h2⟩ := List.getElem?_eq_some_iff.mp e
      simp at h2
  have inv : ∀ {i : Nat} {x : V}, (vs.map some)[i]? = some (some x) → (vs.map some ++ List.replicate m none)[i]? = some (some x) := fun {i x} e => by
    rw [List.getElem?_append_left (List.getElem?_eq_some_iff.mp e).1]; exact e
  have ina : ∀ {i : Nat} {x : Option S}, as[i]? = some x → (as ++ List.replicate m none)[i]? = some x := fun {i x} e => by
    rw [List.getElem?_append_left (List.getElem?_eq_some_iff.mp e).1]; exact e
  refine ⟨s.ext, s.dom, s.hdn, s.wh, by simp only [List.length_append, List.length_replicate, s.len], fun i x e => ?_, fun a i o z e => s.frs a i o z (inl e), fun q hq => ?_, fun a i z => ?_, s.tab, s.ntd, s.ntw, s.nt0⟩
  · cases x with
    | none => trivial
    | some x =>
      have k := s.slot i _ (inl e)
      cases x with
      | dat d => obtain ⟨v, h1, h2⟩ := k; exact ⟨v, inv h1, h2⟩
      | own d => obtain ⟨v, h1, h2⟩ := k; exact ⟨v, inv h1, h2⟩
      | ref d => obtain ⟨v, h1, h2⟩ := k; exact ⟨v, inv h1, h2⟩
      | hid => trivial
  · obtain ⟨y1, y2⟩ := s.rk q hq
    refine ⟨inv y1, ?_⟩
    cases y : as[q.1]? with
    | none => rw [y] at y2; exact y2.elim
    | some x => rw [ina y]; rw [y] at y2; exact y2
  · have u := s.st a i z
    cases y : as[i]? with
    | none => rw [y] at u; exact u.elim
    | some x => rw [ina y]; rw [y] at u; exact u
theorem eff_lent {Hd H Hd' H' : Hp} {w w' : Ow} {as : En} (e : Eff Hd H w Hd' H' w') : Eff Hd H w Hd' H' (wLent as w') := ⟨e.hd, e.fr, e.dom, fun a i z => e.wi a i (wLent_some.mp z).1, e.hn, e.nt⟩
/-- THE RULE of a def's body, by values -/
theorem body_ok {n m : Nat} {body : Mo Fl} {vs : List V} {H : Hp} {Q : VK} {E : XK} (h : spF g n (mkF m body) vs H Q E) : tS g (fun cls d _ H => E cls d H) body { nx := fun _ H' => Q .non H', rt := Q } (vs.map some ++ List.replicate m none) H := by
  obtain ⟨hn, Hd, w, as, rs, s, hr, ha, p⟩ := h
  have hrs : ∀ q ∈ rs, (vs.map some)[q.1]? = some (some (.ref q.2)) := fun q hq => (s.rk q hq).1
  refine ⟨⟨H, rs⟩, Hd, _, w, s.start, ?_⟩
  unfold mkF at p
  revert p
  cases body (as ++ List.replicate m none) with
  | ok f E' =>
    intro p σ' Hd' H' w' e s'
    · obtain ⟨k1, k2⟩ := s.fin hr ha e hrs s'
      cases f with
      | next => exact p .non Hd' H' _ k1 k2 (by show Rep g Hd' .non .non; simp only [Rep])
      | ret a =>
        intro v rv
        dsimp only at p
        cases q : leave E' a with
        | none => rw [q] at p; exact p.elim
        | some r =>
          rw [q] at p
          refine p v Hd' H' _ k1 k2 ?_
          cases a with
          | dat d =>
            simp only [leave, Option.some.injEq] at q
            subst q
            exact rv
          | own o =>
            simp only [leave, Option.some.injEq] at q
            subst q
            obtain ⟨c, A, h1, h2, h3⟩ := rv
            exact ⟨c, A, h1, fun a x => ⟨(h2 a x).1, (h2 a x).2.1, wLent_le (h2 a x).2.2.1, (h2 a x).2.2.2⟩, h3⟩
          | loc i =>
            simp only [leave] at q
            split at q
            · rename_i o y
              cases q
              obtain ⟨c, h1, h2⟩ := s'.slot i _ y
              have hv : v = .ref c := by
                have z := (show σ'[i]? = some (some v) from rv).symm.trans h1
                simpa using z
              refine ⟨c, fun a => w' a = some i, hv, fun a x => ⟨s'.frs a i o x y, s'.hdn a i x, ?_, s'.wh a i x⟩, h2⟩
              cases z : wLent as w' a with
              | none => rfl
              | some j =>
                obtain ⟨z1, o2, z2⟩ := wLent_some.mp z
                rw [x] at z1
                cases z1
                obtain ⟨p', hp'⟩ := hr i o2 z2
                have u := (s'.rk _ hp').2
                have u : isRef E'[i]? := u
                rw [y] at u
                exact u.elim
            · cases q
      | brk => exact p.elim
      | cont => exact p.elim
  | exc x E' =>
    intro p cls d σ' Hd' H' w' e s' z
    obtain ⟨k1, k2⟩ := s.fin hr ha e hrs s'
    exact p cls d Hd' H' _ k1 k2 z
  | bad => exact fun p => p
section
variable {P : Program} {w : World} {K : PySem.W.Frag} {mg : Str → Option Value} {base : Heap}
theorem spF_len {g : Gx} {n : Nat} {F : En → Re Vl} {vs : List V} {H : Hp} {Q : VK} {E : XK} (h : spF g n F vs H Q E) : vs.length = n := h.1
/-- a def of the text does as its body's function says -/
theorem fn_okF {x qual : Str} {st : Stmt} {f : Addr} {fd : FuncData} {N ps : List Str} {k n m : Nat} {body : Mo Fl} (F : Fun K x qual st f fd) (Sc : FnScope N ps (defScope st)) (hn : ps.length = n) (hm : N.length - n = m)
    (hbody : ∀ (cdv : Value) (A : Around) (outer : List Env) (s : Shared) (H : Hp) (E : XK), Room k (A.deeper (envOfC qual (defScope st) s.heap.objs.size f cdv)) →
      PSs (cxOf (L2.CX P w) P w K mg base N qual (defScope st) f cdv A outer s H E) (defBody st) (tS g (fun cls d _ H => E cls d H) body)) : FnOk P w K mg base (L2.CX P w) (k + 1) f fd ps (spF g n (mkF m body)) := by
  refine F.okX Sc (fun vs H Q E h => h.1.trans hn.symm) fun cdv A outer s H vs Q E hr h => ⟨_, hbody cdv A outer s H E hr, ?_⟩
  rw [start_eq, h.1, hm]
  exact body_ok h
end
end
end Fx

/-! Fx9: arguments; calls of defs -/
namespace Fx
open PySem PySem.Spec PyProof.Rows L2 LamX

/-- values, one after another; TA: the objects of each new one -/
def VFam (g : Gx) (Hd H : Hp) (w : Ow) (σ : L2.St) (Hs : Hp) (vs : List V) (xs : List Vl) : Prop :=
  vs.length = xs.length ∧ ∃ TA : Nat → Addr → Prop, (∀ k a, TA k a → Hs a = none ∧ Hd a = none ∧ w a = none ∧ H a ≠ none ∧ ∃ o, xs[k]? = some (.own o)) ∧ (∀ k l a, TA k a → TA l a → k = l) ∧
    ∀ (k : Nat) (x : Vl), xs[k]? = some x → ∃ v, vs[k]? = some v ∧ match x with
      | .dat d => Rep g Hd d v
      | .loc i => σ[i]? = some (some v)
      | .own o => ∃ p, v = .ref p ∧ OwnRep g Hd H (TA k) p o
def tV (g : Gx) (W : WX) (f : Mo (List Vl)) : TA := fun σ H Q => ∃ F Hd E w, Sr g F Hd H E σ w ∧ PostA g F W σ Hd H w (f E) fun xs _ Hd' H' w' => ∀ vs, VFam g Hd' H' w' σ H vs xs → Q vs H'
def aNil : Mo (List Vl) := mp []
def aCons (f : Mo Vl) (r : Mo (List Vl)) : Mo (List Vl) := mb f fun x => mb r fun xs => mp (x :: xs)
section
variable {g : Gx} {W : WX} {X : Cx}
theorem da_nil : PA X [] (tV g W aNil) := pa_nil.impF fun σ H Q ⟨F, Hd, E, w, s, p⟩ => p.here s [] ⟨rfl, fun _ _ => False, fun _ _ z => z.elim, fun _ _ _ z => z.elim, fun k x e => by simp at e⟩
theorem VFam.cons {Hd H Hd' H' Hs : Hp} {w w' : Ow} {σ : L2.St} {v : V} {x : Vl} {vs : List V} {xs : List Vl} (e0 : ∀ a, Hs a ≠ none → H a ≠ none) (e : Eff Hd H w Hd' H' w') (r : VRel g Hd H w σ Hs v x) (rr : VFam g Hd' H' w' σ H vs xs) : VFam g Hd' H' w' σ Hs (v :: vs) (x :: xs) := by
  obtain ⟨hl, TA, t1, t2, t3⟩ := rr
  have tail : ∀ k a, TA k a → Hs a = none ∧ Hd' a = none ∧ w' a = none ∧ H' a ≠ none ∧ ∃ o, (x :: xs)[k + 1]? = some (.own o) := fun k a z => by
    obtain ⟨z1, z2, z3, z4, z5⟩ := t1 k a z
    refine ⟨?_, z2, z3, z4, by simpa using z5⟩
    cases y : Hs a with
    | none => rfl
    | some o => exact absurd z1 (e0 a (by rw [y]; simp))
  refine ⟨by simp [hl], ?_⟩
  have r' := VRel.eff e r
  cases x with
  | dat d =>
    refine ⟨fun k a => ∃ j, k = j + 1 ∧ TA j a, fun k a ⟨j, ek, z⟩ => by subst ek; exact tail j a z, fun k l a ⟨i, ei, zi⟩ ⟨j, ej, zj⟩ => by rw [ei, ej, t2 i j a zi zj], fun k y q => ?_⟩
    cases k with
    | zero => simp only [List.getElem?_cons_zero, Option.some.injEq] at q; subst q; exact ⟨v, rfl, r'⟩
    | succ k =>
      obtain ⟨u, h1, h2⟩ := t3 k y (by simpa using q)
      refine ⟨u, by simpa using h1, ?_⟩
      cases y with
      | dat _ => exact h2
      | loc _ => exact h2
      | own o => obtain ⟨p, h3, h4⟩ := h2; exact ⟨p, h3, h4.keep (Same.refl _) (fun _ _ _ z _ => z) fun a z _ => ⟨k, rfl, z⟩⟩
  | loc i =>
    refine ⟨fun k a => ∃ j, k = j + 1 ∧ TA j a, fun k a ⟨j, ek, z⟩ => by subst ek; exact tail j a z, fun k l a ⟨i, ei, zi⟩ ⟨j, ej, zj⟩ => by rw [ei, ej, t2 i j a zi zj], fun k y q => ?_⟩
    cases k with
    | zero => simp only [List.getElem?_cons_zero, Option.some.injEq] at q; subst q; exact ⟨v, rfl, r'⟩
    | succ k =>
      obtain ⟨u, h1, h2⟩ := t3 k y (by simpa using q)
      refine ⟨u, by simpa using h1, ?_⟩
      cases y with
      | dat _ => exact h2
      | loc _ => exact h2
      | own o => obtain ⟨p, h3, h4⟩ := h2; exact ⟨p, h3, h4.keep (Same.refl _) (fun _ _ _ z _ => z) fun a z _ => ⟨k, rfl, z⟩⟩
  | own o =>
    obtain ⟨p, A, h1, h2, h3⟩ := r
    obtain ⟨p', A', h1', h2', h3'⟩ := r'
    rw [h1] at h1'
    have hpp : p = p' := V.ref.inj h1'
    subst hpp
    -- the objects of the first one, as they stood ahead of the others
    have h3e := h3.keep e.hd (fun a o x y nt => e.fr a o y (h2 a x).2.2.1 nt) (A' := A) (fun _ x _ => x)
    have hA : ∀ a, A a → Hs a = none ∧ Hd' a = none ∧ w' a = none ∧ H' a ≠ none := fun a x => by
      obtain ⟨z1, z2, z3, z4⟩ := h2 a x
      refine ⟨z1, ?_, ?_, e.dom a z4⟩
      · cases q : Hd' a with
        | none => rfl
        | some u =>
          rcases e.hn a (by rw [q]; simp) with y | y | y
          · exact absurd z2 y
          · exact absurd z3 y
          · exact absurd y z4
      · cases q : w' a with
        | none => rfl
        | some u =>
          rcases e.wn a (by rw [q]; simp) with y | y
          · exact absurd z3 y
          · exact absurd y z4
    refine ⟨fun k a => (k = 0 ∧ A a) ∨ ∃ j, k = j + 1 ∧ TA j a, fun k a z => ?_, fun k l a zk zl => ?_, fun k y q => ?_⟩
    · rcases z with ⟨rfl, z⟩ | ⟨j, rfl, z⟩
      · obtain ⟨y1, y2, y3, y4⟩ := hA a z
        exact ⟨y1, y2, y3, y4, o, rfl⟩
      · exact tail j a z
    · rcases zk with ⟨rfl, zk⟩ | ⟨i, rfl, zk⟩
      · rcases zl with ⟨rfl, zl⟩ | ⟨j, rfl, zl⟩
        · rfl
        · exact absurd (t1 j a zl).1 (h2 a zk).2.2.2
      · rcases zl with ⟨rfl, zl⟩ | ⟨j, rfl, zl⟩
        · exact absurd (t1 i a zk).1 (h2 a zl).2.2.2
        · rw [t2 i j a zk zl]
    · cases k with
      | zero =>
        simp only [List.getElem?_cons_zero, Option.some.injEq] at q
        subst q
        exact ⟨v, rfl, p, h1, h3e.keep (Same.refl _) (fun _ _ _ z _ => z) fun a z _ => .inl ⟨rfl, z⟩⟩
      | succ k =>
        obtain ⟨u, h1, h2⟩ := t3 k y (by simpa using q)
        refine ⟨u, by simpa using h1, ?_⟩
        cases y with
        | dat _ => exact h2
        | loc _ => exact h2
        | own o => obtain ⟨p, h3, h4⟩ := h2; exact ⟨p, h3, h4.keep (Same.refl _) (fun _ _ _ z _ => z) fun a z _ => .inr ⟨k, rfl, z⟩⟩
theorem da_cons {e : Expr} {es : List Expr} {f : Mo Vl} {r : Mo (List Vl)} (h : PE X e (tE g W f)) (hr : PA X es (tV g W r)) (hs : starEach (e :: es) X.env = (false, eval e X.env) :: starEach es X.env := by rfl) : PA X (e :: es) (tV g W (aCons f r)) := (pa_cons h hr hs).impF fun σ H Q ⟨F, Hd, E, w, s, p⟩ => by
  refine ⟨F, Hd, E, w, s, (PostA.bind p).imp fun x E1 Hd1 H1 w1 _ e1 s1 p1 v rv => ?_⟩
  refine ⟨F, Hd1, E1, w1, s1, (PostA.bind p1).imp fun xs E2 Hd2 H2 w2 _ e2 s2 p2 vs rvs => ?_⟩
  exact p2.here s2 _ (VFam.cons e1.dom e2 rv rvs)

/-! ### the frame of a call -/
def toArgs (E : En) : List Vl → Option En
  | [] => some []
  | .dat d :: r => match toArgs E r with
    | some as => some (some (.dat d) :: as)
    | none => none
  | .own o :: r => match toArgs E r with
    | some as => some (some (.ref o) :: as)
    | none => none
  | .loc i :: r => match E[i]? with
    | some (some (.own o)) => match toArgs E r with
      | some as => some (some (.ref o) :: as)
      | none => none
    | some (some (.ref o)) => match toArgs E r with
      | some as => some (some (.ref o) :: as)
      | none => none
    | _ => none
def isLoc (i : Nat) : Vl → Bool
  | .loc j => i == j
  | _ => false
def distL : List Vl → Bool
  | [] => true
  | .loc i :: r => !(r.any (isLoc i)) && distL r
  | _ :: r => distL r
def backL (E : En) : List Vl → En → Option En
  | .loc i :: r, some (.ref o) :: as => match E[i]? with
    | some (some (.own _)) => backL (E.set i (some (.own o))) r as
    | some (some (.ref _)) => backL (E.set i (some (.ref o))) r as
    | _ => none
  | .dat _ :: r, _ :: as => backL E r as
  | .own _ :: r, _ :: as => backL E r as
  | [], _ => some E
  | _, _ => none
def dCall (F : En → Re Vl) (args : Mo (List Vl)) : Mo Vl := mb args fun xs E => match toArgs E xs with
  | some as => if distL xs = true then match F as with
      | .ok r as' => match backL E xs as' with
        | some E' => .ok r E'
        | none => .bad
      | .exc x as' => match backL E xs as' with
        | some E' => .exc x E'
        | none => .bad
      | .bad => .bad
    else .bad
  | none => .bad
theorem distL_inj : ∀ {xs : List Vl} {k l i : Nat}, distL xs = true → xs[k]? = some (.loc i) → xs[l]? = some (.loc i) → k = l
  | [], k, l, i, _, h, _ => by simp at h
  | x :: xs, k, l, i, hd, hk, hl => by
    have tail : distL xs = true := by
      cases x with
      | dat _ => exact hd
      | own _ => exact hd
      | loc j => simp only [distL, Bool.and_eq_true] at hd; exact hd.2
    have no : ∀ m : Nat, xs[m]? = some (.loc i) → x ≠ .loc i := fun m hm e => by
      subst e
      simp only [distL, Bool.and_eq_true, Bool.not_eq_true', List.any_eq_false] at hd
      have := hd.1 _ (List.mem_of_getElem? hm)
      simp [isLoc] at this
    cases k with
    | zero =>
      cases l with
      | zero => rfl
      | succ l => exact absurd (by simpa using hk) (no l (by simpa using hl))
    | succ k =>
      cases l with
      | zero => exact absurd (by simpa using hl) (no k (by simpa using hk))
      | succ l =>
        have hk' : xs[k]? = some (.loc i) := by simpa using hk
        have hl' : xs[l]? = some (.loc i) := by simpa using hl
        rw [distL_inj tail hk' hl']
theorem toArgs_get : ∀ {xs : List Vl} {E as : En} {k : Nat} {x : Vl}, toArgs E xs = some as → xs[k]? = some x → match x with
    | .dat d => as[k]? = some (some (.dat d))
    | .own o => as[k]? = some (some (.ref o))
    | .loc i => ∃ o, as[k]? = some (some (.ref o)) ∧ (E[i]? = some (some (.own o)) ∨ E[i]? = some (some (.ref o)))
  | [], E, as, k, x, _, h => by simp at h
  | y :: xs, E, as, k, x, h, hk => by
    have : ∃ s as', as = s :: as' ∧ toArgs E xs = some as' ∧ match y with
        | .dat d => s = some (.dat d)
        | .own o => s = some (.ref o)
        | .loc i => ∃ o, s = some (.ref o) ∧ (E[i]? = some (some (.own o)) ∨ E[i]? = some (some (.ref o))) := by
      cases y with
      | dat d => simp only [toArgs] at h; split at h <;> cases h; exact ⟨_, _, rfl, by assumption, rfl⟩
      | own d => simp only [toArgs] at h; split at h <;> cases h; exact ⟨_, _, rfl, by assumption, rfl⟩
      | loc i =>
        simp only [toArgs] at h
        split at h
        · rename_i o q; split at h <;> cases h; exact ⟨_, _, rfl, by assumption, o, rfl, .inl q⟩
        · rename_i o q; split at h <;> cases h; exact ⟨_, _, rfl, by assumption, o, rfl, .inr q⟩
        · cases h
    obtain ⟨s, as', rfl, ha, hs⟩ := this
    cases k with
    | zero =>
      simp only [List.getElem?_cons_zero, Option.some.injEq] at hk
      subst hk
      cases y with
      | dat d =>
        have hs : s = some (.dat d) := hs
        rw [hs]; rfl
      | own d =>
        have hs : s = some (.ref d) := hs
        rw [hs]; rfl
      | loc i => obtain ⟨o, h1, h2⟩ := hs; exact ⟨o, by rw [h1]; rfl, h2⟩
    | succ k =>
      have r := toArgs_get (k := k) (x := x) ha (by simpa using hk)
      simpa using r
theorem toArgs_len : ∀ {xs : List Vl} {E as : En}, toArgs E xs = some as → as.length = xs.length
  | [], E, as, h => by simp only [toArgs, Option.some.injEq] at h; subst h; rfl
  | y :: xs, E, as, h => by
    cases y with
    | dat d => simp only [toArgs] at h; split at h <;> cases h; rename_i q; simp [toArgs_len q]
    | own d => simp only [toArgs] at h; split at h <;> cases h; rename_i q; simp [toArgs_len q]
    | loc i =>
      simp only [toArgs] at h
      split at h
      · split at h <;> cases h; rename_i q; simp [toArgs_len q]
      · split at h <;> cases h; rename_i q; simp [toArgs_len q]
      · cases h
theorem toArgs_arg : ∀ {xs : List Vl} {E as : En}, toArgs E xs = some as → as.all isArg = true
  | [], E, as, h => by simp only [toArgs, Option.some.injEq] at h; subst h; rfl
  | y :: xs, E, as, h => by
    cases y with
    | dat d => simp only [toArgs] at h; split at h <;> cases h; rename_i q; simp [toArgs_arg q, isArg]
    | own d => simp only [toArgs] at h; split at h <;> cases h; rename_i q; simp [toArgs_arg q, isArg]
    | loc i =>
      simp only [toArgs] at h
      split at h
      · split at h <;> cases h; rename_i q; simp [toArgs_arg q, isArg]
      · split at h <;> cases h; rename_i q; simp [toArgs_arg q, isArg]
      · cases h
/-- what is written back -/
theorem backL_ok : ∀ {xs : List Vl} {E E' as : En}, backL E xs as = some E' → distL xs = true → E'.length = E.length ∧ (∀ i : Nat, (∀ k : Nat, xs[k]? ≠ some (.loc i)) → E'[i]? = E[i]?) ∧
    ∀ (k i : Nat), xs[k]? = some (.loc i) → ∃ o, as[k]? = some (some (.ref o)) ∧ ((∃ o1, E[i]? = some (some (.own o1))) ∧ E'[i]? = some (some (.own o)) ∨ (∃ o1, E[i]? = some (some (.ref o1))) ∧ E'[i]? = some (some (.ref o)))
  | [], E, E', as, h, _ => by
    simp only [backL, Option.some.injEq] at h
    subst h
    exact ⟨rfl, fun _ _ => rfl, fun k i q => by simp at q⟩
  | x :: xs, E, E', as, h, hd => by
    have tail : distL xs = true := by
      cases x with
      | dat _ => exact hd
      | own _ => exact hd
      | loc j => simp only [distL, Bool.and_eq_true] at hd; exact hd.2
    have plain : ∀ {s : Option S} {as' : En}, (∀ i, x ≠ .loc i) → as = s :: as' → backL E xs as' = some E' → E'.length = E.length ∧ (∀ i : Nat, (∀ k : Nat, (x :: xs)[k]? ≠ some (.loc i)) → E'[i]? = E[i]?) ∧
        ∀ (k i : Nat), (x :: xs)[k]? = some (.loc i) → ∃ o, as[k]? = some (some (.ref o)) ∧ ((∃ o1, E[i]? = some (some (.own o1))) ∧ E'[i]? = some (some (.own o)) ∨ (∃ o1, E[i]? = some (some (.ref o1))) ∧ E'[i]? = some (some (.ref o))) := fun {s as'} hx ea hb => by
      obtain ⟨h1, h2, h3⟩ := backL_ok hb tail
      refine ⟨h1, fun i hi => h2 i fun k q => hi (k + 1) (by simpa using q), fun k i q => ?_⟩
      cases k with
      | zero => exact absurd (by simpa using q) (hx i)
      | succ k =>
        obtain ⟨o, h4, h5⟩ := h3 k i (by simpa using q)
        exact ⟨o, by rw [ea]; simpa using h4, h5⟩
    cases x with
    | dat d =>
      cases as with
      | nil => simp [backL] at h
      | cons s as' => exact plain (fun i z => by cases z) rfl (by simpa [backL] using h)
    | own d =>
      cases as with
      | nil => simp [backL] at h
      | cons s as' => exact plain (fun i z => by cases z) rfl (by simpa [backL] using h)
    | loc j =>
      have no : ∀ m : Nat, xs[m]? ≠ some (.loc j) := fun m hm => by
        simp only [distL, Bool.and_eq_true, Bool.not_eq_true', List.any_eq_false] at hd
        have := hd.1 _ (List.mem_of_getElem? hm)
        simp [isLoc] at this
      have step : ∀ {o : O} {as' : En} {n : S}, as = some (.ref o) :: as' → j < E.length → backL (E.set j (some n)) xs as' = some E' → ((∃ o1, E[j]? = some (some (.own o1))) ∧ n = .own o ∨ (∃ o1, E[j]? = some (some (.ref o1))) ∧ n = .ref o) →
          E'.length = E.length ∧ (∀ i : Nat, (∀ k : Nat, (Vl.loc j :: xs)[k]? ≠ some (.loc i)) → E'[i]? = E[i]?) ∧
        ∀ (k i : Nat), (Vl.loc j :: xs)[k]? = some (.loc i) → ∃ o, as[k]? = some (some (.ref o)) ∧ ((∃ o1, E[i]? = some (some (.own o1))) ∧ E'[i]? = some (some (.own o)) ∨ (∃ o1, E[i]? = some (some (.ref o1))) ∧ E'[i]? = some (some (.ref o))) := fun {o as' n} ea hj hb hn => by
        obtain ⟨h1, h2, h3⟩ := backL_ok hb tail
        have at_j : E'[j]? = some (some n) := by rw [h2 j no, List.getElem?_set_self hj]
        refine ⟨by rw [h1, List.length_set], fun i hi => ?_, fun k i q => ?_⟩
        · have nij : j ≠ i := fun e => hi 0 (by rw [e]; rfl)
          rw [h2 i fun k q => hi (k + 1) (by simpa using q), List.getElem?_set_ne nij]
        · cases k with
          | zero =>
            have e : j = i := by simpa using q
            subst e
            refine ⟨o, by rw [ea]; rfl, ?_⟩
            rcases hn with ⟨z1, z2⟩ | ⟨z1, z2⟩
            · exact .inl ⟨z1, by rw [at_j, z2]⟩
            · exact .inr ⟨z1, by rw [at_j, z2]⟩
          | succ k =>
            have q' : xs[k]? = some (.loc i) := by simpa using q
            have nij : j ≠ i := fun e => no k (by rw [e]; exact q')
            obtain ⟨o, h4, h5⟩ := h3 k i q'
            rw [List.getElem?_set_ne nij] at h5
            exact ⟨o, by rw [ea]; simpa using h4, h5⟩
      cases as with
      | nil => simp [backL] at h
      | cons s as' =>
        cases s with
        | none => simp [backL] at h
        | some s =>
          cases s with
          | ref o =>
            simp only [backL] at h
            split at h
            · rename_i o1 q
              exact step rfl (List.getElem?_eq_some_iff.mp q).1 h (.inl ⟨⟨o1, q⟩, rfl⟩)
            · rename_i o1 q
              exact step rfl (List.getElem?_eq_some_iff.mp q).1 h (.inr ⟨⟨o1, q⟩, rfl⟩)
            · cases h
          | dat _ => simp [backL] at h
          | own _ => simp [backL] at h
          | hid => simp [backL] at h
end
end Fx

/-! FxA: a call is what the def's function says -/
namespace Fx
open PySem PySem.Spec PyProof.Rows L2 LamX

def callM (Fn : En → Re Vl) (xs : List Vl) : Mo Vl := fun E => match toArgs E xs with
  | some as => if distL xs = true then match Fn as with
      | .ok r as' => match backL E xs as' with
        | some E' => .ok r E'
        | none => .bad
      | .exc x as' => match backL E xs as' with
        | some E' => .exc x E'
        | none => .bad
      | .bad => .bad
    else .bad
  | none => .bad
theorem dCall_eq (Fn : En → Re Vl) (args : Mo (List Vl)) : dCall Fn args = mb args (callM Fn) := rfl

section
variable {g : Gx} {W : WX} {X : Cx}
def tmpOf (TA : Nat → Addr → Prop) (xs : List Vl) (w : Ow) (k : Nat) (a : Addr) : Prop := TA k a ∨ ∃ i, xs[k]? = some (.loc i) ∧ w a = some i
open Classical in
noncomputable def wCall (T : Nat → Addr → Prop) : Ow := fun a => if h : ∃ k, T k a then some h.choose else none
theorem wCall_some {T : Nat → Addr → Prop} (inj : ∀ k l a, T k a → T l a → k = l) {a : Addr} {k : Nat} : wCall T a = some k ↔ T k a := by
  unfold wCall
  constructor
  · intro h
    split at h
    · rename_i hh
      have e := Option.some.inj h
      rw [← e]; exact hh.choose_spec
    · cases h
  · intro h
    rw [dif_pos ⟨k, h⟩]
    have hh : ∃ k, T k a := ⟨k, h⟩
    rw [inj _ _ a hh.choose_spec h]
def isRefAt (as : En) (k : Nat) : Bool := match as[k]? with
  | some (some (.ref _)) => true
  | _ => false
def rsOf (as : En) (vs : List V) : List (Nat × Addr) := (List.range as.length).filterMap fun k => match vs[k]? with
  | some (V.ref p) => if isRefAt as k = true then some (k, p) else none
  | _ => none
theorem mem_rsOf {as : En} {vs : List V} {k : Nat} {p : Addr} : (k, p) ∈ rsOf as vs ↔ isRefAt as k = true ∧ vs[k]? = some (.ref p) := by
  unfold rsOf
  rw [List.mem_filterMap]
  constructor
  · rintro ⟨j, _, h⟩
    split at h
    · rename_i q e
      split at h
      · rename_i hr
        cases h
        exact ⟨hr, e⟩
      · cases h
    · cases h
  · rintro ⟨h1, h2⟩
    refine ⟨k, List.mem_range.mpr ?_, by simp only [h2, h1]; rfl⟩
    unfold isRefAt at h1
    split at h1
    · rename_i q; exact (List.getElem?_eq_some_iff.mp q).1
    · cases h1
/-- a frame from its parts -/
theorem Sr.make {Hd H : Hp} {as : En} {vs : List V} {T : Nat → Addr → Prop} (tb : Tabs g.T H) (nd : ∀ a ps, Hd a ≠ some (.tbl ps)) (tw : ∀ k a ps, T k a → H a ≠ some (.tbl ps)) (ext : Same Hd H) (hl : as.length = vs.length) (inj : ∀ k l a, T k a → T l a → k = l) (tn : ∀ k a, T k a → Hd a = none ∧ H a ≠ none ∧ isRefAt as k = true)
    (sl : ∀ (k : Nat) (s : Option S), as[k]? = some s → ∃ v, vs[k]? = some v ∧ ((∃ d, s = some (.dat d) ∧ Rep g Hd d v) ∨ ∃ o p, s = some (.ref o) ∧ v = .ref p ∧ OwnRep g Hd H (T k) p o)) :
    Sr g ⟨H, rsOf as vs⟩ Hd H as (vs.map some) (wCall T) ∧ (∀ k o, as[k]? = some (some (.ref o)) → ∃ p, (k, p) ∈ rsOf as vs) ∧ as.all isArg = true := by
  have iff : ∀ {a : Addr} {k : Nat}, wCall T a = some k ↔ T k a := wCall_some inj
  refine ⟨⟨ext, fun _ h => h, fun a i z => (tn i a (iff.mp z)).1, fun a i z => (tn i a (iff.mp z)).2.1, by simpa using hl, fun i x e => ?_, fun a i o z e => ?_, fun q hq => ?_, fun a i z => ?_, tb, nd, fun a i ps z => tw i a ps (iff.mp z), fun a ps z => by show H a ≠ none; rw [z]; simp⟩, fun k o e => ?_, ?_⟩
  · obtain ⟨v, h1, h2⟩ := sl i x e
    have h1' : (vs.map some)[i]? = some (some v) := by rw [List.getElem?_map, h1]; rfl
    rcases h2 with ⟨d, rfl, r⟩ | ⟨o, p, rfl, rfl, r⟩
    · exact ⟨v, h1', r⟩
    · exact ⟨p, h1', r.keep (Same.refl _) (fun _ _ _ z _ => z) fun a z _ => iff.mpr z⟩
  · have y := (tn i a (iff.mp z)).2.2
    unfold isRefAt at y
    rw [e] at y
    cases y
  · obtain ⟨k, p⟩ := q
    obtain ⟨h1, h2⟩ := mem_rsOf.mp hq
    refine ⟨by show (vs.map some)[k]? = some (some (.ref p)); rw [List.getElem?_map, h2]; rfl, ?_⟩
    show isRef as[k]?
    unfold isRefAt at h1
    split at h1
    · rename_i y; rw [y]; trivial
    · cases h1
  · have y := (tn i a (iff.mp z)).2.2
    unfold isRefAt at y
    split at y
    · rename_i u; rw [u]; trivial
    · cases y
  · obtain ⟨v, h1, h2⟩ := sl k _ e
    rcases h2 with ⟨d, z, r⟩ | ⟨o, p, _, rfl, r⟩
    · cases z
    · exact ⟨p, mem_rsOf.mpr ⟨by unfold isRefAt; rw [e], h1⟩⟩
  · rw [List.all_eq_true]
    intro s hs
    obtain ⟨k, hk⟩ := List.mem_iff_getElem?.mp hs
    obtain ⟨v, h1, h2⟩ := sl k s hk
    rcases h2 with ⟨d, rfl, r⟩ | ⟨o, p, rfl, _, r⟩ <;> rfl
/-- the caller's ownership behind a call -/
def wAfter (xs : List Vl) (w wc : Ow) : Ow := fun a => match wc a with
  | some k => match xs[k]? with
    | some (.loc i) => some i
    | _ => none
  | none => match w a with
    | some i => if xs.any (isLoc i) = true then none else some i
    | none => none
theorem any_isLoc {xs : List Vl} {i : Nat} : xs.any (isLoc i) = true ↔ ∃ k : Nat, xs[k]? = some (.loc i) := by
  rw [List.any_eq_true]
  constructor
  · rintro ⟨x, hx, h⟩
    obtain ⟨k, hk⟩ := List.mem_iff_getElem?.mp hx
    cases x with
    | loc j =>
      simp only [isLoc, beq_iff_eq] at h
      subst h
      exact ⟨k, hk⟩
    | dat _ => simp [isLoc] at h
    | own _ => simp [isLoc] at h
  · rintro ⟨k, hk⟩
    exact ⟨_, List.mem_of_getElem? hk, by simp [isLoc]⟩
theorem call_post {F : Fc} {σ : L2.St} {Hd H Hd0 H0 : Hp} {w w0 : Ow} {E : En} {Fn : En → Re Vl} {xs : List Vl} {vs : List V} {Q : VK} (d0 : ∀ a, F.H0 a ≠ none → H0 a ≠ none) (e0 : Eff Hd0 H0 w0 Hd H w) (s : Sr g F Hd H E σ w) (r : VFam g Hd H w σ H0 vs xs)
    (p : PostA g F W σ Hd0 H0 w0 (callM Fn xs E) fun a _ Hd' H' w' => ∀ v, VRel g Hd' H' w' σ H0 v a → Q v H') : spF g xs.length Fn vs H Q (fun cls d H' => W cls d σ H') := by
  obtain ⟨hl, TA, t1, t2, t3⟩ := r
  unfold callM at p
  cases qa : toArgs E xs with
  | none => rw [qa] at p; exact p.elim
  | some as =>
    rw [qa] at p
    dsimp only at p
    split at p
    · rename_i hd
      have lenA := toArgs_len qa
      have inj : ∀ k l a, tmpOf TA xs w k a → tmpOf TA xs w l a → k = l := fun k l a hk hl => by
        rcases hk with hk | ⟨i, k1, k2⟩
        · rcases hl with hl | ⟨j, l1, l2⟩
          · exact t2 k l a hk hl
          · rw [(t1 k a hk).2.2.1] at l2; cases l2
        · rcases hl with hl | ⟨j, l1, l2⟩
          · rw [(t1 l a hl).2.2.1] at k2; cases k2
          · rw [k2] at l2; cases l2
            exact distL_inj hd k1 l1
      have tn : ∀ k a, tmpOf TA xs w k a → Hd a = none ∧ H a ≠ none ∧ isRefAt as k = true := fun k a h => by
        rcases h with h | ⟨i, h1, h2⟩
        · obtain ⟨z1, z2, z3, z4, o, z5⟩ := t1 k a h
          have y : as[k]? = some (some (.ref o)) := toArgs_get qa z5
          exact ⟨z2, z4, by unfold isRefAt; rw [y]⟩
        · obtain ⟨o, y, _⟩ := toArgs_get qa h1
          exact ⟨s.hdn a i h2, s.wh a i h2, by unfold isRefAt; rw [y]⟩
      have sl : ∀ (k : Nat) (s' : Option S), as[k]? = some s' → ∃ v, vs[k]? = some v ∧ ((∃ d, s' = some (.dat d) ∧ Rep g Hd d v) ∨ ∃ o p, s' = some (.ref o) ∧ v = .ref p ∧ OwnRep g Hd H (tmpOf TA xs w k) p o) := fun k s' e => by
        have hk : k < xs.length := by rw [← lenA]; exact (List.getElem?_eq_some_iff.mp e).1
        have hx : xs[k]? = some xs[k] := List.getElem?_eq_getElem hk
        obtain ⟨v, h1, h2⟩ := t3 k _ hx
        refine ⟨v, h1, ?_⟩
        have y := toArgs_get qa hx
        generalize xs[k] = x at hx h2 y
        cases x with
        | dat d =>
          have y : as[k]? = some (some (.dat d)) := y
          rw [e] at y; cases y
          exact .inl ⟨d, rfl, h2⟩
        | own o =>
          have y : as[k]? = some (some (.ref o)) := y
          rw [e] at y; cases y
          obtain ⟨p, h3, h4⟩ := h2
          exact .inr ⟨o, p, rfl, h3, h4.keep (Same.refl _) (fun _ _ _ z _ => z) fun a z _ => .inl z⟩
        | loc i =>
          obtain ⟨o, y1, y2⟩ := y
          rw [e] at y1; cases y1
          have h2 : σ[i]? = some (some v) := h2
          have give : ∃ p, σ[i]? = some (some (.ref p)) ∧ OwnRep g Hd H (fun a => w a = some i) p o := by
            rcases y2 with y2 | y2
            · exact s.slot i _ y2
            · exact s.slot i _ y2
          obtain ⟨p, z1, z2⟩ := give
          rw [h2] at z1
          exact .inr ⟨o, p, rfl, by simpa using z1, z2.keep (Same.refl _) (fun _ _ _ z _ => z) fun a z _ => .inr ⟨i, hx, z⟩⟩
      obtain ⟨sc, hr, ha⟩ := Sr.make (g := g) s.tab s.ntd (fun k a ps z y => by
        rcases z with z | ⟨i, _, z⟩
        · obtain ⟨qs, u⟩ := e0.nt a ps y
          rw [(t1 k a z).1] at u; cases u
        · exact s.ntw a i ps z y) s.ext (lenA.trans hl.symm) inj tn sl
      have iff : ∀ {a : Addr} {k : Nat}, wCall (tmpOf TA xs w) a = some k ↔ tmpOf TA xs w k a := wCall_some inj
      -- behind the call
      have after : ∀ {Hd' H' : Hp} {w' : Ow} {as' E' : En}, Eff Hd H (wCall (tmpOf TA xs w)) Hd' H' w' → Sr g ⟨H, rsOf as vs⟩ Hd' H' as' (vs.map some) w' → backL E xs as' = some E' →
          Eff Hd0 H0 w0 Hd' H' (wAfter xs w w') ∧ Sr g F Hd' H' E' σ (wAfter xs w w') ∧ ∀ a, w' a = none → w a = none → wAfter xs w w' a = none := fun {Hd' H' w' as' E'} e s' hb => by
        obtain ⟨b1, b2, b3⟩ := backL_ok hb hd
        -- what the callee may hold
        have cw : ∀ {a : Addr}, wCall (tmpOf TA xs w) a ≠ none → w a ≠ none ∨ H0 a = none := fun {a} h => by
          cases y : wCall (tmpOf TA xs w) a with
          | none => exact absurd y h
          | some k =>
            rcases iff.mp y with z | ⟨i, _, z⟩
            · exact .inr (t1 k a z).1
            · exact .inl (by rw [z]; simp)
        have wa : ∀ {a : Addr} {i : Nat}, wAfter xs w w' a = some i → (∃ k : Nat, w' a = some k ∧ xs[k]? = some (.loc i)) ∨ (w' a = none ∧ w a = some i ∧ ∀ k : Nat, xs[k]? ≠ some (.loc i)) := fun {a i} h => by
          unfold wAfter at h
          split at h
          · rename_i k y
            split at h
            · rename_i j z
              cases h
              exact .inl ⟨k, y, z⟩
            · cases h
          · rename_i y
            split at h
            · rename_i j z
              split at h
              · cases h
              · rename_i u
                cases h
                exact .inr ⟨y, z, fun k q => u (any_isLoc.mpr ⟨k, q⟩)⟩
            · cases h
        have back0 : ∀ {a : Addr}, H a = none → H0 a = none := fun {a} h => by
          cases y : H0 a with
          | none => rfl
          | some o => exact absurd h (e0.dom a (by rw [y]; simp))
        have notT : ∀ {a : Addr} {i : Nat}, w a = some i → (∀ k : Nat, xs[k]? ≠ some (.loc i)) → wCall (tmpOf TA xs w) a = none := fun {a i} h1 h2 => by
          cases y : wCall (tmpOf TA xs w) a with
          | none => rfl
          | some k =>
            rcases iff.mp y with z | ⟨j, z1, z2⟩
            · rw [(t1 k a z).2.2.1] at h1; cases h1
            · rw [h1] at z2; cases z2
              exact absurd z1 (h2 k)
        refine ⟨⟨e0.hd.trans e.hd, fun a o h n nt => ?_, fun a h => e.dom a (e0.dom a h), fun a i h => ?_, fun a h => ?_, fun a ps h => by
          obtain ⟨qs, h⟩ := e.nt a ps h
          exact e0.nt a qs h⟩, ⟨s'.ext, fun a h => e.dom a (s.dom a h), fun a i h => ?_, fun a i h => ?_, by rw [b1]; exact s.len, fun i x q => ?_, fun a i o h q => ?_, fun q hq => ?_, fun a i h => ?_, s'.tab, s'.ntd, fun a i ps h y => ?_, fun a ps h => by
          obtain ⟨qs, h⟩ := e.nt a ps h
          exact s.nt0 a qs h⟩, fun a h1 h2 => ?_⟩
        · -- what was not the caller's own stays
          have h1 := e0.fr a o h n nt
          refine e.fr a o h1 ?_ nt
          cases y : wCall (tmpOf TA xs w) a with
          | none => rfl
          | some k =>
            rcases cw (by rw [y]; simp) with z | z
            · rcases e0.wn a z with u | u
              · exact absurd n u
              · rw [h] at u; cases u
            · rw [h] at z; cases z
        · rcases wa h with ⟨k, z, zk⟩ | ⟨_, z, _⟩
          · rcases e.wi a k z with u | u
            · rcases iff.mp u with v | ⟨j, v1, v2⟩
              · exact .inr (t1 k a v).1
              · rw [zk] at v1; cases v1
                exact e0.wi a i v2
            · exact .inr (back0 u)
          · exact e0.wi a i z
        · rcases e.hn a h with u | u | u
          · exact e0.hn a u
          · rcases cw u with v | v
            · rcases e0.wn a v with x | x
              · exact .inr (.inl x)
              · exact .inr (.inr x)
            · exact .inr (.inr v)
          · exact .inr (.inr (back0 u))
        · rcases wa h with ⟨k, z, _⟩ | ⟨z0, z, zl⟩
          · exact s'.hdn a k z
          · cases y : Hd' a with
            | none => rfl
            | some o =>
              rcases e.hn a (by rw [y]; simp) with u | u | u
              · exact absurd (s.hdn a i z) u
              · exact absurd (notT z zl) u
              · exact absurd u (s.wh a i z)
        · rcases wa h with ⟨k, z, _⟩ | ⟨_, z, _⟩
          · exact s'.wh a k z
          · exact e.dom a (s.wh a i z)
        · by_cases hi : ∃ k : Nat, xs[k]? = some (.loc i)
          · obtain ⟨k, hk⟩ := hi
            obtain ⟨o, h1, h2⟩ := b3 k i hk
            obtain ⟨p', z1, z2⟩ := s'.slot k _ h1
            obtain ⟨v, h3, h4⟩ := t3 k _ hk
            have h4 : σ[i]? = some (some v) := h4
            have hv : v = .ref p' := by
              have y : (vs.map some)[k]? = some (some v) := by rw [List.getElem?_map, h3]; rfl
              rw [z1] at y
              simpa using y.symm
            subst hv
            have own' : OwnRep g Hd' H' (fun a => wAfter xs w w' a = some i) p' o := z2.keep (Same.refl _) (fun _ _ _ z _ => z) fun a z _ => by
              unfold wAfter
              simp only [z, hk]
            rcases h2 with ⟨_, h2⟩ | ⟨_, h2⟩
            · rw [h2] at q; cases q
              exact ⟨p', h4, own'⟩
            · rw [h2] at q; cases q
              exact ⟨p', h4, own'⟩
          · have hi' : ∀ k : Nat, xs[k]? ≠ some (.loc i) := fun k h => hi ⟨k, h⟩
            rw [b2 i hi'] at q
            refine (s.slot i x q).keep e.hd (fun a o z y nt => e.fr a o y (notT z hi') nt) fun a z => ?_
            have y : w' a = none := by
              cases y : w' a with
              | none => rfl
              | some k =>
                rcases e.wn a (by rw [y]; simp) with u | u
                · exact absurd (notT z hi') u
                · exact absurd u (s.wh a i z)
            unfold wAfter
            simp only [y, z]
            rw [if_neg fun h => hi (any_isLoc.mp h)]
        · rcases wa h with ⟨k, z, zk⟩ | ⟨_, z, zl⟩
          · -- a lent slot of one's own
            obtain ⟨o', h1, h2⟩ := b3 k i zk
            rcases h2 with ⟨⟨o1, h2⟩, _⟩ | ⟨_, h3⟩
            · rcases e.wi a k z with u | u
              · rcases iff.mp u with v | ⟨j, v1, v2⟩
                · cases y2 : F.H0 a with
                  | none => rfl
                  | some o3 => exact absurd (t1 k a v).1 (d0 a (by rw [y2]; simp))
                · rw [zk] at v1; cases v1
                  exact s.frs a i o1 v2 h2
              · cases y2 : F.H0 a with
                | none => rfl
                | some o3 => exact absurd u (s.dom a (by rw [y2]; simp))
            · rw [h3] at q; cases q
          · rw [b2 i zl] at q
            exact s.frs a i o z q
        · obtain ⟨y1, y2⟩ := s.rk q hq
          refine ⟨y1, ?_⟩
          by_cases hi : ∃ k : Nat, xs[k]? = some (.loc q.1)
          · obtain ⟨k, hk⟩ := hi
            obtain ⟨o, h1, h2⟩ := b3 k _ hk
            rcases h2 with ⟨⟨o1, h2⟩, _⟩ | ⟨_, h3⟩
            · rw [h2] at y2; exact y2.elim
            · rw [h3]; trivial
          · rw [b2 _ fun k h => hi ⟨k, h⟩]; exact y2
        · rcases wa h with ⟨k, z, zk⟩ | ⟨_, z, zl⟩
          · obtain ⟨o', h1, h2⟩ := b3 k i zk
            rcases h2 with ⟨_, h3⟩ | ⟨_, h3⟩
            · rw [h3]; trivial
            · rw [h3]; trivial
          · rw [b2 i zl]; exact s.st a i z
        · rcases wa h with ⟨k, z, zk⟩ | ⟨_, z, zl⟩
          · exact s'.ntw a k ps z y
          · obtain ⟨qs, y⟩ := e.nt a ps y
            exact s.ntw a i qs z y
        · unfold wAfter
          simp only [h1, h2]
      refine ⟨hl, Hd, _, as, _, sc, hr, ha, ?_⟩
      revert p
      cases Fn as with
      | ok rv as' =>
        intro p v Hd' H' w' e s' rr
        dsimp only at p
        cases qb : backL E xs as' with
        | none => rw [qb] at p; exact p.elim
        | some E' =>
          rw [qb] at p
          obtain ⟨k1, k2, k3⟩ := after e s' qb
          refine p Hd' H' _ k1 k2 v ?_
          cases rv with
          | dat d => exact rr
          | loc i => simp [VRel] at rr
          | own o =>
            obtain ⟨q, A, h1, h2, h3⟩ := rr
            refine ⟨q, A, h1, fun a x => ?_, h3⟩
            obtain ⟨z1, z2, z3, z4⟩ := h2 a x
            refine ⟨?_, z2, ?_, z4⟩
            · cases y : H0 a with
              | none => rfl
              | some u => exact absurd z1 (e0.dom a (by rw [y]; simp))
            · refine k3 a z3 ?_
              cases y : w a with
              | none => rfl
              | some i => exact absurd z1 (s.wh a i y)
      | exc x as' =>
        intro p cls d Hd' H' w' e s' z
        dsimp only at p
        cases qb : backL E xs as' with
        | none => rw [qb] at p; exact p.elim
        | some E' =>
          rw [qb] at p
          obtain ⟨k1, k2, k3⟩ := after e s' qb
          exact p cls d Hd' H' _ k1 k2 z
      | bad => exact fun p => p
    · exact p.elim
end
end Fx

/-! FxB: calls of defs, methods, constructors; attributes -/
namespace Fx
open PySem PySem.Spec PyProof.Rows L2 LamX

def ArgLen (n : Nat) (f : Mo (List Vl)) : Prop := ∀ E xs E', f E = .ok xs E' → xs.length = n
theorem argLen_nil : ArgLen 0 aNil := fun E xs E' h => by
  cases h; rfl
theorem argLen_cons {n : Nat} {f : Mo Vl} {r : Mo (List Vl)} (h : ArgLen n r) : ArgLen (n + 1) (aCons f r) := fun E xs E' q => by
  unfold aCons mb at q
  split at q
  · rename_i x E1 _
    dsimp only at q
    split at q
    · rename_i ys E2 hy
      cases q
      rw [List.length_cons, h _ _ _ hy]
    · cases q
    · cases q
  · cases q
  · cases q
section
variable {g : Gx} {W : WX} {X : Cx} {k n : Nat} {f C : Addr} {fd : FuncData} {ps : List Str} {Fn : En → Re Vl} {x m : Str} {p pos apos : Pos} {e o : Expr} {es : List Expr}
theorem tE_call {args : Mo (List Vl)} (hn : ArgLen n args) : ∀ σ H Q, tE g W (dCall Fn args) σ H Q → tCallS (spF g n Fn) (WE W) (tV g W args) σ H Q := by
  rintro σ H Q ⟨F, Hd, E, w, s, p⟩
  rw [dCall_eq] at p
  refine ⟨F, Hd, E, w, s, (PostA.bind0 p).imp fun xs E1 Hd1 H1 w1 hx e1 s1 p1 vs r => ?_⟩
  rw [← hn E xs E1 hx]
  exact call_post s.dom e1 s1 r p1
theorem de_call {args : Mo (List Vl)} (F : FnOk X.prog X.w X.K X.mg X.base (L2.CX X.prog X.w) k f fd ps (spF g n Fn)) (hr : Room k X.A) (hg : Gl X x) (hm : X.mg x = some (.ref f)) (hk : PySem.W.keepIn X.K (.ref f) = true) (hb : Binds X.K fd ps []) (tk : Takes X W)
    (ha : PA X (e :: es) (tV g W args)) (hn : ArgLen n args) (hdb : (x == ("__debug__" : Str)) = false := by decide) (he : starEach (e :: es) X.env = (false, eval e X.env) :: starEach es X.env := by rfl) (hpl : (backTo pos (starEach es X.env)).any (·.1) = false := by rfl) :
    PE X (.Call (.Name x p) (e :: es) [] pos) (tE g W (dCall Fn args)) := (pe_callS F hr hg hm hk hb (passAt tk) ha hdb he hpl).impF (tE_call hn)
theorem pe_callS0 {CX : CXT} {sp : Sp} {E : L2.St → XK} (F : FnOk X.prog X.w X.K X.mg X.base CX k f fd ps sp) (hr : Room k X.A) (hg : Gl X x) (hm : X.mg x = some (.ref f)) (hk : PySem.W.keepIn X.K (.ref f) = true) (hb : Binds X.K fd ps []) (hx : ∀ σ, PassesAt CX X σ (E σ))
    (hdb : (x == ("__debug__" : Str)) = false := by decide) : PE X (.Call (.Name x p) [] [] pos) (tCallS sp E tNil) := by
  refine ⟨fun pins s σ H Q I h => ?_⟩
  refine wpAny_Call_Name_kw (ld_glob I hg hm ?_ hdb)
  exact PySem.W.callWith_K0 I.kIn hk (run_fnS (us := []) F hr hb (hx σ) I .nil h)
theorem de_call0 (F : FnOk X.prog X.w X.K X.mg X.base (L2.CX X.prog X.w) k f fd ps (spF g 0 Fn)) (hr : Room k X.A) (hg : Gl X x) (hm : X.mg x = some (.ref f)) (hk : PySem.W.keepIn X.K (.ref f) = true) (hb : Binds X.K fd ps []) (tk : Takes X W)
    (hdb : (x == ("__debug__" : Str)) = false := by decide) : PE X (.Call (.Name x p) [] [] pos) (tE g W (dCall Fn aNil)) := (pe_callS0 F hr hg hm hk hb (passAt tk) hdb).impF fun σ H Q h => by
  obtain ⟨F, Hd, E, w, s, q⟩ := tE_call argLen_nil σ H Q h
  exact q.here s [] ⟨rfl, fun _ _ => False, fun _ _ z => z.elim, fun _ _ _ z => z.elim, fun k x e => by simp at e⟩

/-! ### methods -/
/-- a value that is an instance of class c -/
def insOf (c : Nat) (E : En) : Vl → Bool
  | .dat (.ins c' _) => c == c'
  | .own (.obj c' _) => c == c'
  | .own (.bench _ _ _) => c == 5
  | .loc i => match E[i]? with
    | some (some (.own (.obj c' _))) => c == c'
    | some (some (.ref (.obj c' _))) => c == c'
    | some (some (.own (.bench _ _ _))) => c == 5
    | some (some (.ref (.bench _ _ _))) => c == 5
    | _ => false
  | _ => false
/-- o.m(..): the instance is the first argument -/
def dMeth (c : Nat) (Fn : En → Re Vl) (fo : Mo Vl) (args : Mo (List Vl)) : Mo Vl := mb fo fun a => fun E => if insOf c E a = true then (mb args fun xs => callM Fn (a :: xs)) E else .bad
/-- the fields of an instance of a class never bear the name -/
def noField (c : Nat) (m : Str) : Bool := if c = 5 then !((["whole", "gone", "past"] : List Str).contains m) else !((cFn c).contains m)
end
end Fx

/-! FxC: operators and built-ins by values -/
namespace Fx
open PySem PySem.Spec PyProof.Rows L2 LamX
def lim : Nat := 16777216
theorem lim_eq : lim = sizeLine := sizeLine_eq.symm
def mulB (i j : Int) : Bool := (decide (-(2 ^ 64) < i) && decide (i < 2 ^ 64)) || (decide (-(2 ^ 64) < j) && decide (j < 2 ^ 64)) || decide (i.natAbs.log2 + j.natAbs.log2 + 2 ≤ 2 ^ 27)
theorem mulB_ok {i j : Int} (h : mulB i j = true) : IntMulOk i j := by
  unfold mulB at h
  simp only [Bool.or_eq_true, Bool.and_eq_true, decide_eq_true_eq] at h
  rcases h with (⟨h1, h2⟩ | ⟨h1, h2⟩) | h
  · exact .of_left (intBits_le_64 h1 h2)
  · exact .of_right (intBits_le_64 h1 h2)
  · have b : ∀ x : Int, Builtin.Int.intBits x ≤ x.natAbs.log2 + 1 := fun x => by
      unfold Builtin.Int.intBits
      split <;> omega
    have h1 := b i
    have h2 := b j
    have e : bitsLine = 134217728 := by decide
    unfold IntMulOk
    intro z
    rw [Bool.and_eq_true] at z
    have z2 := z.2
    unfold Builtin.Int.intTooBig at z2
    have z3 := of_decide_eq_true z2
    rw [e] at z3
    omega
section
variable {X : Cx} {g : Gx}
theorem op_mulB : OpR X (binaryOp .Mult) (rI (fun i j => mulB i j = true) fun i j => .int (i * j)) := opI fun _ _ _ _ _ _ _ hc q => mul_int q (mulB_ok hc)

/-! ### new values -/
theorem new_dat {Hd H : Hp} {z : V} {d : D} {Q : VK} (e : Same Hd H) (r : Rep g Hd d z) (k : ∀ z Hd' H', Grow Hd H Hd' H' → VNew g Hd' H' H z (.dat d) → Q z H') : Q z H := k z Hd H (Grow.refl e) r
theorem new_tup {Hd H : Hp} {ds : List D} {vs : List V} {p : Addr} {Q : VK} (e : Same Hd H) (hp : H p = none) (r : RepL g Hd ds vs) (hz : ds.length ≤ sizeLine) (k : ∀ z Hd' H', Grow Hd H Hd' H' → VNew g Hd' H' H z (.dat (.tup ds)) → Q z H') : Q (.ref p) (upd H p (.tup vs)) := by
  have G := Grow.new (o := .tup vs) e hp
  refine k _ _ _ G ?_
  show Rep g _ (.tup ds) _
  simp only [Rep]
  exact ⟨p, vs, rfl, upd_same, hz, r.mono G.hd⟩
theorem new_lst {Hd H : Hp} {ds : List D} {vs : List V} {p : Addr} {Q : VK} (e : Same Hd H) (hp : H p = none) (r : RepL g Hd ds vs) (hz : ds.length ≤ sizeLine) (k : ∀ z Hd' H', Grow Hd H Hd' H' → VNew g Hd' H' H z (.own (.lst ds)) → Q z H') : Q (.ref p) (upd H p (.lst vs)) := by
  have G := Grow.newO (o := .lst vs) e hp
  exact k _ _ _ G ⟨p, fun a => a = p, rfl, fun a ha => by subst ha; exact ⟨hp, e.free hp, by rw [upd_same]; simp⟩, rfl, vs, upd_same, hz, r⟩

/-! ### numbers -/
def i2 (f : Int → Int → Option D) : D → D → Option Vl
  | .int i, .int j => (f i j).map .dat
  | _, _ => none
theorem u_int {C : Int → Int → Prop} {gf : Int → Int → V} {f : Int → Int → Option D} (h : ∀ i j d, f i j = some d → C i j ∧ ∀ H, Rep g H d (gf i j)) : U2 g (rI C gf) (i2 f) := by
  intro Hd H x y a b u Q e ra rb q k
  cases a <;> cases b <;> simp only [i2] at q <;> try (cases q)
  rename_i i j
  cases z : f i j with
  | none => rw [z] at q; cases q
  | some d =>
    rw [z] at q
    cases q
    obtain ⟨hc, hr⟩ := h i j d z
    exact ⟨i, j, ra.int, rb.int, hc, new_dat e (hr Hd) k⟩
theorem u_int0 {gf : Int → Int → V} {f : Int → Int → Option D} (h : ∀ i j d, f i j = some d → ∀ H, Rep g H d (gf i j)) : U2 g (rI0 gf) (i2 f) := by
  intro Hd H x y a b u Q e ra rb q k
  obtain ⟨i, j, h1, h2, _, h4⟩ := u_int (C := fun _ _ => True) (gf := gf) (fun i j d z => ⟨trivial, h i j d z⟩) Hd H x y a b u Q e ra rb q k
  exact ⟨i, j, h1, h2, h4⟩
theorem rep_int {H : Hp} {i : Int} : Rep g H (.int i) (.int i) := by simp only [Rep]
theorem rep_bl {H : Hp} {i : Bool} : Rep g H (.bl i) (.bl i) := by simp only [Rep]
theorem rep_str {H : Hp} {i : Str} : Rep g H (.str i) (.str i) := by simp only [Rep]
theorem rep_non {H : Hp} : Rep g H .non .non := by simp only [Rep]
abbrev oSub : D → D → Option Vl := i2 fun i j => some (.int (i - j))
abbrev oLt : D → D → Option Vl := i2 fun i j => some (.bl (decide (i < j)))
abbrev oLe : D → D → Option Vl := i2 fun i j => some (.bl (decide (i ≤ j)))
abbrev oGt : D → D → Option Vl := i2 fun i j => some (.bl (decide (j < i)))
abbrev oGe : D → D → Option Vl := i2 fun i j => some (.bl (decide (j ≤ i)))
abbrev oMod : D → D → Option Vl := i2 fun i j => if 0 < j then some (.int (i % j)) else none
abbrev oDiv : D → D → Option Vl := i2 fun i j => if 0 < j ∧ j.natAbs.log2 < 9000 then some (.int (i / j)) else none
abbrev oPow : D → D → Option Vl := i2 fun i j => if 0 ≤ j ∧ j ≤ 1000000 ∧ i.natAbs < 2 ^ 64 then some (.int (i ^ j.toNat)) else none
theorem u_sub : U2 g (rI0 fun i j => .int (i - j)) oSub := u_int0 fun i j d h H => by cases h; exact rep_int
theorem u_lt : U2 g (rI0 fun i j => .bl (decide (i < j))) oLt := u_int0 fun i j d h H => by cases h; exact rep_bl
theorem u_le : U2 g (rI0 fun i j => .bl (decide (i ≤ j))) oLe := u_int0 fun i j d h H => by cases h; exact rep_bl
theorem u_gt : U2 g (rI0 fun i j => .bl (decide (j < i))) oGt := u_int0 fun i j d h H => by cases h; exact rep_bl
theorem u_ge : U2 g (rI0 fun i j => .bl (decide (j ≤ i))) oGe := u_int0 fun i j d h H => by cases h; exact rep_bl
theorem u_mod : U2 g (rI (fun _ j => 0 < j) fun i j => .int (i % j)) oMod := u_int fun i j d h => by
  split at h
  · rename_i hc; cases h; exact ⟨hc, fun _ => rep_int⟩
  · cases h
theorem u_div : U2 g (rI CDivW fun i j => .int (i / j)) oDiv := u_int fun i j d h => by
  split at h
  · rename_i hc; cases h; exact ⟨hc, fun _ => rep_int⟩
  · cases h
theorem u_pow : U2 g (rI CPow fun i j => .int (i ^ j.toNat)) oPow := u_int fun i j d h => by
  split at h
  · rename_i hc; cases h; exact ⟨hc, fun _ => rep_int⟩
  · cases h
def oNeg : D → Option Vl
  | .int i => some (.dat (.int (-i)))
  | _ => none
theorem u_neg : U1 g (rU fun i => .int (-i)) oNeg := by
  intro Hd H x a u Q e ra q k
  cases a <;> simp only [oNeg] at q <;> try (cases q)
  rename_i i
  exact ⟨i, ra.int, new_dat e rep_int k⟩

/-! ### + and * of any kind -/
def oAdd : D → D → Option Vl
  | .int i, .int j => some (.dat (.int (i + j)))
  | .lst xs, .lst ys => if xs.length + ys.length ≤ lim then some (.own (.lst (xs ++ ys))) else none
  | .tup xs, .tup ys => if xs.length + ys.length ≤ lim then some (.dat (.tup (xs ++ ys))) else none
  | .str x, .str y => if x.length + y.length ≤ lim then some (.dat (.str (x ++ y))) else none
  | _, _ => none
def rAddF (K : PySem.W.Frag) : R2 := fun x y H Q => rI0 (fun i j => .int (i + j)) x y H Q ∨ rCat x y H Q ∨ rCatA K x y H Q ∨ (∃ i j, x = .str i ∧ y = .str j ∧ i.length + j.length ≤ sizeLine ∧ Q (.str (i ++ j)) H)
theorem op_addF : OpR X (binaryOp .Add) (rAddF X.K) := OpR.or op_add (OpR.or op_cat (OpR.or op_catA op_add_str))
theorem u_add {K : PySem.W.Frag} : U2 g (rAddF K) oAdd := by
  intro Hd H x y a b u Q e ra rb q k
  cases a <;> cases b <;> simp only [oAdd] at q <;> try (cases q)
  · rename_i i j
    exact .inl ⟨i, j, ra.int, rb.int, new_dat e rep_int k⟩
  · rename_i i j
    split at q
    · rename_i hz
      cases q
      rw [lim_eq] at hz
      exact .inr (.inr (.inr ⟨i, j, ra.str, rb.str, hz, new_dat e rep_str k⟩))
    · cases q
  · rename_i xs ys
    split at q
    · rename_i hz
      cases q
      rw [lim_eq] at hz
      obtain ⟨p, vs, rfl, h1, _, h2⟩ := ra.tup e
      obtain ⟨p', vs', rfl, h1', _, h2'⟩ := rb.tup e
      refine .inr (.inr (.inl ⟨p, p', vs, vs', rfl, rfl, SqT.of h1, SqT.of h1', by rw [← h2.length, ← h2'.length]; exact hz, fun hn => ?_, fun _ hn => ?_, fun _ _ r hr => ?_⟩))
      · have hx : xs = [] := List.eq_nil_of_length_eq_zero (by rw [h2.length, hn]; rfl)
        subst hx
        exact new_dat (d := .tup ys) e (rb.dat (by intro _ z; cases z)) k
      · have hy : ys = [] := List.eq_nil_of_length_eq_zero (by rw [h2'.length, hn]; rfl)
        subst hy
        rw [List.append_nil] at k
        exact new_dat (d := .tup xs) e (ra.dat (by intro _ z; cases z)) k
      · exact new_tup e hr (h2.append h2') (by rw [List.length_append]; exact hz) k
    · cases q
  · rename_i xs ys
    split at q
    · rename_i hz
      cases q
      rw [lim_eq] at hz
      obtain ⟨p, vs, rfl, h1, _, h2⟩ := ra.lst e
      obtain ⟨p', vs', rfl, h1', _, h2'⟩ := rb.lst e
      exact .inr (.inl ⟨p, p', vs, vs', rfl, rfl, h1, h1', by rw [← h2.length, ← h2'.length]; exact hz, fun r hr => new_lst e hr (h2.append h2') (by rw [List.length_append]; exact hz) k⟩)
    · cases q
def oMul : D → D → Option Vl
  | .int i, .int j => if mulB i j = true then some (.dat (.int (i * j))) else none
  | .lst xs, .int j => if -(2 ^ 63) ≤ j ∧ j < 2 ^ 63 ∧ xs.length * j.toNat ≤ lim then some (.own (.lst (List.replicate j.toNat xs).flatten)) else none
  | _, _ => none
def rMulF : R2 := fun x y H Q => rI (fun i j => mulB i j = true) (fun i j => .int (i * j)) x y H Q ∨ rRep x y H Q
theorem op_mulF : OpR X (binaryOp .Mult) rMulF := OpR.or op_mulB op_rep
theorem repL_flat {Hd : Hp} {xs : List D} {vs : List V} (r : RepL g Hd xs vs) : ∀ n : Nat, RepL g Hd (List.replicate n xs).flatten (List.replicate n vs).flatten
  | 0 => RepL.nil
  | n + 1 => by
    rw [List.replicate_succ, List.replicate_succ, List.flatten_cons, List.flatten_cons]
    exact r.append (repL_flat r n)
theorem len_flat {α : Type} (xs : List α) : ∀ n : Nat, (List.replicate n xs).flatten.length = xs.length * n
  | 0 => by simp
  | n + 1 => by rw [List.replicate_succ, List.flatten_cons, List.length_append, len_flat xs n, Nat.mul_succ, Nat.add_comm]
theorem u_mul : U2 g rMulF oMul := by
  intro Hd H x y a b u Q e ra rb q k
  cases a <;> cases b <;> simp only [oMul] at q <;> try (cases q)
  · rename_i i j
    split at q
    · rename_i hz
      cases q
      exact .inl ⟨i, j, ra.int, rb.int, hz, new_dat e rep_int k⟩
    · cases q
  · rename_i xs j
    split at q
    · rename_i hz
      cases q
      obtain ⟨z1, z2, z3⟩ := hz
      rw [lim_eq] at z3
      obtain ⟨p, vs, rfl, h1, _, h2⟩ := ra.lst e
      refine .inr ⟨p, j, vs, rfl, rb.int, h1, z1, z2, by rw [← h2.length]; exact z3, ?_⟩
      first
        | exact fun r hr => new_lst e hr (repL_flat h2 _) (by rw [len_flat]; exact z3) k
        | (intro r hr; exact new_lst e hr (repL_flat h2 _) (by rw [len_flat]; exact z3) k)
    · cases q

/-! ### == of data without instances -/
mutual
def eqb : D → D → Bool
  | .non, .non => true
  | .bl a, .bl b => a == b
  | .bl a, .int j => (if a then 1 else 0) == j
  | .int i, .bl b => i == (if b then 1 else 0)
  | .int i, .int j => i == j
  | .str x, .str y => x == y
  | .tup xs, .tup ys => eqbL xs ys
  | .lst xs, .lst ys => eqbL xs ys
  | .ins c xs, .ins c' ys => c == c' && eqbL xs ys
  | _, _ => false
def eqbL : List D → List D → Bool
  | [], [] => true
  | x :: xs, y :: ys => eqb x y && eqbL xs ys
  | _, _ => false
end
mutual
def shp : Nat → D → Bool
  | _, .non => true
  | _, .bl _ => true
  | _, .int _ => true
  | _, .str x => PyData.strOk x
  | n + 1, .tup xs => shpL n xs
  | n + 1, .lst xs => shpL n xs
  | _, _ => false
def shpL : Nat → List D → Bool
  | _, [] => true
  | n, x :: xs => shp n x && shpL n xs
end
mutual
def toPy : D → PyData
  | .non => .none
  | .bl b => .bool b
  | .int i => .int i
  | .str x => .str x
  | .tup xs => .tuple (toPyL xs)
  | .lst xs => .list (toPyL xs)
  | _ => .none
def toPyL : List D → List PyData
  | [] => []
  | x :: xs => toPy x :: toPyL xs
end
end
end Fx

/-! FxD: == and in of data -/
namespace Fx
open PySem PySem.Spec PyProof.Rows L2 LamX
section
variable {g : Gx} {K : PySem.W.Frag}
mutual
theorem dp_of {H : Hp} : ∀ (n : Nat) (d : D) (v : V), shp n d = true → Rep g H d v → Dp K H v (toPy d)
  | _, .non, v, _, r => by simp only [Rep] at r; subst r; rw [toPy]; exact .non
  | _, .bl b, v, _, r => by simp only [Rep] at r; subst r; rw [toPy]; exact .bl b
  | _, .int i, v, _, r => by simp only [Rep] at r; subst r; rw [toPy]; exact .int i
  | _, .str x, v, _, r => by simp only [Rep] at r; subst r; rw [toPy]; exact .str x
  | 0, .tup xs, v, h, r => by simp [shp] at h
  | n + 1, .tup xs, v, h, r => by
    simp only [Rep] at r
    obtain ⟨a, vs, rfl, h1, h2, h3⟩ := r
    rw [toPy]
    exact .tup (SqT.of h1) (dpAll_of n xs vs (by simpa [shp] using h) h3)
  | 0, .lst xs, v, h, r => by simp [shp] at h
  | n + 1, .lst xs, v, h, r => by
    simp only [Rep] at r
    obtain ⟨a, vs, rfl, h1, h2, h3⟩ := r
    rw [toPy]
    exact .lst (SqL.of h1) (dpAll_of n xs vs (by simpa [shp] using h) h3)
  | n, .ins c xs, v, h, r => by cases n <;> simp [shp] at h
  | n, .scr xs, v, h, r => by cases n <;> simp [shp] at h
  | n, .dic xs, v, h, r => by cases n <;> simp [shp] at h
  | n, .cls c, v, h, r => by cases n <;> simp [shp] at h
  | n, .dbt, v, h, r => by cases n <;> simp [shp] at h
theorem dpAll_of {H : Hp} : ∀ (n : Nat) (ds : List D) (vs : List V), shpL n ds = true → RepL g H ds vs → DpAll K H vs (toPyL ds)
  | _, [], vs, _, r => by rw [RepL.nil_iff.mp r, toPyL]; exact .nil
  | n, d :: ds, vs, h, r => by
    obtain ⟨v, ws, rfl, r1, r2⟩ := RepL.cons_iff.mp r
    rw [shpL, Bool.and_eq_true] at h
    rw [toPyL]
    exact .cons (dp_of n d v h.1 r1) (dpAll_of n ds ws h.2 r2)
end
mutual
theorem shp_lay : ∀ (n : Nat) (d : D), shp n d = true → (toPy d).canLay0 = true ∧ (toPy d).depth ≤ n
  | n, .non, _ => by simp [toPy, PyData.canLay0, PyData.depth]
  | n, .bl _, _ => by simp [toPy, PyData.canLay0, PyData.depth]
  | n, .int _, _ => by simp [toPy, PyData.canLay0, PyData.depth]
  | n, .str x, h => by
    have h : PyData.strOk x = true := by cases n <;> simpa [shp] using h
    simp [toPy, PyData.canLay0, PyData.depth, h]
  | 0, .tup xs, h => by simp [shp] at h
  | n + 1, .tup xs, h => by
    obtain ⟨h1, h2⟩ := shpL_lay n xs (by simpa [shp] using h)
    rw [toPy]
    simp only [PyData.canLay0, PyData.depth]
    exact ⟨h1, by omega⟩
  | 0, .lst xs, h => by simp [shp] at h
  | n + 1, .lst xs, h => by
    obtain ⟨h1, h2⟩ := shpL_lay n xs (by simpa [shp] using h)
    rw [toPy]
    simp only [PyData.canLay0, PyData.depth]
    exact ⟨h1, by omega⟩
  | n, .ins c xs, h => by cases n <;> simp [shp] at h
  | n, .scr xs, h => by cases n <;> simp [shp] at h
  | n, .dic xs, h => by cases n <;> simp [shp] at h
  | n, .cls c, h => by cases n <;> simp [shp] at h
  | n, .dbt, h => by cases n <;> simp [shp] at h
theorem shpL_lay : ∀ (n : Nat) (ds : List D), shpL n ds = true → PyData.canLayAll0 (toPyL ds) = true ∧ PyData.depthAll (toPyL ds) ≤ n
  | n, [], _ => by simp [toPyL, PyData.canLayAll0, PyData.depthAll]
  | n, d :: ds, h => by
    rw [shpL, Bool.and_eq_true] at h
    obtain ⟨h1, h2⟩ := shp_lay n d h.1
    obtain ⟨h3, h4⟩ := shpL_lay n ds h.2
    rw [toPyL]
    simp only [PyData.canLayAll0, PyData.depthAll, h1, h3, Bool.and_self, true_and]
    omega
end
theorem shp_shaped {n : Nat} {d : D} (hn : n ≤ 64) (h : shp n d = true) : SeqAt.shaped (toPy d) = true := by
  obtain ⟨h1, h2⟩ := shp_lay n d h
  show ((toPy d).canLay0 && decide ((toPy d).depth ≤ 64)) = true
  rw [h1, Bool.true_and]
  exact decide_eq_true (by omega)
theorem shpL_shaped {n : Nat} {ds : List D} (hn : n ≤ 63) (h : shpL n ds = true) : SeqAt.shaped (.list (toPyL ds)) = true := by
  obtain ⟨h1, h2⟩ := shpL_lay n ds h
  show (PyData.canLay0 (.list (toPyL ds)) && decide (PyData.depth (.list (toPyL ds)) ≤ 64)) = true
  simp only [PyData.canLay0, PyData.depth, h1, Bool.true_and]
  exact decide_eq_true (by omega)
mutual
theorem eqv_eqb : ∀ (n m : Nat) (d e : D), shp n d = true → shp m e = true → PyData.eqv (toPy d) (toPy e) = eqb d e
  | n, m, .non, e, _, he => by cases e <;> simp [toPy, PyData.eqv, eqb] <;> cases m <;> simp [shp] at he
  | n, m, .bl _, e, _, he => by cases e <;> simp [toPy, PyData.eqv, eqb] <;> cases m <;> simp [shp] at he
  | n, m, .int _, e, _, he => by cases e <;> simp [toPy, PyData.eqv, eqb] <;> cases m <;> simp [shp] at he
  | n, m, .str _, e, _, he => by cases e <;> simp [toPy, PyData.eqv, eqb] <;> cases m <;> simp [shp] at he
  | 0, _, .tup xs, e, hd, _ => by simp [shp] at hd
  | n + 1, 0, .tup xs, e, hd, he => by cases e <;> first | (simp [shp] at he; done) | simp [toPy, PyData.eqv, eqb]
  | n + 1, m + 1, .tup xs, e, hd, he => by
    cases e with
    | tup ys =>
      rw [toPy, toPy, PyData.eqv, eqb]
      exact eqvL_eqb n m xs ys (by simpa [shp] using hd) (by simpa [shp] using he)
    | ins _ _ => simp [shp] at he
    | scr _ => simp [shp] at he
    | dic _ => simp [shp] at he
    | cls _ => simp [shp] at he
    | dbt => simp [shp] at he
    | _ => simp [toPy, PyData.eqv, eqb]
  | 0, _, .lst xs, e, hd, _ => by simp [shp] at hd
  | n + 1, 0, .lst xs, e, hd, he => by cases e <;> first | (simp [shp] at he; done) | simp [toPy, PyData.eqv, eqb]
  | n + 1, m + 1, .lst xs, e, hd, he => by
    cases e with
    | lst ys =>
      rw [toPy, toPy, PyData.eqv, eqb]
      exact eqvL_eqb n m xs ys (by simpa [shp] using hd) (by simpa [shp] using he)
    | ins _ _ => simp [shp] at he
    | scr _ => simp [shp] at he
    | dic _ => simp [shp] at he
    | cls _ => simp [shp] at he
    | dbt => simp [shp] at he
    | _ => simp [toPy, PyData.eqv, eqb]
  | n, m, .ins c xs, e, hd, _ => by cases n <;> simp [shp] at hd
  | n, m, .scr xs, e, hd, _ => by cases n <;> simp [shp] at hd
  | n, m, .dic xs, e, hd, _ => by cases n <;> simp [shp] at hd
  | n, m, .cls c, e, hd, _ => by cases n <;> simp [shp] at hd
  | n, m, .dbt, e, hd, _ => by cases n <;> simp [shp] at hd
theorem eqvL_eqb : ∀ (n m : Nat) (ds es : List D), shpL n ds = true → shpL m es = true → PyData.eqvAll (toPyL ds) (toPyL es) = eqbL ds es
  | n, m, [], [], _, _ => by simp [toPyL, PyData.eqvAll, eqbL]
  | n, m, [], e :: es, _, _ => by simp [toPyL, PyData.eqvAll, eqbL]
  | n, m, d :: ds, [], _, _ => by simp [toPyL, PyData.eqvAll, eqbL]
  | n, m, d :: ds, e :: es, hd, he => by
    rw [shpL, Bool.and_eq_true] at hd he
    rw [toPyL, toPyL, PyData.eqvAll, eqbL, eqv_eqb n m d e hd.1 he.1, eqvL_eqb n m ds es hd.2 he.2]
end
theorem dp_T {Hd H : Hp} {n : Nat} {d : D} {v : V} (e : Same Hd H) (h : shp n d = true) (r : RepT g Hd H d v) : Dp K H v (toPy d) := by
  by_cases q : ∃ ds, d = .lst ds
  · obtain ⟨ds, rfl⟩ := q
    cases n with
    | zero => simp [shp] at h
    | succ n =>
      obtain ⟨p, vs, rfl, h1, h2, h3⟩ := r.lst e
      rw [toPy]
      exact .lst (SqL.of h1) (dpAll_of n ds vs (by simpa [shp] using h) (h3.mono e))
  · exact dp_of n d v h ((r.dat (fun ds z => q ⟨ds, z⟩)).mono e)
def oEq (a b : D) : Option Vl := if shp 60 a = true ∧ shp 60 b = true then some (.dat (.bl (eqb a b))) else none
def oNe (a b : D) : Option Vl := if shp 60 a = true ∧ shp 60 b = true then some (.dat (.bl (!eqb a b))) else none
theorem u_eq : U2 g (rEqD K) oEq := by
  intro Hd H x y a b u Q e ra rb q k
  unfold oEq at q
  split at q
  · rename_i h
    cases q
    refine ⟨_, _, dp_T e h.1 ra, dp_T e h.2 rb, shp_shaped (by decide) h.1, shp_shaped (by decide) h.2, ?_⟩
    rw [eqv_eqb _ _ _ _ h.1 h.2]
    exact new_dat e rep_bl k
  · cases q
theorem u_ne : U2 g (rNeD K) oNe := by
  intro Hd H x y a b u Q e ra rb q k
  unfold oNe at q
  split at q
  · rename_i h
    cases q
    refine ⟨_, _, dp_T e h.1 ra, dp_T e h.2 rb, shp_shaped (by decide) h.1, shp_shaped (by decide) h.2, ?_⟩
    rw [eqv_eqb _ _ _ _ h.1 h.2]
    exact new_dat e rep_bl k
  · cases q

/-! ### in -/
def flat : D → Bool
  | .non => true
  | .bl _ => true
  | .int _ => true
  | .str _ => true
  | _ => false
def inB (a : D) (ys : List D) : Bool := ys.any fun y => eqb y a
def inO (a : D) : D → Option Bool
  | .lst ys => if shp 60 a = true ∧ shpL 60 ys = true then some (inB a ys) else none
  | .tup ys => if flat a = true ∧ ys.all flat = true then some (inB a ys) else none
  | _ => none
def oIn (a b : D) : Option Vl := (inO a b).map fun z => .dat (.bl z)
def oNotIn (a b : D) : Option Vl := (inO a b).map fun z => .dat (.bl (!z))
theorem flat_V {H : Hp} {d : D} {v : V} (f : flat d = true) (r : Rep g H d v) : flatV v = true ∧ ∀ e w, flat e = true → Rep g H e w → eqV v w = eqb d e := by
  cases d <;> simp only [flat, Bool.false_eq_true] at f <;> simp only [Rep] at r <;> subst r <;> refine ⟨rfl, fun e w fe re => ?_⟩ <;> cases e <;> simp only [flat, Bool.false_eq_true] at fe <;> simp only [Rep] at re <;> subst re <;> simp [eqV, eqb]
theorem flatL_V {H : Hp} {a : D} {x : V} (fa : flat a = true) (ra : Rep g H a x) : ∀ {ys : List D} {vs : List V}, ys.all flat = true → RepL g H ys vs → vs.all flatV = true ∧ inV x vs = inB a ys
  | [], vs, _, r => by rw [RepL.nil_iff.mp r]; exact ⟨rfl, rfl⟩
  | y :: ys, vs, h, r => by
    obtain ⟨v, ws, rfl, r1, r2⟩ := RepL.cons_iff.mp r
    rw [List.all_cons, Bool.and_eq_true] at h
    obtain ⟨h1, h2⟩ := flat_V h.1 r1
    obtain ⟨h3, h4⟩ := flatL_V fa ra h.2 r2
    refine ⟨by rw [List.all_cons, h1, h3]; rfl, ?_⟩
    unfold inV inB at h4 ⊢
    rw [List.any_cons, List.any_cons, h4, h2 a x fa ra]
theorem any_toPy (a : D) (n m : Nat) (ha : shp n a = true) : ∀ (ys : List D), shpL m ys = true → ((toPyL ys).any fun z => PyData.eqv z (toPy a)) = inB a ys
  | [], _ => by rw [toPyL]; rfl
  | y :: ys, h => by
    rw [shpL, Bool.and_eq_true] at h
    have t := any_toPy a n m ha ys h.2
    unfold inB at t ⊢
    rw [toPyL, List.any_cons, List.any_cons, eqv_eqb _ _ _ _ h.1 ha, t]
def rInF (K : PySem.W.Frag) : R2 := fun x y H Q => rInD K x y H Q ∨ rIn K false x y H Q
def rNotInF (K : PySem.W.Frag) : R2 := fun x y H Q => rNotInD K x y H Q ∨ rIn K true x y H Q
theorem in_cases {Hd H : Hp} {x y : V} {a b : D} {z : Bool} (e : Same Hd H) (ra : RepT g Hd H a x) (rb : RepT g Hd H b y) (q : inO a b = some z) :
    (∃ d ds, Dp K H x d ∧ Dp K H y (.list ds) ∧ SeqAt.shaped d = true ∧ SeqAt.shaped (.list ds) = true ∧ (ds.any fun z => PyData.eqv z d) = z) ∨ (∃ p xs, y = .ref p ∧ (SqL K H p xs ∨ SqT K H p xs) ∧ flatV x = true ∧ xs.all flatV = true ∧ inV x xs = z) := by
  cases b <;> simp only [inO] at q <;> try (cases q)
  · rename_i ys
    split at q
    · rename_i h
      cases q
      obtain ⟨p, vs, rfl, h1, h2, h3⟩ := rb.tup e
      have ra' : Rep g Hd a x := ra.dat (by rintro ds rfl; simp [flat] at h)
      obtain ⟨f1, f2⟩ := flatL_V h.1 ra' h.2 h3
      exact .inr ⟨p, vs, rfl, .inr (SqT.of h1), (flat_V h.1 ra').1, f1, f2⟩
    · cases q
  · rename_i ys
    split at q
    · rename_i h
      cases q
      obtain ⟨p, vs, rfl, h1, h2, h3⟩ := rb.lst e
      exact .inl ⟨_, _, dp_T e h.1 ra, .lst (SqL.of h1) (dpAll_of 60 ys vs h.2 (h3.mono e)), shp_shaped (by decide) h.1, shpL_shaped (by decide) h.2, any_toPy a 60 60 h.1 ys h.2⟩
    · cases q
theorem u_in : U2 g (rInF K) oIn := by
  intro Hd H x y a b u Q e ra rb q k
  unfold oIn at q
  obtain ⟨z, hz, rfl⟩ := Option.map_eq_some_iff.mp q
  rcases in_cases (K := K) e ra rb hz with ⟨d, ds, h1, h2, h3, h4, h5⟩ | ⟨p, xs, h1, h2, h3, h4, h5⟩
  · refine .inl ⟨d, ds, h1, h2, h3, h4, ?_⟩
    rw [h5]
    exact new_dat e rep_bl k
  · refine .inr ⟨p, xs, h1, h2, h3, h4, ?_⟩
    rw [if_neg Bool.false_ne_true, h5]
    exact new_dat e rep_bl k
theorem u_notIn : U2 g (rNotInF K) oNotIn := by
  intro Hd H x y a b u Q e ra rb q k
  unfold oNotIn at q
  obtain ⟨z, hz, rfl⟩ := Option.map_eq_some_iff.mp q
  rcases in_cases (K := K) e ra rb hz with ⟨d, ds, h1, h2, h3, h4, h5⟩ | ⟨p, xs, h1, h2, h3, h4, h5⟩
  · refine .inl ⟨d, ds, h1, h2, h3, h4, ?_⟩
    rw [h5]
    exact new_dat e rep_bl k
  · refine .inr ⟨p, xs, h1, h2, h3, h4, ?_⟩
    rw [if_pos rfl, h5]
    exact new_dat e rep_bl k
end
section
variable {X : Cx} {g : Gx}
theorem op_inF (hu : X.A.units + 65 < cLine) : OpR X (compareOp .In) (rInF X.K) := OpR.or (op_inD hu) op_in_seq
theorem op_notInF (hu : X.A.units + 65 < cLine) : OpR X (compareOp .NotIn) (rNotInF X.K) := OpR.or (op_notInD hu) op_notIn_seq
/-! ### is None, where the data tells -/
def isNonD : D → Bool
  | .non => true
  | _ => false
def oIsN (a b : D) : Option Vl := if isNonD b = true then some (.dat (.bl (isNonD a))) else none
def oNotN (a b : D) : Option Vl := if isNonD b = true then some (.dat (.bl (!isNonD a))) else none
theorem isNon_of {Hd H : Hp} {a : D} {x : V} (r : RepT g Hd H a x) : decide (x = .non) = isNonD a := by
  rcases r with r | ⟨p, vs, ds, rfl, rfl, _⟩
  · cases a <;> simp only [Rep] at r <;> first | (subst r; rfl) | (obtain ⟨p, _, rfl, _⟩ := r; rfl) | (obtain ⟨p, _, _, rfl, _⟩ := r; rfl) | (obtain ⟨p, rfl, _⟩ := r; rfl)
  · rfl
theorem non_of {Hd H : Hp} {b : D} {y : V} (r : RepT g Hd H b y) (h : isNonD b = true) : y = .non := by
  cases b <;> simp only [isNonD, Bool.false_eq_true] at h
  have := r.dat (by intro _ z; cases z)
  simpa only [Rep] using this
theorem u_isN : U2 g (fun x y H Q => y = .non ∧ Q (.bl (decide (x = .non))) H) oIsN := by
  intro Hd H x y a b u Q e ra rb q k
  unfold oIsN at q
  split at q
  · rename_i h
    cases q
    refine ⟨non_of rb h, ?_⟩
    rw [isNon_of ra]
    exact new_dat e rep_bl k
  · cases q
theorem u_notN : U2 g (fun x y H Q => y = .non ∧ Q (.bl (!decide (x = .non))) H) oNotN := by
  intro Hd H x y a b u Q e ra rb q k
  unfold oNotN at q
  split at q
  · rename_i h
    cases q
    refine ⟨non_of rb h, ?_⟩
    rw [isNon_of ra]
    exact new_dat e rep_bl k
  · cases q
end
end Fx

/-! FxE: displays, subscripts, chains, built-ins -/
namespace Fx
open PySem PySem.Spec PyProof.Rows L2 LamX

/-! ### written items -/
def eNil : Mo (List D) := mp []
def eCons (f : Mo Vl) (r : Mo (List D)) : Mo (List D) := mb f fun a => mb (frz a) fun d => mb r fun ds => mp (d :: ds)
/-- the items of a value -/
def itemsOf (a : Vl) : Mo (List D) := fun E => match deref E a with
  | some (.lst ds) => .ok ds E
  | some (.tup ds) => .ok ds E
  | _ => .bad
def eStar (f : Mo Vl) (r : Mo (List D)) : Mo (List D) := mb f fun a => mb (itemsOf a) fun xs => mb r fun ds => mp (xs ++ ds)
def dTup (r : Mo (List D)) : Mo Vl := mb r fun ds => if ds.length ≤ lim then mp (.dat (.tup ds)) else fun _ => .bad
def dLst (r : Mo (List D)) : Mo Vl := mb r fun ds => if ds.length ≤ lim then mp (.own (.lst ds)) else fun _ => .bad
section
variable {g : Gx} {W : WX} {X : Cx}
theorem dd_nil : PA X [] (tD g W eNil) := pa_nil.impF fun σ H Q ⟨F, Hd, E, w, s, p⟩ => p.here s [] RepL.nil
theorem dd_cons {e : Expr} {es : List Expr} {f : Mo Vl} {r : Mo (List D)} (h : PE X e (tE g W f)) (hr : PA X es (tD g W r)) (hs : starEach (e :: es) X.env = (false, eval e X.env) :: starEach es X.env := by rfl) : PA X (e :: es) (tD g W (eCons f r)) := (pa_cons h hr hs).impF fun σ H Q ⟨F, Hd, E, w, s, p⟩ => by
  refine ⟨F, Hd, E, w, s, (PostA.bind0 p).imp fun a E1 Hd1 H1 w1 _ e1 s1 p1 x rx => ?_⟩
  obtain ⟨d, E', Hd', w', _, k1, k2, k3, k4⟩ := frz_post e1 s1 rx (PostA.bind0 p1)
  refine ⟨F, Hd', E', w', k2, (PostA.bind (k4.shift k1)).imp fun ds E2 Hd2 H2 w2 _ e2 s2 p2 vs rvs => ?_⟩
  exact p2.here s2 (x :: vs) (RepL.cons (k3.mono e2.hd) rvs)
theorem itemsOf_ok {F : Fc} {σ : L2.St} {Hd H : Hp} {w : Ow} {E E' : En} {Hs : Hp} {a : Vl} {x : V} {ds : List D} (s : Sr g F Hd H E σ w) (rx : VRel g Hd H w σ Hs x a) (h : itemsOf a E = .ok ds E') : E' = E ∧ ∃ p vs, x = .ref p ∧ (H p = some (.tup vs) ∨ H p = some (.lst vs)) ∧ RepL g Hd ds vs ∧ ds.length ≤ sizeLine := by
  unfold itemsOf at h
  split at h
  · rename_i xs q
    cases h
    obtain ⟨p, vs, h1, h2, h3, h4⟩ := (RepT.of s rx q).lst s.ext
    exact ⟨rfl, p, vs, h1, .inr h2, h4, h3⟩
  · rename_i xs q
    cases h
    obtain ⟨p, vs, h1, h2, h3, h4⟩ := (RepT.of s rx q).tup s.ext
    exact ⟨rfl, p, vs, h1, .inl h2, h4, h3⟩
  · cases h
theorem itemsOf_exc {a : Vl} {E E' : En} {x : Xc} (h : itemsOf a E = .exc x E') : False := by
  unfold itemsOf at h
  split at h <;> cases h
theorem dd_star {e : Expr} {p : Pos} {es : List Expr} {f : Mo Vl} {r : Mo (List D)} (h : PE X e (tE g W f)) (hr : PA X es (tD g W r)) (hs : starEach (.Starred e p :: es) X.env = (true, eval e X.env) :: starEach es X.env := by rfl) : PA X (.Starred e p :: es) (tD g W (eStar f r)) := (StX.pa_star h hr hs).impF fun σ H Q ⟨F, Hd, E, w, s, p⟩ => by
  refine ⟨F, Hd, E, w, s, (PostA.bind p).imp fun a E1 Hd1 H1 w1 _ e1 s1 p1 x rx => ?_⟩
  have p2 := PostA.bind0 p1
  cases q : itemsOf a E1 with
  | ok ds E2 =>
    rw [q] at p2
    obtain ⟨rfl, c, vs, rfl, h2, h3, h4⟩ := itemsOf_ok s1 rx q
    refine ⟨c, vs, rfl, h2.elim (fun z => .inl (SqT.of z)) fun z => .inr (SqL.of z), F, Hd1, E2, w1, s1, (PostA.bind (p2.here s1)).imp fun es' E3 Hd3 H3 w3 _ e3 s3 p3 us ru => ?_⟩
    exact p3.here s3 _ ((h3.mono e3.hd).append ru)
  | exc _ _ => exact (itemsOf_exc q).elim
  | bad => rw [q] at p2; exact p2.elim
theorem de_tup {es : List Expr} {x1 : Nat} {pos : Pos} {r : Mo (List D)} (h : PA X es (tD g W r)) : PE X (.Tuple es x1 pos) (tE g W (dTup r)) := (pe_tup h).impF fun σ H Q ⟨F, Hd, E, w, s, p⟩ => by
  refine ⟨F, Hd, E, w, s, (PostA.bind p).imp fun ds E1 Hd1 H1 w1 _ e1 s1 p1 vs rv => ?_⟩
  split at p1
  · rename_i hz
    rw [lim_eq] at hz
    refine ⟨by rw [← rv.length]; exact hz, fun q hq => ?_⟩
    exact new_tup (Q := Q) s1.ext hq rv hz fun z Hd' H' G n => p1 Hd' H' w1 (s1.eff G) (s1.grow G) z ((VNew.rel s1 n).start e1.dom)
  · exact p1.elim
theorem de_lst {es : List Expr} {pos : Pos} {r : Mo (List D)} (h : PA X es (tD g W r)) : PE X (.List es pos) (tE g W (dLst r)) := (pe_lst h).impF fun σ H Q ⟨F, Hd, E, w, s, p⟩ => by
  refine ⟨F, Hd, E, w, s, (PostA.bind p).imp fun ds E1 Hd1 H1 w1 _ e1 s1 p1 vs rv => ?_⟩
  split at p1
  · rename_i hz
    rw [lim_eq] at hz
    refine ⟨by rw [← rv.length]; exact hz, fun q hq => ?_⟩
    exact new_lst (Q := Q) s1.ext hq rv hz fun z Hd' H' G n => p1 Hd' H' w1 (s1.eff G) (s1.grow G) z ((VNew.rel s1 n).start e1.dom)
  · exact p1.elim
end

/-! ### subscripts -/
def oIx : D → D → Option Vl
  | .lst ds, .int i => (atI ds i).map .dat
  | .tup ds, .int i => (atI ds i).map .dat
  | .scr ns, .int i => (atI ns i).map fun n => .dat (.int n)
  | .str z, .int i => if z.length ≤ lim then (atI z.cps.toList i).map fun c => .dat (.str ⟨#[c]⟩) else none
  | _, _ => none
theorem atI_rep {g : Gx} {Hd : Hp} {ds : List D} {vs : List V} {i : Int} {d : D} (r : RepL g Hd ds vs) (h : atI ds i = some d) : ∃ v, atI vs i = some v ∧ Rep g Hd d v := by
  unfold atI at h ⊢
  rw [← r.length]
  cases q : ixN ds.length i with
  | none => rw [q] at h; cases h
  | some j =>
    rw [q] at h
    exact r.get h
def rIxF (K : PySem.W.Frag) : R2 := fun x y H Q => rIx K x y H Q
section
variable {g : Gx} {W : WX} {X : Cx}
theorem u_ix (hK : g.K = X.K) : U2 g (rIx X.K) oIx := by
  intro Hd H x y a b u Q e ra rb q k
  cases a <;> cases b <;> simp only [oIx] at q <;> try (cases q)
  · rename_i z i
    split at q
    · rename_i hz
      rw [lim_eq] at hz
      obtain ⟨c, hc, rfl⟩ := Option.map_eq_some_iff.mp q
      exact .inr (.inr ⟨z, i, c, ra.str, rb.int, hz, hc, new_dat e rep_str k⟩)
    · cases q
  · rename_i ds i
    obtain ⟨d, hd, rfl⟩ := Option.map_eq_some_iff.mp q
    obtain ⟨p, vs, rfl, h1, _, h2⟩ := ra.tup e
    obtain ⟨v, h3, h4⟩ := atI_rep h2 hd
    exact .inr (.inl ⟨p, vs, i, v, rfl, rb.int, SqT.of h1, h3, new_dat e h4 k⟩)
  · rename_i ds i
    obtain ⟨d, hd, rfl⟩ := Option.map_eq_some_iff.mp q
    obtain ⟨p, vs, rfl, h1, _, h2⟩ := ra.lst e
    obtain ⟨v, h3, h4⟩ := atI_rep h2 hd
    exact .inl ⟨p, vs, i, v, rfl, rb.int, SqL.of h1, h3, new_dat e h4 k⟩
  · rename_i ns i
    obtain ⟨n, hn, rfl⟩ := Option.map_eq_some_iff.mp q
    have r := ra.dat (by intro _ z; cases z)
    simp only [Rep] at r
    obtain ⟨p, rfl, h1⟩ := r
    rw [hK] at h1
    refine .inl ⟨p, ns.map V.int, i, .int n, rfl, rb.int, e.seq h1, ?_, new_dat e rep_int k⟩
    unfold atI at hn ⊢
    rw [List.length_map]
    cases z : ixN ns.length i with
    | none => rw [z] at hn; cases hn
    | some j =>
      rw [z] at hn
      show (ns.map V.int)[j]? = some (.int n)
      rw [List.getElem?_map, show ns[j]? = some n from hn]; rfl
/-- a[b] -/
theorem de_ix {a b : Expr} {pos : Pos} {f h : Mo Vl} (hK : g.K = X.K) (ha : PE X a (tE g W f)) (hb : PE X b (tE g W h)) (hs : PlainIx b := by intro _ _; rfl) : PE X (.Subscript a b pos) (tE g W (d2 oIx f h)) := (pe_ix ix_seq ha hb hs).impF (tE_2 (u_ix hK))

/-! ### slices -/
def pNo : Mo (Option Int) := mp none
def pSome (f : Mo Vl) : Mo (Option Int) := mb f fun a => match a with
  | .dat (.int i) => mp (some i)
  | _ => fun _ => .bad
def tP (g : Gx) (W : WX) (f : Mo (Option Int)) : TO := fun σ H Q => ∃ F Hd E w, Sr g F Hd H E σ w ∧ PostA g F W σ Hd H w (f E) fun a _ _ H' _ => Q a H'
theorem _root_.L2.PO.impF {X : Cx} {e : Option Expr} {t t' : TO} (h : PO X e t) (k : ∀ σ H Q, t' σ H Q → t σ H Q) : PO X e t' := ⟨fun pins s σ H Q I q => h.run pins s σ H Q I (k σ H Q q)⟩
theorem do_none : PO X none (tP g W pNo) := po_none.impF fun σ H Q ⟨F, Hd, E, w, s, p⟩ => p.here s
theorem do_some {e : Expr} {f : Mo Vl} (h : PE X e (tE g W f)) : PO X (some e) (tP g W (pSome f)) := (po_some h).impF fun σ H Q ⟨F, Hd, E, w, s, p⟩ => by
  refine ⟨F, Hd, E, w, s, (PostA.bind p).imp fun a E1 Hd1 H1 w1 _ e1 s1 p1 v rv => ?_⟩
  split at p1
  · rename_i i _
    exact ⟨i, by simpa only [VRel, Rep] using rv, p1.here s1⟩
  · exact p1.elim
def cutD (ds : List D) (lo hi : Option Int) : List D := (ds.drop (HT.sIx ds.length 0 lo)).take (HT.sIx ds.length ds.length hi - HT.sIx ds.length 0 lo)
def oSl (lo hi : Option Int) : D → Option Vl
  | .lst ds => some (.own (.lst (cutD ds lo hi)))
  | .tup ds => some (.dat (.tup (cutD ds lo hi)))
  | _ => none
def dSl (f : Mo Vl) (l h : Mo (Option Int)) : Mo Vl := mb f fun a => mb l fun lo => mb h fun hi => lift1 (oSl lo hi) a
def rSlF (K : PySem.W.Frag) : V → Option Int → Option Int → Hp → VK → Prop := fun x lo hi H Q => rSlL K x lo hi H Q ∨ rSlA K x lo hi H Q
theorem cut_rep {Hd : Hp} {ds : List D} {vs : List V} {lo hi : Option Int} (r : RepL g Hd ds vs) : RepL g Hd (cutD ds lo hi) (cutV vs lo hi) := by
  unfold cutD cutV
  rw [← r.length]
  exact (r.drop _).take _
theorem cut_len {ds : List D} {lo hi : Option Int} : (cutD ds lo hi).length ≤ ds.length := by
  unfold cutD
  rw [List.length_take, List.length_drop]
  omega
theorem u_sl {K : PySem.W.Frag} {lo hi : Option Int} : U1 g (fun x H Q => rSlF K x lo hi H Q) (oSl lo hi) := by
  intro Hd H x a u Q e ra q k
  cases a <;> simp only [oSl] at q <;> try (cases q)
  · rename_i ds
    obtain ⟨p, vs, rfl, h1, hz, h2⟩ := ra.tup e
    refine .inr ⟨p, vs, rfl, SqT.of h1, fun hw => ?_, fun _ r hr => ?_⟩
    · have ec : cutD ds lo hi = ds := by
        unfold cutD
        rw [h2.length, hw.1, hw.2, List.drop_zero, Nat.sub_zero, ← h2.length, List.take_length]
      rw [ec] at k
      exact new_dat (d := .tup ds) e (ra.dat (by intro _ z; cases z)) k
    · exact new_tup e hr (cut_rep h2) (Nat.le_trans cut_len hz) k
  · rename_i ds
    obtain ⟨p, vs, rfl, h1, hz, h2⟩ := ra.lst e
    first
      | exact .inl ⟨p, vs, rfl, SqL.of h1, fun r hr => new_lst e hr (cut_rep h2) (Nat.le_trans cut_len hz) k⟩
      | exact .inl ⟨p, vs, rfl, h1, fun r hr => new_lst e hr (cut_rep h2) (Nat.le_trans cut_len hz) k⟩
theorem de_slice {e : Expr} {lo hi : Option Expr} {p2 pos : Pos} {f : Mo Vl} {l h : Mo (Option Int)} (he : PE X e (tE g W f)) (hl : PO X lo (tP g W l)) (hh : PO X hi (tP g W h)) : PE X (.Subscript e (.Slice lo hi none p2) pos) (tE g W (dSl f l h)) :=
  (pe_slice (SlR.or sl_list sl_tupA) he hl hh).impF fun σ H Q ⟨F, Hd, E, w, s, p⟩ => by
    refine ⟨F, Hd, E, w, s, (PostA.bind p).imp fun a E1 Hd1 H1 w1 _ e1 s1 p1 x rx => ?_⟩
    refine ⟨F, Hd1, E1, w1, s1, (PostA.bind p1).imp fun lo E2 Hd2 H2 w2 _ e2 s2 p2 => ?_⟩
    refine ⟨F, Hd2, E2, w2, s2, (PostA.bind p2).imp fun hi E3 Hd3 H3 w3 _ e3 s3 p3 => ?_⟩
    exact lift1_ok (u_sl (K := X.K)) (e1.trans (e2.trans e3)) s3 (VRel.eff (e2.trans e3) rx) p3

/-! ### a op b op' c; a if c else b -/
def opB (o : D → D → Option Vl) (a b : Vl) : Mo Bool := fun E => match deref E a with
  | some x => match deref E b with
    | some y => match o x y with
      | some (.dat (.bl c)) => .ok c E
      | _ => .bad
    | none => .bad
  | none => .bad
def dChain (o o' : D → D → Option Vl) (fa fb fc : Mo Vl) : Mo Bool := mb fa fun a => mb fb fun b => mb (opB o a b) fun c => if c = true then mb fc fun z => opB o' b z else mp false
def ofB (f : Mo Bool) : Mo Vl := mb f fun b => mp (.dat (.bl b))
theorem opB_ok {F : Fc} {σ : L2.St} {Hd H Hd0 H0 : Hp} {w w0 : Ow} {E : En} {r : R2} {o : D → D → Option Vl} {a b : Vl} {x y : V} {Q : VK} {K : Bool → En → Hp → Hp → Ow → Prop} (u : U2 g r o) (e0 : Eff Hd0 H0 w0 Hd H w) (s : Sr g F Hd H E σ w) (rx : VRel g Hd H w σ H0 x a) (ry : VRel g Hd H w σ H0 y b)
    (h : PostA g F W σ Hd H w (opB o a b E) K) (k : ∀ c Hd' H', Grow Hd H Hd' H' → Sr g F Hd' H' E σ w → K c E Hd' H' w → Q (.bl c) H') : r x y H Q := by
  unfold opB at h
  cases q : deref E a with
  | none => rw [q] at h; exact h.elim
  | some da =>
    rw [q] at h
    cases q' : deref E b with
    | none => simp only [q'] at h; exact h.elim
    | some db =>
      simp only [q'] at h
      split at h
      · rename_i c q2
        refine u Hd H x y da db _ Q s.ext (RepT.of s rx q) (RepT.of s ry q') q2 fun z Hd' H' G n => ?_
        have hz : z = .bl c := by simpa only [VNew, Rep] using n
        subst hz
        exact k c Hd' H' G (s.grow G) (h Hd' H' w (s.eff G) (s.grow G))
      · exact h.elim
theorem chain_ok {r r' : R2} {o o' : D → D → Option Vl} {fa fb fc : Mo Vl} (u : U2 g r o) (u' : U2 g r' o') {F : Fc} {σ : L2.St} {Hd H : Hp} {w : Ow} {E : En} {Q : VK} (s : Sr g F Hd H E σ w)
    (p : PostA g F W σ Hd H w (dChain o o' fa fb fc E) fun c _ _ H' _ => Q (.bl c) H') : tChain r r' (tE g W fa) (tE g W fb) (tE g W fc) σ H Q := by
  refine ⟨F, Hd, E, w, s, (PostA.bind p).imp fun a E1 Hd1 H1 w1 _ e1 s1 p1 x rx => ?_⟩
  refine ⟨F, Hd1, E1, w1, s1, (PostA.bind p1).imp fun b E2 Hd2 H2 w2 _ e2 s2 p2 y ry => ?_⟩
  have ry0 := ry
  refine opB_ok u (e1.trans e2) s2 (VRel.eff e2 rx) (ry.start e1.dom) (PostA.bind p2) fun c Hd3 H3 G s3 p3 => ⟨c, rfl, ?_⟩
  cases c with
  | false =>
    rw [if_neg Bool.false_ne_true]
    rw [if_neg Bool.false_ne_true] at p3
    exact p3.here s3
  | true =>
    rw [if_pos rfl]
    rw [if_pos rfl] at p3
    refine ⟨F, Hd3, E2, w2, s3, (PostA.bind p3).imp fun z E4 Hd4 H4 w4 _ e4 s4 p4 v rv => ?_⟩
    have e23 := (s2.eff G).trans e4
    exact opB_ok (Hd0 := Hd1) (H0 := H1) (w0 := w1) u' (e2.trans e23) s4 (VRel.eff e23 ry) (rv.start fun a h => Same.some_ne G.hh (e2.dom a h)) p4 fun c' Hd5 H5 G5 s5 p5 => p5
theorem de_chain {op op' : CmpOp} {a b c : Expr} {pos : Pos} {r r' : R2} {o o' : D → D → Option Vl} {fa fb fc : Mo Vl} (ho : OpR X (compareOp op) r) (ho' : OpR X (compareOp op') r') (u : U2 g r o) (u' : U2 g r' o') (ha : PE X a (tE g W fa)) (hb : PE X b (tE g W fb)) (hc : PE X c (tE g W fc))
    (hm : lastMarks [op, op'] [b, c] = false := by with_unfolding_all rfl) : PE X (.Compare a [op, op'] [b, c] pos) (tE g W (ofB (dChain o o' fa fb fc))) := (pe_chain ho ho' ha hb hc hm).impF fun σ H Q ⟨F, Hd, E, w, s, p⟩ =>
  chain_ok u u' s ((PostA.bind p).imp fun c E1 Hd1 H1 w1 _ e1 s1 p1 => p1.here s1 _ (by show Rep g Hd1 (.bl c) (.bl c); exact rep_bl))
theorem dt_chain {op op' : CmpOp} {a b c : Expr} {pos : Pos} {r r' : R2} {o o' : D → D → Option Vl} {fa fb fc : Mo Vl} (ho : OpR X (compareOp op) r) (ho' : OpR X (compareOp op') r') (u : U2 g r o) (u' : U2 g r' o') (ha : PE X a (tE g W fa)) (hb : PE X b (tE g W fb)) (hc : PE X c (tE g W fc))
    (hm : lastMarks [op, op'] [b, c] = false := by with_unfolding_all rfl) : PT X (.Compare a [op, op'] [b, c] pos) (tT g W (dChain o o' fa fb fc)) := (pt_chain ho ho' ha hb hc hm).impF fun σ H Q ⟨F, Hd, E, w, s, p⟩ =>
  chain_ok u u' s (p.imp fun c E1 Hd1 H1 w1 _ e1 s1 p1 => ⟨c, rfl, p1⟩)
end

/-! ### built-ins of data -/
def lift1M (o : D → Option Vl) (f : Mo (List Vl)) : Mo Vl := mb f fun xs => match xs with
  | [a] => lift1 o a
  | _ => fun _ => .bad
/-- a built-in of one argument, by values -/
def dB1 (o : D → Option Vl) (f : Mo Vl) : Mo Vl := d1 o f
section
variable {g : Gx} {W : WX} {X : Cx}
def rOne (r : V → Hp → VK → Prop) : List V → Hp → VK → Prop := fun xs H Q => ∃ x, xs = [x] ∧ r x H Q
theorem de_b1 {id : String} {x : Str} {a : Expr} {p pos : Pos} {r : V → Hp → VK → Prop} {o : D → Option Vl} {f : Mo Vl} (hc : CallR X (.builtin id) (rOne r)) (u : U1 g r o) (hg : Gl X x) (hm : X.mg x = none) (hv : bootBuiltins x = some (.builtin id)) (ha : PE X a (tE g W f)) (hn : x ≠ "__name__" := by decide) (hdb : (x == ("__debug__" : Str)) = false := by decide)
    (he : starEach (a :: []) X.env = (false, eval a X.env) :: starEach [] X.env := by rfl) (hpl : (backTo pos (starEach [] X.env)).any (·.1) = false := by rfl) : PE X (.Call (.Name x p) [a] [] pos) (tE g W (d1 o f)) := (pe_callB hc hg hm hv (pa_cons ha pa_nil he) hn hdb he hpl).impF fun σ H Q h => by
  exact tE_mono (tE_1 u σ H Q h) fun v H1 q => ⟨v, rfl, q⟩
theorem de_ty1 {id : String} {x : Str} {a : Expr} {p pos : Pos} {r : V → Hp → VK → Prop} {o : D → Option Vl} {f : Mo Vl} (hc : CallR X (.type id) (rOne r)) (u : U1 g r o) (hg : Gl X x) (hm : X.mg x = none) (hv : bootBuiltins x = some (.type id)) (ha : PE X a (tE g W f)) (hn : x ≠ "__name__" := by decide) (hdb : (x == ("__debug__" : Str)) = false := by decide)
    (he : starEach (a :: []) X.env = (false, eval a X.env) :: starEach [] X.env := by rfl) (hpl : (backTo pos (starEach [] X.env)).any (·.1) = false := by rfl) : PE X (.Call (.Name x p) [a] [] pos) (tE g W (d1 o f)) := (pe_callTy hc hg hm hv (pa_cons ha pa_nil he) hn hdb he hpl).impF fun σ H Q h => by
  exact tE_mono (tE_1 u σ H Q h) fun v H1 q => ⟨v, rfl, q⟩
/-! len -/
def oLen : D → Option Vl
  | .lst ds => some (.dat (.int ds.length))
  | .tup ds => some (.dat (.int ds.length))
  | .scr ns => some (.dat (.int ns.length))
  | .str z => if z.length ≤ lim then some (.dat (.int z.length)) else none
  | _ => none
def rLenF (K : PySem.W.Frag) : V → Hp → VK → Prop := fun x H Q => (∃ p ys, x = .ref p ∧ (SqL K H p ys ∨ SqT K H p ys) ∧ Q (.int ys.length) H) ∨ (∃ z, x = .str z ∧ z.length ≤ sizeLine ∧ Q (.int z.length) H)
theorem cr_lenF : CallR X (.builtin "len") (rOne (rLenF X.K)) := by
  intro pins s σ H xs us Q I r h
  obtain ⟨x, rfl, h⟩ := h
  rcases h with ⟨p, ys, rfl, h1, h2⟩ | ⟨z, rfl, h1, h2⟩
  · exact call_len_seq pins s σ H _ us Q I r ⟨p, ys, rfl, h1, h2⟩
  · exact call_len_str pins s σ H _ us Q I r ⟨z, rfl, h1, h2⟩
theorem u_len (hK : g.K = X.K) : U1 g (rLenF X.K) oLen := by
  intro Hd H x a u Q e ra q k
  cases a <;> simp only [oLen] at q <;> try (cases q)
  · rename_i z
    split at q
    · rename_i hz
      cases q
      rw [lim_eq] at hz
      exact .inr ⟨z, ra.str, hz, new_dat e rep_int k⟩
    · cases q
  · rename_i ds
    obtain ⟨p, vs, rfl, h1, hz, h2⟩ := ra.tup e
    exact .inl ⟨p, vs, rfl, .inr (SqT.of h1), new_dat e (by rw [← h2.length]; exact rep_int) k⟩
  · rename_i ds
    obtain ⟨p, vs, rfl, h1, hz, h2⟩ := ra.lst e
    exact .inl ⟨p, vs, rfl, .inl (SqL.of h1), new_dat e (by rw [← h2.length]; exact rep_int) k⟩
  · rename_i ns
    have r := ra.dat (by intro _ z; cases z)
    simp only [Rep] at r
    obtain ⟨p, rfl, h1⟩ := r
    rw [hK] at h1
    exact .inl ⟨p, ns.map V.int, rfl, .inl (e.seq h1), new_dat e (by rw [List.length_map]; exact rep_int) k⟩
theorem de_len {a : Expr} {p pos : Pos} {f : Mo Vl} (hK : g.K = X.K) (hg : Gl X "len") (hm : X.mg "len" = none) (ha : PE X a (tE g W f)) (hv : bootBuiltins "len" = some (.builtin "len") := by rfl) (he : starEach (a :: []) X.env = (false, eval a X.env) :: starEach [] X.env := by rfl) (hpl : (backTo pos (starEach [] X.env)).any (·.1) = false := by rfl) :
    PE X (.Call (.Name "len" p) [a] [] pos) (tE g W (d1 oLen f)) := de_b1 cr_lenF (u_len hK) hg hm hv ha (by decide) (by decide) he hpl
/-! any, all of a list of bools -/
def bls : List D → Option (List Bool)
  | [] => some []
  | .bl b :: r => (bls r).map (b :: ·)
  | _ => none
theorem bls_eq : ∀ {ds : List D} {bs : List Bool}, bls ds = some bs → ds = bs.map .bl
  | [], bs, h => by simp only [bls, Option.some.injEq] at h; subst h; rfl
  | d :: ds, bs, h => by
    cases d <;> simp only [bls] at h <;> try (cases h)
    rename_i b
    obtain ⟨cs, h1, rfl⟩ := Option.map_eq_some_iff.mp h
    rw [bls_eq h1]; rfl
def oAny : D → Option Vl
  | .lst ds => (bls ds).map fun bs => .dat (.bl (bs.any id))
  | _ => none
def oAll : D → Option Vl
  | .lst ds => (bls ds).map fun bs => .dat (.bl (bs.all id))
  | _ => none
def rAny1 (K : PySem.W.Frag) : V → Hp → VK → Prop := fun x H Q => ∃ (a : Addr) (bs : List Bool), x = V.ref a ∧ SqL K H a (bs.map V.bl) ∧ Q (.bl (bs.any id)) H
def rAll1 (K : PySem.W.Frag) : V → Hp → VK → Prop := fun x H Q => ∃ (a : Addr) (bs : List Bool), x = V.ref a ∧ SqL K H a (bs.map V.bl) ∧ Q (.bl (bs.all id)) H
theorem u_any {K : PySem.W.Frag} : U1 g (rAny1 K) oAny := by
  intro Hd H x a u Q e ra q k
  cases a <;> simp only [oAny] at q <;> try (cases q)
  rename_i ds
  obtain ⟨bs, hb, rfl⟩ := Option.map_eq_some_iff.mp q
  obtain ⟨p, vs, rfl, h1, hz, h2⟩ := ra.lst e
  rw [bls_eq hb] at h2
  rw [RepL.bls_iff.mp h2] at h1
  exact ⟨p, bs, rfl, SqL.of h1, new_dat e rep_bl k⟩
theorem u_all {K : PySem.W.Frag} : U1 g (rAll1 K) oAll := by
  intro Hd H x a u Q e ra q k
  cases a <;> simp only [oAll] at q <;> try (cases q)
  rename_i ds
  obtain ⟨bs, hb, rfl⟩ := Option.map_eq_some_iff.mp q
  obtain ⟨p, vs, rfl, h1, hz, h2⟩ := ra.lst e
  rw [bls_eq hb] at h2
  rw [RepL.bls_iff.mp h2] at h1
  exact ⟨p, bs, rfl, SqL.of h1, new_dat e rep_bl k⟩
theorem de_any {a : Expr} {p pos : Pos} {f : Mo Vl} (hcm : X.calm = true) (hg : Gl X "any") (hm : X.mg "any" = none) (ha : PE X a (tE g W f)) (hv : bootBuiltins "any" = some (.builtin "any") := by rfl) (he : starEach (a :: []) X.env = (false, eval a X.env) :: starEach [] X.env := by rfl) (hpl : (backTo pos (starEach [] X.env)).any (·.1) = false := by rfl) :
    PE X (.Call (.Name "any" p) [a] [] pos) (tE g W (d1 oAny f)) := de_b1 (r := rAny1 X.K) (fun pins s σ H xs us Q I r ⟨x, e, a, bs, h1, h2⟩ => cr_any hcm pins s σ H xs us Q I r ⟨a, bs, by rw [e, h1], h2⟩) u_any hg hm hv ha (by decide) (by decide) he hpl
theorem de_all {a : Expr} {p pos : Pos} {f : Mo Vl} (hcm : X.calm = true) (hg : Gl X "all") (hm : X.mg "all" = none) (ha : PE X a (tE g W f)) (hv : bootBuiltins "all" = some (.builtin "all") := by rfl) (he : starEach (a :: []) X.env = (false, eval a X.env) :: starEach [] X.env := by rfl) (hpl : (backTo pos (starEach [] X.env)).any (·.1) = false := by rfl) :
    PE X (.Call (.Name "all" p) [a] [] pos) (tE g W (d1 oAll f)) := de_b1 (r := rAll1 X.K) (fun pins s σ H xs us Q I r ⟨x, e, a, bs, h1, h2⟩ => cr_all hcm pins s σ H xs us Q I r ⟨a, bs, by rw [e, h1], h2⟩) u_all hg hm hv ha (by decide) (by decide) he hpl
/-! list(x), tuple(x) -/
def oList : D → Option Vl
  | .lst ds => some (.own (.lst ds))
  | .tup ds => some (.own (.lst ds))
  | _ => none
def oTuple : D → Option Vl
  | .lst ds => some (.dat (.tup ds))
  | .tup ds => some (.dat (.tup ds))
  | _ => none
def rList1 (K : PySem.W.Frag) : V → Hp → VK → Prop := fun x H Q => ∃ p ys, x = .ref p ∧ (SqL K H p ys ∨ SqT K H p ys) ∧ ∀ l, H l = none → Q (.ref l) (upd H l (.lst ys))
def rTuple1 (K : PySem.W.Frag) : V → Hp → VK → Prop := fun x H Q => ∃ p ys, x = .ref p ∧ ((SqL K H p ys ∧ ∀ l, H l = none → Q (.ref l) (upd H l (.tup ys))) ∨ (SqT K H p ys ∧ Q (.ref p) H))
theorem u_list {K : PySem.W.Frag} : U1 g (rList1 K) oList := by
  intro Hd H x a u Q e ra q k
  cases a <;> simp only [oList] at q <;> try (cases q)
  · obtain ⟨p, vs, rfl, h1, hz, h2⟩ := ra.tup e
    exact ⟨p, vs, rfl, .inr (SqT.of h1), fun l hl => new_lst e hl h2 hz k⟩
  · obtain ⟨p, vs, rfl, h1, hz, h2⟩ := ra.lst e
    exact ⟨p, vs, rfl, .inl (SqL.of h1), fun l hl => new_lst e hl h2 hz k⟩
theorem u_tuple {K : PySem.W.Frag} : U1 g (rTuple1 K) oTuple := by
  intro Hd H x a u Q e ra q k
  cases a <;> simp only [oTuple] at q <;> try (cases q)
  · rename_i ds
    obtain ⟨p, vs, rfl, h1, hz, h2⟩ := ra.tup e
    exact ⟨p, vs, rfl, .inr ⟨SqT.of h1, new_dat (d := .tup ds) e (ra.dat (by intro _ z; cases z)) k⟩⟩
  · obtain ⟨p, vs, rfl, h1, hz, h2⟩ := ra.lst e
    exact ⟨p, vs, rfl, .inl ⟨SqL.of h1, fun l hl => new_tup e hl h2 hz k⟩⟩
theorem de_list {a : Expr} {p pos : Pos} {f : Mo Vl} (hg : Gl X "list") (hm : X.mg "list" = none) (ha : PE X a (tE g W f)) (hv : bootBuiltins "list" = some (.type "list") := by rfl) (he : starEach (a :: []) X.env = (false, eval a X.env) :: starEach [] X.env := by rfl) (hpl : (backTo pos (starEach [] X.env)).any (·.1) = false := by rfl) :
    PE X (.Call (.Name "list" p) [a] [] pos) (tE g W (d1 oList f)) := de_ty1 (r := rList1 X.K) (fun pins s σ H xs us Q I r ⟨x, e, a, bs, h1, h2⟩ => call_list_of pins s σ H xs us Q I r ⟨a, bs, by rw [e, h1], h2⟩) u_list hg hm hv ha (by decide) (by decide) he hpl
theorem de_tupleOf {a : Expr} {p pos : Pos} {f : Mo Vl} (hg : Gl X "tuple") (hm : X.mg "tuple" = none) (ha : PE X a (tE g W f)) (hv : bootBuiltins "tuple" = some (.type "tuple") := by rfl) (he : starEach (a :: []) X.env = (false, eval a X.env) :: starEach [] X.env := by rfl) (hpl : (backTo pos (starEach [] X.env)).any (·.1) = false := by rfl) :
    PE X (.Call (.Name "tuple" p) [a] [] pos) (tE g W (d1 oTuple f)) := de_ty1 (r := rTuple1 X.K) (fun pins s σ H xs us Q I r ⟨x, e, a, bs, h1, h2⟩ => call_tuple_of pins s σ H xs us Q I r ⟨a, bs, by rw [e, h1], h2⟩) u_tuple hg hm hv ha (by decide) (by decide) he hpl
end
end Fx

/-! FxF: range, enumerate, zip as what is walked -/
namespace PySem
open Sem (wp)
open AutoSeq1 (wpAny_loadPart')
theorem fx_enum_newT (l : Addr) (items : Array Value) (n : Nat) (dct : Option Addr) (sl : Array (Option Value)) :
    Meets (Builtin.«enumerate.__new__» ⟨[.type "enumerate", .ref l], []⟩) (fun _ R s => s.heap.get? l = some { cls := .type "tuple", dict := dct, data := .seq items n, slots := sl } ∧
      R (.ok (.ret (.ref (s.heap.push { cls := .type "tuple_iterator", data := .fields #[.ref l, .int 0 0] }).objs.size)))
        { s with heap := (s.heap.push { cls := .type "tuple_iterator", data := .fields #[.ref l, .int 0 0] }).push { cls := .type "enumerate", data := .fields #[.none, .bool false, .ref s.heap.objs.size, rawInt 0, .none, .none] } }) :=
  .of_wp fun prog w A R s h => by
    obtain ⟨hp, g, d, tk, os⟩ := s; obtain ⟨hl, h⟩ := h
    have hsub := sub_enumerate
    have hL : Heap.IsTuple (Shared.heap ⟨hp, g, d, tk, os⟩) l items := ⟨_, hl, rfl, n, rfl⟩
    wp_walk using wpAny_loadPart' hl
    refine wpAny_stack_any fun st => wpAny_pure ?_
    split
    · rename_i c _ _ _ _ _
      cases (c == Value.type "enumerate")
      · wp_walk using wpAny_loadPart' hl, wpAny_pyIter_tuple hL
        exact ⟨_, rfl, h⟩
      · wp_walk using wpAny_loadPart' hl, wpAny_pyIter_tuple hL
        exact ⟨_, rfl, h⟩
    · wp_walk using wpAny_loadPart' hl, wpAny_pyIter_tuple hL
      exact ⟨_, rfl, h⟩
theorem fx_enum_tuple {prog : Program} {w : World} {A : Around} {E : Value → Shared → Prop} {s : Shared} {l : Addr} {items : Array Value} {Q : Value → Shared → Prop} (hL : s.heap.IsTuple l items)
    (h : ∀ h', IsEnum h' (s.heap.objs.size + 1) s.heap.objs.size 0 .none → h'.IsTupleIter s.heap.objs.size l 0 → h'.objs.size = s.heap.objs.size + 2 →
      (∀ b o, s.heap.get? b = some o → h'.get? b = some o) → Q (.ref (s.heap.objs.size + 1)) { s with heap := h' }) :
    wpAny (model prog w) A (call (.type "enumerate") [.ref l]) Q E s := by
  obtain ⟨⟨c, dct, dt, sl⟩, hl, hc, n, hd⟩ := hL
  replace hc : c = .type "tuple" := hc
  replace hd : dt = .seq items n := hd
  subst hc hd
  refine callType_new F.called_enumerate (by decide) (F.typeCall_enumerate_1 _) (F.newCall_enumerate_1 _) (fun obj => F.args_object_init_2 obj _) F.entry_enumerate_new
    (fx_enum_newT l items n dct sl) ⟨hl, ?_⟩
  have hz : (s.heap.push { cls := .type "tuple_iterator", data := .fields #[.ref l, .int 0 0] }).objs.size = s.heap.objs.size + 1 := Heap.size_push ..
  show _ ∧ _
  rw [hz]
  have he : IsEnum ((s.heap.push { cls := .type "tuple_iterator", data := .fields #[.ref l, .int 0 0] }).push
      { cls := .type "enumerate", data := .fields #[.none, .bool false, .ref s.heap.objs.size, rawInt 0, .none, .none] }) (s.heap.objs.size + 1) s.heap.objs.size 0 .none := by
    have := Heap.get?_push_size (s.heap.push { cls := .type "tuple_iterator", data := .fields #[.ref l, .int 0 0] })
      (o := { cls := .type "enumerate", data := .fields #[.none, .bool false, .ref s.heap.objs.size, rawInt 0, .none, .none] }) rfl
    rw [hz] at this; exact this
  refine ⟨⟨_, he, rfl⟩, h _ he ⟨_, Heap.get?_push_of_some _ (Heap.get?_push_size _ rfl), rfl, rfl⟩ (by rw [Heap.size_push, hz]) fun b o x => Heap.get?_push_of_some _ (Heap.get?_push_of_some _ x)⟩
end PySem
namespace Fx
open PySem PySem.Spec PyProof.Rows L2 LamX
/-! ### enumerate(tuple) -/
def IteT (K : PySem.W.Frag) (a : Addr) : It :=
  ⟨fun i H => ∃ (xs : List V) (x : V), SqT K H a xs ∧ xs[i]? = some x, fun i H v H' => ∃ T x, v = .ref T ∧ H T = none ∧ H' = upd H T (.tup [.int (i : Nat), x]) ∧ ∀ xs, SqT K H a xs → xs[i]? = some x, fun i H => ∃ xs : List V, SqT K H a xs ∧ xs.length ≤ i⟩
theorem turn_enumT {P : Program} {w : World} {K : PySem.W.Frag} {elts : List Expr} {kk : Nat} {tpos : Pos} (a e it : Addr) (hae : a ≠ e) (hai : a ≠ it) :
    Turn P w K (.Tuple elts kk tpos) (IteT K a) [e, it] e (fun i h => (∃ old, IsEnum h e it ((i : Nat) : Int) old) ∧ h.IsTupleIter it a i ∧ e ≠ it) where
  mem := by simp
  obj := fun i h st b hb => by
    obtain ⟨⟨old, he⟩, ⟨o, ho, hc, hd⟩, _⟩ := st
    have e' : b = e ∨ b = it := by simpa using hb
    rcases e' with z | z
    · rw [z]; exact ⟨_, he, fun v q => nomatch q⟩
    · rw [z]; exact ⟨o, ho, fun v q => by rw [hd] at q; cases q⟩
  keep := fun i h h' st k => let ⟨⟨old, he⟩, hi, hne⟩ := st; ⟨⟨old, k e (by simp) _ he⟩, hi.at fun o q => k it (by simp) o q, hne⟩
  item := by
    intro X hP hw hK hc i pins s σ H E I hf st hg
    subst hP hw hK
    obtain ⟨⟨old, he⟩, hit, hne⟩ := st
    obtain ⟨xs, x, hq, hx⟩ := hg
    obtain ⟨its, rv, p, hz⟩ := I.tuple hq
    obtain ⟨u, hu, ru⟩ := rv.get hx
    have hel : e < s.heap.objs.size := Heap.lt_size he
    have hil : it < s.heap.objs.size := by obtain ⟨_, q, _⟩ := hit; exact Heap.lt_size q
    have D := Draws.tuple (prog := X.prog) (w := X.w) (A := X.A.in1) (I.ok.hd hc) it a hai its.toArray
    have pT : s.heap.IsTuple a its.toArray := p
    refine wpAny_pyNext_enum_itemD D he ⟨hit, pT⟩ (by have := rv.length; have := (List.getElem?_eq_some_iff.mp hx).1; rw [List.size_toArray]; omega) hne (by simp [hne, Ne.symm hae]) fun y h' tk hy ho hst' hT hsz hk => ?_
    have hyu : y = u := by
      have : its.toArray[i]? = some u := by simpa using hu
      rw [this] at hy
      exact (Option.some.inj hy).symm
    subst hyu
    obtain ⟨hit', _⟩ := hst'
    refine ⟨_, rfl, wpAny_letOwnedTupleGo_enum (s := { s with heap := h', toks := tk + 1 }) ho fun h'' he' sb => ?_⟩
    have hT2 : h''.get? s.heap.objs.size = some { cls := .type "tuple", data := .seq #[.int i tk, y] } := (sb.2 _ (Nat.ne_of_gt hel)).trans hT
    have new : ObjOk X.prog X.w (upd H s.heap.objs.size (.tup [.int (i : Nat), x])) h'' s.heap.objs.size (.tup [.int (i : Nat), x]) :=
      ⟨by show 2 ≤ sizeLine; decide, [.int i tk, y], .cons ⟨_, rfl⟩ (.cons ru .nil), ⟨_, hT2, rfl, _, rfl⟩⟩
    have I1 : Inv X pins σ (upd H s.heap.objs.size (.tup [.int (i : Nat), x])) { s with heap := h'', toks := tk + 1 } :=
      I.turnedNew (ch := [e, it]) (fun b ob hb q => (sb.2 b (fun z => hb (by simp [z]))).trans (hk b ob (fun z => hb (by simp [z])) (fun z => hb (by simp [z])) q)) hf (Nat.le_refl _) new
    refine ⟨.ref s.heap.objs.size, _, I1, rfl, ⟨_, x, rfl, I.hok.fresh (Nat.le_refl _), rfl, fun ys hy => by rw [I.tuple_inj hy hq]; exact hx⟩, ⟨⟨y, ?_⟩, hit'.at fun o q => (sb.2 it (Ne.symm hne)).trans q, hne⟩, fun b hb => ?_⟩
    · have e1 : ((i + 1 : Nat) : Int) = (i : Int) + 1 := by omega
      rw [e1]; exact he'
    · have hb' : b < s.heap.objs.size := by
        have e' : b = e ∨ b = it := by simpa using hb
        rcases e' with z | z
        · rw [z]; exact hel
        · rw [z]; exact hil
      rw [upd_ne (Nat.ne_of_lt hb')]
      exact (hf b hb).1
  done := by
    intro X hP hw hK hc i pins s σ H E I hf st hg
    subst hP hw hK
    obtain ⟨⟨old, he⟩, hit, hne⟩ := st
    obtain ⟨xs, hq, hx⟩ := hg
    obtain ⟨its, rv, p, hz⟩ := I.tuple hq
    obtain ⟨f0, f1, f2, f3, f4, f5⟩ := hf it (by simp)
    have hl := rv.length
    have hT : s.TypeIs (.ref e) "enumerate" := ⟨_, he, rfl⟩
    unfold pyNext
    refine wpAny_bind (wpAny_attempt (wpAny_callSpecial?_slot (name := Str.ofString "__next__") hT F.slot_enumerate_next
      (wpAny_call_entry F.slot_enumerate_next hT F.entry_enumerate_next ?_ (F.args_enumerate_next_1 _))))
    show wpAny _ _ (field (.ref e) 2 >>= _) _ _ _
    refine wpAny_bind (wpAny_field he rfl (x := .ref it) rfl ?_)
    refine wpAny_bind (wpAny_nextOf_tuple_end (I.ok.hd hc) hit (show s.heap.IsTuple a its.toArray from p) (by simp; omega) fun h' x he' hx' => ?_)
    obtain ⟨o, ho, hcc⟩ := hx'
    refine wpAny_bind (wpAny_isInstance (T := "StopIteration") (b := true) ⟨o, ho, hcc⟩ isSubtype_stop ?_)
    exact wpAny_pure ⟨rfl, I.turned (t' := s.toks) (fun b o hb q => he' b o hb q) f0 f1 f3 f4 f5⟩
  self := fun A i s Q E st h => let ⟨⟨_, he⟩, _⟩ := st; wpAny_pyIter_enum he h
def iEnumA (K : PySem.W.Frag) (ta : TA) : TI := fun σ H R => ta σ H fun vs H1 => ∃ a xs, vs = [.ref a] ∧ ((SqL K H1 a xs ∧ R (Ite K a) H1) ∨ (SqT K H1 a xs ∧ R (IteT K a) H1))
theorem pi_enumA {X : Cx} {e : Expr} {ta : TA} {p pos tpos : Pos} {elts : List Expr} {kk : Nat} (hg : Gl X "enumerate") (hm : X.mg "enumerate" = none) (ha : PA X [e] ta) (hs : starEach [e] X.env = [(false, eval e X.env)] := by rfl) :
    PI X (.Tuple elts kk tpos) (.Call (.Name "enumerate" p) [e] [] pos) (iEnumA X.K ta) := by
  refine ⟨fun pins s σ H R I h => ?_⟩
  refine Call_ (ld_blt I hg hm boot_enumerate (PyProof.Rows.callWith_type1 (thn (ha.run pos pins s σ H _ I h) fun us s1 ⟨vs, H1, I1, r1, q1⟩ => ?_) hs rfl))
  obtain ⟨a, xs, ex, hq⟩ := q1
  subst ex
  cases r1 with
  | cons r rr =>
    cases rr
    cases r
    have fr : ∀ b ∈ [s1.heap.objs.size + 1, s1.heap.objs.size], FpOk X pins H1 b := fun b hb => by
      have e' : b = s1.heap.objs.size + 1 ∨ b = s1.heap.objs.size := by simpa using hb
      have hle : s1.heap.objs.size ≤ b := by
        rcases e' with z | z
        · rw [z]; exact Nat.le_add_right _ _
        · rw [z]; exact Nat.le_refl _
      exact I1.fpOk hle (I1.hok.fresh hle)
    rcases hq with ⟨hq, q⟩ | ⟨hq, q⟩
    · obtain ⟨its, rv, p', hz⟩ := I1.list hq
      refine call_enumerate_list p'.isList fun h' he hit hsz hk => wpAny_pyIter_enum he ?_
      have I2 : Inv X pins σ H1 { s1 with heap := h' } := I1.kept (t' := s1.toks) hk
      exact ⟨s1.heap.objs.size + 1, [s1.heap.objs.size + 1, s1.heap.objs.size], _, _, H1, rfl, I2, turn_enum a (s1.heap.objs.size + 1) s1.heap.objs.size, ⟨⟨.none, he⟩, hit, Nat.succ_ne_self _⟩, fr, q⟩
    · obtain ⟨its, rv, p', hz⟩ := I1.tuple hq
      have pT : s1.heap.IsTuple a its.toArray := p'
      have hlt : a < s1.heap.objs.size := by obtain ⟨o, ho, _⟩ := pT; exact Heap.lt_size ho
      refine fx_enum_tuple pT fun h' he hit hsz hk => wpAny_pyIter_enum he ?_
      have I2 : Inv X pins σ H1 { s1 with heap := h' } := I1.kept (t' := s1.toks) hk
      exact ⟨s1.heap.objs.size + 1, [s1.heap.objs.size + 1, s1.heap.objs.size], _, _, H1, rfl, I2, turn_enumT a (s1.heap.objs.size + 1) s1.heap.objs.size (Nat.ne_of_lt (Nat.lt_succ_of_lt hlt)) (Nat.ne_of_lt hlt), ⟨⟨.none, he⟩, hit, Nat.succ_ne_self _⟩, fr, q⟩

section
variable {g : Gx} {W : WX} {X : Cx}
/-! ### the sources by values -/
def rngD (a b : Int) : List D := (List.range (b - a).toNat).map fun (i : Nat) => D.int (a + (i : Int))
def dNum (a : Vl) : Option Int := match a with
  | .dat (.int i) => some i
  | _ => none
def limI : Int := 4194304
def iRange2 (fa fb : Mo Vl) : Mo Its := mb fa fun x => mb fb fun y => fun E => match dNum x, dNum y with
  | some a, some b => if -limI ≤ a ∧ a ≤ limI ∧ -limI ≤ b ∧ b ≤ limI then .ok (rngD a b, none) E else .bad
  | _, _ => .bad
def iRange1 (fb : Mo Vl) : Mo Its := mb fb fun y => fun E => match dNum y with
  | some b => if -limI ≤ b ∧ b ≤ limI then .ok (rngD 0 b, none) E else .bad
  | _ => .bad
theorem rngD_len {a b : Int} : (rngD a b).length = (b - a).toNat := by unfold rngD; simp
theorem itOk_range {B Hd : Hp} {a b : Int} (ha : -limI ≤ a) (hb : b ≤ limI) : ItOk g (Itr a (b - a).toNat) B Hd (rngD a b) := by
  refine ⟨?_, _, _, by rw [rngD_len]; exact walk_range, fun _ _ => trivial, ?_⟩
  · rw [rngD_len, sizeLine_eq]
    have e : limI = 4194304 := rfl
    omega
  · intro i d Hd1 H1 x H2 hd e1 e2 y
    obtain ⟨rfl, rfl⟩ := y
    refine ⟨Hd1, Grow.refl e2, ?_⟩
    unfold rngD at hd
    rw [List.getElem?_map] at hd
    obtain ⟨j, hj, rfl⟩ := Option.map_eq_some_iff.mp hd
    have : i = j := by
      have := List.getElem?_eq_some_iff.mp hj
      obtain ⟨h1, h2⟩ := this
      simpa using h2
    subst this
    exact rep_int
theorem dNum_eq {x : Vl} {a : Int} (h : dNum x = some a) : x = .dat (.int a) := by
  cases x with
  | dat d => cases d <;> simp only [dNum] at h <;> first | (cases h; rfl) | cases h
  | _ => simp only [dNum] at h; cases h
theorem di_range1 {tg a : Expr} {p pos : Pos} {f : Mo Vl} (hg : Gl X "range") (hm : X.mg "range" = none) (ha : PE X a (tE g W f)) (hs : starEach (a :: []) X.env = (false, eval a X.env) :: starEach [] X.env := by rfl) (hs' : starEach [a] X.env = [(false, eval a X.env)] := by rfl) :
    PI X tg (.Call (.Name "range" p) [a] [] pos) (tI g W (iRange1 f)) := (pi_range1 hg hm (pa_cons ha pa_nil hs) hs').impF fun σ H R ⟨F, Hd, E, w, s, p⟩ => by
  refine ⟨F, Hd, E, w, s, (PostA.bind p).imp fun x E1 Hd1 H1 w1 _ e1 s1 p1 v rv => ?_⟩
  split at p1
  · rename_i b hb
    rw [dNum_eq hb] at rv
    have hv : v = .int b := by simpa only [VRel, Rep] using rv
    split at p1
    · rename_i hz
      have e : limI = 4194304 := rfl
      refine ⟨b, by rw [hv], by omega, by omega, ?_⟩
      have q := itOk_range (g := g) (B := baseOf Hd1 H1 w1 none) (Hd := Hd1) (a := 0) (b := b) (by omega) (by omega)
      rw [show b - 0 = b by omega] at q
      exact p1.here s1 _ q
    · exact p1.elim
  · exact p1.elim
theorem di_range2 {tg a b : Expr} {p pos : Pos} {f h : Mo Vl} (hg : Gl X "range") (hm : X.mg "range" = none) (ha : PE X a (tE g W f)) (hb : PE X b (tE g W h)) (h1 : starEach (a :: [b]) X.env = (false, eval a X.env) :: starEach [b] X.env := by rfl) (h2 : starEach (b :: []) X.env = (false, eval b X.env) :: starEach [] X.env := by rfl)
    (hs : starEach [a, b] X.env = [(false, eval a X.env), (false, eval b X.env)] := by rfl) (hs2 : starEach [b] X.env = [(false, eval b X.env)] := by rfl) :
    PI X tg (.Call (.Name "range" p) [a, b] [] pos) (tI g W (iRange2 f h)) := (pi_range2 hg hm (pa_cons ha (pa_cons hb pa_nil h2) h1) hs hs2).impF fun σ H R ⟨F, Hd, E, w, s, p⟩ => by
  refine ⟨F, Hd, E, w, s, (PostA.bind p).imp fun x E1 Hd1 H1 w1 _ e1 s1 p1 v rv => ?_⟩
  refine ⟨F, Hd1, E1, w1, s1, (PostA.bind p1).imp fun y E2 Hd2 H2 w2 _ e2 s2 p2 u ru => ?_⟩
  split at p2
  · rename_i a b ha hb
    rw [dNum_eq ha] at rv
    rw [dNum_eq hb] at ru
    have hv : v = .int a := by simpa only [VRel, Rep] using rv
    have hu : u = .int b := by simpa only [VRel, Rep] using ru
    split at p2
    · rename_i hz
      have e : limI = 4194304 := rfl
      refine ⟨a, b, by rw [hv, hu], ⟨by omega, by omega, by omega, by omega⟩, ?_⟩
      exact p2.here s2 _ (itOk_range hz.1 hz.2.2.2)
    · exact p2.elim
  · exact p2.elim
/-! a walk over the items of a list or tuple, in pairs with their places -/
def enumD (ds : List D) : List D := (List.range ds.length).zipWith (fun (i : Nat) d => D.tup [.int (i : Int), d]) ds
def mapIts (k : List D → List D) (n : Mo Its) : Mo Its := mb n fun q => mp (k q.1, q.2)
def iEnumF (f : Mo Vl) : Mo Its := mapIts enumD (iSeq f)
theorem enumD_len {ds : List D} : (enumD ds).length = ds.length := by unfold enumD; simp
theorem pair_grow {Hd1 H1 : Hp} {T : Addr} {x y : V} {a b : D} (e : Same Hd1 H1) (hT : H1 T = none) (r1 : Rep g Hd1 a x) (r2 : Rep g Hd1 b y) : ∃ Hd2, Grow Hd1 H1 Hd2 (upd H1 T (.tup [x, y])) ∧ Rep g Hd2 (.tup [a, b]) (.ref T) := by
  have G := Grow.new (o := .tup [x, y]) e hT
  refine ⟨_, G, ?_⟩
  simp only [Rep]
  exact ⟨T, [x, y], rfl, upd_same, by show 2 ≤ sizeLine; decide, RepL.cons (r1.mono G.hd) (RepL.one (r2.mono G.hd))⟩
theorem enum_yld {Hd : Hp} {ds : List D} {vs : List V} (r : RepL g Hd ds vs) : ∀ (i : Nat) (d : D) (Hd1 H1 : Hp) (x : V) (H2 : Hp), (enumD ds)[i]? = some d → Same Hd Hd1 → Same Hd1 H1 → YPair (fun i => some (.int (i : Nat))) (fun i => vs[i]?) i H1 x H2 → ∃ Hd2, Grow Hd1 H1 Hd2 H2 ∧ Rep g Hd2 d x := by
  rintro i d Hd1 H1 x H2 hd e1 e2 ⟨T, a, b, rfl, hT, rfl, h1, h2⟩
  cases h1
  obtain ⟨d', h3, h4⟩ := r.getB h2
  have e : d = .tup [.int (i : Int), d'] := by
    unfold enumD at hd
    rw [List.getElem?_zipWith, h3] at hd
    have hi : i < ds.length := (List.getElem?_eq_some_iff.mp h3).1
    rw [List.getElem?_range hi] at hd
    exact (Option.some.inj hd).symm
  subst e
  exact pair_grow e2 hT rep_int (h4.mono e1)
theorem itOk_enumL {K : PySem.W.Frag} {B Hd : Hp} {a : Addr} {ds : List D} {vs : List V} (hB : B a = some (.lst vs)) (hz : ds.length ≤ sizeLine) (r : RepL g Hd ds vs) : ItOk g (Ite K a) B Hd (enumD ds) :=
  ⟨by rw [enumD_len]; exact hz, _, _, by rw [enumD_len, r.length]; exact walk_enum, fun H e => SqL.of (e _ _ hB), enum_yld r⟩
theorem walk_enumT {K : PySem.W.Frag} {a : Addr} {xs : List V} : Walk (IteT K a) xs.length (fun H => SqT K H a xs) (YPair (fun i => some (.int (i : Nat))) (fun i => xs[i]?)) := by
  refine ⟨fun i _ hi q => ⟨xs, xs[i], q, by simp [hi]⟩, fun _ q => ⟨xs, q, Nat.le_refl _⟩, fun i H v H' _ q y => ?_⟩
  obtain ⟨T, x, h1, h2, h3, h4⟩ := y
  exact ⟨T, .int (i : Nat), x, h1, h2, h3, rfl, h4 xs q⟩
theorem itOk_enumT {K : PySem.W.Frag} {B Hd : Hp} {a : Addr} {ds : List D} {vs : List V} (hB : B a = some (.tup vs)) (hz : ds.length ≤ sizeLine) (r : RepL g Hd ds vs) : ItOk g (IteT K a) B Hd (enumD ds) :=
  ⟨by rw [enumD_len]; exact hz, _, _, by rw [enumD_len, r.length]; exact walk_enumT, fun H e => SqT.of (e _ _ hB), enum_yld r⟩
/-- as walkOf_ok, of any walk of a list and of a tuple -/
theorem walkOf_any {F : Fc} {σ : L2.St} {Hd0 H0 Hd H : Hp} {w0 w : Ow} {E : En} {a : Vl} {x : V} {R : It → Hp → Prop} {k : List D → List D} {JL JT : Addr → It} (e0 : Eff Hd0 H0 w0 Hd H w) (s : Sr g F Hd H E σ w) (rx : VRel g Hd H w σ H0 x a)
    (kL : ∀ {B Hd : Hp} {a : Addr} {ds : List D} {vs : List V}, B a = some (.lst vs) → ds.length ≤ sizeLine → RepL g Hd ds vs → ItOk g (JL a) B Hd (k ds)) (kT : ∀ {B Hd : Hp} {a : Addr} {ds : List D} {vs : List V}, B a = some (.tup vs) → ds.length ≤ sizeLine → RepL g Hd ds vs → ItOk g (JT a) B Hd (k ds))
    (p : PostA g F W σ Hd0 H0 w0 (mapIts k (walkOf a |> fun m => m) E) fun q _ Hd' H' w' => ∀ J, ItOk g J (baseOf Hd' H' w' q.2) Hd' q.1 → R J H') :
    ∃ c xs, x = .ref c ∧ ((SqL X.K H c xs ∧ R (JL c) H) ∨ (SqT X.K H c xs ∧ R (JT c) H)) := by
  have p := PostA.bind0 p
  have lstCase : ∀ {Hd' : Hp} {w' : Ow} {ds : List D} {E' : En} (k1 : Eff Hd0 H0 w0 Hd' H w') (k2 : Sr g F Hd' H E' σ w') (k3 : Rep g Hd' (.lst ds) x) (k4 : ∀ J, ItOk g J Hd' Hd' (k ds) → R J H), ∃ c xs, x = .ref c ∧ ((SqL X.K H c xs ∧ R (JL c) H) ∨ (SqT X.K H c xs ∧ R (JT c) H)) := fun {Hd' w' ds E'} k1 k2 k3 k4 => by
    simp only [Rep] at k3
    obtain ⟨c, vs, h1, h2, h3, h4⟩ := k3
    exact ⟨c, vs, h1, .inl ⟨SqL.of (k2.ext _ _ h2), k4 _ (kL h2 h3 h4)⟩⟩
  cases a with
  | dat d =>
    simp only [walkOf] at p
    cases d with
    | lst ds =>
      simp only [seqOf] at p
      exact lstCase e0 s rx fun J z => (p Hd H w e0 s) Hd H w e0 s J z
    | tup ds =>
      simp only [seqOf] at p
      have k3 : Rep g Hd (.tup ds) x := rx
      simp only [Rep] at k3
      obtain ⟨c, vs, h1, h2, h3, h4⟩ := k3
      exact ⟨c, vs, h1, .inr ⟨SqT.of (s.ext _ _ h2), (p Hd H w e0 s) Hd H w e0 s _ (kT h2 h3 h4)⟩⟩
    | _ => simp only [seqOf] at p; exact p.elim
  | own o =>
    cases o with
    | lst ds =>
      simp only [walkOf] at p
      obtain ⟨Hd', w', k1, k2, k3⟩ := frz_ok (a := .own (.lst ds)) e0 s rx (by simp only [frz]; rfl)
      exact lstCase k1 k2 k3 fun J z => (p Hd' H w' k1 k2) Hd' H w' k1 k2 J z
    | _ => simp only [walkOf] at p; exact p.elim
  | loc i =>
    have key : ∀ (ds : List D), (∃ q, σ[i]? = some (some (.ref q)) ∧ OwnRep g Hd H (fun a => w a = some i) q (.lst ds)) → (∀ J, ItOk g J (baseOf Hd H w (some i)) Hd (k ds) → R J H) →
        ∃ c xs, x = .ref c ∧ ((SqL X.K H c xs ∧ R (JL c) H) ∨ (SqT X.K H c xs ∧ R (JT c) H)) := fun ds ⟨q, z1, z2, vs, z3, z4, z5⟩ k4 => by
      have hx : x = .ref q := by
        have y := (show σ[i]? = some (some x) from rx).symm.trans z1
        simpa using y
      have hB : baseOf Hd H w (some i) q = some (.lst vs) := (toData_in (A := fun a => w a = some i) z2).trans z3
      exact ⟨q, vs, hx, .inl ⟨SqL.of z3, k4 _ (kL hB z4 z5)⟩⟩
    simp only [walkOf] at p
    split at p
    · rename_i ds q
      exact key ds (s.slot i _ q) fun J z => (p Hd H w e0 s) Hd H w e0 s J z
    · rename_i ds q
      exact key ds (s.slot i _ q) fun J z => (p Hd H w e0 s) Hd H w e0 s J z
    · exact p.elim
theorem mb_assoc {α β γ : Type} (f : Mo α) (k : α → Mo β) (l : β → Mo γ) : mb (mb f k) l = mb f fun a => mb (k a) l := by
  funext E
  unfold mb
  cases f E <;> rfl
theorem di_enum {elts : List Expr} {kk : Nat} {tpos : Pos} {a : Expr} {p pos : Pos} {f : Mo Vl} (hg : Gl X "enumerate") (hm : X.mg "enumerate" = none) (ha : PE X a (tE g W f)) (hs : starEach (a :: []) X.env = (false, eval a X.env) :: starEach [] X.env := by rfl) (hs' : starEach [a] X.env = [(false, eval a X.env)] := by rfl) :
    PI X (.Tuple elts kk tpos) (.Call (.Name "enumerate" p) [a] [] pos) (tI g W (iEnumF f)) := (pi_enumA hg hm (pa_cons ha pa_nil hs) hs').impF fun σ H R ⟨F, Hd, E, w, s, p⟩ => by
  unfold iEnumF iSeq mapIts at p
  rw [mb_assoc] at p
  refine ⟨F, Hd, E, w, s, (PostA.bind0 p).imp fun x E1 Hd1 H1 w1 _ e1 s1 p1 v rv => ?_⟩
  obtain ⟨c, xs, h1, h2⟩ := walkOf_any (X := X) (JL := Ite X.K) (JT := IteT X.K) (k := enumD) e1 s1 rv (fun h1 h2 h3 => itOk_enumL h1 h2 h3) (fun h1 h2 h3 => itOk_enumT h1 h2 h3) p1
  exact ⟨c, xs, by rw [h1], h2⟩
theorem itsOk_map {k : List D → List D} {n : Mo Its} (h : ItsOk n) : ItsOk (mapIts k n) := by
  intro E q E' hq i hi
  unfold mapIts mb at hq
  split at hq
  · rename_i q0 E0 z
    cases hq
    exact h _ _ _ z i hi
  · cases hq
  · cases hq
theorem itsOk_enum {f : Mo Vl} : ItsOk (iEnumF f) := itsOk_map itsOk_seq
theorem itsOk_range1 {f : Mo Vl} : ItsOk (iRange1 f) := by
  intro E q E' hq i hi
  unfold iRange1 mb at hq
  split at hq
  · dsimp only at hq
    split at hq
    · split at hq
      · cases hq; cases hi
      · cases hq
    · cases hq
  · cases hq
  · cases hq
theorem itsOk_range2 {f h : Mo Vl} : ItsOk (iRange2 f h) := by
  intro E q E' hq i hi
  unfold iRange2 mb at hq
  split at hq
  · dsimp only at hq
    split at hq
    · split at hq
      · split at hq
        · cases hq; cases hi
        · cases hq
      · cases hq
    · cases hq
    · cases hq
  · cases hq
  · cases hq
/-! ### zip: both lists, or both tuples, as data -/
def zipD (xs ys : List D) : List D := xs.zipWith (fun a b => D.tup [a, b]) ys
def iZipF (f h : Mo Vl) : Mo Its := mb f fun a => mb (frz a) fun x => mb h fun b => mb (frz b) fun y => fun E => match x, y with
  | .lst xs, .lst ys => .ok (zipD xs ys, none) E
  | .tup xs, .tup ys => .ok (zipD xs ys, none) E
  | _, _ => .bad
theorem zip_yld {Hd : Hp} {ds es : List D} {vs us : List V} (r : RepL g Hd ds vs) (r' : RepL g Hd es us) : ∀ (i : Nat) (d : D) (Hd1 H1 : Hp) (x : V) (H2 : Hp), (zipD ds es)[i]? = some d → Same Hd Hd1 → Same Hd1 H1 → YPair (fun i => vs[i]?) (fun i => us[i]?) i H1 x H2 → ∃ Hd2, Grow Hd1 H1 Hd2 H2 ∧ Rep g Hd2 d x := by
  rintro i d Hd1 H1 x H2 hd e1 e2 ⟨T, a, b, rfl, hT, rfl, h1, h2⟩
  obtain ⟨d', h3, h4⟩ := r.getB h1
  obtain ⟨d2, h5, h6⟩ := r'.getB h2
  have e : d = .tup [d', d2] := by
    unfold zipD at hd
    rw [List.getElem?_zipWith, h3, h5] at hd
    exact (Option.some.inj hd).symm
  subst e
  exact pair_grow e2 hT (h4.mono e1) (h6.mono e1)
theorem zipD_len {xs ys : List D} : (zipD xs ys).length = min xs.length ys.length := by unfold zipD; simp
theorem walk_zipT {K : PySem.W.Frag} {a b : Addr} {xs ys : List V} {n : Nat} (hn : n = min xs.length ys.length) : Walk (RZ.ItzT K a b) n (fun H => SqT K H a xs ∧ SqT K H b ys) (YPair (fun i => xs[i]?) (fun i => ys[i]?)) := by
  subst hn
  refine ⟨fun i _ hi q => ?_, fun _ q => ⟨xs, ys, q.1, q.2, by omega⟩, fun i H v H' _ q y => ?_⟩
  · have h1 : i < xs.length := by omega
    have h2 : i < ys.length := by omega
    exact ⟨xs, ys, xs[i], ys[i], q.1, q.2, by simp [h1], by simp [h2]⟩
  · obtain ⟨T, x, z, h1, h2, h3, h4, h5⟩ := y
    exact ⟨T, x, z, h1, h2, h3, h4 xs q.1, h5 ys q.2⟩
theorem di_zip {elts : List Expr} {kk : Nat} {tpos : Pos} {a b : Expr} {p pos : Pos} {f h : Mo Vl} (hg : Gl X "zip") (hm : X.mg "zip" = none) (ha : PE X a (tE g W f)) (hb : PE X b (tE g W h)) (hs : starEach [a, b] X.env = (false, eval a X.env) :: starEach [b] X.env := by rfl)
    (hs2 : starEach (b :: []) X.env = (false, eval b X.env) :: starEach [] X.env := by rfl) (hpl : (backTo pos (starEach [b] X.env)).any (·.1) = false := by rfl) :
    PI X (.Tuple elts kk tpos) (.Call (.Name "zip" p) [a, b] [] pos) (tI g W (iZipF f h)) := (RZ.pi_zipA hg hm (pa_cons ha (pa_cons hb pa_nil hs2) hs) hs hpl).impF fun σ H R ⟨F, Hd, E, w, s, p⟩ => by
  refine ⟨F, Hd, E, w, s, (PostA.bind0 p).imp fun x E1 Hd1 H1 w1 _ e1 s1 p1 v rv => ?_⟩
  obtain ⟨d, E2, Hd2, w2, _, k1, k2, k3, k4⟩ := frz_post e1 s1 rv (PostA.bind0 p1)
  refine ⟨F, Hd2, E2, w2, k2, (PostA.bind0 (k4.shift k1)).imp fun y E3 Hd3 H3 w3 _ e3 s3 p3 u ru => ?_⟩
  obtain ⟨d', E4, Hd4, w4, _, m1, m2, m3, m4⟩ := frz_post e3 s3 ru (PostA.bind0 p3)
  split at m4
  · rename_i xs ys
    have k5 := k3.mono m1.hd
    simp only [Rep] at k5 m3
    obtain ⟨a, vs, rfl, h1, h2, h3⟩ := k5
    obtain ⟨b, us, rfl, h1', h2', h3'⟩ := m3
    refine ⟨a, b, vs, us, rfl, .inl ⟨SqL.of (m2.ext _ _ h1), SqL.of (m2.ext _ _ h1'), ?_⟩⟩
    have z := (m4.shift m1).here m2
    exact z _ ⟨by rw [zipD_len]; omega, fun H => SqL X.K H a vs ∧ SqL X.K H b us, _, by rw [zipD_len, h3.length, h3'.length]; exact walk_zip rfl, fun H e => ⟨SqL.of (e _ _ h1), SqL.of (e _ _ h1')⟩, zip_yld h3 h3'⟩
  · rename_i xs ys
    have k5 := k3.mono m1.hd
    simp only [Rep] at k5 m3
    obtain ⟨a, vs, rfl, h1, h2, h3⟩ := k5
    obtain ⟨b, us, rfl, h1', h2', h3'⟩ := m3
    refine ⟨a, b, vs, us, rfl, .inr ⟨SqT.of (m2.ext _ _ h1), SqT.of (m2.ext _ _ h1'), ?_⟩⟩
    have z := (m4.shift m1).here m2
    exact z _ ⟨by rw [zipD_len]; omega, fun H => SqT X.K H a vs ∧ SqT X.K H b us, _, by rw [zipD_len, h3.length, h3'.length]; exact walk_zipT rfl, fun H e => ⟨SqT.of (e _ _ h1), SqT.of (e _ _ h1')⟩, zip_yld h3 h3'⟩
  · exact m4.elim
theorem itsOk_zip {f h : Mo Vl} : ItsOk (iZipF f h) := by
  intro E q E' hq i hi
  unfold iZipF mb at hq
  repeat' first | (split at hq) | (dsimp only at hq; split at hq)
  all_goals first | (cases hq; cases hi; done) | cases hq
end
end Fx

/-! FxG: objects written, attributes, constructors, isinstance, if-expressions -/
namespace Fx
open PySem PySem.Spec PyProof.Rows L2 LamX
section
variable {g : Gx} {F : Fc} {W : WX} {X : Cx} {σ : L2.St} {Hd H : Hp} {w : Ow} {E : En}
/-! ### a slot's object is rewritten -/
/-- the object of a slot, own or lent -/
def objAt (E : En) (i : Nat) : Option O := match E[i]? with
  | some (some (.own o)) => some o
  | some (some (.ref o)) => some o
  | _ => none
def putO (E : En) (i : Nat) (o : O) : En := match E[i]? with
  | some (some (.own _)) => E.set i (some (.own o))
  | some (some (.ref _)) => E.set i (some (.ref o))
  | _ => E
theorem objAt_slot {i : Nat} {o : O} (s : Sr g F Hd H E σ w) (h : objAt E i = some o) : ∃ p, σ[i]? = some (some (.ref p)) ∧ OwnRep g Hd H (fun a => w a = some i) p o := by
  unfold objAt at h
  split at h
  · rename_i o' q
    cases h
    exact s.slot i _ q
  · rename_i o' q
    cases h
    exact s.slot i _ q
  · cases h
theorem Eff.write {q : Addr} {u : HO} {i : Nat} (hw : w q = some i) (nu : NT u := by intro _ z; cases z) : Eff Hd H w Hd (L2.upd H q u) w where
  hd := Same.refl _
  fr := fun a o h n _ => by
    rw [upd_ne fun e => by rw [e, hw] at n; cases n]; exact h
  nt := fun a ps y => by
    by_cases e : a = q
    · rw [e, upd_same] at y; exact absurd (Option.some.inj y) (nu ps)
    · rw [upd_ne e] at y; exact ⟨ps, y⟩
  dom := fun a h => by
    by_cases e : a = q
    · rw [e, upd_same]; simp
    · rw [upd_ne e]; exact h
  wi := fun a i h => .inl h
  hn := fun a h => .inl h
theorem Sr.write {q p : Addr} {u : HO} {i : Nat} {o o' : O} (s : Sr g F Hd H E σ w) (h : objAt E i = some o) (hp : σ[i]? = some (some (.ref p))) (hw : w q = some i) (n : OwnRep g Hd (L2.upd H q u) (fun a => w a = some i) p o') (pl : ∀ v, H q = some v → PlO v) (nu : NT u := by intro _ z; cases z) : Sr g F Hd (L2.upd H q u) (putO E i o') σ w := by
  have key : ∀ x : S, E[i]? = some (some x) → (x = .own o ∨ x = .ref o) → ∀ x' : S, ((x = .own o ∧ x' = .own o') ∨ (x = .ref o ∧ x' = .ref o')) → Sr g F Hd (L2.upd H q u) (E.set i (some x')) σ w := fun x hx hxo x' hx' => by
    have li : i < E.length := (List.getElem?_eq_some_iff.mp hx).1
    refine ⟨fun a v e => ?_, fun a z => ?_, s.hdn, fun a j z => ?_, by simpa using s.len, fun j y e => ?_, fun a j v z e => ?_, fun r hr => ?_, fun a j z => ?_, tab_upd s.tab pl, s.ntd, fun a j ps z y => ?_, fun a ps y => ?_⟩
    · rw [upd_ne fun e2 => by rw [e2, s.hdn q i hw] at e; cases e]
      exact s.ext a v e
    · by_cases e : a = q
      · rw [e, upd_same]; simp
      · rw [upd_ne e]; exact s.dom a z
    · by_cases e : a = q
      · rw [e, upd_same]; simp
      · rw [upd_ne e]; exact s.wh a j z
    · by_cases ij : i = j
      · subst ij
        rw [List.getElem?_set_self li] at e
        cases e
        rcases hx' with ⟨_, rfl⟩ | ⟨_, rfl⟩
        · exact ⟨p, hp, n⟩
        · exact ⟨p, hp, n⟩
      · rw [List.getElem?_set_ne ij] at e
        exact (s.slot j y e).keep (Same.refl _) (fun a v z y _ => by rw [upd_ne fun e2 => by rw [e2, hw] at z; exact ij (Option.some.inj z)]; exact y) fun _ z => z
    · by_cases ij : i = j
      · subst ij
        rw [List.getElem?_set_self li] at e
        rcases hx' with ⟨e1, rfl⟩ | ⟨_, rfl⟩
        · rw [e1] at hx
          exact s.frs a i o z hx
        · cases e
      · rw [List.getElem?_set_ne ij] at e
        exact s.frs a j v z e
    · obtain ⟨y1, y2⟩ := s.rk r hr
      refine ⟨y1, ?_⟩
      by_cases ij : i = r.1
      · rw [← ij, List.getElem?_set_self li]
        rw [← ij, hx] at y2
        rcases hx' with ⟨e1, _⟩ | ⟨_, rfl⟩
        · rw [e1] at y2; exact y2.elim
        · trivial
      · rw [List.getElem?_set_ne ij]; exact y2
    · by_cases ij : i = j
      · subst ij
        rw [List.getElem?_set_self li]
        rcases hx' with ⟨_, rfl⟩ | ⟨_, rfl⟩ <;> trivial
      · rw [List.getElem?_set_ne ij]; exact s.st a j z
    · by_cases e : a = q
      · rw [e, upd_same] at y; exact nu ps (Option.some.inj y)
      · rw [upd_ne e] at y; exact s.ntw a j ps z y
    · by_cases e : a = q
      · rw [e, upd_same] at y; exact absurd (Option.some.inj y) (nu ps)
      · rw [upd_ne e] at y; exact s.nt0 a ps y
  unfold objAt at h
  split at h
  · rename_i o1 z
    cases h
    rw [show putO E i o' = E.set i (some (.own o')) by unfold putO; rw [z]]
    exact key _ z (.inl rfl) _ (.inl ⟨rfl, rfl⟩)
  · rename_i o1 z
    cases h
    rw [show putO E i o' = E.set i (some (.ref o')) by unfold putO; rw [z]]
    exact key _ z (.inr rfl) _ (.inr ⟨rfl, rfl⟩)
  · cases h

/-! ### methods that change a list: x.m(..), x a local name -/
/-- data arguments; the list's new items and the answer -/
def isLst : Option O → Bool
  | some (.lst _) => true
  | _ => false
def dMut (i : Nat) (op : List D → List D → Option (D × List D)) (args : Mo (List D)) : Mo Vl := fun E0 => if isLst (objAt E0 i) = true then (mb args fun ds E => match objAt E i with
  | some (.lst xs) => match op xs ds with
    | some (r, ys) => if ys.length ≤ lim then .ok (.dat r) (putO E i (.lst ys)) else .bad
    | none => .bad
  | _ => .bad) E0 else .bad
/-- a method's rule by values -/
def UM (g : Gx) (r : V → List V → Hp → VK → Prop) (op : List D → List D → Option (D × List D)) : Prop := ∀ (Hd H : Hp) (p : Addr) (vs us : List V) (xs ds ys : List D) (d : D) (Q : VK), Same Hd H → H p = some (.lst vs) → xs.length ≤ sizeLine → ys.length ≤ sizeLine → RepL g Hd xs vs → RepL g Hd ds us → op xs ds = some (d, ys) →
  (∀ v ws, Rep g Hd d v → RepL g Hd ys ws → Q v (upd H p (.lst ws))) → r (.ref p) us H Q
theorem isLst_of {o : Option O} (h : isLst o = true) : ∃ xs, o = some (.lst xs) := by
  cases o with
  | none => simp [isLst] at h
  | some o => cases o <;> simp [isLst] at h <;> exact ⟨_, rfl⟩
theorem dMut_ok {K : PySem.W.Frag} {r : V → List V → Hp → VK → Prop} {op : List D → List D → Option (D × List D)} {i : Nat} {args : Mo (List D)} (u : UM g r op) : ∀ σ H Q, tE g W (dMut i op args) σ H Q → tBM K "list" r (tVar i) (tD g W args) σ H Q := by
  rintro σ H Q ⟨F, Hd, E, w, s, p⟩
  unfold dMut at p
  split at p
  · rename_i hl
    obtain ⟨xs0, h0⟩ := isLst_of hl
    obtain ⟨c, h1, h2, vs0, h3, _, _⟩ := objAt_slot s h0
    refine ⟨.ref c, h1, .inl ⟨rfl, vs0, SqL.of h3⟩, F, Hd, E, w, s, (PostA.bind p).imp fun ds E1 Hd1 H1 w1 _ e1 s1 p1 us rus => ?_⟩
    split at p1
    · rename_i xs q
      obtain ⟨c', k1, k2, vs, k3, k4, k5⟩ := objAt_slot s1 q
      rw [h1] at k1
      cases k1
      split at p1
      · rename_i d ys q2
        split at p1
        · rename_i hz
          rw [lim_eq] at hz
          refine u Hd1 H1 c vs us xs ds ys d Q s1.ext k3 k4 hz k5 rus q2 fun v ws rv rws => ?_
          exact p1 Hd1 (L2.upd H1 c (.lst ws)) w1 (Eff.write k2) (Sr.write s1 q h1 k2 ⟨k2, ws, upd_same, hz, rws⟩ (plO_lst (by assumption))) v rv
        · exact p1.elim
      · exact p1.elim
    · exact p1.elim
  · exact p.elim
def mAppend : List D → List D → Option (D × List D) := fun xs ds => match ds with
  | [d] => some (.non, xs ++ [d])
  | _ => none
def mExtend : List D → List D → Option (D × List D) := fun xs ds => match ds with
  | [.lst ys] => some (.non, xs ++ ys)
  | _ => none
def mInsert : List D → List D → Option (D × List D) := fun xs ds => match ds with
  | [.int i, d] => if 0 ≤ i ∧ i < 4611686018427387904 then some (.non, xs.take i.toNat ++ [d] ++ xs.drop i.toNat) else none
  | _ => none
def mPop : List D → List D → Option (D × List D) := fun xs ds => match ds with
  | [] => match xs[xs.length - 1]? with
    | some d => some (d, xs.dropLast)
    | none => none
  | _ => none
def mClear : List D → List D → Option (D × List D) := fun xs ds => match ds with
  | [] => some (.non, [])
  | _ => none
theorem repL_one {Hd : Hp} {d : D} {us : List V} (r : RepL g Hd [d] us) : ∃ v, us = [v] ∧ Rep g Hd d v := by
  obtain ⟨v, ws, rfl, r1, r2⟩ := RepL.cons_iff.mp r
  rw [RepL.nil_iff.mp r2]
  exact ⟨v, rfl, r1⟩
theorem um_append : UM g rAppend mAppend := by
  intro Hd H p vs us xs ds ys d Q e h1 hz hz2 r1 r2 q k
  unfold mAppend at q
  split at q
  · cases q
    obtain ⟨v, rfl, rv⟩ := repL_one r2
    rw [List.length_append] at hz2
    exact ⟨p, vs, v, rfl, rfl, h1, by rw [← r1.length]; simp only [List.length_cons, List.length_nil] at hz2; omega, k _ _ rep_non (r1.append (RepL.one rv))⟩
  · cases q
theorem um_extend : UM g rExtend mExtend := by
  intro Hd H p vs us xs ds ys d Q e h1 hz hz2 r1 r2 q k
  unfold mExtend at q
  split at q
  · cases q
    obtain ⟨v, rfl, rv⟩ := repL_one r2
    simp only [Rep] at rv
    obtain ⟨b, ws, rfl, h3, h4, h5⟩ := rv
    rw [List.length_append] at hz2
    exact ⟨p, b, vs, ws, rfl, rfl, h1, e _ _ h3, by rw [← r1.length, ← h5.length]; exact hz2, k _ _ rep_non (r1.append h5)⟩
  · cases q
theorem um_pop : UM g rPop mPop := by
  intro Hd H p vs us xs ds ys d Q e h1 hz hz2 r1 r2 q k
  unfold mPop at q
  split at q
  · split at q
    · rename_i d' q2
      cases q
      obtain ⟨v, h3, h4⟩ := r1.get q2
      rw [r1.length] at h3
      exact ⟨p, vs, v, rfl, RepL.nil_iff.mp r2, h1, h3, k _ _ h4 r1.dropLast⟩
    · cases q
  · cases q
theorem um_clear : UM g rClear mClear := by
  intro Hd H p vs us xs ds ys d Q e h1 hz hz2 r1 r2 q k
  unfold mClear at q
  split at q
  · cases q
    exact ⟨p, vs, rfl, RepL.nil_iff.mp r2, h1, k _ _ rep_non RepL.nil⟩
  · cases q
theorem um_insert : UM g (fun x vs H Q => ∃ (l : Addr) (xs : List V) (i : Int) (y : V), x = .ref l ∧ vs = [.int i, y] ∧ H l = some (.lst xs) ∧ xs.length < sizeLine ∧ 0 ≤ i ∧ i < 2 ^ 63 ∧ Q .non (L2.upd H l (.lst (xs.take i.toNat ++ [y] ++ xs.drop i.toNat)))) mInsert := by
  intro Hd H p vs us xs ds ys d Q e h1 hz hz2 r1 r2 q k
  unfold mInsert at q
  split at q
  · split at q
    · rename_i i d' hi
      cases q
      obtain ⟨v, ws, rfl, r3, r4⟩ := RepL.cons_iff.mp r2
      obtain ⟨v2, rfl, r5⟩ := repL_one r4
      have hv : v = .int i := by simpa only [Rep] using r3
      subst hv
      simp only [List.length_append, List.length_take, List.length_drop, List.length_cons, List.length_nil] at hz2
      exact ⟨p, vs, i, v2, rfl, rfl, h1, by rw [← r1.length]; omega, hi.1, by omega, k _ _ rep_non (((r1.take _).append (RepL.one r5)).append (r1.drop _))⟩
    · cases q
  · cases q
theorem de_mut {name : Str} {id : String} {x : Str} {r : V → List V → Hp → VK → Prop} {op : List D → List D → Option (D × List D)} {i : Nat} {args : Mo (List D)} {e : Expr} {es : List Expr} {npos apos cpos : Pos} (u : UM g r op) (slot : Slot "list" name id) (hty : typeOf (.builtin id) = pure (.type "method_descriptor")) (hm : MtR X id r)
    (ho : PE X (.Name x npos) (tVar i)) (ha : PA X (e :: es) (tD g W args)) (hbase : attributeBase (.Name x npos) name X.env (eval (.Name x npos) X.env) = eval (.Name x npos) X.env := by rfl)
    (hfew : ((backTo cpos (starEach (e :: es) X.env)).all (fun x => !x.1) && (backToKw cpos (keywordEach [] X.env)).all (fun x => x.1.isSome)
      && decide ((e :: es).length + ([] : List Keyword).length + (if ([] : List Keyword).isEmpty then 0 else 1) < 30)) = true := by rfl)
    (hline : (apos.endLine == cpos.line) = true := by rfl) (hs : starEach (e :: es) X.env = (false, eval e X.env) :: starEach es X.env := by rfl) (hplain : (backTo cpos (starEach es X.env)).any (·.1) = false := by rfl) :
    PE X (.Call (.Attribute (.Name x npos) name apos) (e :: es) [] cpos) (tE g W (dMut i op args)) := (pe_bm F.plainAttrs_list slot hty hm ho ha hbase hfew hline hs hplain).impF (dMut_ok u)
theorem de_mut0 {name : Str} {id : String} {x : Str} {r : V → List V → Hp → VK → Prop} {op : List D → List D → Option (D × List D)} {i : Nat} {npos apos cpos : Pos} (u : UM g r op) (slot : Slot "list" name id) (hty : typeOf (.builtin id) = pure (.type "method_descriptor")) (hm : MtR X id r)
    (ho : PE X (.Name x npos) (tVar i)) (hbase : attributeBase (.Name x npos) name X.env (eval (.Name x npos) X.env) = eval (.Name x npos) X.env := by rfl) (hline : (apos.endLine == cpos.line) = true := by rfl) :
    PE X (.Call (.Attribute (.Name x npos) name apos) [] [] cpos) (tE g W (dMut i op eNil)) := (pe_bm0 F.plainAttrs_list slot hty hm ho hbase hline).impF fun σ H Q h => by
  obtain ⟨v, h1, h2, h3⟩ := dMut_ok (K := X.K) u σ H Q h
  obtain ⟨F, Hd, E, w, s, p⟩ := h3
  exact ⟨v, h1, h2, p.here s [] RepL.nil⟩
def nVar {x : Str} {i : Nat} {pos : Pos} (hN : X.N[i]? = some x := by rfl) (hv : Vis X.env.scope x := by first | exact Or.inl rfl | exact Or.inr (Or.inl rfl) | exact Or.inr (Or.inr rfl)) (hd : (x == ("__debug__" : Str)) = false := by decide)
    (hcd : (x == ("__classdict__" : Str)) = false := by decide) : PE X (.Name x pos) (tVar i) := pe_var hN hv hd hcd
theorem de_append {x : Str} {i : Nat} {args : Mo (List D)} {e : Expr} {npos apos cpos : Pos} (ho : PE X (.Name x npos) (tVar i)) (ha : PA X [e] (tD g W args)) (hbase : attributeBase (.Name x npos) "append" X.env (eval (.Name x npos) X.env) = eval (.Name x npos) X.env := by rfl)
    (hfew : ((backTo cpos (starEach [e] X.env)).all (fun x => !x.1) && (backToKw cpos (keywordEach [] X.env)).all (fun x => x.1.isSome)
      && decide (([e] : List Expr).length + ([] : List Keyword).length + (if ([] : List Keyword).isEmpty then 0 else 1) < 30)) = true := by rfl)
    (hline : (apos.endLine == cpos.line) = true := by rfl) (hs : starEach [e] X.env = (false, eval e X.env) :: starEach [] X.env := by rfl) (hplain : (backTo cpos (starEach [] X.env)).any (·.1) = false := by rfl) :
    PE X (.Call (.Attribute (.Name x npos) "append" apos) [e] [] cpos) (tE g W (dMut i mAppend args)) := de_mut um_append F.slot_list_append F.type_list_append mt_append ho ha hbase hfew hline hs hplain
theorem de_extend {x : Str} {i : Nat} {args : Mo (List D)} {e : Expr} {npos apos cpos : Pos} (ho : PE X (.Name x npos) (tVar i)) (ha : PA X [e] (tD g W args)) (hbase : attributeBase (.Name x npos) "extend" X.env (eval (.Name x npos) X.env) = eval (.Name x npos) X.env := by rfl)
    (hfew : ((backTo cpos (starEach [e] X.env)).all (fun x => !x.1) && (backToKw cpos (keywordEach [] X.env)).all (fun x => x.1.isSome)
      && decide (([e] : List Expr).length + ([] : List Keyword).length + (if ([] : List Keyword).isEmpty then 0 else 1) < 30)) = true := by rfl)
    (hline : (apos.endLine == cpos.line) = true := by rfl) (hs : starEach [e] X.env = (false, eval e X.env) :: starEach [] X.env := by rfl) (hplain : (backTo cpos (starEach [] X.env)).any (·.1) = false := by rfl) :
    PE X (.Call (.Attribute (.Name x npos) "extend" apos) [e] [] cpos) (tE g W (dMut i mExtend args)) := de_mut um_extend F.slot_list_extend F.type_list_extend mt_extend ho ha hbase hfew hline hs hplain
theorem de_insert {x : Str} {i : Nat} {args : Mo (List D)} {a e : Expr} {npos apos cpos : Pos} (ho : PE X (.Name x npos) (tVar i)) (ha : PA X [a, e] (tD g W args)) (hbase : attributeBase (.Name x npos) "insert" X.env (eval (.Name x npos) X.env) = eval (.Name x npos) X.env := by rfl)
    (hfew : ((backTo cpos (starEach [a, e] X.env)).all (fun x => !x.1) && (backToKw cpos (keywordEach [] X.env)).all (fun x => x.1.isSome)
      && decide (([a, e] : List Expr).length + ([] : List Keyword).length + (if ([] : List Keyword).isEmpty then 0 else 1) < 30)) = true := by rfl)
    (hline : (apos.endLine == cpos.line) = true := by rfl) (hs : starEach [a, e] X.env = (false, eval a X.env) :: starEach [e] X.env := by rfl) (hplain : (backTo cpos (starEach [e] X.env)).any (·.1) = false := by rfl) :
    PE X (.Call (.Attribute (.Name x npos) "insert" apos) [a, e] [] cpos) (tE g W (dMut i mInsert args)) := de_mut um_insert F.slot_list_insert F.type_list_insert mt_insert ho ha hbase hfew hline hs hplain
theorem de_pop0 {x : Str} {i : Nat} {npos apos cpos : Pos} (ho : PE X (.Name x npos) (tVar i)) (hbase : attributeBase (.Name x npos) "pop" X.env (eval (.Name x npos) X.env) = eval (.Name x npos) X.env := by rfl) (hline : (apos.endLine == cpos.line) = true := by rfl) :
    PE X (.Call (.Attribute (.Name x npos) "pop" apos) [] [] cpos) (tE g W (dMut i mPop eNil)) := de_mut0 um_pop F.slot_list_pop F.type_list_pop mt_pop ho hbase hline
theorem de_clear0 {x : Str} {i : Nat} {npos apos cpos : Pos} (ho : PE X (.Name x npos) (tVar i)) (hbase : attributeBase (.Name x npos) "clear" X.env (eval (.Name x npos) X.env) = eval (.Name x npos) X.env := by rfl) (hline : (apos.endLine == cpos.line) = true := by rfl) :
    PE X (.Call (.Attribute (.Name x npos) "clear" apos) [] [] cpos) (tE g W (dMut i mClear eNil)) := de_mut0 um_clear F.slot_list_clear F.type_list_clear mt_clear ho hbase hline

/-! ### x[i] = .. : a target -/
def gSubF (i : Nat) (fi : Mo Vl) : D → Mo Unit := fun d E0 => if isLst (objAt E0 i) = true then (mb fi fun j => fun E => match dNum j with
  | some k => match objAt E i with
    | some (.lst xs) => match ixN xs.length k with
      | some n => .ok () (putO E i (.lst (xs.set n d)))
      | none => .bad
    | _ => .bad
  | none => .bad) E0 else .bad
theorem dg_sub {x : Str} {i : Nat} {ie : Expr} {npos pos : Pos} {fi : Mo Vl} {ts : List Nat} (ho : PE X (.Name x npos) (tVar i)) (hi : PE X ie (tE g Wn fi))
    (ha : ∀ v, assign (.Subscript (.Name x npos) ie pos) X.env v = (do
      let ov ← holding [v] (eval (.Name x npos) X.env)
      let iv ← holding [v, ov] (eval ie X.env)
      standAt pos
      holding [v, ov, iv] (setItem ov iv v)
      release [v, ov, iv] []) := by intro _; rfl) : PG X (.Subscript (.Name x npos) ie pos) (tG g ts (gSubF i fi)) := (pg_sub ho hi set_list ha).impF fun v σ H Q ⟨F, Hd, E, w, d, s, r, p⟩ => by
  unfold gSubF at p
  split at p
  · rename_i hl
    obtain ⟨xs0, h0⟩ := isLst_of hl
    obtain ⟨c, h1, h2, vs0, h3, _, _⟩ := objAt_slot s h0
    refine ⟨.ref c, h1, F, Hd, E, w, s, ?_⟩
    unfold mb at p
    cases q : fi E with
    | bad => rw [q] at p; exact p.elim
    | exc _ _ => rw [q] at p; exact p.elim
    | ok j E1 =>
      rw [q] at p
      intro Hd1 H1 w1 e1 s1 u ru
      dsimp only at p
      split at p
      · rename_i k hk
        split at p
        · rename_i xs q2
          split at p
          · rename_i n hn
            rw [dNum_eq hk] at ru
            have hu : u = .int k := by simpa only [VRel, Rep] using ru
            obtain ⟨c', k1, k2, vs, k3, k4, k5⟩ := objAt_slot s1 q2
            rw [h1] at k1
            cases k1
            refine ⟨c, vs, k, n, rfl, hu, k3, by rw [← k5.length]; exact hn, ?_⟩
            have r1 := RepL.set (r.mono e1.hd) n k5
            exact p σ Hd1 _ w1 (e1.trans (Eff.write k2)) (Sr.write s1 q2 h1 k2 ⟨k2, _, upd_same, by rw [List.length_set]; exact k4, r1⟩ (plO_lst (by assumption))) ⟨rfl, fun _ _ => rfl⟩
          · exact p.elim
        · exact p.elim
      · exact p.elim
  · exact p.elim
theorem ds_asg {tg e : Expr} {t : D → Mo Unit} {f : Mo Vl} {ts : List Nat} {pos : Pos} (he : PE X e (tE g W f)) (hg : PG X tg (tG g ts t)) (hs : swapsWithSole [tg] e pos.line X.env = pure false := by rfl) (hw : swappedStores [tg] e X.env = pure none := by rfl)
    (h1 : (assignEach [tg] X.env).map (·.2) = [assign tg X.env] := by rfl) : PS X (.Assign [tg] e pos) (tS g W (sAsg t f)) := (ps_asg he hg hs hw h1).impF sAsg_ok

/-! ### if-expressions -/
def dIfE (c : Mo Bool) (f h : Mo Vl) : Mo Vl := mb c fun b => if b = true then f else h
theorem de_ifE {c a b : Expr} {pos : Pos} {fc : Mo Bool} {f h : Mo Vl} (hc : PT X c (tT g W fc)) (ha : PE X a (tE g W f)) (hb : PE X b (tE g W h)) : PE X (.IfExp c a b pos) (tE g W (dIfE fc f h)) := (pe_ifExp hc ha hb).impF fun σ H Q ⟨F, Hd, E, w, s, p⟩ => by
  refine ⟨F, Hd, E, w, s, (PostA.bind p).imp fun b E1 Hd1 H1 w1 _ e1 s1 p1 => ?_⟩
  have fin : ∀ {f : Mo Vl}, PostA g F W σ Hd1 H1 w1 (f E1) (fun a _ Hd' H' w' => ∀ v, VRel g Hd' H' w' σ H v a → Q v H') → tE g W f σ H1 Q := fun {f} z => ⟨F, Hd1, E1, w1, s1, z.imp fun a E2 Hd2 H2 w2 _ _ _ q v rv => q v (rv.start e1.dom)⟩
  cases b with
  | true => exact fin p1
  | false => exact fin p1
end
end Fx

/-! FxH: attributes, constructors, methods -/
namespace Fx
open PySem PySem.Spec PyProof.Rows L2 LamX
def fieldAt : List Str → Str → Nat → Bool
  | k :: _, f, 0 => k == f
  | k :: r, f, j + 1 => !(f == k) && fieldAt r f j
  | [], _, _ => false
theorem fieldAt_lt : ∀ {ks : List Str} {f : Str} {j : Nat}, fieldAt ks f j = true → j < ks.length
  | [], _, _, h => by simp [fieldAt] at h
  | k :: r, f, 0, _ => Nat.zero_lt_succ _
  | k :: r, f, j + 1, h => by
    simp only [fieldAt, Bool.and_eq_true] at h
    exact Nat.succ_lt_succ (fieldAt_lt h.2)
theorem fieldAt_lookup : ∀ {ks : List Str} {f : Str} {j : Nat} {vs : List V} {v : V}, fieldAt ks f j = true → vs[j]? = some v → (ks.zip vs).lookup f = some v
  | [], _, _, _, _, h, _ => by simp [fieldAt] at h
  | k :: r, f, 0, vs, v, h, e => by
    cases vs with
    | nil => simp at e
    | cons u us =>
      have : k = f := eq_of_beq h
      subst this
      have : u = v := by simpa using e
      subst this
      simp [List.lookup]
  | k :: r, f, j + 1, vs, v, h, e => by
    simp only [fieldAt, Bool.and_eq_true, Bool.not_eq_true'] at h
    cases vs with
    | nil => simp at e
    | cons u us =>
      rw [List.zip_cons_cons, List.lookup, h.1]
      exact fieldAt_lookup h.2 (by simpa using e)
theorem fieldAt_put : ∀ {ks : List Str} {f : Str} {vs : List V} {v : V}, fieldAt ks f vs.length = true → putF f v (ks.zip vs) = ks.zip (vs ++ [v])
  | [], _, _, _, h => by simp [fieldAt] at h
  | k :: r, f, [], v, h => by
    have : k = f := eq_of_beq h
    subst this
    simp [putF]
  | k :: r, f, u :: us, v, h => by
    have h : fieldAt (k :: r) f (us.length + 1) = true := h
    simp only [fieldAt, Bool.and_eq_true, Bool.not_eq_true'] at h
    have ne : ¬ k = f := fun e => by rw [e] at h; simp at h
    rw [List.zip_cons_cons, List.cons_append, List.zip_cons_cons]
    unfold putF
    rw [if_neg ne, fieldAt_put h.2]
/-- the fields of an instance, by place -/
def fieldsO : O → Option (Nat × List D)
  | .obj c ds => some (c, ds)
  | .bench x y _ => some (5, [x, y])
  | _ => none
def fieldsOf (E : En) : Vl → Option (Nat × List D)
  | .dat (.ins c ds) => some (c, ds)
  | .dat _ => none
  | .own o => fieldsO o
  | .loc i => match objAt E i with
    | some o => fieldsO o
    | none => none
section
variable {g : Gx} {F : Fc} {W : WX} {X : Cx} {σ : L2.St} {Hd H Hd0 H0 Hs : Hp} {w w0 : Ow} {E : En}
theorem own_fields {A : Addr → Prop} {p : Addr} {o : O} {c : Nat} {ds : List D} (h : OwnRep g Hd H A p o) (q : fieldsO o = some (c, ds)) : ∃ dx vs, H p = some (.ins (g.cA c) dx ((cFn c).zip vs)) ∧ ∀ (j : Nat) d, ds[j]? = some d → ∃ v, vs[j]? = some v ∧ Rep g Hd d v := by
  cases o with
  | lst _ => simp [fieldsO] at q
  | dct _ => simp [fieldsO] at q
  | obj c' ds' =>
    simp only [fieldsO, Option.some.injEq, Prod.mk.injEq] at q
    obtain ⟨rfl, rfl⟩ := q
    obtain ⟨_, dx, vs, h1, _, h2⟩ := h
    exact ⟨dx, vs, h1, fun j d e => h2.get e⟩
  | bench x y past =>
    simp only [fieldsO, Option.some.injEq, Prod.mk.injEq] at q
    obtain ⟨rfl, rfl⟩ := q
    obtain ⟨_, dx, vw, vb, l, vs, h1, h2, h3, _⟩ := h
    refine ⟨dx, [vw, vb, .ref l], h1, fun j d e => ?_⟩
    match j with
    | 0 => cases e; exact ⟨vw, rfl, h2⟩
    | 1 => cases e; exact ⟨vb, rfl, h3⟩
    | j + 2 => simp at e
theorem fieldsOf_ok {a : Vl} {x : V} {c : Nat} {ds : List D} (s : Sr g F Hd H E σ w) (rx : VRel g Hd H w σ Hs x a) (q : fieldsOf E a = some (c, ds)) : ∃ p dx vs, x = .ref p ∧ H p = some (.ins (g.cA c) dx ((cFn c).zip vs)) ∧ ∀ (j : Nat) d, ds[j]? = some d → ∃ v, vs[j]? = some v ∧ Rep g Hd d v := by
  cases a with
  | dat d =>
    have hd : d = .ins c ds := by
      cases d <;> simp only [fieldsOf, Option.some.injEq, Prod.mk.injEq, reduceCtorEq] at q
      rw [q.1, q.2]
    subst hd
    have r : Rep g Hd (.ins c ds) x := rx
    simp only [Rep] at r
    obtain ⟨p, dx, vs, rfl, h1, h2, h3⟩ := r
    exact ⟨p, dx, vs, rfl, s.ext _ _ h1, fun j d e => h3.get e⟩
  | own o =>
    obtain ⟨p, A, rfl, _, h⟩ := rx
    obtain ⟨dx, vs, h1, h2⟩ := own_fields h q
    exact ⟨p, dx, vs, rfl, h1, h2⟩
  | loc i =>
    simp only [fieldsOf] at q
    split at q
    · rename_i o z
      obtain ⟨p, h1, h2⟩ := objAt_slot s z
      have hx : x = .ref p := by
        have y := (show σ[i]? = some (some x) from rx).symm.trans h1
        simpa using y
      obtain ⟨dx, vs, h3, h4⟩ := own_fields h2 q
      exact ⟨p, dx, vs, hx, h3, h4⟩
    · cases q
/-! ### e.f -/
def attrM (cs : List Nat) (j : Nat) (a : Vl) : Mo Vl := fun E => match fieldsOf E a with
  | some (c, ds) => if cs.contains c = true then match ds[j]? with
      | some d => .ok (.dat d) E
      | none => .bad
    else .bad
  | none => .bad
def dAttr (cs : List Nat) (j : Nat) (f : Mo Vl) : Mo Vl := mb f (attrM cs j)
/-- what a class must have that its attribute f (place j) may be read -/
structure FldOk (g : Gx) (K : PySem.W.Frag) (f : Str) (j c : Nat) : Prop where
  cls : Cls K (g.cA c)
  no : NoAttr K (g.cA c) f
  at_ : fieldAt (cFn c) f j = true
theorem de_attr {e : Expr} {f : Str} {pos : Pos} {fo : Mo Vl} {j : Nat} (cs : List Nat) (he : PE X e (tE g W fo)) (hf : ∀ c ∈ cs, FldOk g X.K f j c) (hb : attributeBase e f X.env (eval e X.env) = eval e X.env := by rfl) : PE X (.Attribute e f pos) (tE g W (dAttr cs j fo)) := (pe_fld he hb).impF fun σ H Q ⟨F, Hd, E, w, s, p⟩ => by
  refine ⟨F, Hd, E, w, s, (PostA.bind p).imp fun a E1 Hd1 H1 w1 _ e1 s1 p1 x rx => ?_⟩
  unfold attrM at p1
  split at p1
  · rename_i c ds q
    split at p1
    · rename_i hc
      have hf' := hf c (by simpa using hc)
      split at p1
      · rename_i d hd
        obtain ⟨q1, dx, vs, rfl, h1, h2⟩ := fieldsOf_ok s1 rx q
        obtain ⟨v, h3, h4⟩ := h2 _ _ hd
        exact ⟨q1, _, dx, _, v, rfl, h1, hf'.cls, hf'.no, fieldAt_lookup hf'.at_ h3, p1.here s1 v h4⟩
      · exact p1.elim
    · exact p1.elim
  · exact p1.elim
/-! ### self.f = .., in __init__ -/
def putFld (i c j : Nat) (d : D) : Mo Fl := fun E => match objAt E i with
  | some (.obj c' ds) => if (c' == c) = true ∧ (ds.length == j) = true then .ok .next (putO E i (.obj c (ds ++ [d]))) else .bad
  | _ => .bad
def isObj (c : Nat) : Option O → Bool
  | some (.obj c' _) => c' == c
  | _ => false
def sFldF (i c j : Nat) (f : Mo Vl) : Mo Fl := mb f fun a => mb (frz a) fun d => putFld i c j d
theorem ds_fld {x f : Str} {i c j : Nat} {value : Expr} {npos pos pos' : Pos} {fv : Mo Vl} (ho : PE X (.Name x npos) (tVar i)) (hv : PE X value (tE g W fv)) (hf : FldOk g X.K f j c) (hs : swapsWith value (some (.Attribute (.Name x npos) f pos')) pos.line X.env = pure false := by rfl) : PS X (.Assign [.Attribute (.Name x npos) f pos'] value pos) (tS g W (sFldF i c j fv)) := (ps_fld ho hv hs).impF fun D σ H ⟨F, Hd, E, w, s, p⟩ => by
  refine ⟨F, Hd, E, w, s, (PostS.bind0 p).imp fun a E1 Hd1 H1 w1 _ e1 s1 p1 x rx => ?_⟩
  obtain ⟨d, E', Hd', w', _, k1, k2, k3, k4⟩ := frz_post e1 s1 rx (PostS.bind0 (σ := σ) p1)
  unfold putFld at k4
  split at k4
  · rename_i c' ds q
    split at k4
    · rename_i hc
      obtain ⟨hc1, hc2⟩ := hc
      have hc1 := eq_of_beq hc1
      have hc2 := eq_of_beq hc2
      subst hc1
      obtain ⟨p0, h1, h2, dx, vs, h3, h4, h5⟩ := objAt_slot k2 q
      have hl : j = vs.length := by rw [← h5.length]; exact hc2.symm
      have fa := hf.at_
      rw [hl] at fa
      have hlt := fieldAt_lt fa
      have c1000 : (cFn c').length < 1000 := by
        match c' with
        | 0 | 1 | 2 | 3 | 4 | 5 => decide
        | n + 6 => exact Nat.zero_lt_succ _
      refine ⟨.ref p0, h1, p0, _, dx, _, rfl, h3, hf.cls, hf.no, by rw [List.length_zip]; omega, ?_⟩
      rw [fieldAt_put fa]
      exact k4 σ Hd' _ w' (k1.trans (Eff.write h2)) (Sr.write k2 q h1 h2 ⟨h2, dx, vs ++ [x], upd_same, by rw [List.length_append, hc2, hl]; simp only [List.length_cons, List.length_nil]; omega, h5.append (RepL.one k3)⟩ (plO_ins (by assumption)))
    · exact k4.elim
  · exact k4.elim
end
end Fx

/-! FxI: constructors, methods, isinstance -/
namespace Fx
open PySem PySem.Spec PyProof.Rows L2 LamX
def newM (c : Nat) (Fn : En → Re Vl) (xs : List Vl) : Mo Vl := fun E => match callM Fn (.loc E.length :: xs) (E ++ [some (.own (.obj c []))]) with
  | .ok (.dat .non) E' => match E'[E.length]? with
    | some (some (.own o)) => .ok (.own o) (E'.take E.length)
    | _ => .bad
  | .ok _ _ => .bad
  | .exc x E' => .exc x (E'.take E.length)
  | .bad => .bad
section
variable {g : Gx} {F : Fc} {W : WX} {X : Cx} {σ : L2.St} {Hd H Hd0 H0 Hs : Hp} {w w0 : Ow} {E E0 : En}
theorem st_lt {i : Nat} {a : Addr} (s : Sr g F Hd H E σ w) (h : w a = some i) : i < E.length := by
  have z := s.st a i h
  cases q : E[i]? with
  | none => rw [q] at z; exact z.elim
  | some x => exact (List.getElem?_eq_some_iff.mp q).1
/-- the last slot is left -/
theorem Sr.cut {y : Option V} (hr : ∀ q ∈ F.rs, σ[q.1]? = some (some (.ref q.2))) (s : Sr g F Hd H E (σ ++ [y]) w) : Sr g F Hd H (E.take σ.length) σ (wOut w σ.length) := by
  have hl : E.length = σ.length + 1 := by rw [s.len, List.length_append]; rfl
  have tk : ∀ {i : Nat}, i < σ.length → (E.take σ.length)[i]? = E[i]? := fun {i} h => List.getElem?_take_of_lt h
  have lt : ∀ {i : Nat} {x : Option S}, (E.take σ.length)[i]? = some x → i < σ.length := fun {i x} h => by
    have := (List.getElem?_eq_some_iff.mp h).1
    rw [List.length_take] at this
    omega
  have sg : ∀ {i : Nat}, i < σ.length → (σ ++ [y])[i]? = σ[i]? := fun {i} h => List.getElem?_append_left h
  refine ⟨s.ext, s.dom, fun a i z => s.hdn a i (wOut_some.mp z).1, fun a i z => s.wh a i (wOut_some.mp z).1, by rw [List.length_take]; omega, fun i x e => ?_, fun a i o z e => ?_, fun q hq => ?_, fun a i z => ?_, s.tab, s.ntd, fun a i ps z => s.ntw a i ps (wOut_some.mp z).1, s.nt0⟩
  · have hi := lt e
    rw [tk hi] at e
    have k := (s.slot i x e).keep (Same.refl _) (H' := H) (w' := wOut w σ.length) (fun _ _ _ z _ => z) fun a z => wOut_some.mpr ⟨z, by omega⟩
    revert k
    unfold SlotOk
    rw [sg hi]
    exact fun k => k
  · have hi := lt e
    rw [tk hi] at e
    exact s.frs a i o (wOut_some.mp z).1 e
  · have h1 := hr q hq
    have hi : q.1 < σ.length := (List.getElem?_eq_some_iff.mp h1).1
    exact ⟨h1, by rw [tk hi]; exact (s.rk q hq).2⟩
  · obtain ⟨z1, z2⟩ := wOut_some.mp z
    have := st_lt s z1
    rw [tk (by omega)]
    exact s.st a i z1
theorem new_post {c : Nat} {Fn : En → Re Vl} {xs : List Vl} {vs : List V} {Q : VK} (s0 : Sr g F Hd0 H0 E0 σ w0) (e0 : Eff Hd0 H0 w0 Hd H w) (s : Sr g F Hd H E σ w) (r : VFam g Hd H w σ H0 vs xs)
    (p : PostA g F W σ Hd0 H0 w0 (newM c Fn xs E) fun a _ Hd' H' w' => ∀ v, VRel g Hd' H' w' σ H0 v a → Q v H') (x dx : Addr) (hx : H x = none) (hdx : H dx = none) (ne : dx ≠ x) :
    spF g (xs.length + 1) Fn (.ref x :: vs) (L2.upd (L2.upd H dx (.own x)) x (.ins (g.cA c) dx [])) (fun v H2 => v = .non ∧ Q (.ref x) H2) (fun cls d H' => W cls d σ H') := by
  have hn : E.length = σ.length := s.len
  -- the heap and the frame with the new one
  have u1 : ∀ {a : Addr} {o : HO}, H a = some o → (L2.upd (L2.upd H dx (.own x)) x (.ins (g.cA c) dx [])) a = some o := fun {a o} h => by
    rw [upd_ne (ne_of_none h hx), upd_ne (ne_of_none h hdx)]; exact h
  have u2 : ∀ {a : Addr}, H a ≠ none → (L2.upd (L2.upd H dx (.own x)) x (.ins (g.cA c) dx [])) a ≠ none := fun {a} h => by
    cases q : H a with
    | none => exact absurd q h
    | some o => rw [u1 q]; simp
  have u4 : ∀ {a : Addr} {ps : Array Value}, (L2.upd (L2.upd H dx (.own x)) x (.ins (g.cA c) dx [])) a = some (.tbl ps) → H a = some (.tbl ps) := fun {a ps} h => by
    by_cases e : a = x
    · rw [e, upd_same] at h; cases h
    · rw [upd_ne e] at h
      by_cases e2 : a = dx
      · rw [e2, upd_same] at h; cases h
      · rw [upd_ne e2] at h; exact h
  have u3 : (L2.upd (L2.upd H dx (.own x)) x (.ins (g.cA c) dx [])) x = some (.ins (g.cA c) dx []) := upd_same
  have fr0 : ∀ {a : Addr}, H a = none → H0 a = none := fun {a} h => by
    cases q : H0 a with
    | none => rfl
    | some o => exact absurd h (e0.dom a (by rw [q]; simp))
  have frF : ∀ {a : Addr}, H a = none → F.H0 a = none := fun {a} h => by
    cases q : F.H0 a with
    | none => rfl
    | some o => exact absurd h (s.dom a (by rw [q]; simp))
  have u5 : Tabs g.T (L2.upd (L2.upd H dx (.own x)) x (.ins (g.cA c) dx [])) := tab_upd (tab_upd s.tab (plO_none hdx)) (plO_none (by rw [upd_ne (Ne.symm ne)]; exact hx))
  generalize hHn : (L2.upd (L2.upd H dx (.own x)) x (.ins (g.cA c) dx [])) = Hn at u4 u5 u1 u2 u3 ⊢
  have hw : ∀ {a : Addr} {i : Nat}, w a = some i → a ≠ x := fun {a i} h e => by
    rw [e] at h; exact s.wh x i h hx
  have w1 : ∃ w1 : Ow, (∀ a i, w1 a = some i ↔ (a = x ∧ i = E.length) ∨ w a = some i) := by
    classical
    refine ⟨fun a => if a = x then some E.length else w a, fun a i => ?_⟩
    by_cases e : a = x
    · subst e
      simp only [if_true, Option.some.injEq]
      constructor
      · exact fun h => .inl ⟨trivial, h.symm⟩
      · rintro (⟨_, h⟩ | h)
        · exact h.symm
        · exact absurd rfl (hw h)
    · simp only [if_neg e]
      constructor
      · exact .inr
      · rintro (⟨h, _⟩ | h)
        · exact absurd h e
        · exact h
  obtain ⟨w1, w1s⟩ := w1
  have w1n : ∀ {a : Addr}, a ≠ x → w a = none → w1 a = none := fun {a} h1 h2 => by
    cases q : w1 a with
    | none => rfl
    | some i =>
      rcases (w1s a i).mp q with ⟨z, _⟩ | z
      · exact absurd z h1
      · rw [h2] at z; cases z
  have eL : ∀ {i : Nat}, i < E.length → (E ++ [some (S.own (.obj c []))])[i]? = E[i]? := fun h => List.getElem?_append_left h
  have sL : ∀ {i : Nat}, i < E.length → (σ ++ [some (V.ref x)])[i]? = σ[i]? := fun h => List.getElem?_append_left (by rw [← hn]; exact h)
  have eN : (E ++ [some (S.own (.obj c []))])[E.length]? = some (some (.own (.obj c []))) := by simp
  have sN : (σ ++ [some (V.ref x)])[E.length]? = some (some (.ref x)) := by rw [hn]; simp
  have s1 : Sr g F Hd Hn (E ++ [some (.own (.obj c []))]) (σ ++ [some (.ref x)]) w1 := by
    refine ⟨fun a o h => u1 (s.ext a o h), fun a h => u2 (s.dom a h), fun a i h => ?_, fun a i h => ?_, by simp [hn], fun i y e => ?_, fun a i o h e => ?_, fun q hq => ?_, fun a i h => ?_, u5, s.ntd, fun a i ps h y => ?_, fun a ps y => s.nt0 a ps (u4 y)⟩
    · rcases (w1s a i).mp h with ⟨rfl, _⟩ | h
      · exact s.ext.free hx
      · exact s.hdn a i h
    · rcases (w1s a i).mp h with ⟨rfl, _⟩ | h
      · rw [u3]; simp
      · exact u2 (s.wh a i h)
    · by_cases hi : i < E.length
      · rw [eL hi] at e
        have k := (s.slot i y e).keep (Same.refl _) (H' := Hn) (w' := w1) (fun a o _ z _ => u1 z) fun a z => (w1s a i).mpr (.inr z)
        revert k
        unfold SlotOk
        rw [sL hi]
        exact fun k => k
      · have hi' : i = E.length := by
          have := (List.getElem?_eq_some_iff.mp e).1
          rw [List.length_append] at this
          simp only [List.length_cons, List.length_nil] at this
          omega
        subst hi'
        rw [eN] at e
        cases e
        exact ⟨x, sN, (w1s x _).mpr (.inl ⟨rfl, rfl⟩), dx, [], by rw [List.zip_nil_right]; exact u3, Nat.zero_le _, RepL.nil⟩
    · rcases (w1s a i).mp h with ⟨rfl, _⟩ | h
      · exact frF hx
      · rw [eL (st_lt s h)] at e
        exact s.frs a i o h e
    · obtain ⟨y1, y2⟩ := s.rk q hq
      have hi : q.1 < E.length := by rw [hn]; exact (List.getElem?_eq_some_iff.mp y1).1
      exact ⟨by rw [sL hi]; exact y1, by rw [eL hi]; exact y2⟩
    · rcases (w1s a i).mp h with ⟨_, rfl⟩ | h
      · rw [eN]; trivial
      · rw [eL (st_lt s h)]; exact s.st a i h
    · rcases (w1s a i).mp h with ⟨rfl, _⟩ | h
      · rw [u3] at y; cases y
      · exact s.ntw a i ps h (u4 y)
  have e1 : Eff Hd0 H0 w0 Hd Hn w1 := by
    refine ⟨e0.hd, fun a o h n nt => u1 (e0.fr a o h n nt), fun a h => u2 (e0.dom a h), fun a i h => ?_, e0.hn, fun a ps h => e0.nt a ps (u4 h)⟩
    rcases (w1s a i).mp h with ⟨rfl, _⟩ | h
    · exact .inr (fr0 hx)
    · exact e0.wi a i h
  have r1 : VFam g Hd Hn w1 (σ ++ [some (.ref x)]) H0 (.ref x :: vs) (.loc E.length :: xs) := by
    obtain ⟨hl, TA, t1, t2, t3⟩ := r
    refine ⟨by simp [hl], fun k a => ∃ j, k = j + 1 ∧ TA j a, fun k a ⟨j, ek, z⟩ => ?_, fun k l a ⟨i, ei, zi⟩ ⟨j, ej, zj⟩ => by rw [ei, ej, t2 i j a zi zj], fun k y q => ?_⟩
    · subst ek
      obtain ⟨z1, z2, z3, z4, z5⟩ := t1 j a z
      exact ⟨z1, z2, w1n (fun e => z4 (by rw [e]; exact hx)) z3, u2 z4, by simpa using z5⟩
    · cases k with
      | zero =>
        simp only [List.getElem?_cons_zero, Option.some.injEq] at q
        subst q
        exact ⟨.ref x, rfl, sN⟩
      | succ k =>
        obtain ⟨u, h1, h2⟩ := t3 k y (by simpa using q)
        refine ⟨u, by simpa using h1, ?_⟩
        cases y with
        | dat _ => exact h2
        | loc i =>
          have h2 : σ[i]? = some (some u) := h2
          show (σ ++ [some (V.ref x)])[i]? = some (some u)
          rw [List.getElem?_append_left (List.getElem?_eq_some_iff.mp h2).1]; exact h2
        | own o =>
          obtain ⟨p', h3, h4⟩ := h2
          exact ⟨p', h3, h4.keep (Same.refl _) (fun a o z y _ => u1 y) fun a z _ => ⟨k, rfl, z⟩⟩
  have hr : ∀ q ∈ F.rs, σ[q.1]? = some (some (.ref q.2)) := fun q hq => (s.rk q hq).1
  have key := call_post (F := F) (σ := σ ++ [some (.ref x)]) (W := fun cls d _ H => W cls d σ H) (Fn := Fn) (Q := fun v H2 => v = .non ∧ Q (.ref x) H2) s0.dom e1 s1 r1
  refine key ?_
  have no0 : ∀ {a : Addr}, w0 a ≠ some σ.length := fun {a} h => by
    have := st_lt s0 h
    rw [s0.len] at this
    exact Nat.lt_irrefl _ this
  unfold newM at p
  revert p
  cases callM Fn (.loc E.length :: xs) (E ++ [some (.own (.obj c []))]) with
  | ok a E' =>
    intro p Hd' H' w' e' s' v rv
    cases a with
    | dat d =>
      cases d with
      | non =>
        dsimp only at p
        have hv : v = .non := by
          have : Rep g Hd' .non v := rv
          simpa only [Rep] using this
        refine ⟨hv, ?_⟩
        cases q : E'[E.length]? with
        | none => simp only [q] at p; exact p.elim
        | some y =>
          cases y with
          | none => simp only [q] at p; exact p.elim
          | some y =>
            cases y with
            | own o =>
              simp only [q] at p
              obtain ⟨p1, h1, h2⟩ := s'.slot _ _ q
              rw [sN] at h1
              cases h1
              rw [hn] at h2 q p
              refine p Hd' H' (wOut w' σ.length) (e'.trans Eff.out) (Sr.cut hr s') (.ref x) ⟨x, fun a => w' a = some σ.length, rfl, fun a z => ⟨?_, s'.hdn a _ z, ?_, s'.wh a _ z⟩, h2⟩
              · rcases e'.wi a _ z with u | u
                · exact absurd u no0
                · exact u
              · cases y : wOut w' σ.length a with
                | none => rfl
                | some j =>
                  obtain ⟨z1, z2⟩ := wOut_some.mp y
                  rw [z] at z1
                  exact absurd (Option.some.inj z1).symm z2
            | _ => simp only [q] at p; exact p.elim
      | _ => exact p.elim
    | _ => exact p.elim
  | exc y E' =>
    intro p cls d Hd' H' w' e' s' z
    dsimp only at p
    rw [hn] at p
    exact p cls d Hd' H' (wOut w' σ.length) (e'.trans Eff.out) (Sr.cut hr s') z
  | bad => exact fun p => p
end
section
variable {g : Gx} {W : WX} {X : Cx} {CX : CXT} {k n : Nat} {f C : Addr} {fd : FuncData} {ps ks : List Str} {sp : Sp} {Ex : L2.St → XK} {x m : Str} {p pos apos : Pos} {e o : Expr} {es : List Expr} {kws : List Keyword} {t tk : TA} {dvs : List V} {dz : List Value} {gg : List Value → List Value → List Value} {gV : List V → List V → List V}
def tMakeS (C : Addr) (sp : Sp) (dvs : List V) (Ex : L2.St → XK) (t : TA) : TE := fun σ H Q => t σ H fun vs H1 => ∀ x dx, H1 x = none → H1 dx = none → dx ≠ x →
  sp (.ref x :: (vs ++ dvs)) (L2.upd (L2.upd H1 dx (.own x)) x (.ins C dx [])) (fun v H2 => v = .non ∧ Q (.ref x) H2) (Ex σ)
theorem run_makeS {pins : List (Addr × Obj)} {σ : L2.St} {H : Hp} {s : Shared} {Q : VK} {us : List Value} {vs : List V} (M : Mk X.K C f) (F : FnOk X.prog X.w X.K X.mg X.base CX k f fd ps sp) (hr : Room (k + 1) X.A) (hb : Binds X.K fd ps dz) (hd : Vals dvs dz)
    (hx : PassesAt CX X σ (Ex σ)) (I : Inv X pins σ H s) (r : Vals vs us)
    (h : ∀ x dx, H x = none → H dx = none → dx ≠ x → sp (.ref x :: (vs ++ dvs)) (L2.upd (L2.upd H dx (.own x)) x (.ins C dx [])) (fun v H2 => v = .non ∧ Q (.ref x) H2) (Ex σ)) :
    wpAny (model X.prog X.w) X.A (call (.ref C) us) (EP X pins σ Q) X.xe s := by
  have hq := h (s.heap.objs.size + 1) s.heap.objs.size (I.hok.fresh (Nat.le_succ _)) (I.hok.fresh (Nat.le_refl _)) (Nat.ne_of_lt (Nat.lt_succ_self _))
  have I2 := Inv.made (C := C) I
  have r2 : Vals (V.ref (s.heap.objs.size + 1) :: (vs ++ dvs)) (Value.ref (s.heap.objs.size + 1) :: (us ++ dz)) := .cons rfl (r.append hd)
  have hl : (Value.ref (s.heap.objs.size + 1) :: us ++ dz).length = ps.length := by
    have e := r2.length
    rw [F.len _ _ _ _ hq] at e
    exact e.symm
  refine wpAny_call (make_map (f := f) I.kIn M.makes M.init (beq_iff_eq.mp M.fn) (codeAny_mono (F.run _ X.stack _ _ ⟨Value.ref (s.heap.objs.size + 1) :: us, []⟩ (Value.ref (s.heap.objs.size + 1) :: (us ++ dz)) _ _ (Ex σ) (hr.make C us [])
    (I2.env0.make C us []) (hb _ (Value.ref (s.heap.objs.size + 1) :: us) I2.kIn hl) r2 hq) fun r s' hq' => ?_))
  cases r with
  | error e => exact hx pins _ _ e s' I2 hq'
  | ok fl =>
    cases fl with
    | ret u =>
      obtain ⟨v, H', I3, rv, ev, q3⟩ := I2.after hq'
      subst ev
      exact ⟨rv, ⟨V.ref (s.heap.objs.size + 1), H', I3, rfl, q3⟩⟩
    | next => exact False.elim hq'
    | brk => exact False.elim hq'
    | cont => exact False.elim hq'
theorem pe_makeS (M : Mk X.K C f) (F : FnOk X.prog X.w X.K X.mg X.base CX k f fd ps sp) (hr : Room (k + 1) X.A) (hg : Gl X x) (hm : X.mg x = some (.ref C)) (hb : Binds X.K fd ps dz) (hd : Vals dvs dz) (hx : ∀ σ, PassesAt CX X σ (Ex σ))
    (ha : PA X (e :: es) t) (hdb : (x == ("__debug__" : Str)) = false := by decide) (he : starEach (e :: es) X.env = (false, eval e X.env) :: starEach es X.env := by rfl) (hpl : (backTo pos (starEach es X.env)).any (·.1) = false := by rfl) :
    PE X (.Call (.Name x p) (e :: es) [] pos) (tMakeS C sp dvs Ex t) := by
  refine ⟨fun pins s σ H Q I h => ?_⟩
  refine wpAny_Call_Name_kw (ld_glob I hg hm ?_ hdb)
  refine PySem.W.callWith_K (h₀ := X.base) I.ok.mod.kin M.kp (thn (ha.run pos pins s σ H _ I h) fun us s1 ⟨vs, H1, I1, r, q⟩ => ⟨I1.kIn, ?_⟩) he hpl
  exact run_makeS M F hr hb hd (hx σ) I1 r q
/-- .. with keywords: n positional values -/
def tMakeKS (C : Addr) (n m : Nat) (sp : Sp) (gV : List V → List V → List V) (Ex : L2.St → XK) (t tk : TA) : TE := fun σ H Q => t σ H fun vs H1 => tk σ H1 fun zs H2 => vs.length = n ∧ zs.length = m ∧ ∀ x dx, H2 x = none → H2 dx = none → dx ≠ x →
  sp (gV (.ref x :: vs) zs) (L2.upd (L2.upd H2 dx (.own x)) x (.ins C dx [])) (fun v H3 => v = .non ∧ Q (.ref x) H3) (Ex σ)
theorem run_makeKS {pins : List (Addr × Obj)} {σ : L2.St} {H : Hp} {s : Shared} {Q : VK} {us ws : List Value} {vs zs : List V} (M : Mk X.K C f) (F : FnOk X.prog X.w X.K X.mg X.base CX k f fd ps sp) (hr : Room (k + 1) X.A) (hb : KBn X.K fd ps (n + 1) ks gg gV) (hx : PassesAt CX X σ (Ex σ))
    (I : Inv X pins σ H s) (r : Vals vs us) (rz : Vals zs ws) (l1 : vs.length = n) (l2 : zs.length = ks.length)
    (h : ∀ x dx, H x = none → H dx = none → dx ≠ x → sp (gV (.ref x :: vs) zs) (L2.upd (L2.upd H dx (.own x)) x (.ins C dx [])) (fun v H2 => v = .non ∧ Q (.ref x) H2) (Ex σ)) :
    wpAny (model X.prog X.w) X.A (call (.ref C) us (ks.zip ws)) (EP X pins σ Q) X.xe s := by
  have hq := h (s.heap.objs.size + 1) s.heap.objs.size (I.hok.fresh (Nat.le_succ _)) (I.hok.fresh (Nat.le_refl _)) (Nat.ne_of_lt (Nat.lt_succ_self _))
  have I2 := Inv.made (C := C) I
  have r1 : Vals (V.ref (s.heap.objs.size + 1) :: vs) (Value.ref (s.heap.objs.size + 1) :: us) := .cons rfl r
  have r2 := hb.rel r1 rz
  have n1 : (Value.ref (s.heap.objs.size + 1) :: us).length = n + 1 := by
    rw [List.length_cons, ← r.length, l1]
  refine wpAny_call (make_map (f := f) I.kIn M.makes M.init (beq_iff_eq.mp M.fn) (codeAny_mono (F.run _ X.stack _ _ ⟨Value.ref (s.heap.objs.size + 1) :: us, ks.zip ws⟩ (gg (Value.ref (s.heap.objs.size + 1) :: us) ws) _ _ (Ex σ) (hr.make C us (ks.zip ws))
    (I2.env0.make C us (ks.zip ws)) (hb.to _ (Value.ref (s.heap.objs.size + 1) :: us) ws I2.kIn n1 (rz.length.symm.trans l2)) r2 hq) fun r s' hq' => ?_))
  cases r with
  | error e => exact hx pins _ _ e s' I2 hq'
  | ok fl =>
    cases fl with
    | ret u =>
      obtain ⟨v, H', I3, rv, ev, q3⟩ := I2.after hq'
      subst ev
      exact ⟨rv, ⟨V.ref (s.heap.objs.size + 1), H', I3, rfl, q3⟩⟩
    | next => exact False.elim hq'
    | brk => exact False.elim hq'
    | cont => exact False.elim hq'
theorem pe_makeKS (M : Mk X.K C f) (F : FnOk X.prog X.w X.K X.mg X.base CX k f fd ps sp) (hr : Room (k + 1) X.A) (hg : Gl X x) (hm : X.mg x = some (.ref C)) (hb : KBn X.K fd ps (n + 1) ks gg gV) (hx : ∀ σ, PassesAt CX X σ (Ex σ)) (ha : PA X (e :: es) t) (hkw : PK X kws tk)
    (hall : (backToKw pos (keywordEach kws X.env)).all (·.1.isSome) = true := by rfl) (hks : (backToKw pos (keywordEach kws X.env)).filterMap (·.1) = ks := by rfl) (hdb : (x == ("__debug__" : Str)) = false := by decide)
    (he : starEach (e :: es) X.env = (false, eval e X.env) :: starEach es X.env := by rfl) (hpl : ((backTo pos (starEach (e :: es) X.env)).any (·.1) || (backToKw pos (keywordEach kws X.env)).any (·.1.isNone)) = false := by rfl) :
    PE X (.Call (.Name x p) (e :: es) kws pos) (tMakeKS C n ks.length sp gV Ex t tk) := by
  refine ⟨fun pins s σ H Q I h => ?_⟩
  refine wpAny_Call_Name_kw (ld_glob I hg hm ?_ hdb)
  refine PySem.W.callWith_KW (h₀ := X.base) I.ok.mod.kin M.kp hall (thn (ha.run pos pins s σ H _ I h) fun us s1 ⟨vs, H1, I1, r, q⟩ => ?_) hpl he
  refine thn (hkw.run pos pins s1 σ H1 _ I1 q) fun ws s2 ⟨zs, H2, I2, rz, l1, l2, q2⟩ => ⟨I2.kIn, ?_⟩
  rw [hks]
  exact run_makeKS M F hr hb (hx σ) I2 r rz l1 l2 q2

/-! ### by values -/
/-- data behind the values -/
theorem VFam.dats {Hd H Hs : Hp} {w : Ow} {σ : L2.St} {vs us : List V} {xs : List Vl} {ds : List D} (r : VFam g Hd H w σ Hs vs xs) (rd : RepL g Hd ds us) : VFam g Hd H w σ Hs (vs ++ us) (xs ++ ds.map .dat) := by
  obtain ⟨hl, TA, t1, t2, t3⟩ := r
  refine ⟨by simp [hl, rd.length], TA, fun k a z => ?_, t2, fun k x q => ?_⟩
  · obtain ⟨z1, z2, z3, z4, o, z5⟩ := t1 k a z
    exact ⟨z1, z2, z3, z4, o, by rw [List.getElem?_append_left (List.getElem?_eq_some_iff.mp z5).1]; exact z5⟩
  · by_cases hk : k < xs.length
    · rw [List.getElem?_append_left hk] at q
      obtain ⟨v, h1, h2⟩ := t3 k x q
      exact ⟨v, by rw [List.getElem?_append_left (List.getElem?_eq_some_iff.mp h1).1]; exact h1, h2⟩
    · rw [List.getElem?_append_right (by omega), List.getElem?_map] at q
      obtain ⟨d, hd, rfl⟩ := Option.map_eq_some_iff.mp q
      obtain ⟨v, h1, h2⟩ := rd.get hd
      exact ⟨v, by rw [List.getElem?_append_right (by omega), hl]; exact h1, h2⟩
theorem VFam.eff {Hd H Hd' H' Hs : Hp} {w w' : Ow} {σ : L2.St} {vs : List V} {xs : List Vl} (e : Eff Hd H w Hd' H' w') (r : VFam g Hd H w σ Hs vs xs) : VFam g Hd' H' w' σ Hs vs xs := by
  obtain ⟨hl, TA, t1, t2, t3⟩ := r
  refine ⟨hl, TA, fun k a z => ?_, t2, fun k x q => ?_⟩
  · obtain ⟨z1, z2, z3, z4, z5⟩ := t1 k a z
    refine ⟨z1, ?_, ?_, e.dom a z4, z5⟩
    · cases q : Hd' a with
      | none => rfl
      | some u =>
        rcases e.hn a (by rw [q]; simp) with y | y | y
        · exact absurd z2 y
        · exact absurd z3 y
        · exact absurd y z4
    · cases q : w' a with
      | none => rfl
      | some u =>
        rcases e.wn a (by rw [q]; simp) with y | y
        · exact absurd z3 y
        · exact absurd y z4
  · obtain ⟨v, h1, h2⟩ := t3 k x q
    refine ⟨v, h1, ?_⟩
    cases x with
    | dat d => exact Rep.mono e.hd d h2
    | loc _ => exact h2
    | own o =>
      obtain ⟨p', h3, h4⟩ := h2
      exact ⟨p', h3, h4.keep e.hd (fun a o x y nt => e.fr a o y (t1 k a x).2.2.1 nt) fun _ x _ => x⟩
def dNew (c : Nat) (Fn : En → Re Vl) (dd : List D) (args : Mo (List Vl)) : Mo Vl := mb args fun xs => newM c Fn (xs ++ dd.map .dat)
def dNewK (c : Nat) (Fn : En → Re Vl) (args : Mo (List Vl)) (kw : Mo (List D)) : Mo Vl := mb args fun xs => mb kw fun ds => newM c Fn (xs ++ ds.map .dat)
theorem tE_new {c : Nat} {Fn : En → Re Vl} {dd : List D} {args : Mo (List Vl)} {n : Nat} (hn : ArgLen n args) (rd : ∀ H, RepL g H dd dvs) : ∀ σ H Q, tE g W (dNew c Fn dd args) σ H Q → tMakeS (g.cA c) (spF g (n + dd.length + 1) Fn) dvs (WE W) (tV g W args) σ H Q := by
  rintro σ H Q ⟨F, Hd, E, w, s, p⟩
  refine ⟨F, Hd, E, w, s, (PostA.bind0 p).imp fun xs E1 Hd1 H1 w1 hx e1 s1 p1 vs r x dx h1 h2 h3 => ?_⟩
  have l : (xs ++ dd.map Vl.dat).length = n + dd.length := by rw [List.length_append, List.length_map, hn E xs E1 hx]
  have q := new_post (Q := Q) s e1 s1 (r.dats (rd Hd1)) p1 x dx h1 h2 h3
  rw [l] at q
  exact q
theorem de_new {c : Nat} {Fn : En → Re Vl} {dd : List D} {args : Mo (List Vl)} {n : Nat} (M : Mk X.K (g.cA c) f) (F : FnOk X.prog X.w X.K X.mg X.base (L2.CX X.prog X.w) k f fd ps (spF g (n + dd.length + 1) Fn)) (hr : Room (k + 1) X.A) (hg : Gl X x) (hm : X.mg x = some (.ref (g.cA c))) (hb : Binds X.K fd ps dz) (hd : Vals dvs dz) (rd : ∀ H, RepL g H dd dvs) (tk : Takes X W)
    (ha : PA X (e :: es) (tV g W args)) (hn : ArgLen n args) (hdb : (x == ("__debug__" : Str)) = false := by decide) (he : starEach (e :: es) X.env = (false, eval e X.env) :: starEach es X.env := by rfl) (hpl : (backTo pos (starEach es X.env)).any (·.1) = false := by rfl) :
    PE X (.Call (.Name x p) (e :: es) [] pos) (tE g W (dNew c Fn dd args)) := (pe_makeS M F hr hg hm hb hd (passAt tk) ha hdb he hpl).impF (tE_new hn rd)
def DLen (n : Nat) (f : Mo (List D)) : Prop := ∀ E xs E', f E = .ok xs E' → xs.length = n
theorem dLen_nil : DLen 0 eNil := fun E xs E' h => by cases h; rfl
theorem dLen_cons {n : Nat} {f : Mo Vl} {r : Mo (List D)} (h : DLen n r) : DLen (n + 1) (eCons f r) := fun E xs E' q => by
  unfold eCons mb at q
  split at q
  · dsimp only at q
    split at q
    · split at q
      · rename_i hy
        cases q
        rw [List.length_cons, h _ _ _ hy]
      · cases q
      · cases q
    · cases q
    · cases q
  · cases q
  · cases q
theorem _root_.L2.PK.impF {X : Cx} {kws : List Keyword} {t t' : TA} (h : PK X kws t) (k : ∀ σ H Q, t' σ H Q → t σ H Q) : PK X kws t' := ⟨fun p pins s σ H Q I q => h.run p pins s σ H Q I (k σ H Q q)⟩
theorem dk_nil : PK X [] (tD g W eNil) := pk_nil.impF fun σ H Q ⟨F, Hd, E, w, s, p⟩ => p.here s [] RepL.nil
theorem tD_cons {f : Mo Vl} {r : Mo (List D)} : ∀ σ H Q, tD g W (eCons f r) σ H Q → tCons (tE g W f) (tD g W r) σ H Q := fun σ H Q ⟨F, Hd, E, w, s, p⟩ => by
  refine ⟨F, Hd, E, w, s, (PostA.bind0 p).imp fun a E1 Hd1 H1 w1 _ e1 s1 p1 x rx => ?_⟩
  obtain ⟨d, E', Hd', w', _, k1, k2, k3, k4⟩ := frz_post e1 s1 rx (PostA.bind0 p1)
  refine ⟨F, Hd', E', w', k2, (PostA.bind (k4.shift k1)).imp fun ds E2 Hd2 H2 w2 _ e2 s2 p2 vs rvs => ?_⟩
  exact p2.here s2 (x :: vs) (RepL.cons (k3.mono e2.hd) rvs)
theorem dk_cons {e : Expr} {nm : Option Str} {kpos : Pos} {kws : List Keyword} {f : Mo Vl} {r : Mo (List D)} (h : PE X e (tE g W f)) (hr : PK X kws (tD g W r)) : PK X (⟨nm, e, kpos⟩ :: kws) (tD g W (eCons f r)) := (pk_cons h hr).impF tD_cons
theorem tE_newK {c : Nat} {Fn : En → Re Vl} {args : Mo (List Vl)} {kw : Mo (List D)} {n m : Nat} (hn : ArgLen n args) (hm : DLen m kw) (hg : ∀ vs zs, gV vs zs = vs ++ zs) : ∀ σ H Q, tE g W (dNewK c Fn args kw) σ H Q → tMakeKS (g.cA c) n m (spF g (n + m + 1) Fn) gV (WE W) (tV g W args) (tD g W kw) σ H Q := by
  rintro σ H Q ⟨F, Hd, E, w, s, p⟩
  refine ⟨F, Hd, E, w, s, (PostA.bind0 p).imp fun xs E1 Hd1 H1 w1 hx e1 s1 p1 vs r => ?_⟩
  refine ⟨F, Hd1, E1, w1, s1, ((PostA.bind0 p1).shift e1).imp fun ds E2 Hd2 H2 w2 hy e2 s2 p2 zs rz => ?_⟩
  have l1 := hn E xs E1 hx
  have l2 := hm E1 ds E2 hy
  refine ⟨by rw [r.1]; exact l1, by rw [← rz.length]; exact l2, fun x dx h1 h2 h3 => ?_⟩
  have l : (xs ++ ds.map Vl.dat).length = n + m := by rw [List.length_append, List.length_map, l1, l2]
  have q := new_post (Q := Q) s (e1.trans e2) s2 ((VFam.eff e2 r).dats rz) p2 x dx h1 h2 h3
  rw [l] at q
  rw [hg, List.cons_append]
  exact q
theorem de_newK {c : Nat} {Fn : En → Re Vl} {args : Mo (List Vl)} {kw : Mo (List D)} {n : Nat} (M : Mk X.K (g.cA c) f) (F : FnOk X.prog X.w X.K X.mg X.base (L2.CX X.prog X.w) k f fd ps (spF g (n + ks.length + 1) Fn)) (hr : Room (k + 1) X.A) (hg : Gl X x) (hm : X.mg x = some (.ref (g.cA c))) (hb : KBn X.K fd ps (n + 1) ks gg gV) (hgV : ∀ vs zs, gV vs zs = vs ++ zs) (tk : Takes X W)
    (ha : PA X (e :: es) (tV g W args)) (hn : ArgLen n args) (hkw : PK X kws (tD g W kw)) (hkn : DLen ks.length kw) (hall : (backToKw pos (keywordEach kws X.env)).all (·.1.isSome) = true := by rfl) (hks : (backToKw pos (keywordEach kws X.env)).filterMap (·.1) = ks := by rfl) (hdb : (x == ("__debug__" : Str)) = false := by decide)
    (he : starEach (e :: es) X.env = (false, eval e X.env) :: starEach es X.env := by rfl) (hpl : ((backTo pos (starEach (e :: es) X.env)).any (·.1) || (backToKw pos (keywordEach kws X.env)).any (·.1.isNone)) = false := by rfl) :
    PE X (.Call (.Name x p) (e :: es) kws pos) (tE g W (dNewK c Fn args kw)) := (pe_makeKS M F hr hg hm hb (passAt tk) ha hkw hall hks hdb he hpl).impF (tE_newK hn hkn hgV)

/-! ### isinstance -/
inductive Ty where
  | non | bl | int | str | tup | lst | dct | ins (c : Nat)
def tyD : D → Ty
  | .non => .non
  | .bl _ => .bl
  | .int _ => .int
  | .str _ => .str
  | .tup _ => .tup
  | .lst _ => .lst
  | .scr _ => .lst
  | .dic _ => .dct
  | .cls _ => .non
  | .dbt => .dct
  | .ins c _ => .ins c
def tyO : O → Ty
  | .lst _ => .lst
  | .dct _ => .dct
  | .obj c _ => .ins c
  | .bench _ _ _ => .ins 5
def tyOf (E : En) : Vl → Option Ty
  | .dat (.scr _) => none
  | .dat (.dic _) => none
  | .dat (.cls _) => none
  | .dat d => some (tyD d)
  | .own o => some (tyO o)
  | .loc i => (objAt E i).map tyO
def tyV' (g : Gx) : Ty → Value
  | .non => .type "NoneType"
  | .bl => .type "bool"
  | .int => .type "int"
  | .str => .type "str"
  | .tup => .type "tuple"
  | .lst => .type "list"
  | .dct => .type "dict"
  | .ins c => .ref (g.cA c)
/-- what a class needs to be seen as an instance's type -/
structure InsOk (K : PySem.W.Frag) (C : Addr) : Prop where
  cls : Cls K C
  ha : PySem.W.findIn K (.ref C) "__class__" = some (some (.builtin "object.__class__"))
  hn : PySem.W.specialIn K (.builtin "object.__class__") "__get__" = some (some (.builtin "getset_descriptor.__get__"))
  htk : PySem.W.takesIn K (.builtin "object.__class__") = some true
  hm : PySem.W.mroIn K C (.type "object") = some true
theorem tyOf_own {A : Addr → Prop} {F : Fc} {Hd H : Hp} {o : O} {p : Addr} {cs : List Nat} (hI : ∀ c ∈ cs, InsOk X.K (g.cA c)) (h : OwnRep g Hd H A p o) (ok : ∀ c, tyO o = .ins c → c ∈ cs) : TyX X.K H (.ref p) (tyV' g (tyO o)) := by
  cases o with
  | lst _ => obtain ⟨_, vs, h1, _⟩ := h; exact .base (.lst h1)
  | dct _ => obtain ⟨_, vs, h1, _⟩ := h; exact .base (.dK h1)
  | obj c _ =>
    obtain ⟨_, dx, vs, h1, _⟩ := h
    have i := hI c (ok c rfl)
    exact .base (.ins h1 i.cls i.ha i.hn i.htk i.hm)
  | bench _ _ _ =>
    obtain ⟨_, dx, vw, vb, l, vs, h1, _⟩ := h
    have i := hI 5 (ok 5 rfl)
    exact .base (.ins h1 i.cls i.ha i.hn i.htk i.hm)
theorem tyOf_ok {F : Fc} {σ : L2.St} {Hd H Hs : Hp} {w : Ow} {E : En} {a : Vl} {x : V} {t : Ty} {cs : List Nat} (s : Sr g F Hd H E σ w) (hI : ∀ c ∈ cs, InsOk X.K (g.cA c)) (rx : VRel g Hd H w σ Hs x a) (q : tyOf E a = some t) (ok : ∀ c, t = .ins c → c ∈ cs) : TyX X.K H x (tyV' g t) := by
  cases a with
  | dat d =>
    have r : Rep g H d x := Rep.mono s.ext d rx
    cases d with
    | scr _ => simp [tyOf] at q
    | dic _ => simp [tyOf] at q
    | cls _ => simp [tyOf] at q
    | dbt =>
      cases q
      simp only [Rep] at r
      obtain ⟨p, rfl, r | ⟨od, r⟩⟩ := r
      · exact .base (.dK r)
      · exact .fDict r
    | non => cases q; simp only [Rep] at r; subst r; exact .base .non
    | bl b => cases q; simp only [Rep] at r; subst r; exact .base (.bl b)
    | int b => cases q; simp only [Rep] at r; subst r; exact .base (.int b)
    | str b => cases q; simp only [Rep] at r; subst r; exact .base (.str b)
    | tup ds => cases q; simp only [Rep] at r; obtain ⟨p, vs, rfl, h1, _⟩ := r; exact .base (.tup h1)
    | lst ds => cases q; simp only [Rep] at r; obtain ⟨p, vs, rfl, h1, _⟩ := r; exact .base (.lst h1)
    | ins c ds =>
      cases q
      simp only [Rep] at r
      obtain ⟨p, dx, vs, rfl, h1, _⟩ := r
      have i := hI c (ok c rfl)
      exact .base (.ins h1 i.cls i.ha i.hn i.htk i.hm)
  | own o =>
    cases q
    obtain ⟨p, A, rfl, _, h⟩ := rx
    exact tyOf_own (F := F) hI h ok
  | loc i =>
    obtain ⟨o, ho, rfl⟩ := Option.map_eq_some_iff.mp q
    obtain ⟨p, h1, h2⟩ := objAt_slot s ho
    have hx : x = .ref p := by
      have y := (show σ[i]? = some (some x) from rx).symm.trans h1
      simpa using y
    subst hx
    exact tyOf_own (F := F) hI h2 ok
/-- isinstance(e, c): fb answers by the type -/
def isiM (fb : Ty → Option Bool) (a : Vl) : Mo Vl := fun E => match tyOf E a with
  | some t => match fb t with
    | some b => .ok (.dat (.bl b)) E
    | none => .bad
  | none => .bad
def dIsi (fb : Ty → Option Bool) (f : Mo Vl) : Mo Vl := mb f (isiM fb)
/-- the answers are those of the kit -/
def IsiOk (g : Gx) (K : PySem.W.Frag) (fb : Ty → Option Bool) (us : List Value) : Prop := ∀ t b, fb t = some b → PySem.W.kitAny K (tyV' g t) us = some b ∧ ∀ c, t = .ins c → InsOk K (g.cA c)
theorem isi_one {K : PySem.W.Frag} {t u : Value} {b : Bool} (h : PySem.W.kitAny K t [u] = some b) : PySem.W.kitOne K t u = some b := by
  unfold PySem.W.kitAny at h
  split at h
  · rename_i q; cases h; exact q
  · rename_i q
    have : PySem.W.kitAny K t [] = some b := h
    unfold PySem.W.kitAny at this
    cases this
    exact q
  · cases h
theorem any_one {K : PySem.W.Frag} {t u : Value} {b : Bool} (h : PySem.W.kitOne K t u = some b) : PySem.W.kitAny K t [u] = some b := by
  unfold PySem.W.kitAny
  rw [h]
  cases b <;> rfl
theorem dIsi_post {F : Fc} {σ : L2.St} {Hd H H0 : Hp} {w : Ow} {E : En} {a : Vl} {x : V} {fb : Ty → Option Bool} {us : List Value} {Q : VK} (hu : IsiOk g X.K fb us) (s : Sr g F Hd H E σ w) (rx : VRel g Hd H w σ H0 x a)
    (p : PostA g F W σ Hd H w (isiM fb a E) fun a _ Hd' H' w' => ∀ v, VRel g Hd' H' w' σ H0 v a → Q v H') : ∃ t b, TyX X.K H x t ∧ PySem.W.kitAny X.K t us = some b ∧ Q (.bl b) H := by
  unfold isiM at p
  split at p
  · rename_i t q
    split at p
    · rename_i b hb
      obtain ⟨h1, h2⟩ := hu t b hb
      have hI : ∀ c ∈ (match t with | .ins c => [c] | _ => []), InsOk X.K (g.cA c) := fun c hc => by
        cases t <;> simp at hc
        subst hc
        exact h2 _ rfl
      exact ⟨_, _, tyOf_ok s hI rx q (fun c e => by subst e; exact List.mem_singleton_self _), h1, p.here s _ (by show Rep g Hd (.bl b) (.bl b); exact rep_bl)⟩
    · exact p.elim
  · exact p.elim
/-- isinstance(e, c), c a name -/
theorem de_isi {a c : Expr} {pp pos : Pos} {fo : Mo Vl} {cv : V} {cu : Value} {fb : Ty → Option Bool} (hg : Gl X "isinstance") (hm : X.mg "isinstance" = none) (hu : IsiOk g X.K fb [cu]) (k : ClsV cv cu) (ha : PE X a (tE g W fo)) (hc : PE X c (tC cv))
    (hv : bootBuiltins "isinstance" = some (.builtin "isinstance") := by rfl) (he : starEach (a :: [c]) X.env = (false, eval a X.env) :: starEach [c] X.env := by rfl) (hc2 : starEach (c :: []) X.env = (false, eval c X.env) :: starEach [] X.env := by rfl) (hpl : (backTo pos (starEach [c] X.env)).any (·.1) = false := by rfl) :
    PE X (.Call (.Name "isinstance" pp) [a, c] [] pos) (tE g W (dIsi fb fo)) := (pe_callB call_isi hg hm hv (pa_cons ha (pa_cons hc pa_nil hc2) he) (by decide) (by decide) he hpl).impF fun σ H Q ⟨F, Hd, E, w, s, p⟩ => by
  refine ⟨F, Hd, E, w, s, (PostA.bind p).imp fun v E1 Hd1 H1 w1 _ e1 s1 p1 x rx => ?_⟩
  obtain ⟨t, b, h1, h2, h3⟩ := dIsi_post hu s1 rx p1
  exact ⟨x, cv, t, cu, b, rfl, k, h1, isi_one h2, h3⟩
/-- isinstance(e, (c1, c2)) -/
theorem de_isi2 {a c1 c2 : Expr} {pp pos tpos : Pos} {tk : Nat} {fo : Mo Vl} {cv1 cv2 : V} {cu1 cu2 : Value} {fb : Ty → Option Bool} (hg : Gl X "isinstance") (hm : X.mg "isinstance" = none) (hu : IsiOk g X.K fb [cu1, cu2]) (k1 : ClsV cv1 cu1) (k2 : ClsV cv2 cu2) (ha : PE X a (tE g W fo)) (hc1 : PE X c1 (tC cv1)) (hc2 : PE X c2 (tC cv2))
    (hv : bootBuiltins "isinstance" = some (.builtin "isinstance") := by rfl) (he : starEach (a :: [.Tuple [c1, c2] tk tpos]) X.env = (false, eval a X.env) :: starEach [.Tuple [c1, c2] tk tpos] X.env := by rfl) (he2 : starEach (.Tuple [c1, c2] tk tpos :: []) X.env = (false, eval (.Tuple [c1, c2] tk tpos) X.env) :: starEach [] X.env := by rfl) (hs1 : starEach (c1 :: [c2]) X.env = (false, eval c1 X.env) :: starEach [c2] X.env := by rfl) (hs2 : starEach (c2 :: []) X.env = (false, eval c2 X.env) :: starEach [] X.env := by rfl) (hpl : (backTo pos (starEach [.Tuple [c1, c2] tk tpos] X.env)).any (·.1) = false := by rfl) :
    PE X (.Call (.Name "isinstance" pp) [a, .Tuple [c1, c2] tk tpos] [] pos) (tE g W (dIsi fb fo)) := (pe_callB call_isiT hg hm hv (pa_cons ha (pa_cons (pe_tup (pa_cons hc1 (pa_cons hc2 pa_nil hs2) hs1)) pa_nil he2) he) (by decide) (by decide) he hpl).impF fun σ H Q ⟨F, Hd, E, w, s, p⟩ => by
  refine ⟨F, Hd, E, w, s, (PostA.bind p).imp fun v E1 Hd1 H1 w1 _ e1 s1 p1 x rx => ?_⟩
  refine ⟨by show 2 ≤ sizeLine; decide, fun q hq => ?_⟩
  have G := Grow.new (o := .tup [cv1, cv2]) s1.ext hq
  have s2 := s1.grow G
  have ee := s1.eff G
  obtain ⟨t, b, h1, h2, h3⟩ := dIsi_post hu s2 (VRel.eff ee rx) (p1.shift ee)
  exact ⟨x, q, _, t, _, b, rfl, upd_same, .cons k1 (.cons k2 .nil), h1, h2, h3⟩
/-- a built-in class; answers for built-in types -/
def fbB (T : String) : Ty → Option Bool
  | .non => kitB "NoneType" T
  | .bl => kitB "bool" T
  | .int => kitB "int" T
  | .str => kitB "str" T
  | .tup => kitB "tuple" T
  | .lst => kitB "list" T
  | .dct => kitB "dict" T
  | .ins _ => none
def tabB (f : Ty → Bool) : Ty → Option Bool
  | .ins _ => none
  | t => some (f t)
theorem isi_tab {K : PySem.W.Frag} {T : String} {f : Ty → Bool} (h : (fbB T .non = some (f .non) ∧ fbB T .bl = some (f .bl) ∧ fbB T .int = some (f .int) ∧ fbB T .str = some (f .str) ∧ fbB T .tup = some (f .tup) ∧ fbB T .lst = some (f .lst) ∧ fbB T .dct = some (f .dct))) : IsiOk g K (tabB f) [.type T] := by
  obtain ⟨h1, h2, h3, h4, h5, h6, h7⟩ := h
  intro t b hb
  cases t <;> simp only [tabB, Option.some.injEq, reduceCtorEq] at hb <;> subst hb <;> refine ⟨any_one (kit_ty ?_), fun c e => by cases e⟩
  · exact h1
  · exact h2
  · exact h3
  · exact h4
  · exact h5
  · exact h6
  · exact h7
/-- two built-in classes -/
theorem isi_tab2 {K : PySem.W.Frag} {T U : String} {f f1 f2 : Ty → Bool} (h1 : IsiOk g K (tabB f1) [.type T]) (h2 : IsiOk g K (tabB f2) [.type U]) (hf : ∀ t, f t = (f1 t || f2 t)) : IsiOk g K (tabB f) [.type T, .type U] := by
  intro t b hb
  have nc : ∀ c, t ≠ .ins c := fun c e => by subst e; simp [tabB] at hb
  have e : tabB f t = some (f t) := by cases t <;> first | rfl | exact absurd rfl (nc _)
  have e1 : tabB f1 t = some (f1 t) := by cases t <;> first | rfl | exact absurd rfl (nc _)
  have e2 : tabB f2 t = some (f2 t) := by cases t <;> first | rfl | exact absurd rfl (nc _)
  rw [e] at hb
  have hb := Option.some.inj hb
  have k1 := isi_one (h1 t _ e1).1
  have k2 := isi_one (h2 t _ e2).1
  refine ⟨?_, fun c q => absurd q (nc c)⟩
  unfold PySem.W.kitAny
  rw [k1]
  rw [hf] at hb
  cases q : f1 t with
  | true => rw [q] at hb; rw [← hb]; rfl
  | false =>
    rw [q] at hb
    show PySem.W.kitAny K _ [.type U] = some b
    rw [any_one k2, ← hb]
    rfl
/-- an own class, asked of its own instances alone -/
def onlyC (c : Nat) : Ty → Option Bool
  | .ins c' => if (c' == c) = true then some true else none
  | _ => none
theorem isi_own {K : PySem.W.Frag} {c : Nat} (h : InsOk K (g.cA c)) : IsiOk g K (onlyC c) [.ref (g.cA c)] := by
  intro t b hb
  cases t <;> simp only [onlyC, reduceCtorEq] at hb
  rename_i c'
  split at hb
  · rename_i e
    have e := eq_of_beq e
    subst e
    cases hb
    refine ⟨any_one ?_, fun c e => by cases e; exact h⟩
    show PySem.W.kitOne K (.ref (g.cA c')) (.ref (g.cA c')) = some true
    unfold PySem.W.kitOne
    rw [if_pos (beq_self_eq_true _)]
  · cases hb
theorem de_tyN {x : Str} {n : String} {pos : Pos} (hg : Gl X x) (hm : X.mg x = none) (hv : bootBuiltins x = some (.type n)) (hn : x ≠ "__name__" := by decide) (hd : (x == ("__debug__" : Str)) = false := by decide) : PE X (.Name x pos) (tC (.ty n)) := pe_bltn hg hm hv rfl hn hd
theorem de_clN {x : Str} {C : Addr} {pos : Pos} (hg : Gl X x) (hm : X.mg x = some (.ref C)) (hd : (x == ("__debug__" : Str)) = false := by decide) : PE X (.Name x pos) (tC (.ref C)) := pe_glob hg hm rfl hd
end
end Fx

/-! FxJ: calls on data; own ==; lists of instances compared -/
namespace GQ
open PySem PySem.SeqAt
open AutoSeq1 (wpAny_loadPart')
open MeetsSeq MeetsSeq2 MeetsSeq3 SeqRoads2
section
variable {prog : Program} {w : World} {A : Around} {R : Result → Shared → Prop}
/-- at each turn the two lists are read anew: N and M items, the i-th two compared give e i -/
def ListB (prog : Program) (w : World) (A : Around) (E : Value → Shared → Prop) (l b : Addr) (N M : Nat) (e : Nat → Bool) (I : Nat → Shared → Prop) : Prop :=
  ∀ i s, I i s → ∃ (items items2 : Array Value) (n n2 : Nat), s.heap.get? l = some { cls := .type "list", data := .seq items n } ∧ s.heap.get? b = some { cls := .type "list", data := .seq items2 n2 } ∧ items.size = N ∧ items2.size = M ∧
    ∀ (h1 : i < items.size) (h2 : i < items2.size), N = M → wpAny (model prog w) A.in1 (eqBool items[i] items2[i]) (fun r s' => r = e i ∧ I i s' ∧ (r = true → I (i + 1) s')) E s
theorem eq_loopB (l b : Addr) (N : Nat) (e : Nat → Bool) (I : Nat → Shared → Prop) (hl : ListB prog w A (fun e s' => R (.error e) s') l b N N e I)
    (fin : ∀ s, I N s → R (.ok (.ret (.bool true))) s) (fin0 : ∀ i s, i < N → e i = false → I i s → R (.ok (.ret (.bool false))) s) (k : Nat) :
    ∀ i : Nat, N - i = k → i ≤ N → ∀ s, I i s →
      wpAny (model prog w) A.in1 (Builtin.«list.__eq__.loop» ⟨[.ref l, .ref b, rawInt i, rawInt 2], []⟩) (FinOf prog w A R) (fun e s' => R (.error e) s') s := by
  induction k with
  | zero =>
    intro i hk hi s h
    obtain ⟨items, items2, n, n2, hl1, hb1, hs1, hs2, _⟩ := hl _ _ h
    have hi' : i = N := by omega
    have hR : R (.ok (.ret (.bool true))) s := fin s (hi' ▸ h)
    obtain ⟨hp, g, d, tk, os⟩ := s
    wp_walk using wpAny_loadPart' hl1, wpAny_loadPart' hb1
    have hi1 : items[((i : Nat) : Int).toNat]? = none := by simp; omega
    have hi2 : items2[((i : Nat) : Int).toNat]? = none := by simp; omega
    rw [hi1, hi2]
    wp_walk using wpAny_loadPart' hl1, wpAny_loadPart' hb1
    show R (.ok (.ret (.bool (items.size == items2.size)))) _
    rw [hs1, hs2]
    simpa using hR
  | succ k ih =>
    intro i hk hi s h
    obtain ⟨items, items2, n, n2, hl1, hb1, hs1, hs2, turn⟩ := hl _ _ h
    have hlt : i < items.size := by omega
    have hlt2 : i < items2.size := by omega
    have ht := turn hlt hlt2 rfl
    obtain ⟨hp, g, d, tk, os⟩ := s
    wp_walk using wpAny_loadPart' hl1, wpAny_loadPart' hb1
    have hi1 : items[((i : Nat) : Int).toNat]? = some items[i] := by simp [hlt]
    have hi2 : items2[((i : Nat) : Int).toNat]? = some items2[i] := by simp [hlt2]
    have hc : ((i : Int) + 1) = ((i + 1 : Nat) : Int) := by omega
    rw [hi1, hi2]
    refine wpAny_bind (wpAny_mono ht (fun r s2 h2 => ?_) fun _ _ x => x)
    obtain ⟨hr, h2, h3⟩ := h2
    cases r with
    | true =>
      have hrec := ih (i + 1) (by omega) (by omega) s2 (h3 rfl)
      obtain ⟨hp2, g2, d2, tk2, os2⟩ := s2
      wp_walk
      rw [hc]
      exact ⟨plainId_quiet plain_eq_loop _, codeAny_builtin entry_eq_loop (by
        rw [Around.under_plainId plain_eq_loop _]
        exact hrec)⟩
    | false =>
      obtain ⟨it, it2, m, m2, gl, gb, z1, z2, _⟩ := hl _ _ h2
      have hR : R (.ok (.ret (.bool false))) s2 := fin0 i s2 (by omega) hr.symm h2
      obtain ⟨hp2, g2, d2, tk2, os2⟩ := s2
      wp_walk using wpAny_loadPart' gl, wpAny_loadPart' gb
      have q1 : it[((i : Nat) : Int).toNat]? = some (it[i]'(by omega)) := by simp
      have q2 : it2[((i : Nat) : Int).toNat]? = some (it2[i]'(by omega)) := by simp
      rw [q1, q2]
      wp_walk
      simpa using hR
theorem list_eqB (l b : Addr) (N M : Nat) (e : Nat → Bool) (I : Nat → Shared → Prop) (hl : ListB prog w A (fun e s' => R (.error e) s') l b N M e I)
    (fin : N = M → ∀ s, I N s → R (.ok (.ret (.bool true))) s) (fin0 : ∀ i s, i < N → e i = false → I i s → R (.ok (.ret (.bool false))) s) (finL : N ≠ M → ∀ s, I 0 s → R (.ok (.ret (.bool false))) s) {s : Shared} (h : I 0 s) :
    wpAny (model prog w) A.in1 (Builtin.«list.__eq__» ⟨[.ref l, .ref b], []⟩) (FinOf prog w A R) (fun e s' => R (.error e) s') s := by
  obtain ⟨items, items2, n, n2, hl1, hb1, hs1, hs2, _⟩ := hl _ _ h
  by_cases hNM : N = M
  · subst hNM
    have hrec := eq_loopB (A := A) (R := R) l b N e I hl (fin rfl) fin0 _ 0 rfl (Nat.zero_le _) s h
    obtain ⟨hp, g, d, tk, os⟩ := s
    have f3 := AutoSeq1.sub_list_list
    have hne : ¬ (items.size != items2.size) = true := by simp [hs1, hs2]
    wp_walk using wpAny_loadPart' hl1, wpAny_loadPart' hb1
    exact ⟨plainId_quiet plain_eq_loop _, codeAny_builtin entry_eq_loop (by
      rw [Around.under_plainId plain_eq_loop _]
      exact hrec)⟩
  · have hR := finL hNM s h
    obtain ⟨hp, g, d, tk, os⟩ := s
    have f3 := AutoSeq1.sub_list_list
    have hne : (items.size != items2.size) = true := by simp [hs1, hs2, hNM]
    wp_walk using wpAny_loadPart' hl1, wpAny_loadPart' hb1
    exact hR
end
section
variable {prog : Program} {w : World} {A : Around} {E : Value → Shared → Prop} {s : Shared}
theorem rc_listB {l b : Addr} {N M : Nat} {Q : Value → Shared → Prop} (hu : A.units < cLine) (e : Nat → Bool) (I : Nat → Shared → Prop) (hl : ListB prog w A E l b N M e I)
    (fin : N = M → ∀ s, I N s → Q (.bool true) s) (fin0 : ∀ i s, i < N → e i = false → I i s → Q (.bool false) s) (finL : N ≠ M → ∀ s, I 0 s → Q (.bool false) s) (h : I 0 s) : wpAny (model prog w) A (richCompare .Eq (.ref l) (.ref b)) Q E s := by
  obtain ⟨items, items2, n, n2, hl1, hb1, _, _, _⟩ := hl _ _ h
  refine wpAny_richCompare_same_room (op := .Eq) ⟨_, hl1, rfl⟩ ⟨_, hb1, rfl⟩ F.slot_list_eq (call_here F.slot_list_eq ⟨_, hl1, rfl⟩ F.entry_list_eq (F.args_list_eq_2 _ _) ?_) hu
  exact list_eqB (R := wants (fun v s' => v ≠ .notImplemented ∧ Q v s') E) l b N M e I hl (fun q s' z => ⟨(fun x => nomatch x), fin q s' z⟩) (fun i s' hi he z => ⟨(fun x => nomatch x), fin0 i s' hi he z⟩) (fun q s' z => ⟨(fun x => nomatch x), finL q s' z⟩) h
end
end GQ
namespace Fx
open PySem PySem.Spec PyProof.Rows L2 LamX
section
variable {g : Gx} {W : WX} {X : Cx}
/-! ### a def called on data -/
abbrev datE (ds : List D) : En := ds.map fun d => some (.dat d)
theorem spF_data {n : Nat} {Fn : En → Re Vl} {ds : List D} {vs : List V} {Hd H : Hp} {r : D} {as' : En} {Q : VK} {Ex : XK} (e : Same Hd H) (tb : Tabs g.T H) (nd : ∀ a ps, Hd a ≠ some (.tbl ps)) (hn : ds.length = n) (rd : RepL g Hd ds vs) (h : Fn (datE ds) = .ok (.dat r) as') (k : ∀ v Hd' H', GrowS g Hd H Hd' H' → Rep g Hd' r v → Q v H') : spF g n Fn vs H Q Ex := by
  subst hn
  refine ⟨rd.length.symm, Hd, fun _ => none, datE ds, [], ⟨e, fun _ h => h, fun a i h => (nomatch h), fun a i h => (nomatch h), (by simp [rd.length]), fun i s q => ?_, fun a i o h => (nomatch h), fun q hq => (nomatch hq), fun a i h => (nomatch h), tb, nd, fun a i ps h => (nomatch h), fun a ps z => by show H a ≠ none; rw [z]; simp⟩, fun k o q => ?_, ?_, ?_⟩
  · rw [List.getElem?_map] at q
    obtain ⟨d, hd, rfl⟩ := Option.map_eq_some_iff.mp q
    obtain ⟨v, h1, h2⟩ := rd.get hd
    exact ⟨v, by rw [List.getElem?_map, h1]; rfl, h2⟩
  · rw [List.getElem?_map] at q
    obtain ⟨d, hd, q2⟩ := Option.map_eq_some_iff.mp q
    cases q2
  · rw [List.all_eq_true]
    intro s hs
    obtain ⟨d, _, rfl⟩ := List.mem_map.mp hs
    rfl
  · rw [h]
    intro v Hd' H' w' ee ss rv
    exact k v Hd' H' ⟨ee.hd, fun a o z nt => ee.fr a o z rfl nt, ee.dom, ss.ext, fun a z => (ee.hn a z).elim .inl fun u => u.elim (fun u => absurd rfl u) .inr, ee.nt, ss.tab, ss.ntd⟩ rv
abbrev NoX : XK := fun _ _ _ => False
theorem passes0 : Passes (L2.CX X.prog X.w) X NoX := fun pins σ H s e s' I c => by
  obtain ⟨_, _, _, _, _, _, _, _, _, _, _, _, z⟩ := c
  exact z.elim

/-! ### == of two instances of one class of the text -/
def rEqI (C : Addr) (sp : Sp) : R2 := fun x y H Q => ∃ a b dx dy fs gs, x = .ref a ∧ y = .ref b ∧ H a = some (.ins C dx fs) ∧ H b = some (.ins C dy gs) ∧ ∃ k : Bool, sp [x, y] H (fun v H' => v = .bl k ∧ Q v H') NoX
/-- what the class must have of its == -/
structure EqOk (K : PySem.W.Frag) (C f : Addr) (fd : FuncData) (ps : List Str) : Prop where
  at_ : PySem.W.findIn K (.ref C) "__eq__" = some (some (.ref f))
  fn : PySem.W.isFn K (.ref f) = true
  bind : Binds K fd ps []
theorem rc_ins {n : Nat} {C f : Addr} {fd : FuncData} {ps : List Str} {sp : Sp} (Fo : FnOk X.prog X.w X.K X.mg X.base (L2.CX X.prog X.w) n f fd ps sp) (ok : EqOk X.K C f fd ps) {A : Around} {pins : List (Addr × Obj)} {s : Shared} {σ : L2.St} {H : Hp} {x y : V} {u v : Value} {Q : VK} (sb : Sub X n A) (I : Inv X pins σ H s) (rx : RelV x u) (ry : RelV y v) (h : rEqI C sp x y H Q) :
    wpAny (model X.prog X.w) A (richCompare .Eq u v) (EP X pins σ Q) X.xe s := by
  obtain ⟨a, b, dx, dy, fs, gs, rfl, rfl, ha, hb', k, hsp⟩ := h
  cases rx
  cases ry
  obtain ⟨mA, J, _⟩ := ins_get I.hok ha
  obtain ⟨mB, J', _⟩ := ins_get I.hok hb'
  obtain ⟨od, J, _⟩ := J.look
  obtain ⟨od', J', _⟩ := J'.look
  obtain ⟨m, hF⟩ := I.fr
  refine PySem.W.cmp_K (op := .Eq) (tb := .ref C) sb.room.units0 hF I.ok.mod.kin J J'.type (by simp [PySem.W.notFirst]) ok.at_ ok.fn ?_
  have e0 : Env0 X.prog X.w X.K X.mg X.base A X.stack s H := by
    have e := I.env0
    exact ⟨by rw [sb.fr]; exact e.frames, e.mod, e.bs, e.bsz, e.funs, e.frf, e.hok, e.bare⟩
  have hl := Fo.len _ _ _ _ hsp
  have r2 : Vals [V.ref a, V.ref b] [Value.ref a, Value.ref b] := .cons rfl (.cons rfl .nil)
  refine wpAny_call (codeAny_mono (Fo.run A X.stack s H ⟨[.ref a, .ref b], []⟩ [.ref a, .ref b] [.ref a, .ref b] _ NoX sb.room e0 (by
    have := ok.bind s [.ref a, .ref b] I.kIn (by simpa using hl)
    simpa using this) r2 hsp) fun r s' hq => ?_)
  cases r with
  | error e => exact passes0 pins σ H s e s' I hq
  | ok fl =>
    cases fl with
    | ret w =>
      obtain ⟨z, H', I', rz, ez, ex⟩ := I.after hq
      subst ez
      have rz' := rz
      cases rz'
      exact ⟨_, H', I', rz, ex⟩
    | next => exact False.elim hq
    | brk => exact False.elim hq
    | cont => exact False.elim hq
theorem op_eqI {n : Nat} {C f : Addr} {fd : FuncData} {ps : List Str} {sp : Sp} (Fo : FnOk X.prog X.w X.K X.mg X.base (L2.CX X.prog X.w) n f fd ps sp) (ok : EqOk X.K C f fd ps) (hr : Room n X.A) : OpR X (compareOp .Eq) (rEqI C sp) := fun pins s σ H x y v u Q I rx ry h => rc_ins Fo ok ⟨hr, rfl⟩ I rx ry h
/-- as a function -/
def eqI (c : Nat) (Fn : En → Re Vl) : D → D → Option Bool
  | .ins c1 xs, .ins c2 ys => if (c1 == c && c2 == c) = true then match Fn (datE [.ins c xs, .ins c ys]) with
      | .ok (.dat (.bl b)) _ => some b
      | _ => none
    else none
  | _, _ => none
def oEqI (c : Nat) (Fn : En → Re Vl) (a b : D) : Option Vl := (eqI c Fn a b).map fun k => .dat (.bl k)
theorem eqI_of {c : Nat} {Fn : En → Re Vl} {a b : D} {k : Bool} (h : eqI c Fn a b = some k) : ∃ xs ys as', a = .ins c xs ∧ b = .ins c ys ∧ Fn (datE [a, b]) = .ok (.dat (.bl k)) as' := by
  unfold eqI at h
  split at h
  · rename_i c1 xs c2 ys
    split at h
    · rename_i hc
      rw [Bool.and_eq_true] at hc
      have e1 := eq_of_beq hc.1
      have e2 := eq_of_beq hc.2
      subst e1
      subst e2
      split at h
      · rename_i k' as' q
        cases h
        exact ⟨xs, ys, as', rfl, rfl, q⟩
      · cases h
    · cases h
  · cases h
theorem eqI_run {c : Nat} {Fn : En → Re Vl} {a b : D} {k : Bool} {x y : V} {Hd H : Hp} {Q : VK} (e : Same Hd H) (tb : Tabs g.T H) (nd : ∀ a ps, Hd a ≠ some (.tbl ps)) (ra : Rep g Hd a x) (rb : Rep g Hd b y) (h : eqI c Fn a b = some k) (q : ∀ Hd' H', GrowS g Hd H Hd' H' → Q (.bl k) H') : rEqI (g.cA c) (spF g 2 Fn) x y H Q := by
  obtain ⟨xs, ys, as', rfl, rfl, hF⟩ := eqI_of h
  have ra' := ra
  have rb' := rb
  simp only [Rep] at ra rb
  obtain ⟨p, dx, vs, rfl, h1, _⟩ := ra
  obtain ⟨p', dx', vs', rfl, h1', _⟩ := rb
  refine ⟨p, p', dx, dx', _, _, rfl, rfl, e _ _ h1, e _ _ h1', k, spF_data e tb nd rfl (RepL.cons ra' (RepL.one rb')) hF fun v Hd' H' G rv => ?_⟩
  have hv : v = .bl k := by simpa only [Rep] using rv
  exact ⟨hv, by rw [hv]; exact q Hd' H' G⟩
theorem u_eqI {c : Nat} {Fn : En → Re Vl} : U2S g (rEqI (g.cA c) (spF g 2 Fn)) (oEqI c Fn) := by
  intro Hd H x y a b u Q e tb nd ra rb q k
  unfold oEqI at q
  obtain ⟨z, hz, rfl⟩ := Option.map_eq_some_iff.mp q
  obtain ⟨xs, ys, as', rfl, rfl, hF⟩ := eqI_of hz
  refine eqI_run e tb nd (ra.dat (by intro _ z; cases z)) (rb.dat (by intro _ z; cases z)) hz fun Hd' H' G => k _ Hd' H' G ?_
  show Rep g Hd' (.bl z) (.bl z)
  exact rep_bl

/-! ### == of two lists of instances -/
mutual
theorem rep_same {Hd : Hp} : ∀ (n m : Nat) (d e : D) {v : V}, shp n d = true → shp m e = true → Rep g Hd d v → Rep g Hd e v → eqb d e = true
  | n, m, .non, e, v, _, he, r1, r2 => by
    simp only [Rep] at r1; subst r1
    cases e <;> simp only [Rep, reduceCtorEq, false_and, exists_false] at r2 <;> first | rfl | (obtain ⟨_, h, _⟩ := r2; cases h) | (obtain ⟨_, _, h, _⟩ := r2; cases h) | (obtain ⟨_, _, _, h, _⟩ := r2; cases h)
  | n, m, .bl b, e, v, _, he, r1, r2 => by
    simp only [Rep] at r1; subst r1
    cases e <;> simp only [Rep, reduceCtorEq, false_and, exists_false, V.bl.injEq] at r2 <;> simp [eqb, r2]
  | n, m, .int b, e, v, _, he, r1, r2 => by
    simp only [Rep] at r1; subst r1
    cases e <;> simp only [Rep, reduceCtorEq, false_and, exists_false, V.int.injEq] at r2 <;> simp [eqb, r2]
  | n, m, .str b, e, v, _, he, r1, r2 => by
    simp only [Rep] at r1; subst r1
    cases e <;> simp only [Rep, reduceCtorEq, false_and, exists_false, V.str.injEq] at r2 <;> simp [eqb, r2]
  | 0, _, .tup xs, e, v, hd, _, _, _ => by simp [shp] at hd
  | n + 1, m, .tup xs, e, v, hd, he, r1, r2 => by
    simp only [Rep] at r1
    obtain ⟨a, vs, rfl, h1, h2, h3⟩ := r1
    cases e with
    | tup ys =>
      simp only [Rep] at r2
      obtain ⟨a', vs', e1, h1', h2', h3'⟩ := r2
      cases e1
      rw [h1] at h1'
      cases h1'
      cases m with
      | zero => simp [shp] at he
      | succ m =>
        rw [eqb]
        exact repL_same n m xs ys (by simpa [shp] using hd) (by simpa [shp] using he) h3 h3'
    | lst ys =>
      simp only [Rep] at r2
      obtain ⟨a', vs', e1, h1', h2', h3'⟩ := r2
      cases e1
      rw [h1] at h1'
      cases h1'
    | ins c ys => cases m <;> simp [shp] at he
    | scr ys => cases m <;> simp [shp] at he
    | dic ys => cases m <;> simp [shp] at he
    | cls c => cases m <;> simp [shp] at he
    | dbt => cases m <;> simp [shp] at he
    | _ => simp only [Rep, reduceCtorEq] at r2
  | 0, _, .lst xs, e, v, hd, _, _, _ => by simp [shp] at hd
  | n + 1, m, .lst xs, e, v, hd, he, r1, r2 => by
    simp only [Rep] at r1
    obtain ⟨a, vs, rfl, h1, h2, h3⟩ := r1
    cases e with
    | lst ys =>
      simp only [Rep] at r2
      obtain ⟨a', vs', e1, h1', h2', h3'⟩ := r2
      cases e1
      rw [h1] at h1'
      cases h1'
      cases m with
      | zero => simp [shp] at he
      | succ m =>
        rw [eqb]
        exact repL_same n m xs ys (by simpa [shp] using hd) (by simpa [shp] using he) h3 h3'
    | tup ys =>
      simp only [Rep] at r2
      obtain ⟨a', vs', e1, h1', h2', h3'⟩ := r2
      cases e1
      rw [h1] at h1'
      cases h1'
    | ins c ys => cases m <;> simp [shp] at he
    | scr ys => cases m <;> simp [shp] at he
    | dic ys => cases m <;> simp [shp] at he
    | cls c => cases m <;> simp [shp] at he
    | dbt => cases m <;> simp [shp] at he
    | _ => simp only [Rep, reduceCtorEq] at r2
  | n, _, .ins c xs, e, v, hd, _, _, _ => by cases n <;> simp [shp] at hd
  | n, _, .scr xs, e, v, hd, _, _, _ => by cases n <;> simp [shp] at hd
  | n, _, .dic xs, e, v, hd, _, _, _ => by cases n <;> simp [shp] at hd
  | n, _, .cls c, e, v, hd, _, _, _ => by cases n <;> simp [shp] at hd
  | n, _, .dbt, e, v, hd, _, _, _ => by cases n <;> simp [shp] at hd
theorem repL_same {Hd : Hp} : ∀ (n m : Nat) (ds es : List D) {vs : List V}, shpL n ds = true → shpL m es = true → RepL g Hd ds vs → RepL g Hd es vs → eqbL ds es = true
  | n, m, [], [], vs, _, _, _, _ => by rw [eqbL]
  | n, m, [], e :: es, vs, _, _, r1, r2 => by
    rw [RepL.nil_iff.mp r1] at r2
    obtain ⟨_, _, h, _⟩ := RepL.cons_iff.mp r2
    cases h
  | n, m, d :: ds, [], vs, _, _, r1, r2 => by
    rw [RepL.nil_iff.mp r2] at r1
    obtain ⟨_, _, h, _⟩ := RepL.cons_iff.mp r1
    cases h
  | n, m, d :: ds, e :: es, vs, hd, he, r1, r2 => by
    rw [shpL, Bool.and_eq_true] at hd he
    obtain ⟨v, ws, rfl, r3, r4⟩ := RepL.cons_iff.mp r1
    obtain ⟨v', ws', e1, r3', r4'⟩ := RepL.cons_iff.mp r2
    cases e1
    rw [eqbL, rep_same n m d e hd.1 he.1 r3 r3', repL_same n m ds es hd.2 he.2 r4 r4']
    rfl
end
/-- two instances of class c, their fields data: what == between them inside a list says -/
def eqL1 (c : Nat) (Fn : En → Re Vl) (a b : D) : Option Bool := match a, b with
  | .ins _ xs, .ins _ ys => if (shpL 40 xs && shpL 40 ys) = true then match eqI c Fn a b with
      | some k => if (eqbL xs ys && !k) = true then none else some k
      | none => none
    else none
  | _, _ => none
def eqLs (c : Nat) (Fn : En → Re Vl) : List D → List D → Option Bool
  | a :: as, b :: bs => match eqL1 c Fn a b with
    | some true => eqLs c Fn as bs
    | some false => some false
    | none => none
  | [], [] => some true
  | _, _ => none
def oEqL (c : Nat) (Fn : En → Re Vl) : D → D → Option Vl
  | .lst xs, .lst ys => if (xs.length == ys.length) = true then (eqLs c Fn xs ys).map fun k => .dat (.bl k) else some (.dat (.bl false))
  | _, _ => none
theorem eqL1_I {c : Nat} {Fn : En → Re Vl} {a b : D} {k : Bool} (h : eqL1 c Fn a b = some k) : eqI c Fn a b = some k ∧ ∀ {Hd : Hp} {v : V}, Rep g Hd a v → Rep g Hd b v → k = true := by
  unfold eqL1 at h
  split at h
  · rename_i c1 xs c2 ys
    split at h
    · rename_i hs
      rw [Bool.and_eq_true] at hs
      split at h
      · rename_i k' q
        split at h
        · cases h
        · rename_i hk
          cases h
          refine ⟨q, fun {Hd v} r1 r2 => ?_⟩
          obtain ⟨xs', ys', as', e1, e2, _⟩ := eqI_of q
          cases e1
          cases e2
          simp only [Rep] at r1 r2
          obtain ⟨p, dx, vs, rfl, h1, h2, h3⟩ := r1
          obtain ⟨p', dx', vs', e3, h1', h2', h3'⟩ := r2
          cases e3
          rw [h1] at h1'
          have ez : (cFn c).zip vs = (cFn c).zip vs' := by
            have := Option.some.inj h1'
            injection this
          have ev : vs = vs' := by
            have z := congrArg (List.map Prod.snd) ez
            rw [List.map_snd_zip (by omega), List.map_snd_zip (by omega)] at z
            exact z
          subst ev
          have q2 := repL_same 40 40 xs ys hs.1 hs.2 h3 h3'
          rw [q2] at hk
          cases k with
          | true => rfl
          | false => exact absurd rfl hk
      · cases h
    · cases h
  · cases h
theorem eqLs_get {c : Nat} {Fn : En → Re Vl} : ∀ {xs ys : List D} {k : Bool}, xs.length = ys.length → eqLs c Fn xs ys = some k → ∃ e : Nat → Bool, (∀ (i : Nat) (a b : D), xs[i]? = some a → ys[i]? = some b → (∀ j, j < i → e j = true) → eqL1 c Fn a b = some (e i)) ∧ (k = true → ∀ i, i < xs.length → e i = true) ∧ (k = false → ∃ i, i < xs.length ∧ e i = false)
  | [], [], k, _, h => by
    cases h
    exact ⟨fun _ => true, fun i a b h => by simp at h, fun _ i hi => by simp at hi, fun h => by cases h⟩
  | [], _ :: _, _, hl, _ => by simp at hl
  | _ :: _, [], _, hl, _ => by simp at hl
  | a :: as, b :: bs, k, hl, h => by
    rw [eqLs] at h
    split at h
    · rename_i q
      obtain ⟨e, h1, h2, h3⟩ := eqLs_get (by simpa using hl) h
      refine ⟨fun i => match i with | 0 => true | i + 1 => e i, fun i x y hx hy hj => ?_, fun hk i hi => ?_, fun hk => ?_⟩
      · cases i with
        | zero =>
          simp only [List.getElem?_cons_zero, Option.some.injEq] at hx hy
          subst hx hy
          exact q
        | succ i => exact h1 i x y (by simpa using hx) (by simpa using hy) fun j hj' => hj (j + 1) (by omega)
      · cases i with
        | zero => rfl
        | succ i => exact h2 hk i (by simpa using hi)
      · obtain ⟨i, hi, he⟩ := h3 hk
        exact ⟨i + 1, by simpa using hi, he⟩
    · rename_i q
      cases h
      refine ⟨fun _ => false, fun i x y hx hy hj => ?_, fun hk => (nomatch hk), fun _ => ⟨0, by simp, rfl⟩⟩
      cases i with
      | zero =>
        simp only [List.getElem?_cons_zero, Option.some.injEq] at hx hy
        subst hx hy
        exact q
      | succ i => exact absurd (hj 0 (by omega)) (by simp)
    · cases h
/-- the heap's growth, the data kept apart -/
def GrowI (g : Gx) (X : Cx) (pins : List (Addr × Obj)) (σ : L2.St) (Hd H : Hp) (s' : Shared) : Prop := ∃ Hd' H', Inv X pins σ H' s' ∧ GrowS g Hd H Hd' H'
def rEqL (g : Gx) (C : Addr) (c : Nat) (Fn : En → Re Vl) : R2 := fun x y H Q => ∃ (a b : Addr) (vs us : List V) (xs ys : List D) (Hd : Hp), x = .ref a ∧ y = .ref b ∧ H a = some (.lst vs) ∧ H b = some (.lst us) ∧ Same Hd H ∧ Tabs g.T H ∧ (∀ a ps, Hd a ≠ some (.tbl ps)) ∧ RepL g Hd xs vs ∧ RepL g Hd ys us ∧
  ((xs.length ≠ ys.length ∧ Q (.bl false) H) ∨ (xs.length = ys.length ∧ ∃ k, eqLs c Fn xs ys = some k ∧ ∀ Hd' H', GrowS g Hd H Hd' H' → Q (.bl k) H'))
theorem op_eqL {n c : Nat} {f : Addr} {fd : FuncData} {ps : List Str} {Fn : En → Re Vl} (Fo : FnOk X.prog X.w X.K X.mg X.base (L2.CX X.prog X.w) n f fd ps (spF g 2 Fn)) (ok : EqOk X.K (g.cA c) f fd ps) (hr : Room (n + 1) X.A) : OpR X (compareOp .Eq) (rEqL g (g.cA c) c Fn) := by
  intro pins s σ H x y v u Q I rx ry h
  obtain ⟨a, b, vs, us, xs, ys, Hd, rfl, rfl, ha, hb, e, tb, nd, ra, rb, h⟩ := h
  cases rx
  cases ry
  show wpAny (model X.prog X.w) X.A (richCompare .Eq (.ref a) (.ref b)) (EP X pins σ Q) X.xe s
  have lst : ∀ {s' : Shared}, GrowI g X pins σ Hd H s' → ∃ Hd' H' its its2 k k2, Inv X pins σ H' s' ∧ GrowS g Hd H Hd' H' ∧ Vals vs its ∧ Vals us its2 ∧ s'.heap.get? a = some { cls := .type "list", data := .seq its.toArray k } ∧ s'.heap.get? b = some { cls := .type "list", data := .seq its2.toArray k2 } := fun {s'} ⟨Hd', H', I', G⟩ => by
    obtain ⟨z, its, k, r, e1⟩ := I'.hok a _ (G.fr _ _ ha (by intro _ z; cases z))
    obtain ⟨z2, its2, k2, r2, e2⟩ := I'.hok b _ (G.fr _ _ hb (by intro _ z; cases z))
    exact ⟨Hd', H', its, its2, k, k2, I', G, r, r2, e1, e2⟩
  have lx := ra.length
  have ly := rb.length
  rcases h with ⟨hne, hq⟩ | ⟨heq, k, hk, hq⟩
  · refine GQ.rc_listB (N := vs.length) (M := us.length) (by have := hr.un; omega) (fun _ => true) (fun i s' => i = 0 ∧ s' = s) (fun i s' hi => ?_) (fun q => absurd (by omega) hne) (fun i s' _ he => by cases he) (fun _ s' z => ?_) ⟨rfl, rfl⟩
    · obtain ⟨rfl, rfl⟩ := hi
      obtain ⟨Hd', H', its, its2, k, k2, I', G, r, r2, e1, e2⟩ := lst ⟨Hd, H, I, GrowS.refl e tb nd⟩
      exact ⟨_, _, k, k2, e1, e2, by rw [List.size_toArray, ← r.length], by rw [List.size_toArray, ← r2.length], fun h1 h2 q => absurd (by omega) hne⟩
    · obtain ⟨_, rfl⟩ := z
      exact ⟨.bl false, H, I, rfl, hq⟩
  · obtain ⟨ef, z1, z2, z3⟩ := eqLs_get heq hk
    refine GQ.rc_listB (N := vs.length) (M := us.length) (by have := hr.un; omega) ef (fun i s' => GrowI g X pins σ Hd H s' ∧ ∀ j, j < i → ef j = true) (fun i s' hi => ?_) (fun q s' hi => ?_) (fun i s' hi he hI => ?_) (fun q => absurd (by omega) q) ⟨⟨Hd, H, I, GrowS.refl e tb nd⟩, fun j hj => absurd hj (Nat.not_lt_zero j)⟩
    · obtain ⟨hi, hj⟩ := hi
      obtain ⟨Hd1, H1, its, its2, k1, k2, I1, G1, r, r2, e1, e2⟩ := lst hi
      refine ⟨_, _, k1, k2, e1, e2, by rw [List.size_toArray, ← r.length], by rw [List.size_toArray, ← r2.length], fun h1 h2 q => ?_⟩
      have g1 : its[i]? = some its.toArray[i] := by
        have h1' : i < its.length := by simpa using h1
        rw [List.getElem?_eq_getElem h1'] <;> simp
      have g2 : its2[i]? = some its2.toArray[i] := by
        have h2' : i < its2.length := by simpa using h2
        rw [List.getElem?_eq_getElem h2'] <;> simp
      have q1 : i < vs.length := by rw [r.length]; simpa using h1
      have q2 : i < us.length := by rw [r2.length]; simpa using h2
      have v1 := List.getElem?_eq_getElem q1
      have v2 := List.getElem?_eq_getElem q2
      obtain ⟨u, hu, ru⟩ := r.get v1
      obtain ⟨v, hv, rv⟩ := r2.get v2
      rw [g1] at hu
      rw [g2] at hv
      rw [Option.some.inj hu, Option.some.inj hv]
      obtain ⟨da, hda, rda⟩ := ra.getB v1
      obtain ⟨db, hdb, rdb⟩ := rb.getB v2
      have hE := z1 i da db hda hdb hj
      obtain ⟨hE1, hE2⟩ := eqL1_I hE
      have rda := rda.mono G1.hd
      have rdb := rdb.mono G1.hd
      obtain ⟨_, _, _, ea, eb, _⟩ := eqI_of hE1
      have ref : ∀ {d : D} {v : V} {xs : List D}, d = .ins c xs → Rep g Hd1 d v → ∃ p, v = .ref p := fun {d v xs} e r => by
        subst e
        simp only [Rep] at r
        obtain ⟨p, _, _, h, _⟩ := r
        exact ⟨p, h⟩
      obtain ⟨p1, hp1⟩ := ref ea rda
      obtain ⟨p2, hp2⟩ := ref eb rdb
      rw [hp1] at ru rda
      rw [hp2] at rv rdb
      cases ru
      cases rv
      have nxt : ∀ {s2 : Shared}, GrowI g X pins σ Hd H s2 → ef i = ef i ∧ (GrowI g X pins σ Hd H s2 ∧ ∀ j, j < i → ef j = true) ∧ (ef i = true → GrowI g X pins σ Hd H s2 ∧ ∀ j, j < i + 1 → ef j = true) := fun {s2} h => ⟨rfl, ⟨h, hj⟩, fun ht => ⟨h, fun j hj' => by
        by_cases z : j = i
        · rw [z]; exact ht
        · exact hj j (by omega)⟩⟩
      by_cases hp : p1 = p2
      · subst hp
        have ht := hE2 rda rdb
        refine SeqAt.EqAt.same (A := X.A.in1) (s := s') (.ref p1) X.prog X.w X.xe _ ?_
        have := nxt ⟨Hd1, H1, I1, G1⟩
        rw [ht] at this ⊢
        exact this
      · refine GQ.eqBool_refG hp (wpAny_mono (rc_ins (Q := fun v H' => v = .bl (ef i) ∧ ∃ Hd', GrowS g Hd1 H1 Hd' H') Fo ok (⟨hr, rfl⟩ : Sub X (n + 1) X.A).in1 I1 (show RelV (.ref p1) (.ref p1) from rfl) (show RelV (.ref p2) (.ref p2) from rfl) (eqI_run G1.ext G1.tab G1.ntd rda rdb hE1 fun Hd' H' G => ⟨rfl, Hd', G⟩)) (fun r s2 z => ?_) fun _ _ x => x)
        obtain ⟨z, H2, I2, rz, ez, Hd2, G2⟩ := z
        subst ez
        cases rz
        exact ⟨ef i, rfl, nxt ⟨Hd2, H2, I2, G1.trans G2⟩⟩
    · obtain ⟨⟨Hd1, H1, I1, G1⟩, hj⟩ := hi
      have hkt : k = true := by
        cases k with
        | true => rfl
        | false =>
          obtain ⟨i, hi, he⟩ := z3 rfl
          rw [hj i (by omega)] at he
          cases he
      exact ⟨.bl true, H1, I1, rfl, by rw [← hkt]; exact hq Hd1 H1 G1⟩
    · obtain ⟨⟨Hd1, H1, I1, G1⟩, hj⟩ := hI
      have hkf : k = false := by
        cases k with
        | false => rfl
        | true =>
          rw [z2 rfl i (by omega)] at he
          cases he
      exact ⟨.bl false, H1, I1, rfl, by rw [← hkf]; exact hq Hd1 H1 G1⟩
theorem u_eqL {c : Nat} {Fn : En → Re Vl} : U2S g (rEqL g (g.cA c) c Fn) (oEqL c Fn) := by
  intro Hd H x y a b u Q e tb nd ra rb q k
  cases a <;> cases b <;> simp only [oEqL, reduceCtorEq] at q
  rename_i xs ys
  obtain ⟨p, vs, rfl, h1, _, h2⟩ := ra.lst e
  obtain ⟨p', us, rfl, h1', _, h2'⟩ := rb.lst e
  refine ⟨p, p', vs, us, xs, ys, Hd, rfl, rfl, h1, h1', e, tb, nd, h2, h2', ?_⟩
  split at q
  · rename_i hl
    obtain ⟨z, hz, rfl⟩ := Option.map_eq_some_iff.mp q
    exact .inr ⟨eq_of_beq hl, z, hz, fun Hd' H' G => k _ Hd' H' G (by show Rep g Hd' (.bl z) (.bl z); exact rep_bl)⟩
  · rename_i hl
    cases q
    exact .inl ⟨fun h => hl (by rw [h]; exact beq_self_eq_true _), k _ Hd H (GrowS.refl e tb nd) (by show Rep g Hd (.bl false) (.bl false); exact rep_bl)⟩
end
end Fx

/-! FxK: comprehensions of two clauses; names stored in parallel; dicts; more built-ins -/
namespace Fx
open PySem PySem.Spec PyProof.Rows L2 LamX
def dLoop2 (t : D → Mo Unit) (c : Mo Bool) (n1 : Mo Its) (t1 : D → Mo Unit) (c1 : Mo Bool) (e : Mo Vl) (vs vs1 : List Nat) : Nat → List D → Mo (List D)
  | _, [] => mp []
  | k, d :: ds => fun E => match t d E with
    | .ok _ E1 => match c E1 with
      | .ok true E2 => match n1 E2 with
        | .ok (ds1, none) E3 => if vs1.all (noneAt E3) = true ∧ k + ds1.length ≤ lim then match dLoop t1 c1 e vs1 ds1 E3 with
            | .ok xs E4 => if vs.all (fun i => canSet E4[i]?) = true then match dLoop2 t c n1 t1 c1 e vs vs1 (k + xs.length) ds (killE E4 vs) with
                | .ok ys E5 => .ok (xs ++ ys) E5
                | _ => .bad
              else .bad
            | _ => .bad
          else .bad
        | _ => .bad
      | .ok false E2 => if vs.all (fun i => canSet E2[i]?) = true then dLoop2 t c n1 t1 c1 e vs vs1 k ds (killE E2 vs) else .bad
      | _ => .bad
    | _ => .bad
def dLc2 (n : Mo Its) (t : D → Mo Unit) (c : Mo Bool) (n1 : Mo Its) (t1 : D → Mo Unit) (c1 : Mo Bool) (e : Mo Vl) (vs vs1 : List Nat) : Mo Vl := mb n fun q => blkM vs (onIts okT q (dLoop2 t c n1 t1 c1 e vs vs1 0))
section
variable {g : Gx} {W : WX} {X : Cx} {vs vs1 : List Nat}
theorem keepN {Hd1 H1 Hd2 H2 : Hp} {w1 w2 : Ow} {Dn : Addr} (e : Eff Hd1 H1 w1 Hd2 H2 w2) (h1 : Hd1 Dn = none) (h2 : w1 Dn = none) (h3 : H1 Dn ≠ none) : Hd2 Dn = none ∧ w2 Dn = none := by
  constructor
  · cases y : Hd2 Dn with
    | none => rfl
    | some o =>
      rcases e.hn Dn (by rw [y]; simp) with u | u | u
      · exact absurd h1 u
      · exact absurd h2 u
      · exact absurd u h3
  · cases y : w2 Dn with
    | none => rfl
    | some o =>
      rcases e.wn Dn (by rw [y]; simp) with u | u
      · exact absurd h2 u
      · exact absurd u h3
/-- a loop that lays items behind those that are there -/
theorem lc_gen {F : Fc} {σ : L2.St} {Hd0 H0 Hd H B : Hp} {w0 w : Ow} {E : En} {t : D → Mo Unit} {c : Mo Bool} {e : Mo Vl} {ds : List D} {J : It} {Dn : Addr} {Qd : Hp → Prop} {ys0 : List V} {K : List D → En → Hp → Hp → Ow → Prop} (hN : H0 Dn = none) (e0 : Eff Hd0 H0 w0 Hd H w) (s : Sr g F Hd H E (wipe σ vs) w) (hI : ItOk g J B Hd ds) (hB : ∀ a o, B a = some o → H a = some o ∧ w a = none ∧ a ≠ Dn ∧ NT o)
    (l0 : H Dn = some (.lst ys0)) (d0 : Hd Dn = none) (v0 : w Dn = none) (z0 : ys0.length + ds.length ≤ sizeLine) (p : PostA g F Wn (wipe σ vs) Hd0 H0 w0 (dLoop t c e vs ds E) K)
    (fin : ∀ xs ys E' Hd' H' w', K xs E' Hd' H' w' → Eff Hd0 H0 w0 Hd' H' w' → Same Hd Hd' → Sr g F Hd' H' E' (wipe σ vs) w' → Hd' Dn = none → w' Dn = none → H' Dn = some (.lst (ys0 ++ ys)) → RepL g Hd' xs ys → xs.length ≤ ds.length → Qd H') :
    ∃ Wv : Nat → Nat → Hp → Prop, (∃ m, Wv 0 m H) ∧ ∀ i m H, Wv i m H →
      (J.stop i H ∧ Qd H) ∨ (J.go i H ∧ ∃ Nx : Hp → Prop, (∀ H', Nx H' → ∃ m', m' < m ∧ Wv (i + 1) m' H') ∧ ∀ x H', J.yld i H x H' → tG g vs t x (wipe σ vs) H' fun σ2 H2 => wipe σ2 vs = wipe σ vs ∧ tT g Wn c σ2 H2 fun b H3 =>
        if b = true then tE g Wn e σ2 H3 fun y H4 => ∃ acc, H4 Dn = some (.lst acc) ∧ acc.length < sizeLine ∧ Nx (L2.upd H4 Dn (.lst (acc ++ [y]))) else Nx H3) := by
  obtain ⟨hz, G, Y, wk, hG, hY⟩ := hI
  let Pv : Nat → Hp → Prop := fun i H1 => ∃ Hd1 E1 w1 xs ys, Eff Hd0 H0 w0 Hd1 H1 w1 ∧ Same Hd Hd1 ∧ (∀ a o, H a = some o → w a = none → a ≠ Dn → NT o → H1 a = some o) ∧ Hd1 Dn = none ∧ w1 Dn = none ∧ Sr g F Hd1 H1 E1 (wipe σ vs) w1 ∧ H1 Dn = some (.lst (ys0 ++ ys)) ∧ RepL g Hd1 xs ys ∧ xs.length ≤ i ∧
    (∀ a, w1 a ≠ none → w a ≠ none ∨ H a = none) ∧ (∀ a, H a ≠ none → H1 a ≠ none) ∧ PostA g F Wn (wipe σ vs) Hd0 H0 w0 (dLoop t c e vs (ds.drop i) E1) fun zs => K (xs ++ zs)
  have hPG : ∀ i H1, i ≤ ds.length → Pv i H1 → G H1 := by
    rintro i H1 hi ⟨Hd1, E1, w1, xs, ys, e1, sm, kp, _⟩
    exact hG H1 fun a o z => kp a o (hB a o z).1 (hB a o z).2.1 (hB a o z).2.2.1 (hB a o z).2.2.2
  refine ⟨fun i m H => m = ds.length - i ∧ i ≤ ds.length ∧ Pv i H, ⟨ds.length, by simp, Nat.zero_le _, Hd, E, w, [], [], e0, Same.refl _, fun a o h _ _ _ => h, d0, v0, s, by rw [List.append_nil]; exact l0, RepL.nil, Nat.le_refl _, fun a h => .inl h, fun a h => h, p⟩, ?_⟩
  rintro i m H1 ⟨rfl, hi, pv⟩
  have hg1 := hPG i H1 hi pv
  by_cases hlt : ¬ i < ds.length
  · have ei : i = ds.length := by omega
    subst ei
    refine .inl ⟨wk.stops H1 hg1, ?_⟩
    obtain ⟨Hd1, E1, w1, xs, ys, e1, sm, kp, d1, v1, s1, l1, r1, n1, _, _, p1⟩ := pv
    rw [List.drop_length] at p1
    have k := p1 Hd1 H1 w1 e1 s1
    simp only [List.append_nil] at k
    exact fin xs ys E1 Hd1 H1 w1 k e1 sm s1 d1 v1 l1 r1 n1
  have hlt := Decidable.not_not.mp hlt
  refine .inr ⟨wk.goes i H1 hlt hg1, Pv (i + 1), fun H' p' => ⟨ds.length - (i + 1), by omega, rfl, hlt, p'⟩, fun x H2 hy0 => ?_⟩
  have hy := wk.yields i H1 x H2 hlt hg1 hy0
  obtain ⟨Hd1, E1, w1, xs, ys, e1, sm, kp, d1, v1, s1, l1, r1, n1, kw, kh, p1⟩ := pv
  have hi := hlt
  have hd : ds[i]? = some ds[i] := List.getElem?_eq_getElem hi
  obtain ⟨Hd2, gr, rd⟩ := hY i ds[i] Hd1 H1 x H2 hd sm s1.ext hy
  have dr : ds.drop i = ds[i] :: ds.drop (i + 1) := (List.drop_eq_getElem_cons hi)
  rw [dr] at p1
  have ee := s1.eff gr
  have e2 := e1.trans ee
  obtain ⟨d2, v2⟩ := keepN ee d1 v1 (by rw [l1]; simp)
  have l2 : H2 Dn = some (.lst (ys0 ++ ys)) := ee.fr _ _ l1 v1 (by intro _ z; cases z)
  refine ⟨F, Hd2, E1, w1, ds[i], s1.grow gr, rd, ?_⟩
  -- what stood at the loop's start stands on
  have keepH : ∀ {Hd5 H5 : Hp} {w5 : Ow}, Eff Hd1 H1 w1 Hd5 H5 w5 → ∀ a o, H a = some o → w a = none → a ≠ Dn → NT o → H5 a = some o := fun {Hd5 H5 w5} k a o h hw hn nt => by
    refine k.fr a o (kp a o h hw hn nt) ?_ nt
    cases q : w1 a with
    | none => rfl
    | some j =>
      rcases kw a (by rw [q]; simp) with z | z
      · exact absurd hw z
      · rw [h] at z; cases z
  have keepW : ∀ {Hd5 H5 : Hp} {w5 : Ow}, Eff Hd1 H1 w1 Hd5 H5 w5 → ∀ a, w5 a ≠ none → w a ≠ none ∨ H a = none := fun {Hd5 H5 w5} k a h => by
    rcases k.wn a h with z | z
    · exact kw a z
    · right
      cases q : H a with
      | none => rfl
      | some o => exact absurd z (kh a (by rw [q]; simp))
  have p2 := p1
  unfold dLoop at p2
  revert p2
  cases t ds[i] E1 with
  | ok _ E2 =>
    intro p2 σ3 Hd3 H3 w3 e3 s3 t3
    have sigE : ∀ {Hd5 H5 : Hp} {E5 : En} {w5 : Ow}, Sr g F Hd5 H5 (killE E5 vs) σ3 w5 → vs.all (fun i => canSet E5[i]?) = true → Sr g F Hd5 H5 (killE E5 vs) (wipe σ vs) w5 := fun {Hd5 H5 E5 w5} k hc => by
      refine k.sig t3.1.symm fun j z hj => ?_
      by_cases hv : j ∈ vs
      · obtain ⟨y1, y2⟩ := kill_in hv hj
        have y3 := List.all_eq_true.mp hc j hv
        rw [y2, y1] at y3
        cases y3
      · exact (t3.2 j hv).symm
    refine ⟨by rw [wipe_touch t3, wipe_wipe], ?_⟩
    have p3 := p2
    have e13 := e2.trans e3
    obtain ⟨d3, v3⟩ := keepN e3 d2 v2 (by rw [l2]; simp)
    have l3 : H3 Dn = some (.lst (ys0 ++ ys)) := e3.fr _ _ l2 v2 (by intro _ z; cases z)
    refine ⟨F, Hd3, E2, w3, s3, ?_⟩
    dsimp only at p3
    revert p3
    cases c E2 with
    | ok b E3 =>
      cases b with
      | true =>
        intro p3 Hd4 H4 w4 e4 s4
        dsimp only
        rw [if_pos rfl]
        have p4 := p3
        have e14 := e13.trans e4
        obtain ⟨d4, v4⟩ := keepN e4 d3 v3 (by rw [l3]; simp)
        have l4 : H4 Dn = some (.lst (ys0 ++ ys)) := e4.fr _ _ l3 v3 (by intro _ z; cases z)
        refine ⟨F, Hd4, E3, w4, s4, ?_⟩
        dsimp only at p4
        unfold frzM mb at p4
        revert p4
        cases e E3 with
        | ok a E4 =>
          intro p4 Hd5 H5 w5 e5 s5 y ry
          dsimp only at p4
          cases q : frz a E4 with
          | ok d E5 =>
            rw [q] at p4
            dsimp only at p4
            split at p4
            · rename_i hc
              obtain ⟨Hd6, w6, k1, k2, k3⟩ := frz_ok e5 s5 ry q
              obtain ⟨d6, v6⟩ := keepN k1 d4 v4 (by rw [l4]; simp)
              have l6 : H5 Dn = some (.lst (ys0 ++ ys)) := k1.fr _ _ l4 v4 (by intro _ z; cases z)
              obtain ⟨w7, k4, k5⟩ := k2.kill (ks := vs)
              have v7 := (keepN k4 d6 v6 (by rw [l6]; simp)).2
              have e16 := (e14.trans k1).trans k4
              have e1' := (((ee.trans e3).trans e4).trans k1).trans k4
              refine ⟨ys0 ++ ys, l6, ?_, Hd6, _, w7, xs ++ [d], ys ++ [y], e16.upd hN, sm.trans e1'.hd, fun a o h hw hn nt => ?_, d6, v7, (sigE k5 hc).upd d6 v7 (plO_lst l6), ?_, ?_, ?_, keepW e1', fun a h => ?_, ?_⟩
              · have := r1.length
                rw [List.length_append]
                omega
              · rw [upd_ne hn]; exact keepH e1' a o h hw hn nt
              · rw [upd_same, List.append_assoc]
              · exact (r1.mono ((ee.hd.trans e3.hd).trans (e4.hd.trans k1.hd))).append (RepL.one k3)
              · simp only [List.length_append, List.length_singleton]; omega
              · by_cases z : a = Dn
                · rw [z, upd_same]; simp
                · rw [upd_ne z]; exact e1'.dom a (kh a h)
              · revert p4
                cases dLoop t c e vs (ds.drop (i + 1)) (killE E5 vs) with
                | ok zs E6 =>
                  intro p5 Hd8 H8 w8 e8 s8
                  rw [List.append_assoc]
                  exact p5 Hd8 H8 w8 e8 s8
                | exc _ _ => exact fun p5 => p5.elim
                | bad => exact fun p5 => p5.elim
            · exact p4.elim
          | exc _ _ => rw [q] at p4; exact p4.elim
          | bad => rw [q] at p4; exact p4.elim
        | exc _ _ => exact fun p4 => p4.elim
        | bad => exact fun p4 => p4.elim
      | false =>
        intro p3 Hd4 H4 w4 e4 s4
        dsimp only
        rw [if_neg Bool.false_ne_true]
        dsimp only at p3
        split at p3
        · rename_i hc
          obtain ⟨w7, k4, k5⟩ := s4.kill (ks := vs)
          have k1 := e4.trans k4
          obtain ⟨d6, v6⟩ := keepN k1 d3 v3 (by rw [l3]; simp)
          have l6 : H4 Dn = some (.lst (ys0 ++ ys)) := k1.fr _ _ l3 v3 (by intro _ z; cases z)
          have e1' := (ee.trans e3).trans k1
          exact ⟨Hd4, _, w7, xs, ys, e13.trans k1, sm.trans e1'.hd, keepH e1', d6, v6, sigE k5 hc, l6, r1.mono ((ee.hd.trans e3.hd).trans e4.hd), Nat.le_succ_of_le n1, keepW e1', fun a h => e1'.dom a (kh a h), p3⟩
        · exact p3.elim
    | exc _ _ => exact fun p3 => p3.elim
    | bad => exact fun p3 => p3.elim
  | exc _ _ => exact fun p2 => p2
  | bad => exact fun p2 => p2
/-- two clauses -/
theorem lc2_ok {F : Fc} {σ : L2.St} {Hd H B : Hp} {w : Ow} {E : En} {t t1 : D → Mo Unit} {c c1 : Mo Bool} {n1 : Mo Its} {e : Mo Vl} {ds : List D} {J : It} {Dn : Addr} {Qd : Hp → Prop} {K : List D → En → Hp → Hp → Ow → Prop} (hvs : ∀ i ∈ vs1, i ∈ vs) (s : Sr g F Hd H E (wipe σ vs) w) (hI : ItOk g J B Hd ds) (hB : ∀ a o, B a = some o → H a = some o ∧ w a = none ∧ NT o) (hD : H Dn = none)
    (p : PostA g F Wn (wipe σ vs) Hd H w (dLoop2 t c n1 t1 c1 e vs vs1 0 ds E) K)
    (fin : ∀ xs ys E' Hd' H' w', K xs E' Hd' H' w' → Eff Hd H w Hd' H' w' → Hd' Dn = none → w' Dn = none → H' Dn = some (.lst ys) → RepL g Hd' xs ys → xs.length ≤ sizeLine → Qd H') :
    ∃ Wv : Nat → Nat → Hp → Prop, (∃ m, Wv 0 m (L2.upd H Dn (.lst []))) ∧ ∀ i m H, Wv i m H →
      (J.stop i H ∧ Qd H) ∨ (J.go i H ∧ ∃ Nx : Hp → Prop, (∀ H', Nx H' → ∃ m', m' < m ∧ Wv (i + 1) m' H') ∧ ∀ x H', J.yld i H x H' → tG g vs t x (wipe σ vs) H' fun σ2 H2 => wipe σ2 vs = wipe σ vs ∧ tT g Wn c σ2 H2 fun b H3 =>
        if b = true then tI g Wn n1 σ2 H3 fun J1 H4 => ∃ W1 : Nat → Nat → Hp → Prop, (∃ m, W1 0 m H4) ∧ ∀ j k H, W1 j k H →
          (J1.stop j H ∧ Nx H) ∨ (J1.go j H ∧ ∃ Nx1 : Hp → Prop, (∀ H', Nx1 H' → ∃ k', k' < k ∧ W1 (j + 1) k' H') ∧ ∀ x H', J1.yld j H x H' → tG g vs1 t1 x (wipe σ2 vs1) H' fun σ3 H5 => wipe σ3 vs1 = wipe σ2 vs1 ∧ tT g Wn c1 σ3 H5 fun b H6 =>
            if b = true then tE g Wn e σ3 H6 fun y H7 => ∃ acc, H7 Dn = some (.lst acc) ∧ acc.length < sizeLine ∧ Nx1 (L2.upd H7 Dn (.lst (acc ++ [y]))) else Nx1 H6)
        else Nx H3) := by
  obtain ⟨hz, G, Y, wk, hG, hY⟩ := hI
  have wD : w Dn = none := by
    cases y : w Dn with
    | none => rfl
    | some i => exact absurd hD (s.wh _ i y)
  have hDd : Hd Dn = none := s.ext.free hD
  let Pv : Nat → Hp → Prop := fun i H1 => ∃ Hd1 E1 w1 xs ys, Eff Hd H w Hd1 H1 w1 ∧ Hd1 Dn = none ∧ w1 Dn = none ∧ Sr g F Hd1 H1 E1 (wipe σ vs) w1 ∧ H1 Dn = some (.lst ys) ∧ RepL g Hd1 xs ys ∧ xs.length ≤ sizeLine ∧
    PostA g F Wn (wipe σ vs) Hd H w (dLoop2 t c n1 t1 c1 e vs vs1 xs.length (ds.drop i) E1) fun zs => K (xs ++ zs)
  have hPG : ∀ i H1, i ≤ ds.length → Pv i H1 → G H1 := by
    rintro i H1 hi ⟨Hd1, E1, w1, xs, ys, e1, _⟩
    exact hG H1 fun a o z => e1.fr a o (hB a o z).1 (hB a o z).2.1 (hB a o z).2.2
  refine ⟨fun i m H => m = ds.length - i ∧ i ≤ ds.length ∧ Pv i H, ⟨ds.length, by simp, Nat.zero_le _, Hd, E, w, [], [], Eff.refl.upd hD, hDd, wD, s.upd hDd wD (plO_none hD), upd_same, RepL.nil, Nat.zero_le _, p⟩, ?_⟩
  rintro i m H1 ⟨rfl, hi, pv⟩
  have hg1 := hPG i H1 hi pv
  by_cases hlt : ¬ i < ds.length
  · have ei : i = ds.length := by omega
    subst ei
    refine .inl ⟨wk.stops H1 hg1, ?_⟩
    obtain ⟨Hd1, E1, w1, xs, ys, e1, d1, v1, s1, l1, r1, n1, p1⟩ := pv
    rw [List.drop_length] at p1
    have k := p1 Hd1 H1 w1 e1 s1
    simp only [List.append_nil] at k
    exact fin xs ys E1 Hd1 H1 w1 k e1 d1 v1 l1 r1 n1
  have hlt := Decidable.not_not.mp hlt
  refine .inr ⟨wk.goes i H1 hlt hg1, Pv (i + 1), fun H' p' => ⟨ds.length - (i + 1), by omega, rfl, hlt, p'⟩, fun x H2 hy0 => ?_⟩
  have hy := wk.yields i H1 x H2 hlt hg1 hy0
  obtain ⟨Hd1, E1, w1, xs, ys, e1, d1, v1, s1, l1, r1, nz, p1⟩ := pv
  have hi := hlt
  have hd : ds[i]? = some ds[i] := List.getElem?_eq_getElem hi
  obtain ⟨Hd2, gr, rd⟩ := hY i ds[i] Hd1 H1 x H2 hd e1.hd s1.ext hy
  have dr : ds.drop i = ds[i] :: ds.drop (i + 1) := (List.drop_eq_getElem_cons hi)
  rw [dr] at p1
  have ee := s1.eff gr
  have e2 := e1.trans ee
  obtain ⟨d2, v2⟩ := keepN ee d1 v1 (by rw [l1]; simp)
  have l2 : H2 Dn = some (.lst ys) := ee.fr _ _ l1 v1 (by intro _ z; cases z)
  refine ⟨F, Hd2, E1, w1, ds[i], s1.grow gr, rd, ?_⟩
  have p2 := p1
  unfold dLoop2 at p2
  revert p2
  cases t ds[i] E1 with
  | exc _ _ => exact fun p2 => p2
  | bad => exact fun p2 => p2
  | ok _ E2 =>
    intro p2 σ3 Hd3 H3 w3 e3 s3 t3
    have sigE : ∀ {Hd5 H5 : Hp} {E5 : En} {w5 : Ow} {σ5 : L2.St}, σ5.length = (wipe σ vs).length → (∀ j, j ∉ vs → σ5[j]? = (wipe σ vs)[j]?) → Sr g F Hd5 H5 (killE E5 vs) σ5 w5 → vs.all (fun i => canSet E5[i]?) = true → Sr g F Hd5 H5 (killE E5 vs) (wipe σ vs) w5 := fun {Hd5 H5 E5 w5 σ5} hl hs k hc => by
      refine k.sig hl.symm fun j z hj => ?_
      by_cases hv : j ∈ vs
      · obtain ⟨y1, y2⟩ := kill_in hv hj
        have y3 := List.all_eq_true.mp hc j hv
        rw [y2, y1] at y3
        cases y3
      · exact (hs j hv).symm
    refine ⟨by rw [wipe_touch t3, wipe_wipe], ?_⟩
    have p3 := p2
    have e13 := e2.trans e3
    obtain ⟨d3, v3⟩ := keepN e3 d2 v2 (by rw [l2]; simp)
    have l3 : H3 Dn = some (.lst ys) := e3.fr _ _ l2 v2 (by intro _ z; cases z)
    refine ⟨F, Hd3, E2, w3, s3, ?_⟩
    dsimp only at p3
    revert p3
    cases c E2 with
    | exc _ _ => exact fun p3 => p3.elim
    | bad => exact fun p3 => p3.elim
    | ok b E3 =>
      cases b with
      | false =>
        intro p3 Hd4 H4 w4 e4 s4
        dsimp only
        rw [if_neg Bool.false_ne_true]
        dsimp only at p3
        split at p3
        · rename_i hc
          obtain ⟨w7, k4, k5⟩ := s4.kill (ks := vs)
          have k1 := e4.trans k4
          obtain ⟨d6, v6⟩ := keepN k1 d3 v3 (by rw [l3]; simp)
          have l6 : H4 Dn = some (.lst ys) := k1.fr _ _ l3 v3 (by intro _ z; cases z)
          exact ⟨Hd4, _, w7, xs, ys, e13.trans k1, d6, v6, sigE t3.1 t3.2 k5 hc, l6, r1.mono ((ee.hd.trans e3.hd).trans e4.hd), nz, p3⟩
        · exact p3.elim
      | true =>
        intro p3 Hd4 H4 w4 e4 s4
        dsimp only
        rw [if_pos rfl]
        have e14 := e13.trans e4
        obtain ⟨d4, v4⟩ := keepN e4 d3 v3 (by rw [l3]; simp)
        have l4 : H4 Dn = some (.lst ys) := e4.fr _ _ l3 v3 (by intro _ z; cases z)
        refine ⟨F, Hd4, E3, w4, s4, ?_⟩
        have p4 := p3
        dsimp only at p4
        revert p4
        cases n1 E3 with
        | exc _ _ => exact fun p4 => p4.elim
        | bad => exact fun p4 => p4.elim
        | ok q E4 =>
          obtain ⟨ds1, q2⟩ := q
          cases q2 with
          | some _ => exact fun p4 => p4.elim
          | none =>
            intro p4 Hd5 H5 w5 e5 s5 J1 hJ1
            dsimp only at p4
            split at p4
            · rename_i hc
              obtain ⟨hc1, hc2⟩ := hc
              rw [lim_eq] at hc2
              have e15 := e14.trans e5
              obtain ⟨d5, v5⟩ := keepN e5 d4 v4 (by rw [l4]; simp)
              have l5 : H5 Dn = some (.lst ys) := e5.fr _ _ l4 v4 (by intro _ z; cases z)
              have s5' : Sr g F Hd5 H5 E4 (wipe σ3 vs1) w5 := s5.sig (wipe_length _ _) fun j z hj => by
                refine wipe_get fun hv => ?_
                have y := List.all_eq_true.mp hc1 j hv
                unfold noneAt at y
                rw [hj] at y
                cases y
              refine lc_gen (K := fun xs1 E5 _ _ _ => vs.all (fun i => canSet E5[i]?) = true ∧ PostA g F Wn (wipe σ vs) Hd H w (dLoop2 t c n1 t1 c1 e vs vs1 (xs.length + xs1.length) (ds.drop (i + 1)) (killE E5 vs)) fun zs => K (xs ++ (xs1 ++ zs))) hD e15 s5' (show ItOk g J1 Hd5 Hd5 ds1 from hJ1) (fun a o h => ⟨s5.ext a o h, ?_, fun e => (by rw [e, d5] at h; cases h), fun ps e => s5.ntd a ps (by rw [h, e])⟩) l5 d5 v5 (by rw [← r1.length]; exact hc2) ?_ ?_
              · cases y : w5 a with
                | none => rfl
                | some j => rw [s5.hdn a j y] at h; cases h
              · revert p4
                cases dLoop t1 c1 e vs1 ds1 E4 with
                | ok xs1 E5 =>
                  intro p4 Hd6 H6 w6 e6 s6
                  dsimp only at p4
                  split at p4
                  · rename_i hcc
                    refine ⟨hcc, ?_⟩
                    revert p4
                    cases dLoop2 t c n1 t1 c1 e vs vs1 (xs.length + xs1.length) (ds.drop (i + 1)) (killE E5 vs) with
                    | ok zs E6 => exact fun p5 => p5
                    | exc _ _ => exact fun p5 => p5.elim
                    | bad => exact fun p5 => p5.elim
                  · exact p4.elim
                | exc _ _ => exact fun p4 => p4.elim
                | bad => exact fun p4 => p4.elim
              · intro xs1 ys1 E5 Hd6 H6 w6 hk e6 sm6 s6 d6 v6 l6 r6 n6
                obtain ⟨hcc, hk⟩ := hk
                obtain ⟨w7, k4, k5⟩ := s6.kill (ks := vs)
                have v7 := (keepN k4 d6 v6 (by rw [l6]; simp)).2
                refine ⟨Hd6, _, w7, xs ++ xs1, ys ++ ys1, e6.trans k4, d6, v7, sigE ?_ (fun j hj => ?_) k5 hcc, l6, (r1.mono ((ee.hd.trans e3.hd).trans ((e4.hd.trans e5.hd).trans sm6))).append r6, by rw [List.length_append]; omega, ?_⟩
                · rw [wipe_length]; exact t3.1
                · rw [wipe_get fun h => hj (hvs j h)]; exact t3.2 j hj
                · rw [List.length_append]
                  refine hk.imp fun zs E7 Hd7 H7 w7 _ _ _ z => ?_
                  rw [List.append_assoc]
                  exact z
            · exact p4.elim
theorem tLc2_ok {n n1 : Mo Its} {t t1 : D → Mo Unit} {c c1 : Mo Bool} {e : Mo Vl} (hvs : ∀ i ∈ vs1, i ∈ vs) (hn : ItsOk n) : ∀ σ H Q, tE g W (dLc2 n t c n1 t1 c1 e vs vs1) σ H Q → tLc2 (tI g W n) (tG g vs t) (tT g Wn c) (tI g Wn n1) (tG g vs1 t1) (tT g Wn c1) (tE g Wn e) vs vs1 σ H Q := by
  rintro σ H Q ⟨F, Hd, E, w, s, p⟩
  refine ⟨F, Hd, E, w, s, (PostA.bind p).imp fun q E1 Hd1 H1 w1 hq e1 s1 p1 J hJ Dn hD => ?_⟩
  obtain ⟨hp, sb, p2⟩ := blk_end (w0 := w) (Hd0 := Hd) (H0 := H) s1 p1
  have hI : ItsIn (wipe σ vs) (killE E1 vs) q := by
    refine itsIn_of sb fun i hi => ?_
    have z := hn E q E1 hq i hi
    have nv : i ∉ vs := fun hv => by
      have y := hp i hv
      unfold plainAt at y
      unfold hasO at z
      split at z
      · rename_i u; rw [u] at y; cases y
      · rename_i u; rw [u] at y; cases y
      · exact z
    rw [kill_out nv]; exact z
  obtain ⟨F', E', w', s', hB, hw, p3⟩ := onIts_A sb hI p2
  refine lc2_ok (K := fun xs E2 Hd2 H2 w2 => _) hvs s' hJ hB hD p3 fun xs ys E2 Hd2 H2 w2 k e2 d2 v2 l2 r2 n2 => ?_
  obtain ⟨E3, w3, ⟨_, k⟩, _, _, kw⟩ := k
  refine k (.ref Dn) ⟨Dn, fun a => a = Dn, rfl, fun a ha => ?_, rfl, ys, l2, n2, r2⟩
  subst ha
  refine ⟨?_, d2, kw a v2 hD, by rw [l2]; simp⟩
  cases y : H a with
  | none => rfl
  | some o => exact absurd hD (e1.dom a (by rw [y]; simp))
theorem de_lc2 {elt tg iter tg1 iter1 : Expr} {ifs ifs1 : List Expr} {scope : Scope} {own : List (Str × Nat)} {pos : Pos} {n n1 : Mo Its} {t t1 : D → Mo Unit} {c c1 : Mo Bool} {e : Mo Vl} (vs1 : List Nat) (hc : X.calm = true) (hN : X.N.Nodup) (hn : ItsOk n) (hi : PI X tg iter (tI g W n)) (ok : BlkOk X.N X.env.scope scope own) (hv : ∀ i ∈ vs1, i ∈ own.map (·.2))
    (hg : ∀ (s : Shared) (H : Hp) (C : Addr) (cl : List (Str × Addr)) (fp : List Addr), PG (X.blk s H scope (compEnvC scope cl C X.env) fp) tg (tG g (own.map (·.2)) t)) (ht : ∀ (s : Shared) (H : Hp) (C : Addr) (cl : List (Str × Addr)) (fp : List Addr), PTs (X.blk s H scope (compEnvC scope cl C X.env) fp) ifs (tT g Wn c))
    (hi1 : ∀ (s : Shared) (H : Hp) (C : Addr) (cl : List (Str × Addr)) (fp : List Addr), PI (X.blk s H scope (compEnvC scope cl C X.env) fp) tg1 iter1 (tI g Wn n1))
    (hg1 : ∀ (s : Shared) (H : Hp) (C : Addr) (cl : List (Str × Addr)) (fp : List Addr), PG (X.blk s H scope (compEnvC scope cl C X.env) fp) tg1 (tG g vs1 t1)) (ht1 : ∀ (s : Shared) (H : Hp) (C : Addr) (cl : List (Str × Addr)) (fp : List Addr), PTs (X.blk s H scope (compEnvC scope cl C X.env) fp) ifs1 (tT g Wn c1))
    (he : ∀ (s : Shared) (H : Hp) (C : Addr) (cl : List (Str × Addr)) (fp : List Addr), PE (X.blk s H scope (compEnvC scope cl C X.env) fp) elt (tE g Wn e)) (hs : ∀ x, foldedSetIterable iter X.env x = pure x := by intro _; rfl) (hs1 : ∀ env x, foldedSetIterable iter1 env x = pure x := by intro _ _; rfl) :
    PE X (.ListComp elt [⟨tg, iter, ifs, 0⟩, ⟨tg1, iter1, ifs1, 0⟩] scope pos) (tE g W (dLc2 n t c n1 t1 c1 e (own.map (·.2)) vs1)) := (pe_lc2 hc hN hi ok hv hg ht hi1 hg1 ht1 he hs hs1).impF (tLc2_ok hv hn)
theorem ds_setLc2 {i : Nat} {y : Str} {py : Pos} {elt tg iter tg1 iter1 : Expr} {ifs ifs1 : List Expr} {scope : Scope} {own : List (Str × Nat)} {pos spos : Pos} {n n1 : Mo Its} {t t1 : D → Mo Unit} {c c1 : Mo Bool} {e : Mo Vl} (vs1 : List Nat) (hc : X.calm = true) (hN : X.N.Nodup) (hy : X.N[i]? = some y) (hyl : X.env.scope.names.lookup y = some .local)
    (hsw : swapsWith (.ListComp elt [⟨tg, iter, ifs, 0⟩, ⟨tg1, iter1, ifs1, 0⟩] scope pos) (some (.Name y py)) spos.line X.env = pure true) (hn : ItsOk n) (hi : PI X tg iter (tI g W n)) (ok : BlkOk X.N X.env.scope scope own) (hv : ∀ i ∈ vs1, i ∈ own.map (·.2))
    (hg : ∀ (s : Shared) (H : Hp) (C : Addr) (cl : List (Str × Addr)) (fp : List Addr), PG (X.blk s H scope (compEnvC scope cl C X.env) fp) tg (tG g (own.map (·.2)) t)) (ht : ∀ (s : Shared) (H : Hp) (C : Addr) (cl : List (Str × Addr)) (fp : List Addr), PTs (X.blk s H scope (compEnvC scope cl C X.env) fp) ifs (tT g Wn c))
    (hi1 : ∀ (s : Shared) (H : Hp) (C : Addr) (cl : List (Str × Addr)) (fp : List Addr), PI (X.blk s H scope (compEnvC scope cl C X.env) fp) tg1 iter1 (tI g Wn n1))
    (hg1 : ∀ (s : Shared) (H : Hp) (C : Addr) (cl : List (Str × Addr)) (fp : List Addr), PG (X.blk s H scope (compEnvC scope cl C X.env) fp) tg1 (tG g vs1 t1)) (ht1 : ∀ (s : Shared) (H : Hp) (C : Addr) (cl : List (Str × Addr)) (fp : List Addr), PTs (X.blk s H scope (compEnvC scope cl C X.env) fp) ifs1 (tT g Wn c1))
    (he : ∀ (s : Shared) (H : Hp) (C : Addr) (cl : List (Str × Addr)) (fp : List Addr), PE (X.blk s H scope (compEnvC scope cl C X.env) fp) elt (tE g Wn e)) (hs : ∀ x, foldedSetIterable iter X.env x = pure x := by intro _; rfl) (hs1 : ∀ env x, foldedSetIterable iter1 env x = pure x := by intro _ _; rfl) :
    PS X (.Assign [.Name y py] (.ListComp elt [⟨tg, iter, ifs, 0⟩, ⟨tg1, iter1, ifs1, 0⟩] scope pos) spos) (tS g W (sSet i (dLc2 n t c n1 t1 c1 e (own.map (·.2)) vs1))) := (ps_setLc2 hc hN hy hyl hsw hi ok hv hg ht hi1 hg1 ht1 he hs hs1).impF fun D σ H h => tLc2_ok hv hn _ _ _ (sSet_ok D σ H h)

/-! ### what is never reached -/
theorem ds_bad {st : Stmt} : PS X st (tS g W (fun _ => .bad)) := ⟨fun _ _ _ _ _ _ ⟨_, _, _, _, _, p⟩ => p.elim⟩
theorem dss_bad {st : List Stmt} : PSs X st (tS g W (fun _ => .bad)) := ⟨fun _ _ _ _ _ _ ⟨_, _, _, _, _, p⟩ => p.elim⟩
theorem de_bad {e : Expr} : PE X e (tE g W (fun _ => .bad)) := ⟨fun _ _ _ _ _ _ ⟨_, _, _, _, _, p⟩ => p.elim⟩
theorem dt_bad {e : Expr} : PT X e (tT g W (fun _ => .bad)) := ⟨fun _ _ _ _ _ _ ⟨_, _, _, _, _, p⟩ => p.elim⟩
end
end Fx

/-! FxL: names stored in parallel; dicts; more built-ins; range of three -/
namespace Fx
open PySem PySem.Spec PyProof.Rows L2 LamX
def putV (i : Nat) (x : Vl) : Mo Unit := match x with
  | .dat d => setD i d
  | .own o => setO i o
  | .loc _ => fun _ => .bad
def putVs : List Nat → List Vl → Mo Fl
  | i :: is, x :: xs => mb (putV i x) fun _ => putVs is xs
  | [], [] => mp .next
  | _, _ => fun _ => .bad
def sPar (is : List Nat) (r : Mo (List Vl)) : Mo Fl := mb r fun xs => putVs is xs
section
variable {g : Gx} {F : Fc} {W : WX} {X : Cx} {σ : L2.St} {Hd H Hd0 H0 : Hp} {w w0 : Ow} {E E' : En}
theorem putV_ok {i : Nat} {x : Vl} {vs : List V} {v : V} {xs : List Vl} (dF : ∀ a, F.H0 a ≠ none → H0 a ≠ none) (e0 : Eff Hd0 H0 w0 Hd H w) (s : Sr g F Hd H E σ w) (r : VFam g Hd H w σ H0 (v :: vs) (x :: xs)) (h : putV i x E = .ok () E') (nl : ∀ y ∈ xs, ∀ j, y ≠ .loc j) :
    ∃ w', Eff Hd0 H0 w0 Hd H w' ∧ Sr g F Hd H E' (σ.set i (some v)) w' ∧ VFam g Hd H w' (σ.set i (some v)) H0 vs xs := by
  obtain ⟨hl, TA, t1, t2, t3⟩ := r
  have rest : ∀ {w' : Ow}, (∀ k a, TA (k + 1) a → w' a = none) → VFam g Hd H w' (σ.set i (some v)) H0 vs xs := fun {w'} hw => by
    refine ⟨by simpa using hl, fun k a => TA (k + 1) a, fun k a z => ?_, fun k l a zk zl => by have := t2 _ _ _ zk zl; omega, fun k y q => ?_⟩
    · obtain ⟨z1, z2, z3, z4, o, z5⟩ := t1 (k + 1) a z
      exact ⟨z1, z2, hw k a z, z4, o, by simpa using z5⟩
    · obtain ⟨u, h1, h2⟩ := t3 (k + 1) y (by simpa using q)
      refine ⟨u, by simpa using h1, ?_⟩
      cases y with
      | dat _ => exact h2
      | own _ => exact h2
      | loc j => exact absurd rfl (nl _ (List.mem_of_getElem? q) j)
  obtain ⟨u, h1, h2⟩ := t3 0 x rfl
  have hu : v = u := by simpa using h1
  subst hu
  cases x with
  | loc _ => simp [putV] at h
  | dat d =>
    simp only [putV, setD] at h
    split at h
    · rename_i hc
      cases h
      refine ⟨wOut w i, e0.trans Eff.out, s.setD hc h2, rest fun k a z => ?_⟩
      cases q : wOut w i a with
      | none => rfl
      | some j =>
        have := (wOut_some.mp q).1
        rw [(t1 _ _ z).2.2.1] at this
        cases this
    · cases h
  | own o =>
    simp only [putV, setO] at h
    split at h
    · rename_i hc
      cases h
      obtain ⟨p, rfl, h3⟩ := h2
      refine ⟨wIn w i (TA 0), e0.into fun a z => (t1 0 a z).1, s.setO hc (fun a z => ?_) h3, rest fun k a z => ?_⟩
      · obtain ⟨z1, z2, z3, z4, _⟩ := t1 0 a z
        refine ⟨?_, z2, z3, z4⟩
        cases y : F.H0 a with
        | none => rfl
        | some u => exact absurd z1 (dF a (by rw [y]; simp))
      · rw [wIn_out fun y => by have := t2 _ _ _ y z; omega]
        cases q : wOut w i a with
        | none => rfl
        | some j =>
          have := (wOut_some.mp q).1
          rw [(t1 _ _ z).2.2.1] at this
          cases this
    · cases h
theorem putV_noexc {i : Nat} {x : Vl} {E E' : En} {y : Xc} (h : putV i x E = .exc y E') : False := by
  cases x <;> simp only [putV, setD, setO] at h
  · split at h <;> cases h
  · cases h
  · split at h <;> cases h
theorem putVs_nl : ∀ {is : List Nat} {xs : List Vl} {E E' : En} {f : Fl}, putVs is xs E = .ok f E' → ∀ y ∈ xs, ∀ j, y ≠ .loc j
  | [], [], E, E', f, h => fun y hy => by cases hy
  | [], _ :: _, E, E', f, h => by simp [putVs] at h
  | _ :: _, [], E, E', f, h => by simp [putVs] at h
  | i :: is, x :: xs, E, E', f, h => by
    unfold putVs mb at h
    split at h
    · rename_i E1 q
      intro y hy j e
      rcases List.mem_cons.mp hy with rfl | hy
      · subst e; simp [putV] at q
      · exact putVs_nl h y hy j e
    · cases h
    · cases h
theorem putVs_noexc : ∀ {is : List Nat} {xs : List Vl} {E E' : En} {y : Xc}, putVs is xs E = .exc y E' → False
  | [], [], E, E', y, h => by cases h
  | [], _ :: _, E, E', y, h => by simp [putVs] at h
  | _ :: _, [], E, E', y, h => by simp [putVs] at h
  | i :: is, x :: xs, E, E', y, h => by
    unfold putVs mb at h
    split at h
    · exact putVs_noexc h
    · rename_i q
      exact putV_noexc q
    · cases h
/-- the values stored, one after another -/
theorem putVs_ok (dF : ∀ a, F.H0 a ≠ none → H0 a ≠ none) : ∀ {is : List Nat} {xs : List Vl} {vs : List V} {σ : L2.St} {w : Ow} {E : En} {D : Ends}, Eff Hd0 H0 w0 Hd H w → Sr g F Hd H E σ w → VFam g Hd H w σ H0 vs xs → PostS g F W Hd0 H0 w0 (putVs is xs E) D →
    is.length = vs.length ∧ D.nx ((is.zip vs).foldl (fun σ p => σ.set p.1 (some p.2)) σ) H
  | [], [], vs, σ, w, E, D, e0, s, r, p => by
    have hv : vs = [] := List.eq_nil_of_length_eq_zero r.1
    subst hv
    exact ⟨rfl, p σ Hd H w e0 s⟩
  | [], _ :: _, vs, σ, w, E, D, e0, s, r, p => p.elim
  | _ :: _, [], vs, σ, w, E, D, e0, s, r, p => p.elim
  | i :: is, x :: xs, vs, σ, w, E, D, e0, s, r, p => by
    cases vs with
    | nil => have := r.1; simp at this
    | cons v vs =>
      cases q : putVs (i :: is) (x :: xs) E with
      | bad => rw [q] at p; exact p.elim
      | exc y E' => exact (putVs_noexc q).elim
      | ok f E2 =>
        have nl := putVs_nl q
        unfold putVs mb at p
        cases q2 : putV i x E with
        | ok u E1 =>
          rw [q2] at p
          obtain ⟨w', k1, k2, k3⟩ := putV_ok dF e0 s r q2 fun y hy => nl y (List.mem_cons_of_mem _ hy)
          obtain ⟨z1, z2⟩ := putVs_ok dF k1 k2 k3 p
          exact ⟨by simp [z1], z2⟩
        | exc y E1 => exact (putV_noexc q2).elim
        | bad => rw [q2] at p; exact p.elim
theorem sPar_ok {is : List Nat} {r : Mo (List Vl)} : ∀ D σ H, tS g W (sPar is r) D σ H → tV g W r σ H fun vs H1 => is.length = vs.length ∧ D.nx ((is.zip vs).foldl (fun σ p => σ.set p.1 (some p.2)) σ) H1 := by
  rintro D σ H ⟨F, Hd, E, w, s, p⟩
  exact ⟨F, Hd, E, w, s, (PostS.bind0 p).imp fun xs E1 Hd1 H1 w1 _ e1 s1 p1 vs rv => putVs_ok s.dom e1 s1 rv p1⟩
theorem tV_mono {r : Mo (List Vl)} {σ : L2.St} {H : Hp} {Q Q' : List V → Hp → Prop} (h : tV g W r σ H Q) (k : ∀ v H, Q v H → Q' v H) : tV g W r σ H Q' := by
  obtain ⟨F, Hd, E, w, s, p⟩ := h
  exact ⟨F, Hd, E, w, s, p.imp fun _ _ _ _ _ _ _ _ z v r => k v _ (z v r)⟩
theorem ds_par {i j : Nat} {x y : Str} {a b : Expr} {r : Mo (List Vl)} {px py pt pos : Pos} {kt k2 : Nat} {pt2 : Pos} (hc : X.calm = true) (hN : X.N.Nodup) (hi : X.N[i]? = some x) (hj : X.N[j]? = some y) (hij : i ≠ j) (hx : X.env.scope.names.lookup x = some .local) (hy : X.env.scope.names.lookup y = some .local) (ha : PA X [a, b] (tV g W r))
    (hw : swappedStores [.Tuple [.Name x px, .Name y py] kt pt] (.Tuple [a, b] k2 pt2) X.env = pure (some [x, y])) (hs : swapsWithSole [.Tuple [.Name x px, .Name y py] kt pt] (.Tuple [a, b] k2 pt2) pos.line X.env = pure false := by rfl) :
    PS X (.Assign [.Tuple [.Name x px, .Name y py] kt pt] (.Tuple [a, b] k2 pt2) pos) (tS g W (sPar [i, j] r)) := (ps_par hc hN hi hj hij hx hy ha hw hs).impF fun D σ H h => tV_mono (sPar_ok D σ H h) fun vs H1 ⟨hl, hq⟩ => by
  match vs, hl with
  | [v, u], _ => exact ⟨v, u, rfl, hq⟩
theorem ds_par3 {i j l : Nat} {x y z : Str} {a b c : Expr} {r : Mo (List Vl)} {px py pz pt pos : Pos} {kt k2 : Nat} {pt2 : Pos} (hc : X.calm = true) (hN : X.N.Nodup) (hi : X.N[i]? = some x) (hj : X.N[j]? = some y) (hl : X.N[l]? = some z) (hij : i ≠ j) (hil : i ≠ l) (hjl : j ≠ l) (hx : X.env.scope.names.lookup x = some .local) (hy : X.env.scope.names.lookup y = some .local) (hz : X.env.scope.names.lookup z = some .local) (ha : PA X [a, b, c] (tV g W r))
    (hw : swappedStores [.Tuple [.Name x px, .Name y py, .Name z pz] kt pt] (.Tuple [a, b, c] k2 pt2) X.env = pure (some [x, y, z])) (hs : swapsWithSole [.Tuple [.Name x px, .Name y py, .Name z pz] kt pt] (.Tuple [a, b, c] k2 pt2) pos.line X.env = pure false := by rfl) :
    PS X (.Assign [.Tuple [.Name x px, .Name y py, .Name z pz] kt pt] (.Tuple [a, b, c] k2 pt2) pos) (tS g W (sPar [i, j, l] r)) := (ps_par3 hc hN hi hj hl hij hil hjl hx hy hz ha hw hs).impF fun D σ H h => tV_mono (sPar_ok D σ H h) fun vs H1 ⟨hl, hq⟩ => by
  match vs, hl with
  | [v, u, t], _ => exact ⟨v, u, t, rfl, hq⟩

/-! ### built-ins of two intsD; sum; abs; range of three -/
def dB2 (o : Int → Int → Int) (f h : Mo Vl) : Mo Vl := mb f fun a => mb h fun b => fun E => match dNum a, dNum b with
  | some i, some j => .ok (.dat (.int (o i j))) E
  | _, _ => .bad
def oMax (i j : Int) : Int := if j > i then j else i
def oMin (i j : Int) : Int := if j < i then j else i
theorem de_b2 {id : String} {x : Str} {a b : Expr} {p pos : Pos} {o : Int → Int → Int} {f h : Mo Vl} (hc : CallR X (.builtin id) (fun xs H Q => ∃ i j, xs = [.int i, .int j] ∧ Q (.int (o i j)) H)) (hg : Gl X x) (hm : X.mg x = none) (hv : bootBuiltins x = some (.builtin id)) (ha : PE X a (tE g W f)) (hb : PE X b (tE g W h)) (hn : x ≠ "__name__" := by decide) (hdb : (x == ("__debug__" : Str)) = false := by decide)
    (he : starEach (a :: [b]) X.env = (false, eval a X.env) :: starEach [b] X.env := by rfl) (hb2 : starEach (b :: []) X.env = (false, eval b X.env) :: starEach [] X.env := by rfl) (hpl : (backTo pos (starEach [b] X.env)).any (·.1) = false := by rfl) : PE X (.Call (.Name x p) [a, b] [] pos) (tE g W (dB2 o f h)) := (pe_callB hc hg hm hv (pa_cons ha (pa_cons hb pa_nil hb2) he) hn hdb he hpl).impF fun σ H Q ⟨F, Hd, E, w, s, p⟩ => by
  refine ⟨F, Hd, E, w, s, (PostA.bind p).imp fun x E1 Hd1 H1 w1 _ e1 s1 p1 v rv => ?_⟩
  refine ⟨F, Hd1, E1, w1, s1, (PostA.bind p1).imp fun y E2 Hd2 H2 w2 _ e2 s2 p2 u ru => ?_⟩
  split at p2
  · rename_i i j hi hj
    rw [dNum_eq hi] at rv
    rw [dNum_eq hj] at ru
    have hv : v = .int i := by simpa only [VRel, Rep] using rv
    have hu : u = .int j := by simpa only [VRel, Rep] using ru
    exact ⟨i, j, by rw [hv, hu], p2.here s2 _ (by show Rep g Hd2 (.int _) (.int _); exact rep_int)⟩
  · exact p2.elim
theorem de_max2 {a b : Expr} {p pos : Pos} {f h : Mo Vl} (hc : X.calm = true) (hg : Gl X "max") (hm : X.mg "max" = none) (ha : PE X a (tE g W f)) (hb : PE X b (tE g W h)) (hv : bootBuiltins "max" = some (.builtin "max") := by rfl)
    (he : starEach (a :: [b]) X.env = (false, eval a X.env) :: starEach [b] X.env := by rfl) (hb2 : starEach (b :: []) X.env = (false, eval b X.env) :: starEach [] X.env := by rfl) (hpl : (backTo pos (starEach [b] X.env)).any (·.1) = false := by rfl) : PE X (.Call (.Name "max" p) [a, b] [] pos) (tE g W (dB2 oMax f h)) := de_b2 (call_max2 hc) hg hm hv ha hb (by decide) (by decide) he hb2 hpl
theorem de_min2 {a b : Expr} {p pos : Pos} {f h : Mo Vl} (hc : X.calm = true) (hg : Gl X "min") (hm : X.mg "min" = none) (ha : PE X a (tE g W f)) (hb : PE X b (tE g W h)) (hv : bootBuiltins "min" = some (.builtin "min") := by rfl)
    (he : starEach (a :: [b]) X.env = (false, eval a X.env) :: starEach [b] X.env := by rfl) (hb2 : starEach (b :: []) X.env = (false, eval b X.env) :: starEach [] X.env := by rfl) (hpl : (backTo pos (starEach [b] X.env)).any (·.1) = false := by rfl) : PE X (.Call (.Name "min" p) [a, b] [] pos) (tE g W (dB2 oMin f h)) := de_b2 (call_min2 hc) hg hm hv ha hb (by decide) (by decide) he hb2 hpl
def intsD : List D → Option (List Int)
  | [] => some []
  | .int b :: r => (intsD r).map (b :: ·)
  | _ => none
theorem intsD_eq : ∀ {ds : List D} {bs : List Int}, intsD ds = some bs → ds = bs.map .int
  | [], bs, h => by simp only [intsD, Option.some.injEq] at h; subst h; rfl
  | d :: ds, bs, h => by
    cases d <;> simp only [intsD] at h <;> try (cases h)
    rename_i b
    obtain ⟨cs, h1, rfl⟩ := Option.map_eq_some_iff.mp h
    rw [intsD_eq h1]; rfl
def oSum : D → Option Vl
  | .lst ds => (intsD ds).map fun ns => .dat (.int ns.sum)
  | _ => none
def rSum1 (K : PySem.W.Frag) : V → Hp → VK → Prop := fun x H Q => ∃ (a : Addr) (ns : List Int), x = V.ref a ∧ SqL K H a (ns.map V.int) ∧ Q (.int ns.sum) H
theorem u_sum {K : PySem.W.Frag} : U1 g (rSum1 K) oSum := by
  intro Hd H x a u Q e ra q k
  cases a <;> simp only [oSum, reduceCtorEq] at q
  rename_i ds
  obtain ⟨bs, hb, rfl⟩ := Option.map_eq_some_iff.mp q
  obtain ⟨p, vs, rfl, h1, hz, h2⟩ := ra.lst e
  rw [intsD_eq hb] at h2
  rw [RepL.ints_iff.mp h2] at h1
  exact ⟨p, bs, rfl, SqL.of h1, new_dat e rep_int k⟩
theorem de_sum {a : Expr} {p pos : Pos} {f : Mo Vl} (hcm : X.calm = true) (hg : Gl X "sum") (hm : X.mg "sum" = none) (ha : PE X a (tE g W f)) (hv : bootBuiltins "sum" = some (.builtin "sum") := by rfl) (he : starEach (a :: []) X.env = (false, eval a X.env) :: starEach [] X.env := by rfl) (hpl : (backTo pos (starEach [] X.env)).any (·.1) = false := by rfl) :
    PE X (.Call (.Name "sum" p) [a] [] pos) (tE g W (d1 oSum f)) := de_b1 (r := rSum1 X.K) (fun pins s σ H xs us Q I r ⟨x, e, a, bs, h1, h2⟩ => cr_sum hcm pins s σ H xs us Q I r ⟨a, bs, by rw [e, h1], h2⟩) u_sum hg hm hv ha (by decide) (by decide) he hpl
def oAbs : D → Option Vl
  | .int i => some (.dat (.int (if i < 0 then -i else i)))
  | _ => none
theorem u_abs : U1 g (fun x H Q => ∃ i, x = .int i ∧ Q (.int (if i < 0 then -i else i)) H) oAbs := by
  intro Hd H x a u Q e ra q k
  cases a <;> simp only [oAbs, reduceCtorEq, Option.some.injEq] at q
  rename_i i
  subst q
  exact ⟨i, ra.int, new_dat e rep_int k⟩
theorem de_abs {a : Expr} {p pos : Pos} {f : Mo Vl} (hg : Gl X "abs") (hm : X.mg "abs" = none) (ha : PE X a (tE g W f)) (hv : bootBuiltins "abs" = some (.builtin "abs") := by rfl) (he : starEach (a :: []) X.env = (false, eval a X.env) :: starEach [] X.env := by rfl) (hpl : (backTo pos (starEach [] X.env)).any (·.1) = false := by rfl) :
    PE X (.Call (.Name "abs" p) [a] [] pos) (tE g W (d1 oAbs f)) := de_b1 (r := fun x H Q => ∃ i, x = .int i ∧ Q (.int (if i < 0 then -i else i)) H) (fun pins s σ H xs us Q I r ⟨x, e, i, h1, h2⟩ => call_abs pins s σ H xs us Q I r ⟨i, by rw [e, h1], h2⟩) u_abs hg hm hv ha (by decide) (by decide) he hpl
def rng3D (i c : Int) (n : Nat) : List D := (List.range n).map fun (k : Nat) => D.int (i + (k : Int) * c)
def iRange3 (fa fb fc : Mo Vl) : Mo Its := mb fa fun x => mb fb fun y => mb fc fun z => fun E => match dNum x, dNum y, dNum z with
  | some i, some j, some c => if c ≠ 0 ∧ c.natAbs < 1073741824 ∧ Builtin.Range.small i j c = true ∧ 0 ≤ Builtin.Range.rangeSize i j c ∧ (Builtin.Range.rangeSize i j c).toNat ≤ lim then .ok (rng3D i c (Builtin.Range.rangeSize i j c).toNat, none) E else .bad
  | _, _, _ => .bad
theorem di_range3 {tg a b c : Expr} {p pos : Pos} {f h k : Mo Vl} (hg : Gl X "range") (hm : X.mg "range" = none) (ha : PE X a (tE g W f)) (hb : PE X b (tE g W h)) (hc : PE X c (tE g W k)) (h1 : starEach (a :: [b, c]) X.env = (false, eval a X.env) :: starEach [b, c] X.env := by rfl) (h2 : starEach (b :: [c]) X.env = (false, eval b X.env) :: starEach [c] X.env := by rfl) (h3 : starEach (c :: []) X.env = (false, eval c X.env) :: starEach [] X.env := by rfl)
    (hpl : (backTo pos (starEach [b, c] X.env)).any (·.1) = false := by rfl) : PI X tg (.Call (.Name "range" p) [a, b, c] [] pos) (tI g W (iRange3 f h k)) := (pi_range3 hg hm (pa_cons ha (pa_cons hb (pa_cons hc pa_nil h3) h2) h1) h1 hpl).impF fun σ H R ⟨F, Hd, E, w, s, p⟩ => by
  refine ⟨F, Hd, E, w, s, (PostA.bind p).imp fun x E1 Hd1 H1 w1 _ e1 s1 p1 v rv => ?_⟩
  refine ⟨F, Hd1, E1, w1, s1, (PostA.bind p1).imp fun y E2 Hd2 H2 w2 _ e2 s2 p2 u ru => ?_⟩
  refine ⟨F, Hd2, E2, w2, s2, (PostA.bind p2).imp fun z E3 Hd3 H3 w3 _ e3 s3 p3 t rt => ?_⟩
  split at p3
  · rename_i i j c hi hj hk
    rw [dNum_eq hi] at rv
    rw [dNum_eq hj] at ru
    rw [dNum_eq hk] at rt
    have hv : v = .int i := by simpa only [VRel, Rep] using rv
    have hu : u = .int j := by simpa only [VRel, Rep] using ru
    have ht : t = .int c := by simpa only [VRel, Rep] using rt
    split at p3
    · rename_i hz
      obtain ⟨z1, z2, z3, z5, z4⟩ := hz
      rw [lim_eq] at z4
      refine ⟨i, j, c, (Builtin.Range.rangeSize i j c).toNat, by rw [hv, hu, ht], ⟨z1, z2, z3, by omega⟩, p3.here s3 _ ⟨by unfold rng3D; simpa using z4, fun _ => True, _, by unfold rng3D; rw [List.length_map, List.length_range]; exact walk_rangeC, fun _ _ => trivial, ?_⟩⟩
      intro m d Hd1 H1 x H2 hd e1 e2 y
      obtain ⟨rfl, rfl⟩ := y
      refine ⟨Hd1, Grow.refl e2, ?_⟩
      unfold rng3D at hd
      rw [List.getElem?_map] at hd
      obtain ⟨n, hn, rfl⟩ := Option.map_eq_some_iff.mp hd
      have : m = n := by
        obtain ⟨h1, h2⟩ := List.getElem?_eq_some_iff.mp hn
        simpa using h2
      subst this
      exact rep_int
    · exact p3.elim
  · exact p3.elim
theorem itsOk_range3 {f h k : Mo Vl} : ItsOk (iRange3 f h k) := by
  intro E q E' hq i hi
  unfold iRange3 mb at hq
  repeat' first | (split at hq) | (dsimp only at hq; split at hq)
  all_goals first | (cases hq; cases hi; done) | cases hq

/-! ### dicts whose keys are intsD -/
def getK (kvs : List (Int × D)) (k : Int) : Option D := match kvs with
  | [] => none
  | (a, d) :: r => if a = k then some d else getK r k
def putKD (kvs : List (Int × D)) (k : Int) (d : D) : List (Int × D) := if (kvs.any fun kv => decide (kv.1 = k)) = true then kvs.map (fun kv => if kv.1 = k then (kv.1, d) else kv) else kvs ++ [(k, d)]
theorem getK_rep {Hd : Hp} : ∀ {kvs : List (Int × D)} {vs : List (Key × V)} {k : Int} {d : D}, RepK g Hd kvs vs → getK kvs k = some d → ∃ v, valV vs (Sum.inl k) = some v ∧ Rep g Hd d v
  | [], vs, k, d, r, h => by cases h
  | (a, x) :: kvs, vs, k, d, r, h => by
    obtain ⟨v, ws, rfl, r1, r2⟩ := r
    unfold getK at h
    split at h
    · rename_i e
      cases h
      subst e
      exact ⟨v, valV_pos rfl, r1⟩
    · rename_i e
      obtain ⟨u, h1, h2⟩ := getK_rep r2 h
      exact ⟨u, by rw [valV_neg (by simpa using e)]; exact h1, h2⟩
theorem any_repK {Hd : Hp} {k : Int} : ∀ {kvs : List (Int × D)} {vs : List (Key × V)}, RepK g Hd kvs vs → (vs.any fun kv => decide (kv.1 = (Sum.inl k : Key))) = kvs.any fun kv => decide (kv.1 = k)
  | [], vs, r => by rw [show vs = [] from r]; rfl
  | (a, x) :: kvs, vs, r => by
    obtain ⟨v, ws, rfl, r1, r2⟩ := r
    rw [List.any_cons, List.any_cons, any_repK r2]
    simp
theorem map_repK {Hd : Hp} {k : Int} {d : D} {u : V} (hu : Rep g Hd d u) : ∀ {kvs : List (Int × D)} {vs : List (Key × V)}, RepK g Hd kvs vs → RepK g Hd (kvs.map (fun kv => if kv.1 = k then (kv.1, d) else kv)) (vs.map (fun kv => if kv.1 = (Sum.inl k : Key) then (kv.1, u) else kv))
  | [], vs, r => by rw [show vs = [] from r]; exact rfl
  | (a, x) :: kvs, vs, r => by
    obtain ⟨v, ws, rfl, r1, r2⟩ := r
    by_cases e : a = k
    · subst e
      exact ⟨u, _, by simp, by simpa using hu, map_repK hu r2⟩
    · refine ⟨v, _, ?_, ?_, map_repK hu r2⟩
      · simp [e]
      · simpa [e] using r1
theorem app_repK {Hd : Hp} {k : Int} {d : D} {u : V} (hu : Rep g Hd d u) : ∀ {kvs : List (Int × D)} {vs : List (Key × V)}, RepK g Hd kvs vs → RepK g Hd (kvs ++ [(k, d)]) (vs ++ [(Sum.inl k, u)])
  | [], vs, r => by rw [show vs = [] from r]; exact ⟨u, [], rfl, hu, rfl⟩
  | (a, x) :: kvs, vs, r => by
    obtain ⟨v, ws, rfl, r1, r2⟩ := r
    exact ⟨v, _, rfl, r1, app_repK hu r2⟩
theorem put_repK {Hd : Hp} {k : Int} {d : D} {u : V} (hu : Rep g Hd d u) {kvs : List (Int × D)} {vs : List (Key × V)} (r : RepK g Hd kvs vs) : RepK g Hd (putKD kvs k d) (putK vs (Sum.inl k) u) := by
  unfold putKD putK
  rw [any_repK r]
  split
  · exact map_repK hu r
  · exact app_repK hu r
theorem repK_len {Hd : Hp} : ∀ {kvs : List (Int × D)} {vs : List (Key × V)}, RepK g Hd kvs vs → kvs.length = vs.length
  | [], vs, r => by rw [show vs = [] from r]; rfl
  | (a, x) :: kvs, vs, r => by
    obtain ⟨v, ws, rfl, r1, r2⟩ := r
    simp [repK_len r2]
/-- {k: v, ..}: the pairs -/
def kNil : Mo (List (Int × D)) := mp []
def kCons (f h : Mo Vl) (r : Mo (List (Int × D))) : Mo (List (Int × D)) := mb f fun a => fun E => match dNum a with
  | some k => (mb h fun b => mb (frz b) fun d => mb r fun ps => mp ((k, d) :: ps)) E
  | none => .bad
def tK (g : Gx) (W : WX) (f : Mo (List (Int × D))) : L2.St → Hp → (List (V × V) → Hp → Prop) → Prop := fun σ H Q => ∃ F Hd E w, Sr g F Hd H E σ w ∧ PostA g F W σ Hd H w (f E) fun a _ Hd' H' w' => ∀ ps, RepL g Hd' (a.map (·.2)) (ps.map (·.2)) → ps.map (·.1) = a.map (fun kv => V.int kv.1) → Q ps H'
structure PKs (X : Cx) (g : Gx) (W : WX) (pos : Pos) (keys : List (Option Expr)) (values : List Expr) (r : Mo (List (Int × D))) : Prop where
  run : ∃ trs, PPs X pos keys values trs ∧ ∀ σ H Q, tK g W r σ H Q → tPairs trs σ H Q
theorem dks_nil {pos : Pos} : PKs X g W pos [] [] kNil := ⟨[], pps_nil, fun σ H Q ⟨F, Hd, E, w, s, p⟩ => p.here s [] RepL.nil rfl⟩
theorem dks_cons {pos : Pos} {k v : Expr} {ks : List (Option Expr)} {vs : List Expr} {f h : Mo Vl} {r : Mo (List (Int × D))} (hk : PE X k (tE g W f)) (hv : PE X v (tE g W h)) (hr : PKs X g W pos ks vs r) : PKs X g W pos (some k :: ks) (v :: vs) (kCons f h r) := by
  obtain ⟨trs, h1, h2⟩ := hr.run
  refine ⟨_, pps_cons hk hv h1, fun σ H Q ⟨F, Hd, E, w, s, p⟩ => ?_⟩
  refine ⟨F, Hd, E, w, s, (PostA.bind p).imp fun a E1 Hd1 H1 w1 _ e1 s1 p1 x rx => ?_⟩
  split at p1
  · rename_i n hn
    rw [dNum_eq hn] at rx
    have hx : x = .int n := by simpa only [VRel, Rep] using rx
    refine ⟨F, Hd1, E1, w1, s1, (PostA.bind0 p1).imp fun b E2 Hd2 H2 w2 _ e2 s2 p2 y ry => ?_⟩
    obtain ⟨d, E3, Hd3, w3, _, k1, k2, k3, k4⟩ := frz_post e2 s2 ry (PostA.bind0 p2)
    refine h2 _ _ _ ⟨F, Hd3, E3, w3, k2, (PostA.bind (k4.shift k1)).imp fun ps E4 Hd4 H4 w4 _ e4 s4 p4 qs rq1 rq2 => ?_⟩
    refine p4.here s4 ((x, y) :: qs) ?_ ?_
    · exact RepL.cons (k3.mono e4.hd) rq1
    · simp only [List.map_cons, rq2, hx]
  · exact p1.elim
def mergeD (kvs : List (Int × D)) (more : List (Int × D)) : List (Int × D) := more.foldl (fun acc kv => putKD acc kv.1 kv.2) kvs
def dDict (r : Mo (List (Int × D))) : Mo Vl := mb r fun kvs => if kvs.length ≤ 15 then mp (.own (.dct (mergeD [] kvs))) else fun _ => .bad
theorem merge_repK {Hd : Hp} : ∀ {more : List (Int × D)} {ms : List (Key × V)} {kvs : List (Int × D)} {vs : List (Key × V)}, RepK g Hd more ms → RepK g Hd kvs vs → RepK g Hd (mergeD kvs more) (mergeK vs ms)
  | [], ms, kvs, vs, r, r2 => by rw [show ms = [] from r]; exact r2
  | (k, d) :: more, ms, kvs, vs, r, r2 => by
    obtain ⟨v, ws, rfl, r1, r3⟩ := r
    show RepK g Hd (mergeD (putKD kvs k d) more) (mergeK (putK vs (Sum.inl k) v) ws)
    exact merge_repK r3 (put_repK r1 r2)
theorem de_dict {pos : Pos} {keys : List (Option Expr)} {values : List Expr} {r : Mo (List (Int × D))} (h : PKs X g W pos keys values r) (hall : keys.all (·.isSome) = true := by rfl) (hl : keys.length = values.length := by rfl) (h0 : keys ≠ [] := by exact List.cons_ne_nil _ _)
    (h15 : keys.length ≤ 15 := by decide) : PE X (.Dict keys values pos) (tE g W (dDict r)) := by
  obtain ⟨trs, h1, h2⟩ := h.run
  refine (pe_disp h1 hall hl h0 h15).impF fun σ H Q ⟨F, Hd, E, w, s, p⟩ => ?_
  intro q hq
  have wq : w q = none := by
    cases y : w q with
    | none => rfl
    | some i => exact absurd hq (s.wh _ i y)
  have hdq := s.ext.free hq
  have s2 := s.upd (o := .dK []) hdq wq (plO_none hq)
  have e2 : Eff Hd H w Hd (L2.upd H q (.dK [])) w := Eff.refl.upd hq
  refine h2 _ _ _ ⟨F, Hd, E, w, s2, ((PostA.bind0 p).shift e2).imp fun kvs E1 Hd1 H1 w1 _ e1 s1 p1 ps rp1 rp2 => ?_⟩
  split at p1
  · rename_i hz
    have nq : (L2.upd H q (.dK [])) q ≠ none := by rw [upd_same]; simp
    obtain ⟨d1, v1⟩ := keepN e1 hdq wq nq
    have l1 : H1 q = some (.dK []) := e1.fr _ _ upd_same wq (by intro _ z; cases z)
    have key : ∀ {kvs : List (Int × D)} {ps : List (V × V)}, RepL g Hd1 (kvs.map (·.2)) (ps.map (·.2)) → ps.map (·.1) = kvs.map (fun kv => V.int kv.1) → ∃ zs : List (Key × V), ps = zs.map (fun kv => (kV kv.1, kv.2)) ∧ RepK g Hd1 kvs zs := fun {kvs} => by
      induction kvs with
      | nil =>
        intro ps h1 h2
        have : ps = [] := by simpa using h2
        subst this
        exact ⟨[], rfl, rfl⟩
      | cons kv kvs ih =>
        intro ps h1 h2
        cases ps with
        | nil => simp at h2
        | cons pr ps =>
          simp only [List.map_cons, List.cons.injEq] at h2
          obtain ⟨v, ws, e3, r3, r4⟩ := RepL.cons_iff.mp h1
          simp only [List.map_cons, List.cons.injEq] at e3
          obtain ⟨e4, e5⟩ := e3
          subst e5
          obtain ⟨zs, h4, h5⟩ := ih r4 h2.2
          obtain ⟨p1, p2⟩ := pr
          obtain ⟨h2a, h2b⟩ := h2
          refine ⟨(Sum.inl kv.1, p2) :: zs, ?_, p2, zs, rfl, by rw [show p2 = v from e4]; exact r3, h5⟩
          rw [List.map_cons, ← h4]
          rw [show p1 = V.int kv.1 from h2a]
          rfl
    obtain ⟨zs, hz1, hz2⟩ := key rp1 rp2
    refine ⟨l1, zs, hz1, by rw [← repK_len hz2]; exact hz, ?_⟩
    have k1 := (e2.trans e1).upd (p := q) (o := .dK (mergeK [] zs)) hq
    have k2 := s1.upd (o := .dK (mergeK [] zs)) d1 v1 (plO_dK l1)
    refine p1 Hd1 _ w1 k1 k2 (.ref q) ⟨q, fun a => a = q, rfl, fun a ha => ?_, rfl, _, upd_same, merge_repK hz2 rfl⟩
    subst ha
    exact ⟨hq, d1, v1, by rw [upd_same]; simp⟩
  · exact p1.elim
/-- d[k], d a local name -/
def isDct : Option O → Bool
  | some (.dct _) => true
  | _ => false
def dGetK (i : Nat) (f : Mo Vl) : Mo Vl := fun E0 => if isDct (objAt E0 i) = true then (mb f fun a E => match dNum a with
  | some k => match objAt E i with
    | some (.dct kvs) => match getK kvs k with
      | some d => .ok (.dat d) E
      | none => .bad
    | _ => .bad
  | none => .bad) E0 else .bad
theorem isDct_of {o : Option O} (h : isDct o = true) : ∃ xs, o = some (.dct xs) := by
  cases o with
  | none => simp [isDct] at h
  | some o => cases o <;> simp [isDct] at h <;> exact ⟨_, rfl⟩
theorem de_dget {x : Str} {i : Nat} {ie : Expr} {npos pos : Pos} {f : Mo Vl} (hu : X.A.units + 1 < cLine) (ho : PE X (.Name x npos) (tVar i)) (hi : PE X ie (tE g W f)) (hs : NoSl ie := by intro _ _; rfl) : PE X (.Subscript (.Name x npos) ie pos) (tE g W (dGetK i f)) := (pe_dget hu ho hi hs).impF fun σ H Q ⟨F, Hd, E, w, s, p⟩ => by
  unfold dGetK at p
  split at p
  · rename_i hl
    obtain ⟨xs0, h0⟩ := isDct_of hl
    obtain ⟨c, h1, h2, vs0, h3, _⟩ := objAt_slot s h0
    refine ⟨.ref c, h1, F, Hd, E, w, s, (PostA.bind p).imp fun a E1 Hd1 H1 w1 _ e1 s1 p1 v rv => ?_⟩
    split at p1
    · rename_i k hk
      rw [dNum_eq hk] at rv
      have hv : v = .int k := by simpa only [VRel, Rep] using rv
      split at p1
      · rename_i kvs q
        split at p1
        · rename_i d hd
          obtain ⟨c', k1, k2, vs, k3, k4⟩ := objAt_slot s1 q
          rw [h1] at k1
          cases k1
          obtain ⟨u, g1, g2⟩ := getK_rep k4 hd
          refine ⟨c, u, rfl, ?_, p1.here s1 u g2⟩
          have := DGet.k (k := Sum.inl k) k3
          rw [g1] at this
          rw [hv]
          exact this
        · exact p1.elim
      · exact p1.elim
    · exact p1.elim
  · exact p.elim
/-- d[k] = .. as a target -/
def gPutK (i : Nat) (fi : Mo Vl) : D → Mo Unit := fun d E0 => if isDct (objAt E0 i) = true then (mb fi fun j => fun E => match dNum j with
  | some k => match objAt E i with
    | some (.dct kvs) => if kvs.length < 1000 then .ok () (putO E i (.dct (putKD kvs k d))) else .bad
    | _ => .bad
  | none => .bad) E0 else .bad
theorem dg_put {x : Str} {i : Nat} {ie : Expr} {npos pos : Pos} {fi : Mo Vl} {ts : List Nat} (hu : X.A.units + 1 < cLine) (ho : PE X (.Name x npos) (tVar i)) (hi : PE X ie (tE g Wn fi))
    (ha : ∀ v, assign (.Subscript (.Name x npos) ie pos) X.env v = (do
      let ov ← holding [v] (eval (.Name x npos) X.env)
      let iv ← holding [v, ov] (eval ie X.env)
      standAt pos
      holding [v, ov, iv] (setItem ov iv v)
      release [v, ov, iv] []) := by intro _; rfl) : PG X (.Subscript (.Name x npos) ie pos) (tG g ts (gPutK i fi)) := (pg_sub ho hi (set_dict hu) ha).impF fun v σ H Q ⟨F, Hd, E, w, d, s, r, p⟩ => by
  unfold gPutK at p
  split at p
  · rename_i hl
    obtain ⟨xs0, h0⟩ := isDct_of hl
    obtain ⟨c, h1, h2, vs0, h3, _⟩ := objAt_slot s h0
    refine ⟨.ref c, h1, F, Hd, E, w, s, ?_⟩
    unfold mb at p
    cases q : fi E with
    | bad => rw [q] at p; exact p.elim
    | exc _ _ => rw [q] at p; exact p.elim
    | ok j E1 =>
      rw [q] at p
      intro Hd1 H1 w1 e1 s1 u ru
      dsimp only at p
      split at p
      · rename_i k hk
        split at p
        · rename_i kvs q2
          split at p
          · rename_i hz
            rw [dNum_eq hk] at ru
            have hu : u = .int k := by simpa only [VRel, Rep] using ru
            obtain ⟨c', k1, k2, vs, k3, k4⟩ := objAt_slot s1 q2
            rw [h1] at k1
            cases k1
            refine ⟨c, L2.upd H1 c (.dK (putK vs (Sum.inl k) v)), rfl, ?_, ?_⟩
            · rw [hu]
              exact DPut.k (k := Sum.inl k) k3 (by rw [sizeLine_eq, ← repK_len k4]; omega)
            · exact p σ Hd1 _ w1 (e1.trans (Eff.write k2)) (Sr.write s1 q2 h1 k2 ⟨k2, _, upd_same, put_repK (r.mono e1.hd) k4⟩ (plO_dK (by assumption))) ⟨rfl, fun _ _ => rfl⟩
          · exact p.elim
        · exact p.elim
      · exact p.elim
  · exact p.elim
end
end Fx

/-! FxM: the facts of a def; defs with a keyword default -/
namespace Fx
open PySem PySem.Spec PyProof.Rows L2 LamX
/-- a def of the text, where it stands -/
structure Df (K : PySem.W.Frag) (x qual : Str) (st : Stmt) (ps : List Str) where
  f : Addr
  fd : FuncData
  F : Fun K x qual st f fd
  b : Binds K fd ps []
/-- a def whose last parameter is a keyword with a default -/
structure DfK (K : PySem.W.Frag) (x qual : Str) (st : Stmt) (ps : List Str) (n : Nat) (kw : Str) (dv : V) where
  f : Addr
  fd : FuncData
  F : FunD K x qual (defArgs st) (defBody st) (defScope st) [] [(kw, dv)] f fd
  b0 : ∃ ds, Vals [dv] ds ∧ Binds K fd ps ds
  bk : ∃ gg : List Value → List Value → List Value, KBn K fd ps n [kw] gg (fun vs zs => vs ++ zs)
section
variable {P : Program} {w : World} {K : PySem.W.Frag} {mg : Str → Option Value} {base : Heap} {g : Gx}
theorem fn_okFD {x qual : Str} {st : Stmt} {f : Addr} {fd : FuncData} {N ps : List Str} {k n m : Nat} {body : Mo Fl} {dvs : List V} {kws : List (Str × V)} (F : FunD K x qual (defArgs st) (defBody st) (defScope st) dvs kws f fd) (Sc : FnScope N ps (defScope st)) (hn : ps.length = n) (hm : N.length - n = m)
    (hbody : ∀ (cdv : Value) (A : Around) (outer : List Env) (s : Shared) (H : Hp) (E : XK), Room k (A.deeper (envOfC qual (defScope st) s.heap.objs.size f cdv)) →
      PSs (cxOf (L2.CX P w) P w K mg base N qual (defScope st) f cdv A outer s H E) (defBody st) (tS g (fun cls d _ H => E cls d H) body)) : FnOk P w K mg base (L2.CX P w) (k + 1) f fd ps (spF g n (mkF m body)) := by
  refine F.ok Sc (fun vs H Q E h => h.1.trans hn.symm) fun cdv A outer s H vs Q E hr h => ⟨_, hbody cdv A outer s H E hr, ?_⟩
  rw [start_eq, h.1, hm]
  exact body_ok h
theorem FnOk.imp {CX : CXT} {k : Nat} {f : Addr} {fd : FuncData} {ps : List Str} {sp sp' : Sp} (F : FnOk P w K mg base CX k f fd ps sp) (h : ∀ vs H Q E, sp' vs H Q E → sp vs H Q E) : FnOk P w K mg base CX k f fd ps sp' :=
  ⟨fun vs H Q E z => F.len vs H Q E (h vs H Q E z), fun A outer s H args us vs Q E hr e0 hb r hsp => F.run A outer s H args us vs Q E hr e0 hb r (h vs H Q E hsp)⟩
/-- a def of which nothing is asked -/
theorem fn_bad {CX : CXT} {k n : Nat} {f : Addr} {fd : FuncData} {ps : List Str} : FnOk P w K mg base CX k f fd ps (spF g n fun _ => .bad) :=
  ⟨fun vs H Q E z => by obtain ⟨_, _, _, _, _, _, _, _, q⟩ := z; exact q.elim, fun A outer s H args us vs Q E hr e0 hb r z => by obtain ⟨_, _, _, _, _, _, _, _, q⟩ := z; exact q.elim⟩
theorem dfK_of {x qual : Str} {st : Stmt} {ps : List Str} {n : Nat} {kw : Str} {dv : V} {f : Addr} {fd : FuncData} (F : FunD K x qual (defArgs st) (defBody st) (defScope st) [] [(kw, dv)] f fd) (hn : n + 1 = ps.length)
    (h0 : ∀ (D : Addr) (doc pm : Value) (an : Option Addr) (cdv ct : Value) (us ks : List Value), us.length = n → ks.length = 1 →
      KwChain D ([kw].zip ks) (bindArgs (PySem.W.fnOf x qual (defArgs st) (defBody st) (defScope st) .none (.ref D) doc pm an cdv ct) ⟨us, []⟩) (ps.zip (us ++ ks)))
    (hk : ∀ (D : Addr) (doc pm : Value) (an : Option Addr) (cdv ct : Value) (us ws : List Value), us.length = n → ws.length = 1 →
      bindArgs (PySem.W.fnOf x qual (defArgs st) (defBody st) (defScope st) .none (.ref D) doc pm an cdv ct) ⟨us, [kw].zip ws⟩ = pure (ps.zip (us ++ ws))) : (∃ ds, Vals [dv] ds ∧ Binds K fd ps ds) ∧ ∃ gg : List Value → List Value → List Value, KBn K fd ps n [kw] gg (fun vs zs => vs ++ zs) := by
  refine ⟨F.binds0 n (by simp) hn h0, ?_⟩
  obtain ⟨mv, h⟩ := F.kbinds0 (ps := ps) n [kw] [] (fun us mv ws => us ++ ws) (by simp) (fun q hq => by cases hq) (fun r1 r2 r3 => r1.append r3) (fun D doc pm an cdv ct us mv ws l1 l2 l3 => hk D doc pm an cdv ct us ws l1 l3)
  exact ⟨_, h⟩
end
theorem room65 {k : Nat} {A : Around} (r : Room k A) : A.units + 65 < cLine := by have := r.un; omega
theorem room1 {k : Nat} {A : Around} (r : Room k A) : A.units + 1 < cLine := by have := r.un; omega
section
variable {X : Cx} {g : Gx}
def oIsB : D → D → Option Vl
  | .bl a, .bl b => some (.dat (.bl (decide (a = b))))
  | _, _ => none
def oNotB : D → D → Option Vl
  | .bl a, .bl b => some (.dat (.bl (!decide (a = b))))
  | _, _ => none
theorem u_isB : U2 g rIsB oIsB := by
  intro Hd H x y a b u Q e ra rb q k
  cases a <;> cases b <;> simp only [oIsB, reduceCtorEq, Option.some.injEq] at q
  rename_i a b
  subst q
  exact ⟨a, b, ra.bl, rb.bl, new_dat e rep_bl k⟩
theorem u_notB : U2 g rNotB oNotB := by
  intro Hd H x y a b u Q e ra rb q k
  cases a <;> cases b <;> simp only [oNotB, reduceCtorEq, Option.some.injEq] at q
  rename_i a b
  subst q
  exact ⟨a, b, ra.bl, rb.bl, new_dat e rep_bl k⟩
end
end Fx

/-! FxN: sorted -/
namespace Fx
open PySem PySem.Spec PyProof.Rows L2 LamX
theorem collect_tup {prog : Program} {w : World} {A : Around} {E : Value → Shared → Prop} {s : Shared} {l : Addr} {vs : List Value} {Q : List Value → Shared → Prop} (hl : IsTup s.heap l vs.toArray) (hs : vs.length ≤ sizeLine)
  (hQ : Q vs { s with heap := (s.heap.push (seqObj "list" #[] 0)).update s.heap.objs.size (Obj.mapSeq fun x => x ++ vs.toArray) }) : wpAny (model prog w) A (collect (Value.ref l)) Q E s := by
  obtain ⟨o, h1, h2, n, h3⟩ := hl
  have g1 : (s.heap.push (seqObj "list" #[] 0)).get? l = some o := Heap.get?_push_of_some _ h1
  have g2 : (s.heap.push (seqObj "list" #[] 0)).get? s.heap.objs.size = some (seqObj "list" #[] 0) := Heap.get?_push_size _ rfl
  have g3 : ((s.heap.push (seqObj "list" #[] 0)).update s.heap.objs.size (Obj.mapSeq fun x => x ++ vs.toArray)).get? s.heap.objs.size = some (Obj.mapSeq (fun x => x ++ vs.toArray) (seqObj "list" #[] 0)) := Heap.get?_update_self _ g2 rfl
  unfold collect
  refine wpAny_bind (wpAny_runValue (codeAny_builtin entry_proto_collect' ?_))
  show wpAny _ _ (newList [] >>= fun d => again (Code.builtin "list.__iadd__" { pos := [d, .ref l] })) _ _ _
  refine wpAny_bind (wpAny_newList ?_)
  unfold again
  refine wpAny_pure ?_
  dsimp only
  refine ⟨Code.quiet_builtin _ (by decide +kernel), codeAny_builtin PySem.F.entry_list_iadd ?_⟩
  unfold Builtin.«list.__iadd__»
  simp only [slotArgs]
  unfold Builtin.List.listExtendWith
  refine wpAny_bind (wpAny_pure ?_)
  refine wpAny_bind (wpAny_typeOf_ref g1 ?_)
  rw [h2]
  show wpAny _ _ (if (Builtin.List.listSameRef _ _ || Value.type "tuple" == Value.type "list" || Value.type "tuple" == Value.type "tuple") = true then _ else _) _ _ _
  rw [if_pos (by simp)]
  refine wpAny_bind (wpAny_listItems g1 h3 ?_)
  refine wpAny_bind (wpAny_listItems g2 rfl ?_)
  rw [if_neg (by simp)]
  refine wpAny_bind ?_
  show wpAny _ _ (updateSeq _ _) _ _ _
  refine wpAny_updateSeq g2 rfl ?_ (by simp) (by simp; omega)
  refine wpAny_pure ?_
  dsimp only
  refine wpAny_bind (wpAny_load g3 ?_)
  exact wpAny_pure (by simpa using hQ)
theorem sorted_tup {prog : Program} {w : World} {A : Around} {E : Value → Shared → Prop} {s : Shared} {β : Type} {vs : List Value} {bs : List β} {enc : β → PyData} {R : Value → β → Prop} {l : Addr} {Q : Value → Shared → Prop}
    (hl : IsTup s.heap l vs.toArray) (he : W.EachIs R vs bs) (h2 : W.EachIs (fun v b => ∃ as, Reads s.heap v (enc b) as) vs bs) (h3 : W.AllAlike (bs.map enc)) (h4 : W.Sortable (bs.map enc)) (h5 : bs.length ≤ sizeLine) (h6 : ∀ b ∈ bs, A.units + 2 + (enc b).depth < cLine)
    (hQ : ∀ out : List Value, out.length = bs.length → W.EachIs R out (bs.mergeSort (W.dataLe false enc)) → Q (.ref (s.heap.objs.size + 1)) { s with heap := sortedAll s.heap vs out.toArray }) : wpAny (model prog w) A (call (.builtin "sorted") [.ref l]) Q E s := by
  have hv : vs.length = bs.length := by
    clear h2 h3 h4 h5 h6 hQ hl
    induction he with
    | nil => rfl
    | cons _ _ ih => simp [ih]
  have hcc : checkBuiltinCall "sorted" { pos := [.ref l] } = pure () := by kernel_rfl
  refine call_builtin_at plain_sorted entry_sorted hcc fun Γ p _ hΓ => ?_
  refine (?_ : wpAny (model prog w) A.in1 (Builtin.sorted { pos := [.ref l] }) (fun fin s' => ∃ v, fin = Fin.done (Flow.ret v) ∧ Q v s') E s) Γ p hΓ
  let VS := vs
  let h1 : Heap := (s.heap.push (seqObj "list" #[] 0)).update s.heap.objs.size (Obj.mapSeq fun x => x ++ vs.toArray)
  have z1 : h1.objs.size = s.heap.objs.size + 1 := by show ((s.heap.push _).update _ _).objs.size = _; simp [Heap.update, Heap.push]
  have lt : ∀ b o, s.heap.get? b = some o → b < s.heap.objs.size := fun b o h => by
    have := (Heap.get?_some_iff.mp h).1
    rw [Array.getElem?_eq_some_iff] at this
    exact this.1
  have k1 : ∀ b o, s.heap.get? b = some o → h1.get? b = some o := fun b o h => Heap.get?_update_of_ne _ (Nat.ne_of_gt (lt b o h)) (Heap.get?_push_of_some _ h)
  have k2 : ∀ b o, s.heap.get? b = some o → (h1.push (seqObj "list" vs.toArray 0)).get? b = some o := fun b o h => Heap.get?_push_of_some _ (k1 b o h)
  have g2 : (h1.push (seqObj "list" vs.toArray 0)).get? (s.heap.objs.size + 1) = some (seqObj "list" vs.toArray 0) := by
    have := Heap.get?_push_size h1 (o := seqObj "list" vs.toArray 0) rfl
    rw [z1] at this
    exact this
  unfold Builtin.sorted
  refine wpAny_bind ?_
  show wpAny _ _ (checkCount "sorted" 1 1 1) _ _ _
  refine (?_ : wpAny _ _ (pure ()) _ _ _)
  refine wpAny_pure ?_
  refine wpAny_bind ?_
  show wpAny _ _ (collect (.ref l)) _ _ _
  refine collect_tup hl (by omega) ?_
  refine wpAny_bind (wpAny_newList ?_ (by omega))
  show wpAny _ _ _ _ _ { s with heap := h1.push (seqObj "list" vs.toArray 0) }
  show wpAny _ _ (holding [.ref h1.objs.size] (call (.builtin "list.sort") [.ref h1.objs.size] []) >>= fun _ => ret (.ref h1.objs.size)) _ _ _
  rw [z1]
  refine wpAny_bind (wpAny_holding ?_)
  refine W.list_sort_data (vs := vs) (bs := bs) (enc := enc) (R := R) g2 he ?_ h3 h4 h5 (fun b hb => by have := h6 b hb; show A.in1.units + 1 + _ < _; omega) fun out ho hR => ?_
  · have mono : ∀ {vs : List Value} {bs : List β}, W.EachIs (fun v b => ∃ as, Reads s.heap v (enc b) as) vs bs → W.EachIs (fun v b => ∃ as, Reads (h1.push (seqObj "list" VS.toArray 0)) v (enc b) as ∧ ¬ (s.heap.objs.size + 1) ∈ as) vs bs := fun h => by
      induction h with
      | nil => exact .nil
      | cons hd _ ih =>
        obtain ⟨as, r⟩ := hd
        refine .cons ⟨as, Reads.keeps k2 r, fun hm => ?_⟩ ih
        obtain ⟨o, ho⟩ := PyProof.On.reads_mem_get r _ hm
        exact absurd (lt _ _ ho) (Nat.not_lt.mpr (Nat.le_succ _))
    exact mono h2
  · exact wpAny_pure ⟨_, rfl, hQ out ho hR⟩
end Fx

/-! FxO: sorting by insertion, which the kernel can evaluate -/
namespace Fx
open PySem PySem.Spec PyProof.Rows L2 LamX
def insO {α : Type} (le : α → α → Bool) (a : α) : List α → List α
  | [] => [a]
  | b :: l => if le a b = true then a :: b :: l else b :: insO le a l
def isortO {α : Type} (le : α → α → Bool) : List α → List α
  | [] => []
  | a :: l => insO le a (isortO le l)
theorem insO_mem {α : Type} {le : α → α → Bool} {a x : α} : ∀ {l : List α}, x ∈ insO le a l → x = a ∨ x ∈ l
  | [], h => by simp [insO] at h; exact .inl h
  | b :: l, h => by
    unfold insO at h
    split at h
    · cases h with
      | head => exact .inl rfl
      | tail _ h => exact .inr h
    · cases h with
      | head => exact .inr List.mem_cons_self
      | tail _ h => rcases insO_mem h with h | h
                    · exact .inl h
                    · exact .inr (List.mem_cons_of_mem _ h)
theorem insO_pw {α : Type} {le : α → α → Bool} (t : W.TotalLe le) (a : α) : ∀ {l : List α}, l.Pairwise (fun a b => le a b = true) → (insO le a l).Pairwise (fun a b => le a b = true)
  | [], _ => by simp [insO]
  | b :: l, h => by
    rw [List.pairwise_cons] at h
    unfold insO
    split
    · rename_i hab
      refine List.pairwise_cons.mpr ⟨fun x hx => ?_, List.pairwise_cons.mpr h⟩
      cases hx with
      | head => exact hab
      | tail _ hx => exact t.trans _ _ _ hab (h.1 x hx)
    · rename_i hab
      refine List.pairwise_cons.mpr ⟨fun x hx => ?_, insO_pw t a h.2⟩
      rcases insO_mem hx with rfl | hx
      · exact (t.total b x).resolve_right hab
      · exact h.1 x hx
theorem insO_st {α : Type} {le : α → α → Bool} (t : W.TotalLe le) (a c : α) : ∀ l : List α, (insO le a l).filter (W.sameRank le c) = (a :: l).filter (W.sameRank le c)
  | [] => rfl
  | b :: l => by
    unfold insO
    split
    · rfl
    · rename_i hab
      rw [List.filter_cons, insO_st t a c l]
      cases ha : W.sameRank le c a with
      | true =>
        cases hb : W.sameRank le c b with
        | true =>
          unfold W.sameRank at ha hb
          rw [Bool.and_eq_true] at ha hb
          exact absurd (t.trans _ _ _ ha.2 hb.1) hab
        | false => simp [List.filter_cons, ha, hb]
      | false => simp [List.filter_cons, ha]
theorem isortO_eq {α : Type} {le : α → α → Bool} (t : W.TotalLe le) (l : List α) : isortO le l = l.mergeSort le := by
  refine W.sort_unique t ?_ fun c => ?_
  · induction l with
    | nil => exact .nil
    | cons a l ih => exact insO_pw t a ih
  · induction l with
    | nil => rfl
    | cons a l ih =>
      rw [isortO, insO_st t, List.filter_cons, List.filter_cons, ih]
theorem insO_map {α β : Type} {r : α → α → Bool} {s : β → β → Bool} (f : α → β) (h : ∀ a b, r a b = s (f a) (f b)) (a : α) : ∀ l : List α, (insO r a l).map f = insO s (f a) (l.map f)
  | [] => rfl
  | b :: l => by
    rw [insO, List.map_cons, insO, h]
    split
    · rfl
    · rw [List.map_cons, insO_map f h a l]
theorem isortO_map {α β : Type} {r : α → α → Bool} {s : β → β → Bool} (f : α → β) (h : ∀ a b, r a b = s (f a) (f b)) : ∀ l : List α, (isortO r l).map f = isortO s (l.map f)
  | [] => rfl
  | a :: l => by rw [isortO, insO_map f h, isortO_map f h l]; rfl
theorem sortLe_total {α : Type} (O : KeyOrd) (k : α → O.α) : W.TotalLe (W.sortLe O false k) := by
  refine ⟨fun a b c h1 h2 => ?_, fun a b => ?_⟩
  · show (!O.blt (k c) (k a)) = true
    have h1 : (!O.blt (k b) (k a)) = true := h1
    have h2 : (!O.blt (k c) (k b)) = true := h2
    cases h : O.blt (k c) (k a) with
    | false => rfl
    | true =>
      rcases O.negTrans _ (k b) _ h with g | g
      · rw [g] at h2; exact h2
      · rw [g] at h1; exact h1
  · show (!O.blt (k b) (k a)) = true ∨ (!O.blt (k a) (k b)) = true
    cases h1 : O.blt (k b) (k a) with
    | false => exact .inl rfl
    | true =>
      cases h2 : O.blt (k a) (k b) with
      | false => exact .inr rfl
      | true =>
        have := O.trans _ _ _ h1 h2
        rw [O.irrefl] at this
        cases this
theorem dataLe_total {β : Type} (k : β → PyData) : W.TotalLe (W.dataLe false k) := sortLe_total _ _
/-! ### the rule -/
def leD : D → D → Bool := W.dataLe false toPy
section
variable {g : Gx} {K : PySem.W.Frag} {X : Cx}
/-- sorted(x), x a list or a tuple of data that can be sorted -/
def rSortB (K : PySem.W.Frag) : V → Hp → VK → Prop := fun x H Q => ∃ (a : Addr) (bs : List (V × PyData)), x = .ref a ∧ (SqL K H a (bs.map (·.1)) ∨ SqT K H a (bs.map (·.1))) ∧ (∀ b ∈ bs, Dp K H b.1 b.2) ∧ W.AllAlike (bs.map (·.2)) ∧ W.Sortable (bs.map (·.2)) ∧ (∀ b ∈ bs, b.2.depth ≤ 60) ∧
  ∀ p, H p = none → Q (.ref p) (upd H p (.lst ((bs.mergeSort (W.dataLe false (·.2))).map (·.1))))
theorem each_of {H : Hp} {s : Shared} {pins : List (Addr × Obj)} {σ : L2.St} (I : L2.Inv X pins σ H s) : ∀ (bs : List (V × PyData)) (its : List Value), Vals (bs.map (·.1)) its → (∀ b ∈ bs, Dp X.K H b.1 b.2) → W.EachIs (fun u (b : V × PyData) => L2.RelV b.1 u) its bs ∧ W.EachIs (fun u (b : V × PyData) => ∃ as, Reads s.heap u b.2 as) its bs := by
  intro bs
  induction bs with
  | nil => intro its h _; cases h; exact ⟨.nil, .nil⟩
  | cons b bs ih =>
    intro its h hd
    rw [List.map_cons] at h
    cases h with
    | cons h1 h2 =>
      obtain ⟨i1, i2⟩ := ih _ h2 fun c hc => hd c (List.mem_cons_of_mem _ hc)
      exact ⟨.cons h1 i1, .cons (Dp.reads I _ _ _ (hd b List.mem_cons_self) h1) i2⟩
theorem vals_of : ∀ {bs : List (V × PyData)} {out : List Value}, W.EachIs (fun u (b : V × PyData) => L2.RelV b.1 u) out bs → Vals (bs.map (·.1)) out := by
  intro bs out h
  induction h with
  | nil => exact .nil
  | cons h _ ih => exact .cons h ih
theorem cr_sortB (hu : X.A.units + 65 < cLine) : CallR X (.builtin "sorted") (rOne (rSortB X.K)) := by
  rintro pins s σ H xs us Q I hv ⟨x, rfl, a, bs, rfl, hsq, hd, h1, h2, h3, k⟩
  cases hv with
  | cons hr ht =>
    cases ht
    cases hr
    have fin : ∀ {its : List Value}, bs.length ≤ sizeLine → ∀ out : List Value, out.length = bs.length → W.EachIs (fun u (b : V × PyData) => L2.RelV b.1 u) out (bs.mergeSort (W.dataLe false (·.2))) → EP X pins σ Q (.ref (s.heap.objs.size + 1)) { s with heap := sortedAll s.heap its out.toArray } := fun {its} hz out ho hR => by
      have hf : H (s.heap.objs.size + 1) = none := by
        cases q : H (s.heap.objs.size + 1) with
        | none => rfl
        | some o => exact absurd (HOk.lt I.hok q) (Nat.not_lt.mpr (Nat.le_succ _))
      obtain ⟨e, he⟩ := sortedAll_at s.heap its out.toArray
      refine ⟨.ref (s.heap.objs.size + 1), _, I.turnedNew (ch := []) (T := s.heap.objs.size + 1) (ob := .lst ((bs.mergeSort (W.dataLe false (·.2))).map (·.1))) (fun b o _ h => sortedAll_old h) (fun b h => absurd h List.not_mem_nil) (Nat.le_succ _) ?_, rfl, k _ hf⟩
      unfold ObjOk
      exact ⟨by rw [List.length_map, List.length_mergeSort]; exact hz, out, e, vals_of hR, he⟩
    rcases hsq with hs | hs
    · obtain ⟨its, hv, hp, hz⟩ := I.list hs
      rw [List.length_map] at hz
      obtain ⟨e1, e2⟩ := each_of I bs its hv hd
      exact W.sorted_data (vs := its) (bs := bs) (enc := (·.2)) (R := fun u b => L2.RelV b.1 u) hp.isList e1 e2 h1 h2 hz (fun b hb => by have := h3 b hb; omega) (fin hz)
    · obtain ⟨its, hv, hp, hz⟩ := I.tuple hs
      rw [List.length_map] at hz
      obtain ⟨e1, e2⟩ := each_of I bs its hv hd
      exact sorted_tup (vs := its) (bs := bs) (enc := (·.2)) (R := fun u b => L2.RelV b.1 u) hp e1 e2 h1 h2 hz (fun b hb => by have := h3 b hb; omega) (fin hz)
theorem isortO_len (ds : List D) : (isortO leD ds).length = ds.length := by
  have t : W.TotalLe leD := dataLe_total toPy
  rw [isortO_eq t, List.length_mergeSort]
def alikeB (ds : List D) : Bool := ds.all fun a => ds.all fun b => W.alike (toPy a) (toPy b)
def tup1 : D → Bool
  | .tup (_ :: _) => true
  | _ => false
def notTup : D → Bool
  | .tup _ => false
  | .non => false
  | .ins _ _ => false
  | .scr _ => false
  | .dic _ => false
  | .cls _ => false
  | .dbt => false
  | _ => true
def srtOk (ds : List D) : Bool := shpL 59 ds && alikeB ds && (ds.all tup1 || ds.all notTup)
def oSorted : D → Option Vl
  | .lst ds => if srtOk ds = true then some (.own (.lst (isortO leD ds))) else none
  | .tup ds => if srtOk ds = true then some (.own (.lst (isortO leD ds))) else none
  | _ => none
theorem toPyL_map : ∀ ds : List D, toPyL ds = ds.map toPy
  | [] => by rw [toPyL]; rfl
  | d :: ds => by rw [toPyL, toPyL_map ds]; rfl
theorem repL_of : ∀ {H : Hp} {ps : List (V × D)}, (∀ q ∈ ps, Rep g H q.2 q.1) → RepL g H (ps.map (·.2)) (ps.map (·.1)) := by
  intro H ps h
  induction ps with
  | nil => exact RepL.nil
  | cons q ps ih => exact RepL.cons (h q List.mem_cons_self) (ih fun r hr => h r (List.mem_cons_of_mem _ hr))
theorem zip_rep : ∀ {H : Hp} {ds : List D} {vs : List V}, RepL g H ds vs → (∀ q ∈ vs.zip ds, Rep g H q.2 q.1) ∧ (vs.zip ds).map (·.1) = vs ∧ (vs.zip ds).map (·.2) = ds := by
  intro H ds
  induction ds with
  | nil => intro vs h; rw [RepL.nil_iff.mp h]; exact ⟨fun q hq => absurd hq List.not_mem_nil, rfl, rfl⟩
  | cons d ds ih =>
    intro vs h
    obtain ⟨v, ws, rfl, h1, h2⟩ := RepL.cons_iff.mp h
    obtain ⟨i1, i2, i3⟩ := ih h2
    refine ⟨fun q hq => ?_, by simp [i2], by simp [i3]⟩
    cases hq with
    | head => exact h1
    | tail _ hq => exact i1 q hq
theorem srt_pre {ds : List D} (h : srtOk ds = true) : W.AllAlike (ds.map toPy) ∧ W.Sortable (ds.map toPy) ∧ ∀ d ∈ ds, shp 59 d = true := by
  unfold srtOk at h
  rw [Bool.and_eq_true, Bool.and_eq_true] at h
  obtain ⟨⟨h1, h2⟩, h3⟩ := h
  refine ⟨fun a ha b hb => ?_, ?_, ?_⟩
  · obtain ⟨x, hx, rfl⟩ := List.mem_map.mp ha
    obtain ⟨y, hy, rfl⟩ := List.mem_map.mp hb
    exact List.all_eq_true.mp (List.all_eq_true.mp h2 x hx) y hy
  · rw [Bool.or_eq_true] at h3
    rcases h3 with h3 | h3
    · refine .inl fun a ha => ?_
      obtain ⟨x, hx, rfl⟩ := List.mem_map.mp ha
      have := List.all_eq_true.mp h3 x hx
      cases x with
      | tup xs =>
        cases xs with
        | nil => cases this
        | cons y ys => rw [toPy, toPyL]; exact ⟨_, _, rfl⟩
      | _ => cases this
    · refine .inr fun a ha => ?_
      obtain ⟨x, hx, rfl⟩ := List.mem_map.mp ha
      have := List.all_eq_true.mp h3 x hx
      cases x with
      | bl b => rw [toPy]; exact ⟨(by intro z; cases z), (by intro xs z; cases z)⟩
      | int b => rw [toPy]; exact ⟨(by intro z; cases z), (by intro xs z; cases z)⟩
      | str b => rw [toPy]; exact ⟨(by intro z; cases z), (by intro xs z; cases z)⟩
      | lst b => rw [toPy]; exact ⟨(by intro z; cases z), (by intro xs z; cases z)⟩
      | _ => cases this
  · clear h2 h3
    induction ds with
    | nil => exact fun d hd => absurd hd List.not_mem_nil
    | cons d ds ih =>
      rw [shpL, Bool.and_eq_true] at h1
      intro e he
      cases he with
      | head => exact h1.1
      | tail _ he => exact ih h1.2 e he
theorem srt_core {Hd H : Hp} {ds : List D} {vs : List V} (e : Same Hd H) (r : RepL g Hd ds vs) (h : srtOk ds = true) : ∃ (bs : List (V × PyData)) (ws : List V), bs.map (·.1) = vs ∧ (∀ b ∈ bs, Dp K H b.1 b.2) ∧ W.AllAlike (bs.map (·.2)) ∧ W.Sortable (bs.map (·.2)) ∧ (∀ b ∈ bs, b.2.depth ≤ 60) ∧ (bs.mergeSort (W.dataLe false (·.2))).map (·.1) = ws ∧ RepL g Hd (isortO leD ds) ws := by
  obtain ⟨p1, p2, p3⟩ := srt_pre h
  obtain ⟨z1, z2, z3⟩ := zip_rep r
  have m2 : ((vs.zip ds).map fun q => (q.1, toPy q.2)).map (·.2) = ds.map toPy := by
    rw [List.map_map, ← z3, List.map_map, z3]
    rfl
  have hle : ∀ a b : V × D, leD a.2 b.2 = W.dataLe false (fun b : V × PyData => b.2) (a.1, toPy a.2) (b.1, toPy b.2) := fun a b => rfl
  refine ⟨(vs.zip ds).map fun q => (q.1, toPy q.2), ((vs.zip ds).mergeSort fun a b => leD a.2 b.2).map (·.1), ?_, ?_, ?_, ?_, ?_, ?_, ?_⟩
  · rw [List.map_map]; exact z2
  · intro b hb
    obtain ⟨q, hq, rfl⟩ := List.mem_map.mp hb
    refine dp_of 59 q.2 q.1 (p3 q.2 ?_) ((z1 q hq).mono e)
    rw [← z3]
    exact List.mem_map.mpr ⟨q, hq, rfl⟩
  · rw [m2]; exact p1
  · rw [m2]; exact p2
  · intro b hb
    obtain ⟨q, hq, rfl⟩ := List.mem_map.mp hb
    have := (shp_lay 59 q.2 (p3 q.2 (by rw [← z3]; exact List.mem_map.mpr ⟨q, hq, rfl⟩))).2
    show (toPy q.2).depth ≤ 60
    omega
  · rw [← W.sort_maps (fun q : V × D => (q.1, toPy q.2)) (fun a _ b _ => hle a b), List.map_map]
    rfl
  · have : isortO leD ds = ((vs.zip ds).mergeSort fun a b => leD a.2 b.2).map (·.2) := by
      rw [W.sort_maps (s := leD) (fun q : V × D => q.2) (fun a _ b _ => rfl), z3]
      exact isortO_eq (dataLe_total toPy) ds
    rw [this]
    exact repL_of fun q hq => z1 q ((List.mergeSort_perm _ _).mem_iff.mp hq)
theorem u_sorted : U1 g (rSortB K) oSorted := by
  intro Hd H x a u Q e ra q k
  cases a <;> simp only [oSorted] at q <;> try (cases q)
  · split at q
    · rename_i ds h
      cases q
      obtain ⟨p, vs, rfl, h1, hz, h2⟩ := ra.tup e
      obtain ⟨bs, ws, c1, c2, c3, c4, c5, c6, c7⟩ := srt_core (K := K) e h2 h
      refine ⟨p, bs, rfl, .inr (by rw [c1]; exact SqT.of h1), c2, c3, c4, c5, fun l hl => ?_⟩
      rw [c6]
      exact new_lst e hl c7 (by rw [isortO_len]; exact hz) k
    · cases q
  · split at q
    · rename_i ds h
      cases q
      obtain ⟨p, vs, rfl, h1, hz, h2⟩ := ra.lst e
      obtain ⟨bs, ws, c1, c2, c3, c4, c5, c6, c7⟩ := srt_core (K := K) e h2 h
      refine ⟨p, bs, rfl, .inl (by rw [c1]; exact SqL.of h1), c2, c3, c4, c5, fun l hl => ?_⟩
      rw [c6]
      exact new_lst e hl c7 (by rw [isortO_len]; exact hz) k
    · cases q
variable {W : WX}
theorem de_sorted {a : Expr} {p pos : Pos} {f : Mo Vl} (hu : X.A.units + 65 < cLine) (hg : Gl X "sorted") (hm : X.mg "sorted" = none) (ha : PE X a (tE g W f)) (hv : bootBuiltins "sorted" = some (.builtin "sorted") := by rfl) (he : starEach (a :: []) X.env = (false, eval a X.env) :: starEach [] X.env := by rfl) (hpl : (backTo pos (starEach [] X.env)).any (·.1) = false := by rfl) :
    PE X (.Call (.Name "sorted" p) [a] [] pos) (tE g W (d1 oSorted f)) := de_b1 (r := rSortB X.K) (cr_sortB hu) u_sorted hg hm hv ha (by decide) (by decide) he hpl
end
end Fx

/-! FxP: pop(i) -/
namespace Fx
open PySem PySem.Spec PyProof.Rows L2 LamX
section
variable {g : Gx} {W : WX} {X : Cx}
def mPopAt : List D → List D → Option (D × List D) := fun xs ds => match ds with
  | [.int i] => if -(2 ^ 63) ≤ i ∧ i < 2 ^ 63 then match seqIndex? i xs.length with
      | some k => match xs[k]? with
        | some d => some (d, xs.eraseIdx k)
        | none => none
      | none => none
    else none
  | _ => none
theorem um_popAt : UM g rPopAt mPopAt := by
  intro Hd H p vs us xs ds ys d Q e h1 hz hz2 r1 r2 q k
  unfold mPopAt at q
  split at q
  · split at q
    · rename_i i hi
      split at q
      · rename_i n hn
        split at q
        · rename_i d' hd
          cases q
          obtain ⟨v, rfl, rv⟩ := repL_one r2
          have hv : v = .int i := by simpa only [Rep] using rv
          subst hv
          obtain ⟨y, h3, h4⟩ := r1.get hd
          rw [r1.length] at hn
          exact ⟨p, vs, i, n, y, rfl, rfl, h1, hi.1, hi.2, hn, h3, k _ _ h4 (r1.erase n)⟩
        · cases q
      · cases q
    · cases q
  · cases q
theorem de_pop1 {x : Str} {i : Nat} {args : Mo (List D)} {e : Expr} {npos apos cpos : Pos} (ho : PE X (.Name x npos) (tVar i)) (ha : PA X [e] (tD g W args)) (hbase : attributeBase (.Name x npos) "pop" X.env (eval (.Name x npos) X.env) = eval (.Name x npos) X.env := by rfl)
    (hfew : ((backTo cpos (starEach [e] X.env)).all (fun x => !x.1) && (backToKw cpos (keywordEach [] X.env)).all (fun x => x.1.isSome)
      && decide (([e] : List Expr).length + ([] : List Keyword).length + (if ([] : List Keyword).isEmpty then 0 else 1) < 30)) = true := by rfl)
    (hline : (apos.endLine == cpos.line) = true := by rfl) (hs : starEach [e] X.env = (false, eval e X.env) :: starEach [] X.env := by rfl) (hplain : (backTo cpos (starEach [] X.env)).any (·.1) = false := by rfl) :
    PE X (.Call (.Attribute (.Name x npos) "pop" apos) [e] [] cpos) (tE g W (dMut i mPopAt args)) := de_mut um_popAt F.slot_list_pop F.type_list_pop mt_popAt ho ha hbase hfew hline hs hplain
end
end Fx

/-! FxQ: an instance called: its class has __call__ -/
namespace Fx
open PySem PySem.Spec PyProof.Rows L2 LamX
section
variable {g : Gx} {W : WX} {X : Cx} {k n c : Nat} {f : Addr} {Fn : En → Re Vl} {pos : Pos} {e fe : Expr} {es : List Expr}
def noX {α : Type} (f : Mo α) : Mo α := fun E => match f E with
  | .exc _ _ => .bad
  | r => r
def isInsD (c : Nat) : D → Bool
  | .ins c' _ => c' == c
  | _ => false
def dCallO (c : Nat) (Fn : En → Re Vl) (fo : Mo Vl) (args : Mo (List Vl)) : Mo Vl := mb fo fun x => mb (frz x) fun d => if isInsD c d = true then mb args fun xs => noX (callM Fn (.dat d :: xs)) else fun _ => .bad
def noE : XK := fun _ _ _ => False
theorem passes_no : Passes (L2.CX X.prog X.w) X noE := fun pins σ H s e s' _ ⟨_, _, _, _, _, _, _, _, _, _, _, _, h⟩ => h.elim
theorem noX_post {α : Type} {F : Fc} {σ : L2.St} {Hd H : Hp} {w : Ow} {m : Mo α} {E : En} {K : α → En → Hp → Hp → Ow → Prop} (p : PostA g F W σ Hd H w (noX m E) K) : PostA g F (fun _ _ _ _ => False) σ Hd H w (m E) K := by
  unfold noX at p
  cases q : m E with
  | ok a E' => rw [q] at p; exact p
  | exc x E' => rw [q] at p; exact p.elim
  | bad => rw [q] at p; exact p.elim
theorem tE_callO {fo : Mo Vl} {args : Mo (List Vl)} (hn : ArgLen n args) : ∀ σ H Q, tE g W (dCallO c Fn fo args) σ H Q → StX.tCallO X (g.cA c) (spF g (n + 1) Fn) noE (tE g W fo) (tV g W args) σ H Q := by
  rintro σ H Q ⟨F, Hd, E, w, s, p⟩
  refine ⟨F, Hd, E, w, s, (PostA.bind0 p).imp fun x E1 Hd1 H1 w1 _ e1 s1 p1 v rv => ?_⟩
  obtain ⟨d, E2, Hd2, w2, hf, e2, s2, rd, p2⟩ := frz_post e1 s1 rv (PostA.bind p1)
  split at p2
  · rename_i hi
    cases d with
    | ins c' fs =>
      have hc : c' = c := eq_of_beq hi
      subst hc
      have rd' := rd
      simp only [Rep] at rd'
      obtain ⟨a, dx, vs, rfl, z1, z2, z3⟩ := rd'
      refine ⟨a, rfl, F, Hd2, E2, w2, s2, (PostA.bind0 p2).imp fun xs E3 Hd3 H3 w3 hx e3 s3 p3 vs' rvs => ?_⟩
      refine ⟨.inr ⟨dx, _, s3.ext _ _ (e3.hd _ _ z1)⟩, ?_⟩
      rw [← hn E2 xs E3 hx]
      have := call_post (vs := .ref a :: vs') (xs := .dat (.ins c' fs) :: xs) s2.dom e3 s3 (VFam.cons (fun a h => h) e3 rd rvs) ((noX_post p3).imp fun a _ Hd' H' w' _ _ _ kk v r => kk v (VRel.start e2.dom r))
      rw [List.length_cons] at this
      exact this
    | _ => cases hi
  · exact p2.elim
theorem de_callO {fo : Mo Vl} {args : Mo (List Vl)} (hf : PE X fe (tE g W fo)) (hc : StX.CallO X.K (g.cA c) f) (F : FnR X.prog X.w X.K X.mg X.base (L2.CX X.prog X.w) k f (spF g (n + 1) Fn)) (hr : Room k X.A) (ha : PA X (e :: es) (tV g W args)) (hn : ArgLen n args)
    (he0 : eval (fe.Call (e :: es) [] pos) X.env = (do let v ← eval fe X.env; callWith pos v [] (backTo pos (starEach (e :: es) X.env)) (backToKw pos (keywordEach [] X.env))) := by rfl)
    (he : starEach (e :: es) X.env = (false, eval e X.env) :: starEach es X.env := by rfl) (hpl : (backTo pos (starEach es X.env)).any (·.1) = false := by rfl) :
    PE X (.Call fe (e :: es) [] pos) (tE g W (dCallO c Fn fo args)) := (StX.pe_callO hf hc F hr passes_no ha he0 he hpl).impF (tE_callO hn)
theorem fnR_ok {P : Program} {w : World} {K : PySem.W.Frag} {mg : Str → Option Value} {base : Heap} {CX : CXT} {k : Nat} {f : Addr} {fd : FuncData} {ps : List Str} {sp : Sp} (F : FnOk P w K mg base CX k f fd ps sp) (hb : Binds K fd ps []) : FnR P w K mg base CX k f sp := fun A outer s H us vs Q E hr e0 hv h => by
  have hk : K.In s.heap := fun q o hq => (e0.bs _ _ (e0.mod.kin q o hq)).1
  have hl : (us ++ []).length = ps.length := by
    rw [List.append_nil, ← F.len vs H Q E h]
    clear h
    induction hv with
    | nil => rfl
    | cons _ _ ih => simp [ih]
  have := hb s us hk hl
  rw [List.append_nil] at this
  exact F.run A outer s H ⟨us, []⟩ us vs Q E hr e0 this hv h
end
end Fx

/-! FxR: slices, of the script too -/
namespace Fx
open PySem PySem.Spec PyProof.Rows L2 LamX
section
variable {g : Gx} {W : WX} {X : Cx}
def oSl2 (lo hi : Option Int) (d : D) : Option Vl := match d with
  | .scr ns => if (cutD (ns.map D.int) lo hi).length ≤ lim then some (.own (.lst (cutD (ns.map D.int) lo hi))) else none
  | d => oSl lo hi d
def dSl2 (f : Mo Vl) (l h : Mo (Option Int)) : Mo Vl := mb f fun a => mb l fun lo => mb h fun hi => lift1 (oSl2 lo hi) a
theorem u_sl2 {K : PySem.W.Frag} {lo hi : Option Int} (hK : g.K = K) : U1 g (fun x H Q => rSlF K x lo hi H Q) (oSl2 lo hi) := by
  intro Hd H x a u Q e ra q k
  by_cases hs : ∃ ns, a = .scr ns
  · obtain ⟨ns, rfl⟩ := hs
    simp only [oSl2] at q
    split at q
    · rename_i hz
      cases q
      have rd := (ra.dat (by intro _ z; cases z)).mono e
      simp only [Rep] at rd
      obtain ⟨p, rfl, h1⟩ := rd
      rw [hK] at h1
      exact .inl ⟨p, _, rfl, h1, fun r hr => new_lst e hr (cut_rep (RepL.ints_iff.mpr rfl)) (by rw [← lim_eq]; exact hz) k⟩
    · cases q
  · have q' : oSl lo hi a = some u := by
      unfold oSl2 at q
      split at q
      · exact absurd ⟨_, rfl⟩ hs
      · exact q
    exact u_sl Hd H x a u Q e ra q' k
theorem de_slice2 {e : Expr} {lo hi : Option Expr} {p2 pos : Pos} {f : Mo Vl} {l h : Mo (Option Int)} (hK : g.K = X.K) (he : PE X e (tE g W f)) (hl : PO X lo (tP g W l)) (hh : PO X hi (tP g W h)) : PE X (.Subscript e (.Slice lo hi none p2) pos) (tE g W (dSl2 f l h)) :=
  (pe_slice (SlR.or sl_list sl_tupA) he hl hh).impF fun σ H Q ⟨F, Hd, E, w, s, p⟩ => by
    refine ⟨F, Hd, E, w, s, (PostA.bind p).imp fun a E1 Hd1 H1 w1 _ e1 s1 p1 x rx => ?_⟩
    refine ⟨F, Hd1, E1, w1, s1, (PostA.bind p1).imp fun lo E2 Hd2 H2 w2 _ e2 s2 p2 => ?_⟩
    refine ⟨F, Hd2, E2, w2, s2, (PostA.bind p2).imp fun hi E3 Hd3 H3 w3 _ e3 s3 p3 => ?_⟩
    exact lift1_ok (u_sl2 (K := X.K) hK) (e1.trans (e2.trans e3)) s3 (VRel.eff (e2.trans e3) rx) p3
end
end Fx

/-! Mi: what loops and comprehensions give, as functions on lists -/
namespace Fx
/-- a comprehension without effects on the environment -/
theorem dLoop_pure {α : Type} {t : D → Mo Unit} {c : Mo Bool} {e : Mo Vl} {vs : List Nat} {E : En} (enc : α → D) (P : α → Bool) (f : α → D) (E1 : α → En) : ∀ xs : List α, (∀ x ∈ xs, t (enc x) E = .ok () (E1 x) ∧ c (E1 x) = .ok (P x) (E1 x) ∧ (P x = true → frzM e (E1 x) = .ok (f x) (E1 x)) ∧ vs.all (fun i => canSet (E1 x)[i]?) = true ∧ killE (E1 x) vs = E) →
    dLoop t c e vs (xs.map enc) E = .ok ((xs.filter P).map f) E
  | [], _ => rfl
  | x :: xs, h => by
    obtain ⟨h1, h2, h3, h4, h5⟩ := h x List.mem_cons_self
    have ih := dLoop_pure enc P f E1 xs fun y hy => h y (List.mem_cons_of_mem _ hy)
    rw [List.map_cons]
    unfold dLoop
    rw [h1]
    dsimp only
    rw [h2]
    cases hP : P x with
    | true =>
      dsimp only
      rw [h3 hP]
      dsimp only
      rw [if_pos h4, h5, ih]
      simp [List.filter_cons, hP]
    | false =>
      dsimp only
      rw [if_pos h4, h5, ih]
      simp [List.filter_cons, hP]
/-- a loop whose body goes on -/
theorem sLoop_fold {α β : Type} {t : D → Mo Unit} {body : Mo Fl} {ks : List Nat} (enc : α → D) (S : β → En) (step : β → α → β) : ∀ (xs : List α) (b : β), (∀ b, ∀ x ∈ xs, ∃ E1 E2, t (enc x) (S b) = .ok () E1 ∧ body E1 = .ok .next E2 ∧ killE E2 ks = S (step b x)) →
    sLoop t body ks (xs.map enc) (S b) = .ok .next (S (xs.foldl step b))
  | [], b, _ => rfl
  | x :: xs, b, h => by
    obtain ⟨E1, E2, h1, h2, h3⟩ := h b x List.mem_cons_self
    rw [List.map_cons]
    unfold sLoop
    rw [h1]
    dsimp only
    rw [h2]
    dsimp only
    rw [h3]
    exact sLoop_fold enc S step xs _ fun b y hy => h b y (List.mem_cons_of_mem _ hy)
/-- .. with an invariant on what is folded -/
theorem sLoop_foldI {α β : Type} {t : D → Mo Unit} {body : Mo Fl} {ks : List Nat} (enc : α → D) (S : β → En) (step : β → α → β) (I : β → Prop) : ∀ (xs : List α) (b : β), I b → (∀ b, I b → ∀ x ∈ xs, ∃ E1 E2, t (enc x) (S b) = .ok () E1 ∧ body E1 = .ok .next E2 ∧ killE E2 ks = S (step b x) ∧ I (step b x)) →
    sLoop t body ks (xs.map enc) (S b) = .ok .next (S (xs.foldl step b)) ∧ I (xs.foldl step b)
  | [], b, i, _ => ⟨rfl, i⟩
  | x :: xs, b, i, h => by
    obtain ⟨E1, E2, h1, h2, h3, h4⟩ := h b i x List.mem_cons_self
    rw [List.map_cons]
    unfold sLoop
    rw [h1]
    dsimp only
    rw [h2]
    dsimp only
    rw [h3]
    exact sLoop_foldI enc S step I xs _ h4 fun b j y hy => h b j y (List.mem_cons_of_mem _ hy)
/-- a loop that returns at the first item of a kind, its environment unchanged by the others -/
theorem sLoop_find {α : Type} {t : D → Mo Unit} {body : Mo Fl} {ks : List Nat} {E : En} (enc : α → D) (P : α → Bool) (r : α → Vl) (R : α → En) : ∀ (xs : List α), (∀ x ∈ xs, ∃ E1, t (enc x) E = .ok () E1 ∧ ((P x = true ∧ body E1 = .ok (.ret (r x)) (R x)) ∨ (P x = false ∧ ∃ E2, body E1 = .ok .next E2 ∧ killE E2 ks = E))) →
    sLoop t body ks (xs.map enc) E = match xs.find? P with
      | some x => .ok (.ret (r x)) (R x)
      | none => .ok .next E
  | [], _ => rfl
  | x :: xs, h => by
    obtain ⟨E1, h1, h2⟩ := h x List.mem_cons_self
    have ih := sLoop_find enc P r R xs fun y hy => h y (List.mem_cons_of_mem _ hy)
    rw [List.map_cons]
    unfold sLoop
    rw [h1]
    dsimp only
    rcases h2 with ⟨hP, hb⟩ | ⟨hP, E2, hb, hk⟩
    · rw [hb, List.find?_cons_of_pos hP]
    · rw [hb]
      dsimp only
      rw [hk, ih, List.find?_cons_of_neg (by rw [hP]; exact Bool.false_ne_true)]
theorem dLoop2_pure {α γ : Type} {t t1 : D → Mo Unit} {c c1 : Mo Bool} {n1 : Mo Its} {e : Mo Vl} {vs vs1 : List Nat} {E : En} (enc : α → D) (P : α → Bool) (E1 : α → En) (enc1 : γ → D) (ys : α → List γ) (P1 : α → γ → Bool) (f : α → γ → D) (E2 : α → γ → En) : ∀ (xs : List α) (k : Nat),
    (∀ x ∈ xs, t (enc x) E = .ok () (E1 x) ∧ c (E1 x) = .ok (P x) (E1 x) ∧ vs.all (fun i => canSet (E1 x)[i]?) = true ∧ killE (E1 x) vs = E ∧ (P x = true → n1 (E1 x) = .ok ((ys x).map enc1, none) (E1 x) ∧ vs1.all (noneAt (E1 x)) = true ∧
      ∀ y ∈ ys x, t1 (enc1 y) (E1 x) = .ok () (E2 x y) ∧ c1 (E2 x y) = .ok (P1 x y) (E2 x y) ∧ (P1 x y = true → frzM e (E2 x y) = .ok (f x y) (E2 x y)) ∧ vs1.all (fun i => canSet (E2 x y)[i]?) = true ∧ killE (E2 x y) vs1 = E1 x)) →
    k + ((xs.filter P).map fun x => (ys x).length).sum ≤ lim →
    dLoop2 t c n1 t1 c1 e vs vs1 k (xs.map enc) E = .ok ((xs.filter P).flatMap fun x => ((ys x).filter (P1 x)).map (f x)) E
  | [], k, _, _ => rfl
  | x :: xs, k, h, hk => by
    obtain ⟨h1, h2, h3, h4, h5⟩ := h x List.mem_cons_self
    have ih := fun k hk => dLoop2_pure enc P E1 enc1 ys P1 f E2 xs k (fun y hy => h y (List.mem_cons_of_mem _ hy)) hk
    rw [List.map_cons]
    unfold dLoop2
    rw [h1]
    dsimp only
    rw [h2]
    cases hP : P x with
    | true =>
      obtain ⟨g1, g2, g3⟩ := h5 hP
      rw [List.filter_cons_of_pos hP, List.map_cons, List.sum_cons] at hk
      dsimp only
      rw [g1]
      dsimp only
      rw [if_pos ⟨g2, by rw [List.length_map]; omega⟩, dLoop_pure enc1 (P1 x) (f x) (E2 x) (ys x) g3]
      dsimp only
      rw [if_pos h3, h4, ih]
      · rw [List.filter_cons_of_pos hP, List.flatMap_cons]
      · have := List.length_filter_le (P1 x) (ys x)
        rw [List.length_map]
        omega
    | false =>
      rw [List.filter_cons_of_neg (by rw [hP]; exact Bool.false_ne_true)] at hk
      dsimp only
      rw [if_pos h3, h4, ih k hk, List.filter_cons_of_neg (by rw [hP]; exact Bool.false_ne_true)]

/-! ### one after another -/
theorem mb_ok {α β : Type} {f : Mo α} {k : α → Mo β} {E E1 : En} {a : α} (h : f E = .ok a E1) : mb f k E = k a E1 := by unfold mb; rw [h]
theorem sSeq_next {f h : Mo Fl} {E E1 : En} (q : f E = .ok .next E1) : sSeq f h E = h E1 := by unfold sSeq mb; rw [q]
theorem sSeq_ret {f h : Mo Fl} {E E1 : En} {a : Vl} (q : f E = .ok (.ret a) E1) : sSeq f h E = .ok (.ret a) E1 := by unfold sSeq mb; rw [q]; rfl
theorem sIf_t {c : Mo Bool} {f h : Mo Fl} {E E1 : En} (q : c E = .ok true E1) : sIf c f h E = f E1 := by unfold sIf mb; rw [q]; rfl
theorem sIf_f {c : Mo Bool} {f h : Mo Fl} {E E1 : En} (q : c E = .ok false E1) : sIf c f h E = h E1 := by unfold sIf mb; rw [q]; rfl
theorem sIf_b {c : Mo Bool} {f h : Mo Fl} {E E1 : En} {b : Bool} (q : c E = .ok b E1) : sIf c f h E = if b = true then f E1 else h E1 := by unfold sIf mb; rw [q]; cases b <;> rfl
theorem sRet_ok {f : Mo Vl} {E E1 : En} {a : Vl} (q : f E = .ok a E1) : sRet f E = .ok (.ret a) E1 := by unfold sRet mb; rw [q]; rfl
theorem toB_ok {f : Mo Vl} {E E1 : En} {b : Bool} (q : f E = .ok (.dat (.bl b)) E1) : toB f E = .ok b E1 := by unfold toB mb; rw [q]; rfl
theorem bNot_ok {f : Mo Bool} {E E1 : En} {b : Bool} (q : f E = .ok b E1) : bNot f E = .ok (!b) E1 := by unfold bNot mb; rw [q]; rfl
/-- data arguments: the environment behind is what it was -/
theorem finE_dat : ∀ {ds : List D} {E : En}, ds.length ≤ E.length → finE (datE ds) E = datE ds
  | [], E, _ => by cases E <;> rfl
  | d :: ds, [], h => by simp at h
  | d :: ds, e :: E, h => by
    show fin1 (some (.dat d)) e :: finE (datE ds) E = _
    rw [finE_dat (by simpa using h)]
    rfl
theorem finE_dat' : ∀ {ds : List D} {E : En}, finE (datE ds) E = datE ds
  | [], E => by cases E <;> rfl
  | d :: ds, [] => by
    show fin1 (some (.dat d)) none :: finE (datE ds) [] = _
    rw [finE_dat']
    rfl
  | d :: ds, e :: E => by
    show fin1 (some (.dat d)) e :: finE (datE ds) E = _
    rw [finE_dat']
    rfl
theorem mkF_ret {m : Nat} {body : Mo Fl} {ds : List D} {E : En} {a r : Vl} (h : body (datE ds ++ List.replicate m none) = .ok (.ret a) E) (hl : leave E a = some r) : mkF m body (datE ds) = .ok r (datE ds) := by
  unfold mkF
  rw [h]
  dsimp only
  rw [hl]
  dsimp only
  rw [finE_dat']
theorem mkF_next {m : Nat} {body : Mo Fl} {ds : List D} {E : En} (h : body (datE ds ++ List.replicate m none) = .ok .next E) : mkF m body (datE ds) = .ok (.dat .non) (datE ds) := by
  unfold mkF
  rw [h]
  dsimp only
  rw [finE_dat']
theorem mkF_keep {m : Nat} {body : Mo Fl} {ds : List D} {r : Vl} {as : En} (h : mkF m body (datE ds) = .ok r as) : as = datE ds := by
  unfold mkF at h
  split at h
  · split at h
    · cases h; exact finE_dat'
    · cases h
  · cases h; exact finE_dat'
  · cases h
  · cases h
theorem toArgs_dat {E : En} : ∀ ds : List D, toArgs E (ds.map Vl.dat) = some (datE ds)
  | [] => rfl
  | d :: ds => by
    rw [List.map_cons]
    unfold toArgs
    rw [toArgs_dat ds]
    rfl
theorem distL_dat : ∀ ds : List D, distL (ds.map Vl.dat) = true
  | [] => rfl
  | d :: ds => distL_dat ds
theorem backL_dat {E : En} : ∀ (ds es : List D), ds.length = es.length → backL E (ds.map Vl.dat) (datE es) = some E
  | [], [], _ => rfl
  | [], _ :: _, h => by simp at h
  | _ :: _, [], h => by simp at h
  | d :: ds, e :: es, h => by
    show backL E (Vl.dat d :: ds.map Vl.dat) (some (.dat e) :: datE es) = some E
    rw [backL]
    exact backL_dat ds es (by simpa using h)
theorem callM_dat {Fn : En → Re Vl} {ds : List D} {E : En} {r : Vl} (h : Fn (datE ds) = .ok r (datE ds)) : callM Fn (ds.map Vl.dat) E = .ok r E := by
  unfold callM
  rw [toArgs_dat]
  dsimp only
  rw [if_pos (distL_dat ds), h]
  dsimp only
  rw [backL_dat ds ds rfl]
theorem dCall_dat {Fn : En → Re Vl} {args : Mo (List Vl)} {ds : List D} {E E1 : En} {r : Vl} (ha : args E = .ok (ds.map Vl.dat) E1) (h : Fn (datE ds) = .ok r (datE ds)) : dCall Fn args E = .ok r E1 := by
  rw [dCall_eq, mb_ok ha, callM_dat h]

/-! ### equal data, as a program -/
mutual
def deq : D → D → Bool
  | .non, .non => true
  | .bl a, .bl b => a == b
  | .int a, .int b => a == b
  | .str a, .str b => a == b
  | .tup a, .tup b => deqL a b
  | .lst a, .lst b => deqL a b
  | .ins c a, .ins c' b => c == c' && deqL a b
  | .scr a, .scr b => a == b
  | _, _ => false
def deqL : List D → List D → Bool
  | [], [] => true
  | a :: as, b :: bs => deq a b && deqL as bs
  | _, _ => false
end
mutual
theorem deq_eq : ∀ {a b : D}, deq a b = true → a = b
  | .non, b, h => by cases b <;> simp [deq] at h <;> rfl
  | .bl a, b, h => by cases b <;> simp [deq] at h; rw [h]
  | .int a, b, h => by cases b <;> simp [deq] at h; rw [h]
  | .str a, b, h => by cases b <;> simp [deq] at h; rw [h]
  | .tup a, b, h => by cases b <;> simp [deq] at h; rw [deqL_eq h]
  | .lst a, b, h => by cases b <;> simp [deq] at h; rw [deqL_eq h]
  | .ins c a, b, h => by cases b <;> simp [deq] at h; rw [h.1, deqL_eq h.2]
  | .scr a, b, h => by cases b <;> simp [deq] at h; rw [h]
theorem deqL_eq : ∀ {a b : List D}, deqL a b = true → a = b
  | [], [], _ => rfl
  | [], _ :: _, h => by simp [deqL] at h
  | _ :: _, [], h => by simp [deqL] at h
  | x :: xs, y :: ys, h => by
    simp [deqL] at h
    rw [deq_eq h.1, deqL_eq h.2]
end
/-- a data result -/
def isD (r : Re Vl) (d : D) : Bool := match r with
  | .ok (.dat x) _ => deq x d
  | _ => false
def isL (r : Re Vl) (ds : List D) : Bool := match r with
  | .ok (.own (.lst x)) _ => deqL x ds
  | _ => false
theorem isD_ok {m : Nat} {body : Mo Fl} {ds : List D} {d : D} (h : isD (mkF m body (datE ds)) d = true) : mkF m body (datE ds) = .ok (.dat d) (datE ds) := by
  cases q : mkF m body (datE ds) with
  | ok r as =>
    have e := mkF_keep q
    subst e
    rw [q] at h
    cases r with
    | dat x => rw [deq_eq (show deq x d = true from h)]
    | _ => simp [isD] at h
  | _ => rw [q] at h; simp [isD] at h
theorem isL_ok {m : Nat} {body : Mo Fl} {ds xs : List D} (h : isL (mkF m body (datE ds)) xs = true) : mkF m body (datE ds) = .ok (.own (.lst xs)) (datE ds) := by
  cases q : mkF m body (datE ds) with
  | ok r as =>
    have e := mkF_keep q
    subst e
    rw [q] at h
    cases r with
    | own o =>
      cases o with
      | lst x => rw [deqL_eq (show deqL x xs = true from h)]
      | _ => simp [isL] at h
    | _ => simp [isL] at h
  | _ => rw [q] at h; simp [isL] at h
end Fx

/-! Sp: swaps, rows, sets: the mathematics, no program in sight -/
namespace Sp
abbrev Sw := Nat × Nat × Int
def bits : Nat → List (List Int)
  | 0 => [[]]
  | n + 1 => (bits n).flatMap fun r => [r ++ [0], r ++ [1]]
/-- an item -/
def gt (row : List Int) (i : Nat) : Int := row.getD i 0
def stepR (lo hi : Nat) (row : List Int) : List Int := if gt row lo ≤ gt row hi then row else (row.set lo (gt row hi)).set hi (gt row lo)
def srt (row : List Int) : Bool := (row.zip (row.drop 1)).all fun p => decide (p.1 ≤ p.2)
def run (qs : List Sw) (row : List Int) : List Int := qs.foldl (fun r s => stepR s.1 s.2.1 r) row
def sel (X : List Int) (ps : List Sw) : List Sw := (ps.zipIdx.filter fun q => !(X.contains (q.2 : Int))).map (·.1)
def sortsB (n : Nat) (qs : List Sw) : Bool := (bits n).all fun row => srt (run qs row)
/-- a swap of n lines -/
abbrev Good (n : Nat) (s : Sw) : Prop := s.1 < n ∧ s.2.1 < n ∧ s.1 ≠ s.2.1 ∧ 1 ≤ s.2.2 ∧ s.2.2 ≤ 9

theorem mem_bits : ∀ {n : Nat} {row : List Int}, row ∈ bits n ↔ row.length = n ∧ ∀ x ∈ row, x = 0 ∨ x = 1
  | 0, row => by
    unfold bits
    rw [List.mem_singleton]
    constructor
    · rintro rfl; exact ⟨rfl, by simp⟩
    · rintro ⟨h, _⟩; exact List.eq_nil_of_length_eq_zero h
  | n + 1, row => by
    unfold bits
    rw [List.mem_flatMap]
    constructor
    · rintro ⟨r, h1, h2⟩
      obtain ⟨h3, h4⟩ := mem_bits.mp h1
      simp only [List.mem_cons, List.not_mem_nil, or_false] at h2
      rcases h2 with rfl | rfl
      · refine ⟨by simp [h3], fun x hx => ?_⟩
        rcases List.mem_append.mp hx with hx | hx
        · exact h4 x hx
        · exact .inl (by simpa using hx)
      · refine ⟨by simp [h3], fun x hx => ?_⟩
        rcases List.mem_append.mp hx with hx | hx
        · exact h4 x hx
        · exact .inr (by simpa using hx)
    · rintro ⟨h1, h2⟩
      have hne : row ≠ [] := by intro h; rw [h] at h1; simp at h1
      have e := List.dropLast_concat_getLast hne
      refine ⟨row.dropLast, mem_bits.mpr ⟨by rw [List.length_dropLast, h1]; rfl, fun x hx => h2 x (List.dropLast_sublist row |>.subset hx)⟩, ?_⟩
      rcases h2 _ (List.getLast_mem hne) with h | h
      · rw [h] at e; rw [← e]; simp
      · rw [h] at e; rw [← e]; simp
theorem getD_in {l : List Int} {i : Nat} (h : i < l.length) : gt l i = l[i] := by simp [gt, List.getD, h]
theorem bits_len {n : Nat} {row : List Int} (h : row ∈ bits n) : row.length = n := (mem_bits.mp h).1
theorem stepR_len {lo hi : Nat} {row : List Int} : (stepR lo hi row).length = row.length := by
  unfold stepR
  split
  · rfl
  · rw [List.length_set, List.length_set]
theorem stepR_perm {lo hi : Nat} {row : List Int} (h1 : lo < row.length) (h2 : hi < row.length) : (stepR lo hi row).Perm row := by
  unfold stepR
  split
  · exact .refl _
  · rename_i h
    rw [getD_in h1, getD_in h2] at h ⊢
    have hne : lo ≠ hi := by rintro rfl; exact h (Int.le_refl _)
    rw [List.perm_iff_count]
    intro a
    rw [List.count_set (by rw [List.length_set]; exact h2), List.count_set h1]
    rw [List.getElem_set_ne hne]
    by_cases q1 : row[lo] = a
    · have c1 : 0 < row.count a := List.count_pos_iff.mpr (by rw [← q1]; exact List.getElem_mem h1)
      by_cases q2 : row[hi] = a
      · omega
      · rw [if_pos (by simpa using q1), if_neg (by simpa using q2)]
        omega
    · by_cases q2 : row[hi] = a
      · have c2 : 0 < row.count a := List.count_pos_iff.mpr (by rw [← q2]; exact List.getElem_mem h2)
        rw [if_neg (by simpa using q1), if_pos (by simpa using q2)]
        omega
      · rw [if_neg (by simpa using q1), if_neg (by simpa using q2)]
        omega
theorem run_len : ∀ {qs : List Sw} {row : List Int}, (run qs row).length = row.length
  | [], _ => rfl
  | s :: qs, row => by
    show (run qs (stepR s.1 s.2.1 row)).length = _
    rw [run_len, stepR_len]
theorem run_perm {n : Nat} : ∀ {qs : List Sw} {row : List Int}, (∀ s ∈ qs, s.1 < n ∧ s.2.1 < n) → row.length = n → (run qs row).Perm row
  | [], _, _, _ => .refl _
  | s :: qs, row, h, hl => by
    have hs := h s List.mem_cons_self
    show (run qs (stepR s.1 s.2.1 row)).Perm row
    exact (run_perm (fun t ht => h t (List.mem_cons_of_mem _ ht)) (by rw [stepR_len, hl])).trans (stepR_perm (by omega) (by omega))
theorem run_append {qs rs : List Sw} {row : List Int} : run (qs ++ rs) row = run rs (run qs row) := by unfold run; rw [List.foldl_append]
/-- monotone maps go through -/
theorem stepR_map {f : Int → Int} (hf : ∀ a b, a ≤ b → f a ≤ f b) {lo hi : Nat} {row : List Int} (h1 : lo < row.length) (h2 : hi < row.length) : stepR lo hi (row.map f) = (stepR lo hi row).map f := by
  unfold stepR
  rw [getD_in h1, getD_in h2, getD_in (by rw [List.length_map]; exact h1), getD_in (by rw [List.length_map]; exact h2)]
  rw [List.getElem_map, List.getElem_map]
  by_cases h : row[lo] ≤ row[hi]
  · rw [if_pos h, if_pos (hf _ _ h)]
  · rw [if_neg h]
    split
    · rename_i q
      have e : f row[lo] = f row[hi] := Int.le_antisymm q (hf _ _ (by omega))
      rw [List.map_set, List.map_set, e]
      apply List.ext_getElem
      · simp
      · intro i q1 q2
        simp only [List.getElem_set, List.getElem_map]
        split
        · rename_i z; subst z; rfl
        · split
          · rename_i z; subst z; exact e
          · rfl
    · rw [List.map_set, List.map_set]
theorem run_map {f : Int → Int} (hf : ∀ a b, a ≤ b → f a ≤ f b) {n : Nat} : ∀ {qs : List Sw} {row : List Int}, (∀ s ∈ qs, s.1 < n ∧ s.2.1 < n) → row.length = n → run qs (row.map f) = (run qs row).map f
  | [], _, _, _ => rfl
  | s :: qs, row, h, hl => by
    have hs := h s List.mem_cons_self
    show run qs (stepR s.1 s.2.1 (row.map f)) = (run qs (stepR s.1 s.2.1 row)).map f
    rw [stepR_map hf (by omega) (by omega), run_map hf (fun t ht => h t (List.mem_cons_of_mem _ ht)) (by rw [stepR_len, hl])]
theorem srt_cons {a b : Int} {l : List Int} : srt (a :: b :: l) = (decide (a ≤ b) && srt (b :: l)) := rfl
theorem srt_pw : ∀ {l : List Int}, srt l = true ↔ l.Pairwise (· ≤ ·)
  | [] => ⟨fun _ => List.Pairwise.nil, fun _ => rfl⟩
  | [a] => ⟨fun _ => by simp, fun _ => rfl⟩
  | a :: b :: l => by
    rw [srt_cons, Bool.and_eq_true, decide_eq_true_iff, srt_pw]
    constructor
    · rintro ⟨h1, h2⟩
      refine List.pairwise_cons.mpr ⟨fun x hx => ?_, h2⟩
      rw [List.pairwise_cons] at h2
      cases hx with
      | head => exact h1
      | tail _ hx => exact Int.le_trans h1 (h2.1 x hx)
    · intro h
      obtain ⟨h1, h2⟩ := List.pairwise_cons.mp h
      exact ⟨h1 b List.mem_cons_self, h2⟩
/-- the principle of 0 and 1 -/
theorem principle {n : Nat} {qs : List Sw} (hq : ∀ s ∈ qs, s.1 < n ∧ s.2.1 < n) (h : sortsB n qs = true) {row : List Int} (hl : row.length = n) : srt (run qs row) = true := by
  rw [srt_pw, List.pairwise_iff_getElem]
  intro i j hi hj hij
  have key : ∀ t : Int, (run qs (row.map fun x => if x > t then 1 else 0)).Pairwise (· ≤ ·) := fun t => by
    rw [← srt_pw]
    exact List.all_eq_true.mp h _ (mem_bits.mpr ⟨by rw [List.length_map, hl], fun x hx => by
      obtain ⟨y, _, rfl⟩ := List.mem_map.mp hx
      split
      · exact .inr rfl
      · exact .inl rfl⟩)
  have k := key (run qs row)[j]
  rw [run_map (f := fun x => if x > (run qs row)[j] then 1 else 0) (fun a b hab => by split <;> split <;> omega) hq hl, List.pairwise_map, List.pairwise_iff_getElem] at k
  have := k i j hi hj hij
  split at this <;> split at this <;> omega

def insI (a : Int) : List Int → List Int
  | [] => [a]
  | b :: l => if a ≤ b then a :: b :: l else b :: insI a l
def isortI : List Int → List Int
  | [] => []
  | a :: l => insI a (isortI l)
theorem insI_perm (a : Int) : ∀ l : List Int, (insI a l).Perm (a :: l)
  | [] => .refl _
  | b :: l => by
    unfold insI
    split
    · exact .refl _
    · exact ((insI_perm a l).cons b).trans (.swap a b l)
theorem isortI_perm : ∀ l : List Int, (isortI l).Perm l
  | [] => .refl _
  | a :: l => (insI_perm a _).trans ((isortI_perm l).cons a)
theorem insI_pw (a : Int) : ∀ {l : List Int}, l.Pairwise (· ≤ ·) → (insI a l).Pairwise (· ≤ ·)
  | [], _ => by simp [insI]
  | b :: l, h => by
    rw [List.pairwise_cons] at h
    unfold insI
    split
    · rename_i q
      rw [List.pairwise_cons]
      refine ⟨fun x hx => ?_, List.pairwise_cons.mpr h⟩
      cases hx with
      | head => exact q
      | tail _ hx => exact Int.le_trans q (h.1 x hx)
    · rename_i q
      rw [List.pairwise_cons]
      refine ⟨fun x hx => ?_, insI_pw a h.2⟩
      rcases List.mem_cons.mp ((insI_perm a l).subset hx) with rfl | hx
      · omega
      · exact h.1 x hx
theorem isortI_pw : ∀ l : List Int, (isortI l).Pairwise (· ≤ ·)
  | [] => List.Pairwise.nil
  | a :: l => insI_pw a (isortI_pw l)
theorem isortI_of {l r : List Int} (p : l.Perm r) (h : l.Pairwise (· ≤ ·)) : isortI r = l :=
  List.Perm.eq_of_pairwise (le := (· ≤ ·)) (fun _ _ _ _ => Int.le_antisymm) (isortI_pw r) h ((isortI_perm r).trans p.symm)
theorem srt_isort {l : List Int} : srt l = decide (isortI l = l) := by
  rw [Bool.eq_iff_iff, srt_pw, decide_eq_true_iff]
  constructor
  · exact fun h => isortI_of (.refl _) h
  · intro h; rw [← h]; exact isortI_pw l
/-- a row behind a network that sorts -/
theorem run_sorted {n : Nat} {qs : List Sw} (hq : ∀ s ∈ qs, s.1 < n ∧ s.2.1 < n) (h : sortsB n qs = true) {row : List Int} (hl : row.length = n) : run qs row = isortI row :=
  (isortI_of (run_perm hq hl) (srt_pw.mp (principle hq h hl))).symm
theorem sel_mem {X : List Int} {ps : List Sw} {s : Sw} (h : s ∈ sel X ps) : s ∈ ps := by
  unfold sel at h
  obtain ⟨q, hq, rfl⟩ := List.mem_map.mp h
  exact List.fst_mem_of_mem_zipIdx (List.mem_filter.mp hq).1
theorem sel_nil {ps : List Sw} : sel [] ps = ps := by
  unfold sel
  rw [show (ps.zipIdx.filter fun q => !(([] : List Int).contains (q.2 : Int))) = ps.zipIdx from List.filter_eq_self.mpr fun _ _ => rfl]
  simp
end Sp

/-! FxS: the classes asked by isinstance -/
namespace Fx
open PySem PySem.Spec PyProof.Rows L2 LamX
def isiB_int : Ty → Bool := fun t => match t with | .int => true | .bl => true | _ => false
def isiB_bool : Ty → Bool := fun t => match t with | .bl => true | _ => false
def isiB_tuple : Ty → Bool := fun t => match t with | .tup => true | _ => false
def isiB_list : Ty → Bool := fun t => match t with | .lst => true | _ => false
def isiB_str : Ty → Bool := fun t => match t with | .str => true | _ => false
def isiB_list_tuple : Ty → Bool := fun t => match t with | .lst => true | .tup => true | _ => false
abbrev isi_int : Ty → Option Bool := tabB isiB_int
abbrev isi_bool : Ty → Option Bool := tabB isiB_bool
abbrev isi_tuple : Ty → Option Bool := tabB isiB_tuple
abbrev isi_list : Ty → Option Bool := tabB isiB_list
abbrev isi_str : Ty → Option Bool := tabB isiB_str
abbrev isi_list_tuple : Ty → Option Bool := tabB isiB_list_tuple
theorem isiOk_int {g : Gx} {K : PySem.W.Frag} : IsiOk g K (tabB isiB_int) [.type "int"] := isi_tab (by refine ⟨?_, ?_, ?_, ?_, ?_, ?_, ?_⟩ <;> decide +kernel)
theorem isiOk_bool {g : Gx} {K : PySem.W.Frag} : IsiOk g K (tabB isiB_bool) [.type "bool"] := isi_tab (by refine ⟨?_, ?_, ?_, ?_, ?_, ?_, ?_⟩ <;> decide +kernel)
theorem isiOk_tuple {g : Gx} {K : PySem.W.Frag} : IsiOk g K (tabB isiB_tuple) [.type "tuple"] := isi_tab (by refine ⟨?_, ?_, ?_, ?_, ?_, ?_, ?_⟩ <;> decide +kernel)
theorem isiOk_list {g : Gx} {K : PySem.W.Frag} : IsiOk g K (tabB isiB_list) [.type "list"] := isi_tab (by refine ⟨?_, ?_, ?_, ?_, ?_, ?_, ?_⟩ <;> decide +kernel)
theorem isiOk_str {g : Gx} {K : PySem.W.Frag} : IsiOk g K (tabB isiB_str) [.type "str"] := isi_tab (by refine ⟨?_, ?_, ?_, ?_, ?_, ?_, ?_⟩ <;> decide +kernel)
theorem isiOk_list_tuple {g : Gx} {K : PySem.W.Frag} : IsiOk g K (tabB isiB_list_tuple) [.type "list", .type "tuple"] := isi_tab2 isiOk_list isiOk_tuple (fun t => by cases t <;> rfl)
end Fx

/-! FxT: sorted by a key that is a def's call: the objects of ours stay -/
namespace Fx
open PySem PySem.Spec PyProof.Rows L2 LamX
section
variable {X : Cx} {pins : List (Addr × Obj)} {σ : L2.St} {H : Hp} {s : Shared} {h' : Heap}
theorem inv_turnedTo {t' : Nat} {ch : List Addr} {T : Addr} {ob : HO} (I : L2.Inv X pins σ H s) (k : ∀ b o, b ∉ ch → s.heap.get? b = some o → h'.get? b = some o) (hf : ∀ b ∈ ch, FpOk X pins H b) (hT : T ∈ ch)
    (new : ObjOk X.prog X.w (upd H T ob) h' T ob) : L2.Inv X pins σ (upd H T ob) { s with heap := h', toks := t' } := by
  have hn : H T = none := (hf T hT).1
  have nit : ∀ b u, H b = some u → b ∉ ch := fun b u e z => by
    have q := (hf b z).1
    rw [q] at e; cases e
  refine I.step (g' := s.gens) (d' := s.drawn) (ch := ch) (fun b hb => ⟨(hf b hb).2.2.2.1, (hf b hb).2.1, (hf b hb).2.2.2.2.1, (hf b hb).2.2.2.2.2⟩) (fun b o _ _ hc e _ => k b o hc e) (fun b o _ _ hc e _ => ⟨o.slots, k b o hc e⟩)
    (fun b o hc e n => ?_) (fun b o hc e => ⟨o, k b o hc e⟩) (fun b xs e => ?_) (fun b o u e => ?_) (fun b ps e => ⟨#[], ?_⟩) (fun m hm => ?_) (fun b u e => ?_) I.bare
  · rw [upd_ne (fun z => hc (by rw [z]; exact hT))]; exact n
  · rw [upd_ne (ne_of_none e hn)]; exact e
  · rw [upd_ne (ne_of_none e hn)]; exact e
  · rw [upd_ne (ne_of_none e hn), e]; simp
  · obtain ⟨o, es, ep, ho, r⟩ := hm
    exact ⟨o, es, ep, k _ o (fun z => (hf _ z).2.1 rfl) ho, r⟩
  · by_cases hb : b = T
    · subst hb
      rw [upd_same] at e
      cases e
      exact new
    · rw [upd_ne hb] at e
      refine (I.hok b u e).stay (fun c v hc q => k c v ?_ q) (fun c q => by rw [upd_ne (ne_of_none q hn)]; exact q) fun c xs q => by rw [upd_ne (ne_of_none q hn)]; exact q
      rcases hc with z | z
      · rw [z]; exact nit b u e
      · exact nit c _ z
theorem fpOk_of {H' : Hp} {b : Addr} (f : FpOk X pins H b) (h : H' b = none) : FpOk X pins H' b := ⟨h, f.2⟩
theorem vals_snoc : ∀ {vs : List V} {us : List Value} {v : V} {u : Value}, Vals vs us → L2.RelV v u → Vals (vs ++ [v]) (us ++ [u])
  | _, _, _, _, .nil, h => .cons h .nil
  | _, _, _, _, .cons h t, h2 => .cons h (vals_snoc t h2)
theorem dpAll_imp {K : PySem.W.Frag} {H H' : Hp} (k : ∀ u d, Dp K H u d → Dp K H' u d) : ∀ {vs : List V} {ds : List PyData}, DpAll K H vs ds → DpAll K H' vs ds := by
  intro vs
  induction vs with
  | nil => intro ds h; cases h; exact .nil
  | cons v vs ih =>
    intro ds h
    cases h with
    | cons h t => exact .cons (k _ _ h) (ih t)
theorem dpAll_snoc {K : PySem.W.Frag} {H : Hp} {v : V} {d : PyData} (h2 : Dp K H v d) : ∀ {vs : List V} {ds : List PyData}, DpAll K H vs ds → DpAll K H (vs ++ [v]) (ds ++ [d]) := by
  intro vs
  induction vs with
  | nil => intro ds h; cases h; exact .cons h2 .nil
  | cons u vs ih =>
    intro ds h
    cases h with
    | cons h t => first | exact .cons h (ih t) | exact .cons h (ih _ t)
theorem each_reads {h : Heap} : ∀ {us : List Value} {ds : List PyData} {as : List Addr}, ReadsAll h us ds as → W.EachIs (fun v d => ∃ as, Reads h v d as) us ds := by
  intro us ds as r
  have r' : ReadsAll h us (ds.map id) as := by rw [List.map_id]; exact r
  exact W.readsAll_each id r'
theorem keyI_rest {A : Around} {b : Bool} {vs : List Value} {kz : List PyData} {f : Value} {a kS : Addr} {e1 : Nat} {P : PySem.Fin → Shared → Prop} {E : Value → Shared → Prop} (R : Hp → Prop)
    (I : L2.Inv X pins σ H s) (hR : R H) (fS : FpOk X pins H kS) (fa : FpOk X pins H a) (hka : kS ≠ a)
    (nk : s.heap.get? kS = some (seqObj "list" #[] 0)) (na : s.heap.get? a = some (seqObj "list" #[] e1))
    (hlen : kz.length = vs.length) (hZ : vs.length ≤ sizeLine) (hal : W.AllAlike kz) (hsk : W.Sortable kz) (hu : ∀ d, d ∈ kz → A.units + d.depth < cLine)
    (turn : ∀ (i : Nat) (v : Value) (k : PyData), vs[i]? = some v → kz[i]? = some k → ∀ (pl : List (Addr × Obj)) (s' : Shared) (H' : Hp), L2.Inv X (pins ++ pl) σ H' s' → R H' →
      wpAny (model X.prog X.w) A (call f [v]) (EP X (pins ++ pl) σ fun x H2 => R H2 ∧ (∀ u d, Dp X.K H' u d → Dp X.K H2 u d) ∧ Dp X.K H2 x k) (fun _ _ => False) s')
    (h : ∀ h' tk s' H' out c, L2.Inv X pins σ H' s' → R H' → FpOk X pins H' kS → FpOk X pins H' a → (∀ b o, b ∉ [a, kS] → s'.heap.get? b = some o → h'.get? b = some o) → h'.get? a = some (seqObj "list" (List.toArray out) c) →
      W.KeyedOut b kz vs out → P (.done (.ret .none)) { s' with heap := h', toks := tk }) :
    wpAny (model X.prog X.w) A (ksk_rest a f b vs.toArray e1 (.ref kS)) P E s := by
  have pinS : ∀ (kA : Array Value) (e : Nat) {H' : Hp} {s' : Shared}, L2.Inv X pins σ H' s' → H' kS = none → H' a = none → s'.heap.get? kS = some (seqObj "list" kA e) → s'.heap.get? a = some (seqObj "list" #[] e1) →
      L2.Inv X (pins ++ [(kS, seqObj "list" kA e), (a, seqObj "list" #[] e1)]) σ H' s' := fun kA e {H' s'} I' n1 n2 g1 g2 => I'.pins_of fun p hp => by
    rcases List.mem_append.mp hp with hp | hp
    · exact I'.pin p (List.mem_append_right _ hp)
    · rcases List.mem_cons.mp hp with rfl | hp
      · exact ⟨g1, n1, fS.2.1, fS.2.2.1, fun v z => by cases z⟩
      · rw [List.mem_singleton.mp hp]
        exact ⟨g2, n2, fa.2.1, fa.2.2.1, fun v z => by cases z⟩
  unfold ksk_rest
  refine wpAny_bind (wpAny_rule ?_)
  first
    | rw [List.forIn_toArray]
    | (rw [← Array.forIn_toList]; simp only [List.toList_toArray])
    | rw [← Array.forIn_toList]
  refine wpAny_bind (ksk_fold (fun i s' => ∃ H' kA e kvs, L2.Inv X (pins ++ [(kS, seqObj "list" kA e), (a, seqObj "list" #[] e1)]) σ H' s' ∧ R H' ∧ Vals kvs kA.toList ∧ DpAll X.K H' kvs (kz.take i) ∧ kA.size = i) vs 0 s
    ⟨H, #[], 0, [], pinS _ _ I fS.1 fa.1 nk na, hR, .nil, by rw [List.take_zero]; exact .nil, rfl⟩ ?step ?done)
  case step =>
    rintro j x s' hx ⟨H', kA, e, kvs, I', hR', hv, hk, hz⟩
    simp only [Nat.zero_add] at hk hz ⊢
    have hj : j < vs.length := (List.getElem?_eq_some_iff.mp hx).1
    obtain ⟨k, hkj⟩ : ∃ k, kz[j]? = some k := ⟨_, List.getElem?_eq_getElem (by omega)⟩
    refine wpAny_bind (wpAny_attempt (wpAny_mono (turn j x k hx hkj _ s' H' I' hR') (fun v s'' he => ?_) fun _ _ hF => hF.elim))
    obtain ⟨y, H2, I2, rv, hR2, hD, hy⟩ := he
    try dsimp only
    obtain ⟨q1, q2, _⟩ := I2.pin (kS, seqObj "list" kA e) (List.mem_append_right _ (List.mem_append_right _ (.head _)))
    obtain ⟨q3, q4, _⟩ := I2.pin (a, seqObj "list" #[] e1) (List.mem_append_right _ (List.mem_append_right _ (.tail _ (.head _))))
    try dsimp only at q1 q2 q3 q4
    have s1 := Heap.SameBut.update s''.heap kS (Obj.mapSeq (·.push v))
    obtain ⟨c2, hc2⟩ : ∃ c2, (s''.heap.update kS (Obj.mapSeq (·.push v))).get? kS = some (seqObj "list" (kA.push v) c2) := ⟨_, get?_update_seq q1 (·.push v)⟩
    have ek : kz.take (j + 1) = kz.take j ++ [k] := by rw [List.take_add_one, hkj]; simp
    have ea : (kA.push v).toList = kA.toList ++ [v] := by simp
    refine wpAny_bind (listUpdate_at q1 rfl ?_ (by omega) (by rw [Array.size_push]; omega))
    refine wpAny_pure ⟨rfl, H2, kA.push v, c2, kvs ++ [y], ?_, hR2, by rw [ea]; exact vals_snoc hv rv, by rw [ek]; exact dpAll_snoc hy (dpAll_imp hD hk), by rw [Array.size_push, hz]⟩
    have J : L2.Inv X pins σ H2 { s'' with heap := s''.heap.update kS (Obj.mapSeq (·.push v)) } := I2.unpinned.turnedL (t' := s''.toks) (ch := [kS]) (fun b o hb e => (s1.2 b (fun z => hb (by rw [z]; exact .head _))).trans e) (fun b hb => by
      rw [List.mem_singleton.mp hb]; exact fpOk_of fS q2)
    exact pinS _ _ J q2 q4 hc2 ((s1.2 a hka.symm).trans q3)
  case done =>
    rintro s' ⟨H', kA, e, kvs, I', hR', hv, hk, hz⟩
    have e3 : kz.take (0 + vs.length) = kz := List.take_of_length_le (by omega)
    rw [e3] at hk
    obtain ⟨q1, q2, _⟩ := I'.pin (kS, seqObj "list" kA e) (List.mem_append_right _ (List.mem_append_right _ (.head _)))
    obtain ⟨q3, q4, _⟩ := I'.pin (a, seqObj "list" #[] e1) (List.mem_append_right _ (List.mem_append_right _ (.tail _ (.head _))))
    try dsimp only at q1 q2 q3 q4
    obtain ⟨as, hr⟩ := Dp.readsAll I' _ _ _ hk hv
    have hk' : W.EachIs (fun v k => ∃ as, Reads s'.heap v k as) kA.toList kz := each_reads hr
    obtain ⟨G, g1, g2⟩ := restrict s'.heap fun b => decide (b ≠ kS)
    try dsimp only
    refine wpAny_bind (listItems_at q1 rfl ?_)
    have kp : W.KeepsBut a G s'.heap := fun b o _ e => by
      by_cases hb : b = kS
      · rw [hb, g2 kS (decide_eq_false fun z => z rfl)] at e; cases e
      · rw [g1 b (decide_eq_true hb)] at e; exact e
    refine W.keyH_end (κ := W.dataKind s'.heap kz) (h₁ := G) kp (g2 kS (decide_eq_false fun z => z rfl)) q1 q3 hka (W.SortsAt.data hk' hal hsk hu) (by omega) hZ fun h3 tk3 c k3 n3 => ?_
    exact h h3 tk3 s' H' _ c I'.unpinned hR' (fpOk_of fS q2) (fpOk_of fa q4) (fun b o hb e => k3 b o (fun z => hb (by rw [z]; exact .head _)) (by
      rw [g1 b (decide_eq_true fun z => hb (by rw [z]; exact .tail _ (.head _)))]; exact e)) n3 ⟨s'.heap, kA.toList, hal, rfl, hk'⟩
theorem keyI_tree {A : Around} {b : Bool} {vs : List Value} {kz : List PyData} {f : Value} {a : Addr} {n : Nat} {P : PySem.Fin → Shared → Prop} {E : Value → Shared → Prop} (R : Hp → Prop)
    (I : L2.Inv X pins σ H s) (hR : R H) (fa : FpOk X pins H a) (ho : s.heap.get? a = some (seqObj "list" vs.toArray n))
    (hlen : kz.length = vs.length) (hZ : vs.length ≤ sizeLine) (hal : W.AllAlike kz) (hsk : W.Sortable kz) (hu : ∀ d, d ∈ kz → A.units + d.depth < cLine)
    (turn : ∀ (i : Nat) (v : Value) (k : PyData), vs[i]? = some v → kz[i]? = some k → ∀ (pl : List (Addr × Obj)) (s' : Shared) (H' : Hp), L2.Inv X (pins ++ pl) σ H' s' → R H' →
      wpAny (model X.prog X.w) A (call f [v]) (EP X (pins ++ pl) σ fun x H2 => R H2 ∧ (∀ u d, Dp X.K H' u d → Dp X.K H2 u d) ∧ Dp X.K H2 x k) (fun _ _ => False) s')
    (h : ∀ h' tk s' H' out c kS, L2.Inv X pins σ H' s' → R H' → FpOk X pins H' kS → FpOk X pins H' a → (∀ b o, b ∉ [a, kS] → s'.heap.get? b = some o → h'.get? b = some o) → h'.get? a = some (seqObj "list" (List.toArray out) c) →
      W.KeyedOut b kz vs out → P (.done (.ret .none)) { s' with heap := h', toks := tk }) :
    wpAny (model X.prog X.w) A (ksk_tree a f b) P E s := by
  have ha : a < s.heap.objs.size := Heap.lt_size ho
  have s1 := Heap.SameBut.update s.heap a (Obj.mapSeq fun _ => (#[] : Array Value))
  obtain ⟨e1, ho1⟩ : ∃ e1, (s.heap.update a (Obj.mapSeq fun _ => (#[] : Array Value))).get? a = some (seqObj "list" #[] e1) := ⟨_, get?_update_seq ho fun _ => #[]⟩
  have hkS : ((s.heap.update a (Obj.mapSeq fun _ => (#[] : Array Value))).push (seqObj "tuple" vs.toArray 0)).objs.size = s.heap.objs.size + 1 := by rw [size_push', Heap.size_update]
  unfold ksk_tree
  refine wpAny_bind (listItems_at ho rfl ?_)
  refine wpAny_bind (listUpdate_at ho rfl ?_ (by rw [List.size_toArray]; exact hZ) (Nat.zero_le _))
  refine wpAny_bind (seqEpoch_at ho1 rfl ?_)
  refine wpAny_bind (wpAny_newTuple ?_ (by show vs.length ≤ _; exact hZ))
  refine wpAny_bind (wpAny_newList ?_ (Nat.zero_le _))
  refine wpAny_holding ?_
  have J : L2.Inv X pins σ H { s with heap := ((s.heap.update a (Obj.mapSeq fun _ => (#[] : Array Value))).push (seqObj "tuple" vs.toArray 0)).push (seqObj "list" #[] 0) } :=
    I.turnedL (t' := s.toks) (ch := [a]) (fun b o hb e => Heap.get?_push_of_some _ (Heap.get?_push_of_some _ ((s1.2 b (fun z => hb (by rw [z]; exact .head _))).trans e))) fun b hb => by rw [List.mem_singleton.mp hb]; exact fa
  refine keyI_rest (kz := kz) R J hR (I.fpOk (by rw [hkS]; exact Nat.le_succ _) (I.hok.fresh (by rw [hkS]; exact Nat.le_succ _))) fa (by rw [hkS]; exact Nat.ne_of_gt (Nat.lt_succ_of_lt ha)) (Heap.get?_push_size _ rfl) (Heap.get?_push_of_some _ (Heap.get?_push_of_some _ ho1))
    hlen hZ hal hsk hu turn fun h' tk s' H' out c I' hR' f1 f2 k g ko => h h' tk s' H' out c _ I' hR' f1 f2 k g ko
/-- sorted(l, key=f) -/
theorem sortedI {A : Around} {b : Bool} {xs : List V} {bs : List (V × PyData)} {f : Value} {l : Addr} {kw : List (Str × Value)} {Q : VK} {E : Value → Shared → Prop} (R : Hp → Prop)
    (I : L2.Inv X pins σ H s) (hR : R H) (hl : SqL X.K H l (bs.map (·.1)))
    (hal : W.AllAlike (bs.map (·.2))) (hsk : W.Sortable (bs.map (·.2))) (hu : ∀ d, d ∈ bs.map (·.2) → A.units + 2 + d.depth < cLine)
    (ha1 : argsOk "sorted" ⟨[.ref l], kw⟩) (ha2 : ∀ x, argsOk "list.sort" ⟨[.ref x], kw⟩) (ht : ∀ x, Builtin.«list.sort» ⟨[.ref x], kw⟩ = ksk_tree x f b)
    (turn : ∀ (q : V × PyData) (u : Value), q ∈ bs → L2.RelV q.1 u → ∀ (pl : List (Addr × Obj)) (s' : Shared) (H' : Hp), L2.Inv X (pins ++ pl) σ H' s' → R H' →
      wpAny (model X.prog X.w) A.in1.in1 (call f [u]) (EP X (pins ++ pl) σ fun x H2 => R H2 ∧ (∀ u d, Dp X.K H' u d → Dp X.K H2 u d) ∧ Dp X.K H2 x q.2) (fun _ _ => False) s')
    (hQ : ∀ H' p, R H' → H' p = none → Q (.ref p) (upd H' p (.lst ((bs.mergeSort (W.dataLe b (·.2))).map (·.1))))) :
    wpAny (model X.prog X.w) A (call (.builtin "sorted") [.ref l] kw) (EP X pins σ Q) E s := by
  obtain ⟨its, rv, hp, hz⟩ := I.list hl
  have hlen : its.length = bs.length := by have := rv.length; rw [List.length_map] at this; exact this.symm
  rw [List.length_map] at hz
  have ev : W.EachIs (fun u (q : V × PyData) => L2.RelV q.1 u) its bs := by
    clear hl hz hal hsk hu turn hQ hlen hp
    induction bs generalizing its with
    | nil => cases rv; exact .nil
    | cons q bs ih =>
      rw [List.map_cons] at rv
      cases rv with
      | cons h t => first | exact .cons h (ih t) | exact .cons h (ih _ t)
  refine W.sorted_of_sort hp.isList (by omega) ha1 ha2 fun E' => ?_
  rw [ht]
  have J : L2.Inv X pins σ H { s with heap := W.copyHeap s.heap its } := I.kept fun b o e => W.copyHeap_old e
  refine keyI_tree (kz := bs.map (·.2)) R J hR (I.fpOk (Nat.le_succ _) (I.hok.fresh (Nat.le_succ _))) (W.copyHeap_at _ _) (by rw [List.length_map]; omega) (by omega) hal hsk (fun d hd => ?_) (fun i v k hv hk pl s' H' I' hR' => ?_) fun h' tk s' H' out c kS I' hR' f1 f2 k g ko => ⟨rfl, ?_⟩
  · have := hu d hd
    show A.units + 1 + 1 + d.depth < cLine
    omega
  · rw [List.getElem?_map] at hk
    cases q : bs[i]? with
    | none => rw [q] at hk; simp at hk
    | some y =>
      rw [q] at hk
      have hk' : some y.2 = some k := hk
      rw [← Option.some.inj hk']
      have hm : (v, y) ∈ its.zip bs := List.mem_of_getElem? (i := i) (by rw [List.getElem?_zip_eq_some]; exact ⟨hv, q⟩)
      exact turn y v (List.mem_of_getElem? q) (ev.zip _ hm) pl s' H' I' hR'
  · have eo := W.keyedOut_each (fun q : V × PyData => q.2) ko ev
    have lo : (bs.mergeSort (W.dataLe b (·.2))).length = bs.length := List.length_mergeSort _
    exact ⟨.ref _, upd H' (s.heap.objs.size + 1) (.lst ((bs.mergeSort (W.dataLe b (·.2))).map (·.1))), inv_turnedTo (ch := [s.heap.objs.size + 1, kS]) (t' := tk) I' k (fun b hb => by
      rcases List.mem_cons.mp hb with rfl | hb
      · exact f2
      · rw [List.mem_singleton.mp hb]; exact f1) (.head _) (by unfold ObjOk; exact ⟨by rw [List.length_map, lo]; exact hz, out, c, vals_of eo, g⟩), rfl, hQ _ _ hR' f2.1⟩
end
end Fx

/-! FxU: a lambda with one parameter as the key of sorted -/
namespace Fx
open PySem PySem.Spec PyProof.Rows L2 LamX
/-- a lambda with the one parameter x, and no other name of its own -/
structure LamP (sc scope : Scope) (x : Str) : Prop where
  kind : scope.kind = .function
  co : scope.isCoroutine = false
  gen : scope.isGenerator = false
  own : ∀ y ∈ scope.names, y.2 ≠ .cell ∧ (y.2 = .local → y.1 = x)
  par : scope.names.lookup x = some .local
  free : ∀ y ∈ scope.names, y.2 = .free → sc.names.lookup y.1 = some .cell ∨ sc.names.lookup y.1 = some .free
def lamPB (sc scope : Scope) (x : Str) : Bool :=
  decide (scope.kind = .function) && !scope.isCoroutine && !scope.isGenerator && decide (scope.names.lookup x = some .local) && scope.names.all fun y => !decide (y.2 = .cell) && (!decide (y.2 = .local) || decide (y.1 = x)) && (!decide (y.2 = .free) || decide (sc.names.lookup y.1 = some .cell) || decide (sc.names.lookup y.1 = some .free))
theorem lamP_by {sc scope : Scope} {x : Str} (h : lamPB sc scope x = true) : LamP sc scope x := by
  unfold lamPB at h
  simp only [Bool.and_eq_true, Bool.or_eq_true, Bool.not_eq_true', decide_eq_true_eq, decide_eq_false_iff_not, List.all_eq_true] at h
  obtain ⟨⟨⟨⟨h1, h2⟩, h3⟩, h5⟩, h4⟩ := h
  refine ⟨h1, h2, h3, fun y hy => ⟨(h4 y hy).1.1, fun e => ?_⟩, h5, fun y hy e => ?_⟩
  · exact (h4 y hy).1.2.resolve_left fun z => z e
  · rcases (h4 y hy).2 with (z | z) | z
    · exact absurd e z
    · exact .inl z
    · exact .inr z
section
variable {X : Cx} {pins : List (Addr × Obj)} {σ : L2.St} {H : Hp} {s : Shared}
theorem LamP.has {scope : Scope} {x : Str} (L : LamP X.env.scope scope x) (ok : X.Ok) : ∀ y ∈ scope.names, y.2 = .free → ∃ c, X.env.cells.lookup y.1 = some c := fun y hy e => by
  rcases L.free y hy e with k | k
  · exact ok.has _ (.inl k)
  · exact ok.has _ (.inr k)
theorem lam_start1 {A : Around} {outer : List Env} {E : XK} {scope : Scope} {f c' : Addr} {h₁ : Heap} {tk i : Nat} {x : Str} {v : V} {u : Value} (I : L2.Inv X pins σ H s) (L : LamP X.env.scope scope x) (e0 : Env0 X.prog X.w X.K X.mg X.base A outer s H) (hd : A.handled = none)
    (hN : X.N.Nodup) (hx : X.N[i]? = some x) (r : L2.RelV v u)
    (hns : h₁.Ns s.heap.objs.size fun y => ([(x, u)] : List (Str × Value)).reverse.lookup y) (kp : ∀ b o, s.heap.get? b = some o → h₁.get? b = some o) :
    L2.Inv (lamCx X A outer s H E scope f c') [] (σ.set i (some v)) H { s with heap := h₁, toks := tk } := by
  have hfree := L.has I.ok
  have cm : ∀ {y c}, (cloFrom X.env.cells scope.names []).lookup y = some c → X.env.cells.lookup y = some c := fun {y c} e => by
    rcases cloFrom_mem (PySem.mem_of_lookup e) with hm | ⟨h1, h2⟩
    · cases hm
    · obtain ⟨c1, hc⟩ := hfree _ h1 rfl
      have hc : X.env.cells.lookup y = some c1 := hc
      have e2 : c = c1 := by
        rw [h2, hc] <;> rfl
      rw [e2]
      exact hc
  have look : ∀ {y}, scope.names.lookup y = some .free → ∃ c, (cloFrom X.env.cells scope.names []).lookup y = some c := fun {y} hl => by
    have hy : (y, NameKind.free) ∈ scope.names := PySem.mem_of_lookup hl
    exact mem_lookup (cloFrom_has (cells := X.env.cells) (acc := []) hy)
  have cellK : ∀ {c : Addr} {v : Option Value}, s.heap.IsCell c v → h₁.IsCell c v := fun {c v} ⟨o, ho, hd⟩ => ⟨o, kp _ _ ho, hd⟩
  have noA : ∀ b : Addr, b ∉ (lamCx X A outer s H E scope f c').ex := fun b z => absurd (show b ∈ ([] : List Addr) from z) (by simp)
  refine ⟨⟨e0.mod, L.kind, rfl, rfl, Nat.le_refl _, fun y z c e1 e2 => I.ok.inj y z c (cm e1) (cm e2), fun y hy => ?_, fun y c z _ => ?_, fun _ => hd, Around.frames_deeper e0.frames, .inr ⟨rfl, rfl⟩, fun b z => absurd z (noA b), e0.bs, e0.bsz, fun b _ _ => noA b,
      fun b z => absurd z (noA b), e0.funs, e0.frf⟩,
    rfl, e0.bare, Un.kept kp, ⟨_, hns, fun j y w e1 e2 e3 => ?_⟩, fun y c e => ?_, e0.hok.fresh (Nat.le_refl _), fun y c e => ?_, fun q hq => absurd (show q ∈ ([] : List (Addr × Obj)) ++ [] from hq) (by simp), e0.hok.kept kp, (List.length_set ..).trans I.len⟩
  · have hy : scope.names.lookup y = some .cell ∨ scope.names.lookup y = some .free := hy
    rcases hy with hy | hy
    · exact absurd rfl (L.own _ (PySem.mem_of_lookup hy)).1
    · exact look hy
  · have z : false = true := z
    cases z
  · have e3 : Vis scope y := e3
    have e1 : X.N[j]? = some y := e1
    have e2 : (σ.set i (some v))[j]? = some (some w) := e2
    rcases e3 with k | k | k
    · have ey : y = x := (L.own _ (PySem.mem_of_lookup k)).2 rfl
      subst ey
      have ej : j = i := (List.getElem?_inj (List.getElem?_eq_some_iff.mp e1).1 hN).mp (e1.trans hx.symm)
      subst ej
      have hl : j < σ.length := by rw [I.len]; exact (List.getElem?_eq_some_iff.mp e1).1
      rw [List.getElem?_set_self hl] at e2
      cases e2
      exact ⟨u, r, .inl ⟨k, by simp [List.lookup]⟩⟩
    · exact absurd rfl (L.own _ (PySem.mem_of_lookup k)).1
    · have ne : i ≠ j := fun z => by
        subst z
        rw [hx] at e1
        cases e1
        rw [L.par] at k
        cases k
      rw [List.getElem?_set_ne ne] at e2
      obtain ⟨m, hn, hl⟩ := I.loc
      have hvis : Vis X.env.scope y := (L.free _ (PySem.mem_of_lookup k) rfl).elim (fun k => .inr (.inl k)) (fun k => .inr (.inr k))
      obtain ⟨w', r, q⟩ := hl j y w e1 e2 hvis
      obtain ⟨c2, h2⟩ := look k
      refine ⟨w', r, .inr ⟨.inr k, c2, h2, ?_⟩⟩
      have c1 := cm h2
      rcases q with ⟨k', _⟩ | ⟨_, c3, e', z⟩
      · have k' : X.env.scope.names.lookup y = some .local := k'
        rcases L.free _ (PySem.mem_of_lookup k) rfl with k2 | k2 <;> rw [show X.env.scope.names.lookup y = _ from k2] at k' <;> cases k'
      · rw [c1] at e'
        cases e'
        exact cellK z
  · obtain ⟨w', z⟩ := I.cell y c (cm e)
    exact ⟨w', cellK z⟩
  · exact I.freeC y c (cm e)
/-- the lambda is called -/
theorem lam_call1 {A' : Around} {k i : Nat} {x : Str} {params : Arguments} {body : Expr} {scope : Scope} {f c' : Addr} {pm ctv : Value} {v : V} {u : Value} {tb : TE} {Q : VK} (I : L2.Inv X pins σ H s) (L : LamP X.env.scope scope x)
    (hf : s.heap.get? f = some (PySem.W.kla_obj "<lambda>" (X.env.qual ++ "<lambda>") params body scope (cloFrom X.env.cells scope.names []) pm c' ctv)) (hc : H c' = some (CodeO c' (X.env.qual ++ "<lambda>")))
    (hfr : A'.frames = X.A.frames) (hr : Room (k + 1) A') (hN : X.N.Nodup) (hx : X.N[i]? = some x) (r : L2.RelV v u)
    (hbind : bindArgs (PySem.W.kla_fn "<lambda>" (X.env.qual ++ "<lambda>") params body scope (cloFrom X.env.cells scope.names []) pm (.ref c') ctv) ⟨[u], []⟩ = pure [(x, u)])
    (hbody : PE (lamCx X A' X.stack s H (fun _ _ _ => False) scope f c') body tb) (ht : tb (σ.set i (some v)) H Q) :
    wpAny (model X.prog X.w) A' (call (.ref f) [u]) (EP X pins σ Q) (fun _ _ => False) s := by
  have e0 : Env0 X.prog X.w X.K X.mg X.base A' X.stack s H := by
    have z := I.env0
    exact ⟨hfr.trans z.frames, z.mod, z.bs, z.bsz, z.funs, z.frf, z.hok, z.bare⟩
  obtain ⟨⟨oc, vs, t, hoc, hdc, hvc⟩, _, _⟩ := I.hok c' _ hc
  have rc : codeAny (model X.prog X.w) A' (.call (.ref f) ⟨[u], []⟩) (CR (L2.CX X.prog X.w) X.stack X.prog X.w H s Q (fun _ _ _ => False)) s := by
    refine PySem.W.kla_callFunE hr.depth hf rfl L.co L.gen rfl ⟨c', oc, vs, t, rfl, hoc, hdc, hvc⟩ ?_
    rw [hbind]
    refine wpAny_pure (wpAny_newFunctionEnv (fun y hy => (L.own y hy).1) (fun y hy => by rw [List.mem_singleton.mp hy]; exact L.par) (fun h₁ hns hsb => ⟨I.nolimit.fresh _ hsb, ?_⟩) L.kind)
    show codeAny _ _ (.expr body (lamEnv X scope s.heap.objs.size f c')) _ _
    have kp : ∀ b o, s.heap.get? b = some o → h₁.get? b = some o := fun b o e => hsb.extBut b o (Nat.ne_of_lt (Heap.lt_size e)) (Heap.get?_push_of_some _ e)
    have J : L2.Inv (lamCx X A' X.stack s H (fun _ _ _ => False) scope f c') [] (σ.set i (some v)) H { s with heap := h₁, toks := s.toks + ([(x, u)] : List (Str × Value)).length } :=
      lam_start1 I L e0 hr.hd hN hx r hns kp
    refine PySem.W.kla_codeExpr (wpAny_mono (hbody.run [] _ _ H Q J ht) (fun v s' hq => ?_) fun e s' hq => hq)
    obtain ⟨w', H', J', rv, q⟩ := hq
    exact ⟨w', H', J'.os, J'.bare, J'.base, J'.hok, rv, q⟩
  refine wpAny_call (codeAny_mono rc fun r s' hq => ?_)
  cases r with
  | error e =>
    obtain ⟨_, _, _, _, _, _, _, _, _, _, _, _, z⟩ := (show L2.CX X.prog X.w X.stack H s (fun _ _ _ => False) e s' from hq)
    exact z
  | ok fl =>
    cases fl with
    | ret u => exact I.after hq
    | next => exact False.elim hq
    | brk => exact False.elim hq
    | cont => exact False.elim hq
end
/-! ### the lambda is made -/
/-- the table at P is written, the code object at c is new -/
structure TabG (T : List (Addr × Str)) (H H' : Hp) : Prop where
  fr : ∀ b o, H b = some o → NT o → H' b = some o
  dom : ∀ b, H b ≠ none → H' b ≠ none
  nt : ∀ a ps, H' a = some (.tbl ps) → ∃ qs, H a = some (.tbl qs)
  tab : Tabs T H'
theorem tabG_refl {T : List (Addr × Str)} {H : Hp} (t : Tabs T H) : TabG T H H := ⟨fun _ _ h _ => h, fun _ h => h, fun _ ps h => ⟨ps, h⟩, t⟩
theorem tabG_new {T : List (Addr × Str)} {H : Hp} {P c : Addr} {q : Str} {pos : Pos} {ps : Array Value} (hT : Tabs T H) (hP : H P = some (.tbl ps)) (ht : TriplesOk ps.toList) (ha : ∀ (pos : Pos) (cv : Value), codeAmong pos ps.toList = some cv → ∃ c, cv = .ref c ∧ H c = some (CodeO c q))
    (hu : ∀ p ∈ T, p.1 = P → p.2 = q) (nC : H c = none) : TabG T H (upd (upd H P (.tbl (ps ++ #[rawInt pos.line, rawInt pos.col, .ref c]))) c (CodeO c q)) := by
  have nPc : P ≠ c := ne_of_none hP nC
  have fr : ∀ b o, H b = some o → NT o → (upd (upd H P (.tbl (ps ++ #[rawInt pos.line, rawInt pos.col, .ref c]))) c (CodeO c q)) b = some o := fun b o e n => by
    rw [upd_ne (ne_of_none e nC), upd_ne fun z => n ps (Option.some.inj (e.symm.trans (by rw [z]; exact hP)))]
    exact e
  have atP : (upd (upd H P (.tbl (ps ++ #[rawInt pos.line, rawInt pos.col, .ref c]))) c (CodeO c q)) P = some (.tbl (ps ++ #[rawInt pos.line, rawInt pos.col, .ref c])) := by rw [upd_ne nPc, upd_same]
  refine ⟨fr, fun b h => ?_, fun a qs h => ?_, fun p hp => ?_⟩
  · by_cases hb : b = P
    · rw [hb, atP]; simp
    · rw [upd_ne (fun z => h (by rw [z]; exact nC)), upd_ne hb]; exact h
  · by_cases hc : a = c
    · rw [hc, upd_same] at h
      exact absurd (Option.some.inj h) (codeO_ne qs)
    · by_cases hb : a = P
      · exact ⟨ps, by rw [hb]; exact hP⟩
      · rw [upd_ne hc, upd_ne hb] at h; exact ⟨qs, h⟩
  · by_cases hb : p.1 = P
    · rw [hu p hp hb, hb]
      have eL : (ps ++ #[rawInt pos.line, rawInt pos.col, .ref c]).toList = ps.toList ++ [rawInt pos.line, rawInt pos.col, .ref c] := by simp
      refine ⟨_, atP, by rw [eL]; exact PySem.TriplesOk_snoc _ _ _ _ ht, fun p' cv hcv => ?_⟩
      rw [eL] at hcv
      rcases among_app _ ht hcv with z | z
      · obtain ⟨c0, e1, e2⟩ := ha p' cv z
        exact ⟨c0, e1, fr _ _ e2 codeO_ne⟩
      · exact ⟨c, z, upd_same⟩
    · obtain ⟨ps', a1, a2, a3⟩ := hT p hp
      refine ⟨ps', by rw [upd_ne (ne_of_none a1 nC), upd_ne hb]; exact a1, a2, fun p' cv hcv => ?_⟩
      obtain ⟨c0, e1, e2⟩ := a3 p' cv hcv
      exact ⟨c0, e1, fr _ _ e2 codeO_ne⟩
section
variable {X : Cx} {pins : List (Addr × Obj)} {σ : L2.St} {H : Hp} {s : Shared}
theorem lam_make3 {T : List (Addr × Str)} {c P : Addr} {params : Arguments} {body : Expr} {scope : Scope} {pos : Pos} {E : Value → Shared → Prop} {Q : Value → Shared → Prop} (I : L2.Inv X pins σ H s) (TB : TabB X.base X.mg c P) (hcode : X.env.code = .ref c)
    (hm : (P, X.env.qual ++ "<lambda>") ∈ T) (hu : ∀ p ∈ T, p.1 = P → p.2 = X.env.qual ++ "<lambda>") (hT : Tabs T H) (hdef : defaultsOf params X.env = ([], [])) (hfree : ∀ y ∈ scope.names, y.2 = .free → ∃ c, X.env.cells.lookup y.1 = some c)
    (h : ∀ (f c' : Addr) (pm ctv : Value) (H1 : Hp) (s' : Shared), L2.Inv X pins σ H1 s' → TabG T H H1 →
      s'.heap.get? f = some (PySem.W.kla_obj "<lambda>" (X.env.qual ++ "<lambda>") params body scope (cloFrom X.env.cells scope.names []) pm c' ctv) → H1 f = none → f ∉ frs X.stack → H1 c' = some (CodeO c' (X.env.qual ++ "<lambda>")) → FpOk X pins H1 f → Q (.ref f) s') :
    wpAny (model X.prog X.w) X.A (eval (.Lambda params body scope pos) X.env) Q E s := by
  obtain ⟨ps, hP, ht, ha⟩ := hT _ hm
  refine PySem.W.kla_eval hdef ?_
  have bP : s.heap.BuiltinsAt X.mg P := TB.bm.keeps I.bk
  have hP' : s.heap.get? P = some { cls := .none, data := .fields ps } := I.hok P _ hP
  have nofr : ∀ f, s.heap.objs.size ≤ f → f ∉ frs X.stack := fun f hf z => by
    rcases List.mem_cons.mp (I.stkSub _ z) with e | e
    · have h1 := I.lt
      rw [← e] at h1
      exact Nat.lt_irrefl _ (Nat.lt_of_lt_of_le h1 hf)
    · exact I.nofs hf e
  cases hc : codeAmong pos ps.toList with
  | none =>
    refine PySem.W.kla_makeFunction (mg := X.mg) (c := c) (P := P) (ps := ps) (closure_ok hfree) I.ok.glob (I.mod.glob.keeps I.bk) hcode (TB.code.keeps I.bk) hP' ht hc TB.gP bP fun c' ctv h' tk hx hge hlt hrec htb => ?_
    obtain ⟨c2, oc, vs, t, e2, hoc, hd, hv⟩ := hrec
    cases e2
    have nC : H c' = none := I.hok.fresh hge
    have G := tabG_new (pos := pos) hT hP ht ha hu nC
    have hsz : s.heap.objs.size ≤ h'.objs.size := Nat.le_trans hge (Nat.le_of_lt hlt)
    have n1 : h'.objs.size ≠ c' := Nat.ne_of_gt hlt
    have n2 : h'.objs.size ≠ P := Nat.ne_of_gt (Nat.lt_of_lt_of_le (Heap.lt_size hP') hsz)
    have nf : (upd (upd H P (.tbl (ps ++ #[rawInt pos.line, rawInt pos.col, .ref c']))) c' (CodeO c' (X.env.qual ++ "<lambda>"))) h'.objs.size = none := by
      rw [upd_ne n1, upd_ne n2]; exact I.hok.fresh hsz
    refine h h'.objs.size c' ((X.mg "__name__").getD .none) ctv _ _ (inv_table (t' := tk) (more := #[rawInt pos.line, rawInt pos.col, .ref c']) (h' := h'.push (PySem.W.kla_obj "<lambda>" (X.env.qual ++ "<lambda>") params body scope (cloFrom X.env.cells scope.names []) ((X.mg "__name__").getD .none) c' ctv)) I hP
      (fun b o hb e => Heap.get?_push_of_some _ (hx b o hb e)) (Heap.get?_push_of_some _ htb) hge ⟨oc, vs, t, Heap.get?_push_of_some _ hoc, hd, hv⟩) G (Heap.get?_push_size _ rfl) nf (nofr _ hsz) upd_same (I.fpOk hsz nf)
  | some cv =>
    obtain ⟨c', e, hco⟩ := ha pos cv hc
    subst e
    refine PySem.W.kla_makeFunctionHit (mg := X.mg) (c := c) (P := P) (ps := ps) (closure_ok hfree) I.ok.glob (I.mod.glob.keeps I.bk) hcode (TB.code.keeps I.bk) hP' ht hc bP fun ctv h' tk hx hsz => ?_
    exact h h'.objs.size c' ((X.mg "__name__").getD .none) ctv H _ (I.kept (t' := tk) fun b o e => Heap.get?_push_of_some _ (hx b o e)) (tabG_refl hT) (Heap.get?_push_size _ rfl) (I.hok.fresh hsz) (nofr _ hsz) hco (I.fpOk hsz (I.hok.fresh hsz))
end
/-! ### the reading -/
def maskE (E : En) : En := E.map fun s => match s with
  | some (.dat d) => some (.dat d)
  | _ => none
def keysM (i : Nat) (k : Mo Vl) (E : En) : List D → Option (List D)
  | [] => some []
  | d :: ds => match k (E.set i (some (.dat d))) with
    | .ok (.dat x) _ => match keysM i k E ds with
      | some xs => some (x :: xs)
      | none => none
    | _ => none
def sortK (ds ks : List D) : List D := (isortO (fun a b => leD a.2 b.2) (ds.zip ks)).map (·.1)
def dSortK (i : Nat) (f k : Mo Vl) : Mo Vl := mb f fun a E => match deref E a with
  | some (.lst ds) => match keysM i k (maskE E) ds with
    | some ks => if srtOk ks = true then .ok (.own (.lst (sortK ds ks))) E else .bad
    | none => .bad
  | _ => .bad
/-- what a def that makes a lambda asks of its code object -/
def LamT (g : Gx) (base : Heap) (mg : Str → Option Value) (cdv : Value) (qual : Str) : Prop :=
  ∃ c P, cdv = .ref c ∧ TabB base mg c P ∧ (P, qual ++ "<lambda>") ∈ g.T ∧ ∀ p ∈ g.T, p.1 = P → p.2 = qual ++ "<lambda>"
section
variable {g : Gx} {W : WX}
theorem keysM_len {i : Nat} {k : Mo Vl} {E : En} : ∀ {ds ks : List D}, keysM i k E ds = some ks → ks.length = ds.length
  | [], ks, h => by cases h; rfl
  | d :: ds, ks, h => by
    unfold keysM at h
    split at h
    · split at h
      · rename_i x hx xs hxs
        cases h
        rw [List.length_cons, List.length_cons, keysM_len hxs]
      · cases h
    · cases h
theorem keysM_at {i : Nat} {k : Mo Vl} {E : En} : ∀ {ds ks : List D}, keysM i k E ds = some ks → ∀ q ∈ ds.zip ks, ∃ E', k (E.set i (some (.dat q.1))) = .ok (.dat q.2) E'
  | [], ks, h => by intro q hq; cases h; cases hq
  | d :: ds, ks, h => by
    unfold keysM at h
    split at h
    · rename_i x E' hx
      split at h
      · rename_i xs hxs
        cases h
        intro q hq
        rw [List.zip_cons_cons] at hq
        cases hq with
        | head => exact ⟨E', hx⟩
        | tail _ hq => exact keysM_at hxs q hq
      · cases h
    · cases h
theorem Sr.mask {F : Fc} {Hd H : Hp} {E : En} {σ : L2.St} {w : Ow} {i : Nat} {d : D} {v : V} (s : Sr g F Hd H E σ w) (r : Rep g Hd d v) : Sr g ⟨H, []⟩ Hd H ((maskE E).set i (some (.dat d))) (σ.set i (some v)) (fun _ => none) := by
  have lm : (maskE E).length = σ.length := by unfold maskE; rw [List.length_map]; exact s.len
  refine ⟨s.ext, fun _ h => h, fun a i h => (nomatch h), fun a i h => (nomatch h), by rw [List.length_set, List.length_set]; exact lm, fun j x q => ?_, fun a i o h => (nomatch h), fun q hq => (nomatch hq), fun a i h => (nomatch h), s.tab, s.ntd, fun a i ps h => (nomatch h), fun a ps z => by show H a ≠ none; rw [z]; simp⟩
  by_cases hj : i = j
  · subst hj
    have hl : i < (maskE E).length := by
      have := (List.getElem?_eq_some_iff.mp q).1
      rwa [List.length_set] at this
    rw [List.getElem?_set_self hl] at q
    cases q
    exact ⟨v, List.getElem?_set_self (by rw [← lm]; exact hl), r⟩
  · rw [List.getElem?_set_ne hj] at q
    unfold maskE at q
    rw [List.getElem?_map] at q
    obtain ⟨y, hy, rfl⟩ := Option.map_eq_some_iff.mp q
    cases y with
    | none => trivial
    | some y =>
      cases y with
      | dat d' =>
        obtain ⟨v', h1, h2⟩ := s.slot j _ hy
        exact ⟨v', (List.getElem?_set_ne hj).trans h1, h2⟩
      | own o => trivial
      | ref o => trivial
      | hid => trivial
theorem rd_keep {H H2 : Hp} (k : ∀ a o, H a = some o → NT o → H2 a = some o) {a : Addr} {u : HO} (hu : NT u) (h : Rd H a u) : Rd H2 a u := by
  rcases h with h | ⟨o, h⟩
  · exact .inl (k _ _ h hu)
  · exact .inr ⟨o, k _ _ h (fun _ z => by cases z)⟩
mutual
theorem dp_keep {K : PySem.W.Frag} {H H2 : Hp} (k : ∀ a o, H a = some o → NT o → H2 a = some o) : ∀ (d : PyData) (v : V), Dp K H v d → Dp K H2 v d
  | .none, _, h => by cases h; exact .non
  | .bool b, _, h => by cases h; exact .bl b
  | .int b, _, h => by cases h; exact .int b
  | .str b, _, h => by cases h; exact .str b
  | .list ds, _, h => by
    cases h with
    | lst hs ha => exact .lst (hs.elim (fun z => .inl (rd_keep k (fun _ z => by cases z) z)) .inr) (dpAll_keep k ds _ ha)
  | .tuple ds, _, h => by
    cases h with
    | tup hs ha => exact .tup (hs.elim (fun z => .inl (rd_keep k (fun _ z => by cases z) z)) .inr) (dpAll_keep k ds _ ha)
  | .dict _, _, h => by cases h
theorem dpAll_keep {K : PySem.W.Frag} {H H2 : Hp} (k : ∀ a o, H a = some o → NT o → H2 a = some o) : ∀ (ds : List PyData) (vs : List V), DpAll K H vs ds → DpAll K H2 vs ds
  | [], _, h => by cases h; exact .nil
  | d :: ds, _, h => by
    cases h with
    | cons h1 h2 => exact .cons (dp_keep k d _ h1) (dpAll_keep k ds _ h2)
end
theorem growS_of {F : Fc} {Hd H Hd' H' : Hp} {E : En} {σ : L2.St} {w' : Ow} (e : Eff Hd H (fun _ => none) Hd' H' w') (s : Sr g F Hd' H' E σ w') : GrowS g Hd H Hd' H' :=
  ⟨e.hd, fun a o h n => e.fr a o h rfl n, e.dom, s.ext, fun a h => (e.hn a h).elim .inl fun z => z.elim (fun z => absurd rfl z) .inr, e.nt, s.tab, s.ntd⟩
theorem tz_rep {Hd : Hp} : ∀ {ds : List D} {vs : List V} {ks : List D}, RepL g Hd ds vs → ∀ t ∈ vs.zip (ds.zip ks), Rep g Hd t.2.1 t.1 ∧ t.2 ∈ ds.zip ks := by
  intro ds
  induction ds with
  | nil => intro vs ks h t ht; rw [RepL.nil_iff.mp h] at ht; cases ht
  | cons d ds ih =>
    intro vs ks h t ht
    obtain ⟨v, ws, rfl, h1, h2⟩ := RepL.cons_iff.mp h
    cases ks with
    | nil => simp at ht
    | cons k ks =>
      rw [List.zip_cons_cons, List.zip_cons_cons] at ht
      rw [List.zip_cons_cons]
      cases ht with
      | head => exact ⟨h1, .head _⟩
      | tail _ ht =>
        obtain ⟨i1, i2⟩ := ih h2 t ht
        exact ⟨i1, .tail _ i2⟩
theorem sortK_core {Hd : Hp} {ds ks : List D} {vs : List V} (r : RepL g Hd ds vs) (hl : ks.length = ds.length) : ∃ bs : List (V × PyData), bs.map (·.1) = vs ∧ bs.map (·.2) = ks.map toPy ∧ (∀ q ∈ bs, ∃ d k, (d, k) ∈ ds.zip ks ∧ q.2 = toPy k ∧ Rep g Hd d q.1) ∧
    RepL g Hd (sortK ds ks) ((bs.mergeSort (PySem.W.dataLe false (·.2))).map (·.1)) := by
  have lv : vs.length = ds.length := r.length.symm
  have lz : (ds.zip ks).length = ds.length := by rw [List.length_zip, hl, Nat.min_self]
  have m1 : (vs.zip (ds.zip ks)).map (·.1) = vs := List.map_fst_zip (by omega)
  have m2 : (vs.zip (ds.zip ks)).map (·.2) = ds.zip ks := List.map_snd_zip (by omega)
  have m3 : (ds.zip ks).map (·.2) = ks := List.map_snd_zip (by omega)
  refine ⟨(vs.zip (ds.zip ks)).map fun t => (t.1, toPy t.2.2), ?_, ?_, fun q hq => ?_, ?_⟩
  · rw [List.map_map]; exact m1
  · rw [List.map_map]
    calc _ = (((vs.zip (ds.zip ks)).map (·.2)).map (·.2)).map toPy := by rw [List.map_map, List.map_map]; rfl
      _ = _ := by rw [m2, m3]
  · obtain ⟨t, ht, rfl⟩ := List.mem_map.mp hq
    obtain ⟨h1, h2⟩ := tz_rep r t ht
    exact ⟨t.2.1, t.2.2, h2, rfl, h1⟩
  · rw [← PySem.W.sort_maps (r := fun a b : V × (D × D) => leD a.2.2 b.2.2) (fun t : V × (D × D) => (t.1, toPy t.2.2)) (fun a _ b _ => rfl), List.map_map]
    have tot : PySem.W.TotalLe (fun a b : D × D => leD a.2 b.2) := by
      have z := dataLe_total (fun q : D × D => toPy q.2)
      exact z
    have e : sortK ds ks = ((vs.zip (ds.zip ks)).mergeSort fun a b => leD a.2.2 b.2.2).map fun t => t.2.1 := by
      have q : (ds.zip ks).mergeSort (fun a b => leD a.2 b.2) = ((vs.zip (ds.zip ks)).map (·.2)).mergeSort (fun a b => leD a.2 b.2) := by rw [m2]
      unfold sortK
      rw [isortO_eq tot, q, ← PySem.W.sort_maps (r := fun a b : V × (D × D) => leD a.2.2 b.2.2) (fun t : V × (D × D) => t.2) (fun a _ b _ => rfl), List.map_map]
      rfl
    rw [e]
    have hr : ∀ q ∈ (((vs.zip (ds.zip ks)).mergeSort fun a b => leD a.2.2 b.2.2).map fun t => (t.1, t.2.1)), Rep g Hd q.2 q.1 := fun q hq => by
      obtain ⟨t, ht, rfl⟩ := List.mem_map.mp hq
      exact (tz_rep r t ((List.mergeSort_perm _ _).mem_iff.mp ht)).1
    have z := repL_of hr
    rw [List.map_map, List.map_map] at z
    exact z
variable {X : Cx}
/-- sorted(a, key=lambda x: body) -/
theorem de_sortK {i m : Nat} {x : Str} {a body : Expr} {params : Arguments} {scope : Scope} {f k : Mo Vl} {p lp kp pos : Pos} (lt : LamT g X.base X.mg X.env.code X.env.qual) (hr : Room (m + 3) X.A) (hg : Gl X "sorted") (hm : X.mg "sorted" = none)
    (L : LamP X.env.scope scope x) (hdef : defaultsOf params X.env = ([], [])) (hbind : ∀ (q : Str) (cl : List (Str × Addr)) (pm cv ctv u : Value), bindArgs (PySem.W.kla_fn "<lambda>" q params body scope cl pm cv ctv) ⟨[u], []⟩ = pure [(x, u)])
    (hN : X.N.Nodup) (hx : X.N[i]? = some x) (ha : PE X a (tE g W f))
    (hbody : ∀ (A : Around) (outer : List Env) (s : Shared) (H : Hp) (f' c' : Addr), Room m (A.deeper (lamEnv X scope s.heap.objs.size f' c')) → PE (lamCx X A outer s H (fun _ _ _ => False) scope f' c') body (tE g Wn k))
    (hv : bootBuiltins "sorted" = some (.builtin "sorted") := by rfl) (hn : ("sorted" : Str) ≠ "__name__" := by decide) (hdb : (("sorted" : Str) == ("__debug__" : Str)) = false := by decide)
    (he : backTo pos (starEach (a :: []) X.env) = (false, eval a X.env) :: backTo pos (starEach [] X.env) := by rfl) (hpl : (backTo pos (starEach (a :: []) X.env)).any (·.1) = false := by rfl) (hs : starEach (a :: []) X.env = (false, eval a X.env) :: starEach [] X.env := by rfl)
    (hall : (backToKw pos (keywordEach [⟨some "key", .Lambda params body scope lp, kp⟩] X.env)).all (·.1.isSome) = true := by rfl) (hnone : (backToKw pos (keywordEach [⟨some "key", .Lambda params body scope lp, kp⟩] X.env)).any (·.1.isNone) = false := by rfl)
    (hks : (backToKw pos (keywordEach [⟨some "key", .Lambda params body scope lp, kp⟩] X.env)).filterMap (·.1) = [Str.ofString "key"] := by rfl) :
    PE X (.Call (.Name "sorted" p) [a] [⟨some "key", .Lambda params body scope lp, kp⟩] pos) (tE g W (dSortK i f k)) := by
  obtain ⟨c, P, hcode, TB, hmT, hu⟩ := lt
  refine ⟨fun pins s σ H Q I h => ?_⟩
  obtain ⟨F, Hd, E, w, sr, post⟩ := h
  refine wpAny_Call_Name_kw (ld_blt I hg hm hv ?_ hn hdb)
  have ha1 : tE g W f σ H fun v0 H1 => ∃ v, [v0] = [v] ∧ (∀ a, H a ≠ none → H1 a ≠ none) ∧ ∃ Hd1 ds E1 w1 ks, Sr g F Hd1 H1 E1 σ w1 ∧ RepT g Hd1 H1 (.lst ds) v ∧ keysM i k (maskE E1) ds = some ks ∧ srtOk ks = true ∧ ∀ Hd' H' w', Eff Hd1 H1 w1 Hd' H' w' → Sr g F Hd' H' E1 σ w' → ∀ v, VRel g Hd' H' w' σ H v (.own (.lst (sortK ds ks))) → Q v H' := by
    refine ⟨F, Hd, E, w, sr, (PostA.bind post).imp fun b E1 Hd1 H1 w1 _ e s1 p1 v rv => ?_⟩
    split at p1
    · rename_i ds q
      split at p1
      · rename_i ks q2
        split at p1
        · rename_i q3
          exact ⟨v, rfl, e.dom, Hd1, ds, E1, w1, ks, s1, RepT.of s1 rv q, q2, q3, fun Hd' H' w' e' s' v hv => p1 Hd' H' w' e' s' v hv⟩
        · exact p1.elim
      · exact p1.elim
    · exact p1.elim
  refine PyProof.Rows.callWith_kw (thn ((pa_cons ha pa_nil hs).run pos pins s σ H (fun vs H1 => ∃ v, vs = [v] ∧ (∀ a, H a ≠ none → H1 a ≠ none) ∧ ∃ Hd1 ds E1 w1 ks, Sr g F Hd1 H1 E1 σ w1 ∧ RepT g Hd1 H1 (.lst ds) v ∧ keysM i k (maskE E1) ds = some ks ∧ srtOk ks = true ∧ ∀ Hd' H' w', Eff Hd1 H1 w1 Hd' H' w' → Sr g F Hd' H' E1 σ w' → ∀ v, VRel g Hd' H' w' σ H v (.own (.lst (sortK ds ks))) → Q v H') I ha1) fun us s1 hq => ?_) he hpl hall hnone
  obtain ⟨vs, H1, I1, rvs, v, rfl, dom1, Hd1, ds, E1, w1, ks, s1r, rT, hks1, hok, fin⟩ := hq
  obtain ⟨u, rfl, r1⟩ := vals1 rvs
  rw [hks]
  show wpAny _ _ (evalAll ((do let v ← eval (.Lambda params body scope lp) X.env; standAt pos; pure v) :: (backToKw pos (keywordEach [] X.env)).map (·.2))) _ _ s1
  refine wpAny_evalAll_cons (wpAny_bind (lam_make3 (T := g.T) I1 TB hcode hmT hu s1r.tab hdef (L.has I1.ok) fun fl c' pm ctv H2 s2 I2 G2 hfl hfn hfrs hco fpf => wpAny_bind (wpAny_standAt (wpAny_pure ?_))))
  refine wpAny_evalAll_nil ?_
  show wpAny _ _ (call (.builtin "sorted") [u] [(Str.ofString "key", .ref fl)]) _ _ s2
  have G0 : GrowS g Hd1 H1 Hd1 H2 := ⟨Same.refl _, G2.fr, G2.dom, fun a o h => G2.fr a o (s1r.ext a o h) (fun ps z => s1r.ntd a ps (by rw [h, z])), fun a h => .inl h, G2.nt, G2.tab, s1r.ntd⟩
  obtain ⟨l, vs, rfl, hl, hz, hrep⟩ := rT.lst s1r.ext
  have eu : u = Value.ref l := r1
  subst eu
  have hl2 : H2 l = some (.lst vs) := G2.fr _ _ hl (fun _ z => by cases z)
  obtain ⟨p1, p2, p3⟩ := srt_pre hok
  have lk := keysM_len hks1
  obtain ⟨z1, z2, z3⟩ := zip_rep hrep
  have lv : vs.length = ds.length := hrep.length.symm
  have IP : L2.Inv X (pins ++ [(fl, PySem.W.kla_obj "<lambda>" (X.env.qual ++ "<lambda>") params body scope (cloFrom X.env.cells scope.names []) pm c' ctv)]) σ H2 s2 := I2.pins_of fun q hq => by
    rcases List.mem_append.mp hq with hq | hq
    · exact I2.pin q (List.mem_append_right _ hq)
    · rw [List.mem_singleton.mp hq]
      exact ⟨hfl, hfn, fpf.2.1, fpf.2.2.1, fun v z => by cases z⟩
  obtain ⟨bs, b1, b2, b3, b4⟩ := sortK_core hrep lk
  refine wpAny_mono (sortedI (xs := []) (b := false) (bs := bs) (Q := Q) (E := X.xe) (fun H' => ∃ Hd', GrowS g Hd1 H2 Hd' H') IP ⟨Hd1, GrowS.refl G0.ext G0.tab G0.ntd⟩ (by rw [b1]; exact SqL.of hl2) (by rw [b2]; exact p1) (by rw [b2]; exact p2) (fun d hd => ?_) (ksk_s1 _ _) (fun _ => ksk_l1 _ _) (fun _ => ksk_t1 _ _) (fun q u hq hru pl s' H' I' hG => ?_) fun H' p hG hp => ?_)
    (fun v s' hq => ?_) fun e s' hq => hq
  · rw [b2] at hd
    obtain ⟨k0, hk0, rfl⟩ := List.mem_map.mp hd
    have := (shp_lay 59 k0 (p3 k0 hk0)).2
    have := hr.un
    omega
  · obtain ⟨Hd', G'⟩ := hG
    obtain ⟨d, k0, hm0, hk0, hr0⟩ := b3 q hq
    obtain ⟨E', hE⟩ := keysM_at hks1 _ hm0
    have GG := G0.trans G'
    have sr' := s1r.growS GG
    have hf' := (I'.pin (fl, PySem.W.kla_obj "<lambda>" (X.env.qual ++ "<lambda>") params body scope (cloFrom X.env.cells scope.names []) pm c' ctv) (List.mem_append_right _ (List.mem_append_left _ (List.mem_append_right _ (.head _))))).1
    refine lam_call1 (A' := X.A.in1.in1) (k := m) (i := i) (x := x) I' L hf' (G'.fr _ _ hco codeO_ne) rfl hr.in1.in1 hN hx hru (hbind _ _ _ _ _ _) (hbody _ _ _ _ _ _ (hr.in1.in1.deeper _)) ?_
    refine ⟨⟨H', []⟩, Hd', (maskE E1).set i (some (.dat d)), fun _ => none, sr'.mask (hr0.mono GG.hd), ?_⟩
    rw [hE]
    intro Hd2 H3 w2 e2 sr2 v hv
    refine ⟨⟨Hd2, G'.trans (growS_of e2 sr2)⟩, fun u d hd => dp_keep (fun a o h n => e2.fr a o h rfl n) d u hd, ?_⟩
    rw [hk0]
    exact dp_of 59 k0 v (p3 k0 (List.of_mem_zip hm0).2) (Rep.mono sr2.ext k0 hv)
  · obtain ⟨Hd', G'⟩ := hG
    have GG := G0.trans G'
    have sr' := s1r.growS GG
    have gn : Grow Hd' H' Hd' (upd H' p (.lst ((bs.mergeSort (PySem.W.dataLe false (·.2))).map (·.1)))) := Grow.newO GG.ext hp
    refine fin Hd' _ w1 ((s1r.effS GG).trans (sr'.eff gn)) (sr'.grow gn) (.ref p) ⟨p, fun a => a = p, rfl, fun a ha => ?_, rfl, _, upd_same, ?_, b4.mono GG.hd⟩
    · subst ha
      refine ⟨?_, GG.ext.free hp, ?_, by rw [upd_same]; simp⟩
      · cases q : H a with
        | none => rfl
        | some o => exact absurd hp (GG.dom a (dom1 a (by rw [q]; simp)))
      · cases q : w1 a with
        | none => rfl
        | some j => exact absurd hp (GG.dom a (s1r.wh a j q))
    · rw [b4.length, List.length_map, List.length_mergeSort]
      have := congrArg List.length b1
      rw [List.length_map] at this
      omega
  · obtain ⟨v', H', I', rv', q'⟩ := hq
    exact ⟨v', H', I'.unpinned, rv', q'⟩
end
end Fx

/-! FxV: defs that make lambdas; bool of an instance with __bool__ -/
namespace Fx
open PySem PySem.Spec PyProof.Rows L2 LamX
/-- the code object of the def at f -/
def CdOf (K : PySem.W.Frag) (f : Addr) (cdv : Value) : Prop := ∃ o fd, K.lookup f = some o ∧ o.data = .func fd ∧ fd.code = cdv
section
variable {P : Program} {w : World} {K : PySem.W.Frag} {mg : Str → Option Value} {base : Heap} {g : Gx}
theorem fn_okL {x qual : Str} {st : Stmt} {f : Addr} {fd : FuncData} {N ps : List Str} {k n m : Nat} {body : Mo Fl} (hT : ∀ cdv, CdOf K f cdv → LamT g base mg cdv (qual ++ ".<locals>.")) (F : Fun K x qual st f fd) (Sc : FnScope N ps (defScope st)) (hn : ps.length = n) (hm : N.length - n = m)
    (hbody : ∀ (cdv : Value), LamT g base mg cdv (qual ++ ".<locals>.") → ∀ (A : Around) (outer : List Env) (s : Shared) (H : Hp) (E : XK), Room k (A.deeper (envOfC qual (defScope st) s.heap.objs.size f cdv)) →
      PSs (cxOf (L2.CX P w) P w K mg base N qual (defScope st) f cdv A outer s H E) (defBody st) (tS g (fun cls d _ H => E cls d H) body)) : FnOk P w K mg base (L2.CX P w) (k + 1) f fd ps (spF g n (mkF m body)) := by
  obtain ⟨oc, od, kV, doc, pm, an, cdv, ct, osl, rfl, lk, hcd⟩ := F.ex
  refine fn_of lk hcd Sc (fun vs H Q E h => h.1.trans hn.symm) fun A outer s H vs Q E hr h => ⟨_, hbody cdv (hT cdv ⟨_, _, lk, rfl, rfl⟩) A outer s H E hr, ?_⟩
  rw [start_eq, h.1, hm]
  exact body_ok h
end
section
variable {X : Cx} {pins : List (Addr × Obj)} {σ : L2.St} {H : Hp} {s : Shared}
/-- a def called from within a built-in -/
theorem run_in {A' : Around} {k : Nat} {f : Addr} {sp : Sp} {Q : VK} {E : Value → Shared → Prop} {us : List Value} {vs : List V} (F : FnR X.prog X.w X.K X.mg X.base (L2.CX X.prog X.w) k f sp) (hfr : A'.frames = X.A.frames) (hr : Room k A') (I : L2.Inv X pins σ H s) (r : Vals vs us) (h : sp vs H Q noE) :
    wpAny (model X.prog X.w) A' (call (.ref f) us) (EP X pins σ Q) E s := by
  have e0 : Env0 X.prog X.w X.K X.mg X.base A' X.stack s H := by
    have z := I.env0
    exact ⟨hfr.trans z.frames, z.mod, z.bs, z.bsz, z.funs, z.frf, z.hok, z.bare⟩
  refine wpAny_call (codeAny_mono (F A' X.stack s H us vs Q noE hr e0 r h) fun r s' hq => ?_)
  cases r with
  | error e =>
    obtain ⟨_, _, _, _, _, _, _, _, _, _, _, _, z⟩ := (show L2.CX X.prog X.w X.stack H s noE e s' from hq)
    exact z.elim
  | ok fl =>
    cases fl with
    | ret u => exact I.after hq
    | next => exact False.elim hq
    | brk => exact False.elim hq
    | cont => exact False.elim hq
theorem bool_new_in (prog : Program) (w : World) (x : Addr) :
    MeetsIn prog w (Builtin.«bool.__new__» ⟨[.type "bool", .ref x], []⟩) (fun A R s => wpAny (model prog w) A.in1 (truthy (.ref x)) (fun b s' => R (.ok (.ret (.bool b))) s') (fun _ _ => False) s) :=
  .of_wp fun A R s h => by
    obtain ⟨hp, g, d, tk, os⟩ := s
    have f1 := F.conv_sub_bool
    repeat (any_goals (first | assumption | (with_reducible refine wpAny_mono h (fun b s' hq => ?_) (fun e s' hq => hq.elim)) | wp_step))
    all_goals first | exact ⟨_, rfl, by assumption⟩ | assumption | skip
theorem call_bool_own {prog : Program} {w : World} {A : Around} {E : Value → Shared → Prop} {s : Shared} {x : Addr} {Q : Value → Shared → Prop} (h : wpAny (model prog w) A.in1.in1 (truthy (.ref x)) (fun b s' => Q (.bool b) s') (fun _ _ => False) s) : wpAny (model prog w) A (call (.type "bool") [.ref x]) Q E s :=
  callType_newIn F.called_bool F.newNe_bool (F.typeCall_bool_1 (.ref x)) (F.newCall_bool_1 (.ref x)) (fun obj => F.args_object_init_2 obj (.ref x)) F.entry_bool_new (bool_new_in prog w x) (wpAny_mono h (fun b s' hq => ⟨rfl, hq⟩) fun _ _ hq => hq)
/-- bool(o), o an instance of C, whose __bool__ is f -/
def rBoolO (X : Cx) (C : Addr) (sp : Sp) : List V → Hp → VK → Prop := fun xs H Q => ∃ a, xs = [V.ref a] ∧ StX.InsC X H a C ∧ sp [V.ref a] H (fun v H2 => ∃ b, v = .bl b ∧ Q v H2) noE
theorem cr_boolO {k : Nat} {C f : Addr} {sp : Sp} (hs : PySem.W.findIn X.K (.ref C) "__bool__" = some (some (.ref f))) (hf : PySem.W.isFn X.K (.ref f) = true) (F : FnR X.prog X.w X.K X.mg X.base (L2.CX X.prog X.w) k f sp) (hr : Room (k + 2) X.A) : CallR X (.type "bool") (rBoolO X C sp) := by
  intro pins s σ H xs us Q I r h
  obtain ⟨a, rfl, hi, hsp⟩ := h
  obtain rfl := Vals.ref1 r
  obtain ⟨ox, od, J, hd⟩ := StX.insC_at I hi
  obtain ⟨m, hF⟩ := I.fr
  refine call_bool_own (PySem.W.truthy_K hF I.ok.mod.kin J hs hf (wpAny_mono (run_in (A' := X.A.in1.in1) F rfl hr.in1.in1 I r hsp) (fun v s' hq => ?_) fun e s' hq => hq))
  obtain ⟨v', H', I', rv, b, eb, q⟩ := hq
  subst eb
  have ev : v = .bool b := rv
  subst ev
  exact ⟨.bl b, H', I', rfl, q⟩
def isBlV : Vl → Bool
  | .dat (.bl _) => true
  | _ => false
def guardM {α : Type} (p : α → Bool) (f : Mo α) : Mo α := mb f fun a => if p a = true then mp a else fun _ => .bad
/-- f(o) for the instance o of c -/
def dOwn1 (c : Nat) (Fn : En → Re Vl) (fo : Mo Vl) (ok : Vl → Bool) : Mo Vl := mb fo fun x => mb (frz x) fun d => if isInsD c d = true then guardM ok (noX (callM Fn [.dat d])) else fun _ => .bad
end
section
variable {g : Gx} {W : WX} {X : Cx} {k c : Nat} {f : Addr} {Fn : En → Re Vl}
theorem vfam_nil {Hd H Hs : Hp} {w : Ow} {σ : L2.St} : VFam g Hd H w σ Hs [] [] := ⟨rfl, fun _ _ => False, fun _ _ z => z.elim, fun _ _ _ z => z.elim, fun k x e => by simp at e⟩
theorem tE_bool {fo : Mo Vl} : ∀ σ H Q, tE g W (dOwn1 c Fn fo isBlV) σ H Q → tE g W fo σ H fun v H1 => rBoolO X (g.cA c) (spF g 1 Fn) [v] H1 Q := by
  rintro σ H Q ⟨F, Hd, E, w, s, p⟩
  refine ⟨F, Hd, E, w, s, (PostA.bind0 p).imp fun x E1 Hd1 H1 w1 _ e1 s1 p1 v rv => ?_⟩
  obtain ⟨d, E2, Hd2, w2, hf, e2, s2, rd, p2⟩ := frz_post e1 s1 rv (PostA.bind p1)
  split at p2
  · rename_i hi
    cases d with
    | ins c' fs =>
      have hc : c' = c := eq_of_beq hi
      subst hc
      have rd' := rd
      simp only [Rep] at rd'
      obtain ⟨a, dx, vs, rfl, z1, z2, z3⟩ := rd'
      refine ⟨a, rfl, .inr ⟨dx, _, s2.ext _ _ z1⟩, ?_⟩
      have p3 := PostA.bind p2
      have := call_post (vs := [.ref a]) (xs := [.dat (.ins c' fs)]) (Q := fun v H2 => ∃ b, v = .bl b ∧ Q v H2) s2.dom Eff.refl s2 (VFam.cons (fun a h => h) Eff.refl rd vfam_nil) ((noX_post p3).imp fun r E3 Hd' H' w' _ _ s3 kk v rv => by
        split at kk
        · rename_i hb
          cases r with
          | dat dd =>
            cases dd with
            | bl b =>
              have ev : v = .bl b := by simpa only [VRel, Rep] using rv
              exact ⟨b, ev, kk.here s3 v rv⟩
            | _ => cases hb
          | _ => cases hb
        · exact kk.elim)
      exact this
    | _ => cases hi
  · exact p2.elim
theorem de_boolO {fo : Mo Vl} {a : Expr} {p pos : Pos} (hs : PySem.W.findIn X.K (.ref (g.cA c)) "__bool__" = some (some (.ref f))) (hf : PySem.W.isFn X.K (.ref f) = true) (F : FnR X.prog X.w X.K X.mg X.base (L2.CX X.prog X.w) k f (spF g 1 Fn)) (hr : Room (k + 2) X.A)
    (hg : Gl X "bool") (hm : X.mg "bool" = none) (ha : PE X a (tE g W fo)) (hv : bootBuiltins "bool" = some (.type "bool") := by rfl)
    (he : starEach (a :: []) X.env = (false, eval a X.env) :: starEach [] X.env := by rfl) (hpl : (backTo pos (starEach [] X.env)).any (·.1) = false := by rfl) : PE X (.Call (.Name "bool" p) [a] [] pos) (tE g W (dOwn1 c Fn fo isBlV)) :=
  (pe_callTy (cr_boolO (C := g.cA c) (sp := spF g 1 Fn) hs hf F hr) hg hm hv (pa_cons ha pa_nil he) (by decide) (by decide) he hpl).impF fun σ H Q h => tE_bool σ H Q h
/-- bool(x), x a truth value or a whole number -/
def oBool : D → Option Vl
  | .bl b => some (.dat (.bl b))
  | .int i => some (.dat (.bl (i != 0)))
  | _ => none
def rBoolD : V → Hp → VK → Prop := fun x H Q => (∃ i, x = .int i ∧ Q (.bl (i != 0)) H) ∨ ∃ k, x = .bl k ∧ Q (.bl k) H
theorem u_bool : U1 g rBoolD oBool := by
  intro Hd H x a u Q e ra q k
  cases a <;> simp only [oBool, reduceCtorEq, Option.some.injEq] at q
  · subst q; exact .inr ⟨_, ra.bl, new_dat e rep_bl k⟩
  · subst q; exact .inl ⟨_, ra.int, new_dat e rep_bl k⟩
theorem de_bool {f : Mo Vl} {a : Expr} {p pos : Pos} (hg : Gl X "bool") (hm : X.mg "bool" = none) (ha : PE X a (tE g W f)) (hv : bootBuiltins "bool" = some (.type "bool") := by rfl)
    (he : starEach (a :: []) X.env = (false, eval a X.env) :: starEach [] X.env := by rfl) (hpl : (backTo pos (starEach [] X.env)).any (·.1) = false := by rfl) : PE X (.Call (.Name "bool" p) [a] [] pos) (tE g W (d1 oBool f)) :=
  de_ty1 (r := rBoolD) (by
    intro pins s σ H xs us Q I r h
    obtain ⟨x, rfl, h⟩ := h
    refine call_bool1 pins s σ H _ us Q I r ?_
    rcases h with ⟨i, rfl, q⟩ | ⟨i, rfl, q⟩
    · exact .inl ⟨i, rfl, q⟩
    · exact .inr ⟨i, rfl, q⟩) u_bool hg hm hv ha (by decide) (by decide) he hpl
end
end Fx

/-! FxW: != of two instances of a class that has an own == alone -/
namespace Fx
open PySem PySem.Spec PyProof.Rows L2 LamX
section
variable {prog : Program} {w : World} {A : Around} {E : Value → Shared → Prop} {s : Shared} {K : PySem.W.Frag} {x C L f : Addr} {h₀ : Heap} {m : Str → Option Value} {ox : Obj} {od : Option Obj} {b : Value}
theorem ifBound_ne {M : Model} {args : List Value} {Q : Option Value → Shared → Prop} (X : K.In s.heap) (I : PySem.W.InstAt s.heap x ox C od) (hs : PySem.W.findIn K (.ref C) "__ne__" = some (some (.builtin "object.__ne__")))
    (h : wpAny M A (call (.builtin "object.__ne__") (.ref x :: args)) (fun v => Q (some v)) E s) : wpAny M A (callSpecialIfBound? (.ref x) "__ne__" args) Q E s := by
  simp only [callSpecialIfBound?, bindSpecialIfBound?]
  refine wpAny_holding (wpAny_bind (wpAny_bind (wpAny_bind (I.type.here ((PySem.W.looks_findIn X hs).here ?_)))))
  have S := PySem.F.cmp_object.ne
  simp only [S.bind]
  have fin : wpAny M A (call (.builtin "object.__ne__") ([.ref x] ++ args) >>= fun v => pure (some v)) Q E s := wpAny_bind (wpAny_mono h (fun v s' h' => wpAny_pure h') fun _ _ h' => h')
  refine wpAny_bind (wpAny_askSetting (wpAny_ite ?_))
  split
  · exact wpAny_bind (wpAny_pure (wpAny_pure fin))
  · exact wpAny_tryCatch (wpAny_bind (wpAny_pure (wpAny_pure fin)))
theorem objNe_K (hu : A.units < cLine) (X : K.In s.heap) (I : PySem.W.InstAt s.heap x ox C od) (hs : PySem.W.findIn K (.ref C) "__eq__" = some (some (.ref f))) (hf : PySem.W.isFn K (.ref f) = true) {Q : PySem.Fin → Shared → Prop}
    (hcall : wpAny (model prog w) A (call (.ref f) [.ref x, b]) (fun v s' => ∃ k, v = .bool k ∧ Q (.done (.ret (.bool (!k)))) s') E s) :
    wpAny (model prog w) A (Builtin.«object.__ne__» ⟨[.ref x, b], []⟩) Q E s := by
  unfold Builtin.«object.__ne__»
  obtain ⟨hp, g, d, t, os⟩ := s
  repeat (first
    | with_reducible refine wpAny_cRoomFor hu ?_
    | (refine wpAny_bind (m := callSpecialIfBound? (.ref x) (Str.ofString "__eq__") [b])
        (PySem.W.ifBound_K X I hs hf (wpAny_mono hcall (fun v s' hr => by
          obtain ⟨k, rfl, hq⟩ := hr
          repeat (first | exact hq | exact wpAny_pure hq | exact wpAny_truthy_bool hq | (refine wpAny_bind (m := truthy (.bool _)) (wpAny_truthy_bool ?_)) | wp_step)) fun _ _ e => e)))
    | wp_step)
theorem cmpNe_K {Q : Value → Shared → Prop} (hu : A.units + 1 < cLine) (F : Fr h₀ L s.heap m) (X₀ : K.In h₀) (I : PySem.W.InstAt s.heap x ox C od) (hb : PySem.W.Looks (model prog w) s.heap (typeOf b) (.ref C))
    (hne : PySem.W.findIn K (.ref C) "__ne__" = some (some (.builtin "object.__ne__"))) (hm : PySem.W.mroIn K C (.type "object") = some true) (hs : PySem.W.findIn K (.ref C) "__eq__" = some (some (.ref f))) (hf : PySem.W.isFn K (.ref f) = true)
    (h : wpAny (model prog w) A.in1 (call (.ref f) [.ref x, b]) (fun v s' => ∃ k, v = .bool k ∧ Q (.bool (!k)) s') E s) : wpAny (model prog w) A (richCompare .NotEq (.ref x) b) Q E s := by
  have X := X₀.keeps F.keep
  have inst : PySem.W.Looks (model prog w) s.heap (isInstance (.ref x) (.type "object")) true := I.type.andThen (PySem.W.looks_mroIn X hm)
  have one : wpAny (model prog w) A (tryCompare (.ref x) "__ne__" b) (fun r s' => ∃ v, r = some v ∧ Q v s') E s := by
    unfold tryCompare
    refine wpAny_bind (ifBound_ne X I hne (wpAny_call (codeAny_call_builtin PySem.F.cmp_object.ne.plain PySem.F.cmpEntry_ne
      (@PySem.W.check_slot (model prog w) _ _ _ "object.__ne__" "object" "__ne__" (.ref x) [b] [] _ PySem.F.cmpKind_ne PySem.F.cmpSplit_ne inst (PySem.F.cmpArgs_ne _ _)
        (objNe_K (A := A.in1) hu X I hs hf (wpAny_mono h (fun v s' hv => ?_) fun _ _ e => e))))))
    obtain ⟨k, rfl, hq⟩ := hv
    first | exact ⟨k, rfl, wpAny_pure ⟨_, rfl, hq⟩⟩ | exact ⟨k, rfl, wpAny_pure (wpAny_pure ⟨_, rfl, hq⟩)⟩ | exact ⟨k, rfl, ⟨_, rfl, hq⟩⟩
  unfold richCompare
  simp only [oneThing_ref]
  refine wpAny_holding (wpAny_bind (wpAny_cRoomFor (Nat.lt_of_succ_lt hu) ?_))
  rw [cmpInfo_NotEq]
  dsimp only
  refine wpAny_bind (I.type.here (wpAny_bind (hb.here ?_)))
  rw [show (Value.ref C != Value.ref C) = false from by simp]
  simp only [Bool.false_eq_true, if_false]
  refine wpAny_bind (wpAny_pure ?_)
  simp only [Bool.false_eq_true, if_false]
  refine wpAny_bind (wpAny_mono one (fun r s' z => ?_) fun _ _ e => e)
  obtain ⟨v, rfl, hq⟩ := z
  exact wpAny_pure hq
end
section
variable {g : Gx} {X : Cx}
def rNeI (C : Addr) (sp : Sp) : R2 := fun x y H Q => rEqI C sp x y H fun v H' => ∃ k, v = .bl k ∧ Q (.bl (!k)) H'
/-- what the class must have of its != -/
structure NeOk (K : PySem.W.Frag) (C : Addr) : Prop where
  ne : PySem.W.findIn K (.ref C) "__ne__" = some (some (.builtin "object.__ne__"))
  mro : PySem.W.mroIn K C (.type "object") = some true
theorem op_neI {n : Nat} {C f : Addr} {fd : FuncData} {ps : List Str} {sp : Sp} (Fo : FnOk X.prog X.w X.K X.mg X.base (L2.CX X.prog X.w) n f fd ps sp) (ok : EqOk X.K C f fd ps) (no : NeOk X.K C) (hr : Room (n + 1) X.A) : OpR X (compareOp .NotEq) (rNeI C sp) := by
  intro pins s σ H x y u v Q I rx ry h
  obtain ⟨a, b, dx, dy, fs, gs, rfl, rfl, ha, hb', k, hsp⟩ := h
  cases rx
  cases ry
  obtain ⟨mA, J, _⟩ := ins_get I.hok ha
  obtain ⟨mB, J', _⟩ := ins_get I.hok hb'
  obtain ⟨od, J, _⟩ := J.look
  obtain ⟨od', J', _⟩ := J'.look
  obtain ⟨m, hF⟩ := I.fr
  show wpAny _ _ (richCompare .NotEq _ _) _ _ _
  refine cmpNe_K (by have := hr.un; omega) hF I.ok.mod.kin J J'.type no.ne no.mro ok.at_ ok.fn ?_
  have e0 : Env0 X.prog X.w X.K X.mg X.base X.A.in1 X.stack s H := by
    have e := I.env0
    exact ⟨e.frames, e.mod, e.bs, e.bsz, e.funs, e.frf, e.hok, e.bare⟩
  have hl := Fo.len _ _ _ _ hsp
  have r2 : Vals [V.ref a, V.ref b] [Value.ref a, Value.ref b] := .cons rfl (.cons rfl .nil)
  refine wpAny_call (codeAny_mono (Fo.run X.A.in1 X.stack s H ⟨[.ref a, .ref b], []⟩ [.ref a, .ref b] [.ref a, .ref b] _ NoX hr.in1 e0 (by
    have := ok.bind s [.ref a, .ref b] I.kIn (by simpa using hl)
    simpa using this) r2 hsp) fun r s' hq => ?_)
  cases r with
  | error e => exact passes0 pins σ H s e s' I hq
  | ok fl =>
    cases fl with
    | ret w =>
      obtain ⟨z, H', I', rz, ez, k2, ek, ex⟩ := I.after hq
      subst ez
      cases ek
      have rz' := rz
      cases rz'
      exact ⟨_, rfl, ⟨.bl (!k), H', I', rfl, ex⟩⟩
    | next => exact False.elim hq
    | brk => exact False.elim hq
    | cont => exact False.elim hq
def oNeI (c : Nat) (Fn : En → Re Vl) (a b : D) : Option Vl := (eqI c Fn a b).map fun k => .dat (.bl (!k))
theorem u_neI {c : Nat} {Fn : En → Re Vl} : U2S g (rNeI (g.cA c) (spF g 2 Fn)) (oNeI c Fn) := by
  intro Hd H x y a b u Q e tb nd ra rb q k
  unfold oNeI at q
  obtain ⟨z, hz, rfl⟩ := Option.map_eq_some_iff.mp q
  obtain ⟨xs, ys, as', rfl, rfl, hF⟩ := eqI_of hz
  refine eqI_run e tb nd (ra.dat (by intro _ z; cases z)) (rb.dat (by intro _ z; cases z)) hz fun Hd' H' G => ⟨z, rfl, k _ Hd' H' G ?_⟩
  show Rep g Hd' (.bl (!z)) (.bl (!z))
  exact rep_bl
end
end Fx

/-! FxY: methods of instances that are data; isinstance of an own class with both answers -/
namespace Fx
open PySem PySem.Spec PyProof.Rows L2 LamX
theorem lookup_zip : ∀ {ks : List Str} {vs : List V} {m : Str}, ks.contains m = false → (ks.zip vs).lookup m = none
  | [], _, _, _ => rfl
  | k :: ks, [], _, _ => rfl
  | k :: ks, v :: vs, m, h => by
    rw [List.contains_cons, Bool.or_eq_false_iff] at h
    rw [List.zip_cons_cons, List.lookup_cons, h.1]
    exact lookup_zip h.2
section
variable {g : Gx} {W : WX} {X : Cx} {k n c : Nat} {f : Addr} {fd : FuncData} {ps : List Str} {Fn : En → Re Vl} {m : Str} {apos pos : Pos} {e o : Expr} {es : List Expr}
theorem tE_meth {fo : Mo Vl} {args : Mo (List Vl)} (hn : ArgLen n args) (hm : (cFn c).contains m = false) : ∀ σ H Q, tE g W (dCallO c Fn fo args) σ H Q → tMeth (g.cA c) m (spF g (n + 1) Fn) [] noE (tE g W fo) (tV g W args) σ H Q := by
  rintro σ H Q ⟨F, Hd, E, w, s, p⟩
  refine ⟨F, Hd, E, w, s, (PostA.bind0 p).imp fun x E1 Hd1 H1 w1 _ e1 s1 p1 v rv => ?_⟩
  obtain ⟨d, E2, Hd2, w2, hf, e2, s2, rd, p2⟩ := frz_post e1 s1 rv (PostA.bind p1)
  split at p2
  · rename_i hi
    cases d with
    | ins c' fs =>
      have hc : c' = c := eq_of_beq hi
      subst hc
      have rd' := rd
      simp only [Rep] at rd'
      obtain ⟨a, dx, vs, rfl, z1, z2, z3⟩ := rd'
      refine ⟨a, dx, _, rfl, s2.ext _ _ z1, lookup_zip hm, F, Hd2, E2, w2, s2, (PostA.bind0 p2).imp fun xs E3 Hd3 H3 w3 hx e3 s3 p3 vs' rvs => ?_⟩
      show spF g (n + 1) Fn (V.ref a :: (vs' ++ [])) H3 Q noE
      rw [List.append_nil, ← hn E2 xs E3 hx]
      have := call_post (vs := .ref a :: vs') (xs := .dat (.ins c' fs) :: xs) s2.dom e3 s3 (VFam.cons (fun a h => h) e3 rd rvs) ((noX_post p3).imp fun a _ Hd' H' w' _ _ _ kk v r => kk v (VRel.start e2.dom r))
      rw [List.length_cons] at this
      exact this
    | _ => cases hi
  · exact p2.elim
theorem de_meth {pl : Sem Bool} {fo : Mo Vl} {args : Mo (List Vl)} (ho : PE X o (tE g W fo)) (hC : Cls X.K (g.cA c)) (hm : Meth X.K (g.cA c) m f) (F : FnOk X.prog X.w X.K X.mg X.base (L2.CX X.prog X.w) k f fd ps (spF g (n + 1) Fn)) (hr : Room k X.A) (hb : Binds X.K fd ps []) (hno : (cFn c).contains m = false)
    (ha : PA X (e :: es) (tV g W args)) (hn : ArgLen n args)
    (hst : starEach (e :: es) X.env = (false, eval e X.env) :: starEach es X.env := by rfl) (hpl : (backTo pos (starEach es X.env)).any (·.1) = false := by rfl)
    (ht : eval (.Call (.Attribute o m apos) (e :: es) [] pos) X.env = (do
      let ov ← eval o X.env
      standAt apos.atName
      let (f, first) ← holding [ov] (getMethod ov m pl)
      callWith pos f first (backTo pos (starEach (e :: es) X.env)) (backToKw pos (keywordEach [] X.env))) := by rfl) :
    PE X (.Call (.Attribute o m apos) (e :: es) [] pos) (tE g W (dCallO c Fn fo args)) := (pe_meth (pl := pl) ho hC hm F hr hb .nil passes_no ha hst hpl ht).impF (tE_meth hn hno)
theorem de_meth0 {pl : Sem Bool} {fo : Mo Vl} (ho : PE X o (tE g W fo)) (hC : Cls X.K (g.cA c)) (hm : Meth X.K (g.cA c) m f) (F : FnOk X.prog X.w X.K X.mg X.base (L2.CX X.prog X.w) k f fd ps (spF g 1 Fn)) (hr : Room k X.A) (hb : Binds X.K fd ps []) (hno : (cFn c).contains m = false)
    (ht : eval (.Call (.Attribute o m apos) [] [] pos) X.env = (do
      let ov ← eval o X.env
      standAt apos.atName
      let (f, first) ← holding [ov] (getMethod ov m pl)
      callWith pos f first (backTo pos (starEach [] X.env)) (backToKw pos (keywordEach [] X.env))) := by rfl) :
    PE X (.Call (.Attribute o m apos) [] [] pos) (tE g W (dCallO c Fn fo aNil)) := (pe_meth0 (pl := pl) ho hC hm F hr hb .nil passes_no ht).impF fun σ H Q h => by
  obtain ⟨F, Hd, E, w, s, q⟩ := tE_meth (n := 0) (W := W) argLen_nil hno σ H Q h
  refine ⟨F, Hd, E, w, s, q.imp fun x E1 Hd1 H1 w1 _ e1 s1 p1 v rv => ?_⟩
  obtain ⟨a, dx, fs, h1, h2, h3, F', Hd', E', w', s', q'⟩ := p1 v rv
  exact ⟨a, dx, fs, h1, h2, h3, q'.here s' [] vfam_nil⟩
/-- an own class, asked of its own instances and of those of other classes -/
def ownC (c : Nat) (no : List Nat) : Ty → Option Bool
  | .ins c' => if (c' == c) = true then some true else if no.contains c' = true then some false else none
  | _ => none
theorem isi_ownC {K : PySem.W.Frag} {no : List Nat} (h : InsOk K (g.cA c)) (hno : ∀ c' ∈ no, InsOk K (g.cA c') ∧ (c' ≠ c → PySem.W.kitOne K (.ref (g.cA c')) (.ref (g.cA c)) = some false)) : IsiOk g K (ownC c no) [.ref (g.cA c)] := by
  intro t b hb
  cases t <;> simp only [ownC, reduceCtorEq] at hb
  rename_i c'
  split at hb
  · rename_i e
    have e := eq_of_beq e
    subst e
    cases hb
    refine ⟨any_one ?_, fun c e => by cases e; exact h⟩
    show PySem.W.kitOne K (.ref (g.cA c')) (.ref (g.cA c')) = some true
    unfold PySem.W.kitOne
    rw [if_pos (beq_self_eq_true _)]
  · rename_i ne
    split at hb
    · rename_i hc
      cases hb
      obtain ⟨h1, h2⟩ := hno c' (by simpa using hc)
      exact ⟨any_one (h2 fun z => ne (by rw [z]; exact beq_self_eq_true _)), fun c e => by cases e; exact h1⟩
    · cases hb
end
end Fx

/-! FxZ: n -= k; dicts of numbers: in, len, walked (locked meanwhile) and read -/
namespace Fx
open PySem PySem.Spec PyProof.Rows L2 LamX
section
variable {g : Gx} {W : WX} {X : Cx} {ts : List Nat}
/-! ### n -= k -/
def sAug (i : Nat) (op : Int → Int → Int) (f : Mo Vl) : Mo Fl := fun E => match E[i]? with
  | some (some (.dat (.int k))) => (mb f fun a => match dNum a with
    | some j => mb (setD i (.int (op k j))) fun _ => mp .next
    | none => fun _ => .bad) E
  | _ => .bad
theorem sAug_ok {i : Nat} {op : Int → Int → Int} {f : Mo Vl} : ∀ D σ H, tS g W (sAug i op f) D σ H → tAug i (tE g W f) (ipI op) D σ H := by
  rintro D σ H ⟨F, Hd, E, w, s, p⟩
  unfold sAug at p
  split at p
  · rename_i k q
    obtain ⟨v, h1, h2⟩ := s.slot i _ q
    have hv : v = .int k := by simpa only [Rep] using h2
    refine ⟨v, h1, F, Hd, E, w, s, (PostS.bind p).imp fun a E1 Hd1 H1 w1 _ e1 s1 p1 y ry => ?_⟩
    cases hj : dNum a with
    | none => simp only [hj] at p1; exact p1.elim
    | some j =>
      simp only [hj] at p1
      rw [dNum_eq hj] at ry
      have hy : y = .int j := by simpa only [VRel, Rep] using ry
      subst hv hy
      refine ⟨k, j, rfl, rfl, ?_⟩
      unfold mb setD at p1
      by_cases hc : canSet E1[i]? = true
      · rw [if_pos hc] at p1
        exact p1 _ Hd1 H1 (wOut w1 i) Eff.out (s1.setD hc rep_int)
      · rw [if_neg hc] at p1
        exact p1.elim
  · exact p.elim
theorem ds_augSub {i : Nat} {x : Str} {e : Expr} {f : Mo Vl} {pos pos' : Pos} (hN : X.N.Nodup) (hi : X.N[i]? = some x) (hx : Loc X.env.scope x) (he : PE X e (tE g W f)) (hf : X.fn x = true ∨ X.env.scope.names.lookup x = some .local := by first | exact .inl rfl | exact .inr rfl | assumption) : PS X (.AugAssign (.Name x pos') .Sub e pos) (tS g W (sAug i (fun a b => a - b) f)) :=
  (ps_aug hN hi hx he ip_sub).impF sAug_ok
theorem ds_augAdd {i : Nat} {x : Str} {e : Expr} {f : Mo Vl} {pos pos' : Pos} (hN : X.N.Nodup) (hi : X.N[i]? = some x) (hx : Loc X.env.scope x) (he : PE X e (tE g W f)) (hf : X.fn x = true ∨ X.env.scope.names.lookup x = some .local := by first | exact .inl rfl | exact .inr rfl | assumption) : PS X (.AugAssign (.Name x pos') .Add e pos) (tS g W (sAug i (fun a b => a + b) f)) :=
  (ps_aug hN hi hx he ip_add).impF sAug_ok
end
/-! ### reading does not see whether a dict is locked -/
section
variable {g : Gx} {Hd H : Hp} {q : Addr} {vs : List (Key × V)} {o1 o2 : HO}
/-- a dict, locked or not -/
def DOk (vs : List (Key × V)) (o : HO) : Prop := o = .dK vs ∨ ∃ od, o = .frz od (.dK vs)
theorem DOk.plO (h : DOk vs o1) : PlO o1 := by
  rcases h with rfl | ⟨od, rfl⟩
  · exact ⟨fun _ z => (by cases z), fun _ z => (by cases z)⟩
  · exact ⟨fun _ z => (by cases z), fun _ z => (by cases z)⟩
theorem DOk.ne_tup (h : DOk vs o1) {xs : List V} : o1 ≠ .tup xs := by
  rcases h with rfl | ⟨od, rfl⟩ <;> exact fun z => by cases z
theorem DOk.ne_lst (h : DOk vs o1) {xs : List V} : o1 ≠ .lst xs := by
  rcases h with rfl | ⟨od, rfl⟩ <;> exact fun z => by cases z
theorem DOk.ne_flst (h : DOk vs o1) {xs : List V} {od} : o1 ≠ .frz od (.lst xs) := by
  rcases h with rfl | ⟨od, rfl⟩ <;> exact fun z => by cases z
theorem DOk.ne_ins (h : DOk vs o1) {C dx : Addr} {xs : List (Str × V)} : o1 ≠ .ins C dx xs := by
  rcases h with rfl | ⟨od, rfl⟩ <;> exact fun z => by cases z
theorem DOk.ne_xd (h : DOk vs o1) {xs : List (Str × V)} : o1 ≠ .xd xs := by
  rcases h with rfl | ⟨od, rfl⟩ <;> exact fun z => by cases z
theorem swap_at {a : Addr} {o : HO} (hq : H q = some o1) (h : H a = some o) (ne : o1 ≠ o) : (L2.upd H q o2) a = some o := by
  rw [upd_ne fun e => ne (by rw [e, hq] at h; exact Option.some.inj h)]; exact h
mutual
theorem Rep.swap (hq : H q = some o1) (k1 : DOk vs o1) (k2 : DOk vs o2) : ∀ (d : D) {v : V}, Rep g H d v → Rep g (L2.upd H q o2) d v
  | .non, _, h => by simpa only [Rep] using h
  | .bl _, _, h => by simpa only [Rep] using h
  | .int _, _, h => by simpa only [Rep] using h
  | .str _, _, h => by simpa only [Rep] using h
  | .tup ds, v, h => by
    simp only [Rep] at h ⊢
    obtain ⟨a, us, e1, e2, e3, e4⟩ := h
    exact ⟨a, us, e1, swap_at hq e2 k1.ne_tup, e3, RepL.swap hq k1 k2 ds e4⟩
  | .lst ds, v, h => by
    simp only [Rep] at h ⊢
    obtain ⟨a, us, e1, e2, e3, e4⟩ := h
    exact ⟨a, us, e1, swap_at hq e2 k1.ne_lst, e3, RepL.swap hq k1 k2 ds e4⟩
  | .ins c ds, v, h => by
    simp only [Rep] at h ⊢
    obtain ⟨a, dx, us, e1, e2, e3, e4⟩ := h
    exact ⟨a, dx, us, e1, swap_at hq e2 k1.ne_ins, e3, RepL.swap hq k1 k2 ds e4⟩
  | .scr ns, v, h => by
    simp only [Rep] at h ⊢
    obtain ⟨a, e1, e2⟩ := h
    refine ⟨a, e1, ?_⟩
    rcases e2 with e2 | e2
    · left
      rcases e2 with e2 | ⟨od, e2⟩
      · exact .inl (swap_at hq e2 k1.ne_lst)
      · exact .inr ⟨od, swap_at hq e2 k1.ne_flst⟩
    · exact .inr e2
  | .cls _, _, h => by simpa only [Rep] using h
  | .dbt, v, h => by
    simp only [Rep] at h ⊢
    obtain ⟨a, e1, e2⟩ := h
    refine ⟨a, e1, ?_⟩
    by_cases e : a = q
    · subst e
      have : vs = dbtL := by
        rcases e2 with e2 | ⟨od, e2⟩ <;> rw [hq] at e2 <;> cases Option.some.inj e2 <;> rcases k1 with k1 | ⟨od', k1⟩ <;> cases k1 <;> rfl
      subst this
      rcases k2 with rfl | ⟨od, rfl⟩
      · exact .inl upd_same
      · exact .inr ⟨od, upd_same⟩
    · rcases e2 with e2 | ⟨od, e2⟩
      · exact .inl (by rw [upd_ne e]; exact e2)
      · exact .inr ⟨od, by rw [upd_ne e]; exact e2⟩
  | .dic ks, v, h => by
    simp only [Rep] at h ⊢
    obtain ⟨a, e1, e2⟩ := h
    refine ⟨a, e1, ?_⟩
    by_cases e : a = q
    · subst e
      have : vs = ks.map kvI := by
        rcases e2 with e2 | ⟨od, e2⟩ <;> rw [hq] at e2 <;> cases Option.some.inj e2 <;> rcases k1 with k1 | ⟨od', k1⟩ <;> cases k1 <;> rfl
      subst this
      rcases k2 with rfl | ⟨od, rfl⟩
      · exact .inl upd_same
      · exact .inr ⟨od, upd_same⟩
    · rcases e2 with e2 | ⟨od, e2⟩
      · exact .inl (by rw [upd_ne e]; exact e2)
      · exact .inr ⟨od, by rw [upd_ne e]; exact e2⟩
theorem RepL.swap (hq : H q = some o1) (k1 : DOk vs o1) (k2 : DOk vs o2) : ∀ (ds : List D) {us : List V}, RepL g H ds us → RepL g (L2.upd H q o2) ds us
  | [], _, h => by simpa only [RepL] using h
  | d :: ds, us, h => by
    simp only [RepL] at h ⊢
    obtain ⟨v, ws, e1, e2, e3⟩ := h
    exact ⟨v, ws, e1, Rep.swap hq k1 k2 d e2, RepL.swap hq k1 k2 ds e3⟩
end
theorem RepK.swap (hq : H q = some o1) (k1 : DOk vs o1) (k2 : DOk vs o2) : ∀ {ds : List (Int × D)} {us : List (Key × V)}, RepK g H ds us → RepK g (L2.upd H q o2) ds us
  | [], _, h => h
  | d :: ds, us, h => by
    obtain ⟨v, ws, rfl, r, t⟩ := h
    exact ⟨v, ws, rfl, r.swap hq k1 k2, RepK.swap hq k1 k2 t⟩
theorem OwnRep.swap {A : Addr → Prop} {p : Addr} (hq : Hd q = some o1) (k1 : DOk vs o1) (k2 : DOk vs o2) (hA : ∀ a, A a → Hd a = none) : ∀ {o : O}, OwnRep g Hd H A p o → OwnRep g (L2.upd Hd q o2) (L2.upd H q o2) A p o := by
  have ne : ∀ a, A a → a ≠ q := fun a z e => by rw [e] at z; rw [hA q z] at hq; cases hq
  intro o h
  cases o with
  | lst ds => obtain ⟨z, us, e1, e2, e3⟩ := h; exact ⟨z, us, by rw [upd_ne (ne _ z)]; exact e1, e2, RepL.swap hq k1 k2 _ e3⟩
  | dct ds => obtain ⟨z, us, e1, e2⟩ := h; exact ⟨z, us, by rw [upd_ne (ne _ z)]; exact e1, RepK.swap hq k1 k2 e2⟩
  | obj c ds => obtain ⟨z, dx, us, e1, e2, e3⟩ := h; exact ⟨z, dx, us, by rw [upd_ne (ne _ z)]; exact e1, e2, RepL.swap hq k1 k2 _ e3⟩
  | bench x y ds =>
    obtain ⟨z, dx, vw, vb, l, us, e1, e2, e3, e4, e5, e6, e7⟩ := h
    exact ⟨z, dx, vw, vb, l, us, by rw [upd_ne (ne _ z)]; exact e1, e2.swap hq k1 k2, e3.swap hq k1 k2, e4, by rw [upd_ne (ne _ e4)]; exact e5, e6, RepL.swap hq k1 k2 _ e7⟩
theorem Sr.swap {F : Fc} {E : En} {σ : L2.St} {w : Ow} (s : Sr g F Hd H E σ w) (hq : Hd q = some o1) (k1 : DOk vs o1) (k2 : DOk vs o2) : Sr g F (L2.upd Hd q o2) (L2.upd H q o2) E σ w := by
  have ne : ∀ a i, w a = some i → a ≠ q := fun a i z e => by rw [e] at z; rw [s.hdn q i z] at hq; cases hq
  have hq' := s.ext q o1 hq
  refine ⟨same_upd2 s.ext, fun a z => ?_, fun a i z => by rw [upd_ne (ne a i z)]; exact s.hdn a i z, fun a i z => by rw [upd_ne (ne a i z)]; exact s.wh a i z, s.len, fun i x e => ?_, s.frs, s.rk, s.st, ?_, fun a ps z => ?_, fun a i ps z => by rw [upd_ne (ne a i z)]; exact s.ntw a i ps z, fun a ps z => ?_⟩
  · by_cases e : a = q
    · subst e; rw [upd_same]; simp
    · rw [upd_ne e]; exact s.dom a z
  · have sl := s.slot i x e
    match x, sl with
    | none, _ => trivial
    | some .hid, _ => trivial
    | some (.dat d), ⟨v, h1, h2⟩ => exact ⟨v, h1, h2.swap hq k1 k2⟩
    | some (.own o), ⟨p, h1, h2⟩ => exact ⟨p, h1, h2.swap hq k1 k2 fun a z => s.hdn a i z⟩
    | some (.ref o), ⟨p, h1, h2⟩ => exact ⟨p, h1, h2.swap hq k1 k2 fun a z => s.hdn a i z⟩
  · exact tab_upd s.tab fun u z => by rw [hq'] at z; cases z; exact k1.plO
  · by_cases e : a = q
    · subst e; rw [upd_same] at z; exact k2.plO.1 ps (Option.some.inj z)
    · rw [upd_ne e] at z; exact s.ntd a ps z
  · by_cases e : a = q
    · subst e; rw [upd_same] at z; exact absurd (Option.some.inj z) (k2.plO.1 ps)
    · rw [upd_ne e] at z; exact s.nt0 a ps z
theorem VRel.swap {Hs : Hp} {σ : L2.St} {w : Ow} {v : V} (hq : Hd q = some o1) (k1 : DOk vs o1) (k2 : DOk vs o2) : ∀ {a : Vl}, VRel g Hd H w σ Hs v a → VRel g (L2.upd Hd q o2) (L2.upd H q o2) w σ Hs v a
  | .dat d, h => Rep.swap hq k1 k2 d h
  | .loc i, h => h
  | .own o, ⟨p, A, h1, h2, h3⟩ => ⟨p, A, h1, fun a x => by
      obtain ⟨z1, z2, z3, z4⟩ := h2 a x
      have ne : a ≠ q := fun e => by rw [e, hq] at z2; cases z2
      rw [upd_ne ne, upd_ne ne]
      exact ⟨z1, z2, z3, z4⟩, h3.swap hq k1 k2 fun a x => (h2 a x).2.1⟩
/-- an effect between the lock and its end -/
theorem Eff.unlock {Hd' H' : Hp} {w w' : Ow} (hd : Hd q = some o1) (hq : H q = some o1) (k1 : DOk vs o1) (k2 : DOk vs o2) (e : Eff (L2.upd Hd q o2) (L2.upd H q o2) w Hd' H' w') : Eff Hd H w (L2.upd Hd' q o1) (L2.upd H' q o1) w' := by
  refine ⟨fun a o z => ?_, fun a o z n nt => ?_, fun a z => ?_, fun a i z => ?_, fun a z => ?_, fun a ps z => ?_⟩
  · by_cases h : a = q
    · subst h; rw [upd_same, ← hd]; exact z
    · rw [upd_ne h]; exact e.hd a o (by rw [upd_ne h]; exact z)
  · by_cases h : a = q
    · subst h; rw [upd_same, ← hq]; exact z
    · rw [upd_ne h]; exact e.fr a o (by rw [upd_ne h]; exact z) n nt
  · by_cases h : a = q
    · subst h; rw [upd_same]; simp
    · rw [upd_ne h]; exact e.dom a (by rw [upd_ne h]; exact z)
  · rcases e.wi a i z with u | u
    · exact .inl u
    · by_cases h : a = q
      · subst h; rw [upd_same] at u; cases u
      · rw [upd_ne h] at u; exact .inr u
  · by_cases h : a = q
    · subst h; exact .inl (by rw [hd]; simp)
    · rw [upd_ne h] at z
      rcases e.hn a z with u | u | u
      · rw [upd_ne h] at u; exact .inl u
      · exact .inr (.inl u)
      · rw [upd_ne h] at u; exact .inr (.inr u)
  · by_cases h : a = q
    · subst h; rw [upd_same] at z; exact absurd (Option.some.inj z) (k1.plO.1 ps)
    · rw [upd_ne h] at z
      obtain ⟨qs, y⟩ := e.nt a ps z
      rw [upd_ne h] at y
      exact ⟨qs, y⟩
end

/-! ### for k in d -/
def intsK : List (Int × D) → Option (List (Int × Int))
  | [] => some []
  | (k, .int v) :: r => (intsK r).map ((k, v) :: ·)
  | _ => none
theorem intsK_rep {g : Gx} {Hd : Hp} : ∀ {kvs : List (Int × D)} {ps : List (Int × Int)} {vs : List (Key × V)}, intsK kvs = some ps → RepK g Hd kvs vs → vs = ps.map kvI
  | [], ps, vs, h, r => by cases Option.some.inj h; exact r
  | (k, d) :: kvs, ps, vs, h, r => by
    cases d <;> simp only [intsK] at h <;> try (cases h)
    rename_i v
    obtain ⟨qs, h1, rfl⟩ := Option.map_eq_some_iff.mp h
    obtain ⟨u, ws, rfl, r1, r2⟩ := r
    have hu : u = .int v := by simpa only [Rep] using r1
    rw [intsK_rep h1 r2, hu]; rfl
def sForK (i : Nat) (t : D → Mo Unit) (body : Mo Fl) (ks : List Nat) : Mo Fl := fun E => match E[i]? with
  | some (some (.own (.dct kvs))) => match intsK kvs with
    | some ps => if kvs.length ≤ 1000 then (match sLoop t body ks (ps.map fun p => .int p.1) (E.set i (some (.dat (.dic ps)))) with
      | .ok a E' => .ok a E'
      | _ => .bad) else .bad
    | none => .bad
  | _ => .bad
section
variable {g : Gx} {W : WX} {X : Cx} {ts : List Nat} {F : Fc} {Hd H : Hp} {E : En} {σ : L2.St} {w : Ow}
theorem Sr.freezeK {i : Nat} {kvs : List (Int × D)} {ps : List (Int × Int)} (s : Sr g F Hd H E σ w) (q : E[i]? = some (some (.own (.dct kvs)))) (hk : intsK kvs = some ps) :
    ∃ p, σ[i]? = some (some (.ref p)) ∧ w p = some i ∧ H p = some (.dK (ps.map kvI)) ∧ Sr g F (toData Hd H fun a => w a = some i) H (E.set i (some (.dat (.dic ps)))) σ (wOut w i) := by
  obtain ⟨p, h1, h2, vs, h3, h4⟩ := s.slot i _ q
  have hv := intsK_rep hk h4
  subst hv
  have sd : Same Hd (toData Hd H fun a => w a = some i) := toData_same fun a z => s.hdn a i z
  have r : Rep g (toData Hd H fun a => w a = some i) (.dic ps) (.ref p) := by
    simp only [Rep]
    exact ⟨p, rfl, .inl ((toData_in h2).trans h3)⟩
  refine ⟨p, h1, h2, h3, toData_sub s.ext, s.dom, fun a j z => ?_, fun a j z => s.wh a j (wOut_some.mp z).1, by rw [List.length_set]; exact s.len, fun j x e => ?_, fun a j o z e => ?_, fun q' hq => ?_, fun a j z => ?_, s.tab, fun a ps z => ?_, fun a j ps z => s.ntw a j ps (wOut_some.mp z).1, s.nt0⟩
  · obtain ⟨z1, z2⟩ := wOut_some.mp z
    rw [toData_out fun y => z2 (Option.some.inj (z1.symm.trans y))]
    exact s.hdn a j z1
  · by_cases ij : i = j
    · subst ij
      rw [List.getElem?_set_self (by exact (List.getElem?_eq_some_iff.mp q).1)] at e
      cases e
      exact ⟨.ref p, h1, r⟩
    · rw [List.getElem?_set_ne ij] at e
      exact (s.slot j x e).keep sd (fun _ _ _ z _ => z) fun a z => wOut_some.mpr ⟨z, fun y => ij y.symm⟩
  · obtain ⟨z1, z2⟩ := wOut_some.mp z
    rw [List.getElem?_set_ne (fun y => z2 y.symm)] at e
    exact s.frs a j o z1 e
  · obtain ⟨y1, y2⟩ := s.rk q' hq
    exact ⟨y1, isRef_ne y2 (by rw [q]; exact fun z => z)⟩
  · exact hasO_ne (s.st a j (wOut_some.mp z).1) (wOut_some.mp z).2
  · by_cases y : w a = some i
    · rw [toData_in y] at z; exact s.ntw a i ps y z
    · rw [toData_out y] at z; exact s.ntd a ps z
theorem ds_forK {x : Str} {i : Nat} {tg : Expr} {npos : Pos} {body : List Stmt} {pos : Pos} {t : D → Mo Unit} {b : Mo Fl} (ks : List Nat) (hp : PassesOwn (model X.prog X.w) X.A X.env X.xe) (hc : X.calm = true) (ho : PE X (.Name x npos) (tVar i)) (hg : PG X tg (tG g ts t)) (hb : PSs X body (tS g W b))
    (hs : ∀ y, foldedSetIterable (.Name x npos) X.env y = pure y := by intro _; rfl) : PS X (.For tg (.Name x npos) body [] pos) (tS g W (sForK i t b ks)) := (ps_lock (ps_for hp hc (pi_keys ho) hg hb hs)).impF fun D0 σ H ⟨F, Hd, E, w, s, p⟩ => by
  unfold sForK at p
  split at p
  · rename_i kvs q0
    split at p
    · rename_i ps hk
      split at p
      · rename_i hz
        obtain ⟨q, h1, h2, h3, s1⟩ := s.freezeK q0 hk
        have e1 : Eff Hd H w (toData Hd H fun a => w a = some i) H (wOut w i) := by
          have sd : Same Hd (toData Hd H fun a => w a = some i) := toData_same fun a z => s.hdn a i z
          refine ⟨sd, fun _ _ z _ _ => z, fun _ z => z, fun a j z => .inl (wOut_some.mp z).1, fun a z => ?_, fun a ps z => ⟨ps, z⟩⟩
          by_cases hb : w a = some i
          · exact .inr (.inl (by rw [hb]; simp))
          · rw [toData_out hb] at z; exact .inl z
        have hd : (toData Hd H fun a => w a = some i) q = some (.dK (ps.map kvI)) := (toData_in (A := fun a => w a = some i) h2).trans h3
        generalize (toData Hd H fun a => w a = some i) = Hd1 at s1 e1 hd
        generalize wOut w i = w1 at s1 e1
        refine ⟨q, _, h3, trivial, fun od => ?_⟩
        have k1 : DOk (ps.map kvI) (.dK (ps.map kvI)) := .inl rfl
        have k2 : DOk (ps.map kvI) (.frz od (.dK (ps.map kvI))) := .inr ⟨od, rfl⟩
        have s2 := s1.swap hd k1 k2
        have hlen : ps.length ≤ sizeLine := by
          have : ∀ {kvs : List (Int × D)} {ps : List (Int × Int)}, intsK kvs = some ps → ps.length = kvs.length := fun {kvs} => by
            induction kvs with
            | nil => intro ps h; cases Option.some.inj h; rfl
            | cons kv kvs ih =>
              intro ps h
              obtain ⟨k, d⟩ := kv
              cases d <;> simp only [intsK] at h <;> try (cases h)
              obtain ⟨qs, h1, rfl⟩ := Option.map_eq_some_iff.mp h
              rw [List.length_cons, List.length_cons, ih h1]
          rw [this hk, sizeLine_eq]
          omega
        refine ⟨.ref q, h1, q, od, rfl, .inl ⟨_, upd_same, ?_⟩⟩
        refine loop_ok (B := L2.upd Hd1 q (.frz od (.dK (ps.map kvI)))) (ds := ps.map fun p => D.int p.1) s2 ⟨by rw [List.length_map]; exact hlen, _, _, by rw [show (ps.map fun p => D.int p.1).length = (ps.map kvI).length by rw [List.length_map, List.length_map]]; exact walk_keys, fun H' e => e _ _ upd_same, ?_⟩ (fun a o z => ?_) (t := t) (body := b) (ks := ks) ?_
        · rintro j d Hd3 H3 y H4 hj a1 a2 ⟨rfl, k, v, hy, rfl⟩
          rw [List.getElem?_map] at hj hy
          obtain ⟨pr, hp1, rfl⟩ := Option.map_eq_some_iff.mp hj
          rw [hp1] at hy
          have hy := Option.some.inj hy
          have : k = Sum.inl pr.1 := (congrArg Prod.fst hy).symm
          subst this
          exact ⟨Hd3, Grow.refl a2, rep_int⟩
        · refine ⟨s2.ext _ _ z, ?_, fun ps y => s2.ntd a ps (by rw [z, y])⟩
          cases y : w1 a with
          | none => rfl
          | some k => rw [s2.hdn a k y] at z; cases z
        · revert p
          cases sLoop t b ks (ps.map fun p => D.int p.1) (E.set i (some (.dat (.dic ps)))) with
          | ok f E' =>
            intro p σ' Hd' H' w' e' s'
            have hd' : Hd' q = some (.frz od (.dK (ps.map kvI))) := e'.hd _ _ upd_same
            have hh' : H' q = some (.frz od (.dK (ps.map kvI))) := s'.ext _ _ hd'
            have e3 := e1.trans (Eff.unlock hd h3 k1 k2 e')
            have s3 := s'.swap hd' k2 k1
            have z := p σ' _ _ w' e3 s3
            cases f with
            | next => exact ⟨hh', z⟩
            | ret a => exact fun v rv => ⟨hh', z v (rv.swap hd' k2 k1)⟩
            | brk => exact ⟨hh', z⟩
            | cont => exact ⟨hh', z⟩
          | exc _ _ => exact fun p => p.elim
          | bad => exact fun p => p.elim
      · exact p.elim
    · exact p.elim
  · exact p.elim
end

/-! ### k in d, len(d), d[k] -/
theorem getK_none {g : Gx} {Hd : Hp} : ∀ {kvs : List (Int × D)} {vs : List (Key × V)} (k : Int), RepK g Hd kvs vs → (valV vs (Sum.inl k)).isSome = (getK kvs k).isSome
  | [], vs, k, r => by rw [show vs = [] from r]; rfl
  | (a, x) :: kvs, vs, k, r => by
    obtain ⟨v, ws, rfl, r1, r2⟩ := r
    unfold getK
    by_cases h : a = k
    · subst h
      rw [if_pos rfl, valV_pos rfl]; rfl
    · rw [if_neg h, valV_neg (fun e => h (Sum.inl.inj e))]
      exact getK_none k r2
section
variable {g : Gx} {W : WX} {X : Cx} {ts : List Nat}
def dInK (i : Nat) (f : Mo Vl) : Mo Vl := mb f fun a => fun E => match dNum a with
  | some k => match objAt E i with
    | some (.dct kvs) => .ok (.dat (.bl (getK kvs k).isSome)) E
    | _ => .bad
  | none => .bad
theorem tIn_ok {i : Nat} {f : Mo Vl} : ∀ σ H Q, tE g W (dInK i f) σ H Q → tDIn (tE g W f) (tVar i) σ H Q := by
  rintro σ H Q ⟨F, Hd, E, w, s, p⟩
  refine ⟨F, Hd, E, w, s, (PostA.bind p).imp fun a E1 Hd1 H1 w1 _ e1 s1 p1 v rv => ?_⟩
  split at p1
  · rename_i k hk
    rw [dNum_eq hk] at rv
    have hv : v = .int k := by simpa only [VRel, Rep] using rv
    subst hv
    split at p1
    · rename_i kvs q
      obtain ⟨c, h1, _, vs, h3, h4⟩ := objAt_slot s1 q
      refine ⟨.ref c, h1, c, _, rfl, DGet.k (k := Sum.inl k) h3, ?_⟩
      rw [getK_none k h4]
      exact p1.here s1 _ (by show Rep g Hd1 (.bl _) (.bl _); exact rep_bl)
    · exact p1.elim
  · exact p1.elim
theorem de_inK {x : Str} {i : Nat} {ie : Expr} {npos pos : Pos} {f : Mo Vl} (hu : X.A.units + 1 < cLine) (ho : PE X (.Name x npos) (tVar i)) (hi : PE X ie (tE g W f)) : PE X (.Compare ie [.In] [.Name x npos] pos) (tE g W (dInK i f)) := (pe_cmp (pc_din hu hi ho)).impF tIn_ok
theorem dt_inK {x : Str} {i : Nat} {ie : Expr} {npos pos : Pos} {f : Mo Vl} (hu : X.A.units + 1 < cLine) (ho : PE X (.Name x npos) (tVar i)) (hi : PE X ie (tE g W f)) : PT X (.Compare ie [.In] [.Name x npos] pos) (tT g W (toB (dInK i f))) := (pt_cmp (pc_din hu hi ho)).impF fun σ H Q ⟨F, Hd, E, w, s, p⟩ => by
  have z := tIn_ok (g := g) (W := W) (i := i) (f := f) σ H (fun v H1 => ∃ c, v = .bl c ∧ Q c H1) ⟨F, Hd, E, w, s, (PostA.bind p).imp fun a E1 Hd1 H1 w1 _ e1 s1 p1 v rv => by
    split at p1
    · rename_i b _
      have q : v = .bl b := by simpa only [VRel, Rep] using rv
      exact ⟨b, q, p1.here s1⟩
    · exact p1.elim⟩
  exact z
def dLenK (i : Nat) : Mo Vl := fun E => match objAt E i with
  | some (.dct kvs) => .ok (.dat (.int kvs.length)) E
  | _ => .bad
theorem de_lenK {x : Str} {i : Nat} {npos p pos : Pos} (hg : Gl X "len") (hm : X.mg "len" = none) (ho : PE X (.Name x npos) (tVar i)) (hv : bootBuiltins "len" = some (.builtin "len") := by rfl) (he : starEach ((.Name x npos) :: []) X.env = (false, eval (.Name x npos) X.env) :: starEach [] X.env := by rfl) (hpl : (backTo pos (starEach [] X.env)).any (·.1) = false := by rfl) :
    PE X (.Call (.Name "len" p) [.Name x npos] [] pos) (tE g W (dLenK i)) := (pe_callB call_lenD hg hm hv (pa_cons ho pa_nil he) (by decide) (by decide) he hpl).impF fun σ H Q ⟨F, Hd, E, w, s, p⟩ => by
  unfold dLenK at p
  split at p
  · rename_i kvs q
    obtain ⟨c, h1, _, vs, h3, h4⟩ := objAt_slot s q
    refine ⟨.ref c, h1, c, vs, rfl, h3, ?_⟩
    rw [← repK_len h4]
    exact p.here s _ (by show Rep g Hd (.int _) (.int _); exact rep_int)
  · exact p.elim
/-- d[k] of a dict that is data -/
def dGetKD (i : Nat) (f : Mo Vl) : Mo Vl := fun E0 => match E0[i]? with
  | some (some (.dat (.dic kvs))) => (mb f fun a E => match dNum a with
    | some k => match (kvs.find? fun p => p.1 == k) with
      | some p => .ok (.dat (.int p.2)) E
      | none => .bad
    | none => .bad) E0
  | _ => .bad
theorem find_val {k : Int} : ∀ {kvs : List (Int × Int)} {p : Int × Int}, kvs.find? (fun p => p.1 == k) = some p → valV (kvs.map kvI) (Sum.inl k) = some (.int p.2)
  | [], p, h => by cases h
  | q :: kvs, p, h => by
    rw [List.map_cons]
    by_cases e : q.1 = k
    · rw [List.find?_cons_of_pos (by simpa using e)] at h
      cases h
      exact valV_pos (p := kvI q) (by show Sum.inl q.1 = Sum.inl k; rw [e])
    · rw [List.find?_cons_of_neg (by simpa using e)] at h
      rw [valV_neg (p := kvI q) (fun z => e (Sum.inl.inj z))]
      exact find_val h
theorem de_dgetD {x : Str} {i : Nat} {ie : Expr} {npos pos : Pos} {f : Mo Vl} (hu : X.A.units + 1 < cLine) (ho : PE X (.Name x npos) (tVar i)) (hi : PE X ie (tE g W f)) (hs : NoSl ie := by intro _ _; rfl) : PE X (.Subscript (.Name x npos) ie pos) (tE g W (dGetKD i f)) := (pe_dget hu ho hi hs).impF fun σ H Q ⟨F, Hd, E, w, s, p⟩ => by
  unfold dGetKD at p
  split at p
  · rename_i kvs q0
    obtain ⟨c, h1, h2⟩ := s.slot i _ q0
    simp only [Rep] at h2
    obtain ⟨a0, rfl, h3⟩ := h2
    refine ⟨.ref a0, h1, F, Hd, E, w, s, (PostA.bind p).imp fun a E1 Hd1 H1 w1 _ e1 s1 p1 v rv => ?_⟩
    split at p1
    · rename_i k hk
      rw [dNum_eq hk] at rv
      have hv : v = .int k := by simpa only [VRel, Rep] using rv
      subst hv
      split at p1
      · rename_i pr hp
        have h4 : DicAt H1 a0 kvs := (h3.mono e1.hd).mono s1.ext
        have hr : Rd H1 a0 (.dK (kvs.map kvI)) := by
          rcases h4 with z | ⟨od, z⟩
          · exact .inl z
          · exact .inr ⟨od, z⟩
        exact ⟨a0, _, rfl, .inl ⟨_, Sum.inl k, hr, rfl, (find_val hp).symm⟩, p1.here s1 _ (by show Rep g Hd1 (.int _) (.int _); exact rep_int)⟩
      · exact p1.elim
    · exact p1.elim
  · exact p.elim
/-- {} -/
theorem de_dict0 {pos : Pos} : PE X (.Dict [] [] pos) (tE g W (mp (.own (.dct [])))) := pe_dnewK.impF fun σ H Q ⟨F, Hd, E, w, s, p⟩ => by
  intro q hq
  have wq : w q = none := by
    cases y : w q with
    | none => rfl
    | some i => exact absurd hq (s.wh _ i y)
  have hdq := s.ext.free hq
  have s2 := s.upd (o := .dK []) hdq wq (plO_none hq)
  have e2 : Eff Hd H w Hd (L2.upd H q (.dK [])) w := Eff.refl.upd hq
  refine p Hd _ w e2 s2 (.ref q) ⟨q, fun a => a = q, rfl, fun a ha => ?_, rfl, _, upd_same, rfl⟩
  subst ha
  exact ⟨hq, hdq, wq, by rw [upd_same]; simp⟩
end
end Fx

/-! FyA: -o of an instance with __neg__; try that nothing leaves by an exception -/
namespace Fx
open PySem PySem.Spec PyProof.Rows L2 LamX
section
variable {X : Cx} {k : Nat} {C f : Addr} {sp : Sp}
def rUnO (X : Cx) (C : Addr) (sp : Sp) : V → Hp → VK → Prop := fun x H Q => ∃ a, x = V.ref a ∧ StX.InsC X H a C ∧ sp [V.ref a] H Q noE
theorem un_negO (hs : PySem.W.findIn X.K (.ref C) "__neg__" = some (some (.ref f))) (hf : PySem.W.isFn X.K (.ref f) = true) (F : FnR X.prog X.w X.K X.mg X.base (L2.CX X.prog X.w) k f sp) (hr : Room k X.A) : UnR X (unaryOp .USub) (rUnO X C sp) := by
  intro pins s σ H x v Q I r h
  obtain ⟨a, rfl, hi, hsp⟩ := h
  have rv : Vals [V.ref a] [v] := .cons r .nil
  cases r
  obtain ⟨ox, od, J, hd⟩ := StX.insC_at I hi
  obtain ⟨m, hF⟩ := I.fr
  exact PySem.W.ksp_neg hF I.ok.mod.kin J hs hf (run_in F rfl hr I rv hsp)
end
section
variable {g : Gx} {W : WX} {X : Cx} {k c : Nat} {f : Addr} {Fn : En → Re Vl}
theorem tE_un0 {fo : Mo Vl} : ∀ σ H Q, tE g W (dCallO c Fn fo aNil) σ H Q → tUn (rUnO X (g.cA c) (spF g 1 Fn)) (tE g W fo) σ H Q := by
  rintro σ H Q ⟨F, Hd, E, w, s, p⟩
  refine ⟨F, Hd, E, w, s, (PostA.bind0 p).imp fun x E1 Hd1 H1 w1 _ e1 s1 p1 v rv => ?_⟩
  obtain ⟨d, E2, Hd2, w2, hf, e2, s2, rd, p2⟩ := frz_post e1 s1 rv (PostA.bind p1)
  split at p2
  · rename_i hi
    cases d with
    | ins c' fs =>
      have hc : c' = c := eq_of_beq hi
      subst hc
      have rd' := rd
      simp only [Rep] at rd'
      obtain ⟨a, dx, vs, rfl, z1, z2, z3⟩ := rd'
      refine ⟨a, rfl, .inr ⟨dx, _, s2.ext _ _ z1⟩, ?_⟩
      have p3 : PostA g F W σ Hd2 H1 w2 (noX (callM Fn [.dat (.ins c' fs)]) E2) _ := p2
      exact call_post (vs := [.ref a]) (xs := [.dat (.ins c' fs)]) s2.dom Eff.refl s2 (VFam.cons (fun a h => h) Eff.refl rd vfam_nil) ((noX_post p3).imp fun r E3 Hd' H' w' _ _ _ kk v rv => kk v (VRel.start e2.dom rv))
    | _ => cases hi
  · exact p2.elim
theorem de_negO {fo : Mo Vl} {a : Expr} {pos : Pos} (hs : PySem.W.findIn X.K (.ref (g.cA c)) "__neg__" = some (some (.ref f))) (hf : PySem.W.isFn X.K (.ref f) = true) (F : FnR X.prog X.w X.K X.mg X.base (L2.CX X.prog X.w) k f (spF g 1 Fn)) (hr : Room k X.A) (ha : PE X a (tE g W fo)) :
    PE X (.UnaryOp .USub a pos) (tE g W (dCallO c Fn fo aNil)) := (pe_un (un_negO (C := g.cA c) (sp := spF g 1 Fn) hs hf F hr) ha).impF tE_un0
def sNoX (b : Mo Fl) : Mo Fl := fun E => match b E with
  | .ok a E' => .ok a E'
  | _ => .bad
theorem ds_tryN {body : List Stmt} {h₀ : ExceptHandler} {hs : List ExceptHandler} {pos : Pos} {b : Mo Fl} (h : PSs X.nox body (tS g Wn b)) : PS X (.Try body (h₀ :: hs) [] [] pos) (tS g W (sNoX b)) := (ps_try_thru0 h).impF fun D σ H ⟨F, Hd, E, w, s, p⟩ => by
  refine ⟨F, Hd, E, w, s, ?_⟩
  unfold sNoX at p
  revert p
  cases b E with
  | ok a E' => exact fun p => p
  | exc _ _ => exact fun p => p.elim
  | bad => exact fun p => p.elim
end
end Fx

/-! FyB: properties; len, in, + of instances -/
namespace Fx
open PySem PySem.Spec PyProof.Rows L2 LamX
section
variable {g : Gx} {W : WX} {X : Cx} {k c : Nat} {f p0 : Addr} {fd : FuncData} {ps : List Str} {Fn : En → Re Vl} {m : Str} {pos : Pos} {o : Expr}
/-- an instance that is data, handed to a def -/
theorem tE_ins0 {fo : Mo Vl} : ∀ σ H Q, tE g W (dCallO c Fn fo aNil) σ H Q → tE g W fo σ H fun x H1 => ∃ a dx fs, x = V.ref a ∧ H1 a = some (.ins (g.cA c) dx fs) ∧ spF g 1 Fn [V.ref a] H1 Q noE := by
  rintro σ H Q ⟨F, Hd, E, w, s, p⟩
  refine ⟨F, Hd, E, w, s, (PostA.bind0 p).imp fun x E1 Hd1 H1 w1 _ e1 s1 p1 v rv => ?_⟩
  obtain ⟨d, E2, Hd2, w2, hf, e2, s2, rd, p2⟩ := frz_post e1 s1 rv (PostA.bind p1)
  split at p2
  · rename_i hi
    cases d with
    | ins c' fs =>
      have hc : c' = c := eq_of_beq hi
      subst hc
      have rd' := rd
      simp only [Rep] at rd'
      obtain ⟨a, dx, vs, rfl, z1, z2, z3⟩ := rd'
      refine ⟨a, dx, _, rfl, s2.ext _ _ z1, ?_⟩
      have p3 : PostA g F W σ Hd2 H1 w2 (noX (callM Fn [.dat (.ins c' fs)]) E2) _ := p2
      exact call_post (vs := [.ref a]) (xs := [.dat (.ins c' fs)]) s2.dom Eff.refl s2 (VFam.cons (fun a h => h) Eff.refl rd vfam_nil) ((noX_post p3).imp fun r E3 Hd' H' w' _ _ _ kk v rv => kk v (VRel.start e2.dom rv))
    | _ => cases hi
  · exact p2.elim
theorem de_prop {fo : Mo Vl} (ho : PE X o (tE g W fo)) (hC : Cls X.K (g.cA c)) (hp : PropOf X.K (g.cA c) m p0 f) (F : FnOk X.prog X.w X.K X.mg X.base (L2.CX X.prog X.w) k f fd ps (spF g 1 Fn)) (hr : Room (k + 1) X.A) (hb : L2.Binds X.K fd ps [])
    (hab : attributeBase o m X.env (eval o X.env) = eval o X.env := by rfl) : PE X (.Attribute o m pos) (tE g W (dCallO c Fn fo aNil)) :=
  (pe_prop ho hC hp F hr hb .nil passes_no hab).impF fun σ H Q h => tE_ins0 σ H Q h
end
/-! ### len -/
section
variable {X : Cx} {pins : List (Addr × Obj)} {σ : L2.St} {H : Hp} {s : Shared}
def rLenO (X : Cx) (C : Addr) (sp : Sp) : List V → Hp → VK → Prop := fun xs H Q => ∃ a, xs = [V.ref a] ∧ StX.InsC X H a C ∧ sp [V.ref a] H (fun v H2 => ∃ n : Int, v = .int n ∧ 0 ≤ n ∧ n < 2 ^ 63 ∧ Q (.int n) H2) noE
theorem cr_lenO {k : Nat} {C f : Addr} {sp : Sp} (hs : PySem.W.findIn X.K (.ref C) "__len__" = some (some (.ref f))) (hf : PySem.W.isFn X.K (.ref f) = true) (F : FnR X.prog X.w X.K X.mg X.base (L2.CX X.prog X.w) k f sp) (hr : Room (k + 1) X.A) : CallR X (.builtin "len") (rLenO X C sp) := by
  intro pins s σ H xs us Q I r h
  obtain ⟨a, rfl, hi, hsp⟩ := h
  obtain rfl := Vals.ref1 r
  obtain ⟨ox, od, J, hd⟩ := StX.insC_at I hi
  obtain ⟨m, hF⟩ := I.fr
  refine PySem.W.len_K hF I.ok.mod.kin J hs hf (wpAny_mono (run_in (A' := X.A.in1) F rfl hr.in1 I r hsp) (fun v s' hq => ?_) fun _ _ hq => hq)
  obtain ⟨v', H', I', rv, n, en, n0, n1, q⟩ := hq
  subst en
  obtain ⟨t, ev⟩ : ∃ t, v = .int n t := rv
  subst ev
  exact ⟨⟨n0, n1⟩, .int n, H', I'.kept (t' := s'.toks + 1) fun b u e => e, ⟨_, rfl⟩, q⟩
end
end Fx

/-! FyC: raise, try .. except -/
namespace Fx
open PySem PySem.Spec PyProof.Rows L2 LamX
section
variable {g : Gx} {W : WX} {X : Cx}
/-- an own exception, made with a text -/
structure ExOk (g : Gx) (K : PySem.W.Frag) (mg : Str → Option Value) (c : Nat) (x : Str) : Prop where
  gx : mg x = some (.ref (g.xA c))
  ex : PySem.W.excIn K (g.xA c) [.type "ValueError", .type "Exception", .type "BaseException", .type "object"] "ValueError.__new__" = true
  kp : PySem.W.keepIn K (.ref (g.xA c)) = true
  bp : PySem.W.subIn K (.ref (g.xA c)) (.type "BaseException") = some true
  tp : PySem.W.typeIn K (.ref (g.xA c)) = some (.type "type")
def sRaise (c : Nat) : Mo Fl := fun E => .exc ⟨c, none⟩ E
theorem ds_raise {c : Nat} {x m : Str} {j : Nat} {p p2 p3 pos : Pos} (hc : X.calm = true) (tk : Takes X W) (e : ExOk g X.K X.mg c x) (hg : Gl X x) (hdb : (x == ("__debug__" : Str)) = false := by decide) :
    PS X (.Raise (some (.Call (.Name x p) [.Constant (.str m) j p2] [] p3)) none pos) (tS g W (sRaise c)) :=
  (ps_raise hc tk (pmk_own PySem.F.excBase_ValueError e.ex e.gx e.kp (raises_own e.bp e.tp) hg hdb)).impF fun D σ H ⟨F, Hd, E, w, s, p⟩ =>
    p _ _ σ Hd H w Eff.refl s ⟨rfl, rfl⟩
def sTry (tab : Nat → Option Bool) (b h : Mo Fl) : Mo Fl := fun E => match b E with
  | .ok a E' => .ok a E'
  | .exc x E' => match tab x.c with
    | some true => match h E' with
      | .ok a E2 => .ok a E2
      | _ => .bad
    | some false => .exc x E'
    | none => .bad
  | .bad => .bad
theorem ds_try {x : Str} {hC : Addr} {body suite : List Stmt} {b₀ : Stmt} {np pos pos' : Pos} {tab : Nat → Option Bool} {b h : Mo Fl} (hs : X.stack = X.env :: X.outer) (hf : X.env.frame = some X.env.locals) (hc : Names X x (.ref hC)) (tk : Takes X W)
    (htab : ∀ c k, tab c = some k → PySem.W.exmOne X.K (.ref (g.xA c)) (.ref hC) = some k)
    (hb : ∀ (W' : WX) (pn : List (Addr × Obj)) (xe : Value → Shared → Prop), Takes (X.tr pn xe) W' → PassesOwn (model X.prog X.w) X.A X.env xe → PSs (X.tr pn xe) body (tS g W' b))
    (hsu : ∀ (a : Addr) (oe : Obj) (cls : Value) (d : Option Addr) (pn : List (Addr × Obj)), Zc cls d oe → (∃ vs, oe.data = .fields vs) → PSs (X.suite a ((a, oe) :: pn)) (b₀ :: suite) (tS g Wn h)) :
    PS X (.Try body [.ExceptHandler (some (.Name x np)) none (b₀ :: suite) pos'] [] [] pos) (tS g W (sTry tab b h)) :=
  (ps_try_only (tb := fun W' => tS g W' b) (ts := fun _ _ _ => tS g Wn h) hs hf hc tk hb hsu).impF fun D σ H ⟨F, Hd, E, w, s, p⟩ => by
  refine ⟨F, Hd, E, w, s, ?_⟩
  unfold sTry at p
  revert p
  cases b E with
  | ok a E' => exact fun p => p
  | bad => exact fun p => p
  | exc x E' =>
    intro p cls d σ' Hd' H' w' e s' xr
    dsimp only at p
    cases ht : tab x.c with
    | none => rw [ht] at p; exact p.elim
    | some k =>
      rw [ht] at p
      refine ⟨k, by rw [xr.1]; exact htab _ _ ht, fun hk a ha => ?_, fun hk => ?_⟩
      · subst hk
        refine ⟨F, Hd', E', w', s', ?_⟩
        dsimp only at p
        revert p
        cases h E' with
        | ok a E2 => exact fun p => PostS.shift (W := W) p e
        | exc _ _ => exact fun p => p.elim
        | bad => exact fun p => p.elim
      · subst hk
        exact p cls d σ' Hd' H' w' e s' xr
end
end Fx

/-! printed by wip/gen.py: functions of defs -/
namespace Pg
open Fx 
def F_is_whole : En → Re Vl := mkF 0 (sSeq (sRet (dAnd (dIsi isi_int (dVar 0)) (dNot (dIsi isi_bool (dVar 0))))) sSkip)
def F_is_integer : En → Re Vl := mkF 0 (sSeq (sRet (dAnd (dCall F_is_whole (aCons (dVar 0) aNil)) (ofB (dChain oLe oLe (dVar 1) (dVar 0) (dVar 2))))) sSkip)
def F_is_swap_of : En → Re Vl := mkF 1 (sSeq (sRet (dAnd (dIsi (onlyC 0) (dVar 1)) (d1 oAll (dLc (iSeq (dAttr [0] 0 (dVar 1))) (gN 2) (mp true) (d2 oLt (dVar 2) (dVar 0)) [2])))) sSkip)
abbrev e_Network___init___1 : Mo Vl := (dCall F_is_swap_of (aCons (dVar 1) (aCons (dVar 3) aNil)))
def F_Network___init__ : En → Re Vl := mkF 1 (sSeq (sIf (bNot (toB (dCall F_is_integer (aCons (dVar 1) (aCons (dC (.int 2)) (aCons (dC (.int 6)) aNil)))))) (sSeq (sRaise 2) sSkip) sSkip) (sSeq (sIf (bOr (bNot (toB (dIsi isi_list_tuple (dVar 2)))) (toB (d2 oGt (d1 oLen (dVar 2)) (dC (.int 9))))) (sSeq (sRaise 2) sSkip) sSkip) (sSeq (sIf (bNot (toB (d1 oAll (dLc (iSeq (dVar 2)) (gN 3) (mp true) e_Network___init___1 [3])))) (sSeq (sRaise 2) sSkip) sSkip) (sSeq (sFldF 0 1 0 (dVar 1)) (sSeq (sFldF 0 1 1 (d1 oList (dVar 2))) sSkip)))))
def F_Swap___init__ : En → Re Vl := mkF 0 (sSeq (sIf (bOr (bNot (toB (dCall F_is_integer (aCons (dVar 1) (aCons (dC (.int 0)) (aCons (d2 oSub (dC (.int 6)) (dC (.int 1))) aNil)))))) (bOr (bNot (toB (dCall F_is_integer (aCons (dVar 2) (aCons (dC (.int 0)) (aCons (d2 oSub (dC (.int 6)) (dC (.int 1))) aNil)))))) (toB (d2 oEq (dVar 1) (dVar 2))))) (sSeq (sRaise 1) sSkip) sSkip) (sSeq (sIf (bNot (toB (dCall F_is_integer (aCons (dVar 3) (aCons (dC (.int 1)) (aCons (dC (.int 9)) aNil)))))) (sSeq (sRaise 1) sSkip) sSkip) (sSeq (sFldF 0 0 0 (dTup (eCons (dVar 1) (eCons (dVar 2) eNil)))) (sSeq (sFldF 0 0 1 (dVar 3)) sSkip))))
abbrev e_is_row_1 : Mo Vl := (dCall F_is_whole (aCons (dVar 2) aNil))
def F_is_row : En → Re Vl := mkF 1 (sSeq (sRet (dAnd (dIsi isi_tuple (dVar 1)) (dAnd (d2 oEq (d1 oLen (dVar 1)) (dVar 0)) (d1 oAll (dLc (iSeq (dVar 1)) (gN 2) (mp true) e_is_row_1 [2]))))) sSkip)
def F_check_row : En → Re Vl := mkF 0 (sSeq (sIf (bNot (toB (dCall F_is_row (aCons (dAttr [1] 0 (dVar 0)) (aCons (dVar 1) aNil))))) (sSeq (sRaise 4) sSkip) sSkip) sSkip)
abbrev e_after_step_1 : Mo Vl := (dIf (toB (d2 oEq (dVar 3) (dVar 0))) (d2 oIx (dVar 2) (dVar 1)) (dIf (toB (d2 oEq (dVar 3) (dVar 1))) (d2 oIx (dVar 2) (dVar 0)) (dVar 4)))
def F_after_step : En → Re Vl := mkF 2 (sSeq (sIf (toB (d2 oLe (d2 oIx (dVar 2) (dVar 0)) (d2 oIx (dVar 2) (dVar 1)))) (sSeq (sRet (dVar 2)) sSkip) sSkip) (sSeq (sRet (d1 oTuple (dLc (iEnumF (dVar 2)) (gTupF 2 (gsCons (gN 3) (gsCons (gN 4) gsNil))) (mp true) e_after_step_1 [3, 4]))) sSkip))
abbrev b_behind_1 : Mo Fl := (sSeq (sSet 1 (dCall F_after_step (aCons (d2 oIx (dAttr [0] 0 (dVar 2)) (dC (.int 0))) (aCons (d2 oIx (dAttr [0] 0 (dVar 2)) (dC (.int 1))) (aCons (dVar 1) aNil))))) sSkip)
def F_behind : En → Re Vl := mkF 1 (sSeq (sFor (iSeq (dVar 0)) (gN 2) b_behind_1 [2]) (sSeq (sRet (dVar 1)) sSkip))
def F_Network___call__ : En → Re Vl := mkF 0 (sSeq (sDrop (dCall F_check_row (aCons (dVar 0) (aCons (dVar 1) aNil)))) (sSeq (sRet (dCall F_behind (aCons (dAttr [1] 1 (dVar 0)) (aCons (dVar 1) aNil)))) sSkip))
def F_Swap___eq__ : En → Re Vl := mkF 0 (sSeq (sRet (dAnd (dIsi (onlyC 0) (dVar 1)) (dAnd (d2 oEq (dAttr [0] 0 (dVar 0)) (dAttr [0] 0 (dVar 1))) (d2 oEq (dAttr [0] 1 (dVar 0)) (dAttr [0] 1 (dVar 1)))))) sSkip)
def F_Network___eq__ : En → Re Vl := mkF 0 (sSeq (sRet (dAnd (dIsi (onlyC 1) (dVar 1)) (dAnd (d2 oEq (dAttr [1] 0 (dVar 0)) (dAttr [1] 0 (dVar 1))) (d2 (oEqL 0 F_Swap___eq__) (dAttr [1] 1 (dVar 0)) (dAttr [1] 1 (dVar 1)))))) sSkip)
def F_check_network : En → Re Vl := mkF 0 (sSeq (sIf (bNot (toB (dIsi (onlyC 1) (dVar 0)))) (sSeq (sRaise 2) sSkip) sSkip) sSkip)
abbrev e_check_set_1 : Mo Vl := (dCall F_is_integer (aCons (dVar 3) (aCons (dC (.int 0)) (aCons (dVar 2) aNil))))
def F_check_set : En → Re Vl := mkF 3 (sSeq (sDrop (dCall F_check_network (aCons (dVar 0) aNil))) (sSeq (sSet 2 (d2 oSub (d1 oLen (dAttr [1] 1 (dVar 0))) (dC (.int 1)))) (sSeq (sIf (bOr (bNot (toB (dIsi isi_tuple (dVar 1)))) (bNot (toB (d1 oAll (dLc (iSeq (dVar 1)) (gN 3) (mp true) e_check_set_1 [3]))))) (sSeq (sRaise 5) sSkip) sSkip) (sSeq (sIf (bNot (toB (d1 oAll (dLc (iZipF (dVar 1) (dSl2 (dVar 1) (pSome (dC (.int 1))) pNo)) (gTupF 2 (gsCons (gN 3) (gsCons (gN 4) gsNil))) (mp true) (d2 oLt (dVar 3) (dVar 4)) [3, 4])))) (sSeq (sRaise 5) sSkip) sSkip) sSkip))))
def F_is_sorted : En → Re Vl := mkF 2 (sSeq (sRet (d1 oAll (dLc (iZipF (dVar 0) (dSl2 (dVar 0) (pSome (dC (.int 1))) pNo)) (gTupF 2 (gsCons (gN 1) (gsCons (gN 2) gsNil))) (mp true) (d2 oLe (dVar 1) (dVar 2)) [1, 2]))) sSkip)
abbrev e_bit_rows_1 : Mo Vl := (dTup (eStar (dVar 3) (eCons (dVar 4) eNil)))
abbrev n_bit_rows_1 : Mo Its := (iSeq (dTup (eCons (dC (.int 0)) (eCons (dC (.int 1)) eNil))))
abbrev b_bit_rows_2 : Mo Fl := (sSeq (sSet 1 (dLc2 (iSeq (dVar 1)) (gN 3) (mp true) n_bit_rows_1 (gN 4) (mp true) e_bit_rows_1 [3, 4] [4])) sSkip)
def F_bit_rows : En → Re Vl := mkF 4 (sSeq (sSet 1 (dLst (eCons (dTup eNil) eNil))) (sSeq (sFor (iRange1 (dVar 0)) (gN 2) b_bit_rows_2 [2]) (sSeq (sRet (dVar 1)) sSkip)))
abbrev e_sorts_1 : Mo Vl := (dCall F_is_sorted (aCons (asD (dCall F_behind (aCons (dVar 1) (aCons (dVar 2) aNil)))) aNil))
def F_sorts : En → Re Vl := mkF 1 (sSeq (sRet (d1 oAll (dLc (iSeq (dCall F_bit_rows (aCons (dVar 0) aNil))) (gN 2) (mp true) e_sorts_1 [2]))) sSkip)
abbrev c_rest_of_1 : Mo Bool := (toB (d2 oNotIn (dVar 2) (dVar 1)))
def F_rest_of : En → Re Vl := mkF 2 (sSeq (sRet (dLc (iEnumF (dAttr [1] 1 (dVar 0))) (gTupF 2 (gsCons (gN 2) (gsCons (gN 3) gsNil))) c_rest_of_1 (dVar 3) [2, 3])) sSkip)
def F_is_safe : En → Re Vl := mkF 0 (sSeq (sRet (dCall F_sorts (aCons (dAttr [1] 0 (dVar 0)) (aCons (asD (dCall F_rest_of (aCons (dVar 0) (aCons (dVar 1) aNil)))) aNil)))) sSkip)
def F_is_harmless : En → Re Vl := mkF 0 (sSeq (sDrop (dCall F_check_set (aCons (dVar 0) (aCons (dVar 1) aNil)))) (sSeq (sRet (dCall F_is_safe (aCons (dVar 0) (aCons (dVar 1) aNil)))) sSkip))
def F_left : En → Re Vl := mkF 0 (sSeq (sDrop (dCall F_check_set (aCons (dVar 0) (aCons (dVar 1) aNil)))) (sSeq (sRet (dNew 1 F_Network___init__ [] (aCons (dAttr [1] 0 (dVar 0)) (aCons (asD (dCall F_rest_of (aCons (dVar 0) (aCons (dVar 1) aNil)))) aNil)))) sSkip))
abbrev e_all_sets_1 : Mo Vl := (dTup (eStar (dVar 4) (eCons (dVar 6) eNil)))
abbrev b_all_sets_2 : Mo Fl := (sSeq (sSet 5 (dIf (toB (d2 oNe (dVar 4) (dTup eNil))) (d2 oAdd (d2 oIx (dVar 4) (d1 oNeg (dC (.int 1)))) (dC (.int 1))) (dC (.int 0)))) (sSeq (sDrop (dMut 3 mExtend (eCons (dLc (iRange2 (dVar 5) (d1 oLen (dAttr [1] 1 (dVar 0)))) (gN 6) (mp true) e_all_sets_1 [6]) eNil))) sSkip))
abbrev b_all_sets_3 : Mo Fl := (sSeq (sSetO 3 (dLst eNil)) (sSeq (sFor (iSeq (dVar 2)) (gN 4) b_all_sets_2 [4, 5]) (sSeq (sDrop (dMut 1 mExtend (eCons (dVar 3) eNil))) (sSeq (sSet 2 (dVar 3)) sSkip))))
abbrev c_all_sets_3 : Mo Bool := (toB (d2 oNe (dVar 2) (dLst eNil)))
def F_all_sets : En → Re Vl := mkF 6 (sSeq (sSetO 1 (dLst (eCons (dTup eNil) eNil))) (sSeq (sSet 2 (dLst (eCons (dTup eNil) eNil))) (sSeq (sWhile c_all_sets_3 b_all_sets_3 [3, 4] 1000) (sSeq (sRet (dVar 1)) sSkip))))
abbrev b_parted_1 : Mo Fl := (sSeq (sIf (toB (dCall F_is_safe (aCons (dVar 0) (aCons (dVar 3) aNil)))) (sSeq (sDrop (dMut 1 mAppend (eCons (dVar 3) eNil))) sSkip) (sSeq (sDrop (dMut 2 mAppend (eCons (dVar 3) eNil))) sSkip)) sSkip)
def F_parted : En → Re Vl := mkF 3 (sSeq (sPar [1, 2] (aCons (dLst eNil) (aCons (dLst eNil) aNil))) (sSeq (sFor (iSeq (dCall F_all_sets (aCons (dVar 0) aNil))) (gN 3) b_parted_1 [3]) (sSeq (sRet (dTup (eCons (dVar 1) (eCons (dVar 2) eNil)))) sSkip)))
def F_harmless_sets : En → Re Vl := mkF 0 (sSeq (sDrop (dCall F_check_network (aCons (dVar 0) aNil))) (sSeq (sRet (d2 oIx (dCall F_parted (aCons (dVar 0) aNil)) (dC (.int 0)))) sSkip))
def F_is_within : En → Re Vl := mkF 1 (sSeq (sRet (d1 oAll (dLc (iSeq (dVar 0)) (gN 2) (mp true) (d2 oIn (dVar 2) (dVar 1)) [2]))) sSkip)
abbrev e_maximal_sets_1 : Mo Vl := (dAnd (dCall F_is_within (aCons (dVar 2) (aCons (dVar 3) aNil))) (d2 oNe (dVar 2) (dVar 3)))
abbrev c_maximal_sets_2 : Mo Bool := (bNot (toB (d1 oAny (dLc (iSeq (dVar 1)) (gN 3) (mp true) e_maximal_sets_1 [3]))))
def F_maximal_sets : En → Re Vl := mkF 3 (sSeq (sSet 1 (dCall F_harmless_sets (aCons (dVar 0) aNil))) (sSeq (sRet (dLc (iSeq (dVar 1)) (gN 2) c_maximal_sets_2 (dVar 2) [2])) sSkip))
abbrev e_least_harmful_1 : Mo Vl := (dAnd (dCall F_is_within (aCons (dVar 3) (aCons (dVar 2) aNil))) (d2 oNe (dVar 2) (dVar 3)))
abbrev c_least_harmful_2 : Mo Bool := (bNot (toB (d1 oAny (dLc (iSeq (dVar 1)) (gN 3) (mp true) e_least_harmful_1 [3]))))
def F_least_harmful : En → Re Vl := mkF 3 (sSeq (sDrop (dCall F_check_network (aCons (dVar 0) aNil))) (sSeq (sSet 1 (d2 oIx (dCall F_parted (aCons (dVar 0) aNil)) (dC (.int 1)))) (sSeq (sRet (dLc (iSeq (dVar 1)) (gN 2) c_least_harmful_2 (dVar 2) [2])) sSkip)))
abbrev e_one_more_1 : Mo Vl := (dTup (eCons (dVar 3) (eCons (dVar 4) eNil)))
abbrev d_one_more_1 : Mo Bool := (toB (d2 oEq (d1 oLen (dVar 4)) (d2 oAdd (d1 oLen (dVar 3)) (dC (.int 1)))))
abbrev c_one_more_2 : Mo Bool := (toB (dCall F_is_within (aCons (dVar 3) (aCons (dVar 4) aNil))))
abbrev e_one_more_2 : Mo Vl := (dTup (eCons (dVar 3) (eCons (dVar 4) eNil)))
def F_one_more : En → Re Vl := mkF 3 (sSeq (sSet 2 (dLc2 (iSeq (dVar 0)) (gN 3) (mp true) (iSeq (dVar 1)) (gN 4) d_one_more_1 e_one_more_1 [3, 4] [4])) (sSeq (sRet (dLc (iSeq (dVar 2)) (gTupF 2 (gsCons (gN 3) (gsCons (gN 4) gsNil))) c_one_more_2 e_one_more_2 [3, 4])) sSkip))
def F_breaches : En → Re Vl := mkF 2 (sSeq (sDrop (dCall F_check_network (aCons (dVar 0) aNil))) (sSeq (sAsg (gTupF 2 (gsCons (gN 1) (gsCons (gN 2) gsNil))) (dCall F_parted (aCons (dVar 0) aNil))) (sSeq (sRet (dCall F_one_more (aCons (dVar 1) (aCons (dVar 2) aNil)))) sSkip)))
def F_rescues : En → Re Vl := mkF 2 (sSeq (sDrop (dCall F_check_network (aCons (dVar 0) aNil))) (sSeq (sAsg (gTupF 2 (gsCons (gN 1) (gsCons (gN 2) gsNil))) (dCall F_parted (aCons (dVar 0) aNil))) (sSeq (sRet (dCall F_one_more (aCons (dVar 2) (aCons (dVar 1) aNil)))) sSkip)))
def F_is_against : En → Re Vl := mkF 0 (sSeq (sRet (dNot (dCall F_is_sorted (aCons (asD (dCall F_behind (aCons (asD (dCall F_rest_of (aCons (dVar 0) (aCons (dVar 1) aNil)))) (aCons (dVar 2) aNil)))) aNil)))) sSkip)
abbrev e_is_witness_1 : Mo Vl := (d2 oIn (dVar 3) (dTup (eCons (dC (.int 0)) (eCons (dC (.int 1)) eNil))))
def F_is_witness : En → Re Vl := mkF 1 (sSeq (sDrop (dCall F_check_set (aCons (dVar 0) (aCons (dVar 1) aNil)))) (sSeq (sIf (bOr (bNot (toB (dCall F_is_row (aCons (dAttr [1] 0 (dVar 0)) (aCons (dVar 2) aNil))))) (bNot (toB (d1 oAll (dLc (iSeq (dVar 2)) (gN 3) (mp true) e_is_witness_1 [3]))))) (sSeq (sRaise 4) sSkip) sSkip) (sSeq (sRet (dCall F_is_against (aCons (dVar 0) (aCons (dVar 1) (aCons (dVar 2) aNil))))) sSkip)))
abbrev b_first_witness_1 : Mo Fl := (sSeq (sIf (toB (dCall F_is_against (aCons (dVar 0) (aCons (dVar 1) (aCons (dVar 2) aNil))))) (sSeq (sRet (dVar 2)) sSkip) sSkip) sSkip)
def F_first_witness : En → Re Vl := mkF 1 (sSeq (sFor (iSeq (dCall F_bit_rows (aCons (dAttr [1] 0 (dVar 0)) aNil))) (gN 2) b_first_witness_1 [2]) (sSeq (sRet (dC .non)) sSkip))
def F_witness : En → Re Vl := mkF 0 (sSeq (sDrop (dCall F_check_set (aCons (dVar 0) (aCons (dVar 1) aNil)))) (sSeq (sRet (dCall F_first_witness (aCons (dVar 0) (aCons (dVar 1) aNil)))) sSkip))
abbrev e_worth_of_1 : Mo Vl := (dAttr [0] 1 (d2 oIx (dAttr [1] 1 (dVar 0)) (dVar 2)))
def F_worth_of : En → Re Vl := mkF 1 (sSeq (sRet (d1 oSum (dLc (iSeq (dVar 1)) (gN 2) (mp true) e_worth_of_1 [2]))) sSkip)
def F_saved : En → Re Vl := mkF 0 (sSeq (sDrop (dCall F_check_set (aCons (dVar 0) (aCons (dVar 1) aNil)))) (sSeq (sRet (dCall F_worth_of (aCons (dVar 0) (aCons (dVar 1) aNil)))) sSkip))
def F_NoSaving___init__ : En → Re Vl := mkF 0 (sSeq (sFldF 0 4 0 (d1 oList (dVar 1))) sSkip)
def F_Saving___init__ : En → Re Vl := mkF 0 (sSeq (sFldF 0 3 0 (dVar 1)) (sSeq (sFldF 0 3 1 (d1 oList (dVar 2))) sSkip))
abbrev k_greatest_1 : Mo Vl := (asD (dTup (eCons (d1 oNeg (dCall F_worth_of (aCons (dVar 0) (aCons (dVar 5) aNil)))) (eCons (d1 oLen (dVar 5)) (eCons (dVar 5) eNil)))))
abbrev e_greatest_2 : Mo Vl := (dCall F_is_against (aCons (dVar 0) (aCons (dVar 3) (aCons (dVar 4) aNil))))
abbrev b_greatest_3 : Mo Fl := (sSeq (sIf (bNot (toB (d1 oAny (dLc (iSeq (dVar 1)) (gN 4) (mp true) e_greatest_2 [4])))) (sSeq (sSet 4 (dCall F_first_witness (aCons (dVar 0) (aCons (dVar 3) aNil)))) (sSeq (sIf (toB (d2 oIsN (dVar 4) (dC .non))) (sSeq (sRet (dNew 3 F_Saving___init__ [] (aCons (dVar 3) (aCons (dVar 1) aNil)))) sSkip) sSkip) (sSeq (sDrop (dMut 1 mAppend (eCons (dVar 4) eNil))) sSkip))) sSkip) sSkip)
def F_greatest : En → Re Vl := mkF 5 (sSeq (sDrop (dCall F_check_network (aCons (dVar 0) aNil))) (sSeq (sSetO 1 (dLst eNil)) (sSeq (sSet 2 (dCall F_all_sets (aCons (dVar 0) aNil))) (sSeq (sFor (iSeq (dSortK 5 (dVar 2) k_greatest_1)) (gN 3) b_greatest_3 [3]) (sSeq (sRet (dNew 4 F_NoSaving___init__ [] (aCons (dVar 1) aNil))) sSkip)))))
abbrev e_are_refuted_1 : Mo Vl := (dCall F_is_against (aCons (dVar 0) (aCons (dVar 3) (aCons (dVar 4) aNil))))
abbrev e_are_refuted_2 : Mo Vl := (d1 oAny (dLc (iSeq (dVar 2)) (gN 4) (mp true) e_are_refuted_1 [4]))
def F_are_refuted : En → Re Vl := mkF 2 (sSeq (sRet (d1 oAll (dLc (iSeq (dVar 1)) (gN 3) (mp true) e_are_refuted_2 [3]))) sSkip)
abbrev c_Saving_shows_1 : Mo Bool := (toB (d2 oGt (dCall F_worth_of (aCons (dVar 1) (aCons (dVar 3) aNil))) (dVar 2)))
def F_Saving_shows : En → Re Vl := mkF 2 (sSeq (sDrop (dCall F_check_network (aCons (dVar 1) aNil))) (sSeq (sIf (bNot (toB (dCall F_is_safe (aCons (dVar 1) (aCons (dAttr [3] 0 (dVar 0)) aNil))))) (sSeq (sRet (dC (.bl false))) sSkip) sSkip) (sSeq (sSet 2 (dCall F_worth_of (aCons (dVar 1) (aCons (dAttr [3] 0 (dVar 0)) aNil)))) (sSeq (sRet (dCall F_are_refuted (aCons (dVar 1) (aCons (asD (dLc (iSeq (dCall F_all_sets (aCons (dVar 1) aNil))) (gN 3) c_Saving_shows_1 (dVar 3) [3])) (aCons (dAttr [3] 1 (dVar 0)) aNil))))) sSkip))))
def F_NoSaving_shows : En → Re Vl := mkF 0 (sSeq (sDrop (dCall F_check_network (aCons (dVar 1) aNil))) (sSeq (sRet (dCall F_are_refuted (aCons (dVar 1) (aCons (asD (dCall F_all_sets (aCons (dVar 1) aNil))) (aCons (dAttr [4] 0 (dVar 0)) aNil))))) sSkip))
def F_Saving___eq__ : En → Re Vl := mkF 0 (sSeq (sRet (dAnd (dIsi (onlyC 3) (dVar 1)) (dAnd (d2 oEq (dAttr [3] 0 (dVar 0)) (dAttr [3] 0 (dVar 1))) (d2 oEq (dAttr [3] 1 (dVar 0)) (dAttr [3] 1 (dVar 1)))))) sSkip)
def F_NoSaving___eq__ : En → Re Vl := mkF 0 (sSeq (sRet (dAnd (dIsi (onlyC 4) (dVar 1)) (d2 oEq (dAttr [4] 0 (dVar 0)) (dAttr [4] 0 (dVar 1))))) sSkip)
def F_Network___bool__ : En → Re Vl := mkF 0 (sSeq (sRet (d1 oBool (dCall F_sorts (aCons (dAttr [1] 0 (dVar 0)) (aCons (dAttr [1] 1 (dVar 0)) aNil))))) sSkip)
end Pg

/-! printed by wip/gen.py: the walk of the law, def by def -/
namespace K34
open PySem PySem.Spec PyProof.Rows L2 Fx Pg
def top (i : Nat) : Stmt := PySem.Challenge.pw_dropswaps_k34_by_hand.main.body.getD i (.Pass ⟨0, 0, 0, 0⟩)
abbrev s_is_sorted : Stmt := (top 25)
abbrev s_after_step : Stmt := (top 23)
abbrev s_behind : Stmt := (top 24)
abbrev s_bit_rows : Stmt := (top 26)
abbrev s_sorts : Stmt := (top 27)
abbrev s_Network___bool__ : Stmt := (inClass (top 17) 8)
abbrev s_is_whole : Stmt := (top 13)
abbrev s_is_integer : Stmt := (top 14)
abbrev s_is_swap_of : Stmt := (top 16)
abbrev s_Network___init__ : Stmt := (inClass (top 17) 0)
abbrev s_Swap___init__ : Stmt := (inClass (top 15) 0)
abbrev s_mirrored : Stmt := (top 19)
abbrev s_Network___neg__ : Stmt := (inClass (top 17) 3)
abbrev s_Swap___eq__ : Stmt := (inClass (top 15) 1)
abbrev s_Network___eq__ : Stmt := (inClass (top 17) 1)
abbrev s_is_row : Stmt := (top 20)
abbrev s_check_row : Stmt := (top 21)
abbrev s_Network___call__ : Stmt := (inClass (top 17) 9)
abbrev s__law_rows_right : Stmt := (top 55)
abbrev s__law_three : Stmt := (top 53)
abbrev s_check_network : Stmt := (top 22)
abbrev s_worth_of : Stmt := (top 46)
abbrev s_rest_of : Stmt := (top 30)
abbrev s_is_against : Stmt := (top 42)
abbrev s_are_refuted : Stmt := (top 48)
abbrev s_is_safe : Stmt := (top 32)
abbrev s_all_sets : Stmt := (top 31)
abbrev s_Saving_shows : Stmt := (inClass (top 49) 2)
abbrev s_NoSaving_shows : Stmt := (inClass (top 50) 2)
abbrev s_Saving___init__ : Stmt := (inClass (top 49) 0)
abbrev s_NoSaving___init__ : Stmt := (inClass (top 50) 0)
abbrev s__law_answers_right : Stmt := (top 57)
abbrev s_parted : Stmt := (top 33)
abbrev s_harmless_sets : Stmt := (top 35)
abbrev s_is_within : Stmt := (top 34)
abbrev s_maximal_sets : Stmt := (top 36)
abbrev s_least_harmful : Stmt := (top 37)
abbrev s_one_more : Stmt := (top 38)
abbrev s_rescues : Stmt := (top 40)
abbrev s_breaches : Stmt := (top 39)
abbrev s__law_families_right : Stmt := (top 54)
abbrev s_first_witness : Stmt := (top 44)
abbrev s_greatest : Stmt := (top 51)
abbrev s_check_set : Stmt := (top 29)
abbrev s_saved : Stmt := (top 47)
abbrev s_witness : Stmt := (top 45)
abbrev s_is_witness : Stmt := (top 43)
abbrev s__law_savings_right : Stmt := (top 56)
abbrev s_law : Stmt := (top 58)
abbrev e_mirrored_1 : Mo Vl := (dNewK 0 F_Swap___init__ (aCons (d2 oSub (dVar 1) (d2 oIx (dAttr [0] 0 (dVar 3)) (dC (.int 1)))) (aCons (d2 oSub (dVar 1) (d2 oIx (dAttr [0] 0 (dVar 3)) (dC (.int 0)))) aNil)) (eCons (dAttr [0] 1 (dVar 3)) eNil))
def F_mirrored : En → Re Vl := mkF 3 (sSeq (sSet 1 (d2 oSub (dAttr [1] 0 (dVar 0)) (dC (.int 1)))) (sSeq (sSet 2 (dLc (iSeq (dAttr [1] 1 (dVar 0))) (gN 3) (mp true) e_mirrored_1 [3])) (sSeq (sRet (dNew 1 F_Network___init__ [] (aCons (dAttr [1] 0 (dVar 0)) (aCons (dVar 2) aNil)))) sSkip)))
def F_Network___neg__ : En → Re Vl := mkF 0 (sSeq (sRet (dCall F_mirrored (aCons (dVar 0) aNil))) sSkip)
abbrev b__law_rows_right_1 : Mo Fl := (sSeq (sIf (toB (d2 oNe (dCallO 1 F_Network___call__ (dVar 1) (aCons (dVar 2) aNil)) (dVar 3))) (sSeq (sRet (dC (.bl false))) sSkip) sSkip) sSkip)
def F__law_rows_right : En → Re Vl := mkF 6 (sSeq (sSet 0 (dLst (eCons (dTup (eCons (dNew 1 F_Network___init__ [] (aCons (dC (.int 3)) (aCons (asD (dLst (eCons (dNew 0 F_Swap___init__ [.int 1] (aCons (dC (.int 0)) (aCons (dC (.int 2)) aNil))) eNil))) aNil))) (eCons (dTup (eCons (dC (.int 3)) (eCons (dC (.int 2)) (eCons (dC (.int 1)) eNil)))) (eCons (dTup (eCons (dC (.int 1)) (eCons (dC (.int 2)) (eCons (dC (.int 3)) eNil)))) eNil)))) eNil))) (sSeq (sSet 0 (d2 oAdd (dVar 0) (dLst (eCons (dTup (eCons (dNew 1 F_Network___init__ [] (aCons (dC (.int 3)) (aCons (asD (dLst (eCons (dNew 0 F_Swap___init__ [.int 1] (aCons (dC (.int 2)) (aCons (dC (.int 0)) aNil))) eNil))) aNil))) (eCons (dTup (eCons (dC (.int 1)) (eCons (dC (.int 2)) (eCons (dC (.int 3)) eNil)))) (eCons (dTup (eCons (dC (.int 3)) (eCons (dC (.int 2)) (eCons (dC (.int 1)) eNil)))) eNil)))) eNil)))) (sSeq (sSet 0 (d2 oAdd (dVar 0) (dLst (eCons (dTup (eCons (dNew 1 F_Network___init__ [] (aCons (dC (.int 3)) (aCons (asD (dLst (eCons (dNew 0 F_Swap___init__ [.int 1] (aCons (dC (.int 0)) (aCons (dC (.int 1)) aNil))) (eCons (dNew 0 F_Swap___init__ [.int 1] (aCons (dC (.int 1)) (aCons (dC (.int 2)) aNil))) eNil)))) aNil))) (eCons (dTup (eCons (dC (.int 5)) (eCons (dC (.int 4)) (eCons (dC (.int 4)) eNil)))) (eCons (dTup (eCons (dC (.int 4)) (eCons (dC (.int 4)) (eCons (dC (.int 5)) eNil)))) eNil)))) eNil)))) (sSeq (sSet 0 (d2 oAdd (dVar 0) (dLst (eCons (dTup (eCons (dNew 1 F_Network___init__ [] (aCons (dC (.int 2)) (aCons (asD (dLst eNil)) aNil))) (eCons (dTup (eCons (dC (.int 7)) (eCons (d1 oNeg (dC (.int 7))) eNil))) (eCons (dTup (eCons (dC (.int 7)) (eCons (d1 oNeg (dC (.int 7))) eNil))) eNil)))) eNil)))) (sSeq (sSet 0 (d2 oAdd (dVar 0) (dLst (eCons (dTup (eCons (dNew 1 F_Network___init__ [] (aCons (dC (.int 4)) (aCons (asD (dLst (eCons (dNew 0 F_Swap___init__ [.int 1] (aCons (dC (.int 3)) (aCons (dC (.int 0)) aNil))) (eCons (dNew 0 F_Swap___init__ [.int 1] (aCons (dC (.int 1)) (aCons (dC (.int 2)) aNil))) eNil)))) aNil))) (eCons (dTup (eCons (dC (.int 1)) (eCons (dC (.int 9)) (eCons (dC (.int 2)) (eCons (dC (.int 0)) eNil))))) (eCons (dTup (eCons (dC (.int 1)) (eCons (dC (.int 2)) (eCons (dC (.int 9)) (eCons (dC (.int 0)) eNil))))) eNil)))) eNil)))) (sSeq (sSet 0 (d2 oAdd (dVar 0) (dLst (eCons (dTup (eCons (dNew 1 F_Network___init__ [] (aCons (dC (.int 4)) (aCons (asD (dLst (eCons (dNew 0 F_Swap___init__ [.int 1] (aCons (dC (.int 3)) (aCons (dC (.int 0)) aNil))) (eCons (dNew 0 F_Swap___init__ [.int 1] (aCons (dC (.int 1)) (aCons (dC (.int 2)) aNil))) eNil)))) aNil))) (eCons (dTup (eCons (dC (.int 0)) (eCons (dC (.int 9)) (eCons (dC (.int 2)) (eCons (dC (.int 1)) eNil))))) (eCons (dTup (eCons (dC (.int 1)) (eCons (dC (.int 2)) (eCons (dC (.int 9)) (eCons (dC (.int 0)) eNil))))) eNil)))) eNil)))) (sSeq (sSet 0 (d2 oAdd (dVar 0) (dLst (eCons (dTup (eCons (dNew 1 F_Network___init__ [] (aCons (dC (.int 2)) (aCons (asD (dLst (eCons (dNew 0 F_Swap___init__ [.int 1] (aCons (dC (.int 1)) (aCons (dC (.int 0)) aNil))) (eCons (dNew 0 F_Swap___init__ [.int 1] (aCons (dC (.int 1)) (aCons (dC (.int 0)) aNil))) eNil)))) aNil))) (eCons (dTup (eCons (dC (.int 3)) (eCons (dC (.int 5)) eNil))) (eCons (dTup (eCons (dC (.int 5)) (eCons (dC (.int 3)) eNil))) eNil)))) eNil)))) (sSeq (sFor (iSeq (dVar 0)) (gTupF 3 (gsCons (gN 1) (gsCons (gN 2) (gsCons (gN 3) gsNil)))) b__law_rows_right_1 [1, 2, 3]) (sSeq (sSet 4 (dLst (eCons (dNew 0 F_Swap___init__ [.int 1] (aCons (dC (.int 0)) (aCons (dC (.int 1)) aNil))) (eCons (dNew 0 F_Swap___init__ [.int 1] (aCons (dC (.int 1)) (aCons (dC (.int 2)) aNil))) (eCons (dNew 0 F_Swap___init__ [.int 1] (aCons (dC (.int 0)) (aCons (dC (.int 1)) aNil))) eNil))))) (sSeq (sIf (toB (d2 oNotB (dOwn1 1 F_Network___bool__ (dNew 1 F_Network___init__ [] (aCons (dC (.int 3)) (aCons (dVar 4) aNil))) isBlV) (dC (.bl true)))) (sSeq (sRet (dC (.bl false))) sSkip) sSkip) (sSeq (sIf (toB (dOwn1 1 F_Network___bool__ (dNew 1 F_Network___init__ [] (aCons (dC (.int 3)) (aCons (asD (dSl2 (dVar 4) pNo (pSome (dC (.int 2))))) aNil))) isBlV)) (sSeq (sRet (dC (.bl false))) sSkip) sSkip) (sSeq (sIf (toB (dOwn1 1 F_Network___bool__ (dNew 1 F_Network___init__ [] (aCons (dC (.int 3)) (aCons (asD (dSl2 (dVar 4) (pSome (dC (.int 1))) pNo)) aNil))) isBlV)) (sSeq (sRet (dC (.bl false))) sSkip) sSkip) (sSeq (sIf (toB (dOwn1 1 F_Network___bool__ (dNew 1 F_Network___init__ [] (aCons (dC (.int 4)) (aCons (dVar 4) aNil))) isBlV)) (sSeq (sRet (dC (.bl false))) sSkip) sSkip) (sSeq (sSet 5 (dCallO 1 F_Network___neg__ (dNew 1 F_Network___init__ [] (aCons (dC (.int 3)) (aCons (asD (dLst (eCons (dNewK 0 F_Swap___init__ (aCons (dC (.int 0)) (aCons (dC (.int 1)) aNil)) (eCons (dC (.int 5)) eNil)) (eCons (dNew 0 F_Swap___init__ [.int 1] (aCons (dC (.int 2)) (aCons (dC (.int 1)) aNil))) eNil)))) aNil))) aNil)) (sSeq (sIf (toB (dOwn1 1 F_Network___bool__ (dNew 1 F_Network___init__ [] (aCons (dC (.int 2)) (aCons (asD (dLst (eCons (dNew 0 F_Swap___init__ [.int 1] (aCons (dC (.int 1)) (aCons (dC (.int 0)) aNil))) eNil))) aNil))) isBlV)) (sSeq (sRet (dC (.bl false))) sSkip) sSkip) (sSeq (sRet (d2 (oEqI 1 F_Network___eq__) (asD (dVar 5)) (asD (dNew 1 F_Network___init__ [] (aCons (dC (.int 3)) (aCons (asD (dLst (eCons (dNewK 0 F_Swap___init__ (aCons (dC (.int 1)) (aCons (dC (.int 2)) aNil)) (eCons (dC (.int 5)) eNil)) (eCons (dNew 0 F_Swap___init__ [.int 1] (aCons (dC (.int 1)) (aCons (dC (.int 0)) aNil))) eNil)))) aNil)))))) sSkip))))))))))))))))
def F__law_three : En → Re Vl := mkF 0 (sSeq (sRet (dNew 1 F_Network___init__ [] (aCons (dC (.int 2)) (aCons (asD (dLst (eCons (dNewK 0 F_Swap___init__ (aCons (dC (.int 0)) (aCons (dC (.int 1)) aNil)) (eCons (dVar 0) eNil)) (eCons (dNewK 0 F_Swap___init__ (aCons (dC (.int 1)) (aCons (dC (.int 0)) aNil)) (eCons (dVar 1) eNil)) (eCons (dNewK 0 F_Swap___init__ (aCons (dC (.int 0)) (aCons (dC (.int 1)) aNil)) (eCons (dVar 2) eNil)) eNil))))) aNil)))) sSkip)
abbrev b__law_answers_right_1 : Mo Fl := (sSeq (sIf (toB (d2 oNe (dCallO 3 F_Saving_shows (dNew 3 F_Saving___init__ [] (aCons (dVar 2) (aCons (dVar 3) aNil))) (aCons (dVar 0) aNil)) (dVar 4))) (sSeq (sRet (dC (.bl false))) sSkip) sSkip) sSkip)
abbrev b__law_answers_right_2 : Mo Fl := (sSeq (sIf (toB (d2 oNe (dCallO 3 F_Saving_shows (dNew 3 F_Saving___init__ [] (aCons (dVar 2) (aCons (dVar 3) aNil))) (aCons (dVar 5) aNil)) (dVar 4))) (sSeq (sRet (dC (.bl false))) sSkip) sSkip) sSkip)
abbrev e__law_answers_right_3 : Mo Vl := (d2 oEq (dCallO 4 F_NoSaving_shows (dNew 4 F_NoSaving___init__ [] (aCons (dVar 3) aNil)) (aCons (dVar 6) aNil)) (dVar 4))
def F__law_answers_right : En → Re Vl := mkF 7 (sSeq (sSet 0 (dCall F__law_three (aCons (dC (.int 1)) (aCons (dC (.int 1)) (aCons (dC (.int 1)) aNil))))) (sSeq (sSet 1 (dLst (eCons (dTup (eCons (dTup (eCons (dC (.int 0)) (eCons (dC (.int 1)) eNil))) (eCons (dLst (eCons (dTup (eCons (dC (.int 1)) (eCons (dC (.int 0)) eNil))) eNil)) (eCons (dC (.bl true)) eNil)))) (eCons (dTup (eCons (dTup (eCons (dC (.int 1)) (eCons (dC (.int 2)) eNil))) (eCons (dLst (eCons (dTup (eCons (dC (.int 1)) (eCons (dC (.int 0)) eNil))) eNil)) (eCons (dC (.bl true)) eNil)))) eNil)))) (sSeq (sSet 1 (d2 oAdd (dVar 1) (dLst (eCons (dTup (eCons (dTup (eCons (dC (.int 0)) (eCons (dC (.int 1)) eNil))) (eCons (dLst (eCons (dTup (eCons (dC (.int 0)) (eCons (dC (.int 0)) eNil))) (eCons (dTup (eCons (dC (.int 1)) (eCons (dC (.int 0)) eNil))) (eCons (dTup (eCons (dC (.int 1)) (eCons (dC (.int 0)) eNil))) eNil)))) (eCons (dC (.bl true)) eNil)))) (eCons (dTup (eCons (dTup (eCons (dC (.int 0)) (eCons (dC (.int 1)) eNil))) (eCons (dLst eNil) (eCons (dC (.bl false)) eNil)))) eNil))))) (sSeq (sSet 1 (d2 oAdd (dVar 1) (dLst (eCons (dTup (eCons (dTup (eCons (dC (.int 0)) (eCons (dC (.int 1)) eNil))) (eCons (dLst (eCons (dTup (eCons (dC (.int 0)) (eCons (dC (.int 1)) eNil))) eNil)) (eCons (dC (.bl false)) eNil)))) (eCons (dTup (eCons (dTup (eCons (dC (.int 1)) eNil)) (eCons (dLst (eCons (dTup (eCons (dC (.int 1)) (eCons (dC (.int 0)) eNil))) eNil)) (eCons (dC (.bl false)) eNil)))) eNil))))) (sSeq (sSet 1 (d2 oAdd (dVar 1) (dLst (eCons (dTup (eCons (dTup (eCons (dC (.int 1)) eNil)) (eCons (dLst (eCons (dTup (eCons (dC (.int 1)) (eCons (dC (.int 0)) eNil))) (eCons (dTup (eCons (dC (.int 0)) (eCons (dC (.int 1)) eNil))) eNil))) (eCons (dC (.bl false)) eNil)))) eNil)))) (sSeq (sSet 1 (d2 oAdd (dVar 1) (dLst (eCons (dTup (eCons (dTup (eCons (dC (.int 2)) eNil)) (eCons (dLst (eCons (dTup (eCons (dC (.int 1)) (eCons (dC (.int 0)) eNil))) eNil)) (eCons (dC (.bl false)) eNil)))) (eCons (dTup (eCons (dTup (eCons (dC (.int 0)) (eCons (dC (.int 1)) (eCons (dC (.int 2)) eNil)))) (eCons (dLst (eCons (dTup (eCons (dC (.int 1)) (eCons (dC (.int 0)) eNil))) eNil)) (eCons (dC (.bl false)) eNil)))) eNil))))) (sSeq (sSet 1 (d2 oAdd (dVar 1) (dLst (eCons (dTup (eCons (dTup (eCons (dC (.int 0)) (eCons (dC (.int 2)) eNil))) (eCons (dLst (eCons (dTup (eCons (dC (.int 1)) (eCons (dC (.int 0)) eNil))) (eCons (dTup (eCons (dC (.int 0)) (eCons (dC (.int 1)) eNil))) eNil))) (eCons (dC (.bl false)) eNil)))) eNil)))) (sSeq (sFor (iSeq (dVar 1)) (gTupF 3 (gsCons (gN 2) (gsCons (gN 3) (gsCons (gN 4) gsNil)))) b__law_answers_right_1 []) (sSeq (sSet 5 (dCall F__law_three (aCons (dC (.int 5)) (aCons (dC (.int 1)) (aCons (dC (.int 5)) aNil))))) (sSeq (sSet 1 (dLst (eCons (dTup (eCons (dTup (eCons (dC (.int 0)) (eCons (dC (.int 1)) eNil))) (eCons (dLst (eCons (dTup (eCons (dC (.int 1)) (eCons (dC (.int 0)) eNil))) eNil)) (eCons (dC (.bl true)) eNil)))) (eCons (dTup (eCons (dTup (eCons (dC (.int 0)) (eCons (dC (.int 1)) eNil))) (eCons (dLst (eCons (dTup (eCons (dC (.int 1)) (eCons (dC (.int 0)) eNil))) (eCons (dTup (eCons (dC (.int 0)) (eCons (dC (.int 1)) eNil))) eNil))) (eCons (dC (.bl true)) eNil)))) eNil)))) (sSeq (sSet 1 (d2 oAdd (dVar 1) (dLst (eCons (dTup (eCons (dTup (eCons (dC (.int 0)) (eCons (dC (.int 1)) eNil))) (eCons (dLst (eCons (dTup (eCons (dC (.int 0)) (eCons (dC (.int 1)) eNil))) eNil)) (eCons (dC (.bl false)) eNil)))) (eCons (dTup (eCons (dTup (eCons (dC (.int 1)) (eCons (dC (.int 2)) eNil))) (eCons (dLst (eCons (dTup (eCons (dC (.int 0)) (eCons (dC (.int 1)) eNil))) (eCons (dTup (eCons (dC (.int 1)) (eCons (dC (.int 0)) eNil))) eNil))) (eCons (dC (.bl true)) eNil)))) eNil))))) (sSeq (sFor (iSeq (dVar 1)) (gTupF 3 (gsCons (gN 2) (gsCons (gN 3) (gsCons (gN 4) gsNil)))) b__law_answers_right_2 []) (sSeq (sSet 6 (dNew 1 F_Network___init__ [] (aCons (dC (.int 2)) (aCons (asD (dLst (eCons (dNew 0 F_Swap___init__ [.int 1] (aCons (dC (.int 1)) (aCons (dC (.int 0)) aNil))) eNil))) aNil)))) (sSeq (sSet 1 (dLst (eCons (dTup (eCons (dLst (eCons (dTup (eCons (dC (.int 0)) (eCons (dC (.int 1)) eNil))) (eCons (dTup (eCons (dC (.int 1)) (eCons (dC (.int 0)) eNil))) eNil))) (eCons (dC (.bl true)) eNil))) (eCons (dTup (eCons (dLst (eCons (dTup (eCons (dC (.int 1)) (eCons (dC (.int 0)) eNil))) eNil)) (eCons (dC (.bl true)) eNil))) (eCons (dTup (eCons (dLst (eCons (dTup (eCons (dC (.int 0)) (eCons (dC (.int 1)) eNil))) eNil)) (eCons (dC (.bl false)) eNil))) (eCons (dTup (eCons (dLst eNil) (eCons (dC (.bl false)) eNil))) eNil)))))) (sSeq (sSet 1 (d2 oAdd (dVar 1) (dLst (eCons (dTup (eCons (dLst (eCons (dTup (eCons (dC (.int 1)) (eCons (dC (.int 1)) eNil))) (eCons (dTup (eCons (dC (.int 1)) (eCons (dC (.int 0)) eNil))) eNil))) (eCons (dC (.bl true)) eNil))) eNil)))) (sSeq (sRet (d1 oAll (dLc (iSeq (dVar 1)) (gTupF 2 (gsCons (gN 3) (gsCons (gN 4) gsNil))) (mp true) e__law_answers_right_3 [3, 4]))) sSkip))))))))))))))))
def F__law_families_right : En → Re Vl := mkF 4 (sSeq (sSet 1 (dCall F__law_three (aCons (dVar 0) (aCons (dC (.int 1)) (aCons (dC (.int 1)) aNil))))) (sSeq (sIf (toB (d2 oNe (dCall F_harmless_sets (aCons (dVar 1) aNil)) (dLst (eCons (dTup eNil) (eCons (dTup (eCons (dC (.int 0)) eNil)) (eCons (dTup (eCons (dC (.int 1)) eNil)) (eCons (dTup (eCons (dC (.int 0)) (eCons (dC (.int 1)) eNil))) (eCons (dTup (eCons (dC (.int 1)) (eCons (dC (.int 2)) eNil))) eNil)))))))) (sSeq (sRet (dC (.bl false))) sSkip) sSkip) (sSeq (sIf (toB (d2 oNe (dCall F_maximal_sets (aCons (dVar 1) aNil)) (dLst (eCons (dTup (eCons (dC (.int 0)) (eCons (dC (.int 1)) eNil))) (eCons (dTup (eCons (dC (.int 1)) (eCons (dC (.int 2)) eNil))) eNil))))) (sSeq (sRet (dC (.bl false))) sSkip) sSkip) (sSeq (sIf (toB (d2 oNe (dCall F_least_harmful (aCons (dVar 1) aNil)) (dLst (eCons (dTup (eCons (dC (.int 2)) eNil)) eNil)))) (sSeq (sRet (dC (.bl false))) sSkip) sSkip) (sSeq (sIf (toB (d2 oNe (dCall F_rescues (aCons (dVar 1) aNil)) (dLst (eCons (dTup (eCons (dTup (eCons (dC (.int 2)) eNil)) (eCons (dTup (eCons (dC (.int 1)) (eCons (dC (.int 2)) eNil))) eNil))) eNil)))) (sSeq (sRet (dC (.bl false))) sSkip) sSkip) (sSeq (sIf (toB (d2 oNe (dCall F_breaches (aCons (dVar 1) aNil)) (dLst (eCons (dTup (eCons (dTup eNil) (eCons (dTup (eCons (dC (.int 2)) eNil)) eNil))) (eCons (dTup (eCons (dTup (eCons (dC (.int 0)) eNil)) (eCons (dTup (eCons (dC (.int 0)) (eCons (dC (.int 2)) eNil))) eNil))) (eCons (dTup (eCons (dTup (eCons (dC (.int 0)) (eCons (dC (.int 1)) eNil))) (eCons (dTup (eCons (dC (.int 0)) (eCons (dC (.int 1)) (eCons (dC (.int 2)) eNil)))) eNil))) (eCons (dTup (eCons (dTup (eCons (dC (.int 1)) (eCons (dC (.int 2)) eNil))) (eCons (dTup (eCons (dC (.int 0)) (eCons (dC (.int 1)) (eCons (dC (.int 2)) eNil)))) eNil))) eNil))))))) (sSeq (sRet (dC (.bl false))) sSkip) sSkip) (sSeq (sSet 2 (dNew 1 F_Network___init__ [] (aCons (dC (.int 4)) (aCons (asD (dLst (eCons (dNew 0 F_Swap___init__ [.int 1] (aCons (dC (.int 0)) (aCons (dC (.int 1)) aNil))) (eCons (dNew 0 F_Swap___init__ [.int 1] (aCons (dC (.int 2)) (aCons (dC (.int 3)) aNil))) (eCons (dNew 0 F_Swap___init__ [.int 1] (aCons (dC (.int 0)) (aCons (dC (.int 2)) aNil))) (eCons (dNew 0 F_Swap___init__ [.int 1] (aCons (dC (.int 1)) (aCons (dC (.int 3)) aNil))) (eCons (dNew 0 F_Swap___init__ [.int 1] (aCons (dC (.int 1)) (aCons (dC (.int 2)) aNil))) eNil))))))) aNil)))) (sSeq (sIf (toB (d2 oNe (dCall F_harmless_sets (aCons (dVar 2) aNil)) (dLst (eCons (dTup eNil) eNil)))) (sSeq (sRet (dC (.bl false))) sSkip) sSkip) (sSeq (sIf (toB (d2 oNe (dCall F_least_harmful (aCons (dVar 2) aNil)) (dLst (eCons (dTup (eCons (dC (.int 0)) eNil)) (eCons (dTup (eCons (dC (.int 1)) eNil)) (eCons (dTup (eCons (dC (.int 2)) eNil)) (eCons (dTup (eCons (dC (.int 3)) eNil)) (eCons (dTup (eCons (dC (.int 4)) eNil)) eNil)))))))) (sSeq (sRet (dC (.bl false))) sSkip) sSkip) (sSeq (sIf (toB (d2 oNe (dCall F_rescues (aCons (dVar 2) aNil)) (dLst eNil))) (sSeq (sRet (dC (.bl false))) sSkip) sSkip) (sSeq (sSet 3 (dNew 1 F_Network___init__ [] (aCons (dC (.int 4)) (aCons (asD (dLst (eCons (dNew 0 F_Swap___init__ [.int 1] (aCons (dC (.int 0)) (aCons (dC (.int 1)) aNil))) (eCons (dNew 0 F_Swap___init__ [.int 1] (aCons (dC (.int 2)) (aCons (dC (.int 3)) aNil))) (eCons (dNew 0 F_Swap___init__ [.int 1] (aCons (dC (.int 0)) (aCons (dC (.int 2)) aNil))) (eCons (dNew 0 F_Swap___init__ [.int 1] (aCons (dC (.int 1)) (aCons (dC (.int 3)) aNil))) (eCons (dNew 0 F_Swap___init__ [.int 1] (aCons (dC (.int 1)) (aCons (dC (.int 2)) aNil))) (eCons (dNew 0 F_Swap___init__ [.int 1] (aCons (dC (.int 1)) (aCons (dC (.int 2)) aNil))) eNil)))))))) aNil)))) (sSeq (sIf (toB (d2 oNe (dCall F_harmless_sets (aCons (dVar 3) aNil)) (dLst (eCons (dTup eNil) (eCons (dTup (eCons (dC (.int 4)) eNil)) (eCons (dTup (eCons (dC (.int 5)) eNil)) eNil)))))) (sSeq (sRet (dC (.bl false))) sSkip) sSkip) (sSeq (sIf (toB (d2 oNe (dCall F_maximal_sets (aCons (dVar 3) aNil)) (dLst (eCons (dTup (eCons (dC (.int 4)) eNil)) (eCons (dTup (eCons (dC (.int 5)) eNil)) eNil))))) (sSeq (sRet (dC (.bl false))) sSkip) sSkip) (sSeq (sIf (toB (d2 oNe (d2 oIx (dCall F_breaches (aCons (dVar 3) aNil)) (d1 oNeg (dC (.int 1)))) (dTup (eCons (dTup (eCons (dC (.int 5)) eNil)) (eCons (dTup (eCons (dC (.int 4)) (eCons (dC (.int 5)) eNil))) eNil))))) (sSeq (sRet (dC (.bl false))) sSkip) sSkip) (sSeq (sSet 4 (dNew 1 F_Network___init__ [] (aCons (dC (.int 3)) (aCons (asD (dLst eNil)) aNil)))) (sSeq (sIf (bOr (toB (d2 oNe (dCall F_harmless_sets (aCons (dVar 4) aNil)) (dLst eNil))) (toB (d2 oNe (dCall F_maximal_sets (aCons (dVar 4) aNil)) (dLst eNil)))) (sSeq (sRet (dC (.bl false))) sSkip) sSkip) (sSeq (sRet (dAnd (d2 oEq (dCall F_least_harmful (aCons (dVar 4) aNil)) (dLst (eCons (dTup eNil) eNil))) (d2 oEq (dCall F_breaches (aCons (dVar 4) aNil)) (dLst eNil)))) sSkip)))))))))))))))))
abbrev b__law_savings_right_1 : Mo Fl := (sSeq (sSet 4 (dCall F__law_three (aCons (d2 oIx (dVar 2) (dC (.int 0))) (aCons (d2 oIx (dVar 2) (dC (.int 1))) (aCons (d2 oIx (dVar 2) (dC (.int 2))) aNil))))) (sSeq (sSet 5 (dCall F_greatest (aCons (dVar 4) aNil))) (sSeq (sIf (toB (d2 oNe (dAttr [3] 0 (dVar 5)) (dVar 3))) (sSeq (sRet (dC (.bl false))) sSkip) sSkip) (sSeq (sIf (toB (d2 oNotB (dCallO 3 F_Saving_shows (dVar 5) (aCons (dVar 4) aNil)) (dC (.bl true)))) (sSeq (sRet (dC (.bl false))) sSkip) sSkip) (sSeq (sIf (toB (d2 oNe (dCall F_saved (aCons (dVar 4) (aCons (dVar 3) aNil))) (d2 oAdd (d2 oIx (dVar 2) (dC (.int 1))) (dB2 oMax (d2 oIx (dVar 2) (dC (.int 0))) (d2 oIx (dVar 2) (dC (.int 2))))))) (sSeq (sRet (dC (.bl false))) sSkip) sSkip) sSkip)))))
abbrev e__law_savings_right_2 : Mo Vl := (d2 oEq (dCall F_witness (aCons (dVar 4) (aCons (dVar 7) aNil))) (dVar 3))
abbrev e__law_savings_right_3 : Mo Vl := (d2 oEq (dCall F_is_witness (aCons (dVar 4) (aCons (dVar 7) (aCons (dVar 8) aNil)))) (dVar 3))
abbrev b__law_savings_right_4 : Mo Fl := (sSeq (sSet 5 (dCall F_greatest (aCons (dVar 6) aNil))) (sSeq (sIf (bOr (bNot (toB (dIsi (onlyC 4) (dVar 5)))) (bOr (toB (d2 oNotB (dCallO 4 F_NoSaving_shows (dVar 5) (aCons (dVar 6) aNil)) (dC (.bl true)))) (toB (d2 oEq (dAttr [4] 0 (dVar 5)) (dLst eNil))))) (sSeq (sRet (dC (.bl false))) sSkip) sSkip) sSkip))
def F__law_savings_right : En → Re Vl := mkF 8 (sSeq (sSet 1 (dLst (eCons (dTup (eCons (dTup (eCons (dC (.int 2)) (eCons (dC (.int 1)) (eCons (dC (.int 1)) eNil)))) (eCons (dTup (eCons (dC (.int 0)) (eCons (dC (.int 1)) eNil))) eNil))) (eCons (dTup (eCons (dTup (eCons (dC (.int 1)) (eCons (dC (.int 1)) (eCons (dC (.int 2)) eNil)))) (eCons (dTup (eCons (dC (.int 1)) (eCons (dC (.int 2)) eNil))) eNil))) (eCons (dTup (eCons (dTup (eCons (dC (.int 1)) (eCons (dC (.int 1)) (eCons (dC (.int 1)) eNil)))) (eCons (dTup (eCons (dC (.int 0)) (eCons (dC (.int 1)) eNil))) eNil))) eNil))))) (sSeq (sSet 1 (d2 oAdd (dVar 1) (dLst (eCons (dTup (eCons (dTup (eCons (dC (.int 3)) (eCons (dC (.int 9)) (eCons (dC (.int 3)) eNil)))) (eCons (dTup (eCons (dC (.int 0)) (eCons (dC (.int 1)) eNil))) eNil))) (eCons (dTup (eCons (dTup (eCons (d2 oAdd (dC (.int 1)) (dVar 0)) (eCons (dC (.int 1)) (eCons (dVar 0) eNil)))) (eCons (dTup (eCons (dC (.int 0)) (eCons (dC (.int 1)) eNil))) eNil))) eNil))))) (sSeq (sSet 1 (d2 oAdd (dVar 1) (dLst (eCons (dTup (eCons (dTup (eCons (dVar 0) (eCons (dC (.int 1)) (eCons (d2 oAdd (dC (.int 1)) (dVar 0)) eNil)))) (eCons (dTup (eCons (dC (.int 1)) (eCons (dC (.int 2)) eNil))) eNil))) eNil)))) (sSeq (sFor (iSeq (dVar 1)) (gTupF 2 (gsCons (gN 2) (gsCons (gN 3) gsNil))) b__law_savings_right_1 [2, 3]) (sSeq (sSet 4 (dCall F__law_three (aCons (dC (.int 1)) (aCons (dC (.int 1)) (aCons (dC (.int 1)) aNil))))) (sSeq (sSet 1 (dLst (eCons (dTup (eCons (dTup eNil) (eCons (dC .non) eNil))) (eCons (dTup (eCons (dTup (eCons (dC (.int 0)) eNil)) (eCons (dC .non) eNil))) (eCons (dTup (eCons (dTup (eCons (dC (.int 2)) eNil)) (eCons (dTup (eCons (dC (.int 0)) (eCons (dC (.int 1)) eNil))) eNil))) (eCons (dTup (eCons (dTup (eCons (dC (.int 0)) (eCons (dC (.int 2)) eNil))) (eCons (dTup (eCons (dC (.int 0)) (eCons (dC (.int 1)) eNil))) eNil))) eNil)))))) (sSeq (sSet 1 (d2 oAdd (dVar 1) (dLst (eCons (dTup (eCons (dTup (eCons (dC (.int 0)) (eCons (dC (.int 1)) (eCons (dC (.int 2)) eNil)))) (eCons (dTup (eCons (dC (.int 1)) (eCons (dC (.int 0)) eNil))) eNil))) (eCons (dTup (eCons (dTup (eCons (dC (.int 1)) (eCons (dC (.int 2)) eNil))) (eCons (dC .non) eNil))) eNil))))) (sSeq (sIf (bNot (toB (d1 oAll (dLc (iSeq (dVar 1)) (gTupF 2 (gsCons (gN 7) (gsCons (gN 3) gsNil))) (mp true) e__law_savings_right_2 [7, 3])))) (sSeq (sRet (dC (.bl false))) sSkip) sSkip) (sSeq (sSet 1 (dLst (eCons (dTup (eCons (dTup (eCons (dC (.int 2)) eNil)) (eCons (dTup (eCons (dC (.int 0)) (eCons (dC (.int 1)) eNil))) (eCons (dC (.bl true)) eNil)))) (eCons (dTup (eCons (dTup (eCons (dC (.int 2)) eNil)) (eCons (dTup (eCons (dC (.int 1)) (eCons (dC (.int 0)) eNil))) (eCons (dC (.bl true)) eNil)))) (eCons (dTup (eCons (dTup (eCons (dC (.int 2)) eNil)) (eCons (dTup (eCons (dC (.int 0)) (eCons (dC (.int 0)) eNil))) (eCons (dC (.bl false)) eNil)))) eNil))))) (sSeq (sSet 1 (d2 oAdd (dVar 1) (dLst (eCons (dTup (eCons (dTup (eCons (dC (.int 0)) (eCons (dC (.int 1)) (eCons (dC (.int 2)) eNil)))) (eCons (dTup (eCons (dC (.int 0)) (eCons (dC (.int 1)) eNil))) (eCons (dC (.bl false)) eNil)))) (eCons (dTup (eCons (dTup (eCons (dC (.int 0)) (eCons (dC (.int 1)) (eCons (dC (.int 2)) eNil)))) (eCons (dTup (eCons (dC (.int 1)) (eCons (dC (.int 0)) eNil))) (eCons (dC (.bl true)) eNil)))) (eCons (dTup (eCons (dTup eNil) (eCons (dTup (eCons (dC (.int 1)) (eCons (dC (.int 0)) eNil))) (eCons (dC (.bl false)) eNil)))) eNil)))))) (sSeq (sIf (bNot (toB (d1 oAll (dLc (iSeq (dVar 1)) (gTupF 3 (gsCons (gN 7) (gsCons (gN 8) (gsCons (gN 3) gsNil)))) (mp true) e__law_savings_right_3 [7, 8, 3])))) (sSeq (sRet (dC (.bl false))) sSkip) sSkip) (sSeq (sFor (iSeq (dTup (eCons (dNew 1 F_Network___init__ [] (aCons (dC (.int 3)) (aCons (asD (dLst eNil)) aNil))) (eCons (dNew 1 F_Network___init__ [] (aCons (dC (.int 3)) (aCons (asD (dLst (eCons (dNew 0 F_Swap___init__ [.int 1] (aCons (dC (.int 1)) (aCons (dC (.int 0)) aNil))) eNil))) aNil))) (eCons (dNew 1 F_Network___init__ [] (aCons (dC (.int 3)) (aCons (asD (dLst (eCons (dNew 0 F_Swap___init__ [.int 1] (aCons (dC (.int 0)) (aCons (dC (.int 1)) aNil))) (eCons (dNew 0 F_Swap___init__ [.int 1] (aCons (dC (.int 1)) (aCons (dC (.int 2)) aNil))) eNil)))) aNil))) eNil))))) (gN 6) b__law_savings_right_4 [6]) (sSeq (sRet (dC (.bl true))) sSkip)))))))))))))
abbrev b_law_1 : Mo Fl := (sSeq (sSet 2 (d2 oAdd (dC (.int 1)) (d2 oMod (d1 oAbs (dVar 1)) (dC (.int 8))))) (sSeq (sIf (bOr (bNot (toB (dCall F__law_families_right (aCons (dVar 2) aNil)))) (bNot (toB (dCall F__law_savings_right (aCons (dVar 2) aNil))))) (sSeq (sRet (dC (.bl false))) sSkip) sSkip) sSkip))
abbrev b_law_2 : Mo Fl := (sSeq (sFor (iSeq (d2 oAdd (dLst (eCons (dC (.int 0)) eNil)) (dSl2 (dVar 0) pNo (pSome (dC (.int 3)))))) (gN 1) b_law_1 [1, 2]) (sSeq (sRet (dAnd (dCall F__law_rows_right aNil) (dCall F__law_answers_right aNil))) sSkip))
def F_law : En → Re Vl := mkF 2 (sSeq (sNoX b_law_2) sSkip)
structure Txt (g : Gx) (K : PySem.W.Frag) (mg : Str → Option Value) where
  hK : g.K = K
  is_sorted : Df K "is_sorted" "is_sorted" s_is_sorted ["row"]
  g_is_sorted : mg "is_sorted" = some (.ref is_sorted.f)
  after_step : Df K "after_step" "after_step" s_after_step ["low", "high", "row"]
  g_after_step : mg "after_step" = some (.ref after_step.f)
  behind : Df K "behind" "behind" s_behind ["steps", "row"]
  g_behind : mg "behind" = some (.ref behind.f)
  bit_rows : Df K "bit_rows" "bit_rows" s_bit_rows ["lines"]
  g_bit_rows : mg "bit_rows" = some (.ref bit_rows.f)
  sorts : Df K "sorts" "sorts" s_sorts ["lines", "steps"]
  g_sorts : mg "sorts" = some (.ref sorts.f)
  Network___bool__ : Df K "__bool__" "Network.__bool__" s_Network___bool__ ["self"]
  is_whole : Df K "is_whole" "is_whole" s_is_whole ["value"]
  g_is_whole : mg "is_whole" = some (.ref is_whole.f)
  is_integer : Df K "is_integer" "is_integer" s_is_integer ["value", "low", "high"]
  g_is_integer : mg "is_integer" = some (.ref is_integer.f)
  is_swap_of : Df K "is_swap_of" "is_swap_of" s_is_swap_of ["lines", "value"]
  g_is_swap_of : mg "is_swap_of" = some (.ref is_swap_of.f)
  Network___init__ : Df K "__init__" "Network.__init__" s_Network___init__ ["self", "lines", "swaps"]
  Swap___init__ : DfK K "__init__" "Swap.__init__" s_Swap___init__ ["self", "low", "high", "cost"] 3 "cost" (.int 1)
  mirrored : Df K "mirrored" "mirrored" s_mirrored ["network"]
  g_mirrored : mg "mirrored" = some (.ref mirrored.f)
  Network___neg__ : Df K "__neg__" "Network.__neg__" s_Network___neg__ ["self"]
  Swap___eq__ : Df K "__eq__" "Swap.__eq__" s_Swap___eq__ ["self", "other"]
  Network___eq__ : Df K "__eq__" "Network.__eq__" s_Network___eq__ ["self", "other"]
  is_row : Df K "is_row" "is_row" s_is_row ["lines", "value"]
  g_is_row : mg "is_row" = some (.ref is_row.f)
  check_row : Df K "check_row" "check_row" s_check_row ["network", "row"]
  g_check_row : mg "check_row" = some (.ref check_row.f)
  Network___call__ : Df K "__call__" "Network.__call__" s_Network___call__ ["self", "row"]
  _law_rows_right : Df K "_law_rows_right" "_law_rows_right" s__law_rows_right []
  g__law_rows_right : mg "_law_rows_right" = some (.ref _law_rows_right.f)
  _law_three : Df K "_law_three" "_law_three" s__law_three ["_law_first", "_law_second", "_law_third"]
  g__law_three : mg "_law_three" = some (.ref _law_three.f)
  check_network : Df K "check_network" "check_network" s_check_network ["network"]
  g_check_network : mg "check_network" = some (.ref check_network.f)
  worth_of : Df K "worth_of" "worth_of" s_worth_of ["network", "some"]
  g_worth_of : mg "worth_of" = some (.ref worth_of.f)
  rest_of : Df K "rest_of" "rest_of" s_rest_of ["network", "some"]
  g_rest_of : mg "rest_of" = some (.ref rest_of.f)
  is_against : Df K "is_against" "is_against" s_is_against ["network", "some", "row"]
  g_is_against : mg "is_against" = some (.ref is_against.f)
  are_refuted : Df K "are_refuted" "are_refuted" s_are_refuted ["network", "sets", "doubts"]
  g_are_refuted : mg "are_refuted" = some (.ref are_refuted.f)
  is_safe : Df K "is_safe" "is_safe" s_is_safe ["network", "some"]
  g_is_safe : mg "is_safe" = some (.ref is_safe.f)
  all_sets : Df K "all_sets" "all_sets" s_all_sets ["network"]
  g_all_sets : mg "all_sets" = some (.ref all_sets.f)
  Saving_shows : Df K "shows" "Saving.shows" s_Saving_shows ["self", "network"]
  NoSaving_shows : Df K "shows" "NoSaving.shows" s_NoSaving_shows ["self", "network"]
  Saving___init__ : Df K "__init__" "Saving.__init__" s_Saving___init__ ["self", "left_out", "doubts"]
  NoSaving___init__ : Df K "__init__" "NoSaving.__init__" s_NoSaving___init__ ["self", "doubts"]
  _law_answers_right : Df K "_law_answers_right" "_law_answers_right" s__law_answers_right []
  g__law_answers_right : mg "_law_answers_right" = some (.ref _law_answers_right.f)
  parted : Df K "parted" "parted" s_parted ["network"]
  g_parted : mg "parted" = some (.ref parted.f)
  harmless_sets : Df K "harmless_sets" "harmless_sets" s_harmless_sets ["network"]
  g_harmless_sets : mg "harmless_sets" = some (.ref harmless_sets.f)
  is_within : Df K "is_within" "is_within" s_is_within ["one", "other"]
  g_is_within : mg "is_within" = some (.ref is_within.f)
  maximal_sets : Df K "maximal_sets" "maximal_sets" s_maximal_sets ["network"]
  g_maximal_sets : mg "maximal_sets" = some (.ref maximal_sets.f)
  least_harmful : Df K "least_harmful" "least_harmful" s_least_harmful ["network"]
  g_least_harmful : mg "least_harmful" = some (.ref least_harmful.f)
  one_more : Df K "one_more" "one_more" s_one_more ["lower", "upper"]
  g_one_more : mg "one_more" = some (.ref one_more.f)
  rescues : Df K "rescues" "rescues" s_rescues ["network"]
  g_rescues : mg "rescues" = some (.ref rescues.f)
  breaches : Df K "breaches" "breaches" s_breaches ["network"]
  g_breaches : mg "breaches" = some (.ref breaches.f)
  _law_families_right : Df K "_law_families_right" "_law_families_right" s__law_families_right ["_law_worth"]
  g__law_families_right : mg "_law_families_right" = some (.ref _law_families_right.f)
  first_witness : Df K "first_witness" "first_witness" s_first_witness ["network", "some"]
  g_first_witness : mg "first_witness" = some (.ref first_witness.f)
  greatest : Df K "greatest" "greatest" s_greatest ["network"]
  g_greatest : mg "greatest" = some (.ref greatest.f)
  check_set : Df K "check_set" "check_set" s_check_set ["network", "some"]
  g_check_set : mg "check_set" = some (.ref check_set.f)
  saved : Df K "saved" "saved" s_saved ["network", "some"]
  g_saved : mg "saved" = some (.ref saved.f)
  witness : Df K "witness" "witness" s_witness ["network", "some"]
  g_witness : mg "witness" = some (.ref witness.f)
  is_witness : Df K "is_witness" "is_witness" s_is_witness ["network", "some", "row"]
  g_is_witness : mg "is_witness" = some (.ref is_witness.f)
  _law_savings_right : Df K "_law_savings_right" "_law_savings_right" s__law_savings_right ["_law_worth"]
  g__law_savings_right : mg "_law_savings_right" = some (.ref _law_savings_right.f)
  law : Df K "law" "law" s_law ["_law_script"]
  g_law : mg "law" = some (.ref law.f)
  g_Network : mg "Network" = some (.ref (g.cA 1))
  ins_Network : InsOk K (g.cA 1)
  mk_Network : Mk K (g.cA 1) Network___init__.f
  call_Network : StX.CallO K (g.cA 1) Network___call__.f
  bool_Network : PySem.W.findIn K (.ref (g.cA 1)) "__bool__" = some (some (.ref Network___bool__.f)) ∧ PySem.W.isFn K (.ref Network___bool__.f) = true
  neg_Network : PySem.W.findIn K (.ref (g.cA 1)) "__neg__" = some (some (.ref Network___neg__.f)) ∧ PySem.W.isFn K (.ref Network___neg__.f) = true
  eq_Network : EqOk K (g.cA 1) Network___eq__.f Network___eq__.fd ["self", "other"]
  g_NoSaving : mg "NoSaving" = some (.ref (g.cA 4))
  ins_NoSaving : InsOk K (g.cA 4)
  mk_NoSaving : Mk K (g.cA 4) NoSaving___init__.f
  g_Saving : mg "Saving" = some (.ref (g.cA 3))
  ins_Saving : InsOk K (g.cA 3)
  mk_Saving : Mk K (g.cA 3) Saving___init__.f
  g_Swap : mg "Swap" = some (.ref (g.cA 0))
  ins_Swap : InsOk K (g.cA 0)
  mk_Swap : Mk K (g.cA 0) Swap___init__.f
  eq_Swap : EqOk K (g.cA 0) Swap___eq__.f Swap___eq__.fd ["self", "other"]
  cls_NoSaving : Cls K (g.cA 4)
  cls_Saving : Cls K (g.cA 3)
  ex_BadNetwork : Fx.ExOk g K mg 2 "BadNetwork"
  ex_BadRow : Fx.ExOk g K mg 4 "BadRow"
  ex_BadSet : Fx.ExOk g K mg 5 "BadSet"
  ex_BadSwap : Fx.ExOk g K mg 1 "BadSwap"
  meth_NoSaving_shows : Meth K (g.cA 4) "shows" NoSaving_shows.f
  meth_Saving_shows : Meth K (g.cA 3) "shows" Saving_shows.f
  fld_0_charge : FldOk g K "charge" 1 0
  fld_0_ends : FldOk g K "ends" 0 0
  fld_1_steps : FldOk g K "steps" 1 1
  fld_1_width : FldOk g K "width" 0 1
  fld_3_doubts : FldOk g K "doubts" 1 3
  fld_3_left_out : FldOk g K "left_out" 0 3
  fld_4_doubts : FldOk g K "doubts" 0 4
  z_abs : mg "abs" = none
  z_all : mg "all" = none
  z_any : mg "any" = none
  z_bool : mg "bool" = none
  z_enumerate : mg "enumerate" = none
  z_int : mg "int" = none
  z_isinstance : mg "isinstance" = none
  z_len : mg "len" = none
  z_list : mg "list" = none
  z_max : mg "max" = none
  z_range : mg "range" = none
  z_sorted : mg "sorted" = none
  z_sum : mg "sum" = none
  z_tuple : mg "tuple" = none
  z_zip : mg "zip" = none
  c_MAX_COST : ∃ t : Tok, mg "MAX_COST" = some (.int 9 t)
  c_MAX_LINES : ∃ t : Tok, mg "MAX_LINES" = some (.int 6 t)
  c_MAX_SWAPS : ∃ t : Tok, mg "MAX_SWAPS" = some (.int 9 t)
  c_MIN_LINES : ∃ t : Tok, mg "MIN_LINES" = some (.int 2 t)
structure Tbs {g : Gx} {K : PySem.W.Frag} {mg : Str → Option Value} (T : Txt g K mg) (base : Heap) : Prop where
  greatest : ∀ cdv, CdOf K T.greatest.f cdv → LamT g base mg cdv ("greatest" ++ ".<locals>.")
theorem sc_is_sorted : FnScope ["row", "one", "other"] ["row"] (defScope s_is_sorted) := ⟨rfl, rfl, rfl, by decide +kernel, rfl, by decide +kernel, by decide +kernel⟩
theorem sc_after_step : FnScope ["low", "high", "row", "at", "one"] ["low", "high", "row"] (defScope s_after_step) := ⟨rfl, rfl, rfl, by decide +kernel, rfl, by decide +kernel, by decide +kernel⟩
theorem sc_behind : FnScope ["steps", "row", "step"] ["steps", "row"] (defScope s_behind) := ⟨rfl, rfl, rfl, by decide +kernel, rfl, by decide +kernel, by decide +kernel⟩
theorem sc_bit_rows : FnScope ["lines", "found", "line", "one", "bit"] ["lines"] (defScope s_bit_rows) := ⟨rfl, rfl, rfl, by decide +kernel, rfl, by decide +kernel, by decide +kernel⟩
theorem sc_sorts : FnScope ["lines", "steps", "row"] ["lines", "steps"] (defScope s_sorts) := ⟨rfl, rfl, rfl, by decide +kernel, rfl, by decide +kernel, by decide +kernel⟩
theorem sc_Network___bool__ : FnScope ["self"] ["self"] (defScope s_Network___bool__) := ⟨rfl, rfl, rfl, by decide +kernel, rfl, by decide +kernel, by decide +kernel⟩
theorem sc_is_whole : FnScope ["value"] ["value"] (defScope s_is_whole) := ⟨rfl, rfl, rfl, by decide +kernel, rfl, by decide +kernel, by decide +kernel⟩
theorem sc_is_integer : FnScope ["value", "low", "high"] ["value", "low", "high"] (defScope s_is_integer) := ⟨rfl, rfl, rfl, by decide +kernel, rfl, by decide +kernel, by decide +kernel⟩
theorem sc_is_swap_of : FnScope ["lines", "value", "line"] ["lines", "value"] (defScope s_is_swap_of) := ⟨rfl, rfl, rfl, by decide +kernel, rfl, by decide +kernel, by decide +kernel⟩
theorem sc_Network___init__ : FnScope ["self", "lines", "swaps", "swap"] ["self", "lines", "swaps"] (defScope s_Network___init__) := ⟨rfl, rfl, rfl, by decide +kernel, rfl, by decide +kernel, by decide +kernel⟩
theorem sc_Swap___init__ : FnScope ["self", "low", "high", "cost"] ["self", "low", "high", "cost"] (defScope s_Swap___init__) := ⟨rfl, rfl, rfl, by decide +kernel, rfl, by decide +kernel, by decide +kernel⟩
theorem sc_mirrored : FnScope ["network", "last", "rows", "step"] ["network"] (defScope s_mirrored) := ⟨rfl, rfl, rfl, by decide +kernel, rfl, by decide +kernel, by decide +kernel⟩
theorem sc_Network___neg__ : FnScope ["self"] ["self"] (defScope s_Network___neg__) := ⟨rfl, rfl, rfl, by decide +kernel, rfl, by decide +kernel, by decide +kernel⟩
theorem sc_Swap___eq__ : FnScope ["self", "other"] ["self", "other"] (defScope s_Swap___eq__) := ⟨rfl, rfl, rfl, by decide +kernel, rfl, by decide +kernel, by decide +kernel⟩
theorem sc_Network___eq__ : FnScope ["self", "other"] ["self", "other"] (defScope s_Network___eq__) := ⟨rfl, rfl, rfl, by decide +kernel, rfl, by decide +kernel, by decide +kernel⟩
theorem sc_is_row : FnScope ["lines", "value", "one"] ["lines", "value"] (defScope s_is_row) := ⟨rfl, rfl, rfl, by decide +kernel, rfl, by decide +kernel, by decide +kernel⟩
theorem sc_check_row : FnScope ["network", "row"] ["network", "row"] (defScope s_check_row) := ⟨rfl, rfl, rfl, by decide +kernel, rfl, by decide +kernel, by decide +kernel⟩
theorem sc_Network___call__ : FnScope ["self", "row"] ["self", "row"] (defScope s_Network___call__) := ⟨rfl, rfl, rfl, by decide +kernel, rfl, by decide +kernel, by decide +kernel⟩
theorem sc__law_rows_right : FnScope ["_law_rows", "_law_network", "_law_row", "_law_due", "_law_bubble", "_law_turned"] [] (defScope s__law_rows_right) := ⟨rfl, rfl, rfl, by decide +kernel, rfl, by decide +kernel, by decide +kernel⟩
theorem sc__law_three : FnScope ["_law_first", "_law_second", "_law_third"] ["_law_first", "_law_second", "_law_third"] (defScope s__law_three) := ⟨rfl, rfl, rfl, by decide +kernel, rfl, by decide +kernel, by decide +kernel⟩
theorem sc_check_network : FnScope ["network"] ["network"] (defScope s_check_network) := ⟨rfl, rfl, rfl, by decide +kernel, rfl, by decide +kernel, by decide +kernel⟩
theorem sc_worth_of : FnScope ["network", "some", "at"] ["network", "some"] (defScope s_worth_of) := ⟨rfl, rfl, rfl, by decide +kernel, rfl, by decide +kernel, by decide +kernel⟩
theorem sc_rest_of : FnScope ["network", "some", "at", "step"] ["network", "some"] (defScope s_rest_of) := ⟨rfl, rfl, rfl, by decide +kernel, rfl, by decide +kernel, by decide +kernel⟩
theorem sc_is_against : FnScope ["network", "some", "row"] ["network", "some", "row"] (defScope s_is_against) := ⟨rfl, rfl, rfl, by decide +kernel, rfl, by decide +kernel, by decide +kernel⟩
theorem sc_are_refuted : FnScope ["network", "sets", "doubts", "some", "row"] ["network", "sets", "doubts"] (defScope s_are_refuted) := ⟨rfl, rfl, rfl, by decide +kernel, rfl, by decide +kernel, by decide +kernel⟩
theorem sc_is_safe : FnScope ["network", "some"] ["network", "some"] (defScope s_is_safe) := ⟨rfl, rfl, rfl, by decide +kernel, rfl, by decide +kernel, by decide +kernel⟩
theorem sc_all_sets : FnScope ["network", "found", "layer", "later", "some", "begin", "at"] ["network"] (defScope s_all_sets) := ⟨rfl, rfl, rfl, by decide +kernel, rfl, by decide +kernel, by decide +kernel⟩
theorem sc_Saving_shows : FnScope ["self", "network", "most", "one"] ["self", "network"] (defScope s_Saving_shows) := ⟨rfl, rfl, rfl, by decide +kernel, rfl, by decide +kernel, by decide +kernel⟩
theorem sc_NoSaving_shows : FnScope ["self", "network"] ["self", "network"] (defScope s_NoSaving_shows) := ⟨rfl, rfl, rfl, by decide +kernel, rfl, by decide +kernel, by decide +kernel⟩
theorem sc_Saving___init__ : FnScope ["self", "left_out", "doubts"] ["self", "left_out", "doubts"] (defScope s_Saving___init__) := ⟨rfl, rfl, rfl, by decide +kernel, rfl, by decide +kernel, by decide +kernel⟩
theorem sc_NoSaving___init__ : FnScope ["self", "doubts"] ["self", "doubts"] (defScope s_NoSaving___init__) := ⟨rfl, rfl, rfl, by decide +kernel, rfl, by decide +kernel, by decide +kernel⟩
theorem sc__law_answers_right : FnScope ["_law_network", "_law_rows", "_law_some", "_law_doubts", "_law_due", "_law_heavy", "_law_wrong"] [] (defScope s__law_answers_right) := ⟨rfl, rfl, rfl, by decide +kernel, rfl, by decide +kernel, by decide +kernel⟩
theorem sc_parted : FnScope ["network", "safe", "harmful", "some"] ["network"] (defScope s_parted) := ⟨rfl, rfl, rfl, by decide +kernel, rfl, by decide +kernel, by decide +kernel⟩
theorem sc_harmless_sets : FnScope ["network"] ["network"] (defScope s_harmless_sets) := ⟨rfl, rfl, rfl, by decide +kernel, rfl, by decide +kernel, by decide +kernel⟩
theorem sc_is_within : FnScope ["one", "other", "at"] ["one", "other"] (defScope s_is_within) := ⟨rfl, rfl, rfl, by decide +kernel, rfl, by decide +kernel, by decide +kernel⟩
theorem sc_maximal_sets : FnScope ["network", "found", "one", "other"] ["network"] (defScope s_maximal_sets) := ⟨rfl, rfl, rfl, by decide +kernel, rfl, by decide +kernel, by decide +kernel⟩
theorem sc_least_harmful : FnScope ["network", "found", "one", "other"] ["network"] (defScope s_least_harmful) := ⟨rfl, rfl, rfl, by decide +kernel, rfl, by decide +kernel, by decide +kernel⟩
theorem sc_one_more : FnScope ["lower", "upper", "pairs", "one", "other"] ["lower", "upper"] (defScope s_one_more) := ⟨rfl, rfl, rfl, by decide +kernel, rfl, by decide +kernel, by decide +kernel⟩
theorem sc_rescues : FnScope ["network", "safe", "harmful"] ["network"] (defScope s_rescues) := ⟨rfl, rfl, rfl, by decide +kernel, rfl, by decide +kernel, by decide +kernel⟩
theorem sc_breaches : FnScope ["network", "safe", "harmful"] ["network"] (defScope s_breaches) := ⟨rfl, rfl, rfl, by decide +kernel, rfl, by decide +kernel, by decide +kernel⟩
theorem sc__law_families_right : FnScope ["_law_worth", "_law_network", "_law_five", "_law_six", "_law_none"] ["_law_worth"] (defScope s__law_families_right) := ⟨rfl, rfl, rfl, by decide +kernel, rfl, by decide +kernel, by decide +kernel⟩
theorem sc_first_witness : FnScope ["network", "some", "row"] ["network", "some"] (defScope s_first_witness) := ⟨rfl, rfl, rfl, by decide +kernel, rfl, by decide +kernel, by decide +kernel⟩
theorem sc_greatest : FnScope ["network", "doubts", "sets", "some", "row", "one"] ["network"] (defScope s_greatest) := ⟨rfl, rfl, rfl, by decide +kernel, rfl, by decide +kernel, by decide +kernel⟩
theorem sc_check_set : FnScope ["network", "some", "last", "one", "other"] ["network", "some"] (defScope s_check_set) := ⟨rfl, rfl, rfl, by decide +kernel, rfl, by decide +kernel, by decide +kernel⟩
theorem sc_saved : FnScope ["network", "some"] ["network", "some"] (defScope s_saved) := ⟨rfl, rfl, rfl, by decide +kernel, rfl, by decide +kernel, by decide +kernel⟩
theorem sc_witness : FnScope ["network", "some"] ["network", "some"] (defScope s_witness) := ⟨rfl, rfl, rfl, by decide +kernel, rfl, by decide +kernel, by decide +kernel⟩
theorem sc_is_witness : FnScope ["network", "some", "row", "one"] ["network", "some", "row"] (defScope s_is_witness) := ⟨rfl, rfl, rfl, by decide +kernel, rfl, by decide +kernel, by decide +kernel⟩
theorem sc__law_savings_right : FnScope ["_law_worth", "_law_rows", "_law_costs", "_law_due", "_law_network", "_law_found", "_law_bad", "_law_some", "_law_row"] ["_law_worth"] (defScope s__law_savings_right) := ⟨rfl, rfl, rfl, by decide +kernel, rfl, by decide +kernel, by decide +kernel⟩
theorem sc_law : FnScope ["_law_script", "_law_cell", "_law_worth"] ["_law_script"] (defScope s_law) := ⟨rfl, rfl, rfl, by decide +kernel, rfl, by decide +kernel, by decide +kernel⟩
section
variable {P : Program} {w : World} {K : PySem.W.Frag} {mg : Str → Option Value} {base : Heap} {g : Gx}
theorem ok_is_sorted (T : Txt g K mg) (TB : Tbs T base) : FnOk P w K mg base (L2.CX P w) 1 T.is_sorted.f T.is_sorted.fd ["row"] (spF g 1 F_is_sorted) := fn_okF T.is_sorted.F sc_is_sorted rfl rfl (fun cdv A outer s H E hr =>
  (dss_cons (ds_ret (de_all rfl rfl T.z_all (de_lc (own := [("one", 1), ("other", 2)]) rfl sc_is_sorted.nd itsOk_zip (di_zip rfl T.z_zip (de_var 0) (de_slice2 T.hK (de_var 0) (do_some de_int) do_none)) (blkOk_by (by kernel_rfl)) (fun _ _ _ _ _ => (dg_tup rfl (dgs_cons (dg_name (i := 1) sc_is_sorted.nd rfl (by first | exact Or.inl rfl | exact Or.inr rfl) (by decide)) (dgs_cons (dg_name (i := 2) sc_is_sorted.nd rfl (by first | exact Or.inl rfl | exact Or.inr rfl) (by decide)) dgs_nil)) 2)) (fun _ _ _ _ _ => dts_nil) (fun _ _ _ _ _ => (de_cmp op_le u_le (de_var 1) (de_var 2))))))
  dss_nil))
theorem ok_after_step (T : Txt g K mg) (TB : Tbs T base) : FnOk P w K mg base (L2.CX P w) 1 T.after_step.f T.after_step.fd ["low", "high", "row"] (spF g 3 F_after_step) := fn_okF T.after_step.F sc_after_step rfl rfl (fun cdv A outer s H E hr =>
  (dss_cons (ds_if (dt_cmp op_le u_le (de_ix T.hK (de_var 2) (de_var 0)) (de_ix T.hK (de_var 2) (de_var 1))) (dss_cons (ds_ret (de_var 2))
  dss_nil) dss_nil)
  (dss_cons (ds_ret (de_tupleOf rfl T.z_tuple (de_lc (own := [("at", 3), ("one", 4)]) rfl sc_after_step.nd itsOk_enum (di_enum rfl T.z_enumerate (de_var 2)) (blkOk_by (by kernel_rfl)) (fun _ _ _ _ _ => (dg_tup rfl (dgs_cons (dg_name (i := 3) sc_after_step.nd rfl (by first | exact Or.inl rfl | exact Or.inr rfl) (by decide)) (dgs_cons (dg_name (i := 4) sc_after_step.nd rfl (by first | exact Or.inl rfl | exact Or.inr rfl) (by decide)) dgs_nil)) 2)) (fun _ _ _ _ _ => dts_nil) (fun _ _ _ _ _ => (de_if (dt_cmp (op_eqD hr.units) u_eq (de_var 3) (de_var 0)) (de_ix T.hK (de_var 2) (de_var 1)) (de_if (dt_cmp (op_eqD hr.units) u_eq (de_var 3) (de_var 1)) (de_ix T.hK (de_var 2) (de_var 0)) (de_var 4)))))))
  dss_nil)))
theorem ok_behind (T : Txt g K mg) (TB : Tbs T base) : FnOk P w K mg base (L2.CX P w) 2 T.behind.f T.behind.fd ["steps", "row"] (spF g 2 F_behind) := fn_okF T.behind.F sc_behind rfl rfl (fun cdv A outer s H E hr =>
  (dss_cons (ds_for (ts := [2]) [2] (passes_of rfl) rfl itsOk_seq (di_seq (de_var 0)) (dg_name (i := 2) sc_behind.nd rfl (by first | exact Or.inl rfl | exact Or.inr rfl) (by decide)) (dss_cons (ds_set (i := 1) sc_behind.nd rfl (by first | exact Or.inl rfl | exact Or.inr rfl) (de_call (ok_after_step T TB) (hr.mono (by omega)) rfl T.g_after_step T.after_step.F.kp T.after_step.b (takes_of rfl rfl rfl rfl) (da_cons (de_ix T.hK (de_attr [0] (de_var 2) (fun c hc => by cases List.mem_singleton.mp hc; exact T.fld_0_ends)) de_int) (da_cons (de_ix T.hK (de_attr [0] (de_var 2) (fun c hc => by cases List.mem_singleton.mp hc; exact T.fld_0_ends)) de_int) (da_cons (de_var 1) da_nil))) (argLen_cons (argLen_cons (argLen_cons argLen_nil)))))
  dss_nil))
  (dss_cons (ds_ret (de_var 1))
  dss_nil)))
theorem ok_bit_rows (T : Txt g K mg) (TB : Tbs T base) : FnOk P w K mg base (L2.CX P w) 1 T.bit_rows.f T.bit_rows.fd ["lines"] (spF g 1 F_bit_rows) := fn_okF T.bit_rows.F sc_bit_rows rfl rfl (fun cdv A outer s H E hr =>
  (dss_cons (ds_set (i := 1) sc_bit_rows.nd rfl (by first | exact Or.inl rfl | exact Or.inr rfl) (de_lst (dd_cons (de_tup dd_nil) dd_nil)))
  (dss_cons (ds_for (ts := [2]) [2] (passes_of rfl) rfl itsOk_range1 (di_range1 rfl T.z_range (de_var 0)) (dg_name (i := 2) sc_bit_rows.nd rfl (by first | exact Or.inl rfl | exact Or.inr rfl) (by decide)) (dss_cons (ds_setLc2 (i := 1) (own := [("one", 3), ("bit", 4)]) [4] rfl sc_bit_rows.nd rfl rfl (by rfl) itsOk_seq (di_seq (de_var 1)) (blkOk_by (by kernel_rfl)) (by decide) (fun _ _ _ _ _ => (dg_name (i := 3) sc_bit_rows.nd rfl (by first | exact Or.inl rfl | exact Or.inr rfl) (by decide))) (fun _ _ _ _ _ => dts_nil) (fun _ _ _ _ _ => (di_seq (de_tup (dd_cons de_int (dd_cons de_int dd_nil))))) (fun _ _ _ _ _ => (dg_name (i := 4) sc_bit_rows.nd rfl (by first | exact Or.inl rfl | exact Or.inr rfl) (by decide))) (fun _ _ _ _ _ => dts_nil) (fun _ _ _ _ _ => (de_tup (dd_star (de_var 3) (dd_cons (de_var 4) dd_nil)))))
  dss_nil))
  (dss_cons (ds_ret (de_var 1))
  dss_nil))))
theorem ok_sorts (T : Txt g K mg) (TB : Tbs T base) : FnOk P w K mg base (L2.CX P w) 3 T.sorts.f T.sorts.fd ["lines", "steps"] (spF g 2 F_sorts) := fn_okF T.sorts.F sc_sorts rfl rfl (fun cdv A outer s H E hr =>
  (dss_cons (ds_ret (de_all rfl rfl T.z_all (de_lc (own := [("row", 2)]) rfl sc_sorts.nd itsOk_seq (di_seq (de_call (ok_bit_rows T TB) (hr.mono (by omega)) rfl T.g_bit_rows T.bit_rows.F.kp T.bit_rows.b (takes_of rfl rfl rfl rfl) (da_cons (de_var 0) da_nil) (argLen_cons argLen_nil))) (blkOk_by (by kernel_rfl)) (fun _ _ _ _ _ => (dg_name (i := 2) sc_sorts.nd rfl (by first | exact Or.inl rfl | exact Or.inr rfl) (by decide))) (fun _ _ _ _ _ => dts_nil) (fun _ _ _ _ _ => (de_call (ok_is_sorted T TB) (hr.mono (by omega)) rfl T.g_is_sorted T.is_sorted.F.kp T.is_sorted.b takes0 (da_cons (de_asD (de_call (ok_behind T TB) (hr.mono (by omega)) rfl T.g_behind T.behind.F.kp T.behind.b takes0 (da_cons (de_var 1) (da_cons (de_var 2) da_nil)) (argLen_cons (argLen_cons argLen_nil)))) da_nil) (argLen_cons argLen_nil))))))
  dss_nil))
theorem ok_Network___bool__ (T : Txt g K mg) (TB : Tbs T base) : FnOk P w K mg base (L2.CX P w) 4 T.Network___bool__.f T.Network___bool__.fd ["self"] (spF g 1 F_Network___bool__) := fn_okF T.Network___bool__.F sc_Network___bool__ rfl rfl (fun cdv A outer s H E hr =>
  (dss_cons (ds_ret (de_bool rfl T.z_bool (de_call (ok_sorts T TB) (hr.mono (by omega)) rfl T.g_sorts T.sorts.F.kp T.sorts.b (takes_of rfl rfl rfl rfl) (da_cons (de_attr [1] (de_var 0) (fun c hc => by cases List.mem_singleton.mp hc; exact T.fld_1_width)) (da_cons (de_attr [1] (de_var 0) (fun c hc => by cases List.mem_singleton.mp hc; exact T.fld_1_steps)) da_nil)) (argLen_cons (argLen_cons argLen_nil)))))
  dss_nil))
theorem ok_is_whole (T : Txt g K mg) (TB : Tbs T base) : FnOk P w K mg base (L2.CX P w) 1 T.is_whole.f T.is_whole.fd ["value"] (spF g 1 F_is_whole) := fn_okF T.is_whole.F sc_is_whole rfl rfl (fun cdv A outer s H E hr =>
  (dss_cons (ds_ret (de_and (de_isi rfl T.z_isinstance (isiOk_int) (.ty _) (de_var 0) (de_tyN rfl T.z_int (by rfl))) (de_one (de_not (de_isi rfl T.z_isinstance (isiOk_bool) (.ty _) (de_var 0) (de_tyN rfl T.z_bool (by rfl)))))))
  dss_nil))
theorem ok_is_integer (T : Txt g K mg) (TB : Tbs T base) : FnOk P w K mg base (L2.CX P w) 2 T.is_integer.f T.is_integer.fd ["value", "low", "high"] (spF g 3 F_is_integer) := fn_okF T.is_integer.F sc_is_integer rfl rfl (fun cdv A outer s H E hr =>
  (dss_cons (ds_ret (de_and (de_call (ok_is_whole T TB) (hr.mono (by omega)) rfl T.g_is_whole T.is_whole.F.kp T.is_whole.b (takes_of rfl rfl rfl rfl) (da_cons (de_var 0) da_nil) (argLen_cons argLen_nil)) (de_one (de_chain op_le op_le u_le u_le (de_var 1) (de_var 0) (de_var 2)))))
  dss_nil))
theorem ok_is_swap_of (T : Txt g K mg) (TB : Tbs T base) : FnOk P w K mg base (L2.CX P w) 1 T.is_swap_of.f T.is_swap_of.fd ["lines", "value"] (spF g 2 F_is_swap_of) := fn_okF T.is_swap_of.F sc_is_swap_of rfl rfl (fun cdv A outer s H E hr =>
  (dss_cons (ds_ret (de_and (de_isi rfl T.z_isinstance (isi_own T.ins_Swap) (.own _) (de_var 1) (de_clN rfl T.g_Swap)) (de_one (de_all rfl rfl T.z_all (de_lc (own := [("line", 2)]) rfl sc_is_swap_of.nd itsOk_seq (di_seq (de_attr [0] (de_var 1) (fun c hc => by cases List.mem_singleton.mp hc; exact T.fld_0_ends))) (blkOk_by (by kernel_rfl)) (fun _ _ _ _ _ => (dg_name (i := 2) sc_is_swap_of.nd rfl (by first | exact Or.inl rfl | exact Or.inr rfl) (by decide))) (fun _ _ _ _ _ => dts_nil) (fun _ _ _ _ _ => (de_cmp op_lt u_lt (de_var 2) (de_var 0))))))))
  dss_nil))
theorem ok_Network___init__ (T : Txt g K mg) (TB : Tbs T base) : FnOk P w K mg base (L2.CX P w) 3 T.Network___init__.f T.Network___init__.fd ["self", "lines", "swaps"] (spF g 3 F_Network___init__) := fn_okF T.Network___init__.F sc_Network___init__ rfl rfl (fun cdv A outer s H E hr =>
  (dss_cons (ds_if (dt_not (dt_val (de_call (ok_is_integer T TB) (hr.mono (by omega)) rfl T.g_is_integer T.is_integer.F.kp T.is_integer.b (takes_of rfl rfl rfl rfl) (da_cons (de_var 1) (da_cons (de_gi rfl T.c_MIN_LINES.choose_spec) (da_cons (de_gi rfl T.c_MAX_LINES.choose_spec) da_nil))) (argLen_cons (argLen_cons (argLen_cons argLen_nil)))))) (dss_cons (ds_raise rfl (takes_of rfl rfl rfl rfl) T.ex_BadNetwork rfl)
  dss_nil) dss_nil)
  (dss_cons (ds_if (PW.pt (dw_or (dt_not (dt_val (de_isi2 rfl T.z_isinstance (isiOk_list_tuple) (.ty _) (.ty _) (de_var 2) (de_tyN rfl T.z_list (by rfl)) (de_tyN rfl T.z_tuple (by rfl))))) (dw_or1 (dt_cmp op_gt u_gt (de_len T.hK rfl T.z_len (de_var 2)) (de_gi rfl T.c_MAX_SWAPS.choose_spec))))) (dss_cons (ds_raise rfl (takes_of rfl rfl rfl rfl) T.ex_BadNetwork rfl)
  dss_nil) dss_nil)
  (dss_cons (ds_if (dt_not (dt_val (de_all rfl rfl T.z_all (de_lc (own := [("swap", 3)]) rfl sc_Network___init__.nd itsOk_seq (di_seq (de_var 2)) (blkOk_by (by kernel_rfl)) (fun _ _ _ _ _ => (dg_name (i := 3) sc_Network___init__.nd rfl (by first | exact Or.inl rfl | exact Or.inr rfl) (by decide))) (fun _ _ _ _ _ => dts_nil) (fun _ _ _ _ _ => (de_call (ok_is_swap_of T TB) (hr.mono (by omega)) rfl T.g_is_swap_of T.is_swap_of.F.kp T.is_swap_of.b takes0 (da_cons (de_var 1) (da_cons (de_var 3) da_nil)) (argLen_cons (argLen_cons argLen_nil)))))))) (dss_cons (ds_raise rfl (takes_of rfl rfl rfl rfl) T.ex_BadNetwork rfl)
  dss_nil) dss_nil)
  (dss_cons (ds_fld (nVar (i := 0)) (de_var 1) T.fld_1_width)
  (dss_cons (ds_fld (nVar (i := 0)) (de_list rfl T.z_list (de_var 2)) T.fld_1_steps)
  dss_nil))))))
theorem ok_Swap___init__ (T : Txt g K mg) (TB : Tbs T base) : FnOk P w K mg base (L2.CX P w) 3 T.Swap___init__.f T.Swap___init__.fd ["self", "low", "high", "cost"] (spF g 4 F_Swap___init__) := fn_okFD T.Swap___init__.F sc_Swap___init__ rfl rfl (fun cdv A outer s H E hr =>
  (dss_cons (ds_if (PW.pt (dw_or (dt_not (dt_val (de_call (ok_is_integer T TB) (hr.mono (by omega)) rfl T.g_is_integer T.is_integer.F.kp T.is_integer.b (takes_of rfl rfl rfl rfl) (da_cons (de_var 1) (da_cons de_int (da_cons (de_bin op_sub u_sub (de_gi rfl T.c_MAX_LINES.choose_spec) de_int) da_nil))) (argLen_cons (argLen_cons (argLen_cons argLen_nil)))))) (dw_or (dt_not (dt_val (de_call (ok_is_integer T TB) (hr.mono (by omega)) rfl T.g_is_integer T.is_integer.F.kp T.is_integer.b (takes_of rfl rfl rfl rfl) (da_cons (de_var 2) (da_cons de_int (da_cons (de_bin op_sub u_sub (de_gi rfl T.c_MAX_LINES.choose_spec) de_int) da_nil))) (argLen_cons (argLen_cons (argLen_cons argLen_nil)))))) (dw_or1 (dt_cmp (op_eqD hr.units) u_eq (de_var 1) (de_var 2)))))) (dss_cons (ds_raise rfl (takes_of rfl rfl rfl rfl) T.ex_BadSwap rfl)
  dss_nil) dss_nil)
  (dss_cons (ds_if (dt_not (dt_val (de_call (ok_is_integer T TB) (hr.mono (by omega)) rfl T.g_is_integer T.is_integer.F.kp T.is_integer.b (takes_of rfl rfl rfl rfl) (da_cons (de_var 3) (da_cons de_int (da_cons (de_gi rfl T.c_MAX_COST.choose_spec) da_nil))) (argLen_cons (argLen_cons (argLen_cons argLen_nil)))))) (dss_cons (ds_raise rfl (takes_of rfl rfl rfl rfl) T.ex_BadSwap rfl)
  dss_nil) dss_nil)
  (dss_cons (ds_fld (nVar (i := 0)) (de_tup (dd_cons (de_var 1) (dd_cons (de_var 2) dd_nil))) T.fld_0_ends)
  (dss_cons (ds_fld (nVar (i := 0)) (de_var 3) T.fld_0_charge)
  dss_nil)))))
theorem ok_mirrored (T : Txt g K mg) (TB : Tbs T base) : FnOk P w K mg base (L2.CX P w) 5 T.mirrored.f T.mirrored.fd ["network"] (spF g 1 F_mirrored) := fn_okF T.mirrored.F sc_mirrored rfl rfl (fun cdv A outer s H E hr =>
  (dss_cons (ds_set (i := 1) sc_mirrored.nd rfl (by first | exact Or.inl rfl | exact Or.inr rfl) (de_bin op_sub u_sub (de_attr [1] (de_var 0) (fun c hc => by cases List.mem_singleton.mp hc; exact T.fld_1_width)) de_int))
  (dss_cons (ds_setLc (i := 2) (own := [("step", 3)]) rfl sc_mirrored.nd rfl rfl (by rfl) itsOk_seq (di_seq (de_attr [1] (de_var 0) (fun c hc => by cases List.mem_singleton.mp hc; exact T.fld_1_steps))) (blkOk_by (by kernel_rfl)) (fun _ _ _ _ _ => (dg_name (i := 3) sc_mirrored.nd rfl (by first | exact Or.inl rfl | exact Or.inr rfl) (by decide))) (fun _ _ _ _ _ => dts_nil) (fun _ _ _ _ _ => (de_newK (n := 2) (ks := ["cost"]) T.mk_Swap (ok_Swap___init__ T TB) (hr.mono (by omega)) rfl T.g_Swap T.Swap___init__.bk.choose_spec (fun _ _ => rfl) takes0 (da_cons (de_bin op_sub u_sub (de_var 1) (de_ix T.hK (de_attr [0] (de_var 3) (fun c hc => by cases List.mem_singleton.mp hc; exact T.fld_0_ends)) de_int)) (da_cons (de_bin op_sub u_sub (de_var 1) (de_ix T.hK (de_attr [0] (de_var 3) (fun c hc => by cases List.mem_singleton.mp hc; exact T.fld_0_ends)) de_int)) da_nil)) (argLen_cons (argLen_cons argLen_nil)) (dk_cons (de_attr [0] (de_var 3) (fun c hc => by cases List.mem_singleton.mp hc; exact T.fld_0_charge)) dk_nil) (dLen_cons dLen_nil))))
  (dss_cons (ds_ret (de_new (n := 2) T.mk_Network (ok_Network___init__ T TB) (hr.mono (by omega)) rfl T.g_Network T.Network___init__.b .nil (fun _ => RepL.nil) (takes_of rfl rfl rfl rfl) (da_cons (de_attr [1] (de_var 0) (fun c hc => by cases List.mem_singleton.mp hc; exact T.fld_1_width)) (da_cons (de_var 2) da_nil)) (argLen_cons (argLen_cons argLen_nil))))
  dss_nil))))
theorem ok_Network___neg__ (T : Txt g K mg) (TB : Tbs T base) : FnOk P w K mg base (L2.CX P w) 6 T.Network___neg__.f T.Network___neg__.fd ["self"] (spF g 1 F_Network___neg__) := fn_okF T.Network___neg__.F sc_Network___neg__ rfl rfl (fun cdv A outer s H E hr =>
  (dss_cons (ds_ret (de_call (ok_mirrored T TB) (hr.mono (by omega)) rfl T.g_mirrored T.mirrored.F.kp T.mirrored.b (takes_of rfl rfl rfl rfl) (da_cons (de_var 0) da_nil) (argLen_cons argLen_nil)))
  dss_nil))
theorem ok_Swap___eq__ (T : Txt g K mg) (TB : Tbs T base) : FnOk P w K mg base (L2.CX P w) 1 T.Swap___eq__.f T.Swap___eq__.fd ["self", "other"] (spF g 2 F_Swap___eq__) := fn_okF T.Swap___eq__.F sc_Swap___eq__ rfl rfl (fun cdv A outer s H E hr =>
  (dss_cons (ds_ret (de_and (de_isi rfl T.z_isinstance (isi_own T.ins_Swap) (.own _) (de_var 1) (de_clN rfl T.g_Swap)) (de_and (de_cmp (op_eqD hr.units) u_eq (de_attr [0] (de_var 0) (fun c hc => by cases List.mem_singleton.mp hc; exact T.fld_0_ends)) (de_attr [0] (de_var 1) (fun c hc => by cases List.mem_singleton.mp hc; exact T.fld_0_ends))) (de_one (de_cmp (op_eqD hr.units) u_eq (de_attr [0] (de_var 0) (fun c hc => by cases List.mem_singleton.mp hc; exact T.fld_0_charge)) (de_attr [0] (de_var 1) (fun c hc => by cases List.mem_singleton.mp hc; exact T.fld_0_charge)))))))
  dss_nil))
theorem ok_Network___eq__ (T : Txt g K mg) (TB : Tbs T base) : FnOk P w K mg base (L2.CX P w) 3 T.Network___eq__.f T.Network___eq__.fd ["self", "other"] (spF g 2 F_Network___eq__) := fn_okF T.Network___eq__.F sc_Network___eq__ rfl rfl (fun cdv A outer s H E hr =>
  (dss_cons (ds_ret (de_and (de_isi rfl T.z_isinstance (isi_own T.ins_Network) (.own _) (de_var 1) (de_clN rfl T.g_Network)) (de_and (de_cmp (op_eqD hr.units) u_eq (de_attr [1] (de_var 0) (fun c hc => by cases List.mem_singleton.mp hc; exact T.fld_1_width)) (de_attr [1] (de_var 1) (fun c hc => by cases List.mem_singleton.mp hc; exact T.fld_1_width))) (de_one (de_cmpS (op_eqL (ok_Swap___eq__ T TB) T.eq_Swap (hr.mono (by omega))) u_eqL (de_attr [1] (de_var 0) (fun c hc => by cases List.mem_singleton.mp hc; exact T.fld_1_steps)) (de_attr [1] (de_var 1) (fun c hc => by cases List.mem_singleton.mp hc; exact T.fld_1_steps)))))))
  dss_nil))
theorem ok_is_row (T : Txt g K mg) (TB : Tbs T base) : FnOk P w K mg base (L2.CX P w) 2 T.is_row.f T.is_row.fd ["lines", "value"] (spF g 2 F_is_row) := fn_okF T.is_row.F sc_is_row rfl rfl (fun cdv A outer s H E hr =>
  (dss_cons (ds_ret (de_and (de_isi rfl T.z_isinstance (isiOk_tuple) (.ty _) (de_var 1) (de_tyN rfl T.z_tuple (by rfl))) (de_and (de_cmp (op_eqD hr.units) u_eq (de_len T.hK rfl T.z_len (de_var 1)) (de_var 0)) (de_one (de_all rfl rfl T.z_all (de_lc (own := [("one", 2)]) rfl sc_is_row.nd itsOk_seq (di_seq (de_var 1)) (blkOk_by (by kernel_rfl)) (fun _ _ _ _ _ => (dg_name (i := 2) sc_is_row.nd rfl (by first | exact Or.inl rfl | exact Or.inr rfl) (by decide))) (fun _ _ _ _ _ => dts_nil) (fun _ _ _ _ _ => (de_call (ok_is_whole T TB) (hr.mono (by omega)) rfl T.g_is_whole T.is_whole.F.kp T.is_whole.b takes0 (da_cons (de_var 2) da_nil) (argLen_cons argLen_nil)))))))))
  dss_nil))
theorem ok_check_row (T : Txt g K mg) (TB : Tbs T base) : FnOk P w K mg base (L2.CX P w) 3 T.check_row.f T.check_row.fd ["network", "row"] (spF g 2 F_check_row) := fn_okF T.check_row.F sc_check_row rfl rfl (fun cdv A outer s H E hr =>
  (dss_cons (ds_if (dt_not (dt_val (de_call (ok_is_row T TB) (hr.mono (by omega)) rfl T.g_is_row T.is_row.F.kp T.is_row.b (takes_of rfl rfl rfl rfl) (da_cons (de_attr [1] (de_var 0) (fun c hc => by cases List.mem_singleton.mp hc; exact T.fld_1_width)) (da_cons (de_var 1) da_nil)) (argLen_cons (argLen_cons argLen_nil))))) (dss_cons (ds_raise rfl (takes_of rfl rfl rfl rfl) T.ex_BadRow rfl)
  dss_nil) dss_nil)
  dss_nil))
theorem ok_Network___call__ (T : Txt g K mg) (TB : Tbs T base) : FnOk P w K mg base (L2.CX P w) 4 T.Network___call__.f T.Network___call__.fd ["self", "row"] (spF g 2 F_Network___call__) := fn_okF T.Network___call__.F sc_Network___call__ rfl rfl (fun cdv A outer s H E hr =>
  (dss_cons (ds_expr (de_call (ok_check_row T TB) (hr.mono (by omega)) rfl T.g_check_row T.check_row.F.kp T.check_row.b (takes_of rfl rfl rfl rfl) (da_cons (de_var 0) (da_cons (de_var 1) da_nil)) (argLen_cons (argLen_cons argLen_nil))))
  (dss_cons (ds_ret (de_call (ok_behind T TB) (hr.mono (by omega)) rfl T.g_behind T.behind.F.kp T.behind.b (takes_of rfl rfl rfl rfl) (da_cons (de_attr [1] (de_var 0) (fun c hc => by cases List.mem_singleton.mp hc; exact T.fld_1_steps)) (da_cons (de_var 1) da_nil)) (argLen_cons (argLen_cons argLen_nil))))
  dss_nil)))
theorem ok__law_rows_right (T : Txt g K mg) (TB : Tbs T base) : FnOk P w K mg base (L2.CX P w) 7 T._law_rows_right.f T._law_rows_right.fd [] (spF g 0 F__law_rows_right) := fn_okF T._law_rows_right.F sc__law_rows_right rfl rfl (fun cdv A outer s H E hr =>
  (dss_cons (ds_set (i := 0) sc__law_rows_right.nd rfl (by first | exact Or.inl rfl | exact Or.inr rfl) (de_lst (dd_cons (de_tup (dd_cons (de_new (n := 2) T.mk_Network (ok_Network___init__ T TB) (hr.mono (by omega)) rfl T.g_Network T.Network___init__.b .nil (fun _ => RepL.nil) (takes_of rfl rfl rfl rfl) (da_cons de_int (da_cons (de_asD (de_lst (dd_cons (de_new (n := 2) T.mk_Swap (ok_Swap___init__ T TB) (hr.mono (by omega)) rfl T.g_Swap T.Swap___init__.b0.choose_spec.2 T.Swap___init__.b0.choose_spec.1 (fun _ => RepL.one rep_int) (takes_of rfl rfl rfl rfl) (da_cons de_int (da_cons de_int da_nil)) (argLen_cons (argLen_cons argLen_nil))) dd_nil))) da_nil)) (argLen_cons (argLen_cons argLen_nil))) (dd_cons (de_tup (dd_cons de_int (dd_cons de_int (dd_cons de_int dd_nil)))) (dd_cons (de_tup (dd_cons de_int (dd_cons de_int (dd_cons de_int dd_nil)))) dd_nil)))) dd_nil)))
  (dss_cons (ds_set (i := 0) sc__law_rows_right.nd rfl (by first | exact Or.inl rfl | exact Or.inr rfl) (de_bin op_addF u_add (de_var 0) (de_lst (dd_cons (de_tup (dd_cons (de_new (n := 2) T.mk_Network (ok_Network___init__ T TB) (hr.mono (by omega)) rfl T.g_Network T.Network___init__.b .nil (fun _ => RepL.nil) (takes_of rfl rfl rfl rfl) (da_cons de_int (da_cons (de_asD (de_lst (dd_cons (de_new (n := 2) T.mk_Swap (ok_Swap___init__ T TB) (hr.mono (by omega)) rfl T.g_Swap T.Swap___init__.b0.choose_spec.2 T.Swap___init__.b0.choose_spec.1 (fun _ => RepL.one rep_int) (takes_of rfl rfl rfl rfl) (da_cons de_int (da_cons de_int da_nil)) (argLen_cons (argLen_cons argLen_nil))) dd_nil))) da_nil)) (argLen_cons (argLen_cons argLen_nil))) (dd_cons (de_tup (dd_cons de_int (dd_cons de_int (dd_cons de_int dd_nil)))) (dd_cons (de_tup (dd_cons de_int (dd_cons de_int (dd_cons de_int dd_nil)))) dd_nil)))) dd_nil))))
  (dss_cons (ds_set (i := 0) sc__law_rows_right.nd rfl (by first | exact Or.inl rfl | exact Or.inr rfl) (de_bin op_addF u_add (de_var 0) (de_lst (dd_cons (de_tup (dd_cons (de_new (n := 2) T.mk_Network (ok_Network___init__ T TB) (hr.mono (by omega)) rfl T.g_Network T.Network___init__.b .nil (fun _ => RepL.nil) (takes_of rfl rfl rfl rfl) (da_cons de_int (da_cons (de_asD (de_lst (dd_cons (de_new (n := 2) T.mk_Swap (ok_Swap___init__ T TB) (hr.mono (by omega)) rfl T.g_Swap T.Swap___init__.b0.choose_spec.2 T.Swap___init__.b0.choose_spec.1 (fun _ => RepL.one rep_int) (takes_of rfl rfl rfl rfl) (da_cons de_int (da_cons de_int da_nil)) (argLen_cons (argLen_cons argLen_nil))) (dd_cons (de_new (n := 2) T.mk_Swap (ok_Swap___init__ T TB) (hr.mono (by omega)) rfl T.g_Swap T.Swap___init__.b0.choose_spec.2 T.Swap___init__.b0.choose_spec.1 (fun _ => RepL.one rep_int) (takes_of rfl rfl rfl rfl) (da_cons de_int (da_cons de_int da_nil)) (argLen_cons (argLen_cons argLen_nil))) dd_nil)))) da_nil)) (argLen_cons (argLen_cons argLen_nil))) (dd_cons (de_tup (dd_cons de_int (dd_cons de_int (dd_cons de_int dd_nil)))) (dd_cons (de_tup (dd_cons de_int (dd_cons de_int (dd_cons de_int dd_nil)))) dd_nil)))) dd_nil))))
  (dss_cons (ds_set (i := 0) sc__law_rows_right.nd rfl (by first | exact Or.inl rfl | exact Or.inr rfl) (de_bin op_addF u_add (de_var 0) (de_lst (dd_cons (de_tup (dd_cons (de_new (n := 2) T.mk_Network (ok_Network___init__ T TB) (hr.mono (by omega)) rfl T.g_Network T.Network___init__.b .nil (fun _ => RepL.nil) (takes_of rfl rfl rfl rfl) (da_cons de_int (da_cons (de_asD (de_lst dd_nil)) da_nil)) (argLen_cons (argLen_cons argLen_nil))) (dd_cons (de_tup (dd_cons de_int (dd_cons (de_un un_neg u_neg de_int) dd_nil))) (dd_cons (de_tup (dd_cons de_int (dd_cons (de_un un_neg u_neg de_int) dd_nil))) dd_nil)))) dd_nil))))
  (dss_cons (ds_set (i := 0) sc__law_rows_right.nd rfl (by first | exact Or.inl rfl | exact Or.inr rfl) (de_bin op_addF u_add (de_var 0) (de_lst (dd_cons (de_tup (dd_cons (de_new (n := 2) T.mk_Network (ok_Network___init__ T TB) (hr.mono (by omega)) rfl T.g_Network T.Network___init__.b .nil (fun _ => RepL.nil) (takes_of rfl rfl rfl rfl) (da_cons de_int (da_cons (de_asD (de_lst (dd_cons (de_new (n := 2) T.mk_Swap (ok_Swap___init__ T TB) (hr.mono (by omega)) rfl T.g_Swap T.Swap___init__.b0.choose_spec.2 T.Swap___init__.b0.choose_spec.1 (fun _ => RepL.one rep_int) (takes_of rfl rfl rfl rfl) (da_cons de_int (da_cons de_int da_nil)) (argLen_cons (argLen_cons argLen_nil))) (dd_cons (de_new (n := 2) T.mk_Swap (ok_Swap___init__ T TB) (hr.mono (by omega)) rfl T.g_Swap T.Swap___init__.b0.choose_spec.2 T.Swap___init__.b0.choose_spec.1 (fun _ => RepL.one rep_int) (takes_of rfl rfl rfl rfl) (da_cons de_int (da_cons de_int da_nil)) (argLen_cons (argLen_cons argLen_nil))) dd_nil)))) da_nil)) (argLen_cons (argLen_cons argLen_nil))) (dd_cons (de_tup (dd_cons de_int (dd_cons de_int (dd_cons de_int (dd_cons de_int dd_nil))))) (dd_cons (de_tup (dd_cons de_int (dd_cons de_int (dd_cons de_int (dd_cons de_int dd_nil))))) dd_nil)))) dd_nil))))
  (dss_cons (ds_set (i := 0) sc__law_rows_right.nd rfl (by first | exact Or.inl rfl | exact Or.inr rfl) (de_bin op_addF u_add (de_var 0) (de_lst (dd_cons (de_tup (dd_cons (de_new (n := 2) T.mk_Network (ok_Network___init__ T TB) (hr.mono (by omega)) rfl T.g_Network T.Network___init__.b .nil (fun _ => RepL.nil) (takes_of rfl rfl rfl rfl) (da_cons de_int (da_cons (de_asD (de_lst (dd_cons (de_new (n := 2) T.mk_Swap (ok_Swap___init__ T TB) (hr.mono (by omega)) rfl T.g_Swap T.Swap___init__.b0.choose_spec.2 T.Swap___init__.b0.choose_spec.1 (fun _ => RepL.one rep_int) (takes_of rfl rfl rfl rfl) (da_cons de_int (da_cons de_int da_nil)) (argLen_cons (argLen_cons argLen_nil))) (dd_cons (de_new (n := 2) T.mk_Swap (ok_Swap___init__ T TB) (hr.mono (by omega)) rfl T.g_Swap T.Swap___init__.b0.choose_spec.2 T.Swap___init__.b0.choose_spec.1 (fun _ => RepL.one rep_int) (takes_of rfl rfl rfl rfl) (da_cons de_int (da_cons de_int da_nil)) (argLen_cons (argLen_cons argLen_nil))) dd_nil)))) da_nil)) (argLen_cons (argLen_cons argLen_nil))) (dd_cons (de_tup (dd_cons de_int (dd_cons de_int (dd_cons de_int (dd_cons de_int dd_nil))))) (dd_cons (de_tup (dd_cons de_int (dd_cons de_int (dd_cons de_int (dd_cons de_int dd_nil))))) dd_nil)))) dd_nil))))
  (dss_cons (ds_set (i := 0) sc__law_rows_right.nd rfl (by first | exact Or.inl rfl | exact Or.inr rfl) (de_bin op_addF u_add (de_var 0) (de_lst (dd_cons (de_tup (dd_cons (de_new (n := 2) T.mk_Network (ok_Network___init__ T TB) (hr.mono (by omega)) rfl T.g_Network T.Network___init__.b .nil (fun _ => RepL.nil) (takes_of rfl rfl rfl rfl) (da_cons de_int (da_cons (de_asD (de_lst (dd_cons (de_new (n := 2) T.mk_Swap (ok_Swap___init__ T TB) (hr.mono (by omega)) rfl T.g_Swap T.Swap___init__.b0.choose_spec.2 T.Swap___init__.b0.choose_spec.1 (fun _ => RepL.one rep_int) (takes_of rfl rfl rfl rfl) (da_cons de_int (da_cons de_int da_nil)) (argLen_cons (argLen_cons argLen_nil))) (dd_cons (de_new (n := 2) T.mk_Swap (ok_Swap___init__ T TB) (hr.mono (by omega)) rfl T.g_Swap T.Swap___init__.b0.choose_spec.2 T.Swap___init__.b0.choose_spec.1 (fun _ => RepL.one rep_int) (takes_of rfl rfl rfl rfl) (da_cons de_int (da_cons de_int da_nil)) (argLen_cons (argLen_cons argLen_nil))) dd_nil)))) da_nil)) (argLen_cons (argLen_cons argLen_nil))) (dd_cons (de_tup (dd_cons de_int (dd_cons de_int dd_nil))) (dd_cons (de_tup (dd_cons de_int (dd_cons de_int dd_nil))) dd_nil)))) dd_nil))))
  (dss_cons (ds_for (ts := [1, 2, 3]) [1, 2, 3] (passes_of rfl) rfl itsOk_seq (di_seq (de_var 0)) (dg_tup rfl (dgs_cons (dg_name (i := 1) sc__law_rows_right.nd rfl (by first | exact Or.inl rfl | exact Or.inr rfl) (by decide)) (dgs_cons (dg_name (i := 2) sc__law_rows_right.nd rfl (by first | exact Or.inl rfl | exact Or.inr rfl) (by decide)) (dgs_cons (dg_name (i := 3) sc__law_rows_right.nd rfl (by first | exact Or.inl rfl | exact Or.inr rfl) (by decide)) dgs_nil))) 3) (dss_cons (ds_if (dt_cmp (op_neD hr.units) u_ne (de_callO (de_var 1) T.call_Network (fnR_ok (ok_Network___call__ T TB) T.Network___call__.b) (hr.mono (by omega)) (da_cons (de_var 2) da_nil) (argLen_cons argLen_nil)) (de_var 3)) (dss_cons (ds_ret de_bl)
  dss_nil) dss_nil)
  dss_nil))
  (dss_cons (ds_set (i := 4) sc__law_rows_right.nd rfl (by first | exact Or.inl rfl | exact Or.inr rfl) (de_lst (dd_cons (de_new (n := 2) T.mk_Swap (ok_Swap___init__ T TB) (hr.mono (by omega)) rfl T.g_Swap T.Swap___init__.b0.choose_spec.2 T.Swap___init__.b0.choose_spec.1 (fun _ => RepL.one rep_int) (takes_of rfl rfl rfl rfl) (da_cons de_int (da_cons de_int da_nil)) (argLen_cons (argLen_cons argLen_nil))) (dd_cons (de_new (n := 2) T.mk_Swap (ok_Swap___init__ T TB) (hr.mono (by omega)) rfl T.g_Swap T.Swap___init__.b0.choose_spec.2 T.Swap___init__.b0.choose_spec.1 (fun _ => RepL.one rep_int) (takes_of rfl rfl rfl rfl) (da_cons de_int (da_cons de_int da_nil)) (argLen_cons (argLen_cons argLen_nil))) (dd_cons (de_new (n := 2) T.mk_Swap (ok_Swap___init__ T TB) (hr.mono (by omega)) rfl T.g_Swap T.Swap___init__.b0.choose_spec.2 T.Swap___init__.b0.choose_spec.1 (fun _ => RepL.one rep_int) (takes_of rfl rfl rfl rfl) (da_cons de_int (da_cons de_int da_nil)) (argLen_cons (argLen_cons argLen_nil))) dd_nil)))))
  (dss_cons (ds_if (dt_cmp op_notBl u_notB (de_boolO T.bool_Network.1 T.bool_Network.2 (fnR_ok (ok_Network___bool__ T TB) T.Network___bool__.b) (hr.mono (by omega)) rfl T.z_bool (de_new (n := 2) T.mk_Network (ok_Network___init__ T TB) (hr.mono (by omega)) rfl T.g_Network T.Network___init__.b .nil (fun _ => RepL.nil) (takes_of rfl rfl rfl rfl) (da_cons de_int (da_cons (de_var 4) da_nil)) (argLen_cons (argLen_cons argLen_nil)))) de_bl) (dss_cons (ds_ret de_bl)
  dss_nil) dss_nil)
  (dss_cons (ds_if (dt_val (de_boolO T.bool_Network.1 T.bool_Network.2 (fnR_ok (ok_Network___bool__ T TB) T.Network___bool__.b) (hr.mono (by omega)) rfl T.z_bool (de_new (n := 2) T.mk_Network (ok_Network___init__ T TB) (hr.mono (by omega)) rfl T.g_Network T.Network___init__.b .nil (fun _ => RepL.nil) (takes_of rfl rfl rfl rfl) (da_cons de_int (da_cons (de_asD (de_slice2 T.hK (de_var 4) do_none (do_some de_int))) da_nil)) (argLen_cons (argLen_cons argLen_nil))))) (dss_cons (ds_ret de_bl)
  dss_nil) dss_nil)
  (dss_cons (ds_if (dt_val (de_boolO T.bool_Network.1 T.bool_Network.2 (fnR_ok (ok_Network___bool__ T TB) T.Network___bool__.b) (hr.mono (by omega)) rfl T.z_bool (de_new (n := 2) T.mk_Network (ok_Network___init__ T TB) (hr.mono (by omega)) rfl T.g_Network T.Network___init__.b .nil (fun _ => RepL.nil) (takes_of rfl rfl rfl rfl) (da_cons de_int (da_cons (de_asD (de_slice2 T.hK (de_var 4) (do_some de_int) do_none)) da_nil)) (argLen_cons (argLen_cons argLen_nil))))) (dss_cons (ds_ret de_bl)
  dss_nil) dss_nil)
  (dss_cons (ds_if (dt_val (de_boolO T.bool_Network.1 T.bool_Network.2 (fnR_ok (ok_Network___bool__ T TB) T.Network___bool__.b) (hr.mono (by omega)) rfl T.z_bool (de_new (n := 2) T.mk_Network (ok_Network___init__ T TB) (hr.mono (by omega)) rfl T.g_Network T.Network___init__.b .nil (fun _ => RepL.nil) (takes_of rfl rfl rfl rfl) (da_cons de_int (da_cons (de_var 4) da_nil)) (argLen_cons (argLen_cons argLen_nil))))) (dss_cons (ds_ret de_bl)
  dss_nil) dss_nil)
  (dss_cons (ds_set (i := 5) sc__law_rows_right.nd rfl (by first | exact Or.inl rfl | exact Or.inr rfl) (de_negO T.neg_Network.1 T.neg_Network.2 (fnR_ok (ok_Network___neg__ T TB) T.Network___neg__.b) (hr.mono (by omega)) (de_new (n := 2) T.mk_Network (ok_Network___init__ T TB) (hr.mono (by omega)) rfl T.g_Network T.Network___init__.b .nil (fun _ => RepL.nil) (takes_of rfl rfl rfl rfl) (da_cons de_int (da_cons (de_asD (de_lst (dd_cons (de_newK (n := 2) (ks := ["cost"]) T.mk_Swap (ok_Swap___init__ T TB) (hr.mono (by omega)) rfl T.g_Swap T.Swap___init__.bk.choose_spec (fun _ _ => rfl) (takes_of rfl rfl rfl rfl) (da_cons de_int (da_cons de_int da_nil)) (argLen_cons (argLen_cons argLen_nil)) (dk_cons de_int dk_nil) (dLen_cons dLen_nil)) (dd_cons (de_new (n := 2) T.mk_Swap (ok_Swap___init__ T TB) (hr.mono (by omega)) rfl T.g_Swap T.Swap___init__.b0.choose_spec.2 T.Swap___init__.b0.choose_spec.1 (fun _ => RepL.one rep_int) (takes_of rfl rfl rfl rfl) (da_cons de_int (da_cons de_int da_nil)) (argLen_cons (argLen_cons argLen_nil))) dd_nil)))) da_nil)) (argLen_cons (argLen_cons argLen_nil)))))
  (dss_cons (ds_if (dt_val (de_boolO T.bool_Network.1 T.bool_Network.2 (fnR_ok (ok_Network___bool__ T TB) T.Network___bool__.b) (hr.mono (by omega)) rfl T.z_bool (de_new (n := 2) T.mk_Network (ok_Network___init__ T TB) (hr.mono (by omega)) rfl T.g_Network T.Network___init__.b .nil (fun _ => RepL.nil) (takes_of rfl rfl rfl rfl) (da_cons de_int (da_cons (de_asD (de_lst (dd_cons (de_new (n := 2) T.mk_Swap (ok_Swap___init__ T TB) (hr.mono (by omega)) rfl T.g_Swap T.Swap___init__.b0.choose_spec.2 T.Swap___init__.b0.choose_spec.1 (fun _ => RepL.one rep_int) (takes_of rfl rfl rfl rfl) (da_cons de_int (da_cons de_int da_nil)) (argLen_cons (argLen_cons argLen_nil))) dd_nil))) da_nil)) (argLen_cons (argLen_cons argLen_nil))))) (dss_cons (ds_ret de_bl)
  dss_nil) dss_nil)
  (dss_cons (ds_ret (de_cmpS (op_eqI (ok_Network___eq__ T TB) T.eq_Network (hr.mono (by omega))) u_eqI (de_asD (de_var 5)) (de_asD (de_new (n := 2) T.mk_Network (ok_Network___init__ T TB) (hr.mono (by omega)) rfl T.g_Network T.Network___init__.b .nil (fun _ => RepL.nil) (takes_of rfl rfl rfl rfl) (da_cons de_int (da_cons (de_asD (de_lst (dd_cons (de_newK (n := 2) (ks := ["cost"]) T.mk_Swap (ok_Swap___init__ T TB) (hr.mono (by omega)) rfl T.g_Swap T.Swap___init__.bk.choose_spec (fun _ _ => rfl) (takes_of rfl rfl rfl rfl) (da_cons de_int (da_cons de_int da_nil)) (argLen_cons (argLen_cons argLen_nil)) (dk_cons de_int dk_nil) (dLen_cons dLen_nil)) (dd_cons (de_new (n := 2) T.mk_Swap (ok_Swap___init__ T TB) (hr.mono (by omega)) rfl T.g_Swap T.Swap___init__.b0.choose_spec.2 T.Swap___init__.b0.choose_spec.1 (fun _ => RepL.one rep_int) (takes_of rfl rfl rfl rfl) (da_cons de_int (da_cons de_int da_nil)) (argLen_cons (argLen_cons argLen_nil))) dd_nil)))) da_nil)) (argLen_cons (argLen_cons argLen_nil))))))
  dss_nil)))))))))))))))))
theorem ok__law_three (T : Txt g K mg) (TB : Tbs T base) : FnOk P w K mg base (L2.CX P w) 5 T._law_three.f T._law_three.fd ["_law_first", "_law_second", "_law_third"] (spF g 3 F__law_three) := fn_okF T._law_three.F sc__law_three rfl rfl (fun cdv A outer s H E hr =>
  (dss_cons (ds_ret (de_new (n := 2) T.mk_Network (ok_Network___init__ T TB) (hr.mono (by omega)) rfl T.g_Network T.Network___init__.b .nil (fun _ => RepL.nil) (takes_of rfl rfl rfl rfl) (da_cons de_int (da_cons (de_asD (de_lst (dd_cons (de_newK (n := 2) (ks := ["cost"]) T.mk_Swap (ok_Swap___init__ T TB) (hr.mono (by omega)) rfl T.g_Swap T.Swap___init__.bk.choose_spec (fun _ _ => rfl) (takes_of rfl rfl rfl rfl) (da_cons de_int (da_cons de_int da_nil)) (argLen_cons (argLen_cons argLen_nil)) (dk_cons (de_var 0) dk_nil) (dLen_cons dLen_nil)) (dd_cons (de_newK (n := 2) (ks := ["cost"]) T.mk_Swap (ok_Swap___init__ T TB) (hr.mono (by omega)) rfl T.g_Swap T.Swap___init__.bk.choose_spec (fun _ _ => rfl) (takes_of rfl rfl rfl rfl) (da_cons de_int (da_cons de_int da_nil)) (argLen_cons (argLen_cons argLen_nil)) (dk_cons (de_var 1) dk_nil) (dLen_cons dLen_nil)) (dd_cons (de_newK (n := 2) (ks := ["cost"]) T.mk_Swap (ok_Swap___init__ T TB) (hr.mono (by omega)) rfl T.g_Swap T.Swap___init__.bk.choose_spec (fun _ _ => rfl) (takes_of rfl rfl rfl rfl) (da_cons de_int (da_cons de_int da_nil)) (argLen_cons (argLen_cons argLen_nil)) (dk_cons (de_var 2) dk_nil) (dLen_cons dLen_nil)) dd_nil))))) da_nil)) (argLen_cons (argLen_cons argLen_nil))))
  dss_nil))
theorem ok_check_network (T : Txt g K mg) (TB : Tbs T base) : FnOk P w K mg base (L2.CX P w) 1 T.check_network.f T.check_network.fd ["network"] (spF g 1 F_check_network) := fn_okF T.check_network.F sc_check_network rfl rfl (fun cdv A outer s H E hr =>
  (dss_cons (ds_if (dt_not (dt_val (de_isi rfl T.z_isinstance (isi_own T.ins_Network) (.own _) (de_var 0) (de_clN rfl T.g_Network)))) (dss_cons (ds_raise rfl (takes_of rfl rfl rfl rfl) T.ex_BadNetwork rfl)
  dss_nil) dss_nil)
  dss_nil))
theorem ok_worth_of (T : Txt g K mg) (TB : Tbs T base) : FnOk P w K mg base (L2.CX P w) 1 T.worth_of.f T.worth_of.fd ["network", "some"] (spF g 2 F_worth_of) := fn_okF T.worth_of.F sc_worth_of rfl rfl (fun cdv A outer s H E hr =>
  (dss_cons (ds_ret (de_sum rfl rfl T.z_sum (de_lc (own := [("at", 2)]) rfl sc_worth_of.nd itsOk_seq (di_seq (de_var 1)) (blkOk_by (by kernel_rfl)) (fun _ _ _ _ _ => (dg_name (i := 2) sc_worth_of.nd rfl (by first | exact Or.inl rfl | exact Or.inr rfl) (by decide))) (fun _ _ _ _ _ => dts_nil) (fun _ _ _ _ _ => (de_attr [0] (de_ix T.hK (de_attr [1] (de_var 0) (fun c hc => by cases List.mem_singleton.mp hc; exact T.fld_1_steps)) (de_var 2)) (fun c hc => by cases List.mem_singleton.mp hc; exact T.fld_0_charge))))))
  dss_nil))
theorem ok_rest_of (T : Txt g K mg) (TB : Tbs T base) : FnOk P w K mg base (L2.CX P w) 1 T.rest_of.f T.rest_of.fd ["network", "some"] (spF g 2 F_rest_of) := fn_okF T.rest_of.F sc_rest_of rfl rfl (fun cdv A outer s H E hr =>
  (dss_cons (ds_ret (de_lc (own := [("at", 2), ("step", 3)]) rfl sc_rest_of.nd itsOk_enum (di_enum rfl T.z_enumerate (de_attr [1] (de_var 0) (fun c hc => by cases List.mem_singleton.mp hc; exact T.fld_1_steps))) (blkOk_by (by kernel_rfl)) (fun _ _ _ _ _ => (dg_tup rfl (dgs_cons (dg_name (i := 2) sc_rest_of.nd rfl (by first | exact Or.inl rfl | exact Or.inr rfl) (by decide)) (dgs_cons (dg_name (i := 3) sc_rest_of.nd rfl (by first | exact Or.inl rfl | exact Or.inr rfl) (by decide)) dgs_nil)) 2)) (fun _ _ _ _ _ => (dts_one (dt_cmp (op_notInF (room65 hr)) u_notIn (de_var 2) (de_var 1) (hm := by with_unfolding_all rfl)))) (fun _ _ _ _ _ => (de_var 3))))
  dss_nil))
theorem ok_is_against (T : Txt g K mg) (TB : Tbs T base) : FnOk P w K mg base (L2.CX P w) 3 T.is_against.f T.is_against.fd ["network", "some", "row"] (spF g 3 F_is_against) := fn_okF T.is_against.F sc_is_against rfl rfl (fun cdv A outer s H E hr =>
  (dss_cons (ds_ret (de_not (de_call (ok_is_sorted T TB) (hr.mono (by omega)) rfl T.g_is_sorted T.is_sorted.F.kp T.is_sorted.b (takes_of rfl rfl rfl rfl) (da_cons (de_asD (de_call (ok_behind T TB) (hr.mono (by omega)) rfl T.g_behind T.behind.F.kp T.behind.b (takes_of rfl rfl rfl rfl) (da_cons (de_asD (de_call (ok_rest_of T TB) (hr.mono (by omega)) rfl T.g_rest_of T.rest_of.F.kp T.rest_of.b (takes_of rfl rfl rfl rfl) (da_cons (de_var 0) (da_cons (de_var 1) da_nil)) (argLen_cons (argLen_cons argLen_nil)))) (da_cons (de_var 2) da_nil)) (argLen_cons (argLen_cons argLen_nil)))) da_nil) (argLen_cons argLen_nil))))
  dss_nil))
theorem ok_are_refuted (T : Txt g K mg) (TB : Tbs T base) : FnOk P w K mg base (L2.CX P w) 4 T.are_refuted.f T.are_refuted.fd ["network", "sets", "doubts"] (spF g 3 F_are_refuted) := fn_okF T.are_refuted.F sc_are_refuted rfl rfl (fun cdv A outer s H E hr =>
  (dss_cons (ds_ret (de_all rfl rfl T.z_all (de_lc (own := [("some", 3)]) rfl sc_are_refuted.nd itsOk_seq (di_seq (de_var 1)) (blkOk_by (by kernel_rfl)) (fun _ _ _ _ _ => (dg_name (i := 3) sc_are_refuted.nd rfl (by first | exact Or.inl rfl | exact Or.inr rfl) (by decide))) (fun _ _ _ _ _ => dts_nil) (fun _ _ _ _ _ => (de_any rfl rfl T.z_any (de_lc (own := [("row", 4)]) rfl sc_are_refuted.nd itsOk_seq (di_seq (de_var 2)) (blkOk_by (by kernel_rfl)) (fun _ _ _ _ _ => (dg_name (i := 4) sc_are_refuted.nd rfl (by first | exact Or.inl rfl | exact Or.inr rfl) (by decide))) (fun _ _ _ _ _ => dts_nil) (fun _ _ _ _ _ => (de_call (ok_is_against T TB) (hr.mono (by omega)) rfl T.g_is_against T.is_against.F.kp T.is_against.b takes0 (da_cons (de_var 0) (da_cons (de_var 3) (da_cons (de_var 4) da_nil))) (argLen_cons (argLen_cons (argLen_cons argLen_nil)))))))))))
  dss_nil))
theorem ok_is_safe (T : Txt g K mg) (TB : Tbs T base) : FnOk P w K mg base (L2.CX P w) 4 T.is_safe.f T.is_safe.fd ["network", "some"] (spF g 2 F_is_safe) := fn_okF T.is_safe.F sc_is_safe rfl rfl (fun cdv A outer s H E hr =>
  (dss_cons (ds_ret (de_call (ok_sorts T TB) (hr.mono (by omega)) rfl T.g_sorts T.sorts.F.kp T.sorts.b (takes_of rfl rfl rfl rfl) (da_cons (de_attr [1] (de_var 0) (fun c hc => by cases List.mem_singleton.mp hc; exact T.fld_1_width)) (da_cons (de_asD (de_call (ok_rest_of T TB) (hr.mono (by omega)) rfl T.g_rest_of T.rest_of.F.kp T.rest_of.b (takes_of rfl rfl rfl rfl) (da_cons (de_var 0) (da_cons (de_var 1) da_nil)) (argLen_cons (argLen_cons argLen_nil)))) da_nil)) (argLen_cons (argLen_cons argLen_nil))))
  dss_nil))
theorem ok_all_sets (T : Txt g K mg) (TB : Tbs T base) : FnOk P w K mg base (L2.CX P w) 1 T.all_sets.f T.all_sets.fd ["network"] (spF g 1 F_all_sets) := fn_okF T.all_sets.F sc_all_sets rfl rfl (fun cdv A outer s H E hr =>
  (dss_cons (ds_setO (i := 1) sc_all_sets.nd rfl (by first | exact Or.inl rfl | exact Or.inr rfl) (de_lst (dd_cons (de_tup dd_nil) dd_nil)))
  (dss_cons (ds_set (i := 2) sc_all_sets.nd rfl (by first | exact Or.inl rfl | exact Or.inr rfl) (de_lst (dd_cons (de_tup dd_nil) dd_nil)))
  (dss_cons (ds_while [3, 4] 1000 (passes_of rfl) (dt_cmp (op_neD hr.units) u_ne (de_var 2) (de_lst dd_nil)) (dss_cons (ds_setO (i := 3) sc_all_sets.nd rfl (by first | exact Or.inl rfl | exact Or.inr rfl) (de_lst dd_nil))
  (dss_cons (ds_for (ts := [4]) [4, 5] (passes_of rfl) rfl itsOk_seq (di_seq (de_var 2)) (dg_name (i := 4) sc_all_sets.nd rfl (by first | exact Or.inl rfl | exact Or.inr rfl) (by decide)) (dss_cons (ds_set (i := 5) sc_all_sets.nd rfl (by first | exact Or.inl rfl | exact Or.inr rfl) (de_if (dt_cmp (op_neD hr.units) u_ne (de_var 4) (de_tup dd_nil)) (de_bin op_addF u_add (de_ix T.hK (de_var 4) (de_un un_neg u_neg de_int)) de_int) de_int))
  (dss_cons (ds_expr (de_extend (nVar (i := 3)) (dd_cons (de_lc (own := [("at", 6)]) rfl sc_all_sets.nd itsOk_range2 (di_range2 rfl T.z_range (de_var 5) (de_len T.hK rfl T.z_len (de_attr [1] (de_var 0) (fun c hc => by cases List.mem_singleton.mp hc; exact T.fld_1_steps)))) (blkOk_by (by kernel_rfl)) (fun _ _ _ _ _ => (dg_name (i := 6) sc_all_sets.nd rfl (by first | exact Or.inl rfl | exact Or.inr rfl) (by decide))) (fun _ _ _ _ _ => dts_nil) (fun _ _ _ _ _ => (de_tup (dd_star (de_var 4) (dd_cons (de_var 6) dd_nil))))) dd_nil)))
  dss_nil)))
  (dss_cons (ds_expr (de_extend (nVar (i := 1)) (dd_cons (de_var 3) dd_nil)))
  (dss_cons (ds_set (i := 2) sc_all_sets.nd rfl (by first | exact Or.inl rfl | exact Or.inr rfl) (de_var 3))
  dss_nil)))))
  (dss_cons (ds_ret (de_var 1))
  dss_nil)))))
theorem ok_Saving_shows (T : Txt g K mg) (TB : Tbs T base) : FnOk P w K mg base (L2.CX P w) 5 T.Saving_shows.f T.Saving_shows.fd ["self", "network"] (spF g 2 F_Saving_shows) := fn_okF T.Saving_shows.F sc_Saving_shows rfl rfl (fun cdv A outer s H E hr =>
  (dss_cons (ds_expr (de_call (ok_check_network T TB) (hr.mono (by omega)) rfl T.g_check_network T.check_network.F.kp T.check_network.b (takes_of rfl rfl rfl rfl) (da_cons (de_var 1) da_nil) (argLen_cons argLen_nil)))
  (dss_cons (ds_if (dt_not (dt_val (de_call (ok_is_safe T TB) (hr.mono (by omega)) rfl T.g_is_safe T.is_safe.F.kp T.is_safe.b (takes_of rfl rfl rfl rfl) (da_cons (de_var 1) (da_cons (de_attr [3] (de_var 0) (fun c hc => by cases List.mem_singleton.mp hc; exact T.fld_3_left_out)) da_nil)) (argLen_cons (argLen_cons argLen_nil))))) (dss_cons (ds_ret de_bl)
  dss_nil) dss_nil)
  (dss_cons (ds_set (i := 2) sc_Saving_shows.nd rfl (by first | exact Or.inl rfl | exact Or.inr rfl) (de_call (ok_worth_of T TB) (hr.mono (by omega)) rfl T.g_worth_of T.worth_of.F.kp T.worth_of.b (takes_of rfl rfl rfl rfl) (da_cons (de_var 1) (da_cons (de_attr [3] (de_var 0) (fun c hc => by cases List.mem_singleton.mp hc; exact T.fld_3_left_out)) da_nil)) (argLen_cons (argLen_cons argLen_nil))))
  (dss_cons (ds_ret (de_call (ok_are_refuted T TB) (hr.mono (by omega)) rfl T.g_are_refuted T.are_refuted.F.kp T.are_refuted.b (takes_of rfl rfl rfl rfl) (da_cons (de_var 1) (da_cons (de_asD (de_lc (own := [("one", 3)]) rfl sc_Saving_shows.nd itsOk_seq (di_seq (de_call (ok_all_sets T TB) (hr.mono (by omega)) rfl T.g_all_sets T.all_sets.F.kp T.all_sets.b (takes_of rfl rfl rfl rfl) (da_cons (de_var 1) da_nil) (argLen_cons argLen_nil))) (blkOk_by (by kernel_rfl)) (fun _ _ _ _ _ => (dg_name (i := 3) sc_Saving_shows.nd rfl (by first | exact Or.inl rfl | exact Or.inr rfl) (by decide))) (fun _ _ _ _ _ => (dts_one (dt_cmp op_gt u_gt (de_call (ok_worth_of T TB) (hr.mono (by omega)) rfl T.g_worth_of T.worth_of.F.kp T.worth_of.b takes0 (da_cons (de_var 1) (da_cons (de_var 3) da_nil)) (argLen_cons (argLen_cons argLen_nil))) (de_var 2)))) (fun _ _ _ _ _ => (de_var 3)))) (da_cons (de_attr [3] (de_var 0) (fun c hc => by cases List.mem_singleton.mp hc; exact T.fld_3_doubts)) da_nil))) (argLen_cons (argLen_cons (argLen_cons argLen_nil)))))
  dss_nil)))))
theorem ok_NoSaving_shows (T : Txt g K mg) (TB : Tbs T base) : FnOk P w K mg base (L2.CX P w) 5 T.NoSaving_shows.f T.NoSaving_shows.fd ["self", "network"] (spF g 2 F_NoSaving_shows) := fn_okF T.NoSaving_shows.F sc_NoSaving_shows rfl rfl (fun cdv A outer s H E hr =>
  (dss_cons (ds_expr (de_call (ok_check_network T TB) (hr.mono (by omega)) rfl T.g_check_network T.check_network.F.kp T.check_network.b (takes_of rfl rfl rfl rfl) (da_cons (de_var 1) da_nil) (argLen_cons argLen_nil)))
  (dss_cons (ds_ret (de_call (ok_are_refuted T TB) (hr.mono (by omega)) rfl T.g_are_refuted T.are_refuted.F.kp T.are_refuted.b (takes_of rfl rfl rfl rfl) (da_cons (de_var 1) (da_cons (de_asD (de_call (ok_all_sets T TB) (hr.mono (by omega)) rfl T.g_all_sets T.all_sets.F.kp T.all_sets.b (takes_of rfl rfl rfl rfl) (da_cons (de_var 1) da_nil) (argLen_cons argLen_nil))) (da_cons (de_attr [4] (de_var 0) (fun c hc => by cases List.mem_singleton.mp hc; exact T.fld_4_doubts)) da_nil))) (argLen_cons (argLen_cons (argLen_cons argLen_nil)))))
  dss_nil)))
theorem ok_Saving___init__ (T : Txt g K mg) (TB : Tbs T base) : FnOk P w K mg base (L2.CX P w) 1 T.Saving___init__.f T.Saving___init__.fd ["self", "left_out", "doubts"] (spF g 3 F_Saving___init__) := fn_okF T.Saving___init__.F sc_Saving___init__ rfl rfl (fun cdv A outer s H E hr =>
  (dss_cons (ds_fld (nVar (i := 0)) (de_var 1) T.fld_3_left_out)
  (dss_cons (ds_fld (nVar (i := 0)) (de_list rfl T.z_list (de_var 2)) T.fld_3_doubts)
  dss_nil)))
theorem ok_NoSaving___init__ (T : Txt g K mg) (TB : Tbs T base) : FnOk P w K mg base (L2.CX P w) 1 T.NoSaving___init__.f T.NoSaving___init__.fd ["self", "doubts"] (spF g 2 F_NoSaving___init__) := fn_okF T.NoSaving___init__.F sc_NoSaving___init__ rfl rfl (fun cdv A outer s H E hr =>
  (dss_cons (ds_fld (nVar (i := 0)) (de_list rfl T.z_list (de_var 1)) T.fld_4_doubts)
  dss_nil))
theorem ok__law_answers_right (T : Txt g K mg) (TB : Tbs T base) : FnOk P w K mg base (L2.CX P w) 6 T._law_answers_right.f T._law_answers_right.fd [] (spF g 0 F__law_answers_right) := fn_okF T._law_answers_right.F sc__law_answers_right rfl rfl (fun cdv A outer s H E hr =>
  (dss_cons (ds_set (i := 0) sc__law_answers_right.nd rfl (by first | exact Or.inl rfl | exact Or.inr rfl) (de_call (ok__law_three T TB) (hr.mono (by omega)) rfl T.g__law_three T._law_three.F.kp T._law_three.b (takes_of rfl rfl rfl rfl) (da_cons de_int (da_cons de_int (da_cons de_int da_nil))) (argLen_cons (argLen_cons (argLen_cons argLen_nil)))))
  (dss_cons (ds_set (i := 1) sc__law_answers_right.nd rfl (by first | exact Or.inl rfl | exact Or.inr rfl) (de_lst (dd_cons (de_tup (dd_cons (de_tup (dd_cons de_int (dd_cons de_int dd_nil))) (dd_cons (de_lst (dd_cons (de_tup (dd_cons de_int (dd_cons de_int dd_nil))) dd_nil)) (dd_cons de_bl dd_nil)))) (dd_cons (de_tup (dd_cons (de_tup (dd_cons de_int (dd_cons de_int dd_nil))) (dd_cons (de_lst (dd_cons (de_tup (dd_cons de_int (dd_cons de_int dd_nil))) dd_nil)) (dd_cons de_bl dd_nil)))) dd_nil))))
  (dss_cons (ds_set (i := 1) sc__law_answers_right.nd rfl (by first | exact Or.inl rfl | exact Or.inr rfl) (de_bin op_addF u_add (de_var 1) (de_lst (dd_cons (de_tup (dd_cons (de_tup (dd_cons de_int (dd_cons de_int dd_nil))) (dd_cons (de_lst (dd_cons (de_tup (dd_cons de_int (dd_cons de_int dd_nil))) (dd_cons (de_tup (dd_cons de_int (dd_cons de_int dd_nil))) (dd_cons (de_tup (dd_cons de_int (dd_cons de_int dd_nil))) dd_nil)))) (dd_cons de_bl dd_nil)))) (dd_cons (de_tup (dd_cons (de_tup (dd_cons de_int (dd_cons de_int dd_nil))) (dd_cons (de_lst dd_nil) (dd_cons de_bl dd_nil)))) dd_nil)))))
  (dss_cons (ds_set (i := 1) sc__law_answers_right.nd rfl (by first | exact Or.inl rfl | exact Or.inr rfl) (de_bin op_addF u_add (de_var 1) (de_lst (dd_cons (de_tup (dd_cons (de_tup (dd_cons de_int (dd_cons de_int dd_nil))) (dd_cons (de_lst (dd_cons (de_tup (dd_cons de_int (dd_cons de_int dd_nil))) dd_nil)) (dd_cons de_bl dd_nil)))) (dd_cons (de_tup (dd_cons (de_tup (dd_cons de_int dd_nil)) (dd_cons (de_lst (dd_cons (de_tup (dd_cons de_int (dd_cons de_int dd_nil))) dd_nil)) (dd_cons de_bl dd_nil)))) dd_nil)))))
  (dss_cons (ds_set (i := 1) sc__law_answers_right.nd rfl (by first | exact Or.inl rfl | exact Or.inr rfl) (de_bin op_addF u_add (de_var 1) (de_lst (dd_cons (de_tup (dd_cons (de_tup (dd_cons de_int dd_nil)) (dd_cons (de_lst (dd_cons (de_tup (dd_cons de_int (dd_cons de_int dd_nil))) (dd_cons (de_tup (dd_cons de_int (dd_cons de_int dd_nil))) dd_nil))) (dd_cons de_bl dd_nil)))) dd_nil))))
  (dss_cons (ds_set (i := 1) sc__law_answers_right.nd rfl (by first | exact Or.inl rfl | exact Or.inr rfl) (de_bin op_addF u_add (de_var 1) (de_lst (dd_cons (de_tup (dd_cons (de_tup (dd_cons de_int dd_nil)) (dd_cons (de_lst (dd_cons (de_tup (dd_cons de_int (dd_cons de_int dd_nil))) dd_nil)) (dd_cons de_bl dd_nil)))) (dd_cons (de_tup (dd_cons (de_tup (dd_cons de_int (dd_cons de_int (dd_cons de_int dd_nil)))) (dd_cons (de_lst (dd_cons (de_tup (dd_cons de_int (dd_cons de_int dd_nil))) dd_nil)) (dd_cons de_bl dd_nil)))) dd_nil)))))
  (dss_cons (ds_set (i := 1) sc__law_answers_right.nd rfl (by first | exact Or.inl rfl | exact Or.inr rfl) (de_bin op_addF u_add (de_var 1) (de_lst (dd_cons (de_tup (dd_cons (de_tup (dd_cons de_int (dd_cons de_int dd_nil))) (dd_cons (de_lst (dd_cons (de_tup (dd_cons de_int (dd_cons de_int dd_nil))) (dd_cons (de_tup (dd_cons de_int (dd_cons de_int dd_nil))) dd_nil))) (dd_cons de_bl dd_nil)))) dd_nil))))
  (dss_cons (ds_for (ts := [2, 3, 4]) [] (passes_of rfl) rfl itsOk_seq (di_seq (de_var 1)) (dg_tup rfl (dgs_cons (dg_name (i := 2) sc__law_answers_right.nd rfl (by first | exact Or.inl rfl | exact Or.inr rfl) (by decide)) (dgs_cons (dg_name (i := 3) sc__law_answers_right.nd rfl (by first | exact Or.inl rfl | exact Or.inr rfl) (by decide)) (dgs_cons (dg_name (i := 4) sc__law_answers_right.nd rfl (by first | exact Or.inl rfl | exact Or.inr rfl) (by decide)) dgs_nil))) 3) (dss_cons (ds_if (dt_cmp (op_neD hr.units) u_ne (de_meth (de_new (n := 2) T.mk_Saving (ok_Saving___init__ T TB) (hr.mono (by omega)) rfl T.g_Saving T.Saving___init__.b .nil (fun _ => RepL.nil) (takes_of rfl rfl rfl rfl) (da_cons (de_var 2) (da_cons (de_var 3) da_nil)) (argLen_cons (argLen_cons argLen_nil))) T.cls_Saving T.meth_Saving_shows (ok_Saving_shows T TB) (hr.mono (by omega)) T.Saving_shows.b (by decide +kernel) (da_cons (de_var 0) da_nil) (argLen_cons argLen_nil)) (de_var 4)) (dss_cons (ds_ret de_bl)
  dss_nil) dss_nil)
  dss_nil))
  (dss_cons (ds_set (i := 5) sc__law_answers_right.nd rfl (by first | exact Or.inl rfl | exact Or.inr rfl) (de_call (ok__law_three T TB) (hr.mono (by omega)) rfl T.g__law_three T._law_three.F.kp T._law_three.b (takes_of rfl rfl rfl rfl) (da_cons de_int (da_cons de_int (da_cons de_int da_nil))) (argLen_cons (argLen_cons (argLen_cons argLen_nil)))))
  (dss_cons (ds_set (i := 1) sc__law_answers_right.nd rfl (by first | exact Or.inl rfl | exact Or.inr rfl) (de_lst (dd_cons (de_tup (dd_cons (de_tup (dd_cons de_int (dd_cons de_int dd_nil))) (dd_cons (de_lst (dd_cons (de_tup (dd_cons de_int (dd_cons de_int dd_nil))) dd_nil)) (dd_cons de_bl dd_nil)))) (dd_cons (de_tup (dd_cons (de_tup (dd_cons de_int (dd_cons de_int dd_nil))) (dd_cons (de_lst (dd_cons (de_tup (dd_cons de_int (dd_cons de_int dd_nil))) (dd_cons (de_tup (dd_cons de_int (dd_cons de_int dd_nil))) dd_nil))) (dd_cons de_bl dd_nil)))) dd_nil))))
  (dss_cons (ds_set (i := 1) sc__law_answers_right.nd rfl (by first | exact Or.inl rfl | exact Or.inr rfl) (de_bin op_addF u_add (de_var 1) (de_lst (dd_cons (de_tup (dd_cons (de_tup (dd_cons de_int (dd_cons de_int dd_nil))) (dd_cons (de_lst (dd_cons (de_tup (dd_cons de_int (dd_cons de_int dd_nil))) dd_nil)) (dd_cons de_bl dd_nil)))) (dd_cons (de_tup (dd_cons (de_tup (dd_cons de_int (dd_cons de_int dd_nil))) (dd_cons (de_lst (dd_cons (de_tup (dd_cons de_int (dd_cons de_int dd_nil))) (dd_cons (de_tup (dd_cons de_int (dd_cons de_int dd_nil))) dd_nil))) (dd_cons de_bl dd_nil)))) dd_nil)))))
  (dss_cons (ds_for (ts := [2, 3, 4]) [] (passes_of rfl) rfl itsOk_seq (di_seq (de_var 1)) (dg_tup rfl (dgs_cons (dg_name (i := 2) sc__law_answers_right.nd rfl (by first | exact Or.inl rfl | exact Or.inr rfl) (by decide)) (dgs_cons (dg_name (i := 3) sc__law_answers_right.nd rfl (by first | exact Or.inl rfl | exact Or.inr rfl) (by decide)) (dgs_cons (dg_name (i := 4) sc__law_answers_right.nd rfl (by first | exact Or.inl rfl | exact Or.inr rfl) (by decide)) dgs_nil))) 3) (dss_cons (ds_if (dt_cmp (op_neD hr.units) u_ne (de_meth (de_new (n := 2) T.mk_Saving (ok_Saving___init__ T TB) (hr.mono (by omega)) rfl T.g_Saving T.Saving___init__.b .nil (fun _ => RepL.nil) (takes_of rfl rfl rfl rfl) (da_cons (de_var 2) (da_cons (de_var 3) da_nil)) (argLen_cons (argLen_cons argLen_nil))) T.cls_Saving T.meth_Saving_shows (ok_Saving_shows T TB) (hr.mono (by omega)) T.Saving_shows.b (by decide +kernel) (da_cons (de_var 5) da_nil) (argLen_cons argLen_nil)) (de_var 4)) (dss_cons (ds_ret de_bl)
  dss_nil) dss_nil)
  dss_nil))
  (dss_cons (ds_set (i := 6) sc__law_answers_right.nd rfl (by first | exact Or.inl rfl | exact Or.inr rfl) (de_new (n := 2) T.mk_Network (ok_Network___init__ T TB) (hr.mono (by omega)) rfl T.g_Network T.Network___init__.b .nil (fun _ => RepL.nil) (takes_of rfl rfl rfl rfl) (da_cons de_int (da_cons (de_asD (de_lst (dd_cons (de_new (n := 2) T.mk_Swap (ok_Swap___init__ T TB) (hr.mono (by omega)) rfl T.g_Swap T.Swap___init__.b0.choose_spec.2 T.Swap___init__.b0.choose_spec.1 (fun _ => RepL.one rep_int) (takes_of rfl rfl rfl rfl) (da_cons de_int (da_cons de_int da_nil)) (argLen_cons (argLen_cons argLen_nil))) dd_nil))) da_nil)) (argLen_cons (argLen_cons argLen_nil))))
  (dss_cons (ds_set (i := 1) sc__law_answers_right.nd rfl (by first | exact Or.inl rfl | exact Or.inr rfl) (de_lst (dd_cons (de_tup (dd_cons (de_lst (dd_cons (de_tup (dd_cons de_int (dd_cons de_int dd_nil))) (dd_cons (de_tup (dd_cons de_int (dd_cons de_int dd_nil))) dd_nil))) (dd_cons de_bl dd_nil))) (dd_cons (de_tup (dd_cons (de_lst (dd_cons (de_tup (dd_cons de_int (dd_cons de_int dd_nil))) dd_nil)) (dd_cons de_bl dd_nil))) (dd_cons (de_tup (dd_cons (de_lst (dd_cons (de_tup (dd_cons de_int (dd_cons de_int dd_nil))) dd_nil)) (dd_cons de_bl dd_nil))) (dd_cons (de_tup (dd_cons (de_lst dd_nil) (dd_cons de_bl dd_nil))) dd_nil))))))
  (dss_cons (ds_set (i := 1) sc__law_answers_right.nd rfl (by first | exact Or.inl rfl | exact Or.inr rfl) (de_bin op_addF u_add (de_var 1) (de_lst (dd_cons (de_tup (dd_cons (de_lst (dd_cons (de_tup (dd_cons de_int (dd_cons de_int dd_nil))) (dd_cons (de_tup (dd_cons de_int (dd_cons de_int dd_nil))) dd_nil))) (dd_cons de_bl dd_nil))) dd_nil))))
  (dss_cons (ds_ret (de_all rfl rfl T.z_all (de_lc (own := [("_law_doubts", 3), ("_law_due", 4)]) rfl sc__law_answers_right.nd itsOk_seq (di_seq (de_var 1)) (blkOk_by (by kernel_rfl)) (fun _ _ _ _ _ => (dg_tup rfl (dgs_cons (dg_name (i := 3) sc__law_answers_right.nd rfl (by first | exact Or.inl rfl | exact Or.inr rfl) (by decide)) (dgs_cons (dg_name (i := 4) sc__law_answers_right.nd rfl (by first | exact Or.inl rfl | exact Or.inr rfl) (by decide)) dgs_nil)) 2)) (fun _ _ _ _ _ => dts_nil) (fun _ _ _ _ _ => (de_cmp (op_eqD hr.units) u_eq (de_meth (de_new (n := 1) T.mk_NoSaving (ok_NoSaving___init__ T TB) (hr.mono (by omega)) rfl T.g_NoSaving T.NoSaving___init__.b .nil (fun _ => RepL.nil) takes0 (da_cons (de_var 3) da_nil) (argLen_cons argLen_nil)) T.cls_NoSaving T.meth_NoSaving_shows (ok_NoSaving_shows T TB) (hr.mono (by omega)) T.NoSaving_shows.b (by decide +kernel) (da_cons (de_var 6) da_nil) (argLen_cons argLen_nil)) (de_var 4))))))
  dss_nil)))))))))))))))))
theorem ok_parted (T : Txt g K mg) (TB : Tbs T base) : FnOk P w K mg base (L2.CX P w) 5 T.parted.f T.parted.fd ["network"] (spF g 1 F_parted) := fn_okF T.parted.F sc_parted rfl rfl (fun cdv A outer s H E hr =>
  (dss_cons (ds_par (i := 1) (j := 2) rfl sc_parted.nd rfl rfl (by decide) rfl rfl (da_cons (de_lst dd_nil) (da_cons (de_lst dd_nil) da_nil)) (by rfl))
  (dss_cons (ds_for (ts := [3]) [3] (passes_of rfl) rfl itsOk_seq (di_seq (de_call (ok_all_sets T TB) (hr.mono (by omega)) rfl T.g_all_sets T.all_sets.F.kp T.all_sets.b (takes_of rfl rfl rfl rfl) (da_cons (de_var 0) da_nil) (argLen_cons argLen_nil))) (dg_name (i := 3) sc_parted.nd rfl (by first | exact Or.inl rfl | exact Or.inr rfl) (by decide)) (dss_cons (ds_if (dt_val (de_call (ok_is_safe T TB) (hr.mono (by omega)) rfl T.g_is_safe T.is_safe.F.kp T.is_safe.b (takes_of rfl rfl rfl rfl) (da_cons (de_var 0) (da_cons (de_var 3) da_nil)) (argLen_cons (argLen_cons argLen_nil)))) (dss_cons (ds_expr (de_append (nVar (i := 1)) (dd_cons (de_var 3) dd_nil)))
  dss_nil) (dss_cons (ds_expr (de_append (nVar (i := 2)) (dd_cons (de_var 3) dd_nil)))
  dss_nil))
  dss_nil))
  (dss_cons (ds_ret (de_tup (dd_cons (de_var 1) (dd_cons (de_var 2) dd_nil))))
  dss_nil))))
theorem ok_harmless_sets (T : Txt g K mg) (TB : Tbs T base) : FnOk P w K mg base (L2.CX P w) 6 T.harmless_sets.f T.harmless_sets.fd ["network"] (spF g 1 F_harmless_sets) := fn_okF T.harmless_sets.F sc_harmless_sets rfl rfl (fun cdv A outer s H E hr =>
  (dss_cons (ds_expr (de_call (ok_check_network T TB) (hr.mono (by omega)) rfl T.g_check_network T.check_network.F.kp T.check_network.b (takes_of rfl rfl rfl rfl) (da_cons (de_var 0) da_nil) (argLen_cons argLen_nil)))
  (dss_cons (ds_ret (de_ix T.hK (de_call (ok_parted T TB) (hr.mono (by omega)) rfl T.g_parted T.parted.F.kp T.parted.b (takes_of rfl rfl rfl rfl) (da_cons (de_var 0) da_nil) (argLen_cons argLen_nil)) de_int))
  dss_nil)))
theorem ok_is_within (T : Txt g K mg) (TB : Tbs T base) : FnOk P w K mg base (L2.CX P w) 1 T.is_within.f T.is_within.fd ["one", "other"] (spF g 2 F_is_within) := fn_okF T.is_within.F sc_is_within rfl rfl (fun cdv A outer s H E hr =>
  (dss_cons (ds_ret (de_all rfl rfl T.z_all (de_lc (own := [("at", 2)]) rfl sc_is_within.nd itsOk_seq (di_seq (de_var 0)) (blkOk_by (by kernel_rfl)) (fun _ _ _ _ _ => (dg_name (i := 2) sc_is_within.nd rfl (by first | exact Or.inl rfl | exact Or.inr rfl) (by decide))) (fun _ _ _ _ _ => dts_nil) (fun _ _ _ _ _ => (de_cmp (op_inF (room65 hr)) u_in (de_var 2) (de_var 1) (hm := by with_unfolding_all rfl))))))
  dss_nil))
theorem ok_maximal_sets (T : Txt g K mg) (TB : Tbs T base) : FnOk P w K mg base (L2.CX P w) 7 T.maximal_sets.f T.maximal_sets.fd ["network"] (spF g 1 F_maximal_sets) := fn_okF T.maximal_sets.F sc_maximal_sets rfl rfl (fun cdv A outer s H E hr =>
  (dss_cons (ds_set (i := 1) sc_maximal_sets.nd rfl (by first | exact Or.inl rfl | exact Or.inr rfl) (de_call (ok_harmless_sets T TB) (hr.mono (by omega)) rfl T.g_harmless_sets T.harmless_sets.F.kp T.harmless_sets.b (takes_of rfl rfl rfl rfl) (da_cons (de_var 0) da_nil) (argLen_cons argLen_nil)))
  (dss_cons (ds_ret (de_lc (own := [("one", 2)]) rfl sc_maximal_sets.nd itsOk_seq (di_seq (de_var 1)) (blkOk_by (by kernel_rfl)) (fun _ _ _ _ _ => (dg_name (i := 2) sc_maximal_sets.nd rfl (by first | exact Or.inl rfl | exact Or.inr rfl) (by decide))) (fun _ _ _ _ _ => (dts_one (dt_not (dt_val (de_any rfl rfl T.z_any (de_lc (own := [("other", 3)]) rfl sc_maximal_sets.nd itsOk_seq (di_seq (de_var 1)) (blkOk_by (by kernel_rfl)) (fun _ _ _ _ _ => (dg_name (i := 3) sc_maximal_sets.nd rfl (by first | exact Or.inl rfl | exact Or.inr rfl) (by decide))) (fun _ _ _ _ _ => dts_nil) (fun _ _ _ _ _ => (de_and (de_call (ok_is_within T TB) (hr.mono (by omega)) rfl T.g_is_within T.is_within.F.kp T.is_within.b takes0 (da_cons (de_var 2) (da_cons (de_var 3) da_nil)) (argLen_cons (argLen_cons argLen_nil))) (de_one (de_cmp (op_neD hr.units) u_ne (de_var 2) (de_var 3))))))))))) (fun _ _ _ _ _ => (de_var 2))))
  dss_nil)))
theorem ok_least_harmful (T : Txt g K mg) (TB : Tbs T base) : FnOk P w K mg base (L2.CX P w) 6 T.least_harmful.f T.least_harmful.fd ["network"] (spF g 1 F_least_harmful) := fn_okF T.least_harmful.F sc_least_harmful rfl rfl (fun cdv A outer s H E hr =>
  (dss_cons (ds_expr (de_call (ok_check_network T TB) (hr.mono (by omega)) rfl T.g_check_network T.check_network.F.kp T.check_network.b (takes_of rfl rfl rfl rfl) (da_cons (de_var 0) da_nil) (argLen_cons argLen_nil)))
  (dss_cons (ds_set (i := 1) sc_least_harmful.nd rfl (by first | exact Or.inl rfl | exact Or.inr rfl) (de_ix T.hK (de_call (ok_parted T TB) (hr.mono (by omega)) rfl T.g_parted T.parted.F.kp T.parted.b (takes_of rfl rfl rfl rfl) (da_cons (de_var 0) da_nil) (argLen_cons argLen_nil)) de_int))
  (dss_cons (ds_ret (de_lc (own := [("one", 2)]) rfl sc_least_harmful.nd itsOk_seq (di_seq (de_var 1)) (blkOk_by (by kernel_rfl)) (fun _ _ _ _ _ => (dg_name (i := 2) sc_least_harmful.nd rfl (by first | exact Or.inl rfl | exact Or.inr rfl) (by decide))) (fun _ _ _ _ _ => (dts_one (dt_not (dt_val (de_any rfl rfl T.z_any (de_lc (own := [("other", 3)]) rfl sc_least_harmful.nd itsOk_seq (di_seq (de_var 1)) (blkOk_by (by kernel_rfl)) (fun _ _ _ _ _ => (dg_name (i := 3) sc_least_harmful.nd rfl (by first | exact Or.inl rfl | exact Or.inr rfl) (by decide))) (fun _ _ _ _ _ => dts_nil) (fun _ _ _ _ _ => (de_and (de_call (ok_is_within T TB) (hr.mono (by omega)) rfl T.g_is_within T.is_within.F.kp T.is_within.b takes0 (da_cons (de_var 3) (da_cons (de_var 2) da_nil)) (argLen_cons (argLen_cons argLen_nil))) (de_one (de_cmp (op_neD hr.units) u_ne (de_var 2) (de_var 3))))))))))) (fun _ _ _ _ _ => (de_var 2))))
  dss_nil))))
theorem ok_one_more (T : Txt g K mg) (TB : Tbs T base) : FnOk P w K mg base (L2.CX P w) 2 T.one_more.f T.one_more.fd ["lower", "upper"] (spF g 2 F_one_more) := fn_okF T.one_more.F sc_one_more rfl rfl (fun cdv A outer s H E hr =>
  (dss_cons (ds_setLc2 (i := 2) (own := [("one", 3), ("other", 4)]) [4] rfl sc_one_more.nd rfl rfl (by rfl) itsOk_seq (di_seq (de_var 0)) (blkOk_by (by kernel_rfl)) (by decide) (fun _ _ _ _ _ => (dg_name (i := 3) sc_one_more.nd rfl (by first | exact Or.inl rfl | exact Or.inr rfl) (by decide))) (fun _ _ _ _ _ => dts_nil) (fun _ _ _ _ _ => (di_seq (de_var 1))) (fun _ _ _ _ _ => (dg_name (i := 4) sc_one_more.nd rfl (by first | exact Or.inl rfl | exact Or.inr rfl) (by decide))) (fun _ _ _ _ _ => (dts_one (dt_cmp (op_eqD hr.units) u_eq (de_len T.hK rfl T.z_len (de_var 4)) (de_bin op_addF u_add (de_len T.hK rfl T.z_len (de_var 3)) de_int)))) (fun _ _ _ _ _ => (de_tup (dd_cons (de_var 3) (dd_cons (de_var 4) dd_nil)))))
  (dss_cons (ds_ret (de_lc (own := [("one", 3), ("other", 4)]) rfl sc_one_more.nd itsOk_seq (di_seq (de_var 2)) (blkOk_by (by kernel_rfl)) (fun _ _ _ _ _ => (dg_tup rfl (dgs_cons (dg_name (i := 3) sc_one_more.nd rfl (by first | exact Or.inl rfl | exact Or.inr rfl) (by decide)) (dgs_cons (dg_name (i := 4) sc_one_more.nd rfl (by first | exact Or.inl rfl | exact Or.inr rfl) (by decide)) dgs_nil)) 2)) (fun _ _ _ _ _ => (dts_one (dt_val (de_call (ok_is_within T TB) (hr.mono (by omega)) rfl T.g_is_within T.is_within.F.kp T.is_within.b takes0 (da_cons (de_var 3) (da_cons (de_var 4) da_nil)) (argLen_cons (argLen_cons argLen_nil)))))) (fun _ _ _ _ _ => (de_tup (dd_cons (de_var 3) (dd_cons (de_var 4) dd_nil))))))
  dss_nil)))
theorem ok_rescues (T : Txt g K mg) (TB : Tbs T base) : FnOk P w K mg base (L2.CX P w) 6 T.rescues.f T.rescues.fd ["network"] (spF g 1 F_rescues) := fn_okF T.rescues.F sc_rescues rfl rfl (fun cdv A outer s H E hr =>
  (dss_cons (ds_expr (de_call (ok_check_network T TB) (hr.mono (by omega)) rfl T.g_check_network T.check_network.F.kp T.check_network.b (takes_of rfl rfl rfl rfl) (da_cons (de_var 0) da_nil) (argLen_cons argLen_nil)))
  (dss_cons (ds_asg (ts := [1, 2]) (de_call (ok_parted T TB) (hr.mono (by omega)) rfl T.g_parted T.parted.F.kp T.parted.b (takes_of rfl rfl rfl rfl) (da_cons (de_var 0) da_nil) (argLen_cons argLen_nil)) (dg_tup rfl (dgs_cons (dg_name (i := 1) sc_rescues.nd rfl (by first | exact Or.inl rfl | exact Or.inr rfl) (by decide)) (dgs_cons (dg_name (i := 2) sc_rescues.nd rfl (by first | exact Or.inl rfl | exact Or.inr rfl) (by decide)) dgs_nil)) 2))
  (dss_cons (ds_ret (de_call (ok_one_more T TB) (hr.mono (by omega)) rfl T.g_one_more T.one_more.F.kp T.one_more.b (takes_of rfl rfl rfl rfl) (da_cons (de_var 2) (da_cons (de_var 1) da_nil)) (argLen_cons (argLen_cons argLen_nil))))
  dss_nil))))
theorem ok_breaches (T : Txt g K mg) (TB : Tbs T base) : FnOk P w K mg base (L2.CX P w) 6 T.breaches.f T.breaches.fd ["network"] (spF g 1 F_breaches) := fn_okF T.breaches.F sc_breaches rfl rfl (fun cdv A outer s H E hr =>
  (dss_cons (ds_expr (de_call (ok_check_network T TB) (hr.mono (by omega)) rfl T.g_check_network T.check_network.F.kp T.check_network.b (takes_of rfl rfl rfl rfl) (da_cons (de_var 0) da_nil) (argLen_cons argLen_nil)))
  (dss_cons (ds_asg (ts := [1, 2]) (de_call (ok_parted T TB) (hr.mono (by omega)) rfl T.g_parted T.parted.F.kp T.parted.b (takes_of rfl rfl rfl rfl) (da_cons (de_var 0) da_nil) (argLen_cons argLen_nil)) (dg_tup rfl (dgs_cons (dg_name (i := 1) sc_breaches.nd rfl (by first | exact Or.inl rfl | exact Or.inr rfl) (by decide)) (dgs_cons (dg_name (i := 2) sc_breaches.nd rfl (by first | exact Or.inl rfl | exact Or.inr rfl) (by decide)) dgs_nil)) 2))
  (dss_cons (ds_ret (de_call (ok_one_more T TB) (hr.mono (by omega)) rfl T.g_one_more T.one_more.F.kp T.one_more.b (takes_of rfl rfl rfl rfl) (da_cons (de_var 1) (da_cons (de_var 2) da_nil)) (argLen_cons (argLen_cons argLen_nil))))
  dss_nil))))
theorem ok__law_families_right (T : Txt g K mg) (TB : Tbs T base) : FnOk P w K mg base (L2.CX P w) 8 T._law_families_right.f T._law_families_right.fd ["_law_worth"] (spF g 1 F__law_families_right) := fn_okF T._law_families_right.F sc__law_families_right rfl rfl (fun cdv A outer s H E hr =>
  (dss_cons (ds_set (i := 1) sc__law_families_right.nd rfl (by first | exact Or.inl rfl | exact Or.inr rfl) (de_call (ok__law_three T TB) (hr.mono (by omega)) rfl T.g__law_three T._law_three.F.kp T._law_three.b (takes_of rfl rfl rfl rfl) (da_cons (de_var 0) (da_cons de_int (da_cons de_int da_nil))) (argLen_cons (argLen_cons (argLen_cons argLen_nil)))))
  (dss_cons (ds_if (dt_cmp (op_neD hr.units) u_ne (de_call (ok_harmless_sets T TB) (hr.mono (by omega)) rfl T.g_harmless_sets T.harmless_sets.F.kp T.harmless_sets.b (takes_of rfl rfl rfl rfl) (da_cons (de_var 1) da_nil) (argLen_cons argLen_nil)) (de_lst (dd_cons (de_tup dd_nil) (dd_cons (de_tup (dd_cons de_int dd_nil)) (dd_cons (de_tup (dd_cons de_int dd_nil)) (dd_cons (de_tup (dd_cons de_int (dd_cons de_int dd_nil))) (dd_cons (de_tup (dd_cons de_int (dd_cons de_int dd_nil))) dd_nil))))))) (dss_cons (ds_ret de_bl)
  dss_nil) dss_nil)
  (dss_cons (ds_if (dt_cmp (op_neD hr.units) u_ne (de_call (ok_maximal_sets T TB) (hr.mono (by omega)) rfl T.g_maximal_sets T.maximal_sets.F.kp T.maximal_sets.b (takes_of rfl rfl rfl rfl) (da_cons (de_var 1) da_nil) (argLen_cons argLen_nil)) (de_lst (dd_cons (de_tup (dd_cons de_int (dd_cons de_int dd_nil))) (dd_cons (de_tup (dd_cons de_int (dd_cons de_int dd_nil))) dd_nil)))) (dss_cons (ds_ret de_bl)
  dss_nil) dss_nil)
  (dss_cons (ds_if (dt_cmp (op_neD hr.units) u_ne (de_call (ok_least_harmful T TB) (hr.mono (by omega)) rfl T.g_least_harmful T.least_harmful.F.kp T.least_harmful.b (takes_of rfl rfl rfl rfl) (da_cons (de_var 1) da_nil) (argLen_cons argLen_nil)) (de_lst (dd_cons (de_tup (dd_cons de_int dd_nil)) dd_nil))) (dss_cons (ds_ret de_bl)
  dss_nil) dss_nil)
  (dss_cons (ds_if (dt_cmp (op_neD hr.units) u_ne (de_call (ok_rescues T TB) (hr.mono (by omega)) rfl T.g_rescues T.rescues.F.kp T.rescues.b (takes_of rfl rfl rfl rfl) (da_cons (de_var 1) da_nil) (argLen_cons argLen_nil)) (de_lst (dd_cons (de_tup (dd_cons (de_tup (dd_cons de_int dd_nil)) (dd_cons (de_tup (dd_cons de_int (dd_cons de_int dd_nil))) dd_nil))) dd_nil))) (dss_cons (ds_ret de_bl)
  dss_nil) dss_nil)
  (dss_cons (ds_if (dt_cmp (op_neD hr.units) u_ne (de_call (ok_breaches T TB) (hr.mono (by omega)) rfl T.g_breaches T.breaches.F.kp T.breaches.b (takes_of rfl rfl rfl rfl) (da_cons (de_var 1) da_nil) (argLen_cons argLen_nil)) (de_lst (dd_cons (de_tup (dd_cons (de_tup dd_nil) (dd_cons (de_tup (dd_cons de_int dd_nil)) dd_nil))) (dd_cons (de_tup (dd_cons (de_tup (dd_cons de_int dd_nil)) (dd_cons (de_tup (dd_cons de_int (dd_cons de_int dd_nil))) dd_nil))) (dd_cons (de_tup (dd_cons (de_tup (dd_cons de_int (dd_cons de_int dd_nil))) (dd_cons (de_tup (dd_cons de_int (dd_cons de_int (dd_cons de_int dd_nil)))) dd_nil))) (dd_cons (de_tup (dd_cons (de_tup (dd_cons de_int (dd_cons de_int dd_nil))) (dd_cons (de_tup (dd_cons de_int (dd_cons de_int (dd_cons de_int dd_nil)))) dd_nil))) dd_nil)))))) (dss_cons (ds_ret de_bl)
  dss_nil) dss_nil)
  (dss_cons (ds_set (i := 2) sc__law_families_right.nd rfl (by first | exact Or.inl rfl | exact Or.inr rfl) (de_new (n := 2) T.mk_Network (ok_Network___init__ T TB) (hr.mono (by omega)) rfl T.g_Network T.Network___init__.b .nil (fun _ => RepL.nil) (takes_of rfl rfl rfl rfl) (da_cons de_int (da_cons (de_asD (de_lst (dd_cons (de_new (n := 2) T.mk_Swap (ok_Swap___init__ T TB) (hr.mono (by omega)) rfl T.g_Swap T.Swap___init__.b0.choose_spec.2 T.Swap___init__.b0.choose_spec.1 (fun _ => RepL.one rep_int) (takes_of rfl rfl rfl rfl) (da_cons de_int (da_cons de_int da_nil)) (argLen_cons (argLen_cons argLen_nil))) (dd_cons (de_new (n := 2) T.mk_Swap (ok_Swap___init__ T TB) (hr.mono (by omega)) rfl T.g_Swap T.Swap___init__.b0.choose_spec.2 T.Swap___init__.b0.choose_spec.1 (fun _ => RepL.one rep_int) (takes_of rfl rfl rfl rfl) (da_cons de_int (da_cons de_int da_nil)) (argLen_cons (argLen_cons argLen_nil))) (dd_cons (de_new (n := 2) T.mk_Swap (ok_Swap___init__ T TB) (hr.mono (by omega)) rfl T.g_Swap T.Swap___init__.b0.choose_spec.2 T.Swap___init__.b0.choose_spec.1 (fun _ => RepL.one rep_int) (takes_of rfl rfl rfl rfl) (da_cons de_int (da_cons de_int da_nil)) (argLen_cons (argLen_cons argLen_nil))) (dd_cons (de_new (n := 2) T.mk_Swap (ok_Swap___init__ T TB) (hr.mono (by omega)) rfl T.g_Swap T.Swap___init__.b0.choose_spec.2 T.Swap___init__.b0.choose_spec.1 (fun _ => RepL.one rep_int) (takes_of rfl rfl rfl rfl) (da_cons de_int (da_cons de_int da_nil)) (argLen_cons (argLen_cons argLen_nil))) (dd_cons (de_new (n := 2) T.mk_Swap (ok_Swap___init__ T TB) (hr.mono (by omega)) rfl T.g_Swap T.Swap___init__.b0.choose_spec.2 T.Swap___init__.b0.choose_spec.1 (fun _ => RepL.one rep_int) (takes_of rfl rfl rfl rfl) (da_cons de_int (da_cons de_int da_nil)) (argLen_cons (argLen_cons argLen_nil))) dd_nil))))))) da_nil)) (argLen_cons (argLen_cons argLen_nil))))
  (dss_cons (ds_if (dt_cmp (op_neD hr.units) u_ne (de_call (ok_harmless_sets T TB) (hr.mono (by omega)) rfl T.g_harmless_sets T.harmless_sets.F.kp T.harmless_sets.b (takes_of rfl rfl rfl rfl) (da_cons (de_var 2) da_nil) (argLen_cons argLen_nil)) (de_lst (dd_cons (de_tup dd_nil) dd_nil))) (dss_cons (ds_ret de_bl)
  dss_nil) dss_nil)
  (dss_cons (ds_if (dt_cmp (op_neD hr.units) u_ne (de_call (ok_least_harmful T TB) (hr.mono (by omega)) rfl T.g_least_harmful T.least_harmful.F.kp T.least_harmful.b (takes_of rfl rfl rfl rfl) (da_cons (de_var 2) da_nil) (argLen_cons argLen_nil)) (de_lst (dd_cons (de_tup (dd_cons de_int dd_nil)) (dd_cons (de_tup (dd_cons de_int dd_nil)) (dd_cons (de_tup (dd_cons de_int dd_nil)) (dd_cons (de_tup (dd_cons de_int dd_nil)) (dd_cons (de_tup (dd_cons de_int dd_nil)) dd_nil))))))) (dss_cons (ds_ret de_bl)
  dss_nil) dss_nil)
  (dss_cons (ds_if (dt_cmp (op_neD hr.units) u_ne (de_call (ok_rescues T TB) (hr.mono (by omega)) rfl T.g_rescues T.rescues.F.kp T.rescues.b (takes_of rfl rfl rfl rfl) (da_cons (de_var 2) da_nil) (argLen_cons argLen_nil)) (de_lst dd_nil)) (dss_cons (ds_ret de_bl)
  dss_nil) dss_nil)
  (dss_cons (ds_set (i := 3) sc__law_families_right.nd rfl (by first | exact Or.inl rfl | exact Or.inr rfl) (de_new (n := 2) T.mk_Network (ok_Network___init__ T TB) (hr.mono (by omega)) rfl T.g_Network T.Network___init__.b .nil (fun _ => RepL.nil) (takes_of rfl rfl rfl rfl) (da_cons de_int (da_cons (de_asD (de_lst (dd_cons (de_new (n := 2) T.mk_Swap (ok_Swap___init__ T TB) (hr.mono (by omega)) rfl T.g_Swap T.Swap___init__.b0.choose_spec.2 T.Swap___init__.b0.choose_spec.1 (fun _ => RepL.one rep_int) (takes_of rfl rfl rfl rfl) (da_cons de_int (da_cons de_int da_nil)) (argLen_cons (argLen_cons argLen_nil))) (dd_cons (de_new (n := 2) T.mk_Swap (ok_Swap___init__ T TB) (hr.mono (by omega)) rfl T.g_Swap T.Swap___init__.b0.choose_spec.2 T.Swap___init__.b0.choose_spec.1 (fun _ => RepL.one rep_int) (takes_of rfl rfl rfl rfl) (da_cons de_int (da_cons de_int da_nil)) (argLen_cons (argLen_cons argLen_nil))) (dd_cons (de_new (n := 2) T.mk_Swap (ok_Swap___init__ T TB) (hr.mono (by omega)) rfl T.g_Swap T.Swap___init__.b0.choose_spec.2 T.Swap___init__.b0.choose_spec.1 (fun _ => RepL.one rep_int) (takes_of rfl rfl rfl rfl) (da_cons de_int (da_cons de_int da_nil)) (argLen_cons (argLen_cons argLen_nil))) (dd_cons (de_new (n := 2) T.mk_Swap (ok_Swap___init__ T TB) (hr.mono (by omega)) rfl T.g_Swap T.Swap___init__.b0.choose_spec.2 T.Swap___init__.b0.choose_spec.1 (fun _ => RepL.one rep_int) (takes_of rfl rfl rfl rfl) (da_cons de_int (da_cons de_int da_nil)) (argLen_cons (argLen_cons argLen_nil))) (dd_cons (de_new (n := 2) T.mk_Swap (ok_Swap___init__ T TB) (hr.mono (by omega)) rfl T.g_Swap T.Swap___init__.b0.choose_spec.2 T.Swap___init__.b0.choose_spec.1 (fun _ => RepL.one rep_int) (takes_of rfl rfl rfl rfl) (da_cons de_int (da_cons de_int da_nil)) (argLen_cons (argLen_cons argLen_nil))) (dd_cons (de_new (n := 2) T.mk_Swap (ok_Swap___init__ T TB) (hr.mono (by omega)) rfl T.g_Swap T.Swap___init__.b0.choose_spec.2 T.Swap___init__.b0.choose_spec.1 (fun _ => RepL.one rep_int) (takes_of rfl rfl rfl rfl) (da_cons de_int (da_cons de_int da_nil)) (argLen_cons (argLen_cons argLen_nil))) dd_nil)))))))) da_nil)) (argLen_cons (argLen_cons argLen_nil))))
  (dss_cons (ds_if (dt_cmp (op_neD hr.units) u_ne (de_call (ok_harmless_sets T TB) (hr.mono (by omega)) rfl T.g_harmless_sets T.harmless_sets.F.kp T.harmless_sets.b (takes_of rfl rfl rfl rfl) (da_cons (de_var 3) da_nil) (argLen_cons argLen_nil)) (de_lst (dd_cons (de_tup dd_nil) (dd_cons (de_tup (dd_cons de_int dd_nil)) (dd_cons (de_tup (dd_cons de_int dd_nil)) dd_nil))))) (dss_cons (ds_ret de_bl)
  dss_nil) dss_nil)
  (dss_cons (ds_if (dt_cmp (op_neD hr.units) u_ne (de_call (ok_maximal_sets T TB) (hr.mono (by omega)) rfl T.g_maximal_sets T.maximal_sets.F.kp T.maximal_sets.b (takes_of rfl rfl rfl rfl) (da_cons (de_var 3) da_nil) (argLen_cons argLen_nil)) (de_lst (dd_cons (de_tup (dd_cons de_int dd_nil)) (dd_cons (de_tup (dd_cons de_int dd_nil)) dd_nil)))) (dss_cons (ds_ret de_bl)
  dss_nil) dss_nil)
  (dss_cons (ds_if (dt_cmp (op_neD hr.units) u_ne (de_ix T.hK (de_call (ok_breaches T TB) (hr.mono (by omega)) rfl T.g_breaches T.breaches.F.kp T.breaches.b (takes_of rfl rfl rfl rfl) (da_cons (de_var 3) da_nil) (argLen_cons argLen_nil)) (de_un un_neg u_neg de_int)) (de_tup (dd_cons (de_tup (dd_cons de_int dd_nil)) (dd_cons (de_tup (dd_cons de_int (dd_cons de_int dd_nil))) dd_nil)))) (dss_cons (ds_ret de_bl)
  dss_nil) dss_nil)
  (dss_cons (ds_set (i := 4) sc__law_families_right.nd rfl (by first | exact Or.inl rfl | exact Or.inr rfl) (de_new (n := 2) T.mk_Network (ok_Network___init__ T TB) (hr.mono (by omega)) rfl T.g_Network T.Network___init__.b .nil (fun _ => RepL.nil) (takes_of rfl rfl rfl rfl) (da_cons de_int (da_cons (de_asD (de_lst dd_nil)) da_nil)) (argLen_cons (argLen_cons argLen_nil))))
  (dss_cons (ds_if (PW.pt (dw_or (dt_cmp (op_neD hr.units) u_ne (de_call (ok_harmless_sets T TB) (hr.mono (by omega)) rfl T.g_harmless_sets T.harmless_sets.F.kp T.harmless_sets.b (takes_of rfl rfl rfl rfl) (da_cons (de_var 4) da_nil) (argLen_cons argLen_nil)) (de_lst dd_nil)) (dw_or1 (dt_cmp (op_neD hr.units) u_ne (de_call (ok_maximal_sets T TB) (hr.mono (by omega)) rfl T.g_maximal_sets T.maximal_sets.F.kp T.maximal_sets.b (takes_of rfl rfl rfl rfl) (da_cons (de_var 4) da_nil) (argLen_cons argLen_nil)) (de_lst dd_nil))))) (dss_cons (ds_ret de_bl)
  dss_nil) dss_nil)
  (dss_cons (ds_ret (de_and (de_cmp (op_eqD hr.units) u_eq (de_call (ok_least_harmful T TB) (hr.mono (by omega)) rfl T.g_least_harmful T.least_harmful.F.kp T.least_harmful.b (takes_of rfl rfl rfl rfl) (da_cons (de_var 4) da_nil) (argLen_cons argLen_nil)) (de_lst (dd_cons (de_tup dd_nil) dd_nil))) (de_one (de_cmp (op_eqD hr.units) u_eq (de_call (ok_breaches T TB) (hr.mono (by omega)) rfl T.g_breaches T.breaches.F.kp T.breaches.b (takes_of rfl rfl rfl rfl) (da_cons (de_var 4) da_nil) (argLen_cons argLen_nil)) (de_lst dd_nil)))))
  dss_nil))))))))))))))))))
theorem ok_first_witness (T : Txt g K mg) (TB : Tbs T base) : FnOk P w K mg base (L2.CX P w) 4 T.first_witness.f T.first_witness.fd ["network", "some"] (spF g 2 F_first_witness) := fn_okF T.first_witness.F sc_first_witness rfl rfl (fun cdv A outer s H E hr =>
  (dss_cons (ds_for (ts := [2]) [2] (passes_of rfl) rfl itsOk_seq (di_seq (de_call (ok_bit_rows T TB) (hr.mono (by omega)) rfl T.g_bit_rows T.bit_rows.F.kp T.bit_rows.b (takes_of rfl rfl rfl rfl) (da_cons (de_attr [1] (de_var 0) (fun c hc => by cases List.mem_singleton.mp hc; exact T.fld_1_width)) da_nil) (argLen_cons argLen_nil))) (dg_name (i := 2) sc_first_witness.nd rfl (by first | exact Or.inl rfl | exact Or.inr rfl) (by decide)) (dss_cons (ds_if (dt_val (de_call (ok_is_against T TB) (hr.mono (by omega)) rfl T.g_is_against T.is_against.F.kp T.is_against.b (takes_of rfl rfl rfl rfl) (da_cons (de_var 0) (da_cons (de_var 1) (da_cons (de_var 2) da_nil))) (argLen_cons (argLen_cons (argLen_cons argLen_nil))))) (dss_cons (ds_ret (de_var 2))
  dss_nil) dss_nil)
  dss_nil))
  (dss_cons (ds_ret de_non)
  dss_nil)))
theorem ok_greatest (T : Txt g K mg) (TB : Tbs T base) : FnOk P w K mg base (L2.CX P w) 5 T.greatest.f T.greatest.fd ["network"] (spF g 1 F_greatest) := fn_okL TB.greatest T.greatest.F sc_greatest rfl rfl (fun cdv lt A outer s H E hr =>
  (dss_cons (ds_expr (de_call (ok_check_network T TB) (hr.mono (by omega)) rfl T.g_check_network T.check_network.F.kp T.check_network.b (takes_of rfl rfl rfl rfl) (da_cons (de_var 0) da_nil) (argLen_cons argLen_nil)))
  (dss_cons (ds_setO (i := 1) sc_greatest.nd rfl (by first | exact Or.inl rfl | exact Or.inr rfl) (de_lst dd_nil))
  (dss_cons (ds_set (i := 2) sc_greatest.nd rfl (by first | exact Or.inl rfl | exact Or.inr rfl) (de_call (ok_all_sets T TB) (hr.mono (by omega)) rfl T.g_all_sets T.all_sets.F.kp T.all_sets.b (takes_of rfl rfl rfl rfl) (da_cons (de_var 0) da_nil) (argLen_cons argLen_nil)))
  (dss_cons (ds_for (ts := [3]) [3] (passes_of rfl) rfl itsOk_seq (di_seq (de_sortK (i := 5) (m := 1) lt (hr.mono (by omega)) rfl T.z_sorted (lamP_by (by kernel_rfl)) rfl (fun _ _ _ _ _ _ => rfl) sc_greatest.nd rfl (de_var 2) (fun A outer s H f' c' hr => (de_asD (de_tup (dd_cons (de_un un_neg u_neg (de_call (ok_worth_of T TB) (hr.mono (by omega)) rfl T.g_worth_of T.worth_of.F.kp T.worth_of.b takes0 (da_cons (de_var 0) (da_cons (de_var 5) da_nil)) (argLen_cons (argLen_cons argLen_nil)))) (dd_cons (de_len T.hK rfl T.z_len (de_var 5)) (dd_cons (de_var 5) dd_nil)))))))) (dg_name (i := 3) sc_greatest.nd rfl (by first | exact Or.inl rfl | exact Or.inr rfl) (by decide)) (dss_cons (ds_if (dt_not (dt_val (de_any rfl rfl T.z_any (de_lc (own := [("row", 4)]) rfl sc_greatest.nd itsOk_seq (di_seq (de_var 1)) (blkOk_by (by kernel_rfl)) (fun _ _ _ _ _ => (dg_name (i := 4) sc_greatest.nd rfl (by first | exact Or.inl rfl | exact Or.inr rfl) (by decide))) (fun _ _ _ _ _ => dts_nil) (fun _ _ _ _ _ => (de_call (ok_is_against T TB) (hr.mono (by omega)) rfl T.g_is_against T.is_against.F.kp T.is_against.b takes0 (da_cons (de_var 0) (da_cons (de_var 3) (da_cons (de_var 4) da_nil))) (argLen_cons (argLen_cons (argLen_cons argLen_nil))))))))) (dss_cons (ds_set (i := 4) sc_greatest.nd rfl (by first | exact Or.inl rfl | exact Or.inr rfl) (de_call (ok_first_witness T TB) (hr.mono (by omega)) rfl T.g_first_witness T.first_witness.F.kp T.first_witness.b (takes_of rfl rfl rfl rfl) (da_cons (de_var 0) (da_cons (de_var 3) da_nil)) (argLen_cons (argLen_cons argLen_nil))))
  (dss_cons (ds_if (dt_cmp op_isN u_isN (de_var 4) de_non) (dss_cons (ds_ret (de_new (n := 2) T.mk_Saving (ok_Saving___init__ T TB) (hr.mono (by omega)) rfl T.g_Saving T.Saving___init__.b .nil (fun _ => RepL.nil) (takes_of rfl rfl rfl rfl) (da_cons (de_var 3) (da_cons (de_var 1) da_nil)) (argLen_cons (argLen_cons argLen_nil))))
  dss_nil) dss_nil)
  (dss_cons (ds_expr (de_append (nVar (i := 1)) (dd_cons (de_var 4) dd_nil)))
  dss_nil))) dss_nil)
  dss_nil))
  (dss_cons (ds_ret (de_new (n := 1) T.mk_NoSaving (ok_NoSaving___init__ T TB) (hr.mono (by omega)) rfl T.g_NoSaving T.NoSaving___init__.b .nil (fun _ => RepL.nil) (takes_of rfl rfl rfl rfl) (da_cons (de_var 1) da_nil) (argLen_cons argLen_nil)))
  dss_nil))))))
theorem ok_check_set (T : Txt g K mg) (TB : Tbs T base) : FnOk P w K mg base (L2.CX P w) 3 T.check_set.f T.check_set.fd ["network", "some"] (spF g 2 F_check_set) := fn_okF T.check_set.F sc_check_set rfl rfl (fun cdv A outer s H E hr =>
  (dss_cons (ds_expr (de_call (ok_check_network T TB) (hr.mono (by omega)) rfl T.g_check_network T.check_network.F.kp T.check_network.b (takes_of rfl rfl rfl rfl) (da_cons (de_var 0) da_nil) (argLen_cons argLen_nil)))
  (dss_cons (ds_set (i := 2) sc_check_set.nd rfl (by first | exact Or.inl rfl | exact Or.inr rfl) (de_bin op_sub u_sub (de_len T.hK rfl T.z_len (de_attr [1] (de_var 0) (fun c hc => by cases List.mem_singleton.mp hc; exact T.fld_1_steps))) de_int))
  (dss_cons (ds_if (PW.pt (dw_or (dt_not (dt_val (de_isi rfl T.z_isinstance (isiOk_tuple) (.ty _) (de_var 1) (de_tyN rfl T.z_tuple (by rfl))))) (dw_or1 (dt_not (dt_val (de_all rfl rfl T.z_all (de_lc (own := [("one", 3)]) rfl sc_check_set.nd itsOk_seq (di_seq (de_var 1)) (blkOk_by (by kernel_rfl)) (fun _ _ _ _ _ => (dg_name (i := 3) sc_check_set.nd rfl (by first | exact Or.inl rfl | exact Or.inr rfl) (by decide))) (fun _ _ _ _ _ => dts_nil) (fun _ _ _ _ _ => (de_call (ok_is_integer T TB) (hr.mono (by omega)) rfl T.g_is_integer T.is_integer.F.kp T.is_integer.b takes0 (da_cons (de_var 3) (da_cons de_int (da_cons (de_var 2) da_nil))) (argLen_cons (argLen_cons (argLen_cons argLen_nil)))))))))))) (dss_cons (ds_raise rfl (takes_of rfl rfl rfl rfl) T.ex_BadSet rfl)
  dss_nil) dss_nil)
  (dss_cons (ds_if (dt_not (dt_val (de_all rfl rfl T.z_all (de_lc (own := [("one", 3), ("other", 4)]) rfl sc_check_set.nd itsOk_zip (di_zip rfl T.z_zip (de_var 1) (de_slice2 T.hK (de_var 1) (do_some de_int) do_none)) (blkOk_by (by kernel_rfl)) (fun _ _ _ _ _ => (dg_tup rfl (dgs_cons (dg_name (i := 3) sc_check_set.nd rfl (by first | exact Or.inl rfl | exact Or.inr rfl) (by decide)) (dgs_cons (dg_name (i := 4) sc_check_set.nd rfl (by first | exact Or.inl rfl | exact Or.inr rfl) (by decide)) dgs_nil)) 2)) (fun _ _ _ _ _ => dts_nil) (fun _ _ _ _ _ => (de_cmp op_lt u_lt (de_var 3) (de_var 4))))))) (dss_cons (ds_raise rfl (takes_of rfl rfl rfl rfl) T.ex_BadSet rfl)
  dss_nil) dss_nil)
  dss_nil)))))
theorem ok_saved (T : Txt g K mg) (TB : Tbs T base) : FnOk P w K mg base (L2.CX P w) 4 T.saved.f T.saved.fd ["network", "some"] (spF g 2 F_saved) := fn_okF T.saved.F sc_saved rfl rfl (fun cdv A outer s H E hr =>
  (dss_cons (ds_expr (de_call (ok_check_set T TB) (hr.mono (by omega)) rfl T.g_check_set T.check_set.F.kp T.check_set.b (takes_of rfl rfl rfl rfl) (da_cons (de_var 0) (da_cons (de_var 1) da_nil)) (argLen_cons (argLen_cons argLen_nil))))
  (dss_cons (ds_ret (de_call (ok_worth_of T TB) (hr.mono (by omega)) rfl T.g_worth_of T.worth_of.F.kp T.worth_of.b (takes_of rfl rfl rfl rfl) (da_cons (de_var 0) (da_cons (de_var 1) da_nil)) (argLen_cons (argLen_cons argLen_nil))))
  dss_nil)))
theorem ok_witness (T : Txt g K mg) (TB : Tbs T base) : FnOk P w K mg base (L2.CX P w) 5 T.witness.f T.witness.fd ["network", "some"] (spF g 2 F_witness) := fn_okF T.witness.F sc_witness rfl rfl (fun cdv A outer s H E hr =>
  (dss_cons (ds_expr (de_call (ok_check_set T TB) (hr.mono (by omega)) rfl T.g_check_set T.check_set.F.kp T.check_set.b (takes_of rfl rfl rfl rfl) (da_cons (de_var 0) (da_cons (de_var 1) da_nil)) (argLen_cons (argLen_cons argLen_nil))))
  (dss_cons (ds_ret (de_call (ok_first_witness T TB) (hr.mono (by omega)) rfl T.g_first_witness T.first_witness.F.kp T.first_witness.b (takes_of rfl rfl rfl rfl) (da_cons (de_var 0) (da_cons (de_var 1) da_nil)) (argLen_cons (argLen_cons argLen_nil))))
  dss_nil)))
theorem ok_is_witness (T : Txt g K mg) (TB : Tbs T base) : FnOk P w K mg base (L2.CX P w) 4 T.is_witness.f T.is_witness.fd ["network", "some", "row"] (spF g 3 F_is_witness) := fn_okF T.is_witness.F sc_is_witness rfl rfl (fun cdv A outer s H E hr =>
  (dss_cons (ds_expr (de_call (ok_check_set T TB) (hr.mono (by omega)) rfl T.g_check_set T.check_set.F.kp T.check_set.b (takes_of rfl rfl rfl rfl) (da_cons (de_var 0) (da_cons (de_var 1) da_nil)) (argLen_cons (argLen_cons argLen_nil))))
  (dss_cons (ds_if (PW.pt (dw_or (dt_not (dt_val (de_call (ok_is_row T TB) (hr.mono (by omega)) rfl T.g_is_row T.is_row.F.kp T.is_row.b (takes_of rfl rfl rfl rfl) (da_cons (de_attr [1] (de_var 0) (fun c hc => by cases List.mem_singleton.mp hc; exact T.fld_1_width)) (da_cons (de_var 2) da_nil)) (argLen_cons (argLen_cons argLen_nil))))) (dw_or1 (dt_not (dt_val (de_all rfl rfl T.z_all (de_lc (own := [("one", 3)]) rfl sc_is_witness.nd itsOk_seq (di_seq (de_var 2)) (blkOk_by (by kernel_rfl)) (fun _ _ _ _ _ => (dg_name (i := 3) sc_is_witness.nd rfl (by first | exact Or.inl rfl | exact Or.inr rfl) (by decide))) (fun _ _ _ _ _ => dts_nil) (fun _ _ _ _ _ => (de_cmp (op_inF (room65 hr)) u_in (de_var 3) (de_tup (dd_cons de_int (dd_cons de_int dd_nil))) (hm := by with_unfolding_all rfl)))))))))) (dss_cons (ds_raise rfl (takes_of rfl rfl rfl rfl) T.ex_BadRow rfl)
  dss_nil) dss_nil)
  (dss_cons (ds_ret (de_call (ok_is_against T TB) (hr.mono (by omega)) rfl T.g_is_against T.is_against.F.kp T.is_against.b (takes_of rfl rfl rfl rfl) (da_cons (de_var 0) (da_cons (de_var 1) (da_cons (de_var 2) da_nil))) (argLen_cons (argLen_cons (argLen_cons argLen_nil)))))
  dss_nil))))
theorem ok__law_savings_right (T : Txt g K mg) (TB : Tbs T base) : FnOk P w K mg base (L2.CX P w) 6 T._law_savings_right.f T._law_savings_right.fd ["_law_worth"] (spF g 1 F__law_savings_right) := fn_okF T._law_savings_right.F sc__law_savings_right rfl rfl (fun cdv A outer s H E hr =>
  (dss_cons (ds_set (i := 1) sc__law_savings_right.nd rfl (by first | exact Or.inl rfl | exact Or.inr rfl) (de_lst (dd_cons (de_tup (dd_cons (de_tup (dd_cons de_int (dd_cons de_int (dd_cons de_int dd_nil)))) (dd_cons (de_tup (dd_cons de_int (dd_cons de_int dd_nil))) dd_nil))) (dd_cons (de_tup (dd_cons (de_tup (dd_cons de_int (dd_cons de_int (dd_cons de_int dd_nil)))) (dd_cons (de_tup (dd_cons de_int (dd_cons de_int dd_nil))) dd_nil))) (dd_cons (de_tup (dd_cons (de_tup (dd_cons de_int (dd_cons de_int (dd_cons de_int dd_nil)))) (dd_cons (de_tup (dd_cons de_int (dd_cons de_int dd_nil))) dd_nil))) dd_nil)))))
  (dss_cons (ds_set (i := 1) sc__law_savings_right.nd rfl (by first | exact Or.inl rfl | exact Or.inr rfl) (de_bin op_addF u_add (de_var 1) (de_lst (dd_cons (de_tup (dd_cons (de_tup (dd_cons de_int (dd_cons de_int (dd_cons de_int dd_nil)))) (dd_cons (de_tup (dd_cons de_int (dd_cons de_int dd_nil))) dd_nil))) (dd_cons (de_tup (dd_cons (de_tup (dd_cons (de_bin op_addF u_add de_int (de_var 0)) (dd_cons de_int (dd_cons (de_var 0) dd_nil)))) (dd_cons (de_tup (dd_cons de_int (dd_cons de_int dd_nil))) dd_nil))) dd_nil)))))
  (dss_cons (ds_set (i := 1) sc__law_savings_right.nd rfl (by first | exact Or.inl rfl | exact Or.inr rfl) (de_bin op_addF u_add (de_var 1) (de_lst (dd_cons (de_tup (dd_cons (de_tup (dd_cons (de_var 0) (dd_cons de_int (dd_cons (de_bin op_addF u_add de_int (de_var 0)) dd_nil)))) (dd_cons (de_tup (dd_cons de_int (dd_cons de_int dd_nil))) dd_nil))) dd_nil))))
  (dss_cons (ds_for (ts := [2, 3]) [2, 3] (passes_of rfl) rfl itsOk_seq (di_seq (de_var 1)) (dg_tup rfl (dgs_cons (dg_name (i := 2) sc__law_savings_right.nd rfl (by first | exact Or.inl rfl | exact Or.inr rfl) (by decide)) (dgs_cons (dg_name (i := 3) sc__law_savings_right.nd rfl (by first | exact Or.inl rfl | exact Or.inr rfl) (by decide)) dgs_nil)) 2) (dss_cons (ds_set (i := 4) sc__law_savings_right.nd rfl (by first | exact Or.inl rfl | exact Or.inr rfl) (de_call (ok__law_three T TB) (hr.mono (by omega)) rfl T.g__law_three T._law_three.F.kp T._law_three.b (takes_of rfl rfl rfl rfl) (da_cons (de_ix T.hK (de_var 2) de_int) (da_cons (de_ix T.hK (de_var 2) de_int) (da_cons (de_ix T.hK (de_var 2) de_int) da_nil))) (argLen_cons (argLen_cons (argLen_cons argLen_nil)))))
  (dss_cons (ds_set (i := 5) sc__law_savings_right.nd rfl (by first | exact Or.inl rfl | exact Or.inr rfl) (de_call (ok_greatest T TB) (hr.mono (by omega)) rfl T.g_greatest T.greatest.F.kp T.greatest.b (takes_of rfl rfl rfl rfl) (da_cons (de_var 4) da_nil) (argLen_cons argLen_nil)))
  (dss_cons (ds_if (dt_cmp (op_neD hr.units) u_ne (de_attr [3] (de_var 5) (fun c hc => by cases List.mem_singleton.mp hc; exact T.fld_3_left_out)) (de_var 3)) (dss_cons (ds_ret de_bl)
  dss_nil) dss_nil)
  (dss_cons (ds_if (dt_cmp op_notBl u_notB (de_meth (de_var 5) T.cls_Saving T.meth_Saving_shows (ok_Saving_shows T TB) (hr.mono (by omega)) T.Saving_shows.b (by decide +kernel) (da_cons (de_var 4) da_nil) (argLen_cons argLen_nil)) de_bl) (dss_cons (ds_ret de_bl)
  dss_nil) dss_nil)
  (dss_cons (ds_if (dt_cmp (op_neD hr.units) u_ne (de_call (ok_saved T TB) (hr.mono (by omega)) rfl T.g_saved T.saved.F.kp T.saved.b (takes_of rfl rfl rfl rfl) (da_cons (de_var 4) (da_cons (de_var 3) da_nil)) (argLen_cons (argLen_cons argLen_nil))) (de_bin op_addF u_add (de_ix T.hK (de_var 2) de_int) (de_max2 rfl rfl T.z_max (de_ix T.hK (de_var 2) de_int) (de_ix T.hK (de_var 2) de_int)))) (dss_cons (ds_ret de_bl)
  dss_nil) dss_nil)
  dss_nil))))))
  (dss_cons (ds_set (i := 4) sc__law_savings_right.nd rfl (by first | exact Or.inl rfl | exact Or.inr rfl) (de_call (ok__law_three T TB) (hr.mono (by omega)) rfl T.g__law_three T._law_three.F.kp T._law_three.b (takes_of rfl rfl rfl rfl) (da_cons de_int (da_cons de_int (da_cons de_int da_nil))) (argLen_cons (argLen_cons (argLen_cons argLen_nil)))))
  (dss_cons (ds_set (i := 1) sc__law_savings_right.nd rfl (by first | exact Or.inl rfl | exact Or.inr rfl) (de_lst (dd_cons (de_tup (dd_cons (de_tup dd_nil) (dd_cons de_non dd_nil))) (dd_cons (de_tup (dd_cons (de_tup (dd_cons de_int dd_nil)) (dd_cons de_non dd_nil))) (dd_cons (de_tup (dd_cons (de_tup (dd_cons de_int dd_nil)) (dd_cons (de_tup (dd_cons de_int (dd_cons de_int dd_nil))) dd_nil))) (dd_cons (de_tup (dd_cons (de_tup (dd_cons de_int (dd_cons de_int dd_nil))) (dd_cons (de_tup (dd_cons de_int (dd_cons de_int dd_nil))) dd_nil))) dd_nil))))))
  (dss_cons (ds_set (i := 1) sc__law_savings_right.nd rfl (by first | exact Or.inl rfl | exact Or.inr rfl) (de_bin op_addF u_add (de_var 1) (de_lst (dd_cons (de_tup (dd_cons (de_tup (dd_cons de_int (dd_cons de_int (dd_cons de_int dd_nil)))) (dd_cons (de_tup (dd_cons de_int (dd_cons de_int dd_nil))) dd_nil))) (dd_cons (de_tup (dd_cons (de_tup (dd_cons de_int (dd_cons de_int dd_nil))) (dd_cons de_non dd_nil))) dd_nil)))))
  (dss_cons (ds_if (dt_not (dt_val (de_all rfl rfl T.z_all (de_lc (own := [("_law_some", 7), ("_law_due", 3)]) rfl sc__law_savings_right.nd itsOk_seq (di_seq (de_var 1)) (blkOk_by (by kernel_rfl)) (fun _ _ _ _ _ => (dg_tup rfl (dgs_cons (dg_name (i := 7) sc__law_savings_right.nd rfl (by first | exact Or.inl rfl | exact Or.inr rfl) (by decide)) (dgs_cons (dg_name (i := 3) sc__law_savings_right.nd rfl (by first | exact Or.inl rfl | exact Or.inr rfl) (by decide)) dgs_nil)) 2)) (fun _ _ _ _ _ => dts_nil) (fun _ _ _ _ _ => (de_cmp (op_eqD hr.units) u_eq (de_call (ok_witness T TB) (hr.mono (by omega)) rfl T.g_witness T.witness.F.kp T.witness.b takes0 (da_cons (de_var 4) (da_cons (de_var 7) da_nil)) (argLen_cons (argLen_cons argLen_nil))) (de_var 3))))))) (dss_cons (ds_ret de_bl)
  dss_nil) dss_nil)
  (dss_cons (ds_set (i := 1) sc__law_savings_right.nd rfl (by first | exact Or.inl rfl | exact Or.inr rfl) (de_lst (dd_cons (de_tup (dd_cons (de_tup (dd_cons de_int dd_nil)) (dd_cons (de_tup (dd_cons de_int (dd_cons de_int dd_nil))) (dd_cons de_bl dd_nil)))) (dd_cons (de_tup (dd_cons (de_tup (dd_cons de_int dd_nil)) (dd_cons (de_tup (dd_cons de_int (dd_cons de_int dd_nil))) (dd_cons de_bl dd_nil)))) (dd_cons (de_tup (dd_cons (de_tup (dd_cons de_int dd_nil)) (dd_cons (de_tup (dd_cons de_int (dd_cons de_int dd_nil))) (dd_cons de_bl dd_nil)))) dd_nil)))))
  (dss_cons (ds_set (i := 1) sc__law_savings_right.nd rfl (by first | exact Or.inl rfl | exact Or.inr rfl) (de_bin op_addF u_add (de_var 1) (de_lst (dd_cons (de_tup (dd_cons (de_tup (dd_cons de_int (dd_cons de_int (dd_cons de_int dd_nil)))) (dd_cons (de_tup (dd_cons de_int (dd_cons de_int dd_nil))) (dd_cons de_bl dd_nil)))) (dd_cons (de_tup (dd_cons (de_tup (dd_cons de_int (dd_cons de_int (dd_cons de_int dd_nil)))) (dd_cons (de_tup (dd_cons de_int (dd_cons de_int dd_nil))) (dd_cons de_bl dd_nil)))) (dd_cons (de_tup (dd_cons (de_tup dd_nil) (dd_cons (de_tup (dd_cons de_int (dd_cons de_int dd_nil))) (dd_cons de_bl dd_nil)))) dd_nil))))))
  (dss_cons (ds_if (dt_not (dt_val (de_all rfl rfl T.z_all (de_lc (own := [("_law_some", 7), ("_law_row", 8), ("_law_due", 3)]) rfl sc__law_savings_right.nd itsOk_seq (di_seq (de_var 1)) (blkOk_by (by kernel_rfl)) (fun _ _ _ _ _ => (dg_tup rfl (dgs_cons (dg_name (i := 7) sc__law_savings_right.nd rfl (by first | exact Or.inl rfl | exact Or.inr rfl) (by decide)) (dgs_cons (dg_name (i := 8) sc__law_savings_right.nd rfl (by first | exact Or.inl rfl | exact Or.inr rfl) (by decide)) (dgs_cons (dg_name (i := 3) sc__law_savings_right.nd rfl (by first | exact Or.inl rfl | exact Or.inr rfl) (by decide)) dgs_nil))) 3)) (fun _ _ _ _ _ => dts_nil) (fun _ _ _ _ _ => (de_cmp (op_eqD hr.units) u_eq (de_call (ok_is_witness T TB) (hr.mono (by omega)) rfl T.g_is_witness T.is_witness.F.kp T.is_witness.b takes0 (da_cons (de_var 4) (da_cons (de_var 7) (da_cons (de_var 8) da_nil))) (argLen_cons (argLen_cons (argLen_cons argLen_nil)))) (de_var 3))))))) (dss_cons (ds_ret de_bl)
  dss_nil) dss_nil)
  (dss_cons (ds_for (ts := [6]) [6] (passes_of rfl) rfl itsOk_seq (di_seq (de_tup (dd_cons (de_new (n := 2) T.mk_Network (ok_Network___init__ T TB) (hr.mono (by omega)) rfl T.g_Network T.Network___init__.b .nil (fun _ => RepL.nil) (takes_of rfl rfl rfl rfl) (da_cons de_int (da_cons (de_asD (de_lst dd_nil)) da_nil)) (argLen_cons (argLen_cons argLen_nil))) (dd_cons (de_new (n := 2) T.mk_Network (ok_Network___init__ T TB) (hr.mono (by omega)) rfl T.g_Network T.Network___init__.b .nil (fun _ => RepL.nil) (takes_of rfl rfl rfl rfl) (da_cons de_int (da_cons (de_asD (de_lst (dd_cons (de_new (n := 2) T.mk_Swap (ok_Swap___init__ T TB) (hr.mono (by omega)) rfl T.g_Swap T.Swap___init__.b0.choose_spec.2 T.Swap___init__.b0.choose_spec.1 (fun _ => RepL.one rep_int) (takes_of rfl rfl rfl rfl) (da_cons de_int (da_cons de_int da_nil)) (argLen_cons (argLen_cons argLen_nil))) dd_nil))) da_nil)) (argLen_cons (argLen_cons argLen_nil))) (dd_cons (de_new (n := 2) T.mk_Network (ok_Network___init__ T TB) (hr.mono (by omega)) rfl T.g_Network T.Network___init__.b .nil (fun _ => RepL.nil) (takes_of rfl rfl rfl rfl) (da_cons de_int (da_cons (de_asD (de_lst (dd_cons (de_new (n := 2) T.mk_Swap (ok_Swap___init__ T TB) (hr.mono (by omega)) rfl T.g_Swap T.Swap___init__.b0.choose_spec.2 T.Swap___init__.b0.choose_spec.1 (fun _ => RepL.one rep_int) (takes_of rfl rfl rfl rfl) (da_cons de_int (da_cons de_int da_nil)) (argLen_cons (argLen_cons argLen_nil))) (dd_cons (de_new (n := 2) T.mk_Swap (ok_Swap___init__ T TB) (hr.mono (by omega)) rfl T.g_Swap T.Swap___init__.b0.choose_spec.2 T.Swap___init__.b0.choose_spec.1 (fun _ => RepL.one rep_int) (takes_of rfl rfl rfl rfl) (da_cons de_int (da_cons de_int da_nil)) (argLen_cons (argLen_cons argLen_nil))) dd_nil)))) da_nil)) (argLen_cons (argLen_cons argLen_nil))) dd_nil))))) (dg_name (i := 6) sc__law_savings_right.nd rfl (by first | exact Or.inl rfl | exact Or.inr rfl) (by decide)) (dss_cons (ds_set (i := 5) sc__law_savings_right.nd rfl (by first | exact Or.inl rfl | exact Or.inr rfl) (de_call (ok_greatest T TB) (hr.mono (by omega)) rfl T.g_greatest T.greatest.F.kp T.greatest.b (takes_of rfl rfl rfl rfl) (da_cons (de_var 6) da_nil) (argLen_cons argLen_nil)))
  (dss_cons (ds_if (PW.pt (dw_or (dt_not (dt_val (de_isi rfl T.z_isinstance (isi_own T.ins_NoSaving) (.own _) (de_var 5) (de_clN rfl T.g_NoSaving)))) (dw_or (dt_cmp op_notBl u_notB (de_meth (de_var 5) T.cls_NoSaving T.meth_NoSaving_shows (ok_NoSaving_shows T TB) (hr.mono (by omega)) T.NoSaving_shows.b (by decide +kernel) (da_cons (de_var 6) da_nil) (argLen_cons argLen_nil)) de_bl) (dw_or1 (dt_cmp (op_eqD hr.units) u_eq (de_attr [4] (de_var 5) (fun c hc => by cases List.mem_singleton.mp hc; exact T.fld_4_doubts)) (de_lst dd_nil)))))) (dss_cons (ds_ret de_bl)
  dss_nil) dss_nil)
  dss_nil)))
  (dss_cons (ds_ret de_bl)
  dss_nil))))))))))))))
theorem ok_law (T : Txt g K mg) (TB : Tbs T base) : FnOk P w K mg base (L2.CX P w) 9 T.law.f T.law.fd ["_law_script"] (spF g 1 F_law) := fn_okF T.law.F sc_law rfl rfl (fun cdv A outer s H E hr =>
  (dss_cons (ds_tryN (dss_cons (ds_for (ts := [1]) [1, 2] PassesOwn.never rfl itsOk_seq (di_seq (de_bin op_addF u_add (de_lst (dd_cons de_int dd_nil)) (de_slice2 T.hK (de_var 0) do_none (do_some de_int)))) (dg_name (i := 1) sc_law.nd rfl (by first | exact Or.inl rfl | exact Or.inr rfl) (by decide)) (dss_cons (ds_set (i := 2) sc_law.nd rfl (by first | exact Or.inl rfl | exact Or.inr rfl) (de_bin op_addF u_add de_int (de_bin op_mod u_mod (de_abs rfl T.z_abs (de_var 1)) de_int)))
  (dss_cons (ds_if (PW.pt (dw_or (dt_not (dt_val (de_call (ok__law_families_right T TB) (hr.mono (by omega)) rfl T.g__law_families_right T._law_families_right.F.kp T._law_families_right.b takes0 (da_cons (de_var 2) da_nil) (argLen_cons argLen_nil)))) (dw_or1 (dt_not (dt_val (de_call (ok__law_savings_right T TB) (hr.mono (by omega)) rfl T.g__law_savings_right T._law_savings_right.F.kp T._law_savings_right.b takes0 (da_cons (de_var 2) da_nil) (argLen_cons argLen_nil))))))) (dss_cons (ds_ret de_bl)
  dss_nil) dss_nil)
  dss_nil)))
  (dss_cons (ds_ret (de_and (de_call0 (ok__law_rows_right T TB) (hr.mono (by omega)) rfl T.g__law_rows_right T._law_rows_right.F.kp T._law_rows_right.b takes0) (de_one (de_call0 (ok__law_answers_right T TB) (hr.mono (by omega)) rfl T.g__law_answers_right T._law_answers_right.F.kp T._law_answers_right.b takes0))))
  dss_nil)))
  dss_nil))
end
end K34

/-! Ev: the functions of the layer, evaluated by simp -/
namespace Fx
open PySem L2
universe u
/-- an equation that simp is not to see as one by definition: the kernel would compare the ends alone -/
theorem nr {α : Sort u} {a b : α} (h : a = b) : a = b := h
section
/-- one after the other, seen from what the first gave; the type names k, so that simp leaves k alone -/
@[reducible] def RbT {α β : Type} (_ : α → En → Re β) : Type := Re β
def rb {α β : Type} (r : Re α) (k : α → En → Re β) : RbT k := match r with
  | .ok a E => k a E
  | .exc x E => .exc x E
  | .bad => .bad
@[simp] theorem rb_ok {α β : Type} {a : α} {E : En} {k : α → En → Re β} : rb (.ok a E) k = k a E := nr rfl
@[simp] theorem rb_exc {α β : Type} {x : Xc} {E : En} {k : α → En → Re β} : rb (.exc x E) k = .exc x E := nr rfl
@[simp] theorem rb_bad {α β : Type} {k : α → En → Re β} : rb .bad k = .bad := nr rfl
@[reducible] def ObT {α β : Type} (_ : α → Re β) : Type := Re β
def ob {α β : Type} (r : Option α) (k : α → Re β) : ObT k := match r with
  | some a => k a
  | none => .bad
@[simp] theorem ob_some {α β : Type} {a : α} {k : α → Re β} : ob (some a) k = k a := nr rfl
@[simp] theorem ob_none {α β : Type} {k : α → Re β} : ob none k = .bad := nr rfl
@[reducible] def CbT {β : Type} (_ : Re β) : Type := Re β
def cb {β : Type} (c : Prop) [Decidable c] (k : Re β) : CbT k := if c then k else .bad
theorem cb_pos {β : Type} {c : Prop} [Decidable c] {k : Re β} (h : c) : cb c k = k := if_pos h
@[simp] theorem cb_true {β : Type} {i : Decidable True} {k : Re β} : @cb β True i k = k := if_pos trivial
@[reducible] def TbT {β : Type} (_ _ : Re β) : Type := Re β
def tb {β : Type} (b : Bool) (s t : Re β) : TbT s t := match b with
  | true => s
  | false => t
@[simp] theorem tb_true {β : Type} {s t : Re β} : tb true s t = s := nr rfl
@[simp] theorem tb_false {β : Type} {s t : Re β} : tb false s t = t := nr rfl
theorem tb_if {β : Type} {b : Bool} {s t : Re β} : tb b s t = if b = true then s else t := by cases b <;> rfl
variable {α β : Type} {E E' : En} {f h : Mo Vl} {s t : Mo Fl} {c d : Mo Bool} {i j n m : Nat} {x y : D} {o : O} {a b : Vl}
@[simp] theorem ev_mb {f : Mo α} {k : α → Mo β} : mb f k E = rb (f E) k := by unfold mb; cases f E <;> rfl
@[simp] theorem ev_mp {a : α} : mp a E = .ok a E := nr rfl
@[simp] theorem ev_dC : dC x E = .ok (.dat x) E := nr rfl
def seqK (t : Mo Fl) : Fl → En → Re Fl
  | .next, E => t E
  | .ret a, E => .ok (.ret a) E
  | .brk, E => .ok .brk E
  | .cont, E => .ok .cont E
@[simp] theorem seqK1 : seqK t .next E = t E := nr rfl
@[simp] theorem seqK2 : seqK t (.ret a) E = .ok (.ret a) E := nr rfl
@[simp] theorem seqK3 : seqK t .brk E = .ok .brk E := nr rfl
@[simp] theorem seqK4 : seqK t .cont E = .ok .cont E := nr rfl
@[simp] theorem ev_seq : sSeq s t E = rb (s E) (seqK t) := by
  unfold sSeq mb; cases s E with
  | ok a E' => cases a <;> rfl
  | _ => rfl
@[simp] theorem ev_skip : sSkip E = .ok .next E := nr rfl
@[simp] theorem ev_var : dVar i E = (match E[i]? with
  | some (some (.dat d)) => .ok (.dat d) E
  | some (some (.own _)) => .ok (.loc i) E
  | some (some (.ref _)) => .ok (.loc i) E
  | _ => .bad) := nr rfl
@[simp] theorem ev_deref1 : deref E (.dat x) = some x := nr rfl
@[simp] theorem ev_deref2 : deref E (.own o) = oD o := nr rfl
@[simp] theorem ev_deref3 : deref E (.loc i) = (match E[i]? with
    | some (some (.own o)) => oD o
    | some (some (.ref o)) => oD o
    | _ => none) := nr rfl
@[simp] theorem ev_oD {xs : List D} : oD (.lst xs) = some (.lst xs) := nr rfl
@[simp] theorem ev_lift1 {o : D → Option Vl} : lift1 o a E = ob (deref E a) fun x => ob (o x) fun v => .ok v E := by
  unfold lift1 ob; cases deref E a with
  | none => rfl
  | some x => dsimp only; cases o x <;> rfl
@[simp] theorem ev_lift2 {o : D → D → Option Vl} : lift2 o a b E = ob (deref E a) fun x => ob (deref E b) fun y => ob (o x y) fun v => .ok v E := by
  unfold lift2 ob; cases deref E a with
  | none => rfl
  | some x =>
    dsimp only; cases deref E b with
    | none => rfl
    | some y => dsimp only; cases o x y <;> rfl
@[simp] theorem ev_d1 {o : D → Option Vl} : d1 o f E = rb (f E) (lift1 o) := by unfold d1; simp only [ev_mb]
@[simp] theorem ev_d2 {o : D → D → Option Vl} : d2 o f h E = rb (f E) fun a E => rb (h E) fun b E => lift2 o a b E := by unfold d2; simp only [ev_mb]; congr
@[simp] theorem ev_frz1 : frz (.dat x) E = .ok x E := nr rfl
@[simp] theorem ev_frz2 {xs : List D} : frz (.own (.lst xs)) E = .ok (.lst xs) E := nr rfl
@[simp] theorem ev_frz3 {k : Nat} {xs : List D} : frz (.own (.obj k xs)) E = cb ((xs.length == (cFn k).length) = true) (.ok (.ins k xs) E) := nr rfl
@[simp] theorem ev_frz4 : frz (.loc i) E = (match E[i]? with
    | some (some (.own (.lst xs))) => .ok (.lst xs) (E.set i (some (.dat (.lst xs))))
    | _ => .bad) := nr rfl
@[simp] theorem ev_frzM : frzM f E = rb (f E) frz := by unfold frzM; simp only [ev_mb]
@[simp] theorem ev_asD : asD f E = rb (f E) fun a E => rb (frz a E) fun d E => .ok (.dat d) E := by unfold asD; simp only [ev_mb]; congr
@[simp] theorem ev_drop : sDrop f E = rb (f E) fun _ E => .ok .next E := by unfold sDrop; simp only [ev_mb]; rfl
@[simp] theorem ev_ret : sRet f E = rb (f E) fun a E => .ok (.ret a) E := by unfold sRet; simp only [ev_mb]; rfl
theorem ite_fn {γ : Type} {b : Bool} {p q : En → γ} {E : En} : (if b = true then p else q) E = if b = true then p E else q E := by cases b <;> rfl
@[simp] theorem ev_if : sIf c s t E = rb (c E) fun b E => tb b (s E) (t E) := by
  unfold sIf; simp only [ev_mb]; congr; funext b E; cases b <;> rfl
def toBK : Vl → En → Re Bool
  | .dat (.bl b), E => .ok b E
  | _, _ => .bad
@[simp] theorem toBK1 {b : Bool} : toBK (.dat (.bl b)) E = .ok b E := nr rfl
@[simp] theorem ev_toB : toB f E = rb (f E) toBK := by
  unfold toB; simp only [ev_mb]; congr; funext a E; cases a with
    | dat d => cases d <;> rfl
    | _ => rfl
@[simp] theorem ev_not : bNot c E = rb (c E) fun b E => .ok (!b) E := by unfold bNot; simp only [ev_mb]; rfl
@[simp] theorem ev_and : bAnd c d E = rb (c E) fun b E => tb b (d E) (.ok false E) := by
  unfold bAnd; simp only [ev_mb]; congr; funext b E; cases b <;> rfl
@[simp] theorem ev_or : bOr c d E = rb (c E) fun b E => tb b (.ok true E) (d E) := by
  unfold bOr; simp only [ev_mb]; congr; funext b E; cases b <;> rfl
@[simp] theorem ev_dIf : dIf c f h E = rb (c E) fun b E => tb b (f E) (h E) := by
  unfold dIf; simp only [ev_mb]; congr; funext b E; cases b <;> rfl
@[simp] theorem ev_dAnd : dAnd f h E = rb (toB f E) fun b E => tb b (h E) (.ok (.dat (.bl false)) E) := by
  unfold dAnd; simp only [ev_mb]; congr; funext b E; cases b <;> rfl
@[simp] theorem ev_dOr : dOr f h E = rb (toB f E) fun b E => tb b (.ok (.dat (.bl true)) E) (h E) := by
  unfold dOr; simp only [ev_mb]; congr; funext b E; cases b <;> rfl
@[simp] theorem ev_dNot : dNot f E = rb (toB f E) fun b E => .ok (.dat (.bl (!b))) E := by unfold dNot; simp only [ev_mb]; rfl
@[simp] theorem ev_canSet0 : canSet (some none) = true := nr rfl
@[simp] theorem ev_canSet1 : canSet (some (some (.dat x))) = true := nr rfl
@[simp] theorem ev_canSet2 : canSet (some (some (.own o))) = true := nr rfl
@[simp] theorem ev_canSet3 : canSet (some (some (.ref o))) = false := nr rfl
@[simp] theorem ev_canSet4 : canSet (some (some .hid)) = false := nr rfl
@[simp] theorem ev_canSet5 {e : Option D} : canSet (some (e.map S.dat)) = true := by cases e <;> rfl
@[simp] theorem ev_setD : setD i x E = cb (canSet E[i]? = true) (.ok () (E.set i (some (.dat x)))) := nr rfl
@[simp] theorem ev_setO : setO i o E = cb (canSet E[i]? = true) (.ok () (E.set i (some (.own o)))) := nr rfl
@[simp] theorem ev_gN : gN i x = setD i x := nr rfl
@[simp] theorem ev_gsNil : gsNil [] E = .ok () E := nr rfl
@[simp] theorem ev_gsCons {t : D → Mo Unit} {u : List D → Mo Unit} {r : List D} : gsCons t u (x :: r) E = rb (t x E) fun _ E => u r E := by unfold gsCons; simp only [ev_mb]
@[simp] theorem ev_gTupF {t : List D → Mo Unit} {ds : List D} : gTupF n t (.tup ds) E = cb (ds.length = n) (t ds E) := by
  unfold gTupF cb; dsimp only; split <;> rfl
@[simp] theorem ev_sSet : sSet i f E = rb (frzM f E) fun x E => rb (setD i x E) fun _ E => .ok .next E := by unfold sSet; simp only [ev_mb]; congr
def setOK (i : Nat) : Vl → En → Re Fl
  | .own o, E => rb (setO i o E) fun _ E => .ok .next E
  | _, _ => .bad
@[simp] theorem setOK1 : setOK i (.own o) E = rb (setO i o E) fun _ E => .ok .next E := nr rfl
@[simp] theorem ev_sSetO : sSetO i f E = rb (f E) (setOK i) := by
  unfold sSetO; simp only [ev_mb]; congr; funext a E; cases a with
    | own o => simp only [ev_mb]; rfl
    | _ => rfl
@[simp] theorem ev_seqOf1 {ds : List D} : seqOf (.lst ds) = some ds := nr rfl
@[simp] theorem ev_seqOf2 {ds : List D} : seqOf (.tup ds) = some ds := nr rfl
@[simp] theorem ev_walk1 : walkOf (.dat x) E = ob (seqOf x) fun ds => .ok (ds, none) E := by unfold walkOf ob; dsimp only; cases seqOf x <;> rfl
@[simp] theorem ev_walk2 {ds : List D} : walkOf (.own (.lst ds)) E = .ok (ds, none) E := nr rfl
@[simp] theorem ev_walk3 : walkOf (.loc i) E = (match E[i]? with
    | some (some (.own (.lst ds))) => .ok (ds, some i) E
    | some (some (.ref (.lst ds))) => .ok (ds, some i) E
    | _ => .bad) := nr rfl
@[simp] theorem ev_iSeq : iSeq f E = rb (f E) walkOf := by unfold iSeq; simp only [ev_mb]
@[simp] theorem ev_kill0 : killE E [] = E := nr rfl
@[simp] theorem ev_kill1 {ks : List Nat} : killE E (i :: ks) = killE (if canSet E[i]? = true then E.set i none else E) ks := nr rfl
@[simp] theorem ev_onIts0 {okv : α → Bool} {ds : List D} {k : List D → Mo α} : onIts okv (ds, none) k E = k ds E := nr rfl
@[simp] theorem ev_onIts1 {okv : α → Bool} {ds : List D} {k : List D → Mo α} : onIts okv (ds, some i) k E = hide okv i (k ds) E := nr rfl
def hideK {α : Type} (okv : α → Bool) (i : Nat) (e : Option S) (a : α) (E' : En) : Re α := match E'[i]? with
    | some (some .hid) => cb (okv a = true) (.ok a (E'.set i e))
    | _ => .bad
@[simp] theorem ev_hide {okv : α → Bool} {f : Mo α} (hx : ∀ y E', f (E.set i (some .hid)) ≠ .exc y E') : hide okv i f E = rb (f (E.set i (some .hid))) (hideK okv i (E[i]?.getD none)) := by
  unfold hide; cases q : f (E.set i (some .hid)) with
  | ok a E' => rfl
  | exc y E' => exact absurd q (hx y E')
  | bad => rfl
@[simp] theorem ev_okFl1 : okFl .next = true := nr rfl
@[simp] theorem ev_okFl2 : okFl (.ret (.dat x)) = true := nr rfl
@[simp] theorem ev_okFl3 : okFl (.ret (.own o)) = false := nr rfl
@[simp] theorem ev_okT {a : α} : okT a = true := nr rfl
@[simp] theorem ev_sFor {n : Mo Its} {t : D → Mo Unit} {b : Mo Fl} {ks : List Nat} : sFor n t b ks E = rb (n E) fun q => onIts okFl q (sLoop t b ks) := by unfold sFor; simp only [ev_mb]
@[simp] theorem ev_plain0 : plainAt E i = (match E[i]? with
  | some none => true
  | some (some (.dat _)) => true
  | _ => false) := nr rfl
@[simp] theorem ev_noneAt : noneAt E i = (match E[i]? with
  | some none => true
  | _ => false) := nr rfl
@[simp] theorem ev_rest0 : restE E E' [] = E' := nr rfl
@[simp] theorem ev_rest1 {vs : List Nat} : restE E E' (i :: vs) = restE E (E'.set i (E[i]?.getD none)) vs := nr rfl
def blkK (vs : List Nat) (E : En) (xs : List D) (E' : En) : Re Vl := cb (vs.all (noneAt E') = true) (.ok (.own (.lst xs)) (restE E E' vs))
@[simp] theorem ev_blkK {vs : List Nat} {xs : List D} : blkK vs E xs E' = cb (vs.all (noneAt E') = true) (.ok (.own (.lst xs)) (restE E E' vs)) := nr rfl
theorem ev_blkM {vs : List Nat} {f : Mo (List D)} {xs : List D} (hf : f (killE E vs) = .ok xs E') : blkM vs f E = cb (vs.all (plainAt E) = true) (blkK vs E xs E') := by
  unfold blkM; rw [hf]; rfl
@[simp] theorem ev_dLc {n : Mo Its} {t : D → Mo Unit} {vs : List Nat} : dLc n t c f vs E = rb (n E) fun q => blkM vs (onIts okT q (dLoop t c f vs)) := by unfold dLc; simp only [ev_mb]
@[simp] theorem ev_fin1a {e : Option S} : fin1 (some (.dat x)) e = some (.dat x) := by cases e <;> rfl
@[simp] theorem ev_fin1b {o' : O} : fin1 (some (.ref o)) (some (.ref o')) = some (.ref o') := nr rfl
@[simp] theorem ev_finE0 : finE [] E = [] := by cases E <;> rfl
@[simp] theorem ev_finE1 {s e : Option S} : finE (s :: E) (e :: E') = fin1 s e :: finE E E' := nr rfl
@[simp] theorem ev_leave1 : leave E (.dat x) = some (.dat x) := nr rfl
@[simp] theorem ev_leave2 : leave E (.own o) = some (.own o) := nr rfl
@[simp] theorem ev_leave3 : leave E (.loc i) = (match E[i]? with
    | some (some (.own o)) => some (.own o)
    | _ => none) := nr rfl
def endK (as : En) : Fl → En → Re Vl
  | .ret a, E => ob (leave E a) fun r => .ok r (finE as E)
  | .next, E => .ok (.dat .non) (finE as E)
  | _, _ => .bad
@[simp] theorem endK1 {as : En} : endK as (.ret a) E = ob (leave E a) fun r => .ok r (finE as E) := nr rfl
@[simp] theorem endK2 {as : En} : endK as .next E = .ok (.dat .non) (finE as E) := nr rfl
theorem ev_mkF {a : Fl} (h : s (E ++ List.replicate m none) = .ok a E') : mkF m s E = endK E a E' := by
  unfold mkF; rw [h]; cases a with
  | ret a => dsimp only [endK]; cases leave E' a <;> rfl
  | _ => rfl
theorem ev_mkF_exc {x : Xc} (h : s (E ++ List.replicate m none) = .exc x E') : mkF m s E = .exc x (finE E E') := by
  unfold mkF; rw [h]
def mkE (E : En) : Re Fl → Re Vl
  | .ok a E' => endK E a E'
  | .exc x E' => .exc x (finE E E')
  | .bad => .bad
@[simp] theorem mkE1 {a : Fl} : mkE E (.ok a E') = endK E a E' := nr rfl
@[simp] theorem mkE2 {x : Xc} : mkE E (.exc x E') = .exc x (finE E E') := nr rfl
@[simp] theorem mkE3 : mkE E .bad = .bad := nr rfl
@[simp] theorem ev_mk : mkF m s E = mkE E (s (E ++ List.replicate m none)) := by
  cases h : s (E ++ List.replicate m none) with
  | ok a E' => rw [ev_mkF h]; rfl
  | exc x E' => rw [ev_mkF_exc h]; rfl
  | bad => unfold mkF; rw [h]; rfl
@[simp] theorem ev_args0 : toArgs E [] = some [] := nr rfl
@[simp] theorem ev_args1 {r : List Vl} : toArgs E (.dat x :: r) = (toArgs E r).map (some (.dat x) :: ·) := by simp only [toArgs]; cases toArgs E r <;> rfl
@[simp] theorem ev_args2 {r : List Vl} : toArgs E (.own o :: r) = (toArgs E r).map (some (.ref o) :: ·) := by simp only [toArgs]; cases toArgs E r <;> rfl
def refAt (e : Option (Option S)) : Option O := match e with
  | some (some (.own o)) => some o
  | some (some (.ref o)) => some o
  | _ => none
@[simp] theorem refAt1 : refAt (some (some (.own o))) = some o := nr rfl
@[simp] theorem refAt2 : refAt (some (some (.ref o))) = some o := nr rfl
@[simp] theorem ev_args3 {r : List Vl} : toArgs E (.loc i :: r) = (refAt E[i]?).bind fun o => (toArgs E r).map (some (.ref o) :: ·) := by
  simp only [toArgs]
  generalize E[i]? = e
  cases e with
  | none => rfl
  | some e => cases e with
    | none => rfl
    | some e => cases e with
      | own o => dsimp only [refAt, Option.bind_some]; cases toArgs E r <;> rfl
      | ref o => dsimp only [refAt, Option.bind_some]; cases toArgs E r <;> rfl
      | _ => rfl
@[simp] theorem ev_dist0 : distL [] = true := nr rfl
@[simp] theorem ev_dist1 {r : List Vl} : distL (.dat x :: r) = distL r := nr rfl
@[simp] theorem ev_dist2 {r : List Vl} : distL (.own o :: r) = distL r := nr rfl
@[simp] theorem ev_dist3 {r : List Vl} : distL (.loc i :: r) = (!(r.any (isLoc i)) && distL r) := nr rfl
@[simp] theorem ev_isLoc1 : isLoc i (.dat x) = false := nr rfl
@[simp] theorem ev_isLoc2 : isLoc i (.own o) = false := nr rfl
@[simp] theorem ev_isLoc3 : isLoc i (.loc j) = (i == j) := nr rfl
@[simp] theorem ev_back0 {as : En} : backL E [] as = some E := by cases as <;> rfl
@[simp] theorem ev_back1 {r : List Vl} {e : Option S} {as : En} : backL E (.dat x :: r) (e :: as) = backL E r as := nr rfl
@[simp] theorem ev_back2 {r : List Vl} {e : Option S} {as : En} : backL E (.own o :: r) (e :: as) = backL E r as := nr rfl
@[simp] theorem ev_back3 {r : List Vl} {as : En} : backL E (.loc i :: r) (some (.ref o) :: as) = (match E[i]? with
    | some (some (.own _)) => backL (E.set i (some (.own o))) r as
    | some (some (.ref _)) => backL (E.set i (some (.ref o))) r as
    | _ => none) := nr rfl
def backK (E : En) (xs : List Vl) (r : Re Vl) : Re Vl := match r with
  | .ok r as' => ob (backL E xs as') fun E' => .ok r E'
  | .exc x as' => ob (backL E xs as') fun E' => .exc x E'
  | .bad => .bad
@[simp] theorem backK1 {xs : List Vl} {as : En} : backK E xs (.ok a as) = ob (backL E xs as) fun E' => .ok a E' := nr rfl
@[simp] theorem backK2 {xs : List Vl} {as : En} {x : Xc} : backK E xs (.exc x as) = ob (backL E xs as) fun E' => .exc x E' := nr rfl
@[simp] theorem ev_callM {Fn : En → Re Vl} {xs : List Vl} : callM Fn xs E = ob (toArgs E xs) fun as => cb (distL xs = true) (backK E xs (Fn as)) := by
  unfold callM ob; cases toArgs E xs with
  | none => rfl
  | some as =>
    dsimp only; unfold cb; split
    · unfold backK ob; cases Fn as with
      | ok r as' => dsimp only; cases backL E xs as' <;> rfl
      | exc r as' => dsimp only; cases backL E xs as' <;> rfl
      | bad => rfl
    · rfl
@[simp] theorem ev_dCall {Fn : En → Re Vl} {r : Mo (List Vl)} : dCall Fn r E = rb (r E) (callM Fn) := by rw [dCall_eq]; simp only [ev_mb]
@[simp] theorem ev_aNil : aNil E = .ok [] E := nr rfl
@[simp] theorem ev_aCons {r : Mo (List Vl)} : aCons f r E = rb (f E) fun a E => rb (r E) fun xs E => .ok (a :: xs) E := by unfold aCons; simp only [ev_mb]; congr
@[simp] theorem ev_eNil : eNil E = .ok [] E := nr rfl
@[simp] theorem ev_eCons {r : Mo (List D)} : eCons f r E = rb (f E) fun a E => rb (frz a E) fun a E => rb (r E) fun xs E => .ok (a :: xs) E := by
  unfold eCons; simp only [ev_mb]; congr
def seqD : D → Option (List D)
  | .lst ds => some ds
  | .tup ds => some ds
  | _ => none
@[simp] theorem seqD1 {ds : List D} : seqD (.lst ds) = some ds := nr rfl
@[simp] theorem seqD2 {ds : List D} : seqD (.tup ds) = some ds := nr rfl
@[simp] theorem ev_items : itemsOf a E = ob (deref E a) fun d => ob (seqD d) fun ds => .ok ds E := by
  unfold itemsOf; cases deref E a with
  | none => rfl
  | some d => cases d <;> rfl
@[simp] theorem ev_eStar {r : Mo (List D)} : eStar f r E = rb (f E) fun a E => rb (itemsOf a E) fun ys E => rb (r E) fun xs E => .ok (ys ++ xs) E := by
  unfold eStar; simp only [ev_mb]; congr
@[simp] theorem ev_dTup {r : Mo (List D)} : dTup r E = rb (r E) fun ds E => cb (ds.length ≤ lim) (.ok (.dat (.tup ds)) E) := by
  unfold dTup; simp only [ev_mb]; congr; funext a E; unfold cb; split <;> rfl
@[simp] theorem ev_dLst {r : Mo (List D)} : dLst r E = rb (r E) fun ds E => cb (ds.length ≤ lim) (.ok (.own (.lst ds)) E) := by
  unfold dLst; simp only [ev_mb]; congr; funext a E; unfold cb; split <;> rfl
@[simp] theorem ev_pNo : pNo E = .ok none E := nr rfl
def pSomeK : Vl → En → Re (Option Int)
  | .dat (.int i), E => .ok (some i) E
  | _, _ => .bad
@[simp] theorem pSomeK1 {i : Int} : pSomeK (.dat (.int i)) E = .ok (some i) E := nr rfl
@[simp] theorem ev_pSome : pSome f E = rb (f E) pSomeK := by
  unfold pSome; simp only [ev_mb]; congr; funext a E; cases a with
    | dat d => cases d <;> rfl
    | _ => rfl
def blD : Vl → Option Bool
  | .dat (.bl c) => some c
  | _ => none
@[simp] theorem blD1 {c : Bool} : blD (.dat (.bl c)) = some c := nr rfl
@[simp] theorem ev_opB {o : D → D → Option Vl} : opB o a b E = ob (deref E a) fun x => ob (deref E b) fun y => ob (o x y) fun v => ob (blD v) fun c => .ok c E := by
  unfold opB; cases deref E a with
  | none => rfl
  | some x =>
    dsimp only [ob]; cases deref E b with
    | none => rfl
    | some y =>
      dsimp only; cases o x y with
      | none => rfl
      | some v => cases v with
        | dat d => cases d <;> rfl
        | _ => rfl
@[simp] theorem ev_chain {o o' : D → D → Option Vl} {k : Mo Vl} : dChain o o' f h k E = rb (f E) fun a E => rb (h E) fun b E => rb (opB o a b E) fun c E => tb c (rb (k E) fun z E => opB o' b z E) (.ok false E) := by
  unfold dChain; simp only [ev_mb]; congr; funext a E; simp only [ev_mb]; congr; funext a E; simp only [ev_mb]; congr; funext a E; cases a
  · rfl
  · rw [if_pos rfl]; simp only [ev_mb]; rfl
@[simp] theorem ev_ofB : ofB c E = rb (c E) fun b E => .ok (.dat (.bl b)) E := by unfold ofB; simp only [ev_mb]; rfl
@[simp] theorem ev_sl2 {l k : Mo (Option Int)} : dSl2 f l k E = rb (f E) fun a E => rb (l E) fun lo E => rb (k E) fun hi E => lift1 (oSl2 lo hi) a E := by
  unfold dSl2; simp only [ev_mb]; congr
@[simp] theorem ev_sl_tup {lo hi : Option Int} {ds : List D} : oSl2 lo hi (.tup ds) = some (.dat (.tup (cutD ds lo hi))) := nr rfl
@[simp] theorem ev_sl_lst {lo hi : Option Int} {ds : List D} : oSl2 lo hi (.lst ds) = some (.own (.lst (cutD ds lo hi))) := nr rfl
@[simp] theorem ev_num1 {i : Int} : dNum (.dat (.int i)) = some i := nr rfl
@[simp] theorem ev_range1 : iRange1 f E = rb (f E) fun a E => ob (dNum a) fun b => cb (-limI ≤ b ∧ b ≤ limI) (.ok (rngD 0 b, none) E) := by
  unfold iRange1; simp only [ev_mb]; congr; funext a E; unfold ob cb; cases dNum a <;> rfl
@[simp] theorem ev_range2 : iRange2 f h E = rb (f E) fun a E => rb (h E) fun b E => ob (dNum a) fun a => ob (dNum b) fun b => cb (-limI ≤ a ∧ a ≤ limI ∧ -limI ≤ b ∧ b ≤ limI) (.ok (rngD a b, none) E) := by
  unfold iRange2; simp only [ev_mb]; congr; funext a E; simp only [ev_mb]; congr; funext b E; unfold ob cb; cases dNum a <;> cases dNum b <;> rfl
@[simp] theorem ev_enum : iEnumF f E = rb (iSeq f E) fun q E => .ok (enumD q.1, q.2) E := by unfold iEnumF mapIts; simp only [ev_mb]; rfl
def zipK : D → D → Option (List D)
  | .lst xs, .lst ys => some (zipD xs ys)
  | .tup xs, .tup ys => some (zipD xs ys)
  | _, _ => none
@[simp] theorem zipK1 {xs ys : List D} : zipK (.lst xs) (.lst ys) = some (zipD xs ys) := nr rfl
@[simp] theorem zipK2 {xs ys : List D} : zipK (.tup xs) (.tup ys) = some (zipD xs ys) := nr rfl
@[simp] theorem ev_zip : iZipF f h E = rb (f E) fun a E => rb (frz a E) fun x E => rb (h E) fun b E => rb (frz b E) fun y E => ob (zipK x y) fun q => .ok (q, none) E := by
  unfold iZipF; simp only [ev_mb]; congr; funext a E; simp only [ev_mb]; congr; funext a E; simp only [ev_mb]; congr; funext b E; simp only [ev_mb]; congr; funext b E; cases a <;> cases b <;> rfl
@[simp] theorem ev_objAt : objAt E i = refAt E[i]? := nr rfl
@[simp] theorem ev_putO : putO E i o = (match E[i]? with
  | some (some (.own _)) => E.set i (some (.own o))
  | some (some (.ref _)) => E.set i (some (.ref o))
  | _ => E) := nr rfl
@[simp] theorem ev_isLst1 {xs : List D} : isLst (some (.lst xs)) = true := nr rfl
def lstO : Option O → Option (List D)
  | some (.lst xs) => some xs
  | _ => none
@[simp] theorem lstO1 {xs : List D} : lstO (some (.lst xs)) = some xs := nr rfl
@[simp] theorem ev_mut {op : List D → List D → Option (D × List D)} {r : Mo (List D)} : dMut i op r E = cb (isLst (objAt E i) = true) (rb (r E) fun ds E => ob (lstO (objAt E i)) fun xs => ob (op xs ds) fun p => cb (p.2.length ≤ lim) (.ok (.dat p.1) (putO E i (.lst p.2)))) := by
  unfold dMut cb; split
  · simp only [ev_mb]; congr; funext ds E; cases objAt E i with
    | none => rfl
    | some o => cases o with
      | lst xs => dsimp only [lstO, ob]; cases op xs ds with
        | none => rfl
        | some p => rfl
      | _ => rfl
  · rfl
@[simp] theorem ev_append {xs : List D} : mAppend xs [x] = some (.non, xs ++ [x]) := nr rfl
@[simp] theorem ev_extend {xs ys : List D} : mExtend xs [.lst ys] = some (.non, xs ++ ys) := nr rfl
theorem ev_insert {xs : List D} {k : Nat} (h : k ≤ 1000) : mInsert xs [.int (k : Int), x] = some (.non, xs.take k ++ (x :: xs.drop k)) := by
  unfold mInsert; dsimp only; rw [if_pos ⟨by omega, by omega⟩]; simp
@[simp] theorem ev_clear {xs : List D} : mClear xs [] = some (.non, []) := nr rfl
@[simp] theorem ev_gSub {fi : Mo Vl} : gSubF i fi x E = cb (isLst (objAt E i) = true) (rb (fi E) fun j E => ob (dNum j) fun k => ob (lstO (objAt E i)) fun xs => ob (ixN xs.length k) fun n => .ok () (putO E i (.lst (xs.set n x)))) := by
  unfold gSubF cb; split
  · simp only [ev_mb]; congr; funext j E; cases dNum j with
    | none => rfl
    | some k => cases objAt E i with
      | none => rfl
      | some o => cases o with
        | lst xs => dsimp only [lstO, ob]; cases ixN xs.length k <;> rfl
        | _ => rfl
  · rfl
@[simp] theorem ev_fld0 {k : Nat} {ds : List D} : fieldsO (.obj k ds) = some (k, ds) := nr rfl
@[simp] theorem ev_fld1 {k : Nat} {ds : List D} : fieldsOf E (.dat (.ins k ds)) = some (k, ds) := nr rfl
@[simp] theorem ev_fld2 : fieldsOf E (.own o) = fieldsO o := nr rfl
@[simp] theorem ev_fld3 : fieldsOf E (.loc i) = (objAt E i).bind fieldsO := by
  unfold fieldsOf; dsimp only; cases objAt E i <;> rfl
@[simp] theorem ev_attrM {cs : List Nat} : attrM cs j a E = ob (fieldsOf E a) fun p => cb (cs.contains p.1 = true) (ob p.2[j]? fun d => .ok (.dat d) E) := by
  unfold attrM cb; cases fieldsOf E a with
  | none => rfl
  | some p => dsimp only [ob]; split
              · cases p.2[j]? <;> rfl
              · rfl
@[simp] theorem ev_attr {cs : List Nat} : dAttr cs j f E = rb (f E) (attrM cs j) := by unfold dAttr; simp only [ev_mb]
def objK : Option O → Option (Nat × List D)
  | some (.obj c ds) => some (c, ds)
  | _ => none
@[simp] theorem objK1 {k : Nat} {ds : List D} : objK (some (.obj k ds)) = some (k, ds) := nr rfl
@[simp] theorem ev_putFld {k : Nat} : putFld i k j x E = ob (objK (objAt E i)) fun p => cb ((p.1 == k) = true ∧ (p.2.length == j) = true) (.ok .next (putO E i (.obj k (p.2 ++ [x])))) := by
  unfold putFld; cases objAt E i with
  | none => rfl
  | some o => cases o <;> rfl
@[simp] theorem ev_sFld {k : Nat} : sFldF i k j f E = rb (f E) fun a E => rb (frz a E) fun x E => putFld i k j x E := by
  unfold sFldF; simp only [ev_mb]; congr
@[simp] theorem ev_isiM {fb : Ty → Option Bool} : isiM fb a E = ob (tyOf E a) fun t => ob (fb t) fun b => .ok (.dat (.bl b)) E := by
  unfold isiM ob; cases tyOf E a with
  | none => rfl
  | some t => dsimp only; cases fb t <;> rfl
@[simp] theorem ev_isi {fb : Ty → Option Bool} : dIsi fb f E = rb (f E) (isiM fb) := by unfold dIsi; simp only [ev_mb]
@[simp] theorem ev_ty1 {i : Int} : tyOf E (.dat (.int i)) = some .int := nr rfl
@[simp] theorem ev_ty2 {i : Bool} : tyOf E (.dat (.bl i)) = some .bl := nr rfl
@[simp] theorem ev_ty3 {xs : List D} : tyOf E (.dat (.tup xs)) = some .tup := nr rfl
@[simp] theorem ev_ty4 {xs : List D} : tyOf E (.dat (.lst xs)) = some .lst := nr rfl
@[simp] theorem ev_ty5 {k : Nat} {xs : List D} : tyOf E (.dat (.ins k xs)) = some (.ins k) := nr rfl
@[simp] theorem ev_ty6 : tyOf E (.own o) = some (tyO o) := nr rfl
@[simp] theorem ev_ty7 : tyOf E (.loc i) = (objAt E i).map tyO := nr rfl
@[simp] theorem ev_ty8 : tyOf E (.dat .non) = some .non := nr rfl
@[simp] theorem ev_ty9 {z : PySem.Str} : tyOf E (.dat (.str z)) = some .str := nr rfl
@[simp] theorem ev_tyO1 {xs : List D} : tyO (.lst xs) = .lst := nr rfl
@[simp] theorem ev_tyO2 {k : Nat} {xs : List D} : tyO (.obj k xs) = .ins k := nr rfl
@[simp] theorem ev_onlyC {k' k : Nat} : onlyC k (.ins k') = (if (k' == k) = true then some true else none) := nr rfl
@[simp] theorem ev_int1 : isi_int .int = some true := nr rfl
@[simp] theorem ev_int2 : isi_int .bl = some true := nr rfl
@[simp] theorem ev_int3 : isi_int .tup = some false := nr rfl
@[simp] theorem ev_bool1 : isi_bool .int = some false := nr rfl
@[simp] theorem ev_bool2 : isi_bool .bl = some true := nr rfl
@[simp] theorem ev_tup1 : isi_tuple .tup = some true := nr rfl
@[simp] theorem ev_tup2 : isi_tuple .lst = some false := nr rfl
@[simp] theorem ev_lt1 : isi_list_tuple .tup = some true := nr rfl
@[simp] theorem ev_lt2 : isi_list_tuple .lst = some true := nr rfl
@[simp] theorem ev_i2 {g : Int → Int → Option D} {p q : Int} : i2 g (.int p) (.int q) = (g p q).map .dat := nr rfl
@[simp] theorem ev_neg {p : Int} : oNeg (.int p) = some (.dat (.int (-p))) := nr rfl
@[simp] theorem ev_add1 {p q : Int} : oAdd (.int p) (.int q) = some (.dat (.int (p + q))) := nr rfl
@[simp] theorem ev_add2 {xs ys : List D} : oAdd (.lst xs) (.lst ys) = (if xs.length + ys.length ≤ lim then some (.own (.lst (xs ++ ys))) else none) := nr rfl
@[simp] theorem ev_add3 {xs ys : List D} : oAdd (.tup xs) (.tup ys) = (if xs.length + ys.length ≤ lim then some (.dat (.tup (xs ++ ys))) else none) := nr rfl
@[simp] theorem ev_mul1 {p q : Int} : oMul (.int p) (.int q) = (if mulB p q = true then some (.dat (.int (p * q))) else none) := nr rfl
@[simp] theorem ev_ix1 {xs : List D} {p : Int} : oIx (.lst xs) (.int p) = (atI xs p).map .dat := nr rfl
@[simp] theorem ev_ix2 {xs : List D} {p : Int} : oIx (.tup xs) (.int p) = (atI xs p).map .dat := nr rfl
@[simp] theorem ev_len1 {xs : List D} : oLen (.lst xs) = some (.dat (.int xs.length)) := nr rfl
@[simp] theorem ev_len2 {xs : List D} : oLen (.tup xs) = some (.dat (.int xs.length)) := nr rfl
@[simp] theorem ev_list1 {xs : List D} : oList (.lst xs) = some (.own (.lst xs)) := nr rfl
@[simp] theorem ev_list2 {xs : List D} : oList (.tup xs) = some (.own (.lst xs)) := nr rfl
@[simp] theorem ev_tuple1 {xs : List D} : oTuple (.lst xs) = some (.dat (.tup xs)) := nr rfl
@[simp] theorem ev_tuple2 {xs : List D} : oTuple (.tup xs) = some (.dat (.tup xs)) := nr rfl
@[simp] theorem ev_all {xs : List D} : oAll (.lst xs) = (bls xs).map fun bs => .dat (.bl (bs.all id)) := nr rfl
@[simp] theorem ev_any {xs : List D} : oAny (.lst xs) = (bls xs).map fun bs => .dat (.bl (bs.any id)) := nr rfl
@[simp] theorem ev_bls {γ : Type} {g : γ → Bool} {xs : List γ} : bls (xs.map fun x => D.bl (g x)) = some (xs.map g) := by
  induction xs with
  | nil => rfl
  | cons x xs ih => rw [List.map_cons, bls, ih]; rfl
@[simp] theorem ev_bls0 : bls [] = some [] := nr rfl
@[simp] theorem ev_bls1 {q : Bool} {r : List D} : bls (.bl q :: r) = (bls r).map (q :: ·) := nr rfl
@[simp] theorem all_tt {γ : Type} {xs : List γ} : (xs.all fun _ => true) = true := by simp [List.all_eq_true]
@[simp] theorem any_ff {γ : Type} {xs : List γ} : (xs.any fun _ => false) = false := by simp [List.any_eq_false]
@[simp] theorem filter_tt {γ : Type} {xs : List γ} : (xs.filter fun _ => true) = xs := List.filter_eq_self.mpr fun _ _ => rfl
@[simp] theorem ev_isN1 : isNonD .non = true := nr rfl
@[simp] theorem ev_isN2 : oIsN x .non = some (.dat (.bl (isNonD x))) := nr rfl
@[simp] theorem ev_isN3 : oNotN x .non = some (.dat (.bl (!isNonD x))) := nr rfl
@[simp] theorem ev_isN4 {xs : List D} : isNonD (.tup xs) = false := nr rfl
def ownAt (e : Option (Option S)) : Option O := match e with
  | some (some (.own o)) => some o
  | _ => none
@[simp] theorem ownAt1 : ownAt (some (some (.own o))) = some o := nr rfl
def newK (n : Nat) : Vl → En → Re Vl
  | .dat .non, E' => ob (ownAt E'[n]?) fun o => .ok (.own o) (E'.take n)
  | _, _ => .bad
@[simp] theorem newK1 : newK n (.dat .non) E' = ob (ownAt E'[n]?) fun o => .ok (.own o) (E'.take n) := nr rfl
def newR (n : Nat) : Re Vl → Re Vl
  | .ok a E => newK n a E
  | .exc x E => .exc x (E.take n)
  | .bad => .bad
@[simp] theorem newR1 : newR n (.ok a E) = newK n a E := nr rfl
@[simp] theorem newR2 {x : Xc} : newR n (.exc x E) = .exc x (E.take n) := nr rfl
@[simp] theorem ev_newM {k : Nat} {Fn : En → Re Vl} {xs : List Vl} : newM k Fn xs E = newR E.length (callM Fn (.loc E.length :: xs) (E ++ [some (.own (.obj k []))])) := by
  unfold newM
  generalize callM Fn (.loc E.length :: xs) (E ++ [some (.own (.obj k []))]) = r
  cases r with
  | ok a E' => cases a with
    | dat d => cases d with
      | non =>
        dsimp only [newR, newK]
        generalize E'[E.length]? = e
        cases e with
        | none => rfl
        | some e => cases e with
          | none => rfl
          | some e => cases e <;> rfl
      | _ => rfl
    | _ => rfl
  | _ => rfl
@[simp] theorem ev_dNew {k : Nat} {Fn : En → Re Vl} {dd : List D} {r : Mo (List Vl)} : dNew k Fn dd r E = rb (r E) fun xs E => newM k Fn (xs ++ dd.map .dat) E := by unfold dNew; simp only [ev_mb]
@[simp] theorem ev_dNewK {k : Nat} {Fn : En → Re Vl} {r : Mo (List Vl)} {q : Mo (List D)} : dNewK k Fn r q E = rb (r E) fun xs E => rb (q E) fun ds E => newM k Fn (xs ++ ds.map .dat) E := by unfold dNewK; simp only [ev_mb]; congr
@[simp] theorem ev_eqIns1 {k k1 k2 : Nat} {Fn : En → Re Vl} {xs ys : List D} : eqI k Fn (.ins k1 xs) (.ins k2 ys) = (if (k1 == k && k2 == k) = true then (match Fn [some (.dat (.ins k xs)), some (.dat (.ins k ys))] with
      | .ok (.dat (.bl b)) _ => some b
      | _ => none) else none) := nr rfl
@[simp] theorem ev_eqIns {k : Nat} {Fn : En → Re Vl} : oEqI k Fn x y = (eqI k Fn x y).map fun b => .dat (.bl b) := nr rfl
@[simp] theorem ev_eqLst {k : Nat} {Fn : En → Re Vl} {xs ys : List D} : oEqL k Fn (.lst xs) (.lst ys) = (if (xs.length == ys.length) = true then (eqLs k Fn xs ys).map fun b => .dat (.bl b) else some (.dat (.bl false))) := nr rfl
@[simp] theorem ev_putV1 : putV i (.dat x) E = setD i x E := nr rfl
@[simp] theorem ev_putV2 : putV i (.own o) E = setO i o E := nr rfl
@[simp] theorem ev_putVs0 : putVs [] [] E = .ok .next E := nr rfl
@[simp] theorem ev_putVs1 {is : List Nat} {xs : List Vl} : putVs (i :: is) (a :: xs) E = rb (putV i a E) fun _ E => putVs is xs E := by rw [putVs]; simp only [ev_mb]
@[simp] theorem ev_sPar {is : List Nat} {r : Mo (List Vl)} : sPar is r E = rb (r E) (putVs is) := by unfold sPar; simp only [ev_mb]
@[simp] theorem ev_abs {p : Int} : oAbs (.int p) = some (.dat (.int (if p < 0 then -p else p))) := nr rfl
theorem intsD_map {γ : Type} (f : γ → Int) : ∀ xs : List γ, intsD (xs.map fun x => .int (f x)) = some (xs.map f)
  | [] => rfl
  | x :: xs => by rw [List.map_cons, intsD, intsD_map f xs]; rfl
@[simp] theorem ev_sum {γ : Type} {g : γ → Int} {xs : List γ} : oSum (.lst (xs.map fun x => .int (g x))) = some (.dat (.int (xs.map g).sum)) := by
  show (intsD _).map _ = _
  rw [intsD_map]; rfl
@[simp] theorem ev_sumI {xs : List Int} : oSum (.lst (xs.map .int)) = some (.dat (.int xs.sum)) := by
  have h := ev_sum (g := fun x : Int => x) (xs := xs)
  simpa using h
@[simp] theorem ev_popAt0 {xs : List D} : mPopAt (x :: xs) [.int 0] = some (x, xs) := by
  unfold mPopAt; dsimp only; rw [if_pos (by decide)]
  have e : seqIndex? 0 (x :: xs).length = some 0 := by unfold seqIndex?; simp
  rw [e]; rfl
theorem ev_popAt {xs : List D} {k : Nat} (h : k < xs.length) (hl : xs.length ≤ 1000) : mPopAt xs [.int (k : Int)] = some (xs[k], xs.eraseIdx k) := by
  unfold mPopAt; dsimp only; rw [if_pos (by omega)]
  have e : seqIndex? (k : Int) xs.length = some k := by
    unfold seqIndex?
    simp
    omega
  rw [e]; dsimp only; rw [List.getElem?_eq_getElem h]
def rn {α β : Type} (r : Re α) (k : α → En → Re β) : RbT k := match r with
  | .ok a E => k a E
  | _ => .bad
@[simp] theorem rn_ok {α β : Type} {a : α} {E : En} {k : α → En → Re β} : rn (.ok a E) k = k a E := nr rfl
@[simp] theorem rn_bad {α β : Type} {k : α → En → Re β} : rn .bad k = .bad := nr rfl
theorem ev_dLoop0 {t : D → Mo Unit} {vs : List Nat} : dLoop t c f vs [] E = .ok [] E := nr rfl
theorem ev_dLoop1 {t : D → Mo Unit} {vs : List Nat} {ds : List D} : dLoop t c f vs (x :: ds) E = rn (t x E) fun _ E => rn (c E) fun b E => tb b
    (rn (frzM f E) fun y E => cb (vs.all (fun i => canSet E[i]?) = true) (rn (dLoop t c f vs ds (killE E vs)) fun ys E => .ok (y :: ys) E))
    (cb (vs.all (fun i => canSet E[i]?) = true) (dLoop t c f vs ds (killE E vs))) := by
  conv => lhs; unfold dLoop
  cases t x E with
  | ok u E1 =>
    dsimp only [rn]; cases c E1 with
    | ok b E2 => cases b with
      | true =>
        dsimp only [tb]; cases frzM f E2 with
        | ok y E3 =>
          dsimp only [cb]
          split
          · cases dLoop t c f vs ds (killE E3 vs) <;> rfl
          · rfl
        | _ => rfl
      | false => rfl
    | _ => rfl
  | _ => rfl
theorem ev_sLoop0 {t : D → Mo Unit} {ks : List Nat} : sLoop t s ks [] E = .ok .next E := nr rfl
def loopK (t : D → Mo Unit) (s : Mo Fl) (ks : List Nat) (ds : List D) : Fl → En → Re Fl
  | .next, E => sLoop t s ks ds (killE E ks)
  | .cont, E => sLoop t s ks ds (killE E ks)
  | .brk, E => .ok .next (killE E ks)
  | .ret a, E => .ok (.ret a) E
@[simp] theorem loopK1 {t : D → Mo Unit} {ks : List Nat} {ds : List D} : loopK t s ks ds .next E = sLoop t s ks ds (killE E ks) := nr rfl
@[simp] theorem loopK2 {t : D → Mo Unit} {ks : List Nat} {ds : List D} : loopK t s ks ds (.ret a) E = .ok (.ret a) E := nr rfl
@[simp] theorem loopK3 {t : D → Mo Unit} {ks : List Nat} {ds : List D} : loopK t s ks ds .brk E = .ok .next (killE E ks) := nr rfl
@[simp] theorem loopK4 {t : D → Mo Unit} {ks : List Nat} {ds : List D} : loopK t s ks ds .cont E = sLoop t s ks ds (killE E ks) := nr rfl
theorem ev_sLoop1 {t : D → Mo Unit} {ks : List Nat} {ds : List D} : sLoop t s ks (x :: ds) E = rn (t x E) fun _ E => rb (s E) (loopK t s ks ds) := by
  conv => lhs; unfold sLoop
  cases t x E with
  | ok u E1 =>
    dsimp only [rn]; cases s E1 with
    | ok f E2 => cases f <;> rfl
    | _ => rfl
  | _ => rfl
@[simp] theorem ev_tgt {t : D → Mo Unit} : tgt t x E = rn (t x E) fun _ E => .ok .next E := by unfold tgt; cases t x E <;> rfl
@[simp] theorem ev_sAsg {t : D → Mo Unit} : sAsg t f E = rb (frzM f E) fun x E => tgt t x E := by unfold sAsg; simp only [ev_mb]
@[simp] theorem ev_noX {m : Mo α} : noX m E = rn (m E) fun a E => .ok a E := by unfold noX; cases m E <;> rfl
@[simp] theorem ev_isInsD {k k' : Nat} {xs : List D} : isInsD k (.ins k' xs) = (k' == k) := nr rfl
@[simp] theorem ev_callO {k : Nat} {Fn : En → Re Vl} {r : Mo (List Vl)} : dCallO k Fn f r E = rb (f E) fun x E => rb (frz x E) fun d E => cb (isInsD k d = true) (rb (r E) fun xs E => noX (callM Fn (.dat d :: xs)) E) := by
  unfold dCallO; simp only [ev_mb]; congr; funext x E; simp only [ev_mb]; congr; funext d E; unfold cb; split
  · simp only [ev_mb]
  · rfl
end
end Fx

/-! En: data written from lists; loops and comprehensions over them -/
namespace Sp
open Fx
abbrev iT (l : List Int) : D := .tup (l.map .int)
abbrev iP (p : List Int × List Int) : D := .tup [iT p.1, iT p.2]
abbrev encP (s : Sw) : D := .tup [.int s.1, .int s.2.1, .int s.2.2]
abbrev encS (s : Sw) : D := .ins 0 [.tup [.int s.1, .int s.2.1], .int s.2.2]
abbrev net (n : Nat) (ps : List Sw) : D := .ins 1 [.int n, .lst (ps.map encS)]
abbrev drw (n : Nat) (ps : List Sw) : D := .tup [.int n, .lst (ps.map encP)]
abbrev d (x : D) : Option S := some (.dat x)
abbrev r (o : O) : Option S := some (.ref o)
abbrev w (o : O) : Option S := some (.own o)
end Sp
namespace Fx
open PySem L2 Sp
section
variable {α β γ : Type} {E : En}
theorem lim_of {n : Nat} (h : n ≤ 1000) : n ≤ lim := by unfold lim; omega
theorem enumD_map (enc : α → D) (xs : List α) : enumD (xs.map enc) = xs.zipIdx.map fun q => D.tup [.int (q.2 : Nat), enc q.1] := by
  unfold enumD
  apply List.ext_getElem?
  intro i
  rw [List.getElem?_zipWith, List.length_map, List.getElem?_map, List.getElem?_map, List.getElem?_zipIdx]
  by_cases h : i < xs.length
  · rw [List.getElem?_range h, List.getElem?_eq_getElem h]
    simp
  · rw [List.getElem?_eq_none (by simpa using h)]
    simp [List.getElem?_eq_none (Nat.le_of_not_lt h)]
theorem zipD_map (e1 : α → D) (e2 : β → D) (xs : List α) (ys : List β) : zipD (xs.map e1) (ys.map e2) = (xs.zip ys).map fun p => D.tup [e1 p.1, e2 p.2] := by
  unfold zipD
  rw [List.zipWith_map_left, List.zipWith_map_right, List.zip, List.map_zipWith]
theorem rngD_map (a b : Int) : rngD a b = (List.range (b - a).toNat).map fun (i : Nat) => D.int (a + (i : Int)) := rfl
theorem cut_from (ds : List D) : cutD ds (some 1) none = ds.drop 1 := by
  unfold cutD
  cases ds with
  | nil => rfl
  | cons x xs =>
    have e1 : HT.sIx (x :: xs).length 0 (some 1) = 1 := by show min 1 _ = 1; simp only [List.length_cons]; omega
    have e2 : HT.sIx (x :: xs).length (x :: xs).length none = (x :: xs).length := rfl
    rw [e1, e2]
    exact List.take_of_length_le (by simp)
theorem cutD_nat (ds : List D) (a b : Nat) (ha : a ≤ ds.length) (hb : b ≤ ds.length) : cutD ds (some (a : Int)) (some (b : Int)) = (ds.drop a).take (b - a) := by
  unfold cutD
  rw [HT.sIx_nat, HT.sIx_nat, Nat.min_eq_left ha, Nat.min_eq_left hb]
theorem cutD_to (ds : List D) (b : Nat) (hb : b ≤ ds.length) : cutD ds none (some (b : Int)) = ds.take b := by
  unfold cutD
  rw [HT.sIx_nat, HT.sIx_none, Nat.min_eq_left hb]
  simp
theorem cut_to (ds : List D) (b : Nat) : cutD ds none (some (b : Int)) = ds.take b := by
  unfold cutD
  rw [HT.sIx_nat, HT.sIx_none]
  simp [List.take_eq_take_iff]
@[simp] theorem ev_sl_scr {ns : List Int} {k : Nat} (hk : k ≤ 1000) : oSl2 none (some (k : Int)) (.scr ns) = some (.own (.lst ((ns.take k).map .int))) := by
  have h : ((ns.take k).map D.int).length ≤ lim := lim_of (by rw [List.length_map, List.length_take]; omega)
  show (if (cutD _ _ _).length ≤ lim then some (Vl.own (.lst (cutD _ _ _))) else none) = _
  rw [cut_to, ← List.map_take, if_pos h]
theorem cutD_from (ds : List D) (a : Nat) (ha : a ≤ ds.length) : cutD ds (some (a : Int)) none = ds.drop a := by
  unfold cutD
  rw [HT.sIx_nat, HT.sIx_none, Nat.min_eq_left ha]
  exact List.take_of_length_le (by simp)
theorem atN (xs : List α) (i : Nat) : atI xs (i : Int) = xs[i]? := by
  unfold atI ixN
  rw [if_pos (by omega)]
  by_cases h : i < xs.length
  · rw [if_pos (by omega)]; simp
  · rw [if_neg (by omega)]
    simp [List.getElem?_eq_none (Nat.le_of_not_lt h)]
theorem ixN_nat {n i : Nat} (h : i < n) : ixN n (i : Int) = some i := by
  unfold ixN
  rw [if_pos (by omega), if_pos (by omega)]; simp
@[simp] theorem atI_0 (xs : List α) : atI xs 0 = xs[0]? := atN xs 0
@[simp] theorem atI_1 (xs : List α) : atI xs 1 = xs[1]? := atN xs 1
@[simp] theorem atI_2 (xs : List α) : atI xs 2 = xs[2]? := atN xs 2
@[simp] theorem atI_n (xs : List α) (i : Nat) : atI xs (i : Int) = xs[i]? := atN xs i
theorem getI {row : List Int} {i : Nat} (h : i < row.length) : row[i]? = some (gt row i) := by simp [gt, List.getD, h]
@[simp] theorem ni_eq (a b : Nat) : ((a : Int) = (b : Int)) = (a = b) := by simp [Int.ofNat_inj]
@[simp] theorem ni_lt (a b : Nat) : ((a : Int) < (b : Int)) = (a < b) := by simp [Int.ofNat_lt]
@[simp] theorem ni_le (a b : Nat) : ((a : Int) ≤ (b : Int)) = (a ≤ b) := by simp [Int.ofNat_le]
@[simp] theorem le_lim {n : Nat} (h : n ≤ 1000) : (n ≤ lim) = True := eq_true (lim_of h)
@[simp] theorem limI_v : limI = 4194304 := nr rfl
/-! ### comparing data -/
theorem eqbL_map {enc : α → D} [DecidableEq α] (h : ∀ a b, eqb (enc a) (enc b) = decide (a = b)) : ∀ xs ys : List α, eqbL (xs.map enc) (ys.map enc) = decide (xs = ys)
  | [], [] => rfl
  | [], y :: ys => rfl
  | x :: xs, [] => rfl
  | x :: xs, y :: ys => by
    rw [List.map_cons, List.map_cons, eqbL, h, eqbL_map h xs ys]
    by_cases h1 : x = y <;> by_cases h2 : xs = ys <;> simp [h1, h2]
theorem shpL_map {enc : α → D} {n : Nat} (h : ∀ a, shp n (enc a) = true) : ∀ xs : List α, shpL n (xs.map enc) = true
  | [] => by simp [shpL]
  | x :: xs => by rw [List.map_cons, shpL, h, shpL_map h xs]; rfl
@[simp] theorem eqb_int (i j : Int) : eqb (.int i) (.int j) = decide (i = j) := by
  rw [eqb]; cases h : decide (i = j) with
  | true => simpa using h
  | false => simpa using h
@[simp] theorem eqb_bl (i j : Bool) : eqb (.bl i) (.bl j) = (i == j) := by rw [eqb]
@[simp] theorem eqb_tup (xs ys : List D) : eqb (.tup xs) (.tup ys) = eqbL xs ys := by rw [eqb]
@[simp] theorem eqb_lst (xs ys : List D) : eqb (.lst xs) (.lst ys) = eqbL xs ys := by rw [eqb]
@[simp] theorem eqbL_cons (x y : D) (xs ys : List D) : eqbL (x :: xs) (y :: ys) = (eqb x y && eqbL xs ys) := by rw [eqbL]
@[simp] theorem eqbL_nil : eqbL [] [] = true := by rw [eqbL]
@[simp] theorem eqbL_nc (x : D) (xs : List D) : eqbL [] (x :: xs) = false := by rw [eqbL] <;> simp
@[simp] theorem eqbL_cn (x : D) (xs : List D) : eqbL (x :: xs) [] = false := by rw [eqbL] <;> simp
@[simp] theorem eqb_nt (ys : List D) : eqb .non (.tup ys) = false := by rw [eqb] <;> simp
@[simp] theorem eqb_tn (ys : List D) : eqb (.tup ys) .non = false := by rw [eqb] <;> simp
@[simp] theorem eqb_nn : eqb .non .non = true := by rw [eqb]
@[simp] theorem eqbL_ints (xs ys : List Int) : eqbL (xs.map .int) (ys.map .int) = decide (xs = ys) := eqbL_map eqb_int xs ys
theorem eqb_tI (a b : List Int) : eqb (iT a) (iT b) = decide (a = b) := by simp
@[simp] theorem eqbL_sets (xs ys : List (List Int)) : eqbL (xs.map iT) (ys.map iT) = decide (xs = ys) := eqbL_map eqb_tI xs ys
theorem eqb_tP (a b : List Int × List Int) : eqb (iP a) (iP b) = decide (a = b) := by
  obtain ⟨a1, a2⟩ := a; obtain ⟨b1, b2⟩ := b
  simp
@[simp] theorem eqbL_pairs (xs ys : List (List Int × List Int)) : eqbL (xs.map iP) (ys.map iP) = decide (xs = ys) := eqbL_map eqb_tP xs ys
@[simp] theorem shp_int (n : Nat) (i : Int) : shp n (.int i) = true := by cases n <;> rfl
@[simp] theorem shp_bl (n : Nat) (i : Bool) : shp n (.bl i) = true := by cases n <;> rfl
@[simp] theorem shp_non (n : Nat) : shp n .non = true := by cases n <;> rfl
@[simp] theorem shp_tup (n : Nat) (xs : List D) : shp (n + 1) (.tup xs) = shpL n xs := by rw [shp]
@[simp] theorem shp_lst (n : Nat) (xs : List D) : shp (n + 1) (.lst xs) = shpL n xs := by rw [shp]
@[simp] theorem shpL_nil (n : Nat) : shpL n [] = true := by rw [shpL]
@[simp] theorem shpL_cons (n : Nat) (x : D) (xs : List D) : shpL n (x :: xs) = (shp n x && shpL n xs) := by rw [shpL]
@[simp] theorem shpL_ints (n : Nat) (xs : List Int) : shpL n (xs.map .int) = true := shpL_map (fun a => shp_int n a) xs
theorem shp_tI (n : Nat) (a : List Int) : shp (n + 1) (iT a) = true := by simp
@[simp] theorem shpL_sets (n : Nat) (xs : List (List Int)) : shpL (n + 1) (xs.map iT) = true := shpL_map (fun a => shp_tI n a) xs
@[simp] theorem shpL_pairs (n : Nat) (xs : List (List Int × List Int)) : shpL (n + 2) (xs.map iP) = true := shpL_map (fun a => by simp) xs
@[simp] theorem ev_eq {x y : D} (h1 : shp 60 x = true) (h2 : shp 60 y = true) : oEq x y = some (.dat (.bl (eqb x y))) := if_pos ⟨h1, h2⟩
@[simp] theorem ev_ne {x y : D} (h1 : shp 60 x = true) (h2 : shp 60 y = true) : oNe x y = some (.dat (.bl (!eqb x y))) := if_pos ⟨h1, h2⟩
@[simp] theorem ev_eqI (i j : Int) : oEq (.int i) (.int j) = some (.dat (.bl (decide (i = j)))) := by rw [ev_eq (by simp) (by simp), eqb_int]
@[simp] theorem ev_neI (i j : Int) : oNe (.int i) (.int j) = some (.dat (.bl (!decide (i = j)))) := by rw [ev_ne (by simp) (by simp), eqb_int]
@[simp] theorem ev_eqT (a b : List Int) : oEq (.tup (a.map .int)) (.tup (b.map .int)) = some (.dat (.bl (decide (a = b)))) := by rw [ev_eq (by simp) (by simp)]; simp
@[simp] theorem ev_neT (a b : List Int) : oNe (.tup (a.map .int)) (.tup (b.map .int)) = some (.dat (.bl (!decide (a = b)))) := by rw [ev_ne (by simp) (by simp)]; simp
@[simp] theorem ev_eqS (a b : List (List Int)) : oEq (.lst (a.map iT)) (.lst (b.map iT)) = some (.dat (.bl (decide (a = b)))) := by rw [ev_eq (by simp) (by simp)]; simp
@[simp] theorem ev_neS (a b : List (List Int)) : oNe (.lst (a.map iT)) (.lst (b.map iT)) = some (.dat (.bl (!decide (a = b)))) := by rw [ev_ne (by simp) (by simp)]; simp
@[simp] theorem ev_neLI (a b : List Int) : oNe (.lst (a.map .int)) (.lst (b.map .int)) = some (.dat (.bl (!decide (a = b)))) := by rw [ev_ne (by simp) (by simp)]; simp
@[simp] theorem ev_eqLI (a b : List Int) : oEq (.lst (a.map .int)) (.lst (b.map .int)) = some (.dat (.bl (decide (a = b)))) := by rw [ev_eq (by simp) (by simp)]; simp
@[simp] theorem ev_ne0 (a b : List D) (h1 : shpL 59 a = true) (h2 : shpL 59 b = true) : oNe (.lst a) (.lst b) = some (.dat (.bl (!eqbL a b))) := by rw [ev_ne (by simpa using h1) (by simpa using h2)]; simp
@[simp] theorem leD_int (a b : Int) : leD (.int a) (.int b) = decide (a ≤ b) := by
  simp [leD, PySem.W.dataLe, PySem.W.sortLe, toPy, PySem.W.keyToks, PyProof.Rows.lexLt, PyProof.Rows.itemLt]
  by_cases h : a ≤ b
  · simp [h, Int.not_lt.mpr h]
  · simp [h, Int.not_le.mp h]
theorem isortO_ints : ∀ xs : List Int, isortO leD (xs.map .int) = (isortI xs).map .int
  | [] => rfl
  | x :: xs => by
    have key : ∀ l : List Int, insO leD (.int x) (l.map .int) = (insI x l).map .int := fun l => by
      induction l with
      | nil => rfl
      | cons y l ih =>
        rw [List.map_cons]
        unfold insO insI
        rw [leD_int]
        by_cases h : x ≤ y
        · rw [if_pos (decide_eq_true h), if_pos h]; rfl
        · rw [if_neg (by simpa using h), if_neg h, ih]; rfl
    rw [List.map_cons, isortO, isortO_ints xs, key]; rfl
theorem srtOk_ints (xs : List Int) : srtOk (xs.map .int) = true := by
  unfold srtOk
  rw [shpL_ints, Bool.true_and, Bool.and_eq_true, Bool.or_eq_true]
  refine ⟨?_, .inr (by simp [List.all_eq_true, notTup])⟩
  unfold alikeB
  simp [List.all_eq_true, toPy, PySem.W.alike]
@[simp] theorem ev_sortL (xs : List Int) : oSorted (.lst (xs.map .int)) = some (.own (.lst ((isortI xs).map .int))) := by
  show (if srtOk _ = true then _ else _) = _
  rw [if_pos (srtOk_ints xs), isortO_ints]
@[simp] theorem ev_sortT (xs : List Int) : oSorted (.tup (xs.map .int)) = some (.own (.lst ((isortI xs).map .int))) := by
  show (if srtOk _ = true then _ else _) = _
  rw [if_pos (srtOk_ints xs), isortO_ints]
theorem flat_ints (X : List Int) : (X.map D.int).all flat = true := by simp [List.all_eq_true, flat]
theorem inB_ints (i : Int) : ∀ X : List Int, inB (.int i) (X.map .int) = X.contains i
  | [] => rfl
  | x :: X => by
    have t := inB_ints i X
    unfold inB at t ⊢
    rw [List.map_cons, List.any_cons, t, List.contains_cons, eqb_int]
    congr 1
    by_cases h : x = i
    · subst h; simp
    · rw [decide_eq_false h, beq_eq_false_iff_ne.mpr (Ne.symm h)]
@[simp] theorem ev_in (i : Int) (X : List Int) : oIn (.int i) (.tup (X.map .int)) = some (.dat (.bl (X.contains i))) := by
  show (if flat (.int i) = true ∧ (X.map D.int).all flat = true then some (inB (.int i) (X.map .int)) else none).map _ = _
  rw [if_pos ⟨rfl, flat_ints X⟩, inB_ints]; rfl
@[simp] theorem ev_notIn (i : Int) (X : List Int) : oNotIn (.int i) (.tup (X.map .int)) = some (.dat (.bl (!X.contains i))) := by
  show (if flat (.int i) = true ∧ (X.map D.int).all flat = true then some (inB (.int i) (X.map .int)) else none).map _ = _
  rw [if_pos ⟨rfl, flat_ints X⟩, inB_ints]; rfl
/-- statement by statement -/
theorem sq {s t : Mo Fl} {E E1 : En} (h : s E = .ok .next E1) : sSeq s t E = t E1 := by rw [ev_seq, h]; rfl
theorem sq_tr {s t : Mo Fl} {E E1 : En} {R : Re Fl} (h : s E = .ok .next E1) (h2 : t E1 = R) : sSeq s t E = R := by rw [sq h, h2]
/-- a test that is not met -/
theorem sq_no {c : Mo Bool} {s t : Mo Fl} {E : En} {R : Re Fl} (h : c E = .ok false E) (h2 : t E = R) : sSeq (sIf c s sSkip) t E = R := sq_tr (by rw [ev_if, h]; rfl) h2
theorem sqr {s t : Mo Fl} {E E1 : En} {a : Vl} (h : s E = .ok (.ret a) E1) : sSeq s t E = .ok (.ret a) E1 := by rw [ev_seq, h]; rfl
/-! ### comprehensions -/
variable {t : D → Mo Unit} {c : Mo Bool} {e : Mo Vl} {vs ks : List Nat} {b : Mo Fl}
theorem dLoop_go {enc : α → D} (P : α → Bool) (f : α → D) : ∀ {xs : List α}, (∀ x ∈ xs, ∃ E1, t (enc x) E = .ok () E1 ∧ c E1 = .ok (P x) E1 ∧ (P x = true → frzM e E1 = .ok (f x) E1) ∧ vs.all (fun i => canSet E1[i]?) = true ∧ killE E1 vs = E) →
    dLoop t c e vs (xs.map enc) E = .ok ((xs.filter P).map f) E
  | [], _ => rfl
  | x :: xs, h => by
    obtain ⟨E1, h1, h2, h3, h4, h5⟩ := h x List.mem_cons_self
    have ih := dLoop_go P f (xs := xs) fun y hy => h y (List.mem_cons_of_mem _ hy)
    rw [List.map_cons]
    unfold dLoop
    rw [h1]
    dsimp only
    rw [h2]
    cases hP : P x with
    | true =>
      dsimp only
      rw [h3 hP]
      dsimp only
      rw [if_pos h4, h5, ih]
      simp [List.filter_cons, hP]
    | false =>
      dsimp only
      rw [if_pos h4, h5, ih]
      simp [List.filter_cons, hP]
theorem lc_run {ds xs : List D} {E' : En} (h : dLoop t c e vs ds (killE E vs) = .ok xs E') : blkM vs (onIts okT (ds, none) (dLoop t c e vs)) E = cb (vs.all (plainAt E) = true) (blkK vs E xs E') :=
  ev_blkM (f := onIts okT (ds, none) (dLoop t c e vs)) (by rw [ev_onIts0]; exact h)
/-- a comprehension with a test -/
theorem lc_if {enc : α → D} {xs : List α} (P : α → Bool) (f : α → D) (hp : vs.all (plainAt E) = true) (hn : vs.all (noneAt (killE E vs)) = true) (hr : restE E (killE E vs) vs = E)
    (h : ∀ x ∈ xs, ∃ E1, t (enc x) (killE E vs) = .ok () E1 ∧ c E1 = .ok (P x) E1 ∧ (P x = true → frzM e E1 = .ok (f x) E1) ∧ vs.all (fun i => canSet E1[i]?) = true ∧ killE E1 vs = killE E vs) :
    blkM vs (onIts okT (xs.map enc, none) (dLoop t c e vs)) E = .ok (.own (.lst ((xs.filter P).map f))) E := by
  have k := dLoop_go (vs := vs) P f h
  rw [ev_blkM (f := onIts okT (xs.map enc, none) (dLoop t c e vs)) (xs := (xs.filter P).map f) (E' := killE E vs) (by rw [ev_onIts0]; exact k), cb_pos hp]
  unfold blkK
  rw [cb_pos hn, hr]
/-- .. without one -/
theorem lc_map {enc : α → D} {xs : List α} (f : α → D) (hp : vs.all (plainAt E) = true) (hn : vs.all (noneAt (killE E vs)) = true) (hr : restE E (killE E vs) vs = E)
    (h : ∀ x ∈ xs, ∃ E1, t (enc x) (killE E vs) = .ok () E1 ∧ frzM e E1 = .ok (f x) E1 ∧ vs.all (fun i => canSet E1[i]?) = true ∧ killE E1 vs = killE E vs) :
    blkM vs (onIts okT (xs.map enc, none) (dLoop t (mp true) e vs)) E = .ok (.own (.lst (xs.map f))) E := by
  rw [lc_if (fun _ => true) f hp hn hr fun x hx => by
    obtain ⟨E1, h1, h2, h3, h4⟩ := h x hx
    exact ⟨E1, h1, rfl, fun _ => h2, h3, h4⟩]
  rw [List.filter_eq_self.mpr fun _ _ => rfl]
/-- a loop that goes on; an invariant on what is folded -/
theorem lp_fold {enc : α → D} (S : β → En) (step : β → α → β) (I : β → Prop) : ∀ {xs : List α} {b0 : β}, I b0 → (∀ b0, I b0 → ∀ x ∈ xs, ∃ E1 E2, t (enc x) (S b0) = .ok () E1 ∧ b E1 = .ok .next E2 ∧ killE E2 ks = S (step b0 x) ∧ I (step b0 x)) →
    sLoop t b ks (xs.map enc) (S b0) = .ok .next (S (xs.foldl step b0)) ∧ I (xs.foldl step b0)
  | [], b0, i, _ => ⟨rfl, i⟩
  | x :: xs, b0, i, h => by
    obtain ⟨E1, E2, h1, h2, h3, h4⟩ := h b0 i x List.mem_cons_self
    rw [List.map_cons]
    unfold sLoop
    rw [h1]
    dsimp only
    rw [h2]
    dsimp only
    rw [h3]
    exact lp_fold S step I (xs := xs) h4 fun b0 j y hy => h b0 j y (List.mem_cons_of_mem _ hy)
/-- a loop that ends at the first item of a kind -/
theorem lp_find {enc : α → D} (P : α → Bool) (g : α → Vl) (R : α → En) : ∀ {xs : List α}, (∀ x ∈ xs, ∃ E1, t (enc x) E = .ok () E1 ∧ ((P x = true ∧ b E1 = .ok (.ret (g x)) (R x)) ∨ (P x = false ∧ ∃ E2, b E1 = .ok .next E2 ∧ killE E2 ks = E))) →
    sLoop t b ks (xs.map enc) E = match xs.find? P with
      | some x => .ok (.ret (g x)) (R x)
      | none => .ok .next E
  | [], _ => rfl
  | x :: xs, h => by
    obtain ⟨E1, h1, h2⟩ := h x List.mem_cons_self
    have ih := lp_find P g R (xs := xs) fun y hy => h y (List.mem_cons_of_mem _ hy)
    rw [List.map_cons]
    unfold sLoop
    rw [h1]
    dsimp only
    rcases h2 with ⟨hP, hb⟩ | ⟨hP, E2, hb, hk⟩
    · rw [hb, List.find?_cons_of_pos hP]
    · rw [hb]
      dsimp only
      rw [hk, ih, List.find?_cons_of_neg (by rw [hP]; exact Bool.false_ne_true)]
/-- a loop with an invariant on the environment -/
theorem lp_inv {ds : List D} (I : En → Prop) (h : ∀ E, I E → ∀ x ∈ ds, ∃ E2, rb (t x E) (fun _ E1 => b E1) = .ok .next E2 ∧ I (killE E2 ks)) : ∀ {E : En}, I E → ∃ E', sLoop t b ks ds E = .ok .next E' ∧ I E' := by
  induction ds with
  | nil => exact fun {E} i => ⟨E, rfl, i⟩
  | cons x ds ih =>
    intro E i
    obtain ⟨E2, h2, h3⟩ := h E i x List.mem_cons_self
    obtain ⟨E', h4, h5⟩ := ih (fun E i y hy => h E i y (List.mem_cons_of_mem _ hy)) h3
    refine ⟨E', ?_, h5⟩
    unfold sLoop
    cases q : t x E with
    | ok u E1 =>
      rw [q] at h2
      dsimp only
      rw [rb_ok] at h2
      rw [h2]
      exact h4
    | exc y E1 => rw [q] at h2; cases h2
    | bad => rw [q] at h2; cases h2
/-- .. that knows the turn -/
theorem lp_turn {ds : List D} : ∀ (I : Nat → En → Prop) (h : ∀ k E x, I k E → ds[k]? = some x → ∃ E2, rb (t x E) (fun _ E1 => b E1) = .ok .next E2 ∧ I (k + 1) (killE E2 ks)) {E : En}, I 0 E → ∃ E', sLoop t b ks ds E = .ok .next E' ∧ I ds.length E' := by
  induction ds with
  | nil => exact fun I h {E} i => ⟨E, rfl, i⟩
  | cons x ds ih =>
    intro I h E i
    obtain ⟨E2, h2, h3⟩ := h 0 E x i rfl
    obtain ⟨E', h4, h5⟩ := ih (fun k E => I (k + 1) E) (fun k E y i hy => h (k + 1) E y i (by simpa using hy)) h3
    refine ⟨E', ?_, h5⟩
    unfold sLoop
    cases q : t x E with
    | ok u E1 =>
      rw [q] at h2
      dsimp only
      rw [rb_ok] at h2
      rw [h2]
      exact h4
    | exc y E1 => rw [q] at h2; cases h2
    | bad => rw [q] at h2; cases h2
/-- a loop whose body may also return -/
theorem lp_ret {ds : List D} (I : En → Prop) (R : Vl → En → Prop) (h : ∀ E, I E → ∀ x ∈ ds, ∃ f E2, rb (t x E) (fun _ E1 => b E1) = .ok f E2 ∧ ((f = .next ∧ I (killE E2 ks)) ∨ ∃ a, f = .ret a ∧ R a E2)) : ∀ {E : En}, I E → ∃ f E', sLoop t b ks ds E = .ok f E' ∧ ((f = .next ∧ I E') ∨ ∃ a, f = .ret a ∧ R a E') := by
  induction ds with
  | nil => exact fun {E} i => ⟨_, E, rfl, .inl ⟨rfl, i⟩⟩
  | cons x ds ih =>
    intro E i
    obtain ⟨f, E2, h2, h3⟩ := h E i x List.mem_cons_self
    have key : ∃ u E1, t x E = .ok u E1 ∧ b E1 = .ok f E2 := by
      cases q : t x E with
      | ok u E1 => rw [q, rb_ok] at h2; exact ⟨u, E1, rfl, h2⟩
      | exc y E1 => rw [q] at h2; cases h2
      | bad => rw [q] at h2; cases h2
    obtain ⟨u, E1, k1, k2⟩ := key
    rcases h3 with ⟨rfl, h3⟩ | ⟨a, rfl, h3⟩
    · obtain ⟨f', E', h4, h5⟩ := ih (fun E i y hy => h E i y (List.mem_cons_of_mem _ hy)) h3
      refine ⟨f', E', ?_, h5⟩
      unfold sLoop
      rw [k1]
      dsimp only
      rw [k2]
      exact h4
    · refine ⟨_, E2, ?_, .inr ⟨a, rfl, h3⟩⟩
      unfold sLoop
      rw [k1]
      dsimp only
      rw [k2]
end
end Fx

/-! K34M: the plain law of k34 -/
namespace K34
open Fx Sp Pg
theorem rows_ok : F__law_rows_right [] = .ok (.dat (.bl true)) [] := by kernel_rfl
theorem answers_ok : F__law_answers_right [] = .ok (.dat (.bl true)) [] := by kernel_rfl
abbrev famTail : Mo Fl := (sSeq (sSet 2 (dNew 1 F_Network___init__ [] (aCons (dC (.int 4)) (aCons (asD (dLst (eCons (dNew 0 F_Swap___init__ [.int 1] (aCons (dC (.int 0)) (aCons (dC (.int 1)) aNil))) (eCons (dNew 0 F_Swap___init__ [.int 1] (aCons (dC (.int 2)) (aCons (dC (.int 3)) aNil))) (eCons (dNew 0 F_Swap___init__ [.int 1] (aCons (dC (.int 0)) (aCons (dC (.int 2)) aNil))) (eCons (dNew 0 F_Swap___init__ [.int 1] (aCons (dC (.int 1)) (aCons (dC (.int 3)) aNil))) (eCons (dNew 0 F_Swap___init__ [.int 1] (aCons (dC (.int 1)) (aCons (dC (.int 2)) aNil))) eNil))))))) aNil)))) (sSeq (sIf (toB (d2 oNe (dCall F_harmless_sets (aCons (dVar 2) aNil)) (dLst (eCons (dTup eNil) eNil)))) (sSeq (sRet (dC (.bl false))) sSkip) sSkip) (sSeq (sIf (toB (d2 oNe (dCall F_least_harmful (aCons (dVar 2) aNil)) (dLst (eCons (dTup (eCons (dC (.int 0)) eNil)) (eCons (dTup (eCons (dC (.int 1)) eNil)) (eCons (dTup (eCons (dC (.int 2)) eNil)) (eCons (dTup (eCons (dC (.int 3)) eNil)) (eCons (dTup (eCons (dC (.int 4)) eNil)) eNil)))))))) (sSeq (sRet (dC (.bl false))) sSkip) sSkip) (sSeq (sIf (toB (d2 oNe (dCall F_rescues (aCons (dVar 2) aNil)) (dLst eNil))) (sSeq (sRet (dC (.bl false))) sSkip) sSkip) (sSeq (sSet 3 (dNew 1 F_Network___init__ [] (aCons (dC (.int 4)) (aCons (asD (dLst (eCons (dNew 0 F_Swap___init__ [.int 1] (aCons (dC (.int 0)) (aCons (dC (.int 1)) aNil))) (eCons (dNew 0 F_Swap___init__ [.int 1] (aCons (dC (.int 2)) (aCons (dC (.int 3)) aNil))) (eCons (dNew 0 F_Swap___init__ [.int 1] (aCons (dC (.int 0)) (aCons (dC (.int 2)) aNil))) (eCons (dNew 0 F_Swap___init__ [.int 1] (aCons (dC (.int 1)) (aCons (dC (.int 3)) aNil))) (eCons (dNew 0 F_Swap___init__ [.int 1] (aCons (dC (.int 1)) (aCons (dC (.int 2)) aNil))) (eCons (dNew 0 F_Swap___init__ [.int 1] (aCons (dC (.int 1)) (aCons (dC (.int 2)) aNil))) eNil)))))))) aNil)))) (sSeq (sIf (toB (d2 oNe (dCall F_harmless_sets (aCons (dVar 3) aNil)) (dLst (eCons (dTup eNil) (eCons (dTup (eCons (dC (.int 4)) eNil)) (eCons (dTup (eCons (dC (.int 5)) eNil)) eNil)))))) (sSeq (sRet (dC (.bl false))) sSkip) sSkip) (sSeq (sIf (toB (d2 oNe (dCall F_maximal_sets (aCons (dVar 3) aNil)) (dLst (eCons (dTup (eCons (dC (.int 4)) eNil)) (eCons (dTup (eCons (dC (.int 5)) eNil)) eNil))))) (sSeq (sRet (dC (.bl false))) sSkip) sSkip) (sSeq (sIf (toB (d2 oNe (d2 oIx (dCall F_breaches (aCons (dVar 3) aNil)) (d1 oNeg (dC (.int 1)))) (dTup (eCons (dTup (eCons (dC (.int 5)) eNil)) (eCons (dTup (eCons (dC (.int 4)) (eCons (dC (.int 5)) eNil))) eNil))))) (sSeq (sRet (dC (.bl false))) sSkip) sSkip) (sSeq (sSet 4 (dNew 1 F_Network___init__ [] (aCons (dC (.int 3)) (aCons (asD (dLst eNil)) aNil)))) (sSeq (sIf (bOr (toB (d2 oNe (dCall F_harmless_sets (aCons (dVar 4) aNil)) (dLst eNil))) (toB (d2 oNe (dCall F_maximal_sets (aCons (dVar 4) aNil)) (dLst eNil)))) (sSeq (sRet (dC (.bl false))) sSkip) sSkip) (sSeq (sRet (dAnd (d2 oEq (dCall F_least_harmful (aCons (dVar 4) aNil)) (dLst (eCons (dTup eNil) eNil))) (d2 oEq (dCall F_breaches (aCons (dVar 4) aNil)) (dLst eNil)))) sSkip)))))))))))
abbrev five : D := net 4 [(0, 1, 1), (2, 3, 1), (0, 2, 1), (1, 3, 1), (1, 2, 1)]
abbrev six : D := net 4 [(0, 1, 1), (2, 3, 1), (0, 2, 1), (1, 3, 1), (1, 2, 1), (1, 2, 1)]
theorem fam_tail (e0 e1 : Option S) : famTail [e0, e1, none, none, none] = .ok (.ret (.dat (.bl true))) [e0, e1, d five, d six, d (net 3 [])] := by kernel_rfl
theorem fam_ok (v : Int) (h : v = 1 ∨ v = 2 ∨ v = 3 ∨ v = 4 ∨ v = 5 ∨ v = 6 ∨ v = 7 ∨ v = 8) : F__law_families_right [d (.int v)] = .ok (.dat (.bl true)) [d (.int v)] := by
  unfold F__law_families_right
  rw [ev_mkF (a := .ret (.dat (.bl true))) (E' := [d (.int v), d (net 2 [(0, 1, v), (1, 0, 1), (0, 1, 1)]), d five, d six, d (net 3 [])])]
  · simp
  apply sq_tr (E1 := [d (.int v), d (net 2 [(0, 1, v), (1, 0, 1), (0, 1, 1)]), none, none, none])
  · rcases h with rfl | rfl | rfl | rfl | rfl | rfl | rfl | rfl <;> kernel_rfl
  apply sq_no
  · rcases h with rfl | rfl | rfl | rfl | rfl | rfl | rfl | rfl <;> kernel_rfl
  apply sq_no
  · rcases h with rfl | rfl | rfl | rfl | rfl | rfl | rfl | rfl <;> kernel_rfl
  apply sq_no
  · rcases h with rfl | rfl | rfl | rfl | rfl | rfl | rfl | rfl <;> kernel_rfl
  apply sq_no
  · rcases h with rfl | rfl | rfl | rfl | rfl | rfl | rfl | rfl <;> kernel_rfl
  apply sq_no
  · rcases h with rfl | rfl | rfl | rfl | rfl | rfl | rfl | rfl <;> kernel_rfl
  exact fam_tail _ _
theorem sav_ok (v : Int) (h : v = 1 ∨ v = 2 ∨ v = 3 ∨ v = 4 ∨ v = 5 ∨ v = 6 ∨ v = 7 ∨ v = 8) : F__law_savings_right [d (.int v)] = .ok (.dat (.bl true)) [d (.int v)] := by
  rcases h with rfl | rfl | rfl | rfl | rfl | rfl | rfl | rfl <;> kernel_rfl
theorem turn_ok (e0 : Option S) (c : Int) : b_law_1 [e0, d (.int c), none] = .ok .next [e0, d (.int c), d (.int (1 + (if c < 0 then -c else c) % 8))] := by
  have h : 1 + (if c < 0 then -c else c) % 8 = 1 ∨ 1 + (if c < 0 then -c else c) % 8 = 2 ∨ 1 + (if c < 0 then -c else c) % 8 = 3 ∨ 1 + (if c < 0 then -c else c) % 8 = 4 ∨ 1 + (if c < 0 then -c else c) % 8 = 5 ∨ 1 + (if c < 0 then -c else c) % 8 = 6 ∨ 1 + (if c < 0 then -c else c) % 8 = 7 ∨ 1 + (if c < 0 then -c else c) % 8 = 8 := by omega
  have h1 := fam_ok _ h
  have h2 := sav_ok _ h
  unfold b_law_1
  apply sq_tr
  · simp; exact rfl
  apply sq_no
  · simp [h1, h2]
  rfl
theorem law_true (ns : List Int) (_ : ns.length ≤ 63) : ∃ as, F_law [some (.dat (.scr ns))] = .ok (.dat (.bl true)) as := by
  have e3 : oSl2 none (some 3) (.scr ns) = _ := ev_sl_scr (ns := ns) (k := 3) (by omega)
  have h3 : (ns.take 3).length ≤ 3 := by rw [List.length_take]; omega
  obtain ⟨E2, hE2, rfl⟩ := lp_inv (t := gN 1) (b := b_law_1) (ks := [1, 2]) (ds := D.int 0 :: (ns.take 3).map .int) (fun E => E = [d (.scr ns), none, none]) (fun E hE x hx => by
    subst hE
    have : ∃ c, x = .int c := by
      rcases List.mem_cons.mp hx with rfl | hx
      · exact ⟨0, rfl⟩
      · obtain ⟨c, _, rfl⟩ := List.mem_map.mp hx
        exact ⟨c, rfl⟩
    obtain ⟨c, rfl⟩ := this
    exact ⟨_, turn_ok (d (.scr ns)) c, rfl⟩) rfl
  refine ⟨[d (.scr ns)], ?_⟩
  unfold F_law
  have hb : b_law_2 [d (.scr ns), none, none] = .ok (.ret (.dat (.bl true))) [d (.scr ns), none, none] := by
    unfold b_law_2
    have ha : oAdd (.lst [D.int 0]) (.lst ((ns.take 3).map .int)) = some (.own (.lst (D.int 0 :: (ns.take 3).map .int))) := by
      rw [ev_add2, if_pos (by rw [List.length_map]; exact lim_of (by simp only [List.length_cons, List.length_nil]; omega))]; rfl
    generalize (ns.take 3).map D.int = L at *
    apply sq_tr
    · simp [e3, ha, hE2]; exact rfl
    simp [rows_ok, answers_ok]
  rw [ev_mkF (a := .ret (.dat (.bl true))) (E' := [d (.scr ns), none, none])]
  · simp
  apply sqr
  show sNoX b_law_2 [d (.scr ns), none, none] = _
  unfold sNoX
  rw [hb]
end K34

/-! FxX: the end of a law with tables of code objects -/
namespace Fx
open PySem PySem.Spec PyProof.Rows L2 LamX
/-- all but the tables -/
def hdOf (H : Hp) : Hp := fun a => match H a with
  | some (.tbl _) => none
  | o => o
theorem hdOf_keep {H : Hp} {a : Addr} {o : HO} (h : H a = some o) (n : NT o) : hdOf H a = some o := by
  unfold hdOf
  rw [h]
  split
  · rename_i ps e; cases e; exact absurd rfl (n ps)
  · rfl
theorem hdOf_same {H : Hp} : Same (hdOf H) H := fun a o h => by
  unfold hdOf at h
  split at h
  · cases h
  · exact h
theorem hdOf_nt {H : Hp} (a : Addr) (ps : Array Value) : hdOf H a ≠ some (.tbl ps) := fun h => by
  unfold hdOf at h
  split at h
  · cases h
  · rename_i n; exact n ps h
theorem hdOf_sqL {K : PySem.W.Frag} {H : Hp} {a : Addr} {xs : List V} (h : SqL K H a xs) : SqL K (hdOf H) a xs := h.elim (fun z => .inl (rd_keep (fun _ _ => hdOf_keep) (fun _ z => by cases z) z)) .inr
/-- where the table of the code object at c stands -/
def tabAt (K : PySem.W.Frag) (c : Addr) : Option Addr := match K.lookup c with
  | some ⟨_, _, .fields vs, _⟩ => (match (vs[11]? : Option Value) with
    | some (.ref P) => some P
    | _ => none)
  | _ => none
theorem lamT_of {g : Gx} {K : PySem.W.Frag} {base : Heap} {mg : Str → Option Value} {f cc P : Addr} {q : Str} {oc : Value} {od : Option Addr} {fd : FuncData} {sl : Array (Option Value)} (hl : K.lookup f = some ⟨oc, od, .func fd, sl⟩) (hc : fd.code = .ref cc) (hT : TabB base mg cc P) (hm : (P, q ++ "<lambda>") ∈ g.T)
    (hu : ∀ p ∈ g.T, p.1 = P → p.2 = q ++ "<lambda>") : ∀ cdv, CdOf K f cdv → LamT g base mg cdv q := by
  rintro cdv ⟨o, fd', h1, h2, h3⟩
  rw [hl] at h1
  cases h1
  cases h2
  exact ⟨cc, P, h3.symm.trans hc, hT, hm, hu⟩
def spLawT (m : Nat) (K : PySem.W.Frag) (cs : List (Addr × Addr)) : Sp := fun vs H Q _ => ∃ (a : Addr) (ns : List Int), vs = [.ref a] ∧ SqL K H a (ns.map V.int) ∧ ns.length ≤ m ∧ (∀ p ∈ cs, H p.2 = some (.tbl #[])) ∧ ∀ H', Q (.bl true) H'
theorem spLaw_of {g : Gx} {m : Nat} {K : PySem.W.Frag} {cs : List (Addr × Addr)} {Fl : En → Re Vl} {vs : List V} {H : Hp} {Q : VK} {E : XK} (hK : g.K = K) (hg : ∀ p ∈ g.T, ∃ c, (c, p.1) ∈ cs) (hlaw : ∀ ns : List Int, ns.length ≤ m → ∃ as, Fl [some (.dat (.scr ns))] = .ok (.dat (.bl true)) as)
    (h : spLawT m K cs vs H Q E) : spF g 1 Fl vs H Q E := by
  obtain ⟨a, ns, rfl, hS, hlen, hT, hQ⟩ := h
  obtain ⟨as, hF⟩ := hlaw ns hlen
  refine spF_data (ds := [.scr ns]) (hdOf_same (H := H)) (fun p hp => ?_) hdOf_nt rfl (RepL.one (by simp only [Rep]; exact ⟨a, rfl, by rw [hK]; exact hdOf_sqL hS⟩)) hF fun v Hd' H' G rv => by
    have hv : v = .bl true := by simpa only [Rep] using rv
    rw [hv]
    exact hQ H'
  obtain ⟨c, hc⟩ := hg p hp
  exact TabS.nil (hT _ hc)
end Fx

/-! printed by wip/gen.py: what the top has written; the head -/
namespace K34
open PySem PySem.Spec PyProof.Rows L2 Fx LamX
theorem all_mk {l : PySem.W.OpenLaw} {w : World} {K : PySem.W.Frag} {h : Heap} {mg : Str → Option Value} {fa : Addr} (m : Nat) (hlaw : ∀ ns : List Int, ns.length ≤ m → ∃ as, F_law [some (.dat (.scr ns))] = .ok (.dat (.bl true)) as) (X : K.In h) (G : h.Ns mainGlobals mg) (hfa : mg "law" = some (.ref fa))
    {C0 : Addr}
    {C1 : Addr}
    {C3 : Addr}
    {C4 : Addr}
    {f_is_sorted : Addr} {od_is_sorted an_is_sorted : Option Addr} {sl_is_sorted : Array (Option Value)} {oc_is_sorted dc_is_sorted pm_is_sorted cd_is_sorted ct_is_sorted : Value}
    {kV_is_sorted : Value}
    {f_after_step : Addr} {od_after_step an_after_step : Option Addr} {sl_after_step : Array (Option Value)} {oc_after_step dc_after_step pm_after_step cd_after_step ct_after_step : Value}
    {kV_after_step : Value}
    {f_behind : Addr} {od_behind an_behind : Option Addr} {sl_behind : Array (Option Value)} {oc_behind dc_behind pm_behind cd_behind ct_behind : Value}
    {kV_behind : Value}
    {f_bit_rows : Addr} {od_bit_rows an_bit_rows : Option Addr} {sl_bit_rows : Array (Option Value)} {oc_bit_rows dc_bit_rows pm_bit_rows cd_bit_rows ct_bit_rows : Value}
    {kV_bit_rows : Value}
    {f_sorts : Addr} {od_sorts an_sorts : Option Addr} {sl_sorts : Array (Option Value)} {oc_sorts dc_sorts pm_sorts cd_sorts ct_sorts : Value}
    {kV_sorts : Value}
    {f_Network___bool__ : Addr} {od_Network___bool__ an_Network___bool__ : Option Addr} {sl_Network___bool__ : Array (Option Value)} {oc_Network___bool__ dc_Network___bool__ pm_Network___bool__ cd_Network___bool__ ct_Network___bool__ : Value}
    {kV_Network___bool__ : Value}
    {f_is_whole : Addr} {od_is_whole an_is_whole : Option Addr} {sl_is_whole : Array (Option Value)} {oc_is_whole dc_is_whole pm_is_whole cd_is_whole ct_is_whole : Value}
    {kV_is_whole : Value}
    {f_is_integer : Addr} {od_is_integer an_is_integer : Option Addr} {sl_is_integer : Array (Option Value)} {oc_is_integer dc_is_integer pm_is_integer cd_is_integer ct_is_integer : Value}
    {kV_is_integer : Value}
    {f_is_swap_of : Addr} {od_is_swap_of an_is_swap_of : Option Addr} {sl_is_swap_of : Array (Option Value)} {oc_is_swap_of dc_is_swap_of pm_is_swap_of cd_is_swap_of ct_is_swap_of : Value}
    {kV_is_swap_of : Value}
    {f_Network___init__ : Addr} {od_Network___init__ an_Network___init__ : Option Addr} {sl_Network___init__ : Array (Option Value)} {oc_Network___init__ dc_Network___init__ pm_Network___init__ cd_Network___init__ ct_Network___init__ : Value}
    {kV_Network___init__ : Value}
    {f_Swap___init__ : Addr} {od_Swap___init__ an_Swap___init__ : Option Addr} {sl_Swap___init__ : Array (Option Value)} {oc_Swap___init__ dc_Swap___init__ pm_Swap___init__ cd_Swap___init__ ct_Swap___init__ : Value}
    {D_Swap___init__ : Addr} {tk_Swap___init__ : Tok}
    {f_mirrored : Addr} {od_mirrored an_mirrored : Option Addr} {sl_mirrored : Array (Option Value)} {oc_mirrored dc_mirrored pm_mirrored cd_mirrored ct_mirrored : Value}
    {kV_mirrored : Value}
    {f_Network___neg__ : Addr} {od_Network___neg__ an_Network___neg__ : Option Addr} {sl_Network___neg__ : Array (Option Value)} {oc_Network___neg__ dc_Network___neg__ pm_Network___neg__ cd_Network___neg__ ct_Network___neg__ : Value}
    {kV_Network___neg__ : Value}
    {f_Swap___eq__ : Addr} {od_Swap___eq__ an_Swap___eq__ : Option Addr} {sl_Swap___eq__ : Array (Option Value)} {oc_Swap___eq__ dc_Swap___eq__ pm_Swap___eq__ cd_Swap___eq__ ct_Swap___eq__ : Value}
    {kV_Swap___eq__ : Value}
    {f_Network___eq__ : Addr} {od_Network___eq__ an_Network___eq__ : Option Addr} {sl_Network___eq__ : Array (Option Value)} {oc_Network___eq__ dc_Network___eq__ pm_Network___eq__ cd_Network___eq__ ct_Network___eq__ : Value}
    {kV_Network___eq__ : Value}
    {f_is_row : Addr} {od_is_row an_is_row : Option Addr} {sl_is_row : Array (Option Value)} {oc_is_row dc_is_row pm_is_row cd_is_row ct_is_row : Value}
    {kV_is_row : Value}
    {f_check_row : Addr} {od_check_row an_check_row : Option Addr} {sl_check_row : Array (Option Value)} {oc_check_row dc_check_row pm_check_row cd_check_row ct_check_row : Value}
    {kV_check_row : Value}
    {f_Network___call__ : Addr} {od_Network___call__ an_Network___call__ : Option Addr} {sl_Network___call__ : Array (Option Value)} {oc_Network___call__ dc_Network___call__ pm_Network___call__ cd_Network___call__ ct_Network___call__ : Value}
    {kV_Network___call__ : Value}
    {f__law_rows_right : Addr} {od__law_rows_right an__law_rows_right : Option Addr} {sl__law_rows_right : Array (Option Value)} {oc__law_rows_right dc__law_rows_right pm__law_rows_right cd__law_rows_right ct__law_rows_right : Value}
    {kV__law_rows_right : Value}
    {f__law_three : Addr} {od__law_three an__law_three : Option Addr} {sl__law_three : Array (Option Value)} {oc__law_three dc__law_three pm__law_three cd__law_three ct__law_three : Value}
    {kV__law_three : Value}
    {f_check_network : Addr} {od_check_network an_check_network : Option Addr} {sl_check_network : Array (Option Value)} {oc_check_network dc_check_network pm_check_network cd_check_network ct_check_network : Value}
    {kV_check_network : Value}
    {f_worth_of : Addr} {od_worth_of an_worth_of : Option Addr} {sl_worth_of : Array (Option Value)} {oc_worth_of dc_worth_of pm_worth_of cd_worth_of ct_worth_of : Value}
    {kV_worth_of : Value}
    {f_rest_of : Addr} {od_rest_of an_rest_of : Option Addr} {sl_rest_of : Array (Option Value)} {oc_rest_of dc_rest_of pm_rest_of cd_rest_of ct_rest_of : Value}
    {kV_rest_of : Value}
    {f_is_against : Addr} {od_is_against an_is_against : Option Addr} {sl_is_against : Array (Option Value)} {oc_is_against dc_is_against pm_is_against cd_is_against ct_is_against : Value}
    {kV_is_against : Value}
    {f_are_refuted : Addr} {od_are_refuted an_are_refuted : Option Addr} {sl_are_refuted : Array (Option Value)} {oc_are_refuted dc_are_refuted pm_are_refuted cd_are_refuted ct_are_refuted : Value}
    {kV_are_refuted : Value}
    {f_is_safe : Addr} {od_is_safe an_is_safe : Option Addr} {sl_is_safe : Array (Option Value)} {oc_is_safe dc_is_safe pm_is_safe cd_is_safe ct_is_safe : Value}
    {kV_is_safe : Value}
    {f_all_sets : Addr} {od_all_sets an_all_sets : Option Addr} {sl_all_sets : Array (Option Value)} {oc_all_sets dc_all_sets pm_all_sets cd_all_sets ct_all_sets : Value}
    {kV_all_sets : Value}
    {f_Saving_shows : Addr} {od_Saving_shows an_Saving_shows : Option Addr} {sl_Saving_shows : Array (Option Value)} {oc_Saving_shows dc_Saving_shows pm_Saving_shows cd_Saving_shows ct_Saving_shows : Value}
    {kV_Saving_shows : Value}
    {f_NoSaving_shows : Addr} {od_NoSaving_shows an_NoSaving_shows : Option Addr} {sl_NoSaving_shows : Array (Option Value)} {oc_NoSaving_shows dc_NoSaving_shows pm_NoSaving_shows cd_NoSaving_shows ct_NoSaving_shows : Value}
    {kV_NoSaving_shows : Value}
    {f_Saving___init__ : Addr} {od_Saving___init__ an_Saving___init__ : Option Addr} {sl_Saving___init__ : Array (Option Value)} {oc_Saving___init__ dc_Saving___init__ pm_Saving___init__ cd_Saving___init__ ct_Saving___init__ : Value}
    {kV_Saving___init__ : Value}
    {f_NoSaving___init__ : Addr} {od_NoSaving___init__ an_NoSaving___init__ : Option Addr} {sl_NoSaving___init__ : Array (Option Value)} {oc_NoSaving___init__ dc_NoSaving___init__ pm_NoSaving___init__ cd_NoSaving___init__ ct_NoSaving___init__ : Value}
    {kV_NoSaving___init__ : Value}
    {f__law_answers_right : Addr} {od__law_answers_right an__law_answers_right : Option Addr} {sl__law_answers_right : Array (Option Value)} {oc__law_answers_right dc__law_answers_right pm__law_answers_right cd__law_answers_right ct__law_answers_right : Value}
    {kV__law_answers_right : Value}
    {f_parted : Addr} {od_parted an_parted : Option Addr} {sl_parted : Array (Option Value)} {oc_parted dc_parted pm_parted cd_parted ct_parted : Value}
    {kV_parted : Value}
    {f_harmless_sets : Addr} {od_harmless_sets an_harmless_sets : Option Addr} {sl_harmless_sets : Array (Option Value)} {oc_harmless_sets dc_harmless_sets pm_harmless_sets cd_harmless_sets ct_harmless_sets : Value}
    {kV_harmless_sets : Value}
    {f_is_within : Addr} {od_is_within an_is_within : Option Addr} {sl_is_within : Array (Option Value)} {oc_is_within dc_is_within pm_is_within cd_is_within ct_is_within : Value}
    {kV_is_within : Value}
    {f_maximal_sets : Addr} {od_maximal_sets an_maximal_sets : Option Addr} {sl_maximal_sets : Array (Option Value)} {oc_maximal_sets dc_maximal_sets pm_maximal_sets cd_maximal_sets ct_maximal_sets : Value}
    {kV_maximal_sets : Value}
    {f_least_harmful : Addr} {od_least_harmful an_least_harmful : Option Addr} {sl_least_harmful : Array (Option Value)} {oc_least_harmful dc_least_harmful pm_least_harmful cd_least_harmful ct_least_harmful : Value}
    {kV_least_harmful : Value}
    {f_one_more : Addr} {od_one_more an_one_more : Option Addr} {sl_one_more : Array (Option Value)} {oc_one_more dc_one_more pm_one_more cd_one_more ct_one_more : Value}
    {kV_one_more : Value}
    {f_rescues : Addr} {od_rescues an_rescues : Option Addr} {sl_rescues : Array (Option Value)} {oc_rescues dc_rescues pm_rescues cd_rescues ct_rescues : Value}
    {kV_rescues : Value}
    {f_breaches : Addr} {od_breaches an_breaches : Option Addr} {sl_breaches : Array (Option Value)} {oc_breaches dc_breaches pm_breaches cd_breaches ct_breaches : Value}
    {kV_breaches : Value}
    {f__law_families_right : Addr} {od__law_families_right an__law_families_right : Option Addr} {sl__law_families_right : Array (Option Value)} {oc__law_families_right dc__law_families_right pm__law_families_right cd__law_families_right ct__law_families_right : Value}
    {kV__law_families_right : Value}
    {f_first_witness : Addr} {od_first_witness an_first_witness : Option Addr} {sl_first_witness : Array (Option Value)} {oc_first_witness dc_first_witness pm_first_witness cd_first_witness ct_first_witness : Value}
    {kV_first_witness : Value}
    {f_greatest : Addr} {od_greatest an_greatest : Option Addr} {sl_greatest : Array (Option Value)} {oc_greatest dc_greatest pm_greatest ct_greatest : Value} {cc_greatest P_greatest : Addr}
    {kV_greatest : Value}
    {co_greatest : Value} {dd_greatest : Option Addr} {vs_greatest : Array Value} {ss_greatest : Array (Option Value)}
    {f_check_set : Addr} {od_check_set an_check_set : Option Addr} {sl_check_set : Array (Option Value)} {oc_check_set dc_check_set pm_check_set cd_check_set ct_check_set : Value}
    {kV_check_set : Value}
    {f_saved : Addr} {od_saved an_saved : Option Addr} {sl_saved : Array (Option Value)} {oc_saved dc_saved pm_saved cd_saved ct_saved : Value}
    {kV_saved : Value}
    {f_witness : Addr} {od_witness an_witness : Option Addr} {sl_witness : Array (Option Value)} {oc_witness dc_witness pm_witness cd_witness ct_witness : Value}
    {kV_witness : Value}
    {f_is_witness : Addr} {od_is_witness an_is_witness : Option Addr} {sl_is_witness : Array (Option Value)} {oc_is_witness dc_is_witness pm_is_witness cd_is_witness ct_is_witness : Value}
    {kV_is_witness : Value}
    {f__law_savings_right : Addr} {od__law_savings_right an__law_savings_right : Option Addr} {sl__law_savings_right : Array (Option Value)} {oc__law_savings_right dc__law_savings_right pm__law_savings_right cd__law_savings_right ct__law_savings_right : Value}
    {kV__law_savings_right : Value}
    {f_law : Addr} {od_law an_law : Option Addr} {sl_law : Array (Option Value)} {oc_law dc_law pm_law cd_law ct_law : Value}
    {kV_law : Value}
    {X2 : Addr}
    {X4 : Addr}
    {X5 : Addr}
    {X1 : Addr}
    {t_MAX_COST : Tok}
    {t_MAX_LINES : Tok}
    {t_MAX_SWAPS : Tok}
    {t_MIN_LINES : Tok}
    (aC_Swap : PySem.W.nsIn K mainGlobals "Swap" = some (some (.ref C0)))
    (pg_Swap : PySem.W.plainGet K C0 Str.empty = true)
    (hd_Swap : PySem.W.hasDictIn K C0 = true)
    (po_Swap : PySem.W.plainOver K C0 = true)
    (sa_Swap : PySem.W.findIn K (.ref C0) "__setattr__" = some (some (.builtin "object.__setattr__")))
    (ha_Swap : PySem.W.findIn K (.ref C0) "__class__" = some (some (.builtin "object.__class__")))
    (hm_Swap : PySem.W.mroIn K C0 (.type "object") = some true)
    (mk_Swap : PySem.W.makesIn K C0 = true)
    (kc_Swap : PySem.W.keepIn K (.ref C0) = true)
    (aC_Network : PySem.W.nsIn K mainGlobals "Network" = some (some (.ref C1)))
    (pg_Network : PySem.W.plainGet K C1 Str.empty = true)
    (hd_Network : PySem.W.hasDictIn K C1 = true)
    (po_Network : PySem.W.plainOver K C1 = true)
    (sa_Network : PySem.W.findIn K (.ref C1) "__setattr__" = some (some (.builtin "object.__setattr__")))
    (ha_Network : PySem.W.findIn K (.ref C1) "__class__" = some (some (.builtin "object.__class__")))
    (hm_Network : PySem.W.mroIn K C1 (.type "object") = some true)
    (mk_Network : PySem.W.makesIn K C1 = true)
    (kc_Network : PySem.W.keepIn K (.ref C1) = true)
    (aC_Saving : PySem.W.nsIn K mainGlobals "Saving" = some (some (.ref C3)))
    (pg_Saving : PySem.W.plainGet K C3 Str.empty = true)
    (hd_Saving : PySem.W.hasDictIn K C3 = true)
    (po_Saving : PySem.W.plainOver K C3 = true)
    (sa_Saving : PySem.W.findIn K (.ref C3) "__setattr__" = some (some (.builtin "object.__setattr__")))
    (ha_Saving : PySem.W.findIn K (.ref C3) "__class__" = some (some (.builtin "object.__class__")))
    (hm_Saving : PySem.W.mroIn K C3 (.type "object") = some true)
    (mk_Saving : PySem.W.makesIn K C3 = true)
    (kc_Saving : PySem.W.keepIn K (.ref C3) = true)
    (aC_NoSaving : PySem.W.nsIn K mainGlobals "NoSaving" = some (some (.ref C4)))
    (pg_NoSaving : PySem.W.plainGet K C4 Str.empty = true)
    (hd_NoSaving : PySem.W.hasDictIn K C4 = true)
    (po_NoSaving : PySem.W.plainOver K C4 = true)
    (sa_NoSaving : PySem.W.findIn K (.ref C4) "__setattr__" = some (some (.builtin "object.__setattr__")))
    (ha_NoSaving : PySem.W.findIn K (.ref C4) "__class__" = some (some (.builtin "object.__class__")))
    (hm_NoSaving : PySem.W.mroIn K C4 (.type "object") = some true)
    (mk_NoSaving : PySem.W.makesIn K C4 = true)
    (kc_NoSaving : PySem.W.keepIn K (.ref C4) = true)
    (hn : PySem.W.specialIn K (.builtin "object.__class__") "__get__" = some (some (.builtin "getset_descriptor.__get__")))
    (htk : PySem.W.takesIn K (.builtin "object.__class__") = some true)
    (a_is_sorted : PySem.W.nsIn K mainGlobals "is_sorted" = some (some (.ref f_is_sorted)))
    (l_is_sorted : K.lookup f_is_sorted = some ⟨oc_is_sorted, od_is_sorted, .func (PySem.W.fnOf "is_sorted" "is_sorted" (defArgs s_is_sorted) (defBody s_is_sorted) (defScope s_is_sorted) .none kV_is_sorted dc_is_sorted pm_is_sorted an_is_sorted cd_is_sorted ct_is_sorted), sl_is_sorted⟩)
    (c_is_sorted : PySem.W.codeIn K cd_is_sorted "is_sorted" = true)
    (k_is_sorted : PySem.W.keepIn K (.ref f_is_sorted) = true)
    (a_after_step : PySem.W.nsIn K mainGlobals "after_step" = some (some (.ref f_after_step)))
    (l_after_step : K.lookup f_after_step = some ⟨oc_after_step, od_after_step, .func (PySem.W.fnOf "after_step" "after_step" (defArgs s_after_step) (defBody s_after_step) (defScope s_after_step) .none kV_after_step dc_after_step pm_after_step an_after_step cd_after_step ct_after_step), sl_after_step⟩)
    (c_after_step : PySem.W.codeIn K cd_after_step "after_step" = true)
    (k_after_step : PySem.W.keepIn K (.ref f_after_step) = true)
    (a_behind : PySem.W.nsIn K mainGlobals "behind" = some (some (.ref f_behind)))
    (l_behind : K.lookup f_behind = some ⟨oc_behind, od_behind, .func (PySem.W.fnOf "behind" "behind" (defArgs s_behind) (defBody s_behind) (defScope s_behind) .none kV_behind dc_behind pm_behind an_behind cd_behind ct_behind), sl_behind⟩)
    (c_behind : PySem.W.codeIn K cd_behind "behind" = true)
    (k_behind : PySem.W.keepIn K (.ref f_behind) = true)
    (a_bit_rows : PySem.W.nsIn K mainGlobals "bit_rows" = some (some (.ref f_bit_rows)))
    (l_bit_rows : K.lookup f_bit_rows = some ⟨oc_bit_rows, od_bit_rows, .func (PySem.W.fnOf "bit_rows" "bit_rows" (defArgs s_bit_rows) (defBody s_bit_rows) (defScope s_bit_rows) .none kV_bit_rows dc_bit_rows pm_bit_rows an_bit_rows cd_bit_rows ct_bit_rows), sl_bit_rows⟩)
    (c_bit_rows : PySem.W.codeIn K cd_bit_rows "bit_rows" = true)
    (k_bit_rows : PySem.W.keepIn K (.ref f_bit_rows) = true)
    (a_sorts : PySem.W.nsIn K mainGlobals "sorts" = some (some (.ref f_sorts)))
    (l_sorts : K.lookup f_sorts = some ⟨oc_sorts, od_sorts, .func (PySem.W.fnOf "sorts" "sorts" (defArgs s_sorts) (defBody s_sorts) (defScope s_sorts) .none kV_sorts dc_sorts pm_sorts an_sorts cd_sorts ct_sorts), sl_sorts⟩)
    (c_sorts : PySem.W.codeIn K cd_sorts "sorts" = true)
    (k_sorts : PySem.W.keepIn K (.ref f_sorts) = true)
    (a_Network___bool__ : PySem.W.findIn K (.ref C1) "__bool__" = some (some (.ref f_Network___bool__)))
    (i_Network___bool__ : PySem.W.isFn K (.ref f_Network___bool__) = true)
    (l_Network___bool__ : K.lookup f_Network___bool__ = some ⟨oc_Network___bool__, od_Network___bool__, .func (PySem.W.fnOf "__bool__" "Network.__bool__" (defArgs s_Network___bool__) (defBody s_Network___bool__) (defScope s_Network___bool__) .none kV_Network___bool__ dc_Network___bool__ pm_Network___bool__ an_Network___bool__ cd_Network___bool__ ct_Network___bool__), sl_Network___bool__⟩)
    (c_Network___bool__ : PySem.W.codeIn K cd_Network___bool__ "Network.__bool__" = true)
    (k_Network___bool__ : PySem.W.keepIn K (.ref f_Network___bool__) = true)
    (a_is_whole : PySem.W.nsIn K mainGlobals "is_whole" = some (some (.ref f_is_whole)))
    (l_is_whole : K.lookup f_is_whole = some ⟨oc_is_whole, od_is_whole, .func (PySem.W.fnOf "is_whole" "is_whole" (defArgs s_is_whole) (defBody s_is_whole) (defScope s_is_whole) .none kV_is_whole dc_is_whole pm_is_whole an_is_whole cd_is_whole ct_is_whole), sl_is_whole⟩)
    (c_is_whole : PySem.W.codeIn K cd_is_whole "is_whole" = true)
    (k_is_whole : PySem.W.keepIn K (.ref f_is_whole) = true)
    (a_is_integer : PySem.W.nsIn K mainGlobals "is_integer" = some (some (.ref f_is_integer)))
    (l_is_integer : K.lookup f_is_integer = some ⟨oc_is_integer, od_is_integer, .func (PySem.W.fnOf "is_integer" "is_integer" (defArgs s_is_integer) (defBody s_is_integer) (defScope s_is_integer) .none kV_is_integer dc_is_integer pm_is_integer an_is_integer cd_is_integer ct_is_integer), sl_is_integer⟩)
    (c_is_integer : PySem.W.codeIn K cd_is_integer "is_integer" = true)
    (k_is_integer : PySem.W.keepIn K (.ref f_is_integer) = true)
    (a_is_swap_of : PySem.W.nsIn K mainGlobals "is_swap_of" = some (some (.ref f_is_swap_of)))
    (l_is_swap_of : K.lookup f_is_swap_of = some ⟨oc_is_swap_of, od_is_swap_of, .func (PySem.W.fnOf "is_swap_of" "is_swap_of" (defArgs s_is_swap_of) (defBody s_is_swap_of) (defScope s_is_swap_of) .none kV_is_swap_of dc_is_swap_of pm_is_swap_of an_is_swap_of cd_is_swap_of ct_is_swap_of), sl_is_swap_of⟩)
    (c_is_swap_of : PySem.W.codeIn K cd_is_swap_of "is_swap_of" = true)
    (k_is_swap_of : PySem.W.keepIn K (.ref f_is_swap_of) = true)
    (a_Network___init__ : PySem.W.findIn K (.ref C1) "__init__" = some (some (.ref f_Network___init__)))
    (i_Network___init__ : PySem.W.isFn K (.ref f_Network___init__) = true)
    (l_Network___init__ : K.lookup f_Network___init__ = some ⟨oc_Network___init__, od_Network___init__, .func (PySem.W.fnOf "__init__" "Network.__init__" (defArgs s_Network___init__) (defBody s_Network___init__) (defScope s_Network___init__) .none kV_Network___init__ dc_Network___init__ pm_Network___init__ an_Network___init__ cd_Network___init__ ct_Network___init__), sl_Network___init__⟩)
    (c_Network___init__ : PySem.W.codeIn K cd_Network___init__ "Network.__init__" = true)
    (k_Network___init__ : PySem.W.keepIn K (.ref f_Network___init__) = true)
    (a_Swap___init__ : PySem.W.findIn K (.ref C0) "__init__" = some (some (.ref f_Swap___init__)))
    (i_Swap___init__ : PySem.W.isFn K (.ref f_Swap___init__) = true)
    (l_Swap___init__ : K.lookup f_Swap___init__ = some ⟨oc_Swap___init__, od_Swap___init__, .func (PySem.W.fnOf "__init__" "Swap.__init__" (defArgs s_Swap___init__) (defBody s_Swap___init__) (defScope s_Swap___init__) .none (.ref D_Swap___init__) dc_Swap___init__ pm_Swap___init__ an_Swap___init__ cd_Swap___init__ ct_Swap___init__), sl_Swap___init__⟩)
    (c_Swap___init__ : PySem.W.codeIn K cd_Swap___init__ "Swap.__init__" = true)
    (k_Swap___init__ : PySem.W.keepIn K (.ref f_Swap___init__) = true)
    (kw_Swap___init__ : PySem.W.nsIn K D_Swap___init__ "cost" = some (some (.int 1 tk_Swap___init__)))
    (a_mirrored : PySem.W.nsIn K mainGlobals "mirrored" = some (some (.ref f_mirrored)))
    (l_mirrored : K.lookup f_mirrored = some ⟨oc_mirrored, od_mirrored, .func (PySem.W.fnOf "mirrored" "mirrored" (defArgs s_mirrored) (defBody s_mirrored) (defScope s_mirrored) .none kV_mirrored dc_mirrored pm_mirrored an_mirrored cd_mirrored ct_mirrored), sl_mirrored⟩)
    (c_mirrored : PySem.W.codeIn K cd_mirrored "mirrored" = true)
    (k_mirrored : PySem.W.keepIn K (.ref f_mirrored) = true)
    (a_Network___neg__ : PySem.W.findIn K (.ref C1) "__neg__" = some (some (.ref f_Network___neg__)))
    (i_Network___neg__ : PySem.W.isFn K (.ref f_Network___neg__) = true)
    (l_Network___neg__ : K.lookup f_Network___neg__ = some ⟨oc_Network___neg__, od_Network___neg__, .func (PySem.W.fnOf "__neg__" "Network.__neg__" (defArgs s_Network___neg__) (defBody s_Network___neg__) (defScope s_Network___neg__) .none kV_Network___neg__ dc_Network___neg__ pm_Network___neg__ an_Network___neg__ cd_Network___neg__ ct_Network___neg__), sl_Network___neg__⟩)
    (c_Network___neg__ : PySem.W.codeIn K cd_Network___neg__ "Network.__neg__" = true)
    (k_Network___neg__ : PySem.W.keepIn K (.ref f_Network___neg__) = true)
    (a_Swap___eq__ : PySem.W.findIn K (.ref C0) "__eq__" = some (some (.ref f_Swap___eq__)))
    (i_Swap___eq__ : PySem.W.isFn K (.ref f_Swap___eq__) = true)
    (l_Swap___eq__ : K.lookup f_Swap___eq__ = some ⟨oc_Swap___eq__, od_Swap___eq__, .func (PySem.W.fnOf "__eq__" "Swap.__eq__" (defArgs s_Swap___eq__) (defBody s_Swap___eq__) (defScope s_Swap___eq__) .none kV_Swap___eq__ dc_Swap___eq__ pm_Swap___eq__ an_Swap___eq__ cd_Swap___eq__ ct_Swap___eq__), sl_Swap___eq__⟩)
    (c_Swap___eq__ : PySem.W.codeIn K cd_Swap___eq__ "Swap.__eq__" = true)
    (k_Swap___eq__ : PySem.W.keepIn K (.ref f_Swap___eq__) = true)
    (a_Network___eq__ : PySem.W.findIn K (.ref C1) "__eq__" = some (some (.ref f_Network___eq__)))
    (i_Network___eq__ : PySem.W.isFn K (.ref f_Network___eq__) = true)
    (l_Network___eq__ : K.lookup f_Network___eq__ = some ⟨oc_Network___eq__, od_Network___eq__, .func (PySem.W.fnOf "__eq__" "Network.__eq__" (defArgs s_Network___eq__) (defBody s_Network___eq__) (defScope s_Network___eq__) .none kV_Network___eq__ dc_Network___eq__ pm_Network___eq__ an_Network___eq__ cd_Network___eq__ ct_Network___eq__), sl_Network___eq__⟩)
    (c_Network___eq__ : PySem.W.codeIn K cd_Network___eq__ "Network.__eq__" = true)
    (k_Network___eq__ : PySem.W.keepIn K (.ref f_Network___eq__) = true)
    (a_is_row : PySem.W.nsIn K mainGlobals "is_row" = some (some (.ref f_is_row)))
    (l_is_row : K.lookup f_is_row = some ⟨oc_is_row, od_is_row, .func (PySem.W.fnOf "is_row" "is_row" (defArgs s_is_row) (defBody s_is_row) (defScope s_is_row) .none kV_is_row dc_is_row pm_is_row an_is_row cd_is_row ct_is_row), sl_is_row⟩)
    (c_is_row : PySem.W.codeIn K cd_is_row "is_row" = true)
    (k_is_row : PySem.W.keepIn K (.ref f_is_row) = true)
    (a_check_row : PySem.W.nsIn K mainGlobals "check_row" = some (some (.ref f_check_row)))
    (l_check_row : K.lookup f_check_row = some ⟨oc_check_row, od_check_row, .func (PySem.W.fnOf "check_row" "check_row" (defArgs s_check_row) (defBody s_check_row) (defScope s_check_row) .none kV_check_row dc_check_row pm_check_row an_check_row cd_check_row ct_check_row), sl_check_row⟩)
    (c_check_row : PySem.W.codeIn K cd_check_row "check_row" = true)
    (k_check_row : PySem.W.keepIn K (.ref f_check_row) = true)
    (a_Network___call__ : PySem.W.findIn K (.ref C1) "__call__" = some (some (.ref f_Network___call__)))
    (i_Network___call__ : PySem.W.isFn K (.ref f_Network___call__) = true)
    (l_Network___call__ : K.lookup f_Network___call__ = some ⟨oc_Network___call__, od_Network___call__, .func (PySem.W.fnOf "__call__" "Network.__call__" (defArgs s_Network___call__) (defBody s_Network___call__) (defScope s_Network___call__) .none kV_Network___call__ dc_Network___call__ pm_Network___call__ an_Network___call__ cd_Network___call__ ct_Network___call__), sl_Network___call__⟩)
    (c_Network___call__ : PySem.W.codeIn K cd_Network___call__ "Network.__call__" = true)
    (k_Network___call__ : PySem.W.keepIn K (.ref f_Network___call__) = true)
    (q_Network___call__ : PySem.W.fnIn K f_Network___call__ = true)
    (a__law_rows_right : PySem.W.nsIn K mainGlobals "_law_rows_right" = some (some (.ref f__law_rows_right)))
    (l__law_rows_right : K.lookup f__law_rows_right = some ⟨oc__law_rows_right, od__law_rows_right, .func (PySem.W.fnOf "_law_rows_right" "_law_rows_right" (defArgs s__law_rows_right) (defBody s__law_rows_right) (defScope s__law_rows_right) .none kV__law_rows_right dc__law_rows_right pm__law_rows_right an__law_rows_right cd__law_rows_right ct__law_rows_right), sl__law_rows_right⟩)
    (c__law_rows_right : PySem.W.codeIn K cd__law_rows_right "_law_rows_right" = true)
    (k__law_rows_right : PySem.W.keepIn K (.ref f__law_rows_right) = true)
    (a__law_three : PySem.W.nsIn K mainGlobals "_law_three" = some (some (.ref f__law_three)))
    (l__law_three : K.lookup f__law_three = some ⟨oc__law_three, od__law_three, .func (PySem.W.fnOf "_law_three" "_law_three" (defArgs s__law_three) (defBody s__law_three) (defScope s__law_three) .none kV__law_three dc__law_three pm__law_three an__law_three cd__law_three ct__law_three), sl__law_three⟩)
    (c__law_three : PySem.W.codeIn K cd__law_three "_law_three" = true)
    (k__law_three : PySem.W.keepIn K (.ref f__law_three) = true)
    (a_check_network : PySem.W.nsIn K mainGlobals "check_network" = some (some (.ref f_check_network)))
    (l_check_network : K.lookup f_check_network = some ⟨oc_check_network, od_check_network, .func (PySem.W.fnOf "check_network" "check_network" (defArgs s_check_network) (defBody s_check_network) (defScope s_check_network) .none kV_check_network dc_check_network pm_check_network an_check_network cd_check_network ct_check_network), sl_check_network⟩)
    (c_check_network : PySem.W.codeIn K cd_check_network "check_network" = true)
    (k_check_network : PySem.W.keepIn K (.ref f_check_network) = true)
    (a_worth_of : PySem.W.nsIn K mainGlobals "worth_of" = some (some (.ref f_worth_of)))
    (l_worth_of : K.lookup f_worth_of = some ⟨oc_worth_of, od_worth_of, .func (PySem.W.fnOf "worth_of" "worth_of" (defArgs s_worth_of) (defBody s_worth_of) (defScope s_worth_of) .none kV_worth_of dc_worth_of pm_worth_of an_worth_of cd_worth_of ct_worth_of), sl_worth_of⟩)
    (c_worth_of : PySem.W.codeIn K cd_worth_of "worth_of" = true)
    (k_worth_of : PySem.W.keepIn K (.ref f_worth_of) = true)
    (a_rest_of : PySem.W.nsIn K mainGlobals "rest_of" = some (some (.ref f_rest_of)))
    (l_rest_of : K.lookup f_rest_of = some ⟨oc_rest_of, od_rest_of, .func (PySem.W.fnOf "rest_of" "rest_of" (defArgs s_rest_of) (defBody s_rest_of) (defScope s_rest_of) .none kV_rest_of dc_rest_of pm_rest_of an_rest_of cd_rest_of ct_rest_of), sl_rest_of⟩)
    (c_rest_of : PySem.W.codeIn K cd_rest_of "rest_of" = true)
    (k_rest_of : PySem.W.keepIn K (.ref f_rest_of) = true)
    (a_is_against : PySem.W.nsIn K mainGlobals "is_against" = some (some (.ref f_is_against)))
    (l_is_against : K.lookup f_is_against = some ⟨oc_is_against, od_is_against, .func (PySem.W.fnOf "is_against" "is_against" (defArgs s_is_against) (defBody s_is_against) (defScope s_is_against) .none kV_is_against dc_is_against pm_is_against an_is_against cd_is_against ct_is_against), sl_is_against⟩)
    (c_is_against : PySem.W.codeIn K cd_is_against "is_against" = true)
    (k_is_against : PySem.W.keepIn K (.ref f_is_against) = true)
    (a_are_refuted : PySem.W.nsIn K mainGlobals "are_refuted" = some (some (.ref f_are_refuted)))
    (l_are_refuted : K.lookup f_are_refuted = some ⟨oc_are_refuted, od_are_refuted, .func (PySem.W.fnOf "are_refuted" "are_refuted" (defArgs s_are_refuted) (defBody s_are_refuted) (defScope s_are_refuted) .none kV_are_refuted dc_are_refuted pm_are_refuted an_are_refuted cd_are_refuted ct_are_refuted), sl_are_refuted⟩)
    (c_are_refuted : PySem.W.codeIn K cd_are_refuted "are_refuted" = true)
    (k_are_refuted : PySem.W.keepIn K (.ref f_are_refuted) = true)
    (a_is_safe : PySem.W.nsIn K mainGlobals "is_safe" = some (some (.ref f_is_safe)))
    (l_is_safe : K.lookup f_is_safe = some ⟨oc_is_safe, od_is_safe, .func (PySem.W.fnOf "is_safe" "is_safe" (defArgs s_is_safe) (defBody s_is_safe) (defScope s_is_safe) .none kV_is_safe dc_is_safe pm_is_safe an_is_safe cd_is_safe ct_is_safe), sl_is_safe⟩)
    (c_is_safe : PySem.W.codeIn K cd_is_safe "is_safe" = true)
    (k_is_safe : PySem.W.keepIn K (.ref f_is_safe) = true)
    (a_all_sets : PySem.W.nsIn K mainGlobals "all_sets" = some (some (.ref f_all_sets)))
    (l_all_sets : K.lookup f_all_sets = some ⟨oc_all_sets, od_all_sets, .func (PySem.W.fnOf "all_sets" "all_sets" (defArgs s_all_sets) (defBody s_all_sets) (defScope s_all_sets) .none kV_all_sets dc_all_sets pm_all_sets an_all_sets cd_all_sets ct_all_sets), sl_all_sets⟩)
    (c_all_sets : PySem.W.codeIn K cd_all_sets "all_sets" = true)
    (k_all_sets : PySem.W.keepIn K (.ref f_all_sets) = true)
    (a_Saving_shows : PySem.W.findIn K (.ref C3) "shows" = some (some (.ref f_Saving_shows)))
    (i_Saving_shows : PySem.W.isFn K (.ref f_Saving_shows) = true)
    (l_Saving_shows : K.lookup f_Saving_shows = some ⟨oc_Saving_shows, od_Saving_shows, .func (PySem.W.fnOf "shows" "Saving.shows" (defArgs s_Saving_shows) (defBody s_Saving_shows) (defScope s_Saving_shows) .none kV_Saving_shows dc_Saving_shows pm_Saving_shows an_Saving_shows cd_Saving_shows ct_Saving_shows), sl_Saving_shows⟩)
    (c_Saving_shows : PySem.W.codeIn K cd_Saving_shows "Saving.shows" = true)
    (k_Saving_shows : PySem.W.keepIn K (.ref f_Saving_shows) = true)
    (a_NoSaving_shows : PySem.W.findIn K (.ref C4) "shows" = some (some (.ref f_NoSaving_shows)))
    (i_NoSaving_shows : PySem.W.isFn K (.ref f_NoSaving_shows) = true)
    (l_NoSaving_shows : K.lookup f_NoSaving_shows = some ⟨oc_NoSaving_shows, od_NoSaving_shows, .func (PySem.W.fnOf "shows" "NoSaving.shows" (defArgs s_NoSaving_shows) (defBody s_NoSaving_shows) (defScope s_NoSaving_shows) .none kV_NoSaving_shows dc_NoSaving_shows pm_NoSaving_shows an_NoSaving_shows cd_NoSaving_shows ct_NoSaving_shows), sl_NoSaving_shows⟩)
    (c_NoSaving_shows : PySem.W.codeIn K cd_NoSaving_shows "NoSaving.shows" = true)
    (k_NoSaving_shows : PySem.W.keepIn K (.ref f_NoSaving_shows) = true)
    (a_Saving___init__ : PySem.W.findIn K (.ref C3) "__init__" = some (some (.ref f_Saving___init__)))
    (i_Saving___init__ : PySem.W.isFn K (.ref f_Saving___init__) = true)
    (l_Saving___init__ : K.lookup f_Saving___init__ = some ⟨oc_Saving___init__, od_Saving___init__, .func (PySem.W.fnOf "__init__" "Saving.__init__" (defArgs s_Saving___init__) (defBody s_Saving___init__) (defScope s_Saving___init__) .none kV_Saving___init__ dc_Saving___init__ pm_Saving___init__ an_Saving___init__ cd_Saving___init__ ct_Saving___init__), sl_Saving___init__⟩)
    (c_Saving___init__ : PySem.W.codeIn K cd_Saving___init__ "Saving.__init__" = true)
    (k_Saving___init__ : PySem.W.keepIn K (.ref f_Saving___init__) = true)
    (a_NoSaving___init__ : PySem.W.findIn K (.ref C4) "__init__" = some (some (.ref f_NoSaving___init__)))
    (i_NoSaving___init__ : PySem.W.isFn K (.ref f_NoSaving___init__) = true)
    (l_NoSaving___init__ : K.lookup f_NoSaving___init__ = some ⟨oc_NoSaving___init__, od_NoSaving___init__, .func (PySem.W.fnOf "__init__" "NoSaving.__init__" (defArgs s_NoSaving___init__) (defBody s_NoSaving___init__) (defScope s_NoSaving___init__) .none kV_NoSaving___init__ dc_NoSaving___init__ pm_NoSaving___init__ an_NoSaving___init__ cd_NoSaving___init__ ct_NoSaving___init__), sl_NoSaving___init__⟩)
    (c_NoSaving___init__ : PySem.W.codeIn K cd_NoSaving___init__ "NoSaving.__init__" = true)
    (k_NoSaving___init__ : PySem.W.keepIn K (.ref f_NoSaving___init__) = true)
    (a__law_answers_right : PySem.W.nsIn K mainGlobals "_law_answers_right" = some (some (.ref f__law_answers_right)))
    (l__law_answers_right : K.lookup f__law_answers_right = some ⟨oc__law_answers_right, od__law_answers_right, .func (PySem.W.fnOf "_law_answers_right" "_law_answers_right" (defArgs s__law_answers_right) (defBody s__law_answers_right) (defScope s__law_answers_right) .none kV__law_answers_right dc__law_answers_right pm__law_answers_right an__law_answers_right cd__law_answers_right ct__law_answers_right), sl__law_answers_right⟩)
    (c__law_answers_right : PySem.W.codeIn K cd__law_answers_right "_law_answers_right" = true)
    (k__law_answers_right : PySem.W.keepIn K (.ref f__law_answers_right) = true)
    (a_parted : PySem.W.nsIn K mainGlobals "parted" = some (some (.ref f_parted)))
    (l_parted : K.lookup f_parted = some ⟨oc_parted, od_parted, .func (PySem.W.fnOf "parted" "parted" (defArgs s_parted) (defBody s_parted) (defScope s_parted) .none kV_parted dc_parted pm_parted an_parted cd_parted ct_parted), sl_parted⟩)
    (c_parted : PySem.W.codeIn K cd_parted "parted" = true)
    (k_parted : PySem.W.keepIn K (.ref f_parted) = true)
    (a_harmless_sets : PySem.W.nsIn K mainGlobals "harmless_sets" = some (some (.ref f_harmless_sets)))
    (l_harmless_sets : K.lookup f_harmless_sets = some ⟨oc_harmless_sets, od_harmless_sets, .func (PySem.W.fnOf "harmless_sets" "harmless_sets" (defArgs s_harmless_sets) (defBody s_harmless_sets) (defScope s_harmless_sets) .none kV_harmless_sets dc_harmless_sets pm_harmless_sets an_harmless_sets cd_harmless_sets ct_harmless_sets), sl_harmless_sets⟩)
    (c_harmless_sets : PySem.W.codeIn K cd_harmless_sets "harmless_sets" = true)
    (k_harmless_sets : PySem.W.keepIn K (.ref f_harmless_sets) = true)
    (a_is_within : PySem.W.nsIn K mainGlobals "is_within" = some (some (.ref f_is_within)))
    (l_is_within : K.lookup f_is_within = some ⟨oc_is_within, od_is_within, .func (PySem.W.fnOf "is_within" "is_within" (defArgs s_is_within) (defBody s_is_within) (defScope s_is_within) .none kV_is_within dc_is_within pm_is_within an_is_within cd_is_within ct_is_within), sl_is_within⟩)
    (c_is_within : PySem.W.codeIn K cd_is_within "is_within" = true)
    (k_is_within : PySem.W.keepIn K (.ref f_is_within) = true)
    (a_maximal_sets : PySem.W.nsIn K mainGlobals "maximal_sets" = some (some (.ref f_maximal_sets)))
    (l_maximal_sets : K.lookup f_maximal_sets = some ⟨oc_maximal_sets, od_maximal_sets, .func (PySem.W.fnOf "maximal_sets" "maximal_sets" (defArgs s_maximal_sets) (defBody s_maximal_sets) (defScope s_maximal_sets) .none kV_maximal_sets dc_maximal_sets pm_maximal_sets an_maximal_sets cd_maximal_sets ct_maximal_sets), sl_maximal_sets⟩)
    (c_maximal_sets : PySem.W.codeIn K cd_maximal_sets "maximal_sets" = true)
    (k_maximal_sets : PySem.W.keepIn K (.ref f_maximal_sets) = true)
    (a_least_harmful : PySem.W.nsIn K mainGlobals "least_harmful" = some (some (.ref f_least_harmful)))
    (l_least_harmful : K.lookup f_least_harmful = some ⟨oc_least_harmful, od_least_harmful, .func (PySem.W.fnOf "least_harmful" "least_harmful" (defArgs s_least_harmful) (defBody s_least_harmful) (defScope s_least_harmful) .none kV_least_harmful dc_least_harmful pm_least_harmful an_least_harmful cd_least_harmful ct_least_harmful), sl_least_harmful⟩)
    (c_least_harmful : PySem.W.codeIn K cd_least_harmful "least_harmful" = true)
    (k_least_harmful : PySem.W.keepIn K (.ref f_least_harmful) = true)
    (a_one_more : PySem.W.nsIn K mainGlobals "one_more" = some (some (.ref f_one_more)))
    (l_one_more : K.lookup f_one_more = some ⟨oc_one_more, od_one_more, .func (PySem.W.fnOf "one_more" "one_more" (defArgs s_one_more) (defBody s_one_more) (defScope s_one_more) .none kV_one_more dc_one_more pm_one_more an_one_more cd_one_more ct_one_more), sl_one_more⟩)
    (c_one_more : PySem.W.codeIn K cd_one_more "one_more" = true)
    (k_one_more : PySem.W.keepIn K (.ref f_one_more) = true)
    (a_rescues : PySem.W.nsIn K mainGlobals "rescues" = some (some (.ref f_rescues)))
    (l_rescues : K.lookup f_rescues = some ⟨oc_rescues, od_rescues, .func (PySem.W.fnOf "rescues" "rescues" (defArgs s_rescues) (defBody s_rescues) (defScope s_rescues) .none kV_rescues dc_rescues pm_rescues an_rescues cd_rescues ct_rescues), sl_rescues⟩)
    (c_rescues : PySem.W.codeIn K cd_rescues "rescues" = true)
    (k_rescues : PySem.W.keepIn K (.ref f_rescues) = true)
    (a_breaches : PySem.W.nsIn K mainGlobals "breaches" = some (some (.ref f_breaches)))
    (l_breaches : K.lookup f_breaches = some ⟨oc_breaches, od_breaches, .func (PySem.W.fnOf "breaches" "breaches" (defArgs s_breaches) (defBody s_breaches) (defScope s_breaches) .none kV_breaches dc_breaches pm_breaches an_breaches cd_breaches ct_breaches), sl_breaches⟩)
    (c_breaches : PySem.W.codeIn K cd_breaches "breaches" = true)
    (k_breaches : PySem.W.keepIn K (.ref f_breaches) = true)
    (a__law_families_right : PySem.W.nsIn K mainGlobals "_law_families_right" = some (some (.ref f__law_families_right)))
    (l__law_families_right : K.lookup f__law_families_right = some ⟨oc__law_families_right, od__law_families_right, .func (PySem.W.fnOf "_law_families_right" "_law_families_right" (defArgs s__law_families_right) (defBody s__law_families_right) (defScope s__law_families_right) .none kV__law_families_right dc__law_families_right pm__law_families_right an__law_families_right cd__law_families_right ct__law_families_right), sl__law_families_right⟩)
    (c__law_families_right : PySem.W.codeIn K cd__law_families_right "_law_families_right" = true)
    (k__law_families_right : PySem.W.keepIn K (.ref f__law_families_right) = true)
    (a_first_witness : PySem.W.nsIn K mainGlobals "first_witness" = some (some (.ref f_first_witness)))
    (l_first_witness : K.lookup f_first_witness = some ⟨oc_first_witness, od_first_witness, .func (PySem.W.fnOf "first_witness" "first_witness" (defArgs s_first_witness) (defBody s_first_witness) (defScope s_first_witness) .none kV_first_witness dc_first_witness pm_first_witness an_first_witness cd_first_witness ct_first_witness), sl_first_witness⟩)
    (c_first_witness : PySem.W.codeIn K cd_first_witness "first_witness" = true)
    (k_first_witness : PySem.W.keepIn K (.ref f_first_witness) = true)
    (a_greatest : PySem.W.nsIn K mainGlobals "greatest" = some (some (.ref f_greatest)))
    (l_greatest : K.lookup f_greatest = some ⟨oc_greatest, od_greatest, .func (PySem.W.fnOf "greatest" "greatest" (defArgs s_greatest) (defBody s_greatest) (defScope s_greatest) .none kV_greatest dc_greatest pm_greatest an_greatest (.ref cc_greatest) ct_greatest), sl_greatest⟩)
    (c_greatest : PySem.W.codeIn K (.ref cc_greatest) "greatest" = true)
    (k_greatest : PySem.W.keepIn K (.ref f_greatest) = true)
    (lc_greatest : K.lookup cc_greatest = some ⟨co_greatest, dd_greatest, .fields vs_greatest, ss_greatest⟩)
    (pt_greatest : vs_greatest[11]? = some (.ref P_greatest))
    (hc_greatest : PySem.W.codeHdIn K cc_greatest P_greatest = true)
    (np_greatest : K.lookup P_greatest = none)
    (ht_greatest : h.get? P_greatest = some (PySem.W.tabObj #[]))
    (a_check_set : PySem.W.nsIn K mainGlobals "check_set" = some (some (.ref f_check_set)))
    (l_check_set : K.lookup f_check_set = some ⟨oc_check_set, od_check_set, .func (PySem.W.fnOf "check_set" "check_set" (defArgs s_check_set) (defBody s_check_set) (defScope s_check_set) .none kV_check_set dc_check_set pm_check_set an_check_set cd_check_set ct_check_set), sl_check_set⟩)
    (c_check_set : PySem.W.codeIn K cd_check_set "check_set" = true)
    (k_check_set : PySem.W.keepIn K (.ref f_check_set) = true)
    (a_saved : PySem.W.nsIn K mainGlobals "saved" = some (some (.ref f_saved)))
    (l_saved : K.lookup f_saved = some ⟨oc_saved, od_saved, .func (PySem.W.fnOf "saved" "saved" (defArgs s_saved) (defBody s_saved) (defScope s_saved) .none kV_saved dc_saved pm_saved an_saved cd_saved ct_saved), sl_saved⟩)
    (c_saved : PySem.W.codeIn K cd_saved "saved" = true)
    (k_saved : PySem.W.keepIn K (.ref f_saved) = true)
    (a_witness : PySem.W.nsIn K mainGlobals "witness" = some (some (.ref f_witness)))
    (l_witness : K.lookup f_witness = some ⟨oc_witness, od_witness, .func (PySem.W.fnOf "witness" "witness" (defArgs s_witness) (defBody s_witness) (defScope s_witness) .none kV_witness dc_witness pm_witness an_witness cd_witness ct_witness), sl_witness⟩)
    (c_witness : PySem.W.codeIn K cd_witness "witness" = true)
    (k_witness : PySem.W.keepIn K (.ref f_witness) = true)
    (a_is_witness : PySem.W.nsIn K mainGlobals "is_witness" = some (some (.ref f_is_witness)))
    (l_is_witness : K.lookup f_is_witness = some ⟨oc_is_witness, od_is_witness, .func (PySem.W.fnOf "is_witness" "is_witness" (defArgs s_is_witness) (defBody s_is_witness) (defScope s_is_witness) .none kV_is_witness dc_is_witness pm_is_witness an_is_witness cd_is_witness ct_is_witness), sl_is_witness⟩)
    (c_is_witness : PySem.W.codeIn K cd_is_witness "is_witness" = true)
    (k_is_witness : PySem.W.keepIn K (.ref f_is_witness) = true)
    (a__law_savings_right : PySem.W.nsIn K mainGlobals "_law_savings_right" = some (some (.ref f__law_savings_right)))
    (l__law_savings_right : K.lookup f__law_savings_right = some ⟨oc__law_savings_right, od__law_savings_right, .func (PySem.W.fnOf "_law_savings_right" "_law_savings_right" (defArgs s__law_savings_right) (defBody s__law_savings_right) (defScope s__law_savings_right) .none kV__law_savings_right dc__law_savings_right pm__law_savings_right an__law_savings_right cd__law_savings_right ct__law_savings_right), sl__law_savings_right⟩)
    (c__law_savings_right : PySem.W.codeIn K cd__law_savings_right "_law_savings_right" = true)
    (k__law_savings_right : PySem.W.keepIn K (.ref f__law_savings_right) = true)
    (a_law : PySem.W.nsIn K mainGlobals "law" = some (some (.ref f_law)))
    (l_law : K.lookup f_law = some ⟨oc_law, od_law, .func (PySem.W.fnOf "law" "law" (defArgs s_law) (defBody s_law) (defScope s_law) .none kV_law dc_law pm_law an_law cd_law ct_law), sl_law⟩)
    (c_law : PySem.W.codeIn K cd_law "law" = true)
    (k_law : PySem.W.keepIn K (.ref f_law) = true)
    (gx_BadNetwork : PySem.W.nsIn K mainGlobals "BadNetwork" = some (some (.ref X2)))
    (ex_BadNetwork : PySem.W.excIn K X2 [.type "ValueError", .type "Exception", .type "BaseException", .type "object"] "ValueError.__new__" = true)
    (kx_BadNetwork : PySem.W.keepIn K (.ref X2) = true)
    (bp_BadNetwork : PySem.W.subIn K (.ref X2) (.type "BaseException") = some true)
    (tp_BadNetwork : PySem.W.typeIn K (.ref X2) = some (.type "type"))
    (gx_BadRow : PySem.W.nsIn K mainGlobals "BadRow" = some (some (.ref X4)))
    (ex_BadRow : PySem.W.excIn K X4 [.type "ValueError", .type "Exception", .type "BaseException", .type "object"] "ValueError.__new__" = true)
    (kx_BadRow : PySem.W.keepIn K (.ref X4) = true)
    (bp_BadRow : PySem.W.subIn K (.ref X4) (.type "BaseException") = some true)
    (tp_BadRow : PySem.W.typeIn K (.ref X4) = some (.type "type"))
    (gx_BadSet : PySem.W.nsIn K mainGlobals "BadSet" = some (some (.ref X5)))
    (ex_BadSet : PySem.W.excIn K X5 [.type "ValueError", .type "Exception", .type "BaseException", .type "object"] "ValueError.__new__" = true)
    (kx_BadSet : PySem.W.keepIn K (.ref X5) = true)
    (bp_BadSet : PySem.W.subIn K (.ref X5) (.type "BaseException") = some true)
    (tp_BadSet : PySem.W.typeIn K (.ref X5) = some (.type "type"))
    (gx_BadSwap : PySem.W.nsIn K mainGlobals "BadSwap" = some (some (.ref X1)))
    (ex_BadSwap : PySem.W.excIn K X1 [.type "ValueError", .type "Exception", .type "BaseException", .type "object"] "ValueError.__new__" = true)
    (kx_BadSwap : PySem.W.keepIn K (.ref X1) = true)
    (bp_BadSwap : PySem.W.subIn K (.ref X1) (.type "BaseException") = some true)
    (tp_BadSwap : PySem.W.typeIn K (.ref X1) = some (.type "type"))
    (n_0_charge : PySem.W.findIn K (.ref C0) "charge" = some none)
    (n_0_ends : PySem.W.findIn K (.ref C0) "ends" = some none)
    (n_1_steps : PySem.W.findIn K (.ref C1) "steps" = some none)
    (n_1_width : PySem.W.findIn K (.ref C1) "width" = some none)
    (n_3_doubts : PySem.W.findIn K (.ref C3) "doubts" = some none)
    (n_3_left_out : PySem.W.findIn K (.ref C3) "left_out" = some none)
    (n_4_doubts : PySem.W.findIn K (.ref C4) "doubts" = some none)
    (z_abs : PySem.W.nsIn K mainGlobals "abs" = some none)
    (z_all : PySem.W.nsIn K mainGlobals "all" = some none)
    (z_any : PySem.W.nsIn K mainGlobals "any" = some none)
    (z_bool : PySem.W.nsIn K mainGlobals "bool" = some none)
    (z_enumerate : PySem.W.nsIn K mainGlobals "enumerate" = some none)
    (z_int : PySem.W.nsIn K mainGlobals "int" = some none)
    (z_isinstance : PySem.W.nsIn K mainGlobals "isinstance" = some none)
    (z_len : PySem.W.nsIn K mainGlobals "len" = some none)
    (z_list : PySem.W.nsIn K mainGlobals "list" = some none)
    (z_max : PySem.W.nsIn K mainGlobals "max" = some none)
    (z_range : PySem.W.nsIn K mainGlobals "range" = some none)
    (z_sorted : PySem.W.nsIn K mainGlobals "sorted" = some none)
    (z_sum : PySem.W.nsIn K mainGlobals "sum" = some none)
    (z_tuple : PySem.W.nsIn K mainGlobals "tuple" = some none)
    (z_zip : PySem.W.nsIn K mainGlobals "zip" = some none)
    (m_MAX_COST : PySem.W.nsIn K mainGlobals "MAX_COST" = some (some (.int 9 t_MAX_COST)))
    (m_MAX_LINES : PySem.W.nsIn K mainGlobals "MAX_LINES" = some (some (.int 6 t_MAX_LINES)))
    (m_MAX_SWAPS : PySem.W.nsIn K mainGlobals "MAX_SWAPS" = some (some (.int 9 t_MAX_SWAPS)))
    (m_MIN_LINES : PySem.W.nsIn K mainGlobals "MIN_LINES" = some (some (.int 2 t_MIN_LINES)))
    : LawAtS l w K (L2.CX l.prog w) 9 m "_law_script" mg fa h := by
  have e := hfa.symm.trans (PySem.W.mg_of X G a_law)
  cases e
  let g : Gx := ⟨K, fun c => match c with | 0 => C0 | 1 => C1 | 3 => C3 | 4 => C4 | _ => 0, fun c => match c with | 2 => X2 | 4 => X4 | 5 => X5 | 1 => X1 | _ => 0, [(P_greatest, "greatest" ++ ".<locals>." ++ "<lambda>")]⟩
  have cl_Swap : Cls K (g.cA 0) := ⟨pg_Swap, hd_Swap, po_Swap, sa_Swap⟩
  have cl_Network : Cls K (g.cA 1) := ⟨pg_Network, hd_Network, po_Network, sa_Network⟩
  have cl_Saving : Cls K (g.cA 3) := ⟨pg_Saving, hd_Saving, po_Saving, sa_Saving⟩
  have cl_NoSaving : Cls K (g.cA 4) := ⟨pg_NoSaving, hd_NoSaving, po_NoSaving, sa_NoSaving⟩
  have F_is_sorted := fun_mk (st := s_is_sorted) l_is_sorted c_is_sorted k_is_sorted
  have B_is_sorted := F_is_sorted.binds (ps := ["row"]) fun _ _ _ _ _ _ us hl => match us, hl with | [_], _ => rfl
  have F_after_step := fun_mk (st := s_after_step) l_after_step c_after_step k_after_step
  have B_after_step := F_after_step.binds (ps := ["low", "high", "row"]) fun _ _ _ _ _ _ us hl => match us, hl with | [_, _, _], _ => rfl
  have F_behind := fun_mk (st := s_behind) l_behind c_behind k_behind
  have B_behind := F_behind.binds (ps := ["steps", "row"]) fun _ _ _ _ _ _ us hl => match us, hl with | [_, _], _ => rfl
  have F_bit_rows := fun_mk (st := s_bit_rows) l_bit_rows c_bit_rows k_bit_rows
  have B_bit_rows := F_bit_rows.binds (ps := ["lines"]) fun _ _ _ _ _ _ us hl => match us, hl with | [_], _ => rfl
  have F_sorts := fun_mk (st := s_sorts) l_sorts c_sorts k_sorts
  have B_sorts := F_sorts.binds (ps := ["lines", "steps"]) fun _ _ _ _ _ _ us hl => match us, hl with | [_, _], _ => rfl
  have F_Network___bool__ := fun_mk (st := s_Network___bool__) l_Network___bool__ c_Network___bool__ k_Network___bool__
  have B_Network___bool__ := F_Network___bool__.binds (ps := ["self"]) fun _ _ _ _ _ _ us hl => match us, hl with | [_], _ => rfl
  have F_is_whole := fun_mk (st := s_is_whole) l_is_whole c_is_whole k_is_whole
  have B_is_whole := F_is_whole.binds (ps := ["value"]) fun _ _ _ _ _ _ us hl => match us, hl with | [_], _ => rfl
  have F_is_integer := fun_mk (st := s_is_integer) l_is_integer c_is_integer k_is_integer
  have B_is_integer := F_is_integer.binds (ps := ["value", "low", "high"]) fun _ _ _ _ _ _ us hl => match us, hl with | [_, _, _], _ => rfl
  have F_is_swap_of := fun_mk (st := s_is_swap_of) l_is_swap_of c_is_swap_of k_is_swap_of
  have B_is_swap_of := F_is_swap_of.binds (ps := ["lines", "value"]) fun _ _ _ _ _ _ us hl => match us, hl with | [_, _], _ => rfl
  have F_Network___init__ := fun_mk (st := s_Network___init__) l_Network___init__ c_Network___init__ k_Network___init__
  have B_Network___init__ := F_Network___init__.binds (ps := ["self", "lines", "swaps"]) fun _ _ _ _ _ _ us hl => match us, hl with | [_, _, _], _ => rfl
  have F_Swap___init__ : FunD K "__init__" "Swap.__init__" (defArgs s_Swap___init__) (defBody s_Swap___init__) (defScope s_Swap___init__) [] [("cost", .int 1)] f_Swap___init__ _ := ⟨⟨oc_Swap___init__, od_Swap___init__, .none, .ref D_Swap___init__, dc_Swap___init__, pm_Swap___init__, an_Swap___init__, cd_Swap___init__, ct_Swap___init__, sl_Swap___init__, rfl, l_Swap___init__, c_Swap___init__, .inl ⟨rfl, rfl⟩, .inr ⟨D_Swap___init__, rfl, fun q hq => by cases List.mem_singleton.mp hq; exact ⟨_, kw_Swap___init__, ⟨_, rfl⟩⟩⟩⟩, k_Swap___init__⟩
  have B_Swap___init__ := dfK_of (ps := ["self", "low", "high", "cost"]) (n := 3) F_Swap___init__ rfl (fun D doc pm an cdv ct us ks hl hk => match us, ks, hl, hk with | [_, _, _], [_], _, _ => ⟨_, _, _, _, _, _, rfl, rfl, rfl⟩) (fun D doc pm an cdv ct us ws hl hk => match us, ws, hl, hk with | [_, _, _], [_], _, _ => rfl)
  have F_mirrored := fun_mk (st := s_mirrored) l_mirrored c_mirrored k_mirrored
  have B_mirrored := F_mirrored.binds (ps := ["network"]) fun _ _ _ _ _ _ us hl => match us, hl with | [_], _ => rfl
  have F_Network___neg__ := fun_mk (st := s_Network___neg__) l_Network___neg__ c_Network___neg__ k_Network___neg__
  have B_Network___neg__ := F_Network___neg__.binds (ps := ["self"]) fun _ _ _ _ _ _ us hl => match us, hl with | [_], _ => rfl
  have F_Swap___eq__ := fun_mk (st := s_Swap___eq__) l_Swap___eq__ c_Swap___eq__ k_Swap___eq__
  have B_Swap___eq__ := F_Swap___eq__.binds (ps := ["self", "other"]) fun _ _ _ _ _ _ us hl => match us, hl with | [_, _], _ => rfl
  have F_Network___eq__ := fun_mk (st := s_Network___eq__) l_Network___eq__ c_Network___eq__ k_Network___eq__
  have B_Network___eq__ := F_Network___eq__.binds (ps := ["self", "other"]) fun _ _ _ _ _ _ us hl => match us, hl with | [_, _], _ => rfl
  have F_is_row := fun_mk (st := s_is_row) l_is_row c_is_row k_is_row
  have B_is_row := F_is_row.binds (ps := ["lines", "value"]) fun _ _ _ _ _ _ us hl => match us, hl with | [_, _], _ => rfl
  have F_check_row := fun_mk (st := s_check_row) l_check_row c_check_row k_check_row
  have B_check_row := F_check_row.binds (ps := ["network", "row"]) fun _ _ _ _ _ _ us hl => match us, hl with | [_, _], _ => rfl
  have F_Network___call__ := fun_mk (st := s_Network___call__) l_Network___call__ c_Network___call__ k_Network___call__
  have B_Network___call__ := F_Network___call__.binds (ps := ["self", "row"]) fun _ _ _ _ _ _ us hl => match us, hl with | [_, _], _ => rfl
  have F__law_rows_right := fun_mk (st := s__law_rows_right) l__law_rows_right c__law_rows_right k__law_rows_right
  have B__law_rows_right := F__law_rows_right.binds (ps := []) fun _ _ _ _ _ _ us hl => match us, hl with | [], _ => rfl
  have F__law_three := fun_mk (st := s__law_three) l__law_three c__law_three k__law_three
  have B__law_three := F__law_three.binds (ps := ["_law_first", "_law_second", "_law_third"]) fun _ _ _ _ _ _ us hl => match us, hl with | [_, _, _], _ => rfl
  have F_check_network := fun_mk (st := s_check_network) l_check_network c_check_network k_check_network
  have B_check_network := F_check_network.binds (ps := ["network"]) fun _ _ _ _ _ _ us hl => match us, hl with | [_], _ => rfl
  have F_worth_of := fun_mk (st := s_worth_of) l_worth_of c_worth_of k_worth_of
  have B_worth_of := F_worth_of.binds (ps := ["network", "some"]) fun _ _ _ _ _ _ us hl => match us, hl with | [_, _], _ => rfl
  have F_rest_of := fun_mk (st := s_rest_of) l_rest_of c_rest_of k_rest_of
  have B_rest_of := F_rest_of.binds (ps := ["network", "some"]) fun _ _ _ _ _ _ us hl => match us, hl with | [_, _], _ => rfl
  have F_is_against := fun_mk (st := s_is_against) l_is_against c_is_against k_is_against
  have B_is_against := F_is_against.binds (ps := ["network", "some", "row"]) fun _ _ _ _ _ _ us hl => match us, hl with | [_, _, _], _ => rfl
  have F_are_refuted := fun_mk (st := s_are_refuted) l_are_refuted c_are_refuted k_are_refuted
  have B_are_refuted := F_are_refuted.binds (ps := ["network", "sets", "doubts"]) fun _ _ _ _ _ _ us hl => match us, hl with | [_, _, _], _ => rfl
  have F_is_safe := fun_mk (st := s_is_safe) l_is_safe c_is_safe k_is_safe
  have B_is_safe := F_is_safe.binds (ps := ["network", "some"]) fun _ _ _ _ _ _ us hl => match us, hl with | [_, _], _ => rfl
  have F_all_sets := fun_mk (st := s_all_sets) l_all_sets c_all_sets k_all_sets
  have B_all_sets := F_all_sets.binds (ps := ["network"]) fun _ _ _ _ _ _ us hl => match us, hl with | [_], _ => rfl
  have F_Saving_shows := fun_mk (st := s_Saving_shows) l_Saving_shows c_Saving_shows k_Saving_shows
  have B_Saving_shows := F_Saving_shows.binds (ps := ["self", "network"]) fun _ _ _ _ _ _ us hl => match us, hl with | [_, _], _ => rfl
  have F_NoSaving_shows := fun_mk (st := s_NoSaving_shows) l_NoSaving_shows c_NoSaving_shows k_NoSaving_shows
  have B_NoSaving_shows := F_NoSaving_shows.binds (ps := ["self", "network"]) fun _ _ _ _ _ _ us hl => match us, hl with | [_, _], _ => rfl
  have F_Saving___init__ := fun_mk (st := s_Saving___init__) l_Saving___init__ c_Saving___init__ k_Saving___init__
  have B_Saving___init__ := F_Saving___init__.binds (ps := ["self", "left_out", "doubts"]) fun _ _ _ _ _ _ us hl => match us, hl with | [_, _, _], _ => rfl
  have F_NoSaving___init__ := fun_mk (st := s_NoSaving___init__) l_NoSaving___init__ c_NoSaving___init__ k_NoSaving___init__
  have B_NoSaving___init__ := F_NoSaving___init__.binds (ps := ["self", "doubts"]) fun _ _ _ _ _ _ us hl => match us, hl with | [_, _], _ => rfl
  have F__law_answers_right := fun_mk (st := s__law_answers_right) l__law_answers_right c__law_answers_right k__law_answers_right
  have B__law_answers_right := F__law_answers_right.binds (ps := []) fun _ _ _ _ _ _ us hl => match us, hl with | [], _ => rfl
  have F_parted := fun_mk (st := s_parted) l_parted c_parted k_parted
  have B_parted := F_parted.binds (ps := ["network"]) fun _ _ _ _ _ _ us hl => match us, hl with | [_], _ => rfl
  have F_harmless_sets := fun_mk (st := s_harmless_sets) l_harmless_sets c_harmless_sets k_harmless_sets
  have B_harmless_sets := F_harmless_sets.binds (ps := ["network"]) fun _ _ _ _ _ _ us hl => match us, hl with | [_], _ => rfl
  have F_is_within := fun_mk (st := s_is_within) l_is_within c_is_within k_is_within
  have B_is_within := F_is_within.binds (ps := ["one", "other"]) fun _ _ _ _ _ _ us hl => match us, hl with | [_, _], _ => rfl
  have F_maximal_sets := fun_mk (st := s_maximal_sets) l_maximal_sets c_maximal_sets k_maximal_sets
  have B_maximal_sets := F_maximal_sets.binds (ps := ["network"]) fun _ _ _ _ _ _ us hl => match us, hl with | [_], _ => rfl
  have F_least_harmful := fun_mk (st := s_least_harmful) l_least_harmful c_least_harmful k_least_harmful
  have B_least_harmful := F_least_harmful.binds (ps := ["network"]) fun _ _ _ _ _ _ us hl => match us, hl with | [_], _ => rfl
  have F_one_more := fun_mk (st := s_one_more) l_one_more c_one_more k_one_more
  have B_one_more := F_one_more.binds (ps := ["lower", "upper"]) fun _ _ _ _ _ _ us hl => match us, hl with | [_, _], _ => rfl
  have F_rescues := fun_mk (st := s_rescues) l_rescues c_rescues k_rescues
  have B_rescues := F_rescues.binds (ps := ["network"]) fun _ _ _ _ _ _ us hl => match us, hl with | [_], _ => rfl
  have F_breaches := fun_mk (st := s_breaches) l_breaches c_breaches k_breaches
  have B_breaches := F_breaches.binds (ps := ["network"]) fun _ _ _ _ _ _ us hl => match us, hl with | [_], _ => rfl
  have F__law_families_right := fun_mk (st := s__law_families_right) l__law_families_right c__law_families_right k__law_families_right
  have B__law_families_right := F__law_families_right.binds (ps := ["_law_worth"]) fun _ _ _ _ _ _ us hl => match us, hl with | [_], _ => rfl
  have F_first_witness := fun_mk (st := s_first_witness) l_first_witness c_first_witness k_first_witness
  have B_first_witness := F_first_witness.binds (ps := ["network", "some"]) fun _ _ _ _ _ _ us hl => match us, hl with | [_, _], _ => rfl
  have F_greatest := fun_mk (st := s_greatest) l_greatest c_greatest k_greatest
  have B_greatest := F_greatest.binds (ps := ["network"]) fun _ _ _ _ _ _ us hl => match us, hl with | [_], _ => rfl
  have F_check_set := fun_mk (st := s_check_set) l_check_set c_check_set k_check_set
  have B_check_set := F_check_set.binds (ps := ["network", "some"]) fun _ _ _ _ _ _ us hl => match us, hl with | [_, _], _ => rfl
  have F_saved := fun_mk (st := s_saved) l_saved c_saved k_saved
  have B_saved := F_saved.binds (ps := ["network", "some"]) fun _ _ _ _ _ _ us hl => match us, hl with | [_, _], _ => rfl
  have F_witness := fun_mk (st := s_witness) l_witness c_witness k_witness
  have B_witness := F_witness.binds (ps := ["network", "some"]) fun _ _ _ _ _ _ us hl => match us, hl with | [_, _], _ => rfl
  have F_is_witness := fun_mk (st := s_is_witness) l_is_witness c_is_witness k_is_witness
  have B_is_witness := F_is_witness.binds (ps := ["network", "some", "row"]) fun _ _ _ _ _ _ us hl => match us, hl with | [_, _, _], _ => rfl
  have F__law_savings_right := fun_mk (st := s__law_savings_right) l__law_savings_right c__law_savings_right k__law_savings_right
  have B__law_savings_right := F__law_savings_right.binds (ps := ["_law_worth"]) fun _ _ _ _ _ _ us hl => match us, hl with | [_], _ => rfl
  have F_law := fun_mk (st := s_law) l_law c_law k_law
  have B_law := F_law.binds (ps := ["_law_script"]) fun _ _ _ _ _ _ us hl => match us, hl with | [_], _ => rfl
  let T : Txt g K mg := {
    hK := rfl,
    is_sorted := ⟨_, _, F_is_sorted, B_is_sorted⟩,
    g_is_sorted := PySem.W.mg_of X G a_is_sorted,
    after_step := ⟨_, _, F_after_step, B_after_step⟩,
    g_after_step := PySem.W.mg_of X G a_after_step,
    behind := ⟨_, _, F_behind, B_behind⟩,
    g_behind := PySem.W.mg_of X G a_behind,
    bit_rows := ⟨_, _, F_bit_rows, B_bit_rows⟩,
    g_bit_rows := PySem.W.mg_of X G a_bit_rows,
    sorts := ⟨_, _, F_sorts, B_sorts⟩,
    g_sorts := PySem.W.mg_of X G a_sorts,
    Network___bool__ := ⟨_, _, F_Network___bool__, B_Network___bool__⟩,
    is_whole := ⟨_, _, F_is_whole, B_is_whole⟩,
    g_is_whole := PySem.W.mg_of X G a_is_whole,
    is_integer := ⟨_, _, F_is_integer, B_is_integer⟩,
    g_is_integer := PySem.W.mg_of X G a_is_integer,
    is_swap_of := ⟨_, _, F_is_swap_of, B_is_swap_of⟩,
    g_is_swap_of := PySem.W.mg_of X G a_is_swap_of,
    Network___init__ := ⟨_, _, F_Network___init__, B_Network___init__⟩,
    Swap___init__ := ⟨_, _, F_Swap___init__, B_Swap___init__.1, B_Swap___init__.2⟩,
    mirrored := ⟨_, _, F_mirrored, B_mirrored⟩,
    g_mirrored := PySem.W.mg_of X G a_mirrored,
    Network___neg__ := ⟨_, _, F_Network___neg__, B_Network___neg__⟩,
    Swap___eq__ := ⟨_, _, F_Swap___eq__, B_Swap___eq__⟩,
    Network___eq__ := ⟨_, _, F_Network___eq__, B_Network___eq__⟩,
    is_row := ⟨_, _, F_is_row, B_is_row⟩,
    g_is_row := PySem.W.mg_of X G a_is_row,
    check_row := ⟨_, _, F_check_row, B_check_row⟩,
    g_check_row := PySem.W.mg_of X G a_check_row,
    Network___call__ := ⟨_, _, F_Network___call__, B_Network___call__⟩,
    _law_rows_right := ⟨_, _, F__law_rows_right, B__law_rows_right⟩,
    g__law_rows_right := PySem.W.mg_of X G a__law_rows_right,
    _law_three := ⟨_, _, F__law_three, B__law_three⟩,
    g__law_three := PySem.W.mg_of X G a__law_three,
    check_network := ⟨_, _, F_check_network, B_check_network⟩,
    g_check_network := PySem.W.mg_of X G a_check_network,
    worth_of := ⟨_, _, F_worth_of, B_worth_of⟩,
    g_worth_of := PySem.W.mg_of X G a_worth_of,
    rest_of := ⟨_, _, F_rest_of, B_rest_of⟩,
    g_rest_of := PySem.W.mg_of X G a_rest_of,
    is_against := ⟨_, _, F_is_against, B_is_against⟩,
    g_is_against := PySem.W.mg_of X G a_is_against,
    are_refuted := ⟨_, _, F_are_refuted, B_are_refuted⟩,
    g_are_refuted := PySem.W.mg_of X G a_are_refuted,
    is_safe := ⟨_, _, F_is_safe, B_is_safe⟩,
    g_is_safe := PySem.W.mg_of X G a_is_safe,
    all_sets := ⟨_, _, F_all_sets, B_all_sets⟩,
    g_all_sets := PySem.W.mg_of X G a_all_sets,
    Saving_shows := ⟨_, _, F_Saving_shows, B_Saving_shows⟩,
    NoSaving_shows := ⟨_, _, F_NoSaving_shows, B_NoSaving_shows⟩,
    Saving___init__ := ⟨_, _, F_Saving___init__, B_Saving___init__⟩,
    NoSaving___init__ := ⟨_, _, F_NoSaving___init__, B_NoSaving___init__⟩,
    _law_answers_right := ⟨_, _, F__law_answers_right, B__law_answers_right⟩,
    g__law_answers_right := PySem.W.mg_of X G a__law_answers_right,
    parted := ⟨_, _, F_parted, B_parted⟩,
    g_parted := PySem.W.mg_of X G a_parted,
    harmless_sets := ⟨_, _, F_harmless_sets, B_harmless_sets⟩,
    g_harmless_sets := PySem.W.mg_of X G a_harmless_sets,
    is_within := ⟨_, _, F_is_within, B_is_within⟩,
    g_is_within := PySem.W.mg_of X G a_is_within,
    maximal_sets := ⟨_, _, F_maximal_sets, B_maximal_sets⟩,
    g_maximal_sets := PySem.W.mg_of X G a_maximal_sets,
    least_harmful := ⟨_, _, F_least_harmful, B_least_harmful⟩,
    g_least_harmful := PySem.W.mg_of X G a_least_harmful,
    one_more := ⟨_, _, F_one_more, B_one_more⟩,
    g_one_more := PySem.W.mg_of X G a_one_more,
    rescues := ⟨_, _, F_rescues, B_rescues⟩,
    g_rescues := PySem.W.mg_of X G a_rescues,
    breaches := ⟨_, _, F_breaches, B_breaches⟩,
    g_breaches := PySem.W.mg_of X G a_breaches,
    _law_families_right := ⟨_, _, F__law_families_right, B__law_families_right⟩,
    g__law_families_right := PySem.W.mg_of X G a__law_families_right,
    first_witness := ⟨_, _, F_first_witness, B_first_witness⟩,
    g_first_witness := PySem.W.mg_of X G a_first_witness,
    greatest := ⟨_, _, F_greatest, B_greatest⟩,
    g_greatest := PySem.W.mg_of X G a_greatest,
    check_set := ⟨_, _, F_check_set, B_check_set⟩,
    g_check_set := PySem.W.mg_of X G a_check_set,
    saved := ⟨_, _, F_saved, B_saved⟩,
    g_saved := PySem.W.mg_of X G a_saved,
    witness := ⟨_, _, F_witness, B_witness⟩,
    g_witness := PySem.W.mg_of X G a_witness,
    is_witness := ⟨_, _, F_is_witness, B_is_witness⟩,
    g_is_witness := PySem.W.mg_of X G a_is_witness,
    _law_savings_right := ⟨_, _, F__law_savings_right, B__law_savings_right⟩,
    g__law_savings_right := PySem.W.mg_of X G a__law_savings_right,
    law := ⟨_, _, F_law, B_law⟩,
    g_law := PySem.W.mg_of X G a_law,
    g_Swap := PySem.W.mg_of X G aC_Swap,
    ins_Swap := ⟨cl_Swap, ha_Swap, hn, htk, hm_Swap⟩,
    mk_Swap := ⟨mk_Swap, a_Swap___init__, i_Swap___init__, kc_Swap⟩,
    eq_Swap := ⟨a_Swap___eq__, i_Swap___eq__, B_Swap___eq__⟩,
    g_Network := PySem.W.mg_of X G aC_Network,
    ins_Network := ⟨cl_Network, ha_Network, hn, htk, hm_Network⟩,
    mk_Network := ⟨mk_Network, a_Network___init__, i_Network___init__, kc_Network⟩,
    call_Network := ⟨a_Network___call__, i_Network___call__, q_Network___call__⟩,
    bool_Network := ⟨a_Network___bool__, i_Network___bool__⟩,
    neg_Network := ⟨a_Network___neg__, i_Network___neg__⟩,
    eq_Network := ⟨a_Network___eq__, i_Network___eq__, B_Network___eq__⟩,
    g_Saving := PySem.W.mg_of X G aC_Saving,
    ins_Saving := ⟨cl_Saving, ha_Saving, hn, htk, hm_Saving⟩,
    mk_Saving := ⟨mk_Saving, a_Saving___init__, i_Saving___init__, kc_Saving⟩,
    g_NoSaving := PySem.W.mg_of X G aC_NoSaving,
    ins_NoSaving := ⟨cl_NoSaving, ha_NoSaving, hn, htk, hm_NoSaving⟩,
    mk_NoSaving := ⟨mk_NoSaving, a_NoSaving___init__, i_NoSaving___init__, kc_NoSaving⟩,
    cls_NoSaving := cl_NoSaving,
    cls_Saving := cl_Saving,
    ex_BadNetwork := ⟨PySem.W.mg_of X G gx_BadNetwork, ex_BadNetwork, kx_BadNetwork, bp_BadNetwork, tp_BadNetwork⟩,
    ex_BadRow := ⟨PySem.W.mg_of X G gx_BadRow, ex_BadRow, kx_BadRow, bp_BadRow, tp_BadRow⟩,
    ex_BadSet := ⟨PySem.W.mg_of X G gx_BadSet, ex_BadSet, kx_BadSet, bp_BadSet, tp_BadSet⟩,
    ex_BadSwap := ⟨PySem.W.mg_of X G gx_BadSwap, ex_BadSwap, kx_BadSwap, bp_BadSwap, tp_BadSwap⟩,
    meth_NoSaving_shows := ⟨a_NoSaving_shows, i_NoSaving_shows, k_NoSaving_shows⟩,
    meth_Saving_shows := ⟨a_Saving_shows, i_Saving_shows, k_Saving_shows⟩,
    fld_0_charge := ⟨cl_Swap, n_0_charge, by decide +kernel⟩,
    fld_0_ends := ⟨cl_Swap, n_0_ends, by decide +kernel⟩,
    fld_1_steps := ⟨cl_Network, n_1_steps, by decide +kernel⟩,
    fld_1_width := ⟨cl_Network, n_1_width, by decide +kernel⟩,
    fld_3_doubts := ⟨cl_Saving, n_3_doubts, by decide +kernel⟩,
    fld_3_left_out := ⟨cl_Saving, n_3_left_out, by decide +kernel⟩,
    fld_4_doubts := ⟨cl_NoSaving, n_4_doubts, by decide +kernel⟩,
    z_abs := PySem.W.mg_none_of X G z_abs,
    z_all := PySem.W.mg_none_of X G z_all,
    z_any := PySem.W.mg_none_of X G z_any,
    z_bool := PySem.W.mg_none_of X G z_bool,
    z_enumerate := PySem.W.mg_none_of X G z_enumerate,
    z_int := PySem.W.mg_none_of X G z_int,
    z_isinstance := PySem.W.mg_none_of X G z_isinstance,
    z_len := PySem.W.mg_none_of X G z_len,
    z_list := PySem.W.mg_none_of X G z_list,
    z_max := PySem.W.mg_none_of X G z_max,
    z_range := PySem.W.mg_none_of X G z_range,
    z_sorted := PySem.W.mg_none_of X G z_sorted,
    z_sum := PySem.W.mg_none_of X G z_sum,
    z_tuple := PySem.W.mg_none_of X G z_tuple,
    z_zip := PySem.W.mg_none_of X G z_zip,
    c_MAX_COST := ⟨_, PySem.W.mg_of X G m_MAX_COST⟩,
    c_MAX_LINES := ⟨_, PySem.W.mg_of X G m_MAX_LINES⟩,
    c_MAX_SWAPS := ⟨_, PySem.W.mg_of X G m_MAX_SWAPS⟩,
    c_MIN_LINES := ⟨_, PySem.W.mg_of X G m_MIN_LINES⟩ }
  refine ⟨T.law.fd, [(cc_greatest, P_greatest)], spLawT m K [(cc_greatest, P_greatest)], ?_, ?_, ?_, fun s v => .of_eq rfl, fun H a ns h1 _ h3 h2 => ⟨a, ns, rfl, h2, h1, h3, fun _ => rfl⟩, fun base _ _ hTB => ?_⟩
  · intro p hp; simp only [List.mem_cons, List.not_mem_nil, or_false] at hp; rcases hp with rfl
    · exact ht_greatest
  · intro p hp; simp only [List.mem_cons, List.not_mem_nil, or_false] at hp; rcases hp with rfl
    · exact np_greatest
  · intro p hp; simp only [List.mem_cons, List.not_mem_nil, or_false] at hp; rcases hp with rfl
    · exact PySem.W.codeHd_of_K X hc_greatest
  have hu_greatest : ∀ p ∈ g.T, p.1 = P_greatest → p.2 = "greatest" ++ ".<locals>." ++ "<lambda>" := by
    intro p hp e; simp only [g, List.mem_cons, List.not_mem_nil, or_false] at hp; rcases hp with rfl
    · rfl
  have TB : Tbs T base := {
    greatest := lamT_of l_greatest rfl (hTB (cc_greatest, P_greatest) (by simp)) (by simp [g]) hu_greatest }
  refine Fx.FnOk.imp (ok_law T TB) fun vs H Q E hs => spLaw_of (g := g) rfl (fun p hp => ?_) hlaw hs
  simp only [g, List.mem_cons, List.not_mem_nil, or_false] at hp; rcases hp with rfl
  · exact ⟨cc_greatest, by simp⟩
theorem walk {l : PySem.W.OpenLaw} {q : Program} {loose : List Str} {XP : (Str → Option Value) → Heap → Prop} {YP : World → Heap → Prop} {d : DefRec} {K : Params → PySem.W.Frag} (hn : l.most = some 63) (hdf : d.params.defaults = [])
    (hY : ∀ (w : World) (h : Heap), YP w h → (K w.params).In h)
    (F : ∀ (w : World) (mg : Str → Option Value) (fa : Addr) (h : Heap), YP w h → (K w.params).In h → h.Ns mainGlobals mg → mg d.name = some (.ref fa) → LawAtS l w (K w.params) (L2.CX l.prog w) 9 63 "_law_script" mg fa h) :
    PySem.W.WalkO q loose XP YP l.row.toRowW d [] (fun f vs => PySem.call f vs) :=
  walk_ofTs (n := 63) (k := 9) (x := "_law_script") (CX := fun w => L2.CX l.prog w) hn (by decide) hdf ⟨rfl, by decide, by decide⟩ hY F fun w H s e s' z => by
    obtain ⟨_, _, _, _, _, _, _, _, _, _, _, _, z⟩ := z
    exact z
end K34

open PySem PySem.W PyProof.Rows in
set_option maxRecDepth 100000 in
set_option maxHeartbeats 0 in
theorem PySem.Challenge.cw_dropswaps_k34_by_hand_holds : PySem.Challenge.rw_dropswaps_k34_by_hand.Holds := by
  w_on; o_law; k_head; (case hw => w_witness2)
  k_fill
  refine K34.walk (l := PySem.Challenge.rw_dropswaps_k34_by_hand) rfl rfl (fun w h Y => PySem.W.km_in_of Y) ?F
  case F =>
    intro w mg fa h Y KX G hmg
    refine' K34.all_mk _ K34.law_true KX G hmg ?aC_Swap ?pg_Swap ?hd_Swap ?po_Swap ?sa_Swap ?ha_Swap ?hm_Swap ?mk_Swap ?kc_Swap ?aC_Network ?pg_Network ?hd_Network ?po_Network ?sa_Network ?ha_Network ?hm_Network ?mk_Network ?kc_Network ?aC_Saving ?pg_Saving ?hd_Saving ?po_Saving ?sa_Saving ?ha_Saving ?hm_Saving ?mk_Saving ?kc_Saving ?aC_NoSaving ?pg_NoSaving ?hd_NoSaving ?po_NoSaving ?sa_NoSaving ?ha_NoSaving ?hm_NoSaving ?mk_NoSaving ?kc_NoSaving ?hn ?htk ?a_is_sorted ?l_is_sorted ?c_is_sorted ?k_is_sorted ?a_after_step ?l_after_step ?c_after_step ?k_after_step ?a_behind ?l_behind ?c_behind ?k_behind ?a_bit_rows ?l_bit_rows ?c_bit_rows ?k_bit_rows ?a_sorts ?l_sorts ?c_sorts ?k_sorts ?a_Network___bool__ ?i_Network___bool__ ?l_Network___bool__ ?c_Network___bool__ ?k_Network___bool__ ?a_is_whole ?l_is_whole ?c_is_whole ?k_is_whole ?a_is_integer ?l_is_integer ?c_is_integer ?k_is_integer ?a_is_swap_of ?l_is_swap_of ?c_is_swap_of ?k_is_swap_of ?a_Network___init__ ?i_Network___init__ ?l_Network___init__ ?c_Network___init__ ?k_Network___init__ ?a_Swap___init__ ?i_Swap___init__ ?l_Swap___init__ ?c_Swap___init__ ?k_Swap___init__ ?kw_Swap___init__ ?a_mirrored ?l_mirrored ?c_mirrored ?k_mirrored ?a_Network___neg__ ?i_Network___neg__ ?l_Network___neg__ ?c_Network___neg__ ?k_Network___neg__ ?a_Swap___eq__ ?i_Swap___eq__ ?l_Swap___eq__ ?c_Swap___eq__ ?k_Swap___eq__ ?a_Network___eq__ ?i_Network___eq__ ?l_Network___eq__ ?c_Network___eq__ ?k_Network___eq__ ?a_is_row ?l_is_row ?c_is_row ?k_is_row ?a_check_row ?l_check_row ?c_check_row ?k_check_row ?a_Network___call__ ?i_Network___call__ ?l_Network___call__ ?c_Network___call__ ?k_Network___call__ ?q_Network___call__ ?a__law_rows_right ?l__law_rows_right ?c__law_rows_right ?k__law_rows_right ?a__law_three ?l__law_three ?c__law_three ?k__law_three ?a_check_network ?l_check_network ?c_check_network ?k_check_network ?a_worth_of ?l_worth_of ?c_worth_of ?k_worth_of ?a_rest_of ?l_rest_of ?c_rest_of ?k_rest_of ?a_is_against ?l_is_against ?c_is_against ?k_is_against ?a_are_refuted ?l_are_refuted ?c_are_refuted ?k_are_refuted ?a_is_safe ?l_is_safe ?c_is_safe ?k_is_safe ?a_all_sets ?l_all_sets ?c_all_sets ?k_all_sets ?a_Saving_shows ?i_Saving_shows ?l_Saving_shows ?c_Saving_shows ?k_Saving_shows ?a_NoSaving_shows ?i_NoSaving_shows ?l_NoSaving_shows ?c_NoSaving_shows ?k_NoSaving_shows ?a_Saving___init__ ?i_Saving___init__ ?l_Saving___init__ ?c_Saving___init__ ?k_Saving___init__ ?a_NoSaving___init__ ?i_NoSaving___init__ ?l_NoSaving___init__ ?c_NoSaving___init__ ?k_NoSaving___init__ ?a__law_answers_right ?l__law_answers_right ?c__law_answers_right ?k__law_answers_right ?a_parted ?l_parted ?c_parted ?k_parted ?a_harmless_sets ?l_harmless_sets ?c_harmless_sets ?k_harmless_sets ?a_is_within ?l_is_within ?c_is_within ?k_is_within ?a_maximal_sets ?l_maximal_sets ?c_maximal_sets ?k_maximal_sets ?a_least_harmful ?l_least_harmful ?c_least_harmful ?k_least_harmful ?a_one_more ?l_one_more ?c_one_more ?k_one_more ?a_rescues ?l_rescues ?c_rescues ?k_rescues ?a_breaches ?l_breaches ?c_breaches ?k_breaches ?a__law_families_right ?l__law_families_right ?c__law_families_right ?k__law_families_right ?a_first_witness ?l_first_witness ?c_first_witness ?k_first_witness ?a_greatest ?l_greatest ?c_greatest ?k_greatest ?lc_greatest ?pt_greatest ?hc_greatest ?np_greatest ?ht_greatest ?a_check_set ?l_check_set ?c_check_set ?k_check_set ?a_saved ?l_saved ?c_saved ?k_saved ?a_witness ?l_witness ?c_witness ?k_witness ?a_is_witness ?l_is_witness ?c_is_witness ?k_is_witness ?a__law_savings_right ?l__law_savings_right ?c__law_savings_right ?k__law_savings_right ?a_law ?l_law ?c_law ?k_law ?gx_BadNetwork ?ex_BadNetwork ?kx_BadNetwork ?bp_BadNetwork ?tp_BadNetwork ?gx_BadRow ?ex_BadRow ?kx_BadRow ?bp_BadRow ?tp_BadRow ?gx_BadSet ?ex_BadSet ?kx_BadSet ?bp_BadSet ?tp_BadSet ?gx_BadSwap ?ex_BadSwap ?kx_BadSwap ?bp_BadSwap ?tp_BadSwap ?n_0_charge ?n_0_ends ?n_1_steps ?n_1_width ?n_3_doubts ?n_3_left_out ?n_4_doubts ?z_abs ?z_all ?z_any ?z_bool ?z_enumerate ?z_int ?z_isinstance ?z_len ?z_list ?z_max ?z_range ?z_sorted ?z_sum ?z_tuple ?z_zip ?m_MAX_COST ?m_MAX_LINES ?m_MAX_SWAPS ?m_MIN_LINES
    (case aC_Swap => k_is)
    (case pg_Swap => k_is)
    (case hd_Swap => k_is)
    (case po_Swap => k_is)
    (case sa_Swap => k_is)
    (case ha_Swap => k_is)
    (case hm_Swap => k_is)
    (case mk_Swap => k_is)
    (case kc_Swap => k_is)
    (case aC_Network => k_is)
    (case pg_Network => k_is)
    (case hd_Network => k_is)
    (case po_Network => k_is)
    (case sa_Network => k_is)
    (case ha_Network => k_is)
    (case hm_Network => k_is)
    (case mk_Network => k_is)
    (case kc_Network => k_is)
    (case aC_Saving => k_is)
    (case pg_Saving => k_is)
    (case hd_Saving => k_is)
    (case po_Saving => k_is)
    (case sa_Saving => k_is)
    (case ha_Saving => k_is)
    (case hm_Saving => k_is)
    (case mk_Saving => k_is)
    (case kc_Saving => k_is)
    (case aC_NoSaving => k_is)
    (case pg_NoSaving => k_is)
    (case hd_NoSaving => k_is)
    (case po_NoSaving => k_is)
    (case sa_NoSaving => k_is)
    (case ha_NoSaving => k_is)
    (case hm_NoSaving => k_is)
    (case mk_NoSaving => k_is)
    (case kc_NoSaving => k_is)
    (case hn => k_is)
    (case htk => k_is)
    (case a_is_sorted => k_is)
    (case l_is_sorted => k_is)
    (case c_is_sorted => k_is)
    (case k_is_sorted => k_is)
    (case a_after_step => k_is)
    (case l_after_step => k_is)
    (case c_after_step => k_is)
    (case k_after_step => k_is)
    (case a_behind => k_is)
    (case l_behind => k_is)
    (case c_behind => k_is)
    (case k_behind => k_is)
    (case a_bit_rows => k_is)
    (case l_bit_rows => k_is)
    (case c_bit_rows => k_is)
    (case k_bit_rows => k_is)
    (case a_sorts => k_is)
    (case l_sorts => k_is)
    (case c_sorts => k_is)
    (case k_sorts => k_is)
    (case a_Network___bool__ => k_is)
    (case i_Network___bool__ => k_is)
    (case l_Network___bool__ => k_is)
    (case c_Network___bool__ => k_is)
    (case k_Network___bool__ => k_is)
    (case a_is_whole => k_is)
    (case l_is_whole => k_is)
    (case c_is_whole => k_is)
    (case k_is_whole => k_is)
    (case a_is_integer => k_is)
    (case l_is_integer => k_is)
    (case c_is_integer => k_is)
    (case k_is_integer => k_is)
    (case a_is_swap_of => k_is)
    (case l_is_swap_of => k_is)
    (case c_is_swap_of => k_is)
    (case k_is_swap_of => k_is)
    (case a_Network___init__ => k_is)
    (case i_Network___init__ => k_is)
    (case l_Network___init__ => k_is)
    (case c_Network___init__ => k_is)
    (case k_Network___init__ => k_is)
    (case a_Swap___init__ => k_is)
    (case i_Swap___init__ => k_is)
    (case l_Swap___init__ => k_is)
    (case c_Swap___init__ => k_is)
    (case k_Swap___init__ => k_is)
    (case kw_Swap___init__ => k_is)
    (case a_mirrored => k_is)
    (case l_mirrored => k_is)
    (case c_mirrored => k_is)
    (case k_mirrored => k_is)
    (case a_Network___neg__ => k_is)
    (case i_Network___neg__ => k_is)
    (case l_Network___neg__ => k_is)
    (case c_Network___neg__ => k_is)
    (case k_Network___neg__ => k_is)
    (case a_Swap___eq__ => k_is)
    (case i_Swap___eq__ => k_is)
    (case l_Swap___eq__ => k_is)
    (case c_Swap___eq__ => k_is)
    (case k_Swap___eq__ => k_is)
    (case a_Network___eq__ => k_is)
    (case i_Network___eq__ => k_is)
    (case l_Network___eq__ => k_is)
    (case c_Network___eq__ => k_is)
    (case k_Network___eq__ => k_is)
    (case a_is_row => k_is)
    (case l_is_row => k_is)
    (case c_is_row => k_is)
    (case k_is_row => k_is)
    (case a_check_row => k_is)
    (case l_check_row => k_is)
    (case c_check_row => k_is)
    (case k_check_row => k_is)
    (case a_Network___call__ => k_is)
    (case i_Network___call__ => k_is)
    (case l_Network___call__ => k_is)
    (case c_Network___call__ => k_is)
    (case k_Network___call__ => k_is)
    (case q_Network___call__ => k_is)
    (case a__law_rows_right => k_is)
    (case l__law_rows_right => k_is)
    (case c__law_rows_right => k_is)
    (case k__law_rows_right => k_is)
    (case a__law_three => k_is)
    (case l__law_three => k_is)
    (case c__law_three => k_is)
    (case k__law_three => k_is)
    (case a_check_network => k_is)
    (case l_check_network => k_is)
    (case c_check_network => k_is)
    (case k_check_network => k_is)
    (case a_worth_of => k_is)
    (case l_worth_of => k_is)
    (case c_worth_of => k_is)
    (case k_worth_of => k_is)
    (case a_rest_of => k_is)
    (case l_rest_of => k_is)
    (case c_rest_of => k_is)
    (case k_rest_of => k_is)
    (case a_is_against => k_is)
    (case l_is_against => k_is)
    (case c_is_against => k_is)
    (case k_is_against => k_is)
    (case a_are_refuted => k_is)
    (case l_are_refuted => k_is)
    (case c_are_refuted => k_is)
    (case k_are_refuted => k_is)
    (case a_is_safe => k_is)
    (case l_is_safe => k_is)
    (case c_is_safe => k_is)
    (case k_is_safe => k_is)
    (case a_all_sets => k_is)
    (case l_all_sets => k_is)
    (case c_all_sets => k_is)
    (case k_all_sets => k_is)
    (case a_Saving_shows => k_is)
    (case i_Saving_shows => k_is)
    (case l_Saving_shows => k_is)
    (case c_Saving_shows => k_is)
    (case k_Saving_shows => k_is)
    (case a_NoSaving_shows => k_is)
    (case i_NoSaving_shows => k_is)
    (case l_NoSaving_shows => k_is)
    (case c_NoSaving_shows => k_is)
    (case k_NoSaving_shows => k_is)
    (case a_Saving___init__ => k_is)
    (case i_Saving___init__ => k_is)
    (case l_Saving___init__ => k_is)
    (case c_Saving___init__ => k_is)
    (case k_Saving___init__ => k_is)
    (case a_NoSaving___init__ => k_is)
    (case i_NoSaving___init__ => k_is)
    (case l_NoSaving___init__ => k_is)
    (case c_NoSaving___init__ => k_is)
    (case k_NoSaving___init__ => k_is)
    (case a__law_answers_right => k_is)
    (case l__law_answers_right => k_is)
    (case c__law_answers_right => k_is)
    (case k__law_answers_right => k_is)
    (case a_parted => k_is)
    (case l_parted => k_is)
    (case c_parted => k_is)
    (case k_parted => k_is)
    (case a_harmless_sets => k_is)
    (case l_harmless_sets => k_is)
    (case c_harmless_sets => k_is)
    (case k_harmless_sets => k_is)
    (case a_is_within => k_is)
    (case l_is_within => k_is)
    (case c_is_within => k_is)
    (case k_is_within => k_is)
    (case a_maximal_sets => k_is)
    (case l_maximal_sets => k_is)
    (case c_maximal_sets => k_is)
    (case k_maximal_sets => k_is)
    (case a_least_harmful => k_is)
    (case l_least_harmful => k_is)
    (case c_least_harmful => k_is)
    (case k_least_harmful => k_is)
    (case a_one_more => k_is)
    (case l_one_more => k_is)
    (case c_one_more => k_is)
    (case k_one_more => k_is)
    (case a_rescues => k_is)
    (case l_rescues => k_is)
    (case c_rescues => k_is)
    (case k_rescues => k_is)
    (case a_breaches => k_is)
    (case l_breaches => k_is)
    (case c_breaches => k_is)
    (case k_breaches => k_is)
    (case a__law_families_right => k_is)
    (case l__law_families_right => k_is)
    (case c__law_families_right => k_is)
    (case k__law_families_right => k_is)
    (case a_first_witness => k_is)
    (case l_first_witness => k_is)
    (case c_first_witness => k_is)
    (case k_first_witness => k_is)
    (case a_greatest => k_is)
    (case l_greatest => k_is)
    (case c_greatest => k_is)
    (case k_greatest => k_is)
    (case lc_greatest => k_is)
    (case pt_greatest => exact rfl)
    (case hc_greatest => kernel_rfl)
    (case np_greatest => kernel_rfl)
    (case ht_greatest => exact PySem.W.km_tabs_of Y _ (by k_mem))
    (case a_check_set => k_is)
    (case l_check_set => k_is)
    (case c_check_set => k_is)
    (case k_check_set => k_is)
    (case a_saved => k_is)
    (case l_saved => k_is)
    (case c_saved => k_is)
    (case k_saved => k_is)
    (case a_witness => k_is)
    (case l_witness => k_is)
    (case c_witness => k_is)
    (case k_witness => k_is)
    (case a_is_witness => k_is)
    (case l_is_witness => k_is)
    (case c_is_witness => k_is)
    (case k_is_witness => k_is)
    (case a__law_savings_right => k_is)
    (case l__law_savings_right => k_is)
    (case c__law_savings_right => k_is)
    (case k__law_savings_right => k_is)
    (case a_law => k_is)
    (case l_law => k_is)
    (case c_law => k_is)
    (case k_law => k_is)
    (case gx_BadNetwork => k_is)
    (case ex_BadNetwork => kernel_rfl)
    (case kx_BadNetwork => k_is)
    (case bp_BadNetwork => k_is)
    (case tp_BadNetwork => k_is)
    (case gx_BadRow => k_is)
    (case ex_BadRow => kernel_rfl)
    (case kx_BadRow => k_is)
    (case bp_BadRow => k_is)
    (case tp_BadRow => k_is)
    (case gx_BadSet => k_is)
    (case ex_BadSet => kernel_rfl)
    (case kx_BadSet => k_is)
    (case bp_BadSet => k_is)
    (case tp_BadSet => k_is)
    (case gx_BadSwap => k_is)
    (case ex_BadSwap => kernel_rfl)
    (case kx_BadSwap => k_is)
    (case bp_BadSwap => k_is)
    (case tp_BadSwap => k_is)
    (case n_0_charge => k_is)
    (case n_0_ends => k_is)
    (case n_1_steps => k_is)
    (case n_1_width => k_is)
    (case n_3_doubts => k_is)
    (case n_3_left_out => k_is)
    (case n_4_doubts => k_is)
    (case z_abs => k_is)
    (case z_all => k_is)
    (case z_any => k_is)
    (case z_bool => k_is)
    (case z_enumerate => k_is)
    (case z_int => k_is)
    (case z_isinstance => k_is)
    (case z_len => k_is)
    (case z_list => k_is)
    (case z_max => k_is)
    (case z_range => k_is)
    (case z_sorted => k_is)
    (case z_sum => k_is)
    (case z_tuple => k_is)
    (case z_zip => k_is)
    (case m_MAX_COST => k_is)
    (case m_MAX_LINES => k_is)
    (case m_MAX_SWAPS => k_is)
    (case m_MIN_LINES => k_is)

