import PyProof.Rows.All
import Wide.All
import OpenK.AllK
import Wide.FinOn
import PyProof.EqAt
import PyProof.EqKinds
import PyProof.TupleCall
import HandS.ForMost
import HandS.ForExc
import HandS.CallSlots
import KE.KDictKeyed
import KE.KDflt
import HandS.ExcInit
import HandS.Deep
import HandS.IsInst
import HandS.Wide
import HandS.Sort
import HandS.Style
import HandS.TupAny
import HandS.Defaults
import HandS.EndBits
import HandS.Flt
import HandS.TryMany
import HandS.ExcField
import KE.KExcInit
import HandS.ExcIs
import KE.KExcIs
import HandS.Lambda
import HandS.EndTab
import KE.KNestM
import HandS.SortRule
import KE.SortCalls
import KE.SortData
import KE.KDictList
import KE.KDictSum
import HandS.Iter
import KE.DataMinMax
import HandS.Zip
import KE.KDictPairs
import KE.KDictDisplayH
import HandS.Conv
import PySem.Challenge.RW_closecells_k08_what_hulls_refuse
set_option Elab.async false
set_option linter.all false
set_option maxRecDepth 100000
set_option maxHeartbeats 0
/-! Z1: pure values, how they lie in the heap, the state. -/
namespace L2.Zz
open PySem PySem.Spec PyProof.Rows

/-- values without addresses; lists, dicts and instances by what they hold -/
inductive PV where
  | non | bl (b : Bool) | int (i : Int) | str (x : Str)
  | tup (xs : List PV) | lst (xs : List PV) | dct (ks vs : List PV)
  | fn (x : Str) | ty (n : String) | ins (x : Str) (ns : List Str) (vs : List PV)
  | clo (k : Nat) (vs : List PV)
  | err (x : Str) (ns : List Str) (vs : List PV)

/-- a lambda of the text: its name, its parameters (dv: their defaults, whole numbers), its body, its scope, what it captures -/
structure LamD where
  q : Str
  params : Arguments
  body : Expr
  scope : Scope
  caps : List Str
  dv : List Int
/-- the lambdas of the text, the tables of the code objects of the defs that make them -/
structure LTab where
  T : List (Addr × Str)
  lam : Nat → Option LamD
structure Cb where
  P : Program
  w : World
  K : PySem.W.Frag
  mg : Str → Option Value
  LT : LTab
/-- with the cells of the frame -/
structure Cn extends Cb where
  ce : List (Str × Addr)
instance : Coe Cn Cb := ⟨Cn.toCb⟩
abbrev cb (LT : LTab) (X : Cx) : Cb := ⟨X.prog, X.w, X.K, X.mg, LT⟩
abbrev cnE (LT : LTab) (X : Cx) (ce : List (Str × Addr)) : Cn := ⟨cb LT X, ce⟩
abbrev cn (LT : LTab) (X : Cx) : Cn := ⟨cb LT X, X.env.cells⟩

mutual
def keyOf : PV → NestedKey
  | .int i => .num i
  | .bl b => .num (if b then 1 else 0)
  | .str x => .text x
  | .tup xs => .tup (keysOf xs)
  | _ => .none
def keysOf : List PV → List NestedKey
  | [] => []
  | x :: xs => keyOf x :: keysOf xs
end


mutual
def kN : PV → Bool
  | .non => true
  | .int _ => true
  | .bl _ => true
  | .str _ => true
  | .tup xs => kNs xs
  | _ => false
def kNs : List PV → Bool
  | [] => true
  | x :: xs => kN x && kNs xs
end
def kOk (p : PV) : Bool := match p with
  | .tup xs => kNs xs && decide ((NestedKey.tup (keysOf xs)).depth ≤ 8)
  | _ => false
def KsOk (xs : List (NestedKey × Addr × Value)) (ks : List PV) : Prop := xs.map (·.1) = keysOf ks ∧ ∀ k ∈ ks, kOk k = true

/-- a list that stands still at a -/
def FrL (c : Cb) (F : Addr → Prop) (H : Hp) (a : Addr) (us : List V) : Prop :=
  (F a ∧ Rd H a (.lst us)) ∨
    ∃ (o : Obj) (its : Array Value) (n : Nat), c.K.lookup a = some o ∧ o.cls = .type "list" ∧ o.dict = none ∧ o.data = .seq its n ∧ its.size ≤ sizeLine ∧ Vals us its.toList
/-- a dict of tuple keys at a, by its entries -/
def DcA (c : Cb) (H : Hp) (a : Addr) (xs : List (NestedKey × Addr × Value)) : Prop :=
  (a == sysModules) = false ∧ (xs.map (·.1)).Nodup ∧ xs.length ≤ sizeLine ∧ ∃ (ob : Obj) (es : Array DictEntry) (ep : Nat),
    H a = some (.ext fun h => h.get? a = some ob) ∧ ob.ExactDict ∧ ob.data = .dict es ep ∧ es.toList = xs.map (entryOfKey (nestedKind c.P c.w))

mutual
def noC : PV → Bool
  | .clo _ _ => false
  | .tup xs => noCs xs
  | .lst xs => noCs xs
  | .dct ks vs => noCs ks && noCs vs
  | .ins _ _ vs => noCs vs
  | .err _ _ vs => noCs vs
  | _ => true
def noCs : List PV → Bool
  | [] => true
  | x :: xs => noC x && noCs xs
end
/-- the function object of a lambda: its closure, its code object's place, its defaults' -/
def LamO (L : LamD) (o : Obj) (cl : List (Str × Addr)) (c' : Addr) (dV : Value) : Prop := ∃ doc pm ctv : Value, o = PySem.W.kdv_obj "<lambda>" L.q L.params (.expr L.body) L.scope cl dV doc pm c' ctv
/-- at c' a code object of the name q -/
def CodeZ (H : Hp) (c' : Addr) (q : Str) : Prop := ∃ (oc : Obj) (vs : Array Value) (t : Tok), H c' = some (.frz oc (.own 0)) ∧ oc.data = .fields vs ∧ vs[1]? = some (.str q t)
/-- the defaults of a lambda -/
def DflZ (H : Hp) (dV : Value) (dv : List Int) : Prop := (dV = .none ∧ dv = []) ∨ ∃ (t : Addr) (us : List Value), dV = .ref t ∧ dv ≠ [] ∧ H t = some (.frz { cls := .type "tuple", data := .seq us.toArray } (.own 0)) ∧ Vals (dv.map V.int) us
/-- a lambda's function object at f, its closure -/
def FnZ (c : Cb) (H : Hp) (L : LamD) (f : Addr) (cl : List (Str × Addr)) : Prop := ∃ (o : Obj) (c' : Addr) (dV : Value), H f = some (.frz o (.own 0)) ∧ LamO L o cl c' dV ∧ CodeZ H c' L.q ∧ DflZ H dV L.dv
/-- the closure's cells, seen from outside the frame that made it -/
def CelZ (H : Hp) (cl : List (Str × Addr)) (caps : List Str) (us : List V) : Prop := (∀ y a, cl.lookup y = some a → ∃ i : Nat, caps[i]? = some y) ∧ (∀ y z a, cl.lookup y = some a → cl.lookup z = some a → y = z) ∧
  ∀ (i : Nat) (y : Str) (u : V), caps[i]? = some y → us[i]? = some u → ∃ (a : Addr) (o : Obj) (w : Value), cl.lookup y = some a ∧ H a = some (.frz o (.own 0)) ∧ o.data = .cell (some w) ∧ RelV u w
mutual
def RF (c : Cb) (F : Addr → Prop) (H : Hp) : PV → V → Prop
  | .non, v => v = .non
  | .bl b, v => v = .bl b
  | .int i, v => v = .int i
  | .str x, v => v = .str x
  | .tup xs, v => ∃ a us, v = .ref a ∧ SqT c.K H a us ∧ RFs c F H xs us
  | .lst xs, v => ∃ a us, v = .ref a ∧ FrL c F H a us ∧ RFs c F H xs us
  | .dct ks vs, v => ∃ a xs us, v = .ref a ∧ F a ∧ DcA c H a xs ∧ KsOk xs ks ∧ RFs c F H ks (xs.map fun x => V.ref x.2.1) ∧ RFs c F H vs us ∧ Vals us (xs.map (·.2.2))
  | .fn x, v => ∃ a, v = .ref a ∧ c.mg x = some (.ref a)
  | .ty n, v => v = .ty n
  | .ins x ns vs, v => ∃ a C dx us, v = .ref a ∧ F a ∧ c.mg x = some (.ref C) ∧ H a = some (.ins C dx (ns.zip us)) ∧ ns.length = us.length ∧ RFs c F H vs us
  | .err x ns vs, v => ∃ (a C : Addr) (dd : Option Addr) (us : List V), v = .ref a ∧ F a ∧ c.mg x = some (.ref C) ∧ H a = some (exo a C dd) ∧ ns.length = us.length ∧ RFs c F H vs us ∧ ((dd = none ∧ ns = []) ∨ ∃ dx, dd = some dx ∧ F dx ∧ H dx = some (exd dx (ns.zip us)))
  | .clo k vs, v => ∃ (f : Addr) (L : LamD) (cl : List (Str × Addr)) (us : List V), v = .ref f ∧ c.LT.lam k = some L ∧ FnZ c H L f cl ∧ CelZ H cl L.caps us ∧ L.caps.length = us.length ∧ noCs vs = true ∧ RFs c F H vs us
def RFs (c : Cb) (F : Addr → Prop) (H : Hp) : List PV → List V → Prop
  | [], us => us = []
  | x :: xs, us => ∃ u r, us = u :: r ∧ RF c F H x u ∧ RFs c F H xs r
end

/-- what stands at an address that may be written -/
def RO (c : Cb) (F : Addr → Prop) (H : Hp) : PV → Addr → Prop
  | .lst xs, a => ∃ us, H a = some (.lst us) ∧ RFs c F H xs us
  | .dct ks vs, a => ∃ xs us, DcA c H a xs ∧ KsOk xs ks ∧ RFs c F H ks (xs.map fun x => V.ref x.2.1) ∧ RFs c F H vs us ∧ Vals us (xs.map (·.2.2))
  | .ins x ns vs, a => ∃ C dx us, c.mg x = some (.ref C) ∧ H a = some (.ins C dx (ns.zip us)) ∧ ns.length = us.length ∧ RFs c F H vs us
  | _, _ => False

/-- an object that never changes by itself -/
def Stl : HO → Prop
  | .tup _ => True
  | .frz _ _ => True
  | _ => False

section
variable {c : Cb} {F F' : Addr → Prop} {H H' : Hp}

theorem SqT.ext {K : PySem.W.Frag} {a : Addr} {us : List V} (h : SqT K H a us) (k : ∀ a o, H a = some o → Stl o → H' a = some o) : SqT K H' a us := by
  rcases h with (h | ⟨o, h⟩) | h
  · exact .inl (.inl (k _ _ h trivial))
  · exact .inl (.inr ⟨o, k _ _ h trivial⟩)
  · exact .inr h
theorem FrL.ext {a : Addr} {us : List V} (h : FrL c F H a us) (hF : ∀ a, F a → F' a) (k : ∀ a o, H a = some o → (F a ∨ Stl o) → H' a = some o) : FrL c F' H' a us := by
  rcases h with ⟨f, h | ⟨o, h⟩⟩ | h
  · exact .inl ⟨hF _ f, .inl (k _ _ h (.inl f))⟩
  · exact .inl ⟨hF _ f, .inr ⟨o, k _ _ h (.inl f)⟩⟩
  · exact .inr h
theorem CodeZ.ext {c' : Addr} {q : Str} (h : CodeZ H c' q) (k : ∀ a o, H a = some o → Stl o → H' a = some o) : CodeZ H' c' q :=
  let ⟨oc, vs, t, e, r⟩ := h; ⟨oc, vs, t, k _ _ e trivial, r⟩
theorem DflZ.ext {dV : Value} {dv : List Int} (h : DflZ H dV dv) (k : ∀ a o, H a = some o → Stl o → H' a = some o) : DflZ H' dV dv := by
  rcases h with h | ⟨t, us, e, n, h, r⟩
  · exact .inl h
  · exact .inr ⟨t, us, e, n, k _ _ h trivial, r⟩
theorem FnZ.ext {L : LamD} {f : Addr} {cl : List (Str × Addr)} (h : FnZ c H L f cl) (k : ∀ a o, H a = some o → Stl o → H' a = some o) : FnZ c H' L f cl :=
  let ⟨o, c', dV, e, l, cd, d⟩ := h; ⟨o, c', dV, k _ _ e trivial, l, cd.ext k, d.ext k⟩
theorem CelZ.ext {cl : List (Str × Addr)} {caps : List Str} {us : List V} (h : CelZ H cl caps us) (k : ∀ a o, H a = some o → Stl o → H' a = some o) : CelZ H' cl caps us :=
  ⟨h.1, h.2.1, fun i y u e1 e2 => let ⟨a, o, w, l, e, r⟩ := h.2.2 i y u e1 e2; ⟨a, o, w, l, k _ _ e trivial, r⟩⟩
theorem DcA.ext {a : Addr} {xs : List (NestedKey × Addr × Value)} (h : DcA c H a xs) (k : ∀ o, H a = some o → H' a = some o) : DcA c H' a xs :=
  let ⟨h1, h2, h3, ob, es, ep, e, r⟩ := h; ⟨h1, h2, h3, ob, es, ep, k _ e, r⟩
mutual
theorem RF.ext (hF : ∀ a, F a → F' a) (k : ∀ a o, H a = some o → (F a ∨ Stl o) → H' a = some o) : ∀ (p : PV) (v : V), RF c F H p v → RF c F' H' p v
  | .non, _, h => h
  | .bl _, _, h => h
  | .int _, _, h => h
  | .str _, _, h => h
  | .tup xs, _, h => by
    unfold RF at h ⊢
    obtain ⟨a, us, e, h1, h2⟩ := h
    exact ⟨a, us, e, SqT.ext h1 fun a o e s => k a o e (.inr s), RFs.ext hF k xs us h2⟩
  | .lst xs, _, h => by
    unfold RF at h ⊢
    obtain ⟨a, us, e, h1, h2⟩ := h
    exact ⟨a, us, e, FrL.ext h1 hF k, RFs.ext hF k xs us h2⟩
  | .dct ks vs, _, h => by
    unfold RF at h ⊢
    obtain ⟨a, xs, us, e, f, d, kk, r1, r2, r3⟩ := h
    exact ⟨a, xs, us, e, hF _ f, d.ext fun o q => k _ _ q (.inl f), kk, RFs.ext hF k ks _ r1, RFs.ext hF k vs us r2, r3⟩
  | .fn _, _, h => h
  | .ty _, _, h => h
  | .ins x ns vs, _, h => by
    unfold RF at h ⊢
    obtain ⟨a, C, dx, us, e, f, m, h1, l, r⟩ := h
    exact ⟨a, C, dx, us, e, hF _ f, m, k _ _ h1 (.inl f), l, RFs.ext hF k vs us r⟩
  | .err x ns vs, _, h => by
    unfold RF at h ⊢
    obtain ⟨a, C, dd, us, e, f, m, h1, l, r, q⟩ := h
    exact ⟨a, C, dd, us, e, hF _ f, m, k _ _ h1 (.inl f), l, RFs.ext hF k vs us r, q.imp id fun ⟨dx, e2, f2, h2⟩ => ⟨dx, e2, hF _ f2, k _ _ h2 (.inl f2)⟩⟩
  | .clo i vs, _, h => by
    unfold RF at h ⊢
    obtain ⟨f, L, cl, us, e, l, fz, ce, hl, nc, r⟩ := h
    exact ⟨f, L, cl, us, e, l, fz.ext fun a o e s => k a o e (.inr s), ce.ext fun a o e s => k a o e (.inr s), hl, nc, RFs.ext hF k vs us r⟩
theorem RFs.ext (hF : ∀ a, F a → F' a) (k : ∀ a o, H a = some o → (F a ∨ Stl o) → H' a = some o) : ∀ (ps : List PV) (us : List V), RFs c F H ps us → RFs c F' H' ps us
  | [], _, h => h
  | x :: xs, _, h => by
    unfold RFs at h ⊢
    obtain ⟨u, r, e, h1, h2⟩ := h
    exact ⟨u, r, e, RF.ext hF k x u h1, RFs.ext hF k xs r h2⟩
end
/-- as RF.ext, but for the objects that closures stand on: for values without closures -/
def Thin (o : HO) : Prop := ∀ ob, o ≠ .frz ob (.own 0)
mutual
theorem RF.thin (hF : ∀ a o, F a → H a = some o → Thin o → F' a) (k : ∀ a o, H a = some o → (F a ∨ Stl o) → Thin o → H' a = some o) : ∀ (p : PV) (v : V), noC p = true → RF c F H p v → RF c F' H' p v
  | .non, _, _, h => h
  | .bl _, _, _, h => h
  | .int _, _, _, h => h
  | .str _, _, _, h => h
  | .tup xs, _, n, h => by
    unfold RF at h ⊢
    obtain ⟨a, us, e, h1, h2⟩ := h
    refine ⟨a, us, e, ?_, RFs.thin hF k xs us (by unfold noC at n; exact n) h2⟩
    rcases h1 with (h1 | ⟨o, h1⟩) | h1
    · exact .inl (.inl (k _ _ h1 (.inr trivial) fun _ z => nomatch z))
    · exact .inl (.inr ⟨o, k _ _ h1 (.inr trivial) fun _ z => by cases z⟩)
    · exact .inr h1
  | .lst xs, _, n, h => by
    unfold RF at h ⊢
    obtain ⟨a, us, e, h1, h2⟩ := h
    refine ⟨a, us, e, ?_, RFs.thin hF k xs us (by unfold noC at n; exact n) h2⟩
    rcases h1 with ⟨f, h1 | ⟨o, h1⟩⟩ | h1
    · exact .inl ⟨hF _ _ f h1 (fun _ z => nomatch z), .inl (k _ _ h1 (.inl f) fun _ z => nomatch z)⟩
    · exact .inl ⟨hF _ _ f h1 (fun _ z => by cases z), .inr ⟨o, k _ _ h1 (.inl f) fun _ z => by cases z⟩⟩
    · exact .inr h1
  | .dct ks vs, _, n, h => by
    unfold RF at h ⊢
    unfold noC at n
    obtain ⟨n1, n2⟩ := Bool.and_eq_true_iff.mp n
    obtain ⟨a, xs, us, e, f, d, kk, r1, r2, r3⟩ := h
    have d2 : DcA c H' a xs := d.ext fun o q => by
      obtain ⟨_, _, _, ob, es, ep, e2, _⟩ := d
      refine k _ _ q (.inl f) fun _ z => ?_
      rw [e2] at q; cases q; cases z
    have fa : F' a := by
      obtain ⟨_, _, _, ob, es, ep, e2, _⟩ := d
      exact hF _ _ f e2 fun _ z => by cases z
    exact ⟨a, xs, us, e, fa, d2, kk, RFs.thin hF k ks _ n1 r1, RFs.thin hF k vs us n2 r2, r3⟩
  | .fn _, _, _, h => h
  | .ty _, _, _, h => h
  | .ins x ns vs, _, n, h => by
    unfold RF at h ⊢
    obtain ⟨a, C, dx, us, e, f, m, h1, l, r⟩ := h
    exact ⟨a, C, dx, us, e, hF _ _ f h1 (fun _ z => nomatch z), m, k _ _ h1 (.inl f) (fun _ z => nomatch z), l, RFs.thin hF k vs us (by unfold noC at n; exact n) r⟩
  | .err x ns vs, _, n, h => by
    unfold RF at h ⊢
    obtain ⟨a, C, dd, us, e, f, m, h1, l, r, q⟩ := h
    refine ⟨a, C, dd, us, e, hF _ _ f h1 (fun _ z => exo_frz z), m, k _ _ h1 (.inl f) (fun _ z => exo_frz z), l, RFs.thin hF k vs us (by unfold noC at n; exact n) r, q.imp id fun ⟨dx, e2, f2, h2⟩ => ?_⟩
    have tx : Thin (exd dx (ns.zip us)) := fun ob z => by
      have z' : HO.ext _ = HO.frz ob (.own 0) := z
      cases z'
    exact ⟨dx, e2, hF _ _ f2 h2 tx, k _ _ h2 (.inl f2) tx⟩
  | .clo _ _, _, n, _ => by unfold noC at n; cases n
theorem RFs.thin (hF : ∀ a o, F a → H a = some o → Thin o → F' a) (k : ∀ a o, H a = some o → (F a ∨ Stl o) → Thin o → H' a = some o) : ∀ (ps : List PV) (us : List V), noCs ps = true → RFs c F H ps us → RFs c F' H' ps us
  | [], _, _, h => h
  | x :: xs, _, n, h => by
    unfold RFs at h ⊢
    unfold noCs at n
    obtain ⟨n1, n2⟩ := Bool.and_eq_true_iff.mp n
    obtain ⟨u, r, e, h1, h2⟩ := h
    exact ⟨u, r, e, RF.thin hF k x u n1 h1, RFs.thin hF k xs r n2 h2⟩
end
theorem RO.thin (hF : ∀ a o, F a → H a = some o → Thin o → F' a) (k : ∀ a o, H a = some o → (F a ∨ Stl o) → Thin o → H' a = some o) {p : PV} {a : Addr} (ka : ∀ o, H a = some o → Thin o → H' a = some o) (n : noC p = true) (h : RO c F H p a) : RO c F' H' p a := by
  cases p with
  | lst xs => obtain ⟨us, e, r⟩ := h; exact ⟨us, ka _ e (fun _ z => nomatch z), RFs.thin hF k _ _ (by unfold noC at n; exact n) r⟩
  | dct ks vs =>
    obtain ⟨xs, us, d, kk, r1, r2, r3⟩ := h
    unfold noC at n
    obtain ⟨n1, n2⟩ := Bool.and_eq_true_iff.mp n
    have d2 : DcA c H' a xs := d.ext fun o q => by
      obtain ⟨_, _, _, ob, es, ep, e2, _⟩ := d
      refine ka _ q fun _ z => ?_
      rw [e2] at q; cases q; cases z
    exact ⟨xs, us, d2, kk, RFs.thin hF k _ _ n1 r1, RFs.thin hF k _ _ n2 r2, r3⟩
  | ins x ns vs => obtain ⟨C, dx, us, m, e, l, r⟩ := h; exact ⟨C, dx, us, m, ka _ e (fun _ z => nomatch z), l, RFs.thin hF k _ _ (by unfold noC at n; exact n) r⟩
  | _ => exact h
theorem RO.ext (hF : ∀ a, F a → F' a) (k : ∀ a o, H a = some o → (F a ∨ Stl o) → H' a = some o) {p : PV} {a : Addr} (ka : ∀ o, H a = some o → H' a = some o) (h : RO c F H p a) : RO c F' H' p a := by
  cases p with
  | lst xs => obtain ⟨us, e, r⟩ := h; exact ⟨us, ka _ e, RFs.ext hF k _ _ r⟩
  | dct ks vs =>
    obtain ⟨xs, us, d, kk, r1, r2, r3⟩ := h
    exact ⟨xs, us, d.ext ka, kk, RFs.ext hF k _ _ r1, RFs.ext hF k _ _ r2, r3⟩
  | ins x ns vs => obtain ⟨C, dx, us, m, e, l, r⟩ := h; exact ⟨C, dx, us, m, ka _ e, l, RFs.ext hF k _ _ r⟩
  | _ => exact h
theorem RO.there {p : PV} {a : Addr} (h : RO c F H p a) : ∃ o, H a = some o ∧ ¬ Stl o := by
  cases p with
  | lst xs => obtain ⟨us, e, r⟩ := h; exact ⟨_, e, fun z => z⟩
  | dct ks vs => obtain ⟨xs, us, ⟨_, _, _, ob, es, ep, e, _⟩, _⟩ := h; exact ⟨_, e, fun z => z⟩
  | ins x ns vs => obtain ⟨C, dx, us, m, e, l, r⟩ := h; exact ⟨_, e, fun z => z⟩
  | _ => exact h.elim
def NoT (o : HO) : Prop := ∀ ps, o ≠ .tbl ps
theorem Stl.noT {o : HO} (h : Stl o) : NoT o := fun ps z => by subst z; exact h
theorem RO.noT {p : PV} {a : Addr} {o : HO} (h : RO c F H p a) (e : H a = some o) : NoT o := by
  cases p with
  | lst xs => obtain ⟨us, e2, r⟩ := h; rw [e2] at e; cases e; exact fun _ z => nomatch z
  | dct ks vs => obtain ⟨xs, us, ⟨_, _, _, ob, es, ep, e2, _⟩, _⟩ := h; rw [e2] at e; cases e; exact fun _ z => by cases z
  | ins x ns vs => obtain ⟨C, dx, us, m, e2, l, r⟩ := h; rw [e2] at e; cases e; exact fun _ z => nomatch z
  | _ => exact h.elim
theorem RFs.length : ∀ {ps : List PV} {us : List V}, RFs c F H ps us → ps.length = us.length
  | [], _, h => by unfold RFs at h; subst h; rfl
  | x :: xs, _, h => by
    unfold RFs at h
    obtain ⟨u, r, rfl, _, h2⟩ := h
    simp [RFs.length h2]
theorem RFs.nil_ : RFs c F H [] [] := by unfold RFs; rfl
theorem RFs.cons_ {p : PV} {v : V} {ps : List PV} {us : List V} (h : RF c F H p v) (r : RFs c F H ps us) : RFs c F H (p :: ps) (v :: us) := by
  rw [RFs]; exact ⟨v, us, rfl, h, r⟩
theorem RFs.get : ∀ {ps : List PV} {us : List V} {i : Nat} {p : PV}, RFs c F H ps us → ps[i]? = some p → ∃ u, us[i]? = some u ∧ RF c F H p u
  | [], _, _, _, _, e => by simp at e
  | x :: xs, _, 0, p, h, e => by
    unfold RFs at h
    obtain ⟨u, r, rfl, h1, h2⟩ := h
    simp at e; subst e
    exact ⟨u, rfl, h1⟩
  | x :: xs, _, i + 1, p, h, e => by
    unfold RFs at h
    obtain ⟨u, r, rfl, h1, h2⟩ := h
    obtain ⟨w, e2, h3⟩ := RFs.get (i := i) h2 (by simpa using e)
    exact ⟨w, by simpa using e2, h3⟩
theorem RFs.getR : ∀ {ps : List PV} {us : List V} {i : Nat} {u : V}, RFs c F H ps us → us[i]? = some u → ∃ p, ps[i]? = some p ∧ RF c F H p u
  | [], _, _, _, h, e => by unfold RFs at h; subst h; simp at e
  | x :: xs, _, 0, p, h, e => by
    unfold RFs at h
    obtain ⟨u, r, rfl, h1, h2⟩ := h
    simp at e; subst e
    exact ⟨x, rfl, h1⟩
  | x :: xs, _, i + 1, p, h, e => by
    unfold RFs at h
    obtain ⟨u, r, rfl, h1, h2⟩ := h
    obtain ⟨w, e2, h3⟩ := RFs.getR (i := i) h2 (by simpa using e)
    exact ⟨w, by simpa using e2, h3⟩
theorem RFs.append : ∀ {ps qs : List PV} {us ws : List V}, RFs c F H ps us → RFs c F H qs ws → RFs c F H (ps ++ qs) (us ++ ws)
  | [], _, _, _, h, g => by unfold RFs at h; subst h; simpa using g
  | x :: xs, _, _, _, h, g => by
    unfold RFs at h
    obtain ⟨u, r, rfl, h1, h2⟩ := h
    exact RFs.cons_ h1 (RFs.append h2 g)
theorem RFs.set : ∀ {ps : List PV} {us : List V} (i : Nat) {p : PV} {u : V}, RFs c F H ps us → RF c F H p u → RFs c F H (ps.set i p) (us.set i u)
  | [], _, _, _, _, h, _ => by unfold RFs at h; subst h; simpa using RFs.nil_
  | x :: xs, _, 0, _, _, h, g => by
    unfold RFs at h
    obtain ⟨u, r, rfl, h1, h2⟩ := h
    exact RFs.cons_ g h2
  | x :: xs, _, i + 1, _, _, h, g => by
    unfold RFs at h
    obtain ⟨u, r, rfl, h1, h2⟩ := h
    exact RFs.cons_ h1 (RFs.set i h2 g)
theorem RFs.take : ∀ {ps : List PV} {us : List V} (n : Nat), RFs c F H ps us → RFs c F H (ps.take n) (us.take n)
  | _, _, 0, _ => by simpa using RFs.nil_
  | [], _, _ + 1, h => by unfold RFs at h; subst h; simpa using RFs.nil_
  | x :: xs, _, n + 1, h => by
    unfold RFs at h
    obtain ⟨u, r, rfl, h1, h2⟩ := h
    exact RFs.cons_ h1 (RFs.take n h2)
theorem RFs.drop : ∀ {ps : List PV} {us : List V} (n : Nat), RFs c F H ps us → RFs c F H (ps.drop n) (us.drop n)
  | _, _, 0, h => h
  | [], _, _ + 1, h => by unfold RFs at h; subst h; simpa using RFs.nil_
  | x :: xs, _, n + 1, h => by
    unfold RFs at h
    obtain ⟨u, r, rfl, h1, h2⟩ := h
    exact RFs.drop n h2
theorem RFs.reverse : ∀ {ps : List PV} {us : List V}, RFs c F H ps us → RFs c F H ps.reverse us.reverse
  | [], _, h => by unfold RFs at h; subst h; simpa using RFs.nil_
  | x :: xs, _, h => by
    unfold RFs at h
    obtain ⟨u, r, rfl, h1, h2⟩ := h
    rw [List.reverse_cons, List.reverse_cons]
    exact RFs.append (RFs.reverse h2) (RFs.cons_ h1 RFs.nil_)
theorem RFs.ints : ∀ (ns : List Int), RFs c F H (ns.map PV.int) (ns.map V.int)
  | [] => RFs.nil_
  | n :: ns => RFs.cons_ (by unfold RF; rfl) (RFs.ints ns)
end
end L2.Zz

/-! Z2: the state, its steps, readings by values. -/
namespace L2.Zz
open PySem PySem.Spec PyProof.Rows
variable {LT : LTab}

/-- a slot: whether what it holds may still be written, what it holds -/
inductive Sl where
  | own (v : PV)
  | frz (v : PV)
  | lo (k : Nat)
  | clos (ks : List Nat)
/-- the slots, the loans (lists of the caller's that are written in place) -/
structure PSt where
  sl : List (Option Sl)
  ln : List PV
/-- an exception: its class, what it holds -/
structure Exn where
  cls : Str
  ns : List Str
  vs : List PV
inductive Rs (α : Type) where
  | ok (a : α) (s : PSt)
  | ex (e : Exn) (s : PSt)
  | no
def Rs.bind {α β : Type} (o : Rs α) (k : α → PSt → Rs β) : Rs β := match o with
  | .ok a s => k a s
  | .ex e s => .ex e s
  | .no => .no
/-- an expression's value: by itself (own: new, still to be written), or what stands in a slot -/
inductive EVal where
  | val (v : PV)
  | new (v : PV)
  | at (i : Nat)
  | lo (k : Nat)
  | clo (k : Nat)
  | clos (ks : List Nat)
abbrev DE := PSt → Rs EVal

/-- what may be written by its slot -/
def Ow (σ : PSt) (σr : St) (la : List Addr) (a : Addr) : Prop := a ∈ la ∨ ∃ (i : Nat) (v : PV), σ.sl[i]? = some (some (.own v)) ∧ σr[i]? = some (some (V.ref a))

/-- a table of code objects: each that it tells bears the name q -/
def TabZ (H : Hp) (P : Addr) (q : Str) : Prop := ∃ ps : Array Value, H P = some (.tbl ps) ∧ TriplesOk ps.toList ∧ ∀ (pos : Pos) (cv : Value), codeAmong pos ps.toList = some cv → ∃ c', cv = .ref c' ∧ CodeZ H c' q
def TabsZ (T : List (Addr × Str)) (H : Hp) : Prop := ∀ p ∈ T, TabZ H p.1 p.2
theorem TabZ.ext {H H' : Hp} {P : Addr} {q : Str} (t : TabZ H P q) (e : ∀ b o, H b = some o → Stl o → H' b = some o) (e2 : ∀ ps, H P = some (.tbl ps) → H' P = some (.tbl ps)) : TabZ H' P q := by
  obtain ⟨ps, h1, h2, h3⟩ := t
  refine ⟨ps, e2 _ h1, h2, fun pos cv hc => ?_⟩
  obtain ⟨c', e1, h4⟩ := h3 pos cv hc
  exact ⟨c', e1, h4.ext e⟩
theorem TabsZ.ext {T : List (Addr × Str)} {H H' : Hp} (t : TabsZ T H) (e : ∀ b o, H b = some o → (Stl o ∨ ∃ ps, o = .tbl ps) → H' b = some o) : TabsZ T H' := fun p hp => (t p hp).ext (fun b o h s => e b o h (.inl s)) fun ps h => e _ _ h (.inr ⟨ps, rfl⟩)
/-- a lambda of this frame's: what it captures lies in the frame's cells -/
def OwnZ (c : Cn) (H : Hp) (k : Nat) (v : V) : Prop := ∃ (f : Addr) (L : LamD) (cl : List (Str × Addr)), v = .ref f ∧ c.LT.lam k = some L ∧ FnZ c H L f cl ∧ (∀ y a, cl.lookup y = some a → c.ce.lookup y = some a) ∧ (∀ y a, cl.lookup y = some a → y ∈ L.caps) ∧ ∀ y ∈ L.caps, ∃ a, cl.lookup y = some a
inductive OwnsZ (c : Cn) (H : Hp) : List Nat → List V → Prop
  | nil : OwnsZ c H [] []
  | cons {k ks v vs} : OwnZ c H k v → OwnsZ c H ks vs → OwnsZ c H (k :: ks) (v :: vs)
theorem OwnZ.ext {c : Cn} {H H' : Hp} {k : Nat} {v : V} (h : OwnZ c H k v) (e : ∀ b o, H b = some o → Stl o → H' b = some o) : OwnZ c H' k v :=
  let ⟨f, L, cl, e1, l, fz, r⟩ := h; ⟨f, L, cl, e1, l, fz.ext e, r⟩
theorem OwnsZ.ext {c : Cn} {H H' : Hp} {ks : List Nat} {vs : List V} (h : OwnsZ c H ks vs) (e : ∀ b o, H b = some o → Stl o → H' b = some o) : OwnsZ c H' ks vs := by
  induction h with
  | nil => exact .nil
  | cons h1 _ ih => exact .cons (h1.ext e) ih
/-- a list of such -/
def ClosZ (c : Cn) (F : Addr → Prop) (H : Hp) (ks : List Nat) (v : V) : Prop := ∃ a us, v = .ref a ∧ FrL c F H a us ∧ OwnsZ c H ks us
theorem ClosZ.ext {c : Cn} {F F' : Addr → Prop} {H H' : Hp} {ks : List Nat} {v : V} (hF : ∀ a, F a → F' a) (k : ∀ a o, H a = some o → (F a ∨ Stl o) → H' a = some o) (h : ClosZ c F H ks v) : ClosZ c F' H' ks v :=
  let ⟨a, us, e, l, o⟩ := h; ⟨a, us, e, l.ext hF k, o.ext fun b u e s => k b u e (.inr s)⟩

structure SR (c : Cn) (F : Addr → Prop) (la : List Addr) (σ : PSt) (σr : St) (H : Hp) : Prop where
  len : σ.sl.length = σr.length
  frz : ∀ (i : Nat) (v : PV), σ.sl[i]? = some (some (.frz v)) → ∃ u : V, σr[i]? = some (some u) ∧ RF c F H v u
  lo : ∀ (i k : Nat), σ.sl[i]? = some (some (.lo k)) → ∃ a : Addr, σr[i]? = some (some (V.ref a)) ∧ la[k]? = some a
  own : ∀ (i : Nat) (v : PV), σ.sl[i]? = some (some (.own v)) → ∃ a : Addr, σr[i]? = some (some (V.ref a)) ∧ RO c F H v a ∧ ¬ F a ∧ a ∉ la
  inj : ∀ (i j : Nat) (v w : PV) (a : Addr), σ.sl[i]? = some (some (.own v)) → σ.sl[j]? = some (some (.own w)) → σr[i]? = some (some (V.ref a)) → σr[j]? = some (some (V.ref a)) → i = j
  lln : la.length = σ.ln.length
  lnd : la.Nodup
  ln : ∀ (k : Nat) (v : PV) (a : Addr), σ.ln[k]? = some v → la[k]? = some a → RO c F H v a ∧ ¬ F a
  ftr : ∀ a, F a → ∃ o, H a = some o ∧ NoT o
  clo : ∀ (i : Nat) (ks : List Nat), σ.sl[i]? = some (some (.clos ks)) → ∃ u : V, σr[i]? = some (some u) ∧ ClosZ c F H ks u
  tabs : TabsZ c.LT.T H

/-- a ghost state: what stands still, the heap, what may be written -/
structure Gh where
  F : Addr → Prop
  H : Hp
  O : Addr → Prop
structure Ex (g g' : Gh) : Prop where
  fr : ∀ a, g.F a → g'.F a
  kp : ∀ a o, g.H a = some o → ¬ g.O a → (∀ ps, o ≠ .tbl ps) → g'.H a = some o
  tb : ∀ a ps, g.H a = some (.tbl ps) → ∃ qs, g'.H a = some (.tbl qs)
  ow : ∀ a, g'.O a → g.O a ∨ g.H a = none
  fn : ∀ a, g'.F a → g.F a ∨ g.O a ∨ g.H a = none
theorem Ex.refl (g : Gh) : Ex g g := ⟨fun _ h => h, fun _ _ h _ _ => h, fun _ ps h => ⟨ps, h⟩, fun _ h => .inl h, fun _ h => .inl h⟩
/-- new since g, or written by a slot at g -/
def Nw (g : Gh) (a : Addr) : Prop := g.O a ∨ g.H a = none
theorem Ex.back {g g1 : Gh} (x : Ex g g1) {a : Addr} (h : Nw g1 a) : Nw g a := by
  rcases h with h | h
  · exact x.ow a h
  · by_cases ho : g.O a
    · exact .inl ho
    · cases e : g.H a with
      | none => exact .inr e
      | some o =>
        by_cases ht : ∃ ps, o = .tbl ps
        · obtain ⟨ps, rfl⟩ := ht
          obtain ⟨qs, z⟩ := x.tb a ps e
          rw [z] at h; cases h
        · rw [x.kp a o e ho fun ps z => ht ⟨ps, z⟩] at h; cases h
theorem Ex.trans {g g1 g2 : Gh} (x : Ex g g1) (y : Ex g1 g2) : Ex g g2 := by
  refine ⟨fun a h => y.fr a (x.fr a h), fun a o h n nt => y.kp a o (x.kp a o h n nt) (fun z => ?_) nt, fun a ps h => ?_, fun a h => x.back (y.ow a h), fun a h => ?_⟩
  · rcases x.ow a z with z | z
    · exact n z
    · rw [h] at z; cases z
  · obtain ⟨qs, e⟩ := x.tb a ps h
    exact y.tb a qs e
  · rcases y.fn a h with z | z
    · exact x.fn a z
    · exact .inr (x.back z)

section
variable {c : Cn} {F F' : Addr → Prop} {la : List Addr} {σ σ' : PSt} {σr σr' : St} {H H' : Hp}
theorem SR.ow_there (S : SR c F la σ σr H) {a : Addr} (h : Ow σ σr la a) : (∃ o, H a = some o ∧ ¬ Stl o) ∧ ¬ F a := by
  rcases h with h | ⟨i, v, h1, h2⟩
  · obtain ⟨k, hk, e⟩ := List.mem_iff_getElem.mp h
    have hk' : la[k]? = some a := by rw [List.getElem?_eq_getElem hk, e]
    have hl : k < σ.ln.length := by rw [← S.lln]; exact hk
    obtain ⟨r, n⟩ := S.ln k σ.ln[k] a (List.getElem?_eq_getElem hl) hk'
    exact ⟨r.there, n⟩
  · obtain ⟨b, e, r, n, _⟩ := S.own i v h1
    rw [h2] at e; cases e
    exact ⟨r.there, n⟩
/-- what stands still stays -/
theorem Ex.keep (S : SR c F la σ σr H) {g' : Gh} (x : Ex ⟨F, H, Ow σ σr la⟩ g') : ∀ a o, H a = some o → (F a ∨ Stl o) → g'.H a = some o := fun a o e h => by
  have nt : NoT o := by
    rcases h with h | h
    · obtain ⟨o', e', n⟩ := S.ftr a h
      rw [e] at e'; cases e'
      exact n
    · exact h.noT
  refine x.kp a o e (fun z => ?_) nt
  obtain ⟨⟨o', e', n⟩, nf⟩ := S.ow_there z
  rw [e] at e'; cases e'
  rcases h with h | h
  · exact nf h
  · exact n h
/-- an expression's value -/
def ER (c : Cn) (F : Addr → Prop) (la : List Addr) (O N : Addr → Prop) (σr : St) (H : Hp) (r : EVal) (v : V) : Prop := match r with
  | .val p => RF c F H p v
  | .new p => ∃ a, v = .ref a ∧ RO c F H p a ∧ ¬ F a ∧ ¬ O a ∧ N a
  | .at i => σr[i]? = some (some v)
  | .lo k => ∃ a, v = .ref a ∧ la[k]? = some a
  | .clo k => OwnZ c H k v
  | .clos ks => ClosZ c F H ks v
theorem ER.ext (S : SR c F la σ σr H) {O' N : Addr → Prop} (x : Ex ⟨F, H, Ow σ σr la⟩ ⟨F', H', O'⟩) {r : EVal} {v : V} (h : ER c F la (Ow σ σr la) N σr H r v) : ER c F' la O' N σr H' r v := by
  have k := Ex.keep S x
  cases r with
  | «at» i => exact h
  | lo j => exact h
  | clo j => exact OwnZ.ext h fun b o e s => k b o e (.inr s)
  | clos j => exact ClosZ.ext x.fr k h
  | val p => exact RF.ext x.fr k _ _ h
  | new p =>
    obtain ⟨a, e, r, nf, no, nn⟩ := h
    obtain ⟨o, ho, _⟩ := r.there
    refine ⟨a, e, r.ext x.fr k fun o e => x.kp a o e no (r.noT e), fun z => ?_, fun z => ?_, nn⟩
    · rcases x.fn a z with z | z | z
      · exact nf z
      · exact no z
      · have z' : H a = none := z
        rw [ho] at z'; cases z'
    · rcases x.ow a z with z | z
      · exact no z
      · have z' : H a = none := z
        rw [ho] at z'; cases z'

/-- what an exception holds: nothing, or its dict the fields -/
def XF (c : Cn) (F : Addr → Prop) (H : Hp) (e : Exn) (dd : Option Addr) : Prop := (e.ns = [] ∧ e.vs = [] ∧ dd = none) ∨ ∃ d us, dd = some d ∧ e.ns.length = us.length ∧ RFs c F H e.vs us ∧ H d = some (.xd (e.ns.zip us))
/-- all ends of an outcome are well -/
def Fin {α : Type} (c : Cn) (W : WX) (la : List Addr) (σr : St) (g : Gh) (o : Rs α) (P : α → PSt → (Addr → Prop) → Hp → Prop) : Prop := match o with
  | .ok r σ' => ∀ F' H', Ex g ⟨F', H', Ow σ' σr la⟩ → SR c F' la σ' σr H' → P r σ' F' H'
  | .ex e σ' => ∀ F' H' cls dd, Ex g ⟨F', H', Ow σ' σr la⟩ → SR c F' la σ' σr H' → (∃ C, cls = .ref C ∧ c.mg e.cls = some (.ref C)) → XF c F' H' e dd → W cls dd σr H'
  | .no => False
theorem Fin.step {α : Type} {W : WX} {g g' : Gh} {o : Rs α} {P : α → PSt → (Addr → Prop) → Hp → Prop} (h : Fin c W la σr g o P) (x : Ex g g') : Fin c W la σr g' o P := by
  cases o with
  | ok r σ' => exact fun F' H' y s => h F' H' (x.trans y) s
  | ex e σ' => exact fun F' H' cls dd y s => h F' H' cls dd (x.trans y) s
  | no => exact h
theorem Fin.mono {α : Type} {W : WX} {g : Gh} {o : Rs α} {P P' : α → PSt → (Addr → Prop) → Hp → Prop} (h : Fin c W la σr g o P) (m : ∀ r σ' F' H', Ex g ⟨F', H', Ow σ' σr la⟩ → SR c F' la σ' σr H' → P r σ' F' H' → P' r σ' F' H') : Fin c W la σr g o P' := by
  cases o with
  | ok r σ' => exact fun F' H' y s => m _ _ _ _ y s (h F' H' y s)
  | ex e σ' => exact h
  | no => exact h
/-- one part, then the rest -/
theorem Fin.bind {α β : Type} {W : WX} {g : Gh} {o : Rs α} {k : α → PSt → Rs β} {P : β → PSt → (Addr → Prop) → Hp → Prop} (h : Fin c W la σr g (o.bind k) P) :
    Fin c W la σr g o fun r σ' _ _ => Fin c W la σr g (k r σ') P := by
  cases o with
  | ok r σ' => exact fun F' H' y s => h
  | ex e σ' => exact h
  | no => exact h

abbrev PE0 (c : Cn) (la : List Addr) (σr : St) (g : Gh) (Q : VK) : EVal → PSt → (Addr → Prop) → Hp → Prop := fun r σ' F' H' => ∀ v, ER c F' la (Ow σ' σr la) (Nw g) σr H' r v → Q v H'
/-- the reading of an expression by its denotation -/
def EV (c : Cn) (W : WX) (d : DE) : TE := fun σr H Q => ∃ F la σ, SR c F la σ σr H ∧ Fin c W la σr ⟨F, H, Ow σ σr la⟩ (d σ) (PE0 c la σr ⟨F, H, Ow σ σr la⟩ Q)
abbrev DT := PSt → Rs Bool
def EVT (c : Cn) (W : WX) (d : DT) : TT := fun σr H Q => ∃ F la σ, SR c F la σ σr H ∧ Fin c W la σr ⟨F, H, Ow σ σr la⟩ (d σ) fun b _ _ H' => Q b H'
abbrev DA := PSt → Rs (List EVal)
/-- none of these is new at a -/
def NoNew (a : Addr) (rs : List EVal) (vs : List V) : Prop := ∀ (i : Nat) (p : PV) (v : V), rs[i]? = some (.new p) → vs[i]? = some v → v ≠ V.ref a
inductive ERs (c : Cn) (F : Addr → Prop) (la : List Addr) (O N : Addr → Prop) (σr : St) (H : Hp) : List EVal → List V → Prop
  | nil : ERs c F la O N σr H [] []
  | cons {r v rs vs} : ER c F la O N σr H r v → ERs c F la O N σr H rs vs → (∀ a p, r = .new p → v = V.ref a → NoNew a rs vs) → ERs c F la O N σr H (r :: rs) (v :: vs)
def EVA (c : Cn) (W : WX) (d : DA) : TA := fun σr H Q => ∃ F la σ, SR c F la σ σr H ∧ Fin c W la σr ⟨F, H, Ow σ σr la⟩ (d σ) fun rs σ' F' H' => ∀ vs, ERs c F' la (Ow σ' σr la) (Nw ⟨F, H, Ow σ σr la⟩) σr H' rs vs → Q vs H'
end

theorem PE.wk {X : Cx} {e : Expr} {t t' : TE} (h : PE X e t) (w : ∀ σ H Q, t' σ H Q → t σ H Q) : PE X e t' := ⟨fun pins s σ H Q I q => h.run pins s σ H Q I (w _ _ _ q)⟩
theorem PT.wk {X : Cx} {e : Expr} {t t' : TT} (h : PT X e t) (w : ∀ σ H Q, t' σ H Q → t σ H Q) : PT X e t' := ⟨fun pins s σ H Q I q => h.run pins s σ H Q I (w _ _ _ q)⟩
theorem PW.wk {X : Cx} {e : Expr} {t t' : TT} (h : PW X e t) (w : ∀ σ H Q, t' σ H Q → t σ H Q) : PW X e t' := ⟨fun wh pins s σ H Q I q => h.run wh pins s σ H Q I (w _ _ _ q)⟩
theorem PA.wk {X : Cx} {e : List Expr} {t t' : TA} (h : PA X e t) (w : ∀ σ H Q, t' σ H Q → t σ H Q) : PA X e t' := ⟨fun pos pins s σ H Q I q => h.run pos pins s σ H Q I (w _ _ _ q)⟩
theorem PS.wk {X : Cx} {e : Stmt} {t t' : TS} (h : PS X e t) (w : ∀ D σ H, t' D σ H → t D σ H) : PS X e t' := ⟨fun pins s σ H D I q => h.run pins s σ H D I (w _ _ _ q)⟩
theorem PSs.wk {X : Cx} {e : List Stmt} {t t' : TS} (h : PSs X e t) (w : ∀ D σ H, t' D σ H → t D σ H) : PSs X e t' := ⟨fun pins s σ H D I q => h.run pins s σ H D I (w _ _ _ q)⟩
theorem PI.wk {X : Cx} {tg e : Expr} {t t' : TI} (h : PI X tg e t) (w : ∀ σ H Q, t' σ H Q → t σ H Q) : PI X tg e t' := ⟨fun pins s σ H Q I q => h.run pins s σ H Q I (w _ _ _ q)⟩

section
variable {c : Cn} {W : WX}
theorem ER.weak {F : Addr → Prop} {la : List Addr} {O N N' : Addr → Prop} {σr : St} {H : Hp} {r : EVal} {v : V} (h : ER c F la O N σr H r v) (w : ∀ a, N a → N' a) : ER c F la O N' σr H r v := by
  cases r with
  | new p => obtain ⟨a, e, r, nf, no, nn⟩ := h; exact ⟨a, e, r, nf, no, w a nn⟩
  | _ => exact h
/-- the first part of a reading, and the rest from where it ends: g where the whole began -/
theorem EV.seq {α : Type} {d0 : DE} {k : EVal → PSt → Rs α} {g : Gh} {F : Addr → Prop} {la : List Addr} {σ : PSt} {σr : St} {H : Hp} {R : VK} {P : α → PSt → (Addr → Prop) → Hp → Prop} (S : SR c F la σ σr H) (x : Ex g ⟨F, H, Ow σ σr la⟩) (h : Fin c W la σr g ((d0 σ).bind k) P)
    (hk : ∀ F1 σ1 r v H1, Ex ⟨F, H, Ow σ σr la⟩ ⟨F1, H1, Ow σ1 σr la⟩ → SR c F1 la σ1 σr H1 → ER c F1 la (Ow σ1 σr la) (Nw ⟨F, H, Ow σ σr la⟩) σr H1 r v → Fin c W la σr g (k r σ1) P → R v H1) : EV c W d0 σr H R :=
  ⟨F, la, σ, S, (h.bind.step x).mono fun r σ' F' H' y S' q v e => hk F' σ' r v H' y S' e q⟩
end
end L2.Zz

/-! Z3: reading a value, letting it stand still, operators, arguments, built-in calls. -/
namespace L2.Zz
open PySem PySem.Spec PyProof.Rows
variable {LT : LTab}

/-- the value as it stands now -/
def rd (σ : PSt) : EVal → Option PV
  | .val v => some v
  | .new v => some v
  | .at i => match σ.sl[i]? with
    | some (some (.own v)) => some v
    | some (some (.frz v)) => some v
    | _ => none
  | .lo k => σ.ln[k]?
  | _ => none
def rdAll (σ : PSt) : List EVal → Option (List PV)
  | [] => some []
  | r :: rs => match rd σ r, rdAll σ rs with
    | some p, some ps => some (p :: ps)
    | _, _ => none
/-- the value, from now on standing still -/
def fz (r : EVal) (σ : PSt) : Rs PV := match r with
  | .val v => .ok v σ
  | .new v => .ok v σ
  | .at i => match σ.sl[i]? with
    | some (some (.own v)) => .ok v ⟨σ.sl.set i (some (.frz v)), σ.ln⟩
    | some (some (.frz v)) => .ok v σ
    | _ => .no
  | _ => .no

/-- what is read: standing still or not -/
def RW (c : Cn) (F : Addr → Prop) (H : Hp) (p : PV) (v : V) : Prop := RF c F H p v ∨ ∃ a, v = .ref a ∧ RO c F H p a

section
variable {c : Cn} {F F' : Addr → Prop} {la : List Addr} {σ σ' : PSt} {σr σr' : St} {H H' : Hp}
theorem rd_ok (S : SR c F la σ σr H) {O N : Addr → Prop} {r : EVal} {v : V} {p : PV} (h : ER c F la O N σr H r v) (e : rd σ r = some p) : RW c F H p v := by
  cases r with
  | val q => cases e; exact .inl h
  | new q => cases e; obtain ⟨a, e, r, _⟩ := h; exact .inr ⟨a, e, r⟩
  | «at» i =>
    have h' : σr[i]? = some (some v) := h
    rw [rd] at e
    cases q : σ.sl[i]? with
    | none => rw [q] at e; cases e
    | some t =>
      cases t with
      | none => rw [q] at e; cases e
      | some t =>
        rw [q] at e
        cases t with
        | own w =>
          cases e
          obtain ⟨a, e2, r, _⟩ := S.own i p q
          rw [h'] at e2; cases e2
          exact .inr ⟨a, rfl, r⟩
        | frz w =>
          cases e
          obtain ⟨u, e2, r⟩ := S.frz i p q
          rw [h'] at e2; cases e2
          exact .inl r
        | _ => cases e
  | lo k =>
    obtain ⟨a, rfl, hk⟩ := h
    exact .inr ⟨a, rfl, (S.ln k p a e hk).1⟩
  | _ => cases e
theorem RW.lst {xs : List PV} {v : V} (h : RW c F H (.lst xs) v) : ∃ a us, v = .ref a ∧ SqL c.K H a us ∧ RFs c F H xs us := by
  rcases h with h | ⟨a, e, us, h1, h2⟩
  · unfold RF at h
    obtain ⟨a, us, e, h1, h2⟩ := h
    refine ⟨a, us, e, ?_, h2⟩
    rcases h1 with ⟨_, h1⟩ | h1
    · exact .inl h1
    · exact .inr h1
  · exact ⟨a, us, e, SqL.of h1, h2⟩
theorem RW.tup {xs : List PV} {v : V} (h : RW c F H (.tup xs) v) : ∃ a us, v = .ref a ∧ SqT c.K H a us ∧ RFs c F H xs us := by
  rcases h with h | ⟨a, e, h⟩
  · unfold RF at h; exact h
  · exact h.elim
theorem RW.dct {ks vs : List PV} {v : V} (h : RW c F H (.dct ks vs) v) : ∃ a xs us, v = .ref a ∧ DcA c H a xs ∧ KsOk xs ks ∧ RFs c F H ks (xs.map fun x => V.ref x.2.1) ∧ RFs c F H vs us ∧ Vals us (xs.map (·.2.2)) := by
  rcases h with h | ⟨a, e, h⟩
  · unfold RF at h
    obtain ⟨a, xs, us, e, _, r⟩ := h
    exact ⟨a, xs, us, e, r⟩
  · obtain ⟨xs, us, r⟩ := h
    exact ⟨a, xs, us, e, r⟩
theorem RW.int {i : Int} {v : V} (h : RW c F H (.int i) v) : v = .int i := by
  rcases h with h | ⟨a, e, h⟩
  · unfold RF at h; exact h
  · exact h.elim
theorem RW.bl {i : Bool} {v : V} (h : RW c F H (.bl i) v) : v = .bl i := by
  rcases h with h | ⟨a, e, h⟩
  · unfold RF at h; exact h
  · exact h.elim
theorem RW.str {i : Str} {v : V} (h : RW c F H (.str i) v) : v = .str i := by
  rcases h with h | ⟨a, e, h⟩
  · unfold RF at h; exact h
  · exact h.elim
theorem RW.non {v : V} (h : RW c F H .non v) : v = .non := by
  rcases h with h | ⟨a, e, h⟩
  · unfold RF at h; exact h
  · exact h.elim
theorem RW.ty {n : String} {v : V} (h : RW c F H (.ty n) v) : v = .ty n := by
  rcases h with h | ⟨a, e, h⟩
  · unfold RF at h; exact h
  · exact h.elim
theorem RW.fn {x : Str} {v : V} (h : RW c F H (.fn x) v) : ∃ a, v = .ref a ∧ c.mg x = some (.ref a) := by
  rcases h with h | ⟨a, e, h⟩
  · unfold RF at h; exact h
  · exact h.elim
theorem RF.int_ {i : Int} : RF c F H (.int i) (.int i) := by unfold RF; rfl
theorem RF.bl_ {i : Bool} : RF c F H (.bl i) (.bl i) := by unfold RF; rfl
theorem RF.str_ {i : Str} : RF c F H (.str i) (.str i) := by unfold RF; rfl
theorem RF.non_ : RF c F H .non .non := by unfold RF; rfl

/-! ### new objects -/
theorem SR.keeps (S : SR c F la σ σr H) (k : ∀ a o, H a = some o → H' a = some o) : SR c F la σ σr H' :=
  ⟨S.len, fun i v e => let ⟨u, e1, r⟩ := S.frz i v e; ⟨u, e1, RF.ext (fun _ h => h) (fun a o e _ => k a o e) _ _ r⟩, S.lo,
    fun i v e => let ⟨a, e1, r, n, m⟩ := S.own i v e; ⟨a, e1, r.ext (fun _ h => h) (fun a o e _ => k a o e) (fun o e => k a o e), n, m⟩, S.inj, S.lln, S.lnd,
    fun j v a e e1 => let ⟨r, n⟩ := S.ln j v a e e1; ⟨r.ext (fun _ h => h) (fun a o e _ => k a o e) (fun o e => k a o e), n⟩, fun a f => let ⟨o, e, n⟩ := S.ftr a f; ⟨o, k a o e, n⟩,
    fun i v e => let ⟨u, e1, r⟩ := S.clo i v e; ⟨u, e1, r.ext (fun _ h => h) fun a o e _ => k a o e⟩, S.tabs.ext fun a o e _ => k a o e⟩
theorem Ex.keeps {O : Addr → Prop} (k : ∀ a o, H a = some o → H' a = some o) : Ex ⟨F, H, O⟩ ⟨F, H', O⟩ := ⟨fun _ h => h, fun a o e _ _ => k a o e, fun a ps e => ⟨ps, k a _ e⟩, fun _ h => .inl h, fun _ h => .inl h⟩
theorem upd_keeps {p : Addr} {o : HO} (n : H p = none) : ∀ a u, H a = some u → upd H p o a = some u := fun a u e => by
  rw [upd_ne (ne_of_none e n)]; exact e
theorem SR.fresh (S : SR c F la σ σr H) {p : Addr} (n : H p = none) : ¬ F p ∧ ¬ Ow σ σr la p := by
  refine ⟨fun z => ?_, fun z => ?_⟩
  · obtain ⟨o, e, _⟩ := S.ftr p z
    rw [n] at e; cases e
  · obtain ⟨⟨o, e, _⟩, _⟩ := S.ow_there z
    rw [n] at e; cases e

/-- an outcome by value: what was there, a new list, a new tuple -/
inductive Ot where
  | v (p : PV)
  | l (xs : List PV)
  | t (xs : List PV)
  | d (ks vs : List PV)
def Ot.ev : Ot → EVal
  | .v p => .val p
  | .l xs => .new (.lst xs)
  | .t xs => .val (.tup xs)
  | .d ks vs => .new (.dct ks vs)
def OtP (c : Cn) (F : Addr → Prop) (H : Hp) (o : Ot) (Q : VK) : Prop := match o with
  | .v p => ∀ u, RF c F H p u → Q u H
  | .l xs => ∀ p us, H p = none → RFs c F H xs us → Q (.ref p) (upd H p (.lst us))
  | .t xs => ∀ p us, H p = none → RFs c F H xs us → Q (.ref p) (upd H p (.tup us))
  | .d ks vs => ∀ p ob, H p = none → RO c F (upd H p ob) (.dct ks vs) p → Q (.ref p) (upd H p ob)
theorem ot_fin {W : WX} {g : Gh} {o : Ot} {Q : VK} (S : SR c F la σ σr H) (x : Ex g ⟨F, H, Ow σ σr la⟩) (f : Fin c W la σr g (.ok o.ev σ) (PE0 c la σr g Q)) : OtP c F H o Q := by
  cases o with
  | v p => exact fun u r => f F H x S u r
  | l xs =>
    intro p us n r
    have k := upd_keeps (o := .lst us) n
    obtain ⟨n1, n2⟩ := S.fresh n
    exact f F _ (x.trans (Ex.keeps k)) (S.keeps k) _ ⟨p, rfl, ⟨us, upd_same, RFs.ext (fun _ h => h) (fun a o e _ => k a o e) _ _ r⟩, n1, n2, x.back (.inr n)⟩
  | t xs =>
    intro p us n r
    have k := upd_keeps (o := .tup us) n
    refine f F _ (x.trans (Ex.keeps k)) (S.keeps k) _ ?_
    show RF _ _ _ (.tup xs) _
    unfold RF
    exact ⟨p, us, rfl, SqT.of upd_same, RFs.ext (fun _ h => h) (fun a o e _ => k a o e) _ _ r⟩
  | d ks vs =>
    intro p ob n r
    have k := upd_keeps (o := ob) n
    obtain ⟨n1, n2⟩ := S.fresh n
    exact f F _ (x.trans (Ex.keeps k)) (S.keeps k) _ ⟨p, rfl, r, n1, n2, x.back (.inr n)⟩

/-! ### standing still -/
theorem RO.still {p : PV} {a : Addr} (f : F a) (h : RO c F H p a) : RF c F H p (.ref a) := by
  cases p with
  | lst xs => obtain ⟨us, e, r⟩ := h; unfold RF; exact ⟨a, us, rfl, .inl ⟨f, .inl e⟩, r⟩
  | dct ks vs => obtain ⟨xs, us, r⟩ := h; unfold RF; exact ⟨a, xs, us, rfl, f, r⟩
  | ins x ns vs => obtain ⟨C, dx, us, m, e, r⟩ := h; unfold RF; exact ⟨a, C, dx, us, rfl, f, m, e, r⟩
  | _ => exact h.elim
theorem fz_ok {g : Gh} (S : SR c F la σ σr H) (x : Ex g ⟨F, H, Ow σ σr la⟩) {r : EVal} {v : V} {p : PV} (h : ER c F la (Ow σ σr la) (Nw g) σr H r v) (e : fz r σ = .ok p σ') :
    ∃ F', Ex g ⟨F', H, Ow σ' σr la⟩ ∧ SR c F' la σ' σr H ∧ RF c F' H p v ∧ ∀ a, F a → F' a := by
  have hF : ∀ a b, F b → (F b ∨ b = a) := fun _ b f => .inl f
  have kk : ∀ b o, H b = some o → (F b ∨ Stl o) → H b = some o := fun _ _ e _ => e
  cases r with
  | val q =>
    cases e
    exact ⟨F, x, S, h, fun _ f => f⟩
  | new q =>
    cases e
    obtain ⟨a, rfl, r, nf, no, nn⟩ := h
    refine ⟨fun b => F b ∨ b = a, ⟨fun b f => .inl (x.fr b f), x.kp, x.tb, x.ow, fun b z => ?_⟩, ⟨S.len, fun i v e => ?_, S.lo, fun i v e => ?_, S.inj, S.lln, S.lnd, fun j v b e e1 => ?_, fun b f => ?_, fun j ks e => ?_, S.tabs⟩, RO.still (.inr rfl) (r.ext (hF a) kk fun _ e => e), hF a⟩
    · rcases z with z | rfl
      · exact x.fn b z
      · exact .inr nn
    · obtain ⟨u, e1, r⟩ := S.frz i v e
      exact ⟨u, e1, RF.ext (hF a) kk _ _ r⟩
    · obtain ⟨b, e1, r, n, m⟩ := S.own i v e
      exact ⟨b, e1, r.ext (hF a) kk fun _ e => e, fun z => z.elim n fun z => no (by subst z; exact .inr ⟨i, v, e, e1⟩), m⟩
    · obtain ⟨r, n⟩ := S.ln j v b e e1
      exact ⟨r.ext (hF a) kk fun _ e => e, fun z => z.elim n fun z => no (by subst z; exact .inl (List.mem_of_getElem? e1))⟩
    · rcases f with f | rfl
      · exact S.ftr b f
      · obtain ⟨o, e, _⟩ := r.there; exact ⟨o, e, r.noT e⟩
    · obtain ⟨u, e1, r⟩ := S.clo j ks e
      exact ⟨u, e1, r.ext (hF a) kk⟩
  | «at» i =>
    have h' : σr[i]? = some (some v) := h
    rw [fz] at e
    cases q : σ.sl[i]? with
    | none => rw [q] at e; cases e
    | some t =>
      cases t with
      | none => rw [q] at e; cases e
      | some t =>
        rw [q] at e
        cases t with
        | own w =>
          cases e
          obtain ⟨a, e2, r, nf, nl⟩ := S.own i p q
          rw [h'] at e2; cases e2
          have hi : i < σ.sl.length := (List.getElem?_eq_some_iff.mp q).1
          have old : ∀ (j : Nat) (w : PV), (σ.sl.set i (some (.frz p)))[j]? = some (some (.own w)) → j ≠ i ∧ σ.sl[j]? = some (some (.own w)) := fun j w e => by
            by_cases hj : j = i
            · subst hj; rw [List.getElem?_set_self hi] at e; cases e
            · rw [List.getElem?_set_ne (Ne.symm hj)] at e; exact ⟨hj, e⟩
          have ow : ∀ b, Ow ⟨σ.sl.set i (some (.frz p)), σ.ln⟩ σr la b → Ow σ σr la b := fun b z => by
            rcases z with z | ⟨j, w, e1, e2⟩
            · exact .inl z
            · exact .inr ⟨j, w, (old j w e1).2, e2⟩
          refine ⟨fun b => F b ∨ b = a, ⟨fun b f => .inl (x.fr b f), x.kp, x.tb, fun b z => x.ow b (ow b z), fun b z => ?_⟩, ⟨by simpa using S.len, fun j v e => ?_, fun j k e => ?_, fun j v e => ?_, fun j j' v w b e1 e2 => ?_, S.lln, S.lnd, fun j v b e e1 => ?_, fun b f => ?_, fun j ks e => ?_, S.tabs⟩, RO.still (.inr rfl) (r.ext (hF a) kk fun _ e => e), hF a⟩
          · rcases z with z | rfl
            · exact x.fn b z
            · rcases x.ow b (.inr ⟨i, p, q, h'⟩) with z | z
              · exact .inr (.inl z)
              · exact .inr (.inr z)
          · by_cases hj : j = i
            · subst hj
              have e' : some (some (Sl.frz p)) = some (some (Sl.frz v)) := (List.getElem?_set_self hi).symm.trans e
              cases e'
              exact ⟨_, h', RO.still (.inr rfl) (r.ext (hF a) kk fun _ e => e)⟩
            · have e' : σ.sl[j]? = some (some (Sl.frz v)) := (List.getElem?_set_ne (Ne.symm hj)).symm.trans e
              obtain ⟨u, e1, r⟩ := S.frz j v e'
              exact ⟨u, e1, RF.ext (hF a) kk _ _ r⟩
          · by_cases hj : j = i
            · subst hj
              have e' : some (some (Sl.frz p)) = some (some (Sl.lo k)) := (List.getElem?_set_self hi).symm.trans e
              cases e'
            · exact S.lo j k ((List.getElem?_set_ne (Ne.symm hj)).symm.trans e)
          · obtain ⟨hj, e'⟩ := old j v e
            obtain ⟨b, e1, r, n, m⟩ := S.own j v e'
            refine ⟨b, e1, r.ext (hF a) kk fun _ e => e, fun z => z.elim n fun z => hj ?_, m⟩
            subst z
            exact S.inj j i v p b e' q e1 h'
          · exact S.inj j j' v w b (old j v e1).2 (old j' w e2).2
          · obtain ⟨r, n⟩ := S.ln j v b e e1
            exact ⟨r.ext (hF a) kk fun _ e => e, fun z => z.elim n fun z => nl (by subst z; exact List.mem_of_getElem? e1)⟩
          · rcases f with f | rfl
            · exact S.ftr b f
            · obtain ⟨o, e, _⟩ := r.there; exact ⟨o, e, r.noT e⟩
          · by_cases hj : j = i
            · subst hj
              have e' : some (some (Sl.frz p)) = some (some (Sl.clos ks)) := (List.getElem?_set_self hi).symm.trans e
              cases e'
            · obtain ⟨u, e1, r⟩ := S.clo j ks ((List.getElem?_set_ne (Ne.symm hj)).symm.trans e)
              exact ⟨u, e1, r.ext (hF a) kk⟩
        | frz w =>
          cases e
          obtain ⟨u, e2, r⟩ := S.frz i p q
          rw [h'] at e2; cases e2
          exact ⟨F, x, S, r, fun _ f => f⟩
        | _ => cases e
  | _ => cases e
end
end L2.Zz

/-! Z4: rules for expressions. -/
namespace L2.Zz
open PySem PySem.Spec PyProof.Rows
variable {LT : LTab} {ce : List (Str × Addr)}

/-! ### denotations -/
def dC (v : PV) : DE := fun σ => .ok (.val v) σ
def slV (i : Nat) (s : Sl) : EVal := match s with
  | .own _ => .at i
  | .frz v => .val v
  | .lo k => .lo k
  | .clos ks => .clos ks
def dVar (i : Nat) : DE := fun σ => match σ.sl[i]? with
  | some (some s) => .ok (slV i s) σ
  | _ => .no
def dFz (d : DE) : DE := fun σ => (d σ).bind fun r σ1 => (fz r σ1).bind fun p σ2 => .ok (.val p) σ2
def otR (o : Option Ot) (σ : PSt) : Rs EVal := match o with
  | some o => .ok o.ev σ
  | none => .no
def dOp1 (f : PV → Option Ot) (da : DE) : DE := fun σ => (da σ).bind fun ra σ1 => match rd σ1 ra with
  | some a => otR (f a) σ1
  | none => .no
def dOp2 (f : PV → PV → Option Ot) (da db : DE) : DE := fun σ => (da σ).bind fun ra σ1 => (db σ1).bind fun rb σ2 => match rd σ2 ra, rd σ2 rb with
  | some a, some b => otR (f a b) σ2
  | _, _ => .no
def dNil : DA := fun σ => .ok [] σ
def dCons (d : DE) (ds : DA) : DA := fun σ => (d σ).bind fun r σ1 => (ds σ1).bind fun rs σ2 => .ok (r :: rs) σ2
def dCB (f : List PV → Option Ot) (da : DA) : DE := fun σ => (da σ).bind fun rs σ1 => match rdAll σ1 rs with
  | some ps => otR (f ps) σ1
  | none => .no
/-- a value that is a bool, as a test -/
def dB (d : DE) : DT := fun σ => (d σ).bind fun r σ1 => match rd σ1 r with
  | some (.bl b) => .ok b σ1
  | _ => .no
def dNot (d : DT) : DT := fun σ => (d σ).bind fun b σ1 => .ok (!b) σ1
def dAnd (d e : DT) : DT := fun σ => (d σ).bind fun b σ1 => if b = true then e σ1 else .ok false σ1
def dOr (d e : DT) : DT := fun σ => (d σ).bind fun b σ1 => if b = true then .ok true σ1 else e σ1
/-- a test as a value -/
def dTV (d : DT) : DE := fun σ => (d σ).bind fun b σ1 => .ok (.val (.bl b)) σ1
def dIf (c : DT) (a b : DE) : DE := fun σ => (c σ).bind fun t σ1 => if t = true then a σ1 else b σ1

theorem ER.bl_ {c : Cn} {F : Addr → Prop} {la : List Addr} {O N : Addr → Prop} {σr : St} {H : Hp} {b : Bool} : ER c F la O N σr H (.val (.bl b)) (.bl b) := by
  show RF c F H (.bl b) (.bl b)
  exact RF.bl_
/-! ### what an operation does with values -/
def Op1 (c : Cn) (r : V → Hp → VK → Prop) (f : PV → Option Ot) : Prop := ∀ F H a o va Q, RW c F H a va → f a = some o → OtP c F H o Q → r va H Q
def Op2 (c : Cn) (r : R2) (f : PV → PV → Option Ot) : Prop := ∀ F H a b o va vb Q, RW c F H a va → RW c F H b vb → f a b = some o → OtP c F H o Q → r va vb H Q
inductive RWs (c : Cn) (F : Addr → Prop) (H : Hp) : List PV → List V → Prop
  | nil : RWs c F H [] []
  | cons {p v ps vs} : RW c F H p v → RWs c F H ps vs → RWs c F H (p :: ps) (v :: vs)
def OpN (c : Cn) (r : List V → Hp → VK → Prop) (f : List PV → Option Ot) : Prop := ∀ F H ps o vs Q, RWs c F H ps vs → f ps = some o → OtP c F H o Q → r vs H Q

section
variable {X : Cx} {W : WX} {e a b : Expr} {d da db : DE} {pos : Pos}
theorem EV.start {c : Cn} {d : DE} {σr : St} {H : Hp} {Q : VK} (h : EV c W d σr H Q) : ∃ F la σ, SR c F la σ σr H ∧ Ex ⟨F, H, Ow σ σr la⟩ ⟨F, H, Ow σ σr la⟩ ∧ Fin c W la σr ⟨F, H, Ow σ σr la⟩ (d σ) (PE0 c la σr ⟨F, H, Ow σ σr la⟩ Q) :=
  let ⟨F, la, σ, S, f⟩ := h; ⟨F, la, σ, S, Ex.refl _, f⟩

theorem otR_fin {c : Cn} {F : Addr → Prop} {la : List Addr} {σ : PSt} {σr : St} {H : Hp} {g : Gh} {fo : Option Ot} {Q : VK} (S : SR c F la σ σr H) (x : Ex g ⟨F, H, Ow σ σr la⟩) (f : Fin c W la σr g (otR fo σ) (PE0 c la σr g Q)) : ∃ o, fo = some o ∧ OtP c F H o Q := by
  cases fo with
  | none => exact f.elim
  | some o => exact ⟨o, rfl, ot_fin S x f⟩
theorem z_C {v : V} {p : PV} (h : PE X e (tC v)) (r : ∀ F H, RF (cnE LT X ce) F H p v) : PE X e (EV (cnE LT X ce) W (dC p)) := PE.wk h fun σr H Q q => by
  obtain ⟨F, la, σ, S, f⟩ := q
  exact f F H (Ex.refl _) S v (r F H)
theorem z_int {i j} : PE X (.Constant (.int i) j pos) (EV (cnE LT X ce) W (dC (.int i))) := z_C pe_int fun _ _ => RF.int_
theorem z_bl {i j} : PE X (.Constant (.bool i) j pos) (EV (cnE LT X ce) W (dC (.bl i))) := z_C pe_bl fun _ _ => RF.bl_
theorem z_non {j} : PE X (.Constant .none j pos) (EV (cnE LT X ce) W (dC .non)) := z_C pe_non fun _ _ => RF.non_
theorem z_str {i j} : PE X (.Constant (.str i) j pos) (EV (cnE LT X ce) W (dC (.str i))) := z_C pe_str fun _ _ => RF.str_
/-- a def or a class of the text -/
theorem z_fn {x : Str} {f : Addr} (hg : Gl X x) (hm : X.mg x = some (.ref f)) (hd : (x == ("__debug__" : Str)) = false := by decide) : PE X (.Name x pos) (EV (cnE LT X ce) W (dC (.fn x))) :=
  z_C (pe_glob hg hm (v := .ref f) rfl hd) fun _ _ => by unfold RF; exact ⟨f, rfl, hm⟩
/-- a module's whole number -/
theorem z_glob {x : Str} {i : Int} {t : Tok} (hg : Gl X x) (hm : X.mg x = some (.int i t)) (hd : (x == ("__debug__" : Str)) = false := by decide) : PE X (.Name x pos) (EV (cnE LT X ce) W (dC (.int i))) :=
  z_C (pe_glob hg hm (v := .int i) ⟨_, rfl⟩ hd) fun _ _ => RF.int_
theorem z_ty {x : Str} {n : String} (hg : Gl X x) (hm : X.mg x = none) (hv : bootBuiltins x = some (.type n)) (hn : x ≠ "__name__" := by decide) (hd : (x == ("__debug__" : Str)) = false := by decide) : PE X (.Name x pos) (EV (cnE LT X ce) W (dC (.ty n))) :=
  z_C (pe_bltn hg hm hv (v := .ty n) rfl hn hd) fun _ _ => by unfold RF; rfl
theorem z_var {i : Nat} (h : PE X e (tVar i)) : PE X e (EV (cnE LT X ce) W (dVar i)) := PE.wk h fun σr H Q q => by
  obtain ⟨F, la, σ, S, f⟩ := q
  rw [dVar] at f
  cases q : σ.sl[i]? with
  | none => rw [q] at f; exact f.elim
  | some t =>
    cases t with
    | none => rw [q] at f; exact f.elim
    | some t =>
      rw [q] at f
      cases t with
      | own w =>
        obtain ⟨u, e2, r, _⟩ := S.own i w q
        exact ⟨_, e2, f F H (Ex.refl _) S _ e2⟩
      | frz w =>
        obtain ⟨u, e2, r⟩ := S.frz i w q
        exact ⟨_, e2, f F H (Ex.refl _) S _ r⟩
      | lo k =>
        obtain ⟨u, e2, r⟩ := S.lo i k q
        exact ⟨_, e2, f F H (Ex.refl _) S _ ⟨u, rfl, r⟩⟩
      | clos ks =>
        obtain ⟨u, e2, r⟩ := S.clo i ks q
        exact ⟨_, e2, f F H (Ex.refl _) S _ r⟩
theorem z_v {i : Nat} {x : Str} (hN : X.N[i]? = some x := by rfl) (hv : Vis X.env.scope x := by first | exact Or.inl rfl | exact Or.inr (Or.inl rfl) | exact Or.inr (Or.inr rfl)) (hd : (x == ("__debug__" : Str)) = false := by decide)
    (hcd : (x == ("__classdict__" : Str)) = false := by decide) : PE X (.Name x pos) (EV (cnE LT X ce) W (dVar i)) := z_var (pe_var hN hv hd hcd)

theorem z_fz (h : PE X e (EV (cnE LT X ce) W d)) : PE X e (EV (cnE LT X ce) W (dFz d)) := PE.wk h fun σr H Q q => by
  obtain ⟨F, la, σ, S, x, f⟩ := q.start
  refine EV.seq S x f fun F1 σ1 r v H1 x1 S1 e1 f1 => ?_
  cases q : fz r σ1 with
  | ok p σ2 =>
    rw [q] at f1
    obtain ⟨F2, x2, S2, r2, _⟩ := fz_ok S1 x1 e1 q
    exact f1 F2 H1 x2 S2 v r2
  | ex ee σ2 => 
    exfalso
    cases r <;> simp only [fz] at q <;> try (cases q)
    split at q <;> cases q
  | no => rw [q] at f1; exact f1.elim

theorem z_op1 {r : V → Hp → VK → Prop} {f : PV → Option Ot} (hr : Op1 (cnE LT X ce) r f) (h : PE X e (tUn r (EV (cnE LT X ce) W da))) : PE X e (EV (cnE LT X ce) W (dOp1 f da)) := PE.wk h fun σr H Q q => by
  obtain ⟨F, la, σ, S, x, g⟩ := q.start
  refine EV.seq S x g fun F1 σ1 ra v H1 x1 S1 e1 f1 => ?_
  cases qa : rd σ1 ra with
  | none => rw [qa] at f1; exact f1.elim
  | some p =>
    rw [qa] at f1
    obtain ⟨o, qf, f2⟩ := otR_fin S1 x1 f1
    exact hr F1 H1 p o v Q (rd_ok S1 e1 qa) qf f2
theorem z_op2 {r : R2} {f : PV → PV → Option Ot} (hr : Op2 (cnE LT X ce) r f) (h : PE X e (tOp r (EV (cnE LT X ce) W da) (EV (cnE LT X ce) W db))) : PE X e (EV (cnE LT X ce) W (dOp2 f da db)) := PE.wk h fun σr H Q q => by
  obtain ⟨F, la, σ, S, x, g⟩ := q.start
  refine EV.seq S x g fun F1 σ1 ra v H1 x1 S1 e1 f1 => ?_
  refine EV.seq S1 x1 f1 fun F2 σ2 rb u H2 x2 S2 e2 f2 => ?_
  have e1' := e1.ext S1 x2
  cases qa : rd σ2 ra with
  | none => simp [qa] at f2; exact f2.elim
  | some p =>
    cases qb : rd σ2 rb with
    | none => simp [qa, qb] at f2; exact f2.elim
    | some p' =>
      rw [qa, qb] at f2
      obtain ⟨o, qf, f3⟩ := otR_fin S2 (x1.trans x2) f2
      exact hr F2 H2 p p' o v u Q (rd_ok S2 e1' qa) (rd_ok S2 e2 qb) qf f3

theorem z_anil {W : WX} : PA X [] (EVA (cnE LT X ce) W dNil) := PA.wk pa_nil fun σr H Q q => by
  obtain ⟨F, la, σ, S, f⟩ := q
  exact f F H (Ex.refl _) S [] .nil
theorem ERs.ext {c : Cn} {F F' : Addr → Prop} {la : List Addr} {σ : PSt} {σr : St} {H H' : Hp} (S : SR c F la σ σr H) {O' N : Addr → Prop} (x : Ex ⟨F, H, Ow σ σr la⟩ ⟨F', H', O'⟩) {rs : List EVal} {vs : List V} (h : ERs c F la (Ow σ σr la) N σr H rs vs) : ERs c F' la O' N σr H' rs vs := by
  induction h with
  | nil => exact .nil
  | cons h _ nn ih => exact .cons (h.ext S x) ih nn
theorem ERs.weak {c : Cn} {F : Addr → Prop} {la : List Addr} {O N N' : Addr → Prop} {σr : St} {H : Hp} {rs : List EVal} {vs : List V} (h : ERs c F la O N σr H rs vs) (w : ∀ a, N a → N' a) : ERs c F la O N' σr H rs vs := by
  induction h with
  | nil => exact .nil
  | cons h _ nn ih => exact .cons (h.weak w) ih nn
theorem ERs.noNew {c : Cn} {F : Addr → Prop} {la : List Addr} {O N : Addr → Prop} {σr : St} {H : Hp} {a : Addr} (na : ¬ N a) {rs : List EVal} {vs : List V} (h : ERs c F la O N σr H rs vs) : NoNew a rs vs := by
  induction h with
  | nil => intro i p v e; simp at e
  | cons h _ _ ih =>
    intro i p v e1 e2
    cases i with
    | zero =>
      simp at e1 e2
      subst e1 e2
      obtain ⟨b, rfl, _, _, _, nb⟩ := h
      intro z; cases z; exact na nb
    | succ i => exact ih i p v (by simpa using e1) (by simpa using e2)
theorem z_acons {es : List Expr} {ds : DA} (h1 : PE X e (EV (cnE LT X ce) W d)) (h2 : PA X es (EVA (cnE LT X ce) W ds)) (hs : starEach (e :: es) X.env = (false, eval e X.env) :: starEach es X.env := by rfl) : PA X (e :: es) (EVA (cnE LT X ce) W (dCons d ds)) :=
  PA.wk (pa_cons h1 h2 hs) fun σr H Q q => by
    obtain ⟨F, la, σ, S, f⟩ := q
    refine EV.seq S (Ex.refl _) f fun F1 σ1 r v H1 x1 S1 e1 f1 => ?_
    refine ⟨F1, la, σ1, S1, (f1.bind.step x1).mono fun rs σ2 F2 H2 x2 S2 f2 vs es => ?_⟩
    refine f2 F2 H2 (x1.trans x2) S2 (v :: vs) (.cons (e1.ext S1 x2) (es.weak fun a n => x1.back n) fun a p hr hv => ?_)
    subst hr hv
    obtain ⟨b, eb, ro, nf, no, _⟩ := e1
    cases eb
    obtain ⟨o, ho, _⟩ := ro.there
    refine ERs.noNew (fun z => ?_) es
    rcases z with z | z
    · exact no z
    · have z' : H1 a = none := z
      rw [ho] at z'; cases z'
theorem rdAll_ok {c : Cn} {F : Addr → Prop} {la : List Addr} {σ : PSt} {σr : St} {H : Hp} (S : SR c F la σ σr H) {O N : Addr → Prop} {rs : List EVal} {vs : List V} (h : ERs c F la O N σr H rs vs) : ∀ {ps : List PV}, rdAll σ rs = some ps → RWs c F H ps vs := by
  induction h with
  | nil => intro ps e; cases e; exact .nil
  | cons h _ _ ih =>
    rename_i r v rs vs _ _
    intro ps e
    rw [rdAll] at e
    cases q1 : rd σ r with
    | none => rw [q1] at e; cases e
    | some p =>
      cases q2 : rdAll σ rs with
      | none => rw [q1, q2] at e; cases e
      | some ps' =>
        rw [q1, q2] at e
        cases e
        exact .cons (rd_ok S h q1) (ih q2)
theorem z_cb {r : List V → Hp → VK → Prop} {f : List PV → Option Ot} {ds : DA} (hr : OpN (cnE LT X ce) r f) (h : PE X e (tCB r (EVA (cnE LT X ce) W ds))) : PE X e (EV (cnE LT X ce) W (dCB f ds)) := PE.wk h fun σr H Q q => by
  obtain ⟨F, la, σ, S, g⟩ := q
  refine ⟨F, la, σ, S, g.bind.mono fun rs σ1 F1 H1 x1 S1 f1 vs es => ?_⟩
  cases qa : rdAll σ1 rs with
  | none => rw [qa] at f1; exact f1.elim
  | some ps =>
    rw [qa] at f1
    obtain ⟨o, qf, f3⟩ := otR_fin S1 x1 f1
    exact hr F1 H1 ps o vs Q (rdAll_ok S1 es qa) qf f3

/-! ### tests -/
theorem z_B' {t : TT} (h : PT X e t) (w : ∀ σr H Q, EV (cnE LT X ce) W d σr H (fun x H1 => ∃ c, x = .bl c ∧ Q c H1) → t σr H Q) : PT X e (EVT (cnE LT X ce) W (dB d)) := PT.wk h fun σr H Q q => by
  obtain ⟨F, la, σ, S, g⟩ := q
  refine w σr H Q ⟨F, la, σ, S, g.bind.mono fun r σ1 F1 H1 x1 S1 f1 v e1 => ?_⟩
  cases qa : rd σ1 r with
  | none => rw [qa] at f1; exact f1.elim
  | some p =>
    rw [qa] at f1
    cases p with
    | bl b => exact ⟨b, (rd_ok S1 e1 qa).bl, f1 F1 H1 x1 S1⟩
    | _ => exact f1.elim
theorem z_B (h : PE X e (EV (cnE LT X ce) W d)) (he : ∀ whole, isTrue e X.env whole = (do let v ← whole; standAt e.pos; holding [v] (truthy v)) := by intro _; rfl) : PT X e (EVT (cnE LT X ce) W (dB d)) :=
  z_B' (pt_val h he) fun _ _ _ q => q
theorem z_not {dt : DT} (h : PT X e (EVT (cnE LT X ce) W dt)) : PT X (.UnaryOp .Not e pos) (EVT (cnE LT X ce) W (dNot dt)) := PT.wk (pt_not h) fun σr H Q q => by
  obtain ⟨F, la, σ, S, g⟩ := q
  exact ⟨F, la, σ, S, g.bind.mono fun r σ1 F1 H1 x1 S1 f1 => f1 F1 H1 x1 S1⟩
variable {dt du : DT} {rest : List Expr}
theorem z_and1 (h : PT X e (EVT (cnE LT X ce) W dt)) : PW X (.BoolOp .And [e] pos) (EVT (cnE LT X ce) W dt) := pw_and1 h
theorem z_or1 (h : PT X e (EVT (cnE LT X ce) W dt)) : PW X (.BoolOp .Or [e] pos) (EVT (cnE LT X ce) W dt) := pw_or1 h
theorem z_and (h : PT X a (EVT (cnE LT X ce) W dt)) (h2 : PW X (.BoolOp .And (b :: rest) pos) (EVT (cnE LT X ce) W du)) : PW X (.BoolOp .And (a :: b :: rest) pos) (EVT (cnE LT X ce) W (dAnd dt du)) := PW.wk (pw_and h h2) fun σr H Q q => by
  obtain ⟨F, la, σ, S, g⟩ := q
  refine ⟨F, la, σ, S, g.bind.mono fun r σ1 F1 H1 x1 S1 f1 => ?_⟩
  cases r with
  | true => exact ⟨F1, la, σ1, S1, Fin.step f1 x1⟩
  | false => exact f1 F1 H1 x1 S1
theorem z_or (h : PT X a (EVT (cnE LT X ce) W dt)) (h2 : PW X (.BoolOp .Or (b :: rest) pos) (EVT (cnE LT X ce) W du)) : PW X (.BoolOp .Or (a :: b :: rest) pos) (EVT (cnE LT X ce) W (dOr dt du)) := PW.wk (pw_or h h2) fun σr H Q q => by
  obtain ⟨F, la, σ, S, g⟩ := q
  refine ⟨F, la, σ, S, g.bind.mono fun r σ1 F1 H1 x1 S1 f1 => ?_⟩
  cases r with
  | false => exact ⟨F1, la, σ1, S1, Fin.step f1 x1⟩
  | true => exact f1 F1 H1 x1 S1
/-! as values (bools) -/
theorem z_vone {op} (h : PE X e (EV (cnE LT X ce) W d)) : PE X (.BoolOp op [e] pos) (EV (cnE LT X ce) W d) := pe_one h
def dAndV (d e : DE) : DE := fun σ => (dB d σ).bind fun b σ1 => if b = true then e σ1 else .ok (.val (.bl false)) σ1
def dOrV (d e : DE) : DE := fun σ => (dB d σ).bind fun b σ1 => if b = true then .ok (.val (.bl true)) σ1 else e σ1
theorem dB_fin {c : Cn} {la : List Addr} {g : Gh} {σr : St} {σ : PSt} {α : Type} {k : Bool → PSt → Rs α} {P : α → PSt → (Addr → Prop) → Hp → Prop} {R : EVal → PSt → (Addr → Prop) → Hp → Prop} (h : Fin c W la σr g ((dB d σ).bind k) P)
    (hk : ∀ r b σ1 F1 H1, Ex g ⟨F1, H1, Ow σ1 σr la⟩ → SR c F1 la σ1 σr H1 → rd σ1 r = some (.bl b) → Fin c W la σr g (k b σ1) P → R r σ1 F1 H1) : Fin c W la σr g (d σ) R := by
  unfold dB at h
  cases q : d σ with
  | no => rw [q] at h; exact h
  | ex e σ1 => rw [q] at h; exact h
  | ok r σ1 =>
    rw [q] at h
    intro F1 H1 x1 S1
    cases qa : rd σ1 r with
    | none => simp [Rs.bind, qa] at h; exact h.elim
    | some p =>
      cases p with
      | bl b => exact hk r b σ1 F1 H1 x1 S1 qa (by simpa [Rs.bind, qa] using h)
      | _ => simp [Rs.bind, qa] at h; exact h.elim
theorem z_vand (h : PE X a (EV (cnE LT X ce) W da)) (h2 : PE X (.BoolOp .And (b :: rest) pos) (EV (cnE LT X ce) W db)) : PE X (.BoolOp .And (a :: b :: rest) pos) (EV (cnE LT X ce) W (dAndV da db)) := PE.wk (pe_and h h2) fun σr H Q q => by
  obtain ⟨F, la, σ, S, g⟩ := q
  refine ⟨F, la, σ, S, dB_fin g fun r t σ1 F1 H1 x1 S1 er f1 v e1 => ⟨t, (rd_ok S1 e1 er).bl, ?_⟩⟩
  cases t with
  | true => exact ⟨F1, la, σ1, S1, (Fin.step f1 x1).mono fun r σ' F' H' _ _ q v e => q v (e.weak fun a n => x1.back n)⟩
  | false =>
    have f2 : Fin (cnE LT X ce) W la σr _ (Rs.ok (EVal.val (.bl false)) σ1) (PE0 (cnE LT X ce) la σr _ Q) := f1
    exact f2 F1 H1 x1 S1 _ ER.bl_
theorem z_vor (h : PE X a (EV (cnE LT X ce) W da)) (h2 : PE X (.BoolOp .Or (b :: rest) pos) (EV (cnE LT X ce) W db)) : PE X (.BoolOp .Or (a :: b :: rest) pos) (EV (cnE LT X ce) W (dOrV da db)) := PE.wk (pe_or h h2) fun σr H Q q => by
  obtain ⟨F, la, σ, S, g⟩ := q
  refine ⟨F, la, σ, S, dB_fin g fun r t σ1 F1 H1 x1 S1 er f1 v e1 => ⟨t, (rd_ok S1 e1 er).bl, ?_⟩⟩
  cases t with
  | false => exact ⟨F1, la, σ1, S1, (Fin.step f1 x1).mono fun r σ' F' H' _ _ q v e => q v (e.weak fun a n => x1.back n)⟩
  | true =>
    have f2 : Fin (cnE LT X ce) W la σr _ (Rs.ok (EVal.val (.bl true)) σ1) (PE0 (cnE LT X ce) la σr _ Q) := f1
    exact f2 F1 H1 x1 S1 _ ER.bl_
def dNotV (d : DE) : DE := fun σ => (dB d σ).bind fun b σ1 => .ok (.val (.bl !b)) σ1
theorem z_vnot (h : PE X e (EV (cnE LT X ce) W d)) : PE X (.UnaryOp .Not e pos) (EV (cnE LT X ce) W (dNotV d)) := PE.wk (pe_not h) fun σr H Q q => by
  obtain ⟨F, la, σ, S, g⟩ := q
  exact ⟨F, la, σ, S, dB_fin g fun r t σ1 F1 H1 x1 S1 er f1 v e1 => ⟨t, (rd_ok S1 e1 er).bl, f1 F1 H1 x1 S1 _ ER.bl_⟩⟩
theorem z_if {t : Expr} (hc : PT X t (EVT (cnE LT X ce) W dt)) (ha : PE X a (EV (cnE LT X ce) W da)) (hb : PE X b (EV (cnE LT X ce) W db)) : PE X (.IfExp t a b pos) (EV (cnE LT X ce) W (dIf dt da db)) := PE.wk (pe_ifExp hc ha hb) fun σr H Q q => by
  obtain ⟨F, la, σ, S, g⟩ := q
  refine ⟨F, la, σ, S, g.bind.mono fun r σ1 F1 H1 x1 S1 f1 => ?_⟩
  cases r with
  | true => exact ⟨F1, la, σ1, S1, (Fin.step f1 x1).mono fun r σ' F' H' _ _ q v e => q v (e.weak fun a n => x1.back n)⟩
  | false => exact ⟨F1, la, σ1, S1, (Fin.step f1 x1).mono fun r σ' F' H' _ _ q v e => q v (e.weak fun a n => x1.back n)⟩
end
end L2.Zz

/-! Z5: what operators and built-ins do with values. -/
namespace L2.Zz
open PySem PySem.Spec PyProof.Rows
variable {LT : LTab} {ce : List (Str × Addr)}

section
variable {X : Cx}
theorem OpR.or {f : Value → Value → Sem Value} {r r' : R2} (h : OpR X f r) (h' : OpR X f r') : OpR X f (fun x y H Q => r x y H Q ∨ r' x y H Q) := by
  intro pins s σ H x y v u Q I rx ry q
  rcases q with q | q
  · exact h pins s σ H x y v u Q I rx ry q
  · exact h' pins s σ H x y v u Q I rx ry q
/-! ### whole numbers -/
def mulOk (i j : Int) : Prop := CMul i j ∨ CMulW i j
instance (i j : Int) : Decidable (CMul i j) := by unfold CMul; infer_instance
instance (i j : Int) : Decidable (CMulW i j) := by unfold CMulW; infer_instance
instance (i j : Int) : Decidable (mulOk i j) := by unfold mulOk; infer_instance
theorem op_mulZ : OpR X (binaryOp .Mult) (rI mulOk fun i j => .int (i * j)) := opI fun _ _ _ _ _ _ _ hc q => mul_int q (hc.elim CMul.ok CMulW.ok)
def divOk (j : Int) : Prop := j ≠ 0 ∧ j.natAbs.log2 < 9000
instance (j : Int) : Decidable (divOk j) := by unfold divOk; infer_instance
theorem op_fdivZ : OpR X (binaryOp .FloorDiv) (rI (fun _ j => divOk j) fun i j => .int (i.fdiv j)) := opI fun i j _ _ _ _ _ hc q => floordiv_int hc.1 q (.inl (PyProof.noPylong_of_log2 hc.2))
def powOk (i j : Int) : Prop := 0 ≤ j ∧ (i.natAbs.log2 + 1 : Nat) * j ≤ 2 ^ 27
instance (i j : Int) : Decidable (powOk i j) := by unfold powOk; infer_instance
theorem op_powZ : OpR X (binaryOp .Pow) (rI powOk fun i j => .int (i ^ j.toNat)) := opI fun i j _ _ _ _ _ hc q => by
  refine pow_int hc.1 ?_ q
  have h2 : ((i.natAbs.log2 + 1 : Nat) : Int) * j ≤ 2 ^ 27 := hc.2
  have b : (Builtin.Int.intBits i : Int) ≤ ((i.natAbs.log2 + 1 : Nat) : Int) := by
    unfold Builtin.Int.intBits
    split <;> omega
  exact Int.le_trans (Int.mul_le_mul_of_nonneg_right b hc.1) h2

/-! ### lists, tuples -/
theorem op_catZ : OpR X (binaryOp .Add) (fun x y H Q => ∃ l b xs zs, x = .ref l ∧ y = .ref b ∧ SqL X.K H l xs ∧ SqL X.K H b zs ∧ xs.length + zs.length ≤ sizeLine ∧ ∀ p, H p = none → Q (.ref p) (upd H p (.lst (xs ++ zs)))) := by
  intro pins s σ H x y v u Q I rx ry h
  obtain ⟨l, b, xs, zs, rfl, rfl, hH, hB, hz, q⟩ := h
  cases rx
  cases ry
  obtain ⟨its, r, ⟨⟨cls, dd, data, sl⟩, n, ho, hc, hd0, hd⟩, _⟩ := I.list hH
  obtain ⟨its2, r2, ⟨⟨cls2, dd2, data2, sl2⟩, n2, ho2, hc2, hd02, hd2⟩, _⟩ := I.list hB
  simp only at hc hd hc2 hd2
  subst hc hd hc2 hd2
  have e : its.toArray ++ its2.toArray = (its ++ its2).toArray := by simp
  refine concat_meets ⟨_, ho, rfl⟩ ⟨_, ho2, rfl⟩ noFill_list_add seq_list_add PySem.F.slot_list_add PySem.F.entry_list_add (PySem.F.args_list_add_2 _ _) (list_addW l b its.toArray its2.toArray n n2 dd dd2 sl sl2 (by rw [List.size_toArray, List.size_toArray, ← r.length, ← r2.length]; exact hz)) ⟨ho, ho2, ?_⟩
  rw [e]
  exact ⟨.ref _, _, I.lnew (t' := s.toks) (r.append r2) (by rw [List.length_append]; omega), rfl, q _ I.fresh⟩
end

abbrev szL : Nat := 16777216
theorem szL_eq : sizeLine = szL := sizeLine_eq

/-! ### + - * -/
def pvAdd : PV → PV → Option Ot
  | .int i, .int j => some (.v (.int (i + j)))
  | .lst xs, .lst ys => if xs.length + ys.length ≤ szL then some (.l (xs ++ ys)) else none
  | .tup xs, .tup ys => if xs ≠ [] ∧ ys ≠ [] ∧ xs.length + ys.length ≤ szL then some (.t (xs ++ ys)) else none
  | _, _ => none
def rAdd (K : PySem.W.Frag) : R2 := fun x y H Q => rI0 (fun i j => .int (i + j)) x y H Q ∨ (fun x y H Q => ∃ l b xs zs, x = .ref l ∧ y = .ref b ∧ SqL K H l xs ∧ SqL K H b zs ∧ xs.length + zs.length ≤ sizeLine ∧ ∀ p, H p = none → Q (.ref p) (upd H p (.lst (xs ++ zs)))) x y H Q ∨ rCatT K x y H Q
def pvSub : PV → PV → Option Ot
  | .int i, .int j => some (.v (.int (i - j)))
  | _, _ => none
def repOk (n : Nat) (k : Int) : Prop := -(2 ^ 63) ≤ k ∧ k < 2 ^ 63 ∧ n * k.toNat ≤ szL
instance (n : Nat) (k : Int) : Decidable (repOk n k) := by unfold repOk; infer_instance
def pvMul : PV → PV → Option Ot
  | .int i, .int j => if mulOk i j then some (.v (.int (i * j))) else none
  | .lst xs, .int k => if repOk xs.length k then some (.l (List.replicate k.toNat xs).flatten) else none
  | .lst xs, .bl k => some (.l (if k = true then xs else []))
  | _, _ => none
def rMulB (K : PySem.W.Frag) : R2 := fun x y H Q => ∃ a xs k, x = V.ref a ∧ y = V.bl k ∧ SqL K H a xs ∧ ∀ p, H p = none → Q (.ref p) (upd H p (.lst (if k = true then xs else [])))
def rRepZ (K : PySem.W.Frag) : R2 := fun x y H Q => ∃ l k xs, x = .ref l ∧ y = .int k ∧ SqL K H l xs ∧ -(2 ^ 63) ≤ k ∧ k < 2 ^ 63 ∧ xs.length * k.toNat ≤ sizeLine ∧ ∀ p, H p = none → Q (.ref p) (upd H p (.lst (List.replicate k.toNat xs).flatten))
theorem q_mul_intZ (l : Addr) (items : Array Value) (n : Nat) (d : Option Addr) (sl : Array (Option Value)) (x : Int) (u : Tok) (hc0 : ¬(!Builtin.List.listFitsIndex x) = true) (hc1 : ¬items.size * x.toNat > (2 ^ 63 - 1) / 8) (hc2 : ¬Builtin.List.listTooLong (items.size * x.toNat) = true) :
    Meets (Builtin.«list.__mul__» ⟨[.ref l, .int x u], []⟩) (fun _ R s => s.heap.get? l = some { cls := .type "list", dict := d, data := .seq items n, slots := sl } ∧ R (.ok (.ret (Value.ref s.heap.objs.size))) { s with heap := s.heap.push { cls := Value.type "list", data := Data.seq (List.foldl (fun x1 x2 => x1 ++ x2) #[] (List.replicate (if items.isEmpty = true then 0 else x.toNat) items)) }, toks := s.toks }) :=
  .of_wp fun prog w A R s h => by
    obtain ⟨hp, g, d, tk, os⟩ := s; obtain ⟨hl, h⟩ := h
    have hsz := AutoListH.joined_fits hc2
    wp_walk; refine wpAny_ite_false (decide_eq_false (Nat.not_lt.mpr hsz)) ?_; wp_walk; exact ⟨_, rfl, h⟩
theorem q_rmul_intZ (a : Int) (t : Tok) (l : Addr) (items : Array Value) (n : Nat) (d : Option Addr) (sl : Array (Option Value)) :
    Meets (Builtin.«int.__rmul__» ⟨[.int a t, .ref l], []⟩) (fun _ R s => s.heap.get? l = some { cls := .type "list", dict := d, data := .seq items n, slots := sl } ∧ R (.ok (.ret Value.notImplemented)) s) :=
  .of_wp fun prog w A R s h => by obtain ⟨hp, g, d, tk, os⟩ := s; obtain ⟨hl, h⟩ := h; wp_walk; exact ⟨_, rfl, h⟩
theorem op_repZ {X : Cx} : OpR X (binaryOp .Mult) (rRepZ X.K) := by
  intro pins s σ H x y v u Q I rx ry h
  obtain ⟨l, k, xs, rfl, rfl, hs, h1, h2, hz, q⟩ := h
  cases rx
  obtain ⟨t, rfl⟩ := ry
  obtain ⟨its, rv, ⟨⟨cls, dd, data, sl⟩, n, ho, hc, hdn, hd⟩, hl0⟩ := I.list hs
  have hc1 : cls = Value.type "list" := hc
  have hd1 : data = Data.seq its.toArray n := hd
  subst hc1 hd1
  have hl : xs.length = its.length := rv.length
  have hlen : its.toArray.size * k.toNat ≤ sizeLine := by rw [List.size_toArray, ← hl]; exact hz
  have hcap : ¬ its.toArray.size * k.toNat > (2 ^ 63 - 1) / 8 := by
    have : (sizeLine : Nat) ≤ (2 ^ 63 - 1) / 8 := by decide
    omega
  have hfit : ¬ (!Builtin.List.listFitsIndex k) = true := by
    rw [fitsIndex_both h1 h2]
    exact Bool.false_ne_true
  have hlong : ¬ Builtin.List.listTooLong (its.toArray.size * k.toNat) = true := by
    rw [notLongL hlen]
    exact Bool.false_ne_true
  have hnew : List.foldl (fun x1 x2 => x1 ++ x2) #[] (List.replicate (if its.toArray.isEmpty = true then 0 else k.toNat) its.toArray) = (List.replicate k.toNat its).flatten.toArray := by
    have f0 : ∀ m : Nat, List.foldl (fun x1 x2 => x1 ++ x2) #[] (List.replicate m its.toArray) = (List.replicate m its).flatten.toArray := fun m => by
      have := foldl_rep its m []
      rw [List.nil_append] at this
      exact this
    rw [f0]
    cases its with
    | nil => simp
    | cons a r' => rw [if_neg (by simp)]
  refine wpAny_binaryOp_repeat_ref (T := "list") (U := "int") (by decide) ⟨_, ho, rfl⟩ (fun s' => typeIs_int s' k t) noFill_list_mul F.fills_int_mul F.slot_int_rmul repeat_list F.slot_int_index.lookup
    (call_meets F.slot_int_rmul (typeIs_int s k t) F.entry_int_rmul (F.args_int_rmul_2 _ _) (q_rmul_intZ k t l its.toArray n dd sl)
      ⟨ho, rfl, ⟨_, ho, rfl⟩, call_meets F.slot_list_mul ⟨_, ho, rfl⟩ F.entry_list_mul (F.args_list_mul_2 _ _) (q_mul_intZ l its.toArray n dd sl k t hfit hcap hlong) ⟨ho, ?_⟩⟩)
  rw [hnew]
  exact ⟨.ref _, _, I.lnew (t' := s.toks) (rv.rep k.toNat) (by rw [PyProof.Rows.lm_len_rep_flat, Nat.mul_comm]; exact hz), rfl, q _ I.fresh⟩
theorem RFs.rep {c : Cb} {F : Addr → Prop} {H : Hp} {xs : List PV} {us : List V} (r : RFs c F H xs us) : ∀ k : Nat, RFs c F H (List.replicate k xs).flatten (List.replicate k us).flatten
  | 0 => RFs.nil_
  | k + 1 => by
    rw [List.replicate_succ, List.replicate_succ, List.flatten_cons, List.flatten_cons]
    exact r.append (RFs.rep r k)
def pvFdiv : PV → PV → Option Ot
  | .int i, .int j => if divOk j then some (.v (.int (i.fdiv j))) else none
  | _, _ => none
def pvMod : PV → PV → Option Ot
  | .int i, .int j => if j ≠ 0 then some (.v (.int (i.fmod j))) else none
  | _, _ => none
def pvPow : PV → PV → Option Ot
  | .int i, .int j => if powOk i j then some (.v (.int (i ^ j.toNat))) else none
  | _, _ => none
def pvNeg : PV → Option Ot
  | .int i => some (.v (.int (-i)))
  | _ => none
section
variable {X : Cx} {W : WX} {a b : Expr} {da db : DE} {pos : Pos}
theorem z_add (ha : PE X a (EV (cnE LT X ce) W da)) (hb : PE X b (EV (cnE LT X ce) W db)) : PE X (.BinOp a .Add b pos) (EV (cnE LT X ce) W (dOp2 pvAdd da db)) := by
  refine z_op2 (r := rAdd X.K) ?_ (pe_op (OpR.or op_add (OpR.or op_catZ op_catT)) ha hb)
  intro F H p q o va vb Q ra rb e h
  unfold pvAdd at e
  split at e
  · cases e
    exact .inl ⟨_, _, ra.int, rb.int, h _ RF.int_⟩
  · rename_i xs ys
    split at e
    · rename_i hl
      cases e
      obtain ⟨l, us, e1, h1, r1⟩ := ra.lst
      obtain ⟨l2, us2, e2, h2, r2⟩ := rb.lst
      refine .inr (.inl ⟨l, l2, us, us2, e1, e2, h1, h2, by rw [← r1.length, ← r2.length, szL_eq]; exact hl, fun p n => h p _ n (r1.append r2)⟩)
    · cases e
  · rename_i xs ys
    split at e
    · rename_i hl
      cases e
      obtain ⟨l, us, e1, h1, r1⟩ := ra.tup
      obtain ⟨l2, us2, e2, h2, r2⟩ := rb.tup
      refine .inr (.inr ⟨l, l2, us, us2, e1, e2, h1, h2, fun z => ?_, by rw [← r1.length, ← r2.length, szL_eq]; exact hl.2.2, fun z => ?_, fun _ p n => h p _ n (r1.append r2)⟩)
      · have := r1.length; rw [z] at this; exact hl.1 (List.eq_nil_of_length_eq_zero this)
      · have := r2.length; rw [z] at this; exact absurd (List.eq_nil_of_length_eq_zero this) hl.2.1
    · cases e
  · cases e
theorem opI_of {op : Operator} {C : Int → Int → Prop} [∀ i j, Decidable (C i j)] {g : Int → Int → Int} (h : OpR X (binaryOp op) (rI C fun i j => .int (g i j))) {f : PV → PV → Option Ot} (hf : ∀ p q o, f p q = some o → ∃ i j, p = .int i ∧ q = .int j ∧ C i j ∧ o = .v (.int (g i j)))
    (ha : PE X a (EV (cnE LT X ce) W da)) (hb : PE X b (EV (cnE LT X ce) W db)) : PE X (.BinOp a op b pos) (EV (cnE LT X ce) W (dOp2 f da db)) := by
  refine z_op2 ?_ (pe_op h ha hb)
  intro F H p q o va vb Q ra rb e hq
  obtain ⟨i, j, rfl, rfl, c, rfl⟩ := hf p q o e
  exact ⟨i, j, ra.int, rb.int, c, hq _ RF.int_⟩
theorem z_sub (ha : PE X a (EV (cnE LT X ce) W da)) (hb : PE X b (EV (cnE LT X ce) W db)) : PE X (.BinOp a .Sub b pos) (EV (cnE LT X ce) W (dOp2 pvSub da db)) := by
  refine z_op2 ?_ (pe_op op_sub ha hb)
  intro F H p q o va vb Q ra rb e hq
  unfold pvSub at e
  split at e
  · cases e
    exact ⟨_, _, ra.int, rb.int, hq _ RF.int_⟩
  · cases e
theorem z_mul (ha : PE X a (EV (cnE LT X ce) W da)) (hb : PE X b (EV (cnE LT X ce) W db)) : PE X (.BinOp a .Mult b pos) (EV (cnE LT X ce) W (dOp2 pvMul da db)) := by
  refine z_op2 (r := fun x y H Q => rI mulOk (fun i j => .int (i * j)) x y H Q ∨ rRepZ X.K x y H Q ∨ rMulB X.K x y H Q) ?_ (pe_op (OpR.or op_mulZ (OpR.or op_repZ op_mul_lb)) ha hb)
  intro F H p q o va vb Q ra rb e h
  unfold pvMul at e
  split at e
  · split at e
    · rename_i c
      cases e
      exact .inl ⟨_, _, ra.int, rb.int, c, h _ RF.int_⟩
    · cases e
  · rename_i xs k
    split at e
    · rename_i c
      cases e
      obtain ⟨l, us, e1, h1, r1⟩ := ra.lst
      exact .inr (.inl ⟨l, k, us, e1, rb.int, h1, c.1, c.2.1, by rw [← r1.length, szL_eq]; exact c.2.2, fun p n => h p _ n (r1.rep _)⟩)
    · cases e
  · rename_i xs k
    cases e
    obtain ⟨l, us, e1, h1, r1⟩ := ra.lst
    refine .inr (.inr ⟨l, us, k, e1, rb.bl, h1, fun p n => h p _ n ?_⟩)
    cases k
    · exact RFs.nil_
    · exact r1
  · cases e
theorem z_fdiv (ha : PE X a (EV (cnE LT X ce) W da)) (hb : PE X b (EV (cnE LT X ce) W db)) : PE X (.BinOp a .FloorDiv b pos) (EV (cnE LT X ce) W (dOp2 pvFdiv da db)) := by
  refine opI_of (C := fun _ j => divOk j) op_fdivZ (fun p q o e => ?_) ha hb
  unfold pvFdiv at e
  split at e
  · split at e
    · cases e; exact ⟨_, _, rfl, rfl, by assumption, rfl⟩
    · cases e
  · cases e
theorem z_mod (ha : PE X a (EV (cnE LT X ce) W da)) (hb : PE X b (EV (cnE LT X ce) W db)) : PE X (.BinOp a .Mod b pos) (EV (cnE LT X ce) W (dOp2 pvMod da db)) := by
  refine opI_of (C := fun _ j => j ≠ 0) op_modN (fun p q o e => ?_) ha hb
  unfold pvMod at e
  split at e
  · split at e
    · cases e; exact ⟨_, _, rfl, rfl, by assumption, rfl⟩
    · cases e
  · cases e
theorem z_pow (ha : PE X a (EV (cnE LT X ce) W da)) (hb : PE X b (EV (cnE LT X ce) W db)) : PE X (.BinOp a .Pow b pos) (EV (cnE LT X ce) W (dOp2 pvPow da db)) := by
  refine opI_of (C := powOk) op_powZ (fun p q o e => ?_) ha hb
  unfold pvPow at e
  split at e
  · split at e
    · cases e; exact ⟨_, _, rfl, rfl, by assumption, rfl⟩
    · cases e
  · cases e
theorem z_neg (ha : PE X a (EV (cnE LT X ce) W da)) : PE X (.UnaryOp .USub a pos) (EV (cnE LT X ce) W (dOp1 pvNeg da)) := by
  refine z_op1 ?_ (pe_un un_neg ha)
  intro F H p o va Q ra e hq
  unfold pvNeg at e
  split at e
  · cases e
    exact ⟨_, ra.int, hq _ RF.int_⟩
  · cases e
end

/-! ### data -/
mutual
def toD : PV → Option PyData
  | .non => some .none
  | .bl b => some (.bool b)
  | .int i => some (.int i)
  | .str x => some (.str x)
  | .tup xs => (toDs xs).map .tuple
  | .lst xs => (toDs xs).map .list
  | _ => none
def toDs : List PV → Option (List PyData)
  | [] => some []
  | x :: xs => match toD x, toDs xs with
    | some d, some ds => some (d :: ds)
    | _, _ => none
end
section
variable {c : Cn} {F : Addr → Prop} {H : Hp}
theorem FrL.sq {a : Addr} {us : List V} (h : FrL c F H a us) : SqL c.K H a us := by
  rcases h with ⟨_, h⟩ | h
  · exact .inl h
  · exact .inr h
mutual
theorem toD_ok : ∀ (p : PV) (v : V) (d : PyData), RF c F H p v → toD p = some d → Dp c.K H v d
  | .non, v, d, h, e => by unfold RF at h; subst h; cases e; exact .non
  | .bl b, v, d, h, e => by unfold RF at h; subst h; cases e; exact .bl b
  | .int b, v, d, h, e => by unfold RF at h; subst h; cases e; exact .int b
  | .str b, v, d, h, e => by unfold RF at h; subst h; cases e; exact .str b
  | .tup xs, v, d, h, e => by
    unfold RF at h
    obtain ⟨a, us, rfl, h1, h2⟩ := h
    unfold toD at e
    obtain ⟨ds, e1, rfl⟩ := Option.map_eq_some_iff.mp e
    exact .tup h1 (toDs_ok xs us ds h2 e1)
  | .lst xs, v, d, h, e => by
    unfold RF at h
    obtain ⟨a, us, rfl, h1, h2⟩ := h
    unfold toD at e
    obtain ⟨ds, e1, rfl⟩ := Option.map_eq_some_iff.mp e
    exact .lst h1.sq (toDs_ok xs us ds h2 e1)
  | .dct _ _, _, _, _, e => by simp [toD] at e
  | .fn _, _, _, _, e => by simp [toD] at e
  | .ty _, _, _, _, e => by simp [toD] at e
  | .ins _ _ _, _, _, _, e => by simp [toD] at e
  | .clo _ _, _, _, _, e => by simp [toD] at e
  | .err _ _ _, _, _, _, e => by simp [toD] at e
theorem toDs_ok : ∀ (ps : List PV) (vs : List V) (ds : List PyData), RFs c F H ps vs → toDs ps = some ds → DpAll c.K H vs ds
  | [], vs, ds, h, e => by unfold RFs at h; subst h; cases e; exact .nil
  | x :: xs, vs, ds, h, e => by
    unfold RFs at h
    obtain ⟨u, r, rfl, h1, h2⟩ := h
    unfold toDs at e
    split at e
    · rename_i d ds' e1 e2
      cases e
      exact .cons (toD_ok x u d h1 e1) (toDs_ok xs r ds' h2 e2)
    · cases e
end
theorem RW.dp {p : PV} {v : V} {d : PyData} (h : RW c F H p v) (e : toD p = some d) : Dp c.K H v d := by
  rcases h with h | ⟨a, rfl, h⟩
  · exact toD_ok p v d h e
  · cases p with
    | lst xs =>
      obtain ⟨us, h1, h2⟩ := h
      unfold toD at e
      obtain ⟨ds, e1, rfl⟩ := Option.map_eq_some_iff.mp e
      exact .lst (SqL.of h1) (toDs_ok xs us ds h2 e1)
    | dct _ _ => simp [toD] at e
    | ins _ _ _ => simp [toD] at e
    | _ => exact h.elim
end
/-- == of data -/
def pvEq (a b : PV) : Option Bool := match toD a, toD b with
  | some d, some e => if SeqAt.shaped d = true ∧ SeqAt.shaped e = true then some (PyData.eqv d e) else none
  | _, _ => none
def pvEqO (a b : PV) : Option Ot := (pvEq a b).map fun t => .v (.bl t)
def pvNeO (a b : PV) : Option Ot := (pvEq a b).map fun t => .v (.bl !t)
def ltInts : List PV → List PV → Option Bool
  | [], [] => some false
  | [], .int _ :: ys => (ltInts [] ys).map fun _ => true
  | .int _ :: xs, [] => (ltInts xs []).map fun _ => false
  | .int x :: xs, .int y :: ys => match ltInts xs ys with
    | some r => some (if x = y then r else decide (x < y))
    | none => none
  | _, _ => none
def pvLt : PV → PV → Option Ot
  | .int i, .int j => some (.v (.bl (decide (i < j))))
  | .tup xs, .tup ys => (ltInts xs ys).map fun t => .v (.bl t)
  | _, _ => none
def pvLe : PV → PV → Option Ot
  | .int i, .int j => some (.v (.bl (decide (i ≤ j))))
  | _, _ => none
def pvGt : PV → PV → Option Ot
  | .int i, .int j => some (.v (.bl (decide (j < i))))
  | _, _ => none
def pvGe : PV → PV → Option Ot
  | .int i, .int j => some (.v (.bl (decide (j ≤ i))))
  | _, _ => none
def isNone : PV → Bool
  | .non => true
  | _ => false
def pvIsN (a b : PV) : Option Ot := if isNone b = true then some (.v (.bl (isNone a))) else none
def pvNotN (a b : PV) : Option Ot := if isNone b = true then some (.v (.bl !isNone a)) else none
/-- x in xs -/
def pvIn (a b : PV) : Option Bool := match toD a, toD b with
  | some d, some (.list ds) => if SeqAt.shaped d = true ∧ SeqAt.shaped (.list ds) = true then some (ds.any fun z => PyData.eqv z d) else none
  | _, _ => none
section
variable {X : Cx} {W : WX} {a b : Expr} {da db : DE} {pos : Pos}
theorem ltInts_ok {c : Cn} {F : Addr → Prop} {H : Hp} : ∀ (xs ys : List PV) (us vs : List V) (t : Bool), ltInts xs ys = some t → RFs c F H xs us → RFs c F H ys vs → ∃ ns ms, us = ns.map V.int ∧ vs = ms.map V.int ∧ HT.lexLt ns ms = t := by
  intro xs
  induction xs with
  | nil =>
    intro ys
    induction ys with
    | nil => intro us vs t e h1 h2; unfold RFs at h1 h2; subst h1 h2; rw [ltInts] at e; cases e; exact ⟨[], [], rfl, rfl, rfl⟩
    | cons y ys ih =>
      intro us vs t e h1 h2
      unfold RFs at h2
      obtain ⟨u, r, rfl, h3, h4⟩ := h2
      cases y with
      | int j =>
        unfold ltInts at e
        obtain ⟨t', e1, rfl⟩ := Option.map_eq_some_iff.mp e
        obtain ⟨ns, ms, hn, hm, _⟩ := ih us r t' e1 h1 h4
        unfold RFs at h1; subst h1
        unfold RF at h3; subst h3
        have : ns = [] := by simpa using hn.symm
        subst this
        exact ⟨[], j :: ms, rfl, by simp [hm], rfl⟩
      | _ => simp [ltInts] at e
  | cons x xs ih =>
    intro ys us vs t e h1 h2
    unfold RFs at h1
    obtain ⟨u, r, rfl, h3, h4⟩ := h1
    cases x with
    | int i =>
      unfold RF at h3; subst h3
      cases ys with
      | nil =>
        unfold ltInts at e
        obtain ⟨t', e1, rfl⟩ := Option.map_eq_some_iff.mp e
        obtain ⟨ns, ms, hn, hm, _⟩ := ih [] r vs t' e1 h4 h2
        unfold RFs at h2; subst h2
        exact ⟨i :: ns, [], by simp [hn], rfl, rfl⟩
      | cons y ys =>
        unfold RFs at h2
        obtain ⟨u2, r2, rfl, h5, h6⟩ := h2
        cases y with
        | int j =>
          unfold RF at h5; subst h5
          unfold ltInts at e
          split at e
          · rename_i t' e1
            cases e
            obtain ⟨ns, ms, hn, hm, e2⟩ := ih ys r r2 t' e1 h4 h6
            exact ⟨i :: ns, j :: ms, by simp [hn], by simp [hm], by rw [HT.lexLt_cons, e2]⟩
          · cases e
        | _ => simp [ltInts] at e
    | _ => cases ys <;> simp [ltInts] at e
theorem op2_eq : Op2 (cnE LT X ce) (rEqD X.K) pvEqO := by
  intro F H p q o va vb Q ra rb e h
  obtain ⟨t, e1, rfl⟩ := Option.map_eq_some_iff.mp e
  unfold pvEq at e1
  split at e1
  · rename_i d d' h1 h2
    split at e1
    · rename_i hs
      cases e1
      exact ⟨d, d', ra.dp h1, rb.dp h2, hs.1, hs.2, h _ RF.bl_⟩
    · cases e1
  · cases e1
theorem op2_ne : Op2 (cnE LT X ce) (rNeD X.K) pvNeO := by
  intro F H p q o va vb Q ra rb e h
  obtain ⟨t, e1, rfl⟩ := Option.map_eq_some_iff.mp e
  unfold pvEq at e1
  split at e1
  · rename_i d d' h1 h2
    split at e1
    · rename_i hs
      cases e1
      exact ⟨d, d', ra.dp h1, rb.dp h2, hs.1, hs.2, h _ RF.bl_⟩
    · cases e1
  · cases e1
def rLtZ (K : PySem.W.Frag) : R2 := fun x y H Q => rI0 (fun i j => .bl (decide (i < j))) x y H Q ∨ rLtT K x y H Q
theorem op_ltZ (hu : X.A.units < cLine) : OpR X (compareOp .Lt) (rLtZ X.K) := OpR.or op_lt (op_ltT hu)
theorem op2_lt : Op2 (cnE LT X ce) (rLtZ X.K) pvLt := by
  intro F H p q o va vb Q ra rb e h
  unfold pvLt at e
  split at e
  · cases e
    exact .inl ⟨_, _, ra.int, rb.int, h _ RF.bl_⟩
  · obtain ⟨t, e1, rfl⟩ := Option.map_eq_some_iff.mp e
    obtain ⟨l, us, e1', h1, r1⟩ := ra.tup
    obtain ⟨l2, us2, e2', h2, r2⟩ := rb.tup
    obtain ⟨ns, ms, rfl, rfl, e3⟩ := ltInts_ok _ _ _ _ _ e1 r1 r2
    refine .inr ⟨l, l2, ns, ms, e1', e2', h1, h2, ?_⟩
    rw [e3]
    exact h _ RF.bl_
  · cases e
theorem op2_le : Op2 (cnE LT X ce) (rI0 fun i j => .bl (decide (i ≤ j))) pvLe := by
  intro F H p q o va vb Q ra rb e h
  unfold pvLe at e
  split at e
  · cases e; exact ⟨_, _, ra.int, rb.int, h _ RF.bl_⟩
  · cases e
theorem op2_gt : Op2 (cnE LT X ce) (rI0 fun i j => .bl (decide (j < i))) pvGt := by
  intro F H p q o va vb Q ra rb e h
  unfold pvGt at e
  split at e
  · cases e; exact ⟨_, _, ra.int, rb.int, h _ RF.bl_⟩
  · cases e
theorem op2_ge : Op2 (cnE LT X ce) (rI0 fun i j => .bl (decide (j ≤ i))) pvGe := by
  intro F H p q o va vb Q ra rb e h
  unfold pvGe at e
  split at e
  · cases e; exact ⟨_, _, ra.int, rb.int, h _ RF.bl_⟩
  · cases e
theorem RW.isN {c : Cn} {F : Addr → Prop} {H : Hp} {p : PV} {v : V} (h : RW c F H p v) : decide (v = .non) = isNone p := by
  cases p with
  | non => rw [h.non]; rfl
  | bl _ => rw [h.bl]; rfl
  | int _ => rw [h.int]; rfl
  | str _ => rw [h.str]; rfl
  | ty _ => rw [h.ty]; rfl
  | fn _ => obtain ⟨a, rfl, _⟩ := h.fn; rfl
  | tup _ => obtain ⟨a, _, rfl, _⟩ := h.tup; rfl
  | lst _ => obtain ⟨a, _, rfl, _⟩ := h.lst; rfl
  | dct _ _ => obtain ⟨a, _, _, rfl, _⟩ := h.dct; rfl
  | ins _ _ _ =>
    rcases h with h | ⟨a, rfl, h⟩
    · unfold RF at h; obtain ⟨a, _, _, _, rfl, _⟩ := h; rfl
    · rfl
  | clo _ _ =>
    rcases h with h | ⟨a, rfl, h⟩
    · unfold RF at h; obtain ⟨a, _, _, _, rfl, _⟩ := h; rfl
    · rfl
  | err _ _ _ =>
    rcases h with h | ⟨a, rfl, h⟩
    · unfold RF at h; obtain ⟨a, _, _, _, rfl, _⟩ := h; rfl
    · rfl
theorem isN_ {p : PV} (h : isNone p = true) : p = .non := by cases p <;> first | rfl | (simp [isNone] at h)
theorem op2_isN : Op2 (cnE LT X ce) (fun x y H Q => y = .non ∧ Q (.bl (decide (x = .non))) H) pvIsN := by
  intro F H p q o va vb Q ra rb e h
  unfold pvIsN at e
  split at e
  · rename_i hb
    cases e
    obtain rfl := isN_ hb
    exact ⟨rb.non, h _ (by rw [ra.isN]; exact RF.bl_)⟩
  · cases e
theorem op2_notN : Op2 (cnE LT X ce) (fun x y H Q => y = .non ∧ Q (.bl (!decide (x = .non))) H) pvNotN := by
  intro F H p q o va vb Q ra rb e h
  unfold pvNotN at e
  split at e
  · rename_i hb
    cases e
    obtain rfl := isN_ hb
    exact ⟨rb.non, h _ (by rw [ra.isN]; exact RF.bl_)⟩
  · cases e
end
end L2.Zz

/-! Z6: comparisons, items, slices, displays, built-ins. -/
namespace L2.Zz
open PySem PySem.Spec PyProof.Rows
variable {LT : LTab} {ce : List (Str × Addr)}

/-! ### comparisons -/
def dCh (f f' : PV → PV → Option Ot) (da db dc : DE) : DE := fun σ => (da σ).bind fun ra σ1 => (db σ1).bind fun rb σ2 => match rd σ2 ra, rd σ2 rb with
  | some a, some b => match f a b with
    | some (.v (.bl true)) => (dc σ2).bind fun rc σ3 => match rd σ3 rb, rd σ3 rc with
      | some b', some c => otR (f' b' c) σ3
      | _, _ => .no
    | some (.v (.bl false)) => .ok (.val (.bl false)) σ2
    | _ => .no
  | _, _ => .no
section
variable {X : Cx} {W : WX} {a b c : Expr} {da db dc : DE} {pos : Pos} {op op' : CmpOp} {r r' : R2} {f f' : PV → PV → Option Ot}
theorem z_cmp (ho : OpR X (compareOp op) r) (hf : Op2 (cnE LT X ce) r f) (ha : PE X a (EV (cnE LT X ce) W da)) (hb : PE X b (EV (cnE LT X ce) W db)) (hm : behindInMarks op b = false) : PE X (.Compare a [op] [b] pos) (EV (cnE LT X ce) W (dOp2 f da db)) :=
  z_op2 hf (pe_cmpR ho ha hb hm)
theorem EV.op2 {c : Cn} {σr : St} {H : Hp} {Q : VK} (hf : Op2 c r f) (h : EV c W (dOp2 f da db) σr H Q) : tOp r (EV c W da) (EV c W db) σr H Q := by
  obtain ⟨F, la, σ, S, x, g⟩ := h.start
  refine EV.seq S x g fun F1 σ1 ra v H1 x1 S1 e1 f1 => ?_
  refine EV.seq S1 x1 f1 fun F2 σ2 rb u H2 x2 S2 e2 f2 => ?_
  have e1' := e1.ext S1 x2
  cases qa : rd σ2 ra with
  | none => simp [qa] at f2; exact f2.elim
  | some p =>
    cases qb : rd σ2 rb with
    | none => simp [qa, qb] at f2; exact f2.elim
    | some p' =>
      rw [qa, qb] at f2
      obtain ⟨o, qf, f3⟩ := otR_fin S2 (x1.trans x2) f2
      exact hf F2 H2 p p' o v u Q (rd_ok S2 e1' qa) (rd_ok S2 e2 qb) qf f3
theorem zt_cmp (ho : OpR X (compareOp op) r) (hf : Op2 (cnE LT X ce) r f) (ha : PE X a (EV (cnE LT X ce) W da)) (hb : PE X b (EV (cnE LT X ce) W db)) (hm : behindInMarks op b = false) : PT X (.Compare a [op] [b] pos) (EVT (cnE LT X ce) W (dB (dOp2 f da db))) :=
  z_B' (pt_cmpR ho ha hb hm) fun _ _ _ q => EV.op2 hf q
theorem EV.chain {c : Cn} {σr : St} {H : Hp} {Q : VK} (hf : Op2 c r f) (hf' : Op2 c r' f') (h : EV c W (dCh f f' da db dc) σr H Q) : tChain r r' (EV c W da) (EV c W db) (EV c W dc) σr H Q := by
  obtain ⟨F, la, σ, S, x, g⟩ := h.start
  refine EV.seq S x g fun F1 σ1 ra v H1 x1 S1 e1 f1 => ?_
  refine EV.seq S1 x1 f1 fun F2 σ2 rb u H2 x2 S2 e2 f2 => ?_
  have e1' := e1.ext S1 x2
  cases qa : rd σ2 ra with
  | none => simp [qa] at f2; exact f2.elim
  | some p =>
    cases qb : rd σ2 rb with
    | none => simp [qa, qb] at f2; exact f2.elim
    | some p' =>
      rw [qa, qb] at f2
      simp only at f2
      cases qf : f p p' with
      | none => rw [qf] at f2; exact f2.elim
      | some o =>
        rw [qf] at f2
        cases o with
        | v z =>
          cases z with
          | bl k =>
            cases k with
            | true =>
              refine hf F2 H2 p p' _ v u _ (rd_ok S2 e1' qa) (rd_ok S2 e2 qb) qf fun w hw => ⟨true, (by unfold RF at hw; exact hw), ?_⟩
              rw [if_pos rfl]
              refine EV.seq S2 (x1.trans x2) f2 fun F3 σ3 rc w' H3 x3 S3 e3 f3 => ?_
              cases qb' : rd σ3 rb with
              | none => simp [qb'] at f3; exact f3.elim
              | some p2 =>
                cases qc : rd σ3 rc with
                | none => simp [qb', qc] at f3; exact f3.elim
                | some p3 =>
                  rw [qb', qc] at f3
                  obtain ⟨o, qf', f4⟩ := otR_fin S3 ((x1.trans x2).trans x3) f3
                  exact hf' F3 H3 p2 p3 o u w' Q (rd_ok S3 (e2.ext S2 x3) qb') (rd_ok S3 e3 qc) qf' f4
            | false =>
              refine hf F2 H2 p p' _ v u _ (rd_ok S2 e1' qa) (rd_ok S2 e2 qb) qf fun w hw => ⟨false, (by unfold RF at hw; exact hw), ?_⟩
              rw [if_neg Bool.false_ne_true]
              have f3 : Fin c W la σr _ (Rs.ok (EVal.val (.bl false)) σ2) (PE0 c la σr _ Q) := f2
              exact f3 F2 H2 (x1.trans x2) S2 _ ER.bl_
          | _ => exact f2.elim
        | _ => exact f2.elim
theorem z_ch (ho : OpR X (compareOp op) r) (ho' : OpR X (compareOp op') r') (hf : Op2 (cnE LT X ce) r f) (hf' : Op2 (cnE LT X ce) r' f') (ha : PE X a (EV (cnE LT X ce) W da)) (hb : PE X b (EV (cnE LT X ce) W db)) (hc : PE X c (EV (cnE LT X ce) W dc)) (hm : lastMarks [op, op'] [b, c] = false := by with_unfolding_all rfl) :
    PE X (.Compare a [op, op'] [b, c] pos) (EV (cnE LT X ce) W (dCh f f' da db dc)) := PE.wk (pe_chain ho ho' ha hb hc hm) fun _ _ _ q => EV.chain hf hf' q
theorem zt_ch (ho : OpR X (compareOp op) r) (ho' : OpR X (compareOp op') r') (hf : Op2 (cnE LT X ce) r f) (hf' : Op2 (cnE LT X ce) r' f') (ha : PE X a (EV (cnE LT X ce) W da)) (hb : PE X b (EV (cnE LT X ce) W db)) (hc : PE X c (EV (cnE LT X ce) W dc)) (hm : lastMarks [op, op'] [b, c] = false := by with_unfolding_all rfl) :
    PT X (.Compare a [op, op'] [b, c] pos) (EVT (cnE LT X ce) W (dB (dCh f f' da db dc))) := z_B' (pt_chain ho ho' ha hb hc hm) fun _ _ _ q => EV.chain hf hf' q
end

/-! ### items -/
def pvIx : PV → PV → Option Ot
  | .lst xs, .int i => (atI xs i).map .v
  | .tup xs, .int i => (atI xs i).map .v
  | _, _ => none
theorem RFs.atI {c : Cn} {F : Addr → Prop} {H : Hp} {ps : List PV} {us : List V} {i : Int} {p : PV} (r : RFs c F H ps us) (e : L2.atI ps i = some p) : ∃ u, L2.atI us i = some u ∧ RF c F H p u := by
  unfold L2.atI at e ⊢
  rw [← r.length]
  cases q : ixN ps.length i with
  | none => rw [q] at e; cases e
  | some j => rw [q] at e; exact r.get (i := j) e
section
variable {X : Cx} {W : WX} {a b : Expr} {da db : DE} {pos : Pos}
theorem op2_ix : Op2 (cnE LT X ce) (fun x y H Q => rIxL X.K x y H Q ∨ rIxT X.K x y H Q) pvIx := by
  intro F H p q o va vb Q ra rb e h
  unfold pvIx at e
  split at e
  · obtain ⟨w, e1, rfl⟩ := Option.map_eq_some_iff.mp e
    obtain ⟨l, us, e2, h1, r1⟩ := ra.lst
    obtain ⟨u, e3, r2⟩ := r1.atI e1
    exact .inl ⟨l, us, _, u, e2, rb.int, h1, e3, h u r2⟩
  · obtain ⟨w, e1, rfl⟩ := Option.map_eq_some_iff.mp e
    obtain ⟨l, us, e2, h1, r1⟩ := ra.tup
    obtain ⟨u, e3, r2⟩ := r1.atI e1
    exact .inr ⟨l, us, _, u, e2, rb.int, h1, e3, h u r2⟩
  · cases e
theorem z_ix (ha : PE X a (EV (cnE LT X ce) W da)) (hb : PE X b (EV (cnE LT X ce) W db)) (hs : PlainIx b := by intro _ _; rfl) : PE X (.Subscript a b pos) (EV (cnE LT X ce) W (dOp2 pvIx da db)) :=
  z_op2 op2_ix (pe_ix (ix_list.or ix_tup) ha hb hs)
end

/-! ### slices -/
abbrev DO := PSt → Rs (Option Int)
def dNo : DO := fun σ => .ok none σ
def dSo (d : DE) : DO := fun σ => (d σ).bind fun r σ1 => match rd σ1 r with
  | some (.int i) => .ok (some i) σ1
  | _ => .no
def cutP (xs : List PV) (lo hi : Option Int) : List PV := (xs.drop (HT.sIx xs.length 0 lo)).take (HT.sIx xs.length xs.length hi - HT.sIx xs.length 0 lo)
def pvSl (lo hi : Option Int) : PV → Option Ot
  | .lst xs => some (.l (cutP xs lo hi))
  | .tup xs => if HT.sIx xs.length 0 lo = 0 ∧ HT.sIx xs.length xs.length hi = xs.length then some (.v (.tup xs)) else some (.t (cutP xs lo hi))
  | _ => none
def dSl (d : DE) (lo hi : DO) : DE := fun σ => (d σ).bind fun r σ1 => (lo σ1).bind fun l σ2 => (hi σ2).bind fun h σ3 => match rd σ3 r with
  | some p => otR (pvSl l h p) σ3
  | none => .no
def EVO (c : Cn) (W : WX) (d : DO) : TO := fun σr H Q => ∃ F la σ, SR c F la σ σr H ∧ Fin c W la σr ⟨F, H, Ow σ σr la⟩ (d σ) fun b _ _ H' => Q b H'
theorem PO.wk {X : Cx} {e : Option Expr} {t t' : TO} (h : PO X e t) (w : ∀ σ H Q, t' σ H Q → t σ H Q) : PO X e t' := ⟨fun pins s σ H Q I q => h.run pins s σ H Q I (w _ _ _ q)⟩
section
variable {X : Cx} {W : WX} {e : Expr} {d : DE} {lo hi : Option Expr} {dl dh : DO} {pos p2 : Pos}
theorem z_no : PO X none (EVO (cnE LT X ce) W dNo) := PO.wk po_none fun σr H Q q => by
  obtain ⟨F, la, σ, S, f⟩ := q
  exact f F H (Ex.refl _) S
theorem z_so (h : PE X e (EV (cnE LT X ce) W d)) : PO X (some e) (EVO (cnE LT X ce) W (dSo d)) := PO.wk (po_some h) fun σr H Q q => by
  obtain ⟨F, la, σ, S, g⟩ := q
  refine ⟨F, la, σ, S, g.bind.mono fun r σ1 F1 H1 x1 S1 f1 v e1 => ?_⟩
  cases qa : rd σ1 r with
  | none => rw [qa] at f1; exact f1.elim
  | some p =>
    rw [qa] at f1
    cases p with
    | int b => exact ⟨b, (rd_ok S1 e1 qa).int, f1 F1 H1 x1 S1⟩
    | _ => exact f1.elim
theorem RFs.cut {c : Cn} {F : Addr → Prop} {H : Hp} {ps : List PV} {us : List V} (r : RFs c F H ps us) (lo hi : Option Int) : RFs c F H (cutP ps lo hi) (cutV us lo hi) := by
  unfold cutP cutV
  rw [← r.length]
  exact (r.drop _).take _
theorem z_sl (h : PE X e (EV (cnE LT X ce) W d)) (hl : PO X lo (EVO (cnE LT X ce) W dl)) (hh : PO X hi (EVO (cnE LT X ce) W dh)) : PE X (.Subscript e (.Slice lo hi none p2) pos) (EV (cnE LT X ce) W (dSl d dl dh)) :=
  PE.wk (pe_slice (sl_list.or sl_tupA) h hl hh) fun σr H Q q => by
    obtain ⟨F, la, σ, S, x, g⟩ := q.start
    refine EV.seq S x g fun F1 σ1 r v H1 x1 S1 e1 f1 => ?_
    refine ⟨F1, la, σ1, S1, (f1.bind.step x1).mono fun l σ2 F2 H2 x2 S2 f2 => ?_⟩
    refine ⟨F2, la, σ2, S2, (f2.bind.step (x1.trans x2)).mono fun u σ3 F3 H3 x3 S3 f3 => ?_⟩
    have e3 := (e1.ext S1 x2).ext S2 x3
    cases qa : rd σ3 r with
    | none => rw [qa] at f3; exact f3.elim
    | some p =>
      rw [qa] at f3
      obtain ⟨o, qf, f4⟩ := otR_fin S3 ((x1.trans x2).trans x3) f3
      have rw3 := rd_ok S3 e3 qa
      unfold pvSl at qf
      split at qf
      · cases qf
        obtain ⟨a, us, e4, h1, r1⟩ := rw3.lst
        exact .inl ⟨a, us, e4, h1, fun p n => f4 p _ n (r1.cut l u)⟩
      · rename_i xs
        obtain ⟨a, us, e4, h1, r1⟩ := rw3.tup
        subst e4
        split at qf
        · rename_i hw
          cases qf
          rw [r1.length] at hw
          exact .inr ⟨a, us, rfl, h1, fun _ => f4 _ (by unfold RF; exact ⟨a, us, rfl, h1, r1⟩), fun z => absurd hw z⟩
        · rename_i hw
          cases qf
          rw [r1.length] at hw
          exact .inr ⟨a, us, rfl, h1, fun z => absurd z hw, fun _ p n => f4 p _ n (r1.cut l u)⟩
      · cases qf
def pvRev : PV → Option Ot
  | .lst xs => some (.l xs.reverse)
  | _ => none
theorem z_rev {k : Nat} {p1 p2 p3 : Pos} (h : PE X e (EV (cnE LT X ce) W d)) : PE X (.Subscript e (.Slice none none (some (.UnaryOp .USub (.Constant (.int 1) k p1) p2)) p3) pos) (EV (cnE LT X ce) W (dOp1 pvRev d)) := by
  refine z_op1 (r := fun x H Q => ∃ a xs, x = .ref a ∧ SqL X.K H a xs ∧ ∀ p, H p = none → Q (.ref p) (upd H p (.lst xs.reverse))) ?_ (pe_revL h)
  intro F H p o va Q ra e hq
  unfold pvRev at e
  split at e
  · cases e
    obtain ⟨a, us, e4, h1, r1⟩ := ra.lst
    exact ⟨a, us, e4, h1, fun p n => hq p _ n r1.reverse⟩
  · cases e
end

theorem fin_if {α : Type} {c : Cn} {W : WX} {la : List Addr} {σr : St} {g : Gh} {C : Prop} [Decidable C] {o : Rs α} {P : α → PSt → (Addr → Prop) → Hp → Prop} (h : Fin c W la σr g (if C then o else .no) P) : C ∧ Fin c W la σr g o P := by
  by_cases hc : C
  · rw [if_pos hc] at h; exact ⟨hc, h⟩
  · rw [if_neg hc] at h; exact h.elim
/-! ### displays -/
def dTup (da : DA) : DE := fun σ => (da σ).bind fun rs σ1 => match vals rs with
  | some ps => if ps.length ≤ szL then .ok (.val (.tup ps)) σ1 else .no
  | none => .no
where vals : List EVal → Option (List PV)
  | [] => some []
  | .val p :: rs => (vals rs).map (p :: ·)
  | _ => none
def dLst (da : DA) : DE := fun σ => (da σ).bind fun rs σ1 => match dTup.vals rs with
  | some ps => if ps.length ≤ szL then .ok (.new (.lst ps)) σ1 else .no
  | none => .no
section
variable {X : Cx} {W : WX} {es : List Expr} {da : DA} {pos : Pos}
theorem vals_ok {c : Cn} {F : Addr → Prop} {la : List Addr} {O N : Addr → Prop} {σr : St} {H : Hp} {rs : List EVal} {vs : List V} (h : ERs c F la O N σr H rs vs) : ∀ {ps : List PV}, dTup.vals rs = some ps → RFs c F H ps vs := by
  induction h with
  | nil => intro ps e; cases e; exact RFs.nil_
  | cons h _ _ ih =>
    rename_i r v rs vs _ _
    intro ps e
    cases r with
    | val p =>
      unfold dTup.vals at e
      obtain ⟨qs, e1, rfl⟩ := Option.map_eq_some_iff.mp e
      exact RFs.cons_ h (ih e1)
    | _ => cases e
theorem z_tup {x1} (h : PA X es (EVA (cnE LT X ce) W da)) : PE X (.Tuple es x1 pos) (EV (cnE LT X ce) W (dTup da)) := PE.wk (pe_tup h) fun σr H Q q => by
  obtain ⟨F, la, σ, S, g⟩ := q
  refine ⟨F, la, σ, S, g.bind.mono fun rs σ1 F1 H1 x1 S1 f1 vs es => ?_⟩
  cases qa : dTup.vals rs with
  | none => rw [qa] at f1; exact f1.elim
  | some ps =>
    rw [qa] at f1
    have r := vals_ok es qa
    obtain ⟨hl, f2⟩ := fin_if f1
    exact ⟨by rw [← r.length, szL_eq]; exact hl, fun p n => ot_fin (o := .t ps) S1 x1 f2 p _ n r⟩
theorem z_lst (h : PA X es (EVA (cnE LT X ce) W da)) : PE X (.List es pos) (EV (cnE LT X ce) W (dLst da)) := PE.wk (pe_lst h) fun σr H Q q => by
  obtain ⟨F, la, σ, S, g⟩ := q
  refine ⟨F, la, σ, S, g.bind.mono fun rs σ1 F1 H1 x1 S1 f1 vs es => ?_⟩
  cases qa : dTup.vals rs with
  | none => rw [qa] at f1; exact f1.elim
  | some ps =>
    rw [qa] at f1
    have r := vals_ok es qa
    obtain ⟨hl, f2⟩ := fin_if f1
    exact ⟨by rw [← r.length, szL_eq]; exact hl, fun p n => ot_fin (o := .l ps) S1 x1 f2 p _ n r⟩
end
end L2.Zz

/-! Z7: built-in calls; what is written in place. -/
namespace L2.Zz
open PySem PySem.Spec PyProof.Rows
variable {LT : LTab} {ce : List (Str × Addr)}

/-! ### built-ins -/
def fnLen : List PV → Option Ot
  | [.lst xs] => some (.v (.int xs.length))
  | [.tup xs] => some (.v (.int xs.length))
  | _ => none
def fnAbs : List PV → Option Ot
  | [.int i] => some (.v (.int (if i < 0 then -i else i)))
  | _ => none
def fnInt : List PV → Option Ot
  | [.int i] => some (.v (.int i))
  | [.bl b] => some (.v (.int (if b then 1 else 0)))
  | _ => none
/-- max and min: of two whole numbers, of a list of whole numbers -/
def asInts : List PV → Option (List Int)
  | [] => some []
  | .int i :: xs => (asInts xs).map (i :: ·)
  | _ => none
def asBls : List PV → Option (List Bool)
  | [] => some []
  | .bl i :: xs => (asBls xs).map (i :: ·)
  | _ => none
def maxL : List Int → Option Int
  | [] => none
  | x :: xs => some (xs.foldl (fun m y => if y > m then y else m) x)
def minL : List Int → Option Int
  | [] => none
  | x :: xs => some (xs.foldl (fun m y => if y < m then y else m) x)
def fnMax : List PV → Option Ot
  | [.int i, .int j] => some (.v (.int (if j > i then j else i)))
  | [.lst xs] => (asInts xs).bind fun ns => (maxL ns).map fun m => .v (.int m)
  | _ => none
def fnMin : List PV → Option Ot
  | [.int i, .int j] => some (.v (.int (if j < i then j else i)))
  | [.lst xs] => (asInts xs).bind fun ns => (minL ns).map fun m => .v (.int m)
  | _ => none
def fnSum : List PV → Option Ot
  | [.lst xs] => (asInts xs).map fun ns => .v (.int ns.sum)
  | _ => none
def fnAll : List PV → Option Ot
  | [.lst xs] => (asBls xs).map fun bs => .v (.bl (bs.all id))
  | _ => none
def fnAny : List PV → Option Ot
  | [.lst xs] => (asBls xs).map fun bs => .v (.bl (bs.any id))
  | _ => none
def fnList : List PV → Option Ot
  | [.lst xs] => some (.l xs)
  | [.tup xs] => some (.l xs)
  | _ => none
def fnTuple : List PV → Option Ot
  | [.lst xs] => some (.t xs)
  | [.tup xs] => some (.v (.tup xs))
  | _ => none
def tyName : PV → Option String
  | .non => some "NoneType"
  | .bl _ => some "bool"
  | .int _ => some "int"
  | .str _ => some "str"
  | .tup _ => some "tuple"
  | .lst _ => some "list"
  | .dct _ _ => some "dict"
  | _ => none
def isB (p : PV) (n : String) : Option Bool := match p with
  | .int _ => if n = "int" then some true else if n = "bool" then some false else if n = "tuple" then some false else if n = "list" then some false else if n = "dict" then some false else if n = "str" then some false else none
  | .bl _ => if n = "int" then some true else if n = "bool" then some true else if n = "tuple" then some false else if n = "list" then some false else if n = "dict" then some false else if n = "str" then some false else none
  | .non => if n = "int" then some false else if n = "bool" then some false else if n = "tuple" then some false else if n = "list" then some false else if n = "dict" then some false else if n = "str" then some false else none
  | .str _ => if n = "int" then some false else if n = "bool" then some false else if n = "tuple" then some false else if n = "list" then some false else if n = "dict" then some false else if n = "str" then some true else none
  | .tup _ => if n = "int" then some false else if n = "bool" then some false else if n = "tuple" then some true else if n = "list" then some false else if n = "dict" then some false else if n = "str" then some false else none
  | .lst _ => if n = "int" then some false else if n = "bool" then some false else if n = "tuple" then some false else if n = "list" then some true else if n = "dict" then some false else if n = "str" then some false else none
  | .dct _ _ => if n = "int" then some false else if n = "bool" then some false else if n = "tuple" then some false else if n = "list" then some false else if n = "dict" then some true else if n = "str" then some false else none
  | _ => none
def fnIsi : List PV → Option Ot
  | [p, .ty n] => (isB p n).map fun b => .v (.bl b)
  | _ => none

section
variable {c : Cn} {F : Addr → Prop} {H : Hp}
theorem RWs.one {p : PV} {vs : List V} (h : RWs c F H [p] vs) : ∃ v, vs = [v] ∧ RW c F H p v := by
  cases h with
  | cons h t => cases t; exact ⟨_, rfl, h⟩
theorem RWs.two {p q : PV} {vs : List V} (h : RWs c F H [p, q] vs) : ∃ v u, vs = [v, u] ∧ RW c F H p v ∧ RW c F H q u := by
  cases h with
  | cons h t =>
    obtain ⟨u, rfl, h2⟩ := t.one
    exact ⟨_, _, rfl, h, h2⟩
theorem asInts_ok : ∀ {xs : List PV} {us : List V} {ns : List Int}, RFs c F H xs us → asInts xs = some ns → us = ns.map V.int
  | [], us, ns, r, e => by unfold RFs at r; subst r; rw [asInts] at e; cases e; rfl
  | x :: xs, us, ns, r, e => by
    unfold RFs at r
    obtain ⟨u, r', rfl, h1, h2⟩ := r
    cases x with
    | int i =>
      rw [asInts] at e
      obtain ⟨ms, e1, rfl⟩ := Option.map_eq_some_iff.mp e
      unfold RF at h1
      subst h1
      rw [asInts_ok h2 e1]; rfl
    | _ => simp [asInts] at e
theorem asBls_ok : ∀ {xs : List PV} {us : List V} {ns : List Bool}, RFs c F H xs us → asBls xs = some ns → us = ns.map V.bl
  | [], us, ns, r, e => by unfold RFs at r; subst r; rw [asBls] at e; cases e; rfl
  | x :: xs, us, ns, r, e => by
    unfold RFs at r
    obtain ⟨u, r', rfl, h1, h2⟩ := r
    cases x with
    | bl i =>
      rw [asBls] at e
      obtain ⟨ms, e1, rfl⟩ := Option.map_eq_some_iff.mp e
      unfold RF at h1
      subst h1
      rw [asBls_ok h2 e1]; rfl
    | _ => simp [asBls] at e
theorem foldl_max : ∀ (xs : List Int) (x : Int), (xs.foldl (fun m y => if y > m then y else m) x ∈ x :: xs) ∧ ∀ y ∈ x :: xs, y ≤ xs.foldl (fun m y => if y > m then y else m) x
  | [], x => by simp
  | z :: zs, x => by
    obtain ⟨h1, h2⟩ := foldl_max zs (if z > x then z else x)
    simp only [List.foldl_cons]
    constructor
    · rcases List.mem_cons.mp h1 with h | h
      · rw [h]; split <;> simp
      · simp [h]
    · intro y hy
      have h3 := h2 (if z > x then z else x) (by simp)
      have hx : x ≤ (if z > x then z else x) := by split <;> omega
      have hz : z ≤ (if z > x then z else x) := by split <;> omega
      rcases List.mem_cons.mp hy with e | hy
      · subst e; exact Int.le_trans hx h3
      · rcases List.mem_cons.mp hy with e | hy
        · subst e; exact Int.le_trans hz h3
        · exact h2 y (by simp [hy])
theorem foldl_min : ∀ (xs : List Int) (x : Int), (xs.foldl (fun m y => if y < m then y else m) x ∈ x :: xs) ∧ ∀ y ∈ x :: xs, xs.foldl (fun m y => if y < m then y else m) x ≤ y
  | [], x => by simp
  | z :: zs, x => by
    obtain ⟨h1, h2⟩ := foldl_min zs (if z < x then z else x)
    simp only [List.foldl_cons]
    constructor
    · rcases List.mem_cons.mp h1 with h | h
      · rw [h]; split <;> simp
      · simp [h]
    · intro y hy
      have h3 := h2 (if z < x then z else x) (by simp)
      have hx : (if z < x then z else x) ≤ x := by split <;> omega
      have hz : (if z < x then z else x) ≤ z := by split <;> omega
      rcases List.mem_cons.mp hy with e | hy
      · subst e; exact Int.le_trans h3 hx
      · rcases List.mem_cons.mp hy with e | hy
        · subst e; exact Int.le_trans h3 hz
        · exact h2 y (by simp [hy])
theorem maxL_ok {ns : List Int} {m : Int} (h : maxL ns = some m) : m ∈ ns ∧ ∀ y ∈ ns, y ≤ m := by
  cases ns with
  | nil => cases h
  | cons x xs => cases h; exact foldl_max xs x
theorem minL_ok {ns : List Int} {m : Int} (h : minL ns = some m) : m ∈ ns ∧ ∀ y ∈ ns, m ≤ y := by
  cases ns with
  | nil => cases h
  | cons x xs => cases h; exact foldl_min xs x
end
section
variable {X : Cx}
abbrev rLen (K : PySem.W.Frag) : List V → Hp → VK → Prop := fun xs H Q => ∃ p ys, xs = [.ref p] ∧ (SqL K H p ys ∨ SqT K H p ys) ∧ Q (.int ys.length) H
theorem opn_len : OpN (cnE LT X ce) (rLen X.K) fnLen := by
  intro F H ps o vs Q rs e h
  unfold fnLen at e
  split at e
  · cases e
    obtain ⟨v, rfl, r⟩ := rs.one
    obtain ⟨a, us, rfl, h1, r1⟩ := r.lst
    exact ⟨a, us, rfl, .inl h1, h _ (by rw [← r1.length]; exact RF.int_)⟩
  · cases e
    obtain ⟨v, rfl, r⟩ := rs.one
    obtain ⟨a, us, rfl, h1, r1⟩ := r.tup
    exact ⟨a, us, rfl, .inr h1, h _ (by rw [← r1.length]; exact RF.int_)⟩
  · cases e
theorem opn_abs : OpN (cnE LT X ce) (fun xs H Q => ∃ i, xs = [.int i] ∧ Q (.int (if i < 0 then -i else i)) H) fnAbs := by
  intro F H ps o vs Q rs e h
  unfold fnAbs at e
  split at e
  · cases e
    obtain ⟨v, rfl, r⟩ := rs.one
    exact ⟨_, by rw [r.int], h _ RF.int_⟩
  · cases e
theorem opn_int : OpN (cnE LT X ce) (fun xs H Q => (∃ i, xs = [.int i] ∧ Q (.int i) H) ∨ ∃ k, xs = [.bl k] ∧ Q (.int (if k then 1 else 0)) H) fnInt := by
  intro F H ps o vs Q rs e h
  unfold fnInt at e
  split at e
  · cases e
    obtain ⟨v, rfl, r⟩ := rs.one
    exact .inl ⟨_, by rw [r.int], h _ RF.int_⟩
  · cases e
    obtain ⟨v, rfl, r⟩ := rs.one
    exact .inr ⟨_, by rw [r.bl], h _ RF.int_⟩
  · cases e
def rMaxZ (K : PySem.W.Frag) : List V → Hp → VK → Prop := fun xs H Q => (∃ i j, xs = [.int i, .int j] ∧ Q (.int (if j > i then j else i)) H) ∨ rMax K xs H Q
def rMinZ (K : PySem.W.Frag) : List V → Hp → VK → Prop := fun xs H Q => (∃ i j, xs = [.int i, .int j] ∧ Q (.int (if j < i then j else i)) H) ∨ rMin K xs H Q
theorem cr_maxZ (hc : X.calm = true) : CallR X (.builtin "max") (rMaxZ X.K) := (call_max2 hc).or (cr_max hc)
theorem cr_minZ (hc : X.calm = true) : CallR X (.builtin "min") (rMinZ X.K) := (call_min2 hc).or (cr_min hc)
theorem opn_max : OpN (cnE LT X ce) (rMaxZ X.K) fnMax := by
  intro F H ps o vs Q rs e h
  unfold fnMax at e
  split at e
  · cases e
    obtain ⟨v, u, rfl, r, r2⟩ := rs.two
    exact .inl ⟨_, _, by rw [r.int, r2.int], h _ RF.int_⟩
  · obtain ⟨ns, e1, e2⟩ := Option.bind_eq_some_iff.mp e
    obtain ⟨m, e3, rfl⟩ := Option.map_eq_some_iff.mp e2
    obtain ⟨v, rfl, r⟩ := rs.one
    obtain ⟨a, us, rfl, h1, r1⟩ := r.lst
    have := asInts_ok r1 e1
    subst this
    obtain ⟨m1, m2⟩ := maxL_ok e3
    refine .inr ⟨a, ns, rfl, h1, by cases ns <;> simp_all [maxL], fun m' hm hle => ?_⟩
    have : m' = m := Int.le_antisymm (m2 m' hm) (hle m m1)
    rw [this]
    exact h _ RF.int_
  · cases e
theorem opn_min : OpN (cnE LT X ce) (rMinZ X.K) fnMin := by
  intro F H ps o vs Q rs e h
  unfold fnMin at e
  split at e
  · cases e
    obtain ⟨v, u, rfl, r, r2⟩ := rs.two
    exact .inl ⟨_, _, by rw [r.int, r2.int], h _ RF.int_⟩
  · obtain ⟨ns, e1, e2⟩ := Option.bind_eq_some_iff.mp e
    obtain ⟨m, e3, rfl⟩ := Option.map_eq_some_iff.mp e2
    obtain ⟨v, rfl, r⟩ := rs.one
    obtain ⟨a, us, rfl, h1, r1⟩ := r.lst
    have := asInts_ok r1 e1
    subst this
    obtain ⟨m1, m2⟩ := minL_ok e3
    refine .inr ⟨a, ns, rfl, h1, by cases ns <;> simp_all [minL], fun m' hm hle => ?_⟩
    have : m' = m := Int.le_antisymm (hle m m1) (m2 m' hm)
    rw [this]
    exact h _ RF.int_
  · cases e
theorem opn_sum : OpN (cnE LT X ce) (rSum X.K) fnSum := by
  intro F H ps o vs Q rs e h
  unfold fnSum at e
  split at e
  · obtain ⟨ns, e1, rfl⟩ := Option.map_eq_some_iff.mp e
    obtain ⟨v, rfl, r⟩ := rs.one
    obtain ⟨a, us, rfl, h1, r1⟩ := r.lst
    have := asInts_ok r1 e1
    subst this
    exact ⟨a, ns, rfl, h1, h _ RF.int_⟩
  · cases e
theorem opn_all : OpN (cnE LT X ce) (rAll X.K) fnAll := by
  intro F H ps o vs Q rs e h
  unfold fnAll at e
  split at e
  · obtain ⟨ns, e1, rfl⟩ := Option.map_eq_some_iff.mp e
    obtain ⟨v, rfl, r⟩ := rs.one
    obtain ⟨a, us, rfl, h1, r1⟩ := r.lst
    have := asBls_ok r1 e1
    subst this
    exact ⟨a, ns, rfl, h1, h _ RF.bl_⟩
  · cases e
theorem opn_any : OpN (cnE LT X ce) (rAny X.K) fnAny := by
  intro F H ps o vs Q rs e h
  unfold fnAny at e
  split at e
  · obtain ⟨ns, e1, rfl⟩ := Option.map_eq_some_iff.mp e
    obtain ⟨v, rfl, r⟩ := rs.one
    obtain ⟨a, us, rfl, h1, r1⟩ := r.lst
    have := asBls_ok r1 e1
    subst this
    exact ⟨a, ns, rfl, h1, h _ RF.bl_⟩
  · cases e
abbrev rList (K : PySem.W.Frag) : List V → Hp → VK → Prop := fun xs H Q => ∃ p ys, xs = [.ref p] ∧ (SqL K H p ys ∨ SqT K H p ys) ∧ ∀ l, H l = none → Q (.ref l) (upd H l (.lst ys))
theorem opn_list : OpN (cnE LT X ce) (rList X.K) fnList := by
  intro F H ps o vs Q rs e h
  unfold fnList at e
  split at e
  · cases e
    obtain ⟨v, rfl, r⟩ := rs.one
    obtain ⟨a, us, rfl, h1, r1⟩ := r.lst
    exact ⟨a, us, rfl, .inl h1, fun l n => h l us n r1⟩
  · cases e
    obtain ⟨v, rfl, r⟩ := rs.one
    obtain ⟨a, us, rfl, h1, r1⟩ := r.tup
    exact ⟨a, us, rfl, .inr h1, fun l n => h l us n r1⟩
  · cases e
abbrev rTuple (K : PySem.W.Frag) : List V → Hp → VK → Prop := fun xs H Q => ∃ p ys, xs = [.ref p] ∧ ((SqL K H p ys ∧ ∀ l, H l = none → Q (.ref l) (upd H l (.tup ys))) ∨ (SqT K H p ys ∧ Q (.ref p) H))
theorem opn_tuple : OpN (cnE LT X ce) (rTuple X.K) fnTuple := by
  intro F H ps o vs Q rs e h
  unfold fnTuple at e
  split at e
  · cases e
    obtain ⟨v, rfl, r⟩ := rs.one
    obtain ⟨a, us, rfl, h1, r1⟩ := r.lst
    exact ⟨a, us, rfl, .inl ⟨h1, fun l n => h l us n r1⟩⟩
  · cases e
    obtain ⟨v, rfl, r⟩ := rs.one
    obtain ⟨a, us, rfl, h1, r1⟩ := r.tup
    exact ⟨a, us, rfl, .inr ⟨h1, h _ (by unfold RF; exact ⟨a, us, rfl, h1, r1⟩)⟩⟩
  · cases e
/-! isinstance -/
theorem kit_rw {pins : List (Addr × Obj)} {σr : St} {F : Addr → Prop} {H : Hp} {s : Shared} {x : V} {u : Value} {p : PV} {t : String} (I : Inv X pins σr H s) (rx : RelV x u) (r : RW (cnE LT X ce) F H p x) (e : tyName p = some t) :
    ∃ P : Heap → Prop, PySem.W.KitX X.K u (.type t) P ∧ P s.heap ∧ u ≠ .builtin "__main__.__loader__#opaque" := by
  cases p with
  | non => cases e; obtain rfl := r.non; cases (show u = Value.none from rx); exact ⟨_, PySem.W.kitx_none, True.intro, fun z => nomatch z⟩
  | bl b => cases e; obtain rfl := r.bl; cases (show u = Value.bool b from rx); exact ⟨_, PySem.W.kitx_bool, True.intro, fun z => nomatch z⟩
  | int i => cases e; obtain rfl := r.int; obtain ⟨t, q⟩ := (show ∃ t, u = Value.int i t from rx); cases q; exact ⟨_, PySem.W.kitx_int, True.intro, fun z => nomatch z⟩
  | str i => cases e; obtain rfl := r.str; obtain ⟨t, q⟩ := (show ∃ t, u = Value.str i t from rx); cases q; exact ⟨_, PySem.W.kitx_str, True.intro, fun z => nomatch z⟩
  | tup xs =>
    cases e
    obtain ⟨a, us, rfl, h1, r1⟩ := r.tup
    cases (show u = Value.ref a from rx)
    obtain ⟨its, _, ⟨o, ho, hc, _⟩, _⟩ := I.tuple h1
    exact ⟨_, PySem.W.kitx_tuple, ⟨o, ho, hc⟩, fun z => nomatch z⟩
  | lst xs =>
    cases e
    obtain ⟨a, us, rfl, h1, r1⟩ := r.lst
    cases (show u = Value.ref a from rx)
    obtain ⟨its, _, ⟨o, n, ho, hc, _⟩, _⟩ := I.list h1
    exact ⟨_, PySem.W.kitx_list, ⟨o, ho, hc⟩, fun z => nomatch z⟩
  | dct ks vs =>
    cases e
    obtain ⟨a, xs, us, rfl, ⟨_, _, _, ob, es, ep, e, ex, _⟩, _⟩ := r.dct
    cases (show u = Value.ref a from rx)
    have hh : ObjOk X.prog X.w H s.heap a (.ext fun h => h.get? a = some ob) := I.hok a _ e
    exact ⟨_, PySem.W.kitx_dict, ⟨ob, hh.1, ex.1⟩, fun z => nomatch z⟩
  | _ => cases e
theorem isB_ok {p : PV} {n t : String} {b : Bool} (e : tyName p = some t) (h : isB p n = some b) : kitB t n = some b := by
  unfold isB at h
  cases p <;> simp only [tyName] at e <;> cases e <;>
    (simp only at h
     repeat' (first
       | (split at h; · (subst_vars; cases h; decide +kernel))
       | (cases h; done)))
def rIsiZ (LT : LTab) (X : Cx) : List V → Hp → VK → Prop := fun xs H Q => ∃ (x : V) (n t : String) (b : Bool) (F : Addr → Prop) (p : PV), xs = [x, .ty n] ∧ RW (cnE LT X []) F H p x ∧ tyName p = some t ∧ isB p n = some b ∧ Q (.bl b) H
theorem cr_isiZ : CallR X (.builtin "isinstance") (rIsiZ LT X) := by
  intro pins s σ H xs us Q I r h
  obtain ⟨x, n, t, b, F, p, rfl, rw_, et, eb, q⟩ := h
  obtain ⟨u1, u2, rfl, r1, r2⟩ := vals2 r
  cases (show u2 = Value.type n from r2)
  obtain ⟨P, Z, pp, hx⟩ := kit_rw I r1 rw_ et
  exact PySem.W.kia_one Z I.kIn pp (kit_ty (isB_ok et eb)) hx fun tk => ⟨.bl b, H, I.tok tk, rfl, q⟩
theorem opn_isi : OpN (cnE LT X ce) (rIsiZ LT X) fnIsi := by
  intro F H ps o vs Q rs e h
  unfold fnIsi at e
  split at e
  · rename_i p n
    obtain ⟨b, e1, rfl⟩ := Option.map_eq_some_iff.mp e
    obtain ⟨v, u, rfl, r, r2⟩ := rs.two
    obtain rfl := r2.ty
    cases et : tyName p with
    | none => cases p <;> simp [tyName] at et <;> simp [isB] at e1
    | some t => exact ⟨v, n, t, b, F, p, rfl, r, et, e1, h _ RF.bl_⟩
  · cases e
variable {W : WX} {e : Expr} {es : List Expr} {da : DA} {x : Str} {p pos : Pos} {id T : String} {r : List V → Hp → VK → Prop} {f : List PV → Option Ot}
theorem z_cB (hf : OpN (cnE LT X ce) r f) (hc : CallR X (.builtin id) r) (hg : Gl X x) (hm : X.mg x = none) (hv : bootBuiltins x = some (.builtin id)) (ha : PA X (e :: es) (EVA (cnE LT X ce) W da)) (hn : x ≠ "__name__" := by decide) (hdb : (x == ("__debug__" : Str)) = false := by decide)
    (he : starEach (e :: es) X.env = (false, eval e X.env) :: starEach es X.env := by rfl) (hpl : (backTo pos (starEach es X.env)).any (·.1) = false := by rfl) : PE X (.Call (.Name x p) (e :: es) [] pos) (EV (cnE LT X ce) W (dCB f da)) :=
  z_cb hf (pe_callB hc hg hm hv ha hn hdb he hpl)
theorem z_cT (hf : OpN (cnE LT X ce) r f) (hc : CallR X (.type T) r) (hg : Gl X x) (hm : X.mg x = none) (hv : bootBuiltins x = some (.type T)) (ha : PA X (e :: es) (EVA (cnE LT X ce) W da)) (hn : x ≠ "__name__" := by decide) (hdb : (x == ("__debug__" : Str)) = false := by decide)
    (he : starEach (e :: es) X.env = (false, eval e X.env) :: starEach es X.env := by rfl) (hpl : (backTo pos (starEach es X.env)).any (·.1) = false := by rfl) : PE X (.Call (.Name x p) (e :: es) [] pos) (EV (cnE LT X ce) W (dCB f da)) :=
  z_cb hf (pe_callTy hc hg hm hv ha hn hdb he hpl)
end

/-! ### in place -/
def wr (r : EVal) (p : PV) (σ : PSt) : Option PSt := match r with
  | .at i => match σ.sl[i]? with
    | some (some (.own _)) => some ⟨σ.sl.set i (some (.own p)), σ.ln⟩
    | _ => none
  | .lo k => if k < σ.ln.length then some ⟨σ.sl, σ.ln.set k p⟩ else none
  | .new _ => some σ
  | _ => none
/-- the receiver's content, the arguments' values: the answer, the new content -/
abbrev Mf := PV → List PV → Option (Ot × PV)
def dMut (f : Mf) (d : DE) (da : DA) : DE := fun σ => (d σ).bind fun r σ1 => (da σ1).bind fun rs σ2 => match rd σ2 r, dTup.vals rs with
  | some p, some ps => match f p ps with
    | some (o, q) => match wr r q σ2 with
      | some σ3 => otR (some o) σ3
      | none => .no
    | none => .no
  | _, _ => .no
section
variable {c : Cn} {F : Addr → Prop} {la : List Addr} {σ σ' : PSt} {σr : St} {H : Hp}
/-- a value that may be written, with where it stands -/
theorem wr_at (S : SR c F la σ σr H) {g : Gh} (x : Ex g ⟨F, H, Ow σ σr la⟩) {r : EVal} {v : V} {p q : PV} (h : ER c F la (Ow σ σr la) (Nw g) σr H r v) (e : rd σ r = some p) (ew : wr r q σ = some σ') :
    ∃ a, v = .ref a ∧ RO c F H p a ∧ ¬ F a ∧ Nw g a ∧ ∀ o, RO c F (upd H a o) q a → Ex g ⟨F, upd H a o, Ow σ' σr la⟩ ∧ SR c F la σ' σr (upd H a o) := by
  have main : ∀ a, RO c F H p a → ¬ F a → Nw g a → (∀ b, Ow σ' σr la b → Ow σ σr la b) → (∀ o, RO c F (upd H a o) q a →
      (∀ b u, H b = some u → (F b ∨ Stl u) → upd H a o b = some u) → (∀ b, b ≠ a → upd H a o b = H b) → TabsZ c.LT.T (upd H a o) → SR c F la σ' σr (upd H a o)) →
      (RO c F H p a ∧ ¬ F a ∧ Nw g a ∧ ∀ o, RO c F (upd H a o) q a → Ex g ⟨F, upd H a o, Ow σ' σr la⟩ ∧ SR c F la σ' σr (upd H a o)) := by
    intro a r nf nn ho hS
    refine ⟨r, nf, nn, fun o ro => ⟨⟨x.fr, fun b u e n nt => ?_, fun b ps e => ?_, fun b z => x.ow b (ho b z), x.fn⟩, ?_⟩⟩
    · have hb : b ≠ a := fun z => by
        subst z
        rcases nn with z | z
        · exact n z
        · rw [e] at z; cases z
      show upd H a o b = some u
      rw [upd_ne hb]
      exact x.kp b u e n nt
    · obtain ⟨qs, e2⟩ := x.tb b ps e
      have hb : b ≠ a := fun z => by
        subst z
        exact r.noT e2 qs rfl
      exact ⟨qs, by show upd H a o b = _; rw [upd_ne hb]; exact e2⟩
    · obtain ⟨u0, e0, ns⟩ := r.there
      refine hS o ro (fun b u e h => ?_) (fun b hb => upd_ne hb) (S.tabs.ext fun b u e h => ?_)
      rotate_left
      · have hb : b ≠ a := fun z => by
          subst z
          rw [e0] at e; cases e
          rcases h with h | ⟨ps, h⟩
          · exact ns h
          · exact r.noT e0 ps h
        rw [upd_ne hb]
        exact e
      have hb : b ≠ a := fun z => by
        subst z
        rw [e0] at e; cases e
        rcases h with h | h
        · exact nf h
        · exact ns h
      rw [upd_ne hb]
      exact e
  cases r with
  | val w => cases ew
  | clo w => cases ew
  | clos w => cases ew
  | new w =>
    cases ew
    cases e
    obtain ⟨a, rfl, r, nf, no, nn⟩ := h
    refine ⟨a, rfl, main a r nf nn (fun _ z => z) fun o ro k kb tb => ?_⟩
    refine ⟨S.len, fun i v e => ?_, S.lo, fun i v e => ?_, S.inj, S.lln, S.lnd, fun j v b e e1 => ?_, fun b f => ?_, fun j ks e => ?_, tb⟩
    · obtain ⟨u, e1, r⟩ := S.frz i v e
      exact ⟨u, e1, RF.ext (fun _ f => f) k _ _ r⟩
    · obtain ⟨b, e1, r, n, m⟩ := S.own i v e
      have hb : b ≠ a := fun z => no (by subst z; exact .inr ⟨i, v, e, e1⟩)
      exact ⟨b, e1, r.ext (fun _ f => f) k fun u e => by rw [kb b hb]; exact e, n, m⟩
    · obtain ⟨r, n⟩ := S.ln j v b e e1
      have hb : b ≠ a := fun z => no (by subst z; exact .inl (List.mem_of_getElem? e1))
      exact ⟨r.ext (fun _ f => f) k fun u e => by rw [kb b hb]; exact e, n⟩
    · obtain ⟨u, e, n⟩ := S.ftr b f
      exact ⟨u, k b u e (.inl f), n⟩
    · obtain ⟨u, e1, r⟩ := S.clo j ks e
      exact ⟨u, e1, r.ext (fun _ f => f) k⟩
  | «at» i =>
    have h' : σr[i]? = some (some v) := h
    rw [wr] at ew
    cases qs : σ.sl[i]? with
    | none => rw [qs] at ew; cases ew
    | some t =>
      cases t with
      | none => rw [qs] at ew; cases ew
      | some t =>
        rw [qs] at ew
        cases t with
        | own w =>
          cases ew
          rw [rd, qs] at e
          cases e
          obtain ⟨a, e2, r, nf, nl⟩ := S.own i p qs
          rw [h'] at e2; cases e2
          have hi : i < σ.sl.length := (List.getElem?_eq_some_iff.mp qs).1
          have old : ∀ (j : Nat) (s : Sl), j ≠ i → (σ.sl.set i (some (.own q)))[j]? = some (some s) → σ.sl[j]? = some (some s) := fun j s hj e => by
            rw [List.getElem?_set_ne (Ne.symm hj)] at e; exact e
          refine ⟨a, rfl, main a r nf (x.ow a (.inr ⟨i, p, qs, h'⟩)) (fun b z => ?_) fun o ro k kb tb => ?_⟩
          · rcases z with z | ⟨j, w, e1, e2⟩
            · exact .inl z
            · by_cases hj : j = i
              · subst hj
                rw [h'] at e2; cases e2
                exact .inr ⟨j, p, qs, h'⟩
              · exact .inr ⟨j, w, old j _ hj e1, e2⟩
          · refine ⟨by simpa using S.len, fun j v e => ?_, fun j kk e => ?_, fun j v e => ?_, fun j j' v w b e1 e2 e3 e4 => ?_, S.lln, S.lnd, fun j v b e e1 => ?_, fun b f => ?_, fun j ks e => ?_, tb⟩
            · by_cases hj : j = i
              · subst hj
                have e' : some (some (Sl.own q)) = some (some (Sl.frz v)) := (List.getElem?_set_self hi).symm.trans e
                cases e'
              · obtain ⟨u, e1, r⟩ := S.frz j v (old j _ hj e)
                exact ⟨u, e1, RF.ext (fun _ f => f) k _ _ r⟩
            · by_cases hj : j = i
              · subst hj
                have e' : some (some (Sl.own q)) = some (some (Sl.lo kk)) := (List.getElem?_set_self hi).symm.trans e
                cases e'
              · exact S.lo j kk (old j _ hj e)
            · by_cases hj : j = i
              · subst hj
                have e' : some (some (Sl.own q)) = some (some (Sl.own v)) := (List.getElem?_set_self hi).symm.trans e
                cases e'
                exact ⟨a, h', ro, nf, nl⟩
              · obtain ⟨b, e1, r, n, m⟩ := S.own j v (old j _ hj e)
                have hb : b ≠ a := fun z => hj (by subst z; exact S.inj j i v p b (old j _ hj e) qs e1 h')
                exact ⟨b, e1, r.ext (fun _ f => f) k fun u e => by rw [kb b hb]; exact e, n, m⟩
            · have fix : ∀ (j : Nat) (v : PV), (σ.sl.set i (some (.own q)))[j]? = some (some (Sl.own v)) → ∃ v', σ.sl[j]? = some (some (Sl.own v')) := fun j v e => by
                by_cases hj : j = i
                · subst hj; exact ⟨p, qs⟩
                · exact ⟨v, old j _ hj e⟩
              obtain ⟨v', e1'⟩ := fix j v e1
              obtain ⟨w', e2'⟩ := fix j' w e2
              exact S.inj j j' v' w' b e1' e2' e3 e4
            · obtain ⟨r, n⟩ := S.ln j v b e e1
              have hb : b ≠ a := fun z => nl (by subst z; exact List.mem_of_getElem? e1)
              exact ⟨r.ext (fun _ f => f) k fun u e => by rw [kb b hb]; exact e, n⟩
            · obtain ⟨u, e, n⟩ := S.ftr b f
              exact ⟨u, k b u e (.inl f), n⟩
            · by_cases hj : j = i
              · subst hj
                have e' : some (some (Sl.own q)) = some (some (Sl.clos ks)) := (List.getElem?_set_self hi).symm.trans e
                cases e'
              · obtain ⟨u, e1, r⟩ := S.clo j ks (old j _ hj e)
                exact ⟨u, e1, r.ext (fun _ f => f) k⟩
        | _ => cases ew
  | lo j =>
    obtain ⟨a, rfl, hk⟩ := h
    rw [wr] at ew
    by_cases hj : j < σ.ln.length
    · rw [if_pos hj] at ew
      cases ew
      have e' : σ.ln[j]? = some p := e
      obtain ⟨r, nf⟩ := S.ln j p a e' hk
      have mem : a ∈ la := List.mem_of_getElem? hk
      refine ⟨a, rfl, main a r nf (x.ow a (.inl mem)) (fun b z => z) fun o ro k kb tb => ?_⟩
      refine ⟨S.len, fun i v e => ?_, S.lo, fun i v e => ?_, S.inj, by simpa using S.lln, S.lnd, fun i v b e e1 => ?_, fun b f => ?_, fun i ks e => ?_, tb⟩
      · obtain ⟨u, e1, r⟩ := S.frz i v e
        exact ⟨u, e1, RF.ext (fun _ f => f) k _ _ r⟩
      · obtain ⟨b, e1, r, n, m⟩ := S.own i v e
        have hb : b ≠ a := fun z => m (by subst z; exact mem)
        exact ⟨b, e1, r.ext (fun _ f => f) k fun u e => by rw [kb b hb]; exact e, n, m⟩
      · by_cases hi : i = j
        · subst hi
          have e2 : some q = some v := (List.getElem?_set_self hj).symm.trans e
          cases e2
          rw [hk] at e1; cases e1
          exact ⟨ro, nf⟩
        · have e2 : σ.ln[i]? = some v := (List.getElem?_set_ne (Ne.symm hi)).symm.trans e
          obtain ⟨r, n⟩ := S.ln i v b e2 e1
          have hb : b ≠ a := fun z => hi (by
            subst z
            obtain ⟨h1, e3⟩ := List.getElem?_eq_some_iff.mp e1
            obtain ⟨h2, e4⟩ := List.getElem?_eq_some_iff.mp hk
            exact (List.getElem_inj S.lnd).mp (e3.trans e4.symm))
          exact ⟨r.ext (fun _ f => f) k fun u e => by rw [kb b hb]; exact e, n⟩
      · obtain ⟨u, e, n⟩ := S.ftr b f
        exact ⟨u, k b u e (.inl f), n⟩
      · obtain ⟨u, e1, r⟩ := S.clo i ks e
        exact ⟨u, e1, r.ext (fun _ f => f) k⟩
    · rw [if_neg hj] at ew; cases ew
end
end L2.Zz

/-! Z8: methods that write, statements, loops. -/
namespace L2.Zz
open PySem PySem.Spec PyProof.Rows
variable {LT : LTab} {ce : List (Str × Addr)}

/-! ### methods of lists -/
def isLst : Option PV → Bool
  | some (.lst _) => true
  | _ => false
def dMutL (f : Mf) (d : DE) (da : DA) : DE := fun σ => (d σ).bind fun r σ1 => if isLst (rd σ1 r) = true then (da σ1).bind fun rs σ2 => match rd σ2 r, dTup.vals rs with
  | some p, some ps => match f p ps with
    | some (o, q) => match wr r q σ2 with
      | some σ3 => otR (some o) σ3
      | none => .no
    | none => .no
  | _, _ => .no else .no
def OpM (c : Cn) (r : V → List V → Hp → VK → Prop) (f : Mf) : Prop := ∀ F H a p ps vs o q Q, RO c F H p a → RFs c F H ps vs → f p ps = some (o, q) → (∀ b u, H b = some u → (F b ∨ Stl u) → ∀ ob, upd H a ob b = some u) →
  (∀ ob, RO c F (upd H a ob) q a → OtP c F (upd H a ob) o Q) → r (.ref a) vs H Q
def mAppend : Mf
  | .lst xs, [y] => if xs.length < szL then some (.v .non, .lst (xs ++ [y])) else none
  | _, _ => none
def mPop : Mf
  | .lst xs, [] => (xs[xs.length - 1]?).map fun y => (.v y, .lst xs.dropLast)
  | _, _ => none
def mClear : Mf
  | .lst _, [] => some (.v .non, .lst [])
  | _, _ => none
def mReverse : Mf
  | .lst xs, [] => some (.v .non, .lst xs.reverse)
  | _, _ => none
section
variable {c : Cn}
theorem RFs.dropLast {F : Addr → Prop} {H : Hp} {ps : List PV} {us : List V} (r : RFs c F H ps us) : RFs c F H ps.dropLast us.dropLast := by
  rw [List.dropLast_eq_take, List.dropLast_eq_take, ← r.length]
  exact r.take _
theorem opm_append : OpM c rAppend mAppend := by
  intro F H a p ps vs o q Q ro rs e k h
  unfold mAppend at e
  split at e
  · split at e
    · rename_i xs y hl
      cases e
      obtain ⟨us, e1, r1⟩ := ro
      unfold RFs at rs
      obtain ⟨u, r, rfl, h1, h2⟩ := rs
      unfold RFs at h2
      subst h2
      have kk := fun b o e s => k b o e s (.lst (us ++ [u]))
      refine ⟨a, us, u, rfl, rfl, e1, by rw [← r1.length, szL_eq]; exact hl, h _ ?_ _ RF.non_⟩
      exact ⟨_, upd_same, (RFs.ext (fun _ f => f) kk _ _ r1).append (RFs.cons_ (RF.ext (fun _ f => f) kk _ _ h1) RFs.nil_)⟩
    · cases e
  · cases e
theorem opm_pop : OpM c rPop mPop := by
  intro F H a p ps vs o q Q ro rs e k h
  unfold mPop at e
  split at e
  · rename_i xs
    obtain ⟨y, e1, e2⟩ := Option.map_eq_some_iff.mp e
    cases e2
    obtain ⟨us, e3, r1⟩ := ro
    unfold RFs at rs
    subst rs
    obtain ⟨u, e4, r2⟩ := r1.get e1
    have kk := fun b o e s => k b o e s (.lst us.dropLast)
    refine ⟨a, us, u, rfl, rfl, e3, by rw [← r1.length]; exact e4, h _ ?_ _ (RF.ext (fun _ f => f) kk _ _ r2)⟩
    exact ⟨_, upd_same, (RFs.ext (fun _ f => f) kk _ _ r1).dropLast⟩
  · cases e
theorem opm_clear : OpM c rClear mClear := by
  intro F H a p ps vs o q Q ro rs e k h
  unfold mClear at e
  split at e
  · cases e
    obtain ⟨us, e3, r1⟩ := ro
    unfold RFs at rs
    subst rs
    exact ⟨a, us, rfl, rfl, e3, h _ ⟨_, upd_same, RFs.nil_⟩ _ RF.non_⟩
  · cases e
theorem opm_reverse : OpM c rReverse mReverse := by
  intro F H a p ps vs o q Q ro rs e k h
  unfold mReverse at e
  split at e
  · cases e
    obtain ⟨us, e3, r1⟩ := ro
    unfold RFs at rs
    subst rs
    have kk := fun b o e s => k b o e s (.lst us.reverse)
    exact ⟨a, us, rfl, rfl, e3, h _ ⟨_, upd_same, (RFs.ext (fun _ f => f) kk _ _ r1).reverse⟩ _ RF.non_⟩
  · cases e
end
section
variable {X : Cx} {W : WX} {o e : Expr} {es : List Expr} {d : DE} {da : DA} {name : Str} {apos cpos : Pos} {id : String} {r : V → List V → Hp → VK → Prop} {f : Mf}
theorem mut_read {σr : St} {H : Hp} {Q : VK} (hf : OpM (cnE LT X ce) r f) (h : EV (cnE LT X ce) W (dMutL f d da) σr H Q) : tBM X.K "list" r (EV (cnE LT X ce) W d) (EVA (cnE LT X ce) W da) σr H Q := by
  obtain ⟨F, la, σ, S, x, g⟩ := h.start
  refine EV.seq S x g fun F1 σ1 rv v H1 x1 S1 e1 f1 => ?_
  by_cases hl : isLst (rd σ1 rv) = true
  · rw [if_pos hl] at f1
    obtain ⟨xs0, q0⟩ : ∃ xs, rd σ1 rv = some (.lst xs) := by
      cases q : rd σ1 rv with
      | none => rw [q] at hl; cases hl
      | some p => cases p with
        | lst xs => exact ⟨xs, rfl⟩
        | _ => rw [q] at hl; cases hl
    obtain ⟨a0, us0, rfl, hs0, _⟩ := (rd_ok S1 e1 q0).lst
    refine ⟨.inl ⟨rfl, us0, hs0⟩, F1, la, σ1, S1, (f1.bind.step x1).mono fun rs σ2 F2 H2 x2 S2 f2 vs es => ?_⟩
    have e2 := e1.ext S1 x2
    cases qa : rd σ2 rv with
    | none => simp [qa] at f2; exact f2.elim
    | some p =>
      cases qb : dTup.vals rs with
      | none => simp [qa, qb] at f2; exact f2.elim
      | some ps =>
        rw [qa, qb] at f2
        simp only at f2
        cases qf : f p ps with
        | none => rw [qf] at f2; exact f2.elim
        | some oq =>
          obtain ⟨ot, q⟩ := oq
          rw [qf] at f2
          simp only at f2
          cases qw : wr rv q σ2 with
          | none => rw [qw] at f2; exact f2.elim
          | some σ3 =>
            rw [qw] at f2
            obtain ⟨a, ea, ro, nf, nn, wrk⟩ := wr_at S2 (x1.trans x2) e2 qa qw
            cases ea
            obtain ⟨u0, eu, ns⟩ := ro.there
            refine hf F2 H2 a0 p ps vs ot q Q ro (vals_ok es qb) qf (fun b u e h ob => ?_) fun ob rob => ?_
            · rw [upd_ne (fun z => ?_)]
              · exact e
              · subst z
                rw [eu] at e; cases e
                rcases h with h | h
                · exact nf h
                · exact ns h
            · obtain ⟨x3, S3⟩ := wrk ob rob
              exact ot_fin S3 x3 f2
  · rw [if_neg hl] at f1; exact f1.elim
theorem z_mt (hf : OpM (cnE LT X ce) r f) (pa : PlainAttrs "list") (slot : Slot "list" name id) (hty : typeOf (.builtin id) = pure (.type "method_descriptor")) (hm : MtR X id r) (ho : PE X o (EV (cnE LT X ce) W d)) (ha : PA X (e :: es) (EVA (cnE LT X ce) W da))
    (hbase : attributeBase o name X.env (eval o X.env) = eval o X.env := by rfl)
    (hfew : ((backTo cpos (starEach (e :: es) X.env)).all (fun x => !x.1) && (backToKw cpos (keywordEach [] X.env)).all (fun x => x.1.isSome)
      && decide ((e :: es).length + ([] : List Keyword).length + (if ([] : List Keyword).isEmpty then 0 else 1) < 30)) = true := by rfl)
    (hline : (apos.endLine == cpos.line) = true := by rfl) (hs : starEach (e :: es) X.env = (false, eval e X.env) :: starEach es X.env := by rfl) (hplain : (backTo cpos (starEach es X.env)).any (·.1) = false := by rfl) :
    PE X (.Call (.Attribute o name apos) (e :: es) [] cpos) (EV (cnE LT X ce) W (dMutL f d da)) := PE.wk (pe_bm pa slot hty hm ho ha hbase hfew hline hs hplain) fun _ _ _ q => mut_read hf q
theorem z_mt0 (hf : OpM (cnE LT X ce) r f) (pa : PlainAttrs "list") (slot : Slot "list" name id) (hty : typeOf (.builtin id) = pure (.type "method_descriptor")) (hm : MtR X id r) (ho : PE X o (EV (cnE LT X ce) W d))
    (hbase : attributeBase o name X.env (eval o X.env) = eval o X.env := by rfl) (hline : (apos.endLine == cpos.line) = true := by rfl) : PE X (.Call (.Attribute o name apos) [] [] cpos) (EV (cnE LT X ce) W (dMutL f d dNil)) :=
  PE.wk (pe_bm0 pa slot hty hm ho hbase hline) fun σr H Q q => by
    obtain ⟨F, la, σ, S, f⟩ := mut_read hf q
    refine ⟨F, la, σ, S, f.mono fun r σ' F' H' x S' q v e => ?_⟩
    obtain ⟨ty, F2, la2, σ2, S2, f2⟩ := q v e
    exact ⟨ty, f2 F2 H' (Ex.refl _) S2 [] .nil⟩
end

/-! ### statements -/
inductive Fl where
  | nx | bk | ct
  | rt (r : EVal)
abbrev DS := PSt → Rs Fl
abbrev DG := PV → PSt → Rs Unit
def FinS {α : Type} (c : Cn) (W : WX) (la : List Addr) (g : Gh) (o : Rs α) (P : α → PSt → St → (Addr → Prop) → Hp → Prop) : Prop := match o with
  | .ok r σ' => ∀ F' H' σr', Ex g ⟨F', H', Ow σ' σr' la⟩ → SR c F' la σ' σr' H' → P r σ' σr' F' H'
  | .ex e σ' => ∀ F' H' σr' cls dd, Ex g ⟨F', H', Ow σ' σr' la⟩ → SR c F' la σ' σr' H' → (∃ C, cls = .ref C ∧ c.mg e.cls = some (.ref C)) → XF c F' H' e dd → W cls dd σr' H'
  | .no => False
section
variable {c : Cn} {W : WX} {la : List Addr} {g g' : Gh} {α β : Type}
theorem FinS.step {o : Rs α} {P : α → PSt → St → (Addr → Prop) → Hp → Prop} (h : FinS c W la g o P) (x : Ex g g') : FinS c W la g' o P := by
  cases o with
  | ok r σ' => exact fun F' H' σr' y s => h F' H' σr' (x.trans y) s
  | ex e σ' => exact fun F' H' σr' cls dd y s => h F' H' σr' cls dd (x.trans y) s
  | no => exact h
theorem FinS.mono {o : Rs α} {P P' : α → PSt → St → (Addr → Prop) → Hp → Prop} (h : FinS c W la g o P) (m : ∀ r σ' σr' F' H', Ex g ⟨F', H', Ow σ' σr' la⟩ → SR c F' la σ' σr' H' → P r σ' σr' F' H' → P' r σ' σr' F' H') : FinS c W la g o P' := by
  cases o with
  | ok r σ' => exact fun F' H' σr' y s => m _ _ _ _ _ y s (h F' H' σr' y s)
  | ex e σ' => exact h
  | no => exact h
theorem FinS.bind {o : Rs α} {k : α → PSt → Rs β} {P : β → PSt → St → (Addr → Prop) → Hp → Prop} (h : FinS c W la g (o.bind k) P) : FinS c W la g o fun r σ' _ _ _ => FinS c W la g (k r σ') P := by
  cases o with
  | ok r σ' => exact fun F' H' σr' y s => h
  | ex e σ' => exact h
  | no => exact h
/-- an expression first -/
theorem FinS.expr {o : Rs α} {σr : St} {k : α → PSt → Rs β} {P : β → PSt → St → (Addr → Prop) → Hp → Prop} (h : FinS c W la g (o.bind k) P) : Fin c W la σr g o fun r σ' _ _ => FinS c W la g (k r σ') P := by
  cases o with
  | ok r σ' => exact fun F' H' y s => h
  | ex e σ' => exact fun F' H' cls dd y s => h F' H' σr cls dd y s
  | no => exact h
end
theorem finS_if {α : Type} {c : Cn} {W : WX} {la : List Addr} {g : Gh} {C : Prop} [Decidable C] {o : Rs α} {P : α → PSt → St → (Addr → Prop) → Hp → Prop} (h : FinS c W la g (if C then o else .no) P) : C ∧ FinS c W la g o P := by
  by_cases hc : C
  · rw [if_pos hc] at h; exact ⟨hc, h⟩
  · rw [if_neg hc] at h; exact h.elim
def endP (c : Cn) (la : List Addr) (g : Gh) (D : Ends) : Fl → PSt → St → (Addr → Prop) → Hp → Prop := fun f σ' σr' F' H' => match f with
  | .nx => D.nx σr' H'
  | .bk => D.bk σr' H'
  | .ct => D.ct σr' H'
  | .rt r => ∀ v, ER c F' la (Ow σ' σr' la) (Nw g) σr' H' r v → D.rt v H'
def SV (c : Cn) (W : WX) (d : DS) : TS := fun D σr H => ∃ F la σ, SR c F la σ σr H ∧ FinS c W la ⟨F, H, Ow σ σr la⟩ (d σ) (endP c la ⟨F, H, Ow σ σr la⟩ D)
def GV (c : Cn) (W : WX) (d : DG) : TG := fun v σr H Q => ∃ F la σ p, SR c F la σ σr H ∧ RF c F H p v ∧ FinS c W la ⟨F, H, Ow σ σr la⟩ (d p σ) fun _ _ σr' _ H' => Q σr' H'
def GVs (c : Cn) (W : WX) (d : List PV → PSt → Rs Unit) : TGs := fun vs σr H Q => ∃ F la σ ps, SR c F la σ σr H ∧ RFs c F H ps vs ∧ FinS c W la ⟨F, H, Ow σ σr la⟩ (d ps σ) fun _ _ σr' _ H' => Q σr' H'
/-- storing into a slot -/
def st (i : Nat) (r : EVal) (σ : PSt) : Rs Unit := match r with
  | .val v => .ok () ⟨σ.sl.set i (some (.frz v)), σ.ln⟩
  | .new v => .ok () ⟨σ.sl.set i (some (.own v)), σ.ln⟩
  | .lo k => .ok () ⟨σ.sl.set i (some (.lo k)), σ.ln⟩
  | .at j => (fz (.at j) σ).bind fun p σ1 => .ok () ⟨σ1.sl.set i (some (.frz p)), σ1.ln⟩
  | .clos ks => .ok () ⟨σ.sl.set i (some (.clos ks)), σ.ln⟩
  | .clo _ => .no
def SlR (c : Cn) (F : Addr → Prop) (la : List Addr) (O : Addr → Prop) (H : Hp) (s : Sl) (v : V) : Prop := match s with
  | .frz p => RF c F H p v
  | .own p => ∃ a, v = .ref a ∧ RO c F H p a ∧ ¬ F a ∧ ¬ O a
  | .lo k => ∃ a, v = .ref a ∧ la[k]? = some a
  | .clos ks => ClosZ c F H ks v
section
variable {c : Cn} {F : Addr → Prop} {la : List Addr} {σ σ' : PSt} {σr : St} {H : Hp} {g : Gh}
theorem set_sl (S : SR c F la σ σr H) (x : Ex g ⟨F, H, Ow σ σr la⟩) (i : Nat) {s : Sl} {v : V} (h : SlR c F la (Ow σ σr la) H s v) (nn : ∀ a, v = .ref a → (∃ p, s = .own p) → Nw g a) :
    Ex g ⟨F, H, Ow ⟨σ.sl.set i (some s), σ.ln⟩ (σr.set i (some v)) la⟩ ∧ SR c F la ⟨σ.sl.set i (some s), σ.ln⟩ (σr.set i (some v)) H := by
  by_cases hi : i < σ.sl.length
  · have hir : i < σr.length := by rw [← S.len]; exact hi
    have old : ∀ (j : Nat) (t : Sl), j ≠ i → (σ.sl.set i (some s))[j]? = some (some t) → σ.sl[j]? = some (some t) := fun j t hj e => by
      rw [List.getElem?_set_ne (Ne.symm hj)] at e; exact e
    have oldr : ∀ (j : Nat), j ≠ i → (σr.set i (some v))[j]? = σr[j]? := fun j hj => List.getElem?_set_ne (Ne.symm hj)
    have self : ∀ t, (σ.sl.set i (some s))[i]? = some (some t) → t = s := fun t e => by
      rw [List.getElem?_set_self hi] at e; cases e; rfl
    have selfr : (σr.set i (some v))[i]? = some (some v) := List.getElem?_set_self hir
    refine ⟨⟨x.fr, x.kp, x.tb, fun b z => ?_, x.fn⟩, ⟨by simpa using S.len, fun j w e => ?_, fun j k e => ?_, fun j w e => ?_, fun j j' w w' b e1 e2 e3 e4 => ?_, S.lln, S.lnd, S.ln, S.ftr, fun j w e => ?_, S.tabs⟩⟩
    · rcases z with z | ⟨j, w, e1, e2⟩
      · exact x.ow b (.inl z)
      · by_cases hj : j = i
        · subst hj
          have es := self _ e1
          have e2' : some (some v) = some (some (V.ref b)) := selfr.symm.trans e2
          cases e2'
          exact nn b rfl ⟨w, es.symm⟩
        · exact x.ow b (.inr ⟨j, w, old j _ hj e1, (oldr j hj).symm.trans e2⟩)
    · by_cases hj : j = i
      · subst hj
        obtain rfl := self _ e
        exact ⟨v, selfr, h⟩
      · obtain ⟨u, e1, r⟩ := S.frz j w (old j _ hj e)
        exact ⟨u, (oldr j hj).trans e1, r⟩
    · by_cases hj : j = i
      · subst hj
        obtain rfl := self _ e
        obtain ⟨a, rfl, hk⟩ := h
        exact ⟨a, selfr, hk⟩
      · obtain ⟨u, e1, r⟩ := S.lo j k (old j _ hj e)
        exact ⟨u, (oldr j hj).trans e1, r⟩
    · by_cases hj : j = i
      · subst hj
        obtain rfl := self _ e
        obtain ⟨a, rfl, ro, nf, no⟩ := h
        exact ⟨a, selfr, ro, nf, fun z => no (.inl z)⟩
      · obtain ⟨u, e1, r⟩ := S.own j w (old j _ hj e)
        exact ⟨u, (oldr j hj).trans e1, r⟩
    · by_cases hj : j = i
      · by_cases hj' : j' = i
        · rw [hj, hj']
        · exfalso
          subst hj
          obtain rfl := self _ e1
          obtain ⟨a, rfl, ro, nf, no⟩ := h
          have e3' : some (some (V.ref a)) = some (some (V.ref b)) := selfr.symm.trans e3
          cases e3'
          exact no (.inr ⟨j', w', old j' _ hj' e2, (oldr j' hj').symm.trans e4⟩)
      · by_cases hj' : j' = i
        · exfalso
          subst hj'
          obtain rfl := self _ e2
          obtain ⟨a, rfl, ro, nf, no⟩ := h
          have e3' : some (some (V.ref a)) = some (some (V.ref b)) := selfr.symm.trans e4
          cases e3'
          exact no (.inr ⟨j, w, old j _ hj e1, (oldr j hj).symm.trans e3⟩)
        · exact S.inj j j' w w' b (old j _ hj e1) (old j' _ hj' e2) ((oldr j hj).symm.trans e3) ((oldr j' hj').symm.trans e4)
    · by_cases hj : j = i
      · subst hj
        obtain rfl := self _ e
        exact ⟨v, selfr, h⟩
      · obtain ⟨u, e1, r⟩ := S.clo j w (old j _ hj e)
        exact ⟨u, (oldr j hj).trans e1, r⟩
  · have h1 : σ.sl.set i (some s) = σ.sl := List.set_eq_of_length_le (by omega)
    have h2 : σr.set i (some v) = σr := List.set_eq_of_length_le (by rw [← S.len]; omega)
    have h3 : (⟨σ.sl, σ.ln⟩ : PSt) = σ := rfl
    rw [h1, h2]
    exact ⟨x, S⟩
theorem st_ok (S : SR c F la σ σr H) (x : Ex g ⟨F, H, Ow σ σr la⟩) {i : Nat} {r : EVal} {v : V} (h : ER c F la (Ow σ σr la) (Nw g) σr H r v) (e : st i r σ = .ok () σ') :
    ∃ F', Ex g ⟨F', H, Ow σ' (σr.set i (some v)) la⟩ ∧ SR c F' la σ' (σr.set i (some v)) H := by
  cases r with
  | val p =>
    cases e
    exact ⟨F, set_sl S x i (s := .frz p) h fun a _ ⟨p, z⟩ => by cases z⟩
  | new p =>
    cases e
    obtain ⟨a, rfl, ro, nf, no, nn⟩ := h
    exact ⟨F, set_sl S x i (s := .own p) ⟨a, rfl, ro, nf, no⟩ fun b e _ => by cases e; exact nn⟩
  | lo k =>
    cases e
    exact ⟨F, set_sl S x i (s := .lo k) h fun a _ ⟨p, z⟩ => by cases z⟩
  | clos k =>
    cases e
    exact ⟨F, set_sl S x i (s := .clos k) h fun a _ ⟨p, z⟩ => by cases z⟩
  | clo k => cases e
  | «at» j =>
    rw [st] at e
    cases q : fz (.at j) σ with
    | no => rw [q] at e; cases e
    | ex ee s => rw [q] at e; cases e
    | ok p σ1 =>
      rw [q] at e
      cases e
      obtain ⟨F', x', S', r', _⟩ := fz_ok S x h q
      exact ⟨F', set_sl S' x' i (s := .frz p) r' fun a _ ⟨p, z⟩ => by cases z⟩
theorem st_cases {i : Nat} {r : EVal} {σ : PSt} : (∃ σ', st i r σ = .ok () σ') ∨ st i r σ = .no := by
  cases r with
  | val p => exact .inl ⟨_, rfl⟩
  | new p => exact .inl ⟨_, rfl⟩
  | lo k => exact .inl ⟨_, rfl⟩
  | clo k => exact .inr rfl
  | clos k => exact .inl ⟨_, rfl⟩
  | «at» j =>
    rw [st]
    rw [fz]
    cases σ.sl[j]? with
    | none => exact .inr rfl
    | some t => cases t with
      | none => exact .inr rfl
      | some t => cases t <;> first | exact .inl ⟨_, rfl⟩ | exact .inr rfl
end
def dSet (i : Nat) (d : DE) : DS := fun σ => (d σ).bind fun r σ1 => (st i r σ1).bind fun _ σ2 => .ok .nx σ2
def dAsg (d : DE) (g : DG) : DS := fun σ => (d σ).bind fun r σ1 => (fz r σ1).bind fun p σ2 => (g p σ2).bind fun _ σ3 => .ok .nx σ3
def dSeq (a b : DS) : DS := fun σ => (a σ).bind fun f σ1 => match f with
  | .nx => b σ1
  | f => .ok f σ1
def dExp (d : DE) : DS := fun σ => (d σ).bind fun _ σ1 => .ok .nx σ1
def dRet (d : DE) : DS := fun σ => (d σ).bind fun r σ1 => .ok (.rt r) σ1
def dPass : DS := fun σ => .ok .nx σ
def dBrk : DS := fun σ => .ok .bk σ
def dCt : DS := fun σ => .ok .ct σ
def dRetN : DS := fun σ => .ok (.rt (.val .non)) σ
def dNever : DS := fun _ => .no
def dIfS (t : DT) (a b : DS) : DS := fun σ => (t σ).bind fun k σ1 => if k = true then a σ1 else b σ1
def gN (i : Nat) : DG := fun p σ => .ok () ⟨σ.sl.set i (some (.frz p)), σ.ln⟩
def gT (n : Nat) (g : List PV → PSt → Rs Unit) : DG := fun p σ => match p with
  | .tup xs => if xs.length = n then g xs σ else .no
  | _ => .no
/-- a tuple or a list taken apart -/
def gU (n : Nat) (g : List PV → PSt → Rs Unit) : DG := fun p σ => match p with
  | .tup xs => if xs.length = n then g xs σ else .no
  | .lst xs => if xs.length = n then g xs σ else .no
  | _ => .no
def gNil : List PV → PSt → Rs Unit := fun ps σ => match ps with
  | [] => .ok () σ
  | _ => .no
def gCons (g : DG) (gs : List PV → PSt → Rs Unit) : List PV → PSt → Rs Unit := fun ps σ => match ps with
  | p :: ps => (g p σ).bind fun _ σ1 => gs ps σ1
  | [] => .no
section
variable {X : Cx} {W : WX} {e : Expr} {d : DE} {a b : DS} {sa sb : List Stmt} {s : Stmt} {pos : Pos}
theorem z_set {i : Nat} {x : Str} {pos' : Pos} (hN : X.N.Nodup) (hi : X.N[i]? = some x) (hx : Loc X.env.scope x) (he : PE X e (EV (cnE LT X ce) W d)) (hs : swapsWith e (some (.Name x pos')) pos.line X.env = pure false := by rfl) (hf : X.fn x = true ∨ X.env.scope.names.lookup x = some .local := by first | exact .inl rfl | exact .inr rfl | assumption) :
    PS X (.Assign [.Name x pos'] e pos) (SV (cnE LT X ce) W (dSet i d)) := PS.wk (ps_set hN hi hx he hs hf) fun D σr H q => by
  obtain ⟨F, la, σ, S, f⟩ := q
  refine ⟨F, la, σ, S, f.expr.mono fun r σ1 F1 H1 x1 S1 f1 v e1 => ?_⟩
  rcases st_cases (i := i) (r := r) (σ := σ1) with ⟨σ2, q⟩ | q
  · rw [q] at f1
    obtain ⟨F2, x2, S2⟩ := st_ok S1 x1 e1 q
    exact f1 F2 H1 _ x2 S2
  · rw [q] at f1; exact f1.elim
theorem z_asg {tg : Expr} {g : DG} (he : PE X e (EV (cnE LT X ce) W d)) (hg : PG X tg (GV (cnE LT X ce) W g)) (hs : swapsWithSole [tg] e pos.line X.env = pure false := by rfl) (hw : swappedStores [tg] e X.env = pure none := by rfl)
    (h1 : (assignEach [tg] X.env).map (·.2) = [assign tg X.env] := by rfl) : PS X (.Assign [tg] e pos) (SV (cnE LT X ce) W (dAsg d g)) := PS.wk (ps_asg he hg hs hw h1) fun D σr H q => by
  obtain ⟨F, la, σ, S, f⟩ := q
  refine ⟨F, la, σ, S, f.expr.mono fun r σ1 F1 H1 x1 S1 f1 v e1 => ?_⟩
  cases q : fz r σ1 with
  | no => rw [q] at f1; exact f1.elim
  | ex ee s =>
    exfalso
    cases r <;> simp only [fz] at q <;> try (cases q)
    split at q <;> cases q
  | ok p σ2 =>
    rw [q] at f1
    obtain ⟨F2, x2, S2, r2, _⟩ := fz_ok S1 x1 e1 q
    have f2 := FinS.bind (o := g p σ2) f1
    exact ⟨F2, la, σ2, p, S2, r2, (f2.step x2).mono fun _ σ3 σr3 F3 H3 x3 S3 f3 => f3 F3 H3 σr3 (x2.trans x3) S3⟩
theorem z_cons (h1 : PS X s (SV (cnE LT X ce) W a)) (h2 : PSs X sb (SV (cnE LT X ce) W b)) : PSs X (s :: sb) (SV (cnE LT X ce) W (dSeq a b)) := PSs.wk (pss_cons h1 h2) fun D σr H q => by
  obtain ⟨F, la, σ, S, f⟩ := q
  refine ⟨F, la, σ, S, f.bind.mono fun fl σ1 σr1 F1 H1 x1 S1 f1 => ?_⟩
  cases fl with
  | nx => exact ⟨F1, la, σ1, S1, (FinS.step f1 x1).mono fun fl σ2 σr2 F2 H2 x2 S2 f2 => by
      cases fl with
      | rt r => exact fun v e => f2 v (e.weak fun a n => x1.back n)
      | _ => exact f2⟩
  | bk => exact f1 F1 H1 σr1 x1 S1
  | ct => exact f1 F1 H1 σr1 x1 S1
  | rt r => exact f1 F1 H1 σr1 x1 S1
theorem z_one (h1 : PS X s (SV (cnE LT X ce) W a)) : PSs X [s] (SV (cnE LT X ce) W a) := pss_one h1
theorem z_nil : PSs X [] (SV (cnE LT X ce) W dPass) := PSs.wk pss_nil fun D σr H q => by
  obtain ⟨F, la, σ, S, f⟩ := q
  exact f F H σr (Ex.refl _) S
theorem z_exp (he : PE X e (EV (cnE LT X ce) W d)) (hs : swapsWith e none pos.line X.env = pure false := by rfl) : PS X (.Expr e pos) (SV (cnE LT X ce) W (dExp d)) := PS.wk (ps_expr he hs) fun D σr H q => by
  obtain ⟨F, la, σ, S, f⟩ := q
  exact ⟨F, la, σ, S, f.expr.mono fun r σ1 F1 H1 x1 S1 f1 v e1 => f1 F1 H1 σr x1 S1⟩
theorem z_ret (he : PE X e (EV (cnE LT X ce) W d)) : PS X (.Return (some e) pos) (SV (cnE LT X ce) W (dRet d)) := PS.wk (ps_ret he) fun D σr H q => by
  obtain ⟨F, la, σ, S, f⟩ := q
  exact ⟨F, la, σ, S, f.expr.mono fun r σ1 F1 H1 x1 S1 f1 v e1 => f1 F1 H1 σr x1 S1 v e1⟩
theorem z_retN : PS X (.Return none pos) (SV (cnE LT X ce) W dRetN) := PS.wk ps_retN fun D σr H q => by
  obtain ⟨F, la, σ, S, f⟩ := q
  exact f F H σr (Ex.refl _) S .non (show RF (cnE LT X ce) F H .non .non from RF.non_)
theorem z_ifS {t : Expr} {dt : DT} (hc : PT X t (EVT (cnE LT X ce) W dt)) (ha : PSs X sa (SV (cnE LT X ce) W a)) (hb : PSs X sb (SV (cnE LT X ce) W b)) : PS X (.If t sa sb pos) (SV (cnE LT X ce) W (dIfS dt a b)) := PS.wk (ps_if hc ha hb) fun D σr H q => by
  obtain ⟨F, la, σ, S, f⟩ := q
  refine ⟨F, la, σ, S, f.expr.mono fun k σ1 F1 H1 x1 S1 f1 => ?_⟩
  have go : ∀ {o : DS}, FinS (cnE LT X ce) W la ⟨F, H, Ow σ σr la⟩ (o σ1) (endP (cnE LT X ce) la ⟨F, H, Ow σ σr la⟩ D) → SV (cnE LT X ce) W o D σr H1 := fun {o} f2 =>
    ⟨F1, la, σ1, S1, (f2.step x1).mono fun fl σ2 σr2 F2 H2 x2 S2 f2 => by
      cases fl with
      | rt r => exact fun v e => f2 v (e.weak fun a n => x1.back n)
      | _ => exact f2⟩
  cases k with
  | true => exact go f1
  | false => exact go f1
theorem z_pass : PS X (.Pass pos) (SV (cnE LT X ce) W dPass) := PS.wk ps_pass fun D σr H q => by
  obtain ⟨F, la, σ, S, f⟩ := q
  exact f F H σr (Ex.refl _) S
theorem z_brk : PS X (.Break pos) (SV (cnE LT X ce) W dBrk) := PS.wk ps_break fun D σr H q => by
  obtain ⟨F, la, σ, S, f⟩ := q
  exact f F H σr (Ex.refl _) S
theorem z_ct : PS X (.Continue pos) (SV (cnE LT X ce) W dCt) := PS.wk ps_continue fun D σr H q => by
  obtain ⟨F, la, σ, S, f⟩ := q
  exact f F H σr (Ex.refl _) S
theorem z_never : PS X s (SV (cnE LT X ce) W dNever) := PS.wk ps_never fun D σr H q => by
  obtain ⟨F, la, σ, S, f⟩ := q
  exact f
/-! targets -/
theorem zg_name {i : Nat} {x : Str} (hN : X.N.Nodup) (hi : X.N[i]? = some x) (hx : Loc X.env.scope x) (hf : X.fn x = true ∨ X.env.scope.names.lookup x = some .local := by first | exact .inl rfl | exact .inr rfl | assumption) : PG X (.Name x pos) (GV (cnE LT X ce) W (gN i)) :=
  ⟨fun pins s σr H v u Q I r h => (pg_name hN hi hx hf).run pins s σr H v u Q I r (by
    obtain ⟨F, la, σ, p, S, rp, f⟩ := h
    obtain ⟨x2, S2⟩ := set_sl S (Ex.refl _) i (s := .frz p) (v := v) rp fun a _ ⟨p, z⟩ => by cases z
    exact f F H _ x2 S2)⟩
theorem zg_nil : PGs X [] (GVs (cnE LT X ce) W gNil) := ⟨fun pins s σr H vs us Q I r h => pgs_nil.run pins s σr H vs us Q I r (by
    obtain ⟨F, la, σ, ps, S, rp, f⟩ := h
    cases ps with
    | nil => unfold RFs at rp; exact ⟨rp, f F H σr (Ex.refl _) S⟩
    | cons _ _ => exact f.elim)⟩
theorem zg_cons {es : List Expr} {g : DG} {gs : List PV → PSt → Rs Unit} (h1 : PG X e (GV (cnE LT X ce) W g)) (h2 : PGs X es (GVs (cnE LT X ce) W gs))
    (hs : (assignEach (e :: es) X.env).map (·.2) = assign e X.env :: (assignEach es X.env).map (·.2) := by rfl) : PGs X (e :: es) (GVs (cnE LT X ce) W (gCons g gs)) :=
  ⟨fun pins s σr H vs us Q I r h => (pgs_cons h1 h2 hs).run pins s σr H vs us Q I r (by
    obtain ⟨F, la, σ, ps, S, rp, f⟩ := h
    cases ps with
    | nil => exact f.elim
    | cons p ps =>
      unfold RFs at rp
      obtain ⟨u, r', rfl, r1, r2⟩ := rp
      refine ⟨u, r', rfl, F, la, σ, p, S, r1, (FinS.bind f).mono fun _ σ1 σr1 F1 H1 x1 S1 f1 => ?_⟩
      exact ⟨F1, la, σ1, ps, S1, RFs.ext x1.fr (Ex.keep S x1) _ _ r2, FinS.step f1 x1⟩)⟩
theorem zg_tup {es : List Expr} {k n : Nat} {gs : List PV → PSt → Rs Unit} (hc : X.calm = true) (h : PGs X es (GVs (cnE LT X ce) W gs))
    (hn : (assignEach es X.env).length = n := by rfl) (hst : (assignEach es X.env).findIdx? (·.1) = none := by rfl) : PG X (.Tuple es k pos) (GV (cnE LT X ce) W (gT n gs)) :=
  ⟨fun pins s σr H v u Q I r hh => (pg_tup hc h hn hst).run pins s σr H v u Q I r (by
    obtain ⟨F, la, σ, p, S, rp, f⟩ := hh
    cases p with
    | tup xs =>
      unfold RF at rp
      obtain ⟨a, us, rfl, h1, r1⟩ := rp
      obtain ⟨hl, f'⟩ := finS_if f
      exact ⟨a, us, rfl, h1, by rw [← r1.length]; exact hl, F, la, σ, xs, S, r1, f'⟩
    | _ => exact f.elim)⟩
theorem zg_seq {es : List Expr} {k n : Nat} {gs : List PV → PSt → Rs Unit} (hc : X.calm = true) (h : PGs X es (GVs (cnE LT X ce) W gs))
    (hn : (assignEach es X.env).length = n := by rfl) (hst : (assignEach es X.env).findIdx? (·.1) = none := by rfl) : PG X (.Tuple es k pos) (GV (cnE LT X ce) W (gU n gs)) :=
  ⟨fun pins s σr H v u Q I r hh => by
    obtain ⟨F, la, σ, p, S, rp, f⟩ := hh
    cases p with
    | tup xs =>
      unfold RF at rp
      obtain ⟨a, us, rfl, h1, r1⟩ := rp
      obtain ⟨hl, f'⟩ := finS_if f
      exact (pg_tup hc h hn hst).run pins s σr H _ u Q I r ⟨a, us, rfl, h1, by rw [← r1.length]; exact hl, F, la, σ, xs, S, r1, f'⟩
    | lst xs =>
      unfold RF at rp
      obtain ⟨a, us, rfl, h1, r1⟩ := rp
      obtain ⟨hl, f'⟩ := finS_if f
      have hq : SqL (cnE LT X ce).K H a us := by
        rcases h1 with ⟨_, h1⟩ | h1
        · exact .inl h1
        · exact .inr h1
      exact (pg_lst hc h hn hst).run pins s σr H _ u Q I r ⟨a, us, rfl, hq, by rw [← r1.length]; exact hl, F, la, σ, xs, S, r1, f'⟩
    | _ => exact f.elim⟩
end
/-! ### a, b = x, y -/
/-- storing what stands in no slot -/
def stN (i : Nat) (r : EVal) (σ : PSt) : Rs Unit := match r with
  | .at _ => .no
  | r => st i r σ
def stAll : List Nat → List EVal → PSt → Rs Unit
  | [], [], σ => .ok () σ
  | i :: is, r :: rs, σ => (stN i r σ).bind fun _ σ1 => stAll is rs σ1
  | _, _, _ => .no
def dPar (is : List Nat) (da : DA) : DS := fun σ => (da σ).bind fun rs σ1 => (stAll is rs σ1).bind fun _ σ2 => .ok .nx σ2
def setAll : List Nat → List V → St → St
  | i :: is, v :: vs, σr => setAll is vs (σr.set i (some v))
  | _, _, σr => σr
section
variable {c : Cn} {F : Addr → Prop} {la : List Addr} {H : Hp} {g : Gh}
theorem stAll_ok : ∀ (is : List Nat) (rs : List EVal) (vs : List V) (σ σ' : PSt) (σr : St), SR c F la σ σr H → Ex g ⟨F, H, Ow σ σr la⟩ → ERs c F la (Ow σ σr la) (Nw g) σr H rs vs → stAll is rs σ = .ok () σ' →
    rs.length = is.length ∧ Ex g ⟨F, H, Ow σ' (setAll is vs σr) la⟩ ∧ SR c F la σ' (setAll is vs σr) H
  | [], [], vs, σ, σ', σr, S, x, h, e => by
    cases e
    cases h
    exact ⟨rfl, x, S⟩
  | [], _ :: _, _, _, _, _, _, _, _, e => by simp [stAll] at e
  | _ :: _, [], _, _, _, _, _, _, _, e => by simp [stAll] at e
  | i :: is, r :: rs, vs, σ, σ', σr, S, x, h, e => by
    cases h with
    | cons h1 h2 nn =>
      rename_i v vs
      rw [stAll] at e
      -- what the first store leaves of the others
      have rest : ∀ (s : Sl), SlR c F la (Ow σ σr la) H s v → (∀ a, v = .ref a → (∃ p, s = .own p) → Nw g a ∧ NoNew a rs vs) → stN i r σ = .ok () ⟨σ.sl.set i (some s), σ.ln⟩ → (∀ q, r ≠ .at q) → stAll is rs ⟨σ.sl.set i (some s), σ.ln⟩ = .ok () σ' → (∀ q ∈ rs, ∀ k, q ≠ .at k) →
          (r :: rs).length = (i :: is).length ∧ Ex g ⟨F, H, Ow σ' (setAll (i :: is) (v :: vs) σr) la⟩ ∧ SR c F la σ' (setAll (i :: is) (v :: vs) σr) H := by
        intro s hs hn _ _ e2 nat
        obtain ⟨x2, S2⟩ := set_sl S x i hs fun a e p => (hn a e p).1
        have owb : ∀ b, Ow ⟨σ.sl.set i (some s), σ.ln⟩ (σr.set i (some v)) la b → Ow σ σr la b ∨ (v = .ref b ∧ ∃ p, s = .own p) := fun b z => by
          rcases z with z | ⟨j, w, e1, e2⟩
          · exact .inl (.inl z)
          · by_cases hj : j = i
            · subst hj
              have hi : j < σ.sl.length := by
                have := (List.getElem?_eq_some_iff.mp e1).1
                simpa using this
              have e1' : some (some s) = some (some (Sl.own w)) := (List.getElem?_set_self hi).symm.trans e1
              have e2' : some (some v) = some (some (V.ref b)) := (List.getElem?_set_self (by rw [← S.len]; exact hi)).symm.trans e2
              cases e1'
              cases e2'
              exact .inr ⟨rfl, w, rfl⟩
            · have e1' : σ.sl[j]? = some (some (Sl.own w)) := (List.getElem?_set_ne (Ne.symm hj)).symm.trans e1
              have e2' : σr[j]? = some (some (V.ref b)) := (List.getElem?_set_ne (Ne.symm hj)).symm.trans e2
              exact .inl (.inr ⟨j, w, e1', e2'⟩)
        have h2' : ERs c F la (Ow ⟨σ.sl.set i (some s), σ.ln⟩ (σr.set i (some v)) la) (Nw g) (σr.set i (some v)) H rs vs := by
          have hn' : ∀ a, v = .ref a → (∃ p, s = .own p) → NoNew a rs vs := fun a e p => (hn a e p).2
          clear e e2 x2 S2 hn nn h1 hs
          induction h2 with
          | nil => exact .nil
          | cons k1 k2 k3 ih =>
            rename_i r' v' rs' vs'
            refine .cons ?_ (ih (fun q hq k => nat q (List.mem_cons_of_mem _ hq) k) fun a e p => fun j q w e1 e2 => hn' a e p (j + 1) q w (by simpa using e1) (by simpa using e2)) k3
            cases r' with
            | val p => exact k1
            | lo k => exact k1
            | clo k => exact k1
            | clos k => exact k1
            | «at» k => exact absurd rfl (nat (.at k) List.mem_cons_self k)
            | new p =>
              obtain ⟨a, rfl, ro, nf, no, nn⟩ := k1
              refine ⟨a, rfl, ro, nf, fun z => ?_, nn⟩
              rcases owb a z with z | ⟨z, p2⟩
              · exact no z
              · exact hn' a z p2 0 p _ rfl rfl rfl
        obtain ⟨l, x3, S3⟩ := stAll_ok is rs vs _ σ' _ S2 x2 h2' e2
        exact ⟨by simp [l], x3, S3⟩
      have allN : ∀ (is : List Nat) (rs : List EVal) (σ σ' : PSt), stAll is rs σ = .ok () σ' → ∀ q ∈ rs, ∀ k, q ≠ .at k := by
        intro is
        induction is with
        | nil => intro rs σ σ' e q hq; cases rs with
          | nil => cases hq
          | cons _ _ => simp [stAll] at e
        | cons i is ih =>
          intro rs σ σ' e q hq k hk
          cases rs with
          | nil => cases hq
          | cons r rs =>
            rw [stAll] at e
            cases r with
            | «at» m => simp [stN, Rs.bind] at e
            | clos p =>
              rcases List.mem_cons.mp hq with z | z
              · rw [z] at hk; cases hk
              · exact ih rs _ σ' e q z k hk
            | clo m => simp [stN, st, Rs.bind] at e
            | val p =>
              rcases List.mem_cons.mp hq with z | z
              · rw [z] at hk; cases hk
              · exact ih rs _ σ' e q z k hk
            | new p =>
              rcases List.mem_cons.mp hq with z | z
              · rw [z] at hk; cases hk
              · exact ih rs _ σ' e q z k hk
            | lo p =>
              rcases List.mem_cons.mp hq with z | z
              · rw [z] at hk; cases hk
              · exact ih rs _ σ' e q z k hk
      cases r with
      | «at» k => simp [stN, Rs.bind] at e
      | clos k => exact rest (.clos k) h1 (fun a _ ⟨p, z⟩ => by cases z) rfl (fun q z => by cases z) e (allN is rs _ σ' e)
      | clo k => simp [stN, st, Rs.bind] at e
      | val p => exact rest (.frz p) h1 (fun a _ ⟨p, z⟩ => by cases z) rfl (fun q z => by cases z) e (allN is rs _ σ' e)
      | lo k => exact rest (.lo k) h1 (fun a _ ⟨p, z⟩ => by cases z) rfl (fun q z => by cases z) e (allN is rs _ σ' e)
      | new p =>
        obtain ⟨a, rfl, ro, nf, no, nw⟩ := h1
        exact rest (.own p) ⟨a, rfl, ro, nf, no⟩ (fun b eb _ => by cases eb; exact ⟨nw, nn a p rfl rfl⟩) rfl (fun q z => by cases z) e (allN is rs _ σ' e)
theorem stAll_cases (is : List Nat) (rs : List EVal) (σ : PSt) : (∃ σ', stAll is rs σ = .ok () σ') ∨ stAll is rs σ = .no := by
  induction is generalizing rs σ with
  | nil => cases rs with
    | nil => exact .inl ⟨_, rfl⟩
    | cons _ _ => exact .inr rfl
  | cons i is ih =>
    cases rs with
    | nil => exact .inr rfl
    | cons r rs =>
      rw [stAll]
      cases r with
      | «at» m => exact .inr rfl
      | clos m => exact ih rs _
      | clo m => exact .inr rfl
      | val p => exact ih rs _
      | new p => exact ih rs _
      | lo p => exact ih rs _
end
section
variable {X : Cx} {W : WX} {a b c3 : Expr} {da : DA} {pos : Pos} {x y z : Str} {i j l : Nat}
theorem ERs.length {c : Cn} {F : Addr → Prop} {la : List Addr} {O N : Addr → Prop} {σr : St} {H : Hp} {rs : List EVal} {vs : List V} (h : ERs c F la O N σr H rs vs) : rs.length = vs.length := by
  induction h with
  | nil => rfl
  | cons _ _ _ ih => simp [ih]
theorem z_par {px py pt : Pos} {kt k2 pt2} (hc : X.calm = true) (hN : X.N.Nodup) (hi : X.N[i]? = some x) (hj : X.N[j]? = some y) (hij : i ≠ j)
    (hx : X.env.scope.names.lookup x = some .local) (hy : X.env.scope.names.lookup y = some .local) (ha : PA X [a, b] (EVA (cnE LT X ce) W da))
    (hw : swappedStores [.Tuple [.Name x px, .Name y py] kt pt] (.Tuple [a, b] k2 pt2) X.env = pure (some [x, y]))
    (hs : swapsWithSole [.Tuple [.Name x px, .Name y py] kt pt] (.Tuple [a, b] k2 pt2) pos.line X.env = pure false := by rfl) :
    PS X (.Assign [.Tuple [.Name x px, .Name y py] kt pt] (.Tuple [a, b] k2 pt2) pos) (SV (cnE LT X ce) W (dPar [i, j] da)) := PS.wk (ps_par hc hN hi hj hij hx hy ha hw hs) fun D σr H q => by
  obtain ⟨F, la, σ, S, f⟩ := q
  refine ⟨F, la, σ, S, f.expr.mono fun rs σ1 F1 H1 x1 S1 f1 vs es => ?_⟩
  rcases stAll_cases [i, j] rs σ1 with ⟨σ2, q⟩ | q
  · rw [q] at f1
    obtain ⟨hl, x2, S2⟩ := stAll_ok [i, j] rs vs σ1 σ2 σr S1 x1 es q
    have hv : vs.length = 2 := by rw [← es.length, hl]; rfl
    match vs, hv with
    | [v, w], _ => exact ⟨v, w, rfl, f1 F1 H1 _ x2 S2⟩
  · rw [q] at f1; exact f1.elim
end
end L2.Zz

/-! Z9: what is walked, for, while, comprehensions. -/
namespace L2.Zz
open PySem PySem.Spec PyProof.Rows
variable {LT : LTab} {ce : List (Str × Addr)}

abbrev DI := PSt → Rs (List PV)
/-- an iterator that gives xs while what stands still stands -/
def JOk (c : Cn) (F0 : Addr → Prop) (H0 : Hp) (J : It) (xs : List PV) : Prop :=
  ∀ (F : Addr → Prop) (H : Hp), (∀ a, F0 a → F a) → (∀ a o, H0 a = some o → (F0 a ∨ Stl o) → H a = some o) →
    (∀ i, i < xs.length → J.go i H) ∧ J.stop xs.length H ∧ ∀ i v H', i < xs.length → J.yld i H v H' → ∃ p, xs[i]? = some p ∧ (∀ a o, H a = some o → H' a = some o) ∧ RF c F H' p v
def IV (c : Cn) (W : WX) (d : DI) : TI := fun σr H R => ∃ F la σ, SR c F la σ σr H ∧ Fin c W la σr ⟨F, H, Ow σ σr la⟩ (d σ) fun xs σ' F' H' => ∀ J, JOk c F' H' J xs → R J H'

/-! ### a list, a tuple -/
def dIt (d : DE) : DI := fun σ => (d σ).bind fun r σ1 => (fz r σ1).bind fun p σ2 => match p with
  | .lst xs => .ok xs σ2
  | .tup xs => .ok xs σ2
  | _ => .no
def rng (lo : Int) (n : Nat) : List PV := (List.range n).map fun (i : Nat) => PV.int (lo + (i : Int))
def rgOk (i : Int) : Prop := -(2 ^ 62) ≤ i ∧ i < 2 ^ 62
instance (i : Int) : Decidable (rgOk i) := by unfold rgOk; infer_instance
def dRng1 (da : DA) : DI := fun σ => (da σ).bind fun rs σ1 => match rdAll σ1 rs with
  | some [.int j] => if rgOk j then .ok (rng 0 j.toNat) σ1 else .no
  | _ => .no
def dRng2 (da : DA) : DI := fun σ => (da σ).bind fun rs σ1 => match rdAll σ1 rs with
  | some [.int i, .int j] => if rgOk i ∧ rgOk j then .ok (rng i (j - i).toNat) σ1 else .no
  | _ => .no
def enumL (xs : List PV) : List PV := (List.range xs.length).zipWith (fun (i : Nat) x => PV.tup [.int (i : Int), x]) xs
def zipL (xs ys : List PV) : List PV := List.zipWith (fun x y => PV.tup [x, y]) xs ys
def dEnum (da : DA) : DI := fun σ => (da σ).bind fun rs σ1 => match dTup.vals rs with
  | some [.lst xs] => .ok (enumL xs) σ1
  | _ => .no
def dZip (da : DA) : DI := fun σ => (da σ).bind fun rs σ1 => match dTup.vals rs with
  | some [.lst xs, .lst ys] => .ok (zipL xs ys) σ1
  | _ => .no
theorem rng_get {lo : Int} {n i : Nat} (h : i < n) : (rng lo n)[i]? = some (.int (lo + i)) := by
  unfold rng
  rw [List.getElem?_map, List.getElem?_range h]
  rfl
theorem rng_len {lo : Int} {n : Nat} : (rng lo n).length = n := by unfold rng; simp
section
variable {c : Cn} {F0 : Addr → Prop} {H0 : Hp}
theorem jok_list {a : Addr} {us : List V} {xs : List PV} (h : FrL c F0 H0 a us) (r : RFs c F0 H0 xs us) : JOk c F0 H0 (Itl c.K a) xs := by
  intro F H hF k
  have h' : SqL c.K H a us := (FrL.ext h hF k).sq
  have r' := RFs.ext hF k _ _ r
  refine ⟨fun i hi => ?_, ⟨us, h', by rw [r.length]; exact Nat.le_refl _⟩, fun i v H' hi y => ?_⟩
  · obtain ⟨u, e, _⟩ := r'.get (List.getElem?_eq_getElem hi)
    exact ⟨us, u, h', e⟩
  · obtain ⟨rfl, y⟩ := y
    obtain ⟨p, e, rp⟩ := r'.getR (y us h')
    exact ⟨p, e, fun _ _ e => e, rp⟩
theorem jok_tup {a : Addr} {us : List V} {xs : List PV} (h : SqT c.K H0 a us) (r : RFs c F0 H0 xs us) : JOk c F0 H0 (Itt c.K a) xs := by
  intro F H hF k
  have h' : SqT c.K H a us := SqT.ext h fun a o e s => k a o e (.inr s)
  have r' := RFs.ext hF k _ _ r
  refine ⟨fun i hi => ?_, ⟨us, h', by rw [r.length]; exact Nat.le_refl _⟩, fun i v H' hi y => ?_⟩
  · obtain ⟨u, e, _⟩ := r'.get (List.getElem?_eq_getElem hi)
    exact ⟨us, u, h', e⟩
  · obtain ⟨rfl, y⟩ := y
    obtain ⟨p, e, rp⟩ := r'.getR (y us h')
    exact ⟨p, e, fun _ _ e => e, rp⟩
theorem jok_range {lo : Int} {n : Nat} : JOk c F0 H0 (Itr lo n) (rng lo n) := by
  intro F H hF k
  rw [rng_len]
  refine ⟨fun i hi => hi, Nat.le_refl _, fun i v H' hi y => ?_⟩
  obtain ⟨rfl, rfl⟩ := y
  exact ⟨_, rng_get hi, fun _ _ e => e, RF.int_⟩
theorem RF.pair {F : Addr → Prop} {H : Hp} {T : Addr} {x y : V} {p q : PV} (n : H T = none) (h1 : RF c F H p x) (h2 : RF c F H q y) : RF c F (upd H T (.tup [x, y])) (.tup [p, q]) (.ref T) := by
  have k := fun a o e (_ : F a ∨ Stl o) => upd_keeps (o := HO.tup [x, y]) n a o e
  unfold RF
  exact ⟨T, [x, y], rfl, SqT.of upd_same, RFs.cons_ (RF.ext (fun _ f => f) k _ _ h1) (RFs.cons_ (RF.ext (fun _ f => f) k _ _ h2) RFs.nil_)⟩
theorem enumL_len {xs : List PV} : (enumL xs).length = xs.length := by unfold enumL; simp
theorem enumL_get {xs : List PV} {i : Nat} {p : PV} (h : xs[i]? = some p) : (enumL xs)[i]? = some (.tup [.int (i : Int), p]) := by
  have hi := (List.getElem?_eq_some_iff.mp h).1
  unfold enumL
  rw [List.getElem?_zipWith, List.getElem?_range hi, h]
theorem jok_enum {a : Addr} {us : List V} {xs : List PV} (h : FrL c F0 H0 a us) (r : RFs c F0 H0 xs us) : JOk c F0 H0 (Ite c.K a) (enumL xs) := by
  intro F H hF k
  have h' : SqL c.K H a us := (FrL.ext h hF k).sq
  have r' := RFs.ext hF k _ _ r
  rw [enumL_len]
  refine ⟨fun i hi => ?_, ⟨us, h', by rw [r.length]; exact Nat.le_refl _⟩, fun i v H' hi y => ?_⟩
  · obtain ⟨u, e, _⟩ := r'.get (List.getElem?_eq_getElem hi)
    exact ⟨us, u, h', e⟩
  · obtain ⟨T, x, rfl, n, rfl, y⟩ := y
    obtain ⟨p, e, rp⟩ := r'.getR (y us h')
    exact ⟨_, enumL_get e, upd_keeps n, RF.pair n RF.int_ rp⟩
theorem zipL_get {xs ys : List PV} {i : Nat} {p q : PV} (h : xs[i]? = some p) (h2 : ys[i]? = some q) : (zipL xs ys)[i]? = some (.tup [p, q]) := by
  unfold zipL
  rw [List.getElem?_zipWith, h, h2]
theorem zipL_len {xs ys : List PV} : (zipL xs ys).length = min xs.length ys.length := by unfold zipL; simp
theorem jok_zip {a b : Addr} {us ws : List V} {xs ys : List PV} (h : FrL c F0 H0 a us) (r : RFs c F0 H0 xs us) (h2 : FrL c F0 H0 b ws) (r2 : RFs c F0 H0 ys ws) : JOk c F0 H0 (Itz c.K a b) (zipL xs ys) := by
  intro F H hF k
  have h' : SqL c.K H a us := (FrL.ext h hF k).sq
  have h2' : SqL c.K H b ws := (FrL.ext h2 hF k).sq
  have r' := RFs.ext hF k _ _ r
  have r2' := RFs.ext hF k _ _ r2
  rw [zipL_len]
  refine ⟨fun i hi => ?_, ⟨us, ws, h', h2', by rw [← r.length, ← r2.length]; omega⟩, fun i v H' hi y => ?_⟩
  · obtain ⟨u, e, _⟩ := r'.get (List.getElem?_eq_getElem (show i < xs.length by omega))
    obtain ⟨w, e2, _⟩ := r2'.get (List.getElem?_eq_getElem (show i < ys.length by omega))
    exact ⟨us, ws, u, w, h', h2', e, e2⟩
  · obtain ⟨T, x, y', rfl, n, rfl, y1, y2⟩ := y
    obtain ⟨p, e, rp⟩ := r'.getR (y1 us h')
    obtain ⟨q, e2, rq⟩ := r2'.getR (y2 ws h2')
    exact ⟨_, zipL_get e e2, upd_keeps n, RF.pair n rp rq⟩
end
section
variable {X : Cx} {W : WX} {tg e e2 : Expr} {d : DE} {da : DA} {p pos tpos : Pos} {elts : List Expr} {kk : Nat}
/-- what is walked is a list or a tuple -/
def iSeq (K : PySem.W.Frag) (tl : TE) : TI := fun σ H R => tl σ H fun x H1 => ∃ a, x = .ref a ∧ (((∃ xs, SqL K H1 a xs) ∧ R (Itl K a) H1) ∨ ((∃ xs, SqT K H1 a xs) ∧ R (Itt K a) H1))
theorem pi_seq {tl : TE} (hl : PE X e tl) : PI X tg e (iSeq X.K tl) := by
  refine ⟨fun pins s σ H R I h => ?_⟩
  refine thn (hl.run pins s σ H _ I h) fun v s1 ⟨x, H1, I1, r1, q1⟩ => ?_
  obtain ⟨a, rfl, q⟩ := q1
  cases r1
  rcases q with ⟨⟨xs, hq⟩, q⟩ | ⟨⟨xs, hq⟩, q⟩
  · obtain ⟨its, rv, p, hz⟩ := I1.list hq
    refine wpAny_pyIter_list p.isList ?_
    refine ⟨s1.heap.objs.size, [s1.heap.objs.size], _, _, H1, rfl, I1.kept (t' := s1.toks) fun b o e => Heap.get?_push_of_some _ e, turn_list a _, ⟨_, Heap.get?_push_size _ rfl, rfl, rfl⟩, fun b hb => ?_, q⟩
    have e : b = s1.heap.objs.size := by simpa using hb
    subst e
    exact I1.fpOk (Nat.le_refl _) (I1.hok.fresh (Nat.le_refl _))
  · obtain ⟨its, rv, p, hz⟩ := I1.tuple hq
    refine wpAny_pyIter_tuple (show s1.heap.IsTuple a its.toArray from p) ?_
    refine ⟨s1.heap.objs.size, [s1.heap.objs.size], _, _, H1, rfl, I1.kept (t' := s1.toks) fun b o e => Heap.get?_push_of_some _ e, turn_tuple a _, ⟨_, Heap.get?_push_size _ rfl, rfl, rfl⟩, fun b hb => ?_, q⟩
    have e : b = s1.heap.objs.size := by simpa using hb
    subst e
    exact I1.fpOk (Nat.le_refl _) (I1.hok.fresh (Nat.le_refl _))
theorem fz_no_ex {r : EVal} {σ σ' : PSt} {ee : Exn} (q : fz r σ = .ex ee σ') : False := by
  cases r <;> simp only [fz] at q <;> try (cases q)
  split at q <;> cases q
theorem zi_seq (h : PE X e (EV (cnE LT X ce) W d)) : PI X tg e (IV (cnE LT X ce) W (dIt d)) := PI.wk (pi_seq h) fun σr H R q => by
  obtain ⟨F, la, σ, S, f⟩ := q
  refine EV.seq S (Ex.refl _) f fun F1 σ1 r v H1 x1 S1 e1 f1 => ?_
  cases q : fz r σ1 with
  | no => rw [q] at f1; exact f1.elim
  | ex ee s => exact (fz_no_ex q).elim
  | ok p σ2 =>
    rw [q] at f1
    obtain ⟨F2, x2, S2, r2, _⟩ := fz_ok S1 x1 e1 q
    cases p with
    | lst xs =>
      unfold RF at r2
      obtain ⟨a, us, rfl, h1, h2⟩ := r2
      exact ⟨a, rfl, .inl ⟨⟨us, h1.sq⟩, f1 F2 H1 x2 S2 _ (jok_list h1 h2)⟩⟩
    | tup xs =>
      unfold RF at r2
      obtain ⟨a, us, rfl, h1, h2⟩ := r2
      exact ⟨a, rfl, .inr ⟨⟨us, h1⟩, f1 F2 H1 x2 S2 _ (jok_tup h1 h2)⟩⟩
    | _ => exact f1.elim
theorem zi_range1 (hg : Gl X "range") (hm : X.mg "range" = none) (ha : PA X [e] (EVA (cnE LT X ce) W da)) (hs : starEach [e] X.env = [(false, eval e X.env)] := by rfl) : PI X tg (.Call (.Name "range" p) [e] [] pos) (IV (cnE LT X ce) W (dRng1 da)) :=
  PI.wk (pi_range1 hg hm ha hs) fun σr H R q => by
    obtain ⟨F, la, σ, S, f⟩ := q
    refine ⟨F, la, σ, S, f.bind.mono fun rs σ1 F1 H1 x1 S1 f1 vs es => ?_⟩
    cases qa : rdAll σ1 rs with
    | none => rw [qa] at f1; exact f1.elim
    | some ps =>
      rw [qa] at f1
      have r := rdAll_ok S1 es qa
      split at f1
      · rename_i j he
        cases he
        obtain ⟨hj, f2⟩ := fin_if f1
        obtain ⟨v, rfl, r1⟩ := r.one
        exact ⟨j, by rw [r1.int], hj.1, hj.2, f2 F1 H1 x1 S1 _ jok_range⟩
      · exact f1.elim
theorem zi_range2 (hg : Gl X "range") (hm : X.mg "range" = none) (ha : PA X [e, e2] (EVA (cnE LT X ce) W da)) (hs : starEach [e, e2] X.env = [(false, eval e X.env), (false, eval e2 X.env)] := by rfl) (hs2 : starEach [e2] X.env = [(false, eval e2 X.env)] := by rfl) :
    PI X tg (.Call (.Name "range" p) [e, e2] [] pos) (IV (cnE LT X ce) W (dRng2 da)) :=
  PI.wk (pi_range2 hg hm ha hs hs2) fun σr H R q => by
    obtain ⟨F, la, σ, S, f⟩ := q
    refine ⟨F, la, σ, S, f.bind.mono fun rs σ1 F1 H1 x1 S1 f1 vs es => ?_⟩
    cases qa : rdAll σ1 rs with
    | none => rw [qa] at f1; exact f1.elim
    | some ps =>
      rw [qa] at f1
      have r := rdAll_ok S1 es qa
      split at f1
      · rename_i i j he
        cases he
        obtain ⟨hj, f2⟩ := fin_if f1
        obtain ⟨v, u, rfl, r1, r2⟩ := r.two
        exact ⟨i, j, by rw [r1.int, r2.int], ⟨hj.1.1, hj.1.2, hj.2.1, hj.2.2⟩, f2 F1 H1 x1 S1 _ jok_range⟩
      · exact f1.elim
theorem zi_enum (hg : Gl X "enumerate") (hm : X.mg "enumerate" = none) (ha : PA X [e] (EVA (cnE LT X ce) W da)) (hs : starEach [e] X.env = [(false, eval e X.env)] := by rfl) :
    PI X (.Tuple elts kk tpos) (.Call (.Name "enumerate" p) [e] [] pos) (IV (cnE LT X ce) W (dEnum da)) :=
  PI.wk (pi_enum hg hm ha hs) fun σr H R q => by
    obtain ⟨F, la, σ, S, f⟩ := q
    refine ⟨F, la, σ, S, f.bind.mono fun rs σ1 F1 H1 x1 S1 f1 vs es => ?_⟩
    cases qa : dTup.vals rs with
    | none => rw [qa] at f1; exact f1.elim
    | some ps =>
      rw [qa] at f1
      have r := vals_ok es qa
      split at f1
      · rename_i xs he
        cases he
        unfold RFs at r
        obtain ⟨u, r', rfl, r1, r2⟩ := r
        unfold RFs at r2
        subst r2
        unfold RF at r1
        obtain ⟨a, us, rfl, h1, h2⟩ := r1
        exact ⟨a, us, rfl, h1.sq, f1 F1 H1 x1 S1 _ (jok_enum h1 h2)⟩
      · exact f1.elim
theorem zi_zip (hg : Gl X "zip") (hm : X.mg "zip" = none) (ha : PA X [e, e2] (EVA (cnE LT X ce) W da)) (hs : starEach [e, e2] X.env = (false, eval e X.env) :: starEach [e2] X.env := by rfl) (hpl : (backTo pos (starEach [e2] X.env)).any (·.1) = false := by rfl) :
    PI X (.Tuple elts kk tpos) (.Call (.Name "zip" p) [e, e2] [] pos) (IV (cnE LT X ce) W (dZip da)) :=
  PI.wk (pi_zip hg hm ha hs hpl) fun σr H R q => by
    obtain ⟨F, la, σ, S, f⟩ := q
    refine ⟨F, la, σ, S, f.bind.mono fun rs σ1 F1 H1 x1 S1 f1 vs es => ?_⟩
    cases qa : dTup.vals rs with
    | none => rw [qa] at f1; exact f1.elim
    | some ps =>
      rw [qa] at f1
      have r := vals_ok es qa
      split at f1
      · rename_i xs ys he
        cases he
        unfold RFs at r
        obtain ⟨u, r', rfl, r1, r2⟩ := r
        unfold RFs at r2
        obtain ⟨u2, r2', rfl, r3, r4⟩ := r2
        unfold RFs at r4
        subst r4
        unfold RF at r1 r3
        obtain ⟨a, us, rfl, h1, h2⟩ := r1
        obtain ⟨b, ws, rfl, h3, h4⟩ := r3
        exact ⟨a, b, us, ws, rfl, h1.sq, h3.sq, f1 F1 H1 x1 S1 _ (jok_zip h1 h2 h3 h4)⟩
      · exact f1.elim
end

/-! ### for -/
def lpFor (g : DG) (b : DS) : List PV → DS
  | [], σ => .ok .nx σ
  | x :: xs, σ => (g x σ).bind fun _ σ1 => (b σ1).bind fun f σ2 => match f with
    | .nx => lpFor g b xs σ2
    | .ct => lpFor g b xs σ2
    | .bk => .ok .nx σ2
    | .rt r => .ok (.rt r) σ2
def dFor (di : DI) (g : DG) (b : DS) : DS := fun σ => (di σ).bind fun xs σ1 => lpFor g b xs σ1
section
variable {X : Cx} {W : WX} {tg iter : Expr} {body : List Stmt} {di : DI} {g : DG} {b : DS} {pos : Pos}
theorem endP_weak {c : Cn} {la : List Addr} {g g' : Gh} {D : Ends} {fl : Fl} {σ' : PSt} {σr' : St} {F' : Addr → Prop} {H' : Hp} (w : ∀ a, Nw g' a → Nw g a) (h : endP c la g D fl σ' σr' F' H') : endP c la g' D fl σ' σr' F' H' := by
  cases fl with
  | rt r => exact fun v e => h v (e.weak w)
  | _ => exact h
theorem z_for (hp : PassesOwn (model X.prog X.w) X.A X.env X.xe) (hc : X.calm = true) (hi : PI X tg iter (IV (cnE LT X ce) W di)) (hg : PG X tg (GV (cnE LT X ce) W g)) (hb : PSs X body (SV (cnE LT X ce) W b))
    (hs : ∀ x, foldedSetIterable iter X.env x = pure x := by intro _; rfl) : PS X (.For tg iter body [] pos) (SV (cnE LT X ce) W (dFor di g b)) :=
  PS.wk (ps_for hp hc hi hg hb hs) fun D σr0 H0 q => by
    obtain ⟨F, la, σ, S, f⟩ := q
    refine ⟨F, la, σ, S, f.expr.mono fun xs σ1 F1 H1 x1 S1 f1 J hJ => ?_⟩
    refine ⟨fun i m σr H => m = xs.length - i ∧ i ≤ xs.length ∧ ∃ F' σ', SR (cnE LT X ce) F' la σ' σr H ∧ Ex ⟨F1, H1, Ow σ1 σr0 la⟩ ⟨F', H, Ow σ' σr la⟩ ∧ FinS (cnE LT X ce) W la ⟨F, H0, Ow σ σr0 la⟩ (lpFor g b (xs.drop i) σ') (endP (cnE LT X ce) la ⟨F, H0, Ow σ σr0 la⟩ D),
      ⟨xs.length, rfl, Nat.zero_le _, F1, σ1, S1, Ex.refl _, f1⟩, ?_⟩
    rintro i m σr H ⟨rfl, hi, F', σ', S', x', f'⟩
    obtain ⟨go, stop, yld⟩ := hJ F' H x'.fr (Ex.keep S1 x')
    by_cases hlt : i < xs.length
    · refine .inr ⟨go i hlt, fun σr2 H2 => ∃ F2 σ2, SR (cnE LT X ce) F2 la σ2 σr2 H2 ∧ Ex ⟨F1, H1, Ow σ1 σr0 la⟩ ⟨F2, H2, Ow σ2 σr2 la⟩ ∧ FinS (cnE LT X ce) W la ⟨F, H0, Ow σ σr0 la⟩ (lpFor g b (xs.drop (i + 1)) σ2) (endP (cnE LT X ce) la ⟨F, H0, Ow σ σr0 la⟩ D),
        fun σr2 H2 ⟨F2, σ2, S2, x2, f2⟩ => ⟨xs.length - (i + 1), by omega, rfl, hlt, F2, σ2, S2, x2, f2⟩, fun v H2 y => ?_⟩
      obtain ⟨p, ep, kp, rp⟩ := yld i v H2 hlt y
      have ed : xs.drop i = p :: xs.drop (i + 1) := by
        rw [List.drop_eq_getElem_cons hlt]
        rw [List.getElem?_eq_getElem hlt] at ep
        cases ep; rfl
      rw [ed, lpFor] at f'
      have S2 := S'.keeps kp
      have xk : Ex ⟨F', H, Ow σ' σr la⟩ ⟨F', H2, Ow σ' σr la⟩ := Ex.keeps kp
      have xa := (x1.trans x').trans xk
      refine ⟨F', la, σ', p, S2, rp, (f'.bind.step xa).mono fun _ σ3 σr3 F3 H3 x3 S3 f3 => ?_⟩
      refine ⟨F3, la, σ3, S3, ((f3.bind).step (xa.trans x3)).mono fun fl σ4 σr4 F4 H4 x4 S4 f4 => ?_⟩
      have xb := (xa.trans x3).trans x4
      have xc := (((x'.trans xk).trans x3).trans x4)
      cases fl with
      | nx => exact ⟨F4, σ4, S4, xc, f4⟩
      | ct => exact ⟨F4, σ4, S4, xc, f4⟩
      | bk => exact f4 F4 H4 σr4 xb S4
      | rt r => exact fun v e => f4 F4 H4 σr4 xb S4 v (e.weak fun a n => (xa.trans x3).back n)
    · have e : i = xs.length := by omega
      subst e
      rw [List.drop_length, lpFor] at f'
      exact .inl ⟨stop, f' F' H σr (x1.trans x') S'⟩

/-! ### while -/
def lpWh (t : DT) (b : DS) : Nat → DS
  | 0, _ => .no
  | n + 1, σ => (t σ).bind fun k σ1 => if k = true then (b σ1).bind fun f σ2 => match f with
    | .nx => lpWh t b n σ2
    | .ct => lpWh t b n σ2
    | .bk => .ok .nx σ2
    | .rt r => .ok (.rt r) σ2 else .ok .nx σ1
/-- the most turns of a while that a denotation goes -/
def wN : Nat := 2 ^ 4000
def dWh (t : DT) (b : DS) : DS := fun σ => lpWh t b wN σ
theorem z_while {t : Expr} {dt : DT} (hp : PassesOwn (model X.prog X.w) X.A X.env X.xe) (hc : PT X t (EVT (cnE LT X ce) W dt)) (hb : PSs X body (SV (cnE LT X ce) W b)) : PS X (.While t body [] pos) (SV (cnE LT X ce) W (dWh dt b)) :=
  PS.wk (ps_while hp hc hb) fun D σr0 H0 q => by
    obtain ⟨F, la, σ, S, f⟩ := q
    refine ⟨fun m σr H => ∃ F' σ', SR (cnE LT X ce) F' la σ' σr H ∧ Ex ⟨F, H0, Ow σ σr0 la⟩ ⟨F', H, Ow σ' σr la⟩ ∧ FinS (cnE LT X ce) W la ⟨F, H0, Ow σ σr0 la⟩ (lpWh dt b m σ') (endP (cnE LT X ce) la ⟨F, H0, Ow σ σr0 la⟩ D),
      ⟨wN, F, σ, S, Ex.refl _, f⟩, ?_⟩
    rintro m σr H ⟨F', σ', S', x', f'⟩
    cases m with
    | zero => exact f'.elim
    | succ n =>
      rw [lpWh] at f'
      refine ⟨F', la, σ', S', (f'.expr.step x').mono fun k σ1 F1 H1 x1 S1 f1 => ?_⟩
      cases k with
      | false =>
        rw [if_neg Bool.false_ne_true] at f1 ⊢
        exact f1 F1 H1 σr (x'.trans x1) S1
      | true =>
        rw [if_pos rfl] at f1 ⊢
        refine ⟨fun σr2 H2 => ∃ F2 σ2, SR (cnE LT X ce) F2 la σ2 σr2 H2 ∧ Ex ⟨F, H0, Ow σ σr0 la⟩ ⟨F2, H2, Ow σ2 σr2 la⟩ ∧ FinS (cnE LT X ce) W la ⟨F, H0, Ow σ σr0 la⟩ (lpWh dt b n σ2) (endP (cnE LT X ce) la ⟨F, H0, Ow σ σr0 la⟩ D),
          fun σr2 H2 h => ⟨n, Nat.lt_succ_self n, h⟩, F1, la, σ1, S1, (f1.bind.step (x'.trans x1)).mono fun fl σ2 σr2 F2 H2 x2 S2 f2 => ?_⟩
        have xb := (x'.trans x1).trans x2
        cases fl with
        | nx => exact ⟨F2, σ2, S2, xb, f2⟩
        | ct => exact ⟨F2, σ2, S2, xb, f2⟩
        | bk => exact f2 F2 H2 σr2 xb S2
        | rt r => exact fun v e => f2 F2 H2 σr2 xb S2 v (e.weak fun a n => (x'.trans x1).back n)
end

/-! ### comprehensions -/
def wipeP (l : List (Option Sl)) : List Nat → List (Option Sl)
  | [] => l
  | v :: vs => (wipeP l vs).set v none
def nox {α : Type} (o : Rs α) : Rs α := match o with
  | .ex _ _ => .no
  | o => o
def lpLc (vs : List Nat) (g : DG) (tt : DT) (te : DE) : List PV → List PV → PSt → Rs (List PV)
  | [], acc, σ => .ok acc σ
  | x :: xs, acc, σ => (nox (g x σ)).bind fun _ σ1 => (nox (tt σ1)).bind fun k σ2 => if k = true then (nox (te σ2)).bind fun r σ3 => match r with
    | .val p => if acc.length < szL then lpLc vs g tt te xs (acc ++ [p]) ⟨wipeP σ3.sl vs, σ3.ln⟩ else .no
    | _ => .no else lpLc vs g tt te xs acc ⟨wipeP σ2.sl vs, σ2.ln⟩
def dLc (vs : List Nat) (di : DI) (g : DG) (tt : DT) (te : DE) : DE := fun σ => (di σ).bind fun xs σ1 => (lpLc vs g tt te xs [] ⟨wipeP σ1.sl vs, σ1.ln⟩).bind fun acc σ2 => .ok (.new (.lst acc)) σ2
def dYes : DT := fun σ => .ok true σ
section
theorem wipeP_len (l : List (Option Sl)) : ∀ vs, (wipeP l vs).length = l.length
  | [] => rfl
  | v :: vs => by rw [wipeP, List.length_set, wipeP_len l vs]
theorem wipeP_some {l : List (Option Sl)} {i : Nat} {s : Sl} : ∀ {vs : List Nat}, (wipeP l vs)[i]? = some (some s) → l[i]? = some (some s) ∧ i ∉ vs
  | [], h => ⟨h, by simp⟩
  | v :: vs, h => by
    rw [wipeP] at h
    by_cases hi : v = i
    · subst hi
      by_cases hv : v < (wipeP l vs).length
      · rw [List.getElem?_set_self hv] at h; cases h
      · rw [List.getElem?_eq_none (by simpa using hv)] at h; cases h
    · rw [List.getElem?_set_ne hi] at h
      obtain ⟨h1, h2⟩ := wipeP_some h
      exact ⟨h1, by simp only [List.mem_cons, not_or]; exact ⟨fun e => hi e.symm, h2⟩⟩
variable {c : Cn} {F : Addr → Prop} {la : List Addr} {σ : PSt} {σr : St} {H : Hp} {g : Gh}
/-- slots forgotten on both sides -/
theorem wipe_sr (S : SR c F la σ σr H) (x : Ex g ⟨F, H, Ow σ σr la⟩) (vs : List Nat) : SR c F la ⟨wipeP σ.sl vs, σ.ln⟩ (wipe σr vs) H ∧ Ex g ⟨F, H, Ow ⟨wipeP σ.sl vs, σ.ln⟩ (wipe σr vs) la⟩ := by
  have out : ∀ {i : Nat} {s : Sl}, (wipeP σ.sl vs)[i]? = some (some s) → σ.sl[i]? = some (some s) ∧ (wipe σr vs)[i]? = σr[i]? := fun h => by
    obtain ⟨h1, h2⟩ := wipeP_some h
    exact ⟨h1, wipe_out h2⟩
  refine ⟨⟨by rw [wipeP_len, wipe_length]; exact S.len, fun i v e => ?_, fun i k e => ?_, fun i v e => ?_, fun i j v w b e1 e2 e3 e4 => ?_, S.lln, S.lnd, S.ln, S.ftr, fun i v e => ?_, S.tabs⟩, ⟨x.fr, x.kp, x.tb, fun a z => ?_, x.fn⟩⟩
  · obtain ⟨e1, e2⟩ := out e
    obtain ⟨u, e3, r⟩ := S.frz i v e1
    exact ⟨u, e2.trans e3, r⟩
  · obtain ⟨e1, e2⟩ := out e
    obtain ⟨u, e3, r⟩ := S.lo i k e1
    exact ⟨u, e2.trans e3, r⟩
  · obtain ⟨e1, e2⟩ := out e
    obtain ⟨u, e3, r⟩ := S.own i v e1
    exact ⟨u, e2.trans e3, r⟩
  · obtain ⟨h1, h2⟩ := out e1
    obtain ⟨h3, h4⟩ := out e2
    exact S.inj i j v w b h1 h3 (h2.symm.trans e3) (h4.symm.trans e4)
  · obtain ⟨e1, e2⟩ := out e
    obtain ⟨u, e3, r⟩ := S.clo i v e1
    exact ⟨u, e2.trans e3, r⟩
  · rcases z with z | ⟨i, v, e1, e2⟩
    · exact x.ow a (.inl z)
    · obtain ⟨h1, h2⟩ := out e1
      exact x.ow a (.inr ⟨i, v, h1, h2.symm.trans e2⟩)
theorem unwipe_sr {vs : List Nat} (S : SR c F la σ (wipe σr vs) H) (x : Ex g ⟨F, H, Ow σ (wipe σr vs) la⟩) : SR c F la σ σr H ∧ Ex g ⟨F, H, Ow σ σr la⟩ := by
  refine ⟨⟨by rw [← wipe_length σr vs]; exact S.len, fun i v e => ?_, fun i k e => ?_, fun i v e => ?_, fun i j v w b e1 e2 e3 e4 => ?_, S.lln, S.lnd, S.ln, S.ftr, fun i v e => ?_, S.tabs⟩, ⟨x.fr, x.kp, x.tb, fun a z => ?_, x.fn⟩⟩
  · obtain ⟨u, e3, r⟩ := S.frz i v e
    exact ⟨u, (wipe_some e3).1, r⟩
  · obtain ⟨u, e3, r⟩ := S.lo i k e
    exact ⟨u, (wipe_some e3).1, r⟩
  · obtain ⟨u, e3, r⟩ := S.own i v e
    exact ⟨u, (wipe_some e3).1, r⟩
  · obtain ⟨u, e5, _⟩ := S.own i v e1
    obtain ⟨u', e6, _⟩ := S.own j w e2
    have h1 := (wipe_some e5).1
    have h2 := (wipe_some e6).1
    rw [e3] at h1; cases h1
    rw [e4] at h2; cases h2
    exact S.inj i j v w b e1 e2 e5 e6
  · obtain ⟨u, e3, r⟩ := S.clo i v e
    exact ⟨u, (wipe_some e3).1, r⟩
  · rcases z with z | ⟨i, v, e1, e2⟩
    · exact x.ow a (.inl z)
    · obtain ⟨u, e5, _⟩ := S.own i v e1
      have h1 := (wipe_some e5).1
      rw [e2] at h1; cases h1
      exact x.ow a (.inr ⟨i, v, e1, e5⟩)
end
end L2.Zz

/-! Z10: comprehensions. -/
namespace L2.Zz
open PySem PySem.Spec PyProof.Rows
variable {LT : LTab} {ce : List (Str × Addr)}

theorem wipe_get (τ : St) (vs : List Nat) (j : Nat) : (wipe τ vs)[j]? = if j ∈ vs ∧ j < τ.length then some none else τ[j]? := by
  induction vs with
  | nil => simp [wipe]
  | cons v vs ih =>
    unfold wipe
    by_cases hj : v = j
    · subst hj
      by_cases hl : v < τ.length
      · rw [List.getElem?_set_self (by rw [wipe_length]; exact hl)]
        simp [hl]
      · rw [List.getElem?_eq_none (by rw [List.length_set, wipe_length]; omega), if_neg (fun z => hl z.2), List.getElem?_eq_none (by omega)]
    · rw [List.getElem?_set_ne hj, ih]
      by_cases h : j ∈ vs <;> simp [h, Ne.symm hj]
theorem wipe_set {τ : St} {vs : List Nat} {i : Nat} {x : Option V} (h : i ∈ vs) : wipe (τ.set i x) vs = wipe τ vs := by
  apply List.ext_getElem?
  intro j
  rw [wipe_get, wipe_get]
  by_cases hj : j = i
  · subst hj
    by_cases hl : j < τ.length
    · simp [h, hl]
    · have : τ.set j x = τ := List.set_eq_of_length_le (by omega)
      rw [this]
  · rw [List.getElem?_set_ne (Ne.symm hj)]
    simp
theorem wipe_wipe {τ : St} {vs : List Nat} : wipe (wipe τ vs) vs = wipe τ vs := by
  apply List.ext_getElem?
  intro j
  rw [wipe_get, wipe_get, wipe_length]
  by_cases h : j ∈ vs ∧ j < τ.length <;> simp [h]

/-- a target within a comprehension: its names are the block's own -/
def PatOk (c : Cn) (vs : List Nat) (G : TG) (D : DG) : Prop :=
  ∀ (g : Gh) (F : Addr → Prop) (la : List Addr) (σ σ' : PSt) (τ : St) (H : Hp) (p : PV) (v : V) (Q : St → Hp → Prop), SR c F la σ τ H → Ex g ⟨F, H, Ow σ τ la⟩ → RF c F H p v → D p σ = .ok () σ' →
    (∀ τ', wipe τ' vs = wipe τ vs → SR c F la σ' τ' H → Ex g ⟨F, H, Ow σ' τ' la⟩ → (∀ a, Ow σ' τ' la a → Ow σ τ la a) → Q τ' H) → G v τ H Q
def gNs : List Nat → TGs
  | [] => L2.gNil
  | i :: is => L2.gCons (gName i) (gNs is)
def gAll : List Nat → List PV → PSt → Rs Unit
  | [], [], σ => .ok () σ
  | i :: is, p :: ps, σ => gAll is ps ⟨σ.sl.set i (some (.frz p)), σ.ln⟩
  | _, _, _ => .no
section
variable {c : Cn} {vs : List Nat}
theorem ow_frz {la : List Addr} {σ : PSt} {τ : St} {i : Nat} {p : PV} {x : Option V} {a : Addr} (h : Ow ⟨σ.sl.set i (some (.frz p)), σ.ln⟩ (τ.set i x) la a) : Ow σ τ la a := by
  rcases h with z | ⟨j, w, e1, e2⟩
  · exact .inl z
  · by_cases hj : j = i
    · subst hj
      have hi : j < σ.sl.length := by
        have := (List.getElem?_eq_some_iff.mp e1).1
        simpa using this
      have e1' : some (some (Sl.frz p)) = some (some (Sl.own w)) := (List.getElem?_set_self hi).symm.trans e1
      cases e1'
    · exact .inr ⟨j, w, (List.getElem?_set_ne (Ne.symm hj)).symm.trans e1, (List.getElem?_set_ne (Ne.symm hj)).symm.trans e2⟩
theorem pat_name {i : Nat} (h : i ∈ vs) : PatOk c vs (gName i) (gN i) := by
  intro g F la σ σ' τ H p v Q S x r e q
  cases e
  obtain ⟨x2, S2⟩ := set_sl S x i (s := .frz p) (v := v) r fun a _ ⟨p, z⟩ => by cases z
  exact q _ (wipe_set h) S2 x2 fun a z => ow_frz z
theorem gNs_run {H : Hp} {Q : St → Hp → Prop} : ∀ (is : List Nat) (us : List V) (τ : St), us.length = is.length → Q (setAll is us τ) H → gNs is us τ H Q
  | [], us, τ, h, q => by
    have : us = [] := List.eq_nil_of_length_eq_zero h
    subst this
    exact ⟨rfl, q⟩
  | i :: is, u :: us, τ, h, q => ⟨u, us, rfl, gNs_run is us _ (by simpa using h) q⟩
  | i :: is, [], τ, h, q => by simp at h
theorem gAll_ok {F : Addr → Prop} {la : List Addr} {H : Hp} {g : Gh} : ∀ (is : List Nat) (ps : List PV) (us : List V) (σ σ' : PSt) (τ : St), (∀ i ∈ is, i ∈ vs) → SR c F la σ τ H → Ex g ⟨F, H, Ow σ τ la⟩ → RFs c F H ps us → gAll is ps σ = .ok () σ' →
    us.length = is.length ∧ wipe (setAll is us τ) vs = wipe τ vs ∧ SR c F la σ' (setAll is us τ) H ∧ Ex g ⟨F, H, Ow σ' (setAll is us τ) la⟩ ∧ ∀ a, Ow σ' (setAll is us τ) la a → Ow σ τ la a
  | [], [], us, σ, σ', τ, hv, S, x, r, e => by
    cases e
    unfold RFs at r
    subst r
    exact ⟨rfl, rfl, S, x, fun _ z => z⟩
  | [], _ :: _, _, _, _, _, _, _, _, _, e => by simp [gAll] at e
  | _ :: _, [], _, _, _, _, _, _, _, _, e => by simp [gAll] at e
  | i :: is, p :: ps, us, σ, σ', τ, hv, S, x, r, e => by
    unfold RFs at r
    obtain ⟨u, us, rfl, r1, r2⟩ := r
    obtain ⟨x2, S2⟩ := set_sl S x i (s := .frz p) (v := u) r1 fun a _ ⟨p, z⟩ => by cases z
    obtain ⟨h1, h2, h3, h4, h5⟩ := gAll_ok is ps us _ σ' _ (fun j hj => hv j (List.mem_cons_of_mem _ hj)) S2 x2 r2 e
    exact ⟨by simp [h1], h2.trans (wipe_set (hv i List.mem_cons_self)), h3, h4, fun a z => ow_frz (h5 a z)⟩
theorem pat_tup {is : List Nat} {n : Nat} (hn : n = is.length) (hv : ∀ i ∈ is, i ∈ vs) : PatOk c vs (gTup c.K n (gNs is)) (gT n (gAll is)) := by
  intro g F la σ σ' τ H p v Q S x r e q
  cases p with
  | tup xs =>
    unfold RF at r
    obtain ⟨a, us, rfl, h1, r1⟩ := r
    rw [gT] at e
    by_cases hl : xs.length = n
    · rw [if_pos hl] at e
      obtain ⟨k1, k2, k3, k4, k5⟩ := gAll_ok is xs us σ σ' τ hv S x r1 e
      exact ⟨a, us, rfl, h1, by rw [← r1.length]; exact hl, gNs_run is us τ k1 (q _ k2 k3 k4 k5)⟩
    · rw [if_neg hl] at e; cases e
  | _ => cases e
end
theorem nox_fin {α β : Type} {c : Cn} {W : WX} {la : List Addr} {σr τ : St} {g : Gh} {o : Rs α} {k : α → PSt → Rs β} {P : β → PSt → (Addr → Prop) → Hp → Prop} (h : Fin c W la σr g ((nox o).bind k) P) : ∃ a σ', o = .ok a σ' ∧ Fin c W la σr g (k a σ') P := by
  cases o with
  | ok a s => exact ⟨a, s, rfl, h⟩
  | ex e s => exact h.elim
  | no => exact h.elim
section
variable {X : Cx} {W : WX} {elt tg iter : Expr} {ifs : List Expr} {scope : Scope} {own : List (Str × Nat)} {pos : Pos} {di : DI} {G : TG} {g : DG} {dt : DT} {te : DE}
abbrev W0 : WX := fun _ _ _ _ => False
theorem zts_nil : PTs X [] (EVT (cnE LT X ce) W dYes) := ⟨fun pins s σr H Q I q => pts_nil.run pins s σr H Q I (by
  obtain ⟨F, la, σ, S, f⟩ := q
  exact f F H (Ex.refl _) S)⟩
theorem zts_one {c : Expr} (h : PT X c (EVT (cnE LT X ce) W dt)) : PTs X [c] (EVT (cnE LT X ce) W dt) := pts_one h
theorem lc_read {wi : TI} {vs : List Nat} (hw : wi = IV (cnE LT X ce) W di) (hp : PatOk (cnE LT X ce) vs G g) : ∀ σr H Q, EV (cnE LT X ce) W (dLc vs di g dt te) σr H Q → tLc wi G (EVT (cnE LT X ce) W0 dt) (EV (cnE LT X ce) W0 te) vs σr H Q := by
  subst hw
  intro σr H0 Q q
  obtain ⟨F, la, σ, S, f⟩ := q
  refine ⟨F, la, σ, S, f.bind.mono fun xs σ1 F1 H1 x1 S1 f1 J hJ D nD => ?_⟩
  obtain ⟨hc1, hc2⟩ := S1.fresh nD
  have k0 := upd_keeps (o := HO.lst []) nD
  have S1' := S1.keeps k0
  obtain ⟨S2, x2⟩ := wipe_sr S1' (x1.trans (Ex.keeps k0)) vs
  have nw0 : Nw ⟨F, H0, Ow σ σr la⟩ D := x1.back (.inr nD)
  refine ⟨fun i m H => m = xs.length - i ∧ i ≤ xs.length ∧ ∃ F' σ' acc us, SR (cnE LT X ce) F' la σ' (wipe σr vs) H ∧ Ex ⟨F, H0, Ow σ σr la⟩ ⟨F', H, Ow σ' (wipe σr vs) la⟩ ∧ H D = some (.lst us) ∧ RFs (cnE LT X ce) F' H acc us ∧ ¬ F' D ∧ ¬ Ow σ' (wipe σr vs) la D ∧
      (∀ a, F1 a → F' a) ∧ (∀ a o, H1 a = some o → (F1 a ∨ Stl o) → H a = some o) ∧ Fin (cnE LT X ce) W la σr ⟨F, H0, Ow σ σr la⟩ ((lpLc vs g dt te (xs.drop i) acc σ').bind fun acc σ2 => .ok (.new (.lst acc)) σ2) (PE0 (cnE LT X ce) la σr ⟨F, H0, Ow σ σr la⟩ Q),
    ⟨xs.length, rfl, Nat.zero_le _, F1, _, [], [], S2, x2, upd_same, RFs.nil_, hc1, fun z => hc2 ?_, fun _ f => f, fun a o e _ => k0 a o e, (show Fin (cnE LT X ce) W la σr ⟨F, H0, Ow σ σr la⟩ ((lpLc vs g dt te (List.drop 0 xs) [] ⟨wipeP σ1.sl vs, σ1.ln⟩).bind fun acc σ2 => .ok (.new (.lst acc)) σ2) (PE0 (cnE LT X ce) la σr ⟨F, H0, Ow σ σr la⟩ Q) from f1)⟩, ?_⟩
  · rcases z with z | ⟨i, v, e1, e2⟩
    · exact .inl z
    · exact .inr ⟨i, v, (wipeP_some e1).1, (wipe_some e2).1⟩
  rintro i m H ⟨rfl, hi, F', σ', acc, us, S', x', hD, rA, nF, nO, hF, hk, f'⟩
  obtain ⟨go, stop, yld⟩ := hJ F' H hF hk
  by_cases hlt : i < xs.length
  · refine .inr ⟨go i hlt, fun H' => ∃ F' σ' acc us, SR (cnE LT X ce) F' la σ' (wipe σr vs) H' ∧ Ex ⟨F, H0, Ow σ σr la⟩ ⟨F', H', Ow σ' (wipe σr vs) la⟩ ∧ H' D = some (.lst us) ∧ RFs (cnE LT X ce) F' H' acc us ∧ ¬ F' D ∧ ¬ Ow σ' (wipe σr vs) la D ∧
      (∀ a, F1 a → F' a) ∧ (∀ a o, H1 a = some o → (F1 a ∨ Stl o) → H' a = some o) ∧ Fin (cnE LT X ce) W la σr ⟨F, H0, Ow σ σr la⟩ ((lpLc vs g dt te (xs.drop (i + 1)) acc σ').bind fun acc σ2 => .ok (.new (.lst acc)) σ2) (PE0 (cnE LT X ce) la σr ⟨F, H0, Ow σ σr la⟩ Q),
      fun H' h => ⟨xs.length - (i + 1), by omega, rfl, hlt, h⟩, fun v H2 y => ?_⟩
    obtain ⟨p, ep, kp, rp⟩ := yld i v H2 hlt y
    have ed : xs.drop i = p :: xs.drop (i + 1) := by
      rw [List.drop_eq_getElem_cons hlt]
      rw [List.getElem?_eq_getElem hlt] at ep
      cases ep; rfl
    rw [ed, lpLc] at f'
    -- the target
    cases qg : g p σ' with
    | no => rw [qg] at f'; exact f'.elim
    | ex e s => rw [qg] at f'; exact f'.elim
    | ok u σ3 =>
    rw [qg] at f'
    have Sk := S'.keeps kp
    have xk := x'.trans (Ex.keeps (F := F') (O := Ow σ' (wipe σr vs) la) kp)
    refine hp _ F' la σ' σ3 (wipe σr vs) H2 p v _ Sk xk rp qg fun τ' hτ S3 x3 ow3 => ⟨by rw [hτ, wipe_wipe], ?_⟩
    have hτ' : wipe τ' vs = wipe σr vs := by rw [hτ, wipe_wipe]
    have kD := kp D _ hD
    have erD : ER (cnE LT X ce) F' la (Ow σ3 τ' la) (Nw ⟨F, H0, Ow σ σr la⟩) τ' H2 (.new (.lst acc)) (.ref D) :=
      ⟨D, rfl, ⟨us, kD, RFs.ext (fun _ f => f) (fun a o e _ => kp a o e) _ _ rA⟩, nF, fun z => nO (ow3 D z), nw0⟩
    have f3 : Fin (cnE LT X ce) W la σr ⟨F, H0, Ow σ σr la⟩ (((nox (dt σ3)).bind fun k σ2 => if k = true then (nox (te σ2)).bind fun r σ3 => match r with
      | .val p => if acc.length < szL then lpLc vs g dt te (xs.drop (i + 1)) (acc ++ [p]) ⟨wipeP σ3.sl vs, σ3.ln⟩ else .no
      | _ => .no else lpLc vs g dt te (xs.drop (i + 1)) acc ⟨wipeP σ2.sl vs, σ2.ln⟩).bind fun acc σ2 => .ok (.new (.lst acc)) σ2) (PE0 (cnE LT X ce) la σr ⟨F, H0, Ow σ σr la⟩ Q) := f'
    cases qt : dt σ3 with
    | no => rw [qt] at f3; exact f3.elim
    | ex e s => rw [qt] at f3; exact f3.elim
    | ok b σ4 =>
    rw [qt] at f3
    have f3 : Fin (cnE LT X ce) W la σr ⟨F, H0, Ow σ σr la⟩ ((if b = true then (nox (te σ4)).bind fun r σ3 => match r with
      | .val p => if acc.length < szL then lpLc vs g dt te (xs.drop (i + 1)) (acc ++ [p]) ⟨wipeP σ3.sl vs, σ3.ln⟩ else .no
      | _ => .no else lpLc vs g dt te (xs.drop (i + 1)) acc ⟨wipeP σ4.sl vs, σ4.ln⟩).bind fun acc σ2 => .ok (.new (.lst acc)) σ2) (PE0 (cnE LT X ce) la σr ⟨F, H0, Ow σ σr la⟩ Q) := f3
    refine ⟨F', la, σ3, S3, ?_⟩
    rw [qt]
    intro F4 H4 x4 S4
    have erD4 := erD.ext S3 x4
    obtain ⟨D', eD, ⟨us4, hD4, rA4⟩, nF4, nO4, _⟩ := id erD4
    cases eD
    have keep4 : ∀ a o, H1 a = some o → (F1 a ∨ Stl o) → H4 a = some o := fun a o e h => Ex.keep S3 x4 a o (kp a o (hk a o e h)) (h.imp (hF a) id)
    cases b with
    | false =>
      rw [if_neg Bool.false_ne_true] at f3
      refine iteF ?_
      obtain ⟨S5, x5⟩ := wipe_sr S4 (x3.trans x4) vs
      rw [hτ'] at S5 x5
      refine ⟨F4, _, acc, us4, S5, x5, hD4, rA4, nF4, fun z => nO4 ?_, fun a f => x4.fr a (hF a f), keep4, f3⟩
      rcases z with z | ⟨j, w, e1, e2⟩
      · exact .inl z
      · rw [← hτ'] at e2
        exact .inr ⟨j, w, (wipeP_some e1).1, (wipe_some e2).1⟩
    | true =>
      rw [if_pos rfl] at f3
      refine iteT ?_
      cases qe : te σ4 with
      | no => rw [qe] at f3; exact f3.elim
      | ex e s => rw [qe] at f3; exact f3.elim
      | ok r σ5 =>
      rw [qe] at f3
      cases r with
      | val y =>
        have f3 : Fin (cnE LT X ce) W la σr ⟨F, H0, Ow σ σr la⟩ ((if acc.length < szL then lpLc vs g dt te (xs.drop (i + 1)) (acc ++ [y]) ⟨wipeP σ5.sl vs, σ5.ln⟩ else .no).bind fun acc σ2 => .ok (.new (.lst acc)) σ2) (PE0 (cnE LT X ce) la σr ⟨F, H0, Ow σ σr la⟩ Q) := f3
        by_cases hz : acc.length < szL
        · rw [if_pos hz] at f3
          refine ⟨F4, la, σ4, S4, ?_⟩
          rw [qe]
          intro F5 H5 x5 S5 yv ey
          have erD5 := erD4.ext S4 x5
          obtain ⟨a5, e5, ro5, nf5, nn5, wrk⟩ := wr_at (q := .lst (acc ++ [y])) S5 ((x3.trans x4).trans x5) erD5 rfl rfl
          cases e5
          obtain ⟨_, e5', ⟨us5, hD5, rA5⟩, nF5, nO5, _⟩ := id erD5
          cases e5'
          have ey' : RF (cnE LT X ce) F5 H5 y yv := ey
          have kk : ∀ b u, H5 b = some u → (F5 b ∨ Stl u) → upd H5 D (.lst (us5 ++ [yv])) b = some u := fun b u e h => by
            rw [upd_ne (fun z => ?_)]
            · exact e
            · subst z
              rw [hD5] at e; cases e
              rcases h with h | h
              · exact nf5 h
              · exact h
          have roN : RO (cnE LT X ce) F5 (upd H5 D (.lst (us5 ++ [yv]))) (.lst (acc ++ [y])) D :=
            ⟨_, upd_same, (RFs.ext (fun _ f => f) kk _ _ rA5).append (RFs.cons_ (RF.ext (fun _ f => f) kk _ _ ey') RFs.nil_)⟩
          obtain ⟨x6, S6⟩ := wrk _ roN
          obtain ⟨S7, x7⟩ := wipe_sr S6 x6 vs
          rw [hτ'] at S7 x7
          refine ⟨us5, hD5, by rw [← rA5.length, szL_eq]; exact hz, F5, _, acc ++ [y], us5 ++ [yv], S7, x7, upd_same, ?_, nF5, fun z => nO5 ?_, fun a f => x5.fr a (x4.fr a (hF a f)), fun a o e h => ?_, f3⟩
          · obtain ⟨us', e', r'⟩ := roN
            rw [upd_same] at e'; cases e'
            exact r'
          · rcases z with z | ⟨j, w, e1, e2⟩
            · exact .inl z
            · rw [← hτ'] at e2
              exact .inr ⟨j, w, (wipeP_some e1).1, (wipe_some e2).1⟩
          · rw [upd_ne (fun z => by subst z; rw [nD] at e; cases e)]
            exact Ex.keep S4 x5 a o (keep4 a o e h) (h.imp (fun f => x4.fr a (hF a f)) id)
        · rw [if_neg hz] at f3; exact f3.elim
      | _ => exact f3.elim
  · have e : i = xs.length := by omega
    subst e
    rw [List.drop_length, lpLc] at f'
    refine .inl ⟨stop, ?_⟩
    have f2 : Fin (cnE LT X ce) W la σr ⟨F, H0, Ow σ σr la⟩ (Rs.ok (.new (.lst acc)) σ') (PE0 (cnE LT X ce) la σr ⟨F, H0, Ow σ σr la⟩ Q) := f'
    obtain ⟨S3, x3⟩ := unwipe_sr S' x'
    exact f2 F' H x3 S3 _ ⟨D, rfl, ⟨us, hD, rA⟩, nF, fun z => nO (by
      rcases z with z | ⟨j, w, e1, e2⟩
      · exact .inl z
      · obtain ⟨b, e3, _⟩ := S'.own j w e1
        have e4 := (wipe_some e3).1
        rw [e2] at e4; cases e4
        exact .inr ⟨j, w, e1, e3⟩), nw0⟩
theorem z_lc {vs : List Nat} (hv : vs = own.map (·.2)) (hp : PatOk (cnE LT X ce) vs G g) (hc : X.calm = true) (hN : X.N.Nodup) (hi : PI X tg iter (IV (cnE LT X ce) W di)) (ok : BlkOk X.N X.env.scope scope own)
    (hg : ∀ (s : Shared) (H : Hp) (C : Addr) (cl : List (Str × Addr)) (fp : List Addr), PG (X.blk s H scope (compEnvC scope cl C X.env) fp) tg G) (ht : ∀ (s : Shared) (H : Hp) (C : Addr) (cl : List (Str × Addr)) (fp : List Addr), PTs (X.blk s H scope (compEnvC scope cl C X.env) fp) ifs (EVT (cnE LT X ce) W0 dt))
    (he : ∀ (s : Shared) (H : Hp) (C : Addr) (cl : List (Str × Addr)) (fp : List Addr), PE (X.blk s H scope (compEnvC scope cl C X.env) fp) elt (EV (cnE LT X ce) W0 te)) (hs : ∀ x, foldedSetIterable iter X.env x = pure x := by intro _; rfl) :
    PE X (.ListComp elt [⟨tg, iter, ifs, 0⟩] scope pos) (EV (cnE LT X ce) W (dLc vs di g dt te)) := by
  subst hv
  exact PE.wk (pe_lc hc hN hi ok hg ht he hs) fun σ H Q q => lc_read rfl hp σ H Q q
theorem z_setLc {vs : List Nat} {i : Nat} {y : Str} {py spos : Pos} (hv : vs = own.map (·.2)) (hp : PatOk (cnE LT X ce) vs G g) (hc : X.calm = true) (hN : X.N.Nodup) (hy : X.N[i]? = some y) (hyl : X.env.scope.names.lookup y = some .local)
    (hsw : swapsWith (.ListComp elt [⟨tg, iter, ifs, 0⟩] scope pos) (some (.Name y py)) spos.line X.env = pure true) (hi : PI X tg iter (IV (cnE LT X ce) W di)) (ok : BlkOk X.N X.env.scope scope own)
    (hg : ∀ (s : Shared) (H : Hp) (C : Addr) (cl : List (Str × Addr)) (fp : List Addr), PG (X.blk s H scope (compEnvC scope cl C X.env) fp) tg G) (ht : ∀ (s : Shared) (H : Hp) (C : Addr) (cl : List (Str × Addr)) (fp : List Addr), PTs (X.blk s H scope (compEnvC scope cl C X.env) fp) ifs (EVT (cnE LT X ce) W0 dt))
    (he : ∀ (s : Shared) (H : Hp) (C : Addr) (cl : List (Str × Addr)) (fp : List Addr), PE (X.blk s H scope (compEnvC scope cl C X.env) fp) elt (EV (cnE LT X ce) W0 te)) (hs : ∀ x, foldedSetIterable iter X.env x = pure x := by intro _; rfl) :
    PS X (.Assign [.Name y py] (.ListComp elt [⟨tg, iter, ifs, 0⟩] scope pos) spos) (SV (cnE LT X ce) W (dSet i (dLc vs di g dt te))) := by
  subst hv
  refine PS.wk (ps_setLc hc hN hy hyl hsw hi ok hg ht he hs) fun D σr H q => ?_
  obtain ⟨F, la, σ, S, f⟩ := q
  refine lc_read rfl hp σr H _ ⟨F, la, σ, S, f.expr.mono fun r σ1 F1 H1 x1 S1 f1 v e1 => ?_⟩
  rcases st_cases (i := i) (r := r) (σ := σ1) with ⟨σ2, q⟩ | q
  · rw [q] at f1
    obtain ⟨F2, x2, S2⟩ := st_ok S1 x1 e1 q
    exact f1 F2 H1 _ x2 S2
  · rw [q] at f1; exact f1.elim
end
end L2.Zz

/-! Z11: calls of defs. -/
namespace L2.Zz
open PySem PySem.Spec PyProof.Rows
variable {LT : LTab} {ce : List (Str × Addr)}

/-- a place that is lent: a slot (true), a loan of one's own (false) -/
abbrev Pl := Bool × Nat
def bindA : List EVal → Nat → Option (List (Option Sl) × List Pl)
  | [], _ => some ([], [])
  | .val p :: rs, k => (bindA rs k).map fun q => (some (.frz p) :: q.1, q.2)
  | .new p :: rs, k => (bindA rs k).map fun q => (some (.own p) :: q.1, q.2)
  | .at i :: rs, k => (bindA rs (k + 1)).map fun q => (some (.lo k) :: q.1, (true, i) :: q.2)
  | .lo j :: rs, k => (bindA rs (k + 1)).map fun q => (some (.lo k) :: q.1, (false, j) :: q.2)
  | .clo _ :: _, _ => none
  | .clos _ :: _, _ => none
def con1 (σ : PSt) : Pl → Option PV
  | (true, i) => match σ.sl[i]? with
    | some (some (.own p)) => some p
    | _ => none
  | (false, k) => σ.ln[k]?
def conA (σ : PSt) : List Pl → Option (List PV)
  | [] => some []
  | w :: ws => match con1 σ w, conA σ ws with
    | some p, some ps => some (p :: ps)
    | _, _ => none
def wbk : List Pl → List PV → PSt → PSt
  | (true, i) :: ws, p :: ps, σ => wbk ws ps ⟨σ.sl.set i (some (.own p)), σ.ln⟩
  | (false, k) :: ws, p :: ps, σ => wbk ws ps ⟨σ.sl, σ.ln.set k p⟩
  | _, _, σ => σ
/-- what a def hands back -/
def outV (r : EVal) (σ : PSt) : Option EVal := match r with
  | .val p => some (.val p)
  | .new p => some (.new p)
  | .at i => match σ.sl[i]? with
    | some (some (.own p)) => some (.new p)
    | some (some (.frz p)) => some (.val p)
    | _ => none
  | _ => none
def callD (n : Nat) (body : DS) (rs : List EVal) (σ : PSt) : Rs EVal := match bindA rs 0 with
  | some (s, w) => if w.Nodup then match conA σ w with
    | some ln => match body ⟨s ++ List.replicate (n - s.length) none, ln⟩ with
      | .ok .nx σ2 => .ok (.val .non) (wbk w σ2.ln σ)
      | .ok (.rt r) σ2 => match outV r σ2 with
        | some r' => .ok r' (wbk w σ2.ln σ)
        | none => .no
      | .ok _ _ => .no
      | .ex e σ2 => .ex e (wbk w σ2.ln σ)
      | .no => .no
    | none => .no else .no
  | none => .no
def dCall (n np : Nat) (body : DS) (da : DA) (dps : List PV) : DE := fun σ => (da σ).bind fun rs σ1 => if (rs ++ dps.map EVal.val).length = np then callD n body (rs ++ dps.map .val) σ1 else .no

/-- the promise of a def, by its body's denotation -/
def spD (c : Cb) (N : List Str) (np : Nat) (body : DS) : Sp := fun vs H Q E => vs.length = np ∧ ∀ ce, SV ⟨c, ce⟩ (fun cls d _ H => E cls d H) body { nx := fun _ H' => Q .non H', rt := Q } (start N vs) H

/-! ### the places -/
def adr (σr : St) (la : List Addr) : Pl → Addr
  | (true, i) => match σr[i]? with
    | some (some (V.ref a)) => a
    | _ => 0
  | (false, k) => la.getD k 0
section
variable {c : Cn} {F : Addr → Prop} {la : List Addr} {σ : PSt} {σr : St} {H : Hp}
theorem con1_ok (S : SR c F la σ σr H) {w : Pl} {p : PV} (e : con1 σ w = some p) : RO c F H p (adr σr la w) ∧ ¬ F (adr σr la w) ∧ Ow σ σr la (adr σr la w) := by
  obtain ⟨b, i⟩ := w
  cases b with
  | true =>
    rw [con1] at e
    cases q : σ.sl[i]? with
    | none => rw [q] at e; cases e
    | some t => cases t with
      | none => rw [q] at e; cases e
      | some t => cases t with
        | own p' =>
          rw [q] at e
          cases e
          obtain ⟨a, e1, r, n, m⟩ := S.own i p q
          have : adr σr la (true, i) = a := by simp [adr, e1]
          rw [this]
          exact ⟨r, n, .inr ⟨i, p, q, e1⟩⟩
        | _ => rw [q] at e; cases e
  | false =>
    have e' : σ.ln[i]? = some p := e
    have hi : i < la.length := by rw [S.lln]; exact (List.getElem?_eq_some_iff.mp e').1
    have ea : la[i]? = some (la.getD i 0) := by rw [List.getD_eq_getElem?_getD, List.getElem?_eq_getElem hi]; rfl
    obtain ⟨r, n⟩ := S.ln i p _ e' ea
    exact ⟨r, n, .inl (List.mem_of_getElem? ea)⟩
theorem con1_inj (S : SR c F la σ σr H) {w w' : Pl} {p p' : PV} (e : con1 σ w = some p) (e' : con1 σ w' = some p') (h : adr σr la w = adr σr la w') : w = w' := by
  have slot : ∀ {i : Nat} {p : PV}, con1 σ (true, i) = some p → σ.sl[i]? = some (some (.own p)) ∧ σr[i]? = some (some (V.ref (adr σr la (true, i)))) ∧ adr σr la (true, i) ∉ la := fun {i p} e => by
    rw [con1] at e
    cases q : σ.sl[i]? with
    | none => rw [q] at e; cases e
    | some t => cases t with
      | none => rw [q] at e; cases e
      | some t => cases t with
        | own p' =>
          rw [q] at e
          cases e
          obtain ⟨a, e1, r, n, m⟩ := S.own i p q
          have : adr σr la (true, i) = a := by simp [adr, e1]
          rw [this]
          exact ⟨rfl, e1, m⟩
        | _ => rw [q] at e; cases e
  have loan : ∀ {i : Nat} {p : PV}, con1 σ (false, i) = some p → la[i]? = some (adr σr la (false, i)) := fun {i p} e => by
    have e' : σ.ln[i]? = some p := e
    have hi : i < la.length := by rw [S.lln]; exact (List.getElem?_eq_some_iff.mp e').1
    show la[i]? = some (la.getD i 0)
    rw [List.getD_eq_getElem?_getD, List.getElem?_eq_getElem hi]; rfl
  obtain ⟨b, i⟩ := w
  obtain ⟨b', i'⟩ := w'
  cases b <;> cases b'
  · have h1 := loan e
    have h2 := loan e'
    rw [h] at h1
    obtain ⟨k1, e1⟩ := List.getElem?_eq_some_iff.mp h1
    obtain ⟨k2, e2⟩ := List.getElem?_eq_some_iff.mp h2
    have : i = i' := (List.getElem_inj S.lnd).mp (e1.trans e2.symm)
    rw [this]
  · have h1 := loan e
    obtain ⟨_, _, h2⟩ := slot e'
    exact absurd (by rw [← h]; exact List.mem_of_getElem? h1) h2
  · have h1 := loan e'
    obtain ⟨_, _, h2⟩ := slot e
    exact absurd (by rw [h]; exact List.mem_of_getElem? h1) h2
  · obtain ⟨a1, a2, _⟩ := slot e
    obtain ⟨b1, b2, _⟩ := slot e'
    rw [h] at a2
    have := S.inj i i' p p' _ a1 b1 a2 b2
    rw [this]
theorem conA_get : ∀ {w : List Pl} {ps : List PV}, conA σ w = some ps → w.length = ps.length ∧ ∀ (n : Nat) (x : Pl), w[n]? = some x → ∃ p, ps[n]? = some p ∧ con1 σ x = some p
  | [], ps, e => by cases e; exact ⟨rfl, fun n x h => by simp at h⟩
  | y :: w, ps, e => by
    rw [conA] at e
    cases q1 : con1 σ y with
    | none => rw [q1] at e; cases e
    | some p => cases q2 : conA σ w with
      | none => rw [q1, q2] at e; cases e
      | some ps' =>
        rw [q1, q2] at e
        cases e
        obtain ⟨h1, h2⟩ := conA_get q2
        refine ⟨by simp [h1], fun n x h => ?_⟩
        cases n with
        | zero => simp at h; subst h; exact ⟨p, rfl, q1⟩
        | succ n => simpa using h2 n x (by simpa using h)
theorem adr_nodup (S : SR c F la σ σr H) {w : List Pl} (nd : w.Nodup) (h : ∀ x ∈ w, ∃ p, con1 σ x = some p) : (w.map (adr σr la)).Nodup := by
  induction w with
  | nil => exact List.nodup_nil
  | cons y w ih =>
    rw [List.nodup_cons] at nd
    rw [List.map_cons, List.nodup_cons]
    refine ⟨fun z => ?_, ih nd.2 fun x hx => h x (List.mem_cons_of_mem _ hx)⟩
    obtain ⟨x, hx, e⟩ := List.mem_map.mp z
    obtain ⟨p, ep⟩ := h y List.mem_cons_self
    obtain ⟨q, eq⟩ := h x (List.mem_cons_of_mem _ hx)
    have := con1_inj S eq ep e
    subst this
    exact nd.1 hx

/-! ### what the arguments become -/
structure BindOk (c : Cn) (F : Addr → Prop) (H : Hp) (O N : Addr → Prop) (lc : List Addr) (k : Nat) (s : List (Option Sl)) (vs : List V) : Prop where
  len : s.length = vs.length
  frz : ∀ (i : Nat) (p : PV), s[i]? = some (some (.frz p)) → ∃ v, vs[i]? = some v ∧ RF c F H p v
  lo : ∀ (i n : Nat), s[i]? = some (some (.lo n)) → k ≤ n ∧ ∃ a, vs[i]? = some (V.ref a) ∧ lc[n - k]? = some a
  own : ∀ (i : Nat) (p : PV), s[i]? = some (some (.own p)) → ∃ a, vs[i]? = some (V.ref a) ∧ RO c F H p a ∧ ¬ F a ∧ ¬ O a ∧ N a
  inj : ∀ (i j : Nat) (p q : PV) (a : Addr), s[i]? = some (some (.own p)) → s[j]? = some (some (.own q)) → vs[i]? = some (V.ref a) → vs[j]? = some (V.ref a) → i = j
  nclo : ∀ (i : Nat) (ks : List Nat), s[i]? ≠ some (some (.clos ks))
theorem bindA_ok (S : SR c F la σ σr H) {N : Addr → Prop} {rs : List EVal} {vs : List V} (h : ERs c F la (Ow σ σr la) N σr H rs vs) : ∀ {k : Nat} {s : List (Option Sl)} {w : List Pl}, bindA rs k = some (s, w) → (∀ x ∈ w, ∃ p, con1 σ x = some p) →
    BindOk c F H (Ow σ σr la) N (w.map (adr σr la)) k s vs ∧ ∀ (i : Nat) (p : PV), s[i]? = some (some (Sl.own p)) → rs[i]? = some (EVal.new p) := by
  induction h with
  | nil =>
    intro k s w e _
    cases e
    exact ⟨⟨rfl, fun i p h => by simp at h, fun i p h => by simp at h, fun i p h => by simp at h, fun i j p q a h => by simp at h, fun i ks h => by simp at h⟩, fun i p h => by simp at h⟩
  | cons h1 h2 nn ih =>
    rename_i r v rs vs
    intro k s w e hw
    have lift : ∀ {s' : List (Option Sl)} {w' : List Pl} (x : Sl), BindOk c F H (Ow σ σr la) N (w'.map (adr σr la)) k s' vs → (∀ (i : Nat) (p : PV), s'[i]? = some (some (Sl.own p)) → rs[i]? = some (EVal.new p)) → (match x with | .frz p => RF c F H p v | .own p => r = .new p ∧ ∃ a, v = .ref a ∧ RO c F H p a ∧ ¬ F a ∧ ¬ Ow σ σr la a ∧ N a | _ => False) →
        BindOk c F H (Ow σ σr la) N (w'.map (adr σr la)) k (some x :: s') (v :: vs) ∧ ∀ (i : Nat) (p : PV), (some x :: s')[i]? = some (some (Sl.own p)) → (r :: rs)[i]? = some (EVal.new p) := by
      intro s' w' x B B2 hx
      refine ⟨⟨by simp [B.len], fun i p h => ?_, fun i n h => ?_, fun i p h => ?_, fun i j p q a e1 e2 e3 e4 => ?_, fun i ks h => ?_⟩, fun i p h => ?_⟩
      · cases i with
        | zero => simp at h; subst h; exact ⟨v, rfl, hx⟩
        | succ i => exact B.frz i p (by simpa using h)
      · cases i with
        | zero => simp at h; subst h; exact hx.elim
        | succ i => simpa using B.lo i n (by simpa using h)
      · cases i with
        | zero => simp at h; subst h; obtain ⟨_, a, e, r⟩ := hx; exact ⟨a, by simp [e], r⟩
        | succ i => simpa using B.own i p (by simpa using h)
      · cases i with
        | zero => cases j with
          | zero => rfl
          | succ j =>
            simp at e1 e2 e3 e4
            subst e1
            obtain ⟨er, _⟩ := hx
            exact absurd rfl (nn a p er e3 j q (V.ref a) (B2 j q e2) e4)
        | succ i => cases j with
          | zero =>
            simp at e1 e2 e3 e4
            subst e2
            obtain ⟨er, _⟩ := hx
            exact absurd rfl (nn a q er e4 i p (V.ref a) (B2 i p e1) e3)
          | succ j => rw [B.inj i j p q a (by simpa using e1) (by simpa using e2) (by simpa using e3) (by simpa using e4)]
      · cases i with
        | zero => simp at h; subst h; exact hx.elim
        | succ i => exact B.nclo i ks (by simpa using h)
      · cases i with
        | zero => simp at h; subst h; simp [hx.1]
        | succ i => simpa using B2 i p (by simpa using h)
    have liftL : ∀ {s' : List (Option Sl)} {w' : List Pl} (x : Pl) (p0 : PV), BindOk c F H (Ow σ σr la) N (w'.map (adr σr la)) (k + 1) s' vs → (∀ (i : Nat) (p : PV), s'[i]? = some (some (Sl.own p)) → rs[i]? = some (EVal.new p)) → v = .ref (adr σr la x) →
        BindOk c F H (Ow σ σr la) N ((x :: w').map (adr σr la)) k (some (.lo k) :: s') (v :: vs) ∧ ∀ (i : Nat) (p : PV), (some (Sl.lo k) :: s')[i]? = some (some (Sl.own p)) → (r :: rs)[i]? = some (EVal.new p) := by
      intro s' w' x p0 B B2 hv
      refine ⟨⟨by simp [B.len], fun i p h => ?_, fun i n h => ?_, fun i p h => ?_, fun i j p q a e1 e2 e3 e4 => ?_, fun i ks h => ?_⟩, fun i p h => ?_⟩
      · cases i with
        | zero => simp at h
        | succ i => exact B.frz i p (by simpa using h)
      · cases i with
        | zero => simp at h; subst h; exact ⟨Nat.le_refl _, _, by rw [hv]; rfl, by simp⟩
        | succ i =>
          obtain ⟨l, a, h1, h2⟩ := B.lo i n (by simpa using h)
          refine ⟨by omega, a, by simpa using h1, ?_⟩
          have : n - k = (n - (k + 1)) + 1 := by omega
          rw [this, List.map_cons]
          simpa using h2
      · cases i with
        | zero => simp at h
        | succ i => simpa using B.own i p (by simpa using h)
      · cases i with
        | zero => simp at e1
        | succ i => cases j with
          | zero => simp at e2
          | succ j => rw [B.inj i j p q a (by simpa using e1) (by simpa using e2) (by simpa using e3) (by simpa using e4)]
      · cases i with
        | zero => simp at h
        | succ i => exact B.nclo i ks (by simpa using h)
      · cases i with
        | zero => simp at h
        | succ i => simpa using B2 i p (by simpa using h)
    cases r with
    | clo p => rw [bindA] at e; cases e
    | clos p => rw [bindA] at e; cases e
    | val p =>
      rw [bindA] at e
      obtain ⟨q, e1, e2⟩ := Option.map_eq_some_iff.mp e
      cases e2
      obtain ⟨B, B2⟩ := ih e1 hw
      exact lift (.frz p) B B2 h1
    | new p =>
      rw [bindA] at e
      obtain ⟨q, e1, e2⟩ := Option.map_eq_some_iff.mp e
      cases e2
      obtain ⟨B, B2⟩ := ih e1 hw
      exact lift (.own p) B B2 ⟨rfl, h1⟩
    | «at» i =>
      rw [bindA] at e
      obtain ⟨q, e1, e2⟩ := Option.map_eq_some_iff.mp e
      cases e2
      obtain ⟨B, B2⟩ := ih e1 fun x hx => hw x (List.mem_cons_of_mem _ hx)
      obtain ⟨p, ep⟩ := hw (true, i) List.mem_cons_self
      refine liftL (true, i) p B B2 ?_
      have h1' : σr[i]? = some (some v) := h1
      rw [con1] at ep
      cases q : σ.sl[i]? with
      | none => rw [q] at ep; cases ep
      | some t => cases t with
        | none => rw [q] at ep; cases ep
        | some t => cases t with
          | own p' =>
            obtain ⟨a, e1, _⟩ := S.own i p' q
            rw [h1'] at e1; cases e1
            simp [adr, h1']
          | _ => rw [q] at ep; cases ep
    | lo j =>
      rw [bindA] at e
      obtain ⟨q, e1, e2⟩ := Option.map_eq_some_iff.mp e
      cases e2
      obtain ⟨B, B2⟩ := ih e1 fun x hx => hw x (List.mem_cons_of_mem _ hx)
      obtain ⟨p, ep⟩ := hw (false, j) List.mem_cons_self
      refine liftL (false, j) p B B2 ?_
      obtain ⟨a, rfl, ha⟩ := h1
      simp [adr, ha]
theorem wbk_len : ∀ (w : List Pl) (ps : List PV) (σ : PSt), (wbk w ps σ).sl.length = σ.sl.length ∧ (wbk w ps σ).ln.length = σ.ln.length
  | [], ps, σ => by cases ps <;> exact ⟨rfl, rfl⟩
  | (true, i) :: w, [], σ => ⟨rfl, rfl⟩
  | (false, i) :: w, [], σ => ⟨rfl, rfl⟩
  | (true, i) :: w, p :: ps, σ => by rw [wbk]; have := wbk_len w ps ⟨σ.sl.set i (some (.own p)), σ.ln⟩; simpa using this
  | (false, i) :: w, p :: ps, σ => by rw [wbk]; have := wbk_len w ps ⟨σ.sl, σ.ln.set i p⟩; simpa using this
theorem wbk_sl : ∀ (w : List Pl) (ps : List PV) (σ : PSt) (i : Nat), (true, i) ∉ w → (wbk w ps σ).sl[i]? = σ.sl[i]?
  | [], ps, σ, i, h => by cases ps <;> rfl
  | (true, j) :: w, [], σ, i, h => rfl
  | (false, j) :: w, [], σ, i, h => rfl
  | (true, j) :: w, p :: ps, σ, i, h => by
    rw [wbk, wbk_sl w ps _ i fun z => h (List.mem_cons_of_mem _ z)]
    exact List.getElem?_set_ne fun e => h (by rw [e]; exact List.mem_cons_self)
  | (false, j) :: w, p :: ps, σ, i, h => by
    rw [wbk, wbk_sl w ps _ i fun z => h (List.mem_cons_of_mem _ z)]
theorem wbk_ln : ∀ (w : List Pl) (ps : List PV) (σ : PSt) (i : Nat), (false, i) ∉ w → (wbk w ps σ).ln[i]? = σ.ln[i]?
  | [], ps, σ, i, h => by cases ps <;> rfl
  | (true, j) :: w, [], σ, i, h => rfl
  | (false, j) :: w, [], σ, i, h => rfl
  | (false, j) :: w, p :: ps, σ, i, h => by
    rw [wbk, wbk_ln w ps _ i fun z => h (List.mem_cons_of_mem _ z)]
    exact List.getElem?_set_ne fun e => h (by rw [e]; exact List.mem_cons_self)
  | (true, j) :: w, p :: ps, σ, i, h => by
    rw [wbk, wbk_ln w ps _ i fun z => h (List.mem_cons_of_mem _ z)]
theorem wbk_slM : ∀ (w : List Pl) (ps : List PV) (σ : PSt) (i n : Nat) (p : PV), w.Nodup → w[n]? = some (true, i) → ps[n]? = some p → i < σ.sl.length → (wbk w ps σ).sl[i]? = some (some (.own p))
  | [], _, _, _, _, _, _, h, _, _ => by simp at h
  | _ :: _, [], _, _, _, _, _, _, h, _ => by simp at h
  | y :: w, q :: ps, σ, i, n, p, nd, h, hp, hi => by
    rw [List.nodup_cons] at nd
    cases n with
    | zero =>
      simp at h hp
      subst h hp
      rw [wbk, wbk_sl w ps _ i nd.1]
      exact List.getElem?_set_self hi
    | succ n =>
      obtain ⟨b, j⟩ := y
      cases b with
      | true => rw [wbk]; exact wbk_slM w ps _ i n p nd.2 (by simpa using h) (by simpa using hp) (by simpa using hi)
      | false => rw [wbk]; exact wbk_slM w ps _ i n p nd.2 (by simpa using h) (by simpa using hp) hi
theorem wbk_lnM : ∀ (w : List Pl) (ps : List PV) (σ : PSt) (i n : Nat) (p : PV), w.Nodup → w[n]? = some (false, i) → ps[n]? = some p → i < σ.ln.length → (wbk w ps σ).ln[i]? = some p
  | [], _, _, _, _, _, _, h, _, _ => by simp at h
  | _ :: _, [], _, _, _, _, _, _, h, _ => by simp at h
  | y :: w, q :: ps, σ, i, n, p, nd, h, hp, hi => by
    rw [List.nodup_cons] at nd
    cases n with
    | zero =>
      simp at h hp
      subst h hp
      rw [wbk, wbk_ln w ps _ i nd.1]
      exact List.getElem?_set_self hi
    | succ n =>
      obtain ⟨b, j⟩ := y
      cases b with
      | false => rw [wbk]; exact wbk_lnM w ps _ i n p nd.2 (by simpa using h) (by simpa using hp) (by simpa using hi)
      | true => rw [wbk]; exact wbk_lnM w ps _ i n p nd.2 (by simpa using h) (by simpa using hp) hi
end
end L2.Zz

/-! Z12: the call of a def by its denotation. -/
namespace L2.Zz
open PySem PySem.Spec PyProof.Rows
variable {LT : LTab} {ce : List (Str × Addr)}

theorem app_get {α : Type} {s : List (Option α)} {m i : Nat} {x : α} (h : (s ++ List.replicate m none)[i]? = some (some x)) : s[i]? = some (some x) := by
  by_cases hi : i < s.length
  · rw [List.getElem?_append_left hi] at h; exact h
  · rw [List.getElem?_append_right (by omega), List.getElem?_replicate] at h
    split at h <;> simp at h
theorem start_get {N : List Str} {vs : List V} {i : Nat} {v : V} (h : vs[i]? = some v) : (start N vs)[i]? = some (some v) := by
  unfold start
  have hi := (List.getElem?_eq_some_iff.mp h).1
  rw [List.getElem?_append_left (by simpa using hi), List.getElem?_map, h]
  rfl
theorem start_get' {N : List Str} {vs : List V} {i : Nat} {v : V} (h : (start N vs)[i]? = some (some v)) : vs[i]? = some v := by
  unfold start at h
  have := app_get h
  rw [List.getElem?_map] at this
  cases q : vs[i]? with
  | none => rw [q] at this; cases this
  | some u => rw [q] at this; cases this; rfl
section
variable {c : Cn} {F : Addr → Prop} {la : List Addr} {σ : PSt} {σr : St} {H : Hp} {W : WX} {g : Gh}
theorem callD_ok {N : List Str} {np : Nat} {body : DS} {rs : List EVal} {vs : List V} {Q : VK} (hl : vs.length = np) (hn : vs.length ≤ N.length) (S : SR c F la σ σr H) (x : Ex g ⟨F, H, Ow σ σr la⟩) (h : ERs c F la (Ow σ σr la) (Nw g) σr H rs vs)
    (f : Fin c W la σr g (callD N.length body rs σ) (PE0 c la σr g Q)) : spD c N np body vs H Q (fun cls d H' => W cls d σr H') := by
  refine ⟨hl, fun ce => ?_⟩
  unfold callD at f
  cases qb : bindA rs 0 with
  | none => rw [qb] at f; exact f.elim
  | some sw =>
  obtain ⟨s, w⟩ := sw
  rw [qb] at f
  simp only at f
  by_cases nd : w.Nodup
  · rw [if_pos nd] at f
    cases qc : conA σ w with
    | none => rw [qc] at f; exact f.elim
    | some ln =>
    rw [qc] at f
    simp only at f
    obtain ⟨cl, cg⟩ := conA_get qc
    have hw : ∀ y ∈ w, ∃ p, con1 σ y = some p := fun y hy => by
      obtain ⟨n, hn, e⟩ := List.mem_iff_getElem.mp hy
      obtain ⟨p, _, e2⟩ := cg n y (by rw [List.getElem?_eq_getElem hn, e])
      exact ⟨p, e2⟩
    obtain ⟨B, _⟩ := bindA_ok S h qb hw
    -- where the loans lie
    have hlc : ∀ a, a ∈ w.map (adr σr la) → Ow σ σr la a ∧ ¬ F a ∧ ∃ o, H a = some o := fun a ha => by
      obtain ⟨y, hy, rfl⟩ := List.mem_map.mp ha
      obtain ⟨p, ep⟩ := hw y hy
      obtain ⟨r, nf, ow⟩ := con1_ok S ep
      obtain ⟨o, eo, _⟩ := r.there
      exact ⟨ow, nf, o, eo⟩
    have S0 : SR ⟨c.toCb, ce⟩ F (w.map (adr σr la)) ⟨s ++ List.replicate (N.length - s.length) none, ln⟩ (start N vs) H := by
      refine ⟨?_, fun i v e => ?_, fun i k e => ?_, fun i v e => ?_, fun i j v u a e1 e2 e3 e4 => ?_, by rw [List.length_map]; exact cl, adr_nodup S nd hw, fun k v a e1 e2 => ?_, S.ftr, fun i ks e => absurd (app_get e) (B.nclo i ks), S.tabs⟩
      · unfold start
        simp [B.len]
      · obtain ⟨u, e1, r⟩ := B.frz i v (app_get e)
        exact ⟨u, start_get e1, r⟩
      · obtain ⟨_, a, e1, e2⟩ := B.lo i k (app_get e)
        exact ⟨a, start_get e1, by simpa using e2⟩
      · obtain ⟨a, e1, r, nf, no, nn⟩ := B.own i v (app_get e)
        exact ⟨a, start_get e1, r, nf, fun z => no (hlc a z).1⟩
      · exact B.inj i j v u a (app_get e1) (app_get e2) (start_get' e3) (start_get' e4)
      · obtain ⟨y, ey⟩ : ∃ y, w[k]? = some y := by
          have := (List.getElem?_eq_some_iff.mp e2).1
          rw [List.length_map] at this
          exact ⟨_, List.getElem?_eq_getElem this⟩
        obtain ⟨p, e3, e4⟩ := cg k y ey
        rw [List.getElem?_map, ey] at e2
        cases e2
        have e1' : ln[k]? = some v := e1
        rw [e3] at e1'; cases e1'
        obtain ⟨r, nf, _⟩ := con1_ok S e4
        exact ⟨r, nf⟩
    -- what the callee may write is lent or new
    have ow0 : ∀ a, Ow ⟨s ++ List.replicate (N.length - s.length) none, ln⟩ (start N vs) (w.map (adr σr la)) a → a ∈ w.map (adr σr la) ∨ (¬ Ow σ σr la a ∧ Nw g a ∧ ∃ o, H a = some o) := fun a z => by
      rcases z with z | ⟨i, p, e1, e2⟩
      · exact .inl z
      · obtain ⟨b, e3, r, nf, no, nn⟩ := B.own i p (app_get e1)
        rw [start_get e3] at e2; cases e2
        obtain ⟨o, eo, _⟩ := r.there
        exact .inr ⟨no, nn, o, eo⟩
    -- behind the callee
    have back : ∀ (F2 : Addr → Prop) (H2 : Hp) (σ2 : PSt) (σr2 : St), Ex ⟨F, H, Ow ⟨s ++ List.replicate (N.length - s.length) none, ln⟩ (start N vs) (w.map (adr σr la))⟩ ⟨F2, H2, Ow σ2 σr2 (w.map (adr σr la))⟩ → SR ⟨c.toCb, ce⟩ F2 (w.map (adr σr la)) σ2 σr2 H2 →
        Ex g ⟨F2, H2, Ow (wbk w σ2.ln σ) σr la⟩ ∧ SR c F2 la (wbk w σ2.ln σ) σr H2 ∧ (∀ a, Ow (wbk w σ2.ln σ) σr la a → Ow σ σr la a) := by
      intro F2 H2 σ2 σr2 x2 S2
      have l2 : w.length = σ2.ln.length := by rw [← S2.lln, List.length_map]
      have keep := Ex.keep S0 x2
      have hF : ∀ a, F a → F2 a := x2.fr
      have at_ : ∀ {n : Nat} {y : Pl}, w[n]? = some y → ∃ p, σ2.ln[n]? = some p ∧ RO c F2 H2 p (adr σr la y) ∧ ¬ F2 (adr σr la y) := fun {n y} e => by
        have hn : n < σ2.ln.length := by rw [← l2]; exact (List.getElem?_eq_some_iff.mp e).1
        refine ⟨_, List.getElem?_eq_getElem hn, ?_⟩
        exact S2.ln n _ _ (List.getElem?_eq_getElem hn) (by rw [List.getElem?_map, e]; rfl)
      have ow1 : ∀ a, Ow (wbk w σ2.ln σ) σr la a → Ow σ σr la a := fun a z => by
        rcases z with z | ⟨i, p, e1, e2⟩
        · exact .inl z
        · by_cases hm : (true, i) ∈ w
          · obtain ⟨q, eq⟩ := hw _ hm
            rw [con1] at eq
            cases qs : σ.sl[i]? with
            | none => rw [qs] at eq; cases eq
            | some t => cases t with
              | none => rw [qs] at eq; cases eq
              | some t => cases t with
                | own p' => exact .inr ⟨i, p', qs, e2⟩
                | _ => rw [qs] at eq; cases eq
          · rw [wbk_sl w _ σ i hm] at e1
            exact .inr ⟨i, p, e1, e2⟩
      have n2 : ∀ a, Ow σ σr la a → a ∉ w.map (adr σr la) → ¬ F2 a ∧ ∀ o, H a = some o → NoT o → H2 a = some o := fun a ho hm => by
        have nO : ¬ Ow ⟨s ++ List.replicate (N.length - s.length) none, ln⟩ (start N vs) (w.map (adr σr la)) a := fun z => by
          rcases ow0 a z with z | ⟨z, _⟩
          · exact hm z
          · exact z ho
        refine ⟨fun z => ?_, fun o e nt => x2.kp a o e nO nt⟩
        obtain ⟨⟨o, eo, _⟩, nf⟩ := S.ow_there ho
        rcases x2.fn a z with z | z | z
        · exact nf z
        · exact nO z
        · have z' : H a = none := z
          rw [eo] at z'; cases z'
      refine ⟨⟨fun a f => hF a (x.fr a f), fun a o e no nt => ?_, fun a ps e => ?_, fun a z => x.ow a (ow1 a z), fun a z => ?_⟩, ⟨by rw [(wbk_len w _ σ).1]; exact S.len, fun i v e => ?_, fun i k e => ?_, fun i v e => ?_, fun i j v u a e1 e2 e3 e4 => ?_, by rw [(wbk_len w _ σ).2]; exact S.lln, S.lnd, fun k v a e1 e2 => ?_, S2.ftr, fun i ks e => ?_, S2.tabs⟩, ow1⟩
      · have e1 := x.kp a o e no nt
        refine x2.kp a o e1 (fun z => ?_) nt
        have nw : Nw g a := by
          rcases ow0 a z with z | ⟨_, z, _⟩
          · exact x.ow a (hlc a z).1
          · exact z
        rcases nw with z | z
        · exact no z
        · rw [e] at z; cases z
      · obtain ⟨qs, e1⟩ := x.tb a ps e
        exact x2.tb a qs e1
      · rcases x2.fn a z with z | z | z
        · exact x.fn a z
        · rcases ow0 a z with z | ⟨_, z, _⟩
          · exact .inr (x.ow a (hlc a z).1)
          · exact .inr z
        · exact .inr (x.back (.inr z))
      · have hm : (true, i) ∉ w := fun z => by
          obtain ⟨n, hn, e1⟩ := List.mem_iff_getElem.mp z
          have e1' : w[n]? = some (true, i) := by rw [List.getElem?_eq_getElem hn, e1]
          obtain ⟨p, e2, _⟩ := at_ e1'
          have hi : i < σ.sl.length := by
            have := (List.getElem?_eq_some_iff.mp e).1
            rw [(wbk_len w _ σ).1] at this
            exact this
          rw [wbk_slM w _ σ i n p nd e1' e2 hi] at e
          cases e
        rw [wbk_sl w _ σ i hm] at e
        obtain ⟨u, e1, r⟩ := S.frz i v e
        exact ⟨u, e1, RF.ext hF keep _ _ r⟩
      · have hm : (true, i) ∉ w := fun z => by
          obtain ⟨n, hn, e1⟩ := List.mem_iff_getElem.mp z
          have e1' : w[n]? = some (true, i) := by rw [List.getElem?_eq_getElem hn, e1]
          obtain ⟨p, e2, _⟩ := at_ e1'
          have hi : i < σ.sl.length := by
            have := (List.getElem?_eq_some_iff.mp e).1
            rw [(wbk_len w _ σ).1] at this
            exact this
          rw [wbk_slM w _ σ i n p nd e1' e2 hi] at e
          cases e
        rw [wbk_sl w _ σ i hm] at e
        exact S.lo i k e
      · by_cases hm : (true, i) ∈ w
        · obtain ⟨n, hn, e1⟩ := List.mem_iff_getElem.mp hm
          have e1' : w[n]? = some (true, i) := by rw [List.getElem?_eq_getElem hn, e1]
          obtain ⟨p, e2, r, nf⟩ := at_ e1'
          obtain ⟨q, eq⟩ := hw _ hm
          rw [con1] at eq
          cases qs : σ.sl[i]? with
          | none => rw [qs] at eq; cases eq
          | some t => cases t with
            | none => rw [qs] at eq; cases eq
            | some t => cases t with
              | own p' =>
                obtain ⟨a, e3, _, _, nl⟩ := S.own i p' qs
                have ea : adr σr la (true, i) = a := by simp [adr, e3]
                rw [ea] at r nf
                rw [wbk_slM w _ σ i n p nd e1' e2 (List.getElem?_eq_some_iff.mp qs).1] at e
                cases e
                exact ⟨a, e3, r, nf, nl⟩
              | _ => rw [qs] at eq; cases eq
        · rw [wbk_sl w _ σ i hm] at e
          obtain ⟨a, e1, r, nf, nl⟩ := S.own i v e
          have ho : Ow σ σr la a := .inr ⟨i, v, e, e1⟩
          have hn : a ∉ w.map (adr σr la) := fun z => by
            obtain ⟨y, hy, ey⟩ := List.mem_map.mp z
            obtain ⟨p, ep⟩ := hw y hy
            have ei : con1 σ (true, i) = some v := by rw [con1, e]
            have ea : adr σr la (true, i) = a := by simp [adr, e1]
            exact hm (by rw [con1_inj S ei ep (ea.trans ey.symm)]; exact hy)
          obtain ⟨h1, h2⟩ := n2 a ho hn
          exact ⟨a, e1, r.ext hF keep (fun o e => h2 o e (r.noT e)), h1, nl⟩
      · have own : ∀ {i : Nat} {v : PV}, (wbk w σ2.ln σ).sl[i]? = some (some (Sl.own v)) → ∃ v', σ.sl[i]? = some (some (Sl.own v')) := fun {i v} e => by
          by_cases hm : (true, i) ∈ w
          · obtain ⟨q, eq⟩ := hw _ hm
            rw [con1] at eq
            cases qs : σ.sl[i]? with
            | none => rw [qs] at eq; cases eq
            | some t => cases t with
              | none => rw [qs] at eq; cases eq
              | some t => cases t with
                | own p' => exact ⟨p', rfl⟩
                | _ => rw [qs] at eq; cases eq
          · rw [wbk_sl w _ σ i hm] at e
            exact ⟨v, e⟩
        obtain ⟨v', e1'⟩ := own e1
        obtain ⟨u', e2'⟩ := own e2
        exact S.inj i j v' u' a e1' e2' e3 e4
      · by_cases hm : (false, k) ∈ w
        · obtain ⟨n, hn, e3⟩ := List.mem_iff_getElem.mp hm
          have e3' : w[n]? = some (false, k) := by rw [List.getElem?_eq_getElem hn, e3]
          obtain ⟨p, e4, r, nf⟩ := at_ e3'
          have hk : k < σ.ln.length := by
            have := (List.getElem?_eq_some_iff.mp e1).1
            rw [(wbk_len w _ σ).2] at this
            exact this
          rw [wbk_lnM w _ σ k n p nd e3' e4 hk] at e1
          cases e1
          have ea : adr σr la (false, k) = a := by simp [adr, e2]
          rw [ea] at r nf
          exact ⟨r, nf⟩
        · rw [wbk_ln w _ σ k hm] at e1
          obtain ⟨r, nf⟩ := S.ln k v a e1 e2
          have ho : Ow σ σr la a := .inl (List.mem_of_getElem? e2)
          have hn : a ∉ w.map (adr σr la) := fun z => by
            obtain ⟨y, hy, ey⟩ := List.mem_map.mp z
            obtain ⟨p, ep⟩ := hw y hy
            have ei : con1 σ (false, k) = some v := e1
            have ea : adr σr la (false, k) = a := by simp [adr, e2]
            exact hm (by rw [con1_inj S ei ep (ea.trans ey.symm)]; exact hy)
          obtain ⟨h1, h2⟩ := n2 a ho hn
          exact ⟨r.ext hF keep (fun o e => h2 o e (r.noT e)), h1⟩
      · have hm : (true, i) ∉ w := fun z => by
          obtain ⟨n, hn, e1⟩ := List.mem_iff_getElem.mp z
          have e1' : w[n]? = some (true, i) := by rw [List.getElem?_eq_getElem hn, e1]
          obtain ⟨p, e2, _⟩ := at_ e1'
          have hi : i < σ.sl.length := by
            have := (List.getElem?_eq_some_iff.mp e).1
            rw [(wbk_len w _ σ).1] at this
            exact this
          rw [wbk_slM w _ σ i n p nd e1' e2 hi] at e
          cases e
        rw [wbk_sl w _ σ i hm] at e
        obtain ⟨u, e1, r⟩ := S.clo i ks e
        exact ⟨u, e1, r.ext hF keep⟩
    refine ⟨F, w.map (adr σr la), _, S0, ?_⟩
    -- a new value of the callee's is new here
    have newOk : ∀ {F2 : Addr → Prop} {H2 : Hp} {σ2 : PSt} {σr2 : St} {a : Addr}, Ex ⟨F, H, Ow ⟨s ++ List.replicate (N.length - s.length) none, ln⟩ (start N vs) (w.map (adr σr la))⟩ ⟨F2, H2, Ow σ2 σr2 (w.map (adr σr la))⟩ → Nw ⟨F, H, Ow ⟨s ++ List.replicate (N.length - s.length) none, ln⟩ (start N vs) (w.map (adr σr la))⟩ a → a ∉ w.map (adr σr la) →
        ¬ Ow σ σr la a ∧ Nw g a := fun {F2 H2 σ2 σr2 a} x2 hn hm => by
      rcases hn with z | z
      · rcases ow0 a z with z | ⟨z1, z2, _⟩
        · exact absurd z hm
        · exact ⟨z1, z2⟩
      · refine ⟨fun z2 => ?_, x.back (.inr z)⟩
        obtain ⟨⟨o, eo, _⟩, _⟩ := S.ow_there z2
        have z' : H a = none := z
        rw [eo] at z'
        cases z'
    cases qf : body ⟨s ++ List.replicate (N.length - s.length) none, ln⟩ with
    | no => rw [qf] at f; exact f.elim
    | ex e σ2 =>
      rw [qf] at f
      intro F2 H2 σr2 cls dd x2 S2 hc hf
      obtain ⟨xb, Sb, _⟩ := back F2 H2 σ2 σr2 x2 S2
      exact f F2 H2 cls dd xb Sb hc hf
    | ok fl σ2 =>
      rw [qf] at f
      intro F2 H2 σr2 x2 S2
      obtain ⟨xb, Sb, owb⟩ := back F2 H2 σ2 σr2 x2 S2
      cases fl with
      | bk => exact f.elim
      | ct => exact f.elim
      | nx => exact f F2 H2 xb Sb _ (show RF c F2 H2 .non .non from RF.non_)
      | rt r =>
        simp only at f
        intro v ev
        cases r with
        | val p => exact f F2 H2 xb Sb v ev
        | lo k => exact f.elim
        | clo k => exact f.elim
        | clos k => exact f.elim
        | new p =>
          have f2 : Fin c W la σr g (Rs.ok (EVal.new p) (wbk w σ2.ln σ)) (PE0 c la σr g Q) := f
          obtain ⟨a, ea, ro, nf, no, nn⟩ := ev
          obtain ⟨h1, h2⟩ := newOk x2 nn fun z => no (.inl z)
          exact f2 F2 H2 xb Sb v ⟨a, ea, ro, nf, fun z => h1 (owb a z), h2⟩
        | «at» i =>
          have ev' : σr2[i]? = some (some v) := ev
          simp only [outV] at f
          cases qs : σ2.sl[i]? with
          | none => rw [qs] at f; exact f.elim
          | some t => cases t with
            | none => rw [qs] at f; exact f.elim
            | some t => cases t with
              | lo k => rw [qs] at f; exact f.elim
              | clos k => rw [qs] at f; exact f.elim
              | frz p =>
                rw [qs] at f
                obtain ⟨u, e1, r⟩ := S2.frz i p qs
                rw [ev'] at e1; cases e1
                exact f F2 H2 xb Sb v r
              | own p =>
                rw [qs] at f
                obtain ⟨a, e1, r, nf, nl⟩ := S2.own i p qs
                have f2 : Fin c W la σr g (Rs.ok (EVal.new p) (wbk w σ2.ln σ)) (PE0 c la σr g Q) := f
                have ev2 : v = .ref a := by rw [ev'] at e1; cases e1; rfl
                obtain ⟨h1, h2⟩ := newOk x2 (x2.ow a (.inr ⟨i, p, qs, e1⟩)) nl
                exact f2 F2 H2 xb Sb v ⟨a, ev2, r, nf, fun z => h1 (owb a z), h2⟩
  · rw [if_neg nd] at f; exact f.elim
end

/-! ### a def, a call -/
section
variable {P : Program} {w : World} {K : PySem.W.Frag} {mg : Str → Option Value} {base : Heap}
/-- a def of the text keeps the promise of its body's denotation -/
theorem fn_ok {x qual : Str} {st : Stmt} {f : Addr} {fd : FuncData} {N ps : List Str} {k : Nat} {body : DS} (F : Fun K x qual st f fd) (S : FnScope N ps (defScope st))
    (hb : ∀ (cdv : Value) (A : Around) (outer : List Env) (s : Shared) (H : Hp) (E : XK), Room k (A.deeper (envOfC qual (defScope st) s.heap.objs.size f cdv)) →
      PSs (cxOf (L2.CX P w) P w K mg base N qual (defScope st) f cdv A outer s H E) (defBody st) (SV (cn LT (cxOf (L2.CX P w) P w K mg base N qual (defScope st) f cdv A outer s H E)) (fun cls d _ H => E cls d H) body)) : FnOk P w K mg base (L2.CX P w) (k + 1) f fd ps (spD ⟨P, w, K, mg, LT⟩ N ps.length body) :=
  F.okX S (fun vs H Q E h => h.1) fun cdv A outer s H vs Q E hr h => ⟨_, hb cdv A outer s H E hr, h.2 _⟩
end
section
variable {X : Cx} {W : WX} {k np : Nat} {f : Addr} {fd : FuncData} {N ps : List Str} {body : DS} {x : Str} {p pos : Pos} {e : Expr} {es : List Expr} {da : DA} {dvs : List V} {ds : List Value} {dps : List PV}
theorem ERs.app {c : Cn} {F : Addr → Prop} {la : List Addr} {O N : Addr → Prop} {σr : St} {H : Hp} {rs : List EVal} {vs : List V} (h : ERs c F la O N σr H rs vs) : ∀ {ps : List PV} {us : List V}, RFs c F H ps us → ERs c F la O N σr H (rs ++ ps.map .val) (vs ++ us) := by
  have base : ∀ {ps : List PV} {us : List V}, RFs c F H ps us → ERs c F la O N σr H (ps.map .val) us ∧ ∀ a, NoNew a (ps.map EVal.val) us := fun {ps} => by
    induction ps with
    | nil => intro us r; unfold RFs at r; subst r; exact ⟨.nil, fun a i p v e => by simp at e⟩
    | cons p ps ih =>
      intro us r
      unfold RFs at r
      obtain ⟨u, us, rfl, h1, h2⟩ := r
      obtain ⟨i1, i2⟩ := ih h2
      refine ⟨.cons h1 i1 fun a q z => (by cases z), fun a i q v e1 e2 => ?_⟩
      cases i with
      | zero => simp at e1
      | succ i => exact i2 a i q v (by simpa using e1) (by simpa using e2)
  induction h with
  | nil => intro ps us r; simpa using (base r).1
  | cons h1 h2 nn ih =>
    intro ps us r
    refine .cons h1 (ih r) fun a q z1 z2 i q' v e1 e2 => ?_
    have l := h2.length
    rename_i r0 v0 rs vs
    have e1 : (rs ++ ps.map EVal.val)[i]? = some (EVal.new q') := e1
    have e2 : (vs ++ us)[i]? = some v := e2
    by_cases hi : i < rs.length
    · rw [List.getElem?_append_left hi] at e1
      rw [List.getElem?_append_left (by omega)] at e2
      exact nn a q z1 z2 i q' v e1 e2
    · rw [List.getElem?_append_right (by omega)] at e1
      rw [List.getElem?_append_right (by omega)] at e2
      rw [← l] at e2
      exact (base r).2 a _ q' v e1 e2
theorem z_call (F : FnOk X.prog X.w X.K X.mg X.base (L2.CX X.prog X.w) k f fd ps (spD (cb LT X) N np body)) (hr : Room k X.A) (hg : Gl X x) (hm : X.mg x = some (.ref f)) (hk : PySem.W.keepIn X.K (.ref f) = true) (hb : Binds X.K fd ps ds) (hd : Vals dvs ds) (hdp : ∀ F H, RFs (cnE LT X ce) F H dps dvs) (tk : Takes X W)
    (ha : PA X (e :: es) (EVA (cnE LT X ce) W da)) (hn : np ≤ N.length) (hdb : (x == ("__debug__" : Str)) = false := by decide) (he : starEach (e :: es) X.env = (false, eval e X.env) :: starEach es X.env := by rfl) (hpl : (backTo pos (starEach es X.env)).any (·.1) = false := by rfl) :
    PE X (.Call (.Name x p) (e :: es) [] pos) (EV (cnE LT X ce) W (dCall N.length np body da dps)) :=
  PE.wk (pe_callSD (E := fun σr cls d H => W cls d σr H) F hr hg hm hk hb hd (fun σ => passAt tk σ) ha hdb he hpl) fun σr H Q q => by
    obtain ⟨F, la, σ, S, g⟩ := q
    refine ⟨F, la, σ, S, g.bind.mono fun rs σ1 F1 H1 x1 S1 f1 vs es' => ?_⟩
    obtain ⟨hl, f2⟩ := fin_if f1
    have ea := es'.app (hdp F1 H1)
    have hlen : (vs ++ dvs).length = np := by rw [← ea.length]; exact hl
    exact callD_ok hlen (by rw [hlen]; exact hn) S1 x1 ea f2
end
end L2.Zz

/-! Z13: dicts with tuples for keys; storing into lists and dicts. -/
namespace L2.Zz
open PySem PySem.Spec PyProof.Rows
variable {LT : LTab} {ce : List (Str × Addr)}

def kIx (ks : List PV) (k : PV) : Option Nat := (keysOf ks).findIdx? fun x => decide (x = keyOf k)
def kPut (ks vs : List PV) (k v : PV) : PV := match kIx ks k with
  | some i => .dct ks (vs.set i v)
  | none => .dct (ks ++ [k]) (vs ++ [v])
def kDel (ks vs : List PV) (i : Nat) : PV := .dct (ks.eraseIdx i) (vs.eraseIdx i)
abbrev DX := List (NestedKey × Addr × Value)

/-! ### entries -/
theorem keysOf_len : ∀ ks : List PV, (keysOf ks).length = ks.length
  | [] => rfl
  | k :: ks => by rw [keysOf]; simp [keysOf_len ks]
theorem keysOf_get : ∀ {ks : List PV} {i : Nat} {x : NestedKey}, (keysOf ks)[i]? = some x → ∃ k, ks[i]? = some k ∧ keyOf k = x
  | [], _, _, h => by rw [keysOf] at h; simp at h
  | k :: ks, 0, x, h => by rw [keysOf] at h; simp at h; exact ⟨k, rfl, h⟩
  | k :: ks, i + 1, x, h => by rw [keysOf] at h; simp at h; simpa using keysOf_get h
theorem keysOf_app : ∀ (ks : List PV) (k : PV), keysOf (ks ++ [k]) = keysOf ks ++ [keyOf k]
  | [], k => by simp [keysOf]
  | x :: ks, k => by rw [List.cons_append, keysOf, keysOf, keysOf_app ks k]; rfl
theorem at_ix {k : NestedKey} : ∀ {xs : DX} {i : Nat}, (xs.map (·.1)).findIdx? (fun x => decide (x = k)) = some i → ∃ x, xs[i]? = some x ∧ x.1 = k ∧ atKey xs k = some x.2
  | [], _, h => by simp at h
  | x :: xs, i, h => by
    rw [List.map_cons, List.findIdx?_cons] at h
    by_cases e : x.1 = k
    · simp [e] at h
      subst h
      exact ⟨x, rfl, e, by simp [atKey, e]⟩
    · simp [e] at h
      obtain ⟨j, h1, rfl⟩ := h
      have h1' : (xs.map (·.1)).findIdx? (fun x => decide (x = k)) = some j := by rw [List.findIdx?_map]; exact h1
      obtain ⟨y, h2, h3, h4⟩ := at_ix h1'
      refine ⟨y, by simpa using h2, h3, ?_⟩
      unfold atKey at h4 ⊢
      rw [List.find?_cons]
      simp only [e, decide_false]
      exact h4
theorem at_no {k : NestedKey} : ∀ {xs : DX}, (xs.map (·.1)).findIdx? (fun x => decide (x = k)) = none → atKey xs k = none
  | [], h => rfl
  | x :: xs, h => by
    rw [List.map_cons, List.findIdx?_cons] at h
    by_cases e : x.1 = k
    · simp [e] at h
    · simp only [e, decide_false, Bool.false_eq_true, if_false, Option.map_eq_none_iff] at h
      have := at_no h
      unfold atKey at this ⊢
      rw [List.find?_cons]
      simp only [e, decide_false]
      exact this
theorem put_id {k : NestedKey} {v : Value} : ∀ {xs : DX}, k ∉ xs.map (·.1) → xs.map (putAt k v) = xs
  | [], _ => rfl
  | x :: xs, h => by
    rw [List.map_cons, List.mem_cons, not_or] at h
    rw [List.map_cons, put_id h.2]
    unfold putAt
    rw [if_neg (fun e => h.1 e.symm)]
theorem put_ix {k : NestedKey} {v : Value} : ∀ {xs : DX} {i : Nat}, (xs.map (·.1)).Nodup → (xs.map (·.1)).findIdx? (fun x => decide (x = k)) = some i →
    (xs.map (putAt k v)).map (·.1) = xs.map (·.1) ∧ ((xs.map (putAt k v)).map fun x => V.ref x.2.1) = (xs.map fun x => V.ref x.2.1) ∧ (xs.map (putAt k v)).map (·.2.2) = (xs.map (·.2.2)).set i v
  | [], _, _, h => by simp at h
  | x :: xs, i, nd, h => by
    rw [List.map_cons, List.nodup_cons] at nd
    rw [List.map_cons, List.findIdx?_cons] at h
    by_cases e : x.1 = k
    · simp [e] at h
      subst h
      have hn : k ∉ xs.map (·.1) := by rw [← e]; exact nd.1
      rw [List.map_cons, put_id hn]
      unfold putAt
      rw [if_pos e]
      exact ⟨rfl, rfl, rfl⟩
    · simp only [e, decide_false, Bool.false_eq_true, if_false, Option.map_eq_some_iff] at h
      obtain ⟨j, h1, rfl⟩ := h
      obtain ⟨h2, h3, h4⟩ := put_ix (v := v) nd.2 h1
      rw [List.map_cons]
      have e0 : putAt k v x = x := by unfold putAt; rw [if_neg e]
      rw [e0]
      refine ⟨?_, ?_, ?_⟩
      · rw [List.map_cons, h2, List.map_cons]
      · rw [List.map_cons, h3, List.map_cons]
      · rw [List.map_cons, h4, List.map_cons]; rfl
theorem nodup_app {xs : List NestedKey} {k : NestedKey} (nd : xs.Nodup) (h : xs.findIdx? (fun x => decide (x = k)) = none) : (xs ++ [k]).Nodup := by
  rw [List.findIdx?_eq_none_iff] at h
  rw [List.nodup_append]
  refine ⟨nd, by simp, fun a ha b hb => ?_⟩
  simp at hb
  subst hb
  intro e
  subst e
  have := h a ha
  simp at this

section
variable {X : Cx} {pins : List (Addr × Obj)} {σr : St} {H : Hp} {s : Shared} {F : Addr → Prop}
mutual
theorem nest_of (I : Inv X pins σr H s) : ∀ (p : PV) (v : V) (u : Value), kN p = true → RF (cnE LT X ce) F H p v → RelV v u → NestedIs s.heap (keyOf p) u
  | .non, _, _, _, r, rv => by
    unfold RF at r; subst r
    cases rv
    exact .none
  | .bl b, _, _, _, r, rv => by
    unfold RF at r; subst r
    cases rv
    exact .bool rfl
  | .int i, _, _, _, r, rv => by
    unfold RF at r; subst r
    obtain ⟨t, rfl⟩ := rv
    exact .int i t
  | .str x, _, _, _, r, rv => by
    unfold RF at r; subst r
    obtain ⟨t, rfl⟩ := rv
    exact .text x t
  | .tup xs, _, _, k, r, rv => by
    unfold RF at r
    obtain ⟨a, us, rfl, h1, h2⟩ := r
    cases rv
    obtain ⟨its, rv, ⟨o, e, c, n, d⟩, hz⟩ := I.tuple h1
    rw [keyOf]
    exact .tup e c d (by simpa using nests_of I xs us its (by simpa [kN] using k) h2 rv)
  | .lst _, _, _, k, _, _ => by simp [kN] at k
  | .dct _ _, _, _, k, _, _ => by simp [kN] at k
  | .fn _, _, _, k, _, _ => by simp [kN] at k
  | .ty _, _, _, k, _, _ => by simp [kN] at k
  | .ins _ _ _, _, _, k, _, _ => by simp [kN] at k
  | .err _ _ _, _, _, k, _, _ => by simp [kN] at k
theorem nests_of (I : Inv X pins σr H s) : ∀ (ps : List PV) (us : List V) (vs : List Value), kNs ps = true → RFs (cnE LT X ce) F H ps us → Vals us vs → NestedAll s.heap (keysOf ps) vs
  | [], _, _, _, r, rv => by
    unfold RFs at r; subst r
    cases rv
    rw [keysOf]; exact .nil
  | p :: ps, _, _, k, r, rv => by
    unfold RFs at r
    obtain ⟨u, r', rfl, h1, h2⟩ := r
    cases rv with
    | cons rv rvs =>
      rw [keysOf]
      rw [kNs, Bool.and_eq_true] at k
      exact .cons (nest_of I p u _ k.1 h1 rv) (nests_of I ps r' _ k.2 h2 rvs)
end
theorem key_is (I : Inv X pins σr H s) {k : PV} {b : Addr} (ok : kOk k = true) (r : RF (cnE LT X ce) F H k (.ref b)) : (nestedKind X.prog X.w).is s.heap (keyOf k) b := by
  cases k with
  | tup xs =>
    have ok' : kNs xs = true ∧ (NestedKey.tup (keysOf xs)).depth ≤ 8 := by simpa [kOk] using ok
    have h := nest_of I (.tup xs) (.ref b) (.ref b) (by simpa [kN] using ok'.1) r rfl
    exact ⟨h, by rw [keyOf]; exact ok'.2⟩
  | _ => simp [kOk] at ok
theorem key_ref {c : Cn} {k : PV} {v : V} (ok : kOk k = true) (r : RF c F H k v) : ∃ b, v = .ref b := by
  cases k with
  | tup xs => unfold RF at r; obtain ⟨a, _, e, _⟩ := r; exact ⟨a, e⟩
  | _ => simp [kOk] at ok
theorem dc_of (I : Inv X pins σr H s) {a : Addr} {xs : DX} {ks : List PV} (d : DcA (cnE LT X ce) H a xs) (kk : KsOk xs ks) (r : RFs (cnE LT X ce) F H ks (xs.map fun x => V.ref x.2.1)) : s.heap.DictOfH (nestedKind X.prog X.w) a xs := by
  obtain ⟨hs, nd, hz, ob, es, ep, e, ex, dt, el⟩ := d
  obtain ⟨hg, _⟩ := (show ObjOk X.prog X.w H s.heap a (.ext fun h => h.get? a = some ob) from I.hok a _ e)
  refine ⟨ob, es, ep, hg, ex, dt, el, fun x hx => ?_, nd⟩
  obtain ⟨i, hi, ei⟩ := List.mem_iff_getElem.mp hx
  have e1 : xs[i]? = some x := by rw [List.getElem?_eq_getElem hi, ei]
  have e2 : (xs.map fun x => V.ref x.2.1)[i]? = some (V.ref x.2.1) := by rw [List.getElem?_map, e1]; rfl
  obtain ⟨k, e3, r3⟩ := r.getR e2
  have e4 : (keysOf ks)[i]? = some x.1 := by rw [← kk.1, List.getElem?_map, e1]; rfl
  obtain ⟨k', e5, e6⟩ := keysOf_get e4
  rw [e3] at e5; cases e5
  rw [← e6]
  exact key_is I (kk.2 k (List.mem_of_getElem? e3)) r3
end

/-! ### a new dict -/
section
variable {X : Cx} {W : WX} {pos : Pos}
def tDNewN (LT : LTab) (X : Cx) : TE := fun _ H Q => ∀ p ob, H p = none → DcA (cnE LT X []) (upd H p ob) p [] → Q (.ref p) (upd H p ob)
theorem pe_dnewN : PE X (.Dict [] [] pos) (tDNewN LT X) := ⟨fun pins s σ H Q I h => by
  refine wpAny_Dict_empty ⟨.ref s.heap.objs.size, _, I.laid (a := s.heap.objs.size) (o := .ext fun h => h.get? s.heap.objs.size = some { cls := .type "dict", data := .dict #[] }) (t' := s.toks) (fun _ _ q => Heap.get?_push_of_some _ q) (Nat.le_refl _) ?_, rfl, h _ _ (I.hok.fresh (Nat.le_refl _)) ?_⟩
  · exact ⟨Heap.get?_push_size _ rfl, ⟨_, Heap.get?_push_size _ rfl⟩, fun h1 h2 q k => k _ q⟩
  · exact ⟨beq_eq_false_iff_ne.mpr (Ne.symm (Nat.ne_of_lt I.big)), List.nodup_nil, Nat.zero_le _, _, #[], 0, upd_same, ⟨rfl, rfl, rfl⟩, rfl, rfl⟩⟩
def dDNew : DE := fun σ => .ok (.new (.dct [] [])) σ
theorem z_dnew : PE X (.Dict [] [] pos) (EV (cnE LT X ce) W dDNew) := PE.wk pe_dnewN fun σr H Q q => by
  obtain ⟨F, la, σ, S, f⟩ := q
  intro p ob n d
  have k := upd_keeps (o := ob) n
  obtain ⟨n1, n2⟩ := S.fresh n
  refine f F _ (Ex.keeps k) (S.keeps k) _ ⟨p, rfl, ⟨[], [], d, ⟨rfl, fun k hk => by cases hk⟩, RFs.nil_, RFs.nil_, .nil⟩, n1, n2, .inr n⟩
end

/-! ### reading -/
theorem Vals.gets {us : List V} {ws : List Value} (h : Vals us ws) {i : Nat} {w : Value} (e : ws[i]? = some w) : ∃ u, us[i]? = some u ∧ RelV u w := by
  have hl := h.length
  have hi := (List.getElem?_eq_some_iff.mp e).1
  have e1 : us[i]? = some us[i] := List.getElem?_eq_getElem (by omega)
  obtain ⟨w', e2, r⟩ := h.get e1
  rw [e] at e2; cases e2
  exact ⟨_, e1, r⟩
/-- a dict and a key, by values -/
def DKy (c : Cn) (H : Hp) (x y : V) (ks vs : List PV) (k : PV) (a b : Addr) (xs : DX) (us : List V) : Prop := ∃ F, x = .ref a ∧ y = .ref b ∧ DcA c H a xs ∧ KsOk xs ks ∧ RFs c F H ks (xs.map fun x => V.ref x.2.1) ∧ RFs c F H vs us ∧ Vals us (xs.map (·.2.2)) ∧ (∃ F', RF c F' H k (.ref b)) ∧ kOk k = true
def rDg (c : Cn) : R2 := fun x y H Q => ∃ ks vs k a b xs us i u, DKy c H x y ks vs k a b xs us ∧ kIx ks k = some i ∧ us[i]? = some u ∧ Q u H
def rDin (c : Cn) (neg : Bool) : R2 := fun x y H Q => ∃ ks vs k a b xs us, DKy c H y x ks vs k a b xs us ∧ Q (.bl (xor neg (kIx ks k).isSome)) H
section
variable {X : Cx}
theorem kIx_xs {xs : DX} {ks : List PV} (kk : KsOk xs ks) (k : PV) : (xs.map (·.1)).findIdx? (fun x => decide (x = keyOf k)) = kIx ks k := by
  unfold kIx; rw [kk.1]
theorem ix_dct (hu : X.A.units + 65 < cLine) : IxR X (rDg (cnE LT X ce)) := by
  intro value slice pins s σ H x y v u Q I rx ry h hs
  obtain ⟨ks, vs, k, a, b, xs, us, i, w, ⟨F, rfl, rfl, d, kk, r1, r2, r3, ⟨F', rk⟩, ok⟩, hi, hw, q⟩ := h
  cases rx
  cases ry
  have dd := dc_of I d kk r1
  obtain ⟨x, e1, e2, e3⟩ := at_ix ((kIx_xs kk k).trans hi)
  obtain ⟨w', e4, e5⟩ := r3.get hw
  rw [List.getElem?_map, e1] at e4
  cases e4
  refine tail_any dd.typeIs slot_dict_getitem.lookup ?_ hs
  exact wpAny_getItem_heap (show X.A.in1.units + 8 < cLine by rw [Around.in1_units]; omega) (key_is I ok rk) dd e3 ⟨w, H, I.tok _, e5, q⟩
theorem op_in_dct (hu : X.A.units + 65 < cLine) : OpR X (compareOp .In) (rDin (cnE LT X ce) false) := by
  intro pins s σ H x y v u Q I rx ry h
  obtain ⟨ks, vs, k, a, b, xs, us, ⟨F, rfl, rfl, d, kk, r1, r2, r3, ⟨F', rk⟩, ok⟩, q⟩ := h
  cases rx
  cases ry
  have dd := dc_of I d kk r1
  refine wpAny_in_heap (show X.A.in1.units + 8 < cLine by rw [Around.in1_units]; omega) (key_is I ok rk) d.1 dd ?_
  have e : (atKey xs (keyOf k)).isSome = (kIx ks k).isSome := by
    cases q : kIx ks k with
    | none => rw [at_no ((kIx_xs kk k).trans q)]; rfl
    | some i => obtain ⟨x, e1, e2, e3⟩ := at_ix ((kIx_xs kk k).trans q); rw [e3]; rfl
  rw [e]
  exact ⟨.bl _, H, I.tok _, rfl, by simpa using q⟩
theorem op_notIn_dct (hu : X.A.units + 65 < cLine) : OpR X (compareOp .NotIn) (rDin (cnE LT X ce) true) := by
  intro pins s σ H x y v u Q I rx ry h
  obtain ⟨ks, vs, k, a, b, xs, us, ⟨F, rfl, rfl, d, kk, r1, r2, r3, ⟨F', rk⟩, ok⟩, q⟩ := h
  cases rx
  cases ry
  have dd := dc_of I d kk r1
  refine wpAny_notIn_heap (show X.A.in1.units + 8 < cLine by rw [Around.in1_units]; omega) (key_is I ok rk) d.1 dd ?_
  have e : (atKey xs (keyOf k)).isSome = (kIx ks k).isSome := by
    cases q : kIx ks k with
    | none => rw [at_no ((kIx_xs kk k).trans q)]; rfl
    | some i => obtain ⟨x, e1, e2, e3⟩ := at_ix ((kIx_xs kk k).trans q); rw [e3]; rfl
  rw [e]
  exact ⟨.bl _, H, I.tok _, rfl, by simpa using q⟩
end

/-! ### storing -/
def rSetN (c : Cn) : TSet := fun o i v H Q => ∃ F a ks vs k p, o = .ref a ∧ RO c F H (.dct ks vs) a ∧ ¬ F a ∧ RF c F H k i ∧ RF c F H p v ∧ kOk k = true ∧ ks.length < szL ∧ ∀ ob, RO c F (upd H a ob) (kPut ks vs k p) a → Q (upd H a ob)
theorem PSet.or {X : Cx} {r r' : TSet} (h : PSet X r) (h' : PSet X r') : PSet X (fun o i v H Q => r o i v H Q ∨ r' o i v H Q) := by
  intro pins s σ H o i v ov iv u Q I r1 r2 r3 q
  rcases q with q | q
  · exact h pins s σ H o i v ov iv u Q I r1 r2 r3 q
  · exact h' pins s σ H o i v ov iv u Q I r1 r2 r3 q
theorem Vals.setV {us : List V} {ws : List Value} (h : Vals us ws) {u : V} {w : Value} (r : RelV u w) (i : Nat) : Vals (us.set i u) (ws.set i w) := h.set r i
theorem set_dctN {X : Cx} (hu : X.A.units + 65 < cLine) : PSet X (rSetN (cnE LT X ce)) := by
  intro pins s σ H o i v ov iv u Q I r1 r2 r3 h
  obtain ⟨F, a, ks, vs, k, p, rfl, ⟨xs, us, d, kk, q1, q2, q3⟩, nf, rk, rp, ok, hl, q⟩ := h
  cases r1
  obtain ⟨b, rfl⟩ := key_ref ok rk
  cases r2
  have dd := dc_of I d kk q1
  have hxl : xs.length = ks.length := by
    have := congrArg List.length kk.1
    rwa [List.length_map, keysOf_len] at this
  refine wpAny_setItem_heap (hsz := d.2.2.1) (show X.A.in1.units + 8 < cLine by rw [Around.in1_units]; omega) (key_is I ok rk) dd fun h' dd' sb => ?_
  obtain ⟨ob, es, ep, hg, hx, hdt, hel, _, hnd⟩ := dd'
  have eH : ∃ ob0, H a = some (.ext ob0) := let ⟨_, _, _, ob0, _, _, e, _⟩ := d; ⟨_, e⟩
  obtain ⟨ob0, e0⟩ := eH
  have kp : ∀ b u, H b = some u → (F b ∨ Stl u) → upd H a (.ext fun h => h.get? a = some ob) b = some u := fun b u e z => by
    rw [upd_ne (fun y => ?_)]
    · exact e
    · subst y
      rw [e0] at e; cases e
      rcases z with z | z
      · exact nf z
      · exact z
  have ls : (storedH xs (keyOf k) b u).length ≤ sizeLine := by
    have : (storedH xs (keyOf k) b u).length ≤ xs.length + 1 := by
      unfold storedH
      split
      · simp
      · simp
    have : szL = sizeLine := szL_eq
    omega
  refine ⟨_, I.write (x := a) (e := a) (o := .ext fun h => h.get? a = some ob) (t' := s.toks + (nestedKind X.prog X.w).draws (keyOf k)) (by rw [e0]; exact True.intro) (.inl rfl) (fun b u hb z => (sb.2 b hb).trans z) ⟨_, hg⟩ ⟨hg, ⟨_, hg⟩, fun h1 h2 z k => k _ z⟩, q _ ?_⟩
  have dn : DcA (cnE LT X ce) (upd H a (.ext fun h => h.get? a = some ob)) a (storedH xs (keyOf k) b u) := ⟨d.1, hnd, ls, ob, es, ep, upd_same, hx, hdt, hel⟩
  have q1' := RFs.ext (fun _ f => f) kp _ _ q1
  have q2' := RFs.ext (fun _ f => f) kp _ _ q2
  have rk' := RF.ext (fun _ f => f) kp _ _ rk
  have rp' := RF.ext (fun _ f => f) kp _ _ rp
  unfold kPut
  cases qi : kIx ks k with
  | some j =>
    have e1 := (kIx_xs kk k).trans qi
    obtain ⟨x, e2, e3, e4⟩ := at_ix e1
    have es' : storedH xs (keyOf k) b u = xs.map (putAt (keyOf k) u) := storedH_old e4 b u
    rw [es'] at dn
    obtain ⟨h1, h2, h3⟩ := put_ix (v := u) d.2.1 e1
    refine ⟨xs.map (putAt (keyOf k) u), us.set j v, dn, ⟨h1.trans kk.1, kk.2⟩, by rw [h2]; exact q1', q2'.set j rp', ?_⟩
    rw [h3]
    exact q3.set r3 j
  | none =>
    have e1 := at_no ((kIx_xs kk k).trans qi)
    have es' : storedH xs (keyOf k) b u = xs ++ [(keyOf k, b, u)] := storedH_new e1 b u
    rw [es'] at dn
    refine ⟨xs ++ [(keyOf k, b, u)], us ++ [v], dn, ⟨?_, fun z hz => ?_⟩, ?_, q2'.append (RFs.cons_ rp' RFs.nil_), ?_⟩
    · rw [List.map_append, kk.1, keysOf_app]; rfl
    · rcases List.mem_append.mp hz with z | z
      · exact kk.2 _ z
      · simp at z; subst z; exact ok
    · rw [List.map_append]
      exact q1'.append (RFs.cons_ rk' RFs.nil_)
    · rw [List.map_append]
      exact q3.append (.cons r3 .nil)
end L2.Zz

/-! Z14: items of lists, tuples, dicts; in; storing; walking a dict; a, b, c = ..; keywords. -/
namespace L2.Zz
open PySem PySem.Spec PyProof.Rows
variable {LT : LTab} {ce : List (Str × Addr)}

/-! ### items -/
def pvIxA : PV → PV → Option Ot
  | .dct ks vs, k => if kOk k = true then (match kIx ks k with
    | some i => (vs[i]?).map .v
    | none => none) else none
  | a, b => pvIx a b
theorem RW.key {c : Cn} {F : Addr → Prop} {H : Hp} {k : PV} {v : V} (ok : kOk k = true) (h : RW c F H k v) : RF c F H k v := by
  rcases h with h | ⟨a, e, h⟩
  · exact h
  · cases k with
    | tup xs => exact h.elim
    | _ => simp [kOk] at ok
theorem dky {c : Cn} {F : Addr → Prop} {H : Hp} {ks vs : List PV} {k : PV} {x y : V} (h : RW c F H (.dct ks vs) x) (hk : RW c F H k y) (ok : kOk k = true) : ∃ a b xs us, DKy c H x y ks vs k a b xs us ∧ RFs c F H vs us := by
  obtain ⟨a, xs, us, e, d, kk, r1, r2, r3⟩ := h.dct
  have rk := hk.key ok
  obtain ⟨b, e2⟩ := key_ref ok rk
  subst e2
  exact ⟨a, b, xs, us, ⟨F, e, rfl, d, kk, r1, r2, r3, ⟨F, rk⟩, ok⟩, r2⟩
section
variable {X : Cx} {W : WX} {a b : Expr} {da db : DE} {pos : Pos}
theorem op2_ixA : Op2 (cnE LT X ce) (fun x y H Q => rDg (cnE LT X ce) x y H Q ∨ (rIxL X.K x y H Q ∨ rIxT X.K x y H Q)) pvIxA := by
  intro F H p q o va vb Q ra rb e h
  unfold pvIxA at e
  split at e
  · rename_i ks vs
    by_cases ok : kOk q = true
    · rw [if_pos ok] at e
      cases qi : kIx ks q with
      | none => rw [qi] at e; cases e
      | some i =>
        rw [qi] at e
        obtain ⟨w, e1, rfl⟩ := Option.map_eq_some_iff.mp e
        obtain ⟨a, b, xs, us, D, r2⟩ := dky ra rb ok
        obtain ⟨u, e2, r3⟩ := r2.get e1
        exact .inl ⟨ks, vs, q, a, b, xs, us, i, u, D, qi, e2, h u r3⟩
    · rw [if_neg ok] at e; cases e
  · exact .inr (op2_ix F H _ _ o va vb Q ra rb e h)
theorem z_ixA (hu : X.A.units + 65 < cLine) (ha : PE X a (EV (cnE LT X ce) W da)) (hb : PE X b (EV (cnE LT X ce) W db)) (hs : PlainIx b := by intro _ _; rfl) : PE X (.Subscript a b pos) (EV (cnE LT X ce) W (dOp2 pvIxA da db)) :=
  z_op2 op2_ixA (pe_ix ((ix_dct hu).or (ix_list.or ix_tup)) ha hb hs)
end

/-! ### in -/
def pvInA (a b : PV) : Option Bool := match b with
  | .dct ks _ => if kOk a = true then some (kIx ks a).isSome else none
  | .lst _ => pvIn a b
  | _ => none
def pvInO (a b : PV) : Option Ot := (pvInA a b).map fun t => .v (.bl t)
def pvNinO (a b : PV) : Option Ot := (pvInA a b).map fun t => .v (.bl !t)
section
variable {X : Cx}
def rInZ (LT : LTab) (X : Cx) : R2 := fun x y H Q => rDin (cnE LT X []) false x y H Q ∨ rInD X.K x y H Q
def rNinZ (LT : LTab) (X : Cx) : R2 := fun x y H Q => rDin (cnE LT X []) true x y H Q ∨ rNotInD X.K x y H Q
theorem op_inZ (hu : X.A.units + 65 < cLine) : OpR X (compareOp .In) (rInZ LT X) := (op_in_dct hu).or (op_inD hu)
theorem op_ninZ (hu : X.A.units + 65 < cLine) : OpR X (compareOp .NotIn) (rNinZ LT X) := (op_notIn_dct hu).or (op_notInD hu)
theorem pvIn_ok {F : Addr → Prop} {H : Hp} {p q : PV} {t : Bool} {va vb : V} (ra : RW (cnE LT X ce) F H p va) (rb : RW (cnE LT X ce) F H q vb) (e : pvIn p q = some t) :
    ∃ d ds, Dp X.K H va d ∧ Dp X.K H vb (.list ds) ∧ SeqAt.shaped d = true ∧ SeqAt.shaped (.list ds) = true ∧ t = ds.any fun z => PyData.eqv z d := by
  unfold pvIn at e
  split at e
  · rename_i d ds e1 e2
    by_cases h : SeqAt.shaped d = true ∧ SeqAt.shaped (.list ds) = true
    · rw [if_pos h] at e
      cases e
      exact ⟨d, ds, ra.dp e1, rb.dp e2, h.1, h.2, rfl⟩
    · rw [if_neg h] at e; cases e
  · cases e
theorem op2_in : Op2 (cnE LT X ce) (rInZ LT X) pvInO := by
  intro F H p q o va vb Q ra rb e h
  obtain ⟨t, e1, rfl⟩ := Option.map_eq_some_iff.mp e
  have hq : Q (.bl t) H := h _ RF.bl_
  unfold pvInA at e1
  split at e1
  · rename_i ks vs
    by_cases ok : kOk p = true
    · rw [if_pos ok] at e1
      cases e1
      obtain ⟨a, b, xs, us, D, _⟩ := dky rb ra ok
      exact .inl ⟨ks, vs, p, a, b, xs, us, D, by simpa using hq⟩
    · rw [if_neg ok] at e1; cases e1
  · obtain ⟨d, ds, h1, h2, h3, h4, rfl⟩ := pvIn_ok ra rb e1
    exact .inr ⟨d, ds, h1, h2, h3, h4, hq⟩
  · cases e1
theorem op2_nin : Op2 (cnE LT X ce) (rNinZ LT X) pvNinO := by
  intro F H p q o va vb Q ra rb e h
  obtain ⟨t, e1, rfl⟩ := Option.map_eq_some_iff.mp e
  have hq : Q (.bl !t) H := h _ RF.bl_
  unfold pvInA at e1
  split at e1
  · rename_i ks vs
    by_cases ok : kOk p = true
    · rw [if_pos ok] at e1
      cases e1
      obtain ⟨a, b, xs, us, D, _⟩ := dky rb ra ok
      exact .inl ⟨ks, vs, p, a, b, xs, us, D, by simpa using hq⟩
    · rw [if_neg ok] at e1; cases e1
  · obtain ⟨d, ds, h1, h2, h3, h4, rfl⟩ := pvIn_ok ra rb e1
    exact .inr ⟨d, ds, h1, h2, h3, h4, hq⟩
  · cases e1
end

/-! ### storing -/
def setPV (o i p : PV) : Option PV := match o, i with
  | .lst xs, .int k => (ixN xs.length k).map fun j => .lst (xs.set j p)
  | .dct ks vs, k => if kOk k = true ∧ ks.length < szL then some (kPut ks vs k p) else none
  | _, _ => none
def gSubP (do_ di : DE) : DG := fun p σ => (do_ σ).bind fun ro σ1 => (di σ1).bind fun ri σ2 => match ri with
  | .val i => match rd σ2 ro with
    | some o => match setPV o i p with
      | some q => match wr ro q σ2 with
        | some σ3 => .ok () σ3
        | none => .no
      | none => .no
    | none => .no
  | _ => .no
section
variable {X : Cx} {W : WX} {o i : Expr} {do_ di : DE} {pos : Pos}
theorem zg_sub (hu : X.A.units + 65 < cLine) (ho : PE X o (EV (cnE LT X ce) W do_)) (hi : PE X i (EV (cnE LT X ce) W di))
    (ha : ∀ v, assign (.Subscript o i pos) X.env v = (do
      let ov ← holding [v] (eval o X.env)
      let iv ← holding [v, ov] (eval i X.env)
      standAt pos
      holding [v, ov, iv] (setItem ov iv v)
      release [v, ov, iv] []) := by intro _; rfl) : PG X (.Subscript o i pos) (GV (cnE LT X ce) W (gSubP do_ di)) :=
  ⟨fun pins s σr H v u Q I r hh => (pg_sub ho hi (PSet.or set_list (set_dctN hu)) ha).run pins s σr H v u Q I r (by
    obtain ⟨F, la, σ, p, S, rp, f⟩ := hh
    have f := FinS.expr (σr := σr) f
    refine ⟨F, la, σ, S, f.mono fun ro σ1 F1 H1 x1 S1 f1 vo eo => ?_⟩
    refine ⟨F1, la, σ1, S1, ((FinS.expr (σr := σr) f1).step x1).mono fun ri σ2 F2 H2 x2 S2 f2 vi ei => ?_⟩
    have eo2 := eo.ext S1 x2
    have rp2 := RF.ext (fun a f => x2.fr a (x1.fr a f)) (fun a o e h => Ex.keep S1 x2 a o (Ex.keep S x1 a o e h) (h.imp (x1.fr a) id)) _ _ rp
    cases ri with
    | val q =>
      simp only at f2
      cases qa : rd σ2 ro with
      | none => rw [qa] at f2; exact f2.elim
      | some ov =>
        rw [qa] at f2
        simp only at f2
        cases qs : setPV ov q p with
        | none => rw [qs] at f2; exact f2.elim
        | some q' =>
          rw [qs] at f2
          simp only at f2
          cases qw : wr ro q' σ2 with
          | none => rw [qw] at f2; exact f2.elim
          | some σ3 =>
            rw [qw] at f2
            obtain ⟨a, ea, rO, nf, nn, wrk⟩ := wr_at S2 (x1.trans x2) eo2 qa qw
            have fin : ∀ ob, RO (cnE LT X ce) F2 (upd H2 a ob) q' a → Q σr (upd H2 a ob) := fun ob rob => by
              obtain ⟨x3, S3⟩ := wrk ob rob
              exact f2 F2 _ σr x3 S3
            have eq : RF (cnE LT X ce) F2 H2 q vi := ei
            unfold setPV at qs
            split at qs
            · rename_i xs k
              obtain ⟨j, e1, rfl⟩ := Option.map_eq_some_iff.mp qs
              obtain ⟨us, e2, r2⟩ := rO
              refine .inl ⟨a, us, k, j, ea, (show RW _ _ _ _ _ from .inl eq).int, e2, by rw [← r2.length]; exact e1, fin _ ⟨_, upd_same, ?_⟩⟩
              refine RFs.ext (fun _ f => f) (fun b o e z => ?_) _ _ (r2.set j rp2)
              rw [upd_ne (fun y => ?_)]
              · exact e
              · subst y
                rw [e2] at e; cases e
                rcases z with z | z
                · exact nf z
                · exact z
            · rename_i ks vs
              by_cases ok : kOk q = true ∧ ks.length < szL
              · rw [if_pos ok] at qs
                cases qs
                exact .inr ⟨F2, a, ks, vs, q, p, ea, rO, nf, eq, rp2, ok.1, ok.2, fin⟩
              · rw [if_neg ok] at qs; cases qs
            · cases qs
    | _ => exact f2.elim)⟩
end

/-! ### walking a dict -/
def ItD (d : Addr) (ob : Obj) (xs : DX) : It :=
  ⟨fun i H => H d = some (.ext fun h => h.get? d = some ob) ∧ i < xs.length, fun i H x H' => H' = H ∧ ∃ e, xs[i]? = some e ∧ x = .ref e.2.1, fun i H => H d = some (.ext fun h => h.get? d = some ob) ∧ xs.length ≤ i⟩
theorem ext_get {X : Cx} {pins : List (Addr × Obj)} {σ : St} {H : Hp} {s : Shared} {d : Addr} {ob : Obj} (I : Inv X pins σ H s) (h : H d = some (.ext fun h => h.get? d = some ob)) : s.heap.get? d = some ob :=
  (show ObjOk X.prog X.w H s.heap d (.ext fun h => h.get? d = some ob) from I.hok d _ h).1
theorem turn_keysN {P : Program} {w : World} {K : PySem.W.Frag} {tg : Expr} {d : Addr} {ob : Obj} {es : Array DictEntry} {ep : Nat} {xs : DX} {P' : Program} {w' : World} (it : Addr) (hod : ob.data = .dict es ep) (he : es.toList = xs.map (entryOfKey (nestedKind P' w'))) :
    Turn P w K tg (ItD d ob xs) [it] it (fun i h => h.IsKeyIter it d i xs.length ep) where
  mem := by simp
  obj := fun i h st b hb => by
    have e : b = it := by simpa using hb
    subst e
    obtain ⟨oi, e, c, dd⟩ := st
    exact ⟨oi, e, fun v z => by rw [dd] at z; cases z⟩
  keep := fun i h h' st k => st.at fun oi e => k it (by simp) oi e
  item := by
    intro X hP hw hK hc i pins s σ H E I hf st hg
    subst hP hw hK
    obtain ⟨hd, hi⟩ := hg
    obtain ⟨f0, f1, f2, f3, f4, f5⟩ := hf it (by simp)
    have hgd := ext_get I hd
    have hsz : es.size = xs.length := size_of_entries he
    have e1 : xs[i]? = some xs[i] := List.getElem?_eq_getElem hi
    have hen : es[i]? = some (entryOfKey (nestedKind P' w') xs[i]) := by rw [entry_at he i, e1]; rfl
    refine next_key_item st hgd hod hsz hen fun h' st' sb => ?_
    have I1 : Inv X pins σ H { s with heap := h' } := I.turned (t' := s.toks) (fun b ob hb e => (sb.2 b hb).trans e) f0 f1 f3 f4 f5
    obtain ⟨oi, e, c, dd⟩ := id st'
    exact ⟨_, rfl, go_of (s := { s with heap := h' }) e c dd (by decide) ⟨.ref xs[i].2.1, H, I1, rfl, ⟨rfl, _, e1, rfl⟩, st', fun b hb => (hf b hb).1⟩⟩
  done := by
    intro X hP hw hK hc i pins s σ H E I hf st hg
    subst hP hw hK
    obtain ⟨hd, hi⟩ := hg
    obtain ⟨f0, f1, f2, f3, f4, f5⟩ := hf it (by simp)
    have hgd := ext_get I hd
    have hsz : es.size = xs.length := size_of_entries he
    exact next_key_end (I.ok.hd hc) st hgd hod hsz hi fun h' eb => ⟨rfl, I.turned (t' := s.toks) (fun b ob hb e => eb b ob hb e) f0 f1 f3 f4 f5⟩
  self := fun A i s Q E st h => by
    refine wpAny_pyIter_slot st.typeIs PySem.F.slot_dict_keyiterator_iter (wpAny_call_entry PySem.F.slot_dict_keyiterator_iter st.typeIs PySem.F.entry_dict_keyiterator_iter ?_ (PySem.F.args_dict_keyiterator_iter_1 _))
    show wpAny _ _ (ret (.ref it)) _ _ s
    exact wpAny_pure ⟨_, rfl, "dict_keyiterator", _, st.typeIs, PySem.F.slot_dict_keyiterator_next.lookup, h⟩
def iSeqD (X : Cx) (tl : TE) : TI := fun σ H R => tl σ H fun x H1 => ∃ a, x = .ref a ∧ (((∃ xs, SqL X.K H1 a xs) ∧ R (Itl X.K a) H1) ∨ ((∃ xs, SqT X.K H1 a xs) ∧ R (Itt X.K a) H1) ∨
  ∃ (xs : DX) (ob : Obj) (es : Array DictEntry) (ep : Nat), (a == sysModules) = false ∧ H1 a = some (.ext fun h => h.get? a = some ob) ∧ ob.ExactDict ∧ ob.data = .dict es ep ∧ es.toList = xs.map (entryOfKey (nestedKind X.prog X.w)) ∧ R (ItD a ob xs) H1)
theorem jok_dct {c : Cn} {F0 : Addr → Prop} {H0 : Hp} {a : Addr} {ob : Obj} {xs : DX} {ks : List PV} (f : F0 a) (h : H0 a = some (.ext fun h => h.get? a = some ob)) (r : RFs c F0 H0 ks (xs.map fun x => V.ref x.2.1)) : JOk c F0 H0 (ItD a ob xs) ks := by
  intro F H hF k
  have h' := k a _ h (.inl f)
  have r' := RFs.ext hF k _ _ r
  have hl : ks.length = xs.length := by rw [r.length, List.length_map]
  refine ⟨fun i hi => ⟨h', by omega⟩, ⟨h', by omega⟩, fun i v H' hi y => ?_⟩
  obtain ⟨rfl, e, e1, rfl⟩ := y
  have e2 : (xs.map fun x => V.ref x.2.1)[i]? = some (V.ref e.2.1) := by rw [List.getElem?_map, e1]; rfl
  obtain ⟨p, e3, rp⟩ := r'.getR e2
  exact ⟨p, e3, fun _ _ e => e, rp⟩
def dItA (d : DE) : DI := fun σ => (d σ).bind fun r σ1 => (fz r σ1).bind fun p σ2 => match p with
  | .lst xs => .ok xs σ2
  | .tup xs => .ok xs σ2
  | .dct ks _ => .ok ks σ2
  | _ => .no
section
variable {X : Cx} {W : WX} {tg e : Expr} {d : DE}
theorem pi_seqD {tl : TE} (hl : PE X e tl) : PI X tg e (iSeqD X tl) := by
  refine ⟨fun pins s σ H R I h => ?_⟩
  refine thn (hl.run pins s σ H _ I h) fun v s1 ⟨x, H1, I1, r1, q1⟩ => ?_
  obtain ⟨a, rfl, q⟩ := q1
  cases r1
  rcases q with ⟨⟨xs, hq⟩, q⟩ | ⟨⟨xs, hq⟩, q⟩ | ⟨xs, ob, es, ep, hs, hd, hx, hdt, he, q⟩
  · obtain ⟨its, rv, p, hz⟩ := I1.list hq
    refine wpAny_pyIter_list p.isList ?_
    refine ⟨s1.heap.objs.size, [s1.heap.objs.size], _, _, H1, rfl, I1.kept (t' := s1.toks) fun b o e => Heap.get?_push_of_some _ e, turn_list a _, ⟨_, Heap.get?_push_size _ rfl, rfl, rfl⟩, fun b hb => ?_, q⟩
    have e : b = s1.heap.objs.size := by simpa using hb
    subst e
    exact I1.fpOk (Nat.le_refl _) (I1.hok.fresh (Nat.le_refl _))
  · obtain ⟨its, rv, p, hz⟩ := I1.tuple hq
    refine wpAny_pyIter_tuple (show s1.heap.IsTuple a its.toArray from p) ?_
    refine ⟨s1.heap.objs.size, [s1.heap.objs.size], _, _, H1, rfl, I1.kept (t' := s1.toks) fun b o e => Heap.get?_push_of_some _ e, turn_tuple a _, ⟨_, Heap.get?_push_size _ rfl, rfl, rfl⟩, fun b hb => ?_, q⟩
    have e : b = s1.heap.objs.size := by simpa using hb
    subst e
    exact I1.fpOk (Nat.le_refl _) (I1.hok.fresh (Nat.le_refl _))
  · have hgd := ext_get I1 hd
    have hsz : es.size = xs.length := size_of_entries he
    refine iter_keys hs hgd hx hdt (pi_one (tk := s1.toks) I1 _ (turn_keysN _ hdt he) ⟨_, Heap.get?_push_size _ rfl, rfl, ?_⟩ q)
    rw [hsz] <;> rfl
theorem zi_seqA (h : PE X e (EV (cnE LT X ce) W d)) : PI X tg e (IV (cnE LT X ce) W (dItA d)) := PI.wk (pi_seqD h) fun σr H R q => by
  obtain ⟨F, la, σ, S, f⟩ := q
  refine EV.seq S (Ex.refl _) f fun F1 σ1 r v H1 x1 S1 e1 f1 => ?_
  cases q : fz r σ1 with
  | no => rw [q] at f1; exact f1.elim
  | ex ee s => exact (fz_no_ex q).elim
  | ok p σ2 =>
    rw [q] at f1
    obtain ⟨F2, x2, S2, r2, _⟩ := fz_ok S1 x1 e1 q
    cases p with
    | lst xs =>
      unfold RF at r2
      obtain ⟨a, us, rfl, h1, h2⟩ := r2
      exact ⟨a, rfl, .inl ⟨⟨us, h1.sq⟩, f1 F2 H1 x2 S2 _ (jok_list h1 h2)⟩⟩
    | tup xs =>
      unfold RF at r2
      obtain ⟨a, us, rfl, h1, h2⟩ := r2
      exact ⟨a, rfl, .inr (.inl ⟨⟨us, h1⟩, f1 F2 H1 x2 S2 _ (jok_tup h1 h2)⟩)⟩
    | dct ks vs =>
      unfold RF at r2
      obtain ⟨a, xs, us, rfl, fa, d, kk, q1, q2, q3⟩ := r2
      obtain ⟨hs, nd, hz, ob, es, ep, ea, hx, hdt, hel⟩ := d
      exact ⟨a, rfl, .inr (.inr ⟨xs, ob, es, ep, hs, ea, hx, hdt, hel, f1 F2 H1 x2 S2 _ (jok_dct fa ea q1)⟩)⟩
    | _ => exact f1.elim
end

/-! ### a, b, c = x, y, z -/
section
variable {X : Cx} {W : WX} {a b c3 : Expr} {da : DA} {pos : Pos} {x y z : Str} {i j l : Nat}
theorem z_par3 {px py pz pt : Pos} {kt k2 pt2} (hc : X.calm = true) (hN : X.N.Nodup) (hi : X.N[i]? = some x) (hj : X.N[j]? = some y) (hl : X.N[l]? = some z) (hij : i ≠ j) (hil : i ≠ l) (hjl : j ≠ l)
    (hx : X.env.scope.names.lookup x = some .local) (hy : X.env.scope.names.lookup y = some .local) (hz : X.env.scope.names.lookup z = some .local) (ha : PA X [a, b, c3] (EVA (cnE LT X ce) W da))
    (hw : swappedStores [.Tuple [.Name x px, .Name y py, .Name z pz] kt pt] (.Tuple [a, b, c3] k2 pt2) X.env = pure (some [x, y, z]))
    (hs : swapsWithSole [.Tuple [.Name x px, .Name y py, .Name z pz] kt pt] (.Tuple [a, b, c3] k2 pt2) pos.line X.env = pure false := by rfl) :
    PS X (.Assign [.Tuple [.Name x px, .Name y py, .Name z pz] kt pt] (.Tuple [a, b, c3] k2 pt2) pos) (SV (cnE LT X ce) W (dPar [i, j, l] da)) := PS.wk (ps_par3 hc hN hi hj hl hij hil hjl hx hy hz ha hw hs) fun D σr H q => by
  obtain ⟨F, la, σ, S, f⟩ := q
  refine ⟨F, la, σ, S, f.expr.mono fun rs σ1 F1 H1 x1 S1 f1 vs es => ?_⟩
  rcases stAll_cases [i, j, l] rs σ1 with ⟨σ2, q⟩ | q
  · rw [q] at f1
    obtain ⟨hl, x2, S2⟩ := stAll_ok [i, j, l] rs vs σ1 σ2 σr S1 x1 es q
    have hv : vs.length = 3 := by rw [← es.length, hl]; rfl
    match vs, hv with
    | [u, v, w], _ => exact ⟨u, v, w, rfl, f1 F1 H1 _ x2 S2⟩
  · rw [q] at f1; exact f1.elim
end

/-! ### f(e, .., k = v, ..) -/
def pick {α : Type} (is : List Nat) (xs : List α) : List α := is.filterMap fun i => xs[i]?
def dCallK (n np : Nat) (is : List Nat) (body : DS) (da dk : DA) : DE := fun σ => (da σ).bind fun rs σ1 => (dk σ1).bind fun zs σ2 => match dTup.vals rs, dTup.vals zs with
  | some ps, some qs => if (pick is (ps ++ qs)).length = np ∧ (∀ i ∈ is, i < (ps ++ qs).length) then callD n body ((pick is (ps ++ qs)).map .val) σ2 else .no
  | _, _ => .no
theorem pick_rfs {c : Cn} {F : Addr → Prop} {H : Hp} {ps : List PV} {us : List V} (r : RFs c F H ps us) : ∀ is : List Nat, RFs c F H (pick is ps) (pick is us)
  | [] => RFs.nil_
  | i :: is => by
    have ih := pick_rfs r is
    unfold pick at ih ⊢
    rw [List.filterMap_cons, List.filterMap_cons]
    cases q : ps[i]? with
    | none =>
      have hn : us[i]? = none := by
        rw [List.getElem?_eq_none_iff] at q ⊢
        rw [← r.length]; exact q
      rw [hn]
      exact ih
    | some p =>
      obtain ⟨u, e, rp⟩ := r.get q
      rw [e]
      exact RFs.cons_ rp ih
theorem pick_vals {us : List V} {ws : List Value} (r : Vals us ws) : ∀ is : List Nat, Vals (pick is us) (pick is ws)
  | [] => .nil
  | i :: is => by
    have ih := pick_vals r is
    unfold pick at ih ⊢
    rw [List.filterMap_cons, List.filterMap_cons]
    cases q : us[i]? with
    | none =>
      have hn : ws[i]? = none := by
        rw [List.getElem?_eq_none_iff] at q ⊢
        rw [← r.length]; exact q
      rw [hn]
      exact ih
    | some p =>
      obtain ⟨u, e, rp⟩ := r.get q
      rw [e]
      exact .cons rp ih
section
variable {X : Cx} {W : WX} {k np n : Nat} {f : Addr} {fd : FuncData} {N ps ks : List Str} {body : DS} {x : Str} {p pos kpos : Pos} {e : Expr} {es : List Expr} {kws : List Keyword} {d : DE} {ds da dk : DA} {nm : Option Str} {is : List Nat}
theorem EVA.cons {σr : St} {H : Hp} {Q : List V → Hp → Prop} (h : EVA (cnE LT X ce) W (dCons d ds) σr H Q) : tCons (EV (cnE LT X ce) W d) (EVA (cnE LT X ce) W ds) σr H Q := by
    obtain ⟨F, la, σ, S, f⟩ := h
    refine EV.seq S (Ex.refl _) f fun F1 σ1 r v H1 x1 S1 e1 f1 => ?_
    refine ⟨F1, la, σ1, S1, (f1.bind.step x1).mono fun rs σ2 F2 H2 x2 S2 f2 vs es => ?_⟩
    refine f2 F2 H2 (x1.trans x2) S2 (v :: vs) (.cons (e1.ext S1 x2) (es.weak fun a n => x1.back n) fun a p hr hv => ?_)
    subst hr hv
    obtain ⟨b, eb, ro, nf, no, _⟩ := e1
    cases eb
    obtain ⟨o, ho, _⟩ := ro.there
    refine ERs.noNew (fun z => ?_) es
    rcases z with z | z
    · exact no z
    · have z' : H1 a = none := z
      rw [ho] at z'; cases z'
theorem PK.wk {t t' : TA} (h : PK X kws t) (w : ∀ σ H Q, t' σ H Q → t σ H Q) : PK X kws t' := ⟨fun pos pins s σ H Q I q => h.run pos pins s σ H Q I (w _ _ _ q)⟩
theorem z_knil : PK X [] (EVA (cnE LT X ce) W dNil) := PK.wk pk_nil fun σr H Q q => by
  obtain ⟨F, la, σ, S, f⟩ := q
  exact f F H (Ex.refl _) S [] .nil
theorem z_kcons (ha : PE X e (EV (cnE LT X ce) W d)) (hr : PK X kws (EVA (cnE LT X ce) W ds)) : PK X (⟨nm, e, kpos⟩ :: kws) (EVA (cnE LT X ce) W (dCons d ds)) := PK.wk (pk_cons ha hr) fun σr H Q q => q.cons
/-- binding by names -/
def KPick (fd : FuncData) (ps ks : List Str) (n : Nat) (is : List Nat) : Prop := ∀ us ws : List Value, us.length = n → ws.length = ks.length → bindArgs fd ⟨us, ks.zip ws⟩ = pure (ps.zip (pick is (us ++ ws)))
def tCallS (n m : Nat) (sp : Sp) (gV : List V → List V → List V) (E : St → XK) (t tk : TA) : TE := fun σ H Q => t σ H fun vs H1 => tk σ H1 fun zs H2 => vs.length = n ∧ zs.length = m ∧ sp (gV vs zs) H2 Q (E σ)
theorem run_fnNS {sp : Sp} {CX : CXT} {E : St → XK} {pins : List (Addr × Obj)} {σ : St} {H : Hp} {s : Shared} {Q : VK} {us ws : List Value} {vs zs : List V} {g : List Value → List Value → List Value} {gV : List V → List V → List V} (F : FnOk X.prog X.w X.K X.mg X.base CX k f fd ps sp) (hr : Room k X.A) (hb : KBn X.K fd ps n ks g gV) (hx : PassesAt CX X σ (E σ))
    (I : Inv X pins σ H s) (r : Vals vs us) (rz : Vals zs ws) (l1 : vs.length = n) (l2 : zs.length = ks.length) (h : sp (gV vs zs) H Q (E σ)) : wpAny (model X.prog X.w) X.A (call (.ref f) us (ks.zip ws)) (EP X pins σ Q) X.xe s := by
  have r2 := hb.rel r rz
  refine wpAny_call (codeAny_mono (F.run X.A X.stack s H ⟨us, ks.zip ws⟩ (g us ws) (gV vs zs) Q (E σ) hr I.env0 (hb.to s us ws I.kIn (r.length.symm.trans l1) (rz.length.symm.trans l2)) r2 h) fun r s' hq => ?_)
  cases r with
  | error e => exact hx pins H s e s' I hq
  | ok fl =>
    cases fl with
    | ret u => exact I.after hq
    | next => exact False.elim hq
    | brk => exact False.elim hq
    | cont => exact False.elim hq
theorem kpick_kbn {K : PySem.W.Frag} (h : KPick fd ps ks n is) : KBn K fd ps n ks (fun us ws => pick is (us ++ ws)) (fun vs zs => pick is (vs ++ zs)) :=
  ⟨fun s us ws _ h1 h2 => .of_eq (h us ws h1 h2), fun r1 r2 => pick_vals (r1.append r2) is⟩
theorem callK_read {σr : St} {H : Hp} {Q : VK} (hn : np ≤ N.length) (hl1 : ∀ {σ rs σ'}, da σ = .ok rs σ' → rs.length = n) (hl2 : ∀ {σ rs σ'}, dk σ = .ok rs σ' → rs.length = ks.length) (h : EV (cnE LT X ce) W (dCallK N.length np is body da dk) σr H Q) :
    tCallS n ks.length (spD (cb LT X) N np body) (fun vs zs => pick is (vs ++ zs)) (fun σr cls d H => W cls d σr H) (EVA (cnE LT X ce) W da) (EVA (cnE LT X ce) W dk) σr H Q := by
  obtain ⟨F, la, σ, S, g⟩ := h
  unfold dCallK at g
  cases qa : da σ with
  | no => rw [qa] at g; exact g.elim
  | ex e σ1 =>
    rw [qa] at g
    refine ⟨F, la, σ, S, ?_⟩
    rw [qa]
    exact g
  | ok rs σ1 =>
  rw [qa] at g
  refine ⟨F, la, σ, S, ?_⟩
  rw [qa]
  intro F1 H1 x1 S1 vs es
  cases qk : dk σ1 with
  | no => simp [Rs.bind, qk] at g; exact g.elim
  | ex e σ2 =>
    simp only [Rs.bind, qk] at g
    refine ⟨F1, la, σ1, S1, ?_⟩
    rw [qk]
    exact Fin.step (o := (Rs.ex e σ2 : Rs (List EVal))) (P := fun _ _ _ _ => True) g x1
  | ok zs σ2 =>
  simp only [Rs.bind, qk] at g
  refine ⟨F1, la, σ1, S1, ?_⟩
  rw [qk]
  intro F2 H2 x2 S2 ws ez
  cases qv : dTup.vals rs with
  | none => rw [qv] at g; exact g.elim
  | some ps =>
    cases qw : dTup.vals zs with
    | none => rw [qv, qw] at g; exact g.elim
    | some qs =>
      rw [qv, qw] at g
      simp only at g
      obtain ⟨⟨h1, h2⟩, g2⟩ := fin_if g
      have es2 := es.ext S1 x2
      have rps := vals_ok es2 qv
      have rqs := vals_ok ez qw
      have rr := pick_rfs (rps.append rqs) is
      refine ⟨by rw [← es.length]; exact hl1 qa, by rw [← ez.length]; exact hl2 qk, ?_⟩
      have ea := (ERs.nil (c := cnE LT X ce) (F := F2) (la := la) (O := Ow σ2 σr la) (N := Nw ⟨F, H, Ow σ σr la⟩) (σr := σr) (H := H2)).app rr
      have hlen : (pick is (vs ++ ws)).length = np := by rw [← rr.length]; exact h1
      exact callD_ok hlen (by rw [hlen]; exact hn) S2 (x1.trans x2) ea g2
theorem z_callK (F : FnOk X.prog X.w X.K X.mg X.base (L2.CX X.prog X.w) k f fd ps (spD (cb LT X) N np body)) (hr : Room k X.A) (hg : Gl X x) (hm : X.mg x = some (.ref f)) (hk : PySem.W.keepIn X.K (.ref f) = true) (hb : KPick fd ps ks n is) (tk : Takes X W)
    (ha : PA X (e :: es) (EVA (cnE LT X ce) W da)) (hkw : PK X kws (EVA (cnE LT X ce) W dk)) (hn : np ≤ N.length) (hl1 : ∀ {σ rs σ'}, da σ = .ok rs σ' → rs.length = n) (hl2 : ∀ {σ rs σ'}, dk σ = .ok rs σ' → rs.length = ks.length)
    (hall : (backToKw pos (keywordEach kws X.env)).all (·.1.isSome) = true := by rfl) (hks : (backToKw pos (keywordEach kws X.env)).filterMap (·.1) = ks := by rfl)
    (hdb : (x == ("__debug__" : Str)) = false := by decide) (he : starEach (e :: es) X.env = (false, eval e X.env) :: starEach es X.env := by rfl)
    (hpl : ((backTo pos (starEach (e :: es) X.env)).any (·.1) || (backToKw pos (keywordEach kws X.env)).any (·.1.isNone)) = false := by rfl) :
    PE X (.Call (.Name x p) (e :: es) kws pos) (EV (cnE LT X ce) W (dCallK N.length np is body da dk)) := by
  refine ⟨fun pins s σ H Q I h => ?_⟩
  have h := callK_read hn hl1 hl2 h
  refine wpAny_Call_Name_kw (ld_glob I hg hm ?_ hdb)
  refine PySem.W.callWith_KW (h₀ := X.base) I.ok.mod.kin hk hall (thn (ha.run pos pins s σ H _ I h) fun us s1 ⟨vs, H1, I1, r, q⟩ => ?_) hpl he
  refine thn (hkw.run pos pins s1 σ H1 _ I1 q) fun ws s2 ⟨zs, H2, I2, rz, l1, l2, q2⟩ => ⟨I2.kIn, ?_⟩
  rw [hks]
  exact run_fnNS F hr (kpick_kbn hb) (passAt tk σ) I2 r rz l1 l2 q2
theorem z_callK0 (F : FnOk X.prog X.w X.K X.mg X.base (L2.CX X.prog X.w) k f fd ps (spD (cb LT X) N np body)) (hr : Room k X.A) (hg : Gl X x) (hm : X.mg x = some (.ref f)) (hk : PySem.W.keepIn X.K (.ref f) = true) (hb : KPick fd ps ks 0 is) (tk : Takes X W)
    (hkw : PK X kws (EVA (cnE LT X ce) W dk)) (hn : np ≤ N.length) (hl2 : ∀ {σ rs σ'}, dk σ = .ok rs σ' → rs.length = ks.length)
    (hall : (backToKw pos (keywordEach kws X.env)).all (·.1.isSome) = true := by rfl) (hks : (backToKw pos (keywordEach kws X.env)).filterMap (·.1) = ks := by rfl)
    (hdb : (x == ("__debug__" : Str)) = false := by decide)
    (hpl : ((backTo pos (starEach [] X.env)).any (·.1) || (backToKw pos (keywordEach kws X.env)).any (·.1.isNone)) = false := by rfl) :
    PE X (.Call (.Name x p) [] kws pos) (EV (cnE LT X ce) W (dCallK N.length np is body dNil dk)) := by
  refine ⟨fun pins s σ H Q I h => ?_⟩
  have h := callK_read (n := 0) hn (fun e => by cases e; rfl) hl2 h
  refine wpAny_Call_Name_kw (ld_glob I hg hm ?_ hdb)
  obtain ⟨F', la, σ', S', f'⟩ := h
  have q := f' F' H (Ex.refl _) S' [] .nil
  refine PySem.W.callWith_KW0 (h₀ := X.base) I.ok.mod.kin hk hall (thn (hkw.run pos pins s σ H _ I q) fun ws s2 ⟨zs, H2, I2, rz, l1, l2, q2⟩ => ⟨I2.kIn, ?_⟩) hpl
  rw [hks]
  exact run_fnNS F hr (kpick_kbn hb) (passAt tk σ) I2 .nil rz l1 l2 q2
end
theorem dCons_len {d : DE} {ds : DA} {n : Nat} (h : ∀ {σ rs σ'}, ds σ = .ok rs σ' → rs.length = n) : ∀ {σ rs σ'}, dCons d ds σ = .ok rs σ' → rs.length = n + 1 := by
  intro σ rs σ' e
  unfold dCons at e
  cases q : d σ with
  | no => rw [q] at e; cases e
  | ex _ _ => rw [q] at e; cases e
  | ok r σ1 =>
    cases q2 : ds σ1 with
    | no => simp [q, Rs.bind, q2] at e
    | ex _ _ => simp [q, Rs.bind, q2] at e
    | ok rs' σ2 =>
      simp [q, Rs.bind, q2] at e
      rw [← e.1, List.length_cons, h q2]
theorem dNil_len : ∀ {σ rs σ'}, dNil σ = .ok rs σ' → rs.length = 0 := by intro σ rs σ' e; cases e; rfl
end L2.Zz

/-! Z15: the law's start; small words for the printed terms. -/
namespace L2.Zz
open PySem PySem.Spec PyProof.Rows
variable {LT : LTab} {ce : List (Str × Addr)}
theorem huz {k : Nat} {A : Around} (hr : Room k A) : A.units + 65 < cLine := by have := hr.un; omega
theorem takesB {X : Cx} {s : Shared} {H : Hp} {scope : Scope} {cenv : Env} {fp : List Addr} : Takes (X.blk s H scope cenv fp) L2.Zz.W0 := fun _ _ ⟨_, _, _, _, _, _, _, _, _, _, _, _, _, _, _, _, w⟩ => w.elim
theorem cx_false {P : Program} {w : World} {H : Hp} {s s' : Shared} {e : Value} (h : L2.CX P w [] H s (fun _ _ _ => False) e s') : False := by
  obtain ⟨_, _, _, _, _, _, _, _, _, _, _, _, h⟩ := h
  exact h
theorem law_sp {c : Cb} {N : List Str} {body : DS} {H : Hp} {a : Addr} {ns : List Int} (hT : TabsZ c.LT.T H) (hS : SqL c.K H a (ns.map V.int))
    (h : ∃ σ', body ⟨some (.frz (.lst (ns.map PV.int))) :: List.replicate (N.length - 1) none, []⟩ = .ok (.rt (.val (.bl true))) σ') : spD c N 1 body [.ref a] H (fun v _ => v = .bl true) (fun _ _ _ => False) := by
  obtain ⟨σ', e⟩ := h
  refine ⟨rfl, fun ce => ?_⟩
  have hr : ∃ F : Addr → Prop, (∀ b, F b → ∃ o, H b = some o ∧ NoT o) ∧ FrL c F H a (ns.map V.int) := by
    rcases hS with h | h
    · refine ⟨fun b => b = a, fun b e => ?_, .inl ⟨rfl, h⟩⟩
      subst e
      rcases h with h | ⟨o, h⟩
      · exact ⟨_, h, fun _ z => nomatch z⟩
      · exact ⟨_, h, fun _ z => nomatch z⟩
    · exact ⟨fun _ => False, fun b e => e.elim, .inr h⟩
  obtain ⟨F, hF, hL⟩ := hr
  have st : start N [V.ref a] = some (V.ref a) :: List.replicate (N.length - 1) none := rfl
  have rep : ∀ (m i : Nat) (t : Sl), (List.replicate m (none : Option Sl))[i]? = some (some t) → False := fun m i t e => by
    rw [List.getElem?_replicate] at e
    split at e <;> cases e
  have one : ∀ (i : Nat) (t : Sl), (some (Sl.frz (.lst (ns.map PV.int))) :: List.replicate (N.length - 1) (none : Option Sl))[i]? = some (some t) → i = 0 ∧ t = .frz (.lst (ns.map PV.int)) := fun i t e => by
    cases i with
    | zero => simp at e; exact ⟨rfl, e.symm⟩
    | succ i => exact (rep _ i t (by simpa using e)).elim
  refine ⟨F, [], ⟨some (.frz (.lst (ns.map PV.int))) :: List.replicate (N.length - 1) none, []⟩, ⟨?_, fun i v e => ?_, fun i k e => ?_, fun i v e => ?_, fun i j v u b e1 e2 e3 e4 => ?_, rfl, List.nodup_nil, fun k v b e1 e2 => ?_, hF, fun i ks e => ?_, hT⟩, ?_⟩
  · rw [st]; simp
  · obtain ⟨rfl, ev⟩ := one i _ e
    cases ev
    refine ⟨.ref a, by rw [st]; rfl, ?_⟩
    unfold RF
    exact ⟨a, ns.map V.int, rfl, hL, RFs.ints ns⟩
  · obtain ⟨_, ev⟩ := one i _ e; cases ev
  · obtain ⟨_, ev⟩ := one i _ e; cases ev
  · obtain ⟨_, ev⟩ := one i _ e1; cases ev
  · simp at e1
  · obtain ⟨_, ev⟩ := one i _ e; cases ev
  · rw [e]
    intro F' H' σr' x S v ev
    have ev : RF c F' H' (.bl true) v := ev
    unfold RF at ev
    exact ev
end L2.Zz

/-! Z16: reckoning with denotations: what an outcome meets. -/
namespace L2.Zz
open PySem PySem.Spec PyProof.Rows
variable {LT : LTab} {ce : List (Str × Addr)}

abbrev XP := Exn → PSt → Prop
abbrev noX : XP := fun _ _ => False
@[irreducible] def WP {α : Type} (o : Rs α) (Q : α → PSt → Prop) (R : XP) : Prop := match o with
  | .ok a s => Q a s
  | .ex e s => R e s
  | .no => False
section
variable {α β : Type} {o : Rs α} {Q Q' : α → PSt → Prop} {R R' : XP}
theorem WP.bind {k : α → PSt → Rs β} {Q : β → PSt → Prop} (h : WP o (fun a s => WP (k a s) Q R) R) : WP (o.bind k) Q R := by
  with_unfolding_all
    cases o with
    | ok a s => exact h
    | ex e s => exact h
    | no => exact h
theorem WP.mono (h : WP o Q R) (m : ∀ a s, Q a s → Q' a s) (mr : ∀ e s, R e s → R' e s := by exact fun _ _ z => z) : WP o Q' R' := by
  with_unfolding_all
    cases o with
    | ok a s => exact m a s h
    | ex e s => exact mr e s h
    | no => exact h
theorem WP.ok {a : α} {s : PSt} (h : Q a s) : WP (.ok a s) Q R := by
  with_unfolding_all exact h
theorem WP.some_ {a : α} {s : PSt} (h : WP o Q noX) : ∃ a s, o = .ok a s ∧ Q a s := by
  with_unfolding_all
    cases o with
    | ok a s => exact ⟨a, s, rfl, h⟩
    | ex e s => exact h.elim
    | no => exact h.elim
theorem WP.of {a : α} {s : PSt} (e : o = .ok a s) (h : Q a s) : WP o Q R := by
  with_unfolding_all
    rw [e]; exact h
end
/-! ### small tables -/
abbrev SlL := List (Option Sl)
def GetL (l : SlL) (i : Nat) (s : Sl) : Prop := l[i]? = some (some s)
theorem GetL.z {l : SlL} {s : Sl} : GetL (some s :: l) 0 s := rfl
theorem GetL.s {l : SlL} {a : Option Sl} {i : Nat} {s : Sl} (h : GetL l i s) : GetL (a :: l) (i + 1) s := by unfold GetL at h ⊢; simpa using h
def SetL (l : SlL) (i : Nat) (s : Sl) (l' : SlL) : Prop := l.set i (some s) = l'
theorem SetL.z {l : SlL} {a : Option Sl} {s : Sl} : SetL (a :: l) 0 s (some s :: l) := rfl
theorem SetL.s {l l' : SlL} {a : Option Sl} {i : Nat} {s : Sl} (h : SetL l i s l') : SetL (a :: l) (i + 1) s (a :: l') := by unfold SetL at h ⊢; rw [List.set_cons_succ, h]
def GetP (l : List PV) (i : Nat) (s : PV) : Prop := l[i]? = some s
theorem GetP.z {l : List PV} {s : PV} : GetP (s :: l) 0 s := rfl
theorem GetP.s {l : List PV} {a : PV} {i : Nat} {s : PV} (h : GetP l i s) : GetP (a :: l) (i + 1) s := by unfold GetP at h ⊢; simpa using h
def SetP (l : List PV) (i : Nat) (s : PV) (l' : List PV) : Prop := i < l.length ∧ l.set i s = l'
theorem SetP.z {l : List PV} {a s : PV} : SetP (a :: l) 0 s (s :: l) := ⟨by simp, rfl⟩
theorem SetP.s {l l' : List PV} {a : PV} {i : Nat} {s : PV} (h : SetP l i s l') : SetP (a :: l) (i + 1) s (a :: l') := ⟨by have := h.1; simp; omega, by rw [List.set_cons_succ, h.2]⟩
inductive SlVal (i : Nat) : Sl → EVal → Prop
  | own {v} : SlVal i (.own v) (.at i)
  | frz {v} : SlVal i (.frz v) (.val v)
  | lo {k} : SlVal i (.lo k) (.lo k)
theorem SlVal.eq {i : Nat} {s : Sl} {r : EVal} (h : SlVal i s r) : slV i s = r := by cases h <;> rfl
def RdS (σ : PSt) (r : EVal) (p : PV) : Prop := rd σ r = some p
theorem RdS.v {σ : PSt} {p : PV} : RdS σ (.val p) p := rfl
theorem RdS.n {σ : PSt} {p : PV} : RdS σ (.new p) p := rfl
theorem RdS.o {l : SlL} {n : List PV} {i : Nat} {p : PV} (h : GetL l i (.own p)) : RdS ⟨l, n⟩ (.at i) p := by unfold GetL at h; unfold RdS rd; simp only [h]
theorem RdS.f {l : SlL} {n : List PV} {i : Nat} {p : PV} (h : GetL l i (.frz p)) : RdS ⟨l, n⟩ (.at i) p := by unfold GetL at h; unfold RdS rd; simp only [h]
theorem RdS.l {l : SlL} {n : List PV} {k : Nat} {p : PV} (h : GetP n k p) : RdS ⟨l, n⟩ (.lo k) p := h
def RdsS (σ : PSt) (rs : List EVal) (ps : List PV) : Prop := rdAll σ rs = some ps
theorem RdsS.n {σ : PSt} : RdsS σ [] [] := rfl
theorem RdsS.c {σ : PSt} {r : EVal} {rs : List EVal} {p : PV} {ps : List PV} (h : RdS σ r p) (t : RdsS σ rs ps) : RdsS σ (r :: rs) (p :: ps) := by
  unfold RdS at h; unfold RdsS at t ⊢
  rw [rdAll, h, t]
def VlS (rs : List EVal) (ps : List PV) : Prop := dTup.vals rs = some ps
theorem VlS.n : VlS [] [] := rfl
theorem VlS.c {p : PV} {rs : List EVal} {ps : List PV} (t : VlS rs ps) : VlS (.val p :: rs) (p :: ps) := by unfold VlS at t ⊢; rw [dTup.vals, t]; rfl
def FzS (r : EVal) (σ : PSt) (p : PV) (σ' : PSt) : Prop := fz r σ = .ok p σ'
theorem FzS.v {σ : PSt} {p : PV} : FzS (.val p) σ p σ := rfl
theorem FzS.n {σ : PSt} {p : PV} : FzS (.new p) σ p σ := rfl
theorem FzS.o {l l' : SlL} {n : List PV} {i : Nat} {p : PV} (h : GetL l i (.own p)) (s : SetL l i (.frz p) l') : FzS (.at i) ⟨l, n⟩ p ⟨l', n⟩ := by
  unfold GetL at h; unfold SetL at s; unfold FzS fz
  simp only [h, s]
theorem FzS.f {l : SlL} {n : List PV} {i : Nat} {p : PV} (h : GetL l i (.frz p)) : FzS (.at i) ⟨l, n⟩ p ⟨l, n⟩ := by
  unfold GetL at h; unfold FzS fz
  simp only [h]
def WrS (r : EVal) (q : PV) (σ σ' : PSt) : Prop := wr r q σ = some σ'
theorem WrS.n {σ : PSt} {p q : PV} : WrS (.new p) q σ σ := rfl
theorem WrS.o {l l' : SlL} {n : List PV} {i : Nat} {p q : PV} (h : GetL l i (.own p)) (s : SetL l i (.own q) l') : WrS (.at i) q ⟨l, n⟩ ⟨l', n⟩ := by
  unfold GetL at h; unfold SetL at s; unfold WrS wr
  simp only [h, s]
theorem WrS.l {l : SlL} {n n' : List PV} {k : Nat} {q : PV} (s : SetP n k q n') : WrS (.lo k) q ⟨l, n⟩ ⟨l, n'⟩ := by
  obtain ⟨h1, h2⟩ := s
  unfold WrS wr
  simp only [h1, if_true, h2]
def StS (i : Nat) (r : EVal) (σ σ' : PSt) : Prop := st i r σ = .ok () σ'
theorem StS.v {l l' : SlL} {n : List PV} {i : Nat} {p : PV} (h : SetL l i (.frz p) l') : StS i (.val p) ⟨l, n⟩ ⟨l', n⟩ := by unfold SetL at h; unfold StS st; simp only [h]
theorem StS.n {l l' : SlL} {n : List PV} {i : Nat} {p : PV} (h : SetL l i (.own p) l') : StS i (.new p) ⟨l, n⟩ ⟨l', n⟩ := by unfold SetL at h; unfold StS st; simp only [h]
theorem StS.l {l l' : SlL} {n : List PV} {i k : Nat} (h : SetL l i (.lo k) l') : StS i (.lo k) ⟨l, n⟩ ⟨l', n⟩ := by unfold SetL at h; unfold StS st; simp only [h]
theorem StS.a {l l' : SlL} {n n1 : List PV} {l1 : SlL} {i j : Nat} {p : PV} (f : FzS (.at j) ⟨l, n⟩ p ⟨l1, n1⟩) (h : SetL l1 i (.frz p) l') : StS i (.at j) ⟨l, n⟩ ⟨l', n1⟩ := by
  unfold SetL at h; unfold FzS at f; unfold StS
  show (fz (.at j) ⟨l, n⟩).bind (fun p σ1 => Rs.ok () ⟨σ1.sl.set i (some (.frz p)), σ1.ln⟩) = _
  rw [f]; simp only [Rs.bind, h]
inductive StAll : List Nat → List EVal → PSt → PSt → Prop
  | n {σ} : StAll [] [] σ σ
  | c {i is r rs σ σ1 σ2} : (∀ j, r ≠ .at j) → StS i r σ σ1 → StAll is rs σ1 σ2 → StAll (i :: is) (r :: rs) σ σ2
theorem StAll.ok {is : List Nat} {rs : List EVal} {σ σ' : PSt} (h : StAll is rs σ σ') : stAll is rs σ = .ok () σ' := by
  induction h with
  | n => rfl
  | c na h _ ih =>
    rename_i i is r rs σ σ1 σ2 _
    rw [stAll]
    have : stN i r σ = st i r σ := by
      cases r with
      | «at» j => exact absurd rfl (na j)
      | _ => rfl
    rw [this, show st i r σ = _ from h]
    exact ih
theorem StAll.v {i : Nat} {is : List Nat} {p : PV} {rs : List EVal} {l l1 : SlL} {n : List PV} {σ2 : PSt} (h : SetL l i (.frz p) l1) (t : StAll is rs ⟨l1, n⟩ σ2) : StAll (i :: is) (.val p :: rs) ⟨l, n⟩ σ2 := .c (fun j e => by cases e) (.v h) t
theorem StAll.w {i : Nat} {is : List Nat} {p : PV} {rs : List EVal} {l l1 : SlL} {n : List PV} {σ2 : PSt} (h : SetL l i (.own p) l1) (t : StAll is rs ⟨l1, n⟩ σ2) : StAll (i :: is) (.new p :: rs) ⟨l, n⟩ σ2 := .c (fun j e => by cases e) (.n h) t
theorem StAll.l {i k : Nat} {is : List Nat} {rs : List EVal} {l l1 : SlL} {n : List PV} {σ2 : PSt} (h : SetL l i (.lo k) l1) (t : StAll is rs ⟨l1, n⟩ σ2) : StAll (i :: is) (.lo k :: rs) ⟨l, n⟩ σ2 := .c (fun j e => by cases e) (.l h) t
/-- what an operation gives -/
def EqF {α : Type} (a b : Option α) : Prop := a = b
theorem EqF.mk {α : Type} {a b : Option α} (h : a = b) : EqF a b := h

/-! ### branches -/
def Br (b : Bool) (A B : Prop) : Prop := (b = true → A) ∧ (b = false → B)
theorem Br.t {A B : Prop} (h : A) : Br true A B := ⟨fun _ => h, fun e => by cases e⟩
theorem Br.f {A B : Prop} (h : B) : Br false A B := ⟨fun e => (nomatch e), fun _ => h⟩
theorem Br.dec {p : Prop} [Decidable p] {A B : Prop} (h : p → A) (h' : ¬ p → B) : Br (decide p) A B := ⟨fun e => h (of_decide_eq_true e), fun e => h' (of_decide_eq_false e)⟩
theorem Br.n {p : Prop} [Decidable p] {A B : Prop} (h : ¬ p → A) (h' : p → B) : Br (!decide p) A B := by
  by_cases q : p
  · rw [decide_eq_true q]; exact .f (h' q)
  · rw [decide_eq_false q]; exact .t (h q)
theorem Br.i {b : Bool} {A B : Prop} (h : b = true → A) (h' : b = false → B) : Br b A B := ⟨h, h'⟩
theorem Br.nn {b : Bool} {A B : Prop} (h : Br b B A) : Br (!b) A B := by
  cases b with
  | true => exact ⟨fun e => (nomatch e), fun _ => h.1 rfl⟩
  | false => exact ⟨fun _ => h.2 rfl, fun e => (nomatch e)⟩
/-! ### expressions -/
section
variable {Q : EVal → PSt → Prop} {R : XP} {σ : PSt} {da db dc d : DE} {ds dk : DA}
theorem w_C {v : PV} (h : Q (.val v) σ) : WP (dC v σ) Q R := by
  with_unfolding_all exact h
theorem w_var {l : SlL} {n : List PV} {i : Nat} {s : Sl} {r : EVal} (h : GetL l i s) (e : SlVal i s r) (q : Q r ⟨l, n⟩) : WP (dVar i ⟨l, n⟩) Q R := by
  with_unfolding_all
    unfold GetL at h
    unfold dVar
    simp only [h]
    rw [e.eq]; exact q
theorem w_fz (h : WP (d σ) (fun r σ1 => ∃ p σ2, FzS r σ1 p σ2 ∧ Q (.val p) σ2) R) : WP (dFz d σ) Q R := by
  with_unfolding_all exact WP.bind (h.mono fun r σ1 ⟨p, σ2, e, q⟩ => by rw [show fz r σ1 = _ from e]; exact q)
theorem w_op1 {f : PV → Option Ot} (h : WP (da σ) (fun ra σ1 => ∃ a o, RdS σ1 ra a ∧ EqF (f a) (some o) ∧ Q o.ev σ1) R) : WP (dOp1 f da σ) Q R := by
  with_unfolding_all exact WP.bind (h.mono fun ra σ1 ⟨a, o, e1, e2, q⟩ => by rw [show rd σ1 ra = _ from e1]; show WP (otR (f a) σ1) Q R; rw [show f a = _ from e2]; exact q)
theorem w_op2 {f : PV → PV → Option Ot} (h : WP (da σ) (fun ra σ1 => WP (db σ1) (fun rb σ2 => ∃ a b o, RdS σ2 ra a ∧ RdS σ2 rb b ∧ EqF (f a b) (some o) ∧ Q o.ev σ2) R) R) : WP (dOp2 f da db σ) Q R := by
  with_unfolding_all exact WP.bind (h.mono fun ra σ1 h => WP.bind (h.mono fun rb σ2 ⟨a, b, o, e1, e2, e3, q⟩ => by
      rw [show rd σ2 ra = _ from e1, show rd σ2 rb = _ from e2]; show WP (otR (f a b) σ2) Q R; rw [show f a b = _ from e3]; exact q))
theorem w_nil {Q : List EVal → PSt → Prop} (h : Q [] σ) : WP (dNil σ) Q R := by
  with_unfolding_all exact h
theorem w_cons {Q : List EVal → PSt → Prop} (h : WP (d σ) (fun r σ1 => WP (ds σ1) (fun rs σ2 => Q (r :: rs) σ2) R) R) : WP (dCons d ds σ) Q R := by
  with_unfolding_all exact WP.bind (h.mono fun r σ1 h => WP.bind (h.mono fun rs σ2 h => h))
theorem w_cb {f : List PV → Option Ot} (h : WP (ds σ) (fun rs σ1 => ∃ ps o, RdsS σ1 rs ps ∧ EqF (f ps) (some o) ∧ Q o.ev σ1) R) : WP (dCB f ds σ) Q R := by
  with_unfolding_all exact WP.bind (h.mono fun rs σ1 ⟨ps, o, e1, e2, q⟩ => by rw [show rdAll σ1 rs = _ from e1]; show WP (otR (f ps) σ1) Q R; rw [show f ps = _ from e2]; exact q)
theorem w_tup (h : WP (ds σ) (fun rs σ1 => ∃ ps, VlS rs ps ∧ EqF (some (decide (ps.length ≤ szL))) (some true) ∧ Q (.val (.tup ps)) σ1) R) : WP (dTup ds σ) Q R := by
  with_unfolding_all exact WP.bind (h.mono fun rs σ1 ⟨ps, e1, e2, q⟩ => by
      rw [show dTup.vals rs = _ from e1]
      have e2 : ps.length ≤ szL := of_decide_eq_true (Option.some.inj e2)
      show WP (if ps.length ≤ szL then Rs.ok (EVal.val (.tup ps)) σ1 else .no) Q R
      rw [if_pos e2]; exact q)
theorem w_lst (h : WP (ds σ) (fun rs σ1 => ∃ ps, VlS rs ps ∧ EqF (some (decide (ps.length ≤ szL))) (some true) ∧ Q (.new (.lst ps)) σ1) R) : WP (dLst ds σ) Q R := by
  with_unfolding_all exact WP.bind (h.mono fun rs σ1 ⟨ps, e1, e2, q⟩ => by
      rw [show dTup.vals rs = _ from e1]
      have e2 : ps.length ≤ szL := of_decide_eq_true (Option.some.inj e2)
      show WP (if ps.length ≤ szL then Rs.ok (EVal.new (.lst ps)) σ1 else .no) Q R
      rw [if_pos e2]; exact q)
theorem w_dnew (h : Q (.new (.dct [] [])) σ) : WP (dDNew σ) Q R := by
  with_unfolding_all exact h
theorem w_no {Q : Option Int → PSt → Prop} (h : Q none σ) : WP (dNo σ) Q R := by
  with_unfolding_all exact h
theorem w_so {Q : Option Int → PSt → Prop} (h : WP (d σ) (fun r σ1 => ∃ i, RdS σ1 r (.int i) ∧ Q (some i) σ1) R) : WP (dSo d σ) Q R := by
  with_unfolding_all exact WP.bind (h.mono fun r σ1 ⟨i, e, q⟩ => by rw [show rd σ1 r = _ from e]; exact q)
theorem w_sl {lo hi : DO} (h : WP (d σ) (fun r σ1 => WP (lo σ1) (fun l σ2 => WP (hi σ2) (fun u σ3 => ∃ p o, RdS σ3 r p ∧ EqF (pvSl l u p) (some o) ∧ Q o.ev σ3) R) R) R) : WP (dSl d lo hi σ) Q R := by
  with_unfolding_all exact WP.bind (h.mono fun r σ1 h => WP.bind (h.mono fun l σ2 h => WP.bind (h.mono fun u σ3 ⟨p, o, e1, e2, q⟩ => by rw [show rd σ3 r = _ from e1]; show WP (otR (pvSl l u p) σ3) Q R; rw [show pvSl l u p = _ from e2]; exact q)))
theorem Br.ite {α : Type} {b : Bool} {x y : Rs α} {Q : α → PSt → Prop} (h : Br b (WP x Q R) (WP y Q R)) : WP (if b = true then x else y) Q R := by
  with_unfolding_all
    cases b with
    | true => exact h.1 rfl
    | false => exact h.2 rfl
theorem w_B {Q : Bool → PSt → Prop} (h : WP (d σ) (fun r σ1 => ∃ b, RdS σ1 r (.bl b) ∧ Q b σ1) R) : WP (dB d σ) Q R := by
  with_unfolding_all exact WP.bind (h.mono fun r σ1 ⟨b, e, q⟩ => by rw [show rd σ1 r = _ from e]; exact q)
theorem w_not {dt : DT} {Q : Bool → PSt → Prop} (h : WP (dt σ) (fun b σ1 => Q (!b) σ1) R) : WP (dNot dt σ) Q R := by
  with_unfolding_all exact WP.bind (h.mono fun b σ1 q => q)
theorem w_and {dt du : DT} {Q : Bool → PSt → Prop} (h : WP (dt σ) (fun b σ1 => Br b (WP (du σ1) Q R) (Q false σ1)) R) : WP (dAnd dt du σ) Q R := by
  with_unfolding_all exact WP.bind (h.mono fun b σ1 q => Br.ite q)
theorem w_or {dt du : DT} {Q : Bool → PSt → Prop} (h : WP (dt σ) (fun b σ1 => Br b (Q true σ1) (WP (du σ1) Q R)) R) : WP (dOr dt du σ) Q R := by
  with_unfolding_all exact WP.bind (h.mono fun b σ1 q => Br.ite q)
theorem w_tv {dt : DT} (h : WP (dt σ) (fun b σ1 => Q (.val (.bl b)) σ1) R) : WP (dTV dt σ) Q R := by
  with_unfolding_all exact WP.bind (h.mono fun b σ1 q => q)
theorem w_if {dt : DT} (h : WP (dt σ) (fun b σ1 => Br b (WP (da σ1) Q R) (WP (db σ1) Q R)) R) : WP (dIf dt da db σ) Q R := by
  with_unfolding_all exact WP.bind (h.mono fun b σ1 q => Br.ite q)
theorem w_andV (h : WP (da σ) (fun r σ1 => ∃ b, RdS σ1 r (.bl b) ∧ Br b (WP (db σ1) Q R) (Q (.val (.bl false)) σ1)) R) : WP (dAndV da db σ) Q R := by
  with_unfolding_all exact WP.bind (w_B (h.mono fun r σ1 ⟨b, e, q⟩ => ⟨b, e, Br.ite q⟩))
theorem w_orV (h : WP (da σ) (fun r σ1 => ∃ b, RdS σ1 r (.bl b) ∧ Br b (Q (.val (.bl true)) σ1) (WP (db σ1) Q R)) R) : WP (dOrV da db σ) Q R := by
  with_unfolding_all exact WP.bind (w_B (h.mono fun r σ1 ⟨b, e, q⟩ => ⟨b, e, Br.ite q⟩))
theorem w_notV (h : WP (da σ) (fun r σ1 => ∃ b, RdS σ1 r (.bl b) ∧ Q (.val (.bl !b)) σ1) R) : WP (dNotV da σ) Q R := by
  with_unfolding_all exact WP.bind (w_B (h.mono fun r σ1 ⟨b, e, q⟩ => ⟨b, e, q⟩))
theorem w_ch {f f' : PV → PV → Option Ot} (h : WP (da σ) (fun ra σ1 => WP (db σ1) (fun rb σ2 => ∃ a b t, RdS σ2 ra a ∧ RdS σ2 rb b ∧ EqF (f a b) (some (.v (.bl t))) ∧
    Br t (WP (dc σ2) (fun rc σ3 => ∃ b' c o, RdS σ3 rb b' ∧ RdS σ3 rc c ∧ EqF (f' b' c) (some o) ∧ Q o.ev σ3) R) (Q (.val (.bl false)) σ2)) R) R) : WP (dCh f f' da db dc σ) Q R := by
  with_unfolding_all exact WP.bind (h.mono fun ra σ1 h => WP.bind (h.mono fun rb σ2 ⟨a, b, t, e1, e2, e3, q⟩ => by
      rw [show rd σ2 ra = _ from e1, show rd σ2 rb = _ from e2]
      simp only
      rw [show f a b = _ from e3]
      cases t with
      | true => exact WP.bind ((q.1 rfl).mono fun rc σ3 ⟨b', c, o, e4, e5, e6, q⟩ => by
          rw [show rd σ3 rb = _ from e4, show rd σ3 rc = _ from e5]; show WP (otR (f' b' c) σ3) Q R; rw [show f' b' c = _ from e6]; exact q)
      | false => exact q.2 rfl))
/-! ### methods, calls -/
theorem w_mut {f : Mf} (h : WP (d σ) (fun r σ1 => ∃ xs0, RdS σ1 r (.lst xs0) ∧ WP (ds σ1) (fun rs σ2 => ∃ p ps o q σ3, RdS σ2 r p ∧ VlS rs ps ∧ EqF (f p ps) (some (o, q)) ∧ WrS r q σ2 σ3 ∧ Q o.ev σ3) R) R) : WP (dMutL f d ds σ) Q R := by
  with_unfolding_all exact WP.bind (h.mono fun r σ1 ⟨xs0, e0, h⟩ => by
      rw [show rd σ1 r = _ from e0]
      simp only [isLst, if_true]
      exact WP.bind (h.mono fun rs σ2 ⟨p, ps, o, q, σ3, e1, e2, e3, e4, hq⟩ => by
        rw [show rd σ2 r = _ from e1, show dTup.vals rs = _ from e2]
        simp only
        rw [show f p ps = _ from e3]
        simp only
        rw [show wr r q σ2 = _ from e4]
        exact hq))
def CallA (n np : Nat) (body : DS) (dps : List PV) (rs : List EVal) (σ : PSt) (Q : EVal → PSt → Prop) (R : XP) : Prop := (rs ++ dps.map EVal.val).length = np ∧ WP (callD n body (rs ++ dps.map .val) σ) Q R
theorem CallA.mk {n np : Nat} {body : DS} {rs : List EVal} (hl : rs.length = np) (h : WP (callD n body rs σ) Q R) : CallA n np body [] rs σ Q R := by
  with_unfolding_all
    unfold CallA
    simp only [List.map_nil, List.append_nil]
    exact ⟨hl, h⟩
theorem w_call {n np : Nat} {body : DS} {dps : List PV} (h : WP (ds σ) (fun rs σ1 => CallA n np body dps rs σ1 Q R) R) : WP (dCall n np body ds dps σ) Q R := by
  with_unfolding_all exact WP.bind (h.mono fun rs σ1 ⟨hl, q⟩ => by
    show WP (if _ then _ else Rs.no) Q R
    rw [if_pos hl]; exact q)
def CallKA (n np : Nat) (is : List Nat) (body : DS) (rs zs : List EVal) (σ : PSt) (Q : EVal → PSt → Prop) (R : XP) : Prop := ∃ ps qs as, VlS rs ps ∧ VlS zs qs ∧ EqF (some (pick is (ps ++ qs))) (some as) ∧ as.length = np ∧ (∀ i ∈ is, i < (ps ++ qs).length) ∧ WP (callD n body (as.map .val) σ) Q R
theorem w_callK {n np : Nat} {is : List Nat} {body : DS} (h : WP (ds σ) (fun rs σ1 => WP (dk σ1) (fun zs σ2 => CallKA n np is body rs zs σ2 Q R) R) R) : WP (dCallK n np is body ds dk σ) Q R := by
  with_unfolding_all exact WP.bind (h.mono fun rs σ1 h => WP.bind (h.mono fun zs σ2 ⟨ps, qs, as, e1, e2, e3, hl, hi, q⟩ => by
      rw [show dTup.vals rs = _ from e1, show dTup.vals zs = _ from e2]
      have e3 : pick is (ps ++ qs) = as := Option.some.inj e3
      show WP (if _ then _ else Rs.no) Q R
      rw [if_pos ⟨by rw [e3]; exact hl, hi⟩, e3]; exact q))
/-- at a def's end -/
def KRet (w : List Pl) (σ : PSt) (Q : EVal → PSt → Prop) : Fl → PSt → Prop := fun f σ2 => match f with
  | .nx => Q (.val .non) (wbk w σ2.ln σ)
  | .rt r => ∃ r', outV r σ2 = some r' ∧ Q r' (wbk w σ2.ln σ)
  | _ => False
theorem w_callD {n : Nat} {body : DS} {rs : List EVal} {s s' : SlL} {w : List Pl} {ln : List PV} (h1 : EqF (bindA rs 0) (some (s, w))) (h2 : EqF (conA σ w) (some ln)) (nd : w.Nodup) (h3 : EqF (some (s ++ List.replicate (n - s.length) none)) (some s')) (h : WP (body ⟨s', ln⟩) (KRet w σ Q) (fun e σ2 => R e (wbk w σ2.ln σ))) : WP (callD n body rs σ) Q R := by
  with_unfolding_all
    unfold callD
    rw [show bindA rs 0 = _ from h1]
    simp only
    rw [if_pos nd, show conA σ w = _ from h2]
    simp only
    have h3 : s ++ List.replicate (n - s.length) none = s' := Option.some.inj h3
    rw [h3]
    cases q : body ⟨s', ln⟩ with
    | no => rw [q] at h; exact h
    | ex e σ2 => rw [q] at h; exact h
    | ok f σ2 =>
      rw [q] at h
      cases f with
      | nx => exact h
      | bk => exact h.elim
      | ct => exact h.elim
      | rt r =>
        have h : KRet w σ Q (.rt r) σ2 := h
        obtain ⟨r', e, hq⟩ := h; simp only; rw [e]; exact hq
/-- all arguments stand still -/
theorem w_callV {n : Nat} {body : DS} {rs : List EVal} {ps : List PV} {s' : SlL} (h1 : VlS rs ps) (h3 : EqF (some ((ps.map fun p => some (Sl.frz p)) ++ List.replicate (n - ps.length) none)) (some s')) (h : WP (body ⟨s', []⟩) (KRet [] σ Q) (fun e _ => R e σ)) : WP (callD n body rs σ) Q R := by
  with_unfolding_all
    have hb : ∀ {rs : List EVal} {ps : List PV}, VlS rs ps → bindA rs 0 = some (ps.map fun p => some (Sl.frz p), []) := by
      intro rs
      induction rs with
      | nil => intro ps h; unfold VlS at h; cases h; rfl
      | cons r rs ih =>
        intro ps h
        unfold VlS at h
        cases r with
        | val p =>
          rw [dTup.vals] at h
          obtain ⟨qs, e, rfl⟩ := Option.map_eq_some_iff.mp h
          rw [bindA, ih e]
          rfl
        | _ => cases h
    have wn : ∀ (ps : List PV), wbk [] ps σ = σ := fun ps => by cases ps <;> rfl
    refine w_callD (s := ps.map fun p => some (Sl.frz p)) (w := []) (ln := []) (s' := s') (hb h1) rfl List.nodup_nil (by simpa using h3) (h.mono (fun _ _ z => z) fun e σ2 z => ?_)
    rw [wn]; exact z
theorem k_nx {w : List Pl} {σ2 : PSt} (h : Q (.val .non) (wbk w σ2.ln σ)) : KRet w σ Q .nx σ2 := h
theorem k_rt {w : List Pl} {r r' : EVal} {σ2 : PSt} (e : EqF (outV r σ2) (some r')) (h : Q r' (wbk w σ2.ln σ)) : KRet w σ Q (.rt r) σ2 := ⟨r', e, h⟩
theorem k_rtv {p : PV} {σ2 : PSt} (h : Q (.val p) σ) : KRet [] σ Q (.rt (.val p)) σ2 := ⟨_, rfl, by cases σ2.ln <;> exact h⟩
theorem k_rtn {p : PV} {σ2 : PSt} (h : Q (.new p) σ) : KRet [] σ Q (.rt (.new p)) σ2 := ⟨_, rfl, by cases σ2.ln <;> exact h⟩
theorem k_rto {p : PV} {l : SlL} {n : List PV} {i : Nat} (g : GetL l i (.own p)) (h : Q (.new p) σ) : KRet [] σ Q (.rt (.at i)) ⟨l, n⟩ := ⟨.new p, by unfold GetL at g; unfold outV; simp only [g], by cases n <;> exact h⟩
theorem k_nxv {σ2 : PSt} (h : Q (.val .non) σ) : KRet [] σ Q .nx σ2 := by show Q _ (wbk [] σ2.ln σ); cases σ2.ln <;> exact h
end
/-! ### statements -/
section
variable {Q : Fl → PSt → Prop} {R : XP} {σ : PSt} {d : DE} {a b : DS} {ds : DA}
def KSeq (b : DS) (Q : Fl → PSt → Prop) (R : XP) : Fl → PSt → Prop := fun f σ1 => match f with
  | .nx => WP (b σ1) Q R
  | f => Q f σ1
theorem w_seq (h : WP (a σ) (KSeq b Q R) R) : WP (dSeq a b σ) Q R := by
  with_unfolding_all exact WP.bind (h.mono fun f σ1 q => by cases f <;> exact q)
theorem k_snx (h : WP (b σ) Q R) : KSeq b Q R .nx σ := by
  with_unfolding_all exact h
theorem k_srt {r : EVal} (h : Q (.rt r) σ) : KSeq b Q R (.rt r) σ := h
theorem k_sbk (h : Q .bk σ) : KSeq b Q R .bk σ := h
theorem k_sct (h : Q .ct σ) : KSeq b Q R .ct σ := h
theorem w_set {i : Nat} (h : WP (d σ) (fun r σ1 => ∃ σ2, StS i r σ1 σ2 ∧ Q .nx σ2) R) : WP (dSet i d σ) Q R := by
  with_unfolding_all exact WP.bind (h.mono fun r σ1 ⟨σ2, e, q⟩ => by rw [show st i r σ1 = _ from e]; exact q)
theorem w_asg {g : DG} (h : WP (d σ) (fun r σ1 => ∃ p σ2, FzS r σ1 p σ2 ∧ WP (g p σ2) (fun _ σ3 => Q .nx σ3) R) R) : WP (dAsg d g σ) Q R := by
  with_unfolding_all exact WP.bind (h.mono fun r σ1 ⟨p, σ2, e, q⟩ => by rw [show fz r σ1 = _ from e]; exact WP.bind (o := g p σ2) q)
theorem w_exp (h : WP (d σ) (fun _ σ1 => Q .nx σ1) R) : WP (dExp d σ) Q R := by
  with_unfolding_all exact WP.bind h
theorem w_ret (h : WP (d σ) (fun r σ1 => Q (.rt r) σ1) R) : WP (dRet d σ) Q R := by
  with_unfolding_all exact WP.bind h
theorem w_pass (h : Q .nx σ) : WP (dPass σ) Q R := by
  with_unfolding_all exact h
theorem w_brk (h : Q .bk σ) : WP (dBrk σ) Q R := by
  with_unfolding_all exact h
theorem w_ct (h : Q .ct σ) : WP (dCt σ) Q R := by
  with_unfolding_all exact h
theorem w_retN (h : Q (.rt (.val .non)) σ) : WP (dRetN σ) Q R := by
  with_unfolding_all exact h
theorem w_ifS {t : DT} (h : WP (t σ) (fun k σ1 => Br k (WP (a σ1) Q R) (WP (b σ1) Q R)) R) : WP (dIfS t a b σ) Q R := by
  with_unfolding_all exact WP.bind (h.mono fun k σ1 q => Br.ite q)
theorem w_par {is : List Nat} (h : WP (ds σ) (fun rs σ1 => ∃ σ2, StAll is rs σ1 σ2 ∧ Q .nx σ2) R) : WP (dPar is ds σ) Q R := by
  with_unfolding_all exact WP.bind (h.mono fun rs σ1 ⟨σ2, e, q⟩ => by rw [e.ok]; exact q)
end
section
variable {Q : Unit → PSt → Prop} {R : XP} {σ : PSt}
theorem w_gN {i : Nat} {p : PV} {l l' : SlL} {n : List PV} (h : SetL l i (.frz p) l') (q : Q () ⟨l', n⟩) : WP (gN i p ⟨l, n⟩) Q R := by
  with_unfolding_all
    unfold SetL at h; unfold gN; simp only [h]; exact q
theorem w_gT {n : Nat} {g : List PV → PSt → Rs Unit} {xs : List PV} (hl : xs.length = n) (h : WP (g xs σ) Q R) : WP (gT n g (.tup xs) σ) Q R := by
  with_unfolding_all
    show WP (if xs.length = n then g xs σ else .no) Q R
    rw [if_pos hl]; exact h
theorem w_gNil (h : Q () σ) : WP (gNil [] σ) Q R := by
  with_unfolding_all exact h
theorem w_gCons {g : DG} {gs : List PV → PSt → Rs Unit} {p : PV} {ps : List PV} (h : WP (g p σ) (fun _ σ1 => WP (gs ps σ1) Q R) R) : WP (gCons g gs (p :: ps) σ) Q R := by
  with_unfolding_all exact WP.bind h
theorem w_gA0 (h : Q () σ) : WP (gAll [] [] σ) Q R := by
  with_unfolding_all exact h
theorem w_gA {i : Nat} {is : List Nat} {p : PV} {ps : List PV} {l l' : SlL} {n : List PV} (h : SetL l i (.frz p) l') (q : WP (gAll is ps ⟨l', n⟩) Q R) : WP (gAll (i :: is) (p :: ps) ⟨l, n⟩) Q R := by
  with_unfolding_all
    unfold SetL at h; rw [gAll]; simp only [h]; exact q
theorem w_gSub {do_ di : DE} {p : PV} (h : WP (do_ σ) (fun ro σ1 => WP (di σ1) (fun ri σ2 => ∃ i o q σ3, ri = .val i ∧ RdS σ2 ro o ∧ EqF (setPV o i p) (some q) ∧ WrS ro q σ2 σ3 ∧ Q () σ3) R) R) : WP (gSubP do_ di p σ) Q R := by
  with_unfolding_all exact WP.bind (h.mono fun ro σ1 h => WP.bind (h.mono fun ri σ2 ⟨i, o, q, σ3, e0, e1, e2, e3, hq⟩ => by
      subst e0
      simp only
      rw [show rd σ2 ro = _ from e1]
      simp only
      rw [show setPV o i p = _ from e2]
      simp only
      rw [show wr ro q σ2 = _ from e3]
      exact hq))
end
/-! ### walks -/
section
variable {Q : Fl → PSt → Prop} {R : XP} {σ : PSt}
theorem w_itA {d : DE} {Q : List PV → PSt → Prop} (h : WP (d σ) (fun r σ1 => ∃ p σ2 xs, FzS r σ1 p σ2 ∧ (p = .lst xs ∨ p = .tup xs ∨ ∃ vs, p = .dct xs vs) ∧ Q xs σ2) R) : WP (dItA d σ) Q R := by
  with_unfolding_all exact WP.bind (h.mono fun r σ1 ⟨p, σ2, xs, e, hp, q⟩ => by
      rw [show fz r σ1 = _ from e]
      rcases hp with rfl | rfl | ⟨vs, rfl⟩ <;> exact q)
theorem w_rng1 {ds : DA} {Q : List PV → PSt → Prop} (h : WP (ds σ) (fun rs σ1 => ∃ j, RdsS σ1 rs [.int j] ∧ rgOk j ∧ Q (rng 0 j.toNat) σ1) R) : WP (dRng1 ds σ) Q R := by
  with_unfolding_all exact WP.bind (h.mono fun rs σ1 ⟨j, e, ok, q⟩ => by
      rw [show rdAll σ1 rs = _ from e]
      show WP (if rgOk j then _ else Rs.no) Q R
      rw [if_pos ok]; exact q)
theorem w_rng2 {ds : DA} {Q : List PV → PSt → Prop} (h : WP (ds σ) (fun rs σ1 => ∃ i j, RdsS σ1 rs [.int i, .int j] ∧ (rgOk i ∧ rgOk j) ∧ Q (rng i (j - i).toNat) σ1) R) : WP (dRng2 ds σ) Q R := by
  with_unfolding_all exact WP.bind (h.mono fun rs σ1 ⟨i, j, e, ok, q⟩ => by
      rw [show rdAll σ1 rs = _ from e]
      show WP (if rgOk i ∧ rgOk j then _ else Rs.no) Q R
      rw [if_pos ok]; exact q)
theorem w_enum {ds : DA} {Q : List PV → PSt → Prop} (h : WP (ds σ) (fun rs σ1 => ∃ xs, VlS rs [.lst xs] ∧ Q (enumL xs) σ1) R) : WP (dEnum ds σ) Q R := by
  with_unfolding_all exact WP.bind (h.mono fun rs σ1 ⟨xs, e, q⟩ => by rw [show dTup.vals rs = _ from e]; exact q)
theorem w_zip {ds : DA} {Q : List PV → PSt → Prop} (h : WP (ds σ) (fun rs σ1 => ∃ xs ys, VlS rs [.lst xs, .lst ys] ∧ Q (zipL xs ys) σ1) R) : WP (dZip ds σ) Q R := by
  with_unfolding_all exact WP.bind (h.mono fun rs σ1 ⟨xs, ys, e, q⟩ => by rw [show dTup.vals rs = _ from e]; exact q)
/-- behind a loop's body -/
def KBody (N : PSt → Prop) (Q : Fl → PSt → Prop) : Fl → PSt → Prop := fun f σ => match f with
  | .nx => N σ
  | .ct => N σ
  | .bk => Q .nx σ
  | .rt r => Q (.rt r) σ
theorem k_bnx {N : PSt → Prop} (h : N σ) : KBody N Q .nx σ := h
theorem k_bct {N : PSt → Prop} (h : N σ) : KBody N Q .ct σ := h
theorem k_bbk {N : PSt → Prop} (h : Q .nx σ) : KBody N Q .bk σ := h
theorem k_brt {N : PSt → Prop} {r : EVal} (h : Q (.rt r) σ) : KBody N Q (.rt r) σ := h
theorem lp_for {g : DG} {b : DS} (I : Nat → PSt → Prop) {xs : List PV} (step : ∀ i x σ, xs[i]? = some x → I i σ → WP (g x σ) (fun _ σ1 => WP (b σ1) (KBody (I (i + 1)) Q) R) R) (fin : ∀ σ, I xs.length σ → Q .nx σ) (h0 : I 0 σ) : WP (lpFor g b xs σ) Q R := by
  with_unfolding_all
    have main : ∀ (n : Nat) (σ : PSt), n ≤ xs.length → I (xs.length - n) σ → WP (lpFor g b (xs.drop (xs.length - n)) σ) Q R := by
      intro n
      induction n with
      | zero => intro σ _ h; rw [Nat.sub_zero, List.drop_length]; exact fin σ (by simpa using h)
      | succ n ih =>
        intro σ hn h
        have hi : xs.length - (n + 1) < xs.length := by omega
        rw [List.drop_eq_getElem_cons hi, lpFor]
        refine WP.bind ((step _ _ σ (List.getElem?_eq_getElem hi) h).mono fun _ σ1 q => WP.bind (q.mono fun f σ2 q => ?_))
        have e : xs.length - (n + 1) + 1 = xs.length - n := by omega
        rw [e] at q ⊢
        cases f with
        | nx => exact ih σ2 (by omega) q
        | ct => exact ih σ2 (by omega) q
        | bk => exact q
        | rt r => exact q
    have := main xs.length σ (Nat.le_refl _) (by simpa using h0)
    simpa using this
theorem w_for {di : DI} {g : DG} {b : DS} (h : WP (di σ) (fun xs σ1 => WP (lpFor g b xs σ1) Q R) R) : WP (dFor di g b σ) Q R := by
  with_unfolding_all exact WP.bind h
/-- a while: a measure that falls -/
theorem lp_wh {t : DT} {b : DS} (I : PSt → Prop) (m : PSt → Nat) (step : ∀ σ, I σ → WP (t σ) (fun k σ1 => Br k (WP (b σ1) (KBody (fun σ2 => I σ2 ∧ m σ2 < m σ) Q) R) (Q .nx σ1)) R) : ∀ (n : Nat) (σ : PSt), I σ → m σ < n → WP (lpWh t b n σ) Q R := by
  with_unfolding_all
    intro n
    induction n with
    | zero => intro σ _ h; omega
    | succ n ih =>
      intro σ h hm
      rw [lpWh]
      refine WP.bind ((step σ h).mono fun k σ1 q => Br.ite ⟨fun e => WP.bind ((q.1 e).mono fun f σ2 q => ?_), fun e => q.2 e⟩)
      cases f with
      | nx => exact ih σ2 q.1 (by have := q.2; omega)
      | ct => exact ih σ2 q.1 (by have := q.2; omega)
      | bk => exact q
      | rt r => exact q
theorem w_wh {t : DT} {b : DS} (h : WP (lpWh t b wN σ) Q R) : WP (dWh t b σ) Q R := by
  with_unfolding_all exact h
/-- a comprehension: J says what is gathered -/
theorem WP.nox {α : Type} {o : Rs α} {Q : α → PSt → Prop} (h : WP o Q noX) : WP (L2.Zz.nox o) Q R := by
  with_unfolding_all
    cases o with
    | ok a s => exact h
    | ex e s => exact h.elim
    | no => exact h
theorem lp_lc {vs : List Nat} {g : DG} {tt : DT} {te : DE} {Q : List PV → PSt → Prop} (J : Nat → List PV → PSt → Prop) {xs : List PV}
    (step : ∀ i x acc σ, xs[i]? = some x → J i acc σ → WP (g x σ) (fun _ σ1 => WP (tt σ1) (fun k σ2 => Br k (WP (te σ2) (fun r σ3 => ∃ p, r = .val p ∧ acc.length < szL ∧ J (i + 1) (acc ++ [p]) ⟨wipeP σ3.sl vs, σ3.ln⟩) noX) (J (i + 1) acc ⟨wipeP σ2.sl vs, σ2.ln⟩)) noX) noX)
    (fin : ∀ acc σ, J xs.length acc σ → Q acc σ) (h0 : J 0 [] σ) : WP (lpLc vs g tt te xs [] σ) Q R := by
  with_unfolding_all
    have main : ∀ (n : Nat) (acc : List PV) (σ : PSt), n ≤ xs.length → J (xs.length - n) acc σ → WP (lpLc vs g tt te (xs.drop (xs.length - n)) acc σ) Q R := by
      intro n
      induction n with
      | zero => intro acc σ _ h; rw [Nat.sub_zero, List.drop_length]; exact fin acc σ (by simpa using h)
      | succ n ih =>
        intro acc σ hn h
        have hi : xs.length - (n + 1) < xs.length := by omega
        have e : xs.length - (n + 1) + 1 = xs.length - n := by omega
        rw [List.drop_eq_getElem_cons hi, lpLc]
        refine WP.bind (WP.nox ((step _ _ acc σ (List.getElem?_eq_getElem hi) h).mono fun _ σ1 q => WP.bind (WP.nox (q.mono fun k σ2 q => ?_)) ) |>.mono (fun _ _ z => z))
        rw [e] at q ⊢
        refine Br.ite ⟨fun ek => WP.bind (WP.nox ((q.1 ek).mono fun r σ3 ⟨p, er, hl, hj⟩ => ?_)), fun ek => ih acc _ (by omega) (q.2 ek)⟩
        subst er
        show WP (if acc.length < szL then _ else Rs.no) Q R
        rw [if_pos hl]
        exact ih _ _ (by omega) hj
    have := main xs.length [] σ (Nat.le_refl _) (by simpa using h0)
    simpa using this
theorem w_lc {vs : List Nat} {di : DI} {g : DG} {tt : DT} {te : DE} {Q : EVal → PSt → Prop} (h : WP (di σ) (fun xs σ1 => WP (lpLc vs g tt te xs [] ⟨wipeP σ1.sl vs, σ1.ln⟩) (fun acc σ2 => Q (.new (.lst acc)) σ2) R) R) : WP (dLc vs di g tt te σ) Q R := by
  with_unfolding_all exact WP.bind (h.mono fun xs σ1 q => WP.bind q)
theorem w_yes {Q : Bool → PSt → Prop} (h : Q true σ) : WP (dYes σ) Q R := by
  with_unfolding_all exact h
end
/-! ### operations on whole numbers, bools -/
theorem mulOk_l {i j : Int} (h : -(2 ^ 64) < i) (h' : i < 2 ^ 64) : mulOk i j := .inl (.inl ⟨h, h'⟩)
theorem mulOk_r {i j : Int} (h : -(2 ^ 64) < j) (h' : j < 2 ^ 64) : mulOk i j := .inl (.inr ⟨h, h'⟩)
theorem f_mul {i j : Int} (h : mulOk i j) : EqF (pvMul (.int i) (.int j)) (some (.v (.int (i * j)))) := by
  unfold EqF pvMul; simp only [if_pos h]
theorem f_fdiv {i j : Int} (h : divOk j) : EqF (pvFdiv (.int i) (.int j)) (some (.v (.int (i.fdiv j)))) := by
  unfold EqF pvFdiv; simp only [if_pos h]
theorem f_mod {i j : Int} (h : j ≠ 0) : EqF (pvMod (.int i) (.int j)) (some (.v (.int (i.fmod j)))) := by
  unfold EqF pvMod; simp only [if_pos h]
theorem f_pow {i j : Int} (h : powOk i j) : EqF (pvPow (.int i) (.int j)) (some (.v (.int (i ^ j.toNat)))) := by
  unfold EqF pvPow; simp only [if_pos h]
theorem divOk_of {j : Int} (h : 0 < j) (h' : j < 2 ^ 64) : divOk j := by
  refine ⟨by omega, ?_⟩
  have : j.natAbs < 2 ^ 64 := by omega
  have h3 : j.natAbs ≠ 0 := by omega
  have := (Nat.log2_lt h3).mpr this
  omega
theorem eqI {i j : Int} : pvEq (.int i) (.int j) = some (decide (i = j)) := by
  have h : SeqAt.shaped (.int i) = true ∧ SeqAt.shaped (.int j) = true := ⟨rfl, rfl⟩
  unfold pvEq
  simp only [toD, if_pos h]
  congr 1
theorem eqB {i j : Bool} : pvEq (.bl i) (.bl j) = some (decide (i = j)) := by
  have h : SeqAt.shaped (.bool i) = true ∧ SeqAt.shaped (.bool j) = true := ⟨rfl, rfl⟩
  unfold pvEq
  simp only [toD, if_pos h]
  cases i <;> cases j <;> rfl
end L2.Zz

/-! Z17: the same rules in steps that a machine can take. -/
namespace L2.Zz
open PySem PySem.Spec PyProof.Rows
variable {LT : LTab} {ce : List (Str × Addr)}
inductive OtE : Ot → EVal → Prop
  | v {p} : OtE (.v p) (.val p)
  | l {xs} : OtE (.l xs) (.new (.lst xs))
  | t {xs} : OtE (.t xs) (.val (.tup xs))
  | d {ks vs} : OtE (.d ks vs) (.new (.dct ks vs))
theorem OtE.eq {o : Ot} {r : EVal} (h : OtE o r) : o.ev = r := by cases h <;> rfl
section
variable {Q : EVal → PSt → Prop} {R : XP} {σ σ2 σ3 : PSt} {da db dc d : DE} {ds dk : DA} {r ra rb rc : EVal} {rs zs : List EVal} {p a b c : PV} {o o' : Ot} {ps qs as : List PV}
def KFz (Q : EVal → PSt → Prop) : EVal → PSt → Prop := fun r σ1 => ∃ p σ2, FzS r σ1 p σ2 ∧ Q (.val p) σ2
theorem k_fz (h : FzS r σ p σ2) (q : Q (.val p) σ2) : KFz Q r σ := ⟨_, _, h, q⟩
theorem v_fz (h : WP (d σ) (KFz Q) R) : WP (dFz d σ) Q R := by
  with_unfolding_all exact w_fz h
def K1 (f : PV → Option Ot) (Q : EVal → PSt → Prop) : EVal → PSt → Prop := fun ra σ1 => ∃ a o, RdS σ1 ra a ∧ EqF (f a) (some o) ∧ Q o.ev σ1
theorem k_1 {f : PV → Option Ot} (h : RdS σ ra a) (e : EqF (f a) (some o)) (oe : OtE o r) (q : Q r σ) : K1 f Q ra σ := ⟨_, _, h, e, by rw [oe.eq]; exact q⟩
theorem v_op1 {f : PV → Option Ot} (h : WP (da σ) (K1 f Q) R) : WP (dOp1 f da σ) Q R := by
  with_unfolding_all exact w_op1 h
def K2 (f : PV → PV → Option Ot) (ra : EVal) (Q : EVal → PSt → Prop) : EVal → PSt → Prop := fun rb σ2 => ∃ a b o, RdS σ2 ra a ∧ RdS σ2 rb b ∧ EqF (f a b) (some o) ∧ Q o.ev σ2
theorem k_2 {f : PV → PV → Option Ot} (h1 : RdS σ ra a) (h2 : RdS σ rb b) (e : EqF (f a b) (some o)) (oe : OtE o r) (q : Q r σ) : K2 f ra Q rb σ := ⟨_, _, _, h1, h2, e, by rw [oe.eq]; exact q⟩
theorem v_op2 {f : PV → PV → Option Ot} (h : WP (da σ) (fun ra σ1 => WP (db σ1) (K2 f ra Q) R) R) : WP (dOp2 f da db σ) Q R := by
  with_unfolding_all exact w_op2 h
def KCb (f : List PV → Option Ot) (Q : EVal → PSt → Prop) : List EVal → PSt → Prop := fun rs σ1 => ∃ ps o, RdsS σ1 rs ps ∧ EqF (f ps) (some o) ∧ Q o.ev σ1
theorem k_cb {f : List PV → Option Ot} (h : RdsS σ rs ps) (e : EqF (f ps) (some o)) (oe : OtE o r) (q : Q r σ) : KCb f Q rs σ := ⟨_, _, h, e, by rw [oe.eq]; exact q⟩
theorem v_cb {f : List PV → Option Ot} (h : WP (ds σ) (KCb f Q) R) : WP (dCB f ds σ) Q R := by
  with_unfolding_all exact w_cb h
def KTp (Q : EVal → PSt → Prop) : List EVal → PSt → Prop := fun rs σ1 => ∃ ps, VlS rs ps ∧ EqF (some (decide (ps.length ≤ szL))) (some true) ∧ Q (.val (.tup ps)) σ1
theorem k_tp (h : VlS rs ps) (e : EqF (some (decide (ps.length ≤ szL))) (some true)) (q : Q (.val (.tup ps)) σ) : KTp Q rs σ := ⟨_, h, e, q⟩
theorem v_tup (h : WP (ds σ) (KTp Q) R) : WP (dTup ds σ) Q R := by
  with_unfolding_all exact w_tup h
def KLs (Q : EVal → PSt → Prop) : List EVal → PSt → Prop := fun rs σ1 => ∃ ps, VlS rs ps ∧ EqF (some (decide (ps.length ≤ szL))) (some true) ∧ Q (.new (.lst ps)) σ1
theorem k_ls (h : VlS rs ps) (e : EqF (some (decide (ps.length ≤ szL))) (some true)) (q : Q (.new (.lst ps)) σ) : KLs Q rs σ := ⟨_, h, e, q⟩
theorem v_lst (h : WP (ds σ) (KLs Q) R) : WP (dLst ds σ) Q R := by
  with_unfolding_all exact w_lst h
def KSo (Q : Option Int → PSt → Prop) : EVal → PSt → Prop := fun r σ1 => ∃ i, RdS σ1 r (.int i) ∧ Q (some i) σ1
theorem k_so {Q : Option Int → PSt → Prop} {i : Int} (h : RdS σ r (.int i)) (q : Q (some i) σ) : KSo Q r σ := ⟨_, h, q⟩
theorem v_so {Q : Option Int → PSt → Prop} (h : WP (d σ) (KSo Q) R) : WP (dSo d σ) Q R := by
  with_unfolding_all exact w_so h
def KSl (r : EVal) (l u : Option Int) (Q : EVal → PSt → Prop) (σ3 : PSt) : Prop := ∃ p o, RdS σ3 r p ∧ EqF (pvSl l u p) (some o) ∧ Q o.ev σ3
theorem k_sl {l u : Option Int} (h : RdS σ r p) (e : EqF (pvSl l u p) (some o)) (oe : OtE o rb) (q : Q rb σ) : KSl r l u Q σ := ⟨_, _, h, e, by rw [oe.eq]; exact q⟩
theorem v_sl {lo hi : DO} (h : WP (d σ) (fun r σ1 => WP (lo σ1) (fun l σ2 => WP (hi σ2) (fun u σ3 => KSl r l u Q σ3) R) R) R) : WP (dSl d lo hi σ) Q R := by
  with_unfolding_all exact w_sl h
def KB (Q : Bool → PSt → Prop) : EVal → PSt → Prop := fun r σ1 => ∃ b, RdS σ1 r (.bl b) ∧ Q b σ1
theorem k_B {Q : Bool → PSt → Prop} {t : Bool} (h : RdS σ r (.bl t)) (q : Q t σ) : KB Q r σ := ⟨_, h, q⟩
theorem v_B {Q : Bool → PSt → Prop} (h : WP (d σ) (KB Q) R) : WP (dB d σ) Q R := by
  with_unfolding_all exact w_B h
theorem v_andV (h : WP (da σ) (KB fun b σ1 => Br b (WP (db σ1) Q R) (Q (.val (.bl false)) σ1)) R) : WP (dAndV da db σ) Q R := by
  with_unfolding_all exact w_andV h
theorem v_orV (h : WP (da σ) (KB fun b σ1 => Br b (Q (.val (.bl true)) σ1) (WP (db σ1) Q R)) R) : WP (dOrV da db σ) Q R := by
  with_unfolding_all exact w_orV h
theorem v_notV (h : WP (da σ) (KB fun b σ1 => Q (.val (.bl !b)) σ1) R) : WP (dNotV da σ) Q R := by
  with_unfolding_all exact w_notV h
def KCh (f f' : PV → PV → Option Ot) (ra : EVal) (dc : DE) (Q : EVal → PSt → Prop) (R : XP) : EVal → PSt → Prop := fun rb σ2 => ∃ a b t, RdS σ2 ra a ∧ RdS σ2 rb b ∧ EqF (f a b) (some (.v (.bl t))) ∧ Br t (WP (dc σ2) (K2 f' rb Q) R) (Q (.val (.bl false)) σ2)
theorem k_ch {f f' : PV → PV → Option Ot} {t : Bool} (h1 : RdS σ ra a) (h2 : RdS σ rb b) (e : EqF (f a b) (some (.v (.bl t)))) (q : Br t (WP (dc σ) (K2 f' rb Q) R) (Q (.val (.bl false)) σ)) : KCh f f' ra dc Q R rb σ := by
  with_unfolding_all exact ⟨_, _, _, h1, h2, e, q⟩
theorem v_ch {f f' : PV → PV → Option Ot} (h : WP (da σ) (fun ra σ1 => WP (db σ1) (KCh f f' ra dc Q R) R) R) : WP (dCh f f' da db dc σ) Q R := by
  with_unfolding_all exact w_ch h
def KMt (f : Mf) (r : EVal) (Q : EVal → PSt → Prop) : List EVal → PSt → Prop := fun rs σ2 => ∃ p ps o q σ3, RdS σ2 r p ∧ VlS rs ps ∧ EqF (f p ps) (some (o, q)) ∧ WrS r q σ2 σ3 ∧ Q o.ev σ3
theorem k_mt {f : Mf} (h : RdS σ r p) (v : VlS rs ps) (e : EqF (f p ps) (some (o, a))) (w : WrS r a σ σ3) (oe : OtE o rb) (q : Q rb σ3) : KMt f r Q rs σ := ⟨_, _, _, _, _, h, v, e, w, by rw [oe.eq]; exact q⟩
def KM0 (f : Mf) (ds : DA) (Q : EVal → PSt → Prop) (R : XP) : EVal → PSt → Prop := fun r σ1 => ∃ xs0, RdS σ1 r (.lst xs0) ∧ WP (ds σ1) (KMt f r Q) R
theorem k_m0 {f : Mf} {xs : List PV} (h : RdS σ r (.lst xs)) (q : WP (ds σ) (KMt f r Q) R) : KM0 f ds Q R r σ := by
  with_unfolding_all exact ⟨_, h, q⟩
theorem v_mut {f : Mf} (h : WP (d σ) (KM0 f ds Q R) R) : WP (dMutL f d ds σ) Q R := by
  with_unfolding_all exact w_mut h
theorem CallKA.mk {n np : Nat} {is : List Nat} {body : DS} (v : VlS rs ps) (w : VlS zs qs) (e : EqF (some (pick is (ps ++ qs))) (some as)) (h1 : EqF (some (decide (as.length = np ∧ ∀ i ∈ is, i < (ps ++ qs).length))) (some true)) (q : WP (callD n body (as.map .val) σ) Q R) : CallKA n np is body rs zs σ Q R := by
  with_unfolding_all
    have h : as.length = np ∧ ∀ i ∈ is, i < (ps ++ qs).length := of_decide_eq_true (Option.some.inj h1)
    exact ⟨_, _, _, v, w, e, h.1, h.2, q⟩
theorem EqF.dec {p : Prop} [Decidable p] (h : p) : EqF (some (decide p)) (some true) := by unfold EqF; rw [decide_eq_true h]
end
section
variable {Q : Fl → PSt → Prop} {R : XP} {σ σ2 : PSt} {d : DE} {a b : DS} {ds : DA} {r : EVal} {rs : List EVal} {p : PV}
def KSt (i : Nat) (Q : Fl → PSt → Prop) : EVal → PSt → Prop := fun r σ1 => ∃ σ2, StS i r σ1 σ2 ∧ Q .nx σ2
theorem k_st {i : Nat} (h : StS i r σ σ2) (q : Q .nx σ2) : KSt i Q r σ := ⟨_, h, q⟩
theorem v_set {i : Nat} (h : WP (d σ) (KSt i Q) R) : WP (dSet i d σ) Q R := by
  with_unfolding_all exact w_set h
def KAs (g : DG) (Q : Fl → PSt → Prop) (R : XP) : EVal → PSt → Prop := fun r σ1 => ∃ p σ2, FzS r σ1 p σ2 ∧ WP (g p σ2) (fun _ σ3 => Q .nx σ3) R
theorem k_as {g : DG} (h : FzS r σ p σ2) (q : WP (g p σ2) (fun _ σ3 => Q .nx σ3) R) : KAs g Q R r σ := by
  with_unfolding_all exact ⟨_, _, h, q⟩
theorem v_asg {g : DG} (h : WP (d σ) (KAs g Q R) R) : WP (dAsg d g σ) Q R := by
  with_unfolding_all exact w_asg h
def KPa (is : List Nat) (Q : Fl → PSt → Prop) : List EVal → PSt → Prop := fun rs σ1 => ∃ σ2, StAll is rs σ1 σ2 ∧ Q .nx σ2
theorem k_pa {is : List Nat} (h : StAll is rs σ σ2) (q : Q .nx σ2) : KPa is Q rs σ := ⟨_, h, q⟩
theorem v_par {is : List Nat} (h : WP (ds σ) (KPa is Q) R) : WP (dPar is ds σ) Q R := by
  with_unfolding_all exact w_par h
end
section
variable {Q : Unit → PSt → Prop} {R : XP} {σ σ3 : PSt} {ro : EVal} {i o p q : PV}
def KSu (ro : EVal) (p : PV) (Q : Unit → PSt → Prop) : EVal → PSt → Prop := fun ri σ2 => ∃ i o q σ3, ri = .val i ∧ RdS σ2 ro o ∧ EqF (setPV o i p) (some q) ∧ WrS ro q σ2 σ3 ∧ Q () σ3
theorem k_su (h : RdS σ ro o) (e : EqF (setPV o i p) (some q)) (w : WrS ro q σ σ3) (hq : Q () σ3) : KSu ro p Q (.val i) σ := ⟨_, _, _, _, rfl, h, e, w, hq⟩
theorem v_gSub {do_ di : DE} (h : WP (do_ σ) (fun ro σ1 => WP (di σ1) (KSu ro p Q) R) R) : WP (gSubP do_ di p σ) Q R := by
  with_unfolding_all exact w_gSub h
end
section
variable {Q : List PV → PSt → Prop} {R : XP} {σ σ2 : PSt} {r : EVal} {rs : List EVal} {xs ys vs : List PV} {d : DE} {ds : DA}
def KIt (Q : List PV → PSt → Prop) : EVal → PSt → Prop := fun r σ1 => ∃ p σ2 xs, FzS r σ1 p σ2 ∧ (p = .lst xs ∨ p = .tup xs ∨ ∃ vs, p = .dct xs vs) ∧ Q xs σ2
theorem k_itl (h : FzS r σ (.lst xs) σ2) (q : Q xs σ2) : KIt Q r σ := ⟨_, _, _, h, .inl rfl, q⟩
theorem k_itt (h : FzS r σ (.tup xs) σ2) (q : Q xs σ2) : KIt Q r σ := ⟨_, _, _, h, .inr (.inl rfl), q⟩
theorem k_itd (h : FzS r σ (.dct xs vs) σ2) (q : Q xs σ2) : KIt Q r σ := ⟨_, _, _, h, .inr (.inr ⟨_, rfl⟩), q⟩
theorem v_it (h : WP (d σ) (KIt Q) R) : WP (dItA d σ) Q R := by
  with_unfolding_all exact w_itA h
def KR1 (Q : List PV → PSt → Prop) : List EVal → PSt → Prop := fun rs σ1 => ∃ j, RdsS σ1 rs [.int j] ∧ rgOk j ∧ Q (rng 0 j.toNat) σ1
theorem k_r1 {j : Int} (h : RdsS σ rs [.int j]) (ok : EqF (some (decide (rgOk j))) (some true)) (q : Q (rng 0 j.toNat) σ) : KR1 Q rs σ := ⟨_, h, of_decide_eq_true (Option.some.inj ok), q⟩
theorem v_rng1 (h : WP (ds σ) (KR1 Q) R) : WP (dRng1 ds σ) Q R := by
  with_unfolding_all exact w_rng1 h
def KR2 (Q : List PV → PSt → Prop) : List EVal → PSt → Prop := fun rs σ1 => ∃ i j, RdsS σ1 rs [.int i, .int j] ∧ (rgOk i ∧ rgOk j) ∧ Q (rng i (j - i).toNat) σ1
theorem k_r2 {i j : Int} (h : RdsS σ rs [.int i, .int j]) (ok : EqF (some (decide (rgOk i ∧ rgOk j))) (some true)) (q : Q (rng i (j - i).toNat) σ) : KR2 Q rs σ := ⟨_, _, h, of_decide_eq_true (Option.some.inj ok), q⟩
theorem v_rng2 (h : WP (ds σ) (KR2 Q) R) : WP (dRng2 ds σ) Q R := by
  with_unfolding_all exact w_rng2 h
def KEn (Q : List PV → PSt → Prop) : List EVal → PSt → Prop := fun rs σ1 => ∃ xs, VlS rs [.lst xs] ∧ Q (enumL xs) σ1
theorem k_en (h : VlS rs [.lst xs]) (q : Q (enumL xs) σ) : KEn Q rs σ := ⟨_, h, q⟩
theorem v_enum (h : WP (ds σ) (KEn Q) R) : WP (dEnum ds σ) Q R := by
  with_unfolding_all exact w_enum h
def KZp (Q : List PV → PSt → Prop) : List EVal → PSt → Prop := fun rs σ1 => ∃ xs ys, VlS rs [.lst xs, .lst ys] ∧ Q (zipL xs ys) σ1
theorem k_zp (h : VlS rs [.lst xs, .lst ys]) (q : Q (zipL xs ys) σ) : KZp Q rs σ := ⟨_, _, h, q⟩
theorem v_zip (h : WP (ds σ) (KZp Q) R) : WP (dZip ds σ) Q R := by
  with_unfolding_all exact w_zip h
end
/-! values of operations in the common cases -/
theorem f_eqI {i j : Int} : EqF (pvEqO (.int i) (.int j)) (some (.v (.bl (decide (i = j))))) := by unfold EqF pvEqO; rw [eqI]; rfl
theorem f_neI {i j : Int} : EqF (pvNeO (.int i) (.int j)) (some (.v (.bl (!decide (i = j))))) := by unfold EqF pvNeO; rw [eqI]; rfl
theorem f_eqB {i j : Bool} : EqF (pvEqO (.bl i) (.bl j)) (some (.v (.bl (decide (i = j))))) := by unfold EqF pvEqO; rw [eqB]; rfl
theorem f_neB {i j : Bool} : EqF (pvNeO (.bl i) (.bl j)) (some (.v (.bl (!decide (i = j))))) := by unfold EqF pvNeO; rw [eqB]; rfl
theorem eqS {a b c d : Int} : pvEq (.tup [.int a, .int b]) (.tup [.int c, .int d]) = some (decide (a = c ∧ b = d)) := by
  have h : SeqAt.shaped (.tuple [.int a, .int b]) = true ∧ SeqAt.shaped (.tuple [.int c, .int d]) = true := ⟨rfl, rfl⟩
  unfold pvEq
  simp only [toD, toDs, Option.map_some, if_pos h]
  congr 1
  simp only [PyData.eqv, PyData.eqvAll, Bool.and_true, Bool.decide_and]
  rfl
theorem f_eqS {a b c d : Int} : EqF (pvEqO (.tup [.int a, .int b]) (.tup [.int c, .int d])) (some (.v (.bl (decide (a = c ∧ b = d))))) := by unfold EqF pvEqO; rw [eqS]; rfl
theorem f_neS {a b c d : Int} : EqF (pvNeO (.tup [.int a, .int b]) (.tup [.int c, .int d])) (some (.v (.bl (!decide (a = c ∧ b = d))))) := by unfold EqF pvNeO; rw [eqS]; rfl
theorem f_isi {p : PV} {n : String} {t : Bool} (h : isB p n = some t) : EqF (fnIsi [p, .ty n]) (some (.v (.bl t))) := by unfold EqF fnIsi; simp only [h]; rfl
theorem f_all {xs : List PV} {bs : List Bool} (h : asBls xs = some bs) : EqF (fnAll [.lst xs]) (some (.v (.bl (bs.all id)))) := by unfold EqF fnAll; simp only [h]; rfl
end L2.Zz

/-! Z18: entering and leaving a def. -/
namespace L2.Zz
open PySem PySem.Spec PyProof.Rows
variable {LT : LTab} {ce : List (Str × Addr)}
inductive PadL : Nat → SlL → Prop
  | z : PadL 0 []
  | s {n l} : PadL n l → PadL (n + 1) (none :: l)
theorem PadL.eq {n : Nat} {l : SlL} (h : PadL n l) : List.replicate n none = l := by
  induction h with
  | z => rfl
  | s _ ih => rw [List.replicate_succ, ih]
inductive CallI (σ : PSt) : List EVal → Nat → Nat → SlL → List Pl → List PV → Prop
  | z {k n l} : PadL n l → CallI σ [] k n l [] []
  | v {p rs k n l w ln} : CallI σ rs k n l w ln → CallI σ (.val p :: rs) k (n + 1) (some (.frz p) :: l) w ln
  | n {p rs k n l w ln} : CallI σ rs k n l w ln → CallI σ (.new p :: rs) k (n + 1) (some (.own p) :: l) w ln
  | a {i p rs k n l w ln} : GetL σ.sl i (.own p) → CallI σ rs (k + 1) n l w ln → CallI σ (.at i :: rs) k (n + 1) (some (.lo k) :: l) ((true, i) :: w) (p :: ln)
  | l {j p rs k n l w ln} : GetP σ.ln j p → CallI σ rs (k + 1) n l w ln → CallI σ (.lo j :: rs) k (n + 1) (some (.lo k) :: l) ((false, j) :: w) (p :: ln)
theorem CallI.eq {σ : PSt} {rs : List EVal} {k n : Nat} {l : SlL} {w : List Pl} {ln : List PV} (h : CallI σ rs k n l w ln) : ∃ s, bindA rs k = some (s, w) ∧ s.length ≤ n ∧ s ++ List.replicate (n - s.length) none = l ∧ conA σ w = some ln := by
  induction h with
  | z h => exact ⟨[], rfl, Nat.zero_le _, by simpa using h.eq, rfl⟩
  | v _ ih =>
    obtain ⟨s, h1, h2, h3, h4⟩ := ih
    refine ⟨some (.frz _) :: s, by rw [bindA, h1]; rfl, by simp; omega, ?_, h4⟩
    rw [List.length_cons, Nat.add_sub_add_right, List.cons_append, h3]
  | n _ ih =>
    obtain ⟨s, h1, h2, h3, h4⟩ := ih
    refine ⟨some (.own _) :: s, by rw [bindA, h1]; rfl, by simp; omega, ?_, h4⟩
    rw [List.length_cons, Nat.add_sub_add_right, List.cons_append, h3]
  | a g _ ih =>
    obtain ⟨s, h1, h2, h3, h4⟩ := ih
    refine ⟨some (.lo _) :: s, by rw [bindA, h1]; rfl, by simp; omega, ?_, ?_⟩
    · rw [List.length_cons, Nat.add_sub_add_right, List.cons_append, h3]
    · unfold GetL at g
      simp only [conA, con1, g, h4]
  | l g _ ih =>
    obtain ⟨s, h1, h2, h3, h4⟩ := ih
    refine ⟨some (.lo _) :: s, by rw [bindA, h1]; rfl, by simp; omega, ?_, ?_⟩
    · rw [List.length_cons, Nat.add_sub_add_right, List.cons_append, h3]
    · unfold GetP at g
      simp only [conA, con1, g, h4]
def WbS (w : List Pl) (ln : List PV) (σ σ' : PSt) : Prop := wbk w ln σ = σ'
theorem WbS.z {ln : List PV} {σ : PSt} : WbS [] ln σ σ := by cases ln <;> rfl
theorem WbS.a {i : Nat} {w : List Pl} {p : PV} {ps : List PV} {l l' : SlL} {n : List PV} {σ' : PSt} (h : SetL l i (.own p) l') (t : WbS w ps ⟨l', n⟩ σ') : WbS ((true, i) :: w) (p :: ps) ⟨l, n⟩ σ' := by
  unfold SetL at h; unfold WbS at t ⊢; rw [wbk]; simp only [h]; exact t
theorem WbS.l {i : Nat} {w : List Pl} {p : PV} {ps : List PV} {l : SlL} {n n' : List PV} {σ' : PSt} (h : SetP n i p n') (t : WbS w ps ⟨l, n'⟩ σ') : WbS ((false, i) :: w) (p :: ps) ⟨l, n⟩ σ' := by
  obtain ⟨_, h⟩ := h
  unfold WbS at t ⊢; rw [wbk]; simp only [h]; exact t
def OutS (r : EVal) (σ : PSt) (r' : EVal) : Prop := outV r σ = some r'
theorem OutS.v {σ : PSt} {p : PV} : OutS (.val p) σ (.val p) := rfl
theorem OutS.n {σ : PSt} {p : PV} : OutS (.new p) σ (.new p) := rfl
theorem OutS.o {l : SlL} {n : List PV} {i : Nat} {p : PV} (h : GetL l i (.own p)) : OutS (.at i) ⟨l, n⟩ (.new p) := by unfold GetL at h; unfold OutS outV; simp only [h]
theorem OutS.f {l : SlL} {n : List PV} {i : Nat} {p : PV} (h : GetL l i (.frz p)) : OutS (.at i) ⟨l, n⟩ (.val p) := by unfold GetL at h; unfold OutS outV; simp only [h]
section
variable {Q : EVal → PSt → Prop} {R : XP} {σ σ3 : PSt} {w : List Pl}
def NdS (w : List Pl) : Prop := w.Nodup
theorem NdS.mk {w : List Pl} (h : decide w.Nodup = true) : NdS w := (of_decide_eq_true h : w.Nodup)
theorem v_callD {n : Nat} {body : DS} {rs : List EVal} {s' : SlL} {ln : List PV} (h : CallI σ rs 0 n s' w ln) (nd : NdS w) (hb : WP (body ⟨s', ln⟩) (KRet w σ Q) (fun e σ2 => R e (wbk w σ2.ln σ))) : WP (callD n body rs σ) Q R := by
  with_unfolding_all
    obtain ⟨s, h1, h2, h3, h4⟩ := h.eq
    exact w_callD (s := s) (s' := s') h1 h4 nd (congrArg some h3) hb
theorem k_ret {r r' : EVal} {l : SlL} {ln : List PV} (e : OutS r ⟨l, ln⟩ r') (b : WbS w ln σ σ3) (h : Q r' σ3) : KRet w σ Q (.rt r) ⟨l, ln⟩ := ⟨r', e, by rw [show wbk w ln σ = _ from b]; exact h⟩
theorem k_nxt {l : SlL} {ln : List PV} (b : WbS w ln σ σ3) (h : Q (.val .non) σ3) : KRet w σ Q .nx ⟨l, ln⟩ := by show Q _ (wbk w ln σ); rw [show wbk w ln σ = _ from b]; exact h
end
end L2.Zz
namespace L2.Zz
open PySem PySem.Spec PyProof.Rows
theorem gWP {α : Type} {o : Rs α} {Q : α → PSt → Prop} {R : XP} (h : WP o Q R) : WP o Q R := by
  with_unfolding_all exact h
theorem gWE {o : Rs EVal} {Q : EVal → PSt → Prop} {R : XP} (h : WP o Q R) : WP o Q R := by
  with_unfolding_all exact h
theorem gWS {o : Rs Fl} {Q : Fl → PSt → Prop} {R : XP} (h : WP o Q R) : WP o Q R := by
  with_unfolding_all exact h
theorem gWB {o : Rs Bool} {Q : Bool → PSt → Prop} {R : XP} (h : WP o Q R) : WP o Q R := by
  with_unfolding_all exact h
theorem gEF {α : Type} {a b : Option α} (h : EqF a b) : EqF a b := h
theorem gRd {σ : PSt} {r : EVal} {p : PV} (h : RdS σ r p) : RdS σ r p := h
end L2.Zz

/-! Z19: comprehensions and walks over lists that are known. -/
namespace L2.Zz
open PySem PySem.Spec PyProof.Rows
variable {LT : LTab} {ce : List (Str × Addr)}
def DelL (l : SlL) (i : Nat) (l' : SlL) : Prop := l.set i none = l'
theorem DelL.z {l : SlL} {a : Option Sl} : DelL (a :: l) 0 (none :: l) := rfl
theorem DelL.s {l l' : SlL} {a : Option Sl} {i : Nat} (h : DelL l i l') : DelL (a :: l) (i + 1) (a :: l') := by unfold DelL at h ⊢; rw [List.set_cons_succ, h]
def WpL (l : SlL) (vs : List Nat) (l' : SlL) : Prop := wipeP l vs = l'
theorem WpL.z {l : SlL} : WpL l [] l := rfl
theorem WpL.s {l l1 l' : SlL} {v : Nat} {vs : List Nat} (h : WpL l vs l1) (d : DelL l1 v l') : WpL l (v :: vs) l' := by unfold WpL at h ⊢; rw [wipeP, h]; exact d
section
variable {R : XP} {σ σ2 : PSt} {vs : List Nat} {di : DI} {g : DG} {tt : DT} {te : DE} {xs acc : List PV} {x p : PV} {l l' : SlL} {n : List PV}
def KLw (vs : List Nat) (g : DG) (tt : DT) (te : DE) (Q : List PV → PSt → Prop) (R : XP) : List PV → PSt → Prop := fun xs σ1 => WP (lpLc vs g tt te xs [] ⟨wipeP σ1.sl vs, σ1.ln⟩) Q R
theorem k_lw {Q : List PV → PSt → Prop} (w : WpL l vs l') (h : WP (lpLc vs g tt te xs [] ⟨l', n⟩) Q R) : KLw vs g tt te Q R xs ⟨l, n⟩ := by
  with_unfolding_all
    unfold WpL at w; unfold KLw; simp only [w]; exact h
theorem v_lc {Q : EVal → PSt → Prop} (h : WP (di σ) (KLw vs g tt te (fun acc σ2 => Q (.new (.lst acc)) σ2) R) R) : WP (dLc vs di g tt te σ) Q R := by
  with_unfolding_all exact w_lc h
/-- behind an element -/
def KLe (vs : List Nat) (acc : List PV) (N : List PV → PSt → Prop) : EVal → PSt → Prop := fun r σ3 => ∃ p, r = .val p ∧ acc.length < szL ∧ N (acc ++ [p]) ⟨wipeP σ3.sl vs, σ3.ln⟩
theorem k_le {N : List PV → PSt → Prop} {acc' : List PV} (hl : EqF (some (decide (acc.length < szL))) (some true)) (w : WpL l vs l') (e : EqF (some (acc ++ [p])) (some acc')) (h : N acc' ⟨l', n⟩) : KLe vs acc N (.val p) ⟨l, n⟩ := by
  have e : acc ++ [p] = acc' := Option.some.inj e
  unfold WpL at w
  refine ⟨p, rfl, of_decide_eq_true (Option.some.inj hl), ?_⟩
  simp only [w, e]; exact h
def KLn (vs : List Nat) (acc : List PV) (N : List PV → PSt → Prop) (σ2 : PSt) : Prop := N acc ⟨wipeP σ2.sl vs, σ2.ln⟩
theorem k_ln {N : List PV → PSt → Prop} (w : WpL l vs l') (h : N acc ⟨l', n⟩) : KLn vs acc N ⟨l, n⟩ := by unfold WpL at w; unfold KLn; simp only [w]; exact h
theorem w_lcN {Q : List PV → PSt → Prop} (h : Q acc σ) : WP (lpLc vs g tt te [] acc σ) Q R := by
  with_unfolding_all exact h
theorem w_lcC {Q : List PV → PSt → Prop} (h : WP (g x σ) (fun _ σ1 => WP (tt σ1) (fun k σ2 => Br k (WP (te σ2) (KLe vs acc fun a s => WP (lpLc vs g tt te xs a s) Q R) noX) (KLn vs acc (fun a s => WP (lpLc vs g tt te xs a s) Q R) σ2)) noX) noX) : WP (lpLc vs g tt te (x :: xs) acc σ) Q R := by
  with_unfolding_all
    rw [lpLc]
    refine WP.bind (WP.nox (h.mono fun _ σ1 q => WP.bind (WP.nox (q.mono fun k σ2 q => ?_))))
    refine Br.ite ⟨fun ek => WP.bind (WP.nox ((q.1 ek).mono fun r σ3 ⟨p, er, hl, hj⟩ => ?_)), fun ek => q.2 ek⟩
    subst er
    show WP (if acc.length < szL then _ else Rs.no) Q R
    rw [if_pos hl]
    exact hj
theorem v_lcJ {Q : List PV → PSt → Prop} (J : Nat → List PV → PSt → Prop)
    (h0 : J 0 [] σ) (step : ∀ i x acc σ, xs[i]? = some x → J i acc σ → WP (g x σ) (fun _ σ1 => WP (tt σ1) (fun k σ2 => Br k (WP (te σ2) (KLe vs acc (J (i + 1))) noX) (KLn vs acc (J (i + 1)) σ2)) noX) noX)
    (fin : ∀ acc σ, J xs.length acc σ → Q acc σ) : WP (lpLc vs g tt te xs [] σ) Q R := by
  with_unfolding_all exact lp_lc J step fin h0
end
section
variable {Q : Fl → PSt → Prop} {R : XP} {σ : PSt} {g : DG} {b : DS} {xs : List PV} {x : PV}
theorem w_foN (h : Q .nx σ) : WP (lpFor g b [] σ) Q R := by
  with_unfolding_all exact h
theorem w_foC (h : WP (g x σ) (fun _ σ1 => WP (b σ1) (KBody (fun s => WP (lpFor g b xs s) Q R) Q) R) R) : WP (lpFor g b (x :: xs) σ) Q R := by
  with_unfolding_all
    rw [lpFor]
    refine WP.bind (h.mono fun _ σ1 q => WP.bind (q.mono fun f σ2 q => ?_))
    cases f <;> exact q
end
end L2.Zz

/-! Z20: more steps. -/
namespace L2.Zz
open PySem PySem.Spec PyProof.Rows
variable {LT : LTab} {ce : List (Str × Addr)}
inductive SeqS : PV → List PV → Prop
  | l {xs} : SeqS (.lst xs) xs
  | t {xs} : SeqS (.tup xs) xs
  | d {ks vs} : SeqS (.dct ks vs) ks
theorem k_it {Q : List PV → PSt → Prop} {r : EVal} {σ σ2 : PSt} {p : PV} {xs : List PV} (h : FzS r σ p σ2) (s : SeqS p xs) (q : Q xs σ2) : KIt Q r σ := by
  refine ⟨p, σ2, xs, h, ?_, q⟩
  cases s with
  | l => exact .inl rfl
  | t => exact .inr (.inl rfl)
  | d => exact .inr (.inr ⟨_, rfl⟩)
inductive AppL : List PV → List PV → List PV → Prop
  | z {qs} : AppL [] qs qs
  | s {p ps qs l} : AppL ps qs l → AppL (p :: ps) qs (p :: l)
theorem AppL.eq {ps qs l : List PV} (h : AppL ps qs l) : ps ++ qs = l := by
  induction h with
  | z => rfl
  | s _ ih => rw [List.cons_append, ih]
inductive PickL (l : List PV) : List Nat → List PV → Prop
  | z : PickL l [] []
  | s {i p is as} : GetP l i p → PickL l is as → PickL l (i :: is) (p :: as)
theorem PickL.eq {l as : List PV} {is : List Nat} (h : PickL l is as) : pick is l = as ∧ ∀ i ∈ is, i < l.length := by
  induction h with
  | z => exact ⟨rfl, fun i h => by cases h⟩
  | s g _ ih =>
    unfold GetP at g
    refine ⟨?_, fun i h => ?_⟩
    · have := ih.1
      unfold pick at this ⊢
      rw [List.filterMap_cons, g]
      simp only [this]
    · rcases List.mem_cons.mp h with e | h
      · subst e; exact (List.getElem?_eq_some_iff.mp g).1
      · exact ih.2 i h
inductive MapV : List PV → List EVal → Prop
  | z : MapV [] []
  | s {p ps rs} : MapV ps rs → MapV (p :: ps) (.val p :: rs)
theorem MapV.eq {ps : List PV} {rs : List EVal} (h : MapV ps rs) : ps.map EVal.val = rs := by
  induction h with
  | z => rfl
  | s _ ih => rw [List.map_cons, ih]
section
variable {Q : EVal → PSt → Prop} {R : XP} {σ : PSt} {rs zs rs' : List EVal} {ps qs l as : List PV} {n np : Nat} {is : List Nat} {body : DS}
theorem k_ca (hl : EqF (some rs.length) (some np)) (h : WP (callD n body rs σ) Q R) : CallA n np body [] rs σ Q R := by
  with_unfolding_all exact CallA.mk (Option.some.inj hl) h
theorem k_ck (v : VlS rs ps) (w : VlS zs qs) (a : AppL ps qs l) (pk : PickL l is as) (h1 : EqF (some as.length) (some np)) (m : MapV as rs') (q : WP (callD n body rs' σ) Q R) : CallKA n np is body rs zs σ Q R := by
  with_unfolding_all
    have e1 := a.eq
    obtain ⟨e2, e3⟩ := pk.eq
    subst e1
    refine ⟨ps, qs, as, v, w, congrArg some e2, Option.some.inj h1, e3, ?_⟩
    rw [m.eq]; exact q
theorem v_gU {Q : Unit → PSt → Prop} {g : List PV → PSt → Rs Unit} {xs : List PV} (hl : EqF (some xs.length) (some n)) (h : WP (g xs σ) Q R) : WP (gU n g (.tup xs) σ) Q R := by
  with_unfolding_all
    have hl : xs.length = n := Option.some.inj hl
    show WP (if xs.length = n then g xs σ else .no) Q R
    rw [if_pos hl]; exact h
theorem v_gL {Q : Unit → PSt → Prop} {g : List PV → PSt → Rs Unit} {xs : List PV} (hl : EqF (some xs.length) (some n)) (h : WP (g xs σ) Q R) : WP (gU n g (.lst xs) σ) Q R := by
  with_unfolding_all
    have hl : xs.length = n := Option.some.inj hl
    show WP (if xs.length = n then g xs σ else .no) Q R
    rw [if_pos hl]; exact h
theorem v_gT {Q : Unit → PSt → Prop} {g : List PV → PSt → Rs Unit} {xs : List PV} (hl : EqF (some xs.length) (some n)) (h : WP (g xs σ) Q R) : WP (gT n g (.tup xs) σ) Q R := by
  with_unfolding_all exact w_gT (Option.some.inj hl) h
end
end L2.Zz

/-! Z21: parts that change nothing, both ways taken at once. -/
namespace L2.Zz
open PySem PySem.Spec PyProof.Rows
variable {LT : LTab} {ce : List (Str × Addr)}
def KPu (σ : PSt) (p : PV) : EVal → PSt → Prop := fun r s => r = .val p ∧ s = σ
theorem k_pu {σ : PSt} {p : PV} : KPu σ p (.val p) σ := ⟨rfl, rfl⟩
def KPb (σ : PSt) (b : Bool) : Bool → PSt → Prop := fun t s => t = b ∧ s = σ
theorem k_pb {σ : PSt} {b : Bool} : KPb σ b b σ := ⟨rfl, rfl⟩
section
variable {Q : EVal → PSt → Prop} {R : XP} {σ : PSt} {da db dc : DE} {dt du : DT} {a b : Bool} {p q : PV}
theorem v_andP (h1 : WP (da σ) (KPu σ (.bl a)) noX) (h2 : WP (db σ) (KPu σ (.bl b)) noX) (hq : Q (.val (.bl (a && b))) σ) : WP (dAndV da db σ) Q R := by
  with_unfolding_all
    refine w_andV (h1.mono (fun r s ⟨er, es⟩ => ?_) (fun _ _ z => z.elim))
    subst er es
    refine ⟨a, rfl, fun ea => ?_, fun ea => ?_⟩
    · subst ea
      refine h2.mono (fun r s ⟨er, es⟩ => ?_) (fun _ _ z => z.elim)
      subst er es
      simpa using hq
    · subst ea
      simpa using hq
theorem v_orP (h1 : WP (da σ) (KPu σ (.bl a)) noX) (h2 : WP (db σ) (KPu σ (.bl b)) noX) (hq : Q (.val (.bl (a || b))) σ) : WP (dOrV da db σ) Q R := by
  with_unfolding_all
    refine w_orV (h1.mono (fun r s ⟨er, es⟩ => ?_) (fun _ _ z => z.elim))
    subst er es
    refine ⟨a, rfl, fun ea => ?_, fun ea => ?_⟩
    · subst ea
      simpa using hq
    · subst ea
      refine h2.mono (fun r s ⟨er, es⟩ => ?_) (fun _ _ z => z.elim)
      subst er es
      simpa using hq
theorem v_chP {f f' : PV → PV → Option Ot} {x y z : PV} (h1 : WP (da σ) (KPu σ x) noX) (h2 : WP (db σ) (KPu σ y) noX) (h3 : WP (dc σ) (KPu σ z) noX) (e1 : EqF (f x y) (some (.v (.bl a)))) (e2 : EqF (f' y z) (some (.v (.bl b)))) (hq : Q (.val (.bl (a && b))) σ) : WP (dCh f f' da db dc σ) Q R := by
  with_unfolding_all
    refine w_ch (h1.mono (fun r s ⟨er, es⟩ => ?_) (fun _ _ z => z.elim))
    subst er es
    refine h2.mono (fun r s ⟨er, es⟩ => ?_) (fun _ _ z => z.elim)
    subst er es
    refine ⟨x, y, a, rfl, rfl, e1, fun ea => ?_, fun ea => ?_⟩
    · subst ea
      refine h3.mono (fun r s ⟨er, es⟩ => ?_) (fun _ _ z => z.elim)
      subst er es
      exact ⟨y, z, _, rfl, rfl, e2, by simpa [Ot.ev] using hq⟩
    · subst ea
      simpa using hq
theorem v_ifP {c : Bool} {x y : PV} (h1 : WP (dt σ) (KPb σ c) noX) (h2 : WP (da σ) (KPu σ x) noX) (h3 : WP (db σ) (KPu σ y) noX) (hq : Q (.val (if c = true then x else y)) σ) : WP (dIf dt da db σ) Q R := by
  with_unfolding_all
    refine w_if (h1.mono (fun r s ⟨er, es⟩ => ?_) (fun _ _ z => z.elim))
    subst er es
    refine ⟨fun ea => ?_, fun ea => ?_⟩
    · subst ea
      refine h2.mono (fun r s ⟨er, es⟩ => ?_) (fun _ _ z => z.elim)
      subst er es
      simpa using hq
    · subst ea
      refine h3.mono (fun r s ⟨er, es⟩ => ?_) (fun _ _ z => z.elim)
      subst er es
      simpa using hq
variable {Q : Bool → PSt → Prop}
theorem v_andB (h1 : WP (dt σ) (KPb σ a) noX) (h2 : WP (du σ) (KPb σ b) noX) (hq : Q (a && b) σ) : WP (dAnd dt du σ) Q R := by
  with_unfolding_all
    refine w_and (h1.mono (fun r s ⟨er, es⟩ => ?_) (fun _ _ z => z.elim))
    subst er es
    refine ⟨fun ea => ?_, fun ea => ?_⟩
    · subst ea
      refine h2.mono (fun r s ⟨er, es⟩ => ?_) (fun _ _ z => z.elim)
      subst er es
      simpa using hq
    · subst ea
      simpa using hq
theorem v_orB (h1 : WP (dt σ) (KPb σ a) noX) (h2 : WP (du σ) (KPb σ b) noX) (hq : Q (a || b) σ) : WP (dOr dt du σ) Q R := by
  with_unfolding_all
    refine w_or (h1.mono (fun r s ⟨er, es⟩ => ?_) (fun _ _ z => z.elim))
    subst er es
    refine ⟨fun ea => ?_, fun ea => ?_⟩
    · subst ea
      simpa using hq
    · subst ea
      refine h2.mono (fun r s ⟨er, es⟩ => ?_) (fun _ _ z => z.elim)
      subst er es
      simpa using hq
end
end L2.Zz
namespace L2.Zz
open PySem PySem.Spec PyProof.Rows
theorem Br.nt {A B : Prop} (h : B) : Br (!true) A B := .f h
theorem Br.nf {A B : Prop} (h : A) : Br (!false) A B := .t h
theorem Br.dT {p : Prop} [Decidable p] {A B : Prop} (h : p) (q : A) : Br (decide p) A B := by rw [decide_eq_true h]; exact .t q
theorem Br.dF {p : Prop} [Decidable p] {A B : Prop} (h : ¬ p) (q : B) : Br (decide p) A B := by rw [decide_eq_false h]; exact .f q
theorem Br.nT {p : Prop} [Decidable p] {A B : Prop} (h : ¬ p) (q : A) : Br (!decide p) A B := by rw [decide_eq_false h]; exact .t q
theorem Br.nF {p : Prop} [Decidable p] {A B : Prop} (h : p) (q : B) : Br (!decide p) A B := by rw [decide_eq_true h]; exact .f q
theorem q_bl {b c : Bool} {Q : EVal → PSt → Prop} {σ : PSt} (e : b = c) (q : Q (.val (.bl c)) σ) : Q (.val (.bl b)) σ := by rw [e]; exact q
theorem q_int {b c : Int} {Q : EVal → PSt → Prop} {σ : PSt} (e : b = c) (q : Q (.val (.int c)) σ) : Q (.val (.int b)) σ := by rw [e]; exact q
end L2.Zz
namespace L2.Zz
open PySem PySem.Spec PyProof.Rows
theorem GetL.of {l : SlL} {i : Nat} {s : Sl} (h : l[i]? = some (some s)) : GetL l i s := h
theorem GetP.of {l : List PV} {i : Nat} {s : PV} (h : l[i]? = some s) : GetP l i s := h
theorem gGet {l : SlL} {i : Nat} {s : Sl} (h : GetL l i s) : GetL l i s := h
theorem gSet {l l' : SlL} {i : Nat} {s : Sl} (h : SetL l i s l') : SetL l i s l' := h
theorem gFz {r : EVal} {σ σ' : PSt} {p : PV} (h : FzS r σ p σ') : FzS r σ p σ' := h
theorem gCI {σ : PSt} {rs : List EVal} {k n : Nat} {l : SlL} {w : List Pl} {ln : List PV} (h : CallI σ rs k n l w ln) : CallI σ rs k n l w ln := h
theorem gVl {rs : List EVal} {ps : List PV} (h : VlS rs ps) : VlS rs ps := h
theorem gRs {σ : PSt} {rs : List EVal} {ps : List PV} (h : RdsS σ rs ps) : RdsS σ rs ps := h
theorem gBr {b : Bool} {A B : Prop} (h : Br b A B) : Br b A B := h
section
variable {R : XP} {σ : PSt} {l : SlL} {n : List PV} {i : Nat} {p v : PV}
theorem w_varF {Q : EVal → PSt → Prop} (h : GetL l i (.frz v)) (q : Q (.val v) ⟨l, n⟩) : WP (dVar i ⟨l, n⟩) Q R := by
  with_unfolding_all exact w_var h .frz q
theorem w_varO {Q : EVal → PSt → Prop} (h : GetL l i (.own v)) (q : Q (.at i) ⟨l, n⟩) : WP (dVar i ⟨l, n⟩) Q R := by
  with_unfolding_all exact w_var h .own q
theorem w_varL {Q : EVal → PSt → Prop} {k : Nat} (h : GetL l i (.lo k)) (q : Q (.lo k) ⟨l, n⟩) : WP (dVar i ⟨l, n⟩) Q R := by
  with_unfolding_all exact w_var h .lo q
end
end L2.Zz
namespace L2.Zz
theorem gCall {n : Nat} {body : DS} {rs : List EVal} {σ : PSt} {Q : EVal → PSt → Prop} {R : XP} (h : WP (callD n body rs σ) Q R) : WP (callD n body rs σ) Q R := by
  with_unfolding_all exact h
end L2.Zz
namespace L2.Zz
theorem Br.eqF {b : Bool} {A B : Prop} (h : b = false) (q : B) : Br b A B := by subst h; exact .f q
theorem Br.eqT {b : Bool} {A B : Prop} (h : b = true) (q : A) : Br b A B := by subst h; exact .t q
end L2.Zz
namespace L2.Zz
theorem setPV_n {xs : List PV} {p : PV} {j : Nat} (h : j < xs.length) : setPV (.lst xs) (.int j) p = some (.lst (xs.set j p)) := by
  unfold setPV L2.ixN
  have h1 : (0 : Int) ≤ j := by omega
  have h2 : (j : Int) < xs.length := by omega
  simp only [h1, h2, if_true, Option.map_some, Int.toNat_natCast]
theorem f_set0 {xs : List PV} {p a : PV} : EqF (setPV (.lst (a :: xs)) (.int 0) p) (some (.lst (p :: xs))) := setPV_n (j := 0) (by simp)
theorem f_set1 {xs : List PV} {p a b : PV} : EqF (setPV (.lst (a :: b :: xs)) (.int 1) p) (some (.lst (a :: p :: xs))) := setPV_n (j := 1) (by simp)
theorem f_set2 {xs : List PV} {p a b c : PV} : EqF (setPV (.lst (a :: b :: c :: xs)) (.int 2) p) (some (.lst (a :: b :: p :: xs))) := setPV_n (j := 2) (by simp)
end L2.Zz
namespace L2.Zz
theorem atI_getD {xs : List PV} {r : Int} (h0 : 0 ≤ r) (h1 : r < xs.length) : L2.atI xs r = some (xs.getD r.toNat .non) := by
  have h : r.toNat < xs.length := by omega
  unfold L2.atI L2.ixN
  simp only [h0, h1, if_true, Option.bind_some]
  rw [List.getElem?_eq_getElem h, List.getD_eq_getElem?_getD, List.getElem?_eq_getElem h]
  rfl
theorem f_ixl {xs : List PV} {r : Int} (h : 0 ≤ r ∧ r < xs.length) : EqF (pvIxA (.lst xs) (.int r)) (some (.v (xs.getD r.toNat .non))) := by
  show (L2.atI xs r).map Ot.v = _
  rw [atI_getD h.1 h.2]; rfl
theorem f_ixt {xs : List PV} {r : Int} (h : 0 ≤ r ∧ r < xs.length) : EqF (pvIxA (.tup xs) (.int r)) (some (.v (xs.getD r.toNat .non))) := by
  show (L2.atI xs r).map Ot.v = _
  rw [atI_getD h.1 h.2]; rfl
theorem getD_mem {xs : List PV} {r : Int} (h : 0 ≤ r ∧ r < xs.length) : xs.getD r.toNat .non ∈ xs := by
  have h' : r.toNat < xs.length := by omega
  rw [List.getD_eq_getElem?_getD, List.getElem?_eq_getElem h']
  exact List.getElem_mem h'
end L2.Zz
namespace L2.Zz
theorem f_addl {xs ys : List PV} (h : xs.length + ys.length ≤ szL) : EqF (pvAdd (.lst xs) (.lst ys)) (some (.l (xs ++ ys))) := by
  unfold EqF pvAdd; simp only [h, if_true]
theorem cutP_nn (xs : List PV) (i j : Nat) : cutP xs (some (i : Int)) (some (j : Int)) = (xs.drop (min i xs.length)).take (min j xs.length - min i xs.length) := by
  unfold cutP
  rw [HT.sIx_nat, HT.sIx_nat]
end L2.Zz
namespace L2.Zz
theorem f_setk {ks vs : List PV} {k v : PV} (h : kOk k = true ∧ ks.length < szL) : EqF (setPV (.dct ks vs) k v) (some (kPut ks vs k v)) := by
  have e : setPV (.dct ks vs) k v = if kOk k = true ∧ ks.length < szL then some (kPut ks vs k v) else none := rfl
  unfold EqF
  rw [e, if_pos h]
theorem rng_at {lo : Int} {n i : Nat} {x : PV} (h : (rng lo n)[i]? = some x) : i < n ∧ x = .int (lo + i) := by
  have hi : i < n := by
    have := (List.getElem?_eq_some_iff.mp h).1
    rwa [rng_len] at this
  rw [rng_get hi] at h
  exact ⟨hi, (Option.some.inj h).symm⟩
end L2.Zz
namespace L2.Zz
theorem WP.fin {o : Rs Fl} (h : WP o (fun f _ => f = .rt (.val (.bl true))) noX) : ∃ σ', o = .ok (.rt (.val (.bl true))) σ' := by
  with_unfolding_all
    cases o with
    | ok f s => exact ⟨s, by rw [show f = _ from h]⟩
    | ex e s => exact h.elim
    | no => exact h.elim
theorem cutP_mem {xs : List PV} {lo hi : Option Int} {p : PV} (h : p ∈ cutP xs lo hi) : p ∈ xs := by
  unfold cutP at h
  exact List.mem_of_mem_drop (List.mem_of_mem_take h)
theorem cutP_len {xs : List PV} {lo hi : Option Int} : (cutP xs lo hi).length ≤ xs.length := by
  unfold cutP
  rw [List.length_take, List.length_drop]
  omega
end L2.Zz

/-! Z22: max and min of three. -/
namespace L2.Zz
open PySem PySem.Spec PyProof.Rows
variable {LT : LTab} {ce : List (Str × Addr)}
def mx2 (i j : Int) : Int := if i < j then j else i
def mn2 (i j : Int) : Int := if j < i then j else i
def fnMax3 : List PV → Option Ot
  | [.int i, .int j, .int k] => some (.v (.int (mx2 (mx2 i j) k)))
  | _ => none
def fnMin3 : List PV → Option Ot
  | [.int i, .int j, .int k] => some (.v (.int (mn2 (mn2 i j) k)))
  | _ => none
theorem RWs.three {c : Cn} {F : Addr → Prop} {H : Hp} {p q r : PV} {vs : List V} (h : RWs c F H [p, q, r] vs) : ∃ v u w, vs = [v, u, w] ∧ RW c F H p v ∧ RW c F H q u ∧ RW c F H r w := by
  cases h with
  | cons h1 t => cases t with
    | cons h2 t => cases t with
      | cons h3 t => cases t; exact ⟨_, _, _, rfl, h1, h2, h3⟩
theorem nu_max2 {i j : Int} : nuMax2 (.int i) (.int j) = some (.int (mx2 i j)) := by
  unfold nuMax2 mx2
  show Option.map _ (some (decide (i < j))) = _
  by_cases h : i < j <;> simp [h]
theorem nu_min2 {i j : Int} : nuMin2 (.int i) (.int j) = some (.int (mn2 i j)) := by
  unfold nuMin2 mn2
  show Option.map _ (some (decide (j < i))) = _
  by_cases h : j < i <;> simp [h]
section
variable {X : Cx}
theorem opn_max3 : OpN (cnE LT X ce) (rNuC3 nuMax3) fnMax3 := by
  intro F H ps o vs Q rs e h
  unfold fnMax3 at e
  split at e
  · cases e
    obtain ⟨v, u, w, rfl, r1, r2, r3⟩ := rs.three
    refine ⟨_, _, _, _, rfl, ?_, h _ RF.int_⟩
    rw [r1.int, r2.int, r3.int]
    unfold nuMax3
    rw [nu_max2]
    exact nu_max2
  · cases e
theorem opn_min3 : OpN (cnE LT X ce) (rNuC3 nuMin3) fnMin3 := by
  intro F H ps o vs Q rs e h
  unfold fnMin3 at e
  split at e
  · cases e
    obtain ⟨v, u, w, rfl, r1, r2, r3⟩ := rs.three
    refine ⟨_, _, _, _, rfl, ?_, h _ RF.int_⟩
    rw [r1.int, r2.int, r3.int]
    unfold nuMin3
    rw [nu_min2]
    exact nu_min2
  · cases e
end
end L2.Zz
namespace L2.Zz
section
variable {R : XP} {vs : List Nat} {acc acc' xs ys l0 : List PV} {p : PV} {l l' : SlL} {n : List PV}
/-- behind an element, what is gathered being written out -/
theorem k_leA {N : List PV → PSt → Prop} (a : AppL acc [p] acc') (hl : EqF (some (decide (acc.length < szL))) (some true)) (w : WpL l vs l') (h : N acc' ⟨l', n⟩) : KLe vs acc N (.val p) ⟨l, n⟩ :=
  k_le hl w (congrArg some a.eq) h
theorem f_addA (a : AppL xs ys l0) (h : l0.length ≤ szL) : EqF (pvAdd (.lst xs) (.lst ys)) (some (.l l0)) := by
  have e := a.eq
  subst e
  exact f_addl (by rw [List.length_append] at h; exact h)
end
end L2.Zz

/-! Z23: more for reckoning: short ranges. -/
namespace L2.Zz
open PySem PySem.Spec PyProof.Rows
variable {LT : LTab} {ce : List (Str × Addr)}
section
variable {Q : List PV → PSt → Prop} {σ : PSt} {rs : List EVal}
theorem rgOk_nat {n : Nat} (h : n < 1000) : rgOk (n : Int) := by unfold rgOk; omega
theorem k_r12 (h : RdsS σ rs [.int 2]) (q : Q [.int 0, .int 1] σ) : KR1 Q rs σ := ⟨2, h, rgOk_nat (n := 2) (by omega), q⟩
theorem k_r13 (h : RdsS σ rs [.int 3]) (q : Q [.int 0, .int 1, .int 2] σ) : KR1 Q rs σ := ⟨3, h, rgOk_nat (n := 3) (by omega), q⟩
theorem k_r14 (h : RdsS σ rs [.int 4]) (q : Q [.int 0, .int 1, .int 2, .int 3] σ) : KR1 Q rs σ := ⟨4, h, rgOk_nat (n := 4) (by omega), q⟩
end
end L2.Zz

/-! Z24: a call of a local name that holds a def. -/
namespace L2.Zz
open PySem PySem.Spec PyProof.Rows
variable {LT : LTab} {ce : List (Str × Addr)}
/-- a def by its name: its slots, its parameters, its body -/
abbrev FTab := List (Str × Nat × Nat × DS)
def dCallV (tab : FTab) (i : Nat) (da : DA) : DE := fun σ => match σ.sl[i]? with
  | some (some (.frz (.fn x))) => match tab.lookup x with
    | some r => (da σ).bind fun rs σ1 => if rs.length = r.2.1 then callD r.1 r.2.2 rs σ1 else .no
    | none => .no
  | _ => .no
/-- a def that is at hand -/
structure AtHand (LT : LTab) (X : Cx) (k : Nat) (x : Str) (n np : Nat) (body : DS) : Prop where
  ex : ∃ (f : Addr) (fd : FuncData) (N ps : List Str), X.mg x = some (.ref f) ∧ FnOk X.prog X.w X.K X.mg X.base (L2.CX X.prog X.w) k f fd ps (spD (cb LT X) N np body) ∧ N.length = n ∧ PySem.W.keepIn X.K (.ref f) = true ∧ Binds X.K fd ps [] ∧ np ≤ n
theorem AtHand.mk' {X : Cx} {k j : Nat} {x : Str} {np : Nat} {body : DS} {f : Addr} {fd : FuncData} {N ps : List Str} (hm : X.mg x = some (.ref f)) (F : FnOk X.prog X.w X.K X.mg X.base (L2.CX X.prog X.w) j f fd ps (spD (cb LT X) N np body)) (hk : PySem.W.keepIn X.K (.ref f) = true)
    (hb : Binds X.K fd ps []) (hn : np ≤ N.length) (hj : j ≤ k) : AtHand LT X k x N.length np body := ⟨f, fd, N, ps, hm, F.mono hj, rfl, hk, hb, hn⟩
inductive Hands (LT : LTab) (X : Cx) (k : Nat) : FTab → Prop
  | nil : Hands LT X k []
  | cons {x n np body t} : AtHand LT X k x n np body → Hands LT X k t → Hands LT X k ((x, n, np, body) :: t)
theorem Hands.get {X : Cx} {k : Nat} {t : FTab} (h : Hands LT X k t) {x : Str} {r : Nat × Nat × DS} (e : t.lookup x = some r) : AtHand LT X k x r.1 r.2.1 r.2.2 := by
  induction h with
  | nil => simp at e
  | cons h1 _ ih =>
    rename_i y n np body t _
    rw [List.lookup] at e
    by_cases q : x = y
    · subst q
      simp at e
      subst e
      exact h1
    · have q' : (x == y) = false := by simpa using q
      rw [q'] at e
      exact ih e
/-- the slot holds the def at f: its promise, exceptions wished for at the caller's slots -/
theorem pe_callLSD {X : Cx} {k i : Nat} {f : Addr} {fd : FuncData} {ps : List Str} {sp : Sp} {E : St → XK} {x : Str} {p pos : Pos} {e : Expr} {es : List Expr} {t : TA} (F : FnOk X.prog X.w X.K X.mg X.base (L2.CX X.prog X.w) k f fd ps sp) (hr : Room k X.A) (hN : X.N[i]? = some x) (hv : Vis X.env.scope x)
    (hk : PySem.W.keepIn X.K (.ref f) = true) (hb : Binds X.K fd ps []) (hx : ∀ σ, PassesAt (L2.CX X.prog X.w) X σ (E σ)) (ha : PA X (e :: es) t) (hdb : (x == ("__debug__" : Str)) = false := by decide) (hcd : (x == ("__classdict__" : Str)) = false := by decide)
    (he : starEach (e :: es) X.env = (false, eval e X.env) :: starEach es X.env := by rfl) (hpl : (backTo pos (starEach es X.env)).any (·.1) = false := by rfl) :
    PE X (.Call (.Name x p) (e :: es) [] pos) (fun σ H Q => σ[i]? = some (some (.ref f)) ∧ t σ H fun vs H1 => sp (vs ++ []) H1 Q (E σ)) := by
  refine ⟨fun pins s σ H Q I ⟨hs, ht⟩ => ?_⟩
  have rd := (pe_var (pos := p) hN hv hdb hcd).run pins s σ H (fun v H1 => v = .ref f ∧ H1 = H) I ⟨.ref f, hs, rfl, rfl⟩
  refine wpAny_Call_Name_kw (thn rd fun u s1 ⟨v, H1, I1, r1, q1⟩ => ?_)
  obtain ⟨rfl, rfl⟩ := q1
  cases r1
  exact PySem.W.callWith_K (h₀ := X.base) I.ok.mod.kin hk (thn (ha.run pos pins s1 σ _ _ I1 ht) fun us s2 ⟨vs, H2, I2, r, q⟩ => ⟨I2.kIn, run_fnSD F hr hb .nil (hx σ) I2 r q⟩) he hpl
section
variable {X : Cx} {W : WX} {k i : Nat} {x : Str} {p pos : Pos} {e : Expr} {es : List Expr} {da : DA} {tab : FTab}
theorem z_callV (A : Hands LT X k tab) (hr : Room k X.A) (hN : X.N[i]? = some x) (hv : Vis X.env.scope x) (tk : Takes X W) (ha : PA X (e :: es) (EVA (cnE LT X ce) W da)) (hdb : (x == ("__debug__" : Str)) = false := by decide) (hcd : (x == ("__classdict__" : Str)) = false := by decide)
    (he : starEach (e :: es) X.env = (false, eval e X.env) :: starEach es X.env := by rfl) (hpl : (backTo pos (starEach es X.env)).any (·.1) = false := by rfl) :
    PE X (.Call (.Name x p) (e :: es) [] pos) (EV (cnE LT X ce) W (dCallV tab i da)) := by
  refine ⟨fun pins s σr H Q I q => ?_⟩
  obtain ⟨F, la, σ, S, f⟩ := q
  unfold dCallV at f
  split at f
  · rename_i y hy
    obtain ⟨u, hu, ru⟩ := S.frz i _ hy
    unfold RF at ru
    obtain ⟨a, rfl, hm⟩ := ru
    split at f
    · rename_i r hl
      obtain ⟨a', fd, N, ps, hm', G, hn', hk, hb, hn⟩ := (A.get hl).ex
      have ea : a' = a := by
        have := hm.symm.trans hm'
        cases this
        rfl
      subst ea
      refine (pe_callLSD (i := i) (E := fun σr cls d H => W cls d σr H) G hr hN hv hk hb (fun σ => passAt tk σ) ha hdb hcd he hpl).run pins s σr H Q I ⟨hu, F, la, σ, S, f.bind.mono fun rs σ1 F1 H1 x1 S1 f1 vs es' => ?_⟩
      obtain ⟨hlen, f2⟩ := fin_if f1
      have hv' : vs.length = r.2.1 := by rw [← es'.length]; exact hlen
      rw [List.append_nil]
      rw [← hn'] at f2 hn
      exact callD_ok hv' (by rw [hv']; exact hn) S1 x1 es' f2
    · exact f.elim
  · exact f.elim
end
/-! ### reckoning -/
section
variable {Q : EVal → PSt → Prop} {R : XP} {l : SlL} {ln : List PV} {i : Nat} {x : Str} {da : DA} {tab : FTab} {r : Nat × Nat × DS}
/-- behind the arguments -/
def KCv (r : Nat × Nat × DS) (Q : EVal → PSt → Prop) (R : XP) : List EVal → PSt → Prop := fun rs σ1 => rs.length = r.2.1 ∧ WP (callD r.1 r.2.2 rs σ1) Q R
theorem k_cv {n np : Nat} {body : DS} {rs : List EVal} {σ : PSt} (hl : EqF (some rs.length) (some np)) (h : WP (callD n body rs σ) Q R) : KCv (n, np, body) Q R rs σ := ⟨Option.some.inj hl, h⟩
theorem v_callV (h : GetL l i (.frz (.fn x))) (e : EqF (tab.lookup x) (some r)) (q : WP (da ⟨l, ln⟩) (KCv r Q R) R) : WP (dCallV tab i da ⟨l, ln⟩) Q R := by
  unfold GetL at h
  unfold dCallV
  simp only [h]
  rw [show tab.lookup x = _ from e]
  exact WP.bind (q.mono fun rs σ1 ⟨hl, z⟩ => by rw [if_pos hl]; exact z)
end
end L2.Zz

/-! Z25: equality of short tuples of whole numbers. -/
namespace L2.Zz
open PySem PySem.Spec PyProof.Rows
variable {LT : LTab} {ce : List (Str × Addr)}
theorem eqS3 {a b c a' b' c' : Int} : pvEq (.tup [.int a, .int b, .int c]) (.tup [.int a', .int b', .int c']) = some (decide (a = a' ∧ b = b' ∧ c = c')) := by
  have h : SeqAt.shaped (.tuple [.int a, .int b, .int c]) = true ∧ SeqAt.shaped (.tuple [.int a', .int b', .int c']) = true := ⟨rfl, rfl⟩
  unfold pvEq
  simp only [toD, toDs, Option.map_some, if_pos h]
  congr 1
  simp only [PyData.eqv, PyData.eqvAll, Bool.and_true, Bool.decide_and]
  rfl
theorem eqS4 {a b c d a' b' c' d' : Int} : pvEq (.tup [.int a, .int b, .int c, .int d]) (.tup [.int a', .int b', .int c', .int d']) = some (decide (a = a' ∧ b = b' ∧ c = c' ∧ d = d')) := by
  have h : SeqAt.shaped (.tuple [.int a, .int b, .int c, .int d]) = true ∧ SeqAt.shaped (.tuple [.int a', .int b', .int c', .int d']) = true := ⟨rfl, rfl⟩
  unfold pvEq
  simp only [toD, toDs, Option.map_some, if_pos h]
  congr 1
  simp only [PyData.eqv, PyData.eqvAll, Bool.and_true, Bool.decide_and]
  rfl
section
variable {a b c d a' b' c' d' : Int}
theorem f_eqT3 : EqF (pvEqO (.tup [.int a, .int b, .int c]) (.tup [.int a', .int b', .int c'])) (some (.v (.bl (decide (a = a' ∧ b = b' ∧ c = c'))))) := by unfold EqF pvEqO; rw [eqS3]; rfl
theorem f_neT3 : EqF (pvNeO (.tup [.int a, .int b, .int c]) (.tup [.int a', .int b', .int c'])) (some (.v (.bl (!decide (a = a' ∧ b = b' ∧ c = c'))))) := by unfold EqF pvNeO; rw [eqS3]; rfl
theorem f_eqT4 : EqF (pvEqO (.tup [.int a, .int b, .int c, .int d]) (.tup [.int a', .int b', .int c', .int d'])) (some (.v (.bl (decide (a = a' ∧ b = b' ∧ c = c' ∧ d = d'))))) := by unfold EqF pvEqO; rw [eqS4]; rfl
theorem f_neT4 : EqF (pvNeO (.tup [.int a, .int b, .int c, .int d]) (.tup [.int a', .int b', .int c', .int d'])) (some (.v (.bl (!decide (a = a' ∧ b = b' ∧ c = c' ∧ d = d'))))) := by unfold EqF pvNeO; rw [eqS4]; rfl
end
/-! powers of ten that the texts name -/
theorem f_p3 : EqF (pvPow (.int 10) (.int 3)) (some (.v (.int 1000))) := f_pow (i := 10) (j := 3) (by unfold powOk; decide)
theorem f_p6 : EqF (pvPow (.int 10) (.int 6)) (some (.v (.int 1000000))) := f_pow (i := 10) (j := 6) (by unfold powOk; decide)
theorem f_p18 : EqF (pvPow (.int 10) (.int 18)) (some (.v (.int 1000000000000000000))) := f_pow (i := 10) (j := 18) (by unfold powOk; decide)
theorem f_p29 : EqF (pvPow (.int 10) (.int 29)) (some (.v (.int 100000000000000000000000000000))) := f_pow (i := 10) (j := 29) (by unfold powOk; decide)
theorem f_p30 : EqF (pvPow (.int 10) (.int 30)) (some (.v (.int 1000000000000000000000000000000))) := f_pow (i := 10) (j := 30) (by unfold powOk; decide)
theorem f_p40 : EqF (pvPow (.int 10) (.int 40)) (some (.v (.int 10000000000000000000000000000000000000000))) := f_pow (i := 10) (j := 40) (by unfold powOk; decide)
/-- a list of whole numbers that is written out -/
inductive IntL : List PV → List Int → Prop
  | z : IntL [] []
  | s {xs ns i} : IntL xs ns → IntL (.int i :: xs) (i :: ns)
theorem IntL.mem {xs : List PV} {ns : List Int} (h : IntL xs ns) {p : PV} (hp : p ∈ xs) : ∃ i, p = .int i ∧ i ∈ ns := by
  induction h with
  | z => cases hp
  | s _ ih =>
    rcases List.mem_cons.mp hp with e | hp
    · exact ⟨_, e, List.mem_cons_self⟩
    · obtain ⟨i, e, hi⟩ := ih hp
      exact ⟨i, e, List.mem_cons_of_mem _ hi⟩
theorem f_max2 {i j : Int} : EqF (fnMax [.int i, .int j]) (some (.v (.int (max i j)))) := by
  have e : (if j > i then j else i) = max i j := by split <;> omega
  show some (Ot.v (PV.int (if j > i then j else i))) = _
  rw [e]
theorem f_min2 {i j : Int} : EqF (fnMin [.int i, .int j]) (some (.v (.int (min i j)))) := by
  have e : (if j < i then j else i) = min i j := by split <;> omega
  show some (Ot.v (PV.int (if j < i then j else i))) = _
  rw [e]
end L2.Zz

/-! Z26: the program's own errors: a class over a class over ArithmeticError, its own __init__, the raising. -/
namespace L2.Zz
open PySem PySem.Spec PyProof.Rows
variable {LT : LTab} {ce : List (Str × Addr)}
abbrev aeT : List Value := [.type "ArithmeticError", .type "Exception", .type "BaseException", .type "object"]
theorem ae_has (D : Addr) (Y : String) : (Value.ref D :: aeT).contains (.type Y) = aeT.contains (.type Y) := by
  rw [List.contains_cons]; rfl
/-- what the written part says of the class at C, which stands over the one at D -/
structure ErC (K : PySem.W.Frag) (D C : Addr) : Prop where
  cls : ∃ nm q N bs sn sub ab col dd k0 k1 k2 k3 k5, K.lookup C = some (excClassObj nm q C N bs (.ref D :: aeT) true sn sub ab col dd k0 k1 k2 k3 k5 "ArithmeticError.__new__")
  sa : PySem.W.findIn K (.ref C) "__setattr__" = some (some (.builtin "object.__setattr__"))
  exC : PySem.W.subIn K (.ref C) (.type "BaseException") = some true
  tyC : PySem.W.typeIn K (.ref C) = some (.type "type")
  kC : PySem.W.keepIn K (.ref C) = true
section
open Builtin Builtin.ObjectAttr
variable {pg : Program} {wd : World} {Ar : Around} {Er : Value → Shared → Prop} {Rr : Result → Shared → Prop} {hp : Heap} {gs : Array GenState} {dr : Drawn} {tk0 : Nat} {os : OsState}
theorem ae_pass (self : Value) (C D : Addr) : refuseLoop self "__setattr__" (.ref C :: .ref D :: aeT) = pure () := by
  rw [refuseLoop_ref, refuseLoop_ref]
  exact PySem.F.store_ArithmeticError.passes self
/-- the first field of an error -/
theorem er_osa {K : PySem.W.Frag} {fld : Str} {tok : Tok} {val : Value} {e C D : Addr} {fv : Array Value} {cd : ClassData}
    (kin : K.In hp) (he : hp.get? e = some { cls := .ref C, data := .fields fv }) (hcd : PySem.W.clsIn K C = some cd) (hm : cd.mro = .ref C :: .ref D :: aeT) (hh : cd.hasDict = true) (hno : PySem.W.findIn K (.ref C) fld = some none)
    (done : ∀ h' t' dx, (∀ b o, b ≠ e → hp.get? b = some o → h'.get? b = some o) → hp.objs.size ≤ dx → dx ≠ e → h'.get? e = some { cls := .ref C, dict := some dx, data := .fields fv } →
      h'.Ns1 dx (fun y => if y = fld then some val else none) → Rr (.ok (.ret .none)) ⟨h', gs, dr, t', os⟩) :
    codeAny (model pg wd) Ar (.call (.builtin "object.__setattr__") ⟨[.ref e, .str fld tok, val], []⟩) Rr ⟨hp, gs, dr, tk0, os⟩ := by
  have J : PySem.W.InstAt hp e { cls := .ref C, data := .fields fv } C none := ⟨he, rfl, rfl, trivial⟩
  have SF := PySem.F.store_object
  have hob : cd.mro.contains (.type "object") = true := by rw [hm]; rfl
  have ne : cd.mro.isEmpty = false := by rw [hm]; rfl
  have far : e ≠ hp.objs.size := Nat.ne_of_lt (Heap.lt_size he)
  have sub : PySem.W.Looks (model pg wd) hp (isInstance (.ref e) (.type "object")) true := J.type.andThen (PySem.W.looks_mroIn kin (by unfold PySem.W.mroIn; rw [hcd, Option.bind_some, if_neg (by rw [ne]; decide), hob]))
  refine codeAny_call_builtin SF.slot.plain SF.entry (@PySem.W.check_slot (model pg wd) _ _ ⟨hp, gs, dr, tk0, os⟩ "object.__setattr__" "object" "__setattr__" (.ref e) [.str fld tok, val] [] _ SF.kind SF.split sub (SF.args (.ref e) (.str fld tok) val) ?_)
  have lm : PySem.W.Looks (model pg wd) hp (mroOf (.ref C)) cd.mro := (PySem.W.looks_clsIn kin hcd).andThen .now
  have ls : PySem.W.Looks (model pg wd) hp (storeTaker? none) none := .now
  have lc : PySem.W.Looks (model pg wd) hp (classData C) cd := PySem.W.looks_clsIn kin hcd
  rw [PySem.W.osa_eq, refuse_eq]
  refine wpAny_bind (wpAny_bind (J.type.at (wpAny_bind (lm.at ?_))))
  rw [hm, ae_pass]
  refine wpAny_pure (wpAny_bind (J.type.at (wpAny_bind ((PySem.W.looks_findIn kin hno).at (wpAny_bind (ls.at ?_))))))
  show wpAny _ _ (storeInOwnDict (.ref e) (.ref C) (.str fld tok) fld val false) _ _ _
  obtain ⟨_, _, _, _, _, hd, _, _, _, _, _⟩ := cd
  dsimp only at hh
  subst hh
  unfold storeInOwnDict ownDictForStores
  repeat (first | with_reducible refine PySem.HandSPX.store_in_new ?_ ?_ | with_reducible refine wpAny_loadPart_at he ?_ | with_reducible refine lc.at ?_ | wp_step)
  · exact ⟨_, #[], _, (Heap.get?_update_ne _ _ _ _ far.symm).trans (Heap.get?_push_at rfl rfl), rfl, fun _ z => absurd z (by simp), fun _ => rfl⟩
  · intro h' t' hn' hs
    have he1 : (hp.push { cls := .type "dict", data := .dict #[] }).get? e = some { cls := .ref C, data := .fields fv } := Heap.get?_push_of_some _ he
    refine done h' t' hp.objs.size (fun b o hb ho => ?_) (Nat.le_refl _) far.symm ?_ hn'
    · exact (hs.2 b (Nat.ne_of_lt (Heap.lt_size ho))).trans ((Heap.get?_update_ne _ _ _ _ hb).trans (Heap.get?_push_of_some _ ho))
    · exact (hs.2 e far).trans (Heap.get?_update_self _ he1 rfl)
end
section
variable {X : Cx} {pins : List (Addr × Obj)} {σ : St} {H : Hp} {s : Shared} {a C D dx : Addr} {f : Str} {y : V} {u : Value} {Q : Unit → Shared → Prop} {E : Value → Shared → Prop} {A : Around}
/-- self.f = y in an error's __init__ -/
theorem er_set (T : ErC X.K D C) (I : Inv X pins σ H s) (e : H a = some (exo a C none)) (hno : PySem.W.findIn X.K (.ref C) f = some none) (ry : RelV y u)
    (h : ∀ dx s', H dx = none → dx ≠ a → Inv X pins σ (upd (upd H dx (exd dx [(f, y)])) a (exo a C (some dx))) s' → Q () s') : wpAny (model X.prog X.w) A (setAttr (.ref a) f u) Q E s := by
  obtain ⟨nm, q, N, bs, sn, sub, ab, col, dd, k0, k1, k2, k3, k5, hC⟩ := T.cls
  have hcl : PySem.W.clsIn X.K C = some { name := nm, bases := bs, mro := .ref C :: .ref D :: aeT, ns := N, qualname := q, hasDict := true, slotNames := sn, subclasses := sub, abstract := ab, collection := col, hasDel := false } := by unfold PySem.W.clsIn; rw [hC] <;> rfl
  obtain ⟨t1, ho⟩ := exo_at I.hok e
  obtain ⟨hp, g, dw, t, os⟩ := s
  refine PySem.W.set_plain I.kIn (ox := { cls := .ref C, dict := none, data := .fields #[.ref t1, .none, .none, .none, .bool false, .none] }) (od := none) ⟨ho, rfl, rfl, trivial⟩ T.sa ?_
  refine er_osa I.kIn ho hcl rfl rfl hno (fun h' tk' dx k dn dne hx hn => ?_)
  have n0 : H dx = none := I.hok.fresh dn
  have nd : ∀ {b : Addr} {o : Obj}, hp.get? b = some o → b ≠ dx := fun {b o} z => Nat.ne_of_lt (Nat.lt_of_lt_of_le (Heap.lt_size z) dn)
  have na : ∀ {b : Addr}, H b = none → b ≠ a := fun {b} n z => by
    rw [z, e] at n
    cases n
  have un : Un X.fs [] H (upd (upd H dx (exd dx [(f, y)])) a (exo a C (some dx))) hp h' := {
    keep := fun b o z n _ _ => k b o (na n) z
    slot := fun b o z n _ _ => ⟨o.slots, k b o (na n) z⟩
    free := fun b o z n _ => by rw [upd_ne (na n), upd_ne (nd z)]; exact n
    there := fun b o z _ => by
      by_cases hb : b = a
      · exact ⟨_, by rw [hb]; exact hx⟩
      · exact ⟨o, k b o hb z⟩
    tups := fun b xs z => by rw [upd_ne (at_ne e z exo_tup), upd_ne (ne_of_none z n0)]; exact z
    frzs := fun b o v z => by rw [upd_ne (at_ne e z exo_frz), upd_ne (ne_of_none z n0)]; exact z
    tbls := fun b ps z => ⟨#[], by rw [upd_ne (at_ne e z exo_tbl), upd_ne (ne_of_none z n0), z]; simp⟩ }
  refine h dx _ n0 dne (I.un (t' := tk') un fun b o z => ?_)
  by_cases hb : b = a
  · subst hb
    rw [upd_same] at z
    cases z
    exact exo_ok hx
  rw [upd_ne hb] at z
  by_cases hd : b = dx
  · subst hd
    rw [upd_same] at z
    cases z
    exact exd_ok hn (relO_put (fs := []) ry fun _ => True.intro)
  rw [upd_ne hd] at z
  refine (I.hok b o z).stay (fun c v hc z2 => k c v ?_ z2) (fun c hc => ?_) (fun c xs hc => ?_)
  · rcases hc with hc | hc
    · rw [hc]
      exact hb
    · exact at_ne e hc exo_own
  · rw [upd_ne (at_ne e hc exo_own), upd_ne (ne_of_none hc n0)]; exact hc
  · rw [upd_ne (at_ne e hc exo_tup), upd_ne (ne_of_none hc n0)]; exact hc
/-- ArithmeticError.__init__(self, ..) -/
theorem er_init {us : List Value} {Q : Value → Shared → Prop} (T : ErC X.K D C) (I : Inv X pins σ H s) (e : H a = some (exo a C none)) (hl : us.length ≤ sizeLine) (h : ∀ s', Inv X pins σ H s' → Q .none s') :
    wpAny (model X.prog X.w) A (call (.builtin "ArithmeticError.__init__") (.ref a :: us)) Q E s := by
  obtain ⟨nm, q, N, bs, sn, sub, ab, col, dd, k0, k1, k2, k3, k5, hC⟩ := T.cls
  obtain ⟨t1, ho⟩ := exo_at I.hok e
  obtain ⟨hp, g, dw, t, os⟩ := s
  refine wpAny_call (PySem.HandSPX.init_base PySem.F.excBase_ArithmeticError (ae_has D) (I.kIn _ _ hC) ho hl fun h' t2 k hx => ?_)
  have J := I.write (t' := t) (x := a) (e := a) (o := exo a C none) (by rw [e]; exact True.intro) (.inl rfl) k ⟨_, hx⟩ (exo_ok hx)
  have same : upd H a (exo a C none) = H := by
    funext b
    by_cases hb : b = a
    · rw [hb, upd_same, e]
    · rw [upd_ne hb]
  rw [same] at J
  exact h _ J
end
/-- D.__init__(self, ..), D over ArithmeticError without an own __init__ -/
def tErI (K : PySem.W.Frag) (D : Addr) (ta : TA) : TE := fun σ H Q => ta σ H fun vs H1 => ∃ (a C : Addr) (ws : List V), vs = .ref a :: ws ∧ ws.length ≤ 1000 ∧ ErC K D C ∧ H1 a = some (exo a C none) ∧ Q .non H1
/-- self.f = e, the only one -/
def tErS (K : PySem.W.Frag) (D : Addr) (f : Str) (to te : TE) : TS := fun Dn σ H => te σ H fun y H1 => to σ H1 fun x H2 => ∃ a C : Addr, x = .ref a ∧ ErC K D C ∧ PySem.W.findIn K (.ref C) f = some none ∧
  H2 a = some (exo a C none) ∧ ∀ dx, H2 dx = none → dx ≠ a → Dn.nx σ (upd (upd H2 dx (exd dx [(f, y)])) a (exo a C (some dx)))
/-- what the top has written of D -/
structure ErD (K : PySem.W.Frag) (D : Addr) : Prop where
  rd : PySem.W.readsIn K D (.type "type") = true
  ga : PySem.W.specialIn K (.ref D) "__getattribute__" = some (some (.builtin "type.__getattribute__"))
  ini : PySem.W.findCls K (.ref D) (.type "type") "__init__" = some (.val (.builtin "ArithmeticError.__init__"))
section
variable {X : Cx} {o e : Expr} {es : List Expr} {to te : TE} {ta : TA} {f n : Str} {p p' p1 p2 pos : Pos} {D : Addr}
theorem pe_erI {pl : Sem Bool} (B : ErD X.K D) (hg : Gl X n) (hm : X.mg n = some (.ref D)) (ha : PA X (e :: es) ta) (hdb : (n == ("__debug__" : Str)) = false := by decide)
    (hc : eval (.Call (.Attribute (.Name n p1) "__init__" p2) (e :: es) [] pos) X.env = (do
      let ov ← eval (.Name n p1) X.env
      standAt p2.atName
      let (f, first) ← holding [ov] (getMethod ov "__init__" pl)
      callWith pos f first (backTo pos (starEach (e :: es) X.env)) (backToKw pos (keywordEach [] X.env))) := by rfl)
    (he : starEach (e :: es) X.env = (false, eval e X.env) :: starEach es X.env := by rfl) (hpl : (backTo pos (starEach es X.env)).any (·.1) = false := by rfl) :
    PE X (.Call (.Attribute (.Name n p1) "__init__" p2) (e :: es) [] pos) (tErI X.K D ta) := by
  refine ⟨fun pins s σ H Q I h => ?_⟩
  refine PySem.W.methodCall_KW (ld_glob I hg hm ?_ hdb) hc
  refine PySem.W.method_cls I.kIn B.ga (PySem.W.cls_value I.kIn B.rd B.ini (by decide +kernel) ?_)
  show wpAny _ _ (callWith pos (Value.builtin "ArithmeticError.__init__") [] (backTo pos (starEach (e :: es) X.env)) []) _ _ _
  refine PyProof.Rows.callWith_method1 (thn (ha.run pos pins _ σ H _ (I.tok _) h) fun us s1 ⟨vs, H1, I1, r1, a, C, ws, ev, hl, T, ea, q⟩ => ?_) he hpl
  subst ev
  cases r1 with
  | @cons _ u0 _ ur ra rw' =>
    obtain rfl : u0 = Value.ref a := ra
    have hlen : ur.length ≤ sizeLine := by
      rw [← Paired.length rw', sizeLine_eq]
      omega
    exact er_init T I1 ea hlen fun s' J => ⟨.non, H1, J, rfl, q⟩
theorem ps_erS (ho : PE X o to) (he : PE X e te) (hs : swapsWith e (some (.Attribute o f p')) pos.line X.env = pure false := by rfl) : PS X (.Assign [.Attribute o f p'] e pos) (tErS X.K D f to te) := by
  refine ⟨fun pins s σ H Dn I h => ?_⟩
  refine plainObj_wpAny_Assign_Attribute (thn (he.run pins s σ H _ I h) fun v s1 ⟨y, H1, I1, r1, q1⟩ => thn (ho.run pins s1 σ H1 _ I1 q1) fun u s2 ⟨x, H2, I2, r2, a, C, ex, T, hno, ea, q⟩ => ?_) hs
  subst ex
  obtain rfl : u = Value.ref a := r2
  exact er_set T I2 ea hno r1 fun dx s' n0 ne J => ⟨σ, _, J, q dx n0 ne⟩
end
end L2.Zz

/-! Z27: an own error made and raised, by its denotation. -/
namespace L2.Zz
open PySem PySem.Spec PyProof.Rows
variable {LT : LTab} {ce : List (Str × Addr)}
/-- __init__(self, x): D.__init__(self, ..); self.f = x -/
def spI (K : PySem.W.Frag) (D C : Addr) (f : Str) : Sp := fun vs H Q _ => ∃ (a : Addr) (y : V), vs = [.ref a, y] ∧ ErC K D C ∧ PySem.W.findIn K (.ref C) f = some none ∧ H a = some (exo a C none) ∧
  ∀ dx, H dx = none → dx ≠ a → Q .non (upd (upd H dx (exd dx [(f, y)])) a (exo a C (some dx)))
/-- __init__(self): D.__init__(self, ..) -/
def spI0 (K : PySem.W.Frag) (D C : Addr) : Sp := fun vs H Q _ => ∃ a : Addr, vs = [.ref a] ∧ ErC K D C ∧ H a = some (exo a C none) ∧ Q .non H
def tIn1 (K : PySem.W.Frag) (D C : Addr) (f : Str) : TS := fun Dn σ H => ∃ (a : Addr) (y : V), σ[0]? = some (some (.ref a)) ∧ σ[1]? = some (some y) ∧ ErC K D C ∧ PySem.W.findIn K (.ref C) f = some none ∧ H a = some (exo a C none) ∧
  ∀ dx, H dx = none → dx ≠ a → Dn.nx σ (upd (upd H dx (exd dx [(f, y)])) a (exo a C (some dx)))
def tIn0 (K : PySem.W.Frag) (D C : Addr) : TS := fun Dn σ H => ∃ a : Addr, σ[0]? = some (some (.ref a)) ∧ ErC K D C ∧ H a = some (exo a C none) ∧ Dn.nx σ H
section
variable {X : Cx} {o1 o2 e1 et : Expr} {n f : Str} {p1 p2 p3 p4 p5 p6 pos : Pos} {D C : Addr} {v0 : V}
theorem pe_erI1 (B : ErD X.K D) (hg : Gl X n) (hm : X.mg n = some (.ref D)) (h1 : PE X o1 (tVar 0)) (ht : PE X et (tC v0)) (hdb : (n == ("__debug__" : Str)) = false := by decide)
    (hc : ∃ pl : Sem Bool, eval (.Call (.Attribute (.Name n p1) "__init__" p2) [o1, et] [] p3) X.env = (do
      let ov ← eval (.Name n p1) X.env
      standAt p2.atName
      let (f, first) ← holding [ov] (getMethod ov "__init__" pl)
      callWith p3 f first (backTo p3 (starEach [o1, et] X.env)) (backToKw p3 (keywordEach [] X.env))) := by exact ⟨_, rfl⟩)
    (he : starEach [o1, et] X.env = (false, eval o1 X.env) :: starEach [et] X.env := by rfl) (he2 : starEach [et] X.env = (false, eval et X.env) :: starEach [] X.env := by rfl) (hpl : (backTo p3 (starEach [et] X.env)).any (·.1) = false := by rfl) :
    PE X (.Call (.Attribute (.Name n p1) "__init__" p2) [o1, et] [] p3) (fun σ H Q => ∃ a : Addr, σ[0]? = some (some (.ref a)) ∧ ErC X.K D C ∧ H a = some (exo a C none) ∧ Q .non H) := by
  obtain ⟨pl, hc⟩ := hc
  refine PE.wk (pe_erI B hg hm (pa_cons h1 (pa_cons ht pa_nil he2) he) hdb hc he hpl) fun σ H Q ⟨a, e, T, ea, q⟩ => ?_
  exact ⟨_, e, a, C, [v0], rfl, by simp, T, ea, q⟩
theorem z_in1 (h1 : PE X e1 (fun σ H Q => ∃ a : Addr, σ[0]? = some (some (.ref a)) ∧ ErC X.K D C ∧ H a = some (exo a C none) ∧ Q .non H)) (ho : PE X o2 (tVar 0)) (hv : PE X et (tVar 1))
    (hs : swapsWith e1 none p5.line X.env = pure false := by rfl) (hs2 : swapsWith et (some (.Attribute o2 f p4)) pos.line X.env = pure false := by rfl) :
    PSs X [.Expr e1 p5, .Assign [.Attribute o2 f p4] et pos] (tIn1 X.K D C f) :=
  PSs.wk (pss_cons (ps_expr h1 hs) (pss_one (ps_erS (D := D) ho hv hs2))) fun Dn σ H ⟨a, y, e0, e1, T, hno, ea, q⟩ =>
    ⟨a, e0, T, ea, y, e1, .ref a, e0, a, C, rfl, T, hno, ea, q⟩
theorem z_in0 (h1 : PE X e1 (fun σ H Q => ∃ a : Addr, σ[0]? = some (some (.ref a)) ∧ ErC X.K D C ∧ H a = some (exo a C none) ∧ Q .non H))
    (hs : swapsWith e1 none p5.line X.env = pure false := by rfl) :
    PSs X [.Expr e1 p5] (tIn0 X.K D C) :=
  PSs.wk (pss_one (ps_expr h1 hs)) fun Dn σ H ⟨a, e0, T, ea, q⟩ => ⟨a, e0, T, ea, q⟩
end
section
variable {P : Program} {w : World} {K : PySem.W.Frag} {mg : Str → Option Value} {base : Heap} {qual x : Str} {st : Stmt} {fI D C : Addr} {fd : FuncData} {f : Str}
theorem in1_ok (F : Fun K "__init__" qual st fI fd) (S : FnScope ["self", x] ["self", x] (defScope st))
    (hb : ∀ (cdv : Value) (A : Around) (outer : List Env) (s : Shared) (H : Hp) (E : XK), Room 0 (A.deeper (envOfC qual (defScope st) s.heap.objs.size fI cdv)) → PSs (cxOf (L2.CX P w) P w K mg base ["self", x] qual (defScope st) fI cdv A outer s H E) (defBody st) (tIn1 K D C f)) :
    FnOk P w K mg base (L2.CX P w) 1 fI fd ["self", x] (spI K D C f) :=
  F.okX S (fun vs H Q E ⟨_, _, e, _⟩ => by rw [e]; rfl) fun cdv A outer s H vs Q E hr ⟨a, y, e, T, hno, ea, q⟩ => ⟨_, hb cdv A outer s H E hr, a, y, by rw [e]; rfl, by rw [e]; rfl, T, hno, ea, q⟩
theorem in0_ok (F : Fun K "__init__" qual st fI fd) (S : FnScope ["self"] ["self"] (defScope st))
    (hb : ∀ (cdv : Value) (A : Around) (outer : List Env) (s : Shared) (H : Hp) (E : XK), Room 0 (A.deeper (envOfC qual (defScope st) s.heap.objs.size fI cdv)) → PSs (cxOf (L2.CX P w) P w K mg base ["self"] qual (defScope st) fI cdv A outer s H E) (defBody st) (tIn0 K D C)) :
    FnOk P w K mg base (L2.CX P w) 1 fI fd ["self"] (spI0 K D C) :=
  F.okX S (fun vs H Q E ⟨_, e, _⟩ => by rw [e]; rfl) fun cdv A outer s H vs Q E hr ⟨a, e, T, ea, q⟩ => ⟨_, hb cdv A outer s H E hr, a, by rw [e]; rfl, T, ea, q⟩
end
/-! ### the call -/
section
variable {X : Cx} {pins : List (Addr × Obj)} {σ : St} {H1 : Hp} {s : Shared} {C D fI : Addr} {f x : Str} {y : V} {u : Value} {Q : XK} {fd : FuncData}
theorem er_call (T : ErC X.K D C) (iC : PySem.W.findIn X.K (.ref C) "__init__" = some (some (.ref fI))) (tI : PySem.W.typeIn X.K (.ref fI) = some (.type "function")) (hno : PySem.W.findIn X.K (.ref C) f = some none)
    (F1 : FnOk X.prog X.w X.K X.mg X.base (L2.CX X.prog X.w) 1 fI fd ["self", x] (spI X.K D C f)) (hb : Binds X.K fd ["self", x] []) (hr : Room 2 X.A) (I1 : Inv X pins σ H1 s) (ry : RelV y u)
    (q : ∀ d, H1 d = none → Q (.ref C) (some d) (upd H1 d (.xd [(f, y)]))) : wpAny (model X.prog X.w) X.A (call (.ref C) [u]) (MkP X pins σ Q) X.xe s := by
  obtain ⟨nm, qn, N, bs, sn, sub, ab, col, dd, k0, k1, k2, k3, k5, hC⟩ := T.cls
  obtain ⟨hp, g, dr, tk, os⟩ := s
  have hsz : hp.objs.size ≤ hp.objs.size + 1 := Nat.le_succ _
  have hn : H1 (hp.objs.size + 1) = none := I1.hok.fresh hsz
  have kk : ∀ b o, hp.get? b = some o → ((hp.push (PySem.W.kdv_tup [u])).push (PySem.HandSPX.excO C hp.objs.size)).get? b = some o := fun b o e => Heap.get?_push_of_some _ (Heap.get?_push_of_some _ e)
  have hget : ((hp.push (PySem.W.kdv_tup [u])).push (PySem.HandSPX.excO C hp.objs.size)).get? (hp.objs.size + 1) = some (PySem.HandSPX.excO C hp.objs.size) := by heap_get
  have I2 : Inv X pins σ (upd H1 (hp.objs.size + 1) (exo (hp.objs.size + 1) C none)) ⟨(hp.push (PySem.W.kdv_tup [u])).push (PySem.HandSPX.excO C hp.objs.size), g, dr, tk, os⟩ :=
    I1.laid (t' := tk) (a := hp.objs.size + 1) (o := exo (hp.objs.size + 1) C none) (h' := (hp.push (PySem.W.kdv_tup [u])).push (PySem.HandSPX.excO C hp.objs.size)) kk hsz (exo_ok hget)
  have r2 : Vals [V.ref (hp.objs.size + 1), y] [Value.ref (hp.objs.size + 1), u] := .cons rfl (.cons ry .nil)
  refine wpAny_call (PySem.HandSPX.call_own PySem.F.excBase_ArithmeticError (ae_has D) (I1.kIn _ _ hC) (PySem.W.looks_findIn I1.kIn iC) (fun self => PySem.W.bind_fn I1.kIn self tI) (by rw [sizeLine_eq]; simp)
    (codeAny_mono (F1.run _ X.stack _ _ ⟨[Value.ref (hp.objs.size + 1), u], []⟩ [Value.ref (hp.objs.size + 1), u] [V.ref (hp.objs.size + 1), y]
      (fun v H2 => v = .non ∧ ∃ d, d ≠ hp.objs.size + 1 ∧ H1 d = none ∧ H2 = upd (upd (upd H1 (hp.objs.size + 1) (exo (hp.objs.size + 1) C none)) d (exd d [(f, y)])) (hp.objs.size + 1) (exo (hp.objs.size + 1) C (some d))) (fun _ _ _ => False)
      (hr.make C [u] []) (I2.env0.make C [u] []) (hb _ [Value.ref (hp.objs.size + 1), u] I2.kIn rfl) r2 ?_) fun r s' hq' => ?_))
  · refine ⟨_, y, rfl, T, hno, upd_same, fun dx n0 ne => ⟨rfl, dx, ne, ?_, rfl⟩⟩
    rw [upd_ne ne] at n0
    exact n0
  · cases r with
    | error er => exact passL pins σ _ _ er s' I2 hq'
    | ok fl =>
      cases fl with
      | ret u' =>
        obtain ⟨v, H2, os2, bare2, un2, hok2, rv, ev, d, hda, hd1, e2⟩ := hq'
        subst ev
        obtain ⟨h2, g2, d2, t2, os'⟩ := s'
        subst e2
        have fin := mk_end (Q := Q) (d2 := d2) (t2 := t2) (fs := [(f, y)]) (d := d) (raises_own T.exC T.tyC) I1 hsz kk un2 hok2 os2 bare2 upd_same (by rw [upd_ne hda, upd_same]) hd1 (by
          have eq : upd (del (upd (upd (upd H1 (hp.objs.size + 1) (exo (hp.objs.size + 1) C none)) d (exd d [(f, y)])) (hp.objs.size + 1) (exo (hp.objs.size + 1) C (some d))) (hp.objs.size + 1)) d (.xd [(f, y)]) = upd H1 d (.xd [(f, y)]) := by
            funext b
            by_cases hb : b = d
            · rw [hb, upd_same, upd_same]
            rw [upd_ne hb, upd_ne hb]
            by_cases ha : b = hp.objs.size + 1
            · rw [ha, del_same, hn]
            rw [del_ne ha, upd_ne ha, upd_ne hb, upd_ne ha]
          rw [eq]
          exact q d hd1)
        exact ⟨rv, fin⟩
      | next => exact False.elim hq'
      | brk => exact False.elim hq'
      | cont => exact False.elim hq'
/-- the error that has no dict is let go -/
theorem mk_none {hp hp2 h2 : Heap} {g1 g2 : Array GenState} {d1 d2 : Drawn} {t1 t2 : Nat} {os1 os2 : OsState} {a : Addr} (T : Raises X (.ref C)) (I1 : Inv X pins σ H1 ⟨hp, g1, d1, t1, os1⟩)
    (ha : hp.objs.size ≤ a) (k : ∀ b o, hp.get? b = some o → hp2.get? b = some o) (un : Un (frs X.stack) [] (upd H1 a (exo a C none)) (upd H1 a (exo a C none)) hp2 h2) (hok : HOk X.prog X.w (upd H1 a (exo a C none)) h2) (ho : os2 = os1) (hb : AllBare g2)
    (q : Q (.ref C) none H1) : MkP X pins σ Q (.ref a) ⟨h2, g2, d2, t2, os2⟩ := by
  obtain ⟨t0, hoe⟩ := exo_at hok upd_same
  have hn : H1 a = none := I1.hok.fresh ha
  obtain ⟨G, on, off⟩ := restrict h2 fun b => decide (b ≠ a)
  have gk : ∀ b, b ≠ a → G.get? b = h2.get? b := fun b z => on b (decide_eq_true z)
  have ge : G.get? a = none := off a (by simp)
  have nha : ∀ {b : Addr} {o : Obj}, hp.get? b = some o → b ≠ a := fun {b o} z => Nat.ne_of_lt (Nat.lt_of_lt_of_le (Heap.lt_size z) ha)
  have up : ∀ {b : Addr}, b ≠ a → H1 b = none → upd H1 a (exo a C none) b = none := fun {b} z n => by rw [upd_ne z]; exact n
  have U : Un (frs X.stack) [] H1 H1 hp G := {
    keep := fun b o z n hf hx => (gk b (nha z)).trans (un.keep b o (k b o z) (up (nha z) n) hf hx)
    slot := fun b o z n hf hx => by
      obtain ⟨sl, e⟩ := un.slot b o (k b o z) (up (nha z) n) hf hx
      exact ⟨sl, (gk b (nha z)).trans e⟩
    free := fun b o z n hx => n
    there := fun b o z hx => by
      obtain ⟨o', e⟩ := un.there b o (k b o z) hx
      exact ⟨o', (gk b (nha z)).trans e⟩
    tups := fun b xs z => z
    frzs := fun b o v z => z
    tbls := fun b ps z => ⟨#[], by rw [z]; simp⟩ }
  have hok3 : HOk X.prog X.w H1 G := fun b o z => by
    have hba : b ≠ a := fun e => by
      rw [e, hn] at z
      cases z
    have z2 : upd H1 a (exo a C none) b = some o := by rw [upd_ne hba]; exact z
    refine (hok b o z2).stay (fun c v hc y => ?_) (fun c hc => ?_) (fun c xs hc => ?_)
    · have hca : c ≠ a := by
        rcases hc with hc | hc
        · rw [hc]
          exact hba
        · exact at_ne upd_same hc exo_own
      exact (gk c hca).trans y
    · rw [upd_ne (at_ne upd_same hc exo_own)] at hc; exact hc
    · rw [upd_ne (at_ne upd_same hc exo_tup)] at hc; exact hc
  have J : Inv X pins σ H1 ⟨G, g2, d2, t2, os2⟩ := I1.call' (ch := []) ho U hok3 hb (fun b z => absurd z (by simp))
  refine ⟨a, _, _, ⟨G, g2, d2, t2, os2⟩, _, .ref C, none, rfl, J, fun b o z => ?_, ge, hoe, ⟨rfl, rfl⟩, rfl, rfl, hn, rfl, hb, T, q⟩
  by_cases hba : b = a
  · rw [hba, ge] at z
    cases z
  · exact (gk b hba).symm.trans z
theorem er_call0 (T : ErC X.K D C) (iC : PySem.W.findIn X.K (.ref C) "__init__" = some (some (.ref fI))) (tI : PySem.W.typeIn X.K (.ref fI) = some (.type "function"))
    (F1 : FnOk X.prog X.w X.K X.mg X.base (L2.CX X.prog X.w) 1 fI fd ["self"] (spI0 X.K D C)) (hb : Binds X.K fd ["self"] []) (hr : Room 2 X.A) (I1 : Inv X pins σ H1 s)
    (q : Q (.ref C) none H1) : wpAny (model X.prog X.w) X.A (call (.ref C) []) (MkP X pins σ Q) X.xe s := by
  obtain ⟨nm, qn, N, bs, sn, sub, ab, col, dd, k0, k1, k2, k3, k5, hC⟩ := T.cls
  obtain ⟨hp, g, dr, tk, os⟩ := s
  have hsz : hp.objs.size ≤ hp.objs.size + 1 := Nat.le_succ _
  have kk : ∀ b o, hp.get? b = some o → ((hp.push (PySem.W.kdv_tup [])).push (PySem.HandSPX.excO C hp.objs.size)).get? b = some o := fun b o e => Heap.get?_push_of_some _ (Heap.get?_push_of_some _ e)
  have hget : ((hp.push (PySem.W.kdv_tup [])).push (PySem.HandSPX.excO C hp.objs.size)).get? (hp.objs.size + 1) = some (PySem.HandSPX.excO C hp.objs.size) := by heap_get
  have I2 : Inv X pins σ (upd H1 (hp.objs.size + 1) (exo (hp.objs.size + 1) C none)) ⟨(hp.push (PySem.W.kdv_tup [])).push (PySem.HandSPX.excO C hp.objs.size), g, dr, tk, os⟩ :=
    I1.laid (t' := tk) (a := hp.objs.size + 1) (o := exo (hp.objs.size + 1) C none) (h' := (hp.push (PySem.W.kdv_tup [])).push (PySem.HandSPX.excO C hp.objs.size)) kk hsz (exo_ok hget)
  have r2 : Vals [V.ref (hp.objs.size + 1)] [Value.ref (hp.objs.size + 1)] := .cons rfl .nil
  refine wpAny_call (PySem.HandSPX.call_own PySem.F.excBase_ArithmeticError (ae_has D) (I1.kIn _ _ hC) (PySem.W.looks_findIn I1.kIn iC) (fun self => PySem.W.bind_fn I1.kIn self tI) (by rw [sizeLine_eq]; simp)
    (codeAny_mono (F1.run _ X.stack _ _ ⟨[Value.ref (hp.objs.size + 1)], []⟩ [Value.ref (hp.objs.size + 1)] [V.ref (hp.objs.size + 1)]
      (fun v H2 => v = .non ∧ H2 = upd H1 (hp.objs.size + 1) (exo (hp.objs.size + 1) C none)) (fun _ _ _ => False)
      (hr.make C [] []) (I2.env0.make C [] []) (hb _ [Value.ref (hp.objs.size + 1)] I2.kIn rfl) r2 ?_) fun r s' hq' => ?_))
  · exact ⟨_, rfl, T, upd_same, rfl, rfl⟩
  · cases r with
    | error er => exact passL pins σ _ _ er s' I2 hq'
    | ok fl =>
      cases fl with
      | ret u' =>
        obtain ⟨v, H2, os2, bare2, un2, hok2, rv, ev, e2⟩ := hq'
        subst ev
        obtain ⟨h2, g2, d2, t2, os'⟩ := s'
        subst e2
        exact ⟨rv, mk_none (d2 := d2) (t2 := t2) (raises_own T.exC T.tyC) I1 hsz kk un2 hok2 os2 bare2 q⟩
      | next => exact False.elim hq'
      | brk => exact False.elim hq'
      | cont => exact False.elim hq'
end
/-! ### raise -/
/-- raise C(..) -/
def dRaise (x : Str) (ns : List Str) (da : DA) : DS := fun σ => (da σ).bind fun rs σ1 => match dTup.vals rs with
  | some ps => if ps.length = ns.length then .ex ⟨x, ns, ps⟩ σ1 else .no
  | none => .no
/-- what is known of an error's class by its name -/
structure ErT (X : Cx) (n : Str) (ns : List Str) : Prop where
  ex : ∃ D C fI fd, ErC X.K D C ∧ X.mg n = some (.ref C) ∧ PySem.W.findIn X.K (.ref C) "__init__" = some (some (.ref fI)) ∧ PySem.W.typeIn X.K (.ref fI) = some (.type "function") ∧
    ((∃ f x, ns = [f] ∧ PySem.W.findIn X.K (.ref C) f = some none ∧ FnOk X.prog X.w X.K X.mg X.base (L2.CX X.prog X.w) 1 fI fd ["self", x] (spI X.K D C f) ∧ Binds X.K fd ["self", x] []) ∨
      (ns = [] ∧ FnOk X.prog X.w X.K X.mg X.base (L2.CX X.prog X.w) 1 fI fd ["self"] (spI0 X.K D C) ∧ Binds X.K fd ["self"] []))
section
variable {X : Cx} {W : WX} {e : Expr} {es : List Expr} {da : DA} {n f : Str} {p pos pos2 : Pos} {pins : List (Addr × Obj)} {σr : St}
theorem pmk_er {C D fI : Addr} {x : Str} {fd : FuncData} {ta : TA} (T : ErC X.K D C) (iC : PySem.W.findIn X.K (.ref C) "__init__" = some (some (.ref fI))) (tI : PySem.W.typeIn X.K (.ref fI) = some (.type "function")) (hno : PySem.W.findIn X.K (.ref C) f = some none)
    (F1 : FnOk X.prog X.w X.K X.mg X.base (L2.CX X.prog X.w) 1 fI fd ["self", x] (spI X.K D C f)) (hb : Binds X.K fd ["self", x] []) (hr : Room 2 X.A) (hg : Gl X n) (hm : X.mg n = some (.ref C)) (ha : PA X [e] ta)
    (hdb : (n == ("__debug__" : Str)) = false := by decide) (he : starEach [e] X.env = (false, eval e X.env) :: starEach [] X.env := by rfl) (hpl : (backTo pos (starEach [] X.env)).any (·.1) = false := by rfl) :
    PMk X (.Call (.Name n p) [e] [] pos) (fun σ H Q => ta σ H fun vs H1 => ∃ y, vs = [y] ∧ ∀ d, H1 d = none → Q (.ref C) (some d) (upd H1 d (.xd [(f, y)]))) := by
  intro pins s σ H Q I h
  refine wpAny_Call_Name_kw (ld_glob I hg hm ?_ hdb)
  refine PySem.W.callWith_K (h₀ := X.base) I.ok.mod.kin T.kC (thn (ha.run pos pins s σ H _ I h) fun us s1 ⟨vs, H1, I1, r1, y, ey, q⟩ => ⟨I1.kIn, ?_⟩) he hpl
  subst ey
  cases r1 with
  | cons ry r2 =>
    cases r2
    exact er_call T iC tI hno F1 hb hr I1 ry q
theorem pmk_er0 {C D fI : Addr} {fd : FuncData} (T : ErC X.K D C) (iC : PySem.W.findIn X.K (.ref C) "__init__" = some (some (.ref fI))) (tI : PySem.W.typeIn X.K (.ref fI) = some (.type "function"))
    (F1 : FnOk X.prog X.w X.K X.mg X.base (L2.CX X.prog X.w) 1 fI fd ["self"] (spI0 X.K D C)) (hb : Binds X.K fd ["self"] []) (hr : Room 2 X.A) (hg : Gl X n) (hm : X.mg n = some (.ref C))
    (hdb : (n == ("__debug__" : Str)) = false := by decide) :
    PMk X (.Call (.Name n p) [] [] pos) (fun σ H Q => Q (.ref C) none H) := by
  intro pins s σ H Q I h
  refine wpAny_Call_Name_kw (ld_glob I hg hm ?_ hdb)
  refine PySem.W.callWith_K0 I.kIn T.kC ?_
  exact er_call0 T iC tI F1 hb hr I h
theorem z_raise1 (hc : X.calm = true) (tk : Takes X W) (T : ErT X n [f]) (hr : Room 2 X.A) (hg : Gl X n) (ha : PA X [e] (EVA (cnE LT X ce) W da))
    (hdb : (n == ("__debug__" : Str)) = false := by decide) (he : starEach [e] X.env = (false, eval e X.env) :: starEach [] X.env := by rfl) (hpl : (backTo pos (starEach [] X.env)).any (·.1) = false := by rfl) :
    PS X (.Raise (some (.Call (.Name n p) [e] [] pos)) none pos2) (SV (cnE LT X ce) W (dRaise n [f] da)) := by
  obtain ⟨D, C, fI, fd, T1, hm, iC, tI, T2⟩ := T.ex
  rcases T2 with ⟨f', x, ef, hno, F1, hb⟩ | ⟨ef, _⟩
  · cases ef
    refine PS.wk (ps_raise hc tk (pmk_er T1 iC tI hno F1 hb hr hg hm ha hdb he hpl)) fun Dn σr H q => ?_
    obtain ⟨F, la, σ, S, fin⟩ := q
    refine ⟨F, la, σ, S, fin.expr.mono fun rs σ1 F1 H1 x1 S1 f1 vs es => ?_⟩
    cases qv : dTup.vals rs with
    | none => rw [qv] at f1; exact f1.elim
    | some ps =>
      rw [qv] at f1
      have rp := vals_ok es qv
      match ps, rp, f1 with
      | [], _, f1 => exact f1.elim
      | [p], rp, f1 =>
        unfold RFs at rp
        obtain ⟨y, r, e, hy, rn⟩ := rp
        unfold RFs at rn
        subst rn
        subst e
        refine ⟨y, rfl, fun d n0 => ?_⟩
        have k := upd_keeps (o := .xd [(f, y)]) n0
        refine f1 F1 _ σr _ _ (x1.trans (Ex.keeps k)) (S1.keeps k) ⟨C, rfl, hm⟩ (.inr ⟨d, [y], rfl, rfl, ?_, upd_same⟩)
        exact RFs.cons_ (RF.ext (fun _ h => h) (fun a o e _ => k a o e) _ _ hy) RFs.nil_
      | _ :: _ :: _, _, f1 => exact f1.elim
  · cases ef
theorem z_raise0 (hc : X.calm = true) (tk : Takes X W) (T : ErT X n []) (hr : Room 2 X.A) (hg : Gl X n) (hdb : (n == ("__debug__" : Str)) = false := by decide) :
    PS X (.Raise (some (.Call (.Name n p) [] [] pos)) none pos2) (SV (cnE LT X ce) W (dRaise n [] dNil)) := by
  obtain ⟨D, C, fI, fd, T1, hm, iC, tI, T2⟩ := T.ex
  rcases T2 with ⟨f', x, ef, _⟩ | ⟨_, F1, hb⟩
  · cases ef
  · refine PS.wk (ps_raise hc tk (pmk_er0 T1 iC tI F1 hb hr hg hm hdb)) fun Dn σr H q => ?_
    obtain ⟨F, la, σ, S, fin⟩ := q
    exact fin F H σr (.ref C) none (Ex.refl _) S ⟨C, rfl, hm⟩ (.inl ⟨rfl, rfl, rfl⟩)
end
end L2.Zz

/-! Z28: try .. except, clauses with and without a name. -/
namespace L2.Zz
open PySem PySem.Spec PyProof.Rows
variable {LT : LTab} {ce : List (Str × Addr)}
abbrev HSu := Addr → Value → Option Addr → TS
/-- the ends behind a suite whose name goes -/
def offAt (i : Nat) (D : Ends) : Ends := { nx := fun σ H => D.nx (σ.set i none) H, rt := D.rt, bk := fun σ H => D.bk (σ.set i none) H, ct := fun σ H => D.ct (σ.set i none) H }
/-- what the clauses wish of an exception -/
def wHs (K : PySem.W.Frag) (Wo : WX) (D : Ends) : List (Value × Option Nat × HSu) → WX
  | [] => Wo
  | (c, none, ts) :: r => fun cls d σ H => ∃ b, PySem.W.exmOne K cls c = some b ∧ (b = true → ∀ a, H a = none → ts a cls d D σ H) ∧ (b = false → wHs K Wo D r cls d σ H)
  | (c, some i, ts) :: r => fun cls d σ H => ∃ b, PySem.W.exmOne K cls c = some b ∧ (b = true → i < σ.length → ∀ a, H a = none → ts a cls d (offAt i D) (σ.set i (some (.ref a))) H) ∧ (b = false → wHs K Wo D r cls d σ H)
def Suits (X : Cx) (ss : List Stmt) (ts : HSu) : Prop := ∀ (a : Addr) (oe : Obj) (cls : Value) (d : Option Addr) (pn : List (Addr × Obj)), Zc cls d oe → (∃ vs, oe.data = .fields vs) → PSs (X.suite a ((a, oe) :: pn)) ss (ts a cls d)
inductive HsOk (X : Cx) : List ExceptHandler → List (Value × Option Nat × HSu) → Prop
  | nil : HsOk X [] []
  | one {x c ts b₀ su np pos' hds l} (hc : Names X x c) (hsu : Suits X (b₀ :: su) ts) (r : HsOk X hds l) : HsOk X (.ExceptHandler (some (.Name x np)) none (b₀ :: su) pos' :: hds) ((c, none, ts) :: l)
  | as {x c ts b₀ su np pos' hds l n i} (hc : Names X x c) (hi : X.N[i]? = some n) (hl : X.env.kindOf n = some .local) (hsu : Suits X (b₀ :: su) ts) (r : HsOk X hds l) :
      HsOk X (.ExceptHandler (some (.Name x np)) (some n) (b₀ :: su) pos' :: hds) ((c, some i, ts) :: l)
/-- an exception on the ground of X: sI the state without it -/
structure Air (X : Cx) (pins : List (Addr × Obj)) (σ : St) (H : Hp) (a : Addr) (cls : Value) (d : Option Addr) (B : Heap) (sI s : Shared) : Prop where
  J : Inv X pins σ H sI
  nb : ∀ b o, sI.heap.get? b = some o → b ∉ frs X.stack → B.get? b = some o
  up : sI.heap.UpToSlots s.heap
  fl : HandSPX.FlyingZ B (X.env :: X.outer) a (Zc cls d) s.heap
  na : H a = none
  os : s.os = sI.os
  ag : AllBare s.gens
section
variable {X : Cx} {pins : List (Addr × Obj)} {σ : St} {H : Hp} {a : Addr} {cls : Value} {d : Option Addr} {B : Heap} {sI s : Shared} {Wo : WX} {D : Ends}
theorem Air.inv (z : Air X pins σ H a cls d B sI s) : Inv X pins σ H s := z.J.landed z.nb z.fl.1 z.up z.os z.ag
theorem Air.off (hf : X.env.frame = some X.env.locals) (z : Air X pins σ H a cls d B sI s) : a ≠ X.env.locals ∧ a ∉ X.fs := by
  obtain ⟨o, vs, ho, _, hd⟩ := z.fl.there
  have out : a ∉ frs (X.env :: X.outer) := fun hm => by
    obtain ⟨_, o', ho', hnf⟩ := z.fl.2.2.1.mem hm
    rw [ho] at ho'
    cases ho'
    exact hnf _ hd
  refine ⟨fun e => out (List.mem_filterMap.mpr ⟨X.env, List.mem_cons_self, by rw [hf, e]⟩), fun hm => ?_⟩
  obtain ⟨e, he, q⟩ := List.mem_filterMap.mp hm
  exact out (List.mem_filterMap.mpr ⟨e, List.mem_cons_of_mem _ he, q⟩)
/-- it goes on -/
theorem Air.on (hs : X.stack = X.env :: X.outer) (hf : X.env.frame = some X.env.locals) (tk : Takes X Wo) (z : Air X pins σ H a cls d B sI s) (w : Wo cls d σ H) :
    wpAny (model X.prog X.w) X.A (handleBy (.ref a) X.env []) (SP X pins D) X.xe s := by
  refine wpAny_handleBy_nil ?_
  obtain ⟨_, _, _, oe, vs, T, oT, ts, he, hz, hd, h1, _⟩ := id z.fl
  unfold PySem.passOn
  refine wpAny_bind (wpAny_field he hd h1 ?_)
  rw [if_neg (show ¬ ((Value.ref T == Value.none) = true) from by simp)]
  have last : wpAny (model X.prog X.w) X.A (setFlight (.ref a) X.env.frame) (fun _ u => wpAny (model X.prog X.w) X.A (throw (.ref a) : Sem Flow) (SP X pins D) X.xe u) X.xe s := by
    rw [hf]
    refine HandSPX.setFlight_upZ z.fl fun h4 held up4 => wpAny_throw (tk _ _ ?_)
    exact ⟨a, B, sI, pins, σ, H, cls, d, rfl, z.J, z.nb, z.up.trans up4, .inr (.inr (by rw [hs]; exact held)), z.na, z.os, z.ag, w⟩
  first
    | exact wpAny_bind (wpAny_pure (wpAny_bind last))
    | exact wpAny_bind last
/-- the clause's test -/
theorem Air.test (hf : X.env.frame = some X.env.locals) (z : Air X pins σ H a cls d B sI s) {x : Str} {c : Value} {np : Pos} {b : Bool} (hc : Names X x c) (hb : PySem.W.exmOne X.K cls c = some b)
    {Q : Bool → Shared → Prop} {E : Value → Shared → Prop} (q : Q b s) :
    wpAny (model X.prog X.w) (X.A.mark (some (.ref a))) (eval (.Name x np) X.env) (fun v s' => wpAny (model X.prog X.w) (X.A.mark (some (.ref a))) (excMatches (.ref a) v) Q E s') E s := by
  obtain ⟨o, vs, ho, hz, hd⟩ := z.fl.there
  obtain ⟨nL, nF⟩ := z.off hf
  have J := z.inv.suite ho hd z.na nL nF
  have LT : PySem.W.Looks (model X.prog X.w) s.heap (typeOf (.ref a)) cls := fun A Q E s k q => wpAny_typeOf_ref (k _ _ ho) (by rw [hz.1]; exact q)
  have LM := PySem.W.exm_one (M := model X.prog X.w) z.inv.kIn LT hb
  obtain ⟨hg, hdb, hm | ⟨hm, hv, hnn⟩⟩ := hc
  · exact ld_glob (X := X.suite a ((a, o) :: (X.pn ++ pins))) J hg hm (LM.here q) hdb
  · exact ld_blt (X := X.suite a ((a, o) :: (X.pn ++ pins))) J hg hm hv (LM.here q) hnn hdb
theorem hands_ok (hs : X.stack = X.env :: X.outer) (hf : X.env.frame = some X.env.locals) (hN : X.N.Nodup) (tk : Takes X Wo) (z : Air X pins σ H a cls d B sI s) {hds : List ExceptHandler} {l : List (Value × Option Nat × HSu)} (hk : HsOk X hds l) :
    wHs X.K Wo D l cls d σ H → wpAny (model X.prog X.w) X.A (handleBy (.ref a) X.env hds) (SP X pins D) X.xe s := by
  have ok := z.J.ok
  obtain ⟨nL, nF⟩ := z.off hf
  induction hk with
  | nil => exact fun w => z.on hs hf tk w
  | @one x c ts b₀ su np pos' hds l hc hsu r ih =>
    intro ⟨b, hb, yes, no⟩
    refine wpAny_handleBy_cons (codeAny_handlers_test (z.test hf hc hb ?_)) (by intro q; cases q)
    cases b with
    | false => exact ih (no rfl)
    | true =>
      refine codeAny_handlers_suite (HandSPX.lands_againZ z.fl fun h4 fl4 up4 => ?_)
      have z4 : Air X pins σ H a cls d B sI { s with heap := h4 } := ⟨z.J, z.nb, z.up.trans up4, fl4, z.na, z.os, z.ag⟩
      obtain ⟨o, vs, ho, hz, hd⟩ := fl4.there
      refine wpAny_mono ((hsu a o cls d (X.pn ++ pins) hz ⟨_, hd⟩).run [] _ _ H _ (z4.inv.suite ho hd z.na nL nF) (yes rfl a z.na)) (fun f s6 hsp => ?_) (fun _ _ no => False.elim no)
      cases f with
      | ret u =>
        obtain ⟨v, σ6, H6, J6, r6, q6⟩ := hsp
        exact ⟨_, _, _, J6.unsuite ok, r6, q6⟩
      | next => obtain ⟨σ6, H6, J6, q6⟩ := hsp; exact ⟨_, _, J6.unsuite ok, q6⟩
      | brk => obtain ⟨σ6, H6, J6, q6⟩ := hsp; exact ⟨_, _, J6.unsuite ok, q6⟩
      | cont => obtain ⟨σ6, H6, J6, q6⟩ := hsp; exact ⟨_, _, J6.unsuite ok, q6⟩
  | @as x c ts b₀ su np pos' hds l n i hc hi hl hsu r ih =>
    intro ⟨b, hb, yes, no⟩
    refine wpAny_handleBy_cons (codeAny_handlers_test (z.test hf hc hb ?_)) (by intro q; cases q)
    cases b with
    | false => exact ih (no rfl)
    | true =>
      refine codeAny_handlers_suite_as (HandSPX.lands_againZ z.fl fun h4 fl4 up4 => ?_)
      have z4 : Air X pins σ H a cls d B sI { s with heap := h4 } := ⟨z.J, z.nb, z.up.trans up4, fl4, z.na, z.os, z.ag⟩
      obtain ⟨o, vs, ho, hz, hd⟩ := fl4.there
      refine store_ok (X := X.suite a ((a, o) :: (X.pn ++ pins))) (v := .ref a) (z4.inv.suite ho hd z.na nL nF) hN hi (.inl hl) rfl (fun s5 S5 => ?_) (.inr hl)
      refine wpAny_mono ((hsu a o cls d (X.pn ++ pins) hz ⟨_, hd⟩).run [] s5 _ H _ S5 (yes rfl (by rw [z.inv.len]; exact (List.getElem?_eq_some_iff.mp hi).1) a z.na)) (fun f s6 hsp => ?_) (fun _ _ no => False.elim no)
      have gone : ∀ {σ6 : St} {H6 : Hp} {P : Shared → Prop}, Inv (X.suite a ((a, o) :: (X.pn ++ pins))) [] σ6 H6 s6 → (∀ s7, Inv X pins (σ6.set i none) H6 s7 → P s7) →
          wpAny (model X.prog X.w) X.A (do bindName X.env n .none; unbindBehindTheSuite X.env n pos') (fun _ s7 => P s7) X.xe s6 := fun {σ6 H6 P} J6 hp => gone_ok (J6.unsuite ok) hN hi hl hp
      cases f with
      | ret u =>
        obtain ⟨v, σ6, H6, J6, r6, q6⟩ := hsp
        exact gone J6 fun s7 J7 => ⟨_, _, _, J7, r6, q6⟩
      | next => obtain ⟨σ6, H6, J6, q6⟩ := hsp; exact gone J6 fun s7 J7 => ⟨_, _, J7, q6⟩
      | brk => obtain ⟨σ6, H6, J6, q6⟩ := hsp; exact gone J6 fun s7 J7 => ⟨_, _, J7, q6⟩
      | cont => obtain ⟨σ6, H6, J6, q6⟩ := hsp; exact gone J6 fun s7 J7 => ⟨_, _, J7, q6⟩
theorem ps_tryZ {body : List Stmt} {h₀ : ExceptHandler} {hds : List ExceptHandler} {l : List (Value × Option Nat × HSu)} {pos : Pos} {tb : WX → TS} (hs : X.stack = X.env :: X.outer) (hf : X.env.frame = some X.env.locals) (hN : X.N.Nodup) (tk : Takes X Wo)
    (hb : ∀ (W : WX) (pn : List (Addr × Obj)) (xe : Value → Shared → Prop), Takes (X.tr pn xe) W → PassesOwn (model X.prog X.w) X.A X.env xe → PSs (X.tr pn xe) body (tb W))
    (hh : HsOk X (h₀ :: hds) l) : PS X (.Try body (h₀ :: hds) [] [] pos) (fun D σ H => tb (wHs X.K Wo D l) D σ H) := by
  refine ⟨fun pins s σ H D I h => ?_⟩
  have ok := I.ok
  have frames : X.A.frames = some (X.env :: X.outer) := by rw [ok.frames, hs]
  refine wpAny_Try_except ?_
  refine wpAny_mono ((hb (wHs X.K Wo D l) (X.pn ++ pins) (fun e s₁ => wpAny (model X.prog X.w) X.A (noteFrame e X.env) (fun _ s₂ => wpAny (model X.prog X.w) X.A (setFlight e none) (fun _ s₃ =>
    wpAny (model X.prog X.w) X.A (handleBy e X.env (h₀ :: hds)) (SP X pins D) X.xe s₃) X.xe s₂) X.xe s₁) (fun u s' caught => ?_) PassesOwn.looking).run [] s σ H D (I.toTry _) h) (fun f s1 hsp => ?_) (fun e s1 he => he)
  · obtain ⟨a, B, sI, _, σ', H', cls, d, rfl, J', nb, up, sky, na, os, ag, w⟩ := caught
    rw [show (X.tr (X.pn ++ pins) _).stack = X.env :: X.outer from hs] at sky
    show wpAny (model X.prog X.w) X.A (noteFrame (.ref a) X.env) _ _ _
    exact Sky.land Zc.steady frames hf sky fun h3 fl3 up3 => hands_ok hs hf hN tk (⟨J'.ofTry ok, nb, up.trans up3, fl3, na, os, ag⟩ : Air X pins σ' H' a cls d B sI { s' with heap := h3 }) hh w
  · cases f with
    | ret u => obtain ⟨v, σ', H', J', r, q⟩ := hsp; exact ⟨v, σ', H', J'.ofTry ok, r, q⟩
    | next => obtain ⟨σ', H', J', q⟩ := hsp; exact wpAny_execs_nil ⟨σ', H', J'.ofTry ok, q⟩
    | brk => obtain ⟨σ', H', J', q⟩ := hsp; exact ⟨σ', H', J'.ofTry ok, q⟩
    | cont => obtain ⟨σ', H', J', q⟩ := hsp; exact ⟨σ', H', J'.ofTry ok, q⟩
end
end L2.Zz

/-! Z29: what an except suite says of its error; try by its denotation. -/
namespace PySem.W
open PySem PySem.Spec PySem.Calls PyProof.Rows
section
variable {pg : Program} {wd : World} {Ar : Around} {Er : Value → Shared → Prop} {st : Shared} {K : Frag} {e D : Addr} {oe : Obj} {od : Option Obj}
/-- an error's class, asked by isinstance; with or without a dict -/
theorem er_class {Q : Option Value → Shared → Prop} (c : L2.ExcC K D) (X : K.In st.heap) (I : InstAt st.heap e oe D od) (h : Q (some (.ref D)) { st with toks := st.toks + 1 }) :
    wpAny (model pg wd) Ar (getAttr? (.ref e) "__class__") Q Er st := by
  have hf : findObj K D od "__class__" = some (.bind (.builtin "getset_descriptor.__get__") (.builtin "object.__class__")) := findObj_dataE (by obtain ⟨cd, hc, _⟩ := any_some c.hd; rw [hc]; rfl) c.ha c.hn c.ht
  obtain ⟨hp, g, d, t, os⟩ := st
  have ty := I.type (M := model pg wd)
  have lg := looks_findIn (M := model pg wd) X c.hg
  have lk := looks_findIn (M := model pg wd) X c.hk
  have lf := looks_find (M := model pg wd) X I hf
  have sub : Looks (model pg wd) hp (isInstance (.ref e) (.type "BaseException")) true := ty.andThen (looks_subIn X c.hs)
  have off2 : (Value.builtin "BaseException.__getattribute__" == Value.builtin "object.__getattribute__") = false := by decide +kernel
  have off1 : (onTheHeap (Value.ref D) && Value.builtin "BaseException.__getattribute__" == Value.builtin "object.__getattribute__") = false := by rw [off2]; rfl
  have off0 : (false && onTheHeap (Value.builtin "BaseException.__getattribute__")) = false := rfl
  unfold getAttr? getAttrBy? getAttrBy
  refine wpAny_bind (wpAny_mkText (wpAny_bind (wpAny_attempt (wpAny_holding (wpAny_bind (ty.at (wpAny_bind (lg.at ?_))))))))
  show wpAny _ _ (if (onTheHeap (Value.ref D) && Value.builtin "BaseException.__getattribute__" == Value.builtin "object.__getattribute__") = true then _ else _) _ _ _
  rw [off1, if_neg Bool.false_ne_true]
  unfold getAttrByItsOwn hookBefore
  refine wpAny_bind ?_
  rw [if_pos (show onTheHeap (Value.ref D) = true from rfl)]
  refine lk.at (wpAny_bind (wpAny_attempt (wpAny_holding ?_)))
  unfold callGetattribute
  rw [off0, if_neg Bool.false_ne_true]
  unfold boundAndCalled
  rw [PySem.F.excAttr_ValueError.ga.bind (.ref e)]
  refine wpAny_bind (wpAny_pure ?_)
  show wpAny _ _ (call (.builtin "BaseException.__getattribute__") [.ref e, .str "__class__" t]) _ _ _
  refine wpAny_call (codeAny_call_builtin PySem.F.excAttr_ValueError.ga.plain PySem.F.entry_bexc_ga ?_)
  refine @check_slot (model pg wd) _ _ ⟨hp, g, d, t + 1, os⟩ "BaseException.__getattribute__" "BaseException" "__getattribute__" (.ref e) [.str "__class__" t] [] _ (by decide +kernel) (by decide +kernel) sub (PySem.F.args_bexc_ga (.ref e) (.str "__class__" t)) ?_
  unfold Builtin.«object.__getattribute__»
  refine wpAny_bind (wpAny_of_eq (a := ((Value.ref e : Value), [Value.str "__class__" t])) (by first | rfl | (simp only [slotArgs]; rfl)) ?_)
  refine wpAny_bind (wpAny_pure (wpAny_bind (ty.at (wpAny_bind (lf.at ?_)))))
  show wpAny _ _ (holding [Value.builtin "object.__class__"] (call (.builtin "getset_descriptor.__get__") [.builtin "object.__class__", .ref e, .ref D]) >>= ret) _ _ _
  refine wpAny_bind (wpAny_holding (wpAny_call (class_get (s := ⟨hp, g, d, t + 1, os⟩) (ox := oe) (od := od) X I c.hm ?_)))
  refine wpAny_pure ?_
  show wpAny _ _ (handedOut (.ref D)) _ _ _
  rw [handedOut_of (v := .ref D) rfl]
  first
    | exact wpAny_pure (wpAny_pure h)
    | exact wpAny_pure h
    | exact wpAny_pure (wpAny_bind (wpAny_pure (wpAny_pure h)))
theorem er_kit (c : L2.ExcC K D) : KitX K (.ref e) (.ref D) (fun h => ∃ od, InstAt h e oe D od) where
  ty := fun _ _ _ ⟨_, I⟩ => I.type
  it := fun _ _ X _ => by
    obtain ⟨cd, hc, _⟩ := any_some c.hd
    unfold clsIn at hc
    split at hc
    · rename_i ho
      intro A' Q' E' s' k q
      unfold isType loadHead
      exact wpAny_bind (wpAny_loadPart (k _ _ (X _ _ ho)) (wpAny_pure q))
    · cases hc
  ne := fun h tp dd its n sl X htp => by
    obtain ⟨cd, hc, _⟩ := any_some c.hd
    refine Bool.eq_false_iff.mpr fun q => ?_
    have eq : D = tp := Value.ref.inj (beq_iff_eq.mp q)
    subst eq
    unfold clsIn at hc
    split at hc
    · rename_i ho
      have z := (X _ _ ho).symm.trans htp
      cases z
    · cases hc
  ca := fun X ⟨_, I⟩ k => er_class c X I k
end
end PySem.W
namespace L2.Zz
open PySem PySem.Spec PyProof.Rows
variable {LT : LTab} {ce : List (Str × Addr)}
def rIsX (K : PySem.W.Frag) (C a : Addr) (cls : Value) (d : Option Addr) (cv : Value) (b : Bool) : List V → Hp → VK → Prop := fun xs H Q => ∃ c, xs = [.ref a, c] ∧ cls = .ref C ∧ (∀ u, RelV c u → u = cv) ∧ PySem.W.kitOne K (.ref C) cv = some b ∧
  (d = none ∨ ∃ dd fs, d = some dd ∧ H dd = some (.xd fs)) ∧ Q (.bl b) H
theorem call_isX {X : Cx} {a C : Addr} {oe : Obj} {cls : Value} {d : Option Addr} {pn : List (Addr × Obj)} {cv : Value} {b : Bool} (T : ExcC X.K C) (hz : Zc cls d oe) (hf : ∃ vs, oe.data = .fields vs) : CallR (X.suite a ((a, oe) :: pn)) (.builtin "isinstance") (rIsX X.K C a cls d cv b) := by
  intro pins s σ H xs us Q I r h
  obtain ⟨c, rfl, rfl, hcv, e, hd, q⟩ := h
  cases r with
  | cons rx rr =>
    cases rr with
    | cons rt rr =>
      cases rr
      cases rx
      cases hcv _ rt
      obtain ⟨hget, _⟩ := I.pin (a, oe) (List.mem_append.mpr (.inl List.mem_cons_self))
      obtain ⟨vs, hv⟩ := hf
      have J : ∃ od, PySem.W.InstAt s.heap a oe C od := by
        rcases hd with rfl | ⟨dd, fs, rfl, ed⟩
        · exact ⟨none, hget, hz.1, by unfold PySem.W.notCls; rw [hv] <;> rfl, by rw [hz.2]; trivial⟩
        · have hx : ObjOk X.prog X.w H s.heap dd (.xd fs) := I.hok dd _ ed
          obtain ⟨mA, hns, _⟩ := hx
          obtain ⟨od, ho, _⟩ := lookIn_ns hns
          exact ⟨some od, hget, hz.1, by unfold PySem.W.notCls; rw [hv] <;> rfl, by rw [hz.2]; exact ho⟩
      exact PySem.W.kia_one (PySem.W.er_kit T) I.kIn J e (fun z => nomatch z) fun tk => ⟨.bl b, H, I.kept (t' := tk) fun _ _ z => z, rfl, q⟩
/-! ### expressions of a suite -/
def Sx (c : Cn) (nm : Option Nat) (a : Addr) (cls : Value) (d : Option Addr) (g : Exn → Option PV) : TE := fun σr H Q => ∃ F la σ ex p, SR c F la σ σr H ∧ (∀ i, nm = some i → σr[i]? = some (some (V.ref a))) ∧ (∃ C, cls = .ref C ∧ c.mg ex.cls = some (.ref C)) ∧ XF c F H ex d ∧ g ex = some p ∧
  ∀ v H', (∀ b o, H b = some o → H' b = some o) → RF c F H' p v → Q v H'
def PX (LT : LTab) (X : Cx) (ce : List (Str × Addr)) (nm : Option Nat) (e : Expr) (g : Exn → Option PV) : Prop := ∀ (a : Addr) (oe : Obj) (cls : Value) (d : Option Addr) (pn : List (Addr × Obj)), Zc cls d oe → (∃ vs, oe.data = .fields vs) → PE (X.suite a ((a, oe) :: pn)) e (Sx (cnE LT X ce) nm a cls d g)
def xC (p : PV) : Exn → Option PV := fun _ => some p
def xAt (n f : Str) : Exn → Option PV := fun ex => if ex.cls = n then (ex.ns.zip ex.vs).lookup f else none
def xIs (n : Str) (b : Bool) : Exn → Option PV := fun ex => if ex.cls = n then some (.bl b) else none
def xIf (t a b : Exn → Option PV) : Exn → Option PV := fun ex => match t ex with
  | some (.bl true) => a ex
  | some (.bl false) => b ex
  | _ => none
def xTwo (a b : Exn → Option PV) : Exn → Option PV := fun ex => match a ex, b ex with
  | some p, some q => some (.tup [p, q])
  | _, _ => none
section
variable {X : Cx} {nm : Option Nat} {i : Nat} {e e1 e2 : Expr} {g g1 g2 : Exn → Option PV} {pos p1 p2 p3 : Pos} {n f : Str}
theorem px_C {v : V} {p : PV} (h : ∀ Y : Cx, PE Y e (tC v)) (r : ∀ F H, RF (cnE LT X ce) F H p v) : PX LT X ce nm e (xC p) := fun a oe cls d pn hz hf => PE.wk (h _) fun σr H Q q => by
  obtain ⟨F, la, σ, ex, p', S, _, _, _, e, q⟩ := q
  cases e
  exact q v H (fun _ _ z => z) (r F H)
theorem px_str {x j} : PX LT X ce nm (.Constant (.str x) j pos) (xC (.str x)) := px_C (fun _ => pe_str) fun _ _ => RF.str_
theorem px_bl {x j} : PX LT X ce nm (.Constant (.bool x) j pos) (xC (.bl x)) := px_C (fun _ => pe_bl) fun _ _ => RF.bl_
theorem px_non {j} : PX LT X ce nm (.Constant .none j pos) (xC .non) := px_C (fun _ => pe_non) fun _ _ => RF.non_
theorem look_cons {α : Type} (f g : Str) (y : α) (fs : List (Str × α)) : ((f, y) :: fs).lookup g = if g = f then some y else fs.lookup g := by
  by_cases h : g = f
  · subst h; simp [List.lookup]
  · have e : (g == f) = false := by simpa using h
    rw [if_neg h]; simp [List.lookup, e]
theorem zip_lookup {c : Cn} {F : Addr → Prop} {H : Hp} : ∀ (ns : List Str) (ps : List PV) (us : List V) (f : Str) (p : PV), RFs c F H ps us → (ns.zip ps).lookup f = some p → ∃ u, (ns.zip us).lookup f = some u ∧ RF c F H p u
  | [], _, _, _, _, _, e => by simp at e
  | _ :: _, [], _, _, _, _, e => by simp at e
  | n :: ns, p' :: ps, us, f, p, r, e => by
    unfold RFs at r
    obtain ⟨u, r', rfl, r1, r2⟩ := r
    rw [List.zip_cons_cons, look_cons] at e ⊢
    by_cases h : f = n
    · rw [if_pos h] at e ⊢
      cases e
      exact ⟨u, rfl, r1⟩
    · rw [if_neg h] at e ⊢
      exact zip_lookup ns ps r' f p r2 e
theorem px_at {C : Addr} (T : XfC X.K C) (hno : PySem.W.findIn X.K (.ref C) f = some none) (hm : X.mg n = some (.ref C))
    (he : ∀ (a : Addr) (pn : List (Addr × Obj)), PE (X.suite a pn) e (tVar i)) (hb : ∀ (a : Addr) (pn : List (Addr × Obj)), attributeBase e f (X.suite a pn).env (eval e (X.suite a pn).env) = eval e (X.suite a pn).env := by intro _ _; rfl) : PX LT X ce (some i) (.Attribute e f pos) (xAt n f) := fun a oe cls d pn hz hf =>
  PE.wk (pe_xf (cls := cls) T hno hz hf (he a ((a, oe) :: pn)) (hb a ((a, oe) :: pn))) fun σr H Q q => by
    obtain ⟨F, la, σ, ex, p, S, sl, ⟨C', ec, hm'⟩, xf, e, q⟩ := q
    unfold xAt at e
    by_cases hn : ex.cls = n
    · rw [if_pos hn] at e
      have eC : C' = C := by
        rw [hn] at hm'
        have z : X.mg n = some (.ref C') := hm'
        rw [hm] at z
        cases z
        rfl
      subst eC
      rcases xf with ⟨e1, _, _⟩ | ⟨dd, us, e2, hl, r, hx⟩
      · rw [e1] at e; simp at e
      · obtain ⟨u, lu, ru⟩ := zip_lookup _ _ _ _ _ r e
        exact ⟨_, sl i rfl, rfl, ec, dd, _, u, e2, hx, lu, q u H (fun _ _ z => z) ru⟩
    · rw [if_neg hn] at e; cases e
theorem px_is {C D : Addr} {m : Str} {b : Bool} (T : ExcC X.K C) (hn : X.mg n = some (.ref C)) (hD : X.mg m = some (.ref D)) (hk : PySem.W.kitOne X.K (.ref C) (.ref D) = some b) (hg : Gl X "isinstance") (hi : X.mg "isinstance" = none) (hgm : Gl X m)
    (he : ∀ (a : Addr) (pn : List (Addr × Obj)), PE (X.suite a pn) e (tVar i)) (hdb : (m == ("__debug__" : Str)) = false := by decide)
    (h1 : ∀ (a : Addr) (pn : List (Addr × Obj)), starEach [e, .Name m p2] (X.suite a pn).env = (false, eval e (X.suite a pn).env) :: starEach [.Name m p2] (X.suite a pn).env := by intro _ _; rfl)
    (hpl : ∀ (a : Addr) (pn : List (Addr × Obj)), (backTo pos (starEach [.Name m p2] (X.suite a pn).env)).any (·.1) = false := by intro _ _; rfl) :
    PX LT X ce (some i) (.Call (.Name "isinstance" p1) [e, .Name m p2] [] pos) (xIs n b) := fun a oe cls d pn hz hf => by
  have hglob : PE (X.suite a ((a, oe) :: pn)) (.Name m p2) (tC (.ref D)) := ⟨fun pins s σ H Q I h => ld_glob I hgm hD ⟨V.ref D, H, I, rfl, h⟩ hdb⟩
  refine PE.wk (pe_callB (call_isX (cv := .ref D) (b := b) T hz hf) hg hi rfl (pa_cons (he a _) (pa_cons hglob pa_nil rfl) (h1 a _)) (by decide) (by decide) (h1 a _) (hpl a _)) fun σr H Q q => ?_
  obtain ⟨F, la, σ, ex, p, S, sl, ⟨C', ec, hm'⟩, xf, e, q⟩ := q
  unfold xIs at e
  by_cases hne : ex.cls = n
  · rw [if_pos hne] at e
    cases e
    have eC : C' = C := by
      rw [hne] at hm'
      have z : X.mg n = some (.ref C') := hm'
      rw [hn] at z
      cases z
      rfl
    subst eC
    refine ⟨_, sl i rfl, .ref D, rfl, ec, fun u z => z, hk, ?_, q _ H (fun _ _ z => z) RF.bl_⟩
    rcases xf with ⟨_, _, e3⟩ | ⟨dd, us, e2, hl, r, hx⟩
    · exact .inl e3
    · exact .inr ⟨dd, _, e2, hx⟩
  · rw [if_neg hne] at e; cases e
end
end L2.Zz

/-! Z30: suites; try by its denotation. -/
namespace L2.Zz
open PySem PySem.Spec PyProof.Rows
variable {LT : LTab} {ce : List (Str × Addr)}
theorem XF.keeps {c : Cn} {F : Addr → Prop} {H H' : Hp} {e : Exn} {d : Option Addr} (k : ∀ a o, H a = some o → H' a = some o) (x : XF c F H e d) : XF c F H' e d := by
  rcases x with x | ⟨dd, us, e1, l, r, hx⟩
  · exact .inl x
  · exact .inr ⟨dd, us, e1, l, RFs.ext (fun _ h => h) (fun a o e _ => k a o e) _ _ r, k _ _ hx⟩
section
variable {X : Cx} {nm : Option Nat} {e e1 e2 : Expr} {g g1 g2 : Exn → Option PV} {pos : Pos}
theorem px_if (ht : PX LT X ce nm e g) (h1 : PX LT X ce nm e1 g1) (h2 : PX LT X ce nm e2 g2) (he : ∀ (a : Addr) (pn : List (Addr × Obj)) (whole : Sem Value), isTrue e (X.suite a pn).env whole = (do let v ← whole; standAt e.pos; holding [v] (truthy v)) := by intro _ _ _; rfl) :
    PX LT X ce nm (.IfExp e e1 e2 pos) (xIf g g1 g2) := fun a oe cls d pn hz hf =>
  PE.wk (pe_ifExp (pt_val (ht a oe cls d pn hz hf) (he a ((a, oe) :: pn))) (h1 a oe cls d pn hz hf) (h2 a oe cls d pn hz hf)) fun σr H Q q => by
    obtain ⟨F, la, σ, ex, p, S, sl, cl, xf, e, q⟩ := q
    unfold xIf at e
    cases qt : g ex with
    | none => rw [qt] at e; cases e
    | some t =>
      rw [qt] at e
      cases t with
      | bl b =>
        refine ⟨F, la, σ, ex, _, S, sl, cl, xf, qt, fun v H' k r => ?_⟩
        unfold RF at r
        subst r
        refine ⟨b, rfl, ?_⟩
        cases b with
        | true => exact ⟨F, la, σ, ex, p, S.keeps k, sl, cl, xf.keeps k, e, fun v H2 k2 r2 => q v H2 (fun b o z => k2 b o (k b o z)) r2⟩
        | false => exact ⟨F, la, σ, ex, p, S.keeps k, sl, cl, xf.keeps k, e, fun v H2 k2 r2 => q v H2 (fun b o z => k2 b o (k b o z)) r2⟩
      | _ => cases e
theorem px_two {x1} (h1 : PX LT X ce nm e1 g1) (h2 : PX LT X ce nm e2 g2) (hs : ∀ (a : Addr) (pn : List (Addr × Obj)), starEach [e1, e2] (X.suite a pn).env = (false, eval e1 (X.suite a pn).env) :: starEach [e2] (X.suite a pn).env := by intro _ _; rfl)
    (hs2 : ∀ (a : Addr) (pn : List (Addr × Obj)), starEach [e2] (X.suite a pn).env = (false, eval e2 (X.suite a pn).env) :: starEach [] (X.suite a pn).env := by intro _ _; rfl) :
    PX LT X ce nm (.Tuple [e1, e2] x1 pos) (xTwo g1 g2) := fun a oe cls d pn hz hf =>
  PE.wk (pe_tup (pa_cons (h1 a oe cls d pn hz hf) (pa_cons (h2 a oe cls d pn hz hf) pa_nil (hs2 a _)) (hs a _))) fun σr H Q q => by
    obtain ⟨F, la, σ, ex, p, S, sl, cl, xf, e, q⟩ := q
    unfold xTwo at e
    cases q1 : g1 ex with
    | none => rw [q1] at e; cases e
    | some p1 =>
      cases q2 : g2 ex with
      | none => rw [q1, q2] at e; cases e
      | some p2 =>
        rw [q1, q2] at e
        cases e
        refine ⟨F, la, σ, ex, p1, S, sl, cl, xf, q1, fun v H1 k1 r1 => ⟨F, la, σ, ex, p2, S.keeps k1, sl, cl, xf.keeps k1, q2, fun u H2 k2 r2 => ⟨by rw [sizeLine_eq]; simp, fun t n0 => ?_⟩⟩⟩
        have k3 := upd_keeps (o := .tup [v, u]) n0
        refine q _ _ (fun b o z => k3 _ _ (k2 _ _ (k1 b o z))) ?_
        unfold RF
        have up := fun (p : PV) (v : V) (H0 : Hp) (k : ∀ b o, H0 b = some o → (upd H2 t (.tup [v, u])) b = some o) => k
        refine ⟨t, [v, u], rfl, SqT.of upd_same, RFs.cons_ (RF.ext (fun _ h => h) (fun a o e _ => k3 _ _ (k2 _ _ e)) _ _ r1) (RFs.cons_ (RF.ext (fun _ h => h) (fun a o e _ => k3 _ _ e) _ _ r2) RFs.nil_)⟩
end
/-! ### clauses -/
structure Hd where
  tab : List (Str × Bool)
  nm : Option Nat
  g : Exn → Option PV
  to : Option Nat
def offS (nm : Option Nat) (σ : PSt) : PSt := match nm with
  | none => σ
  | some i => ⟨σ.sl.set i none, σ.ln⟩
def hndA (d : Hd) (e : Exn) (σ : PSt) : Rs Fl := match d.g e with
  | none => .no
  | some p => match d.to with
    | none => .ok (.rt (.val p)) (offS d.nm σ)
    | some j => .ok .nx (offS d.nm ⟨(offS d.nm σ).sl.set j (some (.frz p)), σ.ln⟩)
def hnd : List Hd → Exn → PSt → Rs Fl
  | [], e, σ => .ex e σ
  | d :: r, e, σ => match d.tab.lookup e.cls with
    | none => .no
    | some true => hndA d e σ
    | some false => hnd r e σ
def dTry (b : DS) (hs : List Hd) : DS := fun σ => match b σ with
  | .ex e σ1 => hnd hs e σ1
  | o => o
/-- what the clause says of the classes -/
def Cls (X : Cx) (x : Str) (tab : List (Str × Bool)) : Prop := ∃ c, Names X x c ∧ ∀ n C b, tab.lookup n = some b → X.mg n = some (.ref C) → PySem.W.exmOne X.K (.ref C) c = some b
def NmOk (X : Cx) (nm : Option Str) (ni : Option Nat) : Prop := (nm = none ∧ ni = none) ∨ ∃ n i, nm = some n ∧ ni = some i ∧ X.N[i]? = some n ∧ X.env.kindOf n = some .local
inductive HdsZ (LT : LTab) (X : Cx) (ce : List (Str × Addr)) : List ExceptHandler → List Hd → Prop
  | nil : HdsZ LT X ce [] []
  | ret {x np nm ni e rp pos' tab g hds l} (hc : Cls X x tab) (hn : NmOk X nm ni) (he : PX LT X ce ni e g) (r : HdsZ LT X ce hds l) : HdsZ LT X ce (.ExceptHandler (some (.Name x np)) nm [.Return (some e) rp] pos' :: hds) (⟨tab, ni, g, none⟩ :: l)
  | set {x np nm ni e rp pos' tab g hds l y yp j} (hc : Cls X x tab) (hn : NmOk X nm ni) (he : PX LT X ce ni e g) (hN : X.N.Nodup) (hy : X.N[j]? = some y) (hl : X.env.kindOf y = some .local)
      (hs : ∀ (a : Addr) (pn : List (Addr × Obj)), swapsWith e (some (.Name y yp)) rp.line (X.suite a pn).env = pure false) (r : HdsZ LT X ce hds l) :
      HdsZ LT X ce (.ExceptHandler (some (.Name x np)) nm [.Assign [.Name y yp] e rp] pos' :: hds) (⟨tab, ni, g, some j⟩ :: l)
section
variable {c : Cn} {F : Addr → Prop} {la : List Addr} {σ : PSt} {σr : St} {H : Hp} {g : Gh}
theorem SR.off (S : SR c F la σ σr H) (x : Ex g ⟨F, H, Ow σ σr la⟩) (i : Nat) (v : Option V) : SR c F la ⟨σ.sl.set i none, σ.ln⟩ (σr.set i v) H ∧ Ex g ⟨F, H, Ow ⟨σ.sl.set i none, σ.ln⟩ (σr.set i v) la⟩ := by
  have out : ∀ {j : Nat} {s : Sl}, (σ.sl.set i none)[j]? = some (some s) → σ.sl[j]? = some (some s) ∧ (σr.set i v)[j]? = σr[j]? := fun {j s} h => by
    by_cases hj : i = j
    · subst hj
      by_cases hv : i < σ.sl.length
      · rw [List.getElem?_set_self hv] at h; cases h
      · rw [List.getElem?_eq_none (by simpa using hv)] at h; cases h
    · rw [List.getElem?_set_ne hj] at h
      exact ⟨h, List.getElem?_set_ne hj⟩
  refine ⟨⟨by simpa using S.len, fun j v e => ?_, fun j k e => ?_, fun j v e => ?_, fun j k v w b e1 e2 e3 e4 => ?_, S.lln, S.lnd, S.ln, S.ftr, fun j v e => ?_, S.tabs⟩, ⟨x.fr, x.kp, x.tb, fun a z => ?_, x.fn⟩⟩
  · obtain ⟨e1, e2⟩ := out e
    obtain ⟨u, e3, r⟩ := S.frz j v e1
    exact ⟨u, e2.trans e3, r⟩
  · obtain ⟨e1, e2⟩ := out e
    obtain ⟨u, e3, r⟩ := S.lo j k e1
    exact ⟨u, e2.trans e3, r⟩
  · obtain ⟨e1, e2⟩ := out e
    obtain ⟨u, e3, r⟩ := S.own j v e1
    exact ⟨u, e2.trans e3, r⟩
  · obtain ⟨f1, f2⟩ := out e1
    obtain ⟨f3, f4⟩ := out e2
    exact S.inj j k v w b f1 f3 (f2.symm.trans e3) (f4.symm.trans e4)
  · obtain ⟨e1, e2⟩ := out e
    obtain ⟨u, e3, r⟩ := S.clo j v e1
    exact ⟨u, e2.trans e3, r⟩
  · rcases z with z | ⟨j, w, e1, e2⟩
    · exact x.ow a (.inl z)
    · obtain ⟨f1, f2⟩ := out e1
      exact x.ow a (.inr ⟨j, w, f1, f2.symm.trans e2⟩)
end
/-- the clauses' wish, from what becomes of them -/
theorem hds_ok {X : Cx} {W : WX} {D : Ends} {la : List Addr} {g : Gh} {hds : List ExceptHandler} {l : List Hd} (h : HdsZ LT X ce hds l) : ∃ l', HsOk X hds l' ∧ ∀ (e : Exn) (σ : PSt), FinS (cnE LT X ce) W la g (hnd l e σ) (endP (cnE LT X ce) la g D) →
    ∀ F H σr cls dd, Ex g ⟨F, H, Ow σ σr la⟩ → SR (cnE LT X ce) F la σ σr H → (∃ C, cls = .ref C ∧ X.mg e.cls = some (.ref C)) → XF (cnE LT X ce) F H e dd → wHs X.K W D l' cls dd σr H := by
  induction h with
  | nil => exact ⟨[], .nil, fun e σ fin F H σr cls dd x S hc xf => fin F H σr cls dd x S hc xf⟩
  | @ret x np nm ni ee rp pos' tab gg hds l hc hn he r ih =>
    obtain ⟨l', ok, ih⟩ := ih
    obtain ⟨c, nms, hsub⟩ := hc
    have suits : Suits X [.Return (some ee) rp] (fun a cls d D σ H => Sx (cnE LT X ce) ni a cls d gg σ H D.rt) := fun a oe cls d pn hz hf => pss_one (ps_ret (he a oe cls d pn hz hf))
    have key : ∀ (e : Exn) (σ : PSt), FinS (cnE LT X ce) W la g (hnd (⟨tab, ni, gg, none⟩ :: l) e σ) (endP (cnE LT X ce) la g D) → ∀ F H σr cls dd, Ex g ⟨F, H, Ow σ σr la⟩ → SR (cnE LT X ce) F la σ σr H → (∃ C, cls = .ref C ∧ X.mg e.cls = some (.ref C)) → XF (cnE LT X ce) F H e dd →
        ∃ b, PySem.W.exmOne X.K cls c = some b ∧ (b = true → FinS (cnE LT X ce) W la g (hndA ⟨tab, ni, gg, none⟩ e σ) (endP (cnE LT X ce) la g D)) ∧ (b = false → wHs X.K W D l' cls dd σr H) := fun e σ fin F H σr cls dd x S hcl xf => by
      unfold hnd at fin
      dsimp only at fin
      cases q : tab.lookup e.cls with
      | none => rw [q] at fin; exact fin.elim
      | some b =>
        obtain ⟨C, rfl, hm⟩ := id hcl
        rw [q] at fin
        refine ⟨b, hsub _ _ _ q hm, fun eb => ?_, fun eb => ?_⟩
        · subst eb; exact fin
        · subst eb; exact ih e σ fin F H σr _ dd x S hcl xf
    rcases hn with ⟨rfl, rfl⟩ | ⟨n, i, rfl, rfl, hi, hl⟩
    · refine ⟨_, .one nms suits ok, fun e σ fin F H σr cls dd x S hcl xf => ?_⟩
      obtain ⟨b, h1, h2, h3⟩ := key e σ fin F H σr cls dd x S hcl xf
      refine ⟨b, h1, fun eb a na => ?_, h3⟩
      have f2 := h2 eb
      unfold hndA at f2
      dsimp only at f2
      cases qg : gg e with
      | none => rw [qg] at f2; exact f2.elim
      | some p =>
        rw [qg] at f2
        exact ⟨F, la, σ, e, p, S, (fun i z => nomatch z), hcl, xf, qg, fun v H' k rv => f2 F H' σr (x.trans (Ex.keeps k)) (S.keeps k) v rv⟩
    · refine ⟨_, .as nms hi hl suits ok, fun e σ fin F H σr cls dd x S hcl xf => ?_⟩
      obtain ⟨b, h1, h2, h3⟩ := key e σ fin F H σr cls dd x S hcl xf
      refine ⟨b, h1, fun eb hlt a na => ?_, h3⟩
      have f2 := h2 eb
      unfold hndA at f2
      dsimp only at f2
      cases qg : gg e with
      | none => rw [qg] at f2; exact f2.elim
      | some p =>
        rw [qg] at f2
        obtain ⟨S1, x1⟩ := S.off x i (some (V.ref a))
        exact ⟨F, la, _, e, p, S1, (fun k z => by cases z; exact List.getElem?_set_self hlt), hcl, xf, qg, fun v H' k rv => f2 F H' _ (x1.trans (Ex.keeps k)) (S1.keeps k) v rv⟩
  | @set x np nm ni ee rp pos' tab gg hds l y yp j hc hn he hN hy hly hsw r ih =>
    obtain ⟨l', ok, ih⟩ := ih
    obtain ⟨c, nms, hsub⟩ := hc
    have suits : Suits X [.Assign [.Name y yp] ee rp] (fun a cls d D σ H => Sx (cnE LT X ce) ni a cls d gg σ H fun v H' => D.nx (σ.set j (some v)) H') := fun a oe cls d pn hz hf =>
      PSs.wk (pss_one (ps_set hN hy (.inl hly) (he a oe cls d pn hz hf) (hsw a _) (.inr hly))) fun D σ H q => q
    have key : ∀ (e : Exn) (σ : PSt), FinS (cnE LT X ce) W la g (hnd (⟨tab, ni, gg, some j⟩ :: l) e σ) (endP (cnE LT X ce) la g D) → ∀ F H σr cls dd, Ex g ⟨F, H, Ow σ σr la⟩ → SR (cnE LT X ce) F la σ σr H → (∃ C, cls = .ref C ∧ X.mg e.cls = some (.ref C)) → XF (cnE LT X ce) F H e dd →
        ∃ b, PySem.W.exmOne X.K cls c = some b ∧ (b = true → FinS (cnE LT X ce) W la g (hndA ⟨tab, ni, gg, some j⟩ e σ) (endP (cnE LT X ce) la g D)) ∧ (b = false → wHs X.K W D l' cls dd σr H) := fun e σ fin F H σr cls dd x S hcl xf => by
      unfold hnd at fin
      dsimp only at fin
      cases q : tab.lookup e.cls with
      | none => rw [q] at fin; exact fin.elim
      | some b =>
        obtain ⟨C, rfl, hm⟩ := id hcl
        rw [q] at fin
        refine ⟨b, hsub _ _ _ q hm, fun eb => ?_, fun eb => ?_⟩
        · subst eb; exact fin
        · subst eb; exact ih e σ fin F H σr _ dd x S hcl xf
    rcases hn with ⟨rfl, rfl⟩ | ⟨n, i, rfl, rfl, hi, hl⟩
    · refine ⟨_, .one nms suits ok, fun e σ fin F H σr cls dd x S hcl xf => ?_⟩
      obtain ⟨b, h1, h2, h3⟩ := key e σ fin F H σr cls dd x S hcl xf
      refine ⟨b, h1, fun eb a na => ?_, h3⟩
      have f2 := h2 eb
      unfold hndA at f2
      dsimp only at f2
      cases qg : gg e with
      | none => rw [qg] at f2; exact f2.elim
      | some p =>
        rw [qg] at f2
        refine ⟨F, la, σ, e, p, S, (fun i z => nomatch z), hcl, xf, qg, fun v H' k rv => ?_⟩
        obtain ⟨x2, S2⟩ := set_sl (S.keeps k) (x.trans (Ex.keeps k)) j (s := .frz p) (v := v) rv fun a _ ⟨p, z⟩ => by cases z
        exact f2 F H' _ x2 S2
    · refine ⟨_, .as nms hi hl suits ok, fun e σ fin F H σr cls dd x S hcl xf => ?_⟩
      obtain ⟨b, h1, h2, h3⟩ := key e σ fin F H σr cls dd x S hcl xf
      refine ⟨b, h1, fun eb hlt a na => ?_, h3⟩
      have f2 := h2 eb
      unfold hndA at f2
      dsimp only at f2
      cases qg : gg e with
      | none => rw [qg] at f2; exact f2.elim
      | some p =>
        rw [qg] at f2
        obtain ⟨S1, x1⟩ := S.off x i (some (V.ref a))
        refine ⟨F, la, _, e, p, S1, (fun k z => by cases z; exact List.getElem?_set_self hlt), hcl, xf, qg, fun v H' k rv => ?_⟩
        obtain ⟨x2, S2⟩ := set_sl (S1.keeps k) (x1.trans (Ex.keeps k)) j (s := .frz p) (v := v) rv fun a _ ⟨p, z⟩ => by cases z
        obtain ⟨S3, x3⟩ := S2.off x2 i none
        exact f2 F H' _ x3 S3
theorem z_try {X : Cx} {W : WX} {body : List Stmt} {h₀ : ExceptHandler} {hds : List ExceptHandler} {l : List Hd} {b : DS} {pos : Pos} (hs : X.stack = X.env :: X.outer) (hf : X.env.frame = some X.env.locals) (hN : X.N.Nodup) (tk : Takes X W)
    (hb : ∀ (W : WX) (pn : List (Addr × Obj)) (xe : Value → Shared → Prop), Takes (X.tr pn xe) W → PassesOwn (model X.prog X.w) X.A X.env xe → PSs (X.tr pn xe) body (SV (cnE LT X ce) W b))
    (hh : HdsZ LT X ce (h₀ :: hds) l) : PS X (.Try body (h₀ :: hds) [] [] pos) (SV (cnE LT X ce) W (dTry b l)) := by
  refine ⟨fun pins s σr H D I q => ?_⟩
  obtain ⟨F, la, σ, S, fin⟩ := q
  obtain ⟨l', ok, key⟩ := hds_ok (W := W) (D := D) (la := la) (g := ⟨F, H, Ow σ σr la⟩) hh
  refine (ps_tryZ hs hf hN tk hb ok).run pins s σr H D I ⟨F, la, σ, S, ?_⟩
  unfold dTry at fin
  cases q : b σ with
  | ok r σ1 => rw [q] at fin; exact fin
  | no => rw [q] at fin; exact fin
  | ex e σ1 =>
    rw [q] at fin
    exact fun F' H' σr' cls dd x S' hc xf => key e σ1 fin F' H' σr' cls dd x S' hc xf
end L2.Zz

/-! Z31: a lambda is made. -/
namespace L2.Zz
open PySem PySem.Spec PyProof.Rows
variable {LT : LTab}
/-- all but tables stay, tables stay tables -/
def ExZ (H H1 : Hp) : Prop := (∀ b o, H b = some o → NoT o → H1 b = some o) ∧ ∀ b ps, H b = some (.tbl ps) → ∃ qs, H1 b = some (.tbl qs)
theorem ExZ.refl (H : Hp) : ExZ H H := ⟨fun _ _ h _ => h, fun _ ps h => ⟨ps, h⟩⟩
theorem ExZ.trans {H H1 H2 : Hp} (a : ExZ H H1) (b : ExZ H1 H2) : ExZ H H2 := ⟨fun x o h n => b.1 x o (a.1 x o h n) n, fun x ps h => let ⟨qs, e⟩ := a.2 x ps h; b.2 x qs e⟩
theorem ExZ.of {H H1 : Hp} (k : ∀ b o, H b = some o → H1 b = some o) : ExZ H H1 := ⟨fun b o h _ => k b o h, fun b ps h => ⟨ps, k b _ h⟩⟩
section
variable {X : Cx} {pins : List (Addr × Obj)} {σ : L2.St} {H : Hp} {s : Shared}
/-- the table is written, the code object stands at c' from now on -/
theorem inv_tab {P c' : Addr} {ps more : Array Value} {oc : Obj} {h' : Heap} {t' : Nat} (I : Inv X pins σ H s) (hP : H P = some (.tbl ps)) (k : ∀ b o, b ≠ P → s.heap.get? b = some o → h'.get? b = some o)
    (hm : h'.get? P = some { cls := .none, data := .fields (ps ++ more) }) (hc : s.heap.objs.size ≤ c') (ho : h'.get? c' = some oc) :
    Inv X pins σ (upd (upd H P (.tbl (ps ++ more))) c' (.frz oc (.own 0))) { s with heap := h', toks := t' } := by
  have n0 : H c' = none := I.hok.fresh hc
  have nPc : P ≠ c' := ne_of_none hP n0
  have off : ∀ b, b ≠ P → b ≠ c' → upd (upd H P (.tbl (ps ++ more))) c' (.frz oc (.own 0)) b = H b := fun b h1 h2 => by rw [upd_ne h2, upd_ne h1]
  have onP : upd (upd H P (.tbl (ps ++ more))) c' (.frz oc (.own 0)) P = some (.tbl (ps ++ more)) := by rw [upd_ne nPc, upd_same]
  have neP : ∀ b u, H b = some u → NoT u → b ≠ P := fun b u e q z => by
    rw [z, hP] at e
    exact q ps (Option.some.inj e).symm
  have neN : ∀ b, H b = none → b ≠ P := fun b e z => by
    rw [z, hP] at e
    cases e
  have lt' : ∀ b o, s.heap.get? b = some o → b ≠ c' := fun b o e z => by
    rw [z] at e
    exact Nat.lt_irrefl _ (Nat.lt_of_lt_of_le (Heap.lt_size e) hc)
  have sm : ∀ b u, H b = some u → b ≠ c' := fun b u e => ne_of_none e n0
  refine I.step (g' := s.gens) (d' := s.drawn) (ch := []) (fun b hb => absurd hb (by simp)) (fun b o _ _ _ e n => k b o (neN b n) e) (fun b o _ _ _ e n => ⟨o.slots, k b o (neN b n) e⟩)
    (fun b o _ e n => by rw [off b (neN b n) (lt' b o e)]; exact n) (fun b o _ e => ?_) (fun b xs e => by rw [off b (neP b _ e (fun q z => by cases z)) (sm b _ e)]; exact e) (fun b o u e => by rw [off b (neP b _ e (fun q z => by cases z)) (sm b _ e)]; exact e) (fun b qs e => ?_) (fun m hn => ?_) (fun b u e => ?_) I.bare
  · by_cases hb : b = P
    · rw [hb]
      exact ⟨_, hm⟩
    · exact ⟨o, k b o hb e⟩
  · by_cases hb : b = P
    · rw [hb, hP] at e
      cases e
      rw [hb, onP]
      exact ⟨more, rfl⟩
    · rw [off b hb (sm b _ e), e]
      exact ⟨#[], by simp⟩
  · obtain ⟨ob, es, ep, e1, r⟩ := hn
    exact ⟨ob, es, ep, k _ ob (neN _ I.free) e1, r⟩
  · by_cases hb : b = c'
    · rw [hb, upd_same] at e
      cases e
      rw [hb]
      exact ⟨ho, ⟨oc, ho⟩⟩
    by_cases hb2 : b = P
    · rw [hb2, onP] at e
      cases e
      rw [hb2]
      exact hm
    rw [off b hb2 hb] at e
    refine (I.hok b u e).stay (fun d v hd q => k d v ?_ q) (fun d q => by rw [off d (neP d _ q (fun q z => by cases z)) (sm d _ q)]; exact q) fun d xs q => by rw [off d (neP d _ q (fun q z => by cases z)) (sm d _ q)]; exact q
    rcases hd with z | z
    · rw [z]
      exact hb2
    · exact neP d _ z (fun q z => by cases z)
/-- a new object that never changes -/
theorem inv_frz {o : Obj} {h1 : Heap} {tk : Nat} (I : Inv X pins σ H s) (k : ∀ b u, s.heap.get? b = some u → h1.get? b = some u) (hge : s.heap.objs.size ≤ h1.objs.size) (hn : o.isFreed = false) :
    Inv X pins σ (upd H h1.objs.size (.frz o (.own 0))) { s with heap := h1.push o, toks := tk } := by
  have get : (h1.push o).get? h1.objs.size = some o := Heap.get?_push_size _ hn
  exact I.laid (t' := tk) (a := h1.objs.size) (o := .frz o (.own 0)) (fun b u e => Heap.get?_push_of_some _ (k b u e)) hge ⟨get, ⟨o, get⟩⟩
/-- the closure and its function object -/
theorem lam_tail {T : List (Addr × Str)} {c P : Addr} {L : LamD} {dV : Value} {pos : Pos} {ln : Nat} {E : Value → Shared → Prop} {Q : Value → Shared → Prop} (I : Inv X pins σ H s) (TB : LamX.TabB X.base X.mg c P) (hcode : X.env.code = .ref c)
    (hm : (P, L.q) ∈ T) (hu : ∀ p ∈ T, p.1 = P → p.2 = L.q) (hT : TabsZ T H) (hfree : ∀ y ∈ L.scope.names, y.2 = .free → ∃ c, X.env.cells.lookup y.1 = some c)
    (h : ∀ (f c' : Addr) (o : Obj) (H1 : Hp) (s' : Shared), Inv X pins σ H1 s' → ExZ H H1 → TabsZ T H1 → H f = none → H1 f = some (.frz o (.own 0)) → LamO L o (cloFrom X.env.cells L.scope.names []) c' dV → CodeZ H1 c' L.q → Q (.ref f) s') :
    wpAny (model X.prog X.w) X.A (makeTail "<lambda>" L.q L.params (.expr L.body) L.scope X.env dV .none none pos ln) Q E s := by
  obtain ⟨ps, hP, ht, ha⟩ := hT _ hm
  have bP : s.heap.BuiltinsAt X.mg P := TB.bm.keeps I.bk
  have hP' : s.heap.get? P = some { cls := .none, data := .fields ps } := I.hok P _ hP
  cases hc : codeAmong pos ps.toList with
  | none =>
    refine PySem.W.kdv_makeTail (mg := X.mg) (c := c) (P := P) (ps := ps) (closure_ok hfree) I.ok.glob (I.mod.glob.keeps I.bk) hcode (TB.code.keeps I.bk) hP' ht hc TB.gP bP fun c' ctv doc h' tk hx hge hlt hrec htb => ?_
    obtain ⟨c2, oc, vs, t, e2, hoc, hd, hv⟩ := hrec
    cases e2
    have hsz : s.heap.objs.size ≤ h'.objs.size := Nat.le_trans hge (Nat.le_of_lt hlt)
    have nC : H c' = none := I.hok.fresh hge
    have nP : P ≠ c' := ne_of_none hP nC
    have I1 := inv_tab (t' := tk) (more := #[rawInt pos.line, rawInt pos.col, .ref c']) (h' := h') I hP hx htb hge hoc
    have nF1 : h'.objs.size ≠ c' := Nat.ne_of_gt hlt
    have nF2 : h'.objs.size ≠ P := Nat.ne_of_gt (Nat.lt_of_lt_of_le (Heap.lt_size hP') hsz)
    have hF : H h'.objs.size = none := I.hok.fresh hsz
    have I2 := inv_frz (tk := tk) (o := PySem.W.kdv_obj "<lambda>" L.q L.params (.expr L.body) L.scope (cloFrom X.env.cells L.scope.names []) dV doc ((X.mg "__name__").getD .none) c' ctv) I1 (fun _ _ e => e) (Nat.le_refl _) rfl
    have keep : ∀ b o, H b = some o → NoT o → upd (upd (upd H P (.tbl (ps ++ #[rawInt pos.line, rawInt pos.col, .ref c']))) c' (.frz oc (.own 0))) h'.objs.size (.frz (PySem.W.kdv_obj "<lambda>" L.q L.params (.expr L.body) L.scope (cloFrom X.env.cells L.scope.names []) dV doc ((X.mg "__name__").getD .none) c' ctv) (.own 0)) b = some o := fun b o e n => by
      rw [upd_ne (ne_of_none e hF), upd_ne (ne_of_none e nC), upd_ne (fun z => n ps (Option.some.inj (e.symm.trans (by rw [z]; exact hP))))]
      exact e
    have atc : upd (upd (upd H P (.tbl (ps ++ #[rawInt pos.line, rawInt pos.col, .ref c']))) c' (.frz oc (.own 0))) h'.objs.size (.frz (PySem.W.kdv_obj "<lambda>" L.q L.params (.expr L.body) L.scope (cloFrom X.env.cells L.scope.names []) dV doc ((X.mg "__name__").getD .none) c' ctv) (.own 0)) c' = some (.frz oc (.own 0)) := by
      rw [upd_ne nF1.symm, upd_same]
    have eL : (ps ++ #[rawInt pos.line, rawInt pos.col, .ref c']).toList = ps.toList ++ [rawInt pos.line, rawInt pos.col, .ref c'] := by simp
    refine h h'.objs.size c' _ _ _ I2 ⟨keep, fun b qs e => ?_⟩ (fun p hp => ?_) hF upd_same ⟨doc, _, ctv, rfl⟩ ⟨oc, vs, t, atc, hd, hv⟩
    · by_cases hb : b = P
      · subst hb
        exact ⟨_, by rw [upd_ne nF2.symm, upd_ne nP, upd_same]⟩
      · exact ⟨qs, by rw [upd_ne (ne_of_none e hF), upd_ne (ne_of_none e nC), upd_ne hb]; exact e⟩
    · by_cases hb : p.1 = P
      · rw [hu p hp hb, hb]
        refine ⟨_, by rw [upd_ne nF2.symm, upd_ne nP, upd_same], by rw [eL]; exact PySem.TriplesOk_snoc _ _ _ _ ht, fun p' cv hcv => ?_⟩
        rw [eL] at hcv
        rcases LamX.among_app _ ht hcv with z | z
        · obtain ⟨c0, e1, e2⟩ := ha p' cv z
          exact ⟨c0, e1, e2.ext fun b o e s => keep b o e s.noT⟩
        · exact ⟨c', z, oc, vs, t, atc, hd, hv⟩
      · obtain ⟨ps', a1, a2, a3⟩ := hT p hp
        refine ⟨ps', by rw [upd_ne (ne_of_none a1 hF), upd_ne (ne_of_none a1 nC), upd_ne hb]; exact a1, a2, fun p' cv hcv => ?_⟩
        obtain ⟨c0, e1, e2⟩ := a3 p' cv hcv
        exact ⟨c0, e1, e2.ext fun b o e s => keep b o e s.noT⟩
  | some cv =>
    obtain ⟨c', e, hco⟩ := ha pos cv hc
    subst e
    refine PySem.W.kdv_makeTailHit (mg := X.mg) (c := c) (P := P) (ps := ps) (closure_ok hfree) I.ok.glob (I.mod.glob.keeps I.bk) hcode (TB.code.keeps I.bk) hP' ht hc bP fun ctv doc h' tk hx hsz => ?_
    have hF : H h'.objs.size = none := I.hok.fresh hsz
    have I1 := inv_frz (tk := tk) (o := PySem.W.kdv_obj "<lambda>" L.q L.params (.expr L.body) L.scope (cloFrom X.env.cells L.scope.names []) dV doc ((X.mg "__name__").getD .none) c' ctv) I hx hsz rfl
    have keep := upd_keeps (o := .frz (PySem.W.kdv_obj "<lambda>" L.q L.params (.expr L.body) L.scope (cloFrom X.env.cells L.scope.names []) dV doc ((X.mg "__name__").getD .none) c' ctv) (.own 0)) hF
    exact h h'.objs.size c' _ _ _ I1 (ExZ.of keep) (hT.ext fun b o e _ => keep b o e) hF upd_same ⟨doc, _, ctv, rfl⟩ (hco.ext fun b o e _ => keep b o e)
end
end L2.Zz

/-! Z32: a lambda, by its denotation. -/
namespace L2.Zz
open PySem PySem.Spec PyProof.Rows
variable {LT : LTab}
def dLam (k : Nat) : DE := fun σ => .ok (.clo k) σ
/-- the lambda's names: what it captures, its parameters (dn), the rest global -/
structure LamZ (sc scope : Scope) (caps dn : List Str) : Prop where
  kind : scope.kind = .function
  co : scope.isCoroutine = false
  gen : scope.isGenerator = false
  nocell : ∀ y ∈ scope.names, y.2 ≠ .cell
  free : ∀ y ∈ scope.names, y.2 = .free → y.1 ∈ caps ∧ (sc.names.lookup y.1 = some .cell ∨ sc.names.lookup y.1 = some .free)
  caps : ∀ y ∈ caps, scope.names.lookup y = some .free
  dn : ∀ y ∈ dn, scope.names.lookup y = some .local
def lamZB (sc scope : Scope) (caps dn : List Str) : Bool :=
  decide (scope.kind = .function) && !scope.isCoroutine && !scope.isGenerator && (scope.names.all fun y => !decide (y.2 = .cell) && (!decide (y.2 = .free) || (decide (y.1 ∈ caps) && (decide (sc.names.lookup y.1 = some .cell) || decide (sc.names.lookup y.1 = some .free))))) &&
    (caps.all fun y => decide (scope.names.lookup y = some .free)) && (dn.all fun y => decide (scope.names.lookup y = some .local))
theorem lamZ_by {sc scope : Scope} {caps dn : List Str} (h : lamZB sc scope caps dn = true) : LamZ sc scope caps dn := by
  unfold lamZB at h
  simp only [Bool.and_eq_true, Bool.or_eq_true, Bool.not_eq_true', decide_eq_true_eq, decide_eq_false_iff_not, List.all_eq_true] at h
  obtain ⟨⟨⟨⟨⟨h1, h2⟩, h3⟩, h4⟩, h5⟩, h6⟩ := h
  refine ⟨h1, h2, h3, fun y hy => (h4 y hy).1, fun y hy e => ?_, h5, h6⟩
  rcases (h4 y hy).2 with z | z
  · exact absurd e z
  · exact z
section
variable {X : Cx} {W : WX} {k : Nat} {q : Str} {params : Arguments} {body : Expr} {scope : Scope} {caps dn : List Str} {c P : Addr} {pos : Pos}
theorem LamZ.has (Z : LamZ X.env.scope scope caps dn) (ok : X.Ok) : ∀ y ∈ scope.names, y.2 = .free → ∃ c, X.env.cells.lookup y.1 = some c := fun y hy e => by
  rcases (Z.free y hy e).2 with z | z
  · exact ok.has _ (.inl z)
  · exact ok.has _ (.inr z)
theorem LamZ.clos (Z : LamZ X.env.scope scope caps dn) (ok : X.Ok) : (∀ y a, (cloFrom X.env.cells scope.names []).lookup y = some a → X.env.cells.lookup y = some a) ∧ (∀ y a, (cloFrom X.env.cells scope.names []).lookup y = some a → y ∈ caps) ∧
    ∀ y ∈ caps, ∃ a, (cloFrom X.env.cells scope.names []).lookup y = some a := by
  have inn : ∀ {y a}, (cloFrom X.env.cells scope.names []).lookup y = some a → (y, NameKind.free) ∈ scope.names ∧ X.env.cells.lookup y = some a := fun {y a} e => by
    rcases cloFrom_mem (PySem.mem_of_lookup e) with hm | ⟨h1, h2⟩
    · cases hm
    · obtain ⟨c1, hc⟩ := Z.has ok _ h1 rfl
      have hc : X.env.cells.lookup y = some c1 := hc
      have e2 : a = c1 := by
        rw [h2, hc] <;> rfl
      rw [e2]
      exact ⟨h1, hc⟩
  refine ⟨fun y a e => (inn e).2, fun y a e => (Z.free _ (inn e).1 rfl).1, fun y hy => ?_⟩
  exact mem_lookup (cloFrom_has (cells := X.env.cells) (acc := []) (PySem.mem_of_lookup (Z.caps y hy)))
/-- what the maker's place must be -/
structure MkT (LT : LTab) (X : Cx) (q : Str) : Prop where
  ex : ∃ c P, LamX.TabB X.base X.mg c P ∧ X.env.code = .ref c ∧ (P, q) ∈ LT.T ∧ ∀ p ∈ LT.T, p.1 = P → p.2 = q
theorem lam_end {pins : List (Addr × Obj)} {σr : St} {H H0 : Hp} {s : Shared} {Q : VK} {F : Addr → Prop} {la : List Addr} {σ : PSt} {dV : Value} {dv : List Int} {ln : Nat} {E : Value → Shared → Prop} (M : MkT LT X q) (hk : LT.lam k = some ⟨q, params, body, scope, caps, dv⟩) (Z : LamZ X.env.scope scope caps dn)
    (I : Inv X pins σr H0 s) (S : SR (cn LT X) F la σ σr H0) (x : Ex ⟨F, H, Ow σ σr la⟩ ⟨F, H0, Ow σ σr la⟩) (hd : DflZ H0 dV dv) (f : Fin (cn LT X) W la σr ⟨F, H, Ow σ σr la⟩ (.ok (.clo k) σ) (PE0 (cn LT X) la σr ⟨F, H, Ow σ σr la⟩ Q)) :
    wpAny (model X.prog X.w) X.A (makeTail "<lambda>" q params (.expr body) scope X.env dV .none none pos ln) (fun v s' => ∃ (y : V) (H' : Hp), Inv X pins σr H' s' ∧ RelV y v ∧ Q y H') E s := by
  obtain ⟨c, P, TB, hcode, hm, hu⟩ := M.ex
  refine lam_tail (L := ⟨q, params, body, scope, caps, dv⟩) I TB hcode hm hu S.tabs (Z.has I.ok) fun f' c' o H1 s' I1 xz T1 n0 hf lo co => ?_
  have keep : ∀ b u, H0 b = some u → (F b ∨ Stl u) → H1 b = some u := fun b u e h => by
    refine xz.1 b u e ?_
    rcases h with h | h
    · obtain ⟨u', e', n⟩ := S.ftr b h
      rw [e] at e'; cases e'
      exact n
    · exact h.noT
  have S1 : SR (cn LT X) F la σ σr H1 := ⟨S.len, fun i v e => let ⟨u, e1, r⟩ := S.frz i v e; ⟨u, e1, RF.ext (fun _ h => h) keep _ _ r⟩, S.lo,
    fun i v e => let ⟨a, e1, r, n, m⟩ := S.own i v e; ⟨a, e1, r.ext (fun _ h => h) keep (fun o e => xz.1 _ o e (r.noT e)), n, m⟩, S.inj, S.lln, S.lnd,
    fun j v a e e1 => let ⟨r, n⟩ := S.ln j v a e e1; ⟨r.ext (fun _ h => h) keep (fun o e => xz.1 _ o e (r.noT e)), n⟩, fun a h => let ⟨u, e, n⟩ := S.ftr a h; ⟨u, xz.1 _ _ e n, n⟩,
    fun i v e => let ⟨u, e1, r⟩ := S.clo i v e; ⟨u, e1, r.ext (fun _ h => h) keep⟩, T1⟩
  have x1 : Ex ⟨F, H0, Ow σ σr la⟩ ⟨F, H1, Ow σ σr la⟩ := ⟨fun _ h => h, fun a o e _ n => xz.1 a o e n, xz.2, fun _ h => .inl h, fun _ h => .inl h⟩
  obtain ⟨c1, c2, c3⟩ := Z.clos I.ok
  exact ⟨.ref f', H1, I1, rfl, f F H1 (x.trans x1) S1 _ (show OwnZ (cn LT X) H1 k (.ref f') from ⟨f', _, _, rfl, hk, ⟨o, c', dV, hf, lo, co, hd.ext fun a o e s => xz.1 a o e s.noT⟩, c1, c2, c3⟩)⟩
theorem z_lam (M : MkT LT X q) (hk : LT.lam k = some ⟨q, params, body, scope, caps, []⟩) (Z : LamZ X.env.scope scope caps []) (hq : X.env.qual ++ "<lambda>" = q := by rfl) (hdef : defaultsOf params X.env = ([], []) := by rfl) :
    PE X (.Lambda params body scope pos) (EV (cn LT X) W (dLam k)) := by
  refine ⟨fun pins s σr H Q I h => ?_⟩
  obtain ⟨F, la, σ, S, f⟩ := h
  refine PySem.W.kla_eval hdef ?_
  rw [makeFunction_eq]
  simp only [List.zip_nil_right, List.filterMap_nil, List.isEmpty_nil, if_true, pure_bind]
  rw [hq]
  exact lam_end M hk Z I S (Ex.refl _) (.inl ⟨rfl, rfl⟩) f
theorem z_lamD {e0 : Expr} {i0 : Int} {x0 : Str} (M : MkT LT X q) (hk : LT.lam k = some ⟨q, params, body, scope, caps, [i0]⟩) (Z : LamZ X.env.scope scope caps [x0]) (hd0 : params.defaults = [e0]) (hk0 : params.kw_defaults = []) (h0 : PE X e0 (tC (.int i0))) (hq : X.env.qual ++ "<lambda>" = q := by rfl) :
    PE X (.Lambda params body scope pos) (EV (cn LT X) W (dLam k)) := by
  refine ⟨fun pins s σr H Q I h => ?_⟩
  obtain ⟨F, la, σ, S, f⟩ := h
  refine PySem.W.kdv_lam (by rw [hd0]; rfl) hk0 ?_
  rw [hd0]
  refine PySem.W.kdv_all1 (thn (h0.run pins s σr H (fun v H1 => v = .int i0 ∧ H1 = H) I ⟨rfl, rfl⟩) fun u s1 ⟨v, H1, I1, r1, q1⟩ => PySem.W.kdv_all0 ?_)
  obtain ⟨rfl, rfl⟩ := q1
  rw [makeFunction_eq]
  simp only [List.zip_nil_right, List.filterMap_nil, List.isEmpty_nil, List.isEmpty_cons, if_true, pure_bind, Bool.false_eq_true, if_false]
  rw [hq]
  have hF : H1 s1.heap.objs.size = none := I1.hok.fresh (Nat.le_refl _)
  have keep := upd_keeps (o := .frz (PySem.W.kdv_tup [u]) (.own 0)) hF
  have I2 := inv_frz (tk := s1.toks) (o := PySem.W.kdv_tup [u]) I1 (fun _ _ e => e) (Nat.le_refl _) rfl
  refine wpAny_bind (wpAny_newTextTuple ?_)
  exact lam_end M hk Z I2 (S.keeps keep) (Ex.keeps keep) (.inr ⟨_, [u], rfl, by simp, upd_same, .cons r1 .nil⟩) f
end
end L2.Zz

/-! Z33: the cells of a frame, seen from outside for the time of a call. -/
namespace L2.Zz
open PySem PySem.Spec PyProof.Rows
variable {LT : LTab}
abbrev Cel := Addr → Option Obj
def addC (H : Hp) (C : Cel) : Hp := fun b => match C b with
  | some o => some (.frz o (.own 0))
  | none => H b
def subC (H : Hp) (C : Cel) : Hp := fun b => match C b with
  | some _ => none
  | none => H b
theorem addC_in {H : Hp} {C : Cel} {b : Addr} {o : Obj} (h : C b = some o) : addC H C b = some (.frz o (.own 0)) := by unfold addC; rw [h]
theorem addC_out {H : Hp} {C : Cel} {b : Addr} (h : C b = none) : addC H C b = H b := by unfold addC; rw [h]
theorem subC_in {H : Hp} {C : Cel} {b : Addr} {o : Obj} (h : C b = some o) : subC H C b = none := by unfold subC; rw [h]
theorem subC_out {H : Hp} {C : Cel} {b : Addr} (h : C b = none) : subC H C b = H b := by unfold subC; rw [h]
section
variable {P : Program} {w : World} {H H' : Hp} {h h' : Heap} {fs : List Addr} {C : Cel}
theorem cOut {b : Addr} {u : HO} (hc : ∀ b o, C b = some o → H b = none) (e : H b = some u) : C b = none := by
  cases q : C b with
  | none => rfl
  | some o => rw [hc b o q] at e; cases e
theorem addC_keeps (hc : ∀ b o, C b = some o → H b = none) : ∀ b o, H b = some o → addC H C b = some o := fun b o e => by rw [addC_out (cOut hc e)]; exact e
theorem hok_add (ok : HOk P w H h) (hg : ∀ b o, C b = some o → h.get? b = some o) (hc : ∀ b o, C b = some o → H b = none) : HOk P w (addC H C) h := fun b u e => by
  cases q : C b with
  | some o =>
    rw [addC_in q] at e
    cases e
    exact ⟨hg b o q, ⟨o, hg b o q⟩⟩
  | none =>
    rw [addC_out q] at e
    exact (ok b u e).stay (fun _ _ _ z => z) (fun x z => addC_keeps hc x _ z) fun x xs z => addC_keeps hc x _ z
theorem hok_sub (ok : HOk P w H h) (hc : ∀ b o, C b = some o → H b = some (.frz o (.own 0))) : HOk P w (subC H C) h := fun b u e => by
  cases q : C b with
  | some o => rw [subC_in q] at e; cases e
  | none =>
    rw [subC_out q] at e
    refine (ok b u e).stay (fun _ _ _ z => z) (fun x z => ?_) fun x xs z => ?_
    · cases qx : C x with
      | some o => rw [hc x o qx] at z; cases z
      | none => rw [subC_out qx]; exact z
    · cases qx : C x with
      | some o => rw [hc x o qx] at z; cases z
      | none => rw [subC_out qx]; exact z
/-- behind the maker's call -/
theorem un_sub (U : Un fs [] (addC H C) H' h h') (ok : HOk P w H' h') (hg : ∀ b o, C b = some o → h.get? b = some o) (hc : ∀ b o, C b = some o → H b = none) : Un fs [] H (subC H' C) h h' ∧ HOk P w (subC H' C) h' := by
  have at_ : ∀ b o, C b = some o → H' b = some (.frz o (.own 0)) := fun b o e => U.frzs b o _ (addC_in e)
  have get : ∀ b o, C b = some o → h'.get? b = some o := fun b o e => (ok b _ (at_ b o e)).1
  refine ⟨⟨fun b o e n hf hx => ?_, fun b o e n hf hx => ?_, fun b o e n hx => ?_, U.there, fun b xs e => ?_, fun b o u e => ?_, fun b ps e => ?_⟩, hok_sub ok at_⟩
  · cases q : C b with
    | some o1 =>
      have := hg b o1 q
      rw [e] at this; cases this
      exact get b o q
    | none => exact U.keep b o e (by rw [addC_out q]; exact n) hf hx
  · cases q : C b with
    | some o1 =>
      have := hg b o1 q
      rw [e] at this; cases this
      exact ⟨o.slots, get b o q⟩
    | none => exact U.slot b o e (by rw [addC_out q]; exact n) hf hx
  · cases q : C b with
    | some o1 => exact subC_in q
    | none => rw [subC_out q]; exact U.free b o e (by rw [addC_out q]; exact n) hx
  · rw [subC_out (cOut hc e)]; exact U.tups b xs (addC_keeps hc b _ e)
  · rw [subC_out (cOut hc e)]; exact U.frzs b o u (addC_keeps hc b _ e)
  · rw [subC_out (cOut hc e)]; exact U.tbls b ps (addC_keeps hc b _ e)
/-- behind the lambda's body -/
theorem un_add (U : Un fs [] (subC H C) H' h h') (ok0 : HOk P w H h) (hc : ∀ b o, C b = some o → H b = some (.frz o (.own 0))) (hf0 : ∀ b ∈ fs, H b = none) :
    Un fs [] H (addC H' C) h h' ∧ ∀ h2, (∀ b o, C b = some o → h2.get? b = some o) → HOk P w H' h2 → HOk P w (addC H' C) h2 := by
  have out : ∀ {b : Addr}, H b = none → C b = none := fun {b} e => by
    cases q : C b with
    | none => rfl
    | some o => rw [hc b o q] at e; cases e
  have free : ∀ b o, C b = some o → H' b = none := fun b o e => U.free b o (ok0 b _ (hc b o e)).1 (subC_in e) (by simp)
  refine ⟨⟨fun b o e n hf hx => U.keep b o e (by rw [subC_out (out n)]; exact n) hf hx, fun b o e n hf hx => U.slot b o e (by rw [subC_out (out n)]; exact n) hf hx, fun b o e n hx => ?_, U.there, fun b xs e => ?_, fun b o u e => ?_, fun b ps e => ?_⟩, fun h2 hg ok => hok_add ok hg free⟩
  · rw [addC_out (out n)]; exact U.free b o e (by rw [subC_out (out n)]; exact n) hx
  · cases q : C b with
    | some o1 => rw [hc b o1 q] at e; cases e
    | none => rw [addC_out q]; exact U.tups b xs (by rw [subC_out q]; exact e)
  · cases q : C b with
    | some o1 =>
      rw [hc b o1 q] at e
      cases e
      exact addC_in q
    | none => rw [addC_out q]; exact U.frzs b o u (by rw [subC_out q]; exact e)
  · cases q : C b with
    | some o1 => rw [hc b o1 q] at e; cases e
    | none => rw [addC_out q]; exact U.tbls b ps (by rw [subC_out q]; exact e)
theorem cells_stay (U : Un fs [] (subC H C) H' h h') (ok0 : HOk P w H h) (hc : ∀ b o, C b = some o → H b = some (.frz o (.own 0))) (hf0 : ∀ b ∈ fs, H b = none) : ∀ b o, C b = some o → h'.get? b = some o := fun b o e =>
  U.keep b o (ok0 b _ (hc b o e)).1 (subC_in e) (fun hm => by have := hf0 b hm; rw [hc b o e] at this; cases this) (by simp)
/-- an exception that left the lambda -/
theorem cx_add {outer : List Env} {s s' : Shared} {E : XK} {u : Value} (ok0 : HOk P w H s.heap) (hc : ∀ b o, C b = some o → H b = some (.frz o (.own 0))) (hf0 : ∀ b ∈ frs outer, H b = none)
    (x : L2.CX P w outer (subC H C) s (fun cls d H' => (∀ b o, C b = some o → H' b = none) → E cls d (addC H' C)) u s') : L2.CX P w outer H s E u s' := by
  obtain ⟨a, B, H', cls, d, rfl, fl, okB, ub, na, os, ag, e⟩ := x
  have out : ∀ {b : Addr}, H b = none → C b = none := fun {b} e => by
    cases q : C b with
    | none => rfl
    | some o => rw [hc b o q] at e; cases e
  have get : ∀ b o, C b = some o → B.get? b = some o := fun b o q => ub.keep b o (ok0 b _ (hc b o q)).1 (subC_in q) (fun hm => by have := hf0 b hm; rw [hc b o q] at this; cases this)
  have free : ∀ b o, C b = some o → H' b = none := fun b o q => ub.free b o (ok0 b _ (hc b o q)).1 (subC_in q)
  refine ⟨a, B, addC H' C, cls, d, rfl, fl, hok_add okB get free, ⟨fun b o e n hf => ub.keep b o e (by rw [subC_out (out n)]; exact n) hf, ub.slot, fun b o e n => ?_, ub.there, fun b xs e => ?_, fun b o u e => ?_, fun b ps e => ?_⟩, ?_, os, ag, e free⟩
  · rw [addC_out (out n)]; exact ub.free b o e (by rw [subC_out (out n)]; exact n)
  · cases q : C b with
    | some o1 => rw [hc b o1 q] at e; cases e
    | none => rw [addC_out q]; exact ub.tups b xs (by rw [subC_out q]; exact e)
  · cases q : C b with
    | some o1 =>
      rw [hc b o1 q] at e
      cases e
      exact addC_in q
    | none => rw [addC_out q]; exact ub.frzs b o u (by rw [subC_out q]; exact e)
  · cases q : C b with
    | some o1 => rw [hc b o1 q] at e; cases e
    | none => rw [addC_out q]; exact ub.tbls b ps (by rw [subC_out q]; exact e)
  · cases q : C a with
    | none => rw [addC_out q]; exact na
    | some o =>
      have g := get a o q
      rw [fl.2.1] at g
      cases g
end
end L2.Zz

/-! Z34: a def called with lambdas. -/
namespace L2.Zz
open PySem PySem.Spec PyProof.Rows
variable {LT : LTab}
/-- cells that lie neither in the ground nor among the frames that run -/
def Gd (X : Cx) (cl : List (Str × Addr)) : Prop := ∀ y c, cl.lookup y = some c → X.base.get? c = none ∧ c ∉ frs X.stack
section
variable {X : Cx} {pins : List (Addr × Obj)} {σ : St} {H : Hp} {s : Shared}
theorem gd_high (I : Inv X pins σ H s) {c : Addr} (h : X.s_0.heap.objs.size ≤ c) (hl : c ≠ X.env.locals) : X.base.get? c = none ∧ c ∉ frs X.stack := by
  constructor
  · cases q : X.base.get? c with
    | none => rfl
    | some o =>
      exact absurd (Nat.lt_of_lt_of_le (Heap.lt_size q) I.ok.bsz) (Nat.not_lt.mpr h)
  · intro hm
    rcases List.mem_cons.mp (I.stkSub c hm) with z | z
    · exact hl z
    · obtain ⟨_, o, ho, _⟩ := I.ok.funs.mem z
      exact absurd (Heap.lt_size ho) (Nat.not_lt.mpr h)
/-- a def's own cells are good -/
theorem gd_def (hfn : ∀ x, X.fn x = true) (I : Inv X pins σ H s) : Gd X X.env.cells := fun y c e => gd_high I (I.ok.cab y c (hfn y) e) (I.cne y c e)
abbrev GdI (X : Cx) : Prop := ∀ (pins : List (Addr × Obj)) (σ : St) (H : Hp) (s : Shared), Inv X pins σ H s → Gd X X.env.cells
theorem gdI_def {X : Cx} (hfn : ∀ x, X.fn x = true) : GdI X := fun _ _ _ _ I => gd_def hfn I
end
/-- the captured values as they stand -/
def capV (σ : PSt) : List Nat → Option (List PV)
  | [] => some []
  | i :: is => match σ.sl[i]?, capV σ is with
    | some (some (.frz v)), some vs => if noC v = true then some (v :: vs) else none
    | _, _ => none
abbrev Cap := List (Nat × List Nat)
def capK (cap : Cap) (σ : PSt) (k : Nat) : Option (List PV) := (cap.lookup k).bind (capV σ)
def cloL (cap : Cap) (σ : PSt) : List Nat → Option (List PV)
  | [] => some []
  | k :: ks => match capK cap σ k, cloL cap σ ks with
    | some vs, some ps => some (.clo k vs :: ps)
    | _, _ => none
def cvt (cap : Cap) (σ : PSt) : EVal → Option PV
  | .val p => some p
  | .clo k => (capK cap σ k).map (.clo k)
  | .clos ks => (cloL cap σ ks).map .lst
  | _ => none
def cvtA (cap : Cap) (σ : PSt) : List EVal → Option (List PV)
  | [] => some []
  | r :: rs => match cvt cap σ r, cvtA cap σ rs with
    | some p, some ps => some (p :: ps)
    | _, _ => none
/-- a call's outcome without closures -/
def outC (o : Rs EVal) (σ : PSt) : Rs EVal := match o with
  | .ok (.val p) _ => if noC p = true then .ok (.val p) σ else .no
  | .ok (.new p) _ => if noC p = true then .ok (.new p) σ else .no
  | _ => .no
def dCallC (n np : Nat) (body : DS) (cap : Cap) (da : DA) : DE := fun σ => (da σ).bind fun rs σ1 => match cvtA cap σ1 rs with
  | some ps => if ps.length = np then outC (callD n body (ps.map .val) ⟨[], []⟩) σ1 else .no
  | none => .no
/-- where the maker keeps what the lambda captures -/
def CapOk (N : List Str) (sc : Scope) : List Str → List Nat → Prop
  | [], [] => True
  | y :: ys, i :: is => N[i]? = some y ∧ (sc.names.lookup y = some .cell ∨ sc.names.lookup y = some .free) ∧ CapOk N sc ys is
  | _, _ => False
section
variable {X : Cx} {pins : List (Addr × Obj)} {σr : St} {H : Hp} {s : Shared} {F : Addr → Prop} {la : List Addr} {σ : PSt}
/-- the frame's cells with what lies in them -/
def celOf (X : Cx) (h : Heap) : Cel := fun b => if (X.env.cells.any fun p => decide (X.env.cells.lookup p.1 = some b)) = true then h.get? b else none
theorem celOf_some {h : Heap} {b : Addr} {o : Obj} (e : celOf X h b = some o) : (∃ y, X.env.cells.lookup y = some b) ∧ h.get? b = some o := by
  unfold celOf at e
  split at e
  · rename_i hy
    obtain ⟨p, _, hp⟩ := List.any_eq_true.mp hy
    exact ⟨⟨p.1, of_decide_eq_true hp⟩, e⟩
  · cases e
theorem celOf_at {h : Heap} {b : Addr} {o : Obj} {y : Str} (hy : X.env.cells.lookup y = some b) (e : h.get? b = some o) : celOf X h b = some o := by
  unfold celOf
  rw [if_pos (List.any_eq_true.mpr ⟨(y, b), PySem.mem_of_lookup hy, decide_eq_true hy⟩)]; exact e
theorem celOf_free (I : Inv X pins σr H s) : ∀ b o, celOf X s.heap b = some o → H b = none := fun b o e => by
  obtain ⟨⟨y, hy⟩, _⟩ := celOf_some e
  exact I.freeC y b hy
theorem celOf_data (I : Inv X pins σr H s) : ∀ b o, celOf X s.heap b = some o → ∃ v, o.data = .cell v := fun b o e => by
  obtain ⟨⟨y, hy⟩, g⟩ := celOf_some e
  obtain ⟨v, o', ho, hd⟩ := I.cell y b hy
  rw [g] at ho; cases ho
  exact ⟨v, hd⟩
theorem env0_add (hG : GdI X) (I : Inv X pins σr H s) : Env0 X.prog X.w X.K X.mg X.base X.A X.stack s (addC H (celOf X s.heap)) := by
  have e0 := I.env0
  have G := hG _ _ _ _ I
  refine ⟨e0.frames, e0.mod, fun b o e => ⟨(e0.bs b o e).1, ?_⟩, e0.bsz, e0.funs, fun b hb => ?_, hok_add I.hok (fun b o e => (celOf_some e).2) (celOf_free I), e0.bare⟩
  · cases q : celOf X s.heap b with
    | none => rw [addC_out q]; exact (e0.bs b o e).2
    | some o1 =>
      obtain ⟨⟨y, hy⟩, _⟩ := celOf_some q
      have z := (G y b hy).1
      rw [e] at z; cases z
  · cases q : celOf X s.heap b with
    | none => rw [addC_out q]; exact e0.frf b hb
    | some o1 =>
      obtain ⟨⟨y, hy⟩, _⟩ := celOf_some q
      exact absurd hb (G y b hy).2
/-- what is captured, by its cell -/
theorem cap_cel (I : Inv X pins σr H s) (S : SR (cn LT X) F la σ σr H) : ∀ (caps : List Str) (is : List Nat) (vs : List PV), CapOk X.N X.env.scope caps is → capV σ is = some vs →
    ∃ us : List V, caps.length = us.length ∧ noCs vs = true ∧ RFs (cn LT X) F H vs us ∧ ∀ (i : Nat) (y : Str) (u : V), caps[i]? = some y → us[i]? = some u → ∃ (a : Addr) (o : Obj) (w : Value), X.env.cells.lookup y = some a ∧ s.heap.get? a = some o ∧ o.data = .cell (some w) ∧ RelV u w
  | [], [], vs, _, e => by
    rw [capV] at e; cases e
    exact ⟨[], rfl, rfl, RFs.nil_, fun i y u e1 e2 => by simp at e1⟩
  | [], _ :: _, _, h, _ => h.elim
  | _ :: _, [], _, h, _ => h.elim
  | y :: ys, i :: is, vs, h, e => by
    obtain ⟨hN, hk, hr⟩ := h
    rw [capV] at e
    split at e
    · rename_i v vs' e1 e2
      split at e
      · rename_i nv
        cases e
        obtain ⟨us, hl, hn, rf, cel⟩ := cap_cel I S ys is vs' hr e2
        obtain ⟨u, eu, ru⟩ := S.frz i v e1
        refine ⟨u :: us, by simp [hl], by rw [noCs, nv, hn]; rfl, RFs.cons_ ru rf, fun j z u' q1 q2 => ?_⟩
        cases j with
        | succ j => exact cel j z u' (by simpa using q1) (by simpa using q2)
        | zero =>
          simp at q1 q2
          subst q1 q2
          obtain ⟨m, hm, hl2⟩ := I.loc
          obtain ⟨w', rw', lk⟩ := hl2 i y u hN eu (hk.elim (fun k => .inr (.inl k)) fun k => .inr (.inr k))
          rcases lk with ⟨k, _⟩ | ⟨_, c, ec, o, ho, hd⟩
          · have k : X.env.scope.names.lookup y = some .local := k
            rcases hk with z | z <;> rw [z] at k <;> cases k
          · exact ⟨c, o, w', ec, ho, hd, rw'⟩
      · cases e
    · cases e
/-- a lambda of the frame's, seen from outside -/
theorem own_out {cap : Cap} (hcap : ∀ k is L, cap.lookup k = some is → LT.lam k = some L → CapOk X.N X.env.scope L.caps is) (I : Inv X pins σr H s) (S : SR (cn LT X) F la σ σr H) {k : Nat} {v : V} {vs : List PV} (h : OwnZ (cn LT X) H k v) (e : capK cap σ k = some vs) :
    RF (cb LT X) F (addC H (celOf X s.heap)) (.clo k vs) v := by
  have keep := addC_keeps (celOf_free I)
  obtain ⟨f, L, cl, rfl, hk, fz, c1, c2, c3⟩ := h
  obtain ⟨is, ei, e⟩ := Option.bind_eq_some_iff.mp e
  obtain ⟨us, hl, hn, rf, cel⟩ := cap_cel I S L.caps is vs (hcap k is L ei hk) e
  unfold RF
  refine ⟨f, L, cl, us, rfl, hk, fz.ext fun a o e _ => keep a o e, ⟨fun y a q => ?_, fun y z a q1 q2 => I.ok.inj y z a (c1 y a q1) (c1 z a q2), fun i y u q1 q2 => ?_⟩, hl, hn, RFs.ext (fun _ h => h) (fun a o e _ => keep a o e) _ _ rf⟩
  · obtain ⟨i, hi, hy⟩ := List.mem_iff_getElem.mp (c2 y a q)
    exact ⟨i, by rw [List.getElem?_eq_getElem hi, hy]⟩
  · obtain ⟨a, o, w', ea, eo, ed, r⟩ := cel i y u q1 q2
    obtain ⟨a', ea'⟩ := c3 y (List.mem_of_getElem? q1)
    have := c1 y a' ea'
    have ea2 : (cn LT X).ce.lookup y = some a := ea
    rw [ea2] at this; cases this
    exact ⟨a, o, w', ea', addC_in (celOf_at ea eo), ed, r⟩
theorem owns_out {cap : Cap} (hcap : ∀ k is L, cap.lookup k = some is → LT.lam k = some L → CapOk X.N X.env.scope L.caps is) (I : Inv X pins σr H s) (S : SR (cn LT X) F la σ σr H) {ks : List Nat} {us : List V} (h : OwnsZ (cn LT X) H ks us) : ∀ {ps : List PV}, cloL cap σ ks = some ps →
    RFs (cb LT X) F (addC H (celOf X s.heap)) ps us := by
  induction h with
  | nil => intro ps e; rw [cloL] at e; cases e; exact RFs.nil_
  | cons h1 _ ih =>
    intro ps e
    rw [cloL] at e
    split at e
    · rename_i vs ps' e1 e2
      cases e
      exact RFs.cons_ (own_out hcap I S h1 e1) (ih e2)
    · cases e
theorem args_out {cap : Cap} (hcap : ∀ k is L, cap.lookup k = some is → LT.lam k = some L → CapOk X.N X.env.scope L.caps is) (I : Inv X pins σr H s) (S : SR (cn LT X) F la σ σr H) {O Nn : Addr → Prop} {rs : List EVal} {vs : List V} (h : ERs (cn LT X) F la O Nn σr H rs vs) : ∀ {ps : List PV}, cvtA cap σ rs = some ps →
    RFs (cb LT X) F (addC H (celOf X s.heap)) ps vs := by
  have keep := addC_keeps (celOf_free I)
  induction h with
  | nil => intro ps e; rw [cvtA] at e; cases e; exact RFs.nil_
  | @cons r v rs vs h1 _ _ ih =>
    intro ps e
    rw [cvtA] at e
    split at e
    · rename_i p ps' e1 e2
      cases e
      refine RFs.cons_ ?_ (ih e2)
      cases r with
      | val q => cases e1; exact RF.ext (fun _ h => h) (fun a o e _ => keep a o e) _ _ h1
      | clo k =>
        obtain ⟨vs', e3, rfl⟩ := Option.map_eq_some_iff.mp e1
        exact own_out hcap I S h1 e3
      | clos ks =>
        obtain ⟨vs', e3, rfl⟩ := Option.map_eq_some_iff.mp e1
        obtain ⟨a, us, rfl, fl, ow⟩ := (show ClosZ (cn LT X) F H ks v from h1)
        unfold RF
        exact ⟨a, us, rfl, fl.ext (fun _ h => h) (fun a o e _ => keep a o e), owns_out hcap I S ow e3⟩
      | _ => cases e1
    · cases e
/-- behind the call -/
theorem sr_back {C : Cel} {F' : Addr → Prop} {H' : Hp} (S : SR (cn LT X) F la σ σr H) (hc : ∀ b o, C b = some o → H b = none) (hd : ∀ b o, C b = some o → ∃ v, o.data = .cell v)
    (x : Ex ⟨F, addC H C, fun _ => False⟩ ⟨F', H', fun _ => False⟩) (ft : ∀ a, F' a → ∃ o, H' a = some o ∧ NoT o) (tb : TabsZ LT.T H') :
    Ex ⟨F, H, Ow σ σr la⟩ ⟨F', subC H' C, Ow σ σr la⟩ ∧ SR (cn LT X) F' la σ σr (subC H' C) ∧ (∀ a o, H' a = some o → Thin o → subC H' C a = some o) ∧ ∀ a, addC H C a = none → H a = none := by
  have at_ : ∀ b o, C b = some o → H' b = some (.frz o (.own 0)) := fun b o q => x.kp b _ (addC_in q) (fun z => z) fun _ z => nomatch z
  have non : ∀ a, addC H C a = none → C a = none ∧ H a = none := fun a e => by
    cases q : C a with
    | some o => rw [addC_in q] at e; cases e
    | none => rw [addC_out q] at e; exact ⟨rfl, e⟩
  have kp : ∀ a o, H a = some o → NoT o → subC H' C a = some o := fun a o e n => by
    rw [subC_out (cOut hc e)]
    exact x.kp a o (addC_keeps hc a o e) (fun z => z) n
  have keep : ∀ a o, H a = some o → (F a ∨ Stl o) → subC H' C a = some o := fun a o e h => by
    refine kp a o e ?_
    rcases h with h | h
    · obtain ⟨u', e', n⟩ := S.ftr a h
      rw [e] at e'; cases e'
      exact n
    · exact h.noT
  have fnew : ∀ a o, H a = some o → ¬ F a → ¬ F' a := fun a o e nf f => by
    rcases x.fn a f with z | z | z
    · exact nf z
    · exact z
    · rw [(non a z).2] at e; cases e
  have fC : ∀ a, F' a → C a = none := fun a f => by
    cases q : C a with
    | none => rfl
    | some o =>
      exfalso
      rcases x.fn a f with z | z | z
      · obtain ⟨u, e, _⟩ := S.ftr a z
        rw [hc a o q] at e; cases e
      · exact z
      · have z : addC H C a = none := z
        rw [addC_in q] at z; cases z
  refine ⟨⟨x.fr, fun a o e _ n => kp a o e n, fun a ps e => ?_, fun a z => .inl z, fun a f => ?_⟩,
    ⟨S.len, fun i v e => let ⟨u, e1, r⟩ := S.frz i v e; ⟨u, e1, RF.ext x.fr keep _ _ r⟩, S.lo, fun i v e => ?_, S.inj, S.lln, S.lnd, fun j v a e e1 => ?_, fun a f => ?_, fun i v e => let ⟨u, e1, r⟩ := S.clo i v e; ⟨u, e1, r.ext x.fr keep⟩, fun p hp => ?_⟩, fun a o e t => ?_, fun a e => (non a e).2⟩
  · obtain ⟨qs, e2⟩ := x.tb a ps (addC_keeps hc a _ e)
    exact ⟨qs, by show subC H' C a = _; rw [subC_out (cOut hc e)]; exact e2⟩
  · rcases x.fn a f with z | z | z
    · exact .inl z
    · exact z.elim
    · exact .inr (.inr (non a z).2)
  · obtain ⟨a, e1, r, n, m⟩ := S.own i v e
    obtain ⟨o, ho, _⟩ := r.there
    exact ⟨a, e1, r.ext x.fr keep (fun o e => kp a o e (r.noT e)), fnew a o ho n, m⟩
  · obtain ⟨r, n⟩ := S.ln j v a e e1
    obtain ⟨o, ho, _⟩ := r.there
    exact ⟨r.ext x.fr keep (fun o e => kp a o e (r.noT e)), fnew a o ho n⟩
  · obtain ⟨o, e, n⟩ := ft a f
    exact ⟨o, by rw [subC_out (fC a f)]; exact e, n⟩
  · obtain ⟨ps, a1, a2, a3⟩ := tb p hp
    obtain ⟨ps0, b1, _⟩ := S.tabs p hp
    refine ⟨ps, by rw [subC_out (cOut hc b1)]; exact a1, a2, fun pos cv hcv => ?_⟩
    obtain ⟨c', e1, oc, vs, t, e2, e3, e4⟩ := a3 pos cv hcv
    refine ⟨c', e1, oc, vs, t, ?_, e3, e4⟩
    cases q : C c' with
    | none => rw [subC_out q]; exact e2
    | some o =>
      exfalso
      have z := at_ c' o q
      rw [e2] at z
      cases z
      obtain ⟨v, hv⟩ := hd c' oc q
      rw [e3] at hv
      cases hv
  · cases q : C a with
    | none => rw [subC_out q]; exact e
    | some o1 =>
      have z := at_ a o1 q
      rw [e] at z
      cases z
      exact absurd rfl (t o1)
end
end L2.Zz

/-! Z35: a def called with lambdas, by its denotation. -/
namespace L2.Zz
open PySem PySem.Spec PyProof.Rows
variable {LT : LTab}
theorem ow_nil {σ : PSt} {a : Addr} (h : Ow σ [] [] a) : False := by
  rcases h with h | ⟨i, v, _, h⟩
  · cases h
  · simp at h
section
variable {X : Cx} {W : WX} {k np : Nat} {f : Addr} {fd : FuncData} {N ps : List Str} {body : DS} {x : Str} {p pos : Pos} {e : Expr} {es : List Expr} {da : DA} {cap : Cap}
theorem run_fnC {pins : List (Addr × Obj)} {σr : St} {H1 : Hp} {s1 : Shared} {Q : VK} {g : Gh} {F1 : Addr → Prop} {la : List Addr} {σ1 : PSt} {pp : List PV} {us : List Value} {vs : List V}
    (Fn : FnOk X.prog X.w X.K X.mg X.base (L2.CX X.prog X.w) k f fd ps (spD (cb LT X) N np body)) (hr : Room k X.A) (hb : Binds X.K fd ps []) (hG : GdI X) (hn : np ≤ N.length)
    (I1 : Inv X pins σr H1 s1) (S1 : SR (cn LT X) F1 la σ1 σr H1) (x1 : Ex g ⟨F1, H1, Ow σ1 σr la⟩) (r1 : Vals vs us) (rf : RFs (cb LT X) F1 (addC H1 (celOf X s1.heap)) pp vs) (hl : pp.length = np)
    (f2 : Fin (cn LT X) W la σr g (outC (callD N.length body (pp.map .val) ⟨[], []⟩) σ1) (PE0 (cn LT X) la σr g Q)) : wpAny (model X.prog X.w) X.A (call (.ref f) us) (EP X pins σr Q) X.xe s1 := by
  have hc := celOf_free I1
  have hd := celOf_data I1
  have hgt : ∀ b o, celOf X s1.heap b = some o → s1.heap.get? b = some o := fun b o e => (celOf_some e).2
  have keep := addC_keeps hc
  have nosl : ∀ (i : Nat) (t : Sl), (⟨[], []⟩ : PSt).sl[i]? = some (some t) → False := fun i t e => by simp at e
  have Se : SR (cn LT X) F1 [] ⟨[], []⟩ [] (addC H1 (celOf X s1.heap)) := ⟨rfl, fun i v e => (nosl i _ e).elim, fun i k e => (nosl i _ e).elim, fun i v e => (nosl i _ e).elim, fun i j v w a e => (nosl i _ e).elim, rfl, List.nodup_nil, fun k v a e => by simp at e,
    fun a h => let ⟨o, e, n⟩ := S1.ftr a h; ⟨o, keep a o e, n⟩, fun i v e => (nosl i _ e).elim, S1.tabs.ext fun a o e _ => keep a o e⟩
  have ers := (ERs.nil (c := cn LT X) (F := F1) (la := []) (O := Ow ⟨[], []⟩ [] []) (N := Nw ⟨F1, addC H1 (celOf X s1.heap), Ow ⟨[], []⟩ [] []⟩) (σr := []) (H := addC H1 (celOf X s1.heap))).app rf
  have hlen : ([] ++ vs : List V).length = np := by
    have := rf.length
    simp; omega
  have sp := callD_ok (W := fun _ _ _ _ => False) (Q := fun v H' => Q v (subC H' (celOf X s1.heap))) (N := N) (body := body) hlen (by rw [hlen]; exact hn) Se (Ex.refl _) ers (by
    cases qd : callD N.length body ([] ++ pp.map EVal.val) ⟨[], []⟩ with
    | no => rw [show callD N.length body (pp.map EVal.val) ⟨[], []⟩ = _ from qd] at f2; exact f2.elim
    | ex ee s => rw [show callD N.length body (pp.map EVal.val) ⟨[], []⟩ = _ from qd] at f2; exact f2.elim
    | ok r σ2 =>
      rw [show callD N.length body (pp.map EVal.val) ⟨[], []⟩ = _ from qd] at f2
      intro F' H' xx SS v ev
      have x0 : Ex ⟨F1, addC H1 (celOf X s1.heap), fun _ => False⟩ ⟨F', H', fun _ => False⟩ := ⟨xx.fr, fun a o e _ n => xx.kp a o e (fun z => ow_nil z) n, xx.tb, fun a z => z.elim, fun a h => by
        rcases xx.fn a h with z | z | z
        · exact .inl z
        · exact (ow_nil z).elim
        · exact .inr (.inr z)⟩
      obtain ⟨xb, Sb, thin, non⟩ := sr_back S1 hc hd x0 SS.ftr SS.tabs
      cases r with
      | val q =>
        obtain ⟨hq, f3⟩ := fin_if (show Fin (cn LT X) W la σr g (if noC q = true then .ok (.val q) σ1 else .no) (PE0 (cn LT X) la σr g Q) from f2)
        exact f3 F' _ (x1.trans xb) Sb v (RF.thin (fun _ _ h _ _ => h) (fun a o e _ t => thin a o e t) q v hq ev)
      | new q =>
        obtain ⟨hq, f3⟩ := fin_if (show Fin (cn LT X) W la σr g (if noC q = true then .ok (.new q) σ1 else .no) (PE0 (cn LT X) la σr g Q) from f2)
        obtain ⟨a, rfl, ro, nf, _, nn⟩ := ev
        have n0 : H1 a = none := by
          rcases nn with z | z
          · exact (ow_nil z).elim
          · exact non a z
        refine f3 F' _ (x1.trans xb) Sb _ ⟨a, rfl, RO.thin (fun _ _ h _ _ => h) (fun a o e _ t => thin a o e t) (fun o e t => thin a o e t) hq ro, nf, fun z => ?_, x1.back (.inr n0)⟩
        obtain ⟨⟨o, e, _⟩, _⟩ := S1.ow_there z
        rw [n0] at e; cases e
      | _ => exact f2.elim)
  rw [List.nil_append] at sp
  have hl2 : us.length = ps.length := by rw [← r1.length]; exact Fn.len _ _ _ _ sp
  have sp2 : spD (cb LT X) N np body (vs ++ []) (addC H1 (celOf X s1.heap)) (fun v H' => Q v (subC H' (celOf X s1.heap))) (fun cls d H' => False) := by rw [List.append_nil]; exact sp
  refine wpAny_call (codeAny_mono (Fn.run X.A X.stack s1 (addC H1 (celOf X s1.heap)) ⟨us, []⟩ (us ++ []) (vs ++ []) _ _ hr (env0_add hG I1) (hb s1 us I1.kIn (by simpa using hl2)) (r1.append .nil) sp2) fun r s' hq => ?_)
  cases r with
  | error e =>
    obtain ⟨_, _, _, _, _, _, _, _, _, _, _, _, z⟩ := (show L2.CX X.prog X.w X.stack _ s1 (fun _ _ _ => False) e s' from hq)
    exact z.elim
  | ok fl =>
    cases fl with
    | ret u =>
      obtain ⟨v, H', os, bare, un, hok, rv, q⟩ := hq
      obtain ⟨un2, ok2⟩ := un_sub un hok hgt hc
      exact I1.after ⟨v, subC H' (celOf X s1.heap), os, bare, un2, ok2, rv, q⟩
    | next => exact False.elim hq
    | brk => exact False.elim hq
    | cont => exact False.elim hq
theorem z_callC (Fn : FnOk X.prog X.w X.K X.mg X.base (L2.CX X.prog X.w) k f fd ps (spD (cb LT X) N np body)) (hr : Room k X.A) (hg : Gl X x) (hm : X.mg x = some (.ref f)) (hk : PySem.W.keepIn X.K (.ref f) = true) (hb : Binds X.K fd ps []) (hG : GdI X)
    (hcap : ∀ k is L, cap.lookup k = some is → LT.lam k = some L → CapOk X.N X.env.scope L.caps is) (ha : PA X (e :: es) (EVA (cn LT X) W da)) (hn : np ≤ N.length)
    (hdb : (x == ("__debug__" : Str)) = false := by decide) (he : starEach (e :: es) X.env = (false, eval e X.env) :: starEach es X.env := by rfl) (hpl : (backTo pos (starEach es X.env)).any (·.1) = false := by rfl) :
    PE X (.Call (.Name x p) (e :: es) [] pos) (EV (cn LT X) W (dCallC N.length np body cap da)) := by
  refine ⟨fun pins s σr H Q I q => ?_⟩
  obtain ⟨F0, la, σ, S, f⟩ := q
  refine wpAny_Call_Name_kw (ld_glob I hg hm ?_ hdb)
  refine PySem.W.callWith_K (h₀ := X.base) I.ok.mod.kin hk (thn (ha.run pos pins s σr H (fun vs H1 => ∃ rs σ1 F1, Ex ⟨F0, H, Ow σ σr la⟩ ⟨F1, H1, Ow σ1 σr la⟩ ∧ SR (cn LT X) F1 la σ1 σr H1 ∧ ERs (cn LT X) F1 la (Ow σ1 σr la) (Nw ⟨F0, H, Ow σ σr la⟩) σr H1 rs vs ∧
    Fin (cn LT X) W la σr ⟨F0, H, Ow σ σr la⟩ (match cvtA cap σ1 rs with
      | some ps => if ps.length = np then outC (callD N.length body (ps.map .val) ⟨[], []⟩) σ1 else .no
      | none => .no) (PE0 (cn LT X) la σr ⟨F0, H, Ow σ σr la⟩ Q)) I ⟨F0, la, σ, S, f.bind.mono fun rs σ1 F1 H1 x1 S1 f1 vs es => ⟨rs, σ1, F1, x1, S1, es, f1⟩⟩)
    fun us s1 ⟨vs, H1, I1, r1, rs, σ1, F1, x1, S1, es, f1⟩ => ⟨I1.kIn, ?_⟩) he hpl
  cases qc : cvtA cap σ1 rs with
  | none => rw [qc] at f1; exact f1.elim
  | some pp =>
    rw [qc] at f1
    obtain ⟨hl, f2⟩ := fin_if f1
    exact run_fnC Fn hr hb hG hn I1 S1 x1 r1 (args_out hcap I1 S1 es qc) hl f2
end
end L2.Zz

/-! Z36: a lambda is called. -/
namespace L2.Zz
open PySem PySem.Spec PyProof.Rows
variable {LT : LTab}
/-- the lambda's frame -/
abbrev envZ (L : LamD) (lo f c' : Addr) (cl : List (Str × Addr)) : Env := PySem.W.envX L.q L.scope lo f (.ref c') cl
/-- the context of a lambda's body, entered at s from the frames outer -/
def cxL (P : Program) (w : World) (K : PySem.W.Frag) (mg : Str → Option Value) (base : Heap) (L : LamD) (A : Around) (outer : List Env) (s : Shared) (H : Hp) (E : XK) (f c' : Addr) (cl : List (Str × Addr)) : Cx where
  prog := P
  w := w
  K := K
  mg := mg
  base := base
  A := A.deeper (envZ L s.heap.objs.size f c' cl)
  N := L.caps
  s_0 := s
  H_0 := H
  env := envZ L s.heap.objs.size f c' cl
  outer := outer
  stack := envZ L s.heap.objs.size f c' cl :: outer
  ex := []
  fn := fun _ => false
  calm := true
  pn := []
  xe := fun e s' => wpAny (model P w) (A.deeper (envZ L s.heap.objs.size f c' cl)) (leaving (envZ L s.heap.objs.size f c' cl) e) (fun _ s'' => L2.CX P w outer H s E e s'') (fun e' s'' => L2.CX P w outer H s E e' s'') s'
/-- how a lambda without arguments binds its names -/
def BindZ (L : LamD) (dn : List Str) : Prop := (L.dv = [] ∧ dn = [] ∧ ∀ (cl : List (Str × Addr)) (doc pm cv ctv : Value), bindArgs (PySem.W.kdv_fn "<lambda>" L.q L.params (.expr L.body) L.scope cl .none doc pm cv ctv) ⟨[], []⟩ = pure []) ∨
  ∃ (i0 : Int) (x0 : Str), L.dv = [i0] ∧ dn = [x0] ∧ ∀ (t : Addr) (cl : List (Str × Addr)) (doc pm cv ctv : Value), ∃ kk : Option (Array Value) → Sem (List (Str × Value)),
    bindArgs (PySem.W.kdv_fn "<lambda>" L.q L.params (.expr L.body) L.scope cl (.ref t) doc pm cv ctv) ⟨[], []⟩ = seqItems? (.ref t) >>= kk ∧ ∀ u : Value, kk (some [u].toArray) = pure [(x0, u)]
/-- the lambda's scope, by itself -/
structure LScZ (scope : Scope) (caps dn : List Str) : Prop where
  kind : scope.kind = .function
  co : scope.isCoroutine = false
  gen : scope.isGenerator = false
  nocell : ∀ y ∈ scope.names, y.2 ≠ .cell
  free : ∀ y ∈ scope.names, y.2 = .free → y.1 ∈ caps
  caps : ∀ y ∈ caps, scope.names.lookup y = some .free
  dn : ∀ y ∈ dn, scope.names.lookup y = some .local
def lscZB (scope : Scope) (caps dn : List Str) : Bool :=
  decide (scope.kind = .function) && !scope.isCoroutine && !scope.isGenerator && (scope.names.all fun y => !decide (y.2 = .cell) && (!decide (y.2 = .free) || decide (y.1 ∈ caps))) &&
    (caps.all fun y => decide (scope.names.lookup y = some .free)) && (dn.all fun y => decide (scope.names.lookup y = some .local))
theorem lscZ_by {scope : Scope} {caps dn : List Str} (h : lscZB scope caps dn = true) : LScZ scope caps dn := by
  unfold lscZB at h
  simp only [Bool.and_eq_true, Bool.or_eq_true, Bool.not_eq_true', decide_eq_true_eq, decide_eq_false_iff_not, List.all_eq_true] at h
  obtain ⟨⟨⟨⟨⟨h1, h2⟩, h3⟩, h4⟩, h5⟩, h6⟩ := h
  exact ⟨h1, h2, h3, fun y hy => (h4 y hy).1, fun y hy e => ((h4 y hy).2).elim (fun z => absurd e z) id, h5, h6⟩
/-- a lambda that is at hand: k its number, d what its body does -/
structure LamHand (P : Program) (w : World) (K : PySem.W.Frag) (mg : Str → Option Value) (base : Heap) (LT : LTab) (j k : Nat) (d : DE) : Prop where
  ex : ∃ (L : LamD) (dn : List Str), LT.lam k = some L ∧ LScZ L.scope L.caps dn ∧ BindZ L dn ∧ ∀ (A : Around) (outer : List Env) (s : Shared) (H : Hp) (E : XK) (f c' : Addr) (cl : List (Str × Addr)), Room j (A.deeper (envZ L s.heap.objs.size f c' cl)) →
    PE (cxL P w K mg base L A outer s H E f c' cl) L.body (EV (cn LT (cxL P w K mg base L A outer s H E f c' cl)) (fun cls d _ H => E cls d H) d)
/-- the lambda's frame is laid -/
theorem lam_startZ {P : Program} {w : World} {K : PySem.W.Frag} {mg : Str → Option Value} {base : Heap} {L : LamD} {dn : List Str} {A : Around} {outer : List Env} {s1 : Shared} {H HZ : Hp} {E : XK} {f c' : Addr} {cl : List (Str × Addr)} {us : List V} {h₁ : Heap} {tk : Nat} {m : Str → Option Value}
    (Z : LScZ L.scope L.caps dn) (e0 : Env0 P w K mg base A outer s1 H) (hd : A.handled = none) (hl : L.caps.length = us.length)
    (ce : CelZ HZ cl L.caps us) (hz : HOk P w HZ s1.heap) (h0 : ∀ y a, cl.lookup y = some a → H a = none)
    (hns : h₁.Ns s1.heap.objs.size m) (kp : ∀ b o, s1.heap.get? b = some o → h₁.get? b = some o) :
    Inv (cxL P w K mg base L A outer s1 H E f c' cl) [] (us.map some) H { s1 with heap := h₁, toks := tk } := by
  obtain ⟨ce1, ce2, ce3⟩ := ce
  have hcel : ∀ (i : Nat) (y : Str) (u : V), L.caps[i]? = some y → us[i]? = some u → ∃ (a : Addr) (w : Value), cl.lookup y = some a ∧ h₁.IsCell a (some w) ∧ RelV u w := fun i y u e1 e2 => by
    obtain ⟨a, o, w', l, hf, hdt, r⟩ := ce3 i y u e1 e2
    exact ⟨a, w', l, ⟨o, kp _ _ (hz a _ hf).1, hdt⟩, r⟩
  have at_ : ∀ y a, cl.lookup y = some a → ∃ (i : Nat) (u : V), L.caps[i]? = some y ∧ us[i]? = some u := fun y a e => by
    obtain ⟨i, hi⟩ := ce1 y a e
    have hlt := (List.getElem?_eq_some_iff.mp hi).1
    exact ⟨i, us[i]'(by omega), hi, List.getElem?_eq_getElem (by omega)⟩
  have noA : ∀ b : Addr, b ∉ (cxL P w K mg base L A outer s1 H E f c' cl).ex := fun b z => absurd (show b ∈ ([] : List Addr) from z) (by simp)
  refine ⟨⟨e0.mod, Z.kind, rfl, rfl, Nat.le_refl _, fun y z a e1 e2 => ce2 y z a e1 e2, fun y hy => ?_, fun y c z _ => ?_, fun _ => hd, Around.frames_deeper e0.frames, .inr ⟨rfl, rfl⟩, fun b z => absurd z (noA b), e0.bs, e0.bsz, fun b _ _ => noA b,
      fun b z => absurd z (noA b), e0.funs, e0.frf⟩,
    rfl, e0.bare, Un.kept kp, ⟨m, hns, fun i y v e1 e2 e3 => ?_⟩, fun y c e => ?_, e0.hok.fresh (Nat.le_refl _), fun y c e => h0 y c e, fun q hq => absurd (show q ∈ ([] : List (Addr × Obj)) ++ [] from hq) (by simp), e0.hok.kept kp, by simp [hl, cxL]⟩
  · have hy : L.scope.names.lookup y = some .cell ∨ L.scope.names.lookup y = some .free := hy
    rcases hy with hy | hy
    · exact absurd rfl (Z.nocell _ (PySem.mem_of_lookup hy))
    · have hm := Z.free _ (PySem.mem_of_lookup hy) rfl
      obtain ⟨i, hi, ei⟩ := List.mem_iff_getElem.mp hm
      obtain ⟨a, _, _, l, _⟩ := ce3 i y (us[i]'(by omega)) (by rw [List.getElem?_eq_getElem hi, ei]) (List.getElem?_eq_getElem (by omega))
      exact ⟨a, l⟩
  · have z : false = true := z
    cases z
  · have e1 : L.caps[i]? = some y := e1
    rw [List.getElem?_map] at e2
    obtain ⟨v', e4, e5⟩ := Option.map_eq_some_iff.mp e2
    cases e5
    obtain ⟨a, w', l, ic, r⟩ := hcel i y v e1 e4
    exact ⟨w', r, .inr ⟨.inr (Z.caps y (List.mem_of_getElem? e1)), a, l, ic⟩⟩
  · obtain ⟨i, u, e1, e2⟩ := at_ y c e
    obtain ⟨a, w', l, ic, r⟩ := hcel i y u e1 e2
    have e : cl.lookup y = some c := e
    rw [l] at e; cases e
    exact ⟨_, ic⟩
end L2.Zz

/-! Z37: a lambda is called by a local name. -/
namespace L2.Zz
open PySem PySem.Spec PyProof.Rows
variable {LT : LTab} {ce : List (Str × Addr)}
/-- the lambdas by their numbers: what their bodies do -/
abbrev LDen := List (Nat × DE)
def endL (o : Rs EVal) (σ : PSt) : Rs EVal := match o with
  | .ok (.val p) _ => .ok (.val p) σ
  | .ok (.new p) _ => .ok (.new p) σ
  | .ex e _ => .ex e σ
  | _ => .no
def dCallL (lt : LDen) (i : Nat) : DE := fun σ => match σ.sl[i]? with
  | some (some (.frz (.clo k vs))) => match lt.lookup k with
    | some d => endL (d ⟨vs.map fun v => some (.frz v), []⟩) σ
    | none => .no
  | _ => .no
/-- the closure's cells -/
def celL (HZ : Hp) (cl : List (Str × Addr)) : Cel := fun b => if (cl.any fun p => decide (cl.lookup p.1 = some b)) = true then (match HZ b with
  | some (.frz o _) => some o
  | _ => none) else none
section
variable {c : Cn} {H : Hp} {F : Addr → Prop} {la : List Addr} {σ : PSt} {σr : St} {C : Cel}
theorem celL_some {cl : List (Str × Addr)} {caps : List Str} {us : List V} (ce : CelZ H cl caps us) (hl : caps.length = us.length) {b : Addr} {o : Obj} (e : celL H cl b = some o) : (∃ y, cl.lookup y = some b) ∧ H b = some (.frz o (.own 0)) ∧ ∃ v, o.data = .cell v := by
  unfold celL at e
  split at e
  · rename_i hy
    obtain ⟨p, _, hp⟩ := List.any_eq_true.mp hy
    have hp := of_decide_eq_true hp
    obtain ⟨i, hi⟩ := ce.1 p.1 b hp
    have hlt := (List.getElem?_eq_some_iff.mp hi).1
    obtain ⟨a, o', w, l, hf, hd, _⟩ := ce.2.2 i p.1 (us[i]'(by omega)) hi (List.getElem?_eq_getElem (by omega))
    rw [hp] at l; cases l
    rw [hf] at e
    cases e
    exact ⟨⟨p.1, hp⟩, hf, _, hd⟩
  · cases e
theorem celL_at {cl : List (Str × Addr)} {y : Str} {b : Addr} {o : Obj} {u : HO} (hy : cl.lookup y = some b) (e : H b = some (.frz o u)) : celL H cl b = some o := by
  unfold celL
  rw [if_pos (List.any_eq_true.mpr ⟨(y, b), PySem.mem_of_lookup hy, decide_eq_true hy⟩), e]
/-- from the callee's heap to the lambda's -/
theorem sub_k (hc : ∀ b o, C b = some o → H b = some (.frz o (.own 0))) : ∀ a o, H a = some o → Thin o → subC H C a = some o := fun a o e t => by
  cases q : C a with
  | none => rw [subC_out q]; exact e
  | some o1 =>
    rw [hc a o1 q] at e
    cases e
    exact absurd rfl (t o1)
theorem sub_tabs {T : List (Addr × Str)} (tb : TabsZ T H) (hc : ∀ b o, C b = some o → H b = some (.frz o (.own 0))) (hd : ∀ b o, C b = some o → ∃ v, o.data = .cell v) : TabsZ T (subC H C) := fun p hp => by
  obtain ⟨ps, a1, a2, a3⟩ := tb p hp
  refine ⟨ps, sub_k hc _ _ a1 (fun _ z => nomatch z), a2, fun pos cv hcv => ?_⟩
  obtain ⟨c', e1, oc, vs, t, e2, e3, e4⟩ := a3 pos cv hcv
  refine ⟨c', e1, oc, vs, t, ?_, e3, e4⟩
  cases q : C c' with
  | none => rw [subC_out q]; exact e2
  | some o =>
    exfalso
    have z := hc c' o q
    rw [e2] at z
    cases z
    obtain ⟨v, hv⟩ := hd c' oc q
    rw [e3] at hv
    cases hv
/-- behind the lambda -/
theorem sr_fwd {F2 : Addr → Prop} {H2 : Hp} (S : SR c F la σ σr H) (hc : ∀ b o, C b = some o → H b = some (.frz o (.own 0))) (x : Ex ⟨fun a => F a ∧ C a = none, subC H C, fun _ => False⟩ ⟨F2, H2, fun _ => False⟩)
    (ft : ∀ a, F2 a → ∃ o, H2 a = some o ∧ NoT o) (tb : TabsZ c.LT.T H2) (free : ∀ b o, C b = some o → H2 b = none) :
    Ex ⟨F, H, Ow σ σr la⟩ ⟨fun a => F2 a ∨ F a, addC H2 C, Ow σ σr la⟩ ∧ SR c (fun a => F2 a ∨ F a) la σ σr (addC H2 C) ∧ (∀ a o, H2 a = some o → addC H2 C a = some o) ∧ (∀ a, subC H C a = none → C a = none → H a = none) := by
  have non : ∀ a, subC H C a = none → C a = none → H a = none := fun a e q => by rw [subC_out q] at e; exact e
  have kp : ∀ a o, H a = some o → NoT o → addC H2 C a = some o := fun a o e n => by
    cases q : C a with
    | some o1 =>
      rw [hc a o1 q] at e
      cases e
      exact addC_in q
    | none => rw [addC_out q]; exact x.kp a o (by show subC H C a = _; rw [subC_out q]; exact e) (fun z => z) n
  have k2 : ∀ a o, H2 a = some o → addC H2 C a = some o := addC_keeps free
  have keep : ∀ a o, H a = some o → (F a ∨ Stl o) → addC H2 C a = some o := fun a o e h => by
    refine kp a o e ?_
    rcases h with h | h
    · obtain ⟨u', e', n⟩ := S.ftr a h
      rw [e] at e'; cases e'
      exact n
    · exact h.noT
  have noC' : ∀ a, F2 a → C a = none := fun a f => by
    cases q : C a with
    | none => rfl
    | some o =>
      obtain ⟨u, e, _⟩ := ft a f
      rw [free a o q] at e; cases e
  have fnew : ∀ {p : PV} {a : Addr}, RO c F H p a → ¬ F a → ¬ (F2 a ∨ F a) := fun {p a} r nf f => by
    obtain ⟨o, e, ns⟩ := r.there
    rcases f with f | f
    · rcases x.fn a f with z | z | z
      · exact nf z.1
      · exact z
      · rw [non a z (noC' a f)] at e; cases e
    · exact nf f
  refine ⟨⟨fun a f => .inr f, fun a o e _ n => kp a o e n, fun a ps e => ?_, fun a z => .inl z, fun a f => ?_⟩,
    ⟨S.len, fun i v e => let ⟨u, e1, r⟩ := S.frz i v e; ⟨u, e1, RF.ext (fun _ h => .inr h) keep _ _ r⟩, S.lo, fun i v e => ?_, S.inj, S.lln, S.lnd, fun j v a e e1 => ?_, fun a f => ?_, fun i v e => let ⟨u, e1, r⟩ := S.clo i v e; ⟨u, e1, r.ext (fun _ h => .inr h) keep⟩, fun p hp => ?_⟩, k2, non⟩
  · have q : C a = none := by
      have e : H a = _ := e
      cases q : C a with
      | none => rfl
      | some o => rw [hc a o q] at e; cases e
    obtain ⟨qs, e2⟩ := x.tb a ps (by show subC H C a = _; rw [subC_out q]; exact e)
    exact ⟨qs, k2 a _ e2⟩
  · rcases f with f | f
    · rcases x.fn a f with z | z | z
      · exact .inl z.1
      · exact z.elim
      · exact .inr (.inr (non a z (noC' a f)))
    · exact .inl f
  · obtain ⟨a, e1, r, n, m⟩ := S.own i v e
    exact ⟨a, e1, r.ext (fun _ h => .inr h) keep (fun o e => kp a o e (r.noT e)), fnew r n, m⟩
  · obtain ⟨r, n⟩ := S.ln j v a e e1
    exact ⟨r.ext (fun _ h => .inr h) keep (fun o e => kp a o e (r.noT e)), fnew r n⟩
  · rcases f with f | f
    · obtain ⟨o, e, n⟩ := ft a f
      exact ⟨o, k2 a o e, n⟩
    · obtain ⟨o, e, n⟩ := S.ftr a f
      exact ⟨o, kp a o e n, n⟩
  · exact (tb p hp).ext (fun b o e _ => k2 b o e) fun ps e => k2 _ _ e
end
inductive LamHands (P : Program) (w : World) (K : PySem.W.Frag) (mg : Str → Option Value) (base : Heap) (LT : LTab) (j : Nat) : LDen → Prop
  | nil : LamHands P w K mg base LT j []
  | cons {k d t} : LamHand P w K mg base LT j k d → LamHands P w K mg base LT j t → LamHands P w K mg base LT j ((k, d) :: t)
theorem LamHands.get {P : Program} {w : World} {K : PySem.W.Frag} {mg : Str → Option Value} {base : Heap} {j : Nat} {t : LDen} (h : LamHands P w K mg base LT j t) {k : Nat} {d : DE} (e : t.lookup k = some d) : LamHand P w K mg base LT j k d := by
  induction h with
  | nil => simp at e
  | cons h1 _ ih =>
    rename_i k' d' t _
    rw [List.lookup] at e
    by_cases q : k = k'
    · subst q
      simp at e
      subst e
      exact h1
    · have q' : (k == k') = false := by simpa using q
      rw [q'] at e
      exact ih e
section
variable {X : Cx} {W : WX} {j i : Nat} {x : Str} {p1 p2 : Pos} {lt : LDen}
theorem start_ow {vs : List PV} {σr : St} {a : Addr} (h : Ow ⟨vs.map fun v => some (.frz v), []⟩ σr [] a) : False := by
  rcases h with h | ⟨i, v, e, _⟩
  · cases h
  · simp only [List.getElem?_map] at e
    cases q : vs[i]? with
    | none => rw [q] at e; cases e
    | some v' => rw [q] at e; cases e
/-- the start of the lambda's body -/
theorem start_sr {H : Hp} {F : Addr → Prop} {la : List Addr} {σ : PSt} {σr : St} {C : Cel} {c c2 : Cn} (S : SR c F la σ σr H) (hc2 : c2.toCb = c.toCb) (hc : ∀ b o, C b = some o → H b = some (.frz o (.own 0))) (hd : ∀ b o, C b = some o → ∃ v, o.data = .cell v) {vs : List PV} {us : List V} (rf : RFs c F H vs us) (nc : noCs vs = true) :
    SR c2 (fun a => F a ∧ C a = none) [] ⟨vs.map fun v => some (.frz v), []⟩ (us.map some) (subC H C) := by
  have hl := rf.length
  have rf2 : RFs c2 (fun a => F a ∧ C a = none) (subC H C) vs us := by
    rw [hc2]
    refine RFs.thin (fun a o f e t => ⟨f, ?_⟩) (fun a o e _ t => sub_k hc a o e t) vs us nc rf
    cases q : C a with
    | none => rfl
    | some o1 =>
      rw [hc a o1 q] at e
      cases e
      exact absurd rfl (t o1)
  have at_ : ∀ (i : Nat) (t : Sl), (vs.map fun v => some (Sl.frz v))[i]? = some (some t) → ∃ v, vs[i]? = some v ∧ t = .frz v := fun i t e => by
    rw [List.getElem?_map] at e
    obtain ⟨v, e1, e2⟩ := Option.map_eq_some_iff.mp e
    cases e2
    exact ⟨v, e1, rfl⟩
  refine ⟨by simp [hl], fun i v e => ?_, fun i k e => ?_, fun i v e => ?_, fun i j v w a e _ _ _ => ?_, rfl, List.nodup_nil, fun k v a e => by simp at e, fun a h => ?_, fun i ks e => ?_, by rw [hc2]; exact sub_tabs S.tabs hc hd⟩
  · obtain ⟨v', e1, e2⟩ := at_ i _ e
    cases e2
    obtain ⟨u, e3, r⟩ := rf2.get e1
    exact ⟨u, by rw [List.getElem?_map, e3]; rfl, r⟩
  · obtain ⟨v', _, e2⟩ := at_ i _ e; cases e2
  · obtain ⟨v', _, e2⟩ := at_ i _ e; cases e2
  · obtain ⟨v', _, e2⟩ := at_ i _ e; cases e2
  · obtain ⟨o, e, n⟩ := S.ftr a h.1
    exact ⟨o, by rw [subC_out h.2]; exact e, n⟩
  · obtain ⟨v', _, e2⟩ := at_ i _ e; cases e2
theorem z_callL (A : LamHands X.prog X.w X.K X.mg X.base LT j lt) (hr : Room (j + 1) X.A) (hN : X.N[i]? = some x) (hv : Vis X.env.scope x) (tk : Takes X W) (hdb : (x == ("__debug__" : Str)) = false := by decide) (hcd : (x == ("__classdict__" : Str)) = false := by decide) :
    PE X (.Call (.Name x p1) [] [] p2) (EV (cnE LT X ce) W (dCallL lt i)) := by
  refine ⟨fun pins s σr H Q I q => ?_⟩
  obtain ⟨F, la, σ, S, f⟩ := q
  unfold dCallL at f
  split at f
  · rename_i k vs hy
    obtain ⟨u, hu, ru⟩ := S.frz i _ hy
    unfold RF at ru
    obtain ⟨fa, L, cl, us, rfl, hk, ⟨o, c', dV, hf, lo, co, dz⟩, ce, hl, nc, rf⟩ := ru
    split at f
    · rename_i d hd
      obtain ⟨L', dn, hk', Z, B, hb⟩ := (A.get hd).ex
      have eL : L' = L := by
        have z : LT.lam k = some L := hk
        rw [hk'] at z; cases z
        rfl
      subst eL
      refine wpAny_Call_Name_kw (thn ((pe_var (pos := p1) (i := i) hN hv hdb hcd).run pins s σr H (fun v H1 => v = .ref fa ∧ H1 = H) I ⟨.ref fa, hu, rfl, rfl⟩) fun u s1 ⟨v, H1, I1, r1, q1⟩ => ?_)
      obtain ⟨rfl, rfl⟩ := q1
      cases r1
      have of1 : s1.heap.get? fa = some o := (I1.hok fa _ hf).1
      obtain ⟨doc, pm, ctv, rfl⟩ := lo
      refine PySem.W.callWith_F0 ⟨_, _, _, _, of1⟩ ?_
      have hcs := fun b o (e : celL H1 cl b = some o) => celL_some ce hl e
      have hc : ∀ b o, celL H1 cl b = some o → H1 b = some (.frz o (.own 0)) := fun b o e => (hcs b o e).2.1
      have e0 := I1.env0
      have sub0 : ∀ b, H1 b = none → subC H1 (celL H1 cl) b = none := fun b e => by
        cases q : celL H1 cl b with
        | some o => exact subC_in q
        | none => rw [subC_out q]; exact e
      have e1 : Env0 X.prog X.w X.K X.mg X.base X.A X.stack s1 (subC H1 (celL H1 cl)) := ⟨e0.frames, e0.mod, fun b o e => ⟨(e0.bs b o e).1, sub0 b (e0.bs b o e).2⟩, e0.bsz, e0.funs, fun b hb => sub0 b (e0.frf b hb), hok_sub e0.hok hc, e0.bare⟩
      have h0 : ∀ y a, cl.lookup y = some a → subC H1 (celL H1 cl) a = none := fun y a e => by
        obtain ⟨i, hi⟩ := ce.1 y a e
        have hlt := (List.getElem?_eq_some_iff.mp hi).1
        obtain ⟨a', o, w', l, hf, _, _⟩ := ce.2.2 i y (us[i]'(by omega)) hi (List.getElem?_eq_getElem (by omega))
        rw [l] at e; cases e
        exact subC_in (celL_at l hf)
      obtain ⟨oc, ws, t, hoc, hdc, hqc⟩ := co
      have goc : s1.heap.get? c' = some oc := (I1.hok c' _ hoc).1
      obtain ⟨binds, hbt, hloc⟩ : ∃ binds, BindsTo s1 (PySem.W.kdv_fn "<lambda>" L'.q L'.params (.expr L'.body) L'.scope cl dV doc pm (.ref c') ctv) ⟨[], []⟩ binds ∧ ∀ y ∈ binds, L'.scope.names.lookup y.1 = some .local := by
        rcases B with ⟨e1, _, e3⟩ | ⟨i0, x0, e1, e2, e3⟩
        · rcases dz with ⟨rfl, _⟩ | ⟨_, _, _, n, _⟩
          · exact ⟨[], .of_eq (e3 _ _ _ _ _), fun y hy => by cases hy⟩
          · exact absurd e1 n
        · rcases dz with ⟨_, n⟩ | ⟨t, ws, rfl, _, ht, hw⟩
          · rw [e1] at n; cases n
          · rw [e1] at hw
            cases hw with
            | cons r rr =>
              cases rr
              rename_i w0
              obtain ⟨kk, k1, k2⟩ := e3 t cl doc pm (.ref c') ctv
              exact ⟨[(x0, w0)], BindsTo.of_defaults rfl (I1.hok t _ ht).1 rfl k1 (k2 w0), fun y hy => by
                obtain rfl := List.mem_singleton.mp hy
                exact Z.dn x0 (by rw [e2]; simp)⟩
      have rc : codeAny (model X.prog X.w) X.A (.call (.ref fa) ⟨[], []⟩) (CR (L2.CX X.prog X.w) X.stack X.prog X.w H1 s1 Q (fun cls d H => W cls d σr H)) s1 := by
        refine PySem.W.kla_callFunE hr.depth of1 rfl Z.co Z.gen rfl ⟨c', oc, ws, t, rfl, goc, hdc, hqc⟩ (hbt _ _ _ _ ?_)
        refine wpAny_newFunctionEnv Z.nocell hloc (fun h₁ hns hsb => ⟨I1.nolimit.fresh _ hsb, ?_⟩) Z.kind
        show codeAny _ _ (.expr L'.body (envZ L' s1.heap.objs.size fa c' cl)) _ _
        have kp : ∀ b o, s1.heap.get? b = some o → h₁.get? b = some o := fun b o e => hsb.extBut b o (Nat.ne_of_lt (Heap.lt_size e)) (Heap.get?_push_of_some _ e)
        have J := lam_startZ (E := fun cls d H' => (∀ b o, celL H1 cl b = some o → H' b = none) → W cls d σr (addC H' (celL H1 cl))) (tk := s1.toks + binds.length) (f := fa) (c' := c') Z e1 hr.hd hl ce I1.hok h0 hns kp
        have S0 := start_sr (c2 := cn LT (cxL X.prog X.w X.K X.mg X.base L' X.A X.stack s1 (subC H1 (celL H1 cl)) (fun cls d H' => (∀ b o, celL H1 cl b = some o → H' b = none) → W cls d σr (addC H' (celL H1 cl))) fa c' cl)) S rfl hc (fun b o e => (hcs b o e).2.2) rf nc
        have fx : ∀ {F2 : Addr → Prop} {H2 : Hp} {σ2 : PSt}, Ex ⟨fun a => F a ∧ celL H1 cl a = none, subC H1 (celL H1 cl), Ow ⟨vs.map fun v => some (.frz v), []⟩ (us.map some) []⟩ ⟨F2, H2, Ow σ2 (us.map some) []⟩ → Ex ⟨fun a => F a ∧ celL H1 cl a = none, subC H1 (celL H1 cl), fun _ => False⟩ ⟨F2, H2, fun _ => False⟩ := fun xx =>
          ⟨xx.fr, fun a o e _ n => xx.kp a o e (fun z => start_ow z) n, xx.tb, fun a z => z.elim, fun a h => by
            rcases xx.fn a h with z | z | z
            · exact .inl z
            · exact (start_ow z).elim
            · exact .inr (.inr z)⟩
        refine PySem.W.kla_codeExpr (wpAny_mono ((hb X.A X.stack s1 (subC H1 (celL H1 cl)) (fun cls d H' => (∀ b o, celL H1 cl b = some o → H' b = none) → W cls d σr (addC H' (celL H1 cl))) fa c' cl (hr.deeper _)).run [] _ _ _
          (fun v H' => (∀ b o, celL H1 cl b = some o → H' b = none) → Q v (addC H' (celL H1 cl))) J ⟨_, _, _, S0, ?_⟩) (fun v s' hq => ?_) fun e s' hq => ?_)
        · cases qd : d ⟨vs.map fun v => some (.frz v), []⟩ with
          | no => rw [qd] at f; exact f.elim
          | ex ee σ2 =>
            rw [qd] at f
            intro F2 H2 cls dd xx SS hcm xf free
            obtain ⟨xb, Sb, k2, _⟩ := sr_fwd S hc (fx xx) SS.ftr SS.tabs free
            refine f _ _ cls dd xb Sb hcm ?_
            rcases xf with z | ⟨dx, ws, e1, l, r, hx⟩
            · exact .inl z
            · exact .inr ⟨dx, ws, e1, l, RFs.ext (fun _ h => .inl h) (fun a o e _ => k2 a o e) _ _ r, k2 _ _ hx⟩
          | ok r σ2 =>
            rw [qd] at f
            intro F2 H2 xx SS v ev free
            obtain ⟨xb, Sb, k2, non⟩ := sr_fwd S hc (fx xx) SS.ftr SS.tabs free
            cases r with
            | val q => exact f _ _ xb Sb v (RF.ext (fun _ h => .inl h) (fun a o e _ => k2 a o e) q v ev)
            | new q =>
              obtain ⟨a, rfl, ro, nf, _, nn⟩ := ev
              obtain ⟨oo, ho, _⟩ := ro.there
              have nc0 : celL H1 cl a = none := by
                cases qc : celL H1 cl a with
                | none => rfl
                | some o => rw [free a o qc] at ho; cases ho
              have n0 : H1 a = none := by
                rcases nn with z | z
                · exact (start_ow z).elim
                · exact non a z nc0
              refine f _ _ xb Sb _ ⟨a, rfl, ro.ext (fun _ h => .inl h) (fun a o e _ => k2 a o e) (fun o e => k2 a o e), fun z => ?_, fun z => ?_, .inr n0⟩
              · rcases z with z | z
                · exact nf z
                · obtain ⟨o, e, _⟩ := S.ftr a z
                  rw [n0] at e; cases e
              · obtain ⟨⟨o, e, _⟩, _⟩ := S.ow_there z
                rw [n0] at e; cases e
            | _ => exact f.elim
        · obtain ⟨w', H', J', rv, q⟩ := hq
          obtain ⟨un2, okf⟩ := un_add J'.base I1.hok hc I1.stkFree
          have free : ∀ b o, celL H1 cl b = some o → H' b = none := fun b o e => J'.base.free b o (I1.hok b _ (hc b o e)).1 (subC_in e) (fun z => nomatch z)
          exact ⟨w', addC H' (celL H1 cl), J'.os, J'.bare, un2, okf _ (cells_stay J'.base I1.hok hc I1.stkFree) J'.hok, rv, q free⟩
        · exact wpAny_mono hq (fun _ s'' h => cx_add I1.hok hc I1.stkFree h) (fun e'' s'' h => cx_add I1.hok hc I1.stkFree h)
      refine wpAny_call (codeAny_mono rc fun r s' hq => ?_)
      cases r with
      | error e => exact passAt tk σr pins H1 s1 e s' I1 hq
      | ok fl =>
        cases fl with
        | ret u => exact I1.after hq
        | next => exact False.elim hq
        | brk => exact False.elim hq
        | cont => exact False.elim hq
    · exact f.elim
  · exact f.elim
end
end L2.Zz

/-! Z38: lists of lambdas; the end of a law whose defs make lambdas. -/
namespace L2.Zz
open PySem PySem.Spec PyProof.Rows
variable {LT : LTab} {ce : List (Str × Addr)}
def closAll : List EVal → Option (List Nat)
  | [] => some []
  | .clo k :: rs => (closAll rs).map (k :: ·)
  | _ => none
/-- [lambda .., lambda ..] -/
def dLstC (da : DA) : DE := fun σ => (da σ).bind fun rs σ1 => match closAll rs with
  | some ks => if ks.length ≤ szL then .ok (.clos ks) σ1 else .no
  | none => .no
/-- such lists one behind the other -/
def dCatC (da db : DE) : DE := fun σ => (da σ).bind fun ra σ1 => (db σ1).bind fun rb σ2 => match ra, rb with
  | .clos ks, .clos ls => if ks.length + ls.length ≤ szL then .ok (.clos (ks ++ ls)) σ2 else .no
  | _, _ => .no
section
variable {c : Cn} {F : Addr → Prop} {la : List Addr} {σ : PSt} {σr : St} {H : Hp}
theorem OwnsZ.length {ks : List Nat} {vs : List V} (h : OwnsZ c H ks vs) : ks.length = vs.length := by
  induction h with
  | nil => rfl
  | cons _ _ ih => simp [ih]
theorem OwnsZ.append {ks ls : List Nat} {vs us : List V} (h : OwnsZ c H ks vs) (h2 : OwnsZ c H ls us) : OwnsZ c H (ks ++ ls) (vs ++ us) := by
  induction h with
  | nil => exact h2
  | cons h1 _ ih => exact .cons h1 ih
theorem closAll_ok {O N : Addr → Prop} {rs : List EVal} {vs : List V} (h : ERs c F la O N σr H rs vs) : ∀ {ks : List Nat}, closAll rs = some ks → OwnsZ c H ks vs := by
  induction h with
  | nil => intro ks e; rw [closAll] at e; cases e; exact .nil
  | cons h _ _ ih =>
    rename_i r v rs vs _ _
    intro ks e
    cases r with
    | clo k =>
      rw [closAll] at e
      obtain ⟨ks', e1, rfl⟩ := Option.map_eq_some_iff.mp e
      exact .cons h (ih e1)
    | _ => cases e
/-- one more object that stands still -/
theorem SR.addF {p : Addr} (S : SR c F la σ σr H) (hp : ∃ o, H p = some o ∧ NoT o) (no : ¬ Ow σ σr la p) : SR c (fun b => F b ∨ b = p) la σ σr H := by
  have hF : ∀ b, F b → F b ∨ b = p := fun b f => .inl f
  have kk : ∀ b o, H b = some o → (F b ∨ Stl o) → H b = some o := fun _ _ e _ => e
  refine ⟨S.len, fun i v e => let ⟨u, e1, r⟩ := S.frz i v e; ⟨u, e1, RF.ext hF kk _ _ r⟩, S.lo, fun i v e => ?_, S.inj, S.lln, S.lnd, fun j v b e e1 => ?_, fun b f => ?_, fun i ks e => let ⟨u, e1, r⟩ := S.clo i ks e; ⟨u, e1, r.ext hF kk⟩, S.tabs⟩
  · obtain ⟨b, e1, r, n, m⟩ := S.own i v e
    exact ⟨b, e1, r.ext hF kk fun _ e => e, fun z => z.elim n fun z => no (by subst z; exact .inr ⟨i, v, e, e1⟩), m⟩
  · obtain ⟨r, n⟩ := S.ln j v b e e1
    exact ⟨r.ext hF kk fun _ e => e, fun z => z.elim n fun z => no (by subst z; exact .inl (List.mem_of_getElem? e1))⟩
  · rcases f with f | rfl
    · exact S.ftr b f
    · exact hp
/-- a new list of lambdas -/
theorem clos_new {W : WX} {g : Gh} {ks : List Nat} {us : List V} {Q : VK} {p : Addr} (S : SR c F la σ σr H) (x : Ex g ⟨F, H, Ow σ σr la⟩) (n : H p = none) (o : OwnsZ c H ks us) (f : Fin c W la σr g (.ok (.clos ks) σ) (PE0 c la σr g Q)) : Q (.ref p) (upd H p (.lst us)) := by
  have k := upd_keeps (o := .lst us) n
  obtain ⟨n1, n2⟩ := S.fresh n
  refine f (fun b => F b ∨ b = p) _ ⟨fun a h => .inl (x.fr a h), fun a o e no nt => k a o (x.kp a o e no nt), fun a ps e => let ⟨qs, e2⟩ := x.tb a ps e; ⟨qs, k a _ e2⟩, x.ow, fun a h => ?_⟩ ((S.keeps k).addF ⟨_, upd_same, fun _ z => nomatch z⟩ n2) _
    ⟨p, us, rfl, .inl ⟨.inr rfl, .inl upd_same⟩, o.ext fun b u e _ => k b u e⟩
  rcases h with h | rfl
  · exact x.fn a h
  · exact .inr (x.back (.inr n))
end
section
variable {X : Cx} {W : WX} {es : List Expr} {da : DA} {a b : Expr} {d e : DE} {pos : Pos}
theorem z_lstC (h : PA X es (EVA (cnE LT X ce) W da)) : PE X (.List es pos) (EV (cnE LT X ce) W (dLstC da)) := PE.wk (pe_lst h) fun σr H Q q => by
  obtain ⟨F, la, σ, S, g⟩ := q
  refine ⟨F, la, σ, S, g.bind.mono fun rs σ1 F1 H1 x1 S1 f1 vs es => ?_⟩
  cases qa : closAll rs with
  | none => rw [qa] at f1; exact f1.elim
  | some ks =>
    rw [qa] at f1
    have r := closAll_ok es qa
    obtain ⟨hl, f2⟩ := fin_if f1
    exact ⟨by rw [← r.length, szL_eq]; exact hl, fun p n => clos_new S1 x1 n r f2⟩
theorem z_catC (ha : PE X a (EV (cnE LT X ce) W d)) (hb : PE X b (EV (cnE LT X ce) W e)) : PE X (.BinOp a .Add b pos) (EV (cnE LT X ce) W (dCatC d e)) := PE.wk (pe_op op_catZ ha hb) fun σr H Q q => by
  obtain ⟨F, la, σ, S, x, g⟩ := q.start
  refine EV.seq S x g fun F1 σ1 ra v H1 x1 S1 e1 f1 => ?_
  refine EV.seq S1 x1 f1 fun F2 σ2 rb u H2 x2 S2 e2 f2 => ?_
  have e1' := e1.ext S1 x2
  cases ra with
  | clos ks =>
    cases rb with
    | clos ls =>
      obtain ⟨hl, f3⟩ := fin_if (show Fin (cnE LT X ce) W la σr _ (if ks.length + ls.length ≤ szL then Rs.ok (EVal.clos (ks ++ ls)) σ2 else .no) _ from f2)
      obtain ⟨l1, us1, rfl, fr1, o1⟩ := (show ClosZ (cnE LT X ce) F2 H2 ks v from e1')
      obtain ⟨l2, us2, rfl, fr2, o2⟩ := (show ClosZ (cnE LT X ce) F2 H2 ls u from e2)
      exact ⟨l1, l2, us1, us2, rfl, rfl, fr1.sq, fr2.sq, by rw [← o1.length, ← o2.length, szL_eq]; exact hl, fun p n => clos_new S2 (x1.trans x2) n (o1.append o2) f3⟩
    | _ => exact f2.elim
  | _ => exact f2.elim
end
/-! ### the end -/
/-- the tables of the makers, told by the written part -/
def mkTabs (cs : List (Addr × Addr × Str)) : List (Addr × Str) := cs.map fun q => (q.2.1, q.2.2)
theorem mkT_of {X : Cx} {cs : List (Addr × Addr × Str)} {c P : Addr} {q : Str} (hT : LT.T = mkTabs cs) (TB : ∀ p ∈ cs, LamX.TabB X.base X.mg p.1 p.2.1) (hm : (c, P, q) ∈ cs) (hcode : X.env.code = .ref c) (hu : ∀ p ∈ cs, p.2.1 = P → p.2.2 = q) : MkT LT X q :=
  ⟨c, P, TB _ hm, hcode, by rw [hT]; exact List.mem_map.mpr ⟨_, hm, rfl⟩, fun p hp e => by
    rw [hT] at hp
    obtain ⟨r, hr, rfl⟩ := List.mem_map.mp hp
    exact hu r hr e⟩
theorem tabs_start {cs : List (Addr × Addr × Str)} {H : Hp} (h : ∀ p ∈ cs, H p.2.1 = some (.tbl #[])) : TabsZ (mkTabs cs) H := fun p hp => by
  obtain ⟨r, hr, rfl⟩ := List.mem_map.mp hp
  refine ⟨#[], h r hr, True.intro, fun pos cv hc => ?_⟩
  have z : codeAmong pos [] = some cv := hc
  simp [codeAmong] at z
end L2.Zz

/-! Z39: reckoning with errors and lambdas. -/
namespace L2.Zz
open PySem PySem.Spec PyProof.Rows
section
variable {Q : EVal → PSt → Prop} {R : XP} {σ σ1 : PSt} {l : SlL} {n : List PV} {i k : Nat} {da db : DE} {ds : DA} {ra rb : EVal} {rs : List EVal} {ps vs : List PV} {ks js is : List Nat} {cap : Cap}
theorem w_varC (h : GetL l i (.clos ks)) (q : Q (.clos ks) ⟨l, n⟩) : WP (dVar i ⟨l, n⟩) Q R := by
  with_unfolding_all
    unfold GetL at h
    unfold dVar
    simp only [h]
    exact q
theorem w_lam (q : Q (.clo k) σ) : WP (dLam k σ) Q R := by with_unfolding_all exact q
theorem StS.c {l' : SlL} (h : SetL l i (.clos ks) l') : StS i (.clos ks) ⟨l, n⟩ ⟨l', n⟩ := by unfold SetL at h; unfold StS st; simp only [h]
def CloS (rs : List EVal) (ks : List Nat) : Prop := closAll rs = some ks
theorem CloS.z : CloS [] [] := rfl
theorem CloS.c (t : CloS rs ks) : CloS (.clo k :: rs) (k :: ks) := by unfold CloS at t ⊢; rw [closAll, t]; rfl
def KLc (Q : EVal → PSt → Prop) : List EVal → PSt → Prop := fun rs σ1 => ∃ ks, CloS rs ks ∧ ks.length ≤ szL ∧ Q (.clos ks) σ1
theorem k_lc (h : CloS rs ks) (e : EqF (some (decide (ks.length ≤ szL))) (some true)) (q : Q (.clos ks) σ) : KLc Q rs σ := ⟨_, h, of_decide_eq_true (Option.some.inj e), q⟩
theorem v_lstC (h : WP (ds σ) (KLc Q) R) : WP (dLstC ds σ) Q R := by
  with_unfolding_all exact WP.bind (h.mono fun rs σ1 ⟨ks, e, hl, q⟩ => by rw [show closAll rs = _ from e]; show WP (if ks.length ≤ szL then _ else _) Q R; rw [if_pos hl]; exact q)
def KCc (ra : EVal) (Q : EVal → PSt → Prop) : EVal → PSt → Prop := fun rb σ1 => ∃ ks js, ra = .clos ks ∧ rb = .clos js ∧ ks.length + js.length ≤ szL ∧ Q (.clos (ks ++ js)) σ1
theorem k_cc (e : EqF (some (decide (ks.length + js.length ≤ szL))) (some true)) (q : Q (.clos (ks ++ js)) σ) : KCc (.clos ks) Q (.clos js) σ := ⟨_, _, rfl, rfl, of_decide_eq_true (Option.some.inj e), q⟩
theorem v_catC (h : WP (da σ) (fun ra σ1 => WP (db σ1) (KCc ra Q) R) R) : WP (dCatC da db σ) Q R := by
  with_unfolding_all exact WP.bind (h.mono fun ra σ1 h => WP.bind (h.mono fun rb σ2 ⟨ks, js, e1, e2, hl, q⟩ => by subst e1 e2; show WP (if ks.length + js.length ≤ szL then _ else _) Q R; rw [if_pos hl]; exact q))
/-! a def called with lambdas -/
def CapS (σ : PSt) (is : List Nat) (vs : List PV) : Prop := capV σ is = some vs
theorem CapS.z : CapS σ [] [] := rfl
theorem CapS.c {v : PV} (h : GetL l i (.frz v)) (nc : noC v = true) (t : CapS ⟨l, n⟩ is vs) : CapS ⟨l, n⟩ (i :: is) (v :: vs) := by
  unfold GetL at h; unfold CapS at t ⊢
  rw [capV, t]; simp only [h, nc, if_true]
def ClsS (cap : Cap) (σ : PSt) (ks : List Nat) (ps : List PV) : Prop := cloL cap σ ks = some ps
theorem ClsS.z : ClsS cap σ [] [] := rfl
theorem ClsS.c (h : EqF (cap.lookup k) (some is)) (c : CapS σ is vs) (t : ClsS cap σ ks ps) : ClsS cap σ (k :: ks) (.clo k vs :: ps) := by
  unfold CapS at c; unfold ClsS at t ⊢
  rw [cloL, t, capK, show cap.lookup k = _ from h, Option.bind_some, c]
def CvS (cap : Cap) (σ : PSt) (rs : List EVal) (ps : List PV) : Prop := cvtA cap σ rs = some ps
theorem CvS.z : CvS cap σ [] [] := rfl
theorem CvS.v {p : PV} (t : CvS cap σ rs ps) : CvS cap σ (.val p :: rs) (p :: ps) := by unfold CvS at t ⊢; rw [cvtA, t]; rfl
theorem CvS.c (h : EqF (cap.lookup k) (some is)) (c : CapS σ is vs) (t : CvS cap σ rs ps) : CvS cap σ (.clo k :: rs) (.clo k vs :: ps) := by
  unfold CapS at c; unfold CvS at t ⊢
  rw [cvtA, t, cvt, capK, show cap.lookup k = _ from h, Option.bind_some, c]; rfl
theorem CvS.m {qs : List PV} (c : ClsS cap σ ks qs) (t : CvS cap σ rs ps) : CvS cap σ (.clos ks :: rs) (.lst qs :: ps) := by
  unfold ClsS at c; unfold CvS at t ⊢
  rw [cvtA, t, cvt, c]; rfl
/-- what comes back of such a call -/
def KOut (Q : EVal → PSt → Prop) (σ : PSt) : EVal → PSt → Prop := fun r _ => ∃ p, (r = .val p ∨ r = .new p) ∧ noC p = true ∧ Q r σ
theorem k_outV {p : PV} (nc : noC p = true) (q : Q (.val p) σ) : KOut Q σ (.val p) σ1 := ⟨p, .inl rfl, nc, q⟩
theorem k_outN {p : PV} (nc : noC p = true) (q : Q (.new p) σ) : KOut Q σ (.new p) σ1 := ⟨p, .inr rfl, nc, q⟩
def KCc2 (m np : Nat) (body : DS) (cap : Cap) (Q : EVal → PSt → Prop) : List EVal → PSt → Prop := fun rs σ1 => ∃ ps, CvS cap σ1 rs ps ∧ ps.length = np ∧ WP (callD m body (ps.map .val) ⟨[], []⟩) (KOut Q σ1) noX
theorem k_callC {m np : Nat} {body : DS} (h : CvS cap σ rs ps) (e : EqF (some ps.length) (some np)) (q : WP (callD m body (ps.map .val) ⟨[], []⟩) (KOut Q σ) noX) : KCc2 m np body cap Q rs σ := ⟨_, h, Option.some.inj e, q⟩
theorem v_callC {m np : Nat} {body : DS} (h : WP (ds σ) (KCc2 m np body cap Q) R) : WP (dCallC m np body cap ds σ) Q R := by
  with_unfolding_all exact WP.bind (h.mono fun rs σ1 ⟨ps, e, hl, q⟩ => by
    rw [show cvtA cap σ1 rs = _ from e]
    show WP (if ps.length = np then _ else _) Q R
    rw [if_pos hl]
    obtain ⟨r, s, e2, p, hr, nc, q2⟩ := q.some_ (a := .val .non) (s := ⟨[], []⟩)
    rw [e2]
    rcases hr with rfl | rfl
    · show WP (if noC p = true then _ else _) Q R
      rw [if_pos nc]; exact q2
    · show WP (if noC p = true then _ else _) Q R
      rw [if_pos nc]; exact q2)
/-! a lambda called -/
def KEl (Q : EVal → PSt → Prop) (σ : PSt) : EVal → PSt → Prop := fun r _ => ∃ p, (r = .val p ∨ r = .new p) ∧ Q r σ
theorem k_elV {p : PV} (q : Q (.val p) σ) : KEl Q σ (.val p) σ1 := ⟨p, .inl rfl, q⟩
theorem k_elN {p : PV} (q : Q (.new p) σ) : KEl Q σ (.new p) σ1 := ⟨p, .inr rfl, q⟩
theorem v_callL {lt : LDen} {d : DE} (h : GetL l i (.frz (.clo k vs))) (e : EqF (lt.lookup k) (some d)) (q : WP (d ⟨vs.map fun v => some (.frz v), []⟩) (KEl Q ⟨l, n⟩) (fun ex _ => R ex ⟨l, n⟩)) : WP (dCallL lt i ⟨l, n⟩) Q R := by
  unfold GetL at h
  unfold dCallL
  simp only [h]
  rw [show lt.lookup k = _ from e]
  show WP (endL (d ⟨vs.map fun v => some (.frz v), []⟩) ⟨l, n⟩) Q R
  cases hd : d ⟨vs.map fun v => some (.frz v), []⟩ with
  | no => rw [hd] at q; with_unfolding_all exact q
  | ex ee s => rw [hd] at q; with_unfolding_all exact q
  | ok r s =>
    rw [hd] at q
    have q2 : KEl Q ⟨l, n⟩ r s := by with_unfolding_all exact q
    obtain ⟨p, hr, q3⟩ := q2
    rcases hr with rfl | rfl
    · with_unfolding_all exact q3
    · with_unfolding_all exact q3
end
/-! ### errors -/
section
variable {Q : Fl → PSt → Prop} {R : XP} {σ : PSt} {ds : DA} {rs : List EVal} {ps : List PV} {x : Str} {ns : List Str} {b : DS} {hs : List Hd} {e : Exn} {d : Hd} {p : PV} {σ1 : PSt}
def KRs (x : Str) (ns : List Str) (R : XP) : List EVal → PSt → Prop := fun rs σ1 => ∃ ps, VlS rs ps ∧ ps.length = ns.length ∧ R ⟨x, ns, ps⟩ σ1
theorem k_rs (h : VlS rs ps) (hl : EqF (some ps.length) (some ns.length)) (q : R ⟨x, ns, ps⟩ σ) : KRs x ns R rs σ := ⟨_, h, Option.some.inj hl, q⟩
theorem v_raise (h : WP (ds σ) (KRs x ns R) R) : WP (dRaise x ns ds σ) Q R := by
  with_unfolding_all exact WP.bind (h.mono fun rs σ1 ⟨ps, e, hl, q⟩ => by
    rw [show dTup.vals rs = _ from e]
    show WP (if ps.length = ns.length then _ else _) Q R
    rw [if_pos hl]; exact q)
theorem v_try (h : WP (b σ) Q (fun e σ1 => WP (hnd hs e σ1) Q R)) : WP (dTry b hs σ) Q R := by
  unfold dTry
  cases q : b σ with
  | ok r s => rw [q] at h; with_unfolding_all exact h
  | no => rw [q] at h; with_unfolding_all exact h
  | ex ee s => rw [q] at h; with_unfolding_all exact h
def OffS (nm : Option Nat) (σ σ1 : PSt) : Prop := offS nm σ = σ1
theorem OffS.n : OffS none σ σ := rfl
theorem OffS.s {l : SlL} {n : List PV} {i : Nat} : OffS (some i) ⟨l, n⟩ ⟨l.set i none, n⟩ := rfl
theorem v_hndN (h : EqF (d.tab.lookup e.cls) (some false)) (q : WP (hnd hs e σ) Q R) : WP (hnd (d :: hs) e σ) Q R := by
  rw [hnd, show d.tab.lookup e.cls = _ from h]; exact q
theorem v_hndR {tab : List (Str × Bool)} {nm : Option Nat} {g : Exn → Option PV} (h : EqF (tab.lookup e.cls) (some true)) (hg : EqF (g e) (some p)) (q : Q (.rt (.val p)) (offS nm σ)) : WP (hnd (⟨tab, nm, g, none⟩ :: hs) e σ) Q R := by
  rw [hnd]
  dsimp only
  rw [show tab.lookup e.cls = _ from h]
  unfold hndA
  dsimp only
  rw [show g e = _ from hg]
  with_unfolding_all exact q
theorem v_hndS {tab : List (Str × Bool)} {nm : Option Nat} {g : Exn → Option PV} {j : Nat} (h : EqF (tab.lookup e.cls) (some true)) (hg : EqF (g e) (some p)) (q : Q .nx (offS nm ⟨(offS nm σ).sl.set j (some (.frz p)), σ.ln⟩)) : WP (hnd (⟨tab, nm, g, some j⟩ :: hs) e σ) Q R := by
  rw [hnd]
  dsimp only
  rw [show tab.lookup e.cls = _ from h]
  unfold hndA
  dsimp only
  rw [show g e = _ from hg]
  with_unfolding_all exact q
theorem v_hnd0 (q : R e σ) : WP (hnd [] e σ) Q R := by with_unfolding_all exact q
end
end L2.Zz

/-! Z40: what a program that prints walks needs besides. -/
namespace L2.Zz
open PySem PySem.Spec PyProof.Rows
variable {LT : LTab}
/-- a def whose code object's place is told -/
structure FunC (K : PySem.W.Frag) (x qual : Str) (st : Stmt) (f : Addr) (fd : FuncData) (c : Addr) : Prop where
  ex : ∃ (oc : Value) (od : Option Addr) (kV doc pm : Value) (an : Option Addr) (ct : Value) (osl : Array (Option Value)),
    fd = PySem.W.fnOf x qual (defArgs st) (defBody st) (defScope st) .none kV doc pm an (.ref c) ct ∧ K.lookup f = some ⟨oc, od, .func fd, osl⟩ ∧ PySem.W.codeIn K (.ref c) qual = true
  kp : PySem.W.keepIn K (.ref f) = true
section
variable {P : Program} {w : World} {K : PySem.W.Frag} {mg : Str → Option Value} {base : Heap}
theorem fn_okC {x qual : Str} {st : Stmt} {f c : Addr} {fd : FuncData} {N ps : List Str} {k : Nat} {body : DS} (F : FunC K x qual st f fd c) (S : FnScope N ps (defScope st))
    (hb : ∀ (A : Around) (outer : List Env) (s : Shared) (H : Hp) (E : XK), Room k (A.deeper (envOfC qual (defScope st) s.heap.objs.size f (.ref c))) →
      PSs (cxOf (L2.CX P w) P w K mg base N qual (defScope st) f (.ref c) A outer s H E) (defBody st) (SV (cn LT (cxOf (L2.CX P w) P w K mg base N qual (defScope st) f (.ref c) A outer s H E)) (fun cls d _ H => E cls d H) body)) : FnOk P w K mg base (L2.CX P w) (k + 1) f fd ps (spD ⟨P, w, K, mg, LT⟩ N ps.length body) := by
  obtain ⟨oc, od, kV, doc, pm, an, ct, osl, rfl, lk, hcd⟩ := F.ex
  exact fn_of lk hcd S (fun vs H Q E h => h.1) fun A outer s H vs Q E hr h => ⟨_, hb A outer s H E hr, h.2 _⟩
end
/-- the classes of errors, asked by a clause -/
inductive ClsT (X : Cx) (c : Value) : List (Str × Bool) → Prop
  | nil : ClsT X c []
  | cons {n C b t} (hm : X.mg n = some (.ref C)) (hx : PySem.W.exmOne X.K (.ref C) c = some b) (r : ClsT X c t) : ClsT X c ((n, b) :: t)
theorem ClsT.get {X : Cx} {c : Value} {tab : List (Str × Bool)} (h : ClsT X c tab) : ∀ n C b, tab.lookup n = some b → X.mg n = some (.ref C) → PySem.W.exmOne X.K (.ref C) c = some b := by
  induction h with
  | nil => intro n C b e; simp at e
  | @cons m C' b' t hm hx _ ih =>
    intro n C b e hn
    rw [look_cons] at e
    by_cases q : n = m
    · rw [if_pos q] at e
      cases e
      rw [q, hm] at hn
      cases hn
      exact hx
    · rw [if_neg q] at e
      exact ih n C b e hn
theorem cls_mk {X : Cx} {x : Str} {c : Addr} {tab : List (Str × Bool)} (hg : Gl X x) (hm : X.mg x = some (.ref c)) (t : ClsT X (.ref c) tab) (hdb : (x == ("__debug__" : Str)) = false := by decide) : Cls X x tab := ⟨.ref c, ⟨hg, hdb, .inl hm⟩, t.get⟩
/-- an error's class, asked by isinstance -/
def excB (K : PySem.W.Frag) (D : Addr) : Bool := decide (PySem.W.findIn K (.ref D) "__getattribute__" = some (some (.builtin "BaseException.__getattribute__"))) && (decide (PySem.W.findIn K (.ref D) "__getattr__" = some none) && (decide (PySem.W.subIn K (.ref D) (.type "BaseException") = some true) &&
  (PySem.W.hasDictIn K D && (decide (PySem.W.findIn K (.ref D) "__class__" = some (some (.builtin "object.__class__"))) && (decide (PySem.W.specialIn K (.builtin "object.__class__") "__get__" = some (some (.builtin "getset_descriptor.__get__"))) &&
  (decide (PySem.W.takesIn K (.builtin "object.__class__") = some true) && decide (PySem.W.mroIn K D (.type "object") = some true)))))))
theorem excB_ok {K : PySem.W.Frag} {D : Addr} (h : excB K D = true) : ExcC K D := by
  unfold excB at h
  simp only [Bool.and_eq_true, decide_eq_true_eq] at h
  obtain ⟨h1, h2, h3, h4, h5, h6, h7, h8⟩ := h
  exact ⟨h1, h2, h3, h4, h5, h6, h7, h8⟩
/-- what the lambdas of a maker capture, by their numbers -/
inductive CapT (LT : LTab) (N : List Str) (sc : Scope) : Cap → Prop
  | nil : CapT LT N sc []
  | cons {k is L t} (hl : LT.lam k = some L) (h : CapOk N sc L.caps is) (r : CapT LT N sc t) : CapT LT N sc ((k, is) :: t)
theorem CapT.get {N : List Str} {sc : Scope} {cap : Cap} (h : CapT LT N sc cap) : ∀ k is L, cap.lookup k = some is → LT.lam k = some L → CapOk N sc L.caps is := by
  induction h with
  | nil => intro k is L e; simp at e
  | @cons m js L' t hl h _ ih =>
    intro k is L e hk
    rw [List.lookup] at e
    by_cases q : k = m
    · subst q
      simp at e
      subst e
      rw [hl] at hk
      cases hk
      exact h
    · have q' : (k == m) = false := by simpa using q
      rw [q'] at e
      exact ih k is L e hk
/-! ### parts of a text -/
def clsBody (s : Stmt) : List Stmt := match s with
  | .ClassDef _ _ _ b _ _ _ _ _ _ _ => b
  | _ => []
def subS (s : Stmt) : List Stmt := match s with
  | .For _ _ b o _ => b ++ o
  | .While _ b o _ => b ++ o
  | .If _ b o _ => b ++ o
  | .Try b _ _ _ _ => b
  | .FunctionDef _ _ b _ _ _ _ _ _ _ => b
  | _ => []
def eS (s : Stmt) : Expr := match s with
  | .Return (some e) _ => e
  | .Assign _ e _ => e
  | .Expr e _ => e
  | .If e _ _ _ => e
  | .While e _ _ _ => e
  | .For _ e _ _ _ => e
  | _ => .Name "" ⟨0, 0, 0, 0⟩
def eSub (e : Expr) : List Expr := match e with
  | .BoolOp _ vs _ => vs
  | .BinOp a _ b _ => [a, b]
  | .UnaryOp _ a _ => [a]
  | .IfExp a b c _ => [a, b, c]
  | .Compare a _ bs _ => a :: bs
  | .Call f as _ _ => f :: as
  | .Subscript a b _ => [a, b]
  | .List es _ => es
  | .Tuple es _ _ => es
  | .ListComp e _ _ _ => [e]
  | _ => []
def e0 : Expr := .Name "" ⟨0, 0, 0, 0⟩
def s0 : Stmt := .Pass ⟨0, 0, 0, 0⟩
def pathS (s : Stmt) : List Nat → Stmt
  | [] => s
  | i :: is => pathS ((subS s).getD i s0) is
def pathE (e : Expr) : List Nat → Expr
  | [] => e
  | i :: is => pathE ((eSub e).getD i e0) is
def lamArgs (e : Expr) : Arguments := match e with
  | .Lambda a _ _ _ => a
  | _ => { posonlyargs := [], args := [], vararg := none, kwonlyargs := [], kw_defaults := [], kwarg := none, defaults := [] }
def lamBody (e : Expr) : Expr := match e with
  | .Lambda _ b _ _ => b
  | _ => e0
def lamScope (e : Expr) : Scope := match e with
  | .Lambda _ _ sc _ => sc
  | _ => { kind := .function, names := [], isGenerator := false, isCoroutine := false }
/-- the lambda at a place of a def's text -/
def lamAt (s : Stmt) (ps es : List Nat) : Expr := pathE (eS (pathS s ps)) es
abbrev lamD (q : Str) (e : Expr) (caps : List Str) (dv : List Int) : LamD := ⟨q, lamArgs e, lamBody e, lamScope e, caps, dv⟩
end L2.Zz

/-! Z41: the end of a law with makers of lambdas. -/
namespace L2.Zz
open PySem PySem.Spec PyProof.Rows
theorem funC_mk {K : PySem.W.Frag} {x qual : Str} {st : Stmt} {f c : Addr} {oc : Value} {od an : Option Addr} {osl : Array (Option Value)} {kV doc pm ct : Value} (l : K.lookup f = some ⟨oc, od, .func (PySem.W.fnOf x qual (defArgs st) (defBody st) (defScope st) .none kV doc pm an (.ref c) ct), osl⟩)
    (cd : PySem.W.codeIn K (.ref c) qual = true) (k : PySem.W.keepIn K (.ref f) = true) : FunC K x qual st f (PySem.W.fnOf x qual (defArgs st) (defBody st) (defScope st) .none kV doc pm an (.ref c) ct) c := ⟨⟨oc, od, kV, doc, pm, an, ct, osl, rfl, l, cd⟩, k⟩
theorem nd_u {cs : List (Addr × Addr × Str)} (h : (cs.map fun q => q.2.1).Nodup) {p r : Addr × Addr × Str} (hp : p ∈ cs) (hr : r ∈ cs) (e : p.2.1 = r.2.1) : p = r := by
  induction cs with
  | nil => cases hp
  | cons a l ih =>
    rw [List.map_cons, List.nodup_cons] at h
    rcases List.mem_cons.mp hp with rfl | hp'
    · rcases List.mem_cons.mp hr with rfl | hr'
      · rfl
      · exact absurd (List.mem_map.mpr ⟨r, hr', e.symm⟩) h.1
    · rcases List.mem_cons.mp hr with rfl | hr'
      · exact absurd (List.mem_map.mpr ⟨p, hp', e⟩) h.1
      · exact ih h.2 hp' hr'
theorem tab_m {cs : List (Addr × Addr × Str)} {c P : Addr} {q : Str} (h : (c, P, q) ∈ cs) : (P, q) ∈ mkTabs cs := List.mem_map.mpr ⟨_, h, rfl⟩
theorem tab_u {cs : List (Addr × Addr × Str)} {c P : Addr} {q : Str} (nd : (cs.map fun q => q.2.1).Nodup) (h : (c, P, q) ∈ cs) : ∀ p ∈ mkTabs cs, p.1 = P → p.2 = q := fun p hp e => by
  obtain ⟨r, hr, rfl⟩ := List.mem_map.mp hp
  have e2 : r = (c, P, q) := nd_u nd hr h e
  rw [e2]
theorem law_at {l : PySem.W.OpenLaw} {w : World} {K : PySem.W.Frag} {CX : CXT} {k n : Nat} {x : Str} {mg : Str → Option Value} {fa : Addr} {h : Heap} {cs : List (Addr × Addr × Str)} {lam : Nat → Option LamD} {fd : FuncData} {N : List Str} {body : DS} {ts : List Addr}
    (KX : K.In h) (T8 : ∀ P ∈ ts, h.get? P = some (PySem.W.tabObj #[])) (mT : ∀ p ∈ cs, p.2.1 ∈ ts) (nT : ∀ p ∈ cs, K.lookup p.2.1 = none) (C : ∀ p ∈ cs, PySem.W.codeHdIn K p.1 p.2.1 = true)
    (hb : ∀ (s : Shared) (u : Value), BindsTo s fd ⟨[u], []⟩ [(x, u)])
    (hm : ∀ ns : List Int, ns.length ≤ n → (∀ z ∈ ns, Builtin.Int.intBits z ≤ 1048576) → ∃ σ', body ⟨some (.frz (.lst (ns.map PV.int))) :: List.replicate (N.length - 1) none, []⟩ = .ok (.rt (.val (.bl true))) σ')
    (F : ∀ base : Heap, K.In base → base.Ns mainGlobals mg → (∀ p ∈ cs, LamX.TabB base mg p.1 p.2.1) → FnOk l.prog w K mg base CX k fa fd [x] (spD ⟨l.prog, w, K, mg, ⟨mkTabs cs, lam⟩⟩ N 1 body)) :
    LamX.LawAtS l w K CX k n x mg fa h := by
  refine ⟨fd, cs.map fun q => (q.1, q.2.1), spD ⟨l.prog, w, K, mg, ⟨mkTabs cs, lam⟩⟩ N 1 body, fun p hp => ?_, fun p hp => ?_, fun p hp => ?_, hb, fun H a ns h1 h2 hH hS => ?_, fun base hK hn hB => F base hK hn fun p hp => hB _ (List.mem_map.mpr ⟨p, hp, rfl⟩)⟩
  · obtain ⟨q, hq, rfl⟩ := List.mem_map.mp hp
    exact T8 _ (mT q hq)
  · obtain ⟨q, hq, rfl⟩ := List.mem_map.mp hp
    exact nT q hq
  · obtain ⟨q, hq, rfl⟩ := List.mem_map.mp hp
    exact PySem.W.codeHd_of_K KX (C q hq)
  · exact law_sp (c := ⟨l.prog, w, K, mg, ⟨mkTabs cs, lam⟩⟩) (tabs_start fun p hp => hH _ (List.mem_map.mpr ⟨p, hp, rfl⟩)) hS (hm ns h1 h2)
theorem all_nil {α : Type} {p : α → Prop} : ∀ x ∈ ([] : List α), p x := fun _ h => nomatch h
theorem all_cons {α : Type} {p : α → Prop} {a : α} {l : List α} (h : p a) (t : ∀ x ∈ l, p x) : ∀ x ∈ a :: l, p x := List.forall_mem_cons.mpr ⟨h, t⟩
end L2.Zz

/-! Z42: lambdas called, in the form the step words take. -/
namespace L2.Zz
open PySem PySem.Spec PyProof.Rows
inductive FrzL : List PV → SlL → Prop
  | z : FrzL [] []
  | s {p ps l} : FrzL ps l → FrzL (p :: ps) (some (.frz p) :: l)
theorem FrzL.eq {ps : List PV} {l : SlL} (h : FrzL ps l) : (ps.map fun v => some (Sl.frz v)) = l := by
  induction h with
  | z => rfl
  | s _ ih => rw [List.map_cons, ih]
section
variable {Q : EVal → PSt → Prop} {R : XP} {σ : PSt} {l l' : SlL} {n : List PV} {i k : Nat} {rs rs' : List EVal} {ps vs : List PV} {cap : Cap}
theorem v_callL2 {lt : LDen} {d : DE} (h : GetL l i (.frz (.clo k vs))) (e : EqF (lt.lookup k) (some d)) (f : FrzL vs l') (q : WP (d ⟨l', []⟩) (KEl Q ⟨l, n⟩) (fun ex _ => R ex ⟨l, n⟩)) : WP (dCallL lt i ⟨l, n⟩) Q R :=
  v_callL h e (by rw [f.eq]; exact q)
theorem k_callC2 {m np : Nat} {body : DS} (h : CvS cap σ rs ps) (e : EqF (some ps.length) (some np)) (f : MapV ps rs') (q : WP (callD m body rs' ⟨[], []⟩) (KOut Q σ) noX) : KCc2 m np body cap Q rs σ :=
  k_callC h e (by rw [f.eq]; exact q)
theorem noCs_all {xs : List PV} (h : ∀ p ∈ xs, noC p = true) : noCs xs = true := by
  induction xs with
  | nil => rfl
  | cons a l ih =>
    rw [noCs, h a (List.mem_cons_self ..), ih fun p hp => h p (List.mem_cons_of_mem _ hp)]
    rfl
theorem noC_lst {xs : List PV} (h : ∀ p ∈ xs, noC p = true) : noC (.lst xs) = true := by rw [noC]; exact noCs_all h
end
end L2.Zz

/-! Z43: equality of values without bools; lists taken many times. -/
namespace L2.Zz
open PySem PySem.Spec PyProof.Rows
mutual
def nbD : PyData → Bool
  | .bool _ => false
  | .list xs | .tuple xs => nbDs xs
  | .dict _ => false
  | _ => true
def nbDs : List PyData → Bool
  | [] => true
  | x :: xs => nbD x && nbDs xs
end
mutual
theorem eqv_nb : ∀ (d e : PyData), nbD d = true → nbD e = true → (PyData.eqv d e = true ↔ d = e)
  | .none, e, _, h2 => by cases e <;> simp [PyData.eqv, nbD] at h2 ⊢
  | .bool b, e, h1, _ => by simp [nbD] at h1
  | .int i, e, _, h2 => by cases e <;> simp [PyData.eqv, nbD] at h2 ⊢
  | .str x, e, _, h2 => by cases e <;> simp [PyData.eqv, nbD] at h2 ⊢
  | .list xs, e, h1, h2 => by
    cases e <;> simp [PyData.eqv, nbD] at h1 h2 ⊢
    exact eqvAll_nb xs _ h1 h2
  | .tuple xs, e, h1, h2 => by
    cases e <;> simp [PyData.eqv, nbD] at h1 h2 ⊢
    exact eqvAll_nb xs _ h1 h2
  | .dict xs, e, h1, _ => by simp [nbD] at h1
theorem eqvAll_nb : ∀ (ds es : List PyData), nbDs ds = true → nbDs es = true → (PyData.eqvAll ds es = true ↔ ds = es)
  | [], es, _, _ => by cases es <;> simp [PyData.eqvAll]
  | d :: ds, es, h1, h2 => by
    cases es with
    | nil => simp [PyData.eqvAll]
    | cons e es =>
      simp only [nbDs, Bool.and_eq_true] at h1 h2
      simp only [PyData.eqvAll, Bool.and_eq_true, List.cons.injEq]
      rw [eqv_nb d e h1.1 h2.1, eqvAll_nb ds es h1.2 h2.2]
end
mutual
theorem toD_inj : ∀ (p q : PV) (d : PyData), toD p = some d → toD q = some d → p = q
  | .non, q, d, h1, h2 => by
    cases q <;> simp [toD] at h1 h2 ⊢ <;> (try (subst h1; simp at h2))
    all_goals (try (obtain ⟨_, _, z⟩ := h2; cases z))
  | .bl b, q, d, h1, h2 => by
    cases q <;> simp [toD] at h1 h2 ⊢ <;> (try (subst h1; simp at h2))
    all_goals (try (obtain ⟨_, _, z⟩ := h2; cases z))
    all_goals (try exact h2.symm)
  | .int b, q, d, h1, h2 => by
    cases q <;> simp [toD] at h1 h2 ⊢ <;> (try (subst h1; simp at h2))
    all_goals (try (obtain ⟨_, _, z⟩ := h2; cases z))
    all_goals (try exact h2.symm)
  | .str b, q, d, h1, h2 => by
    cases q <;> simp [toD] at h1 h2 ⊢ <;> (try (subst h1; simp at h2))
    all_goals (try (obtain ⟨_, _, z⟩ := h2; cases z))
    all_goals (try exact h2.symm)
  | .tup xs, q, d, h1, h2 => by
    simp only [toD, Option.map_eq_some_iff] at h1
    obtain ⟨ds, e1, rfl⟩ := h1
    cases q <;> simp [toD] at h2 ⊢
    exact toDs_inj xs _ ds e1 h2
  | .lst xs, q, d, h1, h2 => by
    simp only [toD, Option.map_eq_some_iff] at h1
    obtain ⟨ds, e1, rfl⟩ := h1
    cases q <;> simp [toD] at h2 ⊢
    exact toDs_inj xs _ ds e1 h2
  | .dct _ _, q, d, h1, h2 => by simp [toD] at h1
  | .fn _, q, d, h1, h2 => by simp [toD] at h1
  | .ty _, q, d, h1, h2 => by simp [toD] at h1
  | .ins _ _ _, q, d, h1, h2 => by simp [toD] at h1
  | .clo _ _, q, d, h1, h2 => by simp [toD] at h1
  | .err _ _ _, q, d, h1, h2 => by simp [toD] at h1
theorem toDs_inj : ∀ (ps qs : List PV) (ds : List PyData), toDs ps = some ds → toDs qs = some ds → ps = qs
  | [], qs, ds, h1, h2 => by
    simp only [toDs, Option.some.injEq] at h1
    subst h1
    cases qs with
    | nil => rfl
    | cons q qs =>
      simp only [toDs] at h2
      split at h2 <;> simp at h2
  | p :: ps, qs, ds, h1, h2 => by
    simp only [toDs] at h1
    split at h1
    · rename_i d1 ds1 e1 e2
      cases h1
      cases qs with
      | nil => simp [toDs] at h2
      | cons q qs =>
        simp only [toDs] at h2
        split at h2
        · rename_i d2 ds2 f1 f2
          simp only [Option.some.injEq, List.cons.injEq] at h2
          obtain ⟨rfl, rfl⟩ := h2
          rw [toD_inj p q _ e1 f1, toDs_inj ps qs _ e2 f2]
        · cases h2
    · cases h1
end
/-- a value without bools, at most k deep -/
def Pn (k : Nat) (p : PV) : Prop := ∃ d, toD p = some d ∧ d.canLay0 = true ∧ d.depth ≤ k ∧ nbD d = true
noncomputable def peq (p q : PV) : Bool := @decide (p = q) (Classical.propDecidable _)
theorem peq_t {p q : PV} : peq p q = true ↔ p = q := by unfold peq; exact @decide_eq_true_iff _ (Classical.propDecidable _)
theorem peq_f {p q : PV} : peq p q = false ↔ p ≠ q := by unfold peq; exact @decide_eq_false_iff_not _ (Classical.propDecidable _)
theorem eq_pn {p q : PV} (h1 : Pn 64 p) (h2 : Pn 64 q) : pvEq p q = some (peq p q) := by
  obtain ⟨d, e1, a1, a2, a3⟩ := h1
  obtain ⟨e, e2, b1, b2, b3⟩ := h2
  unfold pvEq
  rw [e1, e2]
  have s1 : SeqAt.shaped d = true := by
    unfold SeqAt.shaped; rw [a1, Bool.true_and]; exact decide_eq_true a2
  have s2 : SeqAt.shaped e = true := by
    unfold SeqAt.shaped; rw [b1, Bool.true_and]; exact decide_eq_true b2
  show (if _ then _ else _) = _
  rw [if_pos ⟨s1, s2⟩]
  congr 1
  have k := eqv_nb d e a3 b3
  cases hq : PyData.eqv d e with
  | true =>
    have z := k.mp hq
    subst z
    exact (peq_t.mpr (toD_inj p q d e1 e2)).symm
  | false =>
    refine (peq_f.mpr fun z => ?_).symm
    subst z
    rw [e1] at e2
    cases e2
    rw [k.mpr rfl] at hq
    cases hq
theorem Pn.mono {k j : Nat} {p : PV} (h : Pn k p) (l : k ≤ j) : Pn j p := by
  obtain ⟨d, e1, a1, a2, a3⟩ := h
  exact ⟨d, e1, a1, by omega, a3⟩
theorem Pn.int {k : Nat} {i : Int} : Pn k (.int i) := ⟨_, rfl, rfl, Nat.zero_le _, rfl⟩
theorem Pn.non {k : Nat} : Pn k .non := ⟨_, rfl, rfl, Nat.zero_le _, rfl⟩
theorem Pn.all {k : Nat} : ∀ {xs : List PV}, (∀ x ∈ xs, Pn k x) → ∃ ds, toDs xs = some ds ∧ PyData.canLayAll0 ds = true ∧ PyData.depthAll ds ≤ k ∧ nbDs ds = true
  | [], _ => ⟨[], by simp [toDs], by simp [PyData.canLayAll0], by simp [PyData.depthAll], by simp [nbDs]⟩
  | x :: xs, h => by
    obtain ⟨d, e1, a1, a2, a3⟩ := h x (List.mem_cons_self ..)
    obtain ⟨ds, f1, b1, b2, b3⟩ := Pn.all fun y hy => h y (List.mem_cons_of_mem _ hy)
    refine ⟨d :: ds, ?_, ?_, ?_, ?_⟩
    · rw [toDs, e1, f1]
    · rw [PyData.canLayAll0, a1, b1]; rfl
    · rw [PyData.depthAll]; omega
    · rw [nbDs, a3, b3]; rfl
theorem Pn.tup {k : Nat} {xs : List PV} (h : ∀ x ∈ xs, Pn k x) : Pn (k + 1) (.tup xs) := by
  obtain ⟨ds, f1, b1, b2, b3⟩ := Pn.all h
  exact ⟨.tuple ds, by rw [toD, f1]; rfl, by rw [PyData.canLay0]; exact b1, by rw [PyData.depth]; omega, by rw [nbD]; exact b3⟩
theorem Pn.lst {k : Nat} {xs : List PV} (h : ∀ x ∈ xs, Pn k x) : Pn (k + 1) (.lst xs) := by
  obtain ⟨ds, f1, b1, b2, b3⟩ := Pn.all h
  exact ⟨.list ds, by rw [toD, f1]; rfl, by rw [PyData.canLay0]; exact b1, by rw [PyData.depth]; omega, by rw [nbD]; exact b3⟩
theorem f_eqP {p q : PV} (h1 : Pn 64 p) (h2 : Pn 64 q) : EqF (pvEqO p q) (some (.v (.bl (peq p q)))) := by
  unfold EqF pvEqO; rw [eq_pn h1 h2]; rfl
theorem f_neP {p q : PV} (h1 : Pn 64 p) (h2 : Pn 64 q) : EqF (pvNeO p q) (some (.v (.bl (!peq p q)))) := by
  unfold EqF pvNeO; rw [eq_pn h1 h2]; rfl
theorem Br.pq {p q : PV} {A B : Prop} (h : p = q → A) (h' : p ≠ q → B) : Br (peq p q) A B := ⟨fun e => h (peq_t.mp e), fun e => h' (peq_f.mp e)⟩
theorem Br.npq {p q : PV} {A B : Prop} (h : p ≠ q → A) (h' : p = q → B) : Br (!peq p q) A B := by
  cases e : L2.Zz.peq p q with
  | true => exact .f (h' (peq_t.mp e))
  | false => exact .t (h (peq_f.mp e))
theorem Br.peqT {p q : PV} {A B : Prop} (e : p = q) (h : A) : Br (L2.Zz.peq p q) A B := .pq (fun _ => h) fun n => (n e).elim
theorem Br.npeqF {p q : PV} {A B : Prop} (e : p = q) (h : B) : Br (!L2.Zz.peq p q) A B := .npq (fun n => (n e).elim) fun _ => h
/-- a list taken k times -/
theorem f_rep {xs l : List PV} {k : Int} (h : repOk xs.length k) (e : (List.replicate k.toNat xs).flatten = l) : EqF (pvMul (.lst xs) (.int k)) (some (.l l)) := by
  unfold EqF pvMul; simp only [if_pos h, e]
end L2.Zz

/-! Z44: comprehensions with two fors. -/
namespace L2.Zz
open PySem PySem.Spec PyProof.Rows
variable {LT : LTab} {ce : List (Str × Addr)}
theorem wipe_sub {τ : St} {vs vs1 : List Nat} (h : ∀ i ∈ vs1, i ∈ vs) : wipe (wipe τ vs1) vs = wipe τ vs := by
  apply List.ext_getElem?
  intro j
  rw [wipe_get, wipe_get, wipe_get, wipe_length]
  by_cases h2 : j ∈ vs1 ∧ j < τ.length
  · have h3 : j ∈ vs ∧ j < τ.length := ⟨h j h2.1, h2.2⟩
    simp [h3]
  · rw [if_neg h2]
def lpLc2 (vs vs1 : List Nat) (g : DG) (tt : DT) (di1 : DI) (g1 : DG) (tt1 : DT) (te : DE) : List PV → List PV → PSt → Rs (List PV)
  | [], acc, σ => .ok acc σ
  | x :: xs, acc, σ => (nox (g x σ)).bind fun _ σ1 => (nox (tt σ1)).bind fun k σ2 => if k = true then (nox (di1 σ2)).bind fun ys σ3 =>
      (lpLc vs1 g1 tt1 te ys acc ⟨wipeP σ3.sl vs1, σ3.ln⟩).bind fun acc σ4 => lpLc2 vs vs1 g tt di1 g1 tt1 te xs acc ⟨wipeP σ4.sl vs, σ4.ln⟩
    else lpLc2 vs vs1 g tt di1 g1 tt1 te xs acc ⟨wipeP σ2.sl vs, σ2.ln⟩
def dLc2 (vs vs1 : List Nat) (di : DI) (g : DG) (tt : DT) (di1 : DI) (g1 : DG) (tt1 : DT) (te : DE) : DE := fun σ => (di σ).bind fun xs σ1 => (lpLc2 vs vs1 g tt di1 g1 tt1 te xs [] ⟨wipeP σ1.sl vs, σ1.ln⟩).bind fun acc σ2 => .ok (.new (.lst acc)) σ2
section
variable {X : Cx} {W : WX} {elt tg iter tg1 iter1 : Expr} {ifs ifs1 : List Expr} {scope : Scope} {own : List (Str × Nat)} {pos : Pos} {di di1 : DI} {G G1 : TG} {g g1 : DG} {dt dt1 : DT} {te : DE}
theorem lc2_read {wi wi1 : TI} {vs vs1 : List Nat} (hw : wi = IV (cnE LT X ce) W di) (hw1 : wi1 = IV (cnE LT X ce) W0 di1) (hp : PatOk (cnE LT X ce) vs G g) (hp1 : PatOk (cnE LT X ce) vs1 G1 g1) (hsub : ∀ i ∈ vs1, i ∈ vs) :
    ∀ σr H Q, EV (cnE LT X ce) W (dLc2 vs vs1 di g dt di1 g1 dt1 te) σr H Q → tLc2 wi G (EVT (cnE LT X ce) W0 dt) wi1 G1 (EVT (cnE LT X ce) W0 dt1) (EV (cnE LT X ce) W0 te) vs vs1 σr H Q := by
  subst hw hw1
  intro σr H0 Q q
  obtain ⟨F, la, σ, S, f⟩ := q
  refine ⟨F, la, σ, S, f.bind.mono fun xs σ1 F1 H1 x1 S1 f1 J hJ D nD => ?_⟩
  obtain ⟨hc1, hc2⟩ := S1.fresh nD
  have k0 := upd_keeps (o := HO.lst []) nD
  have S1' := S1.keeps k0
  obtain ⟨S2, x2⟩ := wipe_sr S1' (x1.trans (Ex.keeps k0)) vs
  have nw0 : Nw ⟨F, H0, Ow σ σr la⟩ D := x1.back (.inr nD)
  let FF : List PV → List PV → PSt → Prop := fun ys acc σ' => Fin (cnE LT X ce) W la σr ⟨F, H0, Ow σ σr la⟩ ((lpLc2 vs vs1 g dt di1 g1 dt1 te ys acc σ').bind fun acc σ2 => .ok (.new (.lst acc)) σ2) (PE0 (cnE LT X ce) la σr ⟨F, H0, Ow σ σr la⟩ Q)
  let ST : Nat → Hp → Prop := fun i H => ∃ F' σ' acc us, SR (cnE LT X ce) F' la σ' (wipe σr vs) H ∧ Ex ⟨F, H0, Ow σ σr la⟩ ⟨F', H, Ow σ' (wipe σr vs) la⟩ ∧ H D = some (.lst us) ∧ RFs (cnE LT X ce) F' H acc us ∧ ¬ F' D ∧ ¬ Ow σ' (wipe σr vs) la D ∧
      (∀ a, F1 a → F' a) ∧ (∀ a o, H1 a = some o → (F1 a ∨ Stl o) → H a = some o) ∧ FF (xs.drop i) acc σ'
  refine ⟨fun i m H => m = xs.length - i ∧ i ≤ xs.length ∧ ST i H,
    ⟨xs.length, rfl, Nat.zero_le _, F1, _, [], [], S2, x2, upd_same, RFs.nil_, hc1, fun z => hc2 ?_, fun _ f => f, fun a o e _ => k0 a o e, (show Fin (cnE LT X ce) W la σr ⟨F, H0, Ow σ σr la⟩ ((lpLc2 vs vs1 g dt di1 g1 dt1 te (List.drop 0 xs) [] ⟨wipeP σ1.sl vs, σ1.ln⟩).bind fun acc σ2 => .ok (.new (.lst acc)) σ2) (PE0 (cnE LT X ce) la σr ⟨F, H0, Ow σ σr la⟩ Q) from f1)⟩, ?_⟩
  · rcases z with z | ⟨i, v, e1, e2⟩
    · exact .inl z
    · exact .inr ⟨i, v, (wipeP_some e1).1, (wipe_some e2).1⟩
  rintro i m H ⟨rfl, hi, F', σ', acc, us, S', x', hD, rA, nF, nO, hF, hk, f'⟩
  obtain ⟨go, stop, yld⟩ := hJ F' H hF hk
  by_cases hlt : i < xs.length
  · refine .inr ⟨go i hlt, ST (i + 1), fun H' h => ⟨xs.length - (i + 1), by omega, rfl, hlt, h⟩, fun v H2 y => ?_⟩
    obtain ⟨p, ep, kp, rp⟩ := yld i v H2 hlt y
    have ed : xs.drop i = p :: xs.drop (i + 1) := by
      rw [List.drop_eq_getElem_cons hlt]
      rw [List.getElem?_eq_getElem hlt] at ep
      cases ep; rfl
    have f' : Fin (cnE LT X ce) W la σr ⟨F, H0, Ow σ σr la⟩ ((lpLc2 vs vs1 g dt di1 g1 dt1 te (xs.drop i) acc σ').bind fun acc σ2 => .ok (.new (.lst acc)) σ2) (PE0 (cnE LT X ce) la σr ⟨F, H0, Ow σ σr la⟩ Q) := f'
    rw [ed, lpLc2] at f'
    cases qg : g p σ' with
    | no => rw [qg] at f'; exact f'.elim
    | ex e s => rw [qg] at f'; exact f'.elim
    | ok u σ3 =>
    rw [qg] at f'
    have Sk := S'.keeps kp
    have xk := x'.trans (Ex.keeps (F := F') (O := Ow σ' (wipe σr vs) la) kp)
    refine hp _ F' la σ' σ3 (wipe σr vs) H2 p v _ Sk xk rp qg fun τ' hτ S3 x3 ow3 => ⟨by rw [hτ, wipe_wipe], ?_⟩
    have hτ' : wipe τ' vs = wipe σr vs := by rw [hτ, wipe_wipe]
    have kD := kp D _ hD
    have nO3 : ¬ Ow σ3 τ' la D := fun z => nO (ow3 D z)
    have erD : ER (cnE LT X ce) F' la (Ow σ3 τ' la) (Nw ⟨F, H0, Ow σ σr la⟩) τ' H2 (.new (.lst acc)) (.ref D) :=
      ⟨D, rfl, ⟨us, kD, RFs.ext (fun _ f => f) (fun a o e _ => kp a o e) _ _ rA⟩, nF, nO3, nw0⟩
    have f3 : Fin (cnE LT X ce) W la σr ⟨F, H0, Ow σ σr la⟩ (((nox (dt σ3)).bind fun k σ2 => if k = true then (nox (di1 σ2)).bind fun ys σ3 =>
      (lpLc vs1 g1 dt1 te ys acc ⟨wipeP σ3.sl vs1, σ3.ln⟩).bind fun acc σ4 => lpLc2 vs vs1 g dt di1 g1 dt1 te (xs.drop (i + 1)) acc ⟨wipeP σ4.sl vs, σ4.ln⟩
      else lpLc2 vs vs1 g dt di1 g1 dt1 te (xs.drop (i + 1)) acc ⟨wipeP σ2.sl vs, σ2.ln⟩).bind fun acc σ2 => .ok (.new (.lst acc)) σ2) (PE0 (cnE LT X ce) la σr ⟨F, H0, Ow σ σr la⟩ Q) := f'
    cases qt : dt σ3 with
    | no => rw [qt] at f3; exact f3.elim
    | ex e s => rw [qt] at f3; exact f3.elim
    | ok b σ4 =>
    rw [qt] at f3
    have f3 : Fin (cnE LT X ce) W la σr ⟨F, H0, Ow σ σr la⟩ ((if b = true then (nox (di1 σ4)).bind fun ys σ3 =>
      (lpLc vs1 g1 dt1 te ys acc ⟨wipeP σ3.sl vs1, σ3.ln⟩).bind fun acc σ4 => lpLc2 vs vs1 g dt di1 g1 dt1 te (xs.drop (i + 1)) acc ⟨wipeP σ4.sl vs, σ4.ln⟩
      else lpLc2 vs vs1 g dt di1 g1 dt1 te (xs.drop (i + 1)) acc ⟨wipeP σ4.sl vs, σ4.ln⟩).bind fun acc σ2 => .ok (.new (.lst acc)) σ2) (PE0 (cnE LT X ce) la σr ⟨F, H0, Ow σ σr la⟩ Q) := f3
    refine ⟨F', la, σ3, S3, ?_⟩
    rw [qt]
    intro F4 H4 x4 S4
    have erD4 := erD.ext S3 x4
    obtain ⟨D', eD, ⟨us4, hD4, rA4⟩, nF4, nO4, _⟩ := id erD4
    cases eD
    have keep4 : ∀ a o, H1 a = some o → (F1 a ∨ Stl o) → H4 a = some o := fun a o e h => Ex.keep S3 x4 a o (kp a o (hk a o e h)) (h.imp (hF a) id)
    -- back to the first loop
    have back : ∀ (F5 : Addr → Prop) (H5 : Hp) (σ5 : PSt) (τ5 : St) (acc5 : List PV) (us5 : List V), SR (cnE LT X ce) F5 la σ5 τ5 H5 → Ex ⟨F, H0, Ow σ σr la⟩ ⟨F5, H5, Ow σ5 τ5 la⟩ → wipe τ5 vs = wipe σr vs → H5 D = some (.lst us5) → RFs (cnE LT X ce) F5 H5 acc5 us5 → ¬ F5 D → ¬ Ow σ5 τ5 la D →
        (∀ a, F1 a → F5 a) → (∀ a o, H1 a = some o → (F1 a ∨ Stl o) → H5 a = some o) → FF (xs.drop (i + 1)) acc5 ⟨wipeP σ5.sl vs, σ5.ln⟩ → ST (i + 1) H5 := fun F5 H5 σ5 τ5 acc5 us5 S5 x5 ht hD5 rA5 nF5 nO5 hF5 hk5 f5 => by
      obtain ⟨S6, x6⟩ := wipe_sr S5 x5 vs
      rw [ht] at S6 x6
      refine ⟨F5, _, acc5, us5, S6, x6, hD5, rA5, nF5, fun z => nO5 ?_, hF5, hk5, f5⟩
      rcases z with z | ⟨j, w, e1, e2⟩
      · exact .inl z
      · rw [← ht] at e2
        exact .inr ⟨j, w, (wipeP_some e1).1, (wipe_some e2).1⟩
    cases b with
    | false =>
      rw [if_neg Bool.false_ne_true] at f3
      refine iteF ?_
      exact back F4 H4 σ4 τ' acc us4 S4 (x3.trans x4) hτ' hD4 rA4 nF4 nO4 (fun a f => x4.fr a (hF a f)) keep4 f3
    | true =>
      rw [if_pos rfl] at f3
      refine iteT ?_
      cases qi : di1 σ4 with
      | no => rw [qi] at f3; exact f3.elim
      | ex e s => rw [qi] at f3; exact f3.elim
      | ok ys σ5 =>
      rw [qi] at f3
      refine ⟨F4, la, σ4, S4, ?_⟩
      rw [qi]
      intro F5 H5 x5 S5 J1 hJ1
      have erD5 := erD4.ext S4 x5
      obtain ⟨D5, eD5, ⟨us5, hD5, rA5⟩, nF5, nO5, _⟩ := id erD5
      cases eD5
      obtain ⟨S6, x6⟩ := wipe_sr S5 ((x3.trans x4).trans x5) vs1
      have hF5 : ∀ a, F1 a → F5 a := fun a f => x5.fr a (x4.fr a (hF a f))
      have keep5 : ∀ a o, H1 a = some o → (F1 a ∨ Stl o) → H5 a = some o := fun a o e h => Ex.keep S4 x5 a o (keep4 a o e h) (h.imp (fun f => x4.fr a (hF a f)) id)
      have ht1 : wipe (wipe τ' vs1) vs = wipe σr vs := by rw [wipe_sub hsub, hτ']
      let GG : List PV → List PV → PSt → Prop := fun zs acc σ' => Fin (cnE LT X ce) W la σr ⟨F, H0, Ow σ σr la⟩ (((lpLc vs1 g1 dt1 te zs acc σ').bind fun acc σ4 => lpLc2 vs vs1 g dt di1 g1 dt1 te (xs.drop (i + 1)) acc ⟨wipeP σ4.sl vs, σ4.ln⟩).bind fun acc σ2 => .ok (.new (.lst acc)) σ2) (PE0 (cnE LT X ce) la σr ⟨F, H0, Ow σ σr la⟩ Q)
      have f3 : GG ys acc ⟨wipeP σ5.sl vs1, σ5.ln⟩ := f3
      let S1T : Nat → Hp → Prop := fun j H => ∃ F' σ' acc us, SR (cnE LT X ce) F' la σ' (wipe τ' vs1) H ∧ Ex ⟨F, H0, Ow σ σr la⟩ ⟨F', H, Ow σ' (wipe τ' vs1) la⟩ ∧ H D = some (.lst us) ∧ RFs (cnE LT X ce) F' H acc us ∧ ¬ F' D ∧ ¬ Ow σ' (wipe τ' vs1) la D ∧
        (∀ a, F5 a → F' a) ∧ (∀ a o, H5 a = some o → (F5 a ∨ Stl o) → H a = some o) ∧ GG (ys.drop j) acc σ'
      refine ⟨fun j k H => k = ys.length - j ∧ j ≤ ys.length ∧ S1T j H, ⟨ys.length, rfl, Nat.zero_le _, F5, _, acc, us5, S6, x6, hD5, rA5, nF5, fun z => nO5 ?_, fun _ f => f, fun a o e _ => e, f3⟩, ?_⟩
      · rcases z with z | ⟨j, w, e1, e2⟩
        · exact .inl z
        · exact .inr ⟨j, w, (wipeP_some e1).1, (wipe_some e2).1⟩
      rintro j k H6 ⟨rfl, hj, F6, σ6, acc6, us6, S6, x6, hD6, rA6, nF6, nO6, hF6, hk6, f6⟩
      obtain ⟨go1, stop1, yld1⟩ := hJ1 F6 H6 hF6 hk6
      have keep6 : ∀ a o, H1 a = some o → (F1 a ∨ Stl o) → H6 a = some o := fun a o e h => hk6 a o (keep5 a o e h) (h.imp (hF5 a) id)
      by_cases hlt1 : j < ys.length
      · refine .inr ⟨go1 j hlt1, S1T (j + 1), fun H' h => ⟨ys.length - (j + 1), by omega, rfl, hlt1, h⟩, fun v1 H7 y1 => ?_⟩
        obtain ⟨p1, ep1, kp1, rp1⟩ := yld1 j v1 H7 hlt1 y1
        have ed1 : ys.drop j = p1 :: ys.drop (j + 1) := by
          rw [List.drop_eq_getElem_cons hlt1]
          rw [List.getElem?_eq_getElem hlt1] at ep1
          cases ep1; rfl
        have f6 : Fin (cnE LT X ce) W la σr ⟨F, H0, Ow σ σr la⟩ (((lpLc vs1 g1 dt1 te (ys.drop j) acc6 σ6).bind fun acc σ4 => lpLc2 vs vs1 g dt di1 g1 dt1 te (xs.drop (i + 1)) acc ⟨wipeP σ4.sl vs, σ4.ln⟩).bind fun acc σ2 => .ok (.new (.lst acc)) σ2) (PE0 (cnE LT X ce) la σr ⟨F, H0, Ow σ σr la⟩ Q) := f6
        rw [ed1, lpLc] at f6
        cases qg1 : g1 p1 σ6 with
        | no => rw [qg1] at f6; exact f6.elim
        | ex e s => rw [qg1] at f6; exact f6.elim
        | ok u1 σ7 =>
        rw [qg1] at f6
        have Sk1 := S6.keeps kp1
        have xk1 := x6.trans (Ex.keeps (F := F6) (O := Ow σ6 (wipe τ' vs1) la) kp1)
        refine hp1 _ F6 la σ6 σ7 (wipe τ' vs1) H7 p1 v1 _ Sk1 xk1 rp1 qg1 fun τ7 hτ7 S7 x7 ow7 => ⟨by rw [hτ7, wipe_wipe], ?_⟩
        have hτ7' : wipe τ7 vs1 = wipe τ' vs1 := by rw [hτ7, wipe_wipe]
        have kD1 := kp1 D _ hD6
        have erD7 : ER (cnE LT X ce) F6 la (Ow σ7 τ7 la) (Nw ⟨F, H0, Ow σ σr la⟩) τ7 H7 (.new (.lst acc6)) (.ref D) :=
          ⟨D, rfl, ⟨us6, kD1, RFs.ext (fun _ f => f) (fun a o e _ => kp1 a o e) _ _ rA6⟩, nF6, fun z => nO6 (ow7 D z), nw0⟩
        have f7 : Fin (cnE LT X ce) W la σr ⟨F, H0, Ow σ σr la⟩ ((((nox (dt1 σ7)).bind fun k σ2 => if k = true then (nox (te σ2)).bind fun r σ3 => match r with
          | .val p => if acc6.length < szL then lpLc vs1 g1 dt1 te (ys.drop (j + 1)) (acc6 ++ [p]) ⟨wipeP σ3.sl vs1, σ3.ln⟩ else .no
          | _ => .no else lpLc vs1 g1 dt1 te (ys.drop (j + 1)) acc6 ⟨wipeP σ2.sl vs1, σ2.ln⟩).bind fun acc σ4 => lpLc2 vs vs1 g dt di1 g1 dt1 te (xs.drop (i + 1)) acc ⟨wipeP σ4.sl vs, σ4.ln⟩).bind fun acc σ2 => .ok (.new (.lst acc)) σ2) (PE0 (cnE LT X ce) la σr ⟨F, H0, Ow σ σr la⟩ Q) := f6
        cases qt1 : dt1 σ7 with
        | no => rw [qt1] at f7; exact f7.elim
        | ex e s => rw [qt1] at f7; exact f7.elim
        | ok b1 σ8 =>
        rw [qt1] at f7
        have f7 : Fin (cnE LT X ce) W la σr ⟨F, H0, Ow σ σr la⟩ (((if b1 = true then (nox (te σ8)).bind fun r σ3 => match r with
          | .val p => if acc6.length < szL then lpLc vs1 g1 dt1 te (ys.drop (j + 1)) (acc6 ++ [p]) ⟨wipeP σ3.sl vs1, σ3.ln⟩ else .no
          | _ => .no else lpLc vs1 g1 dt1 te (ys.drop (j + 1)) acc6 ⟨wipeP σ8.sl vs1, σ8.ln⟩).bind fun acc σ4 => lpLc2 vs vs1 g dt di1 g1 dt1 te (xs.drop (i + 1)) acc ⟨wipeP σ4.sl vs, σ4.ln⟩).bind fun acc σ2 => .ok (.new (.lst acc)) σ2) (PE0 (cnE LT X ce) la σr ⟨F, H0, Ow σ σr la⟩ Q) := f7
        refine ⟨F6, la, σ7, S7, ?_⟩
        rw [qt1]
        intro F8 H8 x8 S8
        have erD8 := erD7.ext S7 x8
        obtain ⟨D8, eD8, ⟨us8, hD8, rA8⟩, nF8, nO8, _⟩ := id erD8
        cases eD8
        have keep8 : ∀ a o, H5 a = some o → (F5 a ∨ Stl o) → H8 a = some o := fun a o e h => Ex.keep S7 x8 a o (kp1 a o (hk6 a o e h)) (h.imp (hF6 a) id)
        cases b1 with
        | false =>
          rw [if_neg Bool.false_ne_true] at f7
          refine iteF ?_
          obtain ⟨S9, x9⟩ := wipe_sr S8 (x7.trans x8) vs1
          rw [hτ7'] at S9 x9
          refine ⟨F8, _, acc6, us8, S9, x9, hD8, rA8, nF8, fun z => nO8 ?_, fun a f => x8.fr a (hF6 a f), keep8, f7⟩
          rcases z with z | ⟨j, w, e1, e2⟩
          · exact .inl z
          · rw [← hτ7'] at e2
            exact .inr ⟨j, w, (wipeP_some e1).1, (wipe_some e2).1⟩
        | true =>
          rw [if_pos rfl] at f7
          refine iteT ?_
          cases qe : te σ8 with
          | no => rw [qe] at f7; exact f7.elim
          | ex e s => rw [qe] at f7; exact f7.elim
          | ok r σ9 =>
          rw [qe] at f7
          cases r with
          | val y =>
            have f7 : Fin (cnE LT X ce) W la σr ⟨F, H0, Ow σ σr la⟩ (((if acc6.length < szL then lpLc vs1 g1 dt1 te (ys.drop (j + 1)) (acc6 ++ [y]) ⟨wipeP σ9.sl vs1, σ9.ln⟩ else .no).bind fun acc σ4 => lpLc2 vs vs1 g dt di1 g1 dt1 te (xs.drop (i + 1)) acc ⟨wipeP σ4.sl vs, σ4.ln⟩).bind fun acc σ2 => .ok (.new (.lst acc)) σ2) (PE0 (cnE LT X ce) la σr ⟨F, H0, Ow σ σr la⟩ Q) := f7
            by_cases hz : acc6.length < szL
            · rw [if_pos hz] at f7
              refine ⟨F8, la, σ8, S8, ?_⟩
              rw [qe]
              intro F9 H9 x9 S9 yv ey
              have erD9 := erD8.ext S8 x9
              obtain ⟨a9, e9, ro9, nf9, nn9, wrk⟩ := wr_at (q := .lst (acc6 ++ [y])) S9 ((x7.trans x8).trans x9) erD9 rfl rfl
              cases e9
              obtain ⟨_, e9', ⟨us9, hD9, rA9⟩, nF9, nO9, _⟩ := id erD9
              cases e9'
              have ey' : RF (cnE LT X ce) F9 H9 y yv := ey
              have kk : ∀ b u, H9 b = some u → (F9 b ∨ Stl u) → upd H9 D (.lst (us9 ++ [yv])) b = some u := fun b u e h => by
                rw [upd_ne (fun z => ?_)]
                · exact e
                · subst z
                  rw [hD9] at e; cases e
                  rcases h with h | h
                  · exact nf9 h
                  · exact h
              have roN : RO (cnE LT X ce) F9 (upd H9 D (.lst (us9 ++ [yv]))) (.lst (acc6 ++ [y])) D :=
                ⟨_, upd_same, (RFs.ext (fun _ f => f) kk _ _ rA9).append (RFs.cons_ (RF.ext (fun _ f => f) kk _ _ ey') RFs.nil_)⟩
              obtain ⟨xA, SA⟩ := wrk _ roN
              obtain ⟨SB, xB⟩ := wipe_sr SA xA vs1
              rw [hτ7'] at SB xB
              refine ⟨us9, hD9, by rw [← rA9.length, szL_eq]; exact hz, F9, _, acc6 ++ [y], us9 ++ [yv], SB, xB, upd_same, ?_, nF9, fun z => nO9 ?_, fun a f => x9.fr a (x8.fr a (hF6 a f)), fun a o e h => ?_, f7⟩
              · obtain ⟨us', e', r'⟩ := roN
                rw [upd_same] at e'; cases e'
                exact r'
              · rcases z with z | ⟨j, w, e1, e2⟩
                · exact .inl z
                · rw [← hτ7'] at e2
                  exact .inr ⟨j, w, (wipeP_some e1).1, (wipe_some e2).1⟩
              · rw [upd_ne (fun z => by
                  subst z
                  rw [hD5] at e
                  cases e
                  rcases h with h | h
                  · exact nF5 h
                  · exact h)]
                exact Ex.keep S8 x9 a o (keep8 a o e h) (h.imp (fun f => x8.fr a (hF6 a f)) id)
            · rw [if_neg hz] at f7; exact f7.elim
          | _ => exact f7.elim
      · have ej : j = ys.length := by omega
        subst ej
        have f6 : Fin (cnE LT X ce) W la σr ⟨F, H0, Ow σ σr la⟩ (((lpLc vs1 g1 dt1 te (ys.drop ys.length) acc6 σ6).bind fun acc σ4 => lpLc2 vs vs1 g dt di1 g1 dt1 te (xs.drop (i + 1)) acc ⟨wipeP σ4.sl vs, σ4.ln⟩).bind fun acc σ2 => .ok (.new (.lst acc)) σ2) (PE0 (cnE LT X ce) la σr ⟨F, H0, Ow σ σr la⟩ Q) := f6
        rw [List.drop_length, lpLc] at f6
        exact .inl ⟨stop1, back F6 H6 σ6 (wipe τ' vs1) acc6 us6 S6 x6 ht1 hD6 rA6 nF6 nO6 (fun a f => hF6 a (hF5 a f)) keep6 f6⟩
  · have e : i = xs.length := by omega
    subst e
    have f' : Fin (cnE LT X ce) W la σr ⟨F, H0, Ow σ σr la⟩ ((lpLc2 vs vs1 g dt di1 g1 dt1 te (xs.drop xs.length) acc σ').bind fun acc σ2 => .ok (.new (.lst acc)) σ2) (PE0 (cnE LT X ce) la σr ⟨F, H0, Ow σ σr la⟩ Q) := f'
    rw [List.drop_length, lpLc2] at f'
    refine .inl ⟨stop, ?_⟩
    have f2 : Fin (cnE LT X ce) W la σr ⟨F, H0, Ow σ σr la⟩ (Rs.ok (.new (.lst acc)) σ') (PE0 (cnE LT X ce) la σr ⟨F, H0, Ow σ σr la⟩ Q) := f'
    obtain ⟨S3, x3⟩ := unwipe_sr S' x'
    exact f2 F' H x3 S3 _ ⟨D, rfl, ⟨us, hD, rA⟩, nF, fun z => nO (by
      rcases z with z | ⟨j, w, e1, e2⟩
      · exact .inl z
      · obtain ⟨b, e3, _⟩ := S'.own j w e1
        have e4 := (wipe_some e3).1
        rw [e2] at e4; cases e4
        exact .inr ⟨j, w, e1, e3⟩), nw0⟩
theorem z_lc2 {vs vs1 : List Nat} (hv : vs = own.map (·.2)) (hsub : ∀ i ∈ vs1, i ∈ vs) (hp : PatOk (cnE LT X ce) vs G g) (hp1 : PatOk (cnE LT X ce) vs1 G1 g1) (hc : X.calm = true) (hN : X.N.Nodup) (hi : PI X tg iter (IV (cnE LT X ce) W di)) (ok : BlkOk X.N X.env.scope scope own)
    (hg : ∀ (s : Shared) (H : Hp) (C : Addr) (cl : List (Str × Addr)) (fp : List Addr), PG (X.blk s H scope (compEnvC scope cl C X.env) fp) tg G) (ht : ∀ (s : Shared) (H : Hp) (C : Addr) (cl : List (Str × Addr)) (fp : List Addr), PTs (X.blk s H scope (compEnvC scope cl C X.env) fp) ifs (EVT (cnE LT X ce) W0 dt))
    (hi1 : ∀ (s : Shared) (H : Hp) (C : Addr) (cl : List (Str × Addr)) (fp : List Addr), PI (X.blk s H scope (compEnvC scope cl C X.env) fp) tg1 iter1 (IV (cnE LT X ce) W0 di1))
    (hg1 : ∀ (s : Shared) (H : Hp) (C : Addr) (cl : List (Str × Addr)) (fp : List Addr), PG (X.blk s H scope (compEnvC scope cl C X.env) fp) tg1 G1) (ht1 : ∀ (s : Shared) (H : Hp) (C : Addr) (cl : List (Str × Addr)) (fp : List Addr), PTs (X.blk s H scope (compEnvC scope cl C X.env) fp) ifs1 (EVT (cnE LT X ce) W0 dt1))
    (he : ∀ (s : Shared) (H : Hp) (C : Addr) (cl : List (Str × Addr)) (fp : List Addr), PE (X.blk s H scope (compEnvC scope cl C X.env) fp) elt (EV (cnE LT X ce) W0 te)) (hs : ∀ x, foldedSetIterable iter X.env x = pure x := by intro _; rfl) (hs1 : ∀ env x, foldedSetIterable iter1 env x = pure x := by intro _ _; rfl) :
    PE X (.ListComp elt [⟨tg, iter, ifs, 0⟩, ⟨tg1, iter1, ifs1, 0⟩] scope pos) (EV (cnE LT X ce) W (dLc2 vs vs1 di g dt di1 g1 dt1 te)) := by
  subst hv
  exact PE.wk (pe_lc2 hc hN hi ok hsub hg ht hi1 hg1 ht1 he hs hs1) fun σ H Q q => lc2_read rfl rfl hp hp1 hsub σ H Q q
end
end L2.Zz

/-! Z45: sorted of pairs of whole numbers. -/
namespace L2.Zz
open PySem PySem.Spec PyProof.Rows
variable {LT : LTab} {ce : List (Str × Addr)}
section
variable {α : Type}
def insB (lt : α → α → Bool) (x : α) : List α → List α
  | [] => [x]
  | y :: l => if lt y x = true then y :: insB lt x l else x :: y :: l
def isort (lt : α → α → Bool) : List α → List α
  | [] => []
  | x :: l => insB lt x (isort lt l)
theorem insB_split {lt : α → α → Bool} (O : SrtO.Swo lt) {x : α} : ∀ {l : List α}, SrtO.Srtd lt l → ∃ A B, l = A ++ B ∧ insB lt x l = A ++ x :: B ∧ (∀ a ∈ A, lt a x = true) ∧ ∀ b ∈ B, lt b x = false
  | [], _ => ⟨[], [], rfl, rfl, (fun _ h => nomatch h), (fun _ h => nomatch h)⟩
  | y :: l, h => by
    by_cases c : lt y x = true
    · obtain ⟨A, B, e1, e2, e3, e4⟩ := insB_split O (x := x) (List.pairwise_cons.mp h).2
      refine ⟨y :: A, B, by rw [e1]; rfl, by rw [insB, if_pos c, e2]; rfl, fun a ha => ?_, e4⟩
      rcases List.mem_cons.mp ha with rfl | ha
      · exact c
      · exact e3 a ha
    · refine ⟨[], y :: l, rfl, by rw [insB, if_neg c]; rfl, (fun _ h => nomatch h), fun b hb => ?_⟩
      have c' : lt y x = false := by simpa using c
      rcases List.mem_cons.mp hb with rfl | hb
      · exact c'
      · have := SrtO.srtd_head h b hb
        exact O.tr x y b c' this
theorem insB_srtd {lt : α → α → Bool} (O : SrtO.Swo lt) {x : α} {l : List α} (h : SrtO.Srtd lt l) : SrtO.Srtd lt (insB lt x l) := by
  obtain ⟨A, B, e1, e2, e3, e4⟩ := insB_split O (x := x) h
  rw [e2]
  rw [e1] at h
  obtain ⟨hA, hB, hAB⟩ := SrtO.srtd_app.mp h
  refine SrtO.srtd_app.mpr ⟨hA, List.pairwise_cons.mpr ⟨e4, hB⟩, fun a ha b hb => ?_⟩
  rcases List.mem_cons.mp hb with rfl | hb
  · exact O.asym _ _ (e3 a ha)
  · exact hAB a ha b hb
theorem insB_stb {lt : α → α → Bool} (O : SrtO.Swo lt) {x : α} {l : List α} (h : SrtO.Srtd lt l) : SrtO.Stb lt (insB lt x l) (x :: l) := by
  obtain ⟨A, B, e1, e2, e3, _⟩ := insB_split O (x := x) h
  rw [e2, e1]
  have s := SrtO.Stb.app (SrtO.Stb.swap O (A := A) (B := [x]) fun a ha b hb => by
    rcases List.mem_singleton.mp hb with rfl
    exact e3 a ha) (SrtO.Stb.refl (lt := lt) B)
  simpa using s
theorem isort_ok {lt : α → α → Bool} (O : SrtO.Swo lt) : ∀ l : List α, SrtO.Srtd lt (isort lt l) ∧ SrtO.Stb lt (isort lt l) l
  | [] => ⟨List.Pairwise.nil, SrtO.Stb.refl _⟩
  | x :: l => by
    obtain ⟨h1, h2⟩ := isort_ok O l
    refine ⟨insB_srtd O h1, (insB_stb O h1).trans ?_⟩
    exact SrtO.Stb.app (SrtO.Stb.refl [x]) h2
theorem isort_perm {lt : α → α → Bool} (O : SrtO.Swo lt) (l : List α) : (isort lt l).Perm l := (isort_ok O l).2.perm
theorem isort_len {lt : α → α → Bool} (O : SrtO.Swo lt) (l : List α) : (isort lt l).length = l.length := (isort_perm O l).length_eq
end
theorem lexB_swo : SrtO.Swo SrtO.lexB := by
  refine ⟨fun x y h => ?_, fun x y z h1 h2 => ?_⟩
  · have a := SrtO.lexB_iff.mp h
    refine SrtO.lexB_no.mpr ?_
    omega
  · have a := SrtO.lexB_no.mp h1
    have b := SrtO.lexB_no.mp h2
    refine SrtO.lexB_no.mpr ?_
    omega
def asPrs : List PV → Option (List (Int × Int))
  | [] => some []
  | .tup [.int i, .int j] :: xs => (asPrs xs).map ((i, j) :: ·)
  | _ => none
def prP (q : Int × Int) : PV := .tup [.int q.1, .int q.2]
def srtP (l : List (Int × Int)) : List (Int × Int) := isort SrtO.lexB l
def fnSorted : List PV → Option Ot
  | [.lst xs] => (asPrs xs).map fun ps => .l ((srtP ps).map prP)
  | _ => none
def rSortedZ (K : PySem.W.Frag) : List V → Hp → VK → Prop := fun vs H Q => ∃ (a : Addr) (xs : List V) (k : V → Int × Int), vs = [V.ref a] ∧ SqL K H a xs ∧ (∀ x ∈ xs, ∃ t, x = V.ref t ∧ SqT K H t [.int (k x).1, .int (k x).2]) ∧
  ∀ ys p, SrtO.Srtd (ltP k) ys → SrtO.Stb (ltP k) ys xs → (∀ x ∈ xs, ∀ t i j, x = V.ref t → SqT K H t [.int i, .int j] → k x = (i, j)) → H p = none → Q (.ref p) (upd H p (.lst ys))
section
variable {X : Cx}
theorem pair_at {pins : List (Addr × Obj)} {σ : L2.St} {H : Hp} {s : Shared} {t : Addr} {i j : Int} (I : Inv X pins σ H s) (h : SqT X.K H t [.int i, .int j]) : ∃ (o : Obj) (t1 t2 : Tok) (n : Nat), s.heap.get? t = some o ∧ o.cls = .type "tuple" ∧ o.data = .seq #[.int i t1, .int j t2] n := by
  obtain ⟨its, r, ⟨o, ho, hc, n, hd⟩, _⟩ := I.tuple h
  obtain ⟨u1, u2, rfl, ri, rj⟩ := vals2 r
  obtain ⟨t1, rfl⟩ := ri
  obtain ⟨t2, rfl⟩ := rj
  exact ⟨o, t1, t2, n, ho, hc, hd⟩
theorem cr_sortedZ : CallR X (.builtin "sorted") (rSortedZ X.K) := by
  intro pins s σ H vs us Q I r h
  obtain ⟨a, xs, k, rfl, hs, hx, q⟩ := h
  have un : ∀ x ∈ xs, ∀ t i j, x = V.ref t → SqT X.K H t [.int i, .int j] → k x = (i, j) := fun x hm t i j e ht => by
    obtain ⟨t', e', ht'⟩ := hx x hm
    rw [e] at e'
    cases e'
    obtain ⟨o, t1, t2, n, ho, _, hd⟩ := pair_at I ht
    obtain ⟨o', t1', t2', n', ho', _, hd'⟩ := pair_at I ht'
    rw [ho] at ho'
    cases ho'
    rw [hd] at hd'
    injection hd' with e1 _
    have e2 := Array.mk.inj e1
    injection e2 with e3 e4
    injection e4 with e4 _
    injection e3 with e3 _
    injection e4 with e4 _
    exact Prod.ext e3.symm e4.symm
  obtain ⟨its, rv, hl, hz⟩ := I.list hs
  obtain ⟨u, rfl, ru⟩ := vals1 r
  obtain rfl : u = Value.ref a := ru
  obtain ⟨e1, e2⟩ := refs_back rv fun x m => by
    obtain ⟨t, e, _⟩ := hx x m
    exact ⟨t, e⟩
  refine SrtO.sorted_pairsO (k := fun u => k (backV u)) hl.isList (by rw [← rv.length]; exact hz) (fun v hv => ?_) fun h' d out h1 h2 kp hd hn => ?_
  · obtain ⟨t, rfl⟩ := e2 v hv
    have hm : V.ref t ∈ xs := by rw [e1]; exact List.mem_map.mpr ⟨_, hv, rfl⟩
    obtain ⟨t', e, ht⟩ := hx _ hm
    cases e
    obtain ⟨o, t1, t2, n, ho, hc, hd⟩ := pair_at I ht
    exact ⟨t, o, t1, t2, n, rfl, ho, hc, hd⟩
  · have h3 : ∀ u ∈ out, ∃ a, u = Value.ref a := fun u hu => e2 u (h2.perm.mem_iff.mp hu)
    obtain ⟨n, hn⟩ := hn
    have hb : SrtO.Stb (ltP k) (out.map backV) xs := by
      rw [e1]
      exact SrtO.Stb.map (ltP_swo k) backV h2
    refine ⟨.ref d, upd H d (.lst (out.map backV)), I.laid (t' := s.toks) kp hd ⟨?_, out, n, vals_back h3, hn⟩, rfl, q _ d (SrtO.srtd_map h1) hb un (I.hok.fresh hd)⟩
    rw [hb.len]
    exact hz
theorem asPrs_ok {c : Cn} {F : Addr → Prop} {H : Hp} : ∀ {xs : List PV} {us : List V} {ps : List (Int × Int)}, RFs c F H xs us → asPrs xs = some ps → xs = ps.map prP ∧ ∀ u ∈ us, ∃ t i j, u = V.ref t ∧ SqT c.K H t [.int i, .int j]
  | [], us, ps, r, e => by
    unfold RFs at r; subst r; rw [asPrs] at e; cases e
    exact ⟨rfl, fun u h => nomatch h⟩
  | x :: xs, us, ps, r, e => by
    unfold asPrs at e
    split at e
    · rename_i e0; cases e0
    · rename_i i j xs' e0
      cases e0
      obtain ⟨qs, e1, rfl⟩ := Option.map_eq_some_iff.mp e
      unfold RFs at r
      obtain ⟨u, r', rfl, h1, h2⟩ := r
      obtain ⟨z1, z2⟩ := asPrs_ok h2 e1
      refine ⟨by rw [z1]; rfl, fun v hv => ?_⟩
      rcases List.mem_cons.mp hv with rfl | hv
      · unfold RF at h1
        obtain ⟨a, us, rfl, hT, r1⟩ := h1
        unfold RFs at r1
        obtain ⟨v1, w1, rfl, k1, k2⟩ := r1
        unfold RFs at k2
        obtain ⟨v2, w2, rfl, k3, k4⟩ := k2
        unfold RFs at k4
        subst k4
        unfold RF at k1 k3
        subst k1 k3
        exact ⟨a, i, j, rfl, hT⟩
      · exact z2 v hv
    · cases e
/-- the same insertion on both sides -/
theorem rf_ins {c : Cn} {F : Addr → Prop} {H : Hp} {k : V → Int × Int} {q : Int × Int} {u : V} (ru : RF c F H (prP q) u) (ku : k u = q) : ∀ {ps : List (Int × Int)} {us : List V}, RFs c F H (ps.map prP) us → us.map k = ps → RFs c F H ((insB SrtO.lexB q ps).map prP) (insB (ltP k) u us) ∧ (insB (ltP k) u us).map k = insB SrtO.lexB q ps
  | [], us, r, e => by
    have : us = [] := by simpa using e
    subst this
    exact ⟨RFs.cons_ ru RFs.nil_, by simp [insB, ku]⟩
  | p :: ps, us, r, e => by
    obtain ⟨v, us', rfl, e1, e2⟩ := List.map_eq_cons_iff.mp e
    rw [List.map_cons] at r
    unfold RFs at r
    obtain ⟨v', us'', e0, r1, r2⟩ := r
    cases e0
    obtain ⟨z1, z2⟩ := rf_ins ru ku r2 e2
    have hlt : ltP k v u = SrtO.lexB p q := by show SrtO.lexB (k v) (k u) = _; rw [e1, ku]
    rw [insB, insB, hlt]
    by_cases b : SrtO.lexB p q = true
    · rw [if_pos b, if_pos b]
      exact ⟨RFs.cons_ r1 z1, by rw [List.map_cons, z2, e1]⟩
    · rw [if_neg b, if_neg b]
      exact ⟨RFs.cons_ ru (RFs.cons_ r1 r2), by rw [List.map_cons, List.map_cons, ku, e1, e2]⟩
theorem rf_sort {c : Cn} {F : Addr → Prop} {H : Hp} {k : V → Int × Int} : ∀ {ps : List (Int × Int)} {us : List V}, RFs c F H (ps.map prP) us → us.map k = ps → RFs c F H ((srtP ps).map prP) (isort (ltP k) us) ∧ (isort (ltP k) us).map k = srtP ps
  | [], us, r, e => by
    have : us = [] := by simpa using e
    subst this
    exact ⟨RFs.nil_, rfl⟩
  | p :: ps, us, r, e => by
    obtain ⟨v, us', rfl, e1, e2⟩ := List.map_eq_cons_iff.mp e
    rw [List.map_cons] at r
    unfold RFs at r
    obtain ⟨v', us'', e0, r1, r2⟩ := r
    cases e0
    obtain ⟨z1, z2⟩ := rf_sort r2 e2
    exact rf_ins r1 e1 z1 z2
theorem opn_sorted : OpN (cnE LT X ce) (rSortedZ X.K) fnSorted := by
  intro F H ps o vs Q rs e h
  unfold fnSorted at e
  split at e
  · rename_i xs
    obtain ⟨qs, e1, rfl⟩ := Option.map_eq_some_iff.mp e
    obtain ⟨v, rfl, r⟩ := rs.one
    obtain ⟨a, us, rfl, h1, r1⟩ := r.lst
    obtain ⟨rfl, h2⟩ := asPrs_ok r1 e1
    have ch : ∀ u : V, ∃ ij : Int × Int, u ∈ us → ∃ t, u = V.ref t ∧ SqT X.K H t [.int ij.1, .int ij.2] := fun u => by
      by_cases m : u ∈ us
      · obtain ⟨t, i, j, e, z⟩ := h2 u m
        exact ⟨(i, j), fun _ => ⟨t, e, z⟩⟩
      · exact ⟨(0, 0), fun z => absurd z m⟩
    refine ⟨a, us, fun u => Classical.choose (ch u), rfl, h1, fun u m => Classical.choose_spec (ch u) m, fun ys p hs hb un n => ?_⟩
    have hk : us.map (fun u => Classical.choose (ch u)) = qs := by
      have go : ∀ {ws : List V} {zs : List (Int × Int)}, (∀ w ∈ ws, w ∈ us) → RFs (cnE LT X ce) F H (zs.map prP) ws → ws.map (fun u => Classical.choose (ch u)) = zs := by
        intro ws
        induction ws with
        | nil =>
          intro zs _ r
          cases zs with
          | nil => rfl
          | cons z zs => rw [List.map_cons] at r; unfold RFs at r; obtain ⟨_, _, e, _⟩ := r; cases e
        | cons w ws ih =>
          intro zs hm r
          cases zs with
          | nil => rw [List.map_nil] at r; unfold RFs at r; cases r
          | cons z zs =>
            rw [List.map_cons] at r
            unfold RFs at r
            obtain ⟨_, _, e, r1, r2⟩ := r
            cases e
            rw [List.map_cons, ih (fun w hw => hm w (List.mem_cons_of_mem _ hw)) r2]
            congr 1
            unfold prP at r1
            unfold RF at r1
            obtain ⟨t, vs, rfl, hT, r3⟩ := r1
            unfold RFs at r3
            obtain ⟨v1, w1, rfl, k1, k2⟩ := r3
            unfold RFs at k2
            obtain ⟨v2, w2, rfl, k3, k4⟩ := k2
            unfold RFs at k4
            subst k4
            unfold RF at k1 k3
            subst k1 k3
            exact un _ (hm _ (List.mem_cons_self ..)) t _ _ rfl hT
      exact go (fun _ h => h) r1
    obtain ⟨z1, z2⟩ := rf_sort (k := fun u => Classical.choose (ch u)) r1 hk
    have O := ltP_swo fun u => Classical.choose (ch u)
    obtain ⟨s1, s2⟩ := isort_ok O us
    have ey : ys = isort (ltP fun u => Classical.choose (ch u)) us := SrtO.stb_uniq O hs s1 (hb.trans ⟨s2.perm.symm, fun x => (s2.cls x).symm⟩)
    rw [ey]
    exact h p _ n z1
  · cases e
end
end L2.Zz

/-! Z46: reckoning with two fors, with sorted. -/
namespace L2.Zz
open PySem PySem.Spec PyProof.Rows
section
variable {R : XP} {σ : PSt} {vs vs1 : List Nat} {di di1 : DI} {g g1 : DG} {tt tt1 : DT} {te : DE} {xs ys acc : List PV} {l l' : SlL} {n : List PV}
def KLw2 (vs vs1 : List Nat) (g : DG) (tt : DT) (di1 : DI) (g1 : DG) (tt1 : DT) (te : DE) (Q : List PV → PSt → Prop) (R : XP) : List PV → PSt → Prop := fun xs σ1 => WP (lpLc2 vs vs1 g tt di1 g1 tt1 te xs [] ⟨wipeP σ1.sl vs, σ1.ln⟩) Q R
theorem k_lw2 {Q : List PV → PSt → Prop} (w : WpL l vs l') (h : WP (lpLc2 vs vs1 g tt di1 g1 tt1 te xs [] ⟨l', n⟩) Q R) : KLw2 vs vs1 g tt di1 g1 tt1 te Q R xs ⟨l, n⟩ := by
  with_unfolding_all
    unfold WpL at w; unfold KLw2; simp only [w]; exact h
theorem v_lc2 {Q : EVal → PSt → Prop} (h : WP (di σ) (KLw2 vs vs1 g tt di1 g1 tt1 te (fun acc σ2 => Q (.new (.lst acc)) σ2) R) R) : WP (dLc2 vs vs1 di g tt di1 g1 tt1 te σ) Q R := by
  with_unfolding_all exact WP.bind (h.mono fun xs σ1 h => WP.bind h)
def KLi (vs1 : List Nat) (g1 : DG) (tt1 : DT) (te : DE) (acc : List PV) (N : List PV → PSt → Prop) : List PV → PSt → Prop := fun ys σ3 => WP (lpLc vs1 g1 tt1 te ys acc ⟨wipeP σ3.sl vs1, σ3.ln⟩) N noX
theorem k_li {N : List PV → PSt → Prop} (w : WpL l vs1 l') (h : WP (lpLc vs1 g1 tt1 te ys acc ⟨l', n⟩) N noX) : KLi vs1 g1 tt1 te acc N ys ⟨l, n⟩ := by
  with_unfolding_all
    unfold WpL at w; unfold KLi; simp only [w]; exact h
theorem v_lc2J {Q : List PV → PSt → Prop} (J : Nat → List PV → PSt → Prop) (h0 : J 0 [] σ)
    (step : ∀ i x acc σ, xs[i]? = some x → J i acc σ → WP (g x σ) (fun _ σ1 => WP (tt σ1) (fun k σ2 => Br k (WP (di1 σ2) (KLi vs1 g1 tt1 te acc fun acc σ4 => KLn vs acc (J (i + 1)) σ4) noX) (KLn vs acc (J (i + 1)) σ2)) noX) noX)
    (fin : ∀ acc σ, J xs.length acc σ → Q acc σ) : WP (lpLc2 vs vs1 g tt di1 g1 tt1 te xs [] σ) Q R := by
  with_unfolding_all
    have main : ∀ (n : Nat) (acc : List PV) (σ : PSt), n ≤ xs.length → J (xs.length - n) acc σ → WP (lpLc2 vs vs1 g tt di1 g1 tt1 te (xs.drop (xs.length - n)) acc σ) Q R := by
      intro n
      induction n with
      | zero => intro acc σ _ h; rw [Nat.sub_zero, List.drop_length]; exact fin acc σ (by simpa using h)
      | succ n ih =>
        intro acc σ hn h
        have hi : xs.length - (n + 1) < xs.length := by omega
        have e : xs.length - (n + 1) + 1 = xs.length - n := by omega
        rw [List.drop_eq_getElem_cons hi, lpLc2]
        refine WP.bind (WP.nox ((step _ _ acc σ (List.getElem?_eq_getElem hi) h).mono fun _ σ1 q => WP.bind (WP.nox (q.mono fun k σ2 q => ?_)) ) |>.mono (fun _ _ z => z))
        rw [e] at q ⊢
        refine Br.ite ⟨fun ek => WP.bind (WP.nox ((q.1 ek).mono fun ys σ3 hj => ?_)), fun ek => ih acc _ (by omega) (q.2 ek)⟩
        refine WP.bind ((hj.mono (fun acc' σ4 z => ih acc' _ (by omega) z) (fun _ _ z => z.elim)))
    have := main xs.length [] σ (Nat.le_refl _) (by simpa using h0)
    simpa using this
/-- the inner turns, from what is there already -/
theorem v_lcJA {Q : List PV → PSt → Prop} (J : Nat → List PV → PSt → Prop)
    (h0 : J 0 acc σ) (step : ∀ i x acc σ, xs[i]? = some x → J i acc σ → WP (g x σ) (fun _ σ1 => WP (tt σ1) (fun k σ2 => Br k (WP (te σ2) (KLe vs acc (J (i + 1))) noX) (KLn vs acc (J (i + 1)) σ2)) noX) noX)
    (fin : ∀ acc σ, J xs.length acc σ → Q acc σ) : WP (lpLc vs g tt te xs acc σ) Q R := by
  with_unfolding_all
    have main : ∀ (n : Nat) (acc : List PV) (σ : PSt), n ≤ xs.length → J (xs.length - n) acc σ → WP (lpLc vs g tt te (xs.drop (xs.length - n)) acc σ) Q R := by
      intro n
      induction n with
      | zero => intro acc σ _ h; rw [Nat.sub_zero, List.drop_length]; exact fin acc σ (by simpa using h)
      | succ n ih =>
        intro acc σ hn h
        have hi : xs.length - (n + 1) < xs.length := by omega
        have e : xs.length - (n + 1) + 1 = xs.length - n := by omega
        rw [List.drop_eq_getElem_cons hi, lpLc]
        refine WP.bind (WP.nox ((step _ _ acc σ (List.getElem?_eq_getElem hi) h).mono fun _ σ1 q => WP.bind (WP.nox (q.mono fun k σ2 q => ?_)) ) |>.mono (fun _ _ z => z))
        rw [e] at q ⊢
        refine Br.ite ⟨fun ek => WP.bind (WP.nox ((q.1 ek).mono fun r σ3 ⟨p, er, hl, hj⟩ => ?_)), fun ek => ih acc _ (by omega) (q.2 ek)⟩
        subst er
        show WP (if acc.length < szL then _ else Rs.no) Q R
        rw [if_pos hl]
        exact ih _ _ (by omega) hj
    have := main xs.length acc σ (Nat.le_refl _) (by simpa using h0)
    simpa using this
/-- pairs -/
def PrL (xs : List PV) (ps : List (Int × Int)) : Prop := xs = ps.map prP
theorem asPrs_map : ∀ ps : List (Int × Int), asPrs (ps.map prP) = some ps
  | [] => rfl
  | (i, j) :: ps => by
    rw [List.map_cons]
    show (asPrs (ps.map prP)).map _ = _
    rw [asPrs_map ps]
    rfl
theorem f_sorted {xs : List PV} {ps : List (Int × Int)} (h : PrL xs ps) : EqF (fnSorted [.lst xs]) (some (.l ((srtP ps).map prP))) := by
  unfold PrL at h
  subst h
  unfold EqF fnSorted
  simp only [asPrs_map]
  rfl
theorem prL_of {xs : List PV} (h : ∀ p ∈ xs, ∃ x y : Int, p = .tup [.int x, .int y]) : ∃ ps, PrL xs ps := by
  induction xs with
  | nil => exact ⟨[], rfl⟩
  | cons a l ih =>
    obtain ⟨x, y, rfl⟩ := h a (List.mem_cons_self ..)
    obtain ⟨ps, e⟩ := ih fun p hp => h p (List.mem_cons_of_mem _ hp)
    exact ⟨(x, y) :: ps, by unfold PrL at e ⊢; rw [e]; rfl⟩
theorem srtP_len (ps : List (Int × Int)) : (srtP ps).length = ps.length := isort_len lexB_swo ps
end
end L2.Zz

/-! Z47: a call without arguments. -/
namespace L2.Zz
open PySem PySem.Spec PyProof.Rows
variable {LT : LTab} {ce : List (Str × Addr)}
section
variable {X : Cx} {W : WX} {x : Str} {p pos : Pos} {k np : Nat} {f : Addr} {fd : FuncData} {ps N : List Str} {body : DS}
theorem z_call0 (F : FnOk X.prog X.w X.K X.mg X.base (L2.CX X.prog X.w) k f fd ps (spD (cb LT X) N np body)) (hr : Room k X.A) (hg : Gl X x) (hm : X.mg x = some (.ref f)) (hk : PySem.W.keepIn X.K (.ref f) = true) (hb : Binds X.K fd ps []) (tk : Takes X W) (hn : np ≤ N.length) (hdb : (x == ("__debug__" : Str)) = false := by decide) :
    PE X (.Call (.Name x p) [] [] pos) (EV (cnE LT X ce) W (dCall N.length np body dNil [])) := by
  refine ⟨fun pins s σr H Q I h => ?_⟩
  refine wpAny_Call_Name_kw (ld_glob I hg hm ?_ hdb)
  have h2 : tCallSD (spD (cb LT X) N np body) [] (fun σr cls d H => W cls d σr H) tNil σr H Q := by
    obtain ⟨F, la, σ, S, g⟩ := h
    have ea : ERs (cnE LT X ce) F la (Ow σ σr la) (Nw ⟨F, H, Ow σ σr la⟩) σr H [] [] := .nil
    have g2 := (g.bind) F H (Ex.refl _) S
    obtain ⟨hl, f2⟩ := fin_if g2
    have hlen : ([] : List V).length = np := hl
    exact callD_ok (vs := []) hlen (by rw [hlen]; exact hn) S (Ex.refl _) ea f2
  exact PySem.W.callWith_K0 I.kIn hk (run_fnSD (us := []) F hr hb .nil (passAt tk σr) I .nil h2)
end
end L2.Zz
namespace L2.Zz
open PySem PySem.Spec PyProof.Rows
/-- a def's own text -/
theorem wp_def {d d' : DS} {σ : PSt} {Q : Fl → PSt → Prop} {R : XP} (e : d = d') (h : WP (d' σ) Q R) : WP (d σ) Q R := by rw [e]; exact h
end L2.Zz
namespace L2.Zz
theorem Br.peqF {p q : PV} {A B : Prop} (e : p ≠ q) (h : B) : Br (L2.Zz.peq p q) A B := .pq (fun n => (e n).elim) fun _ => h
theorem Br.npeqT {p q : PV} {A B : Prop} (e : p ≠ q) (h : A) : Br (!L2.Zz.peq p q) A B := .npq (fun _ => h) fun n => (e n).elim
end L2.Zz
namespace L2.Zz
inductive AppN : List Nat → List Nat → List Nat → Prop
  | z {qs} : AppN [] qs qs
  | s {p ps qs l} : AppN ps qs l → AppN (p :: ps) qs (p :: l)
theorem AppN.eq {ps qs l : List Nat} (h : AppN ps qs l) : ps ++ qs = l := by
  induction h with
  | z => rfl
  | s _ ih => rw [List.cons_append, ih]
theorem k_cc2 {Q : EVal → PSt → Prop} {σ : PSt} {ks js l : List Nat} (a : AppN ks js l) (e : EqF (some (decide (ks.length + js.length ≤ szL))) (some true)) (q : Q (.clos l) σ) : KCc (.clos ks) Q (.clos js) σ := k_cc e (by rw [a.eq]; exact q)
end L2.Zz

/-! Z48: sorted of alike data. -/
namespace L2.Zz
open PySem PySem.Spec PyProof.Rows
open PySem.W (AllAlike Sortable alike dataLt keyToks dataKind SortsAt EachIs alikeAll dataKind_some keyToksAll)
variable {LT : LTab} {ce : List (Str × Addr)}
def ltS {α : Type} (a b : α × PyData) : Bool := dataLt a.2 b.2
theorem dataLt_swo : SrtO.Swo dataLt := by
  refine ⟨fun x y h => ?_, fun x y z h1 h2 => ?_⟩
  · exact KeyOrd.klt_asymm (O := listOrd itemOrd) (a := keyToks x) (b := keyToks y) h
  · cases h : dataLt z x with
    | false => rfl
    | true =>
      rcases (listOrd itemOrd).negTrans (keyToks z) (keyToks y) (keyToks x) h with q | q
      · have h2' : (listOrd itemOrd).blt (keyToks z) (keyToks y) = false := h2
        rw [q] at h2'; cases h2'
      · have h1' : (listOrd itemOrd).blt (keyToks y) (keyToks x) = false := h1
        rw [q] at h1'; cases h1'
theorem ltS_swo {α : Type} : SrtO.Swo (ltS (α := α)) := ⟨fun x y h => dataLt_swo.asym _ _ h, fun x y z h1 h2 => dataLt_swo.tr _ _ _ h1 h2⟩
section
variable {α β : Type}
theorem insB_map {lt : α → α → Bool} {lt' : β → β → Bool} {f : α → β} {x : α} : ∀ {l : List α}, (∀ b ∈ l, lt' (f b) (f x) = lt b x) → (insB lt x l).map f = insB lt' (f x) (l.map f)
  | [], _ => rfl
  | y :: l, h => by
    rw [insB, List.map_cons, insB, h y (List.mem_cons_self ..)]
    by_cases c : lt y x = true
    · rw [if_pos c, if_pos c, List.map_cons, insB_map fun b hb => h b (List.mem_cons_of_mem _ hb)]
    · rw [if_neg c, if_neg c]; rfl
theorem insB_mem {lt : α → α → Bool} {x b : α} : ∀ {l : List α}, b ∈ insB lt x l → b = x ∨ b ∈ l
  | [], h => .inl (by simpa [insB] using h)
  | y :: l, h => by
    rw [insB] at h
    by_cases c : lt y x = true
    · rw [if_pos c] at h
      rcases List.mem_cons.mp h with e | h
      · exact .inr (e ▸ List.mem_cons_self ..)
      · rcases insB_mem h with e | h
        · exact .inl e
        · exact .inr (List.mem_cons_of_mem _ h)
    · rw [if_neg c] at h
      rcases List.mem_cons.mp h with e | h
      · exact .inl e
      · exact .inr h
theorem isort_mem {lt : α → α → Bool} {b : α} : ∀ {l : List α}, b ∈ isort lt l → b ∈ l
  | [], h => h
  | x :: l, h => by
    rcases insB_mem h with e | h
    · exact e ▸ List.mem_cons_self ..
    · exact List.mem_cons_of_mem _ (isort_mem h)
theorem isort_map {lt : α → α → Bool} {lt' : β → β → Bool} {f : α → β} : ∀ {l : List α}, (∀ a ∈ l, ∀ b ∈ l, lt' (f a) (f b) = lt a b) → (isort lt l).map f = isort lt' (l.map f)
  | [], _ => rfl
  | x :: l, h => by
    rw [isort, List.map_cons, isort, insB_map (lt' := lt') fun b hb => h b (List.mem_cons_of_mem _ (isort_mem hb)) x (List.mem_cons_self ..), isort_map fun a ha b hb => h a (List.mem_cons_of_mem _ ha) b (List.mem_cons_of_mem _ hb)]
end
section
variable {α β : Type} {S : α → β → Prop} {lt : α → α → Bool} {lt' : β → β → Bool}
theorem rel_insB (hlt : ∀ a b, S a b → ∀ a' b', S a' b' → lt a a' = lt' b b') {x : α} {y : β} (hx : S x y) : ∀ {l : List α} {m : List β}, EachIs S l m → EachIs S (insB lt x l) (insB lt' y m)
  | _, _, .nil => .cons hx .nil
  | _, _, .cons (a := a) (b := b) h t => by
    rw [insB, insB, hlt a b h x y hx]
    by_cases c : lt' b y = true
    · rw [if_pos c, if_pos c]; exact .cons h (rel_insB hlt hx t)
    · rw [if_neg c, if_neg c]; exact .cons hx (.cons h t)
theorem rel_isort (hlt : ∀ a b, S a b → ∀ a' b', S a' b' → lt a a' = lt' b b') : ∀ {l : List α} {m : List β}, EachIs S l m → EachIs S (isort lt l) (isort lt' m)
  | _, _, .nil => .nil
  | _, _, .cons h t => rel_insB hlt h (rel_isort hlt t)
end
theorem vals_of_each {l : List (V × PyData)} {m : List (Value × PyData)} (e : EachIs (fun (a : V × PyData) (b : Value × PyData) => a.2 = b.2 ∧ RelV a.1 b.1) l m) : Vals (l.map (·.1)) (m.map (·.1)) := by
  induction e with
  | nil => exact .nil
  | cons h _ ih => exact .cons h.2 ih
theorem dpAll_len {K : PySem.W.Frag} {H : Hp} : ∀ {xs : List V} {ds : List PyData}, DpAll K H xs ds → xs.length = ds.length
  | _, _, .nil => rfl
  | _, _, .cons _ t => by rw [List.length_cons, List.length_cons, dpAll_len t]
/-- the new list of sorted -/
def srtL (xs : List V) (ds : List PyData) : List V := (isort ltS (xs.zip ds)).map (·.1)
def SrtC (K : PySem.W.Frag) (H : Hp) (xs : List V) (ds : List PyData) : Prop := DpAll K H xs ds ∧ AllAlike ds ∧ Sortable ds ∧ ∀ d ∈ ds, d.depth ≤ 60
def rSrtL (K : PySem.W.Frag) : List V → Hp → VK → Prop := fun vs H Q => ∃ (a : Addr) (xs : List V) (ds : List PyData), vs = [V.ref a] ∧ SqL K H a xs ∧ SrtC K H xs ds ∧ ∀ p, H p = none → Q (.ref p) (upd H p (.lst (srtL xs ds)))
section
variable {X : Cx}
theorem each_reads {pins : List (Addr × Obj)} {σ : L2.St} {H : Hp} {s : Shared} (I : Inv X pins σ H s) : ∀ {ds : List PyData} {xs : List V} {its : List Value}, DpAll X.K H xs ds → Vals xs its → EachIs (fun v d => ∃ as, Reads s.heap v d as) its ds
  | [], xs, its, h, r => by cases h; cases r; exact .nil
  | d :: ds, xs, its, h, r => by
    cases h with
    | cons h t =>
      cases r with
      | cons r rs => exact .cons (Dp.reads I _ _ _ h r) (each_reads I t rs)
/-- sorting the items of a list by their data, at heaps that keep what is there -/
theorem srt_able {prog : Program} {w : World} {A : Around} {s : Shared} {vs : List Value} {ds : List PyData} {a : Addr} {h₁ : Heap} (e : EachIs (fun v d => ∃ as, Reads s.heap v d as) vs ds) (hal : AllAlike ds) (hk : Sortable ds) (hu : ∀ d ∈ ds, A.units + d.depth < cLine)
    (h2 : 2 ≤ vs.length) (kp : ∀ b o, s.heap.get? b = some o → b ≠ a ∧ h₁.get? b = some o) : SrtO.SortableO prog w A { s with heap := h₁ } a vs fun v u => (listOrd itemOrd).blt (((dataKind s.heap ds).keyOf v).getD []) (((dataKind s.heap ds).keyOf u).getD []) := by
  intro h' keep
  have k2 : ∀ b o, s.heap.get? b = some o → h'.get? b = some o := fun b o q => keep b o (kp b o q).1 (kp b o q).2
  have e2 : EachIs (fun v d => ∃ as, Reads h' v d as) vs ds := e.mono fun v d ⟨as, r⟩ => ⟨as, Reads.keeps k2 r⟩
  have S := SortsAt.data (prog := prog) (w := w) (A := A) (s := { s with heap := h' }) e2 hal hk hu
  obtain ⟨kd, lt, kind⟩ := S.kind
  refine ⟨kd, fun Q E hq => kind h2 E hq, fun p q hp hq => ?_⟩
  obtain ⟨d, hd, as, r⟩ := e2.left _ hp
  obtain ⟨d', hd', as', r'⟩ := e2.left _ hq
  obtain ⟨d1, hd1, as1, r1⟩ := e.left _ hp
  obtain ⟨d2, hd2, as2, r2⟩ := e.left _ hq
  have u1 : (dataKind s.heap ds).keyOf p.1 = some (keyToks d1) := dataKind_some hal hd1 r1
  have u2 : (dataKind s.heap ds).keyOf q.1 = some (keyToks d2) := dataKind_some hal hd2 r2
  have w1 : (dataKind h' ds).keyOf p.1 = some (keyToks d1) := dataKind_some hal hd1 (Reads.keeps k2 r1)
  have w2 : (dataKind h' ds).keyOf q.1 = some (keyToks d2) := dataKind_some hal hd2 (Reads.keeps k2 r2)
  refine lt _ p.1 q.1 _ _ w1 w2 ?_
  refine ⟨rfl, ?_⟩
  show _ = (listOrd itemOrd).blt (((dataKind s.heap ds).keyOf p.1).getD []) (((dataKind s.heap ds).keyOf q.1).getD [])
  rw [u1, u2]
  rfl
theorem keyB_swo (k : Value → List (Int ⊕ List Nat)) : SrtO.Swo fun v u => (listOrd itemOrd).blt (k v) (k u) := by
  refine ⟨fun x y h => KeyOrd.klt_asymm (O := listOrd itemOrd) h, fun x y z h1 h2 => ?_⟩
  cases h : (listOrd itemOrd).blt (k z) (k x) with
  | false => rfl
  | true =>
    rcases (listOrd itemOrd).negTrans (k z) (k y) (k x) h with q | q
    · have h2' : (listOrd itemOrd).blt (k z) (k y) = false := h2
      rw [q] at h2'; cases h2'
    · have h1' : (listOrd itemOrd).blt (k y) (k x) = false := h1
      rw [q] at h1'; cases h1'
/-- the one sorted list -/
theorem srt_one {h : Heap} {its out : List Value} {ds : List PyData} (e : EachIs (fun v d => ∃ as, Reads h v d as) its ds) (hal : AllAlike ds)
    (h1 : SrtO.Srtd (fun v u => (listOrd itemOrd).blt (((dataKind h ds).keyOf v).getD []) (((dataKind h ds).keyOf u).getD [])) out) (h2 : SrtO.Stb (fun v u => (listOrd itemOrd).blt (((dataKind h ds).keyOf v).getD []) (((dataKind h ds).keyOf u).getD [])) out its) :
    out = (isort ltS (its.zip ds)).map (·.1) := by
  have O := keyB_swo fun v => ((dataKind h ds).keyOf v).getD []
  obtain ⟨s1, s2⟩ := isort_ok O its
  have eo := SrtO.stb_uniq O h1 s1 (h2.trans ⟨s2.perm.symm, fun x => (s2.cls x).symm⟩)
  rw [eo]
  have key : ∀ p ∈ its.zip ds, ((dataKind h ds).keyOf p.1).getD [] = keyToks p.2 := by
    have go : ∀ {vs : List Value} {es : List PyData}, EachIs (fun v d => ∃ as, Reads h v d as) vs es → (∀ d ∈ es, d ∈ ds) → ∀ p ∈ vs.zip es, ((dataKind h ds).keyOf p.1).getD [] = keyToks p.2 := by
      intro vs es E
      induction E with
      | nil => intro _ p hp; cases hp
      | @cons v d vs es r _ ih =>
        intro hm p hp
        rw [List.zip_cons_cons] at hp
        rcases List.mem_cons.mp hp with rfl | hp
        · obtain ⟨as, r⟩ := r
          rw [dataKind_some hal (hm d (List.mem_cons_self ..)) r]
          rfl
        · exact ih (fun d hd => hm d (List.mem_cons_of_mem _ hd)) p hp
    exact go e fun _ h => h
  have em : (its.zip ds).map (·.1) = its := List.map_fst_zip (by rw [e.length]; exact Nat.le_refl _)
  refine Eq.trans ?_ (isort_map (lt := ltS) (lt' := fun v u => (listOrd itemOrd).blt (((dataKind h ds).keyOf v).getD []) (((dataKind h ds).keyOf u).getD [])) (f := fun p : Value × PyData => p.1) (l := its.zip ds) fun a ha b hb => ?_).symm
  · rw [em]
  · show (listOrd itemOrd).blt (((dataKind h ds).keyOf a.1).getD []) (((dataKind h ds).keyOf b.1).getD []) = _
    rw [key a ha, key b hb]
    rfl
theorem vals_srt {xs : List V} {its : List Value} {ds : List PyData} (r : Vals xs its) (hl : xs.length = ds.length) : Vals (srtL xs ds) ((isort ltS (its.zip ds)).map (·.1)) := by
  have e : EachIs (fun (a : V × PyData) (b : Value × PyData) => a.2 = b.2 ∧ RelV a.1 b.1) (xs.zip ds) (its.zip ds) := by
    have go : ∀ {xs : List V} {its : List Value} {ds : List PyData}, Vals xs its → xs.length = ds.length → EachIs (fun (a : V × PyData) (b : Value × PyData) => a.2 = b.2 ∧ RelV a.1 b.1) (xs.zip ds) (its.zip ds) := by
      intro xs its ds r
      induction r generalizing ds with
      | nil => intro _; exact .nil
      | cons r _ ih =>
        intro hl
        cases ds with
        | nil => simp at hl
        | cons d ds => exact .cons ⟨rfl, r⟩ (ih (by simpa using hl))
    exact go r hl
  have e2 := rel_isort (lt := ltS) (lt' := ltS) (fun a b h a' b' h' => by unfold ltS; rw [h.1, h'.1]) e
  exact vals_of_each e2
theorem cr_srtL (hu : X.A.units + 65 < cLine) : CallR X (.builtin "sorted") (rSrtL X.K) := by
  intro pins s σ H vs us Q I r h
  obtain ⟨a, xs, ds, rfl, hs, ⟨dp, hal, hk, hd⟩, q⟩ := h
  obtain ⟨its, rv, hl, hz⟩ := I.list hs
  obtain ⟨u, rfl, ru⟩ := vals1 r
  obtain rfl : u = Value.ref a := ru
  have e := each_reads I dp rv
  have hzi : its.length ≤ sizeLine := by rw [← rv.length]; exact hz
  refine SrtO.sorted_ord (keyB_swo fun v => ((dataKind s.heap ds).keyOf v).getD []) hl.isList hzi (fun h2 h₁ b hb kk => srt_able e hal hk (fun d hd' => by
    have := hd d hd'
    show X.A.units + 1 + 1 + d.depth < cLine
    omega) h2 kk) fun out h1 h2 => ?_
  have eo := srt_one e hal h1 h2
  subst eo
  have hv := vals_srt rv (dpAll_len dp)
  obtain ⟨n, hn⟩ := PyProof.Rows.sortedAll_at s.heap its ((isort ltS (its.zip ds)).map (·.1)).toArray
  refine ⟨.ref (s.heap.objs.size + 1), upd H (s.heap.objs.size + 1) (.lst (srtL xs ds)), I.laid (t' := s.toks) (fun b o e => PyProof.Rows.sortedAll_old e) (Nat.le_succ _) ⟨?_, _, n, hv, hn⟩, rfl, q _ (I.hok.fresh (Nat.le_succ _))⟩
  rw [hv.length, h2.len]
  exact hzi
end
/-! ### of pure values -/
def dOf (p : PV) : PyData := (toD p).getD .none
def ltPV (p q : PV) : Bool := dataLt (dOf p) (dOf q)
theorem ltPV_swo : SrtO.Swo ltPV := ⟨fun x y h => dataLt_swo.asym _ _ h, fun x y z h1 h2 => dataLt_swo.tr _ _ _ h1 h2⟩
def isT1 : PyData → Bool
  | .tuple (_ :: _) => true
  | _ => false
def noT0 : PyData → Bool
  | .none => false
  | .tuple _ => false
  | _ => true
def sortB (xs : List PV) : Bool := (xs.all fun p => (toD p).isSome && decide ((dOf p).depth ≤ 60)) && ((xs.all fun p => xs.all fun q => alike (dOf p) (dOf q)) && ((xs.all fun p => isT1 (dOf p)) || xs.all fun p => noT0 (dOf p)))
theorem sortB_ok {K : PySem.W.Frag} {c : Cn} (hK : c.K = K) {F : Addr → Prop} {H : Hp} {xs : List PV} {us : List V} (h : sortB xs = true) (r : RFs c F H xs us) : SrtC K H us (xs.map dOf) ∧ EachIs (fun (p : PV) (a : V × PyData) => RF c F H p a.1 ∧ a.2 = dOf p) xs (us.zip (xs.map dOf)) := by
  subst hK
  unfold sortB at h
  simp only [Bool.and_eq_true, Bool.or_eq_true, List.all_eq_true, decide_eq_true_eq] at h
  obtain ⟨h1, h2, h3⟩ := h
  refine ⟨⟨?_, fun d hd e he => ?_, ?_, fun d hd => ?_⟩, ?_⟩
  · have go : ∀ {ys : List PV} {us : List V}, (∀ p ∈ ys, p ∈ xs) → RFs c F H ys us → DpAll c.K H us (ys.map dOf) := by
      intro ys
      induction ys with
      | nil => intro us _ r; unfold RFs at r; subst r; exact .nil
      | cons y ys ih =>
        intro us hm r
        unfold RFs at r
        obtain ⟨u, us', rfl, r1, r2⟩ := r
        refine .cons ?_ (ih (fun p hp => hm p (List.mem_cons_of_mem _ hp)) r2)
        have hs := (h1 y (hm y (List.mem_cons_self ..))).1
        obtain ⟨d, e⟩ := Option.isSome_iff_exists.mp hs
        have e2 : dOf y = d := by unfold dOf; rw [e]; rfl
        rw [e2]
        exact toD_ok y u d r1 e
    exact go (fun _ h => h) r
  · obtain ⟨p, hp, rfl⟩ := List.mem_map.mp hd
    obtain ⟨q, hq, rfl⟩ := List.mem_map.mp he
    exact h2 p hp q hq
  · rcases h3 with h3 | h3
    · refine .inl fun d hd => ?_
      obtain ⟨p, hp, rfl⟩ := List.mem_map.mp hd
      have := h3 p hp
      cases e : dOf p <;> rw [e] at this <;> simp [isT1] at this
      rename_i ys
      cases ys with
      | nil => simp at this
      | cons y ys => exact ⟨y, ys, rfl⟩
    · refine .inr fun d hd => ?_
      obtain ⟨p, hp, rfl⟩ := List.mem_map.mp hd
      have := h3 p hp
      cases e : dOf p <;> rw [e] at this <;> simp [noT0] at this <;> exact ⟨by simp, by simp⟩
  · obtain ⟨p, hp, rfl⟩ := List.mem_map.mp hd
    exact (h1 p hp).2
  · have go : ∀ {ys : List PV} {us : List V}, RFs c F H ys us → EachIs (fun (p : PV) (a : V × PyData) => RF c F H p a.1 ∧ a.2 = dOf p) ys (us.zip (ys.map dOf)) := by
      intro ys
      induction ys with
      | nil => intro us r; unfold RFs at r; subst r; exact .nil
      | cons y ys ih =>
        intro us r
        unfold RFs at r
        obtain ⟨u, us', rfl, r1, r2⟩ := r
        exact .cons ⟨r1, rfl⟩ (ih r2)
    exact go r
theorem rfs_each {c : Cn} {F : Addr → Prop} {H : Hp} {ps : List PV} {l : List (V × PyData)} (e : EachIs (fun (p : PV) (a : V × PyData) => RF c F H p a.1 ∧ a.2 = dOf p) ps l) : RFs c F H ps (l.map (·.1)) := by
  induction e with
  | nil => exact RFs.nil_
  | cons h _ ih => exact RFs.cons_ h.1 ih
theorem rf_srt {c : Cn} {F : Addr → Prop} {H : Hp} {xs : List PV} {us : List V} (e : EachIs (fun (p : PV) (a : V × PyData) => RF c F H p a.1 ∧ a.2 = dOf p) xs (us.zip (xs.map dOf))) : RFs c F H (isort ltPV xs) (srtL us (xs.map dOf)) := by
  refine rfs_each (rel_isort (lt := ltPV) (lt' := ltS) (fun a b h a' b' h' => ?_) e)
  unfold ltPV ltS
  rw [h.2, h'.2]
def fnSrt : List PV → Option Ot
  | [.lst xs] => if sortB xs = true then some (.l (isort ltPV xs)) else none
  | _ => none
theorem opn_srt {X : Cx} : OpN (cnE LT X ce) (rSrtL X.K) fnSrt := by
  intro F H ps o vs Q rs e h
  unfold fnSrt at e
  split at e
  · rename_i xs
    by_cases hb : sortB xs = true
    · rw [if_pos hb] at e
      cases e
      obtain ⟨v, rfl, r⟩ := rs.one
      obtain ⟨a, us, rfl, h1, r1⟩ := r.lst
      obtain ⟨z1, z2⟩ := sortB_ok (c := cnE LT X ce) rfl hb r1
      exact ⟨a, us, _, rfl, h1, z1, fun p n => h p _ n (rf_srt z2)⟩
    · rw [if_neg hb] at e; cases e
  · cases e
end L2.Zz

/-! Z49: sorted of a dict's keys. -/
namespace L2.Zz
open PySem PySem.Spec PyProof.Rows
open PySem.W (AllAlike Sortable alike dataLt keyToks dataKind SortsAt EachIs KdlSrc)
variable {LT : LTab} {ce : List (Str × Addr)}
theorem kdl_exact {prog : Program} {w : World} {d : Addr} {od : Obj} {es : Array DictEntry} {ep n : Nat} (lo : (d == sysModules) = false) (hx : od.ExactDict) (hdt : od.data = .dict es ep) (hsz : es.size = n) :
    KdlSrc prog w "dict" d d n (fun i v => ∃ en, es[i]? = some en ∧ v = en.key) (fun h => h.get? d = some od) where
  type := fun s h => ⟨od, h, hx.1⟩
  there := fun h e => ⟨Heap.lt_size e, Heap.lt_size e⟩
  keep := fun h h' e k => k d (.inl rfl) od e
  notList := by decide
  notTuple := by decide
  hint := fun A E s Q h hq => PySem.W.kdl_hint_dict ⟨od, h, hx.1⟩ hq
  iter := fun A s hh hd => by
    refine ⟨_, fun i h => h.IsKeyIter s.heap.objs.size d i n ep ∧ h.get? d = some od, fun E Q hq => iter_keys lo hd hx hdt (by rw [hsz]; exact hq), ?_, ⟨⟨_, Heap.get?_push_size _ rfl, rfl, rfl⟩, Heap.get?_push_of_some _ hd⟩⟩
    have hne : d ≠ s.heap.objs.size := Nat.ne_of_lt (Heap.lt_size hd)
    exact {
      sub := fun b hb => by simp at hb; simp [hb]
      frame := fun _ _ _ st hk => ⟨st.1.at fun o e => hk _ (by simp) o e, hk _ (by simp) od st.2⟩
      item := fun i s' Q E hi st hQ => by
        have e1 : es[i]? = some es[i] := Array.getElem?_eq_getElem (by omega)
        refine next_key_item st.1 st.2 hdt hsz e1 fun h' hit' hs' => ?_
        exact hQ _ h' s'.toks ⟨_, e1, rfl⟩ ⟨hit', hs'.extBut _ _ hne st.2⟩ fun b o hb e => hs'.extBut b o (fun h => hb (by simp [h])) e
      done := fun s' Q E st hQ => next_key_end hh st.1 st.2 hdt hsz (Nat.le_refl _) fun h' he' => hQ h' s'.toks fun b o hb e => he' b o (fun h => hb (by simp [h])) e
      self := fun i s' Q E st hQ => by
        refine wpAny_pyIter_slot st.1.typeIs PySem.F.slot_dict_keyiterator_iter (wpAny_call_entry PySem.F.slot_dict_keyiterator_iter st.1.typeIs PySem.F.entry_dict_keyiterator_iter ?_ (PySem.F.args_dict_keyiterator_iter_1 _))
        show wpAny _ _ (ret (.ref s.heap.objs.size)) _ _ s'
        exact wpAny_pure ⟨_, rfl, "dict_keyiterator", _, st.1.typeIs, PySem.F.slot_dict_keyiterator_next.lookup, hQ⟩ }
abbrev dKeys (xs : DX) : List V := xs.map fun x => V.ref x.2.1
def rSrtD (c : Cb) : List V → Hp → VK → Prop := fun vs H Q => ∃ (a : Addr) (xs : DX) (ds : List PyData), vs = [V.ref a] ∧ DcA c H a xs ∧ SrtC c.K H (dKeys xs) ds ∧ ∀ p, H p = none → Q (.ref p) (upd H p (.lst (srtL (dKeys xs) ds)))
theorem cr_srtD {X : Cx} (hcalm : X.calm = true) (hu : X.A.units + 65 < cLine) : CallR X (.builtin "sorted") (rSrtD (cb LT X)) := by
  intro pins s σ H vs us Q I r h
  obtain ⟨a, xs, ds, rfl, hD, ⟨dp, hal, hk, hd⟩, q⟩ := h
  obtain ⟨u, rfl, ru⟩ := vals1 r
  obtain rfl : u = Value.ref a := ru
  obtain ⟨lo, nd, hz, ob, es, ep, ea, hx, hdt, hel⟩ := hD
  have hgd := ext_get I ea
  have hsz : es.size = xs.length := size_of_entries hel
  refine Calls.call_function_entry PyProof.Rows.kind_sorted PyProof.Rows.plain_sorted PyProof.Rows.entry_sorted (PyProof.Rows.args_sorted1 _) ?_
  unfold Builtin.«sorted»
  refine wpAny_bind (m := checkCount "sorted" 1 1 _) (wpAny_pure ?_)
  refine wpAny_bind (PySem.W.kdu_collect (A := X.A.in1) (kdl_exact lo hx hdt hsz) (I.ok.hd hcalm) hgd hz fun h' tk acc hkp hacc => ?_)
  have ev : acc.toList = xs.map fun x => Value.ref x.2.1 := by
    apply List.ext_getElem?
    intro j
    rw [List.getElem?_map]
    by_cases hj : j < xs.length
    · have hj2 : j < acc.size := by rw [hacc.1]; exact hj
      have e1 : acc[j]? = some acc[j] := Array.getElem?_eq_getElem hj2
      obtain ⟨en, e2, e3⟩ := hacc.2 j _ e1
      rw [Array.getElem?_toList, e1, e3]
      rw [entry_at hel j, List.getElem?_eq_getElem hj] at e2
      cases e2
      rw [List.getElem?_eq_getElem hj]
      rfl
    · rw [Array.getElem?_toList, Array.getElem?_eq_none (by rw [hacc.1]; omega), List.getElem?_eq_none (by omega)]
      rfl
  have rv : Vals (dKeys xs) acc.toList := by
    rw [ev]
    clear ev dp hacc hsz hel nd hz q
    induction xs with
    | nil => exact .nil
    | cons x xs ih => exact .cons rfl ih
  have I1 : Inv X pins σ H { s with heap := h', toks := tk } := I.kept hkp
  have hal2 : acc.toList.length = xs.length := by rw [← rv.length, List.length_map]
  have hzi : acc.toList.length ≤ sizeLine := by rw [hal2]; exact hz
  refine wpAny_bind (wpAny_newList ?_ hzi)
  have hoL : (h'.push (seqObj "list" acc.toList.toArray 0)).get? h'.objs.size = some (seqObj "list" acc.toList.toArray 0) := Heap.get?_push_size _ rfl
  have e := each_reads I1 dp rv
  show wpAny _ _ _ _ _ { s with heap := h'.push (seqObj "list" acc.toList.toArray 0), toks := tk }
  have kk : ∀ b o, h'.get? b = some o → b ≠ h'.objs.size ∧ (h'.push (seqObj "list" acc.toList.toArray 0)).get? b = some o := fun b o q => ⟨Nat.ne_of_lt (Heap.lt_size q), Heap.get?_push_of_some _ q⟩
  refine wpAny_bind (wpAny_holding (wpAny_call_entry PyProof.Rows.slot_list_sort ⟨_, hoL, rfl⟩ PyProof.Rows.entry_list_sort
    (SrtO.list_sort_ord (s := { s with heap := h'.push (seqObj "list" acc.toList.toArray 0), toks := tk }) (keyB_swo fun v => ((dataKind h' ds).keyOf v).getD []) hoL hzi (fun h2 => srt_able (s := { s with heap := h', toks := tk }) e hal hk (fun d hd' => by
      have := hd d hd'
      show X.A.units + 1 + 1 + d.depth < cLine
      omega) h2 kk) fun out h1 h2 => ⟨_, rfl, ?_⟩) (PyProof.Rows.args_list_sort _)))
  have eo := srt_one e hal h1 h2
  subst eo
  have hv := vals_srt rv (dpAll_len dp)
  obtain ⟨n, hn⟩ := PyProof.Rows.sortedHeap_at (vs := acc.toList) (out := ((isort ltS (acc.toList.zip ds)).map (·.1)).toArray) hoL
  refine wpAny_pure ⟨_, rfl, .ref h'.objs.size, upd H h'.objs.size (.lst (srtL (dKeys xs) ds)), I1.laid (t' := tk) (fun b u e => ?_) (Nat.le_refl _)
    (show ObjOk X.prog X.w _ _ _ (.lst (srtL (dKeys xs) ds)) from ⟨?_, _, n, hv, hn⟩), rfl, q _ (I1.hok.fresh (Nat.le_refl _))⟩
  · have hb : b < h'.objs.size := Heap.lt_size e
    rw [PyProof.Rows.sortedHeap_old (Nat.ne_of_lt hb) (by rw [size_push']; exact Nat.lt_succ_of_lt hb)]
    exact Heap.get?_push_of_some _ e
  · rw [hv.length, h2.len]
    exact hzi
def rSrt (c : Cb) : List V → Hp → VK → Prop := fun vs H Q => rSrtL c.K vs H Q ∨ rSrtD c vs H Q
def fnSrt2 : List PV → Option Ot
  | [.lst xs] => if sortB xs = true then some (.l (isort ltPV xs)) else none
  | [.dct xs _] => if sortB xs = true then some (.l (isort ltPV xs)) else none
  | _ => none
theorem cr_srt {X : Cx} (hcalm : X.calm = true) (hu : X.A.units + 65 < cLine) : CallR X (.builtin "sorted") (rSrt (cb LT X)) := (cr_srtL hu).or (cr_srtD hcalm hu)
theorem opn_srt2 {X : Cx} : OpN (cnE LT X ce) (rSrt (cb LT X)) fnSrt2 := by
  intro F H ps o vs Q rs e h
  unfold fnSrt2 at e
  split at e
  · rename_i xs
    by_cases hb : sortB xs = true
    · rw [if_pos hb] at e
      cases e
      obtain ⟨v, rfl, r⟩ := rs.one
      obtain ⟨a, us, rfl, h1, r1⟩ := r.lst
      obtain ⟨z1, z2⟩ := sortB_ok (c := cnE LT X ce) rfl hb r1
      exact .inl ⟨a, us, _, rfl, h1, z1, fun p n => h p _ n (rf_srt z2)⟩
    · rw [if_neg hb] at e; cases e
  · rename_i xs ys
    by_cases hb : sortB xs = true
    · rw [if_pos hb] at e
      cases e
      obtain ⟨v, rfl, r⟩ := rs.one
      obtain ⟨a, dx, us, rfl, h1, r1⟩ := r.dct
      obtain ⟨z1, z2⟩ := sortB_ok (c := cnE LT X ce) rfl hb r1.2.1
      exact .inr ⟨a, dx, _, rfl, h1, z1, fun p n => h p _ n (rf_srt z2)⟩
    · rw [if_neg hb] at e; cases e
  · cases e
end L2.Zz

/-! Z50: instances of own classes: attributes read, attributes set. -/
namespace L2.Zz
open PySem PySem.Spec PyProof.Rows
variable {LT : LTab} {ce : List (Str × Addr)}

/-- a class of the text, as it is asked -/
structure ClI (X : Cx) (x : Str) (C : Addr) : Prop where
  mg : X.mg x = some (.ref C)
  cls : L2.Cls X.K C
def lkP (f : Str) : List Str → List PV → Option PV
  | n :: ns, v :: vs => if f = n then some v else lkP f ns vs
  | _, _ => none
def putP (f : Str) (p : PV) : List Str → List PV → List Str × List PV
  | n :: ns, v :: vs => if n = f then (n :: ns, p :: vs) else let q := putP f p ns vs; (n :: q.1, v :: q.2)
  | _, _ => ([f], [p])
theorem lkP_ok {c : Cb} {F : Addr → Prop} {H : Hp} {f : Str} : ∀ {ns : List Str} {vs : List PV} {us : List V} {p : PV}, ns.length = us.length → RFs c F H vs us → lkP f ns vs = some p → ∃ u, (ns.zip us).lookup f = some u ∧ RF c F H p u
  | [], _, _, _, _, _, e => by simp [lkP] at e
  | n :: ns, [], us, p, hl, r, e => by simp [lkP] at e
  | n :: ns, v :: vs, us, p, hl, r, e => by
    unfold RFs at r
    obtain ⟨u, us', rfl, h1, h2⟩ := r
    rw [lkP] at e
    rw [List.zip_cons_cons, look_cons]
    by_cases q : f = n
    · rw [if_pos q] at e ⊢
      cases e
      exact ⟨u, rfl, h1⟩
    · rw [if_neg q] at e ⊢
      exact lkP_ok (by simpa using hl) h2 e
theorem putP_ok {c : Cb} {F : Addr → Prop} {H : Hp} {f : Str} {p : PV} {y : V} (hp : RF c F H p y) : ∀ {ns : List Str} {vs : List PV} {us : List V}, ns.length = us.length → RFs c F H vs us →
    ∃ ws, putF f y (ns.zip us) = (putP f p ns vs).1.zip ws ∧ (putP f p ns vs).1.length = ws.length ∧ RFs c F H (putP f p ns vs).2 ws
  | [], vs, us, hl, r => by
    have hu : us = [] := List.eq_nil_of_length_eq_zero hl.symm
    subst hu
    refine ⟨[y], ?_, ?_, ?_⟩
    · cases vs <;> rfl
    · cases vs <;> rfl
    · have : (putP f p [] vs).2 = [p] := by cases vs <;> rfl
      rw [this]
      exact RFs.cons_ hp RFs.nil_
  | n :: ns, [], us, hl, r => by
    unfold RFs at r
    subst r
    simp at hl
  | n :: ns, v :: vs, us, hl, r => by
    unfold RFs at r
    obtain ⟨u, us', rfl, h1, h2⟩ := r
    rw [List.zip_cons_cons]
    by_cases q : n = f
    · refine ⟨y :: us', ?_, ?_, ?_⟩
      · rw [show putF f y ((n, u) :: ns.zip us') = (if n = f then (n, y) :: ns.zip us' else (n, u) :: putF f y (ns.zip us')) from rfl, if_pos q]
        simp only [putP, if_pos q, List.zip_cons_cons]
      · simp only [putP, if_pos q]; simpa using hl
      · simp only [putP, if_pos q]; exact RFs.cons_ hp h2
    · obtain ⟨ws, e1, e2, e3⟩ := putP_ok hp (ns := ns) (vs := vs) (us := us') (by simpa using hl) h2
      refine ⟨u :: ws, ?_, ?_, ?_⟩
      · rw [show putF f y ((n, u) :: ns.zip us') = (if n = f then (n, y) :: ns.zip us' else (n, u) :: putF f y (ns.zip us')) from rfl, if_neg q, e1]
        simp only [putP, if_neg q, List.zip_cons_cons]
      · simp only [putP, if_neg q, List.length_cons, e2]
      · simp only [putP, if_neg q]; exact RFs.cons_ h1 e3
section
variable {c : Cn} {F : Addr → Prop} {H : Hp}
theorem RW.ins {x : Str} {ns : List Str} {vs : List PV} {v : V} (h : RW c F H (.ins x ns vs) v) : ∃ a C dx us, v = .ref a ∧ c.mg x = some (.ref C) ∧ H a = some (.ins C dx (ns.zip us)) ∧ ns.length = us.length ∧ RFs c F H vs us := by
  rcases h with h | ⟨a, e, h⟩
  · unfold RF at h
    obtain ⟨a, C, dx, us, e, _, h1, h2, h3, h4⟩ := h
    exact ⟨a, C, dx, us, e, h1, h2, h3, h4⟩
  · obtain ⟨C, dx, us, h1, h2, h3, h4⟩ := h
    exact ⟨a, C, dx, us, e, h1, h2, h3, h4⟩
end
/-- e.f -/
def dFld (x0 f : Str) (d : DE) : DE := fun σ => (d σ).bind fun o σ1 => match rd σ1 o with
  | some (.ins x ns vs) => if x = x0 then match lkP f ns vs with
    | some p => .ok (.val p) σ1
    | none => .no else .no
  | _ => .no
/-- o.f = e -/
def dSetF (x0 f : Str) (dv dob : DE) : DS := fun σ => (dv σ).bind fun r σ1 => (dob σ1).bind fun o σ2 => match r, rd σ2 o with
  | .val p, some (.ins x ns vs) => if x = x0 ∧ ns.length < 1000 then match wr o (.ins x (putP f p ns vs).1 (putP f p ns vs).2) σ2 with
    | some σ3 => .ok .nx σ3
    | none => .no else .no
  | _, _ => .no
section
variable {X : Cx} {W : WX} {o e value : Expr} {d dv dob : DE} {x0 f : Str} {pos pos' : Pos} {C : Addr}
theorem z_fld (hc : ClI X x0 C) (hn : NoAttr X.K C f) (h : PE X e (EV (cnE LT X ce) W d)) (hb : attributeBase e f X.env (eval e X.env) = eval e X.env := by rfl) : PE X (.Attribute e f pos) (EV (cnE LT X ce) W (dFld x0 f d)) :=
  PE.wk (pe_fld h hb) fun σr H Q q => by
    obtain ⟨F, la, σ, S, x, g⟩ := q.start
    refine EV.seq S x g fun F1 σ1 r v H1 x1 S1 e1 f1 => ?_
    cases qa : rd σ1 r with
    | none => rw [qa] at f1; exact f1.elim
    | some p =>
      rw [qa] at f1
      cases p with
      | ins x ns vs =>
        simp only at f1
        obtain ⟨hx, f2⟩ := fin_if f1
        subst hx
        cases ql : lkP f ns vs with
        | none => rw [ql] at f2; exact f2.elim
        | some p =>
          rw [ql] at f2
          obtain ⟨a, C', dx, us, rfl, hm, hh, hl, rs⟩ := (rd_ok S1 e1 qa).ins
          have ec : C' = C := by
            have := hc.mg
            rw [show X.mg x = some (.ref C') from hm] at this
            cases this; rfl
          subst ec
          obtain ⟨u, lu, ru⟩ := lkP_ok hl rs ql
          exact ⟨a, C', dx, _, u, rfl, hh, hc.cls, hn, lu, f2 F1 H1 x1 S1 u ru⟩
      | _ => exact f1.elim
theorem z_setF (hc : ClI X x0 C) (hn : NoAttr X.K C f) (ho : PE X o (EV (cnE LT X ce) W dob)) (hv : PE X value (EV (cnE LT X ce) W dv)) (hs : swapsWith value (some (.Attribute o f pos')) pos.line X.env = pure false := by rfl) :
    PS X (.Assign [.Attribute o f pos'] value pos) (SV (cnE LT X ce) W (dSetF x0 f dv dob)) := PS.wk (ps_fld ho hv hs) fun D σr H q => by
  obtain ⟨F, la, σ, S, g⟩ := q
  refine ⟨F, la, σ, S, g.expr.mono fun r σ1 F1 H1 x1 S1 f1 y e1 => ?_⟩
  refine ⟨F1, la, σ1, S1, ((f1.expr (σr := σr)).step x1).mono fun ob σ2 F2 H2 x2 S2 f2 v e2 => ?_⟩
  have e1' := e1.ext S1 x2
  cases r with
  | val p =>
    cases qa : rd σ2 ob with
    | none => rw [qa] at f2; exact f2.elim
    | some q =>
      rw [qa] at f2
      cases q with
      | ins x ns vs =>
        simp only at f2
        obtain ⟨⟨hx, hlen⟩, f3⟩ := finS_if f2
        subst hx
        cases qw : wr ob (.ins x (putP f p ns vs).1 (putP f p ns vs).2) σ2 with
        | none => rw [qw] at f3; exact f3.elim
        | some σ3 =>
          rw [qw] at f3
          obtain ⟨a, ea, ro, nf, nn, wrk⟩ := wr_at S2 x2 e2 qa qw
          subst ea
          obtain ⟨C', dx, us, hm, hh, hl, rs⟩ := ro
          have ec : C' = C := by
            have := hc.mg
            rw [show X.mg x = some (.ref C') from hm] at this
            cases this; rfl
          subst ec
          have rp : RF (cnE LT X ce) F2 H2 p y := e1'
          obtain ⟨ws, k1, k2, k3⟩ := putP_ok (f := f) rp hl rs
          have kk : ∀ b u, H2 b = some u → (F2 b ∨ Stl u) → ∀ ob, upd H2 a ob b = some u := fun b u e h ob => by
            rw [upd_ne (fun z => ?_)]
            · exact e
            · subst z
              rw [hh] at e; cases e
              rcases h with h | h
              · exact nf h
              · exact h
          obtain ⟨x3, S3⟩ := wrk (.ins C' dx (putF f y (ns.zip us))) ⟨C', dx, ws, hm, by rw [upd_same, k1], k2, RFs.ext (fun _ f => f) (fun b u e h => kk b u e h _) _ _ k3⟩
          refine ⟨a, C', dx, _, rfl, hh, hc.cls, hn, ?_, ?_⟩
          · rw [List.length_zip, ← hl]; omega
          · exact f3 F2 _ σr (x1.trans x3) S3
      | _ => exact f2.elim
  | _ => exact f2.elim
end
end L2.Zz

/-! Z51: an instance is made; methods are called; what is not reckoned. -/
namespace L2.Zz
open PySem PySem.Spec PyProof.Rows
variable {LT : LTab} {ce : List (Str × Addr)}
/-- what no script comes to -/
def dNoE : DE := fun _ => .no
def dNoS : DS := fun _ => .no
section
variable {X : Cx} {W : WX} {e : Expr} {s : Stmt} {ss : List Stmt} {c : Cn}
theorem z_noE : PE X e (EV c W dNoE) := ⟨fun _ _ _ _ _ _ q => by obtain ⟨F, la, σ, S, f⟩ := q; exact f.elim⟩
theorem z_noS : PS X s (SV c W dNoS) := ⟨fun _ _ _ _ _ _ q => by obtain ⟨F, la, σ, S, f⟩ := q; exact f.elim⟩
theorem z_noSs : PSs X ss (SV c W dNoS) := ⟨fun _ _ _ _ _ _ q => by obtain ⟨F, la, σ, S, f⟩ := q; exact f.elim⟩
end
def mkBack (k : Nat) (o : Rs EVal) : Rs EVal := match o with
  | .ok (.val .non) σ => match σ.ln[k]? with
    | some p => .ok (.new p) ⟨σ.sl, σ.ln.take k⟩
    | none => .no
  | .ok _ _ => .no
  | .ex e σ => .ex e ⟨σ.sl, σ.ln.take k⟩
  | .no => .no
/-- C(e, ..) -/
def dMake (x : Str) (n np : Nat) (body : DS) (da : DA) : DE := fun σ => (da σ).bind fun rs σ1 => if rs.length + 1 = np then mkBack σ1.ln.length (callD n body (.lo σ1.ln.length :: rs) ⟨σ1.sl, σ1.ln ++ [.ins x [] []]⟩) else .no
/-- o.m(e, ..) -/
def dMeth (x0 m : Str) (n np : Nat) (body : DS) (dob : DE) (da : DA) : DE := fun σ => (dob σ).bind fun o σ1 => match rd σ1 o with
  | some (.ins x ns vs) => if x = x0 ∧ m ∉ ns then (da σ1).bind fun rs σ2 => if rs.length + 1 = np then callD n body (o :: rs) σ2 else .no else .no
  | _ => .no
section
variable {c : Cn} {F : Addr → Prop} {la : List Addr} {σ : PSt} {σr : St} {H H' : Hp} {g : Gh} {p : PV} {a : Addr}
theorem SR.lend (S : SR c F la σ σr H) (k : ∀ b o, H b = some o → H' b = some o) (n : H a = none) (r : RO c F H' p a) : SR c F (la ++ [a]) ⟨σ.sl, σ.ln ++ [p]⟩ σr H' := by
  have S' := S.keeps k
  have nf := (S.fresh n).1
  have no := (S.fresh n).2
  have nl : a ∉ la := fun z => no (.inl z)
  refine ⟨S'.len, S'.frz, fun i j e => ?_, fun i v e => ?_, S'.inj, by simp [S'.lln], ?_, fun j v b e1 e2 => ?_, S'.ftr, S'.clo, S'.tabs⟩
  · obtain ⟨b, e1, e2⟩ := S'.lo i j e
    exact ⟨b, e1, by rw [List.getElem?_append_left (List.getElem?_eq_some_iff.mp e2).1]; exact e2⟩
  · obtain ⟨b, e1, r1, nf1, nl1⟩ := S'.own i v e
    refine ⟨b, e1, r1, nf1, fun z => ?_⟩
    rcases List.mem_append.mp z with z | z
    · exact nl1 z
    · obtain rfl := List.mem_singleton.mp z
      exact no (.inr ⟨i, v, e, e1⟩)
  · rw [List.nodup_append]
    refine ⟨S'.lnd, by simp, fun x hx y hy z => ?_⟩
    obtain rfl := List.mem_singleton.mp hy
    exact nl (z ▸ hx)
  · have hj := (List.getElem?_eq_some_iff.mp e2).1
    rw [List.length_append, List.length_singleton] at hj
    by_cases q : j < la.length
    · rw [List.getElem?_append_left q] at e2
      have e1' : σ.ln[j]? = some v := by
        have e1 : (σ.ln ++ [p])[j]? = some v := e1
        rwa [List.getElem?_append_left (by rw [← S.lln]; exact q)] at e1
      exact S'.ln j v b e1' e2
    · have ej : j = la.length := by omega
      subst ej
      have e1 : (σ.ln ++ [p])[la.length]? = some v := e1
      rw [S.lln, List.getElem?_append_right (Nat.le_refl _), Nat.sub_self] at e1
      rw [List.getElem?_append_right (Nat.le_refl _), Nat.sub_self] at e2
      cases e1; cases e2
      exact ⟨r, nf⟩
theorem SR.unlend {σ2 : PSt} (S : SR c F (la ++ [a]) σ2 σr H) (hlo : ∀ i j : Nat, σ2.sl[i]? = some (some (Sl.lo j)) → j < la.length) : SR c F la ⟨σ2.sl, σ2.ln.take la.length⟩ σr H ∧ ∃ p, σ2.ln[la.length]? = some p ∧ RO c F H p a ∧ ¬ F a ∧ ¬ Ow ⟨σ2.sl, σ2.ln.take la.length⟩ σr la a := by
  have ll : σ2.ln.length = la.length + 1 := by have := S.lln; simp at this; omega
  have nd := List.nodup_append.mp S.lnd
  have nla : a ∉ la := fun z => nd.2.2 a z a (by simp) rfl
  refine ⟨⟨S.len, S.frz, fun i j e => ?_, fun i v e => ?_, S.inj, ?_, nd.1, fun j v b e1 e2 => ?_, S.ftr, S.clo, S.tabs⟩, ?_⟩
  · obtain ⟨b, e1, e2⟩ := S.lo i j e
    refine ⟨b, e1, ?_⟩
    rwa [List.getElem?_append_left (hlo i j e)] at e2
  · obtain ⟨b, e1, r1, nf1, nl1⟩ := S.own i v e
    exact ⟨b, e1, r1, nf1, fun z => nl1 (List.mem_append.mpr (.inl z))⟩
  · show la.length = (σ2.ln.take la.length).length
    rw [List.length_take]; omega
  · have q := (List.getElem?_eq_some_iff.mp e2).1
    have e1' : σ2.ln[j]? = some v := by
      have e1 : (σ2.ln.take la.length)[j]? = some v := e1
      rwa [List.getElem?_take_of_lt q] at e1
    exact S.ln j v b e1' (by rw [List.getElem?_append_left q]; exact e2)
  · have hp : la.length < σ2.ln.length := by omega
    obtain ⟨r, nf⟩ := S.ln la.length _ a (List.getElem?_eq_getElem hp) (by rw [List.getElem?_append_right (Nat.le_refl _), Nat.sub_self]; rfl)
    refine ⟨_, List.getElem?_eq_getElem hp, r, nf, fun z => ?_⟩
    rcases z with z | ⟨i, v, e1, e2⟩
    · exact nla z
    · obtain ⟨b, e3, _, _, nl1⟩ := S.own i v e1
      rw [e2] at e3; cases e3
      exact nl1 (by simp)
theorem wbk_lo : ∀ (w : List Pl) (l : List PV) (σ : PSt) {i j : Nat}, (wbk w l σ).sl[i]? = some (some (Sl.lo j)) → σ.sl[i]? = some (some (Sl.lo j))
  | [], _, _, _, _, h => by simpa [wbk] using h
  | (_, _) :: _, [], _, _, _, h => by simpa [wbk] using h
  | (true, k) :: w, p :: l, σ, i, j, h => by
    have := wbk_lo w l _ (show (wbk w l ⟨σ.sl.set k (some (.own p)), σ.ln⟩).sl[i]? = some (some (Sl.lo j)) by simpa [wbk] using h)
    have this : (σ.sl.set k (some (.own p)))[i]? = some (some (Sl.lo j)) := this
    by_cases q : k = i
    · subst q
      by_cases hk : k < σ.sl.length
      · rw [List.getElem?_set_self hk] at this; cases this
      · rw [List.set_eq_of_length_le (by omega)] at this; exact this
    · rwa [List.getElem?_set_ne q] at this
  | (false, k) :: w, p :: l, σ, i, j, h => by
    exact wbk_lo w l ⟨σ.sl, σ.ln.set k p⟩ (by simpa [wbk] using h)
/-- behind a call the caller's slots lend what they lent -/
theorem callD_lo {n : Nat} {body : DS} {rs : List EVal} {σ σ2 : PSt} {i j : Nat} (h : (∃ r, callD n body rs σ = .ok r σ2) ∨ ∃ e, callD n body rs σ = .ex e σ2) (e : σ2.sl[i]? = some (some (Sl.lo j))) : σ.sl[i]? = some (some (Sl.lo j)) := by
  unfold callD at h
  cases qb : bindA rs 0 with
  | none => rw [qb] at h; rcases h with ⟨_, h⟩ | ⟨_, h⟩ <;> cases h
  | some sw =>
    obtain ⟨s, w⟩ := sw
    rw [qb] at h
    simp only at h
    by_cases nd : w.Nodup
    · rw [if_pos nd] at h
      cases qc : conA σ w with
      | none => rw [qc] at h; rcases h with ⟨_, h⟩ | ⟨_, h⟩ <;> cases h
      | some ln =>
        rw [qc] at h
        simp only at h
        cases qf : body ⟨s ++ List.replicate (n - s.length) none, ln⟩ with
        | no => rw [qf] at h; rcases h with ⟨_, h⟩ | ⟨_, h⟩ <;> cases h
        | ex ee σ3 =>
          rw [qf] at h
          rcases h with ⟨_, h⟩ | ⟨_, h⟩
          · cases h
          · cases h; exact wbk_lo _ _ _ e
        | ok fl σ3 =>
          rw [qf] at h
          cases fl with
          | bk => rcases h with ⟨_, h⟩ | ⟨_, h⟩ <;> cases h
          | ct => rcases h with ⟨_, h⟩ | ⟨_, h⟩ <;> cases h
          | nx =>
            rcases h with ⟨_, h⟩ | ⟨_, h⟩
            · cases h; exact wbk_lo _ _ _ e
            · cases h
          | rt r =>
            simp only at h
            cases qo : outV r σ3 with
            | none => rw [qo] at h; rcases h with ⟨_, h⟩ | ⟨_, h⟩ <;> cases h
            | some r' =>
              rw [qo] at h
              rcases h with ⟨_, h⟩ | ⟨_, h⟩
              · cases h; exact wbk_lo _ _ _ e
              · cases h
    · rw [if_neg nd] at h; rcases h with ⟨_, h⟩ | ⟨_, h⟩ <;> cases h
end
theorem look_zip {m : Str} {u : V} : ∀ {ns : List Str} {us : List V}, (ns.zip us).lookup m = some u → m ∈ ns
  | [], _, h => by simp at h
  | _ :: _, [], h => by simp at h
  | n :: ns, v :: us, h => by
    rw [List.zip_cons_cons, look_cons] at h
    by_cases q : m = n
    · rw [q]; exact List.mem_cons_self
    · rw [if_neg q] at h
      exact List.mem_cons_of_mem _ (look_zip h)
section
variable {X : Cx} {CX : CXT} {k : Nat} {f C : Addr} {fd : FuncData} {ps : List Str} {sp : Sp} {dvs : List V} {ds : List Value} {E : XK} {x m : Str} {p pos apos : Pos} {e o : Expr} {es : List Expr} {ta : TE} {t : TA}
theorem run_makeSD {pins : List (Addr × Obj)} {σ : St} {H : Hp} {s : Shared} {Q : VK} {us : List Value} {vs : List V} (M : Mk X.K C f) (F : FnOk X.prog X.w X.K X.mg X.base CX k f fd ps sp) (hr : Room (k + 1) X.A) (hb : Binds X.K fd ps [])
    (hx : PassesAt CX X σ E) (I : Inv X pins σ H s) (r : Vals vs us)
    (h : ∀ x dx, H x = none → H dx = none → dx ≠ x → sp (.ref x :: vs) (upd (upd H dx (.own x)) x (.ins C dx [])) (fun v H2 => v = .non ∧ Q (.ref x) H2) E) :
    wpAny (model X.prog X.w) X.A (call (.ref C) us) (EP X pins σ Q) X.xe s := by
  have hq := h (s.heap.objs.size + 1) s.heap.objs.size (I.hok.fresh (Nat.le_succ _)) (I.hok.fresh (Nat.le_refl _)) (Nat.ne_of_lt (Nat.lt_succ_self _))
  have I2 := Inv.made (C := C) I
  have r2 : Vals (V.ref (s.heap.objs.size + 1) :: vs) (Value.ref (s.heap.objs.size + 1) :: us ++ []) := by rw [List.append_nil]; exact .cons rfl r
  have hl : (Value.ref (s.heap.objs.size + 1) :: us ++ []).length = ps.length := by
    have e := r2.length
    rw [F.len _ _ _ _ hq] at e
    exact e.symm
  refine wpAny_call (make_map (f := f) I.kIn M.makes M.init (beq_iff_eq.mp M.fn) (codeAny_mono (F.run _ X.stack _ _ ⟨Value.ref (s.heap.objs.size + 1) :: us, []⟩ (Value.ref (s.heap.objs.size + 1) :: us ++ []) _ _ E (hr.make C us [])
    (I2.env0.make C us []) (hb _ (Value.ref (s.heap.objs.size + 1) :: us) I2.kIn hl) r2 hq) fun r s' hq' => ?_))
  cases r with
  | error e => exact hx pins _ _ e s' I2 hq'
  | ok fl =>
    cases fl with
    | ret u =>
      obtain ⟨v, H', I3, rv, ev, q3⟩ := I2.after hq'
      subst ev
      exact ⟨rv, ⟨V.ref (s.heap.objs.size + 1), H', I3, rfl, q3⟩⟩
    | next => exact False.elim hq'
    | brk => exact False.elim hq'
    | cont => exact False.elim hq'
end
section
variable {X : Cx} {W : WX} {k np : Nat} {f C : Addr} {fd : FuncData} {N ps : List Str} {body : DS} {x m : Str} {p pos apos : Pos} {e o : Expr} {es : List Expr} {da : DA} {dob : DE}
theorem make_read {σr : St} {H : Hp} {Q : VK} {vs : List V} {g : Gh} {F : Addr → Prop} {la : List Addr} {σ : PSt} {rs : List EVal} (hm : X.mg x = some (.ref C)) (hn : np ≤ N.length) (S : SR (cnE LT X ce) F la σ σr H) (xx : Ex g ⟨F, H, Ow σ σr la⟩) (es : ERs (cnE LT X ce) F la (Ow σ σr la) (Nw g) σr H rs vs)
    (h : Fin (cnE LT X ce) W la σr g (if rs.length + 1 = np then mkBack σ.ln.length (callD N.length body (.lo σ.ln.length :: rs) ⟨σ.sl, σ.ln ++ [.ins x [] []]⟩) else .no) (PE0 (cnE LT X ce) la σr g Q)) :
    ∀ y dx, H y = none → H dx = none → dx ≠ y → spD (cb LT X) N np body (.ref y :: vs) (upd (upd H dx (.own y)) y (.ins C dx [])) (fun v H2 => v = .non ∧ Q (.ref y) H2) (fun cls d H' => W cls d σr H') := by
  intro y dx ny nd ne
  obtain ⟨hl, f⟩ := fin_if h
  have kk : ∀ b u, H b = some u → upd (upd H dx (.own y)) y (.ins C dx []) b = some u := fun b u e => by
    rw [upd_ne (ne_of_none e ny), upd_ne (ne_of_none e nd)]; exact e
  have S1 : SR (cnE LT X ce) F (la ++ [y]) ⟨σ.sl, σ.ln ++ [.ins x [] []]⟩ σr (upd (upd H dx (.own y)) y (.ins C dx [])) := S.lend kk ny ⟨C, dx, [], hm, upd_same, rfl, RFs.nil_⟩
  have ow1 : ∀ b, Ow ⟨σ.sl, σ.ln ++ [.ins x [] []]⟩ σr (la ++ [y]) b → Ow σ σr la b ∨ b = y := fun b z => by
    rcases z with z | z
    · rcases List.mem_append.mp z with z | z
      · exact .inl (.inl z)
      · exact .inr (List.mem_singleton.mp z)
    · exact .inl (.inr z)
  have x1 : Ex ⟨F, H, Ow σ σr la⟩ ⟨F, upd (upd H dx (.own y)) y (.ins C dx []), Ow ⟨σ.sl, σ.ln ++ [.ins x [] []]⟩ σr (la ++ [y])⟩ := by
    refine ⟨fun _ h => h, fun b u e _ _ => kk b u e, fun b ps e => ⟨ps, kk b _ e⟩, fun b z => ?_, fun b z => .inl z⟩
    rcases ow1 b z with z | z
    · exact .inl z
    · exact .inr (z ▸ ny)
  have nwy : Nw g y := xx.back (.inr ny)
  have ers : ERs (cnE LT X ce) F (la ++ [y]) (Ow ⟨σ.sl, σ.ln ++ [.ins x [] []]⟩ σr (la ++ [y])) (Nw g) σr (upd (upd H dx (.own y)) y (.ins C dx [])) rs vs := by
    have e2 := es.ext S x1
    clear h f hl es
    induction e2 with
    | nil => exact .nil
    | cons h1 h2 nn ih =>
      refine .cons ?_ ih nn
      rename_i r v _ _
      cases r with
      | lo j =>
        obtain ⟨a, e1, e2⟩ := h1
        exact ⟨a, e1, by rw [List.getElem?_append_left (List.getElem?_eq_some_iff.mp e2).1]; exact e2⟩
      | _ => exact h1
  have lol : (la ++ [y])[σ.ln.length]? = some y := by
    rw [← S.lln, List.getElem?_append_right (Nat.le_refl _), Nat.sub_self]; rfl
  have ers2 : ERs (cnE LT X ce) F (la ++ [y]) (Ow ⟨σ.sl, σ.ln ++ [.ins x [] []]⟩ σr (la ++ [y])) (Nw g) σr (upd (upd H dx (.own y)) y (.ins C dx [])) (.lo σ.ln.length :: rs) (.ref y :: vs) :=
    .cons ⟨y, rfl, lol⟩ ers fun a p z => nomatch z
  have hlen : (V.ref y :: vs).length = np := by rw [← ers2.length]; simpa using hl
  refine callD_ok (g := g) hlen (by rw [hlen]; exact hn) S1 (xx.trans x1) ers2 ?_
  have lob : ∀ {σ2 : PSt}, ((∃ r, callD N.length body (.lo σ.ln.length :: rs) ⟨σ.sl, σ.ln ++ [.ins x [] []]⟩ = .ok r σ2) ∨ ∃ e, callD N.length body (.lo σ.ln.length :: rs) ⟨σ.sl, σ.ln ++ [.ins x [] []]⟩ = .ex e σ2) → ∀ i j : Nat, σ2.sl[i]? = some (some (Sl.lo j)) → j < la.length := fun h i j e => by
    have e' := callD_lo h e
    obtain ⟨a, _, e2⟩ := S.lo i j e'
    exact (List.getElem?_eq_some_iff.mp e2).1
  have unE : ∀ {F2 : Addr → Prop} {H2 : Hp} {σ2 : PSt}, Ex g ⟨F2, H2, Ow σ2 σr (la ++ [y])⟩ → Ex g ⟨F2, H2, Ow ⟨σ2.sl, σ2.ln.take la.length⟩ σr la⟩ := fun z => ⟨z.fr, fun b u e n nt => z.kp b u e n nt, z.tb, fun b q => z.ow b (by
    rcases q with q | q
    · exact .inl (List.mem_append.mpr (.inl q))
    · exact .inr q), z.fn⟩
  cases qc : callD N.length body (.lo σ.ln.length :: rs) ⟨σ.sl, σ.ln ++ [.ins x [] []]⟩ with
  | no => rw [qc] at f; exact f.elim
  | ex ee σ2 =>
    rw [qc] at f
    intro F2 H2 cls dd x2 S2 hc hf
    have S3 := (SR.unlend S2 (lob (.inr ⟨_, qc⟩))).1
    have f : Fin (cnE LT X ce) W la σr g (Rs.ex ee ⟨σ2.sl, σ2.ln.take σ.ln.length⟩) (PE0 (cnE LT X ce) la σr g Q) := f
    rw [← S.lln] at f
    exact f F2 H2 cls dd (unE x2) S3 hc hf
  | ok r σ2 =>
    rw [qc] at f
    intro F2 H2 x2 S2 v ev
    obtain ⟨S3, p, ep, ro, nf, no⟩ := SR.unlend S2 (lob (.inl ⟨_, qc⟩))
    cases r with
    | val q =>
      cases q with
      | non =>
        have f : Fin (cnE LT X ce) W la σr g (match σ2.ln[σ.ln.length]? with | some p => Rs.ok (EVal.new p) ⟨σ2.sl, σ2.ln.take σ.ln.length⟩ | none => .no) (PE0 (cnE LT X ce) la σr g Q) := f
        rw [← S.lln, ep] at f
        have hv : RF (cnE LT X ce) F2 H2 .non v := ev
        refine ⟨by unfold RF at hv; exact hv, ?_⟩
        exact f F2 H2 (unE x2) S3 (.ref y) ⟨y, rfl, ro, nf, no, nwy⟩
      | _ => exact f.elim
    | _ => exact f.elim
theorem z_make (M : Mk X.K C f) (F : FnOk X.prog X.w X.K X.mg X.base (L2.CX X.prog X.w) k f fd ps (spD (cb LT X) N np body)) (hr : Room (k + 1) X.A) (hg : Gl X x) (hm : X.mg x = some (.ref C)) (hb : Binds X.K fd ps []) (tk : Takes X W)
    (ha : PA X (e :: es) (EVA (cnE LT X ce) W da)) (hn : np ≤ N.length) (hdb : (x == ("__debug__" : Str)) = false := by decide) (he : starEach (e :: es) X.env = (false, eval e X.env) :: starEach es X.env := by rfl) (hpl : (backTo pos (starEach es X.env)).any (·.1) = false := by rfl) :
    PE X (.Call (.Name x p) (e :: es) [] pos) (EV (cnE LT X ce) W (dMake x N.length np body da)) := by
  refine ⟨fun pins s σr H Q I h => ?_⟩
  refine wpAny_Call_Name_kw (ld_glob I hg hm ?_ hdb)
  have h2 : EVA (cnE LT X ce) W da σr H fun vs H1 => ∀ y dx, H1 y = none → H1 dx = none → dx ≠ y → spD (cb LT X) N np body (.ref y :: vs) (upd (upd H1 dx (.own y)) y (.ins C dx [])) (fun v H2 => v = .non ∧ Q (.ref y) H2) (fun cls d H' => W cls d σr H') := by
    obtain ⟨F, la, σ, S, g⟩ := h
    exact ⟨F, la, σ, S, g.bind.mono fun rs σ1 F1 H1 x1 S1 f1 vs es' => make_read hm hn S1 x1 es' f1⟩
  refine PySem.W.callWith_K (h₀ := X.base) I.ok.mod.kin M.kp (thn (ha.run pos pins s σr H _ I h2) fun us s1 ⟨vs, H1, I1, r, q⟩ => ⟨I1.kIn, ?_⟩) he hpl
  exact run_makeSD M F hr hb (passAt tk σr) I1 r q
theorem z_make0 (M : Mk X.K C f) (F : FnOk X.prog X.w X.K X.mg X.base (L2.CX X.prog X.w) k f fd ps (spD (cb LT X) N np body)) (hr : Room (k + 1) X.A) (hg : Gl X x) (hm : X.mg x = some (.ref C)) (hb : Binds X.K fd ps []) (tk : Takes X W) (hn : np ≤ N.length) (hdb : (x == ("__debug__" : Str)) = false := by decide) :
    PE X (.Call (.Name x p) [] [] pos) (EV (cnE LT X ce) W (dMake x N.length np body dNil)) := by
  refine ⟨fun pins s σr H Q I h => ?_⟩
  refine wpAny_Call_Name_kw (ld_glob I hg hm ?_ hdb)
  refine PySem.W.callWith_K0 I.kIn M.kp (run_makeSD (us := []) M F hr hb (passAt tk σr) I .nil ?_)
  obtain ⟨F, la, σ, S, g⟩ := h
  have g2 := (g.bind) F H (Ex.refl _) S
  exact make_read hm hn S (Ex.refl _) .nil g2
theorem z_meth {pl : Sem Bool} (hc : ClI X x C) (ho : PE X o (EV (cnE LT X ce) W dob)) (hm : Meth X.K C m f) (F : FnOk X.prog X.w X.K X.mg X.base (L2.CX X.prog X.w) k f fd ps (spD (cb LT X) N np body)) (hr : Room k X.A) (hb : Binds X.K fd ps []) (tk : Takes X W)
    (ha : PA X (e :: es) (EVA (cnE LT X ce) W da)) (hn : np ≤ N.length) (hst : starEach (e :: es) X.env = (false, eval e X.env) :: starEach es X.env := by rfl) (hpl : (backTo pos (starEach es X.env)).any (·.1) = false := by rfl)
    (ht : eval (.Call (.Attribute o m apos) (e :: es) [] pos) X.env = (do
      let ov ← eval o X.env
      standAt apos.atName
      let (f, first) ← holding [ov] (getMethod ov m pl)
      callWith pos f first (backTo pos (starEach (e :: es) X.env)) (backToKw pos (keywordEach [] X.env))) := by rfl) :
    PE X (.Call (.Attribute o m apos) (e :: es) [] pos) (EV (cnE LT X ce) W (dMeth x m N.length np body dob da)) := by
  refine ⟨fun pins s σr H Q I h => ?_⟩
  have h2 : EV (cnE LT X ce) W dob σr H fun v H1 => ∃ a dx fs, v = .ref a ∧ H1 a = some (.ins C dx fs) ∧ fs.lookup m = none ∧ EVA (cnE LT X ce) W da σr H1 fun vs H2 => spD (cb LT X) N np body (v :: vs) H2 Q (fun cls d H' => W cls d σr H') := by
    obtain ⟨F, la, σ, S, xx, g⟩ := h.start
    refine EV.seq S xx g fun F1 σ1 r v H1 x1 S1 e1 f1 => ?_
    cases qa : rd σ1 r with
    | none => rw [qa] at f1; exact f1.elim
    | some p =>
      rw [qa] at f1
      cases p with
      | ins y ns vs =>
        simp only at f1
        obtain ⟨⟨hx, hnm⟩, f2⟩ := fin_if f1
        subst hx
        obtain ⟨a, C', dx, us, rfl, hm', hh, hl, rs⟩ := (rd_ok S1 e1 qa).ins
        have ec : C' = C := by
          have := hc.mg
          rw [show X.mg y = some (.ref C') from hm'] at this
          cases this; rfl
        subst ec
        refine ⟨a, dx, _, rfl, hh, ?_, F1, la, σ1, S1, (f2.bind.step x1).mono fun rs σ2 F2 H2 x2 S2 f3 vs es' => ?_⟩
        · cases q : (ns.zip us).lookup m with
          | none => rfl
          | some u =>
            exfalso
            exact hnm (look_zip q)
        · obtain ⟨hl, f4⟩ := fin_if f3
          have ers : ERs (cnE LT X ce) F2 la (Ow σ2 σr la) (Nw ⟨F, H, Ow σ σr la⟩) σr H2 (r :: rs) (.ref a :: vs) := by
            refine .cons (e1.ext S1 x2) (es'.weak fun a n => x1.back n) fun b p hr hv => ?_
            subst hr
            cases hv
            obtain ⟨b, eb, ro, nf, no, _⟩ := e1
            cases eb
            obtain ⟨o, ho, _⟩ := ro.there
            refine ERs.noNew (fun z => ?_) es'
            rcases z with z | z
            · exact no z
            · have z' : H1 a = none := z
              rw [ho] at z'; cases z'
          have hlen : (V.ref a :: vs).length = np := by rw [← ers.length]; simpa using hl
          exact callD_ok hlen (by rw [hlen]; exact hn) S2 (xx.trans (x1.trans x2)) ers f4
      | _ => exact f1.elim
  refine PySem.W.methodCall_KW (pl := pl) (thn (ho.run pins s σr H _ I h2) fun u s1 ⟨v, H1, I1, rx, a, dx, fs, ex, ea, l, q⟩ => ?_) ht
  subst ex
  obtain rfl : u = Value.ref a := rx
  refine getmeth_ok I1 ea hc.cls hm l ?_
  refine PySem.W.callWith_K (first := [.ref a]) (h₀ := X.base) I.ok.mod.kin hm.kp (thn (ha.run pos pins s1 σr H1 _ I1 q) fun us s2 ⟨vs, H2, I2, r, q2⟩ => ⟨I2.kIn, ?_⟩) hst hpl
  exact run_fnSD (dvs := []) (us := .ref a :: us) (vs := .ref a :: vs) F hr hb .nil (passAt tk σr) I2 (.cons rfl r) (by rw [List.append_nil]; exact q2)
theorem z_meth0 {pl : Sem Bool} (hc : ClI X x C) (ho : PE X o (EV (cnE LT X ce) W dob)) (hm : Meth X.K C m f) (F : FnOk X.prog X.w X.K X.mg X.base (L2.CX X.prog X.w) k f fd ps (spD (cb LT X) N np body)) (hr : Room k X.A) (hb : Binds X.K fd ps []) (tk : Takes X W) (hn : np ≤ N.length)
    (ht : eval (.Call (.Attribute o m apos) [] [] pos) X.env = (do
      let ov ← eval o X.env
      standAt apos.atName
      let (f, first) ← holding [ov] (getMethod ov m pl)
      callWith pos f first (backTo pos (starEach [] X.env)) (backToKw pos (keywordEach [] X.env))) := by rfl) :
    PE X (.Call (.Attribute o m apos) [] [] pos) (EV (cnE LT X ce) W (dMeth x m N.length np body dob dNil)) := by
  refine ⟨fun pins s σr H Q I h => ?_⟩
  have h2 : EV (cnE LT X ce) W dob σr H fun v H1 => ∃ a dx fs, v = .ref a ∧ H1 a = some (.ins C dx fs) ∧ fs.lookup m = none ∧ spD (cb LT X) N np body [v] H1 Q (fun cls d H' => W cls d σr H') := by
    obtain ⟨F, la, σ, S, xx, g⟩ := h.start
    refine EV.seq S xx g fun F1 σ1 r v H1 x1 S1 e1 f1 => ?_
    cases qa : rd σ1 r with
    | none => rw [qa] at f1; exact f1.elim
    | some p =>
      rw [qa] at f1
      cases p with
      | ins y ns vs =>
        simp only at f1
        obtain ⟨⟨hx, hnm⟩, f2⟩ := fin_if f1
        subst hx
        obtain ⟨a, C', dx, us, rfl, hm', hh, hl, rs⟩ := (rd_ok S1 e1 qa).ins
        have ec : C' = C := by
          have := hc.mg
          rw [show X.mg y = some (.ref C') from hm'] at this
          cases this; rfl
        subst ec
        refine ⟨a, dx, _, rfl, hh, ?_, ?_⟩
        · cases q : (ns.zip us).lookup m with
          | none => rfl
          | some u =>
            exfalso
            exact hnm (look_zip q)
        · have f3 := (f2.bind.step x1) F1 H1 (Ex.refl _) S1
          obtain ⟨hl, f4⟩ := fin_if f3
          have ers : ERs (cnE LT X ce) F1 la (Ow σ1 σr la) (Nw ⟨F, H, Ow σ σr la⟩) σr H1 [r] [.ref a] := .cons e1 .nil fun b p hr hv i p v e => by simp at e
          have hlen : ([V.ref a] : List V).length = np := by rw [← ers.length]; simpa using hl
          exact callD_ok hlen (by rw [hlen]; exact hn) S1 (xx.trans x1) ers f4
      | _ => exact f1.elim
  refine PySem.W.methodCall_KW (pl := pl) (thn (ho.run pins s σr H _ I h2) fun u s1 ⟨v, H1, I1, rx, a, dx, fs, ex, ea, l, q⟩ => ?_) ht
  subst ex
  obtain rfl : u = Value.ref a := rx
  refine getmeth_ok I1 ea hc.cls hm l ?_
  exact PySem.W.callWith_K0 (first := [.ref a]) I1.kIn hm.kp (run_fnSD (dvs := []) (us := [.ref a]) (vs := [.ref a]) F hr hb .nil (passAt tk σr) I1 (.cons rfl .nil) q)
end
end L2.Zz

/-! Z52: isinstance of own instances; classes decided. -/
namespace L2.Zz
open PySem PySem.Spec PyProof.Rows
variable {LT : LTab} {ce : List (Str × Addr)}
def kiTys : List String := ["int", "bool", "tuple", "list", "dict", "str"]
/-- what is asked of a class of the text -/
def clsB (K : PySem.W.Frag) (C : Addr) : Bool := PySem.W.plainGet K C Str.empty && (PySem.W.hasDictIn K C && (PySem.W.plainOver K C && decide (PySem.W.findIn K (.ref C) "__setattr__" = some (some (.builtin "object.__setattr__")))))
theorem clsB_ok {K : PySem.W.Frag} {C : Addr} (h : clsB K C = true) : L2.Cls K C := by
  unfold clsB at h
  simp only [Bool.and_eq_true, decide_eq_true_eq] at h
  obtain ⟨h1, h2, h3, h4⟩ := h
  exact ⟨h1, h2, h3, h4⟩
def mkB (K : PySem.W.Frag) (C f : Addr) : Bool := PySem.W.makesIn K C && (decide (PySem.W.findIn K (.ref C) "__init__" = some (some (.ref f))) && (PySem.W.isFn K (.ref f) && PySem.W.keepIn K (.ref C)))
theorem mkB_ok {K : PySem.W.Frag} {C f : Addr} (h : mkB K C f = true) : Mk K C f := by
  unfold mkB at h
  simp only [Bool.and_eq_true, decide_eq_true_eq] at h
  obtain ⟨h1, h2, h3, h4⟩ := h
  exact ⟨h1, h2, h3, h4⟩
def methB (K : PySem.W.Frag) (C : Addr) (m : Str) (f : Addr) : Bool := decide (PySem.W.findIn K (.ref C) m = some (some (.ref f))) && (PySem.W.isFn K (.ref f) && PySem.W.keepIn K (.ref f))
theorem methB_ok {K : PySem.W.Frag} {C f : Addr} {m : Str} (h : methB K C m f = true) : Meth K C m f := by
  unfold methB at h
  simp only [Bool.and_eq_true, decide_eq_true_eq] at h
  obtain ⟨h1, h2, h3⟩ := h
  exact ⟨h1, h2, h3⟩
def noAtB (K : PySem.W.Frag) (C : Addr) (f : Str) : Bool := decide (PySem.W.findIn K (.ref C) f = some none)
theorem noAtB_ok {K : PySem.W.Frag} {C : Addr} {f : Str} (h : noAtB K C f = true) : NoAttr K C f := by
  unfold noAtB at h
  unfold NoAttr
  exact of_decide_eq_true h
/-- its instances asked by isinstance -/
def isiB (K : PySem.W.Frag) (C : Addr) : Bool := decide (PySem.W.findIn K (.ref C) "__class__" = some (some (.builtin "object.__class__"))) && (decide (PySem.W.specialIn K (.builtin "object.__class__") "__get__" = some (some (.builtin "getset_descriptor.__get__"))) &&
  (decide (PySem.W.takesIn K (.builtin "object.__class__") = some true) && (decide (PySem.W.mroIn K C (.type "object") = some true) && kiTys.all fun n => decide (PySem.W.kitOne K (.ref C) (.type n) = some false))))
/-- the classes of the text whose instances may be asked -/
inductive InsT (X : Cx) : List Str → Prop
  | nil : InsT X []
  | cons {n C t} (hm : X.mg n = some (.ref C)) (hc : clsB X.K C = true) (hi : isiB X.K C = true) (r : InsT X t) : InsT X (n :: t)
theorem InsT.get {X : Cx} {cl : List Str} (h : InsT X cl) : ∀ {n : Str} {C : Addr}, n ∈ cl → X.mg n = some (.ref C) → clsB X.K C = true ∧ isiB X.K C = true := by
  induction h with
  | nil => intro n C e; simp at e
  | cons hm hc hi _ ih =>
    intro n C e hn
    rcases List.mem_cons.mp e with q | q
    · subst q
      rw [hm] at hn; cases hn
      exact ⟨hc, hi⟩
    · exact ih q hn
def fnIsiC (cl : List Str) : List PV → Option Ot
  | [.ins x _ _, .ty n] => if x ∈ cl ∧ n ∈ kiTys then some (.v (.bl false)) else none
  | ps => fnIsi ps
def rIsiC (LT : LTab) (X : Cx) (cl : List Str) : List V → Hp → VK → Prop := fun xs H Q => rIsiZ LT X xs H Q ∨ ∃ (a C dx : Addr) (x : Str) (n : String) (fs : List (Str × V)), xs = [.ref a, .ty n] ∧ x ∈ cl ∧ n ∈ kiTys ∧ X.mg x = some (.ref C) ∧ H a = some (.ins C dx fs) ∧ Q (.bl false) H
section
variable {X : Cx} {cl : List Str}
theorem cr_isiC (T : InsT X cl) : CallR X (.builtin "isinstance") (rIsiC LT X cl) := by
  intro pins s σ H xs us Q I r h
  rcases h with h | ⟨a, C, dx, x, n, fs, rfl, hx, hn, hm, hh, q⟩
  · exact cr_isiZ pins s σ H xs us Q I r h
  · obtain ⟨u1, u2, rfl, r1, r2⟩ := vals2 r
    cases (show u2 = Value.type n from r2)
    obtain ⟨hc, hi⟩ := T.get hx hm
    unfold isiB at hi
    simp only [Bool.and_eq_true, decide_eq_true_eq, List.all_eq_true] at hi
    obtain ⟨h1, h2, h3, h4, h5⟩ := hi
    obtain ⟨P, Z, pp, hne⟩ := kit_of I r1 (.base (.ins hh (clsB_ok hc) h1 h2 h3 h4))
    exact PySem.W.kia_one Z I.kIn pp (h5 n hn) hne fun tk => ⟨.bl false, H, I.tok tk, rfl, q⟩
theorem opn_isiC : OpN (cnE LT X ce) (rIsiC LT X cl) (fnIsiC cl) := by
  intro F H ps o vs Q rs e h
  by_cases hi : ∃ x ns us n, ps = [.ins x ns us, .ty n]
  · obtain ⟨x, ns, us, n, rfl⟩ := hi
    have e : (if x ∈ cl ∧ n ∈ kiTys then some (Ot.v (.bl false)) else none) = some o := e
    split at e
    · rename_i hc
      cases e
      obtain ⟨v, u, rfl, r, r2⟩ := rs.two
      obtain rfl := r2.ty
      obtain ⟨a, C, dx, ws, rfl, hm, hh, _⟩ := r.ins
      exact .inr ⟨a, C, dx, x, n, _, rfl, hc.1, hc.2, hm, hh, h _ RF.bl_⟩
    · cases e
  · have e' : fnIsi ps = some o := by
      unfold fnIsiC at e
      split at e
      · exact absurd ⟨_, _, _, _, rfl⟩ hi
      · exact e
    exact .inl (opn_isi F H ps o vs Q rs e' h)
end
end L2.Zz

/-! Z53: min and max of data. -/
namespace L2.Zz
open PySem PySem.Spec PyProof.Rows
open PySem.W (alike dataLt AlikeAll iter_tupleW moved_old cmpIn_lt cmpIn_gt reads_keeps EachIs)
variable {LT : LTab} {ce : List (Str × Addr)}
abbrev btMin (ds : List PyData) : Nat → Nat → Bool := fun i j => dataLt (ds.getD i .none) (ds.getD j .none)
abbrev btMax (ds : List PyData) : Nat → Nat → Bool := fun i j => dataLt (ds.getD j .none) (ds.getD i .none)
theorem keeps_all {h h' : Heap} (k : ∀ b o, h.get? b = some o → h'.get? b = some o) : ∀ {vs : List Value} {ds : List PyData} {as : List Addr}, ReadsAll h vs ds as → ReadsAll h' vs ds as
  | _, _, _, .nil => .nil
  | _, _, _, .cons r rs => .cons (reads_keeps k r) (keeps_all k rs)
section
variable {prog : Program} {w : World} {A : Around} {E : Value → Shared → Prop} {s : Shared}
theorem min_two_data {a b : Value} {ds : List PyData} {as : List Addr} {Q : Value → Shared → Prop} (hh : A.handled = none) (hr : ReadsAll s.heap [a, b] ds as) (ha : AlikeAll ds) (hu : A.units + 1 + PyData.depthAll ds < cLine)
    (h : ∀ v h' tk, (#[a, b] : Array Value)[argBest (btMin ds) 1]? = some v → (∀ b o, s.heap.get? b = some o → h'.get? b = some o) → Q v { s with heap := h', toks := tk }) :
    wpAny (model prog w) A (call (.builtin "min") [a, b]) Q E s := by
  have hname : (toString "min" ++ toString ".loop" : String) = "min.loop" := by decide
  refine call_function_tree F.kind_min F.plain_min F.entry_min (F.args_min2 _ _) ?_
  show wpAny _ A.in1 (Builtin.Builtins.bindParams "min" ["key", "default"] 0 ⟨[], []⟩ >>= _) _ _ s
  refine wpAny_bind (wpAny_of_eq (show Builtin.Builtins.bindParams "min" ["key", "default"] 0 ⟨[], []⟩ = pure [none, none] from rfl) ?_)
  show wpAny _ A.in1 (newTuple [a, b] >>= _) _ _ s
  refine wpAny_bind (wpAny_newObj_type ?_)
  have hT : (s.heap.push { cls := .type "tuple", data := .seq #[a, b] }).IsTuple s.heap.objs.size #[a, b] := ⟨_, Heap.get?_push_size _ rfl, rfl, 0, rfl⟩
  have k0 : ∀ b' o, s.heap.get? b' = some o → (s.heap.push { cls := .type "tuple", data := .seq #[a, b] }).get? b' = some o := fun b' o e => Heap.get?_push_of_some _ e
  refine wpAny_bind (iter_tupleW (s := { s with heap := s.heap.push { cls := .type "tuple", data := .seq #[a, b] } }) (A := A.in1) hh hT fun s₂ e W st hfp hw hk => ?_)
  refine wpAny_bind (wpAny_newObj_type ?_)
  have hSf : s₂.heap.objs.size ∉ [(s.heap.push { cls := .type "tuple", data := .seq #[a, b] }).objs.size, s.heap.objs.size] := fun hm => Nat.lt_irrefl _ (hfp _ hm)
  rw [hname]
  refine wpAny_pure ⟨plainId_quiet F.plain_min_loop _, codeAny_min_loop_firstH W (s.heap.push { cls := .type "tuple", data := .seq #[a, b] }) hw (btMin ds) (cmpIn_lt (s := { s with heap := s.heap.push { cls := .type "tuple", data := .seq #[a, b] } }) (A := A.in1) (keeps_all k0 hr) ha (by show A.units + 1 + _ < _; exact hu)) s₂.heap.objs.size hSf (fresh_in hk) _ (by show 0 < 2; omega) (fun b o e => Heap.get?_push_of_some _ (hk b o e)) (W.frame 0 s₂ _ s₂.toks st (Nat.le_refl _) fun b _ o e => Heap.get?_push_of_some _ e) (Heap.get?_push_size _ rfl) fun v s' hP hm => ?_⟩
  obtain ⟨h', tk, rfl, hk'⟩ := moved_old e rfl (Moved.drop_new (tk := s₂.toks) hm (Nat.le_refl _))
  exact h v h' tk hP fun b' o e => hk' b' o (k0 b' o e)
theorem max_two_data {a b : Value} {ds : List PyData} {as : List Addr} {Q : Value → Shared → Prop} (hh : A.handled = none) (hr : ReadsAll s.heap [a, b] ds as) (ha : AlikeAll ds) (hu : A.units + 1 + PyData.depthAll ds < cLine)
    (h : ∀ v h' tk, (#[a, b] : Array Value)[argBest (btMax ds) 1]? = some v → (∀ b o, s.heap.get? b = some o → h'.get? b = some o) → Q v { s with heap := h', toks := tk }) :
    wpAny (model prog w) A (call (.builtin "max") [a, b]) Q E s := by
  have hname : (toString "max" ++ toString ".loop" : String) = "max.loop" := by decide
  refine call_function_tree F.kind_max F.plain_max F.entry_max (F.args_max2 _ _) ?_
  show wpAny _ A.in1 (Builtin.Builtins.bindParams "max" ["key", "default"] 0 ⟨[], []⟩ >>= _) _ _ s
  refine wpAny_bind (wpAny_of_eq (show Builtin.Builtins.bindParams "max" ["key", "default"] 0 ⟨[], []⟩ = pure [none, none] from rfl) ?_)
  show wpAny _ A.in1 (newTuple [a, b] >>= _) _ _ s
  refine wpAny_bind (wpAny_newObj_type ?_)
  have hT : (s.heap.push { cls := .type "tuple", data := .seq #[a, b] }).IsTuple s.heap.objs.size #[a, b] := ⟨_, Heap.get?_push_size _ rfl, rfl, 0, rfl⟩
  have k0 : ∀ b' o, s.heap.get? b' = some o → (s.heap.push { cls := .type "tuple", data := .seq #[a, b] }).get? b' = some o := fun b' o e => Heap.get?_push_of_some _ e
  refine wpAny_bind (iter_tupleW (s := { s with heap := s.heap.push { cls := .type "tuple", data := .seq #[a, b] } }) (A := A.in1) hh hT fun s₂ e W st hfp hw hk => ?_)
  refine wpAny_bind (wpAny_newObj_type ?_)
  have hSf : s₂.heap.objs.size ∉ [(s.heap.push { cls := .type "tuple", data := .seq #[a, b] }).objs.size, s.heap.objs.size] := fun hm => Nat.lt_irrefl _ (hfp _ hm)
  rw [hname]
  refine wpAny_pure ⟨plainId_quiet F.plain_max_loop _, codeAny_max_loop_firstH W (s.heap.push { cls := .type "tuple", data := .seq #[a, b] }) hw (btMax ds) (cmpIn_gt (s := { s with heap := s.heap.push { cls := .type "tuple", data := .seq #[a, b] } }) (A := A.in1) (keeps_all k0 hr) ha (by show A.units + 1 + _ < _; exact hu)) s₂.heap.objs.size hSf (fresh_in hk) _ (by show 0 < 2; omega) (fun b o e => Heap.get?_push_of_some _ (hk b o e)) (W.frame 0 s₂ _ s₂.toks st (Nat.le_refl _) fun b _ o e => Heap.get?_push_of_some _ e) (Heap.get?_push_size _ rfl) fun v s' hP hm => ?_⟩
  obtain ⟨h', tk, rfl, hk'⟩ := moved_old e rfl (Moved.drop_new (tk := s₂.toks) hm (Nat.le_refl _))
  exact h v h' tk hP fun b' o e => hk' b' o (k0 b' o e)
end
/-! ### of pure values -/
theorem toD_rw {c : Cn} {F : Addr → Prop} {H : Hp} {xs : List PV} {v : V} (r : RW c F H (.tup xs) v) : RF c F H (.tup xs) v := by
  rcases r with r | ⟨a, _, r⟩
  · exact r
  · exact r.elim
def isTp : PV → Bool
  | .tup _ => true
  | _ => false
def okTwo (p q : PV) : Bool := (isTp p && isTp q) && (((toD p).isSome && (toD q).isSome) && ((alike (dOf p) (dOf p) && (alike (dOf p) (dOf q) && (alike (dOf q) (dOf p) && alike (dOf q) (dOf q)))) && (decide ((dOf p).depth ≤ 60) && decide ((dOf q).depth ≤ 60))))
def fnMin2 : List PV → Option Ot
  | [.tup xs, .tup ys] => if okTwo (.tup xs) (.tup ys) = true then some (.v (if ltPV (.tup ys) (.tup xs) = true then .tup ys else .tup xs)) else none
  | ps => fnMin ps
def fnMax2 : List PV → Option Ot
  | [.tup xs, .tup ys] => if okTwo (.tup xs) (.tup ys) = true then some (.v (if ltPV (.tup xs) (.tup ys) = true then .tup ys else .tup xs)) else none
  | ps => fnMax ps
/-- the rule: two data, the place of the one that is told -/
def rTwo (K : PySem.W.Frag) (bt : List PyData → Nat → Nat → Bool) : List V → Hp → VK → Prop := fun vs H Q => ∃ (x y : V) (d e : PyData), vs = [x, y] ∧ DpAll K H [x, y] [d, e] ∧ AlikeAll [d, e] ∧ d.depth ≤ 60 ∧ e.depth ≤ 60 ∧ Q (if argBest (bt [d, e]) 1 = 1 then y else x) H
theorem each_all {h : Heap} : ∀ {vs : List Value} {ds : List PyData}, EachIs (fun v d => ∃ as, Reads h v d as) vs ds → ∃ as, ReadsAll h vs ds as
  | _, _, .nil => ⟨[], .nil⟩
  | _, _, .cons ⟨_, r⟩ rs => let ⟨_, q⟩ := each_all rs; ⟨_, .cons r q⟩
theorem best_le (bt : Nat → Nat → Bool) : argBest bt 1 = 0 ∨ argBest bt 1 = 1 := by
  unfold argBest
  split
  · exact .inr rfl
  · exact .inl rfl
section
variable {X : Cx}
theorem cr_two_min (hc : X.calm = true) (hu : X.A.units + 65 < cLine) : CallR X (.builtin "min") (rTwo X.K btMin) := by
  intro pins s σ H vs us Q I r h
  obtain ⟨x, y, d, e, rfl, dp, al, h1, h2, q⟩ := h
  obtain ⟨u, v, rfl, r1, r2⟩ := vals2 r
  obtain ⟨as, ra⟩ := each_all (each_reads I dp r)
  refine min_two_data (I.ok.hd hc) ra al (by
    have : PyData.depthAll [d, e] ≤ 60 := by simp only [PyData.depthAll]; omega
    omega) fun z h' tk hz k => ⟨_, H, I.kept k, ?_, q⟩
  rcases best_le (btMin [d, e]) with b | b
  · rw [b] at hz ⊢
    cases (show some u = some z from hz)
    rw [if_neg (by decide)]; exact r1
  · rw [b] at hz ⊢
    cases (show some v = some z from hz)
    rw [if_pos rfl]; exact r2
theorem cr_two_max (hc : X.calm = true) (hu : X.A.units + 65 < cLine) : CallR X (.builtin "max") (rTwo X.K btMax) := by
  intro pins s σ H vs us Q I r h
  obtain ⟨x, y, d, e, rfl, dp, al, h1, h2, q⟩ := h
  obtain ⟨u, v, rfl, r1, r2⟩ := vals2 r
  obtain ⟨as, ra⟩ := each_all (each_reads I dp r)
  refine max_two_data (I.ok.hd hc) ra al (by
    have : PyData.depthAll [d, e] ≤ 60 := by simp only [PyData.depthAll]; omega
    omega) fun z h' tk hz k => ⟨_, H, I.kept k, ?_, q⟩
  rcases best_le (btMax [d, e]) with b | b
  · rw [b] at hz ⊢
    cases (show some u = some z from hz)
    rw [if_neg (by decide)]; exact r1
  · rw [b] at hz ⊢
    cases (show some v = some z from hz)
    rw [if_pos rfl]; exact r2
theorem okTwo_ok {c : Cn} {F : Addr → Prop} {H : Hp} {xs ys : List PV} {x y : V} (h : okTwo (.tup xs) (.tup ys) = true) (r1 : RW c F H (.tup xs) x) (r2 : RW c F H (.tup ys) y) :
    DpAll c.K H [x, y] [dOf (.tup xs), dOf (.tup ys)] ∧ AlikeAll [dOf (.tup xs), dOf (.tup ys)] ∧ (dOf (.tup xs)).depth ≤ 60 ∧ (dOf (.tup ys)).depth ≤ 60 := by
  unfold okTwo at h
  simp only [Bool.and_eq_true, decide_eq_true_eq] at h
  obtain ⟨_, ⟨s1, s2⟩, ⟨a1, a2, a3, a4⟩, d1, d2⟩ := h
  obtain ⟨d, e1⟩ := Option.isSome_iff_exists.mp s1
  obtain ⟨e, e2⟩ := Option.isSome_iff_exists.mp s2
  have o1 : dOf (.tup xs) = d := by unfold dOf; rw [e1]; rfl
  have o2 : dOf (.tup ys) = e := by unfold dOf; rw [e2]; rfl
  have n1 : d ≠ .none := by rintro rfl; simp [toD] at e1
  have n2 : e ≠ .none := by rintro rfl; simp [toD] at e2
  rw [o1] at a1 a2 a3 d1 ⊢
  rw [o2] at a2 a3 a4 d2 ⊢
  refine ⟨.cons (toD_ok _ _ _ (toD_rw r1) e1) (.cons (toD_ok _ _ _ (toD_rw r2) e2) .nil), ⟨fun p hp q hq => ?_, fun p hp => ?_⟩, d1, d2⟩
  · have hp' : p = d ∨ p = e := by simpa using hp
    have hq' : q = d ∨ q = e := by simpa using hq
    rcases hp' with hp' | hp' <;> rcases hq' with hq' | hq' <;> rw [hp', hq'] <;> assumption
  · have hp' : p = d ∨ p = e := by simpa using hp
    rcases hp' with hp' | hp' <;> rw [hp'] <;> assumption
def rMin2 (X : Cx) : List V → Hp → VK → Prop := fun vs H Q => rMinZ X.K vs H Q ∨ rTwo X.K btMin vs H Q
def rMax2 (X : Cx) : List V → Hp → VK → Prop := fun vs H Q => rMaxZ X.K vs H Q ∨ rTwo X.K btMax vs H Q
theorem cr_min2 (hc : X.calm = true) (hu : X.A.units + 65 < cLine) : CallR X (.builtin "min") (rMin2 X) := (cr_minZ hc).or (cr_two_min hc hu)
theorem cr_max2 (hc : X.calm = true) (hu : X.A.units + 65 < cLine) : CallR X (.builtin "max") (rMax2 X) := (cr_maxZ hc).or (cr_two_max hc hu)
theorem opn_min2 : OpN (cnE LT X ce) (rMin2 X) fnMin2 := by
  intro F H ps o vs Q rs e h
  by_cases hi : ∃ xs ys, ps = [.tup xs, .tup ys]
  · obtain ⟨xs, ys, rfl⟩ := hi
    have e : (if okTwo (.tup xs) (.tup ys) = true then some (Ot.v (if ltPV (.tup ys) (.tup xs) = true then .tup ys else .tup xs)) else none) = some o := e
    split at e
    · rename_i hc
      cases e
      obtain ⟨v, u, rfl, r, r2⟩ := rs.two
      obtain ⟨dp, al, d1, d2⟩ := okTwo_ok hc r r2
      refine .inr ⟨v, u, _, _, rfl, dp, al, d1, d2, ?_⟩
      refine h _ ?_
      by_cases q : ltPV (.tup ys) (.tup xs) = true
      · have b : argBest (btMin [dOf (.tup xs), dOf (.tup ys)]) 1 = 1 := by
          exact if_pos (show dataLt (dOf (.tup ys)) (dOf (.tup xs)) = true from q)
        rw [if_pos b, if_pos q]; exact toD_rw r2
      · have b : argBest (btMin [dOf (.tup xs), dOf (.tup ys)]) 1 = 0 := by
          exact if_neg (show ¬ dataLt (dOf (.tup ys)) (dOf (.tup xs)) = true from q)
        rw [if_neg q, b, if_neg (by decide)]; exact toD_rw r
    · cases e
  · have e' : fnMin ps = some o := by
      unfold fnMin2 at e
      split at e
      · exact absurd ⟨_, _, rfl⟩ hi
      · exact e
    exact .inl (opn_min F H ps o vs Q rs e' h)
theorem opn_max2 : OpN (cnE LT X ce) (rMax2 X) fnMax2 := by
  intro F H ps o vs Q rs e h
  by_cases hi : ∃ xs ys, ps = [.tup xs, .tup ys]
  · obtain ⟨xs, ys, rfl⟩ := hi
    have e : (if okTwo (.tup xs) (.tup ys) = true then some (Ot.v (if ltPV (.tup xs) (.tup ys) = true then .tup ys else .tup xs)) else none) = some o := e
    split at e
    · rename_i hc
      cases e
      obtain ⟨v, u, rfl, r, r2⟩ := rs.two
      obtain ⟨dp, al, d1, d2⟩ := okTwo_ok hc r r2
      refine .inr ⟨v, u, _, _, rfl, dp, al, d1, d2, ?_⟩
      refine h _ ?_
      by_cases q : ltPV (.tup xs) (.tup ys) = true
      · have b : argBest (btMax [dOf (.tup xs), dOf (.tup ys)]) 1 = 1 := by
          exact if_pos (show dataLt (dOf (.tup xs)) (dOf (.tup ys)) = true from q)
        rw [if_pos b, if_pos q]; exact toD_rw r2
      · have b : argBest (btMax [dOf (.tup xs), dOf (.tup ys)]) 1 = 0 := by
          exact if_neg (show ¬ dataLt (dOf (.tup xs)) (dOf (.tup ys)) = true from q)
        rw [if_neg q, b, if_neg (by decide)]; exact toD_rw r
    · cases e
  · have e' : fnMax ps = some o := by
      unfold fnMax2 at e
      split at e
      · exact absurd ⟨_, _, rfl⟩ hi
      · exact e
    exact .inl (opn_max F H ps o vs Q rs e' h)
end
end L2.Zz

/-! Z54: a, b = x, y where the tuple is made (cells among the names). -/
namespace L2.Zz
open PySem PySem.Spec PyProof.Rows
variable {LT : LTab} {ce : List (Str × Addr)}
theorem gNs_set {Q : St → Hp → Prop} {H : Hp} : ∀ {is : List Nat} {vs : List V} {σr : St}, is.length = vs.length → Q (setAll is vs σr) H → gNs is vs σr H Q
  | [], [], _, _, h => ⟨rfl, h⟩
  | i :: is, v :: vs, σr, hl, h => ⟨v, vs, rfl, gNs_set (is := is) (by simpa using hl) h⟩
section
variable {X : Cx} {W : WX} {tgs es : List Expr} {da : DA} {pos : Pos}
theorem z_parG {is : List Nat} {n : Nat} {kt pt k2 pt2} (hc : X.calm = true) (ha : PA X es (EVA (cnE LT X ce) W da)) (hp : PGs X tgs (gNs is)) (hn : is.length = n := by rfl) (hnn : n ≤ 100 := by decide)
    (hl : (assignEach tgs X.env).length = n := by rfl) (hst : (assignEach tgs X.env).findIdx? (·.1) = none := by rfl)
    (hs : swapsWithSole [.Tuple tgs kt pt] (.Tuple es k2 pt2) pos.line X.env = pure false := by rfl) (hw : swappedStores [.Tuple tgs kt pt] (.Tuple es k2 pt2) X.env = pure none := by rfl)
    (h1 : (assignEach [.Tuple tgs kt pt] X.env).map (·.2) = [assign (.Tuple tgs kt pt) X.env] := by rfl) :
    PS X (.Assign [.Tuple tgs kt pt] (.Tuple es k2 pt2) pos) (SV (cnE LT X ce) W (dPar is da)) := PS.wk (ps_asg (pe_tup ha) (pg_tup hc hp hl hst) hs hw h1) fun D σr H q => by
  obtain ⟨F, la, σ, S, f⟩ := q
  refine ⟨F, la, σ, S, f.expr.mono fun rs σ1 F1 H1 x1 S1 f1 vs es' => ?_⟩
  rcases stAll_cases is rs σ1 with ⟨σ2, q⟩ | q
  · rw [q] at f1
    obtain ⟨hl2, x2, S2⟩ := stAll_ok is rs vs σ1 σ2 σr S1 x1 es' q
    have hv : is.length = vs.length := by rw [← es'.length, hl2]
    have hz : vs.length ≤ sizeLine := by
      rw [← hv, hn, sizeLine_eq]
      omega
    refine ⟨hz, fun p n => ⟨p, vs, rfl, .inl (.inl upd_same), by rw [← hv, hn], gNs_set hv ?_⟩⟩
    have k := upd_keeps (o := .tup vs) n
    exact f1 F1 _ _ (x2.trans (Ex.keeps k)) (S2.keeps k)
  · rw [q] at f1; exact f1.elim
end
end L2.Zz

/-! Z55: == of lists of unlike lengths, whatever they hold. -/
namespace L2.Zz
open PySem PySem.Spec PyProof.Rows
variable {LT : LTab} {ce : List (Str × Addr)}
def lenNe : PV → PV → Bool
  | .lst xs, .lst ys => xs.length != ys.length
  | _, _ => false
def pvEqL (a b : PV) : Option Ot := if lenNe a b = true then some (.v (.bl false)) else pvEqO a b
def pvNeL (a b : PV) : Option Ot := if lenNe a b = true then some (.v (.bl true)) else pvNeO a b
def rLens (K : PySem.W.Frag) (t : Bool) : R2 := fun x y H Q => ∃ a b us ws, x = .ref a ∧ y = .ref b ∧ SqL K H a us ∧ SqL K H b ws ∧ us.length ≠ ws.length ∧ Q (.bl t) H
def rEqL (K : PySem.W.Frag) : R2 := fun x y H Q => rEqD K x y H Q ∨ rLens K false x y H Q
def rNeL (K : PySem.W.Frag) : R2 := fun x y H Q => rNeD K x y H Q ∨ rLens K true x y H Q
section
variable {X : Cx}
theorem lens_ne {us ws : List V} {its its2 : List Value} (r1 : Vals us its) (r2 : Vals ws its2) (h : us.length ≠ ws.length) : (its.toArray.size != its2.toArray.size) = true := by
  simp only [List.size_toArray, bne_iff_ne, ne_eq]
  rw [← r1.length, ← r2.length]
  exact h
theorem op_lensEq (hu : X.A.units + 64 < cLine) : OpR X (compareOp .Eq) (rLens X.K false) := by
  intro pins s σ H x y v u Q I rx ry h
  obtain ⟨a, b, us, ws, rfl, rfl, h1, h2, hn, q⟩ := h
  obtain rfl : v = Value.ref a := rx
  obtain rfl : u = Value.ref b := ry
  obtain ⟨its, r1, l1, _⟩ := I.list h1
  obtain ⟨its2, r2, l2, _⟩ := I.list h2
  exact SeqAt.eq_list_lengthsAt l1.isList l2.isList (lens_ne r1 r2 hn) (by omega) ⟨.bl _, H, I, rfl, q⟩
theorem op_lensNe (hu : X.A.units + 64 < cLine) : OpR X (compareOp .NotEq) (rLens X.K true) := by
  intro pins s σ H x y v u Q I rx ry h
  obtain ⟨a, b, us, ws, rfl, rfl, h1, h2, hn, q⟩ := h
  obtain rfl : v = Value.ref a := rx
  obtain rfl : u = Value.ref b := ry
  obtain ⟨its, r1, l1, _⟩ := I.list h1
  obtain ⟨its2, r2, l2, _⟩ := I.list h2
  exact SeqAt.RcNeAt.lists_lengths l1.isList l2.isList (lens_ne r1 r2 hn) (by omega) _ _ _ _ ⟨.bl _, H, I, rfl, q⟩
theorem op_eqL (hu : X.A.units + 64 < cLine) : OpR X (compareOp .Eq) (rEqL X.K) := OpR.or (op_eqD hu) (op_lensEq hu)
theorem op_neL (hu : X.A.units + 64 < cLine) : OpR X (compareOp .NotEq) (rNeL X.K) := OpR.or (op_neD hu) (op_lensNe hu)
theorem len_ok {c : Cn} {F : Addr → Prop} {H : Hp} {a b : PV} {x y : V} {t : Bool} {Q : VK} (e : lenNe a b = true) (r1 : RW c F H a x) (r2 : RW c F H b y) (h : Q (.bl t) H) : rLens c.K t x y H Q := by
  unfold lenNe at e
  split at e
  · obtain ⟨a1, us, rfl, h1, q1⟩ := r1.lst
    obtain ⟨b1, ws, rfl, h2, q2⟩ := r2.lst
    refine ⟨a1, b1, us, ws, rfl, rfl, h1, h2, ?_, h⟩
    rw [← q1.length, ← q2.length]
    simpa using e
  · cases e
theorem op2_eqL : Op2 (cnE LT X ce) (rEqL X.K) pvEqL := by
  intro F H p q o v u Q r1 r2 e h
  unfold pvEqL at e
  split at e
  · rename_i hl
    cases e
    exact .inr (len_ok (c := cnE LT X ce) hl r1 r2 (h _ RF.bl_))
  · exact .inl (op2_eq F H p q o v u Q r1 r2 e h)
theorem op2_neL : Op2 (cnE LT X ce) (rNeL X.K) pvNeL := by
  intro F H p q o v u Q r1 r2 e h
  unfold pvNeL at e
  split at e
  · rename_i hl
    cases e
    exact .inr (len_ok (c := cnE LT X ce) hl r1 r2 (h _ RF.bl_))
  · exact .inl (op2_ne F H p q o v u Q r1 r2 e h)
end
end L2.Zz

/-! Z56: an own error made with one argument by its name. -/
namespace L2.ErK
open PySem PySem.Spec PySem.HandSPX
section
variable {M : Model} {A : Around} {E : Value → Shared → Prop} {h : Heap} {g : Array GenState} {d : Drawn} {t : Nat} {os : OsState}
variable {nm q : Str} {C N : Addr} {bs bm bmB : List Value} {hdct : Bool} {sn : List Str} {sub : List Value} {ab : Bool} {col : Option Bool} {dd : Option Addr} {k0 k1 k2 k3 k5 : Option Value} {B newId initId : String}
theorem check_newK (F : ExcBaseFacts B newId initId bmB) (hT : ∀ X : String, bm.contains (.type X) = bmB.contains (.type X)) {f : Str} {u : Value} {Q : Unit → Shared → Prop}
    (hC : h.get? C = some (excClassObj nm q C N bs bm hdct sn sub ab col dd k0 k1 k2 k3 k5 newId)) (hq : Q () ⟨h, g, d, t, os⟩) : wpAny M A (checkBuiltinCall newId ⟨[.ref C], [(f, u)]⟩) Q E ⟨h, g, d, t, os⟩ := by
  have hcont : (Value.ref C :: bm).contains (.type B) = true := by rw [List.contains_cons, hT, F.hasB, Bool.or_true]
  have hstar := F.noStar
  simp only [checkBuiltinCall, F.newKind, F.newSplit, F.newRow]
  repeat (first | refine wpAny_loadPart_at hC ?_ | (refine wpAny_isSubtype_exc hC ?_; rw [hcont]) | refine wpAny_staticBase_exc hC ?_ | refine wpAny_madeBy_exc hC ?_ | simp only [bne_self_eq_false, Bool.false_eq_true, if_false] | wp_step)
  exact hq
end
section
variable {prog : Program} {w : World} {A : Around} {E : Value → Shared → Prop} {R : Result → Shared → Prop} {h : Heap} {g : Array GenState} {d : Drawn} {t : Nat} {os : OsState}
variable {nm q : Str} {C N : Addr} {bs bm bmB : List Value} {hdct : Bool} {sn : List Str} {sub : List Value} {ab : Bool} {col : Option Bool} {dd : Option Addr} {k0 k1 k2 k3 k5 : Option Value} {B newId initId : String}
theorem new_ownK (F : ExcBaseFacts B newId initId bmB) (hT : ∀ X : String, bm.contains (.type X) = bmB.contains (.type X)) {f : Str} {u : Value}
    (hC : h.get? C = some (excClassObj nm q C N bs bm hdct sn sub ab col dd k0 k1 k2 k3 k5 newId))
    (hq : R (.ok (.ret (.ref (h.objs.size + 1)))) ⟨(h.push { cls := .type "tuple", data := .seq #[] }).push
      { cls := .ref C, data := .fields #[.ref h.objs.size, .none, .none, .none, .bool false, .none] }, g, d, t, os⟩) :
    codeAny (model prog w) A (.builtin newId ⟨[.ref C], [(f, u)]⟩) R ⟨h, g, d, t, os⟩ := by
  have hends := F.ends
  have hcB : (Value.ref C :: bm).contains (.type B) = true := by rw [List.contains_cons, hT, F.hasB, Bool.or_true]
  have hcA : (Value.ref C :: bm).contains (.type "AttributeError") = false := by rw [List.contains_cons, hT, F.noAttr]; rfl
  have hcN : (Value.ref C :: bm).contains (.type "NameError") = false := by rw [List.contains_cons, hT, F.noName]; rfl
  have hrest : ([] : List Value).length ≤ sizeLine := Nat.zero_le _
  refine codeAny_builtinAt F.entry ?_
  unfold Builtin.«BaseException.__new__»
  refine wpAt_bind ?_
  show wpAt _ _ _ (stack >>= _) _ _ _
  refine wpAt_bind (wpAt_stack fun p below => wpAt_of_wpAny ?_)
  wp_walk
  refine wpAt_of_wpAny ?_
  rw [F.owner]
  repeat (first | with_reducible refine wpAny_madeHere_exc F.canon hC ?_ | with_reducible refine wpAny_loadPart_at hC ?_ | (with_reducible refine wpAny_isSubtype_exc hC ?_; first | rw [hcB] | rw [hcA] | rw [hcN]) | wp_step)
  show R _ _
  rw [Heap.size_push]
  exact hq
theorem type_call_ownK (F : ExcBaseFacts B newId initId bmB) (hT : ∀ X : String, bm.contains (.type X) = bmB.contains (.type X)) {f : Str} {u : Value} {fI : Addr} {Q : PySem.Fin → Shared → Prop}
    (hC : h.get? C = some (excClassObj nm q C N bs bm hdct sn sub ab col dd k0 k1 k2 k3 k5 newId))
    (hi : W.Looks (model prog w) h (typeLookup (.ref C) "__init__") (some (.ref fI))) (hb : ∀ self, W.Looks (model prog w) h (bindSpecial (.ref fI) self) (.ref fI, [self]))
    (hq : codeAny (model prog w) A (.call (.ref fI) ⟨[.ref (h.objs.size + 1)], [(f, u)]⟩)
      (fun r s' => match r with | .ok (.ret v) => v = .none ∧ Q (.done (.ret (.ref (h.objs.size + 1)))) s' | .ok _ => False | .error e => E e s')
      ⟨(h.push (W.kdv_tup [])).push (excO C h.objs.size), g, d, t, os⟩) :
    wpAny (model prog w) A (Builtin.«type.__call__» ⟨[.ref C], [(f, u)]⟩) Q E ⟨h, g, d, t, os⟩ := by
  repeat (first | with_reducible refine wpAny_loadPart_at hC ?_ | with_reducible refine wpAny_madeBy_exc hC ?_ | wp_step)
  refine codeAny_call_builtin_code (Code.quiet_builtin _ F.quiet) (check_newK F hT hC ?_)
  refine new_ownK F hT hC ?_
  show wpAny _ _ _ _ _ _
  have k : ∀ b o, h.get? b = some o → ((h.push (W.kdv_tup [])).push (excO C h.objs.size)).get? b = some o := fun b o e => Heap.get?_push_of_some _ (Heap.get?_push_of_some _ e)
  have hC₁ := k _ _ hC
  have hget : ((h.push (W.kdv_tup [])).push (excO C h.objs.size)).get? (h.objs.size + 1) = some (excO C h.objs.size) := by heap_get
  have hcC : (Value.ref C :: bm).contains (.ref C) = true := by simp
  have i1 := hi.keeps k
  have b1 := (hb (.ref (h.objs.size + 1))).keeps k
  unfold isInstance
  repeat (first | with_reducible refine wpAny_loadPart_at hget ?_ | (with_reducible refine wpAny_isSubtype_exc hC₁ ?_; rw [hcC]) | wp_step)
  show wpAny _ _ (typeLookup (.ref C) _) _ _ _
  refine i1.at ?_
  refine wpAny_holding (wpAny_bind (b1.at ?_))
  refine wpAny_bind (wpAny_call (codeAny_mono hq fun r s' z => ?_))
  rcases r with e | (v | _ | _ | _) <;> first | exact z | exact z.elim | skip
  obtain ⟨rfl, z⟩ := z
  first
    | exact wpAny_pure (wpAny_pure z)
    | (wp_walk; exact z)
theorem call_ownK (F : ExcBaseFacts B newId initId bmB) (hT : ∀ X : String, bm.contains (.type X) = bmB.contains (.type X)) {f : Str} {u : Value} {fI : Addr}
    (hC : h.get? C = some (excClassObj nm q C N bs bm hdct sn sub ab col dd k0 k1 k2 k3 k5 newId))
    (hi : W.Looks (model prog w) h (typeLookup (.ref C) "__init__") (some (.ref fI))) (hb : ∀ self, W.Looks (model prog w) h (bindSpecial (.ref fI) self) (.ref fI, [self]))
    (hq : codeAny (model prog w) (A.under (.builtin "type.__call__" ⟨[.ref C], [(f, u)]⟩)) (.call (.ref fI) ⟨[.ref (h.objs.size + 1)], [(f, u)]⟩) (W.InitBack (h.objs.size + 1) R)
      ⟨(h.push (W.kdv_tup [])).push (excO C h.objs.size), g, d, t, os⟩) :
    codeAny (model prog w) A (.call (.ref C) ⟨[], [(f, u)]⟩) R ⟨h, g, d, t, os⟩ := by
  have f1 := tc_lookup
  have f2 := tc_bind (.ref C)
  have hTy : (⟨h, g, d, t, os⟩ : Shared).TypeIs (.ref C) "type" := ⟨_, hC, rfl⟩
  refine codeAny_of_tree ?_
  show wpAny _ _ (callAny (.ref C) _) _ _ _
  repeat (any_goals (first | assumption | with_reducible refine wpAny_loadPart_at hC ?_ | wp_step))
  refine ⟨rfl, ?_⟩
  refine codeAny_call_builtin_at (Code.quiet_builtin _ (by decide +kernel)) entry_typeCall (wpAny_check_type_call_sub hC (type_call_ownK F hT hC hi hb ?_))
  refine codeAny_mono hq fun r s' z => ?_
  rcases r with e | (v | _ | _ | _) <;> exact z
end
end L2.ErK

/-! Z57: errors as values. -/
namespace L2.Zz
open PySem PySem.Spec PyProof.Rows
variable {LT : LTab} {ce : List (Str × Addr)}
section
variable {X : Cx} {pins : List (Addr × Obj)} {σ : St} {H1 : Hp} {s : Shared} {C D fI : Addr} {f x : Str} {y : V} {u : Value} {Q : VK} {fd : FuncData}
abbrev erH (H : Hp) (a C d : Addr) (f : Str) (y : V) : Hp := upd (upd H d (exd d [(f, y)])) a (exo a C (some d))
theorem er_hp {H : Hp} {a d : Addr} {o1 o2 o3 : HO} : upd (upd (upd H a o1) d o3) a o2 = upd (upd H d o3) a o2 := by
  funext b
  by_cases ha : b = a
  · rw [ha, upd_same, upd_same]
  · rw [upd_ne ha, upd_ne ha]
    by_cases hd : b = d
    · rw [hd, upd_same, upd_same]
    · rw [upd_ne hd, upd_ne hd, upd_ne ha]
theorem er_make1 (T : ErC X.K D C) (iC : PySem.W.findIn X.K (.ref C) "__init__" = some (some (.ref fI))) (tI : PySem.W.typeIn X.K (.ref fI) = some (.type "function")) (hno : PySem.W.findIn X.K (.ref C) f = some none)
    (F1 : FnOk X.prog X.w X.K X.mg X.base (L2.CX X.prog X.w) 1 fI fd ["self", x] (spI X.K D C f)) (hb : Binds X.K fd ["self", x] []) (hr : Room 2 X.A) (I1 : Inv X pins σ H1 s) (ry : RelV y u)
    (q : ∀ a d, H1 a = none → H1 d = none → d ≠ a → Q (.ref a) (erH H1 a C d f y)) : wpAny (model X.prog X.w) X.A (call (.ref C) [u]) (EP X pins σ Q) X.xe s := by
  obtain ⟨nm, qn, N, bs, sn, sub, ab, col, dd, k0, k1, k2, k3, k5, hC⟩ := T.cls
  obtain ⟨hp, g, dr, tk, os⟩ := s
  have hsz : hp.objs.size ≤ hp.objs.size + 1 := Nat.le_succ _
  have hn : H1 (hp.objs.size + 1) = none := I1.hok.fresh hsz
  have kk : ∀ b o, hp.get? b = some o → ((hp.push (PySem.W.kdv_tup [u])).push (PySem.HandSPX.excO C hp.objs.size)).get? b = some o := fun b o e => Heap.get?_push_of_some _ (Heap.get?_push_of_some _ e)
  have hget : ((hp.push (PySem.W.kdv_tup [u])).push (PySem.HandSPX.excO C hp.objs.size)).get? (hp.objs.size + 1) = some (PySem.HandSPX.excO C hp.objs.size) := by heap_get
  have I2 : Inv X pins σ (upd H1 (hp.objs.size + 1) (exo (hp.objs.size + 1) C none)) ⟨(hp.push (PySem.W.kdv_tup [u])).push (PySem.HandSPX.excO C hp.objs.size), g, dr, tk, os⟩ :=
    I1.laid (t' := tk) (a := hp.objs.size + 1) (o := exo (hp.objs.size + 1) C none) (h' := (hp.push (PySem.W.kdv_tup [u])).push (PySem.HandSPX.excO C hp.objs.size)) kk hsz (exo_ok hget)
  have r2 : Vals [V.ref (hp.objs.size + 1), y] [Value.ref (hp.objs.size + 1), u] := .cons rfl (.cons ry .nil)
  refine wpAny_call (PySem.HandSPX.call_own PySem.F.excBase_ArithmeticError (ae_has D) (I1.kIn _ _ hC) (PySem.W.looks_findIn I1.kIn iC) (fun self => PySem.W.bind_fn I1.kIn self tI) (by rw [sizeLine_eq]; simp)
    (codeAny_mono (F1.run _ X.stack _ _ ⟨[Value.ref (hp.objs.size + 1), u], []⟩ [Value.ref (hp.objs.size + 1), u] [V.ref (hp.objs.size + 1), y]
      (fun v H2 => v = .non ∧ Q (.ref (hp.objs.size + 1)) H2) (fun _ _ _ => False)
      (hr.make C [u] []) (I2.env0.make C [u] []) (hb _ [Value.ref (hp.objs.size + 1), u] I2.kIn rfl) r2 ?_) fun r s' hq' => ?_))
  · refine ⟨_, y, rfl, T, hno, upd_same, fun dx n0 ne => ⟨rfl, ?_⟩⟩
    rw [upd_ne ne] at n0
    rw [er_hp]
    exact q _ dx hn n0 ne
  · cases r with
    | error er => exact passL pins σ _ _ er s' I2 hq'
    | ok fl =>
      cases fl with
      | ret u' =>
        obtain ⟨v, H', I3, rv, ev, q3⟩ := I2.after hq'
        subst ev
        exact ⟨rv, V.ref (hp.objs.size + 1), H', I3, rfl, q3⟩
      | next => exact False.elim hq'
      | brk => exact False.elim hq'
      | cont => exact False.elim hq'
theorem er_makeK (T : ErC X.K D C) (iC : PySem.W.findIn X.K (.ref C) "__init__" = some (some (.ref fI))) (tI : PySem.W.typeIn X.K (.ref fI) = some (.type "function")) (hno : PySem.W.findIn X.K (.ref C) f = some none)
    (F1 : FnOk X.prog X.w X.K X.mg X.base (L2.CX X.prog X.w) 1 fI fd ["self", x] (spI X.K D C f)) (hb : KPick fd ["self", x] [x] 1 [0, 1]) (hr : Room 2 X.A) (I1 : Inv X pins σ H1 s) (ry : RelV y u)
    (q : ∀ a d, H1 a = none → H1 d = none → d ≠ a → Q (.ref a) (erH H1 a C d f y)) : wpAny (model X.prog X.w) X.A (call (.ref C) [] [(x, u)]) (EP X pins σ Q) X.xe s := by
  obtain ⟨nm, qn, N, bs, sn, sub, ab, col, dd, k0, k1, k2, k3, k5, hC⟩ := T.cls
  obtain ⟨hp, g, dr, tk, os⟩ := s
  have hsz : hp.objs.size ≤ hp.objs.size + 1 := Nat.le_succ _
  have hn : H1 (hp.objs.size + 1) = none := I1.hok.fresh hsz
  have kk : ∀ b o, hp.get? b = some o → ((hp.push (PySem.W.kdv_tup [])).push (PySem.HandSPX.excO C hp.objs.size)).get? b = some o := fun b o e => Heap.get?_push_of_some _ (Heap.get?_push_of_some _ e)
  have hget : ((hp.push (PySem.W.kdv_tup [])).push (PySem.HandSPX.excO C hp.objs.size)).get? (hp.objs.size + 1) = some (PySem.HandSPX.excO C hp.objs.size) := by heap_get
  have I2 : Inv X pins σ (upd H1 (hp.objs.size + 1) (exo (hp.objs.size + 1) C none)) ⟨(hp.push (PySem.W.kdv_tup [])).push (PySem.HandSPX.excO C hp.objs.size), g, dr, tk, os⟩ :=
    I1.laid (t' := tk) (a := hp.objs.size + 1) (o := exo (hp.objs.size + 1) C none) (h' := (hp.push (PySem.W.kdv_tup [])).push (PySem.HandSPX.excO C hp.objs.size)) kk hsz (exo_ok hget)
  have r2 : Vals [V.ref (hp.objs.size + 1), y] [Value.ref (hp.objs.size + 1), u] := .cons rfl (.cons ry .nil)
  refine wpAny_call (L2.ErK.call_ownK PySem.F.excBase_ArithmeticError (ae_has D) (I1.kIn _ _ hC) (PySem.W.looks_findIn I1.kIn iC) (fun self => PySem.W.bind_fn I1.kIn self tI)
    (codeAny_mono (F1.run _ X.stack _ _ ⟨[Value.ref (hp.objs.size + 1)], [(x, u)]⟩ [Value.ref (hp.objs.size + 1), u] [V.ref (hp.objs.size + 1), y]
      (fun v H2 => v = .non ∧ Q (.ref (hp.objs.size + 1)) H2) (fun _ _ _ => False)
      (hr.make C [] [(x, u)]) (I2.env0.make C [] [(x, u)]) (.of_eq (hb [Value.ref (hp.objs.size + 1)] [u] rfl rfl)) r2 ?_) fun r s' hq' => ?_))
  · refine ⟨_, y, rfl, T, hno, upd_same, fun dx n0 ne => ⟨rfl, ?_⟩⟩
    rw [upd_ne ne] at n0
    rw [er_hp]
    exact q _ dx hn n0 ne
  · cases r with
    | error er => exact passL pins σ _ _ er s' I2 hq'
    | ok fl =>
      cases fl with
      | ret u' =>
        obtain ⟨v, H', I3, rv, ev, q3⟩ := I2.after hq'
        subst ev
        exact ⟨rv, V.ref (hp.objs.size + 1), H', I3, rfl, q3⟩
      | next => exact False.elim hq'
      | brk => exact False.elim hq'
      | cont => exact False.elim hq'
theorem er_make0 (T : ErC X.K D C) (iC : PySem.W.findIn X.K (.ref C) "__init__" = some (some (.ref fI))) (tI : PySem.W.typeIn X.K (.ref fI) = some (.type "function"))
    (F1 : FnOk X.prog X.w X.K X.mg X.base (L2.CX X.prog X.w) 1 fI fd ["self"] (spI0 X.K D C)) (hb : Binds X.K fd ["self"] []) (hr : Room 2 X.A) (I1 : Inv X pins σ H1 s)
    (q : ∀ a, H1 a = none → Q (.ref a) (upd H1 a (exo a C none))) : wpAny (model X.prog X.w) X.A (call (.ref C) []) (EP X pins σ Q) X.xe s := by
  obtain ⟨nm, qn, N, bs, sn, sub, ab, col, dd, k0, k1, k2, k3, k5, hC⟩ := T.cls
  obtain ⟨hp, g, dr, tk, os⟩ := s
  have hsz : hp.objs.size ≤ hp.objs.size + 1 := Nat.le_succ _
  have hn : H1 (hp.objs.size + 1) = none := I1.hok.fresh hsz
  have kk : ∀ b o, hp.get? b = some o → ((hp.push (PySem.W.kdv_tup [])).push (PySem.HandSPX.excO C hp.objs.size)).get? b = some o := fun b o e => Heap.get?_push_of_some _ (Heap.get?_push_of_some _ e)
  have hget : ((hp.push (PySem.W.kdv_tup [])).push (PySem.HandSPX.excO C hp.objs.size)).get? (hp.objs.size + 1) = some (PySem.HandSPX.excO C hp.objs.size) := by heap_get
  have I2 : Inv X pins σ (upd H1 (hp.objs.size + 1) (exo (hp.objs.size + 1) C none)) ⟨(hp.push (PySem.W.kdv_tup [])).push (PySem.HandSPX.excO C hp.objs.size), g, dr, tk, os⟩ :=
    I1.laid (t' := tk) (a := hp.objs.size + 1) (o := exo (hp.objs.size + 1) C none) (h' := (hp.push (PySem.W.kdv_tup [])).push (PySem.HandSPX.excO C hp.objs.size)) kk hsz (exo_ok hget)
  have r2 : Vals [V.ref (hp.objs.size + 1)] [Value.ref (hp.objs.size + 1)] := .cons rfl .nil
  refine wpAny_call (PySem.HandSPX.call_own PySem.F.excBase_ArithmeticError (ae_has D) (I1.kIn _ _ hC) (PySem.W.looks_findIn I1.kIn iC) (fun self => PySem.W.bind_fn I1.kIn self tI) (by rw [sizeLine_eq]; simp)
    (codeAny_mono (F1.run _ X.stack _ _ ⟨[Value.ref (hp.objs.size + 1)], []⟩ [Value.ref (hp.objs.size + 1)] [V.ref (hp.objs.size + 1)]
      (fun v H2 => v = .non ∧ Q (.ref (hp.objs.size + 1)) H2) (fun _ _ _ => False)
      (hr.make C [] []) (I2.env0.make C [] []) (hb _ [Value.ref (hp.objs.size + 1)] I2.kIn rfl) r2 ?_) fun r s' hq' => ?_))
  · exact ⟨_, rfl, T, upd_same, rfl, q _ hn⟩
  · cases r with
    | error er => exact passL pins σ _ _ er s' I2 hq'
    | ok fl =>
      cases fl with
      | ret u' =>
        obtain ⟨v, H', I3, rv, ev, q3⟩ := I2.after hq'
        subst ev
        exact ⟨rv, V.ref (hp.objs.size + 1), H', I3, rfl, q3⟩
      | next => exact False.elim hq'
      | brk => exact False.elim hq'
      | cont => exact False.elim hq'
end
end L2.Zz

/-! Z58: errors as values: made, read, asked. -/
namespace L2.Zz
open PySem PySem.Spec PyProof.Rows
variable {LT : LTab} {ce : List (Str × Addr)}
def dErr (n fld : Str) (d : DE) : DE := fun σ => (d σ).bind fun r σ1 => match r with
  | .val p => .ok (.val (.err n [fld] [p])) σ1
  | _ => .no
def dErr0 (n : Str) : DE := fun σ => .ok (.val (.err n [] [])) σ
theorem exd_noT {dx : Addr} {fs : List (Str × V)} : NoT (exd dx fs) := fun ps z => by
  have z' : HO.ext _ = HO.tbl ps := z
  cases z'
section
variable {c : Cn} {F : Addr → Prop} {la : List Addr} {σ : PSt} {σr : St} {H : Hp} {W : WX} {g : Gh} {n fld : Str} {p : PV} {y : V} {C : Addr} {Q : VK}
theorem err_in (S : SR c F la σ σr H) (x : Ex g ⟨F, H, Ow σ σr la⟩) (r : RF c F H p y) (hm : c.mg n = some (.ref C)) (f : Fin c W la σr g (.ok (.val (.err n [fld] [p])) σ) (PE0 c la σr g Q)) :
    ∀ a d, H a = none → H d = none → d ≠ a → Q (.ref a) (erH H a C d fld y) := by
  intro a d na nd ne
  have kk : ∀ b o, H b = some o → erH H a C d fld y b = some o := fun b o e => by
    unfold erH; rw [upd_ne (ne_of_none e na), upd_ne (ne_of_none e nd)]; exact e
  have ha : erH H a C d fld y a = some (exo a C (some d)) := upd_same
  have hd : erH H a C d fld y d = some (exd d [(fld, y)]) := by unfold erH; rw [upd_ne ne, upd_same]
  have S2 := ((S.keeps kk).addF (p := a) ⟨_, ha, fun ps => exo_tbl⟩ (S.fresh na).2).addF (p := d) ⟨_, hd, exd_noT⟩ (S.fresh nd).2
  have x2 : Ex g ⟨fun b => (F b ∨ b = a) ∨ b = d, erH H a C d fld y, Ow σ σr la⟩ := x.trans ⟨fun b f => .inl (.inl f), fun b o e _ _ => kk b o e, fun b ps e => ⟨ps, kk b _ e⟩, fun b h => .inl h, fun b f => by
    rcases f with (f | f) | f
    · exact .inl f
    · exact .inr (.inr (by rw [f]; exact na))
    · exact .inr (.inr (by rw [f]; exact nd))⟩
  refine f _ _ x2 S2 (.ref a) (show RF c _ _ (.err n [fld] [p]) (.ref a) from ?_)
  unfold RF
  exact ⟨a, C, some d, [y], rfl, .inl (.inr rfl), hm, ha, rfl, RFs.cons_ (RF.ext (fun b f => .inl (.inl f)) (fun b o e _ => kk b o e) _ _ r) RFs.nil_, .inr ⟨d, rfl, .inr rfl, hd⟩⟩
theorem err_in0 (S : SR c F la σ σr H) (x : Ex g ⟨F, H, Ow σ σr la⟩) (hm : c.mg n = some (.ref C)) (f : Fin c W la σr g (.ok (.val (.err n [] [])) σ) (PE0 c la σr g Q)) :
    ∀ a, H a = none → Q (.ref a) (upd H a (exo a C none)) := by
  intro a na
  have kk : ∀ b o, H b = some o → upd H a (exo a C none) b = some o := upd_keeps na
  have S2 := (S.keeps kk).addF (p := a) ⟨_, upd_same, fun ps => exo_tbl⟩ (S.fresh na).2
  have x2 : Ex g ⟨fun b => F b ∨ b = a, upd H a (exo a C none), Ow σ σr la⟩ := x.trans ⟨fun b f => .inl f, fun b o e _ _ => kk b o e, fun b ps e => ⟨ps, kk b _ e⟩, fun b h => .inl h, fun b f => by
    rcases f with f | f
    · exact .inl f
    · exact .inr (.inr (by rw [f]; exact na))⟩
  refine f _ _ x2 S2 (.ref a) (show RF c _ _ (.err n [] []) (.ref a) from ?_)
  unfold RF
  exact ⟨a, C, none, [], rfl, .inr rfl, hm, upd_same, rfl, RFs.nil_, .inl ⟨rfl, rfl⟩⟩
theorem RW.err {ns : List Str} {vs : List PV} {x : Str} {v : V} (h : RW c F H (.err x ns vs) v) : ∃ (a C : Addr) (dd : Option Addr) (us : List V), v = .ref a ∧ c.mg x = some (.ref C) ∧ H a = some (exo a C dd) ∧ ns.length = us.length ∧ RFs c F H vs us ∧ ((dd = none ∧ ns = []) ∨ ∃ dx, dd = some dx ∧ H dx = some (exd dx (ns.zip us))) := by
  rcases h with h | ⟨a, e, h⟩
  · unfold RF at h
    obtain ⟨a, C, dd, us, e, _, h1, h2, h3, h4, h5⟩ := h
    exact ⟨a, C, dd, us, e, h1, h2, h3, h4, h5.imp id fun ⟨dx, e1, _, e2⟩ => ⟨dx, e1, e2⟩⟩
  · exact h.elim
end
section
variable {X : Cx} {W : WX} {e : Expr} {d : DE} {n fld x : Str} {p pos kpos : Pos} {C D fI : Addr} {fd : FuncData}
theorem val_of {α : Type} {c : Cn} {la : List Addr} {σr : St} {g : Gh} {P : EVal → PSt → (Addr → Prop) → Hp → Prop} {r : EVal} {σ : PSt} {k : PV → EVal} (h : Fin c W la σr g (match r with | .val p => Rs.ok (k p) σ | _ => .no) P) : ∃ p, r = .val p ∧ Fin c W la σr g (.ok (k p) σ) P := by
  cases r with
  | val p => exact ⟨p, rfl, h⟩
  | _ => exact h.elim
theorem z_errK (T : ErC X.K D C) (hm : X.mg n = some (.ref C)) (iC : PySem.W.findIn X.K (.ref C) "__init__" = some (some (.ref fI))) (tI : PySem.W.typeIn X.K (.ref fI) = some (.type "function")) (hno : PySem.W.findIn X.K (.ref C) fld = some none)
    (F1 : FnOk X.prog X.w X.K X.mg X.base (L2.CX X.prog X.w) 1 fI fd ["self", x] (spI X.K D C fld)) (hb : KPick fd ["self", x] [x] 1 [0, 1]) (hr : Room 2 X.A) (hg : Gl X n) (he : PE X e (EV (cnE LT X ce) W d))
    (hall : (backToKw pos (keywordEach [⟨some x, e, kpos⟩] X.env)).all (·.1.isSome) = true := by rfl) (hks : (backToKw pos (keywordEach [⟨some x, e, kpos⟩] X.env)).filterMap (·.1) = [x] := by rfl) (hdb : (n == ("__debug__" : Str)) = false := by decide)
    (hpl : ((backTo pos (starEach [] X.env)).any (·.1) || (backToKw pos (keywordEach [⟨some x, e, kpos⟩] X.env)).any (·.1.isNone)) = false := by rfl) :
    PE X (.Call (.Name n p) [] [⟨some x, e, kpos⟩] pos) (EV (cnE LT X ce) W (dErr n fld d)) := by
  refine ⟨fun pins s σr H Q I h => ?_⟩
  refine wpAny_Call_Name_kw (ld_glob I hg hm ?_ hdb)
  refine PySem.W.callWith_KW0 (h₀ := X.base) I.ok.mod.kin T.kC hall ?_ hpl
  have h2 : tCons (EV (cnE LT X ce) W d) tNil σr H fun zs H1 => ∃ y, zs = [y] ∧ ∀ a dx, H1 a = none → H1 dx = none → dx ≠ a → Q (.ref a) (erH H1 a C dx fld y) := by
    obtain ⟨F, la, σ, S, xx, g⟩ := h.start
    refine EV.seq S xx g fun F1 σ1 r v H1 x1 S1 e1 f1 => ?_
    obtain ⟨q, rfl, f2⟩ := val_of (α := Unit) (k := fun p => .val (.err n [fld] [p])) f1
    exact ⟨v, rfl, err_in S1 (xx.trans x1) e1 hm f2⟩
  refine thn ((pk_cons he pk_nil).run pos pins s σr H _ I h2) fun ws s2 ⟨zs, H2, I2, rz, y, ez, q2⟩ => ⟨I2.kIn, ?_⟩
  rw [hks]
  subst ez
  cases rz with
  | cons ry rr =>
    cases rr
    exact er_makeK T iC tI hno F1 hb hr I2 ry q2
theorem z_err1 (T : ErC X.K D C) (hm : X.mg n = some (.ref C)) (iC : PySem.W.findIn X.K (.ref C) "__init__" = some (some (.ref fI))) (tI : PySem.W.typeIn X.K (.ref fI) = some (.type "function")) (hno : PySem.W.findIn X.K (.ref C) fld = some none)
    (F1 : FnOk X.prog X.w X.K X.mg X.base (L2.CX X.prog X.w) 1 fI fd ["self", x] (spI X.K D C fld)) (hb : Binds X.K fd ["self", x] []) (hr : Room 2 X.A) (hg : Gl X n) (he : PE X e (EV (cnE LT X ce) W d))
    (hdb : (n == ("__debug__" : Str)) = false := by decide) (hst : starEach [e] X.env = (false, eval e X.env) :: starEach [] X.env := by rfl) (hpl : (backTo pos (starEach [] X.env)).any (·.1) = false := by rfl) :
    PE X (.Call (.Name n p) [e] [] pos) (EV (cnE LT X ce) W (dErr n fld d)) := by
  refine ⟨fun pins s σr H Q I h => ?_⟩
  refine wpAny_Call_Name_kw (ld_glob I hg hm ?_ hdb)
  have h2 : tCons (EV (cnE LT X ce) W d) tNil σr H fun zs H1 => ∃ y, zs = [y] ∧ ∀ a dx, H1 a = none → H1 dx = none → dx ≠ a → Q (.ref a) (erH H1 a C dx fld y) := by
    obtain ⟨F, la, σ, S, xx, g⟩ := h.start
    refine EV.seq S xx g fun F1 σ1 r v H1 x1 S1 e1 f1 => ?_
    obtain ⟨q, rfl, f2⟩ := val_of (α := Unit) (k := fun p => .val (.err n [fld] [p])) f1
    exact ⟨v, rfl, err_in S1 (xx.trans x1) e1 hm f2⟩
  refine PySem.W.callWith_K (h₀ := X.base) I.ok.mod.kin T.kC (thn ((pa_cons he pa_nil hst).run pos pins s σr H _ I h2) fun us s1 ⟨vs, H1, I1, r, y, ez, q⟩ => ⟨I1.kIn, ?_⟩) hst hpl
  subst ez
  cases r with
  | cons ry rr =>
    cases rr
    exact er_make1 T iC tI hno F1 hb hr I1 ry q
theorem z_err0 (T : ErC X.K D C) (hm : X.mg n = some (.ref C)) (iC : PySem.W.findIn X.K (.ref C) "__init__" = some (some (.ref fI))) (tI : PySem.W.typeIn X.K (.ref fI) = some (.type "function"))
    (F1 : FnOk X.prog X.w X.K X.mg X.base (L2.CX X.prog X.w) 1 fI fd ["self"] (spI0 X.K D C)) (hb : Binds X.K fd ["self"] []) (hr : Room 2 X.A) (hg : Gl X n) (hdb : (n == ("__debug__" : Str)) = false := by decide) :
    PE X (.Call (.Name n p) [] [] pos) (EV (cnE LT X ce) W (dErr0 n)) := by
  refine ⟨fun pins s σr H Q I h => ?_⟩
  refine wpAny_Call_Name_kw (ld_glob I hg hm ?_ hdb)
  obtain ⟨F, la, σ, S, xx, g⟩ := h.start
  exact PySem.W.callWith_K0 I.kIn T.kC (er_make0 T iC tI F1 hb hr I (err_in0 S xx hm g))
/-- the classes of errors whose field is read -/
inductive FldT (X : Cx) (fld : Str) : List Str → Prop
  | nil : FldT X fld []
  | cons {n C t} (hm : X.mg n = some (.ref C)) (hx : xfB X.K C = true) (hno : PySem.W.findIn X.K (.ref C) fld = some none) (r : FldT X fld t) : FldT X fld (n :: t)
theorem FldT.get {fld : Str} {cl : List Str} (h : FldT X fld cl) : ∀ {n : Str} {C : Addr}, n ∈ cl → X.mg n = some (.ref C) → XfC X.K C ∧ PySem.W.findIn X.K (.ref C) fld = some none := by
  induction h with
  | nil => intro n C e; simp at e
  | cons hm hx hno _ ih =>
    intro n C e hn
    rcases List.mem_cons.mp e with q | q
    · subst q
      rw [hm] at hn; cases hn
      exact ⟨xfB_ok hx, hno⟩
    · exact ih q hn
def dFldE (fld : Str) (cl : List Str) (d : DE) : DE := fun σ => (d σ).bind fun o σ1 => match rd σ1 o with
  | some (.err x ns vs) => if x ∈ cl then match lkP fld ns vs with
    | some p => .ok (.val p) σ1
    | none => .no else .no
  | _ => .no
theorem z_fldE {cl : List Str} (T : FldT X fld cl) (he : PE X e (EV (cnE LT X ce) W d)) (hb : attributeBase e fld X.env (eval e X.env) = eval e X.env := by rfl) : PE X (.Attribute e fld pos) (EV (cnE LT X ce) W (dFldE fld cl d)) := by
  refine ⟨fun pins s σr H Q I h => ?_⟩
  have h2 : EV (cnE LT X ce) W d σr H fun v H1 => ∃ (a C dx : Addr) (fs : List (Str × V)) (w : V), v = .ref a ∧ H1 a = some (exo a C (some dx)) ∧ H1 dx = some (exd dx fs) ∧ XfC X.K C ∧ PySem.W.findIn X.K (.ref C) fld = some none ∧ fs.lookup fld = some w ∧ Q w H1 := by
    obtain ⟨F, la, σ, S, xx, g⟩ := h.start
    refine EV.seq S xx g fun F1 σ1 r v H1 x1 S1 e1 f1 => ?_
    cases qa : rd σ1 r with
    | none => rw [qa] at f1; exact f1.elim
    | some p =>
      rw [qa] at f1
      cases p with
      | err x ns vs =>
        simp only at f1
        obtain ⟨hx, f2⟩ := fin_if f1
        cases ql : lkP fld ns vs with
        | none => rw [ql] at f2; exact f2.elim
        | some p =>
          rw [ql] at f2
          obtain ⟨a, C, dd, us, rfl, hm, ha, hl, rs, hd⟩ := (rd_ok S1 e1 qa).err
          obtain ⟨t1, t2⟩ := T.get hx hm
          obtain ⟨u, lu, ru⟩ := lkP_ok hl rs ql
          rcases hd with ⟨_, rfl⟩ | ⟨dx, rfl, hdx⟩
          · simp [lkP] at ql
          · exact ⟨a, C, dx, _, u, rfl, ha, hdx, t1, t2, lu, f2 F1 H1 (xx.trans x1) S1 u ru⟩
      | _ => exact f1.elim
  refine attr_of hb (thn (he.run pins s σr H _ I h2) fun u s1 ⟨v, H1, I1, rx, a, C, dx, fs, w, ev, ha, hd, T1, hno, l, q⟩ => ?_)
  subst ev
  obtain rfl : u = Value.ref a := rx
  obtain ⟨t1, ho⟩ := exo_at I1.hok ha
  obtain ⟨mA, hns, hr⟩ := exd_at I1.hok hd
  obtain ⟨od, ho2, hl⟩ := lookIn_ns hns
  obtain ⟨u, hu, ru⟩ := RelO.some_of (v := w) (o := mA fld) (by rw [← l]; exact hr fld)
  have J : PySem.W.InstAt s1.heap a { cls := .ref C, dict := some dx, data := .fields #[.ref t1, .none, .none, .none, .bool false, .none] } C (some od) := ⟨ho, rfl, by unfold PySem.W.notCls; rfl, ho2⟩
  exact HandSPX.exc_get I1.kIn J T1.ga T1.gg T1.exC (PySem.W.findObj_own T1.hdC hno rfl (by rw [hl, hu])) (handed_of ru) ⟨w, H1, I1.tok _, ru, q⟩
end
/-! isinstance -/
inductive IsT (X : Cx) : List (Str × Str × Bool) → Prop
  | nil : IsT X []
  | cons {n m C D b t} (hn : X.mg n = some (.ref C)) (hm : X.mg m = some (.ref D)) (hx : excB X.K C = true) (hk : PySem.W.kitOne X.K (.ref C) (.ref D) = some b) (r : IsT X t) : IsT X ((n, m, b) :: t)
inductive IsTT (X : Cx) : List (Str × String × Bool) → Prop
  | nil : IsTT X []
  | cons {n m C b t} (hn : X.mg n = some (.ref C)) (hx : excB X.K C = true) (hk : PySem.W.kitOne X.K (.ref C) (.type m) = some b) (r : IsTT X t) : IsTT X ((n, m, b) :: t)
def lk3 {α : Type} [DecidableEq α] : List (Str × α × Bool) → Str → α → Option Bool
  | [], _, _ => none
  | (n, m, b) :: t, x, y => if x = n ∧ y = m then some b else lk3 t x y
section
variable {X : Cx}
theorem IsT.get {tab : List (Str × Str × Bool)} (h : IsT X tab) : ∀ {n m : Str} {C D : Addr} {b : Bool}, lk3 tab n m = some b → X.mg n = some (.ref C) → X.mg m = some (.ref D) → excB X.K C = true ∧ PySem.W.kitOne X.K (.ref C) (.ref D) = some b := by
  induction h with
  | nil => intro n m C D b e; simp [lk3] at e
  | cons hn hm hx hk _ ih =>
    intro n m C D b e h1 h2
    rw [lk3] at e
    split at e
    · rename_i q
      obtain ⟨rfl, rfl⟩ := q
      cases e
      rw [hn] at h1; cases h1
      rw [hm] at h2; cases h2
      exact ⟨hx, hk⟩
    · exact ih e h1 h2
theorem IsTT.get {tab : List (Str × String × Bool)} (h : IsTT X tab) : ∀ {n : Str} {m : String} {C : Addr} {b : Bool}, lk3 tab n m = some b → X.mg n = some (.ref C) → excB X.K C = true ∧ PySem.W.kitOne X.K (.ref C) (.type m) = some b := by
  induction h with
  | nil => intro n m C b e; simp [lk3] at e
  | cons hn hx hk _ ih =>
    intro n m C b e h1
    rw [lk3] at e
    split at e
    · rename_i q
      obtain ⟨rfl, rfl⟩ := q
      cases e
      rw [hn] at h1; cases h1
      exact ⟨hx, hk⟩
    · exact ih e h1
def fnIsiE (tab : List (Str × Str × Bool)) (tt : List (Str × String × Bool)) : List PV → Option Ot
  | [.err x _ _, .fn m] => (lk3 tab x m).map fun b => .v (.bl b)
  | [.err x _ _, .ty m] => (lk3 tt x m).map fun b => .v (.bl b)
  | ps => fnIsi ps
def rIsiE (LT : LTab) (X : Cx) : List V → Hp → VK → Prop := fun xs H Q => rIsiZ LT X xs H Q ∨ ∃ (a C : Addr) (dd : Option Addr) (c : V) (cv : Value) (b : Bool), xs = [.ref a, c] ∧ (∀ u, RelV c u → u = cv) ∧ H a = some (exo a C dd) ∧ (dd = none ∨ ∃ dx fs, dd = some dx ∧ H dx = some (exd dx fs)) ∧
  excB X.K C = true ∧ PySem.W.kitOne X.K (.ref C) cv = some b ∧ Q (.bl b) H
theorem cr_isiE : CallR X (.builtin "isinstance") (rIsiE LT X) := by
  intro pins s σ H xs us Q I r h
  rcases h with h | ⟨a, C, dd, c, cv, b, rfl, hcv, ha, hd, hx, hk, q⟩
  · exact cr_isiZ pins s σ H xs us Q I r h
  · obtain ⟨u1, u2, rfl, r1, r2⟩ := vals2 r
    cases (show u1 = Value.ref a from r1)
    cases hcv _ r2
    obtain ⟨t1, ho⟩ := exo_at I.hok ha
    have J : ∃ od, PySem.W.InstAt s.heap a { cls := .ref C, dict := dd, data := .fields #[.ref t1, .none, .none, .none, .bool false, .none] } C od := by
      rcases hd with rfl | ⟨dx, fs, rfl, ed⟩
      · exact ⟨none, ho, rfl, by unfold PySem.W.notCls; rfl, trivial⟩
      · obtain ⟨mA, hns, _⟩ := exd_at I.hok ed
        obtain ⟨od, ho2, _⟩ := lookIn_ns hns
        exact ⟨some od, ho, rfl, by unfold PySem.W.notCls; rfl, ho2⟩
    exact PySem.W.kia_one (PySem.W.er_kit (excB_ok hx)) I.kIn J hk (fun z => nomatch z) fun tk => ⟨.bl b, H, I.tok tk, rfl, q⟩
theorem opn_isiE {tab : List (Str × Str × Bool)} {tt : List (Str × String × Bool)} (T : IsT X tab) (TT : IsTT X tt) : OpN (cnE LT X ce) (rIsiE LT X) (fnIsiE tab tt) := by
  intro F H ps o vs Q rs e h
  unfold fnIsiE at e
  split at e
  · rename_i x ns us m
    obtain ⟨b, e1, rfl⟩ := Option.map_eq_some_iff.mp e
    obtain ⟨v, u, rfl, r, r2⟩ := rs.two
    obtain ⟨a, C, dd, ws, rfl, hm, ha, hl, _, hd⟩ := r.err
    obtain ⟨D, rfl, hD⟩ := r2.fn
    obtain ⟨t1, t2⟩ := T.get e1 hm hD
    exact .inr ⟨a, C, dd, _, .ref D, b, rfl, fun u z => z, ha, hd.imp (·.1) fun ⟨dx, e1, e2⟩ => ⟨dx, _, e1, e2⟩, t1, t2, h _ RF.bl_⟩
  · rename_i x ns us m
    obtain ⟨b, e1, rfl⟩ := Option.map_eq_some_iff.mp e
    obtain ⟨v, u, rfl, r, r2⟩ := rs.two
    obtain ⟨a, C, dd, ws, rfl, hm, ha, hl, _, hd⟩ := r.err
    obtain rfl := r2.ty
    obtain ⟨t1, t2⟩ := TT.get e1 hm
    exact .inr ⟨a, C, dd, _, .type m, b, rfl, fun u z => z, ha, hd.imp (·.1) fun ⟨dx, e1, e2⟩ => ⟨dx, _, e1, e2⟩, t1, t2, h _ RF.bl_⟩
  · exact .inl (opn_isi F H ps o vs Q rs e h)
end
end L2.Zz

/-! Z59: is True, is False. -/
namespace L2.Zz
open PySem PySem.Spec PyProof.Rows
variable {LT : LTab} {ce : List (Str × Addr)}
def pvIsB : PV → PV → Option Ot
  | .bl a, .bl b => some (.v (.bl (decide (a = b))))
  | _, _ => none
def pvNotB : PV → PV → Option Ot
  | .bl a, .bl b => some (.v (.bl (!decide (a = b))))
  | _, _ => none
section
variable {X : Cx}
theorem op2_isB : Op2 (cnE LT X ce) rIsB pvIsB := by
  intro F H p q o v u Q r1 r2 e h
  unfold pvIsB at e
  split at e
  · cases e
    obtain rfl := r1.bl
    obtain rfl := r2.bl
    exact ⟨_, _, rfl, rfl, h _ RF.bl_⟩
  · cases e
theorem op2_notB : Op2 (cnE LT X ce) rNotB pvNotB := by
  intro F H p q o v u Q r1 r2 e h
  unfold pvNotB at e
  split at e
  · cases e
    obtain rfl := r1.bl
    obtain rfl := r2.bl
    exact ⟨_, _, rfl, rfl, h _ RF.bl_⟩
  · cases e
end
end L2.Zz

/-! Z60: zip of two tuples. -/
namespace L2.Zz
open PySem PySem.Spec PyProof.Rows RZ
variable {LT : LTab} {ce : List (Str × Addr)}
def dZipA (da : DA) : DI := fun σ => (da σ).bind fun rs σ1 => match dTup.vals rs with
  | some [.lst xs, .lst ys] => .ok (zipL xs ys) σ1
  | some [.tup xs, .tup ys] => .ok (zipL xs ys) σ1
  | _ => .no
section
variable {c : Cn} {F0 : Addr → Prop} {H0 : Hp}
theorem jok_zipT {a b : Addr} {us ws : List V} {xs ys : List PV} (h : SqT c.K H0 a us) (r : RFs c F0 H0 xs us) (h2 : SqT c.K H0 b ws) (r2 : RFs c F0 H0 ys ws) : JOk c F0 H0 (ItzT c.K a b) (zipL xs ys) := by
  intro F H hF k
  have h' : SqT c.K H a us := SqT.ext h fun a o e s => k a o e (.inr s)
  have h2' : SqT c.K H b ws := SqT.ext h2 fun a o e s => k a o e (.inr s)
  have r' := RFs.ext hF k _ _ r
  have r2' := RFs.ext hF k _ _ r2
  rw [zipL_len]
  refine ⟨fun i hi => ?_, ⟨us, ws, h', h2', by rw [← r.length, ← r2.length]; omega⟩, fun i v H' hi y => ?_⟩
  · obtain ⟨u, e, _⟩ := r'.get (List.getElem?_eq_getElem (show i < xs.length by omega))
    obtain ⟨w, e2, _⟩ := r2'.get (List.getElem?_eq_getElem (show i < ys.length by omega))
    exact ⟨us, ws, u, w, h', h2', e, e2⟩
  · obtain ⟨T, x, y', rfl, n, rfl, y1, y2⟩ := y
    obtain ⟨p, e, rp⟩ := r'.getR (y1 us h')
    obtain ⟨q, e2, rq⟩ := r2'.getR (y2 ws h2')
    exact ⟨_, zipL_get e e2, upd_keeps n, RF.pair n rp rq⟩
end
section
variable {X : Cx} {W : WX} {e e2 : Expr} {da : DA} {p pos tpos : Pos} {elts : List Expr} {kk : Nat}
theorem zi_zipA (hg : Gl X "zip") (hm : X.mg "zip" = none) (ha : PA X [e, e2] (EVA (cnE LT X ce) W da)) (hs : starEach [e, e2] X.env = (false, eval e X.env) :: starEach [e2] X.env := by rfl) (hpl : (backTo pos (starEach [e2] X.env)).any (·.1) = false := by rfl) :
    PI X (.Tuple elts kk tpos) (.Call (.Name "zip" p) [e, e2] [] pos) (IV (cnE LT X ce) W (dZipA da)) :=
  PI.wk (pi_zipA hg hm ha hs hpl) fun σr H R q => by
    obtain ⟨F, la, σ, S, f⟩ := q
    refine ⟨F, la, σ, S, f.bind.mono fun rs σ1 F1 H1 x1 S1 f1 vs es => ?_⟩
    cases qa : dTup.vals rs with
    | none => rw [qa] at f1; exact f1.elim
    | some ps =>
      rw [qa] at f1
      have r := vals_ok es qa
      split at f1
      · rename_i xs ys he
        cases he
        unfold RFs at r
        obtain ⟨u, r', rfl, r1, r2⟩ := r
        unfold RFs at r2
        obtain ⟨u2, r2', rfl, r3, r4⟩ := r2
        unfold RFs at r4
        subst r4
        unfold RF at r1 r3
        obtain ⟨a, us, rfl, h1, h2⟩ := r1
        obtain ⟨b, ws, rfl, h3, h4⟩ := r3
        exact ⟨a, b, us, ws, rfl, .inl ⟨h1.sq, h3.sq, f1 F1 H1 x1 S1 _ (jok_zip h1 h2 h3 h4)⟩⟩
      · rename_i xs ys he
        cases he
        unfold RFs at r
        obtain ⟨u, r', rfl, r1, r2⟩ := r
        unfold RFs at r2
        obtain ⟨u2, r2', rfl, r3, r4⟩ := r2
        unfold RFs at r4
        subst r4
        unfold RF at r1 r3
        obtain ⟨a, us, rfl, h1, h2⟩ := r1
        obtain ⟨b, ws, rfl, h3, h4⟩ := r3
        exact ⟨a, b, us, ws, rfl, .inr ⟨h1, h3, f1 F1 H1 x1 S1 _ (jok_zipT h1 h2 h3 h4)⟩⟩
      · exact f1.elim
end
end L2.Zz

/-! Z61: a def's promise at a smaller ground; a ground without cells. -/
namespace L2.Zz
open PySem PySem.Spec PyProof.Rows
def isCellD : Data → Bool
  | .cell _ => true
  | _ => false
/-- no object of the ground is a cell -/
def NoCell (h : Heap) : Prop := ∀ b o, h.get? b = some o → isCellD o.data = false
def kNoCell (K : PySem.W.Frag) : Bool := K.all fun p => !isCellD p.2.data
section
variable {P : Program} {w : World} {K : PySem.W.Frag} {mg : Str → Option Value} {base B : Heap}
theorem none_sub (hs : ∀ b o, B.get? b = some o → base.get? b = some o) {b : Addr} (h : base.get? b = none) : B.get? b = none := by
  cases q : B.get? b with
  | none => rfl
  | some o =>
    rw [hs b o q] at h; cases h
theorem mem_lk : ∀ {K : PySem.W.Frag} {a : Addr} {o : Obj}, K.lookup a = some o → (a, o) ∈ K
  | [], _, _, h => by simp at h
  | (b, u) :: K, a, o, h => by
    rw [List.lookup] at h
    by_cases q : a = b
    · subst q
      simp at h
      subst h
      exact List.mem_cons_self
    · have q' : (a == b) = false := by simpa using q
      rw [q'] at h
      exact List.mem_cons_of_mem _ (mem_lk h)
theorem FnOk.ground {CX : CXT} {k : Nat} {f : Addr} {fd : FuncData} {ps : List Str} {sp : Sp} (hs : ∀ b o, B.get? b = some o → base.get? b = some o) (hz : B.objs.size ≤ base.objs.size) (M : Mod K mg B) (F : FnOk P w K mg B CX k f fd ps sp) : FnOk P w K mg base CX k f fd ps sp :=
  ⟨F.len, fun A outer s H args us vs Q E hr he hb hv hq => F.run A outer s H args us vs Q E hr
    ⟨he.frames, M, fun b o e => he.bs b o (hs b o e), Nat.le_trans hz he.bsz, funFrames_none he.funs (fun L hL => none_sub hs (he.funs.mem hL).1), he.frf, he.hok, he.bare⟩ hb hv hq⟩
theorem Ns.ground {a : Addr} {m : Str → Option Value} (k : ∀ b o, base.get? b = some o → isCellD o.data = false → B.get? b = some o) (h : base.Ns a m) : B.Ns a m := by
  obtain ⟨o, es, ep, e, r⟩ := h
  exact ⟨o, es, ep, k _ _ e (by rw [r.1]; rfl), r⟩
theorem ground (hK : kNoCell K = true) (M : Mod K mg base) : ∃ B : Heap, NoCell B ∧ Mod K mg B ∧ (∀ b o, B.get? b = some o → base.get? b = some o) ∧ (∀ b o, base.get? b = some o → isCellD o.data = false → B.get? b = some o) ∧ B.objs.size ≤ base.objs.size := by
  let p : Addr → Bool := fun b => match base.get? b with
    | some o => isCellD o.data
    | none => false
  let l := (List.range base.objs.size).filter p
  have sub : ∀ b o, (PySem.W.hideAll base l).get? b = some o → base.get? b = some o := fun b o q => PySem.W.of_hideAll l q
  have keep : ∀ b o, base.get? b = some o → isCellD o.data = false → (PySem.W.hideAll base l).get? b = some o := fun b o e hc => by
    refine PySem.W.hideAll_get l e fun hm => ?_
    have z := (List.mem_filter.mp hm).2
    have z' : p b = isCellD o.data := by show (match base.get? b with | some o => isCellD o.data | none => false) = _; rw [e]
    rw [z', hc] at z; cases z
  refine ⟨PySem.W.hideAll base l, fun b o q => ?_, ⟨fun a o e => keep a o (M.kin a o e) ?_, Ns.ground keep M.glob, ?_, ?_⟩, sub, keep, ?_⟩
  · cases hc : isCellD o.data with
    | false => rfl
    | true =>
      exfalso
      have e := sub b o q
      have z' : p b = true := by show (match base.get? b with | some o => isCellD o.data | none => false) = _; rw [e]; exact hc
      rw [PySem.W.hideAll_none l (List.mem_filter.mpr ⟨List.mem_range.mpr (Heap.lt_size e), z'⟩)] at q
      cases q
  · have := List.all_eq_true.mp hK (a, o) (mem_lk e)
    simpa using this
  · obtain ⟨mb, h1, h2⟩ := M.blt
    exact ⟨mb, Ns.ground keep h1, h2⟩
  · obtain ⟨mc, h1, h2⟩ := M.nolimit
    exact ⟨mc, Ns.ground keep h1, h2⟩
  · exact Nat.le_of_eq (PySem.W.hideAll_size _ _)
end
end L2.Zz

/-! Z62: list comprehensions whose item may make lambdas: the item's rule is asked only of blocks whose cells are good. -/
namespace L2.Zz
open PySem PySem.Spec PyProof.Rows
section
variable {X : Cx} {pins : List (Addr × Obj)} {σ : St} {H : Hp} {s : Shared}
/-- so are those of a block in it -/
theorem gd_blk {scope : Scope} {own : List (Str × Nat)} (G : Gd X X.env.cells) (I : Inv X pins σ H s) (ok : BlkOk X.N X.env.scope scope own) : Gd X (cellsFrom (s.heap.objs.size + 1) scope.names (cloFrom X.env.cells scope.names [])) := fun y c e => by
  have e2 := PySem.mem_of_lookup e
  rw [← Heap.size_push s.heap { cls := .type "dict", data := .dict #[] }] at e2
  rcases cells_mem e2 with hm | ⟨_, h2, _⟩
  · rcases cloFrom_mem hm with hm | ⟨h1, h2⟩
    · cases hm
    · have hh : ∃ a, X.env.cells.lookup y = some a := by
        rcases ok.free _ h1 rfl with k | k
        · exact I.ok.has _ (.inl k)
        · exact I.ok.has _ (.inr k)
      obtain ⟨a, ha⟩ := hh
      have ec : c = a := by rw [h2, ha]; rfl
      subst ec
      exact G y c ha
  · rw [Heap.size_push] at h2
    have l1 := I.sz
    have l2 := I.lt
    exact gd_high I (Nat.le_trans l1 (Nat.le_of_succ_le h2)) (Nat.ne_of_gt (Nat.lt_of_lt_of_le l2 (Nat.le_of_succ_le h2)))
end
/-- the turns of a block -/
theorem blk_loop {B : Cx} {elt tg iter : Expr} {ifs : List Expr} {scope : Scope} {pos : Pos} {g : TG} {tt : TT} {te : TE} {J : It} {fp : List Addr} {it D : Addr} {tn : Nat → Heap → Prop} {vs : List Nat} {σ0 : St} {W : Nat → Nat → Hp → Prop} {QH : Hp → Prop} {R : Result → Shared → Prop}
    (hc : B.calm = true) (hex : B.ex = fp) (hpn : B.pn = []) (hxe : B.xe = fun _ _ => False) (T : Turn B.prog B.w B.K tg J fp it tn) (pg : PG B tg g) (pt : PTs B ifs tt) (pe : PE B elt te)
    (turn : ∀ i m H, W i m H → (J.stop i H ∧ QH H) ∨ (J.go i H ∧ ∃ Nx : Hp → Prop, (∀ H', Nx H' → ∃ m', m' < m ∧ W (i + 1) m' H') ∧ ∀ x H', J.yld i H x H' → g x σ0 H' fun σ2 H2 => wipe σ2 vs = σ0 ∧ tt σ2 H2 fun b H3 =>
      if b = true then te σ2 H3 fun y H4 => ∃ acc, H4 D = some (.lst acc) ∧ acc.length < sizeLine ∧ Nx (upd H4 D (.lst (acc ++ [y]))) else Nx H3))
    (out : ∀ s' H', Inv B [] σ0 H' s' → QH H' → R (.ok .next) s') {m0 : Nat} {s : Shared} {H : Hp} (I : Inv B [] σ0 H s) (st : tn 0 s.heap) (hn : ∀ b ∈ fp, H b = none) (w0 : W 0 m0 H) :
    codeAny (model B.prog B.w) B.A (.compLoop (.ListComp elt [⟨tg, iter, ifs, 0⟩] scope pos) 0 (.ref it) (.ref D) B.env) R s := by
  -- the iterator's objects, in each state of the block
  have fpk : ∀ {τ : St} {G : Hp} {u : Shared}, Inv B [] τ G u → (∀ b ∈ fp, G b = none) → ∀ b ∈ fp, FpOk B [] G b := by
    intro τ G u J0 z b hb
    have hb' : b ∈ B.ex := by rw [hex]; exact hb
    refine ⟨z b hb, (J0.ok.exf b hb').1, J0.ok.exfs b hb', .inl hb', (J0.ok.exf b hb').2, ?_⟩
    rw [hpn]
    intro p hp
    cases hp
  -- from the end of a turn to the next
  have next : ∀ {n i : Nat} {u v : Shared} {τ : St} {G : Hp} {Nx : Hp → Prop}, tn (i + 1) u.heap → wipe τ vs = σ0 → (∀ H', Nx H' → ∃ m', m' < n ∧ W (i + 1) m' H') → Inv B ([] ++ pinsAt fp u.heap) τ G v → Nx G →
      ∃ m, m < n ∧ ∃ j G', Inv B [] σ0 G' v ∧ tn j v.heap ∧ (∀ b ∈ fp, G' b = none) ∧ W j m G' := by
    intro n i u v τ G Nx tu hw hN J0 nx
    obtain ⟨m, lt, w⟩ := hN G nx
    have same : ∀ b ∈ fp, ∀ o, u.heap.get? b = some o → v.heap.get? b = some o ∧ G b = none := by
      intro b hb o e
      have hp : (b, o) ∈ B.pn ++ ([] ++ pinsAt fp u.heap) := List.mem_append_right _ (List.mem_append_right _ (mem_pinsAt hb e))
      exact ⟨(J0.pin _ hp).1, (J0.pin _ hp).2.1⟩
    refine ⟨m, lt, i + 1, G, J0.unpinned.weak ?_ ?_, T.keep _ _ _ tu fun b hb o e => (same b hb o e).1, ?_, w⟩
    · rw [← hw, wipe_length]
    · intro j x e
      rw [← hw] at e
      exact (wipe_some e).1
    · intro b hb
      obtain ⟨o, e, _⟩ := T.obj _ _ tu b hb
      exact (same b hb o e).2
  refine compLoop_any (fun n u => ∃ j G, Inv B [] σ0 G u ∧ tn j u.heap ∧ (∀ b ∈ fp, G b = none) ∧ W j n G) ?_ m0 ⟨0, H, I, st, hn, w0⟩
  rintro n u ⟨j, G, J0, tu, zu, w⟩
  rcases turn j n G w with ⟨hstop, hq⟩ | ⟨hgo, Nx, hN, body⟩
  · refine thnF (T.done B rfl rfl rfl hc j [] u σ0 G (fun _ _ => False) J0 (fpk J0 zu) tu hstop) ?_
    rintro r v ⟨rfl, J1⟩
    exact out v G J1 hq
  · refine thnF (T.item B rfl rfl rfl hc j [] u σ0 G (fun _ _ => False) J0 (fpk J0 zu) tu hgo) ?_
    rintro r v ⟨a, rfl, hv⟩
    refine thnF hv ?_
    rintro _ p ⟨x, G1, J1, rx, hy, tp, zp⟩
    have J2 := J1.pinned (fpk J1 zp) (T.obj _ _ tp)
    have pg0 := pg.run _ p _ G1 x a _ J2 rx (body x G1 hy)
    rw [hxe] at pg0
    refine thnF pg0 ?_
    rintro _ q ⟨τ, G2, J3, hw, ht⟩
    have pt0 := pt.run _ q τ G2 _ J3 ht
    rw [hxe] at pt0
    refine thnF pt0 ?_
    rintro b r ⟨G3, J4, hb⟩
    cases b with
    | false =>
      rw [if_neg Bool.false_ne_true] at hb ⊢
      exact next tp hw hN J4 hb
    | true =>
      rw [if_pos rfl] at hb ⊢
      have pe0 := pe.run _ r τ G3 _ J4 hb
      rw [hxe] at pe0
      refine thnF pe0 ?_
      rintro z t ⟨y, G4, J5, ry, acc, hD, hz, nx⟩
      exact app_ok J5 hD hz ry fun t' J6 => next tp hw hN J6 nx
/-- a list comprehension as a value, in a def's body or a block of it -/
theorem pe_lcG {X : Cx} {elt tg iter : Expr} {ifs : List Expr} {scope : Scope} {own : List (Str × Nat)} {pos : Pos} {wi : TI} {g : TG} {tt : TT} {te : TE} (hc : X.calm = true) (hN : X.N.Nodup)
    (hG : GdI X) (hi : PI X tg iter wi) (ok : BlkOk X.N X.env.scope scope own)
    (hg : ∀ (s : Shared) (H : Hp) (C : Addr) (cl : List (Str × Addr)) (fp : List Addr), PG (X.blk s H scope (compEnvC scope cl C X.env) fp) tg g)
    (ht : ∀ (s : Shared) (H : Hp) (C : Addr) (cl : List (Str × Addr)) (fp : List Addr), PTs (X.blk s H scope (compEnvC scope cl C X.env) fp) ifs tt)
    (he : ∀ (s : Shared) (H : Hp) (C : Addr) (cl : List (Str × Addr)) (fp : List Addr), Gd X cl → PE (X.blk s H scope (compEnvC scope cl C X.env) fp) elt te)
    (hs : ∀ x, foldedSetIterable iter X.env x = pure x) :
    PE X (.ListComp elt [⟨tg, iter, ifs, 0⟩] scope pos) (tLc wi g tt te (own.map (·.2))) := by
  constructor
  intro pins s σ H Q I h
  rw [eval_ListComp]
  have has : ∀ y ∈ scope.names, y.2 = .free → ∃ c, X.env.cells.lookup y.1 = some c := by
    intro y hy e
    rcases ok.free y hy e with k | k
    · exact I.ok.has _ (.inl k)
    · exact I.ok.has _ (.inr k)
  have nm : ∀ x ∈ scope.names, x.2 = .local → scope.names.lookup x.1 = some .local := by
    intro y hy e
    rw [ok.uniq y hy, e]
  refine wpAny_comprehension_free rfl hs (closure_ok has) ok.kind nm ?_
  refine thn (hi.run pins s σ H _ I h) fun _ s1 hx => thn hx ?_
  rintro _ s2 ⟨it, fp, tn, J, H2, rfl, I2, T, t2, f2, q⟩
  refine wpAny_newObj_type (newEnv_comp ?_) (Nat.zero_le _)
  have fresh : H2 s2.heap.objs.size = none := I2.hok.fresh (Nat.le_refl _)
  obtain ⟨W, ⟨m0, w0⟩, turn⟩ := q _ fresh
  let s3 : Shared := { s2 with heap := s2.heap.push { cls := .type "list", data := .seq ([] : List Value).toArray } }
  have up : ∀ b o, s2.heap.get? b = some o → s3.heap.get? b = some o := fun b o e => Heap.get?_push_of_some _ e
  have I3 : Inv X pins σ (upd H2 s2.heap.objs.size (.lst [])) s3 :=
    I2.laid (t' := s2.toks) up (Nat.le_refl _) ⟨Nat.zero_le _, [], 0, .nil, Heap.get?_push_size _ rfl⟩
  have lt2 : ∀ b ∈ fp, b < s2.heap.objs.size := fun b hb => let ⟨_, e, _⟩ := T.obj _ _ t2 b hb; Heap.lt_size e
  have lt3 : s2.heap.objs.size < s3.heap.objs.size := by
    show _ < (s2.heap.push _).objs.size
    rw [Heap.size_push]
    exact Nat.lt_succ_self _
  have f3 : ∀ b ∈ fp, FpOk X pins (upd H2 s2.heap.objs.size (.lst [])) b ∧ b < s3.heap.objs.size := by
    intro b hb
    have l := lt2 b hb
    refine ⟨⟨?_, (f2 b hb).2⟩, Nat.lt_trans l lt3⟩
    rw [upd_ne (Nat.ne_of_lt l)]
    exact (f2 b hb).1
  have I4 := block_start I3 ok hN f3
  have good := gd_blk (hG pins σ _ s3 I3) I3 ok
  have t3 : tn 0 s3.heap := T.keep _ _ _ t2 fun b _ o e => up b o e
  have t4 : tn 0 (pushCells (s3.heap.push { cls := .type "dict", data := .dict #[] }) scope.names) :=
    T.keep _ _ _ t3 fun b _ o e => pushCells_keeps _ _ _ _ (Heap.get?_push_of_some _ e)
  refine codeAny_compStart_list ?_ (T.self X.A 0 _ _ _ t4 ?_)
  all_goals
    refine blk_loop (B := X.blk s3 (upd H2 s2.heap.objs.size (.lst [])) scope (compEnvC scope (cellsFrom (s3.heap.objs.size + 1) scope.names (cloFrom X.env.cells scope.names [])) s3.heap.objs.size X.env) fp) (vs := own.map (·.2)) hc rfl rfl rfl T (hg s3 _ _ _ fp) (ht s3 _ _ _ fp) (he s3 _ _ _ fp good) turn ?_ I4 t4 (fun b hb => (f3 b hb).1.1) w0
    intro s' H' J0 hq
    have I7 : Inv X pins σ H' s' := I3.call' (ch := fp) J0.os J0.base J0.hok J0.bare fun b hb =>
      have z := (f3 b hb).1.2
      ⟨z.2.2.1, z.1, z.2.2.2.1, z.2.2.2.2⟩
    have nC : H' s3.heap.objs.size = none := J0.free
    obtain ⟨m, hn, _⟩ := J0.loc
    obtain ⟨k0, k1, _, k3, k4, k5⟩ := I3.fpOk (H' := H') (Nat.le_refl _) nC
    refine ⟨m, hn, fun h' sb => ⟨.ref s2.heap.objs.size, H', ?_, rfl, hq⟩⟩
    exact I7.turned (t' := s'.toks) (fun b o hb e => (sb.2 b hb).trans e) k0 k1 k3 k4 k5
end L2.Zz

/-! Z63: a comprehension whose item makes lambdas and hands them to a call, by its denotation. -/
namespace L2.Zz
open PySem PySem.Spec PyProof.Rows
variable {LT : LTab} {ce ce' : List (Str × Addr)}
def isClos : Option Sl → Bool
  | some (.clos _) => true
  | _ => false
def noClo (σ : PSt) : Bool := σ.sl.all fun t => !isClos t
/-- an item with lambdas of the block's: nothing of them stays -/
def dBlkC (d : DE) : DE := fun σ => if noClo σ = true then (match d σ with
  | .ok (.val p) σ1 => if noClo σ1 = true then .ok (.val p) σ1 else .no
  | _ => .no) else .no
section
variable {X : Cx} {F : Addr → Prop} {la : List Addr} {σ : PSt} {σr : St} {H : Hp}
theorem noClo_at (h : noClo σ = true) {i : Nat} {ks : List Nat} (e : σ.sl[i]? = some (some (.clos ks))) : False := by
  have z := List.all_eq_true.mp h _ (List.mem_of_getElem? e)
  cases z
/-- the cells do not matter where no slot holds lambdas of the frame's -/
theorem SR.recell (h : noClo σ = true) (S : SR (cnE LT X ce) F la σ σr H) : SR (cnE LT X ce') F la σ σr H :=
  ⟨S.len, S.frz, S.lo, S.own, S.inj, S.lln, S.lnd, S.ln, S.ftr, fun _ _ e => (noClo_at h e).elim, S.tabs⟩
theorem z_blkC {e : Expr} {d : DE} (h : PE X e (EV (cnE LT X ce') W0 d)) : PE X e (EV (cnE LT X ce) W0 (dBlkC d)) := PE.wk h fun σr H Q q => by
  obtain ⟨F, la, σ, S, f⟩ := q
  unfold dBlkC at f
  by_cases hn : noClo σ = true
  · rw [if_pos hn] at f
    refine ⟨F, la, σ, S.recell hn, ?_⟩
    cases qd : d σ with
    | no => rw [qd] at f; exact f.elim
    | ex e s => rw [qd] at f; exact f.elim
    | ok r σ1 =>
      rw [qd] at f
      cases r with
      | val p =>
        obtain ⟨h1, f2⟩ := fin_if (show Fin (cnE LT X ce) W0 la σr ⟨F, H, Ow σ σr la⟩ (if noClo σ1 = true then .ok (.val p) σ1 else .no) (PE0 (cnE LT X ce) la σr ⟨F, H, Ow σ σr la⟩ Q) from f)
        exact fun F' H' x S' v ev => f2 F' H' x (S'.recell h1) v ev
      | _ => exact f.elim
  · rw [if_neg hn] at f; exact f.elim
end
section
variable {X : Cx} {W : WX} {tg iter elt : Expr} {ifs : List Expr} {scope : Scope} {own : List (Str × Nat)} {pos : Pos} {G : TG}
theorem z_lcG {vs : List Nat} {g : DG} {di : DI} {dt : DT} {te : DE} (hv : vs = own.map (·.2)) (hp : PatOk (cnE LT X ce) vs G g) (hc : X.calm = true) (hN : X.N.Nodup) (hG : GdI X) (hi : PI X tg iter (IV (cnE LT X ce) W di)) (ok : BlkOk X.N X.env.scope scope own)
    (hg : ∀ (s : Shared) (H : Hp) (C : Addr) (cl : List (Str × Addr)) (fp : List Addr), PG (X.blk s H scope (compEnvC scope cl C X.env) fp) tg G)
    (ht : ∀ (s : Shared) (H : Hp) (C : Addr) (cl : List (Str × Addr)) (fp : List Addr), PTs (X.blk s H scope (compEnvC scope cl C X.env) fp) ifs (EVT (cnE LT X ce) W0 dt))
    (he : ∀ (s : Shared) (H : Hp) (C : Addr) (cl : List (Str × Addr)) (fp : List Addr), GdI (X.blk s H scope (compEnvC scope cl C X.env) fp) → PE (X.blk s H scope (compEnvC scope cl C X.env) fp) elt (EV (cnE LT X ce) W0 te))
    (hs : ∀ x, foldedSetIterable iter X.env x = pure x := by intro _; rfl) :
    PE X (.ListComp elt [⟨tg, iter, ifs, 0⟩] scope pos) (EV (cnE LT X ce) W (dLc vs di g dt te)) := by
  subst hv
  exact PE.wk (pe_lcG hc hN hG hi ok hg ht (fun s H C cl fp gd => he s H C cl fp fun _ _ _ _ _ => gd) hs) fun σ H Q q => lc_read rfl hp σ H Q q
end
end L2.Zz

/-! Z64: a def that hands back lambdas of its own: a straight body, its last statement a return. -/
namespace L2.Zz
open PySem PySem.Spec PyProof.Rows
variable {LT : LTab}
/-- return e, lambdas of the frame's seen from outside -/
def dRetR (cap : Cap) (d : DE) : DS := fun σ => (d σ).bind fun r σ1 => match cvt cap σ1 r with
  | some p => .ok (.rt (.val p)) σ1
  | none => .no
/-- one statement ahead of such a body -/
def dSeqR (a b : DS) : DS := fun σ => (a σ).bind fun fl σ1 => match fl with
  | .nx => b σ1
  | _ => .no
/-- where such a body ends: with its slots -/
def EndR (c : Cn) (cap : Cap) (la : List Addr) (g : Gh) (D : Ends) (v : V) (σr : St) (H : Hp) : Prop := ∃ F σ r p, Ex g ⟨F, H, Ow σ σr la⟩ ∧ SR c F la σ σr H ∧ ER c F la (Ow σ σr la) (Nw g) σr H r v ∧ cvt cap σ r = some p ∧
  ∀ F2 H2, Ex g ⟨F2, H2, Ow σ σr la⟩ → SR c F2 la σ σr H2 → ∀ v, RF c F2 H2 p v → D.rt v H2
structure PRZ (LT : LTab) (X : Cx) (W : WX) (cap : Cap) (sts : List Stmt) (d : DS) : Prop where
  run : ∀ (pins : List (Addr × Obj)) (s : Shared) (σr : St) (H : Hp) (F : Addr → Prop) (la : List Addr) (σ : PSt) (g : Gh) (D : Ends), Inv X pins σr H s → SR (cn LT X) F la σ σr H → Ex g ⟨F, H, Ow σ σr la⟩ → FinS (cn LT X) W la g (d σ) (endP (cn LT X) la g D) →
    wpAny (model X.prog X.w) X.A (execs sts X.env) (fun f s' => ∃ u v σr' H', f = .ret u ∧ Inv X pins σr' H' s' ∧ RelV v u ∧ EndR (cn LT X) cap la g D v σr' H') X.xe s
section
variable {X : Cx} {W : WX} {cap : Cap}
theorem prz_ret {e : Expr} {pos : Pos} {d : DE} (he : PE X e (EV (cn LT X) W d)) : PRZ LT X W cap [.Return (some e) pos] (dRetR cap d) := by
  constructor
  intro pins s σr H F la σ g D I S x f
  refine wpAny_execs_cons (wpAny_Return_some (thn (he.run pins s σr H (fun v H1 => EndR (cn LT X) cap la g D v σr H1) I ⟨F, la, σ, S, (f.expr.step x).mono ?_⟩) ?_))
  · intro r σ1 F1 H1 x1 S1 f1 v e1
    cases q : cvt cap σ1 r with
    | none => rw [q] at f1; exact f1.elim
    | some p =>
      rw [q] at f1
      exact ⟨F1, σ1, r, p, x.trans x1, S1, e1.weak fun a n => x.back n, q, fun F2 H2 x2 S2 v2 r2 => f1 F2 H2 σr x2 S2 v2 r2⟩
  · rintro u s1 ⟨v, H1, I1, r1, q1⟩
    exact ⟨u, v, σr, H1, rfl, I1, r1, q1⟩
theorem prz_cons {st : Stmt} {rest : List Stmt} {a b : DS} (h1 : PS X st (SV (cn LT X) W a)) (h2 : PRZ LT X W cap rest b) : PRZ LT X W cap (st :: rest) (dSeqR a b) := by
  constructor
  intro pins s σr H F la σ g D I S x f
  refine wpAny_execs_cons (thn (h1.run pins s σr H { nx := fun σr1 H1 => ∃ F1 σ1, SR (cn LT X) F1 la σ1 σr1 H1 ∧ Ex g ⟨F1, H1, Ow σ1 σr1 la⟩ ∧ FinS (cn LT X) W la g (b σ1) (endP (cn LT X) la g D), rt := fun _ _ => False } I ⟨F, la, σ, S, (f.bind.step x).mono ?_⟩) ?_)
  · intro fl σ1 σr1 F1 H1 x1 S1 f1
    cases fl with
    | nx => exact ⟨F1, σ1, S1, x.trans x1, f1⟩
    | _ => exact f1.elim
  · intro fl s1 q
    cases fl with
    | next =>
      obtain ⟨σr1, H1, I1, F1, σ1, S1, x1, f1⟩ := q
      exact h2.run pins s1 σr1 H1 F1 la σ1 g D I1 S1 x1 f1
    | ret v => obtain ⟨_, _, _, _, _, z⟩ := q; exact z.elim
    | brk => obtain ⟨_, _, _, z⟩ := q; exact z.elim
    | cont => obtain ⟨_, _, _, z⟩ := q; exact z.elim
end
section
variable {P : Program} {w : World} {K : PySem.W.Frag} {mg : Str → Option Value} {base : Heap}
/-- cells that were not there at the start may be told -/
theorem un_cells {fs ex : List Addr} {H H' : Hp} {h h' : Heap} {C : Cel} (U : Un fs ex H H' h h') (hf : ∀ b o, C b = some o → H' b = none) (hn : ∀ b o, C b = some o → h.get? b = none) : Un fs ex H (addC H' C) h h' := by
  refine ⟨U.keep, U.slot, fun b o e n hx => ?_, U.there, fun b xs e => addC_keeps hf b _ (U.tups b xs e), fun b o u e => addC_keeps hf b _ (U.frzs b o u e), fun b ps e => ?_⟩
  · cases q : C b with
    | some o1 => rw [hn b o1 q] at e; cases e
    | none => rw [addC_out q]; exact U.free b o e n hx
  · obtain ⟨m, z⟩ := U.tbls b ps e
    exact ⟨m, addC_keeps hf b _ z⟩
theorem fn_okR {x qual : Str} {st : Stmt} {f c : Addr} {fd : FuncData} {N ps : List Str} {k : Nat} {cap : Cap} {body : DS} (F : FunC K x qual st f fd c) (S : FnScope N ps (defScope st)) (hcap : ∀ k is L, cap.lookup k = some is → LT.lam k = some L → CapOk N (defScope st) L.caps is)
    (hb : ∀ (A : Around) (outer : List Env) (s : Shared) (H : Hp) (E : XK), Room k (A.deeper (envOfC qual (defScope st) s.heap.objs.size f (.ref c))) →
      PRZ LT (cxOf (L2.CX P w) P w K mg base N qual (defScope st) f (.ref c) A outer s H E) (fun cls d _ H => E cls d H) cap (defBody st) body) : FnOk P w K mg base (L2.CX P w) (k + 1) f fd ps (spD ⟨P, w, K, mg, LT⟩ N ps.length body) := by
  obtain ⟨oc, od, kV, doc, pm, an, ct, osl, rfl, lk, hcd⟩ := F.ex
  constructor
  · intro vs H Q E h
    exact h.1
  intro A outer s H args us vs Q E hr e0 hbi rv hsp
  have there : K.In s.heap := e0.mod.kin.keeps fun b o e => (e0.bs b o e).1
  have par : ∀ y ∈ ps.zip us, (defScope st).names.lookup y.1 = some .local ∨ ((defScope st).names.lookup y.1 = some .cell ∧ ((cellsFrom (s.heap.objs.size + 1) (defScope st).names []).lookup y.1).isSome = true) := by
    rintro ⟨n, v⟩ hy
    have hn := (List.of_mem_zip hy).1
    exact (S.par n hn).imp id fun q => ⟨q, PySem.W.cellsFrom_some _ _ _ (.inl q)⟩
  refine codeAny_call_function hr.depth (there _ _ lk) rfl S.co S.gen rfl (PySem.W.codeRec_of there hcd) (hbi _ _ _ _ (wpAny_newFunctionEnv_cells S.kind par ?_))
  rintro env rfl s1 x
  refine ⟨(e0.mod.nolimit.keeps fun b o e => (e0.bs b o e).1).keeps x.toInCall.keep, codeAny_func ?_⟩
  have I : Inv (cxOf (L2.CX P w) P w K mg base N qual (defScope st) f (.ref c) A outer s H E) [] (start N vs) H s1 := inv_start S hr.hd e0 hsp.1 rv x
  obtain ⟨F0, la, σ, S0, f0⟩ := hsp.2 (cxOf (L2.CX P w) P w K mg base N qual (defScope st) f (.ref c) A outer s H E).env.cells
  refine wpAny_mono ((hb A outer s H E (hr.deeper _)).run [] s1 _ H F0 la σ _ _ I S0 (Ex.refl _) f0) ?_ fun _ _ h => h
  rintro fl s' ⟨u, v, σr', H', rfl, J, ru, F2, σ2, r, p, x2, S2, e2, qc, fin⟩
  -- the frame's cells, told from now on
  have free := celOf_free J
  have keep := addC_keeps free
  have old : ∀ b o, celOf (cxOf (L2.CX P w) P w K mg base N qual (defScope st) f (.ref c) A outer s H E) s'.heap b = some o → s.heap.get? b = none := by
    intro b o q
    obtain ⟨⟨y, hy⟩, _⟩ := celOf_some q
    have big := J.ok.cab y b rfl hy
    cases z : s.heap.get? b with
    | none => rfl
    | some o1 => exact absurd (Heap.lt_size z) (Nat.not_lt.mpr big)
  have rr := args_out (cap := cap) hcap J S2 (ERs.cons e2 .nil fun a q _ _ i p' v' h _ => by simp at h) (ps := [p]) (by rw [cvtA, qc]; rfl)
  have r1 : RF (cn LT (cxOf (L2.CX P w) P w K mg base N qual (defScope st) f (.ref c) A outer s H E)) F2 (addC H' (celOf (cxOf (L2.CX P w) P w K mg base N qual (defScope st) f (.ref c) A outer s H E) s'.heap)) p v := by
    unfold RFs at rr
    obtain ⟨u0, r0, eq, h1, _⟩ := rr
    cases eq
    exact h1
  exact ⟨v, _, J.os, J.bare, un_cells J.base free old, hok_add J.hok (fun b o e => (celOf_some e).2) free, ru, fin F2 _ (x2.trans (Ex.keeps keep)) (S2.keeps keep) v r1⟩
end
end L2.Zz

/-! Z65: dict(list of pairs), the keys tuples. -/
namespace L2.Zz
open PySem PySem.Spec PyProof.Rows
variable {LT : LTab} {ce : List (Str × Addr)}
def prsOf : List PV → Option (List (PV × PV))
  | [] => some []
  | .tup [k, v] :: r => if kOk k = true then (prsOf r).map ((k, v) :: ·) else none
  | _ => none
/-- all pairs stored, one by one -/
def putAll (ks vs : List PV) : List (PV × PV) → List PV × List PV
  | [] => (ks, vs)
  | (k, v) :: r => match kIx ks k with
    | some i => putAll ks (vs.set i v) r
    | none => putAll (ks ++ [k]) (vs ++ [v]) r
def fnDict : List PV → Option Ot
  | [.lst xs] => match prsOf xs with
    | some ps => if ps.length ≤ szL then some (.d (putAll [] [] ps).1 (putAll [] [] ps).2) else none
    | none => none
  | _ => none
def rDict (c : Cn) : List V → Hp → VK → Prop := fun vs H Q => ∃ F a us xs ps, vs = [.ref a] ∧ SqL c.K H a us ∧ RFs c F H xs us ∧ prsOf xs = some ps ∧ ps.length ≤ szL ∧
  ∀ p ob, H p = none → RO c F (upd H p ob) (.dct (putAll [] [] ps).1 (putAll [] [] ps).2) p → Q (.ref p) (upd H p ob)
section
variable {X : Cx}
theorem opn_dict : OpN (cnE LT X ce) (rDict (cnE LT X ce)) fnDict := by
  intro F H ps o vs Q rs e h
  unfold fnDict at e
  split at e
  · split at e
    · rename_i xs ps' q
      by_cases hz : ps'.length ≤ szL
      · rw [if_pos hz] at e
        cases e
        obtain ⟨v, rfl, r⟩ := rs.one
        obtain ⟨a, us, rfl, h1, r1⟩ := r.lst
        exact ⟨F, a, us, _, _, rfl, h1, r1, q, hz, h⟩
      · rw [if_neg hz] at e; cases e
    · cases e
  · cases e
/-- the entries so far -/
structure DSo (c : Cn) (F : Addr → Prop) (H : Hp) (xs : DX) (ks vs : List PV) (us : List V) : Prop where
  nd : (xs.map (·.1)).Nodup
  kk : KsOk xs ks
  rk : RFs c F H ks (xs.map fun x => V.ref x.2.1)
  rv : RFs c F H vs us
  vv : Vals us (xs.map (·.2.2))
theorem DSo.put {c : Cn} {F : Addr → Prop} {H : Hp} {xs : DX} {ks vs : List PV} {us : List V} {k p : PV} {b : Addr} {v : V} {u : Value} (D : DSo c F H xs ks vs us) (ok : kOk k = true) (rk : RF c F H k (.ref b)) (rp : RF c F H p v) (r3 : RelV v u) :
    ∃ us', DSo c F H (storedH xs (keyOf k) b u) (match kIx ks k with | some _ => ks | none => ks ++ [k]) (match kIx ks k with | some i => vs.set i p | none => vs ++ [p]) us' := by
  cases qi : kIx ks k with
  | some j =>
    have e1 := (kIx_xs D.kk k).trans qi
    obtain ⟨x, e2, e3, e4⟩ := at_ix e1
    have es' : storedH xs (keyOf k) b u = xs.map (putAt (keyOf k) u) := storedH_old e4 b u
    obtain ⟨h1, h2, h3⟩ := put_ix (v := u) D.nd e1
    rw [es']
    exact ⟨us.set j v, by rw [h1]; exact D.nd, ⟨h1.trans D.kk.1, D.kk.2⟩, by rw [h2]; exact D.rk, D.rv.set j rp, by rw [h3]; exact D.vv.set r3 j⟩
  | none =>
    have e0 := (kIx_xs D.kk k).trans qi
    have e1 := at_no e0
    have es' : storedH xs (keyOf k) b u = xs ++ [(keyOf k, b, u)] := storedH_new e1 b u
    rw [es']
    refine ⟨us ++ [v], ?_, ⟨?_, fun z hz => ?_⟩, ?_, D.rv.append (RFs.cons_ rp RFs.nil_), ?_⟩
    · rw [List.map_append]
      exact nodup_app D.nd e0
    · rw [List.map_append, D.kk.1, keysOf_app]; rfl
    · rcases List.mem_append.mp hz with z | z
      · exact D.kk.2 _ z
      · simp at z; subst z; exact ok
    · rw [List.map_append]
      exact D.rk.append (RFs.cons_ rk RFs.nil_)
    · rw [List.map_append]
      exact D.vv.append (.cons r3 .nil)
/-- the pairs of a list, where they stand: the tuple, its key, its value -/
inductive PrR (c : Cn) (F : Addr → Prop) (H : Hp) (h : Heap) : List (PV × PV) → List (Addr × Addr × Value) → Prop
  | nil : PrR c F H h [] []
  | cons {k p r t b v u T} : PairAt h t (.ref b) u → kOk k = true → RF c F H k (.ref b) → RF c F H p v → RelV v u → PrR c F H h r T → PrR c F H h ((k, p) :: r) ((t, b, u) :: T)
def keyedT (ps : List (PV × PV)) (T : List (Addr × Addr × Value)) : DX := List.zipWith (fun p t => (keyOf p.1, t.2.1, t.2.2)) ps T
theorem PrR.length {c : Cn} {F : Addr → Prop} {H : Hp} {h : Heap} {ps : List (PV × PV)} {T : List (Addr × Addr × Value)} (x : PrR c F H h ps T) : ps.length = T.length := by
  induction x with
  | nil => rfl
  | cons _ _ _ _ _ _ ih => simp [ih]
theorem PrR.get {c : Cn} {F : Addr → Prop} {H : Hp} {h : Heap} {ps : List (PV × PV)} {T : List (Addr × Addr × Value)} (x : PrR c F H h ps T) : ∀ {i : Nat} {t : Addr × Addr × Value}, T[i]? = some t → ∃ p, ps[i]? = some p ∧ PairAt h t.1 (.ref t.2.1) t.2.2 ∧ kOk p.1 = true ∧ RF c F H p.1 (.ref t.2.1) := by
  induction x with
  | nil => intro i t e; simp at e
  | cons h1 h2 h3 _ _ _ ih =>
    intro i t e
    cases i with
    | zero => simp at e; subst e; exact ⟨_, rfl, h1, h2, h3⟩
    | succ i => exact ih (by simpa using e)
theorem PrR.keep {c : Cn} {F : Addr → Prop} {H H' : Hp} {h : Heap} {ps : List (PV × PV)} {T : List (Addr × Addr × Value)} (x : PrR c F H h ps T) (k : ∀ a o, H a = some o → H' a = some o) : PrR c F H' h ps T := by
  induction x with
  | nil => exact .nil
  | cons h1 h2 h3 h4 h5 _ ih => exact .cons h1 h2 (RF.ext (fun _ f => f) (fun a o e _ => k a o e) _ _ h3) (RF.ext (fun _ f => f) (fun a o e _ => k a o e) _ _ h4) h5 ih
theorem PrR.put {c : Cn} {F : Addr → Prop} {H : Hp} {h : Heap} {ps : List (PV × PV)} {T : List (Addr × Addr × Value)} (x : PrR c F H h ps T) : ∀ {xs : DX} {ks vs : List PV} {us : List V}, DSo c F H xs ks vs us →
    ∃ us', DSo c F H (storedAllH xs (keyedT ps T)) (putAll ks vs ps).1 (putAll ks vs ps).2 us' := by
  induction x with
  | nil => intro xs ks vs us D; exact ⟨us, D⟩
  | @cons k p r t b v u T h1 h2 h3 h4 h5 _ ih =>
    intro xs ks vs us D
    obtain ⟨us', D'⟩ := D.put h2 h3 h4 h5
    obtain ⟨us2, D2⟩ := ih D'
    refine ⟨us2, ?_⟩
    show DSo c F H (storedAllH (storedH xs (keyOf k) b u) (keyedT r T)) (putAll ks vs ((k, p) :: r)).1 (putAll ks vs ((k, p) :: r)).2 us2
    rw [putAll]
    cases q : kIx ks k with
    | some i => rw [q] at D2; exact D2
    | none => rw [q] at D2; exact D2
theorem prs_at {pins : List (Addr × Obj)} {σr : St} {F : Addr → Prop} {H : Hp} {s : Shared} (I : Inv X pins σr H s) : ∀ {xs : List PV} {us : List V} {its : List Value} {ps : List (PV × PV)}, RFs (cnE LT X ce) F H xs us → Vals us its → prsOf xs = some ps →
    ∃ T, PrR (cnE LT X ce) F H s.heap ps T ∧ its = T.map fun t => Value.ref t.1
  | [], _, _, _, r, rv, e => by
    unfold RFs at r; subst r
    cases rv
    rw [prsOf] at e; cases e
    exact ⟨[], .nil, rfl⟩
  | x :: xs, _, _, ps, r, rv, e => by
    unfold RFs at r
    obtain ⟨u, r', rfl, h1, h2⟩ := r
    cases rv with
    | @cons _ w _ ws rw1 rvs =>
      unfold prsOf at e
      split at e
      · rename_i heq; cases heq
      · rename_i k v tl heq
        cases heq
        split at e
        · rename_i ok
          obtain ⟨ps', e1, rfl⟩ := Option.map_eq_some_iff.mp e
          obtain ⟨T, hT, eT⟩ := prs_at I h2 rvs e1
          unfold RF at h1
          obtain ⟨t, us2, rfl, st, rs2⟩ := h1
          cases rw1
          unfold RFs at rs2
          obtain ⟨u1, r1, rfl, rk, rs2⟩ := rs2
          unfold RFs at rs2
          obtain ⟨u2, r2, rfl, rp, rs2⟩ := rs2
          unfold RFs at rs2
          subst rs2
          obtain ⟨b, rfl⟩ := key_ref ok rk
          obtain ⟨its2, rv2, ht, hz⟩ := I.tuple st
          cases rv2 with
          | cons q1 rv2 =>
            cases rv2 with
            | cons q2 rv2 =>
              cases rv2
              cases q1
              refine ⟨(t, b, _) :: T, .cons (.inl ?_) ok rk rp q2 hT, by rw [List.map_cons, ← eT]⟩
              obtain ⟨o, ho, hc, n, hd⟩ := ht
              exact ⟨o, ho, hc, n, by simpa using hd⟩
        · cases e
      · cases e
theorem cr_dict (hc : X.calm = true) (hu : X.A.units + 65 < cLine) : CallR X (.type "dict") (rDict (cnE LT X ce)) := by
  intro pins s σ H vs us Q I rv h
  obtain ⟨F, a, ys, xs, ps, rfl, h1, r1, e, hz, q⟩ := h
  obtain ⟨u, rfl, ru⟩ := vals1 rv
  obtain rfl : u = Value.ref a := ru
  obtain ⟨its, rv2, pl, _⟩ := I.list h1
  obtain ⟨T, hT, rfl⟩ := prs_at I r1 rv2 e
  have hl := hT.length
  have hkl : (keyedT ps T).length = T.length := by
    unfold keyedT
    rw [List.length_zipWith, hl, Nat.min_self]
  have pget : ∀ {j : Nat} {k v : Value}, (T.map fun t => (Value.ref t.2.1, t.2.2))[j]? = some (k, v) → ∃ t, T[j]? = some t ∧ k = .ref t.2.1 ∧ v = t.2.2 := by
    intro j k v hj
    rw [List.getElem?_map] at hj
    obtain ⟨t, h2, h3⟩ := Option.map_eq_some_iff.mp hj
    cases h3
    exact ⟨t, h2, rfl, rfl⟩
  have kget : ∀ {j : Nat} {t : Addr × Addr × Value}, T[j]? = some t → ∃ p, ps[j]? = some p ∧ (keyedT ps T)[j]? = some (keyOf p.1, t.2.1, t.2.2) ∧ kOk p.1 = true ∧ RF (cnE LT X ce) F H p.1 (.ref t.2.1) := by
    intro j t hj
    obtain ⟨p, h2, _, h3, h4⟩ := hT.get hj
    refine ⟨p, h2, ?_, h3, h4⟩
    unfold keyedT
    rw [List.getElem?_zipWith, h2, hj]
  have hsz : (T.map fun t => (Value.ref t.2.1, t.2.2)).length ≤ sizeLine := by
    rw [List.length_map, ← hl]
    have := szL_eq
    omega
  refine call_dict_pairsH (knd := nestedKind X.prog X.w) (ps := keyedT ps T) (PairArg.list a (T.map fun t => Value.ref t.1).toArray (fun j => (T.getD j (0, 0, .none)).1) (T.map fun t => (Value.ref t.2.1, t.2.2))) (I.ok.hd hc)
    (show X.A.in1.in1.units + 8 < cLine by rw [Around.in1_units, Around.in1_units]; omega) ⟨⟨pl.choose, pl.choose_spec.choose, pl.choose_spec.choose_spec.1, pl.choose_spec.choose_spec.2.1, pl.choose_spec.choose_spec.2.2.1, pl.choose_spec.choose_spec.2.2.2⟩, ?_, ?_⟩ ⟨?_, ?_⟩ ?_ hsz ?_
  · simp
  · intro j k v hj
    obtain ⟨t, h2, rfl, rfl⟩ := pget hj
    have ed : T.getD j (0, 0, .none) = t := by rw [List.getD_eq_getElem?_getD, h2]; rfl
    obtain ⟨p, _, pa, _⟩ := hT.get h2
    refine ⟨?_, by show PairAt _ (T.getD j (0, 0, .none)).1 _ _; rw [ed]; exact pa⟩
    show _ = some (Value.ref (T.getD j (0, 0, .none)).1)
    rw [ed, List.getElem?_toArray, List.getElem?_map, h2]; rfl
  · rw [hkl, List.length_map]
  · intro j k v hj
    obtain ⟨t, h2, rfl, rfl⟩ := pget hj
    obtain ⟨p, _, h3, _⟩ := kget h2
    exact ⟨_, _, h3, rfl⟩
  · intro h' hk x hx
    obtain ⟨j, hj, ej⟩ := List.mem_iff_getElem.mp hx
    have h2 : T[j]? = some (T[j]'(by omega)) := List.getElem?_eq_getElem (by omega)
    obtain ⟨p, _, h3, ok, rk⟩ := kget h2
    rw [List.getElem?_eq_getElem hj, ej] at h3
    cases h3
    exact nestedKind_stays.stays (fun b o vs n hb _ => hk b o (Nat.ne_of_lt (Heap.lt_size hb)) (by simp) hb) (key_is I ok rk)
  · intro h' tk hd hk
    obtain ⟨ob, es, ep, hg, hx, hdt, hel, _, hnd⟩ := hd
    have n : H s.heap.objs.size = none := I.hok.fresh (Nat.le_refl _)
    have kp := upd_keeps (o := .ext fun h => h.get? s.heap.objs.size = some ob) n
    obtain ⟨us', D⟩ := (hT.keep kp).put (xs := []) (ks := []) (vs := []) (us := []) ⟨List.nodup_nil, ⟨rfl, fun _ z => nomatch z⟩, RFs.nil_, RFs.nil_, .nil⟩
    have hlen : (storedAllH [] (keyedT ps T)).length ≤ sizeLine := by
      have := storedAllH_length (keyedT ps T) ([] : DX)
      rw [List.length_map] at hsz
      simp only [List.length_nil, Nat.zero_add] at this
      omega
    refine ⟨.ref s.heap.objs.size, _, I.laid (a := s.heap.objs.size) (o := .ext fun h => h.get? s.heap.objs.size = some ob) (t' := tk) (fun b o e => hk b o (by simp) e) (Nat.le_refl _) ⟨hg, ⟨_, hg⟩, fun h1 h2 q k => k _ q⟩, rfl, q _ _ n ?_⟩
    exact ⟨_, us', ⟨beq_eq_false_iff_ne.mpr (Ne.symm (Nat.ne_of_lt I.big)), hnd, hlen, ob, es, ep, upd_same, hx, hdt, hel⟩, D.kk, D.rk, D.rv, D.vv⟩
end
end L2.Zz

/-! Z66: a dict display of one entry, its key a tuple. -/
namespace L2.Zz
open PySem PySem.Spec PyProof.Rows
variable {LT : LTab} {ce : List (Str × Addr)}
/-- {k: v} -/
def dDct1 (dk dv : DE) : DE := fun σ => (dk σ).bind fun rk σ1 => (dv σ1).bind fun rv σ2 => match rk, rv with
  | .val k, .val v => if kOk k = true then .ok (.new (.dct [k] [v])) σ2 else .no
  | _, _ => .no
section
variable {X : Cx} {W : WX} {ke ve : Expr} {pos : Pos}
/-- what stands at d behind the display -/
def tDct1 (LT : LTab) (X : Cx) (tk tv : TE) : TE := fun σ H Q => ∀ d ob0, H d = none → DcA (cnE LT X []) (upd H d ob0) d [] → tk σ (upd H d ob0) fun x H1 => tv σ H1 fun y H2 => ∃ F k b p, x = .ref b ∧ kOk k = true ∧ RF (cnE LT X []) F H2 k (.ref b) ∧ RF (cnE LT X []) F H2 p y ∧
  ¬ F d ∧ H2 d = some ob0 ∧ ∀ ob, RO (cnE LT X []) F (upd H2 d ob) (.dct [k] [p]) d → Q (.ref d) (upd H2 d ob)
theorem pe_dct1 {tk tv : TE} (hu : X.A.units + 65 < cLine) (hk : PE X ke tk) (hv : PE X ve tv) : PE X (.Dict [some ke] [ve] pos) (tDct1 LT X tk tv) := by
  constructor
  intro pins s σ H Q I h
  have hshape : (evalEachOpt [some ke] X.env).zip ((evalEach [ve] X.env).map fun v => do let x ← v; standAt pos; pure x) = [(eval ke X.env, do let x ← eval ve X.env; standAt pos; pure x)].map fun p => (some p.1, p.2) := rfl
  rw [arm_eval_Dict, hshape, dictDisplay_pairs _ (by simp) (by simp)]
  have room : (nestedKind X.prog X.w).room X.A := show X.A.units + 8 < cLine by omega
  refine wpAny_bind (wpAny_standAt (wpAny_bind (wpAny_subDictH (knd := nestedKind X.prog X.w) room (by simp) ?_)))
  have n : H s.heap.objs.size = none := I.hok.fresh (Nat.le_refl _)
  have g0 : (s.heap.push { cls := .type "dict", data := .dict #[] }).get? s.heap.objs.size = some { cls := .type "dict", data := .dict #[] } := Heap.get?_push_size _ rfl
  have I0 : Inv X pins σ (upd H s.heap.objs.size (.ext fun h => h.get? s.heap.objs.size = some { cls := .type "dict", data := .dict #[] })) { s with heap := s.heap.push { cls := .type "dict", data := .dict #[] } } :=
    I.laid (a := s.heap.objs.size) (o := .ext fun h => h.get? s.heap.objs.size = some { cls := .type "dict", data := .dict #[] }) (t' := s.toks) (fun _ _ q => Heap.get?_push_of_some _ q) (Nat.le_refl _) ⟨g0, ⟨_, g0⟩, fun h1 h2 q k => k _ q⟩
  have hd := h s.heap.objs.size (.ext fun h => h.get? s.heap.objs.size = some { cls := .type "dict", data := .dict #[] }) n ⟨beq_eq_false_iff_ne.mpr (Ne.symm (Nat.ne_of_lt I.big)), List.nodup_nil, Nat.zero_le _, _, #[], 0, upd_same, ⟨rfl, rfl, rfl⟩, rfl, rfl⟩
  unfold evalPairs
  refine wpAny_bind (thn (hk.run pins _ σ _ _ I0 hd) ?_)
  rintro kv s1 ⟨x, H1, I1, r1, h1⟩
  refine wpAny_bind (wpAny_holding (wpAny_bind (thn (hv.run pins s1 σ H1 _ I1 h1) ?_)))
  rintro vv s2 ⟨y, H2, I2, r2, F, k, b, p, rfl, ok, rk, rp, nF, e0, q⟩
  refine wpAny_bind (wpAny_standAt (wpAny_pure ?_))
  unfold evalPairs
  refine wpAny_bind (wpAny_holding (wpAny_pure (wpAny_pure ?_)))
  cases (show kv = Value.ref b from r1)
  have hg : s2.heap.get? s.heap.objs.size = some { cls := .type "dict", data := .dict #[] } := (show ObjOk X.prog X.w H2 s2.heap s.heap.objs.size (.ext fun h => h.get? s.heap.objs.size = some { cls := .type "dict", data := .dict #[] }) from I2.hok _ _ e0).1
  have dd : s2.heap.DictOfH (nestedKind X.prog X.w) s.heap.objs.size [] := ⟨_, #[], 0, hg, ⟨rfl, rfl, rfl⟩, rfl, rfl, (fun x hx => absurd hx List.not_mem_nil), List.nodup_nil⟩
  refine ⟨[(keyOf k, b, vv)], ⟨rfl, rfl, key_is I2 ok rk, trivial⟩, dd, fun h' tk hd' sb => ?_⟩
  obtain ⟨ob, es, ep, hg', hx, hdt, hel, _, hnd⟩ := hd'
  have D0 : DSo (cnE LT X []) F H2 [] [] [] [] := ⟨List.nodup_nil, ⟨rfl, fun _ z => nomatch z⟩, RFs.nil_, RFs.nil_, .nil⟩
  obtain ⟨us', D⟩ := D0.put ok rk rp r2
  have kp : ∀ c u, H2 c = some u → (F c ∨ Stl u) → upd H2 s.heap.objs.size (.ext fun h => h.get? s.heap.objs.size = some ob) c = some u := fun c u e z => by
    rw [upd_ne (fun y => ?_)]
    · exact e
    · subst y
      rw [e0] at e; cases e
      rcases z with z | z
      · exact nF z
      · exact z
  have e1 : kIx [] k = none := rfl
  rw [e1] at D
  refine wpAny_pure ⟨.ref s.heap.objs.size, _, I2.write (x := s.heap.objs.size) (e := s.heap.objs.size) (o := .ext fun h => h.get? s.heap.objs.size = some ob) (t' := tk) (by rw [e0]; exact True.intro) (.inl rfl) (fun c u hb z => (sb.2 c hb).trans z) ⟨_, hg'⟩ ⟨hg', ⟨_, hg'⟩, fun h1 h2 z k => k _ z⟩, rfl, q _ ?_⟩
  refine ⟨_, us', ⟨beq_eq_false_iff_ne.mpr (Ne.symm (Nat.ne_of_lt I.big)), hnd, ?_, ob, es, ep, upd_same, hx, hdt, hel⟩, D.kk, RFs.ext (fun _ f => f) kp _ _ D.rk, RFs.ext (fun _ f => f) kp _ _ D.rv, D.vv⟩
  show 1 ≤ sizeLine
  decide
theorem z_dct1 {dk dv : DE} (hu : X.A.units + 65 < cLine) (hk : PE X ke (EV (cnE LT X ce) W dk)) (hv : PE X ve (EV (cnE LT X ce) W dv)) : PE X (.Dict [some ke] [ve] pos) (EV (cnE LT X ce) W (dDct1 dk dv)) := PE.wk (pe_dct1 hu hk hv) fun σr H Q q => by
  obtain ⟨F, la, σ, S, f⟩ := q
  intro d ob0 n dca
  have k := upd_keeps (o := ob0) n
  obtain ⟨n1, n2⟩ := S.fresh n
  have S0 := S.keeps k
  have x0 : Ex ⟨F, H, Ow σ σr la⟩ ⟨F, upd H d ob0, Ow σ σr la⟩ := Ex.keeps k
  have er0 : ER (cnE LT X ce) F la (Ow σ σr la) (Nw ⟨F, H, Ow σ σr la⟩) σr (upd H d ob0) (.new (.dct [] [])) (.ref d) := ⟨d, rfl, ⟨[], [], dca, ⟨rfl, fun _ z => nomatch z⟩, RFs.nil_, RFs.nil_, .nil⟩, n1, n2, .inr n⟩
  have isx : ∃ ob, ob0 = .ext ob := by
    obtain ⟨_, _, _, ob, _, _, e, _⟩ := dca
    rw [upd_same] at e
    exact ⟨_, Option.some.inj e⟩
  refine EV.seq S0 x0 f fun F1 σ1 r1 v1 H1 x1 S1 e1 f1 => ?_
  refine EV.seq S1 (x0.trans x1) f1 fun F2 σ2 r2 v2 H2 x2 S2 e2 f2 => ?_
  cases r1 with
  | val kk =>
    cases r2 with
    | val p =>
      obtain ⟨ok, f3⟩ := fin_if (show Fin (cnE LT X ce) W la σr ⟨F, H, Ow σ σr la⟩ (if kOk kk = true then .ok (.new (.dct [kk] [p])) σ2 else .no) (PE0 (cnE LT X ce) la σr ⟨F, H, Ow σ σr la⟩ Q) from f2)
      have e1' : RF (cnE LT X ce) F2 H2 kk v1 := RF.ext x2.fr (Ex.keep S1 x2) _ _ e1
      obtain ⟨b, rfl⟩ := key_ref ok e1'
      have er2 := ER.ext S0 (x1.trans x2) er0
      obtain ⟨a, ea, ro, nF, _, wrk⟩ := wr_at (q := .dct [kk] [p]) S2 ((x0.trans x1).trans x2) er2 rfl rfl
      cases ea
      have e0 : H2 d = some ob0 := by
        obtain ⟨ob, rfl⟩ := isx
        exact (x1.trans x2).kp d (.ext ob) upd_same n2 fun _ z => nomatch z
      refine ⟨F2, kk, b, p, rfl, ok, e1', e2, nF, e0, fun ob ro2 => ?_⟩
      obtain ⟨x3, S3⟩ := wrk ob ro2
      refine f3 F2 _ x3 S3 _ ⟨d, rfl, ro2, nF, fun z => ?_, .inr n⟩
      rcases (x1.trans x2).ow d z with z | z
      · exact n2 z
      · have z : upd H d ob0 d = none := z
        rw [upd_same] at z
        cases z
    | _ => exact f2.elim
  | _ => cases r2 <;> exact f2.elim
end
end L2.Zz

/-! Z67: list(range(..)). -/
namespace L2.Zz
open PySem PySem.Spec PyProof.Rows
variable {LT : LTab} {ce : List (Str × Addr)}
def rgP (a b : Int) : List PV := ((List.range (b - a).toNat).map fun i => a + Int.ofNat i).map PV.int
def rgB (a b : Int) : Bool := decide (-4611686018427387904 ≤ a) && decide (a < 4611686018427387904) && decide (-4611686018427387904 ≤ b) && decide (b < 4611686018427387904) && decide ((b - a).toNat ≤ 16777216)
theorem rgB_ok {a b : Int} (h : rgB a b = true) : RgOk a b := by
  unfold rgB at h
  simp only [Bool.and_eq_true, decide_eq_true_eq] at h
  obtain ⟨⟨⟨⟨h1, h2⟩, h3⟩, h4⟩, h5⟩ := h
  exact ⟨by omega, by omega, by omega, by omega, by omega⟩
def dLRg1 (d : DE) : DE := fun σ => (d σ).bind fun r σ1 => match r with
  | .val (.int n) => if rgB 0 n = true then .ok (.new (.lst (rgP 0 n))) σ1 else .no
  | _ => .no
def dLRg2 (d e : DE) : DE := fun σ => (d σ).bind fun r σ1 => (e σ1).bind fun r' σ2 => match r, r' with
  | .val (.int m), .val (.int n) => if rgB m n = true then .ok (.new (.lst (rgP m n))) σ2 else .no
  | _, _ => .no
theorem rf_rg {c : Cb} {F : Addr → Prop} {H : Hp} {a b : Int} : RFs c F H (rgP a b) (rgV a b) := by
  have e : rgV a b = ((List.range (b - a).toNat).map fun i => a + Int.ofNat i).map V.int := by
    unfold rgV
    rw [List.map_map]
    rfl
  rw [e]
  exact RFs.ints _
section
variable {X : Cx} {W : WX} {a b : Expr} {p pos p2 pos2 : Pos} {d e : DE}
theorem z_lRg1 (hc : X.calm = true) (hg : Gl X "list") (hm : X.mg "list" = none) (hg2 : Gl X "range") (hm2 : X.mg "range" = none) (ha : PE X a (EV (cnE LT X ce) W d)) (na : starEach [a] X.env = (false, eval a X.env) :: starEach [] X.env := by rfl)
    (nb : starEach [(.Call (.Name "range" p2) [a] [] pos2 : Expr)] X.env = (false, eval (.Call (.Name "range" p2) [a] [] pos2 : Expr) X.env) :: starEach [] X.env := by rfl) : PE X (.Call (.Name "list" p) [.Call (.Name "range" p2) [a] [] pos2] [] pos) (EV (cnE LT X ce) W (dLRg1 d)) :=
  PE.wk (pe_listRg hc hg hm (prg_1 hg2 hm2 ha na) nb) fun σr H Q q => by
    obtain ⟨F, la, σ, S, f⟩ := q
    refine EV.seq S (Ex.refl _) f fun F1 σ1 r v H1 x1 S1 e1 f1 => ?_
    cases r with
    | val pv =>
      cases pv with
      | int n =>
        obtain ⟨hr, f2⟩ := fin_if (show Fin (cnE LT X ce) W la σr ⟨F, H, Ow σ σr la⟩ (if rgB 0 n = true then .ok (.new (.lst (rgP 0 n))) σ1 else .no) (PE0 (cnE LT X ce) la σr ⟨F, H, Ow σ σr la⟩ Q) from f1)
        have e1 : RF (cnE LT X ce) F1 H1 (.int n) v := e1
        unfold RF at e1
        exact ⟨n, e1, rgB_ok hr, fun q hq => ot_fin (o := .l (rgP 0 n)) S1 x1 f2 q _ hq rf_rg⟩
      | _ => exact f1.elim
    | _ => exact f1.elim
theorem z_lRg2 (hc : X.calm = true) (hg : Gl X "list") (hm : X.mg "list" = none) (hg2 : Gl X "range") (hm2 : X.mg "range" = none) (ha : PE X a (EV (cnE LT X ce) W d)) (hb : PE X b (EV (cnE LT X ce) W e)) (na : starEach [a, b] X.env = (false, eval a X.env) :: starEach [b] X.env := by rfl)
    (nb : starEach [b] X.env = (false, eval b X.env) :: starEach [] X.env := by rfl) (hp : (backTo pos2 (starEach [b] X.env)).any (·.1) = false := by rfl)
    (nc : starEach [(.Call (.Name "range" p2) [a, b] [] pos2 : Expr)] X.env = (false, eval (.Call (.Name "range" p2) [a, b] [] pos2 : Expr) X.env) :: starEach [] X.env := by rfl) : PE X (.Call (.Name "list" p) [.Call (.Name "range" p2) [a, b] [] pos2] [] pos) (EV (cnE LT X ce) W (dLRg2 d e)) :=
  PE.wk (pe_listRg hc hg hm (prg_2 hg2 hm2 ha hb na nb hp) nc) fun σr H Q q => by
    obtain ⟨F, la, σ, S, f⟩ := q
    refine EV.seq S (Ex.refl _) f fun F1 σ1 r v H1 x1 S1 e1 f1 => ?_
    refine EV.seq S1 x1 f1 fun F2 σ2 r' v' H2 x2 S2 e2 f2 => ?_
    cases r with
    | val pv =>
      cases pv with
      | int m =>
        cases r' with
        | val pv' =>
          cases pv' with
          | int n =>
            obtain ⟨hr, f3⟩ := fin_if (show Fin (cnE LT X ce) W la σr ⟨F, H, Ow σ σr la⟩ (if rgB m n = true then .ok (.new (.lst (rgP m n))) σ2 else .no) (PE0 (cnE LT X ce) la σr ⟨F, H, Ow σ σr la⟩ Q) from f2)
            have e1 : RF (cnE LT X ce) F1 H1 (.int m) v := e1
            have e2 : RF (cnE LT X ce) F2 H2 (.int n) v' := e2
            unfold RF at e1 e2
            exact ⟨m, n, e1, e2, rgB_ok hr, fun q hq => ot_fin (o := .l (rgP m n)) S2 (x1.trans x2) f3 q _ hq rf_rg⟩
          | _ => exact f2.elim
        | _ => exact f2.elim
      | _ => cases r' <;> exact f2.elim
    | _ => cases r' <;> exact f2.elim
end
end L2.Zz

namespace Kx
open PySem PySem.Spec PyProof.Rows L2 L2.Zz
/-! ### the text -/
def topS (i : Nat) : Stmt := PySem.Challenge.pw_closecells_k08_what_hulls_refuse.main.body.getD i (.Pass ⟨0, 0, 0, 0⟩)
abbrev s_turn : Stmt := topS 21
abbrev N_turn : List Str := ["a", "b", "c"]
theorem sc_turn : FnScope N_turn ["a", "b", "c"] (defScope s_turn) := ⟨rfl, rfl, rfl, by decide +kernel, rfl, by decide +kernel, by decide +kernel⟩
abbrev s_chain_of : Stmt := topS 26
abbrev N_chain_of : List Str := ["sites", "found", "site"]
theorem sc_chain_of : FnScope N_chain_of ["sites"] (defScope s_chain_of) := ⟨rfl, rfl, rfl, by decide +kernel, rfl, by decide +kernel, by decide +kernel⟩
abbrev s_border_of : Stmt := topS 25
abbrev N_border_of : List Str := ["sites", "lower", "upper"]
theorem sc_border_of : FnScope N_border_of ["sites"] (defScope s_border_of) := ⟨rfl, rfl, rfl, by decide +kernel, rfl, by decide +kernel, by decide +kernel⟩
abbrev s_is_integer : Stmt := topS 6
abbrev N_is_integer : List Str := ["value"]
theorem sc_is_integer : FnScope N_is_integer ["value"] (defScope s_is_integer) := ⟨rfl, rfl, rfl, by decide +kernel, rfl, by decide +kernel, by decide +kernel⟩
abbrev s_is_between : Stmt := topS 7
abbrev N_is_between : List Str := ["value", "low", "high"]
theorem sc_is_between : FnScope N_is_between ["value", "low", "high"] (defScope s_is_between) := ⟨rfl, rfl, rfl, by decide +kernel, rfl, by decide +kernel, by decide +kernel⟩
abbrev s_is_site : Stmt := topS 14
abbrev N_is_site : List Str := ["value", "one"]
theorem sc_is_site : FnScope N_is_site ["value"] (defScope s_is_site) := ⟨rfl, rfl, rfl, by decide +kernel, rfl, by decide +kernel, by decide +kernel⟩
abbrev s_check_sites : Stmt := topS 18
abbrev N_check_sites : List Str := ["value", "known", "at", "item"]
theorem sc_check_sites : FnScope N_check_sites ["value"] (defScope s_check_sites) := ⟨rfl, rfl, rfl, by decide +kernel, rfl, by decide +kernel, by decide +kernel⟩
abbrev s_border : Stmt := topS 37
abbrev N_border : List Str := ["sites"]
theorem sc_border : FnScope N_border ["sites"] (defScope s_border) := ⟨rfl, rfl, rfl, by decide +kernel, rfl, by decide +kernel, by decide +kernel⟩
abbrev s_double_hull : Stmt := topS 38
abbrev N_double_hull : List Str := ["sites", "found", "at"]
theorem sc_double_hull : FnScope N_double_hull ["sites"] (defScope s_double_hull) := ⟨rfl, rfl, rfl, by decide +kernel, rfl, by decide +kernel, by decide +kernel⟩
abbrev s_is_flat : Stmt := topS 34
abbrev N_is_flat : List Str := ["ring", "site"]
theorem sc_is_flat : FnScope N_is_flat ["ring"] (defScope s_is_flat) := ⟨rfl, rfl, rfl, by decide +kernel, rfl, by decide +kernel, by decide +kernel⟩
abbrev s_corners_of : Stmt := topS 35
abbrev N_corners_of : List Str := ["ring", "many", "at"]
theorem sc_corners_of : FnScope N_corners_of ["ring"] (defScope s_corners_of) := ⟨rfl, rfl, rfl, by decide +kernel, rfl, by decide +kernel, by decide +kernel⟩
abbrev s_hull : Stmt := topS 36
abbrev N_hull : List Str := ["sites"]
theorem sc_hull : FnScope N_hull ["sites"] (defScope s_hull) := ⟨rfl, rfl, rfl, by decide +kernel, rfl, by decide +kernel, by decide +kernel⟩
abbrev s_layers : Stmt := topS 39
abbrev N_layers : List Str := ["sites", "rest", "found", "known", "site"]
theorem sc_layers : FnScope N_layers ["sites"] (defScope s_layers) := ⟨rfl, rfl, rfl, by decide +kernel, rfl, by decide +kernel, by decide +kernel⟩
abbrev s_extreme : Stmt := topS 46
abbrev N_extreme : List Str := ["sites", "direction", "u", "v", "best", "site", "one"]
theorem sc_extreme : FnScope N_extreme ["sites", "direction"] (defScope s_extreme) := ⟨rfl, rfl, rfl, by decide +kernel, rfl, by decide +kernel, by decide +kernel⟩
abbrev s_check_member : Stmt := topS 19
abbrev N_check_member : List Str := ["argument", "sites", "value"]
theorem sc_check_member : FnScope N_check_member ["argument", "sites", "value"] (defScope s_check_member) := ⟨rfl, rfl, rfl, by decide +kernel, rfl, by decide +kernel, by decide +kernel⟩
abbrev s_layer_of : Stmt := topS 40
abbrev N_layer_of : List Str := ["sites", "site", "layer"]
theorem sc_layer_of : FnScope N_layer_of ["sites", "site"] (defScope s_layer_of) := ⟨rfl, rfl, rfl, by decide +kernel, rfl, by decide +kernel, by decide +kernel⟩
abbrev s_check_site : Stmt := topS 16
abbrev N_check_site : List Str := ["argument", "value"]
theorem sc_check_site : FnScope N_check_site ["argument", "value"] (defScope s_check_site) := ⟨rfl, rfl, rfl, by decide +kernel, rfl, by decide +kernel, by decide +kernel⟩
abbrev s_seen_of : Stmt := topS 44
abbrev N_seen_of : List Str := ["found", "site", "many", "sides", "there", "marks", "first", "at", "order", "a", "b"]
theorem sc_seen_of : FnScope N_seen_of ["found", "site"] (defScope s_seen_of) := ⟨rfl, rfl, rfl, by decide +kernel, rfl, by decide +kernel, by decide +kernel⟩
abbrev s_seen_sides : Stmt := topS 45
abbrev N_seen_sides : List Str := ["sites", "site"]
theorem sc_seen_sides : FnScope N_seen_sides ["sites", "site"] (defScope s_seen_sides) := ⟨rfl, rfl, rfl, by decide +kernel, rfl, by decide +kernel, by decide +kernel⟩
abbrev s_common : Stmt := topS 8
abbrev N_common : List Str := ["a", "b"]
theorem sc_common : FnScope N_common ["a", "b"] (defScope s_common) := ⟨rfl, rfl, rfl, by decide +kernel, rfl, by decide +kernel, by decide +kernel⟩
abbrev s_is_place : Stmt := topS 15
abbrev N_is_place : List Str := ["value", "x", "y", "d", "one"]
theorem sc_is_place : FnScope N_is_place ["value"] (defScope s_is_place) := ⟨rfl, rfl, rfl, by decide +kernel, rfl, by decide +kernel, by decide +kernel⟩
abbrev s_check_place : Stmt := topS 17
abbrev N_check_place : List Str := ["argument", "value"]
theorem sc_check_place : FnScope N_check_place ["argument", "value"] (defScope s_check_place) := ⟨rfl, rfl, rfl, by decide +kernel, rfl, by decide +kernel, by decide +kernel⟩
abbrev s_lean_of : Stmt := topS 41
abbrev N_lean_of : List Str := ["a", "b", "place", "x", "y", "d"]
theorem sc_lean_of : FnScope N_lean_of ["a", "b", "place"] (defScope s_lean_of) := ⟨rfl, rfl, rfl, by decide +kernel, rfl, by decide +kernel, by decide +kernel⟩
abbrev s_on_row : Stmt := topS 42
abbrev N_on_row : List Str := ["found", "place", "x", "y", "d", "first", "last", "dots"]
theorem sc_on_row : FnScope N_on_row ["found", "place"] (defScope s_on_row) := ⟨rfl, rfl, rfl, by decide +kernel, rfl, by decide +kernel, by decide +kernel⟩
abbrev s_sign : Stmt := topS 9
abbrev N_sign : List Str := ["value"]
theorem sc_sign : FnScope N_sign ["value"] (defScope s_sign) := ⟨rfl, rfl, rfl, by decide +kernel, rfl, by decide +kernel, by decide +kernel⟩
abbrev s_where : Stmt := topS 43
abbrev N_where : List Str := ["sites", "place", "found", "at"]
theorem sc_where : FnScope N_where ["sites", "place"] (defScope s_where) := ⟨rfl, rfl, rfl, by decide +kernel, rfl, by decide +kernel, by decide +kernel⟩
abbrev s_sides_of : Stmt := topS 29
abbrev N_sides_of : List Str := ["corners", "at"]
theorem sc_sides_of : FnScope N_sides_of ["corners"] (defScope s_sides_of) := ⟨rfl, rfl, rfl, by decide +kernel, rfl, by decide +kernel, by decide +kernel⟩
abbrev s_Subdivision_pairs_joined : Stmt := (clsBody (topS 31)).getD 2 s0
abbrev N_Subdivision_pairs_joined : List Str := ["self", "found", "a", "b", "face"]
theorem sc_Subdivision_pairs_joined : FnScope N_Subdivision_pairs_joined ["self"] (defScope s_Subdivision_pairs_joined) := ⟨rfl, rfl, rfl, by decide +kernel, rfl, by decide +kernel, by decide +kernel⟩
abbrev s_power : Stmt := topS 22
abbrev N_power : List Str := ["a", "b", "c", "d", "rows", "ax", "ay", "bx", "by", "cx", "cy", "lifts", "one", "x", "y"]
theorem sc_power : FnScope N_power ["a", "b", "c", "d"] (defScope s_power) := ⟨rfl, rfl, rfl, by decide +kernel, rfl, by decide +kernel, by decide +kernel⟩
abbrev s_inside : Stmt := topS 23
abbrev N_inside : List Str := ["a", "b", "c", "d"]
theorem sc_inside : FnScope N_inside ["a", "b", "c", "d"] (defScope s_inside) := ⟨rfl, rfl, rfl, by decide +kernel, rfl, by decide +kernel, by decide +kernel⟩
abbrev s_turned_left : Stmt := topS 28
abbrev N_turned_left : List Str := ["corners", "rest", "first", "last", "lower", "upper", "site"]
theorem sc_turned_left : FnScope N_turned_left ["corners"] (defScope s_turned_left) := ⟨rfl, rfl, rfl, by decide +kernel, rfl, by decide +kernel, by decide +kernel⟩
abbrev s_face_left : Stmt := topS 27
abbrev N_face_left : List Str := ["sites", "a", "b", "best", "site", "corners"]
theorem sc_face_left : FnScope N_face_left ["sites", "a", "b"] (defScope s_face_left) := ⟨rfl, rfl, rfl, by decide +kernel, rfl, by decide +kernel, by decide +kernel⟩
abbrev s_faces_of : Stmt := topS 30
abbrev N_faces_of : List Str := ["sites", "border", "found", "known", "waiting", "a", "b", "face", "side", "at"]
theorem sc_faces_of : FnScope N_faces_of ["sites"] (defScope s_faces_of) := ⟨rfl, rfl, rfl, by decide +kernel, rfl, by decide +kernel, by decide +kernel⟩
abbrev s_Subdivision_init : Stmt := (clsBody (topS 31)).getD 0 s0
abbrev N_Subdivision_init : List Str := ["self", "sites", "row", "site"]
theorem sc_Subdivision_init : FnScope N_Subdivision_init ["self", "sites"] (defScope s_Subdivision_init) := ⟨rfl, rfl, rfl, by decide +kernel, rfl, by decide +kernel, by decide +kernel⟩
abbrev s_law_deep : Stmt := topS 54
abbrev N_law_deep : List Str := ["_law_found", "_law_turn_so"]
theorem sc_law_deep : FnScope N_law_deep [] (defScope s_law_deep) := ⟨rfl, rfl, rfl, by decide +kernel, rfl, by decide +kernel, by decide +kernel⟩
abbrev s_law_purse : Stmt := topS 50
abbrev N_law_purse : List Str := ["_law_figure"]
theorem sc_law_purse : FnScope N_law_purse ["_law_figure"] (defScope s_law_purse) := ⟨rfl, rfl, rfl, by decide +kernel, rfl, by decide +kernel, by decide +kernel⟩
abbrev s_law_said : Stmt := topS 53
abbrev N_law_said : List Str := ["_law_ask", "e"]
theorem sc_law_said : FnScope N_law_said ["_law_ask"] (defScope s_law_said) := ⟨rfl, rfl, rfl, by decide +kernel, rfl, by decide +kernel, by decide +kernel⟩
abbrev s_Desk_init : Stmt := (clsBody (topS 48)).getD 0 s0
abbrev N_Desk_init : List Str := ["self"]
theorem sc_Desk_init : FnScope N_Desk_init ["self"] (defScope s_Desk_init) := ⟨rfl, rfl, rfl, by decide +kernel, rfl, by decide +kernel, by decide +kernel⟩
abbrev s_law_coin : Stmt := topS 51
abbrev N_law_coin : List Str := ["_law_purse_here", "_law_many", "_law_got_so", "_law_hashed"]
theorem sc_law_coin : FnScope N_law_coin ["_law_purse_here", "_law_many"] (defScope s_law_coin) := ⟨rfl, rfl, rfl, by decide +kernel, rfl, by decide +kernel, by decide +kernel⟩
abbrev s_law_pick : Stmt := topS 52
abbrev N_law_pick : List Str := ["_law_purse_here", "_law_some"]
theorem sc_law_pick : FnScope N_law_pick ["_law_purse_here", "_law_some"] (defScope s_law_pick) := ⟨rfl, rfl, rfl, by decide +kernel, rfl, by decide +kernel, by decide +kernel⟩
abbrev s_law_wrong : Stmt := topS 55
abbrev N_law_wrong : List Str := ["_law_purse_here", "_law_some", "_law_odd", "_law_good", "_law_rows_so", "_law_k"]
theorem sc_law_wrong : FnScope N_law_wrong ["_law_purse_here"] (defScope s_law_wrong) := ⟨rfl, rfl, rfl, by decide +kernel, rfl, by decide +kernel, by decide +kernel⟩
abbrev s_law : Stmt := topS 56
abbrev N_law : List Str := ["_law_script", "_law_figure", "_law_purse_here", "_law_some", "_law_at", "_law_ask", "_law_good", "_law_deep_here", "_law_sub", "_law_odd"]
theorem sc_law : FnScope N_law ["_law_script"] (defScope s_law) := ⟨rfl, rfl, rfl, by decide +kernel, rfl, by decide +kernel, by decide +kernel⟩
abbrev s_init_InvalidSites : Stmt := (clsBody (topS 3)).getD 0 s0
theorem sc_init_InvalidSites : FnScope ["self", "at"] ["self", "at"] (defScope s_init_InvalidSites) := ⟨rfl, rfl, rfl, by decide +kernel, rfl, by decide +kernel, by decide +kernel⟩
abbrev s_init_InvalidBound : Stmt := (clsBody (topS 4)).getD 0 s0
theorem sc_init_InvalidBound : FnScope ["self", "argument"] ["self", "argument"] (defScope s_init_InvalidBound) := ⟨rfl, rfl, rfl, by decide +kernel, rfl, by decide +kernel, by decide +kernel⟩
/-! ### what the defs do -/
abbrev cap_law : Cap := [(0, [5, 3]), (1, [5, 3]), (3, [6]), (4, [6, 9]), (5, [6, 9])]
def d_turn : DS :=
    (dRet (dOp2 pvSub (dOp2 pvMul (dOp2 pvSub (dOp2 pvIxA (dVar 1) (dC (.int 0))) (dOp2 pvIxA (dVar 0) (dC (.int 0)))) (dOp2 pvSub (dOp2 pvIxA (dVar 2) (dC (.int 1))) (dOp2 pvIxA (dVar 0) (dC (.int 1))))) (dOp2 pvMul (dOp2 pvSub (dOp2 pvIxA (dVar 1) (dC (.int 1))) (dOp2 pvIxA (dVar 0) (dC (.int 1)))) (dOp2 pvSub (dOp2 pvIxA (dVar 2) (dC (.int 0))) (dOp2 pvIxA (dVar 0) (dC (.int 0)))))))
def d_chain_of : DS :=
    (dSeq (dSet 1 (dLst dNil))
    (dSeq (dFor (dItA (dVar 0)) (gN 2) (dSeq (dWh (dAnd (dB (dOp2 pvGt (dCB fnLen (dCons (dVar 1) dNil)) (dC (.int 1)))) (dB (dOp2 pvLt (dCall 3 3 d_turn (dCons (dFz (dOp2 pvIxA (dVar 1) (dOp1 pvNeg (dC (.int 2))))) (dCons (dFz (dOp2 pvIxA (dVar 1) (dOp1 pvNeg (dC (.int 1))))) (dCons (dFz (dVar 2)) dNil))) []) (dC (.int 0))))) (dExp (dMutL mPop (dVar 1) dNil)))
    (dExp (dMutL mAppend (dVar 1) (dCons (dFz (dVar 2)) dNil)))))
    (dRet (dVar 1))))
def d_border_of : DS :=
    (dSeq (dPar [1, 2] (dCons (dFz (dCall 3 1 d_chain_of (dCons (dFz (dVar 0)) dNil) [])) (dCons (dFz (dCall 3 1 d_chain_of (dCons (dFz (dOp1 pvRev (dVar 0))) dNil) [])) dNil)))
    (dSeq (dIfS (dAnd (dB (dOp2 pvEqL (dCB fnLen (dCons (dVar 1) dNil)) (dCB fnLen (dCons (dVar 0) dNil)))) (dB (dOp2 pvEqL (dVar 1) (dOp1 pvRev (dVar 2))))) (dRet (dVar 0)) dPass)
    (dRet (dOp2 pvAdd (dSl (dVar 1) dNo (dSo (dOp1 pvNeg (dC (.int 1))))) (dSl (dVar 2) dNo (dSo (dOp1 pvNeg (dC (.int 1)))))))))
def d_is_integer : DS :=
    (dRet (dAndV (dCB (fnIsiC ["Subdivision", "Desk"]) (dCons (dVar 0) (dCons (dC (.ty "int")) dNil))) (dNotV (dCB (fnIsiC ["Subdivision", "Desk"]) (dCons (dVar 0) (dCons (dC (.ty "bool")) dNil))))))
def d_is_between : DS :=
    (dRet (dAndV (dCall 1 1 d_is_integer (dCons (dFz (dVar 0)) dNil) []) (dCh pvLe pvLe (dVar 1) (dVar 0) (dVar 2))))
def d_is_site : DS :=
    (dSeq (dIfS (dOr (dNot (dB (dCB (fnIsiC ["Subdivision", "Desk"]) (dCons (dVar 0) (dCons (dC (.ty "tuple")) dNil))))) (dB (dOp2 pvNeL (dCB fnLen (dCons (dVar 0) dNil)) (dC (.int 2))))) (dRet (dC (.bl false))) dPass)
    (dRet (dCB fnAll (dCons (dLc [1] (dItA (dVar 0)) (gN 1) dYes (dFz (dCall 3 3 d_is_between (dCons (dFz (dVar 1)) (dCons (dOp2 pvSub (dC (.int 0)) (dC (.int 1000000))) (dCons (dFz (dC (.int 1000000))) dNil))) []))) dNil))))
def d_check_sites : DS :=
    (dSeq (dIfS (dNot (dB (dCB (fnIsiC ["Subdivision", "Desk"]) (dCons (dVar 0) (dCons (dC (.ty "list")) dNil))))) (dRaise "InvalidSites" ["at"] (dCons (dFz (dOp1 pvNeg (dC (.int 1)))) dNil)) dPass)
    (dSeq (dIfS (dB (dOp2 pvEqL (dVar 0) (dLst dNil))) (dRaise "InvalidSites" ["at"] (dCons (dC (.int 0)) dNil)) dPass)
    (dSeq (dSet 1 dDNew)
    (dFor (dEnum (dCons (dFz (dSl (dVar 0) dNo (dSo (dOp2 pvAdd (dC (.int 200)) (dC (.int 1)))))) dNil)) (gU 2 (gCons (gN 2) (gCons (gN 3) gNil))) (dSeq (dIfS (dOr (dB (dOp2 pvEqL (dVar 2) (dC (.int 200)))) (dOr (dNot (dB (dCall 2 1 d_is_site (dCons (dFz (dVar 3)) dNil) []))) (dB (dOp2 pvInO (dVar 3) (dVar 1))))) (dRaise "InvalidSites" ["at"] (dCons (dFz (dVar 2)) dNil)) dPass)
    (dAsg (dC (.bl true)) (gSubP (dVar 1) (dFz (dVar 3)))))))))
def d_border : DS :=
    (dSeq (dExp (dCall 4 1 d_check_sites (dCons (dFz (dVar 0)) dNil) []))
    (dRet (dCB fnList (dCons (dCall 3 1 d_border_of (dCons (dFz (dCB fnSrt2 (dCons (dVar 0) dNil))) dNil) []) dNil))))
def d_double_hull : DS :=
    (dSeq (dExp (dCall 4 1 d_check_sites (dCons (dFz (dVar 0)) dNil) []))
    (dSeq (dSet 1 (dFz (dCall 3 1 d_border_of (dCons (dFz (dCB fnSrt2 (dCons (dVar 0) dNil))) dNil) [])))
    (dRet (dCB fnSum (dCons (dLc [2] (dRng2 (dCons (dC (.int 2)) (dCons (dCB fnLen (dCons (dVar 1) dNil)) dNil))) (gN 2) dYes (dFz (dCall 3 3 d_turn (dCons (dFz (dOp2 pvIxA (dVar 1) (dC (.int 0)))) (dCons (dFz (dOp2 pvIxA (dVar 1) (dOp2 pvSub (dVar 2) (dC (.int 1))))) (dCons (dFz (dOp2 pvIxA (dVar 1) (dVar 2))) dNil))) []))) dNil)))))
def d_is_flat : DS :=
    (dRet (dCB fnAll (dCons (dLc [1] (dItA (dVar 0)) (gN 1) dYes (dOp2 pvEqL (dCall 3 3 d_turn (dCons (dFz (dOp2 pvIxA (dVar 0) (dC (.int 0)))) (dCons (dFz (dOp2 pvIxA (dVar 0) (dOp1 pvNeg (dC (.int 1))))) (dCons (dFz (dVar 1)) dNil))) []) (dC (.int 0)))) dNil)))
def d_corners_of : DS :=
    (dSeq (dIfS (dB (dCall 2 1 d_is_flat (dCons (dFz (dVar 0)) dNil) [])) (dRet (dIf (dB (dOp2 pvGt (dCB fnLen (dCons (dVar 0) dNil)) (dC (.int 1)))) (dOp2 pvAdd (dSl (dVar 0) dNo (dSo (dC (.int 1)))) (dSl (dVar 0) (dSo (dOp1 pvNeg (dC (.int 1)))) dNo)) (dVar 0))) dPass)
    (dSeq (dSet 1 (dCB fnLen (dCons (dVar 0) dNil)))
    (dRet (dLc [2] (dRng1 (dCons (dVar 1) dNil)) (gN 2) (dB (dOp2 pvNeL (dCall 3 3 d_turn (dCons (dFz (dOp2 pvIxA (dVar 0) (dOp2 pvSub (dVar 2) (dC (.int 1))))) (dCons (dFz (dOp2 pvIxA (dVar 0) (dVar 2))) (dCons (dFz (dOp2 pvIxA (dVar 0) (dOp2 pvMod (dOp2 pvAdd (dVar 2) (dC (.int 1))) (dVar 1)))) dNil))) []) (dC (.int 0)))) (dFz (dOp2 pvIxA (dVar 0) (dVar 2)))))))
def d_hull : DS :=
    (dSeq (dExp (dCall 4 1 d_check_sites (dCons (dFz (dVar 0)) dNil) []))
    (dRet (dCall 3 1 d_corners_of (dCons (dFz (dCB fnList (dCons (dCall 3 1 d_border_of (dCons (dFz (dCB fnSrt2 (dCons (dVar 0) dNil))) dNil) []) dNil))) dNil) [])))
def d_layers : DS :=
    (dSeq (dExp (dCall 4 1 d_check_sites (dCons (dFz (dVar 0)) dNil) []))
    (dSeq (dPar [1, 2] (dCons (dFz (dCB fnSrt2 (dCons (dVar 0) dNil))) (dCons (dLst dNil) dNil)))
    (dSeq (dWh (dB (dOp2 pvNeL (dVar 1) (dLst dNil))) (dSeq (dExp (dMutL mAppend (dVar 2) (dCons (dFz (dCB fnList (dCons (dCall 3 1 d_border_of (dCons (dFz (dVar 1)) dNil) []) dNil))) dNil)))
    (dSeq (dSet 3 (dFz (dCB fnDict (dCons (dLc [4] (dItA (dOp2 pvIxA (dVar 2) (dOp1 pvNeg (dC (.int 1))))) (gN 4) dYes (dTup (dCons (dFz (dVar 4)) (dCons (dC (.bl true)) dNil)))) dNil))))
    (dSet 1 (dLc [4] (dItA (dVar 1)) (gN 4) (dB (dOp2 pvNinO (dVar 4) (dVar 3))) (dFz (dVar 4)))))))
    (dRet (dVar 2)))))
def d_extreme : DS :=
    (dSeq (dExp (dCall 4 1 d_check_sites (dCons (dFz (dVar 0)) dNil) []))
    (dSeq (dIfS (dOr (dNot (dB (dCB (fnIsiC ["Subdivision", "Desk"]) (dCons (dVar 1) (dCons (dC (.ty "tuple")) dNil))))) (dB (dOp2 pvNeL (dCB fnLen (dCons (dVar 1) dNil)) (dC (.int 2))))) (dRaise "InvalidBound" ["argument"] (dCons (dC (.str "direction")) dNil)) dPass)
    (dSeq (dIfS (dNot (dB (dCB fnAll (dCons (dLc [6] (dItA (dVar 1)) (gN 6) dYes (dFz (dCall 3 3 d_is_between (dCons (dFz (dVar 6)) (dCons (dOp2 pvSub (dC (.int 1)) (dC (.int 1000000000000000000000000000000))) (dCons (dOp2 pvSub (dC (.int 1000000000000000000000000000000)) (dC (.int 1))) dNil))) []))) dNil)))) (dRaise "InvalidBound" ["argument"] (dCons (dC (.str "direction")) dNil)) dPass)
    (dSeq (dIfS (dB (dOp2 pvEqL (dVar 1) (dTup (dCons (dC (.int 0)) (dCons (dC (.int 0)) dNil))))) (dRaise "InvalidBound" ["argument"] (dCons (dC (.str "direction")) dNil)) dPass)
    (dSeq (dAsg (dVar 1) (gU 2 (gCons (gN 2) (gCons (gN 3) gNil))))
    (dSeq (dSet 4 (dFz (dCB fnMax (dCons (dLc [5] (dItA (dVar 0)) (gN 5) dYes (dOp2 pvAdd (dOp2 pvMul (dVar 2) (dOp2 pvIxA (dVar 5) (dC (.int 0)))) (dOp2 pvMul (dVar 3) (dOp2 pvIxA (dVar 5) (dC (.int 1)))))) dNil))))
    (dRet (dCB fnSrt2 (dCons (dLc [5] (dItA (dVar 0)) (gN 5) (dB (dOp2 pvEqL (dOp2 pvAdd (dOp2 pvMul (dVar 2) (dOp2 pvIxA (dVar 5) (dC (.int 0)))) (dOp2 pvMul (dVar 3) (dOp2 pvIxA (dVar 5) (dC (.int 1))))) (dVar 4))) (dFz (dVar 5))) dNil)))))))))
def d_check_member : DS :=
    (dIfS (dOr (dNot (dB (dCall 2 1 d_is_site (dCons (dFz (dVar 2)) dNil) []))) (dB (dOp2 pvNinO (dVar 2) (dVar 1)))) (dRaise "InvalidBound" ["argument"] (dCons (dFz (dVar 0)) dNil)) dPass)
def d_layer_of : DS :=
    (dSeq (dExp (dCall 4 1 d_check_sites (dCons (dFz (dVar 0)) dNil) []))
    (dSeq (dExp (dCall 3 3 d_check_member (dCons (dC (.str "site")) (dCons (dFz (dVar 0)) (dCons (dFz (dVar 1)) dNil))) []))
    (dRet dNoE)))
def d_check_site : DS :=
    (dIfS (dNot (dB (dCall 2 1 d_is_site (dCons (dFz (dVar 1)) dNil) []))) (dRaise "InvalidBound" ["argument"] (dCons (dFz (dVar 0)) dNil)) dPass)
def d_seen_of : DS :=
    (dSeq (dSet 2 (dCB fnLen (dCons (dVar 0) dNil)))
    (dSeq (dSet 3 (dFz (dLc [7] (dRng1 (dCons (dVar 2) dNil)) (gN 7) dYes (dTup (dCons (dFz (dOp2 pvIxA (dVar 0) (dVar 7))) (dCons (dFz (dOp2 pvIxA (dVar 0) (dOp2 pvMod (dOp2 pvAdd (dVar 7) (dC (.int 1))) (dVar 2)))) dNil))))))
    (dSeq (dIfS (dB (dCall 2 1 d_is_flat (dCons (dFz (dVar 0)) dNil) [])) (dSeq (dSet 4 (dLc [7] (dRng1 (dCons (dOp2 pvSub (dVar 2) (dC (.int 1))) dNil)) (gN 7) dYes (dTup (dCons (dFz (dOp2 pvIxA (dVar 0) (dVar 7))) (dCons (dFz (dOp2 pvIxA (dVar 0) (dOp2 pvAdd (dVar 7) (dC (.int 1))))) dNil)))))
    (dSet 3 (dFz (dOp2 pvAdd (dVar 4) (dLc [9, 10] (dItA (dOp1 pvRev (dVar 4))) (gT 2 (gAll [9, 10])) dYes (dTup (dCons (dFz (dVar 10)) (dCons (dFz (dVar 9)) dNil)))))))) dPass)
    (dSeq (dSet 5 (dFz (dLc [9, 10] (dItA (dVar 3)) (gT 2 (gAll [9, 10])) dYes (dOp2 pvLt (dCall 3 3 d_turn (dCons (dFz (dVar 9)) (dCons (dFz (dVar 10)) (dCons (dFz (dVar 1)) dNil))) []) (dC (.int 0))))))
    (dSeq (dSet 6 (dC (.int 0)))
    (dSeq (dFor (dRng1 (dCons (dCB fnLen (dCons (dVar 3) dNil)) dNil)) (gN 7) (dIfS (dAnd (dB (dOp2 pvIxA (dVar 5) (dVar 7))) (dNot (dB (dOp2 pvIxA (dVar 5) (dOp2 pvSub (dVar 7) (dC (.int 1))))))) (dSet 6 (dFz (dVar 7))) dPass))
    (dSeq (dSet 8 (dFz (dOp2 pvAdd (dLRg2 (dFz (dVar 6)) (dFz (dCB fnLen (dCons (dVar 3) dNil)))) (dLRg1 (dFz (dVar 6))))))
    (dRet (dLc [7] (dItA (dVar 8)) (gN 7) (dB (dOp2 pvIxA (dVar 5) (dVar 7))) (dFz (dOp2 pvIxA (dVar 3) (dVar 7))))))))))))
def d_seen_sides : DS :=
    (dSeq (dExp (dCall 4 1 d_check_sites (dCons (dFz (dVar 0)) dNil) []))
    (dSeq (dExp (dCall 2 2 d_check_site (dCons (dC (.str "site")) (dCons (dFz (dVar 1)) dNil)) []))
    (dRet (dCall 11 2 d_seen_of (dCons (dFz (dCB fnList (dCons (dCall 3 1 d_border_of (dCons (dFz (dCB fnSrt2 (dCons (dVar 0) dNil))) dNil) []) dNil))) (dCons (dFz (dVar 1)) dNil)) []))))
def d_common : DS :=
    (dSeq (dPar [0, 1] (dCons (dCB fnAbs (dCons (dVar 0) dNil)) (dCons (dCB fnAbs (dCons (dVar 1) dNil)) dNil)))
    (dSeq (dWh (dB (dOp2 pvGt (dVar 1) (dC (.int 0)))) (dPar [0, 1] (dCons (dFz (dVar 1)) (dCons (dOp2 pvMod (dVar 0) (dVar 1)) dNil))))
    (dRet (dVar 0))))
def d_is_place : DS :=
    (dSeq (dIfS (dOr (dNot (dB (dCB (fnIsiC ["Subdivision", "Desk"]) (dCons (dVar 0) (dCons (dC (.ty "tuple")) dNil))))) (dOr (dB (dOp2 pvNeL (dCB fnLen (dCons (dVar 0) dNil)) (dC (.int 3)))) (dNot (dB (dCB fnAll (dCons (dLc [4] (dItA (dVar 0)) (gN 4) dYes (dFz (dCall 1 1 d_is_integer (dCons (dFz (dVar 4)) dNil) []))) dNil)))))) (dRet (dC (.bl false))) dPass)
    (dSeq (dAsg (dVar 0) (gU 3 (gCons (gN 1) (gCons (gN 2) (gCons (gN 3) gNil)))))
    (dRet (dAndV (dOp2 pvGe (dVar 3) (dC (.int 1))) (dAndV (dOp2 pvLt (dCB fnMax3 (dCons (dCB fnAbs (dCons (dVar 1) dNil)) (dCons (dCB fnAbs (dCons (dVar 2) dNil)) (dCons (dVar 3) dNil)))) (dC (.int 1000000000000000000000000000000))) (dOp2 pvEqL (dCall 2 2 d_common (dCons (dFz (dCall 2 2 d_common (dCons (dFz (dVar 1)) (dCons (dFz (dVar 2)) dNil)) [])) (dCons (dFz (dVar 3)) dNil)) []) (dC (.int 1))))))))
def d_check_place : DS :=
    (dIfS (dNot (dB (dCall 5 1 d_is_place (dCons (dFz (dVar 1)) dNil) []))) (dRaise "InvalidBound" ["argument"] (dCons (dFz (dVar 0)) dNil)) dPass)
def d_lean_of : DS :=
    (dSeq (dAsg (dVar 2) (gU 3 (gCons (gN 3) (gCons (gN 4) (gCons (gN 5) gNil)))))
    (dRet (dOp2 pvSub (dOp2 pvMul (dOp2 pvSub (dOp2 pvIxA (dVar 1) (dC (.int 0))) (dOp2 pvIxA (dVar 0) (dC (.int 0)))) (dOp2 pvSub (dVar 4) (dOp2 pvMul (dOp2 pvIxA (dVar 0) (dC (.int 1))) (dVar 5)))) (dOp2 pvMul (dOp2 pvSub (dOp2 pvIxA (dVar 1) (dC (.int 1))) (dOp2 pvIxA (dVar 0) (dC (.int 1)))) (dOp2 pvSub (dVar 3) (dOp2 pvMul (dOp2 pvIxA (dVar 0) (dC (.int 0))) (dVar 5)))))))
def d_on_row : DS :=
    (dSeq (dAsg (dVar 1) (gU 3 (gCons (gN 2) (gCons (gN 3) (gCons (gN 4) gNil)))))
    (dSeq (dPar [5, 6] (dCons (dFz (dOp2 pvIxA (dVar 0) (dC (.int 0)))) (dCons (dFz (dOp2 pvIxA (dVar 0) (dOp1 pvNeg (dC (.int 1))))) dNil)))
    (dSeq (dIfS (dB (dOp2 pvNeL (dCall 6 3 d_lean_of (dCons (dFz (dVar 5)) (dCons (dFz (dVar 6)) (dCons (dFz (dVar 1)) dNil))) []) (dC (.int 0)))) (dRet (dC (.bl false))) dPass)
    (dSeq (dSet 7 (dOp2 pvAdd (dOp2 pvMul (dOp2 pvSub (dVar 2) (dOp2 pvMul (dOp2 pvIxA (dVar 5) (dC (.int 0))) (dVar 4))) (dOp2 pvSub (dVar 2) (dOp2 pvMul (dOp2 pvIxA (dVar 6) (dC (.int 0))) (dVar 4)))) (dOp2 pvMul (dOp2 pvSub (dVar 3) (dOp2 pvMul (dOp2 pvIxA (dVar 5) (dC (.int 1))) (dVar 4))) (dOp2 pvSub (dVar 3) (dOp2 pvMul (dOp2 pvIxA (dVar 6) (dC (.int 1))) (dVar 4))))))
    (dRet (dOp2 pvLe (dVar 7) (dC (.int 0))))))))
def d_sign : DS :=
    (dRet (dOp2 pvSub (dCB fnInt (dCons (dOp2 pvGt (dVar 0) (dC (.int 0))) dNil)) (dCB fnInt (dCons (dOp2 pvLt (dVar 0) (dC (.int 0))) dNil))))
def d_where : DS :=
    (dSeq (dExp (dCall 4 1 d_check_sites (dCons (dFz (dVar 0)) dNil) []))
    (dSeq (dExp (dCall 2 2 d_check_place (dCons (dC (.str "place")) (dCons (dFz (dVar 1)) dNil)) []))
    (dSeq (dSet 2 (dFz (dCall 3 1 d_corners_of (dCons (dFz (dCB fnList (dCons (dCall 3 1 d_border_of (dCons (dFz (dCB fnSrt2 (dCons (dVar 0) dNil))) dNil) []) dNil))) dNil) [])))
    (dSeq (dIfS (dB (dOp2 pvLt (dCB fnLen (dCons (dVar 2) dNil)) (dC (.int 3)))) (dRet (dIf (dB (dCall 8 2 d_on_row (dCons (dFz (dVar 2)) (dCons (dFz (dVar 1)) dNil)) [])) (dC (.int 0)) (dOp1 pvNeg (dC (.int 1))))) dPass)
    (dRet (dCB fnMin (dCons (dLc [3] (dRng1 (dCons (dCB fnLen (dCons (dVar 2) dNil)) dNil)) (gN 3) dYes (dFz (dCall 1 1 d_sign (dCons (dFz (dCall 6 3 d_lean_of (dCons (dFz (dOp2 pvIxA (dVar 2) (dOp2 pvSub (dVar 3) (dC (.int 1))))) (dCons (dFz (dOp2 pvIxA (dVar 2) (dVar 3))) (dCons (dFz (dVar 1)) dNil))) [])) dNil) []))) dNil)))))))
def d_sides_of : DS :=
    (dRet (dLc [1] (dRng1 (dCons (dCB fnLen (dCons (dVar 0) dNil)) dNil)) (gN 1) dYes (dTup (dCons (dFz (dOp2 pvIxA (dVar 0) (dOp2 pvSub (dVar 1) (dC (.int 1))))) (dCons (dFz (dOp2 pvIxA (dVar 0) (dVar 1))) dNil)))))
def d_Subdivision_pairs_joined : DS :=
    (dSeq (dSet 1 dDNew)
    (dSeq (dIfS (dB (dFld "Subdivision" "is_row" (dVar 0))) (dFor (dZipA (dCons (dFz (dFld "Subdivision" "kept" (dVar 0))) (dCons (dFz (dSl (dFld "Subdivision" "kept" (dVar 0)) (dSo (dC (.int 1))) dNo)) dNil))) (gU 2 (gCons (gN 2) (gCons (gN 3) gNil))) (dAsg (dC (.bl true)) (gSubP (dVar 1) (dTup (dCons (dFz (dVar 2)) (dCons (dFz (dVar 3)) dNil)))))) dPass)
    (dSeq (dFor (dItA (dFld "Subdivision" "polygons" (dVar 0))) (gN 4) (dFor (dItA (dCall 2 1 d_sides_of (dCons (dFz (dVar 4)) dNil) [])) (gU 2 (gCons (gN 2) (gCons (gN 3) gNil))) (dAsg (dC (.bl true)) (gSubP (dVar 1) (dTup (dCons (dFz (dCB fnMin2 (dCons (dVar 2) (dCons (dVar 3) dNil)))) (dCons (dFz (dCB fnMax2 (dCons (dVar 2) (dCons (dVar 3) dNil)))) dNil)))))))
    (dRet (dCB fnSrt2 (dCons (dVar 1) dNil))))))
def d_power : DS :=
    (dSeq (dSet 4 (dLc [12] (dItA (dTup (dCons (dFz (dVar 0)) (dCons (dFz (dVar 1)) (dCons (dFz (dVar 2)) dNil))))) (gN 12) dYes (dTup (dCons (dOp2 pvSub (dOp2 pvIxA (dVar 12) (dC (.int 0))) (dOp2 pvIxA (dVar 3) (dC (.int 0)))) (dCons (dOp2 pvSub (dOp2 pvIxA (dVar 12) (dC (.int 1))) (dOp2 pvIxA (dVar 3) (dC (.int 1)))) dNil)))))
    (dSeq (dAsg (dVar 4) (gU 3 (gCons (gU 2 (gCons (gN 5) (gCons (gN 6) gNil))) (gCons (gU 2 (gCons (gN 7) (gCons (gN 8) gNil))) (gCons (gU 2 (gCons (gN 9) (gCons (gN 10) gNil))) gNil)))))
    (dSeq (dSet 11 (dLc [13, 14] (dItA (dVar 4)) (gT 2 (gAll [13, 14])) dYes (dOp2 pvAdd (dOp2 pvMul (dVar 13) (dVar 13)) (dOp2 pvMul (dVar 14) (dVar 14)))))
    (dRet (dOp2 pvAdd (dOp2 pvSub (dOp2 pvMul (dOp2 pvIxA (dVar 11) (dC (.int 0))) (dOp2 pvSub (dOp2 pvMul (dVar 7) (dVar 10)) (dOp2 pvMul (dVar 9) (dVar 8)))) (dOp2 pvMul (dOp2 pvIxA (dVar 11) (dC (.int 1))) (dOp2 pvSub (dOp2 pvMul (dVar 5) (dVar 10)) (dOp2 pvMul (dVar 9) (dVar 6))))) (dOp2 pvMul (dOp2 pvIxA (dVar 11) (dC (.int 2))) (dOp2 pvSub (dOp2 pvMul (dVar 5) (dVar 8)) (dOp2 pvMul (dVar 7) (dVar 6)))))))))
def d_inside : DS :=
    (dRet (dOp2 pvMul (dCall 1 1 d_sign (dCons (dFz (dCall 15 4 d_power (dCons (dFz (dVar 0)) (dCons (dFz (dVar 1)) (dCons (dFz (dVar 2)) (dCons (dFz (dVar 3)) dNil)))) [])) dNil) []) (dCall 1 1 d_sign (dCons (dFz (dCall 3 3 d_turn (dCons (dFz (dVar 0)) (dCons (dFz (dVar 1)) (dCons (dFz (dVar 2)) dNil))) [])) dNil) [])))
def d_turned_left : DS :=
    (dSeq (dSet 1 (dFz (dCB fnSrt2 (dCons (dVar 0) dNil))))
    (dSeq (dPar [2, 3] (dCons (dFz (dOp2 pvIxA (dVar 1) (dC (.int 0)))) (dCons (dFz (dOp2 pvIxA (dVar 1) (dOp1 pvNeg (dC (.int 1))))) dNil)))
    (dSeq (dSet 4 (dLc [6] (dItA (dSl (dVar 1) (dSo (dC (.int 1))) (dSo (dOp1 pvNeg (dC (.int 1)))))) (gN 6) (dB (dOp2 pvLt (dCall 3 3 d_turn (dCons (dFz (dVar 2)) (dCons (dFz (dVar 3)) (dCons (dFz (dVar 6)) dNil))) []) (dC (.int 0)))) (dFz (dVar 6))))
    (dSeq (dSet 5 (dLc [6] (dItA (dSl (dVar 1) (dSo (dC (.int 1))) (dSo (dOp1 pvNeg (dC (.int 1)))))) (gN 6) (dB (dOp2 pvGt (dCall 3 3 d_turn (dCons (dFz (dVar 2)) (dCons (dFz (dVar 3)) (dCons (dFz (dVar 6)) dNil))) []) (dC (.int 0)))) (dFz (dVar 6))))
    (dRet (dOp2 pvAdd (dOp2 pvAdd (dOp2 pvAdd (dLst (dCons (dFz (dVar 2)) dNil)) (dVar 4)) (dLst (dCons (dFz (dVar 3)) dNil))) (dOp1 pvRev (dVar 5))))))))
def d_face_left : DS :=
    (dSeq (dSet 3 (dC .non))
    (dSeq (dFor (dItA (dVar 0)) (gN 4) (dIfS (dAnd (dB (dOp2 pvGt (dCall 3 3 d_turn (dCons (dFz (dVar 1)) (dCons (dFz (dVar 2)) (dCons (dFz (dVar 4)) dNil))) []) (dC (.int 0)))) (dOr (dB (dOp2 pvIsN (dVar 3) (dC .non))) (dB (dOp2 pvGt (dCall 4 4 d_inside (dCons (dFz (dVar 1)) (dCons (dFz (dVar 2)) (dCons (dFz (dVar 3)) (dCons (dFz (dVar 4)) dNil)))) []) (dC (.int 0)))))) (dSet 3 (dFz (dVar 4))) dPass))
    (dSeq (dIfS (dB (dOp2 pvIsN (dVar 3) (dC .non))) (dRet (dC .non)) dPass)
    (dSeq (dSet 5 (dFz (dOp2 pvAdd (dLst (dCons (dFz (dVar 1)) (dCons (dFz (dVar 2)) dNil))) (dLc [4] (dItA (dVar 0)) (gN 4) (dAnd (dB (dOp2 pvGt (dCall 3 3 d_turn (dCons (dFz (dVar 1)) (dCons (dFz (dVar 2)) (dCons (dFz (dVar 4)) dNil))) []) (dC (.int 0)))) (dB (dOp2 pvEqL (dCall 4 4 d_inside (dCons (dFz (dVar 1)) (dCons (dFz (dVar 2)) (dCons (dFz (dVar 3)) (dCons (dFz (dVar 4)) dNil)))) []) (dC (.int 0))))) (dFz (dVar 4))))))
    (dRet (dCall 7 1 d_turned_left (dCons (dFz (dVar 5)) dNil) []))))))
def d_faces_of : DS :=
    (dSeq (dPar [1, 2, 3] (dCons (dFz (dCall 3 1 d_border_of (dCons (dFz (dVar 0)) dNil) [])) (dCons (dLst dNil) (dCons dDNew dNil))))
    (dSeq (dSet 4 (dLc [9] (dRng1 (dCons (dCB fnLen (dCons (dVar 1) dNil)) dNil)) (gN 9) dYes (dTup (dCons (dFz (dOp2 pvIxA (dVar 1) (dOp2 pvSub (dVar 9) (dC (.int 1))))) (dCons (dFz (dOp2 pvIxA (dVar 1) (dVar 9))) dNil)))))
    (dSeq (dWh (dB (dOp2 pvNeL (dVar 4) (dLst dNil))) (dSeq (dAsg (dMutL mPop (dVar 4) dNil) (gU 2 (gCons (gN 5) (gCons (gN 6) gNil))))
    (dIfS (dB (dOp2 pvNinO (dTup (dCons (dFz (dVar 5)) (dCons (dFz (dVar 6)) dNil))) (dVar 3))) (dSeq (dSet 7 (dFz (dCall 6 3 d_face_left (dCons (dFz (dVar 0)) (dCons (dFz (dVar 5)) (dCons (dFz (dVar 6)) dNil))) [])))
    (dSeq (dIfS (dB (dOp2 pvNotN (dVar 7) (dC .non))) (dSeq (dExp (dMutL mAppend (dVar 2) (dCons (dFz (dVar 7)) dNil)))
    (dFor (dItA (dCall 2 1 d_sides_of (dCons (dFz (dVar 7)) dNil) [])) (gN 8) (dSeq (dAsg (dC (.bl true)) (gSubP (dVar 3) (dFz (dVar 8))))
    (dExp (dMutL mAppend (dVar 4) (dCons (dTup (dCons (dFz (dOp2 pvIxA (dVar 8) (dC (.int 1)))) (dCons (dFz (dOp2 pvIxA (dVar 8) (dC (.int 0)))) dNil))) dNil)))))) dPass)
    (dAsg (dC (.bl true)) (gSubP (dVar 3) (dTup (dCons (dFz (dVar 5)) (dCons (dFz (dVar 6)) dNil))))))) dPass)))
    (dRet (dCB fnSrt2 (dCons (dVar 2) dNil))))))
def d_Subdivision_init : DS :=
    (dSeq (dExp (dCall 4 1 d_check_sites (dCons (dFz (dVar 1)) dNil) []))
    (dSeq (dSetF "Subdivision" "kept" (dFz (dCB fnTuple (dCons (dCB fnSrt2 (dCons (dVar 1) dNil)) dNil))) (dVar 0))
    (dSeq (dSet 2 (dFz (dCB fnList (dCons (dFld "Subdivision" "kept" (dVar 0)) dNil))))
    (dSeq (dSetF "Subdivision" "border" (dFz (dCall 3 1 d_border_of (dCons (dFz (dVar 2)) dNil) [])) (dVar 0))
    (dSeq (dSetF "Subdivision" "is_row" (dFz (dOrV (dOp2 pvEqL (dSl (dVar 2) dNo (dSo (dC (.int 1)))) (dSl (dVar 2) (dSo (dOp1 pvNeg (dC (.int 1)))) dNo)) (dCB fnAll (dCons (dLc [3] (dItA (dVar 2)) (gN 3) dYes (dOp2 pvEqL (dCall 3 3 d_turn (dCons (dFz (dOp2 pvIxA (dVar 2) (dC (.int 0)))) (dCons (dFz (dOp2 pvIxA (dVar 2) (dOp1 pvNeg (dC (.int 1))))) (dCons (dFz (dVar 3)) dNil))) []) (dC (.int 0)))) dNil)))) (dVar 0))
    (dSeq (dSetF "Subdivision" "polygons" (dFz (dIf (dB (dFld "Subdivision" "is_row" (dVar 0))) (dLst dNil) (dCall 10 1 d_faces_of (dCons (dFz (dVar 2)) dNil) []))) (dVar 0))
    (dSetF "Subdivision" "joined" (dFz (dMeth "Subdivision" "pairs_joined" 5 1 d_Subdivision_pairs_joined (dVar 0) dNil)) (dVar 0))))))))
def d_law_deep : DS :=
    (dSeq (dSet 0 (dTup (dCons (dC (.int 1)) dNil)))
    (dSeq (dFor (dRng1 (dCons (dC (.int 1990)) dNil)) (gN 1) (dSet 0 (dTup (dCons (dFz (dVar 0)) dNil))))
    (dRet (dVar 0))))
def d_law_purse : DS :=
    (dRet (dLst (dCons (dOp2 pvMul (dCB fnAbs (dCons (dVar 0) dNil)) (dCB fnInt (dCons (dOp2 pvGe (dCB fnAbs (dCons (dVar 0) dNil)) (dOp2 pvPow (dC (.int 10)) (dC (.int 18)))) dNil))) (dCons (dOp2 pvMod (dCB fnInt (dCons (dVar 0) dNil)) (dC (.int 2147483563))) (dCons (dC (.int 3)) dNil)))))
abbrev dl_0 : DE :=
    (dCallV [("hull", 1, 1, d_hull), ("border", 1, 1, d_border), ("double_hull", 3, 1, d_double_hull), ("layers", 5, 1, d_layers)] 0 (dCons (dFz (dVar 1)) dNil))
abbrev dl_1 : DE :=
    (dCallV [("layer_of", 3, 2, d_layer_of), ("seen_sides", 2, 2, d_seen_sides), ("extreme", 7, 2, d_extreme), ("where", 4, 2, d_where)] 0 (dCons (dFz (dVar 1)) (dCons (dC .non) dNil)))
abbrev dl_2 : DE :=
    (dCallV [("layer_of", 3, 2, d_layer_of), ("seen_sides", 2, 2, d_seen_sides), ("extreme", 7, 2, d_extreme), ("where", 4, 2, d_where)] 0 (dCons (dFz (dVar 1)) (dCons (dFz (dVar 2)) dNil)))
abbrev dl_3 : DE :=
    (dCall 3 2 d_layer_of (dCons (dFz (dVar 0)) (dCons (dTup (dCons (dC (.int 3)) (dCons (dC (.int 2)) dNil))) dNil)) [])
abbrev dl_4 : DE :=
    (dCall 4 2 d_where (dCons (dFz (dVar 0)) (dCons (dFz (dVar 1)) dNil)) [])
abbrev dl_5 : DE :=
    (dCall 7 2 d_extreme (dCons (dFz (dVar 0)) (dCons (dFz (dVar 1)) dNil)) [])
def lden : LDen := [(0, dl_0), (1, dl_1), (2, dl_2), (3, dl_3), (4, dl_4), (5, dl_5)]
def d_law_said : DS :=
    (dSeq (dTry (dExp (dCallL lden 0)) [⟨[("InvalidSites", true), ("InvalidBound", false)], (some 1), (xIf (xIs "InvalidSites" true) (xTwo (xC (.str "sites")) (xAt "InvalidSites" "at")) (xC (.str "other"))), none⟩, ⟨[("InvalidSites", false), ("InvalidBound", true)], (some 1), (xIf (xIs "InvalidBound" true) (xAt "InvalidBound" "argument") (xC (.str "other"))), none⟩])
    (dRet (dC .non)))
def d_Desk_init : DS :=
    (dSeq (dSetF "Desk" "present" (dFz (dLst dNil)) (dVar 0))
    (dSeq (dSetF "Desk" "past" (dFz (dLst dNil)) (dVar 0))
    (dSeq (dSetF "Desk" "later" (dFz (dLst dNil)) (dVar 0))
    (dSeq (dSetF "Desk" "shown" (dTup (dCons (dFz (dLst dNil)) (dCons (dFz (dLst dNil)) dNil))) (dVar 0))
    (dSetF "Desk" "last_change" (dTup (dCons (dFz (dLst dNil)) (dCons (dFz (dLst dNil)) (dCons (dFz (dLst dNil)) (dCons (dFz (dLst dNil)) dNil))))) (dVar 0))))))
def d_law_coin : DS :=
    (dSeq (dIfS (dB (dOp2 pvGt (dOp2 pvIxA (dVar 0) (dC (.int 0))) (dC (.int 0)))) (dSeq (dSet 2 (dOp2 pvMod (dCB fnInt (dCons (dOp2 pvIxA (dVar 0) (dC (.int 0))) dNil)) (dVar 1)))
    (dSeq (dAsg (dOp2 pvFdiv (dOp2 pvIxA (dVar 0) (dC (.int 0))) (dVar 1)) (gSubP (dVar 0) (dC (.int 0))))
    (dRet (dVar 2)))) dPass)
    (dSeq (dAsg (dOp2 pvAdd (dOp2 pvIxA (dVar 0) (dC (.int 2))) (dC (.int 1))) (gSubP (dVar 0) (dC (.int 2))))
    (dSeq (dSet 3 (dOp2 pvMod (dCB fnInt (dCons (dOp2 pvPow (dOp2 pvAdd (dOp2 pvAdd (dOp2 pvIxA (dVar 0) (dC (.int 1))) (dOp2 pvMul (dC (.int 70001)) (dOp2 pvIxA (dVar 0) (dC (.int 2))))) (dC (.int 7))) (dC (.int 3))) dNil)) (dC (.int 2147483587))))
    (dSeq (dSet 3 (dOp2 pvMod (dCB fnInt (dCons (dOp2 pvMul (dOp2 pvAdd (dVar 3) (dOp2 pvMul (dC (.int 11)) (dOp2 pvIxA (dVar 0) (dC (.int 2))))) (dOp2 pvAdd (dOp2 pvFdiv (dVar 3) (dC (.int 1009))) (dC (.int 48611)))) dNil)) (dC (.int 2147483549))))
    (dRet (dOp2 pvMod (dCB fnInt (dCons (dOp2 pvFdiv (dOp2 pvMod (dCB fnInt (dCons (dOp2 pvMul (dVar 3) (dOp2 pvAdd (dOp2 pvFdiv (dVar 3) (dC (.int 2027))) (dC (.int 69621)))) dNil)) (dC (.int 2147483543))) (dC (.int 5))) dNil)) (dVar 1)))))))
def d_law_pick : DS :=
    (dRet (dOp2 pvIxA (dVar 1) (dCall 4 2 d_law_coin (dCons (dVar 0) (dCons (dFz (dCB fnLen (dCons (dVar 1) dNil))) dNil)) [])))
def d_law_wrong : DS :=
    (dSeq (dSet 1 (dFz (dLst (dCons (dC .non) (dCons (dC (.int 3)) (dCons (dTup (dCons (dC (.int 1)) (dCons (dC (.bl true)) dNil))) (dCons (dFz (dLst (dCons (dC (.int 1)) (dCons (dC (.int 2)) dNil)))) (dCons (dTup (dCons (dC (.int 1)) (dCons (dC (.int 2)) (dCons (dC (.int 3)) dNil)))) (dCons (dTup (dCons (dOp2 pvAdd (dOp2 pvPow (dC (.int 10)) (dC (.int 6))) (dC (.int 1))) (dCons (dC (.int 0)) dNil))) (dCons (dTup (dCons (dC (.int 0)) (dCons (dOp2 pvSub (dOp1 pvNeg (dOp2 pvPow (dC (.int 10)) (dC (.int 6)))) (dC (.int 1))) dNil))) (dCons (dC (.str "ab")) (dCons (dTup dNil) (dCons (dTup (dCons (dC (.str "1")) (dCons (dC (.int 2)) dNil))) (dCons (dFz dDNew) dNil))))))))))))))
    (dSeq (dSet 2 (dFz (dCall 2 2 d_law_pick (dCons (dVar 0) (dCons (dFz (dOp2 pvAdd (dVar 1) (dLst (dCons (dFz (dCall 2 0 d_law_deep dNil [])) (dCons (dTup (dCons (dFz (dCall 2 0 d_law_deep dNil [])) (dCons (dC (.int 0)) dNil))) dNil))))) dNil)) [])))
    (dSeq (dSet 3 (dLc [5] (dRng1 (dCons (dCall 4 2 d_law_coin (dCons (dVar 0) (dCons (dC (.int 6)) dNil)) []) dNil)) (gN 5) dYes (dTup (dCons (dFz (dVar 5)) (dCons (dOp2 pvMul (dVar 5) (dVar 5)) dNil)))))
    (dSeq (dSet 4 (dFz (dLst (dCons (dTup (dCons (dFz (dOp2 pvAdd (dOp2 pvAdd (dVar 3) (dLst (dCons (dFz (dVar 2)) dNil))) (dSl (dVar 3) dNo (dSo (dC (.int 1)))))) (dCons (dFz (dCB fnLen (dCons (dVar 3) dNil))) dNil))) (dCons (dTup (dCons (dFz (dOp2 pvAdd (dVar 3) (dLst (dCons (dTup (dCons (dC (.int 99)) (dCons (dC (.int 1)) dNil))) (dCons (dTup (dCons (dC (.int 99)) (dCons (dC (.int 1)) dNil))) (dCons (dFz (dVar 2)) dNil)))))) (dCons (dOp2 pvAdd (dCB fnLen (dCons (dVar 3) dNil)) (dC (.int 1))) dNil))) (dCons (dTup (dCons (dFz (dLst dNil)) (dCons (dC (.int 0)) dNil))) dNil))))))
    (dSeq (dSet 4 (dFz (dOp2 pvAdd (dVar 4) (dLst (dCons (dTup (dCons (dC .non) (dCons (dFz (dOp1 pvNeg (dC (.int 1)))) dNil))) (dCons (dTup (dCons (dFz (dCB fnTuple (dCons (dVar 3) dNil))) (dCons (dFz (dOp1 pvNeg (dC (.int 1)))) dNil))) (dCons (dTup (dCons (dFz (dDct1 (dTup (dCons (dC (.int 1)) (dCons (dC (.int 2)) dNil))) (dC (.int 3)))) (dCons (dFz (dOp1 pvNeg (dC (.int 1)))) dNil))) (dCons (dTup (dCons (dC (.str "sites")) (dCons (dFz (dOp1 pvNeg (dC (.int 1)))) dNil))) (dCons (dTup (dCons (dC (.int 5)) (dCons (dFz (dOp1 pvNeg (dC (.int 1)))) dNil))) dNil)))))))))
    (dSeq (dSet 4 (dFz (dOp2 pvAdd (dVar 4) (dLst (dCons (dTup (dCons (dFz (dMake "Subdivision" 4 2 d_Subdivision_init (dCons (dFz (dLst (dCons (dTup (dCons (dC (.int 1)) (dCons (dC (.int 2)) dNil))) dNil))) dNil))) (dCons (dFz (dOp1 pvNeg (dC (.int 1)))) dNil))) (dCons (dTup (dCons (dFz (dMake "Desk" 1 1 d_Desk_init dNil)) (dCons (dFz (dOp1 pvNeg (dC (.int 1)))) dNil))) (dCons (dTup (dCons (dFz (dLst (dCons (dTup (dCons (dC (.int 1)) (dCons (dC (.int 2)) dNil))) (dCons (dFz (dMake "Desk" 1 1 d_Desk_init dNil)) dNil)))) (dCons (dC (.int 1)) dNil))) dNil)))))))
    (dRet (dOp2 pvAdd (dVar 4) (dLst (dCons (dTup (dCons (dFz (dLc [5] (dRng1 (dCons (dC (.int 201)) dNil)) (gN 5) dYes (dTup (dCons (dFz (dVar 5)) (dCons (dC (.int 7)) dNil))))) (dCons (dC (.int 200)) dNil))) (dCons (dTup (dCons (dFz (dOp2 pvAdd (dLc [5] (dRng1 (dCons (dC (.int 230)) dNil)) (gN 5) dYes (dTup (dCons (dFz (dVar 5)) (dCons (dC (.int 7)) dNil)))) (dLst (dCons (dC .non) dNil)))) (dCons (dC (.int 200)) dNil))) dNil)))))))))))
def d_law : DS :=
    (dSeq (dFor (dItA (dOp2 pvAdd (dSl (dVar 0) dNo (dSo (dC (.int 4)))) (dLst (dCons (dC (.int 0)) dNil)))) (gN 1) (dSeq (dSet 2 (dCall 1 1 d_law_purse (dCons (dFz (dVar 1)) dNil) []))
    (dSeq (dFor (dItA (dCall 6 1 d_law_wrong (dCons (dVar 2) dNil) [])) (gU 2 (gCons (gN 3) (gCons (gN 4) gNil))) (dSeq (dFor (dItA (dTup (dCons (dFz (dC (.fn "hull"))) (dCons (dFz (dC (.fn "border"))) (dCons (dFz (dC (.fn "double_hull"))) (dCons (dFz (dC (.fn "layers"))) dNil)))))) (gN 5) (dIfS (dB (dOp2 pvNeL (dCallC 2 1 d_law_said cap_law (dCons (dLam 0) dNil)) (dTup (dCons (dC (.str "sites")) (dCons (dFz (dVar 4)) dNil))))) (dRet (dC (.bl false))) dPass))
    (dFor (dItA (dTup (dCons (dFz (dC (.fn "layer_of"))) (dCons (dFz (dC (.fn "seen_sides"))) (dCons (dFz (dC (.fn "extreme"))) (dCons (dFz (dC (.fn "where"))) dNil)))))) (gN 5) (dIfS (dB (dOp2 pvNeL (dCallC 2 1 d_law_said cap_law (dCons (dLam 1) dNil)) (dTup (dCons (dC (.str "sites")) (dCons (dFz (dVar 4)) dNil))))) (dRet (dC (.bl false))) dPass))))
    (dSeq (dSet 6 (dFz (dLst (dCons (dTup (dCons (dC (.int 0)) (dCons (dC (.int 0)) dNil))) (dCons (dTup (dCons (dC (.int 3)) (dCons (dC (.int 1)) dNil))) (dCons (dTup (dCons (dC (.int 1)) (dCons (dC (.int 5)) dNil))) dNil))))))
    (dSeq (dPar [7, 8] (dCons (dFz (dCall 2 0 d_law_deep dNil [])) (dCons (dFz (dMake "Subdivision" 4 2 d_Subdivision_init (dCons (dFz (dVar 6)) dNil))) dNil)))
    (dSeq (dFor (dItA (dTup (dCons (dC .non) (dCons (dC (.int 5)) (dCons (dTup (dCons (dC (.int 1)) (dCons (dC (.int 2)) (dCons (dC (.int 1)) dNil)))) (dCons (dFz (dLst (dCons (dC (.int 0)) (dCons (dC (.int 0)) dNil)))) (dCons (dTup (dCons (dOp2 pvAdd (dOp2 pvPow (dC (.int 10)) (dC (.int 6))) (dC (.int 1))) (dCons (dC (.int 0)) dNil))) (dCons (dTup (dCons (dC (.bl true)) (dCons (dC (.int 0)) dNil))) (dCons (dC (.str "ab")) (dCons (dTup dNil) (dCons (dFz (dVar 7)) (dCons (dTup (dCons (dC (.int 0)) (dCons (dFz (dVar 7)) dNil))) (dCons (dFz (dVar 8)) dNil))))))))))))) (gN 9) (dIfS (dB (dOp2 pvNeL (dLc [5] (dItA (dTup (dCons (dFz (dC (.fn "layer_of"))) (dCons (dFz (dC (.fn "seen_sides"))) dNil)))) (gN 5) dYes (dBlkC (dFz (dCallC 2 1 d_law_said [(2, [5, 6, 9])] (dCons (dLam 2) dNil))))) (dLst (dCons (dC (.str "site")) (dCons (dC (.str "site")) dNil))))) (dRet (dC (.bl false))) dPass))
    (dSeq (dIfS (dOr (dB (dOp2 pvNeL (dCallC 2 1 d_law_said cap_law (dCons (dLam 3) dNil)) (dC (.str "site")))) (dB (dOp2 pvNeL (dCall 2 2 d_seen_sides (dCons (dFz (dVar 6)) (dCons (dTup (dCons (dC (.int 2)) (dCons (dC (.int 2)) dNil))) dNil)) []) (dLst dNil)))) (dRet (dC (.bl false))) dPass)
    (dSeq (dSet 3 (dFz (dLst (dCons (dC .non) (dCons (dTup (dCons (dC (.int 1)) (dCons (dC (.int 2)) dNil))) (dCons (dTup (dCons (dC (.int 1)) (dCons (dC (.int 2)) (dCons (dC (.int 0)) dNil)))) (dCons (dTup (dCons (dC (.int 2)) (dCons (dC (.int 4)) (dCons (dC (.int 2)) dNil)))) (dCons (dTup (dCons (dC (.int 1)) (dCons (dC (.int 2)) (dCons (dFz (dOp1 pvNeg (dC (.int 1)))) dNil)))) (dCons (dFz (dLst (dCons (dC (.int 1)) (dCons (dC (.int 2)) (dCons (dC (.int 1)) dNil))))) (dCons (dTup (dCons (dC (.int 1)) (dCons (dC (.bl true)) (dCons (dC (.int 1)) dNil)))) (dCons (dTup (dCons (dC (.str "1")) (dCons (dC (.int 2)) (dCons (dC (.int 1)) dNil)))) (dCons (dTup (dCons (dOp2 pvPow (dC (.int 10)) (dC (.int 30))) (dCons (dC (.int 0)) (dCons (dC (.int 1)) dNil)))) dNil))))))))))))
    (dSeq (dFor (dItA (dOp2 pvAdd (dVar 3) (dLst (dCons (dFz (dVar 7)) (dCons (dTup (dCons (dFz (dVar 7)) (dCons (dC (.int 1)) (dCons (dC (.int 1)) dNil)))) (dCons (dFz (dVar 8)) dNil)))))) (gN 9) (dIfS (dB (dOp2 pvNeL (dCallC 2 1 d_law_said cap_law (dCons (dLam 4) dNil)) (dC (.str "place")))) (dRet (dC (.bl false))) dPass))
    (dFor (dItA (dTup (dCons (dC .non) (dCons (dTup (dCons (dC (.int 0)) (dCons (dC (.int 0)) dNil))) (dCons (dTup (dCons (dC (.int 1)) dNil)) (dCons (dTup (dCons (dC (.int 1)) (dCons (dC (.int 2)) (dCons (dC (.int 3)) dNil)))) (dCons (dFz (dLst (dCons (dC (.int 1)) (dCons (dC (.int 2)) dNil)))) (dCons (dTup (dCons (dC (.bl true)) (dCons (dC (.int 1)) dNil))) (dCons (dTup (dCons (dC (.int 1)) (dCons (dC (.str "2")) dNil))) (dCons (dTup (dCons (dOp2 pvPow (dC (.int 10)) (dC (.int 30))) (dCons (dC (.int 1)) dNil))) (dCons (dC (.int 7)) (dCons (dFz (dVar 7)) (dCons (dTup (dCons (dFz (dVar 7)) (dCons (dC (.int 1)) dNil))) (dCons (dFz (dVar 8)) dNil)))))))))))))) (gN 9) (dIfS (dB (dOp2 pvNeL (dCallC 2 1 d_law_said cap_law (dCons (dLam 5) dNil)) (dC (.str "direction")))) (dRet (dC (.bl false))) dPass)))))))))))
    (dRet (dAndV (dOp2 pvEqL (dCall 7 2 d_extreme (dCons (dFz (dVar 6)) (dCons (dTup (dCons (dOp2 pvSub (dOp2 pvPow (dC (.int 10)) (dC (.int 30))) (dC (.int 1))) (dCons (dC (.int 0)) dNil))) dNil)) []) (dLst (dCons (dTup (dCons (dC (.int 3)) (dCons (dC (.int 1)) dNil))) dNil))) (dOp2 pvEqL (dCall 4 2 d_where (dCons (dFz (dVar 6)) (dCons (dTup (dCons (dC (.int 0)) (dCons (dC (.int 0)) (dCons (dC (.int 1)) dNil)))) dNil)) []) (dC (.int 0))))))
/-- what the top has written -/
structure Tx (K : PySem.W.Frag) (mg : Str → Option Value) (LT : LTab) where
  C_CellError : Addr
  g_CellError : mg "CellError" = some (.ref C_CellError)
  D_CellError : ErD K C_CellError
  C_InvalidSites : Addr
  g_InvalidSites : mg "InvalidSites" = some (.ref C_InvalidSites)
  E_InvalidSites : ErC K C_CellError C_InvalidSites
  fI_InvalidSites : Addr
  fdI_InvalidSites : FuncData
  FI_InvalidSites : Fun K "__init__" "InvalidSites.__init__" s_init_InvalidSites fI_InvalidSites fdI_InvalidSites
  bI_InvalidSites : Binds K fdI_InvalidSites ["self", "at"] []
  i_InvalidSites : PySem.W.findIn K (.ref C_InvalidSites) "__init__" = some (some (.ref fI_InvalidSites))
  t_InvalidSites : PySem.W.typeIn K (.ref fI_InvalidSites) = some (.type "function")
  n_InvalidSites : PySem.W.findIn K (.ref C_InvalidSites) "at" = some none
  C_InvalidBound : Addr
  g_InvalidBound : mg "InvalidBound" = some (.ref C_InvalidBound)
  E_InvalidBound : ErC K C_CellError C_InvalidBound
  fI_InvalidBound : Addr
  fdI_InvalidBound : FuncData
  FI_InvalidBound : Fun K "__init__" "InvalidBound.__init__" s_init_InvalidBound fI_InvalidBound fdI_InvalidBound
  bI_InvalidBound : Binds K fdI_InvalidBound ["self", "argument"] []
  i_InvalidBound : PySem.W.findIn K (.ref C_InvalidBound) "__init__" = some (some (.ref fI_InvalidBound))
  t_InvalidBound : PySem.W.typeIn K (.ref fI_InvalidBound) = some (.type "function")
  n_InvalidBound : PySem.W.findIn K (.ref C_InvalidBound) "argument" = some none
  m_InvalidBound_InvalidBound : PySem.W.exmOne K (.ref C_InvalidBound) (.ref C_InvalidBound) = some true
  m_InvalidBound_InvalidSites : PySem.W.exmOne K (.ref C_InvalidSites) (.ref C_InvalidBound) = some false
  e_InvalidBound : excB K C_InvalidBound = true
  k_InvalidBound_CellError : PySem.W.kitOne K (.ref C_InvalidBound) (.ref C_CellError) = some true
  q_InvalidBound : xfB K C_InvalidBound = true
  m_InvalidSites_InvalidBound : PySem.W.exmOne K (.ref C_InvalidBound) (.ref C_InvalidSites) = some false
  m_InvalidSites_InvalidSites : PySem.W.exmOne K (.ref C_InvalidSites) (.ref C_InvalidSites) = some true
  e_InvalidSites : excB K C_InvalidSites = true
  k_InvalidSites_CellError : PySem.W.kitOne K (.ref C_InvalidSites) (.ref C_CellError) = some true
  q_InvalidSites : xfB K C_InvalidSites = true
  C_Desk : Addr
  g_Desk : mg "Desk" = some (.ref C_Desk)
  cl_Desk : clsB K C_Desk = true
  C_Subdivision : Addr
  g_Subdivision : mg "Subdivision" = some (.ref C_Subdivision)
  cl_Subdivision : clsB K C_Subdivision = true
  is_Desk : isiB K C_Desk = true
  is_Subdivision : isiB K C_Subdivision = true
  na_Subdivision_joined : noAtB K C_Subdivision "joined" = true
  na_Subdivision_is_row : noAtB K C_Subdivision "is_row" = true
  na_Subdivision_polygons : noAtB K C_Subdivision "polygons" = true
  na_Subdivision_border : noAtB K C_Subdivision "border" = true
  na_Subdivision_kept : noAtB K C_Subdivision "kept" = true
  na_Desk_last_change : noAtB K C_Desk "last_change" = true
  na_Desk_shown : noAtB K C_Desk "shown" = true
  na_Desk_later : noAtB K C_Desk "later" = true
  na_Desk_past : noAtB K C_Desk "past" = true
  na_Desk_present : noAtB K C_Desk "present" = true
  f_turn : Addr
  fd_turn : FuncData
  F_turn : Fun K "turn" "turn" s_turn f_turn fd_turn
  b_turn : Binds K fd_turn ["a", "b", "c"] []
  f_chain_of : Addr
  fd_chain_of : FuncData
  F_chain_of : Fun K "chain_of" "chain_of" s_chain_of f_chain_of fd_chain_of
  b_chain_of : Binds K fd_chain_of ["sites"] []
  f_border_of : Addr
  fd_border_of : FuncData
  F_border_of : Fun K "border_of" "border_of" s_border_of f_border_of fd_border_of
  b_border_of : Binds K fd_border_of ["sites"] []
  f_is_integer : Addr
  fd_is_integer : FuncData
  F_is_integer : Fun K "is_integer" "is_integer" s_is_integer f_is_integer fd_is_integer
  b_is_integer : Binds K fd_is_integer ["value"] []
  f_is_between : Addr
  fd_is_between : FuncData
  F_is_between : Fun K "is_between" "is_between" s_is_between f_is_between fd_is_between
  b_is_between : Binds K fd_is_between ["value", "low", "high"] []
  f_is_site : Addr
  fd_is_site : FuncData
  F_is_site : Fun K "is_site" "is_site" s_is_site f_is_site fd_is_site
  b_is_site : Binds K fd_is_site ["value"] []
  f_check_sites : Addr
  fd_check_sites : FuncData
  F_check_sites : Fun K "check_sites" "check_sites" s_check_sites f_check_sites fd_check_sites
  b_check_sites : Binds K fd_check_sites ["value"] []
  f_border : Addr
  fd_border : FuncData
  F_border : Fun K "border" "border" s_border f_border fd_border
  b_border : Binds K fd_border ["sites"] []
  f_double_hull : Addr
  fd_double_hull : FuncData
  F_double_hull : Fun K "double_hull" "double_hull" s_double_hull f_double_hull fd_double_hull
  b_double_hull : Binds K fd_double_hull ["sites"] []
  f_is_flat : Addr
  fd_is_flat : FuncData
  F_is_flat : Fun K "is_flat" "is_flat" s_is_flat f_is_flat fd_is_flat
  b_is_flat : Binds K fd_is_flat ["ring"] []
  f_corners_of : Addr
  fd_corners_of : FuncData
  F_corners_of : Fun K "corners_of" "corners_of" s_corners_of f_corners_of fd_corners_of
  b_corners_of : Binds K fd_corners_of ["ring"] []
  f_hull : Addr
  fd_hull : FuncData
  F_hull : Fun K "hull" "hull" s_hull f_hull fd_hull
  b_hull : Binds K fd_hull ["sites"] []
  f_layers : Addr
  fd_layers : FuncData
  F_layers : Fun K "layers" "layers" s_layers f_layers fd_layers
  b_layers : Binds K fd_layers ["sites"] []
  f_extreme : Addr
  fd_extreme : FuncData
  F_extreme : Fun K "extreme" "extreme" s_extreme f_extreme fd_extreme
  b_extreme : Binds K fd_extreme ["sites", "direction"] []
  f_check_member : Addr
  fd_check_member : FuncData
  F_check_member : Fun K "check_member" "check_member" s_check_member f_check_member fd_check_member
  b_check_member : Binds K fd_check_member ["argument", "sites", "value"] []
  f_layer_of : Addr
  fd_layer_of : FuncData
  F_layer_of : Fun K "layer_of" "layer_of" s_layer_of f_layer_of fd_layer_of
  b_layer_of : Binds K fd_layer_of ["sites", "site"] []
  f_check_site : Addr
  fd_check_site : FuncData
  F_check_site : Fun K "check_site" "check_site" s_check_site f_check_site fd_check_site
  b_check_site : Binds K fd_check_site ["argument", "value"] []
  f_seen_of : Addr
  fd_seen_of : FuncData
  F_seen_of : Fun K "seen_of" "seen_of" s_seen_of f_seen_of fd_seen_of
  b_seen_of : Binds K fd_seen_of ["found", "site"] []
  f_seen_sides : Addr
  fd_seen_sides : FuncData
  F_seen_sides : Fun K "seen_sides" "seen_sides" s_seen_sides f_seen_sides fd_seen_sides
  b_seen_sides : Binds K fd_seen_sides ["sites", "site"] []
  f_common : Addr
  fd_common : FuncData
  F_common : Fun K "common" "common" s_common f_common fd_common
  b_common : Binds K fd_common ["a", "b"] []
  f_is_place : Addr
  fd_is_place : FuncData
  F_is_place : Fun K "is_place" "is_place" s_is_place f_is_place fd_is_place
  b_is_place : Binds K fd_is_place ["value"] []
  f_check_place : Addr
  fd_check_place : FuncData
  F_check_place : Fun K "check_place" "check_place" s_check_place f_check_place fd_check_place
  b_check_place : Binds K fd_check_place ["argument", "value"] []
  f_lean_of : Addr
  fd_lean_of : FuncData
  F_lean_of : Fun K "lean_of" "lean_of" s_lean_of f_lean_of fd_lean_of
  b_lean_of : Binds K fd_lean_of ["a", "b", "place"] []
  f_on_row : Addr
  fd_on_row : FuncData
  F_on_row : Fun K "on_row" "on_row" s_on_row f_on_row fd_on_row
  b_on_row : Binds K fd_on_row ["found", "place"] []
  f_sign : Addr
  fd_sign : FuncData
  F_sign : Fun K "sign" "sign" s_sign f_sign fd_sign
  b_sign : Binds K fd_sign ["value"] []
  f_where : Addr
  fd_where : FuncData
  F_where : Fun K "where" "where" s_where f_where fd_where
  b_where : Binds K fd_where ["sites", "place"] []
  f_sides_of : Addr
  fd_sides_of : FuncData
  F_sides_of : Fun K "sides_of" "sides_of" s_sides_of f_sides_of fd_sides_of
  b_sides_of : Binds K fd_sides_of ["corners"] []
  f_Subdivision_pairs_joined : Addr
  fd_Subdivision_pairs_joined : FuncData
  F_Subdivision_pairs_joined : Fun K "pairs_joined" "Subdivision.pairs_joined" s_Subdivision_pairs_joined f_Subdivision_pairs_joined fd_Subdivision_pairs_joined
  b_Subdivision_pairs_joined : Binds K fd_Subdivision_pairs_joined ["self"] []
  f_power : Addr
  fd_power : FuncData
  F_power : Fun K "power" "power" s_power f_power fd_power
  b_power : Binds K fd_power ["a", "b", "c", "d"] []
  f_inside : Addr
  fd_inside : FuncData
  F_inside : Fun K "inside" "inside" s_inside f_inside fd_inside
  b_inside : Binds K fd_inside ["a", "b", "c", "d"] []
  f_turned_left : Addr
  fd_turned_left : FuncData
  F_turned_left : Fun K "turned_left" "turned_left" s_turned_left f_turned_left fd_turned_left
  b_turned_left : Binds K fd_turned_left ["corners"] []
  f_face_left : Addr
  fd_face_left : FuncData
  F_face_left : Fun K "face_left" "face_left" s_face_left f_face_left fd_face_left
  b_face_left : Binds K fd_face_left ["sites", "a", "b"] []
  f_faces_of : Addr
  fd_faces_of : FuncData
  F_faces_of : Fun K "faces_of" "faces_of" s_faces_of f_faces_of fd_faces_of
  b_faces_of : Binds K fd_faces_of ["sites"] []
  f_Subdivision_init : Addr
  fd_Subdivision_init : FuncData
  F_Subdivision_init : Fun K "__init__" "Subdivision.__init__" s_Subdivision_init f_Subdivision_init fd_Subdivision_init
  b_Subdivision_init : Binds K fd_Subdivision_init ["self", "sites"] []
  f_law_deep : Addr
  fd_law_deep : FuncData
  F_law_deep : Fun K "_law_deep" "_law_deep" s_law_deep f_law_deep fd_law_deep
  b_law_deep : Binds K fd_law_deep [] []
  f_law_purse : Addr
  fd_law_purse : FuncData
  F_law_purse : Fun K "_law_purse" "_law_purse" s_law_purse f_law_purse fd_law_purse
  b_law_purse : Binds K fd_law_purse ["_law_figure"] []
  f_law_said : Addr
  fd_law_said : FuncData
  F_law_said : Fun K "_law_said" "_law_said" s_law_said f_law_said fd_law_said
  b_law_said : Binds K fd_law_said ["_law_ask"] []
  f_Desk_init : Addr
  fd_Desk_init : FuncData
  F_Desk_init : Fun K "__init__" "Desk.__init__" s_Desk_init f_Desk_init fd_Desk_init
  b_Desk_init : Binds K fd_Desk_init ["self"] []
  f_law_coin : Addr
  fd_law_coin : FuncData
  F_law_coin : Fun K "_law_coin" "_law_coin" s_law_coin f_law_coin fd_law_coin
  b_law_coin : Binds K fd_law_coin ["_law_purse_here", "_law_many"] []
  f_law_pick : Addr
  fd_law_pick : FuncData
  F_law_pick : Fun K "_law_pick" "_law_pick" s_law_pick f_law_pick fd_law_pick
  b_law_pick : Binds K fd_law_pick ["_law_purse_here", "_law_some"] []
  f_law_wrong : Addr
  fd_law_wrong : FuncData
  F_law_wrong : Fun K "_law_wrong" "_law_wrong" s_law_wrong f_law_wrong fd_law_wrong
  b_law_wrong : Binds K fd_law_wrong ["_law_purse_here"] []
  f_law : Addr
  fd_law : FuncData
  c_law : Addr
  P_law : Addr
  F_law : FunC K "law" "law" s_law f_law fd_law c_law
  tm_law : (P_law, ("law.<locals>.<lambda>" : Str)) ∈ LT.T
  tu_law : ∀ p ∈ LT.T, p.1 = P_law → p.2 = "law.<locals>.<lambda>"
  l_lam0 : LT.lam 0 = some (lamD "law.<locals>.<lambda>" (lamAt s_law [0, 1, 0, 0] [0, 1]) ["_law_ask", "_law_some"] [])
  l_lam1 : LT.lam 1 = some (lamD "law.<locals>.<lambda>" (lamAt s_law [0, 1, 1, 0] [0, 1]) ["_law_ask", "_law_some"] [])
  l_lam2 : LT.lam 2 = some (lamD "law.<locals>.<lambda>" (lamAt s_law [0, 4, 0] [0, 0, 1]) ["_law_ask", "_law_good", "_law_odd"] [])
  l_lam3 : LT.lam 3 = some (lamD "law.<locals>.<lambda>" (lamAt s_law [0, 5] [0, 0, 1]) ["_law_good"] [])
  l_lam4 : LT.lam 4 = some (lamD "law.<locals>.<lambda>" (lamAt s_law [0, 7, 0] [0, 1]) ["_law_good", "_law_odd"] [])
  l_lam5 : LT.lam 5 = some (lamD "law.<locals>.<lambda>" (lamAt s_law [0, 8, 0] [0, 1]) ["_law_good", "_law_odd"] [])
  b_law : Binds K fd_law ["_law_script"] []
  mk_Subdivision : mkB K C_Subdivision f_Subdivision_init = true
  me_Subdivision_pairs_joined : methB K C_Subdivision "pairs_joined" f_Subdivision_pairs_joined = true
  mk_Desk : mkB K C_Desk f_Desk_init = true
  g_hull : mg "hull" = some (.ref f_hull)
  g_border : mg "border" = some (.ref f_border)
  g_double_hull : mg "double_hull" = some (.ref f_double_hull)
  g_layers : mg "layers" = some (.ref f_layers)
  g_border_of : mg "border_of" = some (.ref f_border_of)
  z_sorted : mg "sorted" = none
  z_list : mg "list" = none
  g_check_sites : mg "check_sites" = some (.ref f_check_sites)
  z_len : mg "len" = none
  g_chain_of : mg "chain_of" = some (.ref f_chain_of)
  g_turn : mg "turn" = some (.ref f_turn)
  t_MOST_SITES : Tok
  v_MOST_SITES : mg "MOST_SITES" = some (.int 200 t_MOST_SITES)
  z_enumerate : mg "enumerate" = none
  g_is_site : mg "is_site" = some (.ref f_is_site)
  z_isinstance : mg "isinstance" = none
  g_is_between : mg "is_between" = some (.ref f_is_between)
  t_MOST_COORDINATE : Tok
  v_MOST_COORDINATE : mg "MOST_COORDINATE" = some (.int 1000000 t_MOST_COORDINATE)
  z_all : mg "all" = none
  z_tuple : mg "tuple" = none
  g_is_integer : mg "is_integer" = some (.ref f_is_integer)
  z_bool : mg "bool" = none
  z_int : mg "int" = none
  z_range : mg "range" = none
  z_sum : mg "sum" = none
  g_corners_of : mg "corners_of" = some (.ref f_corners_of)
  g_is_flat : mg "is_flat" = some (.ref f_is_flat)
  z_dict : mg "dict" = none
  g_layer_of : mg "layer_of" = some (.ref f_layer_of)
  g_seen_sides : mg "seen_sides" = some (.ref f_seen_sides)
  g_extreme : mg "extreme" = some (.ref f_extreme)
  g_where : mg "where" = some (.ref f_where)
  z_max : mg "max" = none
  t_MOST_DIRECTION : Tok
  v_MOST_DIRECTION : mg "MOST_DIRECTION" = some (.int 1000000000000000000000000000000 t_MOST_DIRECTION)
  g_check_member : mg "check_member" = some (.ref f_check_member)
  g_seen_of : mg "seen_of" = some (.ref f_seen_of)
  g_check_site : mg "check_site" = some (.ref f_check_site)
  g_sign : mg "sign" = some (.ref f_sign)
  g_lean_of : mg "lean_of" = some (.ref f_lean_of)
  z_min : mg "min" = none
  g_on_row : mg "on_row" = some (.ref f_on_row)
  g_check_place : mg "check_place" = some (.ref f_check_place)
  g_is_place : mg "is_place" = some (.ref f_is_place)
  g_common : mg "common" = some (.ref f_common)
  z_abs : mg "abs" = none
  t_MOST_PLACE : Tok
  v_MOST_PLACE : mg "MOST_PLACE" = some (.int 1000000000000000000000000000000 t_MOST_PLACE)
  g__law_said : mg "_law_said" = some (.ref f_law_said)
  g__law_deep : mg "_law_deep" = some (.ref f_law_deep)
  g__law_wrong : mg "_law_wrong" = some (.ref f_law_wrong)
  g__law_purse : mg "_law_purse" = some (.ref f_law_purse)
  g_faces_of : mg "faces_of" = some (.ref f_faces_of)
  g_sides_of : mg "sides_of" = some (.ref f_sides_of)
  z_zip : mg "zip" = none
  g_face_left : mg "face_left" = some (.ref f_face_left)
  g_turned_left : mg "turned_left" = some (.ref f_turned_left)
  g_inside : mg "inside" = some (.ref f_inside)
  g_power : mg "power" = some (.ref f_power)
  g__law_coin : mg "_law_coin" = some (.ref f_law_coin)
  g__law_pick : mg "_law_pick" = some (.ref f_law_pick)
/-- the tables of the makers -/
structure Bx {K : PySem.W.Frag} {mg : Str → Option Value} {LT : LTab} (T : Tx K mg LT) (base : Heap) : Prop where
  B_law : LamX.TabB base mg T.c_law T.P_law
section
variable {P : Program} {w : World} {K : PySem.W.Frag} {mg : Str → Option Value} {base : Heap} {LT : LTab}
theorem mk_law {X : Cx} (T : Tx X.K X.mg LT) (B : Bx T X.base) (hc : X.env.code = .ref T.c_law) : MkT LT X "law.<locals>.<lambda>" := ⟨T.c_law, T.P_law, B.B_law, hc, T.tm_law, T.tu_law⟩
theorem capT_law (T : Tx K mg LT) : CapT LT N_law (defScope s_law) cap_law := (.cons T.l_lam0 ⟨rfl, .inl rfl, ⟨rfl, .inl rfl, trivial⟩⟩ (.cons T.l_lam1 ⟨rfl, .inl rfl, ⟨rfl, .inl rfl, trivial⟩⟩ (.cons T.l_lam3 ⟨rfl, .inl rfl, trivial⟩ (.cons T.l_lam4 ⟨rfl, .inl rfl, ⟨rfl, .inl rfl, trivial⟩⟩ (.cons T.l_lam5 ⟨rfl, .inl rfl, ⟨rfl, .inl rfl, trivial⟩⟩ .nil)))))
theorem ok_init_InvalidSites (T : Tx K mg LT) : FnOk P w K mg base (L2.CX P w) 1 T.fI_InvalidSites T.fdI_InvalidSites ["self", "at"] (spI K T.C_CellError T.C_InvalidSites "at") :=
  in1_ok T.FI_InvalidSites sc_init_InvalidSites fun cdv A outer s H E hr => z_in1 (pe_erI1 T.D_CellError (by rfl) T.g_CellError (pe_var (i := 0) rfl (.inl rfl)) pe_str) (pe_var (i := 0) rfl (.inl rfl)) (pe_var (i := 1) rfl (.inl rfl))
theorem er_InvalidSites {X : Cx} (T : Tx X.K X.mg LT) : ErT X "InvalidSites" ["at"] := ⟨T.C_CellError, T.C_InvalidSites, T.fI_InvalidSites, T.fdI_InvalidSites, T.E_InvalidSites, T.g_InvalidSites, T.i_InvalidSites, T.t_InvalidSites, .inl ⟨"at", "at", rfl, T.n_InvalidSites, ok_init_InvalidSites T, T.bI_InvalidSites⟩⟩
theorem ok_init_InvalidBound (T : Tx K mg LT) : FnOk P w K mg base (L2.CX P w) 1 T.fI_InvalidBound T.fdI_InvalidBound ["self", "argument"] (spI K T.C_CellError T.C_InvalidBound "argument") :=
  in1_ok T.FI_InvalidBound sc_init_InvalidBound fun cdv A outer s H E hr => z_in1 (pe_erI1 T.D_CellError (by rfl) T.g_CellError (pe_var (i := 0) rfl (.inl rfl)) pe_str) (pe_var (i := 0) rfl (.inl rfl)) (pe_var (i := 1) rfl (.inl rfl))
theorem er_InvalidBound {X : Cx} (T : Tx X.K X.mg LT) : ErT X "InvalidBound" ["argument"] := ⟨T.C_CellError, T.C_InvalidBound, T.fI_InvalidBound, T.fdI_InvalidBound, T.E_InvalidBound, T.g_InvalidBound, T.i_InvalidBound, T.t_InvalidBound, .inl ⟨"argument", "argument", rfl, T.n_InvalidBound, ok_init_InvalidBound T, T.bI_InvalidBound⟩⟩
theorem ok_turn (T : Tx K mg LT) (B : Bx T base) : FnOk P w K mg base (L2.CX P w) 1 T.f_turn T.fd_turn ["a", "b", "c"] (spD ⟨P, w, K, mg, LT⟩ N_turn 3 d_turn) :=
  fn_ok T.F_turn sc_turn fun cdv A outer s H E hr =>
    (z_one (z_ret (z_sub (z_mul (z_sub (z_ixA (huz hr) (z_v (i := 1)) z_int) (z_ixA (huz hr) (z_v (i := 0)) z_int)) (z_sub (z_ixA (huz hr) (z_v (i := 2)) z_int) (z_ixA (huz hr) (z_v (i := 0)) z_int))) (z_mul (z_sub (z_ixA (huz hr) (z_v (i := 1)) z_int) (z_ixA (huz hr) (z_v (i := 0)) z_int)) (z_sub (z_ixA (huz hr) (z_v (i := 2)) z_int) (z_ixA (huz hr) (z_v (i := 0)) z_int))))))
theorem ok_chain_of (T : Tx K mg LT) (B : Bx T base) : FnOk P w K mg base (L2.CX P w) 2 T.f_chain_of T.fd_chain_of ["sites"] (spD ⟨P, w, K, mg, LT⟩ N_chain_of 1 d_chain_of) :=
  fn_ok T.F_chain_of sc_chain_of fun cdv A outer s H E hr =>
    (z_cons (z_set (i := 1) sc_chain_of.nd rfl (Or.inl rfl) (z_lst z_anil))
    (z_cons (z_for (passes_of rfl) rfl (zi_seqA (z_v (i := 0))) (zg_name (i := 2) sc_chain_of.nd rfl (Or.inl rfl)) (z_cons (z_while (passes_of rfl) (z_and (zt_cmp op_gt op2_gt (z_cB opn_len call_len_seq (by rfl) T.z_len rfl (z_acons (z_v (i := 1)) z_anil)) z_int (nomark _)) (z_and1 (zt_cmp (op_ltZ hr.units0) op2_lt (z_call (N := N_turn) (ok_turn T B) (hr.mono (by decide)) (by rfl) T.g_turn T.F_turn.kp T.b_turn .nil (fun _ _ => RFs.nil_) (takes_of rfl rfl rfl rfl) (z_acons (z_fz (z_ixA (huz hr) (z_v (i := 1)) (z_neg z_int))) (z_acons (z_fz (z_ixA (huz hr) (z_v (i := 1)) (z_neg z_int))) (z_acons (z_fz (z_v (i := 2))) z_anil))) (by decide)) z_int (nomark _)))).pt (z_one (z_exp (z_mt0 opm_pop PySem.F.plainAttrs_list PySem.F.slot_list_pop PySem.F.type_list_pop mt_pop (z_v (i := 1))))))
    (z_one (z_exp (z_mt opm_append PySem.F.plainAttrs_list PySem.F.slot_list_append PySem.F.type_list_append mt_append (z_v (i := 1)) (z_acons (z_fz (z_v (i := 2))) z_anil))))))
    (z_one (z_ret (z_v (i := 1))))))
theorem ok_border_of (T : Tx K mg LT) (B : Bx T base) : FnOk P w K mg base (L2.CX P w) 3 T.f_border_of T.fd_border_of ["sites"] (spD ⟨P, w, K, mg, LT⟩ N_border_of 1 d_border_of) :=
  fn_ok T.F_border_of sc_border_of fun cdv A outer s H E hr =>
    (z_cons (z_par (i := 1) (j := 2) rfl sc_border_of.nd rfl rfl (by decide) rfl rfl (z_acons (z_fz (z_call (N := N_chain_of) (ok_chain_of T B) (hr.mono (by decide)) (by rfl) T.g_chain_of T.F_chain_of.kp T.b_chain_of .nil (fun _ _ => RFs.nil_) (takes_of rfl rfl rfl rfl) (z_acons (z_fz (z_v (i := 0))) z_anil) (by decide))) (z_acons (z_fz (z_call (N := N_chain_of) (ok_chain_of T B) (hr.mono (by decide)) (by rfl) T.g_chain_of T.F_chain_of.kp T.b_chain_of .nil (fun _ _ => RFs.nil_) (takes_of rfl rfl rfl rfl) (z_acons (z_fz (z_rev (z_v (i := 0)))) z_anil) (by decide))) z_anil)) rfl)
    (z_cons (z_ifS (z_and (zt_cmp (op_eqL hr.units) op2_eqL (z_cB opn_len call_len_seq (by rfl) T.z_len rfl (z_acons (z_v (i := 1)) z_anil)) (z_cB opn_len call_len_seq (by rfl) T.z_len rfl (z_acons (z_v (i := 0)) z_anil)) (nomark _)) (z_and1 (zt_cmp (op_eqL hr.units) op2_eqL (z_v (i := 1)) (z_rev (z_v (i := 2))) (nomark _)))).pt (z_one (z_ret (z_v (i := 0)))) z_nil)
    (z_one (z_ret (z_add (z_sl (z_v (i := 1)) z_no (z_so (z_neg z_int))) (z_sl (z_v (i := 2)) z_no (z_so (z_neg z_int))))))))
theorem ok_is_integer (T : Tx K mg LT) (B : Bx T base) : FnOk P w K mg base (L2.CX P w) 1 T.f_is_integer T.fd_is_integer ["value"] (spD ⟨P, w, K, mg, LT⟩ N_is_integer 1 d_is_integer) :=
  fn_ok T.F_is_integer sc_is_integer fun cdv A outer s H E hr =>
    (z_one (z_ret (z_vand (z_cB opn_isiC (cr_isiC (.cons T.g_Subdivision T.cl_Subdivision T.is_Subdivision (.cons T.g_Desk T.cl_Desk T.is_Desk .nil))) (by rfl) T.z_isinstance rfl (z_acons (z_v (i := 0)) (z_acons (z_ty (by rfl) T.z_int rfl) z_anil))) (z_vone (z_vnot (z_cB opn_isiC (cr_isiC (.cons T.g_Subdivision T.cl_Subdivision T.is_Subdivision (.cons T.g_Desk T.cl_Desk T.is_Desk .nil))) (by rfl) T.z_isinstance rfl (z_acons (z_v (i := 0)) (z_acons (z_ty (by rfl) T.z_bool rfl) z_anil))))))))
theorem ok_is_between (T : Tx K mg LT) (B : Bx T base) : FnOk P w K mg base (L2.CX P w) 2 T.f_is_between T.fd_is_between ["value", "low", "high"] (spD ⟨P, w, K, mg, LT⟩ N_is_between 3 d_is_between) :=
  fn_ok T.F_is_between sc_is_between fun cdv A outer s H E hr =>
    (z_one (z_ret (z_vand (z_call (N := N_is_integer) (ok_is_integer T B) (hr.mono (by decide)) (by rfl) T.g_is_integer T.F_is_integer.kp T.b_is_integer .nil (fun _ _ => RFs.nil_) (takes_of rfl rfl rfl rfl) (z_acons (z_fz (z_v (i := 0))) z_anil) (by decide)) (z_vone (z_ch op_le op_le op2_le op2_le (z_v (i := 1)) (z_v (i := 0)) (z_v (i := 2)))))))
theorem ok_is_site (T : Tx K mg LT) (B : Bx T base) : FnOk P w K mg base (L2.CX P w) 3 T.f_is_site T.fd_is_site ["value"] (spD ⟨P, w, K, mg, LT⟩ N_is_site 1 d_is_site) :=
  fn_ok T.F_is_site sc_is_site fun cdv A outer s H E hr =>
    (z_cons (z_ifS (z_or (z_not (z_B (z_cB opn_isiC (cr_isiC (.cons T.g_Subdivision T.cl_Subdivision T.is_Subdivision (.cons T.g_Desk T.cl_Desk T.is_Desk .nil))) (by rfl) T.z_isinstance rfl (z_acons (z_v (i := 0)) (z_acons (z_ty (by rfl) T.z_tuple rfl) z_anil))))) (z_or1 (zt_cmp (op_neL hr.units) op2_neL (z_cB opn_len call_len_seq (by rfl) T.z_len rfl (z_acons (z_v (i := 0)) z_anil)) z_int (nomark _)))).pt (z_one (z_ret z_bl)) z_nil)
    (z_one (z_ret (z_cB opn_all (cr_all rfl) (by rfl) T.z_all rfl (z_acons (z_lc (G := gName 1) (own := [("one", 1)]) rfl (pat_name (by decide)) rfl sc_is_site.nd (zi_seqA (z_v (i := 0))) (blkOk_by (N := N_is_site) (sc := defScope s_is_site) (by decide +kernel)) (fun _ _ _ _ _ => pg_name (i := 1) sc_is_site.nd rfl (Or.inl rfl)) (fun _ _ _ _ _ => zts_nil) (fun _ _ _ _ _ => (z_fz (z_call (N := N_is_between) (ok_is_between T B) (hr.mono (by decide)) (by rfl) T.g_is_between T.F_is_between.kp T.b_is_between .nil (fun _ _ => RFs.nil_) takesB (z_acons (z_fz (z_v (i := 1))) (z_acons (z_sub z_int (z_glob (by rfl) T.v_MOST_COORDINATE)) (z_acons (z_fz (z_glob (by rfl) T.v_MOST_COORDINATE)) z_anil))) (by decide))))) z_anil)))))
theorem ok_check_sites (T : Tx K mg LT) (B : Bx T base) : FnOk P w K mg base (L2.CX P w) 4 T.f_check_sites T.fd_check_sites ["value"] (spD ⟨P, w, K, mg, LT⟩ N_check_sites 1 d_check_sites) :=
  fn_ok T.F_check_sites sc_check_sites fun cdv A outer s H E hr =>
    (z_cons (z_ifS (z_not (z_B (z_cB opn_isiC (cr_isiC (.cons T.g_Subdivision T.cl_Subdivision T.is_Subdivision (.cons T.g_Desk T.cl_Desk T.is_Desk .nil))) (by rfl) T.z_isinstance rfl (z_acons (z_v (i := 0)) (z_acons (z_ty (by rfl) T.z_list rfl) z_anil))))) (z_one (z_raise1 rfl (takes_of rfl rfl rfl rfl) (er_InvalidSites T) (hr.mono (by decide)) (by rfl) (z_acons (z_fz (z_neg z_int)) z_anil))) z_nil)
    (z_cons (z_ifS (zt_cmp (op_eqL hr.units) op2_eqL (z_v (i := 0)) (z_lst z_anil) (nomark _)) (z_one (z_raise1 rfl (takes_of rfl rfl rfl rfl) (er_InvalidSites T) (hr.mono (by decide)) (by rfl) (z_acons z_int z_anil))) z_nil)
    (z_cons (z_set (i := 1) sc_check_sites.nd rfl (Or.inl rfl) z_dnew)
    (z_one (z_for (passes_of rfl) rfl (zi_enum (by rfl) T.z_enumerate (z_acons (z_fz (z_sl (z_v (i := 0)) z_no (z_so (z_add (z_glob (by rfl) T.v_MOST_SITES) z_int)))) z_anil)) (zg_seq rfl (zg_cons (zg_name (i := 2) sc_check_sites.nd rfl (Or.inl rfl)) (zg_cons (zg_name (i := 3) sc_check_sites.nd rfl (Or.inl rfl)) zg_nil))) (z_cons (z_ifS (z_or (zt_cmp (op_eqL hr.units) op2_eqL (z_v (i := 2)) (z_glob (by rfl) T.v_MOST_SITES) (nomark _)) (z_or (z_not (z_B (z_call (N := N_is_site) (ok_is_site T B) (hr.mono (by decide)) (by rfl) T.g_is_site T.F_is_site.kp T.b_is_site .nil (fun _ _ => RFs.nil_) (takes_of rfl rfl rfl rfl) (z_acons (z_fz (z_v (i := 3))) z_anil) (by decide)))) (z_or1 (zt_cmp (op_inZ (huz hr)) op2_in (z_v (i := 3)) (z_v (i := 1)) (by with_unfolding_all rfl))))).pt (z_one (z_raise1 rfl (takes_of rfl rfl rfl rfl) (er_InvalidSites T) (hr.mono (by decide)) (by rfl) (z_acons (z_fz (z_v (i := 2))) z_anil))) z_nil)
    (z_one (z_asg z_bl (zg_sub (huz hr) (z_v (i := 1)) (z_fz (z_v (i := 3))))))))))))
theorem ok_border (T : Tx K mg LT) (B : Bx T base) : FnOk P w K mg base (L2.CX P w) 5 T.f_border T.fd_border ["sites"] (spD ⟨P, w, K, mg, LT⟩ N_border 1 d_border) :=
  fn_ok T.F_border sc_border fun cdv A outer s H E hr =>
    (z_cons (z_exp (z_call (N := N_check_sites) (ok_check_sites T B) (hr.mono (by decide)) (by rfl) T.g_check_sites T.F_check_sites.kp T.b_check_sites .nil (fun _ _ => RFs.nil_) (takes_of rfl rfl rfl rfl) (z_acons (z_fz (z_v (i := 0))) z_anil) (by decide)))
    (z_one (z_ret (z_cT opn_list call_list_of (by rfl) T.z_list rfl (z_acons (z_call (N := N_border_of) (ok_border_of T B) (hr.mono (by decide)) (by rfl) T.g_border_of T.F_border_of.kp T.b_border_of .nil (fun _ _ => RFs.nil_) (takes_of rfl rfl rfl rfl) (z_acons (z_fz (z_cB opn_srt2 (cr_srt rfl (huz hr)) (by rfl) T.z_sorted rfl (z_acons (z_v (i := 0)) z_anil))) z_anil) (by decide)) z_anil)))))
theorem ok_double_hull (T : Tx K mg LT) (B : Bx T base) : FnOk P w K mg base (L2.CX P w) 5 T.f_double_hull T.fd_double_hull ["sites"] (spD ⟨P, w, K, mg, LT⟩ N_double_hull 1 d_double_hull) :=
  fn_ok T.F_double_hull sc_double_hull fun cdv A outer s H E hr =>
    (z_cons (z_exp (z_call (N := N_check_sites) (ok_check_sites T B) (hr.mono (by decide)) (by rfl) T.g_check_sites T.F_check_sites.kp T.b_check_sites .nil (fun _ _ => RFs.nil_) (takes_of rfl rfl rfl rfl) (z_acons (z_fz (z_v (i := 0))) z_anil) (by decide)))
    (z_cons (z_set (i := 1) sc_double_hull.nd rfl (Or.inr rfl) (z_fz (z_call (N := N_border_of) (ok_border_of T B) (hr.mono (by decide)) (by rfl) T.g_border_of T.F_border_of.kp T.b_border_of .nil (fun _ _ => RFs.nil_) (takes_of rfl rfl rfl rfl) (z_acons (z_fz (z_cB opn_srt2 (cr_srt rfl (huz hr)) (by rfl) T.z_sorted rfl (z_acons (z_v (i := 0)) z_anil))) z_anil) (by decide))))
    (z_one (z_ret (z_cB opn_sum (cr_sum rfl) (by rfl) T.z_sum rfl (z_acons (z_lc (G := gName 2) (own := [("at", 2)]) rfl (pat_name (by decide)) rfl sc_double_hull.nd (zi_range2 (by rfl) T.z_range (z_acons z_int (z_acons (z_cB opn_len call_len_seq (by rfl) T.z_len rfl (z_acons (z_v (i := 1)) z_anil)) z_anil))) (blkOk_by (N := N_double_hull) (sc := defScope s_double_hull) (by decide +kernel)) (fun _ _ _ _ _ => pg_name (i := 2) sc_double_hull.nd rfl (Or.inl rfl)) (fun _ _ _ _ _ => zts_nil) (fun _ _ _ _ _ => (z_fz (z_call (N := N_turn) (ok_turn T B) (hr.mono (by decide)) (by rfl) T.g_turn T.F_turn.kp T.b_turn .nil (fun _ _ => RFs.nil_) takesB (z_acons (z_fz (z_ixA (huz hr) (z_v (i := 1)) z_int)) (z_acons (z_fz (z_ixA (huz hr) (z_v (i := 1)) (z_sub (z_v (i := 2)) z_int))) (z_acons (z_fz (z_ixA (huz hr) (z_v (i := 1)) (z_v (i := 2)))) z_anil))) (by decide))))) z_anil))))))
theorem ok_is_flat (T : Tx K mg LT) (B : Bx T base) : FnOk P w K mg base (L2.CX P w) 2 T.f_is_flat T.fd_is_flat ["ring"] (spD ⟨P, w, K, mg, LT⟩ N_is_flat 1 d_is_flat) :=
  fn_ok T.F_is_flat sc_is_flat fun cdv A outer s H E hr =>
    (z_one (z_ret (z_cB opn_all (cr_all rfl) (by rfl) T.z_all rfl (z_acons (z_lc (G := gName 1) (own := [("site", 1)]) rfl (pat_name (by decide)) rfl sc_is_flat.nd (zi_seqA (z_v (i := 0))) (blkOk_by (N := N_is_flat) (sc := defScope s_is_flat) (by decide +kernel)) (fun _ _ _ _ _ => pg_name (i := 1) sc_is_flat.nd rfl (Or.inl rfl)) (fun _ _ _ _ _ => zts_nil) (fun _ _ _ _ _ => (z_cmp (op_eqL hr.units) op2_eqL (z_call (N := N_turn) (ok_turn T B) (hr.mono (by decide)) (by rfl) T.g_turn T.F_turn.kp T.b_turn .nil (fun _ _ => RFs.nil_) takesB (z_acons (z_fz (z_ixA (huz hr) (z_v (i := 0)) z_int)) (z_acons (z_fz (z_ixA (huz hr) (z_v (i := 0)) (z_neg z_int))) (z_acons (z_fz (z_v (i := 1))) z_anil))) (by decide)) z_int (nomark _)))) z_anil))))
theorem ok_corners_of (T : Tx K mg LT) (B : Bx T base) : FnOk P w K mg base (L2.CX P w) 3 T.f_corners_of T.fd_corners_of ["ring"] (spD ⟨P, w, K, mg, LT⟩ N_corners_of 1 d_corners_of) :=
  fn_ok T.F_corners_of sc_corners_of fun cdv A outer s H E hr =>
    (z_cons (z_ifS (z_B (z_call (N := N_is_flat) (ok_is_flat T B) (hr.mono (by decide)) (by rfl) T.g_is_flat T.F_is_flat.kp T.b_is_flat .nil (fun _ _ => RFs.nil_) (takes_of rfl rfl rfl rfl) (z_acons (z_fz (z_v (i := 0))) z_anil) (by decide))) (z_one (z_ret (z_if (zt_cmp op_gt op2_gt (z_cB opn_len call_len_seq (by rfl) T.z_len rfl (z_acons (z_v (i := 0)) z_anil)) z_int (nomark _)) (z_add (z_sl (z_v (i := 0)) z_no (z_so z_int)) (z_sl (z_v (i := 0)) (z_so (z_neg z_int)) z_no)) (z_v (i := 0))))) z_nil)
    (z_cons (z_set (i := 1) sc_corners_of.nd rfl (Or.inr rfl) (z_cB opn_len call_len_seq (by rfl) T.z_len rfl (z_acons (z_v (i := 0)) z_anil)))
    (z_one (z_ret (z_lc (G := gName 2) (own := [("at", 2)]) rfl (pat_name (by decide)) rfl sc_corners_of.nd (zi_range1 (by rfl) T.z_range (z_acons (z_v (i := 1)) z_anil)) (blkOk_by (N := N_corners_of) (sc := defScope s_corners_of) (by decide +kernel)) (fun _ _ _ _ _ => pg_name (i := 2) sc_corners_of.nd rfl (Or.inl rfl)) (fun _ _ _ _ _ => zts_one (zt_cmp (op_neL hr.units) op2_neL (z_call (N := N_turn) (ok_turn T B) (hr.mono (by decide)) (by rfl) T.g_turn T.F_turn.kp T.b_turn .nil (fun _ _ => RFs.nil_) takesB (z_acons (z_fz (z_ixA (huz hr) (z_v (i := 0)) (z_sub (z_v (i := 2)) z_int))) (z_acons (z_fz (z_ixA (huz hr) (z_v (i := 0)) (z_v (i := 2)))) (z_acons (z_fz (z_ixA (huz hr) (z_v (i := 0)) (z_mod (z_add (z_v (i := 2)) z_int) (z_v (i := 1))))) z_anil))) (by decide)) z_int (nomark _))) (fun _ _ _ _ _ => (z_fz (z_ixA (huz hr) (z_v (i := 0)) (z_v (i := 2))))))))))
theorem ok_hull (T : Tx K mg LT) (B : Bx T base) : FnOk P w K mg base (L2.CX P w) 5 T.f_hull T.fd_hull ["sites"] (spD ⟨P, w, K, mg, LT⟩ N_hull 1 d_hull) :=
  fn_ok T.F_hull sc_hull fun cdv A outer s H E hr =>
    (z_cons (z_exp (z_call (N := N_check_sites) (ok_check_sites T B) (hr.mono (by decide)) (by rfl) T.g_check_sites T.F_check_sites.kp T.b_check_sites .nil (fun _ _ => RFs.nil_) (takes_of rfl rfl rfl rfl) (z_acons (z_fz (z_v (i := 0))) z_anil) (by decide)))
    (z_one (z_ret (z_call (N := N_corners_of) (ok_corners_of T B) (hr.mono (by decide)) (by rfl) T.g_corners_of T.F_corners_of.kp T.b_corners_of .nil (fun _ _ => RFs.nil_) (takes_of rfl rfl rfl rfl) (z_acons (z_fz (z_cT opn_list call_list_of (by rfl) T.z_list rfl (z_acons (z_call (N := N_border_of) (ok_border_of T B) (hr.mono (by decide)) (by rfl) T.g_border_of T.F_border_of.kp T.b_border_of .nil (fun _ _ => RFs.nil_) (takes_of rfl rfl rfl rfl) (z_acons (z_fz (z_cB opn_srt2 (cr_srt rfl (huz hr)) (by rfl) T.z_sorted rfl (z_acons (z_v (i := 0)) z_anil))) z_anil) (by decide)) z_anil))) z_anil) (by decide)))))
theorem ok_layers (T : Tx K mg LT) (B : Bx T base) : FnOk P w K mg base (L2.CX P w) 5 T.f_layers T.fd_layers ["sites"] (spD ⟨P, w, K, mg, LT⟩ N_layers 1 d_layers) :=
  fn_ok T.F_layers sc_layers fun cdv A outer s H E hr =>
    (z_cons (z_exp (z_call (N := N_check_sites) (ok_check_sites T B) (hr.mono (by decide)) (by rfl) T.g_check_sites T.F_check_sites.kp T.b_check_sites .nil (fun _ _ => RFs.nil_) (takes_of rfl rfl rfl rfl) (z_acons (z_fz (z_v (i := 0))) z_anil) (by decide)))
    (z_cons (z_par (i := 1) (j := 2) rfl sc_layers.nd rfl rfl (by decide) rfl rfl (z_acons (z_fz (z_cB opn_srt2 (cr_srt rfl (huz hr)) (by rfl) T.z_sorted rfl (z_acons (z_v (i := 0)) z_anil))) (z_acons (z_lst z_anil) z_anil)) rfl)
    (z_cons (z_while (passes_of rfl) (zt_cmp (op_neL hr.units) op2_neL (z_v (i := 1)) (z_lst z_anil) (nomark _)) (z_cons (z_exp (z_mt opm_append PySem.F.plainAttrs_list PySem.F.slot_list_append PySem.F.type_list_append mt_append (z_v (i := 2)) (z_acons (z_fz (z_cT opn_list call_list_of (by rfl) T.z_list rfl (z_acons (z_call (N := N_border_of) (ok_border_of T B) (hr.mono (by decide)) (by rfl) T.g_border_of T.F_border_of.kp T.b_border_of .nil (fun _ _ => RFs.nil_) (takes_of rfl rfl rfl rfl) (z_acons (z_fz (z_v (i := 1))) z_anil) (by decide)) z_anil))) z_anil)))
    (z_cons (z_set (i := 3) sc_layers.nd rfl (Or.inr rfl) (z_fz (z_cT opn_dict (cr_dict rfl (huz hr)) (by rfl) T.z_dict rfl (z_acons (z_lc (G := gName 4) (own := [("site", 4)]) rfl (pat_name (by decide)) rfl sc_layers.nd (zi_seqA (z_ixA (huz hr) (z_v (i := 2)) (z_neg z_int))) (blkOk_by (N := N_layers) (sc := defScope s_layers) (by decide +kernel)) (fun _ _ _ _ _ => pg_name (i := 4) sc_layers.nd rfl (Or.inl rfl)) (fun _ _ _ _ _ => zts_nil) (fun _ _ _ _ _ => (z_tup (z_acons (z_fz (z_v (i := 4))) (z_acons z_bl z_anil))))) z_anil))))
    (z_one (z_setLc (i := 1) (G := gName 4) (own := [("site", 4)]) rfl (pat_name (by decide)) rfl sc_layers.nd rfl rfl (sw_true rfl rfl rfl (by decide +kernel)) (zi_seqA (z_v (i := 1))) (blkOk_by (N := N_layers) (sc := defScope s_layers) (by decide +kernel)) (fun _ _ _ _ _ => pg_name (i := 4) sc_layers.nd rfl (Or.inl rfl)) (fun _ _ _ _ _ => zts_one (zt_cmp (op_ninZ (huz hr)) op2_nin (z_v (i := 4)) (z_v (i := 3)) (by with_unfolding_all rfl))) (fun _ _ _ _ _ => (z_fz (z_v (i := 4)))))))))
    (z_one (z_ret (z_v (i := 2)))))))
theorem ok_extreme (T : Tx K mg LT) (B : Bx T base) : FnOk P w K mg base (L2.CX P w) 5 T.f_extreme T.fd_extreme ["sites", "direction"] (spD ⟨P, w, K, mg, LT⟩ N_extreme 2 d_extreme) :=
  fn_ok T.F_extreme sc_extreme fun cdv A outer s H E hr =>
    (z_cons (z_exp (z_call (N := N_check_sites) (ok_check_sites T B) (hr.mono (by decide)) (by rfl) T.g_check_sites T.F_check_sites.kp T.b_check_sites .nil (fun _ _ => RFs.nil_) (takes_of rfl rfl rfl rfl) (z_acons (z_fz (z_v (i := 0))) z_anil) (by decide)))
    (z_cons (z_ifS (z_or (z_not (z_B (z_cB opn_isiC (cr_isiC (.cons T.g_Subdivision T.cl_Subdivision T.is_Subdivision (.cons T.g_Desk T.cl_Desk T.is_Desk .nil))) (by rfl) T.z_isinstance rfl (z_acons (z_v (i := 1)) (z_acons (z_ty (by rfl) T.z_tuple rfl) z_anil))))) (z_or1 (zt_cmp (op_neL hr.units) op2_neL (z_cB opn_len call_len_seq (by rfl) T.z_len rfl (z_acons (z_v (i := 1)) z_anil)) z_int (nomark _)))).pt (z_one (z_raise1 rfl (takes_of rfl rfl rfl rfl) (er_InvalidBound T) (hr.mono (by decide)) (by rfl) (z_acons z_str z_anil))) z_nil)
    (z_cons (z_ifS (z_not (z_B (z_cB opn_all (cr_all rfl) (by rfl) T.z_all rfl (z_acons (z_lc (G := gName 6) (own := [("one", 6)]) rfl (pat_name (by decide)) rfl sc_extreme.nd (zi_seqA (z_v (i := 1))) (blkOk_by (N := N_extreme) (sc := defScope s_extreme) (by decide +kernel)) (fun _ _ _ _ _ => pg_name (i := 6) sc_extreme.nd rfl (Or.inl rfl)) (fun _ _ _ _ _ => zts_nil) (fun _ _ _ _ _ => (z_fz (z_call (N := N_is_between) (ok_is_between T B) (hr.mono (by decide)) (by rfl) T.g_is_between T.F_is_between.kp T.b_is_between .nil (fun _ _ => RFs.nil_) takesB (z_acons (z_fz (z_v (i := 6))) (z_acons (z_sub z_int (z_glob (by rfl) T.v_MOST_DIRECTION)) (z_acons (z_sub (z_glob (by rfl) T.v_MOST_DIRECTION) z_int) z_anil))) (by decide))))) z_anil)))) (z_one (z_raise1 rfl (takes_of rfl rfl rfl rfl) (er_InvalidBound T) (hr.mono (by decide)) (by rfl) (z_acons z_str z_anil))) z_nil)
    (z_cons (z_ifS (zt_cmp (op_eqL hr.units) op2_eqL (z_v (i := 1)) (z_tup (z_acons z_int (z_acons z_int z_anil))) (nomark _)) (z_one (z_raise1 rfl (takes_of rfl rfl rfl rfl) (er_InvalidBound T) (hr.mono (by decide)) (by rfl) (z_acons z_str z_anil))) z_nil)
    (z_cons (z_asg (z_v (i := 1)) (zg_seq rfl (zg_cons (zg_name (i := 2) sc_extreme.nd rfl (Or.inr rfl)) (zg_cons (zg_name (i := 3) sc_extreme.nd rfl (Or.inr rfl)) zg_nil))))
    (z_cons (z_set (i := 4) sc_extreme.nd rfl (Or.inr rfl) (z_fz (z_cB opn_max (cr_maxZ rfl) (by rfl) T.z_max rfl (z_acons (z_lc (G := gName 5) (own := [("site", 5)]) rfl (pat_name (by decide)) rfl sc_extreme.nd (zi_seqA (z_v (i := 0))) (blkOk_by (N := N_extreme) (sc := defScope s_extreme) (by decide +kernel)) (fun _ _ _ _ _ => pg_name (i := 5) sc_extreme.nd rfl (Or.inl rfl)) (fun _ _ _ _ _ => zts_nil) (fun _ _ _ _ _ => (z_add (z_mul (z_v (i := 2)) (z_ixA (huz hr) (z_v (i := 5)) z_int)) (z_mul (z_v (i := 3)) (z_ixA (huz hr) (z_v (i := 5)) z_int))))) z_anil))))
    (z_one (z_ret (z_cB opn_srt2 (cr_srt rfl (huz hr)) (by rfl) T.z_sorted rfl (z_acons (z_lc (G := gName 5) (own := [("site", 5)]) rfl (pat_name (by decide)) rfl sc_extreme.nd (zi_seqA (z_v (i := 0))) (blkOk_by (N := N_extreme) (sc := defScope s_extreme) (by decide +kernel)) (fun _ _ _ _ _ => pg_name (i := 5) sc_extreme.nd rfl (Or.inl rfl)) (fun _ _ _ _ _ => zts_one (zt_cmp (op_eqL hr.units) op2_eqL (z_add (z_mul (z_v (i := 2)) (z_ixA (huz hr) (z_v (i := 5)) z_int)) (z_mul (z_v (i := 3)) (z_ixA (huz hr) (z_v (i := 5)) z_int))) (z_v (i := 4)) (nomark _))) (fun _ _ _ _ _ => (z_fz (z_v (i := 5))))) z_anil))))))))))
theorem ok_check_member (T : Tx K mg LT) (B : Bx T base) : FnOk P w K mg base (L2.CX P w) 4 T.f_check_member T.fd_check_member ["argument", "sites", "value"] (spD ⟨P, w, K, mg, LT⟩ N_check_member 3 d_check_member) :=
  fn_ok T.F_check_member sc_check_member fun cdv A outer s H E hr =>
    (z_one (z_ifS (z_or (z_not (z_B (z_call (N := N_is_site) (ok_is_site T B) (hr.mono (by decide)) (by rfl) T.g_is_site T.F_is_site.kp T.b_is_site .nil (fun _ _ => RFs.nil_) (takes_of rfl rfl rfl rfl) (z_acons (z_fz (z_v (i := 2))) z_anil) (by decide)))) (z_or1 (zt_cmp (op_ninZ (huz hr)) op2_nin (z_v (i := 2)) (z_v (i := 1)) (by with_unfolding_all rfl)))).pt (z_one (z_raise1 rfl (takes_of rfl rfl rfl rfl) (er_InvalidBound T) (hr.mono (by decide)) (by rfl) (z_acons (z_fz (z_v (i := 0))) z_anil))) z_nil))
theorem ok_layer_of (T : Tx K mg LT) (B : Bx T base) : FnOk P w K mg base (L2.CX P w) 5 T.f_layer_of T.fd_layer_of ["sites", "site"] (spD ⟨P, w, K, mg, LT⟩ N_layer_of 2 d_layer_of) :=
  fn_ok T.F_layer_of sc_layer_of fun cdv A outer s H E hr =>
    (z_cons (z_exp (z_call (N := N_check_sites) (ok_check_sites T B) (hr.mono (by decide)) (by rfl) T.g_check_sites T.F_check_sites.kp T.b_check_sites .nil (fun _ _ => RFs.nil_) (takes_of rfl rfl rfl rfl) (z_acons (z_fz (z_v (i := 0))) z_anil) (by decide)))
    (z_cons (z_exp (z_call (N := N_check_member) (ok_check_member T B) (hr.mono (by decide)) (by rfl) T.g_check_member T.F_check_member.kp T.b_check_member .nil (fun _ _ => RFs.nil_) (takes_of rfl rfl rfl rfl) (z_acons z_str (z_acons (z_fz (z_v (i := 0))) (z_acons (z_fz (z_v (i := 1))) z_anil))) (by decide)))
    (z_one (z_ret z_noE))))
theorem ok_check_site (T : Tx K mg LT) (B : Bx T base) : FnOk P w K mg base (L2.CX P w) 4 T.f_check_site T.fd_check_site ["argument", "value"] (spD ⟨P, w, K, mg, LT⟩ N_check_site 2 d_check_site) :=
  fn_ok T.F_check_site sc_check_site fun cdv A outer s H E hr =>
    (z_one (z_ifS (z_not (z_B (z_call (N := N_is_site) (ok_is_site T B) (hr.mono (by decide)) (by rfl) T.g_is_site T.F_is_site.kp T.b_is_site .nil (fun _ _ => RFs.nil_) (takes_of rfl rfl rfl rfl) (z_acons (z_fz (z_v (i := 1))) z_anil) (by decide)))) (z_one (z_raise1 rfl (takes_of rfl rfl rfl rfl) (er_InvalidBound T) (hr.mono (by decide)) (by rfl) (z_acons (z_fz (z_v (i := 0))) z_anil))) z_nil))
theorem ok_seen_of (T : Tx K mg LT) (B : Bx T base) : FnOk P w K mg base (L2.CX P w) 3 T.f_seen_of T.fd_seen_of ["found", "site"] (spD ⟨P, w, K, mg, LT⟩ N_seen_of 2 d_seen_of) :=
  fn_ok T.F_seen_of sc_seen_of fun cdv A outer s H E hr =>
    (z_cons (z_set (i := 2) sc_seen_of.nd rfl (Or.inr rfl) (z_cB opn_len call_len_seq (by rfl) T.z_len rfl (z_acons (z_v (i := 0)) z_anil)))
    (z_cons (z_set (i := 3) sc_seen_of.nd rfl (Or.inr rfl) (z_fz (z_lc (G := gName 7) (own := [("at", 7)]) rfl (pat_name (by decide)) rfl sc_seen_of.nd (zi_range1 (by rfl) T.z_range (z_acons (z_v (i := 2)) z_anil)) (blkOk_by (N := N_seen_of) (sc := defScope s_seen_of) (by decide +kernel)) (fun _ _ _ _ _ => pg_name (i := 7) sc_seen_of.nd rfl (Or.inl rfl)) (fun _ _ _ _ _ => zts_nil) (fun _ _ _ _ _ => (z_tup (z_acons (z_fz (z_ixA (huz hr) (z_v (i := 0)) (z_v (i := 7)))) (z_acons (z_fz (z_ixA (huz hr) (z_v (i := 0)) (z_mod (z_add (z_v (i := 7)) z_int) (z_v (i := 2))))) z_anil)))))))
    (z_cons (z_ifS (z_B (z_call (N := N_is_flat) (ok_is_flat T B) (hr.mono (by decide)) (by rfl) T.g_is_flat T.F_is_flat.kp T.b_is_flat .nil (fun _ _ => RFs.nil_) (takes_of rfl rfl rfl rfl) (z_acons (z_fz (z_v (i := 0))) z_anil) (by decide))) (z_cons (z_setLc (i := 4) (G := gName 7) (own := [("at", 7)]) rfl (pat_name (by decide)) rfl sc_seen_of.nd rfl rfl (sw_true rfl rfl rfl (by decide +kernel)) (zi_range1 (by rfl) T.z_range (z_acons (z_sub (z_v (i := 2)) z_int) z_anil)) (blkOk_by (N := N_seen_of) (sc := defScope s_seen_of) (by decide +kernel)) (fun _ _ _ _ _ => pg_name (i := 7) sc_seen_of.nd rfl (Or.inl rfl)) (fun _ _ _ _ _ => zts_nil) (fun _ _ _ _ _ => (z_tup (z_acons (z_fz (z_ixA (huz hr) (z_v (i := 0)) (z_v (i := 7)))) (z_acons (z_fz (z_ixA (huz hr) (z_v (i := 0)) (z_add (z_v (i := 7)) z_int))) z_anil)))))
    (z_one (z_set (i := 3) sc_seen_of.nd rfl (Or.inr rfl) (z_fz (z_add (z_v (i := 4)) (z_lc (G := gTup K 2 (gNs [9, 10])) (own := [("a", 9), ("b", 10)]) rfl (pat_tup (is := [9, 10]) rfl (by decide)) rfl sc_seen_of.nd (zi_seqA (z_rev (z_v (i := 4)))) (blkOk_by (N := N_seen_of) (sc := defScope s_seen_of) (by decide +kernel)) (fun _ _ _ _ _ => pg_tup rfl (pgs_cons (pg_name (i := 9) sc_seen_of.nd rfl (Or.inl rfl)) (pgs_cons (pg_name (i := 10) sc_seen_of.nd rfl (Or.inl rfl)) pgs_nil))) (fun _ _ _ _ _ => zts_nil) (fun _ _ _ _ _ => (z_tup (z_acons (z_fz (z_v (i := 10))) (z_acons (z_fz (z_v (i := 9))) z_anil)))))))))) z_nil)
    (z_cons (z_set (i := 5) sc_seen_of.nd rfl (Or.inr rfl) (z_fz (z_lc (G := gTup K 2 (gNs [9, 10])) (own := [("a", 9), ("b", 10)]) rfl (pat_tup (is := [9, 10]) rfl (by decide)) rfl sc_seen_of.nd (zi_seqA (z_v (i := 3))) (blkOk_by (N := N_seen_of) (sc := defScope s_seen_of) (by decide +kernel)) (fun _ _ _ _ _ => pg_tup rfl (pgs_cons (pg_name (i := 9) sc_seen_of.nd rfl (Or.inl rfl)) (pgs_cons (pg_name (i := 10) sc_seen_of.nd rfl (Or.inl rfl)) pgs_nil))) (fun _ _ _ _ _ => zts_nil) (fun _ _ _ _ _ => (z_cmp (op_ltZ hr.units0) op2_lt (z_call (N := N_turn) (ok_turn T B) (hr.mono (by decide)) (by rfl) T.g_turn T.F_turn.kp T.b_turn .nil (fun _ _ => RFs.nil_) takesB (z_acons (z_fz (z_v (i := 9))) (z_acons (z_fz (z_v (i := 10))) (z_acons (z_fz (z_v (i := 1))) z_anil))) (by decide)) z_int (nomark _))))))
    (z_cons (z_set (i := 6) sc_seen_of.nd rfl (Or.inl rfl) z_int)
    (z_cons (z_for (passes_of rfl) rfl (zi_range1 (by rfl) T.z_range (z_acons (z_cB opn_len call_len_seq (by rfl) T.z_len rfl (z_acons (z_v (i := 3)) z_anil)) z_anil)) (zg_name (i := 7) sc_seen_of.nd rfl (Or.inl rfl)) (z_one (z_ifS (z_and (z_B (z_ixA (huz hr) (z_v (i := 5)) (z_v (i := 7)))) (z_and1 (z_not (z_B (z_ixA (huz hr) (z_v (i := 5)) (z_sub (z_v (i := 7)) z_int)))))).pt (z_one (z_set (i := 6) sc_seen_of.nd rfl (Or.inl rfl) (z_fz (z_v (i := 7))))) z_nil)))
    (z_cons (z_set (i := 8) sc_seen_of.nd rfl (Or.inl rfl) (z_fz (z_add (z_lRg2 rfl (by rfl) T.z_list (by rfl) T.z_range (z_fz (z_v (i := 6))) (z_fz (z_cB opn_len call_len_seq (by rfl) T.z_len rfl (z_acons (z_v (i := 3)) z_anil)))) (z_lRg1 rfl (by rfl) T.z_list (by rfl) T.z_range (z_fz (z_v (i := 6)))))))
    (z_one (z_ret (z_lc (G := gName 7) (own := [("at", 7)]) rfl (pat_name (by decide)) rfl sc_seen_of.nd (zi_seqA (z_v (i := 8))) (blkOk_by (N := N_seen_of) (sc := defScope s_seen_of) (by decide +kernel)) (fun _ _ _ _ _ => pg_name (i := 7) sc_seen_of.nd rfl (Or.inl rfl)) (fun _ _ _ _ _ => zts_one (z_B (z_ixA (huz hr) (z_v (i := 5)) (z_v (i := 7))))) (fun _ _ _ _ _ => (z_fz (z_ixA (huz hr) (z_v (i := 3)) (z_v (i := 7)))))))))))))))
theorem ok_seen_sides (T : Tx K mg LT) (B : Bx T base) : FnOk P w K mg base (L2.CX P w) 5 T.f_seen_sides T.fd_seen_sides ["sites", "site"] (spD ⟨P, w, K, mg, LT⟩ N_seen_sides 2 d_seen_sides) :=
  fn_ok T.F_seen_sides sc_seen_sides fun cdv A outer s H E hr =>
    (z_cons (z_exp (z_call (N := N_check_sites) (ok_check_sites T B) (hr.mono (by decide)) (by rfl) T.g_check_sites T.F_check_sites.kp T.b_check_sites .nil (fun _ _ => RFs.nil_) (takes_of rfl rfl rfl rfl) (z_acons (z_fz (z_v (i := 0))) z_anil) (by decide)))
    (z_cons (z_exp (z_call (N := N_check_site) (ok_check_site T B) (hr.mono (by decide)) (by rfl) T.g_check_site T.F_check_site.kp T.b_check_site .nil (fun _ _ => RFs.nil_) (takes_of rfl rfl rfl rfl) (z_acons z_str (z_acons (z_fz (z_v (i := 1))) z_anil)) (by decide)))
    (z_one (z_ret (z_call (N := N_seen_of) (ok_seen_of T B) (hr.mono (by decide)) (by rfl) T.g_seen_of T.F_seen_of.kp T.b_seen_of .nil (fun _ _ => RFs.nil_) (takes_of rfl rfl rfl rfl) (z_acons (z_fz (z_cT opn_list call_list_of (by rfl) T.z_list rfl (z_acons (z_call (N := N_border_of) (ok_border_of T B) (hr.mono (by decide)) (by rfl) T.g_border_of T.F_border_of.kp T.b_border_of .nil (fun _ _ => RFs.nil_) (takes_of rfl rfl rfl rfl) (z_acons (z_fz (z_cB opn_srt2 (cr_srt rfl (huz hr)) (by rfl) T.z_sorted rfl (z_acons (z_v (i := 0)) z_anil))) z_anil) (by decide)) z_anil))) (z_acons (z_fz (z_v (i := 1))) z_anil)) (by decide))))))
theorem ok_common (T : Tx K mg LT) (B : Bx T base) : FnOk P w K mg base (L2.CX P w) 1 T.f_common T.fd_common ["a", "b"] (spD ⟨P, w, K, mg, LT⟩ N_common 2 d_common) :=
  fn_ok T.F_common sc_common fun cdv A outer s H E hr =>
    (z_cons (z_par (i := 0) (j := 1) rfl sc_common.nd rfl rfl (by decide) rfl rfl (z_acons (z_cB opn_abs call_abs (by rfl) T.z_abs rfl (z_acons (z_v (i := 0)) z_anil)) (z_acons (z_cB opn_abs call_abs (by rfl) T.z_abs rfl (z_acons (z_v (i := 1)) z_anil)) z_anil)) rfl)
    (z_cons (z_while (passes_of rfl) (zt_cmp op_gt op2_gt (z_v (i := 1)) z_int (nomark _)) (z_one (z_par (i := 0) (j := 1) rfl sc_common.nd rfl rfl (by decide) rfl rfl (z_acons (z_fz (z_v (i := 1))) (z_acons (z_mod (z_v (i := 0)) (z_v (i := 1))) z_anil)) rfl)))
    (z_one (z_ret (z_v (i := 0))))))
theorem ok_is_place (T : Tx K mg LT) (B : Bx T base) : FnOk P w K mg base (L2.CX P w) 2 T.f_is_place T.fd_is_place ["value"] (spD ⟨P, w, K, mg, LT⟩ N_is_place 1 d_is_place) :=
  fn_ok T.F_is_place sc_is_place fun cdv A outer s H E hr =>
    (z_cons (z_ifS (z_or (z_not (z_B (z_cB opn_isiC (cr_isiC (.cons T.g_Subdivision T.cl_Subdivision T.is_Subdivision (.cons T.g_Desk T.cl_Desk T.is_Desk .nil))) (by rfl) T.z_isinstance rfl (z_acons (z_v (i := 0)) (z_acons (z_ty (by rfl) T.z_tuple rfl) z_anil))))) (z_or (zt_cmp (op_neL hr.units) op2_neL (z_cB opn_len call_len_seq (by rfl) T.z_len rfl (z_acons (z_v (i := 0)) z_anil)) z_int (nomark _)) (z_or1 (z_not (z_B (z_cB opn_all (cr_all rfl) (by rfl) T.z_all rfl (z_acons (z_lc (G := gName 4) (own := [("one", 4)]) rfl (pat_name (by decide)) rfl sc_is_place.nd (zi_seqA (z_v (i := 0))) (blkOk_by (N := N_is_place) (sc := defScope s_is_place) (by decide +kernel)) (fun _ _ _ _ _ => pg_name (i := 4) sc_is_place.nd rfl (Or.inl rfl)) (fun _ _ _ _ _ => zts_nil) (fun _ _ _ _ _ => (z_fz (z_call (N := N_is_integer) (ok_is_integer T B) (hr.mono (by decide)) (by rfl) T.g_is_integer T.F_is_integer.kp T.b_is_integer .nil (fun _ _ => RFs.nil_) takesB (z_acons (z_fz (z_v (i := 4))) z_anil) (by decide))))) z_anil))))))).pt (z_one (z_ret z_bl)) z_nil)
    (z_cons (z_asg (z_v (i := 0)) (zg_seq rfl (zg_cons (zg_name (i := 1) sc_is_place.nd rfl (Or.inl rfl)) (zg_cons (zg_name (i := 2) sc_is_place.nd rfl (Or.inl rfl)) (zg_cons (zg_name (i := 3) sc_is_place.nd rfl (Or.inl rfl)) zg_nil)))))
    (z_one (z_ret (z_vand (z_cmp op_ge op2_ge (z_v (i := 3)) z_int (nomark _)) (z_vand (z_cmp (op_ltZ hr.units0) op2_lt (z_cB opn_max3 (call_max3Nu rfl) (by rfl) T.z_max rfl (z_acons (z_cB opn_abs call_abs (by rfl) T.z_abs rfl (z_acons (z_v (i := 1)) z_anil)) (z_acons (z_cB opn_abs call_abs (by rfl) T.z_abs rfl (z_acons (z_v (i := 2)) z_anil)) (z_acons (z_v (i := 3)) z_anil)))) (z_glob (by rfl) T.v_MOST_PLACE) (nomark _)) (z_vone (z_cmp (op_eqL hr.units) op2_eqL (z_call (N := N_common) (ok_common T B) (hr.mono (by decide)) (by rfl) T.g_common T.F_common.kp T.b_common .nil (fun _ _ => RFs.nil_) (takes_of rfl rfl rfl rfl) (z_acons (z_fz (z_call (N := N_common) (ok_common T B) (hr.mono (by decide)) (by rfl) T.g_common T.F_common.kp T.b_common .nil (fun _ _ => RFs.nil_) (takes_of rfl rfl rfl rfl) (z_acons (z_fz (z_v (i := 1))) (z_acons (z_fz (z_v (i := 2))) z_anil)) (by decide))) (z_acons (z_fz (z_v (i := 3))) z_anil)) (by decide)) z_int (nomark _)))))))))
theorem ok_check_place (T : Tx K mg LT) (B : Bx T base) : FnOk P w K mg base (L2.CX P w) 3 T.f_check_place T.fd_check_place ["argument", "value"] (spD ⟨P, w, K, mg, LT⟩ N_check_place 2 d_check_place) :=
  fn_ok T.F_check_place sc_check_place fun cdv A outer s H E hr =>
    (z_one (z_ifS (z_not (z_B (z_call (N := N_is_place) (ok_is_place T B) (hr.mono (by decide)) (by rfl) T.g_is_place T.F_is_place.kp T.b_is_place .nil (fun _ _ => RFs.nil_) (takes_of rfl rfl rfl rfl) (z_acons (z_fz (z_v (i := 1))) z_anil) (by decide)))) (z_one (z_raise1 rfl (takes_of rfl rfl rfl rfl) (er_InvalidBound T) (hr.mono (by decide)) (by rfl) (z_acons (z_fz (z_v (i := 0))) z_anil))) z_nil))
theorem ok_lean_of (T : Tx K mg LT) (B : Bx T base) : FnOk P w K mg base (L2.CX P w) 1 T.f_lean_of T.fd_lean_of ["a", "b", "place"] (spD ⟨P, w, K, mg, LT⟩ N_lean_of 3 d_lean_of) :=
  fn_ok T.F_lean_of sc_lean_of fun cdv A outer s H E hr =>
    (z_cons (z_asg (z_v (i := 2)) (zg_seq rfl (zg_cons (zg_name (i := 3) sc_lean_of.nd rfl (Or.inl rfl)) (zg_cons (zg_name (i := 4) sc_lean_of.nd rfl (Or.inl rfl)) (zg_cons (zg_name (i := 5) sc_lean_of.nd rfl (Or.inl rfl)) zg_nil)))))
    (z_one (z_ret (z_sub (z_mul (z_sub (z_ixA (huz hr) (z_v (i := 1)) z_int) (z_ixA (huz hr) (z_v (i := 0)) z_int)) (z_sub (z_v (i := 4)) (z_mul (z_ixA (huz hr) (z_v (i := 0)) z_int) (z_v (i := 5))))) (z_mul (z_sub (z_ixA (huz hr) (z_v (i := 1)) z_int) (z_ixA (huz hr) (z_v (i := 0)) z_int)) (z_sub (z_v (i := 3)) (z_mul (z_ixA (huz hr) (z_v (i := 0)) z_int) (z_v (i := 5)))))))))
theorem ok_on_row (T : Tx K mg LT) (B : Bx T base) : FnOk P w K mg base (L2.CX P w) 2 T.f_on_row T.fd_on_row ["found", "place"] (spD ⟨P, w, K, mg, LT⟩ N_on_row 2 d_on_row) :=
  fn_ok T.F_on_row sc_on_row fun cdv A outer s H E hr =>
    (z_cons (z_asg (z_v (i := 1)) (zg_seq rfl (zg_cons (zg_name (i := 2) sc_on_row.nd rfl (Or.inl rfl)) (zg_cons (zg_name (i := 3) sc_on_row.nd rfl (Or.inl rfl)) (zg_cons (zg_name (i := 4) sc_on_row.nd rfl (Or.inl rfl)) zg_nil)))))
    (z_cons (z_par (i := 5) (j := 6) rfl sc_on_row.nd rfl rfl (by decide) rfl rfl (z_acons (z_fz (z_ixA (huz hr) (z_v (i := 0)) z_int)) (z_acons (z_fz (z_ixA (huz hr) (z_v (i := 0)) (z_neg z_int))) z_anil)) rfl)
    (z_cons (z_ifS (zt_cmp (op_neL hr.units) op2_neL (z_call (N := N_lean_of) (ok_lean_of T B) (hr.mono (by decide)) (by rfl) T.g_lean_of T.F_lean_of.kp T.b_lean_of .nil (fun _ _ => RFs.nil_) (takes_of rfl rfl rfl rfl) (z_acons (z_fz (z_v (i := 5))) (z_acons (z_fz (z_v (i := 6))) (z_acons (z_fz (z_v (i := 1))) z_anil))) (by decide)) z_int (nomark _)) (z_one (z_ret z_bl)) z_nil)
    (z_cons (z_set (i := 7) sc_on_row.nd rfl (Or.inl rfl) (z_add (z_mul (z_sub (z_v (i := 2)) (z_mul (z_ixA (huz hr) (z_v (i := 5)) z_int) (z_v (i := 4)))) (z_sub (z_v (i := 2)) (z_mul (z_ixA (huz hr) (z_v (i := 6)) z_int) (z_v (i := 4))))) (z_mul (z_sub (z_v (i := 3)) (z_mul (z_ixA (huz hr) (z_v (i := 5)) z_int) (z_v (i := 4)))) (z_sub (z_v (i := 3)) (z_mul (z_ixA (huz hr) (z_v (i := 6)) z_int) (z_v (i := 4)))))))
    (z_one (z_ret (z_cmp op_le op2_le (z_v (i := 7)) z_int (nomark _))))))))
theorem ok_sign (T : Tx K mg LT) (B : Bx T base) : FnOk P w K mg base (L2.CX P w) 1 T.f_sign T.fd_sign ["value"] (spD ⟨P, w, K, mg, LT⟩ N_sign 1 d_sign) :=
  fn_ok T.F_sign sc_sign fun cdv A outer s H E hr =>
    (z_one (z_ret (z_sub (z_cT opn_int call_int1 (by rfl) T.z_int rfl (z_acons (z_cmp op_gt op2_gt (z_v (i := 0)) z_int (nomark _)) z_anil)) (z_cT opn_int call_int1 (by rfl) T.z_int rfl (z_acons (z_cmp (op_ltZ hr.units0) op2_lt (z_v (i := 0)) z_int (nomark _)) z_anil)))))
theorem ok_where (T : Tx K mg LT) (B : Bx T base) : FnOk P w K mg base (L2.CX P w) 5 T.f_where T.fd_where ["sites", "place"] (spD ⟨P, w, K, mg, LT⟩ N_where 2 d_where) :=
  fn_ok T.F_where sc_where fun cdv A outer s H E hr =>
    (z_cons (z_exp (z_call (N := N_check_sites) (ok_check_sites T B) (hr.mono (by decide)) (by rfl) T.g_check_sites T.F_check_sites.kp T.b_check_sites .nil (fun _ _ => RFs.nil_) (takes_of rfl rfl rfl rfl) (z_acons (z_fz (z_v (i := 0))) z_anil) (by decide)))
    (z_cons (z_exp (z_call (N := N_check_place) (ok_check_place T B) (hr.mono (by decide)) (by rfl) T.g_check_place T.F_check_place.kp T.b_check_place .nil (fun _ _ => RFs.nil_) (takes_of rfl rfl rfl rfl) (z_acons z_str (z_acons (z_fz (z_v (i := 1))) z_anil)) (by decide)))
    (z_cons (z_set (i := 2) sc_where.nd rfl (Or.inr rfl) (z_fz (z_call (N := N_corners_of) (ok_corners_of T B) (hr.mono (by decide)) (by rfl) T.g_corners_of T.F_corners_of.kp T.b_corners_of .nil (fun _ _ => RFs.nil_) (takes_of rfl rfl rfl rfl) (z_acons (z_fz (z_cT opn_list call_list_of (by rfl) T.z_list rfl (z_acons (z_call (N := N_border_of) (ok_border_of T B) (hr.mono (by decide)) (by rfl) T.g_border_of T.F_border_of.kp T.b_border_of .nil (fun _ _ => RFs.nil_) (takes_of rfl rfl rfl rfl) (z_acons (z_fz (z_cB opn_srt2 (cr_srt rfl (huz hr)) (by rfl) T.z_sorted rfl (z_acons (z_v (i := 0)) z_anil))) z_anil) (by decide)) z_anil))) z_anil) (by decide))))
    (z_cons (z_ifS (zt_cmp (op_ltZ hr.units0) op2_lt (z_cB opn_len call_len_seq (by rfl) T.z_len rfl (z_acons (z_v (i := 2)) z_anil)) z_int (nomark _)) (z_one (z_ret (z_if (z_B (z_call (N := N_on_row) (ok_on_row T B) (hr.mono (by decide)) (by rfl) T.g_on_row T.F_on_row.kp T.b_on_row .nil (fun _ _ => RFs.nil_) (takes_of rfl rfl rfl rfl) (z_acons (z_fz (z_v (i := 2))) (z_acons (z_fz (z_v (i := 1))) z_anil)) (by decide))) z_int (z_neg z_int)))) z_nil)
    (z_one (z_ret (z_cB opn_min (cr_minZ rfl) (by rfl) T.z_min rfl (z_acons (z_lc (G := gName 3) (own := [("at", 3)]) rfl (pat_name (by decide)) rfl sc_where.nd (zi_range1 (by rfl) T.z_range (z_acons (z_cB opn_len call_len_seq (by rfl) T.z_len rfl (z_acons (z_v (i := 2)) z_anil)) z_anil)) (blkOk_by (N := N_where) (sc := defScope s_where) (by decide +kernel)) (fun _ _ _ _ _ => pg_name (i := 3) sc_where.nd rfl (Or.inl rfl)) (fun _ _ _ _ _ => zts_nil) (fun _ _ _ _ _ => (z_fz (z_call (N := N_sign) (ok_sign T B) (hr.mono (by decide)) (by rfl) T.g_sign T.F_sign.kp T.b_sign .nil (fun _ _ => RFs.nil_) takesB (z_acons (z_fz (z_call (N := N_lean_of) (ok_lean_of T B) (hr.mono (by decide)) (by rfl) T.g_lean_of T.F_lean_of.kp T.b_lean_of .nil (fun _ _ => RFs.nil_) takesB (z_acons (z_fz (z_ixA (huz hr) (z_v (i := 2)) (z_sub (z_v (i := 3)) z_int))) (z_acons (z_fz (z_ixA (huz hr) (z_v (i := 2)) (z_v (i := 3)))) (z_acons (z_fz (z_v (i := 1))) z_anil))) (by decide))) z_anil) (by decide))))) z_anil))))))))
theorem ok_sides_of (T : Tx K mg LT) (B : Bx T base) : FnOk P w K mg base (L2.CX P w) 1 T.f_sides_of T.fd_sides_of ["corners"] (spD ⟨P, w, K, mg, LT⟩ N_sides_of 1 d_sides_of) :=
  fn_ok T.F_sides_of sc_sides_of fun cdv A outer s H E hr =>
    (z_one (z_ret (z_lc (G := gName 1) (own := [("at", 1)]) rfl (pat_name (by decide)) rfl sc_sides_of.nd (zi_range1 (by rfl) T.z_range (z_acons (z_cB opn_len call_len_seq (by rfl) T.z_len rfl (z_acons (z_v (i := 0)) z_anil)) z_anil)) (blkOk_by (N := N_sides_of) (sc := defScope s_sides_of) (by decide +kernel)) (fun _ _ _ _ _ => pg_name (i := 1) sc_sides_of.nd rfl (Or.inl rfl)) (fun _ _ _ _ _ => zts_nil) (fun _ _ _ _ _ => (z_tup (z_acons (z_fz (z_ixA (huz hr) (z_v (i := 0)) (z_sub (z_v (i := 1)) z_int))) (z_acons (z_fz (z_ixA (huz hr) (z_v (i := 0)) (z_v (i := 1)))) z_anil)))))))
theorem ok_Subdivision_pairs_joined (T : Tx K mg LT) (B : Bx T base) : FnOk P w K mg base (L2.CX P w) 2 T.f_Subdivision_pairs_joined T.fd_Subdivision_pairs_joined ["self"] (spD ⟨P, w, K, mg, LT⟩ N_Subdivision_pairs_joined 1 d_Subdivision_pairs_joined) :=
  fn_ok T.F_Subdivision_pairs_joined sc_Subdivision_pairs_joined fun cdv A outer s H E hr =>
    (z_cons (z_set (i := 1) sc_Subdivision_pairs_joined.nd rfl (Or.inl rfl) z_dnew)
    (z_cons (z_ifS (z_B (z_fld ⟨T.g_Subdivision, clsB_ok T.cl_Subdivision⟩ (noAtB_ok T.na_Subdivision_is_row) (z_v (i := 0)))) (z_one (z_for (passes_of rfl) rfl (zi_zipA (by rfl) T.z_zip (z_acons (z_fz (z_fld ⟨T.g_Subdivision, clsB_ok T.cl_Subdivision⟩ (noAtB_ok T.na_Subdivision_kept) (z_v (i := 0)))) (z_acons (z_fz (z_sl (z_fld ⟨T.g_Subdivision, clsB_ok T.cl_Subdivision⟩ (noAtB_ok T.na_Subdivision_kept) (z_v (i := 0))) (z_so z_int) z_no)) z_anil))) (zg_seq rfl (zg_cons (zg_name (i := 2) sc_Subdivision_pairs_joined.nd rfl (Or.inl rfl)) (zg_cons (zg_name (i := 3) sc_Subdivision_pairs_joined.nd rfl (Or.inl rfl)) zg_nil))) (z_one (z_asg z_bl (zg_sub (huz hr) (z_v (i := 1)) (z_tup (z_acons (z_fz (z_v (i := 2))) (z_acons (z_fz (z_v (i := 3))) z_anil)))))))) z_nil)
    (z_cons (z_for (passes_of rfl) rfl (zi_seqA (z_fld ⟨T.g_Subdivision, clsB_ok T.cl_Subdivision⟩ (noAtB_ok T.na_Subdivision_polygons) (z_v (i := 0)))) (zg_name (i := 4) sc_Subdivision_pairs_joined.nd rfl (Or.inl rfl)) (z_one (z_for (passes_of rfl) rfl (zi_seqA (z_call (N := N_sides_of) (ok_sides_of T B) (hr.mono (by decide)) (by rfl) T.g_sides_of T.F_sides_of.kp T.b_sides_of .nil (fun _ _ => RFs.nil_) (takes_of rfl rfl rfl rfl) (z_acons (z_fz (z_v (i := 4))) z_anil) (by decide))) (zg_seq rfl (zg_cons (zg_name (i := 2) sc_Subdivision_pairs_joined.nd rfl (Or.inl rfl)) (zg_cons (zg_name (i := 3) sc_Subdivision_pairs_joined.nd rfl (Or.inl rfl)) zg_nil))) (z_one (z_asg z_bl (zg_sub (huz hr) (z_v (i := 1)) (z_tup (z_acons (z_fz (z_cB opn_min2 (cr_min2 rfl (huz hr)) (by rfl) T.z_min rfl (z_acons (z_v (i := 2)) (z_acons (z_v (i := 3)) z_anil)))) (z_acons (z_fz (z_cB opn_max2 (cr_max2 rfl (huz hr)) (by rfl) T.z_max rfl (z_acons (z_v (i := 2)) (z_acons (z_v (i := 3)) z_anil)))) z_anil)))))))))
    (z_one (z_ret (z_cB opn_srt2 (cr_srt rfl (huz hr)) (by rfl) T.z_sorted rfl (z_acons (z_v (i := 1)) z_anil)))))))
theorem ok_power (T : Tx K mg LT) (B : Bx T base) : FnOk P w K mg base (L2.CX P w) 1 T.f_power T.fd_power ["a", "b", "c", "d"] (spD ⟨P, w, K, mg, LT⟩ N_power 4 d_power) :=
  fn_ok T.F_power sc_power fun cdv A outer s H E hr =>
    (z_cons (z_setLc (i := 4) (G := gName 12) (own := [("one", 12)]) rfl (pat_name (by decide)) rfl sc_power.nd rfl rfl (sw_true rfl rfl rfl (by decide +kernel)) (zi_seqA (z_tup (z_acons (z_fz (z_v (i := 0))) (z_acons (z_fz (z_v (i := 1))) (z_acons (z_fz (z_v (i := 2))) z_anil))))) (blkOk_by (N := N_power) (sc := defScope s_power) (by decide +kernel)) (fun _ _ _ _ _ => pg_name (i := 12) sc_power.nd rfl (Or.inl rfl)) (fun _ _ _ _ _ => zts_nil) (fun _ _ _ _ _ => (z_tup (z_acons (z_sub (z_ixA (huz hr) (z_v (i := 12)) z_int) (z_ixA (huz hr) (z_v (i := 3)) z_int)) (z_acons (z_sub (z_ixA (huz hr) (z_v (i := 12)) z_int) (z_ixA (huz hr) (z_v (i := 3)) z_int)) z_anil)))))
    (z_cons (z_asg (z_v (i := 4)) (zg_seq rfl (zg_cons (zg_seq rfl (zg_cons (zg_name (i := 5) sc_power.nd rfl (Or.inl rfl)) (zg_cons (zg_name (i := 6) sc_power.nd rfl (Or.inl rfl)) zg_nil))) (zg_cons (zg_seq rfl (zg_cons (zg_name (i := 7) sc_power.nd rfl (Or.inl rfl)) (zg_cons (zg_name (i := 8) sc_power.nd rfl (Or.inl rfl)) zg_nil))) (zg_cons (zg_seq rfl (zg_cons (zg_name (i := 9) sc_power.nd rfl (Or.inl rfl)) (zg_cons (zg_name (i := 10) sc_power.nd rfl (Or.inl rfl)) zg_nil))) zg_nil)))))
    (z_cons (z_setLc (i := 11) (G := gTup K 2 (gNs [13, 14])) (own := [("x", 13), ("y", 14)]) rfl (pat_tup (is := [13, 14]) rfl (by decide)) rfl sc_power.nd rfl rfl (sw_true rfl rfl rfl (by decide +kernel)) (zi_seqA (z_v (i := 4))) (blkOk_by (N := N_power) (sc := defScope s_power) (by decide +kernel)) (fun _ _ _ _ _ => pg_tup rfl (pgs_cons (pg_name (i := 13) sc_power.nd rfl (Or.inl rfl)) (pgs_cons (pg_name (i := 14) sc_power.nd rfl (Or.inl rfl)) pgs_nil))) (fun _ _ _ _ _ => zts_nil) (fun _ _ _ _ _ => (z_add (z_mul (z_v (i := 13)) (z_v (i := 13))) (z_mul (z_v (i := 14)) (z_v (i := 14))))))
    (z_one (z_ret (z_add (z_sub (z_mul (z_ixA (huz hr) (z_v (i := 11)) z_int) (z_sub (z_mul (z_v (i := 7)) (z_v (i := 10))) (z_mul (z_v (i := 9)) (z_v (i := 8))))) (z_mul (z_ixA (huz hr) (z_v (i := 11)) z_int) (z_sub (z_mul (z_v (i := 5)) (z_v (i := 10))) (z_mul (z_v (i := 9)) (z_v (i := 6)))))) (z_mul (z_ixA (huz hr) (z_v (i := 11)) z_int) (z_sub (z_mul (z_v (i := 5)) (z_v (i := 8))) (z_mul (z_v (i := 7)) (z_v (i := 6)))))))))))
theorem ok_inside (T : Tx K mg LT) (B : Bx T base) : FnOk P w K mg base (L2.CX P w) 2 T.f_inside T.fd_inside ["a", "b", "c", "d"] (spD ⟨P, w, K, mg, LT⟩ N_inside 4 d_inside) :=
  fn_ok T.F_inside sc_inside fun cdv A outer s H E hr =>
    (z_one (z_ret (z_mul (z_call (N := N_sign) (ok_sign T B) (hr.mono (by decide)) (by rfl) T.g_sign T.F_sign.kp T.b_sign .nil (fun _ _ => RFs.nil_) (takes_of rfl rfl rfl rfl) (z_acons (z_fz (z_call (N := N_power) (ok_power T B) (hr.mono (by decide)) (by rfl) T.g_power T.F_power.kp T.b_power .nil (fun _ _ => RFs.nil_) (takes_of rfl rfl rfl rfl) (z_acons (z_fz (z_v (i := 0))) (z_acons (z_fz (z_v (i := 1))) (z_acons (z_fz (z_v (i := 2))) (z_acons (z_fz (z_v (i := 3))) z_anil)))) (by decide))) z_anil) (by decide)) (z_call (N := N_sign) (ok_sign T B) (hr.mono (by decide)) (by rfl) T.g_sign T.F_sign.kp T.b_sign .nil (fun _ _ => RFs.nil_) (takes_of rfl rfl rfl rfl) (z_acons (z_fz (z_call (N := N_turn) (ok_turn T B) (hr.mono (by decide)) (by rfl) T.g_turn T.F_turn.kp T.b_turn .nil (fun _ _ => RFs.nil_) (takes_of rfl rfl rfl rfl) (z_acons (z_fz (z_v (i := 0))) (z_acons (z_fz (z_v (i := 1))) (z_acons (z_fz (z_v (i := 2))) z_anil))) (by decide))) z_anil) (by decide)))))
theorem ok_turned_left (T : Tx K mg LT) (B : Bx T base) : FnOk P w K mg base (L2.CX P w) 2 T.f_turned_left T.fd_turned_left ["corners"] (spD ⟨P, w, K, mg, LT⟩ N_turned_left 1 d_turned_left) :=
  fn_ok T.F_turned_left sc_turned_left fun cdv A outer s H E hr =>
    (z_cons (z_set (i := 1) sc_turned_left.nd rfl (Or.inl rfl) (z_fz (z_cB opn_srt2 (cr_srt rfl (huz hr)) (by rfl) T.z_sorted rfl (z_acons (z_v (i := 0)) z_anil))))
    (z_cons (z_parG (is := [2, 3]) rfl (z_acons (z_fz (z_ixA (huz hr) (z_v (i := 1)) z_int)) (z_acons (z_fz (z_ixA (huz hr) (z_v (i := 1)) (z_neg z_int))) z_anil)) (pgs_cons (pg_name (i := 2) sc_turned_left.nd rfl (Or.inr rfl)) (pgs_cons (pg_name (i := 3) sc_turned_left.nd rfl (Or.inr rfl)) pgs_nil)))
    (z_cons (z_setLc (i := 4) (G := gName 6) (own := [("site", 6)]) rfl (pat_name (by decide)) rfl sc_turned_left.nd rfl rfl (sw_true rfl rfl rfl (by decide +kernel)) (zi_seqA (z_sl (z_v (i := 1)) (z_so z_int) (z_so (z_neg z_int)))) (blkOk_by (N := N_turned_left) (sc := defScope s_turned_left) (by decide +kernel)) (fun _ _ _ _ _ => pg_name (i := 6) sc_turned_left.nd rfl (Or.inl rfl)) (fun _ _ _ _ _ => zts_one (zt_cmp (op_ltZ hr.units0) op2_lt (z_call (N := N_turn) (ok_turn T B) (hr.mono (by decide)) (by rfl) T.g_turn T.F_turn.kp T.b_turn .nil (fun _ _ => RFs.nil_) takesB (z_acons (z_fz (z_v (i := 2))) (z_acons (z_fz (z_v (i := 3))) (z_acons (z_fz (z_v (i := 6))) z_anil))) (by decide)) z_int (nomark _))) (fun _ _ _ _ _ => (z_fz (z_v (i := 6)))))
    (z_cons (z_setLc (i := 5) (G := gName 6) (own := [("site", 6)]) rfl (pat_name (by decide)) rfl sc_turned_left.nd rfl rfl (sw_true rfl rfl rfl (by decide +kernel)) (zi_seqA (z_sl (z_v (i := 1)) (z_so z_int) (z_so (z_neg z_int)))) (blkOk_by (N := N_turned_left) (sc := defScope s_turned_left) (by decide +kernel)) (fun _ _ _ _ _ => pg_name (i := 6) sc_turned_left.nd rfl (Or.inl rfl)) (fun _ _ _ _ _ => zts_one (zt_cmp op_gt op2_gt (z_call (N := N_turn) (ok_turn T B) (hr.mono (by decide)) (by rfl) T.g_turn T.F_turn.kp T.b_turn .nil (fun _ _ => RFs.nil_) takesB (z_acons (z_fz (z_v (i := 2))) (z_acons (z_fz (z_v (i := 3))) (z_acons (z_fz (z_v (i := 6))) z_anil))) (by decide)) z_int (nomark _))) (fun _ _ _ _ _ => (z_fz (z_v (i := 6)))))
    (z_one (z_ret (z_add (z_add (z_add (z_lst (z_acons (z_fz (z_v (i := 2))) z_anil)) (z_v (i := 4))) (z_lst (z_acons (z_fz (z_v (i := 3))) z_anil))) (z_rev (z_v (i := 5))))))))))
theorem ok_face_left (T : Tx K mg LT) (B : Bx T base) : FnOk P w K mg base (L2.CX P w) 3 T.f_face_left T.fd_face_left ["sites", "a", "b"] (spD ⟨P, w, K, mg, LT⟩ N_face_left 3 d_face_left) :=
  fn_ok T.F_face_left sc_face_left fun cdv A outer s H E hr =>
    (z_cons (z_set (i := 3) sc_face_left.nd rfl (Or.inr rfl) z_non)
    (z_cons (z_for (passes_of rfl) rfl (zi_seqA (z_v (i := 0))) (zg_name (i := 4) sc_face_left.nd rfl (Or.inl rfl)) (z_one (z_ifS (z_and (zt_cmp op_gt op2_gt (z_call (N := N_turn) (ok_turn T B) (hr.mono (by decide)) (by rfl) T.g_turn T.F_turn.kp T.b_turn .nil (fun _ _ => RFs.nil_) (takes_of rfl rfl rfl rfl) (z_acons (z_fz (z_v (i := 1))) (z_acons (z_fz (z_v (i := 2))) (z_acons (z_fz (z_v (i := 4))) z_anil))) (by decide)) z_int (nomark _)) (z_and1 (z_or (zt_cmp op_isN op2_isN (z_v (i := 3)) z_non (nomark _)) (z_or1 (zt_cmp op_gt op2_gt (z_call (N := N_inside) (ok_inside T B) (hr.mono (by decide)) (by rfl) T.g_inside T.F_inside.kp T.b_inside .nil (fun _ _ => RFs.nil_) (takes_of rfl rfl rfl rfl) (z_acons (z_fz (z_v (i := 1))) (z_acons (z_fz (z_v (i := 2))) (z_acons (z_fz (z_v (i := 3))) (z_acons (z_fz (z_v (i := 4))) z_anil)))) (by decide)) z_int (nomark _)))).pt)).pt (z_one (z_set (i := 3) sc_face_left.nd rfl (Or.inr rfl) (z_fz (z_v (i := 4))))) z_nil)))
    (z_cons (z_ifS (zt_cmp op_isN op2_isN (z_v (i := 3)) z_non (nomark _)) (z_one (z_ret z_non)) z_nil)
    (z_cons (z_set (i := 5) sc_face_left.nd rfl (Or.inl rfl) (z_fz (z_add (z_lst (z_acons (z_fz (z_v (i := 1))) (z_acons (z_fz (z_v (i := 2))) z_anil))) (z_lc (G := gName 4) (own := [("site", 4)]) rfl (pat_name (by decide)) rfl sc_face_left.nd (zi_seqA (z_v (i := 0))) (blkOk_by (N := N_face_left) (sc := defScope s_face_left) (by decide +kernel)) (fun _ _ _ _ _ => pg_name (i := 4) sc_face_left.nd rfl (Or.inl rfl)) (fun _ _ _ _ _ => zts_one (z_and (zt_cmp op_gt op2_gt (z_call (N := N_turn) (ok_turn T B) (hr.mono (by decide)) (by rfl) T.g_turn T.F_turn.kp T.b_turn .nil (fun _ _ => RFs.nil_) takesB (z_acons (z_fz (z_v (i := 1))) (z_acons (z_fz (z_v (i := 2))) (z_acons (z_fz (z_v (i := 4))) z_anil))) (by decide)) z_int (nomark _)) (z_and1 (zt_cmp (op_eqL hr.units) op2_eqL (z_call (N := N_inside) (ok_inside T B) (hr.mono (by decide)) (by rfl) T.g_inside T.F_inside.kp T.b_inside .nil (fun _ _ => RFs.nil_) takesB (z_acons (z_fz (z_v (i := 1))) (z_acons (z_fz (z_v (i := 2))) (z_acons (z_fz (z_v (i := 3))) (z_acons (z_fz (z_v (i := 4))) z_anil)))) (by decide)) z_int (nomark _)))).pt) (fun _ _ _ _ _ => (z_fz (z_v (i := 4))))))))
    (z_one (z_ret (z_call (N := N_turned_left) (ok_turned_left T B) (hr.mono (by decide)) (by rfl) T.g_turned_left T.F_turned_left.kp T.b_turned_left .nil (fun _ _ => RFs.nil_) (takes_of rfl rfl rfl rfl) (z_acons (z_fz (z_v (i := 5))) z_anil) (by decide))))))))
theorem ok_faces_of (T : Tx K mg LT) (B : Bx T base) : FnOk P w K mg base (L2.CX P w) 4 T.f_faces_of T.fd_faces_of ["sites"] (spD ⟨P, w, K, mg, LT⟩ N_faces_of 1 d_faces_of) :=
  fn_ok T.F_faces_of sc_faces_of fun cdv A outer s H E hr =>
    (z_cons (z_parG (is := [1, 2, 3]) rfl (z_acons (z_fz (z_call (N := N_border_of) (ok_border_of T B) (hr.mono (by decide)) (by rfl) T.g_border_of T.F_border_of.kp T.b_border_of .nil (fun _ _ => RFs.nil_) (takes_of rfl rfl rfl rfl) (z_acons (z_fz (z_v (i := 0))) z_anil) (by decide))) (z_acons (z_lst z_anil) (z_acons z_dnew z_anil))) (pgs_cons (pg_name (i := 1) sc_faces_of.nd rfl (Or.inr rfl)) (pgs_cons (pg_name (i := 2) sc_faces_of.nd rfl (Or.inl rfl)) (pgs_cons (pg_name (i := 3) sc_faces_of.nd rfl (Or.inl rfl)) pgs_nil))))
    (z_cons (z_setLc (i := 4) (G := gName 9) (own := [("at", 9)]) rfl (pat_name (by decide)) rfl sc_faces_of.nd rfl rfl (sw_true rfl rfl rfl (by decide +kernel)) (zi_range1 (by rfl) T.z_range (z_acons (z_cB opn_len call_len_seq (by rfl) T.z_len rfl (z_acons (z_v (i := 1)) z_anil)) z_anil)) (blkOk_by (N := N_faces_of) (sc := defScope s_faces_of) (by decide +kernel)) (fun _ _ _ _ _ => pg_name (i := 9) sc_faces_of.nd rfl (Or.inl rfl)) (fun _ _ _ _ _ => zts_nil) (fun _ _ _ _ _ => (z_tup (z_acons (z_fz (z_ixA (huz hr) (z_v (i := 1)) (z_sub (z_v (i := 9)) z_int))) (z_acons (z_fz (z_ixA (huz hr) (z_v (i := 1)) (z_v (i := 9)))) z_anil)))))
    (z_cons (z_while (passes_of rfl) (zt_cmp (op_neL hr.units) op2_neL (z_v (i := 4)) (z_lst z_anil) (nomark _)) (z_cons (z_asg (z_mt0 opm_pop PySem.F.plainAttrs_list PySem.F.slot_list_pop PySem.F.type_list_pop mt_pop (z_v (i := 4))) (zg_seq rfl (zg_cons (zg_name (i := 5) sc_faces_of.nd rfl (Or.inl rfl)) (zg_cons (zg_name (i := 6) sc_faces_of.nd rfl (Or.inl rfl)) zg_nil))))
    (z_one (z_ifS (zt_cmp (op_ninZ (huz hr)) op2_nin (z_tup (z_acons (z_fz (z_v (i := 5))) (z_acons (z_fz (z_v (i := 6))) z_anil))) (z_v (i := 3)) (by with_unfolding_all rfl)) (z_cons (z_set (i := 7) sc_faces_of.nd rfl (Or.inl rfl) (z_fz (z_call (N := N_face_left) (ok_face_left T B) (hr.mono (by decide)) (by rfl) T.g_face_left T.F_face_left.kp T.b_face_left .nil (fun _ _ => RFs.nil_) (takes_of rfl rfl rfl rfl) (z_acons (z_fz (z_v (i := 0))) (z_acons (z_fz (z_v (i := 5))) (z_acons (z_fz (z_v (i := 6))) z_anil))) (by decide))))
    (z_cons (z_ifS (zt_cmp op_notN op2_notN (z_v (i := 7)) z_non (nomark _)) (z_cons (z_exp (z_mt opm_append PySem.F.plainAttrs_list PySem.F.slot_list_append PySem.F.type_list_append mt_append (z_v (i := 2)) (z_acons (z_fz (z_v (i := 7))) z_anil)))
    (z_one (z_for (passes_of rfl) rfl (zi_seqA (z_call (N := N_sides_of) (ok_sides_of T B) (hr.mono (by decide)) (by rfl) T.g_sides_of T.F_sides_of.kp T.b_sides_of .nil (fun _ _ => RFs.nil_) (takes_of rfl rfl rfl rfl) (z_acons (z_fz (z_v (i := 7))) z_anil) (by decide))) (zg_name (i := 8) sc_faces_of.nd rfl (Or.inl rfl)) (z_cons (z_asg z_bl (zg_sub (huz hr) (z_v (i := 3)) (z_fz (z_v (i := 8)))))
    (z_one (z_exp (z_mt opm_append PySem.F.plainAttrs_list PySem.F.slot_list_append PySem.F.type_list_append mt_append (z_v (i := 4)) (z_acons (z_tup (z_acons (z_fz (z_ixA (huz hr) (z_v (i := 8)) z_int)) (z_acons (z_fz (z_ixA (huz hr) (z_v (i := 8)) z_int)) z_anil))) z_anil)))))))) z_nil)
    (z_one (z_asg z_bl (zg_sub (huz hr) (z_v (i := 3)) (z_tup (z_acons (z_fz (z_v (i := 5))) (z_acons (z_fz (z_v (i := 6))) z_anil)))))))) z_nil))))
    (z_one (z_ret (z_cB opn_srt2 (cr_srt rfl (huz hr)) (by rfl) T.z_sorted rfl (z_acons (z_v (i := 2)) z_anil)))))))
theorem ok_Subdivision_init (T : Tx K mg LT) (B : Bx T base) : FnOk P w K mg base (L2.CX P w) 5 T.f_Subdivision_init T.fd_Subdivision_init ["self", "sites"] (spD ⟨P, w, K, mg, LT⟩ N_Subdivision_init 2 d_Subdivision_init) :=
  fn_ok T.F_Subdivision_init sc_Subdivision_init fun cdv A outer s H E hr =>
    (z_cons (z_exp (z_call (N := N_check_sites) (ok_check_sites T B) (hr.mono (by decide)) (by rfl) T.g_check_sites T.F_check_sites.kp T.b_check_sites .nil (fun _ _ => RFs.nil_) (takes_of rfl rfl rfl rfl) (z_acons (z_fz (z_v (i := 1))) z_anil) (by decide)))
    (z_cons (z_setF ⟨T.g_Subdivision, clsB_ok T.cl_Subdivision⟩ (noAtB_ok T.na_Subdivision_kept) (z_v (i := 0)) (z_fz (z_cT opn_tuple call_tuple_of (by rfl) T.z_tuple rfl (z_acons (z_cB opn_srt2 (cr_srt rfl (huz hr)) (by rfl) T.z_sorted rfl (z_acons (z_v (i := 1)) z_anil)) z_anil))))
    (z_cons (z_set (i := 2) sc_Subdivision_init.nd rfl (Or.inr rfl) (z_fz (z_cT opn_list call_list_of (by rfl) T.z_list rfl (z_acons (z_fld ⟨T.g_Subdivision, clsB_ok T.cl_Subdivision⟩ (noAtB_ok T.na_Subdivision_kept) (z_v (i := 0))) z_anil))))
    (z_cons (z_setF ⟨T.g_Subdivision, clsB_ok T.cl_Subdivision⟩ (noAtB_ok T.na_Subdivision_border) (z_v (i := 0)) (z_fz (z_call (N := N_border_of) (ok_border_of T B) (hr.mono (by decide)) (by rfl) T.g_border_of T.F_border_of.kp T.b_border_of .nil (fun _ _ => RFs.nil_) (takes_of rfl rfl rfl rfl) (z_acons (z_fz (z_v (i := 2))) z_anil) (by decide))))
    (z_cons (z_setF ⟨T.g_Subdivision, clsB_ok T.cl_Subdivision⟩ (noAtB_ok T.na_Subdivision_is_row) (z_v (i := 0)) (z_fz (z_vor (z_cmp (op_eqL hr.units) op2_eqL (z_sl (z_v (i := 2)) z_no (z_so z_int)) (z_sl (z_v (i := 2)) (z_so (z_neg z_int)) z_no) (nomark _)) (z_vone (z_cB opn_all (cr_all rfl) (by rfl) T.z_all rfl (z_acons (z_lc (G := gName 3) (own := [("site", 3)]) rfl (pat_name (by decide)) rfl sc_Subdivision_init.nd (zi_seqA (z_v (i := 2))) (blkOk_by (N := N_Subdivision_init) (sc := defScope s_Subdivision_init) (by decide +kernel)) (fun _ _ _ _ _ => pg_name (i := 3) sc_Subdivision_init.nd rfl (Or.inl rfl)) (fun _ _ _ _ _ => zts_nil) (fun _ _ _ _ _ => (z_cmp (op_eqL hr.units) op2_eqL (z_call (N := N_turn) (ok_turn T B) (hr.mono (by decide)) (by rfl) T.g_turn T.F_turn.kp T.b_turn .nil (fun _ _ => RFs.nil_) takesB (z_acons (z_fz (z_ixA (huz hr) (z_v (i := 2)) z_int)) (z_acons (z_fz (z_ixA (huz hr) (z_v (i := 2)) (z_neg z_int))) (z_acons (z_fz (z_v (i := 3))) z_anil))) (by decide)) z_int (nomark _)))) z_anil))))))
    (z_cons (z_setF ⟨T.g_Subdivision, clsB_ok T.cl_Subdivision⟩ (noAtB_ok T.na_Subdivision_polygons) (z_v (i := 0)) (z_fz (z_if (z_B (z_fld ⟨T.g_Subdivision, clsB_ok T.cl_Subdivision⟩ (noAtB_ok T.na_Subdivision_is_row) (z_v (i := 0)))) (z_lst z_anil) (z_call (N := N_faces_of) (ok_faces_of T B) (hr.mono (by decide)) (by rfl) T.g_faces_of T.F_faces_of.kp T.b_faces_of .nil (fun _ _ => RFs.nil_) (takes_of rfl rfl rfl rfl) (z_acons (z_fz (z_v (i := 2))) z_anil) (by decide)))))
    (z_one (z_setF ⟨T.g_Subdivision, clsB_ok T.cl_Subdivision⟩ (noAtB_ok T.na_Subdivision_joined) (z_v (i := 0)) (z_fz (z_meth0 (N := N_Subdivision_pairs_joined) ⟨T.g_Subdivision, clsB_ok T.cl_Subdivision⟩ (z_v (i := 0)) (methB_ok T.me_Subdivision_pairs_joined) (ok_Subdivision_pairs_joined T B) (hr.mono (by decide)) T.b_Subdivision_pairs_joined (takes_of rfl rfl rfl rfl) (by decide)))))))))))
theorem ok_law_deep (T : Tx K mg LT) (B : Bx T base) : FnOk P w K mg base (L2.CX P w) 1 T.f_law_deep T.fd_law_deep [] (spD ⟨P, w, K, mg, LT⟩ N_law_deep 0 d_law_deep) :=
  fn_ok T.F_law_deep sc_law_deep fun cdv A outer s H E hr =>
    (z_cons (z_set (i := 0) sc_law_deep.nd rfl (Or.inl rfl) (z_tup (z_acons z_int z_anil)))
    (z_cons (z_for (passes_of rfl) rfl (zi_range1 (by rfl) T.z_range (z_acons z_int z_anil)) (zg_name (i := 1) sc_law_deep.nd rfl (Or.inl rfl)) (z_one (z_set (i := 0) sc_law_deep.nd rfl (Or.inl rfl) (z_tup (z_acons (z_fz (z_v (i := 0))) z_anil)))))
    (z_one (z_ret (z_v (i := 0))))))
theorem ok_law_purse (T : Tx K mg LT) (B : Bx T base) : FnOk P w K mg base (L2.CX P w) 1 T.f_law_purse T.fd_law_purse ["_law_figure"] (spD ⟨P, w, K, mg, LT⟩ N_law_purse 1 d_law_purse) :=
  fn_ok T.F_law_purse sc_law_purse fun cdv A outer s H E hr =>
    (z_one (z_ret (z_lst (z_acons (z_mul (z_cB opn_abs call_abs (by rfl) T.z_abs rfl (z_acons (z_v (i := 0)) z_anil)) (z_cT opn_int call_int1 (by rfl) T.z_int rfl (z_acons (z_cmp op_ge op2_ge (z_cB opn_abs call_abs (by rfl) T.z_abs rfl (z_acons (z_v (i := 0)) z_anil)) (z_pow z_int z_int) (nomark _)) z_anil))) (z_acons (z_mod (z_cT opn_int call_int1 (by rfl) T.z_int rfl (z_acons (z_v (i := 0)) z_anil)) z_int) (z_acons z_int z_anil))))))
theorem lh_5 (T : Tx K mg LT) (B : Bx T base) : LamHand P w K mg base LT 5 5 dl_5 := ⟨_, [], T.l_lam5, lscZ_by (by decide +kernel), .inl ⟨rfl, rfl, fun _ _ _ _ _ => rfl⟩, fun A outer s H E f c cl hr =>
    (z_call (N := N_extreme) (ok_extreme T B) (hr.mono (by decide)) (by rfl) T.g_extreme T.F_extreme.kp T.b_extreme .nil (fun _ _ => RFs.nil_) (takes_of rfl rfl rfl rfl) (z_acons (z_fz (z_v (i := 0))) (z_acons (z_fz (z_v (i := 1))) z_anil)) (by decide))⟩
theorem lh_4 (T : Tx K mg LT) (B : Bx T base) : LamHand P w K mg base LT 5 4 dl_4 := ⟨_, [], T.l_lam4, lscZ_by (by decide +kernel), .inl ⟨rfl, rfl, fun _ _ _ _ _ => rfl⟩, fun A outer s H E f c cl hr =>
    (z_call (N := N_where) (ok_where T B) (hr.mono (by decide)) (by rfl) T.g_where T.F_where.kp T.b_where .nil (fun _ _ => RFs.nil_) (takes_of rfl rfl rfl rfl) (z_acons (z_fz (z_v (i := 0))) (z_acons (z_fz (z_v (i := 1))) z_anil)) (by decide))⟩
theorem lh_3 (T : Tx K mg LT) (B : Bx T base) : LamHand P w K mg base LT 5 3 dl_3 := ⟨_, [], T.l_lam3, lscZ_by (by decide +kernel), .inl ⟨rfl, rfl, fun _ _ _ _ _ => rfl⟩, fun A outer s H E f c cl hr =>
    (z_call (N := N_layer_of) (ok_layer_of T B) (hr.mono (by decide)) (by rfl) T.g_layer_of T.F_layer_of.kp T.b_layer_of .nil (fun _ _ => RFs.nil_) (takes_of rfl rfl rfl rfl) (z_acons (z_fz (z_v (i := 0))) (z_acons (z_tup (z_acons z_int (z_acons z_int z_anil))) z_anil)) (by decide))⟩
theorem lh_2 (T : Tx K mg LT) (B : Bx T base) : LamHand P w K mg base LT 5 2 dl_2 := ⟨_, [], T.l_lam2, lscZ_by (by decide +kernel), .inl ⟨rfl, rfl, fun _ _ _ _ _ => rfl⟩, fun A outer s H E f c cl hr =>
    (z_callV (i := 0) (k := 5) (.cons (AtHand.mk' (N := N_layer_of) T.g_layer_of (ok_layer_of T B) T.F_layer_of.kp T.b_layer_of (by decide) (by decide)) (.cons (AtHand.mk' (N := N_seen_sides) T.g_seen_sides (ok_seen_sides T B) T.F_seen_sides.kp T.b_seen_sides (by decide) (by decide)) (.cons (AtHand.mk' (N := N_extreme) T.g_extreme (ok_extreme T B) T.F_extreme.kp T.b_extreme (by decide) (by decide)) (.cons (AtHand.mk' (N := N_where) T.g_where (ok_where T B) T.F_where.kp T.b_where (by decide) (by decide)) .nil)))) (hr.mono (by decide)) rfl (.inr (.inr rfl)) (takes_of rfl rfl rfl rfl) (z_acons (z_fz (z_v (i := 1))) (z_acons (z_fz (z_v (i := 2))) z_anil)))⟩
theorem lh_1 (T : Tx K mg LT) (B : Bx T base) : LamHand P w K mg base LT 5 1 dl_1 := ⟨_, [], T.l_lam1, lscZ_by (by decide +kernel), .inl ⟨rfl, rfl, fun _ _ _ _ _ => rfl⟩, fun A outer s H E f c cl hr =>
    (z_callV (i := 0) (k := 5) (.cons (AtHand.mk' (N := N_layer_of) T.g_layer_of (ok_layer_of T B) T.F_layer_of.kp T.b_layer_of (by decide) (by decide)) (.cons (AtHand.mk' (N := N_seen_sides) T.g_seen_sides (ok_seen_sides T B) T.F_seen_sides.kp T.b_seen_sides (by decide) (by decide)) (.cons (AtHand.mk' (N := N_extreme) T.g_extreme (ok_extreme T B) T.F_extreme.kp T.b_extreme (by decide) (by decide)) (.cons (AtHand.mk' (N := N_where) T.g_where (ok_where T B) T.F_where.kp T.b_where (by decide) (by decide)) .nil)))) (hr.mono (by decide)) rfl (.inr (.inr rfl)) (takes_of rfl rfl rfl rfl) (z_acons (z_fz (z_v (i := 1))) (z_acons z_non z_anil)))⟩
theorem lh_0 (T : Tx K mg LT) (B : Bx T base) : LamHand P w K mg base LT 5 0 dl_0 := ⟨_, [], T.l_lam0, lscZ_by (by decide +kernel), .inl ⟨rfl, rfl, fun _ _ _ _ _ => rfl⟩, fun A outer s H E f c cl hr =>
    (z_callV (i := 0) (k := 5) (.cons (AtHand.mk' (N := N_hull) T.g_hull (ok_hull T B) T.F_hull.kp T.b_hull (by decide) (by decide)) (.cons (AtHand.mk' (N := N_border) T.g_border (ok_border T B) T.F_border.kp T.b_border (by decide) (by decide)) (.cons (AtHand.mk' (N := N_double_hull) T.g_double_hull (ok_double_hull T B) T.F_double_hull.kp T.b_double_hull (by decide) (by decide)) (.cons (AtHand.mk' (N := N_layers) T.g_layers (ok_layers T B) T.F_layers.kp T.b_layers (by decide) (by decide)) .nil)))) (hr.mono (by decide)) rfl (.inr (.inr rfl)) (takes_of rfl rfl rfl rfl) (z_acons (z_fz (z_v (i := 1))) z_anil))⟩
theorem lamHands (T : Tx K mg LT) (B : Bx T base) : LamHands P w K mg base LT 5 lden := (.cons (lh_0 T B) (.cons (lh_1 T B) (.cons (lh_2 T B) (.cons (lh_3 T B) (.cons (lh_4 T B) (.cons (lh_5 T B) .nil))))))
theorem ok_law_said (T : Tx K mg LT) (B : Bx T base) : FnOk P w K mg base (L2.CX P w) 7 T.f_law_said T.fd_law_said ["_law_ask"] (spD ⟨P, w, K, mg, LT⟩ N_law_said 1 d_law_said) :=
  fn_ok T.F_law_said sc_law_said fun cdv A outer s H E hr =>
    (z_cons (z_try rfl rfl sc_law_said.nd (takes_of rfl rfl rfl rfl) (fun _ _ _ tk1 po1 => (z_one (z_exp (z_callL (i := 0) (j := 5) (lamHands T B) (hr.mono (by decide)) rfl (.inl rfl) tk1)))) (.ret (cls_mk (by rfl) T.g_InvalidSites (.cons T.g_InvalidSites T.m_InvalidSites_InvalidSites (.cons T.g_InvalidBound T.m_InvalidSites_InvalidBound .nil))) (.inr ⟨_, 1, rfl, rfl, rfl, rfl⟩) (px_if (px_is (b := true) (excB_ok T.e_InvalidSites) T.g_InvalidSites T.g_CellError T.k_InvalidSites_CellError (by rfl) T.z_isinstance (by rfl) (fun _ _ => pe_var (i := 1) rfl (.inl rfl))) (px_two px_str (px_at (xfB_ok T.q_InvalidSites) T.n_InvalidSites T.g_InvalidSites (fun _ _ => pe_var (i := 1) rfl (.inl rfl)))) px_str) (.ret (cls_mk (by rfl) T.g_InvalidBound (.cons T.g_InvalidSites T.m_InvalidBound_InvalidSites (.cons T.g_InvalidBound T.m_InvalidBound_InvalidBound .nil))) (.inr ⟨_, 1, rfl, rfl, rfl, rfl⟩) (px_if (px_is (b := true) (excB_ok T.e_InvalidBound) T.g_InvalidBound T.g_CellError T.k_InvalidBound_CellError (by rfl) T.z_isinstance (by rfl) (fun _ _ => pe_var (i := 1) rfl (.inl rfl))) (px_at (xfB_ok T.q_InvalidBound) T.n_InvalidBound T.g_InvalidBound (fun _ _ => pe_var (i := 1) rfl (.inl rfl))) px_str) .nil)))
    (z_one (z_ret z_non)))
theorem ok_Desk_init (T : Tx K mg LT) (B : Bx T base) : FnOk P w K mg base (L2.CX P w) 1 T.f_Desk_init T.fd_Desk_init ["self"] (spD ⟨P, w, K, mg, LT⟩ N_Desk_init 1 d_Desk_init) :=
  fn_ok T.F_Desk_init sc_Desk_init fun cdv A outer s H E hr =>
    (z_cons (z_setF ⟨T.g_Desk, clsB_ok T.cl_Desk⟩ (noAtB_ok T.na_Desk_present) (z_v (i := 0)) (z_fz (z_lst z_anil)))
    (z_cons (z_setF ⟨T.g_Desk, clsB_ok T.cl_Desk⟩ (noAtB_ok T.na_Desk_past) (z_v (i := 0)) (z_fz (z_lst z_anil)))
    (z_cons (z_setF ⟨T.g_Desk, clsB_ok T.cl_Desk⟩ (noAtB_ok T.na_Desk_later) (z_v (i := 0)) (z_fz (z_lst z_anil)))
    (z_cons (z_setF ⟨T.g_Desk, clsB_ok T.cl_Desk⟩ (noAtB_ok T.na_Desk_shown) (z_v (i := 0)) (z_tup (z_acons (z_fz (z_lst z_anil)) (z_acons (z_fz (z_lst z_anil)) z_anil))))
    (z_one (z_setF ⟨T.g_Desk, clsB_ok T.cl_Desk⟩ (noAtB_ok T.na_Desk_last_change) (z_v (i := 0)) (z_tup (z_acons (z_fz (z_lst z_anil)) (z_acons (z_fz (z_lst z_anil)) (z_acons (z_fz (z_lst z_anil)) (z_acons (z_fz (z_lst z_anil)) z_anil)))))))))))
theorem ok_law_coin (T : Tx K mg LT) (B : Bx T base) : FnOk P w K mg base (L2.CX P w) 1 T.f_law_coin T.fd_law_coin ["_law_purse_here", "_law_many"] (spD ⟨P, w, K, mg, LT⟩ N_law_coin 2 d_law_coin) :=
  fn_ok T.F_law_coin sc_law_coin fun cdv A outer s H E hr =>
    (z_cons (z_ifS (zt_cmp op_gt op2_gt (z_ixA (huz hr) (z_v (i := 0)) z_int) z_int (nomark _)) (z_cons (z_set (i := 2) sc_law_coin.nd rfl (Or.inl rfl) (z_mod (z_cT opn_int call_int1 (by rfl) T.z_int rfl (z_acons (z_ixA (huz hr) (z_v (i := 0)) z_int) z_anil)) (z_v (i := 1))))
    (z_cons (z_asg (z_fdiv (z_ixA (huz hr) (z_v (i := 0)) z_int) (z_v (i := 1))) (zg_sub (huz hr) (z_v (i := 0)) z_int))
    (z_one (z_ret (z_v (i := 2)))))) z_nil)
    (z_cons (z_asg (z_add (z_ixA (huz hr) (z_v (i := 0)) z_int) z_int) (zg_sub (huz hr) (z_v (i := 0)) z_int))
    (z_cons (z_set (i := 3) sc_law_coin.nd rfl (Or.inl rfl) (z_mod (z_cT opn_int call_int1 (by rfl) T.z_int rfl (z_acons (z_pow (z_add (z_add (z_ixA (huz hr) (z_v (i := 0)) z_int) (z_mul z_int (z_ixA (huz hr) (z_v (i := 0)) z_int))) z_int) z_int) z_anil)) z_int))
    (z_cons (z_set (i := 3) sc_law_coin.nd rfl (Or.inl rfl) (z_mod (z_cT opn_int call_int1 (by rfl) T.z_int rfl (z_acons (z_mul (z_add (z_v (i := 3)) (z_mul z_int (z_ixA (huz hr) (z_v (i := 0)) z_int))) (z_add (z_fdiv (z_v (i := 3)) z_int) z_int)) z_anil)) z_int))
    (z_one (z_ret (z_mod (z_cT opn_int call_int1 (by rfl) T.z_int rfl (z_acons (z_fdiv (z_mod (z_cT opn_int call_int1 (by rfl) T.z_int rfl (z_acons (z_mul (z_v (i := 3)) (z_add (z_fdiv (z_v (i := 3)) z_int) z_int)) z_anil)) z_int) z_int) z_anil)) (z_v (i := 1)))))))))
theorem ok_law_pick (T : Tx K mg LT) (B : Bx T base) : FnOk P w K mg base (L2.CX P w) 2 T.f_law_pick T.fd_law_pick ["_law_purse_here", "_law_some"] (spD ⟨P, w, K, mg, LT⟩ N_law_pick 2 d_law_pick) :=
  fn_ok T.F_law_pick sc_law_pick fun cdv A outer s H E hr =>
    (z_one (z_ret (z_ixA (huz hr) (z_v (i := 1)) (z_call (N := N_law_coin) (ok_law_coin T B) (hr.mono (by decide)) (by rfl) T.g__law_coin T.F_law_coin.kp T.b_law_coin .nil (fun _ _ => RFs.nil_) (takes_of rfl rfl rfl rfl) (z_acons (z_v (i := 0)) (z_acons (z_fz (z_cB opn_len call_len_seq (by rfl) T.z_len rfl (z_acons (z_v (i := 1)) z_anil))) z_anil)) (by decide)))))
theorem ok_law_wrong (T : Tx K mg LT) (B : Bx T base) : FnOk P w K mg base (L2.CX P w) 7 T.f_law_wrong T.fd_law_wrong ["_law_purse_here"] (spD ⟨P, w, K, mg, LT⟩ N_law_wrong 1 d_law_wrong) :=
  fn_ok T.F_law_wrong sc_law_wrong fun cdv A outer s H E hr =>
    (z_cons (z_set (i := 1) sc_law_wrong.nd rfl (Or.inl rfl) (z_fz (z_lst (z_acons z_non (z_acons z_int (z_acons (z_tup (z_acons z_int (z_acons z_bl z_anil))) (z_acons (z_fz (z_lst (z_acons z_int (z_acons z_int z_anil)))) (z_acons (z_tup (z_acons z_int (z_acons z_int (z_acons z_int z_anil)))) (z_acons (z_tup (z_acons (z_add (z_pow z_int z_int) z_int) (z_acons z_int z_anil))) (z_acons (z_tup (z_acons z_int (z_acons (z_sub (z_neg (z_pow z_int z_int)) z_int) z_anil))) (z_acons z_str (z_acons (z_tup z_anil) (z_acons (z_tup (z_acons z_str (z_acons z_int z_anil))) (z_acons (z_fz z_dnew) z_anil))))))))))))))
    (z_cons (z_set (i := 2) sc_law_wrong.nd rfl (Or.inl rfl) (z_fz (z_call (N := N_law_pick) (ok_law_pick T B) (hr.mono (by decide)) (by rfl) T.g__law_pick T.F_law_pick.kp T.b_law_pick .nil (fun _ _ => RFs.nil_) (takes_of rfl rfl rfl rfl) (z_acons (z_v (i := 0)) (z_acons (z_fz (z_add (z_v (i := 1)) (z_lst (z_acons (z_fz (z_call0 (N := N_law_deep) (ok_law_deep T B) (hr.mono (by decide)) (by rfl) T.g__law_deep T.F_law_deep.kp T.b_law_deep (takes_of rfl rfl rfl rfl) (by decide))) (z_acons (z_tup (z_acons (z_fz (z_call0 (N := N_law_deep) (ok_law_deep T B) (hr.mono (by decide)) (by rfl) T.g__law_deep T.F_law_deep.kp T.b_law_deep (takes_of rfl rfl rfl rfl) (by decide))) (z_acons z_int z_anil))) z_anil))))) z_anil)) (by decide))))
    (z_cons (z_setLc (i := 3) (G := gName 5) (own := [("_law_k", 5)]) rfl (pat_name (by decide)) rfl sc_law_wrong.nd rfl rfl (sw_true rfl rfl rfl (by decide +kernel)) (zi_range1 (by rfl) T.z_range (z_acons (z_call (N := N_law_coin) (ok_law_coin T B) (hr.mono (by decide)) (by rfl) T.g__law_coin T.F_law_coin.kp T.b_law_coin .nil (fun _ _ => RFs.nil_) (takes_of rfl rfl rfl rfl) (z_acons (z_v (i := 0)) (z_acons z_int z_anil)) (by decide)) z_anil)) (blkOk_by (N := N_law_wrong) (sc := defScope s_law_wrong) (by decide +kernel)) (fun _ _ _ _ _ => pg_name (i := 5) sc_law_wrong.nd rfl (Or.inl rfl)) (fun _ _ _ _ _ => zts_nil) (fun _ _ _ _ _ => (z_tup (z_acons (z_fz (z_v (i := 5))) (z_acons (z_mul (z_v (i := 5)) (z_v (i := 5))) z_anil)))))
    (z_cons (z_set (i := 4) sc_law_wrong.nd rfl (Or.inl rfl) (z_fz (z_lst (z_acons (z_tup (z_acons (z_fz (z_add (z_add (z_v (i := 3)) (z_lst (z_acons (z_fz (z_v (i := 2))) z_anil))) (z_sl (z_v (i := 3)) z_no (z_so z_int)))) (z_acons (z_fz (z_cB opn_len call_len_seq (by rfl) T.z_len rfl (z_acons (z_v (i := 3)) z_anil))) z_anil))) (z_acons (z_tup (z_acons (z_fz (z_add (z_v (i := 3)) (z_lst (z_acons (z_tup (z_acons z_int (z_acons z_int z_anil))) (z_acons (z_tup (z_acons z_int (z_acons z_int z_anil))) (z_acons (z_fz (z_v (i := 2))) z_anil)))))) (z_acons (z_add (z_cB opn_len call_len_seq (by rfl) T.z_len rfl (z_acons (z_v (i := 3)) z_anil)) z_int) z_anil))) (z_acons (z_tup (z_acons (z_fz (z_lst z_anil)) (z_acons z_int z_anil))) z_anil))))))
    (z_cons (z_set (i := 4) sc_law_wrong.nd rfl (Or.inl rfl) (z_fz (z_add (z_v (i := 4)) (z_lst (z_acons (z_tup (z_acons z_non (z_acons (z_fz (z_neg z_int)) z_anil))) (z_acons (z_tup (z_acons (z_fz (z_cT opn_tuple call_tuple_of (by rfl) T.z_tuple rfl (z_acons (z_v (i := 3)) z_anil))) (z_acons (z_fz (z_neg z_int)) z_anil))) (z_acons (z_tup (z_acons (z_fz (z_dct1 (huz hr) (z_tup (z_acons z_int (z_acons z_int z_anil))) z_int)) (z_acons (z_fz (z_neg z_int)) z_anil))) (z_acons (z_tup (z_acons z_str (z_acons (z_fz (z_neg z_int)) z_anil))) (z_acons (z_tup (z_acons z_int (z_acons (z_fz (z_neg z_int)) z_anil))) z_anil)))))))))
    (z_cons (z_set (i := 4) sc_law_wrong.nd rfl (Or.inl rfl) (z_fz (z_add (z_v (i := 4)) (z_lst (z_acons (z_tup (z_acons (z_fz (z_make (N := N_Subdivision_init) (mkB_ok T.mk_Subdivision) (ok_Subdivision_init T B) (hr.mono (by decide)) (by rfl) T.g_Subdivision T.b_Subdivision_init (takes_of rfl rfl rfl rfl) (z_acons (z_fz (z_lst (z_acons (z_tup (z_acons z_int (z_acons z_int z_anil))) z_anil))) z_anil) (by decide))) (z_acons (z_fz (z_neg z_int)) z_anil))) (z_acons (z_tup (z_acons (z_fz (z_make0 (N := N_Desk_init) (mkB_ok T.mk_Desk) (ok_Desk_init T B) (hr.mono (by decide)) (by rfl) T.g_Desk T.b_Desk_init (takes_of rfl rfl rfl rfl) (by decide))) (z_acons (z_fz (z_neg z_int)) z_anil))) (z_acons (z_tup (z_acons (z_fz (z_lst (z_acons (z_tup (z_acons z_int (z_acons z_int z_anil))) (z_acons (z_fz (z_make0 (N := N_Desk_init) (mkB_ok T.mk_Desk) (ok_Desk_init T B) (hr.mono (by decide)) (by rfl) T.g_Desk T.b_Desk_init (takes_of rfl rfl rfl rfl) (by decide))) z_anil)))) (z_acons z_int z_anil))) z_anil)))))))
    (z_one (z_ret (z_add (z_v (i := 4)) (z_lst (z_acons (z_tup (z_acons (z_fz (z_lc (G := gName 5) (own := [("_law_k", 5)]) rfl (pat_name (by decide)) rfl sc_law_wrong.nd (zi_range1 (by rfl) T.z_range (z_acons z_int z_anil)) (blkOk_by (N := N_law_wrong) (sc := defScope s_law_wrong) (by decide +kernel)) (fun _ _ _ _ _ => pg_name (i := 5) sc_law_wrong.nd rfl (Or.inl rfl)) (fun _ _ _ _ _ => zts_nil) (fun _ _ _ _ _ => (z_tup (z_acons (z_fz (z_v (i := 5))) (z_acons z_int z_anil)))))) (z_acons z_int z_anil))) (z_acons (z_tup (z_acons (z_fz (z_add (z_lc (G := gName 5) (own := [("_law_k", 5)]) rfl (pat_name (by decide)) rfl sc_law_wrong.nd (zi_range1 (by rfl) T.z_range (z_acons z_int z_anil)) (blkOk_by (N := N_law_wrong) (sc := defScope s_law_wrong) (by decide +kernel)) (fun _ _ _ _ _ => pg_name (i := 5) sc_law_wrong.nd rfl (Or.inl rfl)) (fun _ _ _ _ _ => zts_nil) (fun _ _ _ _ _ => (z_tup (z_acons (z_fz (z_v (i := 5))) (z_acons z_int z_anil))))) (z_lst (z_acons z_non z_anil)))) (z_acons z_int z_anil))) z_anil))))))))))))
theorem ok_law (T : Tx K mg LT) (B : Bx T base) : FnOk P w K mg base (L2.CX P w) 8 T.f_law T.fd_law ["_law_script"] (spD ⟨P, w, K, mg, LT⟩ N_law 1 d_law) :=
  fn_okC T.F_law sc_law fun A outer s H E hr =>
    (z_cons (z_for (passes_of rfl) rfl (zi_seqA (z_add (z_sl (z_v (i := 0)) z_no (z_so z_int)) (z_lst (z_acons z_int z_anil)))) (zg_name (i := 1) sc_law.nd rfl (Or.inl rfl)) (z_cons (z_set (i := 2) sc_law.nd rfl (Or.inl rfl) (z_call (N := N_law_purse) (ok_law_purse T B) (hr.mono (by decide)) (by rfl) T.g__law_purse T.F_law_purse.kp T.b_law_purse .nil (fun _ _ => RFs.nil_) (takes_of rfl rfl rfl rfl) (z_acons (z_fz (z_v (i := 1))) z_anil) (by decide)))
    (z_cons (z_for (passes_of rfl) rfl (zi_seqA (z_call (N := N_law_wrong) (ok_law_wrong T B) (hr.mono (by decide)) (by rfl) T.g__law_wrong T.F_law_wrong.kp T.b_law_wrong .nil (fun _ _ => RFs.nil_) (takes_of rfl rfl rfl rfl) (z_acons (z_v (i := 2)) z_anil) (by decide))) (zg_seq rfl (zg_cons (zg_name (i := 3) sc_law.nd rfl (Or.inr rfl)) (zg_cons (zg_name (i := 4) sc_law.nd rfl (Or.inl rfl)) zg_nil))) (z_cons (z_for (passes_of rfl) rfl (zi_seqA (z_tup (z_acons (z_fz (z_fn (by rfl) T.g_hull)) (z_acons (z_fz (z_fn (by rfl) T.g_border)) (z_acons (z_fz (z_fn (by rfl) T.g_double_hull)) (z_acons (z_fz (z_fn (by rfl) T.g_layers)) z_anil)))))) (zg_name (i := 5) sc_law.nd rfl (Or.inr rfl)) (z_one (z_ifS (zt_cmp (op_neL hr.units) op2_neL (z_callC (N := N_law_said) (ok_law_said T B) (hr.mono (by decide)) (by rfl) T.g__law_said T.F_law_said.kp T.b_law_said (gdI_def fun _ => rfl) (capT_law T).get (z_acons (z_lam (mk_law T B rfl) T.l_lam0 (lamZ_by (sc := defScope s_law) (by decide +kernel))) z_anil) (by decide)) (z_tup (z_acons z_str (z_acons (z_fz (z_v (i := 4))) z_anil))) (nomark _)) (z_one (z_ret z_bl)) z_nil)))
    (z_one (z_for (passes_of rfl) rfl (zi_seqA (z_tup (z_acons (z_fz (z_fn (by rfl) T.g_layer_of)) (z_acons (z_fz (z_fn (by rfl) T.g_seen_sides)) (z_acons (z_fz (z_fn (by rfl) T.g_extreme)) (z_acons (z_fz (z_fn (by rfl) T.g_where)) z_anil)))))) (zg_name (i := 5) sc_law.nd rfl (Or.inr rfl)) (z_one (z_ifS (zt_cmp (op_neL hr.units) op2_neL (z_callC (N := N_law_said) (ok_law_said T B) (hr.mono (by decide)) (by rfl) T.g__law_said T.F_law_said.kp T.b_law_said (gdI_def fun _ => rfl) (capT_law T).get (z_acons (z_lam (mk_law T B rfl) T.l_lam1 (lamZ_by (sc := defScope s_law) (by decide +kernel))) z_anil) (by decide)) (z_tup (z_acons z_str (z_acons (z_fz (z_v (i := 4))) z_anil))) (nomark _)) (z_one (z_ret z_bl)) z_nil))))))
    (z_cons (z_set (i := 6) sc_law.nd rfl (Or.inr rfl) (z_fz (z_lst (z_acons (z_tup (z_acons z_int (z_acons z_int z_anil))) (z_acons (z_tup (z_acons z_int (z_acons z_int z_anil))) (z_acons (z_tup (z_acons z_int (z_acons z_int z_anil))) z_anil))))))
    (z_cons (z_par (i := 7) (j := 8) rfl sc_law.nd rfl rfl (by decide) rfl rfl (z_acons (z_fz (z_call0 (N := N_law_deep) (ok_law_deep T B) (hr.mono (by decide)) (by rfl) T.g__law_deep T.F_law_deep.kp T.b_law_deep (takes_of rfl rfl rfl rfl) (by decide))) (z_acons (z_fz (z_make (N := N_Subdivision_init) (mkB_ok T.mk_Subdivision) (ok_Subdivision_init T B) (hr.mono (by decide)) (by rfl) T.g_Subdivision T.b_Subdivision_init (takes_of rfl rfl rfl rfl) (z_acons (z_fz (z_v (i := 6))) z_anil) (by decide))) z_anil)) rfl)
    (z_cons (z_for (passes_of rfl) rfl (zi_seqA (z_tup (z_acons z_non (z_acons z_int (z_acons (z_tup (z_acons z_int (z_acons z_int (z_acons z_int z_anil)))) (z_acons (z_fz (z_lst (z_acons z_int (z_acons z_int z_anil)))) (z_acons (z_tup (z_acons (z_add (z_pow z_int z_int) z_int) (z_acons z_int z_anil))) (z_acons (z_tup (z_acons z_bl (z_acons z_int z_anil))) (z_acons z_str (z_acons (z_tup z_anil) (z_acons (z_fz (z_v (i := 7))) (z_acons (z_tup (z_acons z_int (z_acons (z_fz (z_v (i := 7))) z_anil))) (z_acons (z_fz (z_v (i := 8))) z_anil))))))))))))) (zg_name (i := 9) sc_law.nd rfl (Or.inr rfl)) (z_one (z_ifS (zt_cmp (op_neL hr.units) op2_neL (z_lcG (G := gName 5) (own := [("_law_ask", 5)]) rfl (pat_name (by decide)) rfl sc_law.nd (gdI_def fun _ => rfl) (zi_seqA (z_tup (z_acons (z_fz (z_fn (by rfl) T.g_layer_of)) (z_acons (z_fz (z_fn (by rfl) T.g_seen_sides)) z_anil)))) (blkOk_by (N := N_law) (sc := defScope s_law) (by decide +kernel)) (fun _ _ _ _ _ => pg_name (i := 5) sc_law.nd rfl (Or.inr rfl)) (fun _ _ _ _ _ => zts_nil) (fun _ _ _ _ _ gdI => (z_blkC (z_fz (z_callC (N := N_law_said) (ok_law_said T B) (hr.mono (by decide)) (by rfl) T.g__law_said T.F_law_said.kp T.b_law_said gdI (CapT.get (.cons T.l_lam2 ⟨rfl, .inl (by kernel_rfl), ⟨rfl, .inl (by kernel_rfl), ⟨rfl, .inl (by kernel_rfl), trivial⟩⟩⟩ .nil)) (z_acons (z_lam (mk_law T B rfl) T.l_lam2 (lamZ_by (by kernel_rfl))) z_anil) (by decide)))))) (z_lst (z_acons z_str (z_acons z_str z_anil))) (nomark _)) (z_one (z_ret z_bl)) z_nil)))
    (z_cons (z_ifS (z_or (zt_cmp (op_neL hr.units) op2_neL (z_callC (N := N_law_said) (ok_law_said T B) (hr.mono (by decide)) (by rfl) T.g__law_said T.F_law_said.kp T.b_law_said (gdI_def fun _ => rfl) (capT_law T).get (z_acons (z_lam (mk_law T B rfl) T.l_lam3 (lamZ_by (sc := defScope s_law) (by decide +kernel))) z_anil) (by decide)) z_str (nomark _)) (z_or1 (zt_cmp (op_neL hr.units) op2_neL (z_call (N := N_seen_sides) (ok_seen_sides T B) (hr.mono (by decide)) (by rfl) T.g_seen_sides T.F_seen_sides.kp T.b_seen_sides .nil (fun _ _ => RFs.nil_) (takes_of rfl rfl rfl rfl) (z_acons (z_fz (z_v (i := 6))) (z_acons (z_tup (z_acons z_int (z_acons z_int z_anil))) z_anil)) (by decide)) (z_lst z_anil) (nomark _)))).pt (z_one (z_ret z_bl)) z_nil)
    (z_cons (z_set (i := 3) sc_law.nd rfl (Or.inr rfl) (z_fz (z_lst (z_acons z_non (z_acons (z_tup (z_acons z_int (z_acons z_int z_anil))) (z_acons (z_tup (z_acons z_int (z_acons z_int (z_acons z_int z_anil)))) (z_acons (z_tup (z_acons z_int (z_acons z_int (z_acons z_int z_anil)))) (z_acons (z_tup (z_acons z_int (z_acons z_int (z_acons (z_fz (z_neg z_int)) z_anil)))) (z_acons (z_fz (z_lst (z_acons z_int (z_acons z_int (z_acons z_int z_anil))))) (z_acons (z_tup (z_acons z_int (z_acons z_bl (z_acons z_int z_anil)))) (z_acons (z_tup (z_acons z_str (z_acons z_int (z_acons z_int z_anil)))) (z_acons (z_tup (z_acons (z_pow z_int z_int) (z_acons z_int (z_acons z_int z_anil)))) z_anil))))))))))))
    (z_cons (z_for (passes_of rfl) rfl (zi_seqA (z_add (z_v (i := 3)) (z_lst (z_acons (z_fz (z_v (i := 7))) (z_acons (z_tup (z_acons (z_fz (z_v (i := 7))) (z_acons z_int (z_acons z_int z_anil)))) (z_acons (z_fz (z_v (i := 8))) z_anil)))))) (zg_name (i := 9) sc_law.nd rfl (Or.inr rfl)) (z_one (z_ifS (zt_cmp (op_neL hr.units) op2_neL (z_callC (N := N_law_said) (ok_law_said T B) (hr.mono (by decide)) (by rfl) T.g__law_said T.F_law_said.kp T.b_law_said (gdI_def fun _ => rfl) (capT_law T).get (z_acons (z_lam (mk_law T B rfl) T.l_lam4 (lamZ_by (sc := defScope s_law) (by decide +kernel))) z_anil) (by decide)) z_str (nomark _)) (z_one (z_ret z_bl)) z_nil)))
    (z_one (z_for (passes_of rfl) rfl (zi_seqA (z_tup (z_acons z_non (z_acons (z_tup (z_acons z_int (z_acons z_int z_anil))) (z_acons (z_tup (z_acons z_int z_anil)) (z_acons (z_tup (z_acons z_int (z_acons z_int (z_acons z_int z_anil)))) (z_acons (z_fz (z_lst (z_acons z_int (z_acons z_int z_anil)))) (z_acons (z_tup (z_acons z_bl (z_acons z_int z_anil))) (z_acons (z_tup (z_acons z_int (z_acons z_str z_anil))) (z_acons (z_tup (z_acons (z_pow z_int z_int) (z_acons z_int z_anil))) (z_acons z_int (z_acons (z_fz (z_v (i := 7))) (z_acons (z_tup (z_acons (z_fz (z_v (i := 7))) (z_acons z_int z_anil))) (z_acons (z_fz (z_v (i := 8))) z_anil)))))))))))))) (zg_name (i := 9) sc_law.nd rfl (Or.inr rfl)) (z_one (z_ifS (zt_cmp (op_neL hr.units) op2_neL (z_callC (N := N_law_said) (ok_law_said T B) (hr.mono (by decide)) (by rfl) T.g__law_said T.F_law_said.kp T.b_law_said (gdI_def fun _ => rfl) (capT_law T).get (z_acons (z_lam (mk_law T B rfl) T.l_lam5 (lamZ_by (sc := defScope s_law) (by decide +kernel))) z_anil) (by decide)) z_str (nomark _)) (z_one (z_ret z_bl)) z_nil)))))))))))))
    (z_one (z_ret (z_vand (z_cmp (op_eqL hr.units) op2_eqL (z_call (N := N_extreme) (ok_extreme T B) (hr.mono (by decide)) (by rfl) T.g_extreme T.F_extreme.kp T.b_extreme .nil (fun _ _ => RFs.nil_) (takes_of rfl rfl rfl rfl) (z_acons (z_fz (z_v (i := 6))) (z_acons (z_tup (z_acons (z_sub (z_pow z_int z_int) z_int) (z_acons z_int z_anil))) z_anil)) (by decide)) (z_lst (z_acons (z_tup (z_acons z_int (z_acons z_int z_anil))) z_anil)) (nomark _)) (z_vone (z_cmp (op_eqL hr.units) op2_eqL (z_call (N := N_where) (ok_where T B) (hr.mono (by decide)) (by rfl) T.g_where T.F_where.kp T.b_where .nil (fun _ _ => RFs.nil_) (takes_of rfl rfl rfl rfl) (z_acons (z_fz (z_v (i := 6))) (z_acons (z_tup (z_acons z_int (z_acons z_int (z_acons z_int z_anil)))) z_anil)) (by decide)) z_int (nomark _)))))))
end
section
variable {l : PySem.W.OpenLaw} {w : World} {K : PySem.W.Frag} {h : Heap} {mg : Str → Option Value} {ts : List Addr}
abbrev lamTab : Nat → Option LamD := fun k => ([(0, lamD "law.<locals>.<lambda>" (lamAt s_law [0, 1, 0, 0] [0, 1]) ["_law_ask", "_law_some"] []), (1, lamD "law.<locals>.<lambda>" (lamAt s_law [0, 1, 1, 0] [0, 1]) ["_law_ask", "_law_some"] []), (2, lamD "law.<locals>.<lambda>" (lamAt s_law [0, 4, 0] [0, 0, 1]) ["_law_ask", "_law_good", "_law_odd"] []), (3, lamD "law.<locals>.<lambda>" (lamAt s_law [0, 5] [0, 0, 1]) ["_law_good"] []), (4, lamD "law.<locals>.<lambda>" (lamAt s_law [0, 7, 0] [0, 1]) ["_law_good", "_law_odd"] []), (5, lamD "law.<locals>.<lambda>" (lamAt s_law [0, 8, 0] [0, 1]) ["_law_good", "_law_odd"] [])] : List (Nat × LamD)).lookup k
theorem all_mk {fa : Addr} (X : K.In h) (G : h.Ns mainGlobals mg) (hfa : mg "law" = some (.ref fa))
    (T8 : ∀ P ∈ ts, h.get? P = some (PySem.W.tabObj #[])) (hm : ∀ ns : List Int, ns.length ≤ 63 → (∀ z ∈ ns, Builtin.Int.intBits z ≤ 1048576) → ∃ σ', d_law ⟨some (.frz (.lst (ns.map PV.int))) :: List.replicate (N_law.length - 1) none, []⟩ = .ok (.rt (.val (.bl true))) σ')
    {f_turn : Addr} {oc_turn kV_turn dc_turn pm_turn cd_turn ct_turn : Value} {od_turn an_turn : Option Addr} {sl_turn : Array (Option Value)}
    {f_chain_of : Addr} {oc_chain_of kV_chain_of dc_chain_of pm_chain_of cd_chain_of ct_chain_of : Value} {od_chain_of an_chain_of : Option Addr} {sl_chain_of : Array (Option Value)}
    {f_border_of : Addr} {oc_border_of kV_border_of dc_border_of pm_border_of cd_border_of ct_border_of : Value} {od_border_of an_border_of : Option Addr} {sl_border_of : Array (Option Value)}
    {f_is_integer : Addr} {oc_is_integer kV_is_integer dc_is_integer pm_is_integer cd_is_integer ct_is_integer : Value} {od_is_integer an_is_integer : Option Addr} {sl_is_integer : Array (Option Value)}
    {f_is_between : Addr} {oc_is_between kV_is_between dc_is_between pm_is_between cd_is_between ct_is_between : Value} {od_is_between an_is_between : Option Addr} {sl_is_between : Array (Option Value)}
    {f_is_site : Addr} {oc_is_site kV_is_site dc_is_site pm_is_site cd_is_site ct_is_site : Value} {od_is_site an_is_site : Option Addr} {sl_is_site : Array (Option Value)}
    {f_check_sites : Addr} {oc_check_sites kV_check_sites dc_check_sites pm_check_sites cd_check_sites ct_check_sites : Value} {od_check_sites an_check_sites : Option Addr} {sl_check_sites : Array (Option Value)}
    {f_border : Addr} {oc_border kV_border dc_border pm_border cd_border ct_border : Value} {od_border an_border : Option Addr} {sl_border : Array (Option Value)}
    {f_double_hull : Addr} {oc_double_hull kV_double_hull dc_double_hull pm_double_hull cd_double_hull ct_double_hull : Value} {od_double_hull an_double_hull : Option Addr} {sl_double_hull : Array (Option Value)}
    {f_is_flat : Addr} {oc_is_flat kV_is_flat dc_is_flat pm_is_flat cd_is_flat ct_is_flat : Value} {od_is_flat an_is_flat : Option Addr} {sl_is_flat : Array (Option Value)}
    {f_corners_of : Addr} {oc_corners_of kV_corners_of dc_corners_of pm_corners_of cd_corners_of ct_corners_of : Value} {od_corners_of an_corners_of : Option Addr} {sl_corners_of : Array (Option Value)}
    {f_hull : Addr} {oc_hull kV_hull dc_hull pm_hull cd_hull ct_hull : Value} {od_hull an_hull : Option Addr} {sl_hull : Array (Option Value)}
    {f_layers : Addr} {oc_layers kV_layers dc_layers pm_layers cd_layers ct_layers : Value} {od_layers an_layers : Option Addr} {sl_layers : Array (Option Value)}
    {f_extreme : Addr} {oc_extreme kV_extreme dc_extreme pm_extreme cd_extreme ct_extreme : Value} {od_extreme an_extreme : Option Addr} {sl_extreme : Array (Option Value)}
    {f_check_member : Addr} {oc_check_member kV_check_member dc_check_member pm_check_member cd_check_member ct_check_member : Value} {od_check_member an_check_member : Option Addr} {sl_check_member : Array (Option Value)}
    {f_layer_of : Addr} {oc_layer_of kV_layer_of dc_layer_of pm_layer_of cd_layer_of ct_layer_of : Value} {od_layer_of an_layer_of : Option Addr} {sl_layer_of : Array (Option Value)}
    {f_check_site : Addr} {oc_check_site kV_check_site dc_check_site pm_check_site cd_check_site ct_check_site : Value} {od_check_site an_check_site : Option Addr} {sl_check_site : Array (Option Value)}
    {f_seen_of : Addr} {oc_seen_of kV_seen_of dc_seen_of pm_seen_of cd_seen_of ct_seen_of : Value} {od_seen_of an_seen_of : Option Addr} {sl_seen_of : Array (Option Value)}
    {f_seen_sides : Addr} {oc_seen_sides kV_seen_sides dc_seen_sides pm_seen_sides cd_seen_sides ct_seen_sides : Value} {od_seen_sides an_seen_sides : Option Addr} {sl_seen_sides : Array (Option Value)}
    {f_common : Addr} {oc_common kV_common dc_common pm_common cd_common ct_common : Value} {od_common an_common : Option Addr} {sl_common : Array (Option Value)}
    {f_is_place : Addr} {oc_is_place kV_is_place dc_is_place pm_is_place cd_is_place ct_is_place : Value} {od_is_place an_is_place : Option Addr} {sl_is_place : Array (Option Value)}
    {f_check_place : Addr} {oc_check_place kV_check_place dc_check_place pm_check_place cd_check_place ct_check_place : Value} {od_check_place an_check_place : Option Addr} {sl_check_place : Array (Option Value)}
    {f_lean_of : Addr} {oc_lean_of kV_lean_of dc_lean_of pm_lean_of cd_lean_of ct_lean_of : Value} {od_lean_of an_lean_of : Option Addr} {sl_lean_of : Array (Option Value)}
    {f_on_row : Addr} {oc_on_row kV_on_row dc_on_row pm_on_row cd_on_row ct_on_row : Value} {od_on_row an_on_row : Option Addr} {sl_on_row : Array (Option Value)}
    {f_sign : Addr} {oc_sign kV_sign dc_sign pm_sign cd_sign ct_sign : Value} {od_sign an_sign : Option Addr} {sl_sign : Array (Option Value)}
    {f_where : Addr} {oc_where kV_where dc_where pm_where cd_where ct_where : Value} {od_where an_where : Option Addr} {sl_where : Array (Option Value)}
    {f_sides_of : Addr} {oc_sides_of kV_sides_of dc_sides_of pm_sides_of cd_sides_of ct_sides_of : Value} {od_sides_of an_sides_of : Option Addr} {sl_sides_of : Array (Option Value)}
    {f_Subdivision_pairs_joined : Addr} {oc_Subdivision_pairs_joined kV_Subdivision_pairs_joined dc_Subdivision_pairs_joined pm_Subdivision_pairs_joined cd_Subdivision_pairs_joined ct_Subdivision_pairs_joined : Value} {od_Subdivision_pairs_joined an_Subdivision_pairs_joined : Option Addr} {sl_Subdivision_pairs_joined : Array (Option Value)}
    {f_power : Addr} {oc_power kV_power dc_power pm_power cd_power ct_power : Value} {od_power an_power : Option Addr} {sl_power : Array (Option Value)}
    {f_inside : Addr} {oc_inside kV_inside dc_inside pm_inside cd_inside ct_inside : Value} {od_inside an_inside : Option Addr} {sl_inside : Array (Option Value)}
    {f_turned_left : Addr} {oc_turned_left kV_turned_left dc_turned_left pm_turned_left cd_turned_left ct_turned_left : Value} {od_turned_left an_turned_left : Option Addr} {sl_turned_left : Array (Option Value)}
    {f_face_left : Addr} {oc_face_left kV_face_left dc_face_left pm_face_left cd_face_left ct_face_left : Value} {od_face_left an_face_left : Option Addr} {sl_face_left : Array (Option Value)}
    {f_faces_of : Addr} {oc_faces_of kV_faces_of dc_faces_of pm_faces_of cd_faces_of ct_faces_of : Value} {od_faces_of an_faces_of : Option Addr} {sl_faces_of : Array (Option Value)}
    {f_Subdivision_init : Addr} {oc_Subdivision_init kV_Subdivision_init dc_Subdivision_init pm_Subdivision_init cd_Subdivision_init ct_Subdivision_init : Value} {od_Subdivision_init an_Subdivision_init : Option Addr} {sl_Subdivision_init : Array (Option Value)}
    {f_law_deep : Addr} {oc_law_deep kV_law_deep dc_law_deep pm_law_deep cd_law_deep ct_law_deep : Value} {od_law_deep an_law_deep : Option Addr} {sl_law_deep : Array (Option Value)}
    {f_law_purse : Addr} {oc_law_purse kV_law_purse dc_law_purse pm_law_purse cd_law_purse ct_law_purse : Value} {od_law_purse an_law_purse : Option Addr} {sl_law_purse : Array (Option Value)}
    {f_law_said : Addr} {oc_law_said kV_law_said dc_law_said pm_law_said cd_law_said ct_law_said : Value} {od_law_said an_law_said : Option Addr} {sl_law_said : Array (Option Value)}
    {f_Desk_init : Addr} {oc_Desk_init kV_Desk_init dc_Desk_init pm_Desk_init cd_Desk_init ct_Desk_init : Value} {od_Desk_init an_Desk_init : Option Addr} {sl_Desk_init : Array (Option Value)}
    {f_law_coin : Addr} {oc_law_coin kV_law_coin dc_law_coin pm_law_coin cd_law_coin ct_law_coin : Value} {od_law_coin an_law_coin : Option Addr} {sl_law_coin : Array (Option Value)}
    {f_law_pick : Addr} {oc_law_pick kV_law_pick dc_law_pick pm_law_pick cd_law_pick ct_law_pick : Value} {od_law_pick an_law_pick : Option Addr} {sl_law_pick : Array (Option Value)}
    {f_law_wrong : Addr} {oc_law_wrong kV_law_wrong dc_law_wrong pm_law_wrong cd_law_wrong ct_law_wrong : Value} {od_law_wrong an_law_wrong : Option Addr} {sl_law_wrong : Array (Option Value)}
    {f_law c_law P_law : Addr} {oc_law kV_law dc_law pm_law ct_law o2_law : Value} {od_law an_law d2_law : Option Addr} {sl_law s2_law : Array (Option Value)} {vs_law : Array Value}
    {C_CellError : Addr}
    {C_Desk : Addr}
    {C_Subdivision : Addr}
    {C_InvalidSites fI_InvalidSites eN_InvalidSites : Addr} {en_InvalidSites eq_InvalidSites : Str} {ebs_InvalidSites esub_InvalidSites : List Value} {esn_InvalidSites : List Str} {eab_InvalidSites : Bool} {ecol_InvalidSites : Option Bool} {edd_InvalidSites : Option Addr} {e0_InvalidSites e1_InvalidSites e2_InvalidSites e3_InvalidSites e5_InvalidSites : Option Value}
    {ocI_InvalidSites kVI_InvalidSites dcI_InvalidSites pmI_InvalidSites cdI_InvalidSites ctI_InvalidSites : Value} {odI_InvalidSites anI_InvalidSites : Option Addr} {slI_InvalidSites : Array (Option Value)}
    {C_InvalidBound fI_InvalidBound eN_InvalidBound : Addr} {en_InvalidBound eq_InvalidBound : Str} {ebs_InvalidBound esub_InvalidBound : List Value} {esn_InvalidBound : List Str} {eab_InvalidBound : Bool} {ecol_InvalidBound : Option Bool} {edd_InvalidBound : Option Addr} {e0_InvalidBound e1_InvalidBound e2_InvalidBound e3_InvalidBound e5_InvalidBound : Option Value}
    {ocI_InvalidBound kVI_InvalidBound dcI_InvalidBound pmI_InvalidBound cdI_InvalidBound ctI_InvalidBound : Value} {odI_InvalidBound anI_InvalidBound : Option Addr} {slI_InvalidBound : Array (Option Value)}
    {t_MOST_SITES : Tok}
    {t_MOST_COORDINATE : Tok}
    {t_MOST_DIRECTION : Tok}
    {t_MOST_PLACE : Tok}
    (l_turn : K.lookup f_turn = some ⟨oc_turn, od_turn, .func (PySem.W.fnOf "turn" "turn" (defArgs s_turn) (defBody s_turn) (defScope s_turn) .none kV_turn dc_turn pm_turn an_turn cd_turn ct_turn), sl_turn⟩) (c_turn : PySem.W.codeIn K cd_turn "turn" = true) (k_turn : PySem.W.keepIn K (.ref f_turn) = true)
    (l_chain_of : K.lookup f_chain_of = some ⟨oc_chain_of, od_chain_of, .func (PySem.W.fnOf "chain_of" "chain_of" (defArgs s_chain_of) (defBody s_chain_of) (defScope s_chain_of) .none kV_chain_of dc_chain_of pm_chain_of an_chain_of cd_chain_of ct_chain_of), sl_chain_of⟩) (c_chain_of : PySem.W.codeIn K cd_chain_of "chain_of" = true) (k_chain_of : PySem.W.keepIn K (.ref f_chain_of) = true)
    (l_border_of : K.lookup f_border_of = some ⟨oc_border_of, od_border_of, .func (PySem.W.fnOf "border_of" "border_of" (defArgs s_border_of) (defBody s_border_of) (defScope s_border_of) .none kV_border_of dc_border_of pm_border_of an_border_of cd_border_of ct_border_of), sl_border_of⟩) (c_border_of : PySem.W.codeIn K cd_border_of "border_of" = true) (k_border_of : PySem.W.keepIn K (.ref f_border_of) = true)
    (l_is_integer : K.lookup f_is_integer = some ⟨oc_is_integer, od_is_integer, .func (PySem.W.fnOf "is_integer" "is_integer" (defArgs s_is_integer) (defBody s_is_integer) (defScope s_is_integer) .none kV_is_integer dc_is_integer pm_is_integer an_is_integer cd_is_integer ct_is_integer), sl_is_integer⟩) (c_is_integer : PySem.W.codeIn K cd_is_integer "is_integer" = true) (k_is_integer : PySem.W.keepIn K (.ref f_is_integer) = true)
    (l_is_between : K.lookup f_is_between = some ⟨oc_is_between, od_is_between, .func (PySem.W.fnOf "is_between" "is_between" (defArgs s_is_between) (defBody s_is_between) (defScope s_is_between) .none kV_is_between dc_is_between pm_is_between an_is_between cd_is_between ct_is_between), sl_is_between⟩) (c_is_between : PySem.W.codeIn K cd_is_between "is_between" = true) (k_is_between : PySem.W.keepIn K (.ref f_is_between) = true)
    (l_is_site : K.lookup f_is_site = some ⟨oc_is_site, od_is_site, .func (PySem.W.fnOf "is_site" "is_site" (defArgs s_is_site) (defBody s_is_site) (defScope s_is_site) .none kV_is_site dc_is_site pm_is_site an_is_site cd_is_site ct_is_site), sl_is_site⟩) (c_is_site : PySem.W.codeIn K cd_is_site "is_site" = true) (k_is_site : PySem.W.keepIn K (.ref f_is_site) = true)
    (l_check_sites : K.lookup f_check_sites = some ⟨oc_check_sites, od_check_sites, .func (PySem.W.fnOf "check_sites" "check_sites" (defArgs s_check_sites) (defBody s_check_sites) (defScope s_check_sites) .none kV_check_sites dc_check_sites pm_check_sites an_check_sites cd_check_sites ct_check_sites), sl_check_sites⟩) (c_check_sites : PySem.W.codeIn K cd_check_sites "check_sites" = true) (k_check_sites : PySem.W.keepIn K (.ref f_check_sites) = true)
    (l_border : K.lookup f_border = some ⟨oc_border, od_border, .func (PySem.W.fnOf "border" "border" (defArgs s_border) (defBody s_border) (defScope s_border) .none kV_border dc_border pm_border an_border cd_border ct_border), sl_border⟩) (c_border : PySem.W.codeIn K cd_border "border" = true) (k_border : PySem.W.keepIn K (.ref f_border) = true)
    (l_double_hull : K.lookup f_double_hull = some ⟨oc_double_hull, od_double_hull, .func (PySem.W.fnOf "double_hull" "double_hull" (defArgs s_double_hull) (defBody s_double_hull) (defScope s_double_hull) .none kV_double_hull dc_double_hull pm_double_hull an_double_hull cd_double_hull ct_double_hull), sl_double_hull⟩) (c_double_hull : PySem.W.codeIn K cd_double_hull "double_hull" = true) (k_double_hull : PySem.W.keepIn K (.ref f_double_hull) = true)
    (l_is_flat : K.lookup f_is_flat = some ⟨oc_is_flat, od_is_flat, .func (PySem.W.fnOf "is_flat" "is_flat" (defArgs s_is_flat) (defBody s_is_flat) (defScope s_is_flat) .none kV_is_flat dc_is_flat pm_is_flat an_is_flat cd_is_flat ct_is_flat), sl_is_flat⟩) (c_is_flat : PySem.W.codeIn K cd_is_flat "is_flat" = true) (k_is_flat : PySem.W.keepIn K (.ref f_is_flat) = true)
    (l_corners_of : K.lookup f_corners_of = some ⟨oc_corners_of, od_corners_of, .func (PySem.W.fnOf "corners_of" "corners_of" (defArgs s_corners_of) (defBody s_corners_of) (defScope s_corners_of) .none kV_corners_of dc_corners_of pm_corners_of an_corners_of cd_corners_of ct_corners_of), sl_corners_of⟩) (c_corners_of : PySem.W.codeIn K cd_corners_of "corners_of" = true) (k_corners_of : PySem.W.keepIn K (.ref f_corners_of) = true)
    (l_hull : K.lookup f_hull = some ⟨oc_hull, od_hull, .func (PySem.W.fnOf "hull" "hull" (defArgs s_hull) (defBody s_hull) (defScope s_hull) .none kV_hull dc_hull pm_hull an_hull cd_hull ct_hull), sl_hull⟩) (c_hull : PySem.W.codeIn K cd_hull "hull" = true) (k_hull : PySem.W.keepIn K (.ref f_hull) = true)
    (l_layers : K.lookup f_layers = some ⟨oc_layers, od_layers, .func (PySem.W.fnOf "layers" "layers" (defArgs s_layers) (defBody s_layers) (defScope s_layers) .none kV_layers dc_layers pm_layers an_layers cd_layers ct_layers), sl_layers⟩) (c_layers : PySem.W.codeIn K cd_layers "layers" = true) (k_layers : PySem.W.keepIn K (.ref f_layers) = true)
    (l_extreme : K.lookup f_extreme = some ⟨oc_extreme, od_extreme, .func (PySem.W.fnOf "extreme" "extreme" (defArgs s_extreme) (defBody s_extreme) (defScope s_extreme) .none kV_extreme dc_extreme pm_extreme an_extreme cd_extreme ct_extreme), sl_extreme⟩) (c_extreme : PySem.W.codeIn K cd_extreme "extreme" = true) (k_extreme : PySem.W.keepIn K (.ref f_extreme) = true)
    (l_check_member : K.lookup f_check_member = some ⟨oc_check_member, od_check_member, .func (PySem.W.fnOf "check_member" "check_member" (defArgs s_check_member) (defBody s_check_member) (defScope s_check_member) .none kV_check_member dc_check_member pm_check_member an_check_member cd_check_member ct_check_member), sl_check_member⟩) (c_check_member : PySem.W.codeIn K cd_check_member "check_member" = true) (k_check_member : PySem.W.keepIn K (.ref f_check_member) = true)
    (l_layer_of : K.lookup f_layer_of = some ⟨oc_layer_of, od_layer_of, .func (PySem.W.fnOf "layer_of" "layer_of" (defArgs s_layer_of) (defBody s_layer_of) (defScope s_layer_of) .none kV_layer_of dc_layer_of pm_layer_of an_layer_of cd_layer_of ct_layer_of), sl_layer_of⟩) (c_layer_of : PySem.W.codeIn K cd_layer_of "layer_of" = true) (k_layer_of : PySem.W.keepIn K (.ref f_layer_of) = true)
    (l_check_site : K.lookup f_check_site = some ⟨oc_check_site, od_check_site, .func (PySem.W.fnOf "check_site" "check_site" (defArgs s_check_site) (defBody s_check_site) (defScope s_check_site) .none kV_check_site dc_check_site pm_check_site an_check_site cd_check_site ct_check_site), sl_check_site⟩) (c_check_site : PySem.W.codeIn K cd_check_site "check_site" = true) (k_check_site : PySem.W.keepIn K (.ref f_check_site) = true)
    (l_seen_of : K.lookup f_seen_of = some ⟨oc_seen_of, od_seen_of, .func (PySem.W.fnOf "seen_of" "seen_of" (defArgs s_seen_of) (defBody s_seen_of) (defScope s_seen_of) .none kV_seen_of dc_seen_of pm_seen_of an_seen_of cd_seen_of ct_seen_of), sl_seen_of⟩) (c_seen_of : PySem.W.codeIn K cd_seen_of "seen_of" = true) (k_seen_of : PySem.W.keepIn K (.ref f_seen_of) = true)
    (l_seen_sides : K.lookup f_seen_sides = some ⟨oc_seen_sides, od_seen_sides, .func (PySem.W.fnOf "seen_sides" "seen_sides" (defArgs s_seen_sides) (defBody s_seen_sides) (defScope s_seen_sides) .none kV_seen_sides dc_seen_sides pm_seen_sides an_seen_sides cd_seen_sides ct_seen_sides), sl_seen_sides⟩) (c_seen_sides : PySem.W.codeIn K cd_seen_sides "seen_sides" = true) (k_seen_sides : PySem.W.keepIn K (.ref f_seen_sides) = true)
    (l_common : K.lookup f_common = some ⟨oc_common, od_common, .func (PySem.W.fnOf "common" "common" (defArgs s_common) (defBody s_common) (defScope s_common) .none kV_common dc_common pm_common an_common cd_common ct_common), sl_common⟩) (c_common : PySem.W.codeIn K cd_common "common" = true) (k_common : PySem.W.keepIn K (.ref f_common) = true)
    (l_is_place : K.lookup f_is_place = some ⟨oc_is_place, od_is_place, .func (PySem.W.fnOf "is_place" "is_place" (defArgs s_is_place) (defBody s_is_place) (defScope s_is_place) .none kV_is_place dc_is_place pm_is_place an_is_place cd_is_place ct_is_place), sl_is_place⟩) (c_is_place : PySem.W.codeIn K cd_is_place "is_place" = true) (k_is_place : PySem.W.keepIn K (.ref f_is_place) = true)
    (l_check_place : K.lookup f_check_place = some ⟨oc_check_place, od_check_place, .func (PySem.W.fnOf "check_place" "check_place" (defArgs s_check_place) (defBody s_check_place) (defScope s_check_place) .none kV_check_place dc_check_place pm_check_place an_check_place cd_check_place ct_check_place), sl_check_place⟩) (c_check_place : PySem.W.codeIn K cd_check_place "check_place" = true) (k_check_place : PySem.W.keepIn K (.ref f_check_place) = true)
    (l_lean_of : K.lookup f_lean_of = some ⟨oc_lean_of, od_lean_of, .func (PySem.W.fnOf "lean_of" "lean_of" (defArgs s_lean_of) (defBody s_lean_of) (defScope s_lean_of) .none kV_lean_of dc_lean_of pm_lean_of an_lean_of cd_lean_of ct_lean_of), sl_lean_of⟩) (c_lean_of : PySem.W.codeIn K cd_lean_of "lean_of" = true) (k_lean_of : PySem.W.keepIn K (.ref f_lean_of) = true)
    (l_on_row : K.lookup f_on_row = some ⟨oc_on_row, od_on_row, .func (PySem.W.fnOf "on_row" "on_row" (defArgs s_on_row) (defBody s_on_row) (defScope s_on_row) .none kV_on_row dc_on_row pm_on_row an_on_row cd_on_row ct_on_row), sl_on_row⟩) (c_on_row : PySem.W.codeIn K cd_on_row "on_row" = true) (k_on_row : PySem.W.keepIn K (.ref f_on_row) = true)
    (l_sign : K.lookup f_sign = some ⟨oc_sign, od_sign, .func (PySem.W.fnOf "sign" "sign" (defArgs s_sign) (defBody s_sign) (defScope s_sign) .none kV_sign dc_sign pm_sign an_sign cd_sign ct_sign), sl_sign⟩) (c_sign : PySem.W.codeIn K cd_sign "sign" = true) (k_sign : PySem.W.keepIn K (.ref f_sign) = true)
    (l_where : K.lookup f_where = some ⟨oc_where, od_where, .func (PySem.W.fnOf "where" "where" (defArgs s_where) (defBody s_where) (defScope s_where) .none kV_where dc_where pm_where an_where cd_where ct_where), sl_where⟩) (c_where : PySem.W.codeIn K cd_where "where" = true) (k_where : PySem.W.keepIn K (.ref f_where) = true)
    (l_sides_of : K.lookup f_sides_of = some ⟨oc_sides_of, od_sides_of, .func (PySem.W.fnOf "sides_of" "sides_of" (defArgs s_sides_of) (defBody s_sides_of) (defScope s_sides_of) .none kV_sides_of dc_sides_of pm_sides_of an_sides_of cd_sides_of ct_sides_of), sl_sides_of⟩) (c_sides_of : PySem.W.codeIn K cd_sides_of "sides_of" = true) (k_sides_of : PySem.W.keepIn K (.ref f_sides_of) = true)
    (l_Subdivision_pairs_joined : K.lookup f_Subdivision_pairs_joined = some ⟨oc_Subdivision_pairs_joined, od_Subdivision_pairs_joined, .func (PySem.W.fnOf "pairs_joined" "Subdivision.pairs_joined" (defArgs s_Subdivision_pairs_joined) (defBody s_Subdivision_pairs_joined) (defScope s_Subdivision_pairs_joined) .none kV_Subdivision_pairs_joined dc_Subdivision_pairs_joined pm_Subdivision_pairs_joined an_Subdivision_pairs_joined cd_Subdivision_pairs_joined ct_Subdivision_pairs_joined), sl_Subdivision_pairs_joined⟩) (c_Subdivision_pairs_joined : PySem.W.codeIn K cd_Subdivision_pairs_joined "Subdivision.pairs_joined" = true) (k_Subdivision_pairs_joined : PySem.W.keepIn K (.ref f_Subdivision_pairs_joined) = true)
    (l_power : K.lookup f_power = some ⟨oc_power, od_power, .func (PySem.W.fnOf "power" "power" (defArgs s_power) (defBody s_power) (defScope s_power) .none kV_power dc_power pm_power an_power cd_power ct_power), sl_power⟩) (c_power : PySem.W.codeIn K cd_power "power" = true) (k_power : PySem.W.keepIn K (.ref f_power) = true)
    (l_inside : K.lookup f_inside = some ⟨oc_inside, od_inside, .func (PySem.W.fnOf "inside" "inside" (defArgs s_inside) (defBody s_inside) (defScope s_inside) .none kV_inside dc_inside pm_inside an_inside cd_inside ct_inside), sl_inside⟩) (c_inside : PySem.W.codeIn K cd_inside "inside" = true) (k_inside : PySem.W.keepIn K (.ref f_inside) = true)
    (l_turned_left : K.lookup f_turned_left = some ⟨oc_turned_left, od_turned_left, .func (PySem.W.fnOf "turned_left" "turned_left" (defArgs s_turned_left) (defBody s_turned_left) (defScope s_turned_left) .none kV_turned_left dc_turned_left pm_turned_left an_turned_left cd_turned_left ct_turned_left), sl_turned_left⟩) (c_turned_left : PySem.W.codeIn K cd_turned_left "turned_left" = true) (k_turned_left : PySem.W.keepIn K (.ref f_turned_left) = true)
    (l_face_left : K.lookup f_face_left = some ⟨oc_face_left, od_face_left, .func (PySem.W.fnOf "face_left" "face_left" (defArgs s_face_left) (defBody s_face_left) (defScope s_face_left) .none kV_face_left dc_face_left pm_face_left an_face_left cd_face_left ct_face_left), sl_face_left⟩) (c_face_left : PySem.W.codeIn K cd_face_left "face_left" = true) (k_face_left : PySem.W.keepIn K (.ref f_face_left) = true)
    (l_faces_of : K.lookup f_faces_of = some ⟨oc_faces_of, od_faces_of, .func (PySem.W.fnOf "faces_of" "faces_of" (defArgs s_faces_of) (defBody s_faces_of) (defScope s_faces_of) .none kV_faces_of dc_faces_of pm_faces_of an_faces_of cd_faces_of ct_faces_of), sl_faces_of⟩) (c_faces_of : PySem.W.codeIn K cd_faces_of "faces_of" = true) (k_faces_of : PySem.W.keepIn K (.ref f_faces_of) = true)
    (l_Subdivision_init : K.lookup f_Subdivision_init = some ⟨oc_Subdivision_init, od_Subdivision_init, .func (PySem.W.fnOf "__init__" "Subdivision.__init__" (defArgs s_Subdivision_init) (defBody s_Subdivision_init) (defScope s_Subdivision_init) .none kV_Subdivision_init dc_Subdivision_init pm_Subdivision_init an_Subdivision_init cd_Subdivision_init ct_Subdivision_init), sl_Subdivision_init⟩) (c_Subdivision_init : PySem.W.codeIn K cd_Subdivision_init "Subdivision.__init__" = true) (k_Subdivision_init : PySem.W.keepIn K (.ref f_Subdivision_init) = true)
    (l_law_deep : K.lookup f_law_deep = some ⟨oc_law_deep, od_law_deep, .func (PySem.W.fnOf "_law_deep" "_law_deep" (defArgs s_law_deep) (defBody s_law_deep) (defScope s_law_deep) .none kV_law_deep dc_law_deep pm_law_deep an_law_deep cd_law_deep ct_law_deep), sl_law_deep⟩) (c_law_deep : PySem.W.codeIn K cd_law_deep "_law_deep" = true) (k_law_deep : PySem.W.keepIn K (.ref f_law_deep) = true)
    (l_law_purse : K.lookup f_law_purse = some ⟨oc_law_purse, od_law_purse, .func (PySem.W.fnOf "_law_purse" "_law_purse" (defArgs s_law_purse) (defBody s_law_purse) (defScope s_law_purse) .none kV_law_purse dc_law_purse pm_law_purse an_law_purse cd_law_purse ct_law_purse), sl_law_purse⟩) (c_law_purse : PySem.W.codeIn K cd_law_purse "_law_purse" = true) (k_law_purse : PySem.W.keepIn K (.ref f_law_purse) = true)
    (l_law_said : K.lookup f_law_said = some ⟨oc_law_said, od_law_said, .func (PySem.W.fnOf "_law_said" "_law_said" (defArgs s_law_said) (defBody s_law_said) (defScope s_law_said) .none kV_law_said dc_law_said pm_law_said an_law_said cd_law_said ct_law_said), sl_law_said⟩) (c_law_said : PySem.W.codeIn K cd_law_said "_law_said" = true) (k_law_said : PySem.W.keepIn K (.ref f_law_said) = true)
    (l_Desk_init : K.lookup f_Desk_init = some ⟨oc_Desk_init, od_Desk_init, .func (PySem.W.fnOf "__init__" "Desk.__init__" (defArgs s_Desk_init) (defBody s_Desk_init) (defScope s_Desk_init) .none kV_Desk_init dc_Desk_init pm_Desk_init an_Desk_init cd_Desk_init ct_Desk_init), sl_Desk_init⟩) (c_Desk_init : PySem.W.codeIn K cd_Desk_init "Desk.__init__" = true) (k_Desk_init : PySem.W.keepIn K (.ref f_Desk_init) = true)
    (l_law_coin : K.lookup f_law_coin = some ⟨oc_law_coin, od_law_coin, .func (PySem.W.fnOf "_law_coin" "_law_coin" (defArgs s_law_coin) (defBody s_law_coin) (defScope s_law_coin) .none kV_law_coin dc_law_coin pm_law_coin an_law_coin cd_law_coin ct_law_coin), sl_law_coin⟩) (c_law_coin : PySem.W.codeIn K cd_law_coin "_law_coin" = true) (k_law_coin : PySem.W.keepIn K (.ref f_law_coin) = true)
    (l_law_pick : K.lookup f_law_pick = some ⟨oc_law_pick, od_law_pick, .func (PySem.W.fnOf "_law_pick" "_law_pick" (defArgs s_law_pick) (defBody s_law_pick) (defScope s_law_pick) .none kV_law_pick dc_law_pick pm_law_pick an_law_pick cd_law_pick ct_law_pick), sl_law_pick⟩) (c_law_pick : PySem.W.codeIn K cd_law_pick "_law_pick" = true) (k_law_pick : PySem.W.keepIn K (.ref f_law_pick) = true)
    (l_law_wrong : K.lookup f_law_wrong = some ⟨oc_law_wrong, od_law_wrong, .func (PySem.W.fnOf "_law_wrong" "_law_wrong" (defArgs s_law_wrong) (defBody s_law_wrong) (defScope s_law_wrong) .none kV_law_wrong dc_law_wrong pm_law_wrong an_law_wrong cd_law_wrong ct_law_wrong), sl_law_wrong⟩) (c_law_wrong : PySem.W.codeIn K cd_law_wrong "_law_wrong" = true) (k_law_wrong : PySem.W.keepIn K (.ref f_law_wrong) = true)
    (l_law : K.lookup f_law = some ⟨oc_law, od_law, .func (PySem.W.fnOf "law" "law" (defArgs s_law) (defBody s_law) (defScope s_law) .none kV_law dc_law pm_law an_law (.ref c_law) ct_law), sl_law⟩) (cd_law : PySem.W.codeIn K (.ref c_law) "law" = true) (k_law : PySem.W.keepIn K (.ref f_law) = true)
    (tb_law : K.lookup c_law = some ⟨o2_law, d2_law, .fields vs_law, s2_law⟩) (tp_law : (vs_law[11]? : Option Value) = some (.ref P_law)) (ch_law : PySem.W.codeHdIn K c_law P_law = true) (nl_law : K.lookup P_law = none)
    (a_CellError : PySem.W.nsIn K mainGlobals "CellError" = some (some (.ref C_CellError))) (D1_CellError : PySem.W.readsIn K C_CellError (.type "type") = true) (D2_CellError : PySem.W.specialIn K (.ref C_CellError) "__getattribute__" = some (some (.builtin "type.__getattribute__"))) (D3_CellError : PySem.W.findCls K (.ref C_CellError) (.type "type") "__init__" = some (.val (.builtin "ArithmeticError.__init__")))
    (a_InvalidSites : PySem.W.nsIn K mainGlobals "InvalidSites" = some (some (.ref C_InvalidSites))) (i_InvalidSites : PySem.W.findIn K (.ref C_InvalidSites) "__init__" = some (some (.ref fI_InvalidSites)))
    (E1_InvalidSites : K.lookup C_InvalidSites = some (excClassObj en_InvalidSites eq_InvalidSites C_InvalidSites eN_InvalidSites ebs_InvalidSites (.ref C_CellError :: aeT) true esn_InvalidSites esub_InvalidSites eab_InvalidSites ecol_InvalidSites edd_InvalidSites e0_InvalidSites e1_InvalidSites e2_InvalidSites e3_InvalidSites e5_InvalidSites "ArithmeticError.__new__"))
    (E2_InvalidSites : PySem.W.findIn K (.ref C_InvalidSites) "__setattr__" = some (some (.builtin "object.__setattr__"))) (E3_InvalidSites : PySem.W.subIn K (.ref C_InvalidSites) (.type "BaseException") = some true) (E4_InvalidSites : PySem.W.typeIn K (.ref C_InvalidSites) = some (.type "type")) (E5_InvalidSites : PySem.W.keepIn K (.ref C_InvalidSites) = true)
    (l_init_InvalidSites : K.lookup fI_InvalidSites = some ⟨ocI_InvalidSites, odI_InvalidSites, .func (PySem.W.fnOf "__init__" "InvalidSites.__init__" (defArgs s_init_InvalidSites) (defBody s_init_InvalidSites) (defScope s_init_InvalidSites) .none kVI_InvalidSites dcI_InvalidSites pmI_InvalidSites anI_InvalidSites cdI_InvalidSites ctI_InvalidSites), slI_InvalidSites⟩) (c_init_InvalidSites : PySem.W.codeIn K cdI_InvalidSites "InvalidSites.__init__" = true) (k_init_InvalidSites : PySem.W.keepIn K (.ref fI_InvalidSites) = true)
    (t_InvalidSites : PySem.W.typeIn K (.ref fI_InvalidSites) = some (.type "function"))
    (n_InvalidSites : PySem.W.findIn K (.ref C_InvalidSites) "at" = some none)
    (a_InvalidBound : PySem.W.nsIn K mainGlobals "InvalidBound" = some (some (.ref C_InvalidBound))) (i_InvalidBound : PySem.W.findIn K (.ref C_InvalidBound) "__init__" = some (some (.ref fI_InvalidBound)))
    (E1_InvalidBound : K.lookup C_InvalidBound = some (excClassObj en_InvalidBound eq_InvalidBound C_InvalidBound eN_InvalidBound ebs_InvalidBound (.ref C_CellError :: aeT) true esn_InvalidBound esub_InvalidBound eab_InvalidBound ecol_InvalidBound edd_InvalidBound e0_InvalidBound e1_InvalidBound e2_InvalidBound e3_InvalidBound e5_InvalidBound "ArithmeticError.__new__"))
    (E2_InvalidBound : PySem.W.findIn K (.ref C_InvalidBound) "__setattr__" = some (some (.builtin "object.__setattr__"))) (E3_InvalidBound : PySem.W.subIn K (.ref C_InvalidBound) (.type "BaseException") = some true) (E4_InvalidBound : PySem.W.typeIn K (.ref C_InvalidBound) = some (.type "type")) (E5_InvalidBound : PySem.W.keepIn K (.ref C_InvalidBound) = true)
    (l_init_InvalidBound : K.lookup fI_InvalidBound = some ⟨ocI_InvalidBound, odI_InvalidBound, .func (PySem.W.fnOf "__init__" "InvalidBound.__init__" (defArgs s_init_InvalidBound) (defBody s_init_InvalidBound) (defScope s_init_InvalidBound) .none kVI_InvalidBound dcI_InvalidBound pmI_InvalidBound anI_InvalidBound cdI_InvalidBound ctI_InvalidBound), slI_InvalidBound⟩) (c_init_InvalidBound : PySem.W.codeIn K cdI_InvalidBound "InvalidBound.__init__" = true) (k_init_InvalidBound : PySem.W.keepIn K (.ref fI_InvalidBound) = true)
    (t_InvalidBound : PySem.W.typeIn K (.ref fI_InvalidBound) = some (.type "function"))
    (n_InvalidBound : PySem.W.findIn K (.ref C_InvalidBound) "argument" = some none)
    (m_InvalidBound_InvalidBound : PySem.W.exmOne K (.ref C_InvalidBound) (.ref C_InvalidBound) = some true)
    (m_InvalidBound_InvalidSites : PySem.W.exmOne K (.ref C_InvalidSites) (.ref C_InvalidBound) = some false)
    (e_InvalidBound : excB K C_InvalidBound = true)
    (k_InvalidBound_CellError : PySem.W.kitOne K (.ref C_InvalidBound) (.ref C_CellError) = some true)
    (q_InvalidBound : xfB K C_InvalidBound = true)
    (m_InvalidSites_InvalidBound : PySem.W.exmOne K (.ref C_InvalidBound) (.ref C_InvalidSites) = some false)
    (m_InvalidSites_InvalidSites : PySem.W.exmOne K (.ref C_InvalidSites) (.ref C_InvalidSites) = some true)
    (e_InvalidSites : excB K C_InvalidSites = true)
    (k_InvalidSites_CellError : PySem.W.kitOne K (.ref C_InvalidSites) (.ref C_CellError) = some true)
    (q_InvalidSites : xfB K C_InvalidSites = true)
    (a_Desk : PySem.W.nsIn K mainGlobals "Desk" = some (some (.ref C_Desk))) (cl_Desk : clsB K C_Desk = true)
    (a_Subdivision : PySem.W.nsIn K mainGlobals "Subdivision" = some (some (.ref C_Subdivision))) (cl_Subdivision : clsB K C_Subdivision = true)
    (i_Subdivision_pairs_joined : PySem.W.findIn K (.ref C_Subdivision) "pairs_joined" = some (some (.ref f_Subdivision_pairs_joined)))
    (i_Subdivision_init : PySem.W.findIn K (.ref C_Subdivision) "__init__" = some (some (.ref f_Subdivision_init)))
    (i_Desk_init : PySem.W.findIn K (.ref C_Desk) "__init__" = some (some (.ref f_Desk_init)))
    (is_Desk : isiB K C_Desk = true)
    (is_Subdivision : isiB K C_Subdivision = true)
    (mk_Subdivision : mkB K C_Subdivision f_Subdivision_init = true)
    (me_Subdivision_pairs_joined : methB K C_Subdivision "pairs_joined" f_Subdivision_pairs_joined = true)
    (na_Subdivision_joined : noAtB K C_Subdivision "joined" = true)
    (na_Subdivision_is_row : noAtB K C_Subdivision "is_row" = true)
    (na_Subdivision_polygons : noAtB K C_Subdivision "polygons" = true)
    (na_Subdivision_border : noAtB K C_Subdivision "border" = true)
    (na_Subdivision_kept : noAtB K C_Subdivision "kept" = true)
    (mk_Desk : mkB K C_Desk f_Desk_init = true)
    (na_Desk_last_change : noAtB K C_Desk "last_change" = true)
    (na_Desk_shown : noAtB K C_Desk "shown" = true)
    (na_Desk_later : noAtB K C_Desk "later" = true)
    (na_Desk_past : noAtB K C_Desk "past" = true)
    (na_Desk_present : noAtB K C_Desk "present" = true)
    (a_law : PySem.W.nsIn K mainGlobals "law" = some (some (.ref f_law)))
    (a_hull : PySem.W.nsIn K mainGlobals "hull" = some (some (.ref f_hull)))
    (a_border : PySem.W.nsIn K mainGlobals "border" = some (some (.ref f_border)))
    (a_double_hull : PySem.W.nsIn K mainGlobals "double_hull" = some (some (.ref f_double_hull)))
    (a_layers : PySem.W.nsIn K mainGlobals "layers" = some (some (.ref f_layers)))
    (a_border_of : PySem.W.nsIn K mainGlobals "border_of" = some (some (.ref f_border_of)))
    (a_check_sites : PySem.W.nsIn K mainGlobals "check_sites" = some (some (.ref f_check_sites)))
    (a_chain_of : PySem.W.nsIn K mainGlobals "chain_of" = some (some (.ref f_chain_of)))
    (a_turn : PySem.W.nsIn K mainGlobals "turn" = some (some (.ref f_turn)))
    (a_is_site : PySem.W.nsIn K mainGlobals "is_site" = some (some (.ref f_is_site)))
    (a_is_between : PySem.W.nsIn K mainGlobals "is_between" = some (some (.ref f_is_between)))
    (a_is_integer : PySem.W.nsIn K mainGlobals "is_integer" = some (some (.ref f_is_integer)))
    (a_corners_of : PySem.W.nsIn K mainGlobals "corners_of" = some (some (.ref f_corners_of)))
    (a_is_flat : PySem.W.nsIn K mainGlobals "is_flat" = some (some (.ref f_is_flat)))
    (a_layer_of : PySem.W.nsIn K mainGlobals "layer_of" = some (some (.ref f_layer_of)))
    (a_seen_sides : PySem.W.nsIn K mainGlobals "seen_sides" = some (some (.ref f_seen_sides)))
    (a_extreme : PySem.W.nsIn K mainGlobals "extreme" = some (some (.ref f_extreme)))
    (a_where : PySem.W.nsIn K mainGlobals "where" = some (some (.ref f_where)))
    (a_check_member : PySem.W.nsIn K mainGlobals "check_member" = some (some (.ref f_check_member)))
    (a_seen_of : PySem.W.nsIn K mainGlobals "seen_of" = some (some (.ref f_seen_of)))
    (a_check_site : PySem.W.nsIn K mainGlobals "check_site" = some (some (.ref f_check_site)))
    (a_sign : PySem.W.nsIn K mainGlobals "sign" = some (some (.ref f_sign)))
    (a_lean_of : PySem.W.nsIn K mainGlobals "lean_of" = some (some (.ref f_lean_of)))
    (a_on_row : PySem.W.nsIn K mainGlobals "on_row" = some (some (.ref f_on_row)))
    (a_check_place : PySem.W.nsIn K mainGlobals "check_place" = some (some (.ref f_check_place)))
    (a_is_place : PySem.W.nsIn K mainGlobals "is_place" = some (some (.ref f_is_place)))
    (a_common : PySem.W.nsIn K mainGlobals "common" = some (some (.ref f_common)))
    (a__law_said : PySem.W.nsIn K mainGlobals "_law_said" = some (some (.ref f_law_said)))
    (a__law_deep : PySem.W.nsIn K mainGlobals "_law_deep" = some (some (.ref f_law_deep)))
    (a__law_wrong : PySem.W.nsIn K mainGlobals "_law_wrong" = some (some (.ref f_law_wrong)))
    (a__law_purse : PySem.W.nsIn K mainGlobals "_law_purse" = some (some (.ref f_law_purse)))
    (a_faces_of : PySem.W.nsIn K mainGlobals "faces_of" = some (some (.ref f_faces_of)))
    (a_sides_of : PySem.W.nsIn K mainGlobals "sides_of" = some (some (.ref f_sides_of)))
    (a_face_left : PySem.W.nsIn K mainGlobals "face_left" = some (some (.ref f_face_left)))
    (a_turned_left : PySem.W.nsIn K mainGlobals "turned_left" = some (some (.ref f_turned_left)))
    (a_inside : PySem.W.nsIn K mainGlobals "inside" = some (some (.ref f_inside)))
    (a_power : PySem.W.nsIn K mainGlobals "power" = some (some (.ref f_power)))
    (a__law_coin : PySem.W.nsIn K mainGlobals "_law_coin" = some (some (.ref f_law_coin)))
    (a__law_pick : PySem.W.nsIn K mainGlobals "_law_pick" = some (some (.ref f_law_pick)))
    (z_sorted : PySem.W.nsIn K mainGlobals "sorted" = some none)
    (z_list : PySem.W.nsIn K mainGlobals "list" = some none)
    (z_len : PySem.W.nsIn K mainGlobals "len" = some none)
    (z_enumerate : PySem.W.nsIn K mainGlobals "enumerate" = some none)
    (z_isinstance : PySem.W.nsIn K mainGlobals "isinstance" = some none)
    (z_all : PySem.W.nsIn K mainGlobals "all" = some none)
    (z_tuple : PySem.W.nsIn K mainGlobals "tuple" = some none)
    (z_bool : PySem.W.nsIn K mainGlobals "bool" = some none)
    (z_int : PySem.W.nsIn K mainGlobals "int" = some none)
    (z_range : PySem.W.nsIn K mainGlobals "range" = some none)
    (z_sum : PySem.W.nsIn K mainGlobals "sum" = some none)
    (z_dict : PySem.W.nsIn K mainGlobals "dict" = some none)
    (z_max : PySem.W.nsIn K mainGlobals "max" = some none)
    (z_min : PySem.W.nsIn K mainGlobals "min" = some none)
    (z_abs : PySem.W.nsIn K mainGlobals "abs" = some none)
    (z_zip : PySem.W.nsIn K mainGlobals "zip" = some none)
    (v_MOST_SITES : PySem.W.nsIn K mainGlobals "MOST_SITES" = some (some (.int 200 t_MOST_SITES)))
    (v_MOST_COORDINATE : PySem.W.nsIn K mainGlobals "MOST_COORDINATE" = some (some (.int 1000000 t_MOST_COORDINATE)))
    (v_MOST_DIRECTION : PySem.W.nsIn K mainGlobals "MOST_DIRECTION" = some (some (.int 1000000000000000000000000000000 t_MOST_DIRECTION)))
    (v_MOST_PLACE : PySem.W.nsIn K mainGlobals "MOST_PLACE" = some (some (.int 1000000000000000000000000000000 t_MOST_PLACE)))
    (nd_T : ([(c_law, P_law, ("law.<locals>.<lambda>" : Str))].map fun q : Addr × Addr × Str => q.2.1).Nodup) (mt_T : ∀ p ∈ ([(c_law, P_law, ("law.<locals>.<lambda>" : Str))] : List (Addr × Addr × Str)), p.2.1 ∈ ts)
    : LamX.LawAtS l w K (L2.CX l.prog w) 8 63 "_law_script" mg fa h := by
  have e : Value.ref f_law = Value.ref fa := Option.some.inj ((PySem.W.mg_of X G a_law).symm.trans hfa)
  injection e with e
  subst e
  have F_turn := fun_mk (st := s_turn) l_turn c_turn k_turn
  have F_chain_of := fun_mk (st := s_chain_of) l_chain_of c_chain_of k_chain_of
  have F_border_of := fun_mk (st := s_border_of) l_border_of c_border_of k_border_of
  have F_is_integer := fun_mk (st := s_is_integer) l_is_integer c_is_integer k_is_integer
  have F_is_between := fun_mk (st := s_is_between) l_is_between c_is_between k_is_between
  have F_is_site := fun_mk (st := s_is_site) l_is_site c_is_site k_is_site
  have F_check_sites := fun_mk (st := s_check_sites) l_check_sites c_check_sites k_check_sites
  have F_border := fun_mk (st := s_border) l_border c_border k_border
  have F_double_hull := fun_mk (st := s_double_hull) l_double_hull c_double_hull k_double_hull
  have F_is_flat := fun_mk (st := s_is_flat) l_is_flat c_is_flat k_is_flat
  have F_corners_of := fun_mk (st := s_corners_of) l_corners_of c_corners_of k_corners_of
  have F_hull := fun_mk (st := s_hull) l_hull c_hull k_hull
  have F_layers := fun_mk (st := s_layers) l_layers c_layers k_layers
  have F_extreme := fun_mk (st := s_extreme) l_extreme c_extreme k_extreme
  have F_check_member := fun_mk (st := s_check_member) l_check_member c_check_member k_check_member
  have F_layer_of := fun_mk (st := s_layer_of) l_layer_of c_layer_of k_layer_of
  have F_check_site := fun_mk (st := s_check_site) l_check_site c_check_site k_check_site
  have F_seen_of := fun_mk (st := s_seen_of) l_seen_of c_seen_of k_seen_of
  have F_seen_sides := fun_mk (st := s_seen_sides) l_seen_sides c_seen_sides k_seen_sides
  have F_common := fun_mk (st := s_common) l_common c_common k_common
  have F_is_place := fun_mk (st := s_is_place) l_is_place c_is_place k_is_place
  have F_check_place := fun_mk (st := s_check_place) l_check_place c_check_place k_check_place
  have F_lean_of := fun_mk (st := s_lean_of) l_lean_of c_lean_of k_lean_of
  have F_on_row := fun_mk (st := s_on_row) l_on_row c_on_row k_on_row
  have F_sign := fun_mk (st := s_sign) l_sign c_sign k_sign
  have F_where := fun_mk (st := s_where) l_where c_where k_where
  have F_sides_of := fun_mk (st := s_sides_of) l_sides_of c_sides_of k_sides_of
  have F_Subdivision_pairs_joined := fun_mk (st := s_Subdivision_pairs_joined) l_Subdivision_pairs_joined c_Subdivision_pairs_joined k_Subdivision_pairs_joined
  have F_power := fun_mk (st := s_power) l_power c_power k_power
  have F_inside := fun_mk (st := s_inside) l_inside c_inside k_inside
  have F_turned_left := fun_mk (st := s_turned_left) l_turned_left c_turned_left k_turned_left
  have F_face_left := fun_mk (st := s_face_left) l_face_left c_face_left k_face_left
  have F_faces_of := fun_mk (st := s_faces_of) l_faces_of c_faces_of k_faces_of
  have F_Subdivision_init := fun_mk (st := s_Subdivision_init) l_Subdivision_init c_Subdivision_init k_Subdivision_init
  have F_law_deep := fun_mk (st := s_law_deep) l_law_deep c_law_deep k_law_deep
  have F_law_purse := fun_mk (st := s_law_purse) l_law_purse c_law_purse k_law_purse
  have F_law_said := fun_mk (st := s_law_said) l_law_said c_law_said k_law_said
  have F_Desk_init := fun_mk (st := s_Desk_init) l_Desk_init c_Desk_init k_Desk_init
  have F_law_coin := fun_mk (st := s_law_coin) l_law_coin c_law_coin k_law_coin
  have F_law_pick := fun_mk (st := s_law_pick) l_law_pick c_law_pick k_law_pick
  have F_law_wrong := fun_mk (st := s_law_wrong) l_law_wrong c_law_wrong k_law_wrong
  have F_law := funC_mk (st := s_law) l_law cd_law k_law
  let T : Tx K mg ⟨mkTabs [(c_law, P_law, ("law.<locals>.<lambda>" : Str))], lamTab⟩ :=
    {
      C_CellError := C_CellError, g_CellError := PySem.W.mg_of X G a_CellError, D_CellError := ⟨D1_CellError, D2_CellError, D3_CellError⟩,
      C_InvalidSites := C_InvalidSites, g_InvalidSites := PySem.W.mg_of X G a_InvalidSites, E_InvalidSites := ⟨⟨_, _, _, _, _, _, _, _, _, _, _, _, _, _, E1_InvalidSites⟩, E2_InvalidSites, E3_InvalidSites, E4_InvalidSites, E5_InvalidSites⟩, fI_InvalidSites := fI_InvalidSites, fdI_InvalidSites := _, FI_InvalidSites := fun_mk (st := s_init_InvalidSites) l_init_InvalidSites c_init_InvalidSites k_init_InvalidSites, bI_InvalidSites := (fun_mk (st := s_init_InvalidSites) l_init_InvalidSites c_init_InvalidSites k_init_InvalidSites).binds fun _ _ _ _ _ _ us hl => match us, hl with | [_, _], _ => rfl, i_InvalidSites := i_InvalidSites, t_InvalidSites := t_InvalidSites,
      n_InvalidSites := n_InvalidSites,
      C_InvalidBound := C_InvalidBound, g_InvalidBound := PySem.W.mg_of X G a_InvalidBound, E_InvalidBound := ⟨⟨_, _, _, _, _, _, _, _, _, _, _, _, _, _, E1_InvalidBound⟩, E2_InvalidBound, E3_InvalidBound, E4_InvalidBound, E5_InvalidBound⟩, fI_InvalidBound := fI_InvalidBound, fdI_InvalidBound := _, FI_InvalidBound := fun_mk (st := s_init_InvalidBound) l_init_InvalidBound c_init_InvalidBound k_init_InvalidBound, bI_InvalidBound := (fun_mk (st := s_init_InvalidBound) l_init_InvalidBound c_init_InvalidBound k_init_InvalidBound).binds fun _ _ _ _ _ _ us hl => match us, hl with | [_, _], _ => rfl, i_InvalidBound := i_InvalidBound, t_InvalidBound := t_InvalidBound,
      n_InvalidBound := n_InvalidBound,
      C_Desk := C_Desk, g_Desk := PySem.W.mg_of X G a_Desk,
      C_Subdivision := C_Subdivision, g_Subdivision := PySem.W.mg_of X G a_Subdivision,
      cl_Desk := cl_Desk,
      cl_Subdivision := cl_Subdivision,
      is_Desk := is_Desk,
      is_Subdivision := is_Subdivision,
      mk_Subdivision := mk_Subdivision,
      me_Subdivision_pairs_joined := me_Subdivision_pairs_joined,
      na_Subdivision_joined := na_Subdivision_joined,
      na_Subdivision_is_row := na_Subdivision_is_row,
      na_Subdivision_polygons := na_Subdivision_polygons,
      na_Subdivision_border := na_Subdivision_border,
      na_Subdivision_kept := na_Subdivision_kept,
      mk_Desk := mk_Desk,
      na_Desk_last_change := na_Desk_last_change,
      na_Desk_shown := na_Desk_shown,
      na_Desk_later := na_Desk_later,
      na_Desk_past := na_Desk_past,
      na_Desk_present := na_Desk_present,
      m_InvalidBound_InvalidBound := m_InvalidBound_InvalidBound,
      m_InvalidBound_InvalidSites := m_InvalidBound_InvalidSites,
      e_InvalidBound := e_InvalidBound,
      k_InvalidBound_CellError := k_InvalidBound_CellError,
      q_InvalidBound := q_InvalidBound,
      m_InvalidSites_InvalidBound := m_InvalidSites_InvalidBound,
      m_InvalidSites_InvalidSites := m_InvalidSites_InvalidSites,
      e_InvalidSites := e_InvalidSites,
      k_InvalidSites_CellError := k_InvalidSites_CellError,
      q_InvalidSites := q_InvalidSites,
      f_turn := f_turn, fd_turn := _, F_turn := F_turn, b_turn := F_turn.binds fun _ _ _ _ _ _ us hl => match us, hl with | [_, _, _], _ => rfl,
      f_chain_of := f_chain_of, fd_chain_of := _, F_chain_of := F_chain_of, b_chain_of := F_chain_of.binds fun _ _ _ _ _ _ us hl => match us, hl with | [_], _ => rfl,
      f_border_of := f_border_of, fd_border_of := _, F_border_of := F_border_of, b_border_of := F_border_of.binds fun _ _ _ _ _ _ us hl => match us, hl with | [_], _ => rfl,
      f_is_integer := f_is_integer, fd_is_integer := _, F_is_integer := F_is_integer, b_is_integer := F_is_integer.binds fun _ _ _ _ _ _ us hl => match us, hl with | [_], _ => rfl,
      f_is_between := f_is_between, fd_is_between := _, F_is_between := F_is_between, b_is_between := F_is_between.binds fun _ _ _ _ _ _ us hl => match us, hl with | [_, _, _], _ => rfl,
      f_is_site := f_is_site, fd_is_site := _, F_is_site := F_is_site, b_is_site := F_is_site.binds fun _ _ _ _ _ _ us hl => match us, hl with | [_], _ => rfl,
      f_check_sites := f_check_sites, fd_check_sites := _, F_check_sites := F_check_sites, b_check_sites := F_check_sites.binds fun _ _ _ _ _ _ us hl => match us, hl with | [_], _ => rfl,
      f_border := f_border, fd_border := _, F_border := F_border, b_border := F_border.binds fun _ _ _ _ _ _ us hl => match us, hl with | [_], _ => rfl,
      f_double_hull := f_double_hull, fd_double_hull := _, F_double_hull := F_double_hull, b_double_hull := F_double_hull.binds fun _ _ _ _ _ _ us hl => match us, hl with | [_], _ => rfl,
      f_is_flat := f_is_flat, fd_is_flat := _, F_is_flat := F_is_flat, b_is_flat := F_is_flat.binds fun _ _ _ _ _ _ us hl => match us, hl with | [_], _ => rfl,
      f_corners_of := f_corners_of, fd_corners_of := _, F_corners_of := F_corners_of, b_corners_of := F_corners_of.binds fun _ _ _ _ _ _ us hl => match us, hl with | [_], _ => rfl,
      f_hull := f_hull, fd_hull := _, F_hull := F_hull, b_hull := F_hull.binds fun _ _ _ _ _ _ us hl => match us, hl with | [_], _ => rfl,
      f_layers := f_layers, fd_layers := _, F_layers := F_layers, b_layers := F_layers.binds fun _ _ _ _ _ _ us hl => match us, hl with | [_], _ => rfl,
      f_extreme := f_extreme, fd_extreme := _, F_extreme := F_extreme, b_extreme := F_extreme.binds fun _ _ _ _ _ _ us hl => match us, hl with | [_, _], _ => rfl,
      f_check_member := f_check_member, fd_check_member := _, F_check_member := F_check_member, b_check_member := F_check_member.binds fun _ _ _ _ _ _ us hl => match us, hl with | [_, _, _], _ => rfl,
      f_layer_of := f_layer_of, fd_layer_of := _, F_layer_of := F_layer_of, b_layer_of := F_layer_of.binds fun _ _ _ _ _ _ us hl => match us, hl with | [_, _], _ => rfl,
      f_check_site := f_check_site, fd_check_site := _, F_check_site := F_check_site, b_check_site := F_check_site.binds fun _ _ _ _ _ _ us hl => match us, hl with | [_, _], _ => rfl,
      f_seen_of := f_seen_of, fd_seen_of := _, F_seen_of := F_seen_of, b_seen_of := F_seen_of.binds fun _ _ _ _ _ _ us hl => match us, hl with | [_, _], _ => rfl,
      f_seen_sides := f_seen_sides, fd_seen_sides := _, F_seen_sides := F_seen_sides, b_seen_sides := F_seen_sides.binds fun _ _ _ _ _ _ us hl => match us, hl with | [_, _], _ => rfl,
      f_common := f_common, fd_common := _, F_common := F_common, b_common := F_common.binds fun _ _ _ _ _ _ us hl => match us, hl with | [_, _], _ => rfl,
      f_is_place := f_is_place, fd_is_place := _, F_is_place := F_is_place, b_is_place := F_is_place.binds fun _ _ _ _ _ _ us hl => match us, hl with | [_], _ => rfl,
      f_check_place := f_check_place, fd_check_place := _, F_check_place := F_check_place, b_check_place := F_check_place.binds fun _ _ _ _ _ _ us hl => match us, hl with | [_, _], _ => rfl,
      f_lean_of := f_lean_of, fd_lean_of := _, F_lean_of := F_lean_of, b_lean_of := F_lean_of.binds fun _ _ _ _ _ _ us hl => match us, hl with | [_, _, _], _ => rfl,
      f_on_row := f_on_row, fd_on_row := _, F_on_row := F_on_row, b_on_row := F_on_row.binds fun _ _ _ _ _ _ us hl => match us, hl with | [_, _], _ => rfl,
      f_sign := f_sign, fd_sign := _, F_sign := F_sign, b_sign := F_sign.binds fun _ _ _ _ _ _ us hl => match us, hl with | [_], _ => rfl,
      f_where := f_where, fd_where := _, F_where := F_where, b_where := F_where.binds fun _ _ _ _ _ _ us hl => match us, hl with | [_, _], _ => rfl,
      f_sides_of := f_sides_of, fd_sides_of := _, F_sides_of := F_sides_of, b_sides_of := F_sides_of.binds fun _ _ _ _ _ _ us hl => match us, hl with | [_], _ => rfl,
      f_Subdivision_pairs_joined := f_Subdivision_pairs_joined, fd_Subdivision_pairs_joined := _, F_Subdivision_pairs_joined := F_Subdivision_pairs_joined, b_Subdivision_pairs_joined := F_Subdivision_pairs_joined.binds fun _ _ _ _ _ _ us hl => match us, hl with | [_], _ => rfl,
      f_power := f_power, fd_power := _, F_power := F_power, b_power := F_power.binds fun _ _ _ _ _ _ us hl => match us, hl with | [_, _, _, _], _ => rfl,
      f_inside := f_inside, fd_inside := _, F_inside := F_inside, b_inside := F_inside.binds fun _ _ _ _ _ _ us hl => match us, hl with | [_, _, _, _], _ => rfl,
      f_turned_left := f_turned_left, fd_turned_left := _, F_turned_left := F_turned_left, b_turned_left := F_turned_left.binds fun _ _ _ _ _ _ us hl => match us, hl with | [_], _ => rfl,
      f_face_left := f_face_left, fd_face_left := _, F_face_left := F_face_left, b_face_left := F_face_left.binds fun _ _ _ _ _ _ us hl => match us, hl with | [_, _, _], _ => rfl,
      f_faces_of := f_faces_of, fd_faces_of := _, F_faces_of := F_faces_of, b_faces_of := F_faces_of.binds fun _ _ _ _ _ _ us hl => match us, hl with | [_], _ => rfl,
      f_Subdivision_init := f_Subdivision_init, fd_Subdivision_init := _, F_Subdivision_init := F_Subdivision_init, b_Subdivision_init := F_Subdivision_init.binds fun _ _ _ _ _ _ us hl => match us, hl with | [_, _], _ => rfl,
      f_law_deep := f_law_deep, fd_law_deep := _, F_law_deep := F_law_deep, b_law_deep := F_law_deep.binds fun _ _ _ _ _ _ us hl => match us, hl with | [], _ => rfl,
      f_law_purse := f_law_purse, fd_law_purse := _, F_law_purse := F_law_purse, b_law_purse := F_law_purse.binds fun _ _ _ _ _ _ us hl => match us, hl with | [_], _ => rfl,
      f_law_said := f_law_said, fd_law_said := _, F_law_said := F_law_said, b_law_said := F_law_said.binds fun _ _ _ _ _ _ us hl => match us, hl with | [_], _ => rfl,
      f_Desk_init := f_Desk_init, fd_Desk_init := _, F_Desk_init := F_Desk_init, b_Desk_init := F_Desk_init.binds fun _ _ _ _ _ _ us hl => match us, hl with | [_], _ => rfl,
      f_law_coin := f_law_coin, fd_law_coin := _, F_law_coin := F_law_coin, b_law_coin := F_law_coin.binds fun _ _ _ _ _ _ us hl => match us, hl with | [_, _], _ => rfl,
      f_law_pick := f_law_pick, fd_law_pick := _, F_law_pick := F_law_pick, b_law_pick := F_law_pick.binds fun _ _ _ _ _ _ us hl => match us, hl with | [_, _], _ => rfl,
      f_law_wrong := f_law_wrong, fd_law_wrong := _, F_law_wrong := F_law_wrong, b_law_wrong := F_law_wrong.binds fun _ _ _ _ _ _ us hl => match us, hl with | [_], _ => rfl,
      f_law := f_law, fd_law := _, c_law := c_law, P_law := P_law, F_law := F_law, tm_law := tab_m (List.Mem.head _), tu_law := tab_u nd_T (List.Mem.head _), b_law := (fun_mk (st := s_law) l_law cd_law k_law).binds fun _ _ _ _ _ _ us hl => match us, hl with | [_], _ => rfl,
      l_lam0 := rfl,
      l_lam1 := rfl,
      l_lam2 := rfl,
      l_lam3 := rfl,
      l_lam4 := rfl,
      l_lam5 := rfl,
      g_hull := PySem.W.mg_of X G a_hull,
      g_border := PySem.W.mg_of X G a_border,
      g_double_hull := PySem.W.mg_of X G a_double_hull,
      g_layers := PySem.W.mg_of X G a_layers,
      g_border_of := PySem.W.mg_of X G a_border_of,
      z_sorted := PySem.W.mg_none_of X G z_sorted,
      z_list := PySem.W.mg_none_of X G z_list,
      g_check_sites := PySem.W.mg_of X G a_check_sites,
      z_len := PySem.W.mg_none_of X G z_len,
      g_chain_of := PySem.W.mg_of X G a_chain_of,
      g_turn := PySem.W.mg_of X G a_turn,
      t_MOST_SITES := _, v_MOST_SITES := PySem.W.mg_of X G v_MOST_SITES,
      z_enumerate := PySem.W.mg_none_of X G z_enumerate,
      g_is_site := PySem.W.mg_of X G a_is_site,
      z_isinstance := PySem.W.mg_none_of X G z_isinstance,
      g_is_between := PySem.W.mg_of X G a_is_between,
      t_MOST_COORDINATE := _, v_MOST_COORDINATE := PySem.W.mg_of X G v_MOST_COORDINATE,
      z_all := PySem.W.mg_none_of X G z_all,
      z_tuple := PySem.W.mg_none_of X G z_tuple,
      g_is_integer := PySem.W.mg_of X G a_is_integer,
      z_bool := PySem.W.mg_none_of X G z_bool,
      z_int := PySem.W.mg_none_of X G z_int,
      z_range := PySem.W.mg_none_of X G z_range,
      z_sum := PySem.W.mg_none_of X G z_sum,
      g_corners_of := PySem.W.mg_of X G a_corners_of,
      g_is_flat := PySem.W.mg_of X G a_is_flat,
      z_dict := PySem.W.mg_none_of X G z_dict,
      g_layer_of := PySem.W.mg_of X G a_layer_of,
      g_seen_sides := PySem.W.mg_of X G a_seen_sides,
      g_extreme := PySem.W.mg_of X G a_extreme,
      g_where := PySem.W.mg_of X G a_where,
      z_max := PySem.W.mg_none_of X G z_max,
      t_MOST_DIRECTION := _, v_MOST_DIRECTION := PySem.W.mg_of X G v_MOST_DIRECTION,
      g_check_member := PySem.W.mg_of X G a_check_member,
      g_seen_of := PySem.W.mg_of X G a_seen_of,
      g_check_site := PySem.W.mg_of X G a_check_site,
      g_sign := PySem.W.mg_of X G a_sign,
      g_lean_of := PySem.W.mg_of X G a_lean_of,
      z_min := PySem.W.mg_none_of X G z_min,
      g_on_row := PySem.W.mg_of X G a_on_row,
      g_check_place := PySem.W.mg_of X G a_check_place,
      g_is_place := PySem.W.mg_of X G a_is_place,
      g_common := PySem.W.mg_of X G a_common,
      z_abs := PySem.W.mg_none_of X G z_abs,
      t_MOST_PLACE := _, v_MOST_PLACE := PySem.W.mg_of X G v_MOST_PLACE,
      g__law_said := PySem.W.mg_of X G a__law_said,
      g__law_deep := PySem.W.mg_of X G a__law_deep,
      g__law_wrong := PySem.W.mg_of X G a__law_wrong,
      g__law_purse := PySem.W.mg_of X G a__law_purse,
      g_faces_of := PySem.W.mg_of X G a_faces_of,
      g_sides_of := PySem.W.mg_of X G a_sides_of,
      z_zip := PySem.W.mg_none_of X G z_zip,
      g_face_left := PySem.W.mg_of X G a_face_left,
      g_turned_left := PySem.W.mg_of X G a_turned_left,
      g_inside := PySem.W.mg_of X G a_inside,
      g_power := PySem.W.mg_of X G a_power,
      g__law_coin := PySem.W.mg_of X G a__law_coin,
      g__law_pick := PySem.W.mg_of X G a__law_pick }
  exact law_at (cs := [(c_law, P_law, ("law.<locals>.<lambda>" : Str))]) (lam := lamTab) X T8 mt_T (all_cons nl_law all_nil) (all_cons ch_law all_nil) (fun s v => .of_eq rfl) hm fun base _ _ TB => ok_law (P := l.prog) (w := w) (base := base) T ⟨TB _ (List.Mem.head _)⟩
end
end Kx

namespace Kx
open PySem PySem.Spec PyProof.Rows L2 L2.Zz
local macro_rules | `(tactic| fail) => `(tactic| with_reducible first
  | (apply gRd; first | exact RdS.v | exact RdS.n | exact RdS.o (by with_unfolding_all exact GetL.of rfl) | exact RdS.l (by with_unfolding_all exact GetP.of rfl) | exact RdS.f (by with_unfolding_all exact GetL.of rfl))
  | (apply gGet; with_unfolding_all exact GetL.of rfl)
  | (apply gSet; repeat apply SetL.s
     exact SetL.z)
  | (apply gFz; first | exact FzS.v | exact FzS.n | (apply FzS.o <;> fail) | exact FzS.f (by with_unfolding_all exact GetL.of rfl))
  | exact OtE.v | exact OtE.l | exact OtE.t | exact OtE.d | exact SlVal.frz | exact SlVal.own | exact SlVal.lo
  | (apply gVl; repeat apply VlS.c
     exact VlS.n)
  | (apply gRs; repeat (apply RdsS.c; fail)
     exact RdsS.n)
  | (apply gCI; repeat (first | apply CallI.v | apply CallI.n | (apply CallI.a; fail) | (apply CallI.l; fail))
     apply CallI.z; repeat apply PadL.s
     exact PadL.z)
  | (apply NdS.mk; with_unfolding_all rfl)
  | exact WrS.n | (apply WrS.o <;> fail) | (apply WrS.l; fail)
  | (apply StS.v; fail) | (apply StS.n; fail) | (apply StS.l; fail) | (apply StS.a <;> fail) | (apply StS.c; fail)
  | exact StAll.n | (apply StAll.v <;> fail) | (apply StAll.w <;> fail) | (apply StAll.l <;> fail)
  | exact OutS.v | exact OutS.n | (apply OutS.o; fail) | (apply OutS.f; fail)
  | exact WbS.z | (apply WbS.a <;> fail) | (apply WbS.l <;> fail)
  | exact SeqS.l | exact SeqS.t | exact SeqS.d
  | exact SetP.z | (apply SetP.s; fail) | exact GetP.z | (apply GetP.s; fail)
  | exact WpL.z | (apply WpL.s <;> fail) | exact DelL.z | (apply DelL.s; fail)
  | exact CapS.z | (apply CapS.c; fail; (first | assumption | (with_unfolding_all rfl)); fail)
  | exact ClsS.z | (apply ClsS.c; (with_unfolding_all rfl); fail; fail)
  | exact CvS.z | (apply CvS.v; fail) | (apply CvS.c; (with_unfolding_all rfl); fail; fail) | (apply CvS.m; fail; fail)
  | exact CloS.z | (apply CloS.c; fail)
  | exact FrzL.z | (apply FrzL.s; fail)
  | exact OffS.n | exact OffS.s
  | exact AppL.z | (apply AppL.s; fail) | exact IntL.z | (apply IntL.s; fail) | exact PickL.z | (apply PickL.s <;> fail) | exact MapV.z | (apply MapV.s; fail))
local macro_rules | `(tactic| fail "s") => `(tactic| first
  | ((with_reducible apply gCall); left)
  | (with_reducible first
  | (apply gWE; first | (apply w_varF; fail) | apply w_C | apply v_op2 | apply v_fz | apply w_call | apply v_cb | (apply w_varO; fail) | (apply w_varL; fail) | apply v_op1 | apply v_tup | apply v_lst | apply w_if | apply v_sl | apply w_dnew | apply v_andV | apply v_orV | apply v_notV | apply v_ch | apply w_tv | apply v_mut | apply w_callK | apply v_lc | apply v_lc2 | (apply v_callV; fail) | apply w_lam | (apply w_varC; fail) | apply v_lstC | apply v_catC | apply v_callC | (apply v_callL2; fail; (with_unfolding_all rfl); fail))
  | (apply k_2; fail; fail)
  | (apply gEF; first | exact f_eqI | exact f_neI | exact f_eqB | exact f_neB | exact f_eqS | exact f_neS | exact f_eqT3 | exact f_neT3 | exact f_eqT4 | exact f_neT4 | apply f_mul | apply f_fdiv | apply f_mod | exact f_max2 | exact f_min2 | exact f_p6 | exact f_p3 | exact f_p18 | exact f_p29 | exact f_p30 | exact f_p40 | apply f_pow | exact f_set0 | exact f_set1 | exact f_set2 | (apply f_sorted; assumption) | ((first | apply f_eqP | apply f_neP) <;> with_unfolding_all (first | assumption | exact ⟨_, rfl, rfl, Nat.le_of_ble_eq_true rfl, rfl⟩)) | (apply f_rep; (with_unfolding_all (refine ⟨by decide, by decide, ?_⟩; (simp only [List.length_cons, List.length_nil, Int.reduceToNat]); decide)); (simp only [Int.reduceToNat, List.reduceReplicate, List.flatten_cons, List.flatten_nil, List.cons_append, List.nil_append, List.append_nil]; (try exact rfl))) | (with_unfolding_all rfl) | (apply f_addA; (repeat apply AppL.s); exact AppL.z) | apply f_addl | apply f_setk | apply f_ixl | apply f_ixt)
  | (apply k_fz; fail)
  | exact OtE.v | exact OtE.l | exact OtE.t | exact OtE.d
  | (apply gWS; first | apply w_seq | apply v_set | apply v_asg | apply w_ifS | apply w_ret | apply v_par | apply w_exp | apply w_for | apply w_wh | apply w_retN | apply w_brk | apply w_ct | apply w_pass | apply v_raise | apply v_try | (apply v_hndN; (with_unfolding_all rfl)) | (apply v_hndR; (with_unfolding_all rfl); (with_unfolding_all rfl)) | (apply v_hndS; (with_unfolding_all rfl); (with_unfolding_all rfl)) | apply v_hnd0)
  | apply w_cons | apply w_nil | (apply k_cb; fail) | apply k_snx | (apply k_st; fail)
  | (apply gWB; first | apply v_B | apply w_not | apply w_and | apply w_or | apply w_yes)
  | (apply k_B; fail) | apply Br.t | apply Br.f | apply Br.nt | apply Br.nf
  | (apply k_tp; fail) | (apply k_ls; fail) | apply k_ca | (apply k_ck; iterate 4 fail) | (apply k_ret; fail; fail) | apply k_srt
  | (apply gWP; first | (apply w_gN; fail) | apply v_gT | apply v_gU | apply v_gL | apply w_gCons | apply w_gNil | (apply w_gA; fail) | apply w_gA0 | apply v_gSub | apply v_it | apply v_rng1 | apply v_rng2 | apply v_enum | apply v_zip | apply v_so | apply w_no | apply w_lcN | apply w_lcC)
  | (apply k_1; fail) | (apply k_as; fail) | (apply k_pa; fail) | (apply k_su; fail) | (apply k_so; fail) | (apply k_sl; fail) | (apply k_ch; fail; fail) | (apply k_m0; fail) | (apply k_mt; fail; fail)
  | apply k_bnx | apply k_bct | apply k_bbk | apply k_brt | apply k_sbk | apply k_sct | (apply k_nxt; fail)
  | (apply k_rs; fail; (with_unfolding_all rfl)) | (apply k_callC2; fail; (with_unfolding_all rfl); fail) | (apply k_outV; (first | assumption | (with_unfolding_all rfl))) | (apply k_outN; (first | assumption | (with_unfolding_all rfl))) | apply k_elV | apply k_elN | (apply k_lc; fail) | (apply k_cc2; (repeat apply AppN.s); exact AppN.z)
  | apply k_cv | (apply k_lw; fail) | (apply k_lw2; fail) | (apply k_li; fail) | (apply k_leA; (repeat apply AppL.s); exact AppL.z) | apply k_le | (apply k_ln; fail)
  | (apply k_it; fail; fail) | (apply k_r12; fail) | (apply k_r13; fail) | (apply k_r14; fail) | (apply k_r1; fail) | (apply k_r2; fail) | (apply k_en; fail) | (apply k_zp; fail))
  | fail
  | ((with_reducible apply Br.dT); focus (first | omega | (simp only [List.length_cons, List.length_nil]; done) | (simp only [List.length_cons, List.length_nil]; omega)))
  | ((with_reducible apply Br.dF); focus (first | omega | (simp only [List.length_cons, List.length_nil]; omega)))
  | ((with_reducible apply Br.nT); focus (first | omega | (simp only [List.length_cons, List.length_nil]; omega)))
  | ((with_reducible apply Br.nF); focus (first | omega | (simp only [List.length_cons, List.length_nil]; omega)))
  | with_reducible apply Br.dec | with_reducible apply Br.n
  | ((with_reducible apply Br.peqT); (focus with_reducible rfl)) | ((with_reducible apply Br.npeqF); (focus with_reducible rfl)) | ((with_reducible apply Br.peqF); (focus (exact fun z => nomatch z))) | ((with_reducible apply Br.npeqT); (focus (exact fun z => nomatch z))) | with_reducible apply Br.pq | with_reducible apply Br.npq
  | ((with_reducible apply Br.eqF); focus (first | (simp; done) | (simp; omega) | (with_unfolding_all rfl)))
  | ((with_reducible apply Br.eqT); focus (first | (simp; done) | (simp; omega) | (with_unfolding_all rfl)))
  | with_reducible intro _)
local macro_rules | `(tactic| fail "t") => `(tactic| first
  | (with_reducible first
  | exact k_pu | exact k_pb
  | (apply gWE; first | apply v_andP | apply v_orP | apply v_chP | apply v_ifP)
  | (apply gWB; first | apply v_andB | apply v_orB))
  | fail "s")
local macro_rules | `(tactic| fail "f") => `(tactic| first | fail "s" | with_reducible apply w_foN | with_reducible apply w_foC)
local macro_rules | `(tactic| fail "c") => `(tactic| first | assumption | contradiction | exact mulOk_l (by omega) (by omega) | exact mulOk_r (by omega) (by omega) | (unfold powOk; decide) | omega | (simp only [List.length_cons, List.length_nil]; omega) | (simp only [List.mem_cons, List.not_mem_nil, or_false] at *; omega))

theorem ml {x y : Int} {A B : Nat} (h : x.natAbs ≤ A) (h' : y.natAbs ≤ B) : (x * y).natAbs ≤ A * B := by
  rw [Int.natAbs_mul]; exact Nat.mul_le_mul h h'
theorem mulOk_w {i j : Int} (h : i.natAbs < 2 ^ 1000) (h' : j.natAbs < 2 ^ 1000) : mulOk i j := by
  refine .inr ?_
  have l : ∀ k : Nat, k < 2 ^ 1000 → k.log2 < 1000 := fun k hk => by
    by_cases h0 : k = 0
    · subst h0; decide
    · exact (Nat.log2_lt h0).mpr hk
  have := l _ h
  have := l _ h'
  show i.natAbs.log2 + j.natAbs.log2 < 1000000
  omega
theorem divOk_w {j : Int} (h0 : j ≠ 0) (h : j.natAbs < 2 ^ 1000) : divOk j := by
  refine ⟨h0, ?_⟩
  have := (Nat.log2_lt (show j.natAbs ≠ 0 by omega)).mpr h
  omega
theorem fmod_b (a : Int) {m : Int} (h : 0 < m) : 0 ≤ a.fmod m ∧ a.fmod m < m := ⟨Int.fmod_nonneg_of_pos a h, Int.fmod_lt_of_pos a h⟩
def Sr (s : Int × Int × Int) : PV := .lst [.int s.1, .int s.2.1, .int s.2.2]
/-- a purse behind at most N draws -/
def Pu (N : Nat) (s : Int × Int × Int) : Prop := 0 ≤ s.2.1 ∧ s.2.1 < 2147483563 ∧ 0 ≤ s.2.2 ∧ s.2.2 ≤ 3 + N
theorem lt250 {m : Int} (h0 : 0 < m) (h : m < 2 ^ 250) : m.natAbs < 2 ^ 1000 := by
  have h1 : m.natAbs < 2 ^ 250 := by omega
  exact Nat.lt_of_lt_of_le h1 (Nat.pow_le_pow_right (by omega) (by omega))
theorem powOk3 {i : Int} (h : i.natAbs < 2 ^ 200) : powOk i 3 := by
  refine ⟨by omega, ?_⟩
  have : i.natAbs.log2 < 200 := by
    by_cases h0 : i.natAbs = 0
    · rw [h0]; decide
    · exact (Nat.log2_lt h0).mpr h
  omega
theorem mulOk_fm {a m c j : Int} (hm : 0 < m) (hm2 : m < 1000000000000) (hc : -1000000000000 ≤ c) (hc2 : c ≤ 1000000000000) : mulOk (a.fmod m + c) j := by
  have := fmod_b a hm
  exact mulOk_l (by omega) (by omega)
theorem mulOk_fm0 {a m j : Int} (hm : 0 < m) (hm2 : m < 1000000000000) : mulOk (a.fmod m) j := by
  have := fmod_b a hm
  exact mulOk_l (by omega) (by omega)
theorem coin_body {a b c m : Int} {N : Nat} (hN : N < 100000) (h : Pu N (a, b, c)) (hm : 0 < m) (hm2 : m < 2 ^ 250) : WP (d_law_coin ⟨[some (.lo 0), some (.frz (.int m)), none, none], [.lst [.int a, .int b, .int c]]⟩) (fun f σ' => ∃ r s l, f = .rt (.val (.int r)) ∧ 0 ≤ r ∧ r < m ∧ Pu (N + 1) s ∧ σ' = ⟨l, [Sr s]⟩) noX := by
  obtain ⟨h1, h2, h3, h4⟩ := h
  have h1 : 0 ≤ b := h1
  have h2 : b < 2147483563 := h2
  have h3 : 0 ≤ c := h3
  have h4 : c ≤ 3 + N := h4
  unfold d_law_coin
  repeat' fail "s"
  all_goals first
    | exact divOk_of (by omega) (by omega)
    | exact divOk_w (by omega) (lt250 hm hm2)
    | omega
    | exact mulOk_l (by omega) (by omega)
    | exact powOk3 (by omega)
    | exact mulOk_fm (by omega) (by omega) (by omega) (by omega)
    | exact mulOk_fm0 (by omega) (by omega)
    | exact ⟨_, (_, b, c), _, rfl, (fmod_b _ hm).1, (fmod_b _ hm).2, ⟨by omega, by omega, by omega, by show c ≤ 3 + ((N + 1 : Nat) : Int); omega⟩, rfl⟩
    | exact ⟨_, (a, b, c + 1), _, rfl, (fmod_b _ hm).1, (fmod_b _ hm).2, ⟨by omega, by omega, by show 0 ≤ c + 1; omega, by show c + 1 ≤ 3 + ((N + 1 : Nat) : Int); omega⟩, rfl⟩
section
variable {R : XP} {Q : EVal → PSt → Prop}
theorem ru_coinO {l : SlL} {n : List PV} {i : Nat} {s : Int × Int × Int} {m : Int} {N : Nat} {l' : Int × Int × Int → SlL} (hp : Pu N s) (hN : N < 100000) (hm : 0 < m) (hm2 : m < 2 ^ 250) (g : GetL l i (.own (Sr s))) (st : ∀ s', SetL l i (.own (Sr s')) (l' s'))
    (q : ∀ r s', Pu (N + 1) s' → 0 ≤ r → r < m → Q (.val (.int r)) ⟨l' s', n⟩) : WP (callD 4 d_law_coin [.at i, .val (.int m)] ⟨l, n⟩) Q R := by
  refine v_callD (CallI.a g (.v (.z (.s (.s .z))))) (NdS.mk rfl) ?_
  refine (coin_body (a := s.1) (b := s.2.1) (c := s.2.2) hN hp hm hm2).mono ?_ (fun _ _ z => z.elim)
  rintro f σ' ⟨r, s', l1, rfl, h0, h1, hp', rfl⟩
  exact k_ret .v (.a (st s') .z) (q r s' hp' h0 h1)
theorem ru_coinL {l : SlL} {s : Int × Int × Int} {m : Int} {N : Nat} (hp : Pu N s) (hN : N < 100000) (hm : 0 < m) (hm2 : m < 2 ^ 250)
    (q : ∀ r s', Pu (N + 1) s' → 0 ≤ r → r < m → Q (.val (.int r)) ⟨l, [Sr s']⟩) : WP (callD 4 d_law_coin [.lo 0, .val (.int m)] ⟨l, [Sr s]⟩) Q R := by
  refine v_callD (CallI.l .z (.v (.z (.s (.s .z))))) (NdS.mk rfl) ?_
  refine (coin_body (a := s.1) (b := s.2.1) (c := s.2.2) hN hp hm hm2).mono ?_ (fun _ _ z => z.elim)
  rintro f σ' ⟨r, s', l1, rfl, h0, h1, hp', rfl⟩
  exact k_ret .v (.l .z .z) (q r s' hp' h0 h1)
local macro_rules | `(tactic| left) => `(tactic| first | ((with_reducible apply ru_coinL) <;> first | assumption | omega | skip) | ((with_reducible apply ru_coinO) <;> first | assumption | omega | skip))
theorem ru_pickL {l : SlL} {s : Int × Int × Int} {xs : List PV} {N : Nat} (hp : Pu N s) (hN : N < 100000) (hx : 0 < xs.length) (hx2 : xs.length < 1000)
    (q : ∀ p s', Pu (N + 1) s' → p ∈ xs → Q (.val p) ⟨l, [Sr s']⟩) : WP (callD 2 d_law_pick [.lo 0, .val (.lst xs)] ⟨l, [Sr s]⟩) Q R := by
  refine v_callD (CallI.l .z (.v (.z .z))) (NdS.mk rfl) ?_
  unfold d_law_pick
  repeat' fail "s"
  all_goals first
    | omega
    | (rename_i r s' hp' h0 h1; exact q _ _ hp' (getD_mem (xs := xs) ⟨h0, h1⟩))
theorem ru_pickO {l : SlL} {n : List PV} {i : Nat} {s : Int × Int × Int} {xs : List PV} {N : Nat} {l' : Int × Int × Int → SlL} (hp : Pu N s) (hN : N < 100000) (hx : 0 < xs.length) (hx2 : xs.length < 1000) (g : GetL l i (.own (Sr s))) (st : ∀ s', SetL l i (.own (Sr s')) (l' s'))
    (q : ∀ p s', Pu (N + 1) s' → p ∈ xs → Q (.val p) ⟨l' s', n⟩) : WP (callD 2 d_law_pick [.at i, .val (.lst xs)] ⟨l, n⟩) Q R := by
  refine v_callD (CallI.a g (.v (.z .z))) (NdS.mk rfl) ?_
  unfold d_law_pick
  repeat' fail "s"
  all_goals first
    | omega
    | (rename_i r s' hp' h0 h1; exact k_ret .v (.a (st _) .z) (q _ _ hp' (getD_mem (xs := xs) ⟨h0, h1⟩)))
theorem ru_purse {σ : PSt} {i : Int} (q : ∀ s, Pu 0 s → Q (.new (Sr s)) σ) : WP (callD 1 d_law_purse [.val (.int i)] σ) Q R := by
  apply v_callD <;> try unfold d_law_purse
  repeat' fail "s"
  all_goals first
    | (unfold powOk; decide)
    | (refine mulOk_r ?_ ?_ <;> split <;> omega)
    | omega
    | (have := fmod_b i (m := 2147483563) (by omega); exact q (_, _, _) ⟨this.1, this.2, by show (0:Int) ≤ 3; omega, by show (3:Int) ≤ 3 + ((0:Nat):Int); omega⟩)
end

def okB (o : Rs Fl) : Bool := match o with
  | .ok (.rt (.val (.bl true))) _ => true
  | _ => false
theorem okB_ok {o : Rs Fl} (h : okB o = true) : ∃ σ', o = .ok (.rt (.val (.bl true))) σ' := by
  unfold okB at h
  split at h
  · exact ⟨_, rfl⟩
  · cases h
theorem wp_okB {o : Rs Fl} {Q : Fl → PSt → Prop} {R : XP} (h : okB o = true) (q : ∀ σ', Q (.rt (.val (.bl true))) σ') : WP o Q R := by
  obtain ⟨σ', e⟩ := okB_ok h
  exact WP.of e (q σ')
/-- the tuple within tuples that the law makes -/
def dp (n : Nat) : PV := Nat.rec (.tup [.int 1]) (fun _ d => .tup [d]) n
theorem ru_deep {σ : PSt} {Q : EVal → PSt → Prop} {R : XP} (q : Q (.val (dp 1990)) σ) : WP (callD 2 d_law_deep [] σ) Q R := WP.of (by kernel_rfl) q
def odds : List PV := [.non, .int 3, .tup [.int 1, .bl true], .lst [.int 1, .int 2], .tup [.int 1, .int 2, .int 3], .tup [.int 1000001, .int 0], .tup [.int 0, .int (-1000001)], .str "ab", .tup [], .tup [.str "1", .int 2], .dct [] []]
def odds2 : List PV := odds ++ [dp 1990, .tup [dp 1990, .int 0]]
theorem mem_ix {xs : List PV} {p : PV} (h : p ∈ xs) : ∃ i, i < xs.length ∧ p = xs.getD i .non := by
  obtain ⟨i, hi, e⟩ := List.mem_iff_getElem.mp h
  exact ⟨i, hi, by rw [List.getD_eq_getElem?_getD, List.getElem?_eq_getElem hi, e]; rfl⟩
abbrev sW (s : Int × Int × Int) (a b c d : Option Sl) : PSt := ⟨[some (.lo 0), a, b, c, d, none], [Sr s]⟩
local macro_rules | `(tactic| left) => `(tactic| first | ((with_reducible apply ru_coinO) <;> first | ((with_reducible show Pu _ _); (with_reducible assumption)) | ((with_reducible show IntL _ _); (repeat apply IntL.s); exact IntL.z) | omega | skip) | ((with_reducible apply ru_coinL) <;> first | ((with_reducible show Pu _ _); (with_reducible assumption)) | ((with_reducible show IntL _ _); (repeat apply IntL.s); exact IntL.z) | omega | skip) | ((with_reducible apply ru_pickL) <;> first | ((with_reducible show Pu _ _); (with_reducible assumption)) | ((with_reducible show IntL _ _); (repeat apply IntL.s); exact IntL.z) | omega | skip) | ((with_reducible apply ru_pickO) <;> first | ((with_reducible show Pu _ _); (with_reducible assumption)) | ((with_reducible show IntL _ _); (repeat apply IntL.s); exact IntL.z) | omega | skip) | with_reducible first | apply ru_purse | apply ru_deep)

local macro_rules | `(tactic| left) => `(tactic| first | ((with_reducible apply ru_coinO) <;> first | ((with_reducible show Pu _ _); (with_reducible assumption)) | ((with_reducible show IntL _ _); (repeat apply IntL.s); exact IntL.z) | omega | skip) | ((with_reducible apply ru_coinL) <;> first | ((with_reducible show Pu _ _); (with_reducible assumption)) | ((with_reducible show IntL _ _); (repeat apply IntL.s); exact IntL.z) | omega | skip) | ((with_reducible apply ru_pickL) <;> first | ((with_reducible show Pu _ _); (with_reducible assumption)) | ((with_reducible show IntL _ _); (repeat apply IntL.s); exact IntL.z) | omega | skip) | ((with_reducible apply ru_pickO) <;> first | ((with_reducible show Pu _ _); (with_reducible assumption)) | ((with_reducible show IntL _ _); (repeat apply IntL.s); exact IntL.z) | omega | skip) | with_reducible first | apply ru_purse | apply ru_deep)
def gl (r : Int) : List PV := (List.range r.toNat).map fun k => PV.tup [.int (Int.ofNat k), .int (Int.ofNat k * Int.ofNat k)]
theorem six {r : Int} (h0 : 0 ≤ r) (h1 : r < 6) : r = 0 ∨ r = 1 ∨ r = 2 ∨ r = 3 ∨ r = 4 ∨ r = 5 := by omega
theorem wrong_head {rest : DS} {s : Int × Int × Int} {Q : Fl → PSt → Prop} {R : XP} (hp : Pu 0 s) (h : ∀ s' i (r : Int), i < 13 → 0 ≤ r → r < 6 → WP (rest (sW s' (some (.frz (.lst odds))) (some (.frz (odds2.getD i .non))) (some (.own (.lst (gl r)))) none)) Q R) :
    WP (dSeq (dSet 2 (dFz (dCall 2 2 d_law_pick (dCons (dVar 0) (dCons (dFz (dOp2 pvAdd (dVar 1) (dLst (dCons (dFz (dCall 2 0 d_law_deep dNil [])) (dCons (dTup (dCons (dFz (dCall 2 0 d_law_deep dNil [])) (dCons (dC (.int 0)) dNil))) dNil))))) dNil)) [])))
    (dSeq (dSet 3 (dLc [5] (dRng1 (dCons (dCall 4 2 d_law_coin (dCons (dVar 0) (dCons (dC (.int 6)) dNil)) []) dNil)) (gN 5) dYes (dTup (dCons (dFz (dVar 5)) (dCons (dOp2 pvMul (dVar 5) (dVar 5)) dNil))))) rest) (sW s (some (.frz (.lst odds))) none none none)) Q R := by
  have hl : odds.length = 11 := by kernel_rfl
  have h2 : odds2 = odds ++ [dp 1990, .tup [dp 1990, .int 0]] := rfl
  rw [h2] at h
  generalize odds = od at h hl
  repeat' fail "s"
  · simp only [List.length_cons, List.length_nil]; unfold szL; omega
  · simp only [List.length_append, List.length_cons, List.length_nil]; omega
  · simp only [List.length_append, List.length_cons, List.length_nil]; omega
  · rename_i h0 h1
    rcases six h0 h1 with rfl | rfl | rfl | rfl | rfl | rfl <;> with_unfolding_all rfl
  · rename_i p s1 _ hm r s2 _ h0 h1
    obtain ⟨i, hi, rfl⟩ := mem_ix hm
    have hi : i < 13 := by
      simp only [List.length_append, List.length_cons, List.length_nil] at hi
      omega
    have hr := h s2 i r hi h0 h1
    generalize (od ++ [dp 1990, PV.tup [dp 1990, PV.int 0]]).getD i PV.non = p at hr ⊢
    have hs : lpLc [5] (gN 5) dYes (dTup (dCons (dFz (dVar 5)) (dCons (dOp2 pvMul (dVar 5) (dVar 5)) dNil))) (rng 0 r.toNat) [] (sW s2 (some (.frz (.lst od))) (some (.frz p)) none none) = .ok (gl r) (sW s2 (some (.frz (.lst od))) (some (.frz p)) none none) := by
      rcases six h0 h1 with rfl | rfl | rfl | rfl | rfl | rfl <;> kernel_rfl
    refine WP.of hs ?_
    repeat' fail "s"
    exact hr

local macro_rules | `(tactic| left) => `(tactic| first | ((with_reducible apply ru_coinO) <;> first | ((with_reducible show Pu _ _); (with_reducible assumption)) | ((with_reducible show IntL _ _); (repeat apply IntL.s); exact IntL.z) | omega | skip) | ((with_reducible apply ru_coinL) <;> first | ((with_reducible show Pu _ _); (with_reducible assumption)) | ((with_reducible show IntL _ _); (repeat apply IntL.s); exact IntL.z) | omega | skip) | ((with_reducible apply ru_pickL) <;> first | ((with_reducible show Pu _ _); (with_reducible assumption)) | ((with_reducible show IntL _ _); (repeat apply IntL.s); exact IntL.z) | omega | skip) | ((with_reducible apply ru_pickO) <;> first | ((with_reducible show Pu _ _); (with_reducible assumption)) | ((with_reducible show IntL _ _); (repeat apply IntL.s); exact IntL.z) | omega | skip) | with_reducible first | apply ru_purse | apply ru_deep)
def x0 (p : PV) (r : Int) : PV := .tup [.lst (gl r ++ [p] ++ (gl r).take 1), .int (Int.ofNat (gl r).length)]
def x1 (p : PV) (r : Int) : PV := .tup [.lst (gl r ++ [.tup [.int 99, .int 1], .tup [.int 99, .int 1], p]), .int (Int.ofNat (gl r).length + 1)]
def x4 (r : Int) : PV := .tup [.tup (gl r), .int (-1)]
def hd8 (a b c : PV) : List PV := [a, b, .tup [.lst [], .int 0], .tup [.non, .int (-1)], c, .tup [.dct [.tup [.int 1, .int 2]] [.int 3], .int (-1)], .tup [.str "sites", .int (-1)], .tup [.int 5, .int (-1)]]
def rOf (o : Rs Fl) : Option (List PV × List PV) := match o with
  | .ok (.rt (.new (.lst ys))) σ => some (ys, σ.ln)
  | _ => none
/-- the rows behind these, by a purse that draws 0 -/
def cons8 : List PV := match rOf (d_law_wrong ⟨[some (.lo 0), none, none, none, none, none], [Sr (78, 0, 0)]⟩) with
  | some (xs, _) => xs.drop 8
  | _ => []
theorem wp_rows {o : Rs Fl} {xs ln : List PV} {Q : Fl → PSt → Prop} {R : XP} (h : rOf o = some (xs, ln)) (q : ∀ l, Q (.rt (.new (.lst xs))) ⟨l, ln⟩) : WP o Q R := by
  unfold rOf at h
  split at h
  · rename_i ys σ
    cases h
    exact WP.of rfl (q σ.sl)
  · cases h
theorem thirteen {i : Nat} (h : i < 13) : i = 0 ∨ i = 1 ∨ i = 2 ∨ i = 3 ∨ i = 4 ∨ i = 5 ∨ i = 6 ∨ i = 7 ∨ i = 8 ∨ i = 9 ∨ i = 10 ∨ i = 11 ∨ i = 12 := by omega
def rowsOf (i : Nat) (r : Int) : List PV := hd8 (x0 (odds2.getD i .non) r) (x1 (odds2.getD i .non) r) (x4 r) ++ cons8
theorem wrong_ok {s : Int × Int × Int} {Q : Fl → PSt → Prop} {R : XP} (hp : Pu 0 s) (q : ∀ s' i r l, i < 13 → 0 ≤ r → r < 6 → Q (.rt (.new (.lst (rowsOf i r)))) ⟨l, [Sr s']⟩) : WP (d_law_wrong (sW s none none none none)) Q R := by
  unfold d_law_wrong
  refine w_seq (WP.of (s := sW s (some (.frz (.lst odds))) none none none) (by kernel_rfl) (k_snx ?_))
  refine wrong_head hp fun s' i r hi h0 h1 => ?_
  have q' := q s' i r
  unfold rowsOf at q'
  generalize odds2.getD i .non = p at q' ⊢
  generalize hod : odds = od
  refine WP.mono (Q := fun f σ => ∃ l, f = .rt (.new (.lst (hd8 (x0 p r) (x1 p r) (x4 r) ++ cons8))) ∧ σ = ⟨l, [Sr s']⟩) ?_ ?_ (fun _ _ z => z)
  · rcases six h0 h1 with rfl | rfl | rfl | rfl | rfl | rfl
    all_goals
      refine wp_rows (xs := hd8 (x0 p _) (x1 p _) (x4 _) ++ cons8) (ln := [Sr s']) ?_ fun l => ⟨l, rfl, rfl⟩
      kernel_rfl
  · rintro f σ ⟨l, rfl, rfl⟩
    exact q' l hi h0 h1
theorem ru_wrong {l : SlL} {n : List PV} {j : Nat} {s : Int × Int × Int} {l' : Int × Int × Int → SlL} {Q : EVal → PSt → Prop} {R : XP} (hp : Pu 0 s) (g : GetL l j (.own (Sr s))) (st : ∀ s', SetL l j (.own (Sr s')) (l' s'))
    (q : ∀ s' i r, i < 13 → 0 ≤ r → r < 6 → Q (.new (.lst (rowsOf i r))) ⟨l' s', n⟩) : WP (callD 6 d_law_wrong [.at j] ⟨l, n⟩) Q R := by
  refine v_callD (CallI.a g (.z (.s (.s (.s (.s (.s .z))))))) (NdS.mk rfl) ?_
  exact wrong_ok hp fun s' i r l1 hi h0 h1 => k_ret .n (.a (st s') .z) (q s' i r hi h0 h1)

local macro_rules | `(tactic| left) => `(tactic| first | ((with_reducible apply ru_coinO) <;> first | ((with_reducible show Pu _ _); (with_reducible assumption)) | ((with_reducible show IntL _ _); (repeat apply IntL.s); exact IntL.z) | omega | skip) | ((with_reducible apply ru_coinL) <;> first | ((with_reducible show Pu _ _); (with_reducible assumption)) | ((with_reducible show IntL _ _); (repeat apply IntL.s); exact IntL.z) | omega | skip) | ((with_reducible apply ru_pickL) <;> first | ((with_reducible show Pu _ _); (with_reducible assumption)) | ((with_reducible show IntL _ _); (repeat apply IntL.s); exact IntL.z) | omega | skip) | ((with_reducible apply ru_pickO) <;> first | ((with_reducible show Pu _ _); (with_reducible assumption)) | ((with_reducible show IntL _ _); (repeat apply IntL.s); exact IntL.z) | omega | skip) | with_reducible first | apply ru_purse | apply ru_deep | apply ru_wrong)
def nxP (o : Rs Fl) : Option (List (Option Sl)) := match o with
  | .ok .nx ⟨[a, b, c, some (.frz _), some (.frz _), some (.frz _), d, e, f, g], []⟩ => some [a, b, c, d, e, f, g]
  | _ => none
def goodL : List PV := [.tup [.int 0, .int 0], .tup [.int 3, .int 1], .tup [.int 1, .int 5]]
def nxO (o : Rs Fl) : Option (List (Option Sl)) := match o with
  | .ok .nx ⟨[a, _, _, _, _, _, b, _, _, _], []⟩ => some [a, b]
  | _ => none
theorem wp_nxP {g : DG} {b : DS} {x : PV} {σ : PSt} {a0 a1 a2 a6 a7 a8 a9 : Option Sl} {K : Fl → PSt → Prop} {R : XP} (h : nxP ((g x σ).bind fun _ σ1 => b σ1) = some [a0, a1, a2, a6, a7, a8, a9]) (q : ∀ z3 z4 z5, K .nx ⟨[a0, a1, a2, some (.frz z3), some (.frz z4), some (.frz z5), a6, a7, a8, a9], []⟩) : WP (g x σ) (fun _ σ1 => WP (b σ1) K R) R := by
  cases hg : g x σ with
  | ok u σ1 =>
    rw [hg] at h
    refine WP.of rfl ?_
    have h : nxP (b σ1) = some [a0, a1, a2, a6, a7, a8, a9] := h
    unfold nxP at h
    split at h
    · rename_i e
      cases h
      exact WP.of e (q _ _ _)
    · cases h
  | ex e s => rw [hg] at h; cases h
  | no => rw [hg] at h; cases h
theorem wp_nxO {o : Rs Fl} {a b : Option Sl} {Q : Fl → PSt → Prop} {R : XP} (h : nxO o = some [a, b]) (q : ∀ z1 z2 z3 z4 z5 z7 z8 z9, Q .nx ⟨[a, z1, z2, z3, z4, z5, b, z7, z8, z9], []⟩) : WP o Q R := by
  unfold nxO at h
  split at h
  · cases h
    exact WP.of rfl (q _ _ _ _ _ _ _ _)
  · cases h
def consts : List PV := [.tup [.lst [], .int 0], .tup [.non, .int (-1)], .tup [.dct [.tup [.int 1, .int 2]] [.int 3], .int (-1)], .tup [.str "sites", .int (-1)], .tup [.int 5, .int (-1)]] ++ cons8
theorem row_mem {i : Nat} {r : Int} {x : PV} (h : x ∈ rowsOf i r) : x = x0 (odds2.getD i .non) r ∨ x = x1 (odds2.getD i .non) r ∨ x = x4 r ∨ ∃ k, k < 10 ∧ x = consts.getD k .non := by
  have main : x = x0 (odds2.getD i .non) r ∨ x = x1 (odds2.getD i .non) r ∨ x = x4 r ∨ x ∈ consts := by
    unfold rowsOf hd8 at h
    unfold consts
    rcases List.mem_append.mp h with h | h
    · simp only [List.mem_cons, List.not_mem_nil, or_false] at h
      simp only [List.mem_append, List.mem_cons, List.not_mem_nil, or_false]
      rcases h with h | h | h | h | h | h | h | h
      · exact .inl h
      · exact .inr (.inl h)
      · exact .inr (.inr (.inr (.inl (.inl h))))
      · exact .inr (.inr (.inr (.inl (.inr (.inl h)))))
      · exact .inr (.inr (.inl h))
      · exact .inr (.inr (.inr (.inl (.inr (.inr (.inl h))))))
      · exact .inr (.inr (.inr (.inl (.inr (.inr (.inr (.inl h)))))))
      · exact .inr (.inr (.inr (.inl (.inr (.inr (.inr (.inr h)))))))
    · exact .inr (.inr (.inr (List.mem_append_right _ h)))
  rcases main with h | h | h | h
  · exact .inl h
  · exact .inr (.inl h)
  · exact .inr (.inr (.inl h))
  · obtain ⟨k, hk, e⟩ := mem_ix h
    have hl : consts.length = 10 := by kernel_rfl
    exact .inr (.inr (.inr ⟨k, by rw [← hl]; exact hk, e⟩))
theorem ten {k : Nat} (h : k < 10) : k = 0 ∨ k = 1 ∨ k = 2 ∨ k = 3 ∨ k = 4 ∨ k = 5 ∨ k = 6 ∨ k = 7 ∨ k = 8 ∨ k = 9 := by omega
theorem rows_len (i : Nat) (r : Int) : (rowsOf i r).length ≤ szL := by
  have e : cons8.length = 5 := by kernel_rfl
  unfold rowsOf hd8 szL
  simp only [List.length_append, List.length_cons, List.length_nil, e]
  omega
local macro_rules | `(tactic| left) => `(tactic| first | ((with_reducible apply ru_coinO) <;> first | ((with_reducible show Pu _ _); (with_reducible assumption)) | ((with_reducible show IntL _ _); (repeat apply IntL.s); exact IntL.z) | omega | skip) | ((with_reducible apply ru_coinL) <;> first | ((with_reducible show Pu _ _); (with_reducible assumption)) | ((with_reducible show IntL _ _); (repeat apply IntL.s); exact IntL.z) | omega | skip) | ((with_reducible apply ru_pickL) <;> first | ((with_reducible show Pu _ _); (with_reducible assumption)) | ((with_reducible show IntL _ _); (repeat apply IntL.s); exact IntL.z) | omega | skip) | ((with_reducible apply ru_pickO) <;> first | ((with_reducible show Pu _ _); (with_reducible assumption)) | ((with_reducible show IntL _ _); (repeat apply IntL.s); exact IntL.z) | omega | skip) | with_reducible first | apply ru_purse | apply ru_deep | apply ru_wrong)
theorem law_math (ns : List Int) (h1 : ns.length ≤ 63) : ∃ σ', d_law ⟨some (.frz (.lst (ns.map PV.int))) :: List.replicate (N_law.length - 1) none, []⟩ = .ok (.rt (.val (.bl true))) σ' := by
  have main : WP (d_law ⟨[some (.frz (.lst (ns.map PV.int))), none, none, none, none, none, none, none, none, none], []⟩) (fun f _ => f = .rt (.val (.bl true))) noX := by
    unfold d_law
    generalize hsc : ns.map PV.int = sc
    have hall : ∀ p ∈ cutP sc none (some 4) ++ [PV.int 0], ∃ j : Int, p = .int j := by
      intro p hp
      rcases List.mem_append.mp hp with hp | hp
      · rw [← hsc] at hp
        obtain ⟨j, _, rfl⟩ := List.mem_map.mp (cutP_mem hp)
        exact ⟨j, rfl⟩
      · exact ⟨0, by simpa using hp⟩
    have hlen : (cutP sc none (some 4)).length ≤ 63 := by
      have := cutP_len (xs := sc) (lo := none) (hi := some 4)
      rw [← hsc, List.length_map] at this
      rw [← hsc]
      omega
    repeat' fail "s"
    all_goals try (simp only [List.length_cons, List.length_nil]; unfold szL; omega)
    refine lp_for (fun k σ => ∃ z1 z2 z3 z4 z5 z6 z7 z8 z9, (k = 0 ∨ z6 = some (.frz (.lst goodL))) ∧ σ = ⟨[some (.frz (.lst sc)), z1, z2, z3, z4, z5, z6, z7, z8, z9], []⟩) ?_ ?_ ⟨_, _, _, _, _, _, _, _, _, .inl rfl, rfl⟩
    · rintro k x σ hx ⟨z1, z2, z3, z4, z5, z6, z7, z8, z9, _, rfl⟩
      obtain ⟨j, rfl⟩ := hall x (List.mem_of_getElem? hx)
      repeat' fail "s"
      all_goals first
        | assumption
        | exact rows_len _ _
        | skip
      rename_i s0 hp s' i r hi h0 r1
      clear hp hlen hall hsc h1
      refine lp_for (fun m σ => ∃ y3 y4 y5, (m = 0 ∨ ∃ v3 v4 v5, y3 = some (.frz v3) ∧ y4 = some (.frz v4) ∧ y5 = some (.frz v5)) ∧ σ = ⟨[some (.frz (.lst sc)), some (.frz (.int j)), some (.own (Sr s')), y3, y4, y5, z6, z7, z8, z9], []⟩) ?_ ?_ ⟨_, _, _, .inl rfl, rfl⟩
      · rintro m x σ hx ⟨y3, y4, y5, _, rfl⟩
        have hm := row_mem (List.mem_of_getElem? hx)
        clear hx
        refine wp_nxP (a0 := some (.frz (.lst sc))) (a1 := some (.frz (.int j))) (a2 := some (.own (Sr s'))) (a6 := z6) (a7 := z7) (a8 := z8) (a9 := z9) ?_ fun y3 y4 y5 => ⟨_, _, _, .inr ⟨y3, y4, y5, rfl, rfl, rfl⟩, rfl⟩
        rcases hm with rfl | rfl | rfl | ⟨k, hk, rfl⟩
        · rcases six h0 r1 with rfl | rfl | rfl | rfl | rfl | rfl <;> rcases thirteen hi with rfl | rfl | rfl | rfl | rfl | rfl | rfl | rfl | rfl | rfl | rfl | rfl | rfl <;> kernel_rfl
        · rcases six h0 r1 with rfl | rfl | rfl | rfl | rfl | rfl <;> rcases thirteen hi with rfl | rfl | rfl | rfl | rfl | rfl | rfl | rfl | rfl | rfl | rfl | rfl | rfl <;> kernel_rfl
        · rcases six h0 r1 with rfl | rfl | rfl | rfl | rfl | rfl <;> kernel_rfl
        · rcases ten hk with rfl | rfl | rfl | rfl | rfl | rfl | rfl | rfl | rfl | rfl <;> kernel_rfl
      · rintro σ ⟨y3, y4, y5, hy, rfl⟩
        have hy : ∃ v3 v4 v5, y3 = some (.frz v3) ∧ y4 = some (.frz v4) ∧ y5 = some (.frz v5) := by
          rcases hy with hy | hy
          · unfold rowsOf hd8 at hy
            simp at hy
          · exact hy
        obtain ⟨v3, v4, v5, rfl, rfl, rfl⟩ := hy
        exact k_snx (wp_nxO (a := some (.frz (.lst sc))) (b := some (.frz (.lst goodL))) (by kernel_rfl) fun y1 y2 y3 y4 y5 y7 y8 y9 => ⟨_, _, _, _, _, _, _, _, _, .inr rfl, rfl⟩)
    · rintro σ ⟨z1, z2, z3, z4, z5, z6, z7, z8, z9, h6, rfl⟩
      have h6 : z6 = some (.frz (.lst goodL)) := by
        rcases h6 with h6 | h6
        · simp at h6
        · exact h6
      subst h6
      exact wp_okB (by kernel_rfl) fun _ => rfl
  exact main.fin

end Kx
open PySem PySem.W PyProof.Rows
set_option maxHeartbeats 0 in
theorem PySem.Challenge.cw_closecells_k08_what_hulls_refuse_holds : PySem.Challenge.rw_closecells_k08_what_hulls_refuse.Holds := by
  w_on; o_law; k_head; (case hw => w_witness2)
  k_fill
  refine LamX.walk_ofTs (l := PySem.Challenge.rw_closecells_k08_what_hulls_refuse) (n := 63) (k := 8) (x := "_law_script") (CX := fun w => L2.CX PySem.Challenge.pw_closecells_k08_what_hulls_refuse w) rfl (by decide) rfl ⟨rfl, by decide, by decide⟩ (fun w h Y => PySem.W.km_in_of Y) ?F (fun w H s e s' h => L2.Zz.cx_false h)
  case F =>
    intro w mg fa h Y KX G hmg
    refine' Kx.all_mk (l := PySem.Challenge.rw_closecells_k08_what_hulls_refuse) KX G hmg (PySem.W.km_tabs_of Y) (fun ns h1 h2 => Kx.law_math ns h1) ?l_turn ?c_turn ?k_turn ?l_chain_of ?c_chain_of ?k_chain_of ?l_border_of ?c_border_of ?k_border_of ?l_is_integer ?c_is_integer ?k_is_integer ?l_is_between ?c_is_between ?k_is_between ?l_is_site ?c_is_site ?k_is_site ?l_check_sites ?c_check_sites ?k_check_sites ?l_border ?c_border ?k_border ?l_double_hull ?c_double_hull ?k_double_hull ?l_is_flat ?c_is_flat ?k_is_flat ?l_corners_of ?c_corners_of ?k_corners_of ?l_hull ?c_hull ?k_hull ?l_layers ?c_layers ?k_layers ?l_extreme ?c_extreme ?k_extreme ?l_check_member ?c_check_member ?k_check_member ?l_layer_of ?c_layer_of ?k_layer_of ?l_check_site ?c_check_site ?k_check_site ?l_seen_of ?c_seen_of ?k_seen_of ?l_seen_sides ?c_seen_sides ?k_seen_sides ?l_common ?c_common ?k_common ?l_is_place ?c_is_place ?k_is_place ?l_check_place ?c_check_place ?k_check_place ?l_lean_of ?c_lean_of ?k_lean_of ?l_on_row ?c_on_row ?k_on_row ?l_sign ?c_sign ?k_sign ?l_where ?c_where ?k_where ?l_sides_of ?c_sides_of ?k_sides_of ?l_Subdivision_pairs_joined ?c_Subdivision_pairs_joined ?k_Subdivision_pairs_joined ?l_power ?c_power ?k_power ?l_inside ?c_inside ?k_inside ?l_turned_left ?c_turned_left ?k_turned_left ?l_face_left ?c_face_left ?k_face_left ?l_faces_of ?c_faces_of ?k_faces_of ?l_Subdivision_init ?c_Subdivision_init ?k_Subdivision_init ?l_law_deep ?c_law_deep ?k_law_deep ?l_law_purse ?c_law_purse ?k_law_purse ?l_law_said ?c_law_said ?k_law_said ?l_Desk_init ?c_Desk_init ?k_Desk_init ?l_law_coin ?c_law_coin ?k_law_coin ?l_law_pick ?c_law_pick ?k_law_pick ?l_law_wrong ?c_law_wrong ?k_law_wrong ?l_law ?cd_law ?k_law ?tb_law ?tp_law ?ch_law ?nl_law ?a_CellError ?D1_CellError ?D2_CellError ?D3_CellError ?a_InvalidSites ?i_InvalidSites ?E1_InvalidSites ?E2_InvalidSites ?E3_InvalidSites ?E4_InvalidSites ?E5_InvalidSites ?l_init_InvalidSites ?c_init_InvalidSites ?k_init_InvalidSites ?t_InvalidSites ?n_InvalidSites ?a_InvalidBound ?i_InvalidBound ?E1_InvalidBound ?E2_InvalidBound ?E3_InvalidBound ?E4_InvalidBound ?E5_InvalidBound ?l_init_InvalidBound ?c_init_InvalidBound ?k_init_InvalidBound ?t_InvalidBound ?n_InvalidBound ?m_InvalidBound_InvalidBound ?m_InvalidBound_InvalidSites ?e_InvalidBound ?k_InvalidBound_CellError ?q_InvalidBound ?m_InvalidSites_InvalidBound ?m_InvalidSites_InvalidSites ?e_InvalidSites ?k_InvalidSites_CellError ?q_InvalidSites ?a_Desk ?cl_Desk ?a_Subdivision ?cl_Subdivision ?i_Subdivision_pairs_joined ?i_Subdivision_init ?i_Desk_init ?is_Desk ?is_Subdivision ?mk_Subdivision ?me_Subdivision_pairs_joined ?na_Subdivision_joined ?na_Subdivision_is_row ?na_Subdivision_polygons ?na_Subdivision_border ?na_Subdivision_kept ?mk_Desk ?na_Desk_last_change ?na_Desk_shown ?na_Desk_later ?na_Desk_past ?na_Desk_present ?a_law ?a_hull ?a_border ?a_double_hull ?a_layers ?a_border_of ?a_check_sites ?a_chain_of ?a_turn ?a_is_site ?a_is_between ?a_is_integer ?a_corners_of ?a_is_flat ?a_layer_of ?a_seen_sides ?a_extreme ?a_where ?a_check_member ?a_seen_of ?a_check_site ?a_sign ?a_lean_of ?a_on_row ?a_check_place ?a_is_place ?a_common ?a__law_said ?a__law_deep ?a__law_wrong ?a__law_purse ?a_faces_of ?a_sides_of ?a_face_left ?a_turned_left ?a_inside ?a_power ?a__law_coin ?a__law_pick ?z_sorted ?z_list ?z_len ?z_enumerate ?z_isinstance ?z_all ?z_tuple ?z_bool ?z_int ?z_range ?z_sum ?z_dict ?z_max ?z_min ?z_abs ?z_zip ?v_MOST_SITES ?v_MOST_COORDINATE ?v_MOST_DIRECTION ?v_MOST_PLACE ?nd_T ?mt_T
    (case a_CellError => k_is); (case a_InvalidSites => k_is); (case a_InvalidBound => k_is); (case a_Desk => k_is); (case a_Subdivision => k_is); (case a_law => k_is); (case a_hull => k_is); (case a_border => k_is); (case a_double_hull => k_is); (case a_layers => k_is); (case a_border_of => k_is); (case a_check_sites => k_is); (case a_chain_of => k_is); (case a_turn => k_is); (case a_is_site => k_is); (case a_is_between => k_is); (case a_is_integer => k_is); (case a_corners_of => k_is); (case a_is_flat => k_is); (case a_layer_of => k_is); (case a_seen_sides => k_is); (case a_extreme => k_is); (case a_where => k_is); (case a_check_member => k_is); (case a_seen_of => k_is); (case a_check_site => k_is); (case a_sign => k_is); (case a_lean_of => k_is); (case a_on_row => k_is); (case a_check_place => k_is); (case a_is_place => k_is); (case a_common => k_is); (case a__law_said => k_is); (case a__law_deep => k_is); (case a__law_wrong => k_is); (case a__law_purse => k_is); (case a_faces_of => k_is); (case a_sides_of => k_is); (case a_face_left => k_is); (case a_turned_left => k_is); (case a_inside => k_is); (case a_power => k_is); (case a__law_coin => k_is); (case a__law_pick => k_is); (case i_InvalidSites => k_is); (case i_InvalidBound => k_is); (case i_Subdivision_pairs_joined => k_is); (case i_Subdivision_init => k_is); (case i_Desk_init => k_is); (case l_turn => k_is); (case c_turn => k_is); (case l_chain_of => k_is); (case c_chain_of => k_is); (case l_border_of => k_is); (case c_border_of => k_is); (case l_is_integer => k_is); (case c_is_integer => k_is); (case l_is_between => k_is); (case c_is_between => k_is); (case l_is_site => k_is); (case c_is_site => k_is); (case l_check_sites => k_is); (case c_check_sites => k_is); (case l_border => k_is); (case c_border => k_is); (case l_double_hull => k_is); (case c_double_hull => k_is); (case l_is_flat => k_is); (case c_is_flat => k_is); (case l_corners_of => k_is); (case c_corners_of => k_is); (case l_hull => k_is); (case c_hull => k_is); (case l_layers => k_is); (case c_layers => k_is); (case l_extreme => k_is); (case c_extreme => k_is); (case l_check_member => k_is); (case c_check_member => k_is); (case l_layer_of => k_is); (case c_layer_of => k_is); (case l_check_site => k_is); (case c_check_site => k_is); (case l_seen_of => k_is); (case c_seen_of => k_is); (case l_seen_sides => k_is); (case c_seen_sides => k_is); (case l_common => k_is); (case c_common => k_is); (case l_is_place => k_is); (case c_is_place => k_is); (case l_check_place => k_is); (case c_check_place => k_is); (case l_lean_of => k_is); (case c_lean_of => k_is); (case l_on_row => k_is); (case c_on_row => k_is); (case l_sign => k_is); (case c_sign => k_is); (case l_where => k_is); (case c_where => k_is); (case l_sides_of => k_is); (case c_sides_of => k_is); (case l_Subdivision_pairs_joined => k_is); (case c_Subdivision_pairs_joined => k_is); (case l_power => k_is); (case c_power => k_is); (case l_inside => k_is); (case c_inside => k_is); (case l_turned_left => k_is); (case c_turned_left => k_is); (case l_face_left => k_is); (case c_face_left => k_is); (case l_faces_of => k_is); (case c_faces_of => k_is); (case l_Subdivision_init => k_is); (case c_Subdivision_init => k_is); (case l_law_deep => k_is); (case c_law_deep => k_is); (case l_law_purse => k_is); (case c_law_purse => k_is); (case l_law_said => k_is); (case c_law_said => k_is); (case l_Desk_init => k_is); (case c_Desk_init => k_is); (case l_law_coin => k_is); (case c_law_coin => k_is); (case l_law_pick => k_is); (case c_law_pick => k_is); (case l_law_wrong => k_is); (case c_law_wrong => k_is); (case l_law => k_is); (case cd_law => k_is); (case D1_CellError => k_is); (case D2_CellError => k_is); (case D3_CellError => k_is); (case E1_InvalidSites => k_is); (case E2_InvalidSites => k_is); (case E3_InvalidSites => k_is); (case E4_InvalidSites => k_is); (case E5_InvalidSites => k_is); (case l_init_InvalidSites => k_is); (case c_init_InvalidSites => k_is); (case t_InvalidSites => k_is); (case n_InvalidSites => k_is); (case E1_InvalidBound => k_is); (case E2_InvalidBound => k_is); (case E3_InvalidBound => k_is); (case E4_InvalidBound => k_is); (case E5_InvalidBound => k_is); (case l_init_InvalidBound => k_is); (case c_init_InvalidBound => k_is); (case t_InvalidBound => k_is); (case n_InvalidBound => k_is); (case cl_Desk => kernel_rfl); (case cl_Subdivision => kernel_rfl); (case is_Desk => kernel_rfl); (case is_Subdivision => kernel_rfl); (case mk_Subdivision => kernel_rfl); (case me_Subdivision_pairs_joined => kernel_rfl); (case na_Subdivision_joined => kernel_rfl); (case na_Subdivision_is_row => kernel_rfl); (case na_Subdivision_polygons => kernel_rfl); (case na_Subdivision_border => kernel_rfl); (case na_Subdivision_kept => kernel_rfl); (case mk_Desk => kernel_rfl); (case na_Desk_last_change => kernel_rfl); (case na_Desk_shown => kernel_rfl); (case na_Desk_later => kernel_rfl); (case na_Desk_past => kernel_rfl); (case na_Desk_present => kernel_rfl); (case z_sorted => k_is); (case z_list => k_is); (case z_len => k_is); (case z_enumerate => k_is); (case z_isinstance => k_is); (case z_all => k_is); (case z_tuple => k_is); (case z_bool => k_is); (case z_int => k_is); (case z_range => k_is); (case z_sum => k_is); (case z_dict => k_is); (case z_max => k_is); (case z_min => k_is); (case z_abs => k_is); (case z_zip => k_is); (case v_MOST_SITES => k_is); (case v_MOST_COORDINATE => k_is); (case v_MOST_DIRECTION => k_is); (case v_MOST_PLACE => k_is); (case k_turn => k_is); (case k_chain_of => k_is); (case k_border_of => k_is); (case k_is_integer => k_is); (case k_is_between => k_is); (case k_is_site => k_is); (case k_check_sites => k_is); (case k_border => k_is); (case k_double_hull => k_is); (case k_is_flat => k_is); (case k_corners_of => k_is); (case k_hull => k_is); (case k_layers => k_is); (case k_extreme => k_is); (case k_check_member => k_is); (case k_layer_of => k_is); (case k_check_site => k_is); (case k_seen_of => k_is); (case k_seen_sides => k_is); (case k_common => k_is); (case k_is_place => k_is); (case k_check_place => k_is); (case k_lean_of => k_is); (case k_on_row => k_is); (case k_sign => k_is); (case k_where => k_is); (case k_sides_of => k_is); (case k_Subdivision_pairs_joined => k_is); (case k_power => k_is); (case k_inside => k_is); (case k_turned_left => k_is); (case k_face_left => k_is); (case k_faces_of => k_is); (case k_Subdivision_init => k_is); (case k_law_deep => k_is); (case k_law_purse => k_is); (case k_law_said => k_is); (case k_Desk_init => k_is); (case k_law_coin => k_is); (case k_law_pick => k_is); (case k_law_wrong => k_is); (case k_law => k_is); (case tb_law => k_is); (case k_init_InvalidSites => k_is); (case k_init_InvalidBound => k_is); (case m_InvalidBound_InvalidBound => kernel_rfl); (case m_InvalidBound_InvalidSites => kernel_rfl); (case e_InvalidBound => kernel_rfl); (case k_InvalidBound_CellError => kernel_rfl); (case q_InvalidBound => kernel_rfl); (case m_InvalidSites_InvalidBound => kernel_rfl); (case m_InvalidSites_InvalidSites => kernel_rfl); (case e_InvalidSites => kernel_rfl); (case k_InvalidSites_CellError => kernel_rfl); (case q_InvalidSites => kernel_rfl); (case tp_law => exact rfl); (case ch_law => kernel_rfl); (case nl_law => kernel_rfl); (case nd_T => decide); (case mt_T => decide)

