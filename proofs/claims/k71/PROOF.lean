import PyProof.Rows.All
import Wide.All
import OpenK.AllK
import Wide.FinOn
import PyProof.EqAt
import PyProof.EqKinds
import PyProof.TupleCall
import HandS.ForMost
import HandS.ForExc
import HandS.CallSlots
import KE.KDictKeyed
import HandS.Deep
import HandS.IsInst
import HandS.Wide
import HandS.Style
import HandS.TupAny
import HandS.Defaults
import HandS.EndBits
import HandS.Flt
import PySem.Challenge.RW_closecells_k71_whole_far_shapes
set_option Elab.async false
set_option linter.all false
set_option maxRecDepth 100000
set_option maxHeartbeats 0
/-! Z1: pure values, how they lie in the heap, the state. -/
namespace L2.Zz
open PySem PySem.Spec PyProof.Rows

/-- values without addresses; lists, dicts and instances by what they hold -/
inductive PV where
  | non | bl (b : Bool) | int (i : Int) | str (x : Str)
  | tup (xs : List PV) | lst (xs : List PV) | dct (ks vs : List PV)
  | fn (x : Str) | ty (n : String) | ins (x : Str) (ns : List Str) (vs : List PV)

structure Cn where
  P : Program
  w : World
  K : PySem.W.Frag
  mg : Str → Option Value
abbrev cn (X : Cx) : Cn := ⟨X.prog, X.w, X.K, X.mg⟩

mutual
def keyOf : PV → NestedKey
  | .int i => .num i
  | .bl b => .num (if b then 1 else 0)
  | .str x => .text x
  | .tup xs => .tup (keysOf xs)
  | _ => .none
def keysOf : List PV → List NestedKey
  | [] => []
  | x :: xs => keyOf x :: keysOf xs
end


mutual
def kN : PV → Bool
  | .non => true
  | .int _ => true
  | .bl _ => true
  | .str _ => true
  | .tup xs => kNs xs
  | _ => false
def kNs : List PV → Bool
  | [] => true
  | x :: xs => kN x && kNs xs
end
def kOk (p : PV) : Bool := match p with
  | .tup xs => kNs xs && decide ((NestedKey.tup (keysOf xs)).depth ≤ 8)
  | _ => false
def KsOk (xs : List (NestedKey × Addr × Value)) (ks : List PV) : Prop := xs.map (·.1) = keysOf ks ∧ ∀ k ∈ ks, kOk k = true

/-- a list that stands still at a -/
def FrL (c : Cn) (F : Addr → Prop) (H : Hp) (a : Addr) (us : List V) : Prop :=
  (F a ∧ Rd H a (.lst us)) ∨
    ∃ (o : Obj) (its : Array Value) (n : Nat), c.K.lookup a = some o ∧ o.cls = .type "list" ∧ o.dict = none ∧ o.data = .seq its n ∧ its.size ≤ sizeLine ∧ Vals us its.toList
/-- a dict of tuple keys at a, by its entries -/
def DcA (c : Cn) (H : Hp) (a : Addr) (xs : List (NestedKey × Addr × Value)) : Prop :=
  (a == sysModules) = false ∧ (xs.map (·.1)).Nodup ∧ xs.length ≤ sizeLine ∧ ∃ (ob : Obj) (es : Array DictEntry) (ep : Nat),
    H a = some (.ext fun h => h.get? a = some ob) ∧ ob.ExactDict ∧ ob.data = .dict es ep ∧ es.toList = xs.map (entryOfKey (nestedKind c.P c.w))

mutual
def RF (c : Cn) (F : Addr → Prop) (H : Hp) : PV → V → Prop
  | .non, v => v = .non
  | .bl b, v => v = .bl b
  | .int i, v => v = .int i
  | .str x, v => v = .str x
  | .tup xs, v => ∃ a us, v = .ref a ∧ SqT c.K H a us ∧ RFs c F H xs us
  | .lst xs, v => ∃ a us, v = .ref a ∧ FrL c F H a us ∧ RFs c F H xs us
  | .dct ks vs, v => ∃ a xs us, v = .ref a ∧ F a ∧ DcA c H a xs ∧ KsOk xs ks ∧ RFs c F H ks (xs.map fun x => V.ref x.2.1) ∧ RFs c F H vs us ∧ Vals us (xs.map (·.2.2))
  | .fn x, v => ∃ a, v = .ref a ∧ c.mg x = some (.ref a)
  | .ty n, v => v = .ty n
  | .ins x ns vs, v => ∃ a C dx us, v = .ref a ∧ F a ∧ c.mg x = some (.ref C) ∧ H a = some (.ins C dx (ns.zip us)) ∧ ns.length = us.length ∧ RFs c F H vs us
def RFs (c : Cn) (F : Addr → Prop) (H : Hp) : List PV → List V → Prop
  | [], us => us = []
  | x :: xs, us => ∃ u r, us = u :: r ∧ RF c F H x u ∧ RFs c F H xs r
end

/-- what stands at an address that may be written -/
def RO (c : Cn) (F : Addr → Prop) (H : Hp) : PV → Addr → Prop
  | .lst xs, a => ∃ us, H a = some (.lst us) ∧ RFs c F H xs us
  | .dct ks vs, a => ∃ xs us, DcA c H a xs ∧ KsOk xs ks ∧ RFs c F H ks (xs.map fun x => V.ref x.2.1) ∧ RFs c F H vs us ∧ Vals us (xs.map (·.2.2))
  | .ins x ns vs, a => ∃ C dx us, c.mg x = some (.ref C) ∧ H a = some (.ins C dx (ns.zip us)) ∧ ns.length = us.length ∧ RFs c F H vs us
  | _, _ => False

/-- an object that never changes by itself -/
def Stl : HO → Prop
  | .tup _ => True
  | .frz _ _ => True
  | _ => False

section
variable {c : Cn} {F F' : Addr → Prop} {H H' : Hp}

theorem SqT.ext {K : PySem.W.Frag} {a : Addr} {us : List V} (h : SqT K H a us) (k : ∀ a o, H a = some o → Stl o → H' a = some o) : SqT K H' a us := by
  rcases h with (h | ⟨o, h⟩) | h
  · exact .inl (.inl (k _ _ h trivial))
  · exact .inl (.inr ⟨o, k _ _ h trivial⟩)
  · exact .inr h
theorem FrL.ext {a : Addr} {us : List V} (h : FrL c F H a us) (hF : ∀ a, F a → F' a) (k : ∀ a o, H a = some o → (F a ∨ Stl o) → H' a = some o) : FrL c F' H' a us := by
  rcases h with ⟨f, h | ⟨o, h⟩⟩ | h
  · exact .inl ⟨hF _ f, .inl (k _ _ h (.inl f))⟩
  · exact .inl ⟨hF _ f, .inr ⟨o, k _ _ h (.inl f)⟩⟩
  · exact .inr h
theorem DcA.ext {a : Addr} {xs : List (NestedKey × Addr × Value)} (h : DcA c H a xs) (k : ∀ o, H a = some o → H' a = some o) : DcA c H' a xs :=
  let ⟨h1, h2, h3, ob, es, ep, e, r⟩ := h; ⟨h1, h2, h3, ob, es, ep, k _ e, r⟩
mutual
theorem RF.ext (hF : ∀ a, F a → F' a) (k : ∀ a o, H a = some o → (F a ∨ Stl o) → H' a = some o) : ∀ (p : PV) (v : V), RF c F H p v → RF c F' H' p v
  | .non, _, h => h
  | .bl _, _, h => h
  | .int _, _, h => h
  | .str _, _, h => h
  | .tup xs, _, h => by
    unfold RF at h ⊢
    obtain ⟨a, us, e, h1, h2⟩ := h
    exact ⟨a, us, e, SqT.ext h1 fun a o e s => k a o e (.inr s), RFs.ext hF k xs us h2⟩
  | .lst xs, _, h => by
    unfold RF at h ⊢
    obtain ⟨a, us, e, h1, h2⟩ := h
    exact ⟨a, us, e, FrL.ext h1 hF k, RFs.ext hF k xs us h2⟩
  | .dct ks vs, _, h => by
    unfold RF at h ⊢
    obtain ⟨a, xs, us, e, f, d, kk, r1, r2, r3⟩ := h
    exact ⟨a, xs, us, e, hF _ f, d.ext fun o q => k _ _ q (.inl f), kk, RFs.ext hF k ks _ r1, RFs.ext hF k vs us r2, r3⟩
  | .fn _, _, h => h
  | .ty _, _, h => h
  | .ins x ns vs, _, h => by
    unfold RF at h ⊢
    obtain ⟨a, C, dx, us, e, f, m, h1, l, r⟩ := h
    exact ⟨a, C, dx, us, e, hF _ f, m, k _ _ h1 (.inl f), l, RFs.ext hF k vs us r⟩
theorem RFs.ext (hF : ∀ a, F a → F' a) (k : ∀ a o, H a = some o → (F a ∨ Stl o) → H' a = some o) : ∀ (ps : List PV) (us : List V), RFs c F H ps us → RFs c F' H' ps us
  | [], _, h => h
  | x :: xs, _, h => by
    unfold RFs at h ⊢
    obtain ⟨u, r, e, h1, h2⟩ := h
    exact ⟨u, r, e, RF.ext hF k x u h1, RFs.ext hF k xs r h2⟩
end
theorem RO.ext (hF : ∀ a, F a → F' a) (k : ∀ a o, H a = some o → (F a ∨ Stl o) → H' a = some o) {p : PV} {a : Addr} (ka : ∀ o, H a = some o → H' a = some o) (h : RO c F H p a) : RO c F' H' p a := by
  cases p with
  | lst xs => obtain ⟨us, e, r⟩ := h; exact ⟨us, ka _ e, RFs.ext hF k _ _ r⟩
  | dct ks vs =>
    obtain ⟨xs, us, d, kk, r1, r2, r3⟩ := h
    exact ⟨xs, us, d.ext ka, kk, RFs.ext hF k _ _ r1, RFs.ext hF k _ _ r2, r3⟩
  | ins x ns vs => obtain ⟨C, dx, us, m, e, l, r⟩ := h; exact ⟨C, dx, us, m, ka _ e, l, RFs.ext hF k _ _ r⟩
  | _ => exact h
theorem RO.there {p : PV} {a : Addr} (h : RO c F H p a) : ∃ o, H a = some o ∧ ¬ Stl o := by
  cases p with
  | lst xs => obtain ⟨us, e, r⟩ := h; exact ⟨_, e, fun z => z⟩
  | dct ks vs => obtain ⟨xs, us, ⟨_, _, _, ob, es, ep, e, _⟩, _⟩ := h; exact ⟨_, e, fun z => z⟩
  | ins x ns vs => obtain ⟨C, dx, us, m, e, l, r⟩ := h; exact ⟨_, e, fun z => z⟩
  | _ => exact h.elim
theorem RFs.length : ∀ {ps : List PV} {us : List V}, RFs c F H ps us → ps.length = us.length
  | [], _, h => by unfold RFs at h; subst h; rfl
  | x :: xs, _, h => by
    unfold RFs at h
    obtain ⟨u, r, rfl, _, h2⟩ := h
    simp [RFs.length h2]
theorem RFs.nil_ : RFs c F H [] [] := by unfold RFs; rfl
theorem RFs.cons_ {p : PV} {v : V} {ps : List PV} {us : List V} (h : RF c F H p v) (r : RFs c F H ps us) : RFs c F H (p :: ps) (v :: us) := by
  rw [RFs]; exact ⟨v, us, rfl, h, r⟩
theorem RFs.get : ∀ {ps : List PV} {us : List V} {i : Nat} {p : PV}, RFs c F H ps us → ps[i]? = some p → ∃ u, us[i]? = some u ∧ RF c F H p u
  | [], _, _, _, _, e => by simp at e
  | x :: xs, _, 0, p, h, e => by
    unfold RFs at h
    obtain ⟨u, r, rfl, h1, h2⟩ := h
    simp at e; subst e
    exact ⟨u, rfl, h1⟩
  | x :: xs, _, i + 1, p, h, e => by
    unfold RFs at h
    obtain ⟨u, r, rfl, h1, h2⟩ := h
    obtain ⟨w, e2, h3⟩ := RFs.get (i := i) h2 (by simpa using e)
    exact ⟨w, by simpa using e2, h3⟩
theorem RFs.getR : ∀ {ps : List PV} {us : List V} {i : Nat} {u : V}, RFs c F H ps us → us[i]? = some u → ∃ p, ps[i]? = some p ∧ RF c F H p u
  | [], _, _, _, h, e => by unfold RFs at h; subst h; simp at e
  | x :: xs, _, 0, p, h, e => by
    unfold RFs at h
    obtain ⟨u, r, rfl, h1, h2⟩ := h
    simp at e; subst e
    exact ⟨x, rfl, h1⟩
  | x :: xs, _, i + 1, p, h, e => by
    unfold RFs at h
    obtain ⟨u, r, rfl, h1, h2⟩ := h
    obtain ⟨w, e2, h3⟩ := RFs.getR (i := i) h2 (by simpa using e)
    exact ⟨w, by simpa using e2, h3⟩
theorem RFs.append : ∀ {ps qs : List PV} {us ws : List V}, RFs c F H ps us → RFs c F H qs ws → RFs c F H (ps ++ qs) (us ++ ws)
  | [], _, _, _, h, g => by unfold RFs at h; subst h; simpa using g
  | x :: xs, _, _, _, h, g => by
    unfold RFs at h
    obtain ⟨u, r, rfl, h1, h2⟩ := h
    exact RFs.cons_ h1 (RFs.append h2 g)
theorem RFs.set : ∀ {ps : List PV} {us : List V} (i : Nat) {p : PV} {u : V}, RFs c F H ps us → RF c F H p u → RFs c F H (ps.set i p) (us.set i u)
  | [], _, _, _, _, h, _ => by unfold RFs at h; subst h; simpa using RFs.nil_
  | x :: xs, _, 0, _, _, h, g => by
    unfold RFs at h
    obtain ⟨u, r, rfl, h1, h2⟩ := h
    exact RFs.cons_ g h2
  | x :: xs, _, i + 1, _, _, h, g => by
    unfold RFs at h
    obtain ⟨u, r, rfl, h1, h2⟩ := h
    exact RFs.cons_ h1 (RFs.set i h2 g)
theorem RFs.take : ∀ {ps : List PV} {us : List V} (n : Nat), RFs c F H ps us → RFs c F H (ps.take n) (us.take n)
  | _, _, 0, _ => by simpa using RFs.nil_
  | [], _, _ + 1, h => by unfold RFs at h; subst h; simpa using RFs.nil_
  | x :: xs, _, n + 1, h => by
    unfold RFs at h
    obtain ⟨u, r, rfl, h1, h2⟩ := h
    exact RFs.cons_ h1 (RFs.take n h2)
theorem RFs.drop : ∀ {ps : List PV} {us : List V} (n : Nat), RFs c F H ps us → RFs c F H (ps.drop n) (us.drop n)
  | _, _, 0, h => h
  | [], _, _ + 1, h => by unfold RFs at h; subst h; simpa using RFs.nil_
  | x :: xs, _, n + 1, h => by
    unfold RFs at h
    obtain ⟨u, r, rfl, h1, h2⟩ := h
    exact RFs.drop n h2
theorem RFs.reverse : ∀ {ps : List PV} {us : List V}, RFs c F H ps us → RFs c F H ps.reverse us.reverse
  | [], _, h => by unfold RFs at h; subst h; simpa using RFs.nil_
  | x :: xs, _, h => by
    unfold RFs at h
    obtain ⟨u, r, rfl, h1, h2⟩ := h
    rw [List.reverse_cons, List.reverse_cons]
    exact RFs.append (RFs.reverse h2) (RFs.cons_ h1 RFs.nil_)
theorem RFs.ints : ∀ (ns : List Int), RFs c F H (ns.map PV.int) (ns.map V.int)
  | [] => RFs.nil_
  | n :: ns => RFs.cons_ (by unfold RF; rfl) (RFs.ints ns)
end
end L2.Zz

/-! Z2: the state, its steps, readings by values. -/
namespace L2.Zz
open PySem PySem.Spec PyProof.Rows

/-- a slot: whether what it holds may still be written, what it holds -/
inductive Sl where
  | own (v : PV)
  | frz (v : PV)
  | lo (k : Nat)
/-- the slots, the loans (lists of the caller's that are written in place) -/
structure PSt where
  sl : List (Option Sl)
  ln : List PV
/-- an exception: its class, what it holds -/
structure Exn where
  cls : Str
  ns : List Str
  vs : List PV
inductive Rs (α : Type) where
  | ok (a : α) (s : PSt)
  | ex (e : Exn) (s : PSt)
  | no
def Rs.bind {α β : Type} (o : Rs α) (k : α → PSt → Rs β) : Rs β := match o with
  | .ok a s => k a s
  | .ex e s => .ex e s
  | .no => .no
/-- an expression's value: by itself (own: new, still to be written), or what stands in a slot -/
inductive EVal where
  | val (v : PV)
  | new (v : PV)
  | at (i : Nat)
  | lo (k : Nat)
abbrev DE := PSt → Rs EVal

/-- what may be written by its slot -/
def Ow (σ : PSt) (σr : St) (la : List Addr) (a : Addr) : Prop := a ∈ la ∨ ∃ (i : Nat) (v : PV), σ.sl[i]? = some (some (.own v)) ∧ σr[i]? = some (some (V.ref a))

structure SR (c : Cn) (F : Addr → Prop) (la : List Addr) (σ : PSt) (σr : St) (H : Hp) : Prop where
  len : σ.sl.length = σr.length
  frz : ∀ (i : Nat) (v : PV), σ.sl[i]? = some (some (.frz v)) → ∃ u : V, σr[i]? = some (some u) ∧ RF c F H v u
  lo : ∀ (i k : Nat), σ.sl[i]? = some (some (.lo k)) → ∃ a : Addr, σr[i]? = some (some (V.ref a)) ∧ la[k]? = some a
  own : ∀ (i : Nat) (v : PV), σ.sl[i]? = some (some (.own v)) → ∃ a : Addr, σr[i]? = some (some (V.ref a)) ∧ RO c F H v a ∧ ¬ F a ∧ a ∉ la
  inj : ∀ (i j : Nat) (v w : PV) (a : Addr), σ.sl[i]? = some (some (.own v)) → σ.sl[j]? = some (some (.own w)) → σr[i]? = some (some (V.ref a)) → σr[j]? = some (some (V.ref a)) → i = j
  lln : la.length = σ.ln.length
  lnd : la.Nodup
  ln : ∀ (k : Nat) (v : PV) (a : Addr), σ.ln[k]? = some v → la[k]? = some a → RO c F H v a ∧ ¬ F a
  ftr : ∀ a, F a → ∃ o, H a = some o

/-- a ghost state: what stands still, the heap, what may be written -/
structure Gh where
  F : Addr → Prop
  H : Hp
  O : Addr → Prop
structure Ex (g g' : Gh) : Prop where
  fr : ∀ a, g.F a → g'.F a
  kp : ∀ a o, g.H a = some o → ¬ g.O a → g'.H a = some o
  ow : ∀ a, g'.O a → g.O a ∨ g.H a = none
  fn : ∀ a, g'.F a → g.F a ∨ g.O a ∨ g.H a = none
theorem Ex.refl (g : Gh) : Ex g g := ⟨fun _ h => h, fun _ _ h _ => h, fun _ h => .inl h, fun _ h => .inl h⟩
/-- new since g, or written by a slot at g -/
def Nw (g : Gh) (a : Addr) : Prop := g.O a ∨ g.H a = none
theorem Ex.back {g g1 : Gh} (x : Ex g g1) {a : Addr} (h : Nw g1 a) : Nw g a := by
  rcases h with h | h
  · exact x.ow a h
  · by_cases ho : g.O a
    · exact .inl ho
    · cases e : g.H a with
      | none => exact .inr e
      | some o => rw [x.kp a o e ho] at h; cases h
theorem Ex.trans {g g1 g2 : Gh} (x : Ex g g1) (y : Ex g1 g2) : Ex g g2 := by
  refine ⟨fun a h => y.fr a (x.fr a h), fun a o h n => y.kp a o (x.kp a o h n) fun z => ?_, fun a h => x.back (y.ow a h), fun a h => ?_⟩
  · rcases x.ow a z with z | z
    · exact n z
    · rw [h] at z; cases z
  · rcases y.fn a h with z | z
    · exact x.fn a z
    · exact .inr (x.back z)

section
variable {c : Cn} {F F' : Addr → Prop} {la : List Addr} {σ σ' : PSt} {σr σr' : St} {H H' : Hp}
theorem SR.ow_there (S : SR c F la σ σr H) {a : Addr} (h : Ow σ σr la a) : (∃ o, H a = some o ∧ ¬ Stl o) ∧ ¬ F a := by
  rcases h with h | ⟨i, v, h1, h2⟩
  · obtain ⟨k, hk, e⟩ := List.mem_iff_getElem.mp h
    have hk' : la[k]? = some a := by rw [List.getElem?_eq_getElem hk, e]
    have hl : k < σ.ln.length := by rw [← S.lln]; exact hk
    obtain ⟨r, n⟩ := S.ln k σ.ln[k] a (List.getElem?_eq_getElem hl) hk'
    exact ⟨r.there, n⟩
  · obtain ⟨b, e, r, n, _⟩ := S.own i v h1
    rw [h2] at e; cases e
    exact ⟨r.there, n⟩
/-- what stands still stays -/
theorem Ex.keep (S : SR c F la σ σr H) {g' : Gh} (x : Ex ⟨F, H, Ow σ σr la⟩ g') : ∀ a o, H a = some o → (F a ∨ Stl o) → g'.H a = some o := fun a o e h => by
  refine x.kp a o e fun z => ?_
  obtain ⟨⟨o', e', n⟩, nf⟩ := S.ow_there z
  rw [e] at e'; cases e'
  rcases h with h | h
  · exact nf h
  · exact n h
/-- an expression's value -/
def ER (c : Cn) (F : Addr → Prop) (la : List Addr) (O N : Addr → Prop) (σr : St) (H : Hp) (r : EVal) (v : V) : Prop := match r with
  | .val p => RF c F H p v
  | .new p => ∃ a, v = .ref a ∧ RO c F H p a ∧ ¬ F a ∧ ¬ O a ∧ N a
  | .at i => σr[i]? = some (some v)
  | .lo k => ∃ a, v = .ref a ∧ la[k]? = some a
theorem ER.ext (S : SR c F la σ σr H) {O' N : Addr → Prop} (x : Ex ⟨F, H, Ow σ σr la⟩ ⟨F', H', O'⟩) {r : EVal} {v : V} (h : ER c F la (Ow σ σr la) N σr H r v) : ER c F' la O' N σr H' r v := by
  have k := Ex.keep S x
  cases r with
  | «at» i => exact h
  | lo j => exact h
  | val p => exact RF.ext x.fr k _ _ h
  | new p =>
    obtain ⟨a, e, r, nf, no, nn⟩ := h
    obtain ⟨o, ho, _⟩ := r.there
    refine ⟨a, e, r.ext x.fr k fun o e => x.kp a o e no, fun z => ?_, fun z => ?_, nn⟩
    · rcases x.fn a z with z | z | z
      · exact nf z
      · exact no z
      · have z' : H a = none := z
        rw [ho] at z'; cases z'
    · rcases x.ow a z with z | z
      · exact no z
      · have z' : H a = none := z
        rw [ho] at z'; cases z'

/-- what an exception holds: nothing, or its dict the fields -/
def XF (c : Cn) (F : Addr → Prop) (H : Hp) (e : Exn) (dd : Option Addr) : Prop := (e.ns = [] ∧ e.vs = [] ∧ dd = none) ∨ ∃ d us, dd = some d ∧ e.ns.length = us.length ∧ RFs c F H e.vs us ∧ H d = some (.xd (e.ns.zip us))
/-- all ends of an outcome are well -/
def Fin {α : Type} (c : Cn) (W : WX) (la : List Addr) (σr : St) (g : Gh) (o : Rs α) (P : α → PSt → (Addr → Prop) → Hp → Prop) : Prop := match o with
  | .ok r σ' => ∀ F' H', Ex g ⟨F', H', Ow σ' σr la⟩ → SR c F' la σ' σr H' → P r σ' F' H'
  | .ex e σ' => ∀ F' H' cls dd, Ex g ⟨F', H', Ow σ' σr la⟩ → SR c F' la σ' σr H' → (∃ C, cls = .ref C ∧ c.mg e.cls = some (.ref C)) → XF c F' H' e dd → W cls dd σr H'
  | .no => False
theorem Fin.step {α : Type} {W : WX} {g g' : Gh} {o : Rs α} {P : α → PSt → (Addr → Prop) → Hp → Prop} (h : Fin c W la σr g o P) (x : Ex g g') : Fin c W la σr g' o P := by
  cases o with
  | ok r σ' => exact fun F' H' y s => h F' H' (x.trans y) s
  | ex e σ' => exact fun F' H' cls dd y s => h F' H' cls dd (x.trans y) s
  | no => exact h
theorem Fin.mono {α : Type} {W : WX} {g : Gh} {o : Rs α} {P P' : α → PSt → (Addr → Prop) → Hp → Prop} (h : Fin c W la σr g o P) (m : ∀ r σ' F' H', Ex g ⟨F', H', Ow σ' σr la⟩ → SR c F' la σ' σr H' → P r σ' F' H' → P' r σ' F' H') : Fin c W la σr g o P' := by
  cases o with
  | ok r σ' => exact fun F' H' y s => m _ _ _ _ y s (h F' H' y s)
  | ex e σ' => exact h
  | no => exact h
/-- one part, then the rest -/
theorem Fin.bind {α β : Type} {W : WX} {g : Gh} {o : Rs α} {k : α → PSt → Rs β} {P : β → PSt → (Addr → Prop) → Hp → Prop} (h : Fin c W la σr g (o.bind k) P) :
    Fin c W la σr g o fun r σ' _ _ => Fin c W la σr g (k r σ') P := by
  cases o with
  | ok r σ' => exact fun F' H' y s => h
  | ex e σ' => exact h
  | no => exact h

abbrev PE0 (c : Cn) (la : List Addr) (σr : St) (g : Gh) (Q : VK) : EVal → PSt → (Addr → Prop) → Hp → Prop := fun r σ' F' H' => ∀ v, ER c F' la (Ow σ' σr la) (Nw g) σr H' r v → Q v H'
/-- the reading of an expression by its denotation -/
def EV (c : Cn) (W : WX) (d : DE) : TE := fun σr H Q => ∃ F la σ, SR c F la σ σr H ∧ Fin c W la σr ⟨F, H, Ow σ σr la⟩ (d σ) (PE0 c la σr ⟨F, H, Ow σ σr la⟩ Q)
abbrev DT := PSt → Rs Bool
def EVT (c : Cn) (W : WX) (d : DT) : TT := fun σr H Q => ∃ F la σ, SR c F la σ σr H ∧ Fin c W la σr ⟨F, H, Ow σ σr la⟩ (d σ) fun b _ _ H' => Q b H'
abbrev DA := PSt → Rs (List EVal)
/-- none of these is new at a -/
def NoNew (a : Addr) (rs : List EVal) (vs : List V) : Prop := ∀ (i : Nat) (p : PV) (v : V), rs[i]? = some (.new p) → vs[i]? = some v → v ≠ V.ref a
inductive ERs (c : Cn) (F : Addr → Prop) (la : List Addr) (O N : Addr → Prop) (σr : St) (H : Hp) : List EVal → List V → Prop
  | nil : ERs c F la O N σr H [] []
  | cons {r v rs vs} : ER c F la O N σr H r v → ERs c F la O N σr H rs vs → (∀ a p, r = .new p → v = V.ref a → NoNew a rs vs) → ERs c F la O N σr H (r :: rs) (v :: vs)
def EVA (c : Cn) (W : WX) (d : DA) : TA := fun σr H Q => ∃ F la σ, SR c F la σ σr H ∧ Fin c W la σr ⟨F, H, Ow σ σr la⟩ (d σ) fun rs σ' F' H' => ∀ vs, ERs c F' la (Ow σ' σr la) (Nw ⟨F, H, Ow σ σr la⟩) σr H' rs vs → Q vs H'
end

theorem PE.wk {X : Cx} {e : Expr} {t t' : TE} (h : PE X e t) (w : ∀ σ H Q, t' σ H Q → t σ H Q) : PE X e t' := ⟨fun pins s σ H Q I q => h.run pins s σ H Q I (w _ _ _ q)⟩
theorem PT.wk {X : Cx} {e : Expr} {t t' : TT} (h : PT X e t) (w : ∀ σ H Q, t' σ H Q → t σ H Q) : PT X e t' := ⟨fun pins s σ H Q I q => h.run pins s σ H Q I (w _ _ _ q)⟩
theorem PW.wk {X : Cx} {e : Expr} {t t' : TT} (h : PW X e t) (w : ∀ σ H Q, t' σ H Q → t σ H Q) : PW X e t' := ⟨fun wh pins s σ H Q I q => h.run wh pins s σ H Q I (w _ _ _ q)⟩
theorem PA.wk {X : Cx} {e : List Expr} {t t' : TA} (h : PA X e t) (w : ∀ σ H Q, t' σ H Q → t σ H Q) : PA X e t' := ⟨fun pos pins s σ H Q I q => h.run pos pins s σ H Q I (w _ _ _ q)⟩
theorem PS.wk {X : Cx} {e : Stmt} {t t' : TS} (h : PS X e t) (w : ∀ D σ H, t' D σ H → t D σ H) : PS X e t' := ⟨fun pins s σ H D I q => h.run pins s σ H D I (w _ _ _ q)⟩
theorem PSs.wk {X : Cx} {e : List Stmt} {t t' : TS} (h : PSs X e t) (w : ∀ D σ H, t' D σ H → t D σ H) : PSs X e t' := ⟨fun pins s σ H D I q => h.run pins s σ H D I (w _ _ _ q)⟩
theorem PI.wk {X : Cx} {tg e : Expr} {t t' : TI} (h : PI X tg e t) (w : ∀ σ H Q, t' σ H Q → t σ H Q) : PI X tg e t' := ⟨fun pins s σ H Q I q => h.run pins s σ H Q I (w _ _ _ q)⟩

section
variable {c : Cn} {W : WX}
theorem ER.weak {F : Addr → Prop} {la : List Addr} {O N N' : Addr → Prop} {σr : St} {H : Hp} {r : EVal} {v : V} (h : ER c F la O N σr H r v) (w : ∀ a, N a → N' a) : ER c F la O N' σr H r v := by
  cases r with
  | new p => obtain ⟨a, e, r, nf, no, nn⟩ := h; exact ⟨a, e, r, nf, no, w a nn⟩
  | _ => exact h
/-- the first part of a reading, and the rest from where it ends: g where the whole began -/
theorem EV.seq {α : Type} {d0 : DE} {k : EVal → PSt → Rs α} {g : Gh} {F : Addr → Prop} {la : List Addr} {σ : PSt} {σr : St} {H : Hp} {R : VK} {P : α → PSt → (Addr → Prop) → Hp → Prop} (S : SR c F la σ σr H) (x : Ex g ⟨F, H, Ow σ σr la⟩) (h : Fin c W la σr g ((d0 σ).bind k) P)
    (hk : ∀ F1 σ1 r v H1, Ex ⟨F, H, Ow σ σr la⟩ ⟨F1, H1, Ow σ1 σr la⟩ → SR c F1 la σ1 σr H1 → ER c F1 la (Ow σ1 σr la) (Nw ⟨F, H, Ow σ σr la⟩) σr H1 r v → Fin c W la σr g (k r σ1) P → R v H1) : EV c W d0 σr H R :=
  ⟨F, la, σ, S, (h.bind.step x).mono fun r σ' F' H' y S' q v e => hk F' σ' r v H' y S' e q⟩
end
end L2.Zz

/-! Z3: reading a value, letting it stand still, operators, arguments, built-in calls. -/
namespace L2.Zz
open PySem PySem.Spec PyProof.Rows

/-- the value as it stands now -/
def rd (σ : PSt) : EVal → Option PV
  | .val v => some v
  | .new v => some v
  | .at i => match σ.sl[i]? with
    | some (some (.own v)) => some v
    | some (some (.frz v)) => some v
    | _ => none
  | .lo k => σ.ln[k]?
def rdAll (σ : PSt) : List EVal → Option (List PV)
  | [] => some []
  | r :: rs => match rd σ r, rdAll σ rs with
    | some p, some ps => some (p :: ps)
    | _, _ => none
/-- the value, from now on standing still -/
def fz (r : EVal) (σ : PSt) : Rs PV := match r with
  | .val v => .ok v σ
  | .new v => .ok v σ
  | .at i => match σ.sl[i]? with
    | some (some (.own v)) => .ok v ⟨σ.sl.set i (some (.frz v)), σ.ln⟩
    | some (some (.frz v)) => .ok v σ
    | _ => .no
  | .lo _ => .no

/-- what is read: standing still or not -/
def RW (c : Cn) (F : Addr → Prop) (H : Hp) (p : PV) (v : V) : Prop := RF c F H p v ∨ ∃ a, v = .ref a ∧ RO c F H p a

section
variable {c : Cn} {F F' : Addr → Prop} {la : List Addr} {σ σ' : PSt} {σr σr' : St} {H H' : Hp}
theorem rd_ok (S : SR c F la σ σr H) {O N : Addr → Prop} {r : EVal} {v : V} {p : PV} (h : ER c F la O N σr H r v) (e : rd σ r = some p) : RW c F H p v := by
  cases r with
  | val q => cases e; exact .inl h
  | new q => cases e; obtain ⟨a, e, r, _⟩ := h; exact .inr ⟨a, e, r⟩
  | «at» i =>
    have h' : σr[i]? = some (some v) := h
    rw [rd] at e
    cases q : σ.sl[i]? with
    | none => rw [q] at e; cases e
    | some t =>
      cases t with
      | none => rw [q] at e; cases e
      | some t =>
        rw [q] at e
        cases t with
        | own w =>
          cases e
          obtain ⟨a, e2, r, _⟩ := S.own i p q
          rw [h'] at e2; cases e2
          exact .inr ⟨a, rfl, r⟩
        | frz w =>
          cases e
          obtain ⟨u, e2, r⟩ := S.frz i p q
          rw [h'] at e2; cases e2
          exact .inl r
        | lo k => cases e
  | lo k =>
    obtain ⟨a, rfl, hk⟩ := h
    exact .inr ⟨a, rfl, (S.ln k p a e hk).1⟩
theorem RW.lst {xs : List PV} {v : V} (h : RW c F H (.lst xs) v) : ∃ a us, v = .ref a ∧ SqL c.K H a us ∧ RFs c F H xs us := by
  rcases h with h | ⟨a, e, us, h1, h2⟩
  · unfold RF at h
    obtain ⟨a, us, e, h1, h2⟩ := h
    refine ⟨a, us, e, ?_, h2⟩
    rcases h1 with ⟨_, h1⟩ | h1
    · exact .inl h1
    · exact .inr h1
  · exact ⟨a, us, e, SqL.of h1, h2⟩
theorem RW.tup {xs : List PV} {v : V} (h : RW c F H (.tup xs) v) : ∃ a us, v = .ref a ∧ SqT c.K H a us ∧ RFs c F H xs us := by
  rcases h with h | ⟨a, e, h⟩
  · unfold RF at h; exact h
  · exact h.elim
theorem RW.dct {ks vs : List PV} {v : V} (h : RW c F H (.dct ks vs) v) : ∃ a xs us, v = .ref a ∧ DcA c H a xs ∧ KsOk xs ks ∧ RFs c F H ks (xs.map fun x => V.ref x.2.1) ∧ RFs c F H vs us ∧ Vals us (xs.map (·.2.2)) := by
  rcases h with h | ⟨a, e, h⟩
  · unfold RF at h
    obtain ⟨a, xs, us, e, _, r⟩ := h
    exact ⟨a, xs, us, e, r⟩
  · obtain ⟨xs, us, r⟩ := h
    exact ⟨a, xs, us, e, r⟩
theorem RW.int {i : Int} {v : V} (h : RW c F H (.int i) v) : v = .int i := by
  rcases h with h | ⟨a, e, h⟩
  · unfold RF at h; exact h
  · exact h.elim
theorem RW.bl {i : Bool} {v : V} (h : RW c F H (.bl i) v) : v = .bl i := by
  rcases h with h | ⟨a, e, h⟩
  · unfold RF at h; exact h
  · exact h.elim
theorem RW.str {i : Str} {v : V} (h : RW c F H (.str i) v) : v = .str i := by
  rcases h with h | ⟨a, e, h⟩
  · unfold RF at h; exact h
  · exact h.elim
theorem RW.non {v : V} (h : RW c F H .non v) : v = .non := by
  rcases h with h | ⟨a, e, h⟩
  · unfold RF at h; exact h
  · exact h.elim
theorem RW.ty {n : String} {v : V} (h : RW c F H (.ty n) v) : v = .ty n := by
  rcases h with h | ⟨a, e, h⟩
  · unfold RF at h; exact h
  · exact h.elim
theorem RW.fn {x : Str} {v : V} (h : RW c F H (.fn x) v) : ∃ a, v = .ref a ∧ c.mg x = some (.ref a) := by
  rcases h with h | ⟨a, e, h⟩
  · unfold RF at h; exact h
  · exact h.elim
theorem RF.int_ {i : Int} : RF c F H (.int i) (.int i) := by unfold RF; rfl
theorem RF.bl_ {i : Bool} : RF c F H (.bl i) (.bl i) := by unfold RF; rfl
theorem RF.str_ {i : Str} : RF c F H (.str i) (.str i) := by unfold RF; rfl
theorem RF.non_ : RF c F H .non .non := by unfold RF; rfl

/-! ### new objects -/
theorem SR.keeps (S : SR c F la σ σr H) (k : ∀ a o, H a = some o → H' a = some o) : SR c F la σ σr H' :=
  ⟨S.len, fun i v e => let ⟨u, e1, r⟩ := S.frz i v e; ⟨u, e1, RF.ext (fun _ h => h) (fun a o e _ => k a o e) _ _ r⟩, S.lo,
    fun i v e => let ⟨a, e1, r, n, m⟩ := S.own i v e; ⟨a, e1, r.ext (fun _ h => h) (fun a o e _ => k a o e) (fun o e => k a o e), n, m⟩, S.inj, S.lln, S.lnd,
    fun j v a e e1 => let ⟨r, n⟩ := S.ln j v a e e1; ⟨r.ext (fun _ h => h) (fun a o e _ => k a o e) (fun o e => k a o e), n⟩, fun a f => let ⟨o, e⟩ := S.ftr a f; ⟨o, k a o e⟩⟩
theorem Ex.keeps {O : Addr → Prop} (k : ∀ a o, H a = some o → H' a = some o) : Ex ⟨F, H, O⟩ ⟨F, H', O⟩ := ⟨fun _ h => h, fun a o e _ => k a o e, fun _ h => .inl h, fun _ h => .inl h⟩
theorem upd_keeps {p : Addr} {o : HO} (n : H p = none) : ∀ a u, H a = some u → upd H p o a = some u := fun a u e => by
  rw [upd_ne (ne_of_none e n)]; exact e
theorem SR.fresh (S : SR c F la σ σr H) {p : Addr} (n : H p = none) : ¬ F p ∧ ¬ Ow σ σr la p := by
  refine ⟨fun z => ?_, fun z => ?_⟩
  · obtain ⟨o, e⟩ := S.ftr p z
    rw [n] at e; cases e
  · obtain ⟨⟨o, e, _⟩, _⟩ := S.ow_there z
    rw [n] at e; cases e

/-- an outcome by value: what was there, a new list, a new tuple -/
inductive Ot where
  | v (p : PV)
  | l (xs : List PV)
  | t (xs : List PV)
def Ot.ev : Ot → EVal
  | .v p => .val p
  | .l xs => .new (.lst xs)
  | .t xs => .val (.tup xs)
def OtP (c : Cn) (F : Addr → Prop) (H : Hp) (o : Ot) (Q : VK) : Prop := match o with
  | .v p => ∀ u, RF c F H p u → Q u H
  | .l xs => ∀ p us, H p = none → RFs c F H xs us → Q (.ref p) (upd H p (.lst us))
  | .t xs => ∀ p us, H p = none → RFs c F H xs us → Q (.ref p) (upd H p (.tup us))
theorem ot_fin {W : WX} {g : Gh} {o : Ot} {Q : VK} (S : SR c F la σ σr H) (x : Ex g ⟨F, H, Ow σ σr la⟩) (f : Fin c W la σr g (.ok o.ev σ) (PE0 c la σr g Q)) : OtP c F H o Q := by
  cases o with
  | v p => exact fun u r => f F H x S u r
  | l xs =>
    intro p us n r
    have k := upd_keeps (o := .lst us) n
    obtain ⟨n1, n2⟩ := S.fresh n
    exact f F _ (x.trans (Ex.keeps k)) (S.keeps k) _ ⟨p, rfl, ⟨us, upd_same, RFs.ext (fun _ h => h) (fun a o e _ => k a o e) _ _ r⟩, n1, n2, x.back (.inr n)⟩
  | t xs =>
    intro p us n r
    have k := upd_keeps (o := .tup us) n
    refine f F _ (x.trans (Ex.keeps k)) (S.keeps k) _ ?_
    show RF _ _ _ (.tup xs) _
    unfold RF
    exact ⟨p, us, rfl, SqT.of upd_same, RFs.ext (fun _ h => h) (fun a o e _ => k a o e) _ _ r⟩

/-! ### standing still -/
theorem RO.still {p : PV} {a : Addr} (f : F a) (h : RO c F H p a) : RF c F H p (.ref a) := by
  cases p with
  | lst xs => obtain ⟨us, e, r⟩ := h; unfold RF; exact ⟨a, us, rfl, .inl ⟨f, .inl e⟩, r⟩
  | dct ks vs => obtain ⟨xs, us, r⟩ := h; unfold RF; exact ⟨a, xs, us, rfl, f, r⟩
  | ins x ns vs => obtain ⟨C, dx, us, m, e, r⟩ := h; unfold RF; exact ⟨a, C, dx, us, rfl, f, m, e, r⟩
  | _ => exact h.elim
theorem fz_ok {g : Gh} (S : SR c F la σ σr H) (x : Ex g ⟨F, H, Ow σ σr la⟩) {r : EVal} {v : V} {p : PV} (h : ER c F la (Ow σ σr la) (Nw g) σr H r v) (e : fz r σ = .ok p σ') :
    ∃ F', Ex g ⟨F', H, Ow σ' σr la⟩ ∧ SR c F' la σ' σr H ∧ RF c F' H p v ∧ ∀ a, F a → F' a := by
  have hF : ∀ a b, F b → (F b ∨ b = a) := fun _ b f => .inl f
  have kk : ∀ b o, H b = some o → (F b ∨ Stl o) → H b = some o := fun _ _ e _ => e
  cases r with
  | val q =>
    cases e
    exact ⟨F, x, S, h, fun _ f => f⟩
  | new q =>
    cases e
    obtain ⟨a, rfl, r, nf, no, nn⟩ := h
    refine ⟨fun b => F b ∨ b = a, ⟨fun b f => .inl (x.fr b f), x.kp, x.ow, fun b z => ?_⟩, ⟨S.len, fun i v e => ?_, S.lo, fun i v e => ?_, S.inj, S.lln, S.lnd, fun j v b e e1 => ?_, fun b f => ?_⟩, RO.still (.inr rfl) (r.ext (hF a) kk fun _ e => e), hF a⟩
    · rcases z with z | rfl
      · exact x.fn b z
      · exact .inr nn
    · obtain ⟨u, e1, r⟩ := S.frz i v e
      exact ⟨u, e1, RF.ext (hF a) kk _ _ r⟩
    · obtain ⟨b, e1, r, n, m⟩ := S.own i v e
      exact ⟨b, e1, r.ext (hF a) kk fun _ e => e, fun z => z.elim n fun z => no (by subst z; exact .inr ⟨i, v, e, e1⟩), m⟩
    · obtain ⟨r, n⟩ := S.ln j v b e e1
      exact ⟨r.ext (hF a) kk fun _ e => e, fun z => z.elim n fun z => no (by subst z; exact .inl (List.mem_of_getElem? e1))⟩
    · rcases f with f | rfl
      · exact S.ftr b f
      · obtain ⟨o, e, _⟩ := r.there; exact ⟨o, e⟩
  | «at» i =>
    have h' : σr[i]? = some (some v) := h
    rw [fz] at e
    cases q : σ.sl[i]? with
    | none => rw [q] at e; cases e
    | some t =>
      cases t with
      | none => rw [q] at e; cases e
      | some t =>
        rw [q] at e
        cases t with
        | own w =>
          cases e
          obtain ⟨a, e2, r, nf, nl⟩ := S.own i p q
          rw [h'] at e2; cases e2
          have hi : i < σ.sl.length := (List.getElem?_eq_some_iff.mp q).1
          have old : ∀ (j : Nat) (w : PV), (σ.sl.set i (some (.frz p)))[j]? = some (some (.own w)) → j ≠ i ∧ σ.sl[j]? = some (some (.own w)) := fun j w e => by
            by_cases hj : j = i
            · subst hj; rw [List.getElem?_set_self hi] at e; cases e
            · rw [List.getElem?_set_ne (Ne.symm hj)] at e; exact ⟨hj, e⟩
          have ow : ∀ b, Ow ⟨σ.sl.set i (some (.frz p)), σ.ln⟩ σr la b → Ow σ σr la b := fun b z => by
            rcases z with z | ⟨j, w, e1, e2⟩
            · exact .inl z
            · exact .inr ⟨j, w, (old j w e1).2, e2⟩
          refine ⟨fun b => F b ∨ b = a, ⟨fun b f => .inl (x.fr b f), x.kp, fun b z => x.ow b (ow b z), fun b z => ?_⟩, ⟨by simpa using S.len, fun j v e => ?_, fun j k e => ?_, fun j v e => ?_, fun j j' v w b e1 e2 => ?_, S.lln, S.lnd, fun j v b e e1 => ?_, fun b f => ?_⟩, RO.still (.inr rfl) (r.ext (hF a) kk fun _ e => e), hF a⟩
          · rcases z with z | rfl
            · exact x.fn b z
            · rcases x.ow b (.inr ⟨i, p, q, h'⟩) with z | z
              · exact .inr (.inl z)
              · exact .inr (.inr z)
          · by_cases hj : j = i
            · subst hj
              have e' : some (some (Sl.frz p)) = some (some (Sl.frz v)) := (List.getElem?_set_self hi).symm.trans e
              cases e'
              exact ⟨_, h', RO.still (.inr rfl) (r.ext (hF a) kk fun _ e => e)⟩
            · have e' : σ.sl[j]? = some (some (Sl.frz v)) := (List.getElem?_set_ne (Ne.symm hj)).symm.trans e
              obtain ⟨u, e1, r⟩ := S.frz j v e'
              exact ⟨u, e1, RF.ext (hF a) kk _ _ r⟩
          · by_cases hj : j = i
            · subst hj
              have e' : some (some (Sl.frz p)) = some (some (Sl.lo k)) := (List.getElem?_set_self hi).symm.trans e
              cases e'
            · exact S.lo j k ((List.getElem?_set_ne (Ne.symm hj)).symm.trans e)
          · obtain ⟨hj, e'⟩ := old j v e
            obtain ⟨b, e1, r, n, m⟩ := S.own j v e'
            refine ⟨b, e1, r.ext (hF a) kk fun _ e => e, fun z => z.elim n fun z => hj ?_, m⟩
            subst z
            exact S.inj j i v p b e' q e1 h'
          · exact S.inj j j' v w b (old j v e1).2 (old j' w e2).2
          · obtain ⟨r, n⟩ := S.ln j v b e e1
            exact ⟨r.ext (hF a) kk fun _ e => e, fun z => z.elim n fun z => nl (by subst z; exact List.mem_of_getElem? e1)⟩
          · rcases f with f | rfl
            · exact S.ftr b f
            · obtain ⟨o, e, _⟩ := r.there; exact ⟨o, e⟩
        | frz w =>
          cases e
          obtain ⟨u, e2, r⟩ := S.frz i p q
          rw [h'] at e2; cases e2
          exact ⟨F, x, S, r, fun _ f => f⟩
        | lo k => cases e
  | lo k => cases e
end
end L2.Zz

/-! Z4: rules for expressions. -/
namespace L2.Zz
open PySem PySem.Spec PyProof.Rows

/-! ### denotations -/
def dC (v : PV) : DE := fun σ => .ok (.val v) σ
def slV (i : Nat) (s : Sl) : EVal := match s with
  | .own _ => .at i
  | .frz v => .val v
  | .lo k => .lo k
def dVar (i : Nat) : DE := fun σ => match σ.sl[i]? with
  | some (some s) => .ok (slV i s) σ
  | _ => .no
def dFz (d : DE) : DE := fun σ => (d σ).bind fun r σ1 => (fz r σ1).bind fun p σ2 => .ok (.val p) σ2
def otR (o : Option Ot) (σ : PSt) : Rs EVal := match o with
  | some o => .ok o.ev σ
  | none => .no
def dOp1 (f : PV → Option Ot) (da : DE) : DE := fun σ => (da σ).bind fun ra σ1 => match rd σ1 ra with
  | some a => otR (f a) σ1
  | none => .no
def dOp2 (f : PV → PV → Option Ot) (da db : DE) : DE := fun σ => (da σ).bind fun ra σ1 => (db σ1).bind fun rb σ2 => match rd σ2 ra, rd σ2 rb with
  | some a, some b => otR (f a b) σ2
  | _, _ => .no
def dNil : DA := fun σ => .ok [] σ
def dCons (d : DE) (ds : DA) : DA := fun σ => (d σ).bind fun r σ1 => (ds σ1).bind fun rs σ2 => .ok (r :: rs) σ2
def dCB (f : List PV → Option Ot) (da : DA) : DE := fun σ => (da σ).bind fun rs σ1 => match rdAll σ1 rs with
  | some ps => otR (f ps) σ1
  | none => .no
/-- a value that is a bool, as a test -/
def dB (d : DE) : DT := fun σ => (d σ).bind fun r σ1 => match rd σ1 r with
  | some (.bl b) => .ok b σ1
  | _ => .no
def dNot (d : DT) : DT := fun σ => (d σ).bind fun b σ1 => .ok (!b) σ1
def dAnd (d e : DT) : DT := fun σ => (d σ).bind fun b σ1 => if b = true then e σ1 else .ok false σ1
def dOr (d e : DT) : DT := fun σ => (d σ).bind fun b σ1 => if b = true then .ok true σ1 else e σ1
/-- a test as a value -/
def dTV (d : DT) : DE := fun σ => (d σ).bind fun b σ1 => .ok (.val (.bl b)) σ1
def dIf (c : DT) (a b : DE) : DE := fun σ => (c σ).bind fun t σ1 => if t = true then a σ1 else b σ1

theorem ER.bl_ {c : Cn} {F : Addr → Prop} {la : List Addr} {O N : Addr → Prop} {σr : St} {H : Hp} {b : Bool} : ER c F la O N σr H (.val (.bl b)) (.bl b) := by
  show RF c F H (.bl b) (.bl b)
  exact RF.bl_
/-! ### what an operation does with values -/
def Op1 (c : Cn) (r : V → Hp → VK → Prop) (f : PV → Option Ot) : Prop := ∀ F H a o va Q, RW c F H a va → f a = some o → OtP c F H o Q → r va H Q
def Op2 (c : Cn) (r : R2) (f : PV → PV → Option Ot) : Prop := ∀ F H a b o va vb Q, RW c F H a va → RW c F H b vb → f a b = some o → OtP c F H o Q → r va vb H Q
inductive RWs (c : Cn) (F : Addr → Prop) (H : Hp) : List PV → List V → Prop
  | nil : RWs c F H [] []
  | cons {p v ps vs} : RW c F H p v → RWs c F H ps vs → RWs c F H (p :: ps) (v :: vs)
def OpN (c : Cn) (r : List V → Hp → VK → Prop) (f : List PV → Option Ot) : Prop := ∀ F H ps o vs Q, RWs c F H ps vs → f ps = some o → OtP c F H o Q → r vs H Q

section
variable {X : Cx} {W : WX} {e a b : Expr} {d da db : DE} {pos : Pos}
theorem EV.start {c : Cn} {d : DE} {σr : St} {H : Hp} {Q : VK} (h : EV c W d σr H Q) : ∃ F la σ, SR c F la σ σr H ∧ Ex ⟨F, H, Ow σ σr la⟩ ⟨F, H, Ow σ σr la⟩ ∧ Fin c W la σr ⟨F, H, Ow σ σr la⟩ (d σ) (PE0 c la σr ⟨F, H, Ow σ σr la⟩ Q) :=
  let ⟨F, la, σ, S, f⟩ := h; ⟨F, la, σ, S, Ex.refl _, f⟩

theorem otR_fin {c : Cn} {F : Addr → Prop} {la : List Addr} {σ : PSt} {σr : St} {H : Hp} {g : Gh} {fo : Option Ot} {Q : VK} (S : SR c F la σ σr H) (x : Ex g ⟨F, H, Ow σ σr la⟩) (f : Fin c W la σr g (otR fo σ) (PE0 c la σr g Q)) : ∃ o, fo = some o ∧ OtP c F H o Q := by
  cases fo with
  | none => exact f.elim
  | some o => exact ⟨o, rfl, ot_fin S x f⟩
theorem z_C {v : V} {p : PV} (h : PE X e (tC v)) (r : ∀ F H, RF (cn X) F H p v) : PE X e (EV (cn X) W (dC p)) := PE.wk h fun σr H Q q => by
  obtain ⟨F, la, σ, S, f⟩ := q
  exact f F H (Ex.refl _) S v (r F H)
theorem z_int {i j} : PE X (.Constant (.int i) j pos) (EV (cn X) W (dC (.int i))) := z_C pe_int fun _ _ => RF.int_
theorem z_bl {i j} : PE X (.Constant (.bool i) j pos) (EV (cn X) W (dC (.bl i))) := z_C pe_bl fun _ _ => RF.bl_
theorem z_non {j} : PE X (.Constant .none j pos) (EV (cn X) W (dC .non)) := z_C pe_non fun _ _ => RF.non_
theorem z_str {i j} : PE X (.Constant (.str i) j pos) (EV (cn X) W (dC (.str i))) := z_C pe_str fun _ _ => RF.str_
/-- a def or a class of the text -/
theorem z_fn {x : Str} {f : Addr} (hg : Gl X x) (hm : X.mg x = some (.ref f)) (hd : (x == ("__debug__" : Str)) = false := by decide) : PE X (.Name x pos) (EV (cn X) W (dC (.fn x))) :=
  z_C (pe_glob hg hm (v := .ref f) rfl hd) fun _ _ => by unfold RF; exact ⟨f, rfl, hm⟩
/-- a module's whole number -/
theorem z_glob {x : Str} {i : Int} {t : Tok} (hg : Gl X x) (hm : X.mg x = some (.int i t)) (hd : (x == ("__debug__" : Str)) = false := by decide) : PE X (.Name x pos) (EV (cn X) W (dC (.int i))) :=
  z_C (pe_glob hg hm (v := .int i) ⟨_, rfl⟩ hd) fun _ _ => RF.int_
theorem z_ty {x : Str} {n : String} (hg : Gl X x) (hm : X.mg x = none) (hv : bootBuiltins x = some (.type n)) (hn : x ≠ "__name__" := by decide) (hd : (x == ("__debug__" : Str)) = false := by decide) : PE X (.Name x pos) (EV (cn X) W (dC (.ty n))) :=
  z_C (pe_bltn hg hm hv (v := .ty n) rfl hn hd) fun _ _ => by unfold RF; rfl
theorem z_var {i : Nat} (h : PE X e (tVar i)) : PE X e (EV (cn X) W (dVar i)) := PE.wk h fun σr H Q q => by
  obtain ⟨F, la, σ, S, f⟩ := q
  rw [dVar] at f
  cases q : σ.sl[i]? with
  | none => rw [q] at f; exact f.elim
  | some t =>
    cases t with
    | none => rw [q] at f; exact f.elim
    | some t =>
      rw [q] at f
      cases t with
      | own w =>
        obtain ⟨u, e2, r, _⟩ := S.own i w q
        exact ⟨_, e2, f F H (Ex.refl _) S _ e2⟩
      | frz w =>
        obtain ⟨u, e2, r⟩ := S.frz i w q
        exact ⟨_, e2, f F H (Ex.refl _) S _ r⟩
      | lo k =>
        obtain ⟨u, e2, r⟩ := S.lo i k q
        exact ⟨_, e2, f F H (Ex.refl _) S _ ⟨u, rfl, r⟩⟩
theorem z_v {i : Nat} {x : Str} (hN : X.N[i]? = some x := by rfl) (hv : Vis X.env.scope x := by first | exact Or.inl rfl | exact Or.inr (Or.inl rfl) | exact Or.inr (Or.inr rfl)) (hd : (x == ("__debug__" : Str)) = false := by decide)
    (hcd : (x == ("__classdict__" : Str)) = false := by decide) : PE X (.Name x pos) (EV (cn X) W (dVar i)) := z_var (pe_var hN hv hd hcd)

theorem z_fz (h : PE X e (EV (cn X) W d)) : PE X e (EV (cn X) W (dFz d)) := PE.wk h fun σr H Q q => by
  obtain ⟨F, la, σ, S, x, f⟩ := q.start
  refine EV.seq S x f fun F1 σ1 r v H1 x1 S1 e1 f1 => ?_
  cases q : fz r σ1 with
  | ok p σ2 =>
    rw [q] at f1
    obtain ⟨F2, x2, S2, r2, _⟩ := fz_ok S1 x1 e1 q
    exact f1 F2 H1 x2 S2 v r2
  | ex ee σ2 => 
    exfalso
    cases r <;> simp only [fz] at q <;> try (cases q)
    split at q <;> cases q
  | no => rw [q] at f1; exact f1.elim

theorem z_op1 {r : V → Hp → VK → Prop} {f : PV → Option Ot} (hr : Op1 (cn X) r f) (h : PE X e (tUn r (EV (cn X) W da))) : PE X e (EV (cn X) W (dOp1 f da)) := PE.wk h fun σr H Q q => by
  obtain ⟨F, la, σ, S, x, g⟩ := q.start
  refine EV.seq S x g fun F1 σ1 ra v H1 x1 S1 e1 f1 => ?_
  cases qa : rd σ1 ra with
  | none => rw [qa] at f1; exact f1.elim
  | some p =>
    rw [qa] at f1
    obtain ⟨o, qf, f2⟩ := otR_fin S1 x1 f1
    exact hr F1 H1 p o v Q (rd_ok S1 e1 qa) qf f2
theorem z_op2 {r : R2} {f : PV → PV → Option Ot} (hr : Op2 (cn X) r f) (h : PE X e (tOp r (EV (cn X) W da) (EV (cn X) W db))) : PE X e (EV (cn X) W (dOp2 f da db)) := PE.wk h fun σr H Q q => by
  obtain ⟨F, la, σ, S, x, g⟩ := q.start
  refine EV.seq S x g fun F1 σ1 ra v H1 x1 S1 e1 f1 => ?_
  refine EV.seq S1 x1 f1 fun F2 σ2 rb u H2 x2 S2 e2 f2 => ?_
  have e1' := e1.ext S1 x2
  cases qa : rd σ2 ra with
  | none => simp [qa] at f2; exact f2.elim
  | some p =>
    cases qb : rd σ2 rb with
    | none => simp [qa, qb] at f2; exact f2.elim
    | some p' =>
      rw [qa, qb] at f2
      obtain ⟨o, qf, f3⟩ := otR_fin S2 (x1.trans x2) f2
      exact hr F2 H2 p p' o v u Q (rd_ok S2 e1' qa) (rd_ok S2 e2 qb) qf f3

theorem z_anil {W : WX} : PA X [] (EVA (cn X) W dNil) := PA.wk pa_nil fun σr H Q q => by
  obtain ⟨F, la, σ, S, f⟩ := q
  exact f F H (Ex.refl _) S [] .nil
theorem ERs.ext {c : Cn} {F F' : Addr → Prop} {la : List Addr} {σ : PSt} {σr : St} {H H' : Hp} (S : SR c F la σ σr H) {O' N : Addr → Prop} (x : Ex ⟨F, H, Ow σ σr la⟩ ⟨F', H', O'⟩) {rs : List EVal} {vs : List V} (h : ERs c F la (Ow σ σr la) N σr H rs vs) : ERs c F' la O' N σr H' rs vs := by
  induction h with
  | nil => exact .nil
  | cons h _ nn ih => exact .cons (h.ext S x) ih nn
theorem ERs.weak {c : Cn} {F : Addr → Prop} {la : List Addr} {O N N' : Addr → Prop} {σr : St} {H : Hp} {rs : List EVal} {vs : List V} (h : ERs c F la O N σr H rs vs) (w : ∀ a, N a → N' a) : ERs c F la O N' σr H rs vs := by
  induction h with
  | nil => exact .nil
  | cons h _ nn ih => exact .cons (h.weak w) ih nn
theorem ERs.noNew {c : Cn} {F : Addr → Prop} {la : List Addr} {O N : Addr → Prop} {σr : St} {H : Hp} {a : Addr} (na : ¬ N a) {rs : List EVal} {vs : List V} (h : ERs c F la O N σr H rs vs) : NoNew a rs vs := by
  induction h with
  | nil => intro i p v e; simp at e
  | cons h _ _ ih =>
    intro i p v e1 e2
    cases i with
    | zero =>
      simp at e1 e2
      subst e1 e2
      obtain ⟨b, rfl, _, _, _, nb⟩ := h
      intro z; cases z; exact na nb
    | succ i => exact ih i p v (by simpa using e1) (by simpa using e2)
theorem z_acons {es : List Expr} {ds : DA} (h1 : PE X e (EV (cn X) W d)) (h2 : PA X es (EVA (cn X) W ds)) (hs : starEach (e :: es) X.env = (false, eval e X.env) :: starEach es X.env := by rfl) : PA X (e :: es) (EVA (cn X) W (dCons d ds)) :=
  PA.wk (pa_cons h1 h2 hs) fun σr H Q q => by
    obtain ⟨F, la, σ, S, f⟩ := q
    refine EV.seq S (Ex.refl _) f fun F1 σ1 r v H1 x1 S1 e1 f1 => ?_
    refine ⟨F1, la, σ1, S1, (f1.bind.step x1).mono fun rs σ2 F2 H2 x2 S2 f2 vs es => ?_⟩
    refine f2 F2 H2 (x1.trans x2) S2 (v :: vs) (.cons (e1.ext S1 x2) (es.weak fun a n => x1.back n) fun a p hr hv => ?_)
    subst hr hv
    obtain ⟨b, eb, ro, nf, no, _⟩ := e1
    cases eb
    obtain ⟨o, ho, _⟩ := ro.there
    refine ERs.noNew (fun z => ?_) es
    rcases z with z | z
    · exact no z
    · have z' : H1 a = none := z
      rw [ho] at z'; cases z'
theorem rdAll_ok {c : Cn} {F : Addr → Prop} {la : List Addr} {σ : PSt} {σr : St} {H : Hp} (S : SR c F la σ σr H) {O N : Addr → Prop} {rs : List EVal} {vs : List V} (h : ERs c F la O N σr H rs vs) : ∀ {ps : List PV}, rdAll σ rs = some ps → RWs c F H ps vs := by
  induction h with
  | nil => intro ps e; cases e; exact .nil
  | cons h _ _ ih =>
    rename_i r v rs vs _ _
    intro ps e
    rw [rdAll] at e
    cases q1 : rd σ r with
    | none => rw [q1] at e; cases e
    | some p =>
      cases q2 : rdAll σ rs with
      | none => rw [q1, q2] at e; cases e
      | some ps' =>
        rw [q1, q2] at e
        cases e
        exact .cons (rd_ok S h q1) (ih q2)
theorem z_cb {r : List V → Hp → VK → Prop} {f : List PV → Option Ot} {ds : DA} (hr : OpN (cn X) r f) (h : PE X e (tCB r (EVA (cn X) W ds))) : PE X e (EV (cn X) W (dCB f ds)) := PE.wk h fun σr H Q q => by
  obtain ⟨F, la, σ, S, g⟩ := q
  refine ⟨F, la, σ, S, g.bind.mono fun rs σ1 F1 H1 x1 S1 f1 vs es => ?_⟩
  cases qa : rdAll σ1 rs with
  | none => rw [qa] at f1; exact f1.elim
  | some ps =>
    rw [qa] at f1
    obtain ⟨o, qf, f3⟩ := otR_fin S1 x1 f1
    exact hr F1 H1 ps o vs Q (rdAll_ok S1 es qa) qf f3

/-! ### tests -/
theorem z_B' {t : TT} (h : PT X e t) (w : ∀ σr H Q, EV (cn X) W d σr H (fun x H1 => ∃ c, x = .bl c ∧ Q c H1) → t σr H Q) : PT X e (EVT (cn X) W (dB d)) := PT.wk h fun σr H Q q => by
  obtain ⟨F, la, σ, S, g⟩ := q
  refine w σr H Q ⟨F, la, σ, S, g.bind.mono fun r σ1 F1 H1 x1 S1 f1 v e1 => ?_⟩
  cases qa : rd σ1 r with
  | none => rw [qa] at f1; exact f1.elim
  | some p =>
    rw [qa] at f1
    cases p with
    | bl b => exact ⟨b, (rd_ok S1 e1 qa).bl, f1 F1 H1 x1 S1⟩
    | _ => exact f1.elim
theorem z_B (h : PE X e (EV (cn X) W d)) (he : ∀ whole, isTrue e X.env whole = (do let v ← whole; standAt e.pos; holding [v] (truthy v)) := by intro _; rfl) : PT X e (EVT (cn X) W (dB d)) :=
  z_B' (pt_val h he) fun _ _ _ q => q
theorem z_not {dt : DT} (h : PT X e (EVT (cn X) W dt)) : PT X (.UnaryOp .Not e pos) (EVT (cn X) W (dNot dt)) := PT.wk (pt_not h) fun σr H Q q => by
  obtain ⟨F, la, σ, S, g⟩ := q
  exact ⟨F, la, σ, S, g.bind.mono fun r σ1 F1 H1 x1 S1 f1 => f1 F1 H1 x1 S1⟩
variable {dt du : DT} {rest : List Expr}
theorem z_and1 (h : PT X e (EVT (cn X) W dt)) : PW X (.BoolOp .And [e] pos) (EVT (cn X) W dt) := pw_and1 h
theorem z_or1 (h : PT X e (EVT (cn X) W dt)) : PW X (.BoolOp .Or [e] pos) (EVT (cn X) W dt) := pw_or1 h
theorem z_and (h : PT X a (EVT (cn X) W dt)) (h2 : PW X (.BoolOp .And (b :: rest) pos) (EVT (cn X) W du)) : PW X (.BoolOp .And (a :: b :: rest) pos) (EVT (cn X) W (dAnd dt du)) := PW.wk (pw_and h h2) fun σr H Q q => by
  obtain ⟨F, la, σ, S, g⟩ := q
  refine ⟨F, la, σ, S, g.bind.mono fun r σ1 F1 H1 x1 S1 f1 => ?_⟩
  cases r with
  | true => exact ⟨F1, la, σ1, S1, Fin.step f1 x1⟩
  | false => exact f1 F1 H1 x1 S1
theorem z_or (h : PT X a (EVT (cn X) W dt)) (h2 : PW X (.BoolOp .Or (b :: rest) pos) (EVT (cn X) W du)) : PW X (.BoolOp .Or (a :: b :: rest) pos) (EVT (cn X) W (dOr dt du)) := PW.wk (pw_or h h2) fun σr H Q q => by
  obtain ⟨F, la, σ, S, g⟩ := q
  refine ⟨F, la, σ, S, g.bind.mono fun r σ1 F1 H1 x1 S1 f1 => ?_⟩
  cases r with
  | false => exact ⟨F1, la, σ1, S1, Fin.step f1 x1⟩
  | true => exact f1 F1 H1 x1 S1
/-! as values (bools) -/
theorem z_vone {op} (h : PE X e (EV (cn X) W d)) : PE X (.BoolOp op [e] pos) (EV (cn X) W d) := pe_one h
def dAndV (d e : DE) : DE := fun σ => (dB d σ).bind fun b σ1 => if b = true then e σ1 else .ok (.val (.bl false)) σ1
def dOrV (d e : DE) : DE := fun σ => (dB d σ).bind fun b σ1 => if b = true then .ok (.val (.bl true)) σ1 else e σ1
theorem dB_fin {c : Cn} {la : List Addr} {g : Gh} {σr : St} {σ : PSt} {α : Type} {k : Bool → PSt → Rs α} {P : α → PSt → (Addr → Prop) → Hp → Prop} {R : EVal → PSt → (Addr → Prop) → Hp → Prop} (h : Fin c W la σr g ((dB d σ).bind k) P)
    (hk : ∀ r b σ1 F1 H1, Ex g ⟨F1, H1, Ow σ1 σr la⟩ → SR c F1 la σ1 σr H1 → rd σ1 r = some (.bl b) → Fin c W la σr g (k b σ1) P → R r σ1 F1 H1) : Fin c W la σr g (d σ) R := by
  unfold dB at h
  cases q : d σ with
  | no => rw [q] at h; exact h
  | ex e σ1 => rw [q] at h; exact h
  | ok r σ1 =>
    rw [q] at h
    intro F1 H1 x1 S1
    cases qa : rd σ1 r with
    | none => simp [Rs.bind, qa] at h; exact h.elim
    | some p =>
      cases p with
      | bl b => exact hk r b σ1 F1 H1 x1 S1 qa (by simpa [Rs.bind, qa] using h)
      | _ => simp [Rs.bind, qa] at h; exact h.elim
theorem z_vand (h : PE X a (EV (cn X) W da)) (h2 : PE X (.BoolOp .And (b :: rest) pos) (EV (cn X) W db)) : PE X (.BoolOp .And (a :: b :: rest) pos) (EV (cn X) W (dAndV da db)) := PE.wk (pe_and h h2) fun σr H Q q => by
  obtain ⟨F, la, σ, S, g⟩ := q
  refine ⟨F, la, σ, S, dB_fin g fun r t σ1 F1 H1 x1 S1 er f1 v e1 => ⟨t, (rd_ok S1 e1 er).bl, ?_⟩⟩
  cases t with
  | true => exact ⟨F1, la, σ1, S1, (Fin.step f1 x1).mono fun r σ' F' H' _ _ q v e => q v (e.weak fun a n => x1.back n)⟩
  | false =>
    have f2 : Fin (cn X) W la σr _ (Rs.ok (EVal.val (.bl false)) σ1) (PE0 (cn X) la σr _ Q) := f1
    exact f2 F1 H1 x1 S1 _ ER.bl_
theorem z_vor (h : PE X a (EV (cn X) W da)) (h2 : PE X (.BoolOp .Or (b :: rest) pos) (EV (cn X) W db)) : PE X (.BoolOp .Or (a :: b :: rest) pos) (EV (cn X) W (dOrV da db)) := PE.wk (pe_or h h2) fun σr H Q q => by
  obtain ⟨F, la, σ, S, g⟩ := q
  refine ⟨F, la, σ, S, dB_fin g fun r t σ1 F1 H1 x1 S1 er f1 v e1 => ⟨t, (rd_ok S1 e1 er).bl, ?_⟩⟩
  cases t with
  | false => exact ⟨F1, la, σ1, S1, (Fin.step f1 x1).mono fun r σ' F' H' _ _ q v e => q v (e.weak fun a n => x1.back n)⟩
  | true =>
    have f2 : Fin (cn X) W la σr _ (Rs.ok (EVal.val (.bl true)) σ1) (PE0 (cn X) la σr _ Q) := f1
    exact f2 F1 H1 x1 S1 _ ER.bl_
def dNotV (d : DE) : DE := fun σ => (dB d σ).bind fun b σ1 => .ok (.val (.bl !b)) σ1
theorem z_vnot (h : PE X e (EV (cn X) W d)) : PE X (.UnaryOp .Not e pos) (EV (cn X) W (dNotV d)) := PE.wk (pe_not h) fun σr H Q q => by
  obtain ⟨F, la, σ, S, g⟩ := q
  exact ⟨F, la, σ, S, dB_fin g fun r t σ1 F1 H1 x1 S1 er f1 v e1 => ⟨t, (rd_ok S1 e1 er).bl, f1 F1 H1 x1 S1 _ ER.bl_⟩⟩
theorem z_if {t : Expr} (hc : PT X t (EVT (cn X) W dt)) (ha : PE X a (EV (cn X) W da)) (hb : PE X b (EV (cn X) W db)) : PE X (.IfExp t a b pos) (EV (cn X) W (dIf dt da db)) := PE.wk (pe_ifExp hc ha hb) fun σr H Q q => by
  obtain ⟨F, la, σ, S, g⟩ := q
  refine ⟨F, la, σ, S, g.bind.mono fun r σ1 F1 H1 x1 S1 f1 => ?_⟩
  cases r with
  | true => exact ⟨F1, la, σ1, S1, (Fin.step f1 x1).mono fun r σ' F' H' _ _ q v e => q v (e.weak fun a n => x1.back n)⟩
  | false => exact ⟨F1, la, σ1, S1, (Fin.step f1 x1).mono fun r σ' F' H' _ _ q v e => q v (e.weak fun a n => x1.back n)⟩
end
end L2.Zz

/-! Z5: what operators and built-ins do with values. -/
namespace L2.Zz
open PySem PySem.Spec PyProof.Rows

section
variable {X : Cx}
theorem OpR.or {f : Value → Value → Sem Value} {r r' : R2} (h : OpR X f r) (h' : OpR X f r') : OpR X f (fun x y H Q => r x y H Q ∨ r' x y H Q) := by
  intro pins s σ H x y v u Q I rx ry q
  rcases q with q | q
  · exact h pins s σ H x y v u Q I rx ry q
  · exact h' pins s σ H x y v u Q I rx ry q
/-! ### whole numbers -/
def mulOk (i j : Int) : Prop := CMul i j ∨ CMulW i j
instance (i j : Int) : Decidable (CMul i j) := by unfold CMul; infer_instance
instance (i j : Int) : Decidable (CMulW i j) := by unfold CMulW; infer_instance
instance (i j : Int) : Decidable (mulOk i j) := by unfold mulOk; infer_instance
theorem op_mulZ : OpR X (binaryOp .Mult) (rI mulOk fun i j => .int (i * j)) := opI fun _ _ _ _ _ _ _ hc q => mul_int q (hc.elim CMul.ok CMulW.ok)
def divOk (j : Int) : Prop := j ≠ 0 ∧ j.natAbs.log2 < 9000
instance (j : Int) : Decidable (divOk j) := by unfold divOk; infer_instance
theorem op_fdivZ : OpR X (binaryOp .FloorDiv) (rI (fun _ j => divOk j) fun i j => .int (i.fdiv j)) := opI fun i j _ _ _ _ _ hc q => floordiv_int hc.1 q (.inl (PyProof.noPylong_of_log2 hc.2))
def powOk (i j : Int) : Prop := 0 ≤ j ∧ (i.natAbs.log2 + 1 : Nat) * j ≤ 2 ^ 27
instance (i j : Int) : Decidable (powOk i j) := by unfold powOk; infer_instance
theorem op_powZ : OpR X (binaryOp .Pow) (rI powOk fun i j => .int (i ^ j.toNat)) := opI fun i j _ _ _ _ _ hc q => by
  refine pow_int hc.1 ?_ q
  have h2 : ((i.natAbs.log2 + 1 : Nat) : Int) * j ≤ 2 ^ 27 := hc.2
  have b : (Builtin.Int.intBits i : Int) ≤ ((i.natAbs.log2 + 1 : Nat) : Int) := by
    unfold Builtin.Int.intBits
    split <;> omega
  exact Int.le_trans (Int.mul_le_mul_of_nonneg_right b hc.1) h2

/-! ### lists, tuples -/
theorem op_catZ : OpR X (binaryOp .Add) (fun x y H Q => ∃ l b xs zs, x = .ref l ∧ y = .ref b ∧ SqL X.K H l xs ∧ SqL X.K H b zs ∧ xs.length + zs.length ≤ sizeLine ∧ ∀ p, H p = none → Q (.ref p) (upd H p (.lst (xs ++ zs)))) := by
  intro pins s σ H x y v u Q I rx ry h
  obtain ⟨l, b, xs, zs, rfl, rfl, hH, hB, hz, q⟩ := h
  cases rx
  cases ry
  obtain ⟨its, r, ⟨⟨cls, dd, data, sl⟩, n, ho, hc, hd0, hd⟩, _⟩ := I.list hH
  obtain ⟨its2, r2, ⟨⟨cls2, dd2, data2, sl2⟩, n2, ho2, hc2, hd02, hd2⟩, _⟩ := I.list hB
  simp only at hc hd hc2 hd2
  subst hc hd hc2 hd2
  have e : its.toArray ++ its2.toArray = (its ++ its2).toArray := by simp
  refine concat_meets ⟨_, ho, rfl⟩ ⟨_, ho2, rfl⟩ noFill_list_add seq_list_add PySem.F.slot_list_add PySem.F.entry_list_add (PySem.F.args_list_add_2 _ _) (list_addW l b its.toArray its2.toArray n n2 dd dd2 sl sl2 (by rw [List.size_toArray, List.size_toArray, ← r.length, ← r2.length]; exact hz)) ⟨ho, ho2, ?_⟩
  rw [e]
  exact ⟨.ref _, _, I.lnew (t' := s.toks) (r.append r2) (by rw [List.length_append]; omega), rfl, q _ I.fresh⟩
end

abbrev szL : Nat := 16777216
theorem szL_eq : sizeLine = szL := sizeLine_eq

/-! ### + - * -/
def pvAdd : PV → PV → Option Ot
  | .int i, .int j => some (.v (.int (i + j)))
  | .lst xs, .lst ys => if xs.length + ys.length ≤ szL then some (.l (xs ++ ys)) else none
  | .tup xs, .tup ys => if xs ≠ [] ∧ ys ≠ [] ∧ xs.length + ys.length ≤ szL then some (.t (xs ++ ys)) else none
  | _, _ => none
def rAdd (K : PySem.W.Frag) : R2 := fun x y H Q => rI0 (fun i j => .int (i + j)) x y H Q ∨ (fun x y H Q => ∃ l b xs zs, x = .ref l ∧ y = .ref b ∧ SqL K H l xs ∧ SqL K H b zs ∧ xs.length + zs.length ≤ sizeLine ∧ ∀ p, H p = none → Q (.ref p) (upd H p (.lst (xs ++ zs)))) x y H Q ∨ rCatT K x y H Q
def pvSub : PV → PV → Option Ot
  | .int i, .int j => some (.v (.int (i - j)))
  | _, _ => none
def pvMul : PV → PV → Option Ot
  | .int i, .int j => if mulOk i j then some (.v (.int (i * j))) else none
  | _, _ => none
def pvFdiv : PV → PV → Option Ot
  | .int i, .int j => if divOk j then some (.v (.int (i.fdiv j))) else none
  | _, _ => none
def pvMod : PV → PV → Option Ot
  | .int i, .int j => if j ≠ 0 then some (.v (.int (i.fmod j))) else none
  | _, _ => none
def pvPow : PV → PV → Option Ot
  | .int i, .int j => if powOk i j then some (.v (.int (i ^ j.toNat))) else none
  | _, _ => none
def pvNeg : PV → Option Ot
  | .int i => some (.v (.int (-i)))
  | _ => none
section
variable {X : Cx} {W : WX} {a b : Expr} {da db : DE} {pos : Pos}
theorem z_add (ha : PE X a (EV (cn X) W da)) (hb : PE X b (EV (cn X) W db)) : PE X (.BinOp a .Add b pos) (EV (cn X) W (dOp2 pvAdd da db)) := by
  refine z_op2 (r := rAdd X.K) ?_ (pe_op (OpR.or op_add (OpR.or op_catZ op_catT)) ha hb)
  intro F H p q o va vb Q ra rb e h
  unfold pvAdd at e
  split at e
  · cases e
    exact .inl ⟨_, _, ra.int, rb.int, h _ RF.int_⟩
  · rename_i xs ys
    split at e
    · rename_i hl
      cases e
      obtain ⟨l, us, e1, h1, r1⟩ := ra.lst
      obtain ⟨l2, us2, e2, h2, r2⟩ := rb.lst
      refine .inr (.inl ⟨l, l2, us, us2, e1, e2, h1, h2, by rw [← r1.length, ← r2.length, szL_eq]; exact hl, fun p n => h p _ n (r1.append r2)⟩)
    · cases e
  · rename_i xs ys
    split at e
    · rename_i hl
      cases e
      obtain ⟨l, us, e1, h1, r1⟩ := ra.tup
      obtain ⟨l2, us2, e2, h2, r2⟩ := rb.tup
      refine .inr (.inr ⟨l, l2, us, us2, e1, e2, h1, h2, fun z => ?_, by rw [← r1.length, ← r2.length, szL_eq]; exact hl.2.2, fun z => ?_, fun _ p n => h p _ n (r1.append r2)⟩)
      · have := r1.length; rw [z] at this; exact hl.1 (List.eq_nil_of_length_eq_zero this)
      · have := r2.length; rw [z] at this; exact absurd (List.eq_nil_of_length_eq_zero this) hl.2.1
    · cases e
  · cases e
theorem opI_of {op : Operator} {C : Int → Int → Prop} [∀ i j, Decidable (C i j)] {g : Int → Int → Int} (h : OpR X (binaryOp op) (rI C fun i j => .int (g i j))) {f : PV → PV → Option Ot} (hf : ∀ p q o, f p q = some o → ∃ i j, p = .int i ∧ q = .int j ∧ C i j ∧ o = .v (.int (g i j)))
    (ha : PE X a (EV (cn X) W da)) (hb : PE X b (EV (cn X) W db)) : PE X (.BinOp a op b pos) (EV (cn X) W (dOp2 f da db)) := by
  refine z_op2 ?_ (pe_op h ha hb)
  intro F H p q o va vb Q ra rb e hq
  obtain ⟨i, j, rfl, rfl, c, rfl⟩ := hf p q o e
  exact ⟨i, j, ra.int, rb.int, c, hq _ RF.int_⟩
theorem z_sub (ha : PE X a (EV (cn X) W da)) (hb : PE X b (EV (cn X) W db)) : PE X (.BinOp a .Sub b pos) (EV (cn X) W (dOp2 pvSub da db)) := by
  refine z_op2 ?_ (pe_op op_sub ha hb)
  intro F H p q o va vb Q ra rb e hq
  unfold pvSub at e
  split at e
  · cases e
    exact ⟨_, _, ra.int, rb.int, hq _ RF.int_⟩
  · cases e
theorem z_mul (ha : PE X a (EV (cn X) W da)) (hb : PE X b (EV (cn X) W db)) : PE X (.BinOp a .Mult b pos) (EV (cn X) W (dOp2 pvMul da db)) := by
  refine opI_of (C := mulOk) op_mulZ (fun p q o e => ?_) ha hb
  unfold pvMul at e
  split at e
  · split at e
    · cases e; exact ⟨_, _, rfl, rfl, by assumption, rfl⟩
    · cases e
  · cases e
theorem z_fdiv (ha : PE X a (EV (cn X) W da)) (hb : PE X b (EV (cn X) W db)) : PE X (.BinOp a .FloorDiv b pos) (EV (cn X) W (dOp2 pvFdiv da db)) := by
  refine opI_of (C := fun _ j => divOk j) op_fdivZ (fun p q o e => ?_) ha hb
  unfold pvFdiv at e
  split at e
  · split at e
    · cases e; exact ⟨_, _, rfl, rfl, by assumption, rfl⟩
    · cases e
  · cases e
theorem z_mod (ha : PE X a (EV (cn X) W da)) (hb : PE X b (EV (cn X) W db)) : PE X (.BinOp a .Mod b pos) (EV (cn X) W (dOp2 pvMod da db)) := by
  refine opI_of (C := fun _ j => j ≠ 0) op_modN (fun p q o e => ?_) ha hb
  unfold pvMod at e
  split at e
  · split at e
    · cases e; exact ⟨_, _, rfl, rfl, by assumption, rfl⟩
    · cases e
  · cases e
theorem z_pow (ha : PE X a (EV (cn X) W da)) (hb : PE X b (EV (cn X) W db)) : PE X (.BinOp a .Pow b pos) (EV (cn X) W (dOp2 pvPow da db)) := by
  refine opI_of (C := powOk) op_powZ (fun p q o e => ?_) ha hb
  unfold pvPow at e
  split at e
  · split at e
    · cases e; exact ⟨_, _, rfl, rfl, by assumption, rfl⟩
    · cases e
  · cases e
theorem z_neg (ha : PE X a (EV (cn X) W da)) : PE X (.UnaryOp .USub a pos) (EV (cn X) W (dOp1 pvNeg da)) := by
  refine z_op1 ?_ (pe_un un_neg ha)
  intro F H p o va Q ra e hq
  unfold pvNeg at e
  split at e
  · cases e
    exact ⟨_, ra.int, hq _ RF.int_⟩
  · cases e
end

/-! ### data -/
mutual
def toD : PV → Option PyData
  | .non => some .none
  | .bl b => some (.bool b)
  | .int i => some (.int i)
  | .str x => some (.str x)
  | .tup xs => (toDs xs).map .tuple
  | .lst xs => (toDs xs).map .list
  | _ => none
def toDs : List PV → Option (List PyData)
  | [] => some []
  | x :: xs => match toD x, toDs xs with
    | some d, some ds => some (d :: ds)
    | _, _ => none
end
section
variable {c : Cn} {F : Addr → Prop} {H : Hp}
theorem FrL.sq {a : Addr} {us : List V} (h : FrL c F H a us) : SqL c.K H a us := by
  rcases h with ⟨_, h⟩ | h
  · exact .inl h
  · exact .inr h
mutual
theorem toD_ok : ∀ (p : PV) (v : V) (d : PyData), RF c F H p v → toD p = some d → Dp c.K H v d
  | .non, v, d, h, e => by unfold RF at h; subst h; cases e; exact .non
  | .bl b, v, d, h, e => by unfold RF at h; subst h; cases e; exact .bl b
  | .int b, v, d, h, e => by unfold RF at h; subst h; cases e; exact .int b
  | .str b, v, d, h, e => by unfold RF at h; subst h; cases e; exact .str b
  | .tup xs, v, d, h, e => by
    unfold RF at h
    obtain ⟨a, us, rfl, h1, h2⟩ := h
    unfold toD at e
    obtain ⟨ds, e1, rfl⟩ := Option.map_eq_some_iff.mp e
    exact .tup h1 (toDs_ok xs us ds h2 e1)
  | .lst xs, v, d, h, e => by
    unfold RF at h
    obtain ⟨a, us, rfl, h1, h2⟩ := h
    unfold toD at e
    obtain ⟨ds, e1, rfl⟩ := Option.map_eq_some_iff.mp e
    exact .lst h1.sq (toDs_ok xs us ds h2 e1)
  | .dct _ _, _, _, _, e => by simp [toD] at e
  | .fn _, _, _, _, e => by simp [toD] at e
  | .ty _, _, _, _, e => by simp [toD] at e
  | .ins _ _ _, _, _, _, e => by simp [toD] at e
theorem toDs_ok : ∀ (ps : List PV) (vs : List V) (ds : List PyData), RFs c F H ps vs → toDs ps = some ds → DpAll c.K H vs ds
  | [], vs, ds, h, e => by unfold RFs at h; subst h; cases e; exact .nil
  | x :: xs, vs, ds, h, e => by
    unfold RFs at h
    obtain ⟨u, r, rfl, h1, h2⟩ := h
    unfold toDs at e
    split at e
    · rename_i d ds' e1 e2
      cases e
      exact .cons (toD_ok x u d h1 e1) (toDs_ok xs r ds' h2 e2)
    · cases e
end
theorem RW.dp {p : PV} {v : V} {d : PyData} (h : RW c F H p v) (e : toD p = some d) : Dp c.K H v d := by
  rcases h with h | ⟨a, rfl, h⟩
  · exact toD_ok p v d h e
  · cases p with
    | lst xs =>
      obtain ⟨us, h1, h2⟩ := h
      unfold toD at e
      obtain ⟨ds, e1, rfl⟩ := Option.map_eq_some_iff.mp e
      exact .lst (SqL.of h1) (toDs_ok xs us ds h2 e1)
    | dct _ _ => simp [toD] at e
    | ins _ _ _ => simp [toD] at e
    | _ => exact h.elim
end
/-- == of data -/
def pvEq (a b : PV) : Option Bool := match toD a, toD b with
  | some d, some e => if SeqAt.shaped d = true ∧ SeqAt.shaped e = true then some (PyData.eqv d e) else none
  | _, _ => none
def pvEqO (a b : PV) : Option Ot := (pvEq a b).map fun t => .v (.bl t)
def pvNeO (a b : PV) : Option Ot := (pvEq a b).map fun t => .v (.bl !t)
def ltInts : List PV → List PV → Option Bool
  | [], [] => some false
  | [], .int _ :: ys => (ltInts [] ys).map fun _ => true
  | .int _ :: xs, [] => (ltInts xs []).map fun _ => false
  | .int x :: xs, .int y :: ys => match ltInts xs ys with
    | some r => some (if x = y then r else decide (x < y))
    | none => none
  | _, _ => none
def pvLt : PV → PV → Option Ot
  | .int i, .int j => some (.v (.bl (decide (i < j))))
  | .tup xs, .tup ys => (ltInts xs ys).map fun t => .v (.bl t)
  | _, _ => none
def pvLe : PV → PV → Option Ot
  | .int i, .int j => some (.v (.bl (decide (i ≤ j))))
  | _, _ => none
def pvGt : PV → PV → Option Ot
  | .int i, .int j => some (.v (.bl (decide (j < i))))
  | _, _ => none
def pvGe : PV → PV → Option Ot
  | .int i, .int j => some (.v (.bl (decide (j ≤ i))))
  | _, _ => none
def isNone : PV → Bool
  | .non => true
  | _ => false
def pvIsN (a b : PV) : Option Ot := if isNone b = true then some (.v (.bl (isNone a))) else none
def pvNotN (a b : PV) : Option Ot := if isNone b = true then some (.v (.bl !isNone a)) else none
/-- x in xs -/
def pvIn (a b : PV) : Option Bool := match toD a, toD b with
  | some d, some (.list ds) => if SeqAt.shaped d = true ∧ SeqAt.shaped (.list ds) = true then some (ds.any fun z => PyData.eqv z d) else none
  | _, _ => none
section
variable {X : Cx} {W : WX} {a b : Expr} {da db : DE} {pos : Pos}
theorem ltInts_ok {c : Cn} {F : Addr → Prop} {H : Hp} : ∀ (xs ys : List PV) (us vs : List V) (t : Bool), ltInts xs ys = some t → RFs c F H xs us → RFs c F H ys vs → ∃ ns ms, us = ns.map V.int ∧ vs = ms.map V.int ∧ HT.lexLt ns ms = t := by
  intro xs
  induction xs with
  | nil =>
    intro ys
    induction ys with
    | nil => intro us vs t e h1 h2; unfold RFs at h1 h2; subst h1 h2; rw [ltInts] at e; cases e; exact ⟨[], [], rfl, rfl, rfl⟩
    | cons y ys ih =>
      intro us vs t e h1 h2
      unfold RFs at h2
      obtain ⟨u, r, rfl, h3, h4⟩ := h2
      cases y with
      | int j =>
        unfold ltInts at e
        obtain ⟨t', e1, rfl⟩ := Option.map_eq_some_iff.mp e
        obtain ⟨ns, ms, hn, hm, _⟩ := ih us r t' e1 h1 h4
        unfold RFs at h1; subst h1
        unfold RF at h3; subst h3
        have : ns = [] := by simpa using hn.symm
        subst this
        exact ⟨[], j :: ms, rfl, by simp [hm], rfl⟩
      | _ => simp [ltInts] at e
  | cons x xs ih =>
    intro ys us vs t e h1 h2
    unfold RFs at h1
    obtain ⟨u, r, rfl, h3, h4⟩ := h1
    cases x with
    | int i =>
      unfold RF at h3; subst h3
      cases ys with
      | nil =>
        unfold ltInts at e
        obtain ⟨t', e1, rfl⟩ := Option.map_eq_some_iff.mp e
        obtain ⟨ns, ms, hn, hm, _⟩ := ih [] r vs t' e1 h4 h2
        unfold RFs at h2; subst h2
        exact ⟨i :: ns, [], by simp [hn], rfl, rfl⟩
      | cons y ys =>
        unfold RFs at h2
        obtain ⟨u2, r2, rfl, h5, h6⟩ := h2
        cases y with
        | int j =>
          unfold RF at h5; subst h5
          unfold ltInts at e
          split at e
          · rename_i t' e1
            cases e
            obtain ⟨ns, ms, hn, hm, e2⟩ := ih ys r r2 t' e1 h4 h6
            exact ⟨i :: ns, j :: ms, by simp [hn], by simp [hm], by rw [HT.lexLt_cons, e2]⟩
          · cases e
        | _ => simp [ltInts] at e
    | _ => cases ys <;> simp [ltInts] at e
theorem op2_eq : Op2 (cn X) (rEqD X.K) pvEqO := by
  intro F H p q o va vb Q ra rb e h
  obtain ⟨t, e1, rfl⟩ := Option.map_eq_some_iff.mp e
  unfold pvEq at e1
  split at e1
  · rename_i d d' h1 h2
    split at e1
    · rename_i hs
      cases e1
      exact ⟨d, d', ra.dp h1, rb.dp h2, hs.1, hs.2, h _ RF.bl_⟩
    · cases e1
  · cases e1
theorem op2_ne : Op2 (cn X) (rNeD X.K) pvNeO := by
  intro F H p q o va vb Q ra rb e h
  obtain ⟨t, e1, rfl⟩ := Option.map_eq_some_iff.mp e
  unfold pvEq at e1
  split at e1
  · rename_i d d' h1 h2
    split at e1
    · rename_i hs
      cases e1
      exact ⟨d, d', ra.dp h1, rb.dp h2, hs.1, hs.2, h _ RF.bl_⟩
    · cases e1
  · cases e1
def rLtZ (K : PySem.W.Frag) : R2 := fun x y H Q => rI0 (fun i j => .bl (decide (i < j))) x y H Q ∨ rLtT K x y H Q
theorem op_ltZ (hu : X.A.units < cLine) : OpR X (compareOp .Lt) (rLtZ X.K) := OpR.or op_lt (op_ltT hu)
theorem op2_lt : Op2 (cn X) (rLtZ X.K) pvLt := by
  intro F H p q o va vb Q ra rb e h
  unfold pvLt at e
  split at e
  · cases e
    exact .inl ⟨_, _, ra.int, rb.int, h _ RF.bl_⟩
  · obtain ⟨t, e1, rfl⟩ := Option.map_eq_some_iff.mp e
    obtain ⟨l, us, e1', h1, r1⟩ := ra.tup
    obtain ⟨l2, us2, e2', h2, r2⟩ := rb.tup
    obtain ⟨ns, ms, rfl, rfl, e3⟩ := ltInts_ok _ _ _ _ _ e1 r1 r2
    refine .inr ⟨l, l2, ns, ms, e1', e2', h1, h2, ?_⟩
    rw [e3]
    exact h _ RF.bl_
  · cases e
theorem op2_le : Op2 (cn X) (rI0 fun i j => .bl (decide (i ≤ j))) pvLe := by
  intro F H p q o va vb Q ra rb e h
  unfold pvLe at e
  split at e
  · cases e; exact ⟨_, _, ra.int, rb.int, h _ RF.bl_⟩
  · cases e
theorem op2_gt : Op2 (cn X) (rI0 fun i j => .bl (decide (j < i))) pvGt := by
  intro F H p q o va vb Q ra rb e h
  unfold pvGt at e
  split at e
  · cases e; exact ⟨_, _, ra.int, rb.int, h _ RF.bl_⟩
  · cases e
theorem op2_ge : Op2 (cn X) (rI0 fun i j => .bl (decide (j ≤ i))) pvGe := by
  intro F H p q o va vb Q ra rb e h
  unfold pvGe at e
  split at e
  · cases e; exact ⟨_, _, ra.int, rb.int, h _ RF.bl_⟩
  · cases e
theorem RW.isN {c : Cn} {F : Addr → Prop} {H : Hp} {p : PV} {v : V} (h : RW c F H p v) : decide (v = .non) = isNone p := by
  cases p with
  | non => rw [h.non]; rfl
  | bl _ => rw [h.bl]; rfl
  | int _ => rw [h.int]; rfl
  | str _ => rw [h.str]; rfl
  | ty _ => rw [h.ty]; rfl
  | fn _ => obtain ⟨a, rfl, _⟩ := h.fn; rfl
  | tup _ => obtain ⟨a, _, rfl, _⟩ := h.tup; rfl
  | lst _ => obtain ⟨a, _, rfl, _⟩ := h.lst; rfl
  | dct _ _ => obtain ⟨a, _, _, rfl, _⟩ := h.dct; rfl
  | ins _ _ _ =>
    rcases h with h | ⟨a, rfl, h⟩
    · unfold RF at h; obtain ⟨a, _, _, _, rfl, _⟩ := h; rfl
    · rfl
theorem isN_ {p : PV} (h : isNone p = true) : p = .non := by cases p <;> first | rfl | (simp [isNone] at h)
theorem op2_isN : Op2 (cn X) (fun x y H Q => y = .non ∧ Q (.bl (decide (x = .non))) H) pvIsN := by
  intro F H p q o va vb Q ra rb e h
  unfold pvIsN at e
  split at e
  · rename_i hb
    cases e
    obtain rfl := isN_ hb
    exact ⟨rb.non, h _ (by rw [ra.isN]; exact RF.bl_)⟩
  · cases e
theorem op2_notN : Op2 (cn X) (fun x y H Q => y = .non ∧ Q (.bl (!decide (x = .non))) H) pvNotN := by
  intro F H p q o va vb Q ra rb e h
  unfold pvNotN at e
  split at e
  · rename_i hb
    cases e
    obtain rfl := isN_ hb
    exact ⟨rb.non, h _ (by rw [ra.isN]; exact RF.bl_)⟩
  · cases e
end
end L2.Zz

/-! Z6: comparisons, items, slices, displays, built-ins. -/
namespace L2.Zz
open PySem PySem.Spec PyProof.Rows

/-! ### comparisons -/
def dCh (f f' : PV → PV → Option Ot) (da db dc : DE) : DE := fun σ => (da σ).bind fun ra σ1 => (db σ1).bind fun rb σ2 => match rd σ2 ra, rd σ2 rb with
  | some a, some b => match f a b with
    | some (.v (.bl true)) => (dc σ2).bind fun rc σ3 => match rd σ3 rb, rd σ3 rc with
      | some b', some c => otR (f' b' c) σ3
      | _, _ => .no
    | some (.v (.bl false)) => .ok (.val (.bl false)) σ2
    | _ => .no
  | _, _ => .no
section
variable {X : Cx} {W : WX} {a b c : Expr} {da db dc : DE} {pos : Pos} {op op' : CmpOp} {r r' : R2} {f f' : PV → PV → Option Ot}
theorem z_cmp (ho : OpR X (compareOp op) r) (hf : Op2 (cn X) r f) (ha : PE X a (EV (cn X) W da)) (hb : PE X b (EV (cn X) W db)) (hm : behindInMarks op b = false) : PE X (.Compare a [op] [b] pos) (EV (cn X) W (dOp2 f da db)) :=
  z_op2 hf (pe_cmpR ho ha hb hm)
theorem EV.op2 {c : Cn} {σr : St} {H : Hp} {Q : VK} (hf : Op2 c r f) (h : EV c W (dOp2 f da db) σr H Q) : tOp r (EV c W da) (EV c W db) σr H Q := by
  obtain ⟨F, la, σ, S, x, g⟩ := h.start
  refine EV.seq S x g fun F1 σ1 ra v H1 x1 S1 e1 f1 => ?_
  refine EV.seq S1 x1 f1 fun F2 σ2 rb u H2 x2 S2 e2 f2 => ?_
  have e1' := e1.ext S1 x2
  cases qa : rd σ2 ra with
  | none => simp [qa] at f2; exact f2.elim
  | some p =>
    cases qb : rd σ2 rb with
    | none => simp [qa, qb] at f2; exact f2.elim
    | some p' =>
      rw [qa, qb] at f2
      obtain ⟨o, qf, f3⟩ := otR_fin S2 (x1.trans x2) f2
      exact hf F2 H2 p p' o v u Q (rd_ok S2 e1' qa) (rd_ok S2 e2 qb) qf f3
theorem zt_cmp (ho : OpR X (compareOp op) r) (hf : Op2 (cn X) r f) (ha : PE X a (EV (cn X) W da)) (hb : PE X b (EV (cn X) W db)) (hm : behindInMarks op b = false) : PT X (.Compare a [op] [b] pos) (EVT (cn X) W (dB (dOp2 f da db))) :=
  z_B' (pt_cmpR ho ha hb hm) fun _ _ _ q => EV.op2 hf q
theorem EV.chain {c : Cn} {σr : St} {H : Hp} {Q : VK} (hf : Op2 c r f) (hf' : Op2 c r' f') (h : EV c W (dCh f f' da db dc) σr H Q) : tChain r r' (EV c W da) (EV c W db) (EV c W dc) σr H Q := by
  obtain ⟨F, la, σ, S, x, g⟩ := h.start
  refine EV.seq S x g fun F1 σ1 ra v H1 x1 S1 e1 f1 => ?_
  refine EV.seq S1 x1 f1 fun F2 σ2 rb u H2 x2 S2 e2 f2 => ?_
  have e1' := e1.ext S1 x2
  cases qa : rd σ2 ra with
  | none => simp [qa] at f2; exact f2.elim
  | some p =>
    cases qb : rd σ2 rb with
    | none => simp [qa, qb] at f2; exact f2.elim
    | some p' =>
      rw [qa, qb] at f2
      simp only at f2
      cases qf : f p p' with
      | none => rw [qf] at f2; exact f2.elim
      | some o =>
        rw [qf] at f2
        cases o with
        | v z =>
          cases z with
          | bl k =>
            cases k with
            | true =>
              refine hf F2 H2 p p' _ v u _ (rd_ok S2 e1' qa) (rd_ok S2 e2 qb) qf fun w hw => ⟨true, (by unfold RF at hw; exact hw), ?_⟩
              rw [if_pos rfl]
              refine EV.seq S2 (x1.trans x2) f2 fun F3 σ3 rc w' H3 x3 S3 e3 f3 => ?_
              cases qb' : rd σ3 rb with
              | none => simp [qb'] at f3; exact f3.elim
              | some p2 =>
                cases qc : rd σ3 rc with
                | none => simp [qb', qc] at f3; exact f3.elim
                | some p3 =>
                  rw [qb', qc] at f3
                  obtain ⟨o, qf', f4⟩ := otR_fin S3 ((x1.trans x2).trans x3) f3
                  exact hf' F3 H3 p2 p3 o u w' Q (rd_ok S3 (e2.ext S2 x3) qb') (rd_ok S3 e3 qc) qf' f4
            | false =>
              refine hf F2 H2 p p' _ v u _ (rd_ok S2 e1' qa) (rd_ok S2 e2 qb) qf fun w hw => ⟨false, (by unfold RF at hw; exact hw), ?_⟩
              rw [if_neg Bool.false_ne_true]
              have f3 : Fin c W la σr _ (Rs.ok (EVal.val (.bl false)) σ2) (PE0 c la σr _ Q) := f2
              exact f3 F2 H2 (x1.trans x2) S2 _ ER.bl_
          | _ => exact f2.elim
        | _ => exact f2.elim
theorem z_ch (ho : OpR X (compareOp op) r) (ho' : OpR X (compareOp op') r') (hf : Op2 (cn X) r f) (hf' : Op2 (cn X) r' f') (ha : PE X a (EV (cn X) W da)) (hb : PE X b (EV (cn X) W db)) (hc : PE X c (EV (cn X) W dc)) (hm : lastMarks [op, op'] [b, c] = false := by with_unfolding_all rfl) :
    PE X (.Compare a [op, op'] [b, c] pos) (EV (cn X) W (dCh f f' da db dc)) := PE.wk (pe_chain ho ho' ha hb hc hm) fun _ _ _ q => EV.chain hf hf' q
theorem zt_ch (ho : OpR X (compareOp op) r) (ho' : OpR X (compareOp op') r') (hf : Op2 (cn X) r f) (hf' : Op2 (cn X) r' f') (ha : PE X a (EV (cn X) W da)) (hb : PE X b (EV (cn X) W db)) (hc : PE X c (EV (cn X) W dc)) (hm : lastMarks [op, op'] [b, c] = false := by with_unfolding_all rfl) :
    PT X (.Compare a [op, op'] [b, c] pos) (EVT (cn X) W (dB (dCh f f' da db dc))) := z_B' (pt_chain ho ho' ha hb hc hm) fun _ _ _ q => EV.chain hf hf' q
end

/-! ### items -/
def pvIx : PV → PV → Option Ot
  | .lst xs, .int i => (atI xs i).map .v
  | .tup xs, .int i => (atI xs i).map .v
  | _, _ => none
theorem RFs.atI {c : Cn} {F : Addr → Prop} {H : Hp} {ps : List PV} {us : List V} {i : Int} {p : PV} (r : RFs c F H ps us) (e : L2.atI ps i = some p) : ∃ u, L2.atI us i = some u ∧ RF c F H p u := by
  unfold L2.atI at e ⊢
  rw [← r.length]
  cases q : ixN ps.length i with
  | none => rw [q] at e; cases e
  | some j => rw [q] at e; exact r.get (i := j) e
section
variable {X : Cx} {W : WX} {a b : Expr} {da db : DE} {pos : Pos}
theorem op2_ix : Op2 (cn X) (fun x y H Q => rIxL X.K x y H Q ∨ rIxT X.K x y H Q) pvIx := by
  intro F H p q o va vb Q ra rb e h
  unfold pvIx at e
  split at e
  · obtain ⟨w, e1, rfl⟩ := Option.map_eq_some_iff.mp e
    obtain ⟨l, us, e2, h1, r1⟩ := ra.lst
    obtain ⟨u, e3, r2⟩ := r1.atI e1
    exact .inl ⟨l, us, _, u, e2, rb.int, h1, e3, h u r2⟩
  · obtain ⟨w, e1, rfl⟩ := Option.map_eq_some_iff.mp e
    obtain ⟨l, us, e2, h1, r1⟩ := ra.tup
    obtain ⟨u, e3, r2⟩ := r1.atI e1
    exact .inr ⟨l, us, _, u, e2, rb.int, h1, e3, h u r2⟩
  · cases e
theorem z_ix (ha : PE X a (EV (cn X) W da)) (hb : PE X b (EV (cn X) W db)) (hs : PlainIx b := by intro _ _; rfl) : PE X (.Subscript a b pos) (EV (cn X) W (dOp2 pvIx da db)) :=
  z_op2 op2_ix (pe_ix (ix_list.or ix_tup) ha hb hs)
end

/-! ### slices -/
abbrev DO := PSt → Rs (Option Int)
def dNo : DO := fun σ => .ok none σ
def dSo (d : DE) : DO := fun σ => (d σ).bind fun r σ1 => match rd σ1 r with
  | some (.int i) => .ok (some i) σ1
  | _ => .no
def cutP (xs : List PV) (lo hi : Option Int) : List PV := (xs.drop (HT.sIx xs.length 0 lo)).take (HT.sIx xs.length xs.length hi - HT.sIx xs.length 0 lo)
def pvSl (lo hi : Option Int) : PV → Option Ot
  | .lst xs => some (.l (cutP xs lo hi))
  | .tup xs => if HT.sIx xs.length 0 lo = 0 ∧ HT.sIx xs.length xs.length hi = xs.length then some (.v (.tup xs)) else some (.t (cutP xs lo hi))
  | _ => none
def dSl (d : DE) (lo hi : DO) : DE := fun σ => (d σ).bind fun r σ1 => (lo σ1).bind fun l σ2 => (hi σ2).bind fun h σ3 => match rd σ3 r with
  | some p => otR (pvSl l h p) σ3
  | none => .no
def EVO (c : Cn) (W : WX) (d : DO) : TO := fun σr H Q => ∃ F la σ, SR c F la σ σr H ∧ Fin c W la σr ⟨F, H, Ow σ σr la⟩ (d σ) fun b _ _ H' => Q b H'
theorem PO.wk {X : Cx} {e : Option Expr} {t t' : TO} (h : PO X e t) (w : ∀ σ H Q, t' σ H Q → t σ H Q) : PO X e t' := ⟨fun pins s σ H Q I q => h.run pins s σ H Q I (w _ _ _ q)⟩
section
variable {X : Cx} {W : WX} {e : Expr} {d : DE} {lo hi : Option Expr} {dl dh : DO} {pos p2 : Pos}
theorem z_no : PO X none (EVO (cn X) W dNo) := PO.wk po_none fun σr H Q q => by
  obtain ⟨F, la, σ, S, f⟩ := q
  exact f F H (Ex.refl _) S
theorem z_so (h : PE X e (EV (cn X) W d)) : PO X (some e) (EVO (cn X) W (dSo d)) := PO.wk (po_some h) fun σr H Q q => by
  obtain ⟨F, la, σ, S, g⟩ := q
  refine ⟨F, la, σ, S, g.bind.mono fun r σ1 F1 H1 x1 S1 f1 v e1 => ?_⟩
  cases qa : rd σ1 r with
  | none => rw [qa] at f1; exact f1.elim
  | some p =>
    rw [qa] at f1
    cases p with
    | int b => exact ⟨b, (rd_ok S1 e1 qa).int, f1 F1 H1 x1 S1⟩
    | _ => exact f1.elim
theorem RFs.cut {c : Cn} {F : Addr → Prop} {H : Hp} {ps : List PV} {us : List V} (r : RFs c F H ps us) (lo hi : Option Int) : RFs c F H (cutP ps lo hi) (cutV us lo hi) := by
  unfold cutP cutV
  rw [← r.length]
  exact (r.drop _).take _
theorem z_sl (h : PE X e (EV (cn X) W d)) (hl : PO X lo (EVO (cn X) W dl)) (hh : PO X hi (EVO (cn X) W dh)) : PE X (.Subscript e (.Slice lo hi none p2) pos) (EV (cn X) W (dSl d dl dh)) :=
  PE.wk (pe_slice (sl_list.or sl_tupA) h hl hh) fun σr H Q q => by
    obtain ⟨F, la, σ, S, x, g⟩ := q.start
    refine EV.seq S x g fun F1 σ1 r v H1 x1 S1 e1 f1 => ?_
    refine ⟨F1, la, σ1, S1, (f1.bind.step x1).mono fun l σ2 F2 H2 x2 S2 f2 => ?_⟩
    refine ⟨F2, la, σ2, S2, (f2.bind.step (x1.trans x2)).mono fun u σ3 F3 H3 x3 S3 f3 => ?_⟩
    have e3 := (e1.ext S1 x2).ext S2 x3
    cases qa : rd σ3 r with
    | none => rw [qa] at f3; exact f3.elim
    | some p =>
      rw [qa] at f3
      obtain ⟨o, qf, f4⟩ := otR_fin S3 ((x1.trans x2).trans x3) f3
      have rw3 := rd_ok S3 e3 qa
      unfold pvSl at qf
      split at qf
      · cases qf
        obtain ⟨a, us, e4, h1, r1⟩ := rw3.lst
        exact .inl ⟨a, us, e4, h1, fun p n => f4 p _ n (r1.cut l u)⟩
      · rename_i xs
        obtain ⟨a, us, e4, h1, r1⟩ := rw3.tup
        subst e4
        split at qf
        · rename_i hw
          cases qf
          rw [r1.length] at hw
          exact .inr ⟨a, us, rfl, h1, fun _ => f4 _ (by unfold RF; exact ⟨a, us, rfl, h1, r1⟩), fun z => absurd hw z⟩
        · rename_i hw
          cases qf
          rw [r1.length] at hw
          exact .inr ⟨a, us, rfl, h1, fun z => absurd z hw, fun _ p n => f4 p _ n (r1.cut l u)⟩
      · cases qf
def pvRev : PV → Option Ot
  | .lst xs => some (.l xs.reverse)
  | _ => none
theorem z_rev {k : Nat} {p1 p2 p3 : Pos} (h : PE X e (EV (cn X) W d)) : PE X (.Subscript e (.Slice none none (some (.UnaryOp .USub (.Constant (.int 1) k p1) p2)) p3) pos) (EV (cn X) W (dOp1 pvRev d)) := by
  refine z_op1 (r := fun x H Q => ∃ a xs, x = .ref a ∧ SqL X.K H a xs ∧ ∀ p, H p = none → Q (.ref p) (upd H p (.lst xs.reverse))) ?_ (pe_revL h)
  intro F H p o va Q ra e hq
  unfold pvRev at e
  split at e
  · cases e
    obtain ⟨a, us, e4, h1, r1⟩ := ra.lst
    exact ⟨a, us, e4, h1, fun p n => hq p _ n r1.reverse⟩
  · cases e
end

theorem fin_if {α : Type} {c : Cn} {W : WX} {la : List Addr} {σr : St} {g : Gh} {C : Prop} [Decidable C] {o : Rs α} {P : α → PSt → (Addr → Prop) → Hp → Prop} (h : Fin c W la σr g (if C then o else .no) P) : C ∧ Fin c W la σr g o P := by
  by_cases hc : C
  · rw [if_pos hc] at h; exact ⟨hc, h⟩
  · rw [if_neg hc] at h; exact h.elim
/-! ### displays -/
def dTup (da : DA) : DE := fun σ => (da σ).bind fun rs σ1 => match vals rs with
  | some ps => if ps.length ≤ szL then .ok (.val (.tup ps)) σ1 else .no
  | none => .no
where vals : List EVal → Option (List PV)
  | [] => some []
  | .val p :: rs => (vals rs).map (p :: ·)
  | _ => none
def dLst (da : DA) : DE := fun σ => (da σ).bind fun rs σ1 => match dTup.vals rs with
  | some ps => if ps.length ≤ szL then .ok (.new (.lst ps)) σ1 else .no
  | none => .no
section
variable {X : Cx} {W : WX} {es : List Expr} {da : DA} {pos : Pos}
theorem vals_ok {c : Cn} {F : Addr → Prop} {la : List Addr} {O N : Addr → Prop} {σr : St} {H : Hp} {rs : List EVal} {vs : List V} (h : ERs c F la O N σr H rs vs) : ∀ {ps : List PV}, dTup.vals rs = some ps → RFs c F H ps vs := by
  induction h with
  | nil => intro ps e; cases e; exact RFs.nil_
  | cons h _ _ ih =>
    rename_i r v rs vs _ _
    intro ps e
    cases r with
    | val p =>
      unfold dTup.vals at e
      obtain ⟨qs, e1, rfl⟩ := Option.map_eq_some_iff.mp e
      exact RFs.cons_ h (ih e1)
    | _ => cases e
theorem z_tup {x1} (h : PA X es (EVA (cn X) W da)) : PE X (.Tuple es x1 pos) (EV (cn X) W (dTup da)) := PE.wk (pe_tup h) fun σr H Q q => by
  obtain ⟨F, la, σ, S, g⟩ := q
  refine ⟨F, la, σ, S, g.bind.mono fun rs σ1 F1 H1 x1 S1 f1 vs es => ?_⟩
  cases qa : dTup.vals rs with
  | none => rw [qa] at f1; exact f1.elim
  | some ps =>
    rw [qa] at f1
    have r := vals_ok es qa
    obtain ⟨hl, f2⟩ := fin_if f1
    exact ⟨by rw [← r.length, szL_eq]; exact hl, fun p n => ot_fin (o := .t ps) S1 x1 f2 p _ n r⟩
theorem z_lst (h : PA X es (EVA (cn X) W da)) : PE X (.List es pos) (EV (cn X) W (dLst da)) := PE.wk (pe_lst h) fun σr H Q q => by
  obtain ⟨F, la, σ, S, g⟩ := q
  refine ⟨F, la, σ, S, g.bind.mono fun rs σ1 F1 H1 x1 S1 f1 vs es => ?_⟩
  cases qa : dTup.vals rs with
  | none => rw [qa] at f1; exact f1.elim
  | some ps =>
    rw [qa] at f1
    have r := vals_ok es qa
    obtain ⟨hl, f2⟩ := fin_if f1
    exact ⟨by rw [← r.length, szL_eq]; exact hl, fun p n => ot_fin (o := .l ps) S1 x1 f2 p _ n r⟩
end
end L2.Zz

/-! Z7: built-in calls; what is written in place. -/
namespace L2.Zz
open PySem PySem.Spec PyProof.Rows

/-! ### built-ins -/
def fnLen : List PV → Option Ot
  | [.lst xs] => some (.v (.int xs.length))
  | [.tup xs] => some (.v (.int xs.length))
  | _ => none
def fnAbs : List PV → Option Ot
  | [.int i] => some (.v (.int (if i < 0 then -i else i)))
  | _ => none
def fnInt : List PV → Option Ot
  | [.int i] => some (.v (.int i))
  | [.bl b] => some (.v (.int (if b then 1 else 0)))
  | _ => none
/-- max and min: of two whole numbers, of a list of whole numbers -/
def asInts : List PV → Option (List Int)
  | [] => some []
  | .int i :: xs => (asInts xs).map (i :: ·)
  | _ => none
def asBls : List PV → Option (List Bool)
  | [] => some []
  | .bl i :: xs => (asBls xs).map (i :: ·)
  | _ => none
def maxL : List Int → Option Int
  | [] => none
  | x :: xs => some (xs.foldl (fun m y => if y > m then y else m) x)
def minL : List Int → Option Int
  | [] => none
  | x :: xs => some (xs.foldl (fun m y => if y < m then y else m) x)
def fnMax : List PV → Option Ot
  | [.int i, .int j] => some (.v (.int (if j > i then j else i)))
  | [.lst xs] => (asInts xs).bind fun ns => (maxL ns).map fun m => .v (.int m)
  | _ => none
def fnMin : List PV → Option Ot
  | [.int i, .int j] => some (.v (.int (if j < i then j else i)))
  | [.lst xs] => (asInts xs).bind fun ns => (minL ns).map fun m => .v (.int m)
  | _ => none
def fnSum : List PV → Option Ot
  | [.lst xs] => (asInts xs).map fun ns => .v (.int ns.sum)
  | _ => none
def fnAll : List PV → Option Ot
  | [.lst xs] => (asBls xs).map fun bs => .v (.bl (bs.all id))
  | _ => none
def fnAny : List PV → Option Ot
  | [.lst xs] => (asBls xs).map fun bs => .v (.bl (bs.any id))
  | _ => none
def fnList : List PV → Option Ot
  | [.lst xs] => some (.l xs)
  | [.tup xs] => some (.l xs)
  | _ => none
def fnTuple : List PV → Option Ot
  | [.lst xs] => some (.t xs)
  | [.tup xs] => some (.v (.tup xs))
  | _ => none
def tyName : PV → Option String
  | .non => some "NoneType"
  | .bl _ => some "bool"
  | .int _ => some "int"
  | .str _ => some "str"
  | .tup _ => some "tuple"
  | .lst _ => some "list"
  | .dct _ _ => some "dict"
  | _ => none
def isB (p : PV) (n : String) : Option Bool := match p with
  | .int _ => if n = "int" then some true else if n = "bool" then some false else if n = "tuple" then some false else if n = "list" then some false else if n = "dict" then some false else if n = "str" then some false else none
  | .bl _ => if n = "int" then some true else if n = "bool" then some true else if n = "tuple" then some false else if n = "list" then some false else if n = "dict" then some false else if n = "str" then some false else none
  | .non => if n = "int" then some false else if n = "bool" then some false else if n = "tuple" then some false else if n = "list" then some false else if n = "dict" then some false else if n = "str" then some false else none
  | .str _ => if n = "int" then some false else if n = "bool" then some false else if n = "tuple" then some false else if n = "list" then some false else if n = "dict" then some false else if n = "str" then some true else none
  | .tup _ => if n = "int" then some false else if n = "bool" then some false else if n = "tuple" then some true else if n = "list" then some false else if n = "dict" then some false else if n = "str" then some false else none
  | .lst _ => if n = "int" then some false else if n = "bool" then some false else if n = "tuple" then some false else if n = "list" then some true else if n = "dict" then some false else if n = "str" then some false else none
  | .dct _ _ => if n = "int" then some false else if n = "bool" then some false else if n = "tuple" then some false else if n = "list" then some false else if n = "dict" then some true else if n = "str" then some false else none
  | _ => none
def fnIsi : List PV → Option Ot
  | [p, .ty n] => (isB p n).map fun b => .v (.bl b)
  | _ => none

section
variable {c : Cn} {F : Addr → Prop} {H : Hp}
theorem RWs.one {p : PV} {vs : List V} (h : RWs c F H [p] vs) : ∃ v, vs = [v] ∧ RW c F H p v := by
  cases h with
  | cons h t => cases t; exact ⟨_, rfl, h⟩
theorem RWs.two {p q : PV} {vs : List V} (h : RWs c F H [p, q] vs) : ∃ v u, vs = [v, u] ∧ RW c F H p v ∧ RW c F H q u := by
  cases h with
  | cons h t =>
    obtain ⟨u, rfl, h2⟩ := t.one
    exact ⟨_, _, rfl, h, h2⟩
theorem asInts_ok : ∀ {xs : List PV} {us : List V} {ns : List Int}, RFs c F H xs us → asInts xs = some ns → us = ns.map V.int
  | [], us, ns, r, e => by unfold RFs at r; subst r; rw [asInts] at e; cases e; rfl
  | x :: xs, us, ns, r, e => by
    unfold RFs at r
    obtain ⟨u, r', rfl, h1, h2⟩ := r
    cases x with
    | int i =>
      rw [asInts] at e
      obtain ⟨ms, e1, rfl⟩ := Option.map_eq_some_iff.mp e
      unfold RF at h1
      subst h1
      rw [asInts_ok h2 e1]; rfl
    | _ => simp [asInts] at e
theorem asBls_ok : ∀ {xs : List PV} {us : List V} {ns : List Bool}, RFs c F H xs us → asBls xs = some ns → us = ns.map V.bl
  | [], us, ns, r, e => by unfold RFs at r; subst r; rw [asBls] at e; cases e; rfl
  | x :: xs, us, ns, r, e => by
    unfold RFs at r
    obtain ⟨u, r', rfl, h1, h2⟩ := r
    cases x with
    | bl i =>
      rw [asBls] at e
      obtain ⟨ms, e1, rfl⟩ := Option.map_eq_some_iff.mp e
      unfold RF at h1
      subst h1
      rw [asBls_ok h2 e1]; rfl
    | _ => simp [asBls] at e
theorem foldl_max : ∀ (xs : List Int) (x : Int), (xs.foldl (fun m y => if y > m then y else m) x ∈ x :: xs) ∧ ∀ y ∈ x :: xs, y ≤ xs.foldl (fun m y => if y > m then y else m) x
  | [], x => by simp
  | z :: zs, x => by
    obtain ⟨h1, h2⟩ := foldl_max zs (if z > x then z else x)
    simp only [List.foldl_cons]
    constructor
    · rcases List.mem_cons.mp h1 with h | h
      · rw [h]; split <;> simp
      · simp [h]
    · intro y hy
      have h3 := h2 (if z > x then z else x) (by simp)
      have hx : x ≤ (if z > x then z else x) := by split <;> omega
      have hz : z ≤ (if z > x then z else x) := by split <;> omega
      rcases List.mem_cons.mp hy with e | hy
      · subst e; exact Int.le_trans hx h3
      · rcases List.mem_cons.mp hy with e | hy
        · subst e; exact Int.le_trans hz h3
        · exact h2 y (by simp [hy])
theorem foldl_min : ∀ (xs : List Int) (x : Int), (xs.foldl (fun m y => if y < m then y else m) x ∈ x :: xs) ∧ ∀ y ∈ x :: xs, xs.foldl (fun m y => if y < m then y else m) x ≤ y
  | [], x => by simp
  | z :: zs, x => by
    obtain ⟨h1, h2⟩ := foldl_min zs (if z < x then z else x)
    simp only [List.foldl_cons]
    constructor
    · rcases List.mem_cons.mp h1 with h | h
      · rw [h]; split <;> simp
      · simp [h]
    · intro y hy
      have h3 := h2 (if z < x then z else x) (by simp)
      have hx : (if z < x then z else x) ≤ x := by split <;> omega
      have hz : (if z < x then z else x) ≤ z := by split <;> omega
      rcases List.mem_cons.mp hy with e | hy
      · subst e; exact Int.le_trans h3 hx
      · rcases List.mem_cons.mp hy with e | hy
        · subst e; exact Int.le_trans h3 hz
        · exact h2 y (by simp [hy])
theorem maxL_ok {ns : List Int} {m : Int} (h : maxL ns = some m) : m ∈ ns ∧ ∀ y ∈ ns, y ≤ m := by
  cases ns with
  | nil => cases h
  | cons x xs => cases h; exact foldl_max xs x
theorem minL_ok {ns : List Int} {m : Int} (h : minL ns = some m) : m ∈ ns ∧ ∀ y ∈ ns, m ≤ y := by
  cases ns with
  | nil => cases h
  | cons x xs => cases h; exact foldl_min xs x
end
section
variable {X : Cx}
abbrev rLen (K : PySem.W.Frag) : List V → Hp → VK → Prop := fun xs H Q => ∃ p ys, xs = [.ref p] ∧ (SqL K H p ys ∨ SqT K H p ys) ∧ Q (.int ys.length) H
theorem opn_len : OpN (cn X) (rLen X.K) fnLen := by
  intro F H ps o vs Q rs e h
  unfold fnLen at e
  split at e
  · cases e
    obtain ⟨v, rfl, r⟩ := rs.one
    obtain ⟨a, us, rfl, h1, r1⟩ := r.lst
    exact ⟨a, us, rfl, .inl h1, h _ (by rw [← r1.length]; exact RF.int_)⟩
  · cases e
    obtain ⟨v, rfl, r⟩ := rs.one
    obtain ⟨a, us, rfl, h1, r1⟩ := r.tup
    exact ⟨a, us, rfl, .inr h1, h _ (by rw [← r1.length]; exact RF.int_)⟩
  · cases e
theorem opn_abs : OpN (cn X) (fun xs H Q => ∃ i, xs = [.int i] ∧ Q (.int (if i < 0 then -i else i)) H) fnAbs := by
  intro F H ps o vs Q rs e h
  unfold fnAbs at e
  split at e
  · cases e
    obtain ⟨v, rfl, r⟩ := rs.one
    exact ⟨_, by rw [r.int], h _ RF.int_⟩
  · cases e
theorem opn_int : OpN (cn X) (fun xs H Q => (∃ i, xs = [.int i] ∧ Q (.int i) H) ∨ ∃ k, xs = [.bl k] ∧ Q (.int (if k then 1 else 0)) H) fnInt := by
  intro F H ps o vs Q rs e h
  unfold fnInt at e
  split at e
  · cases e
    obtain ⟨v, rfl, r⟩ := rs.one
    exact .inl ⟨_, by rw [r.int], h _ RF.int_⟩
  · cases e
    obtain ⟨v, rfl, r⟩ := rs.one
    exact .inr ⟨_, by rw [r.bl], h _ RF.int_⟩
  · cases e
def rMaxZ (K : PySem.W.Frag) : List V → Hp → VK → Prop := fun xs H Q => (∃ i j, xs = [.int i, .int j] ∧ Q (.int (if j > i then j else i)) H) ∨ rMax K xs H Q
def rMinZ (K : PySem.W.Frag) : List V → Hp → VK → Prop := fun xs H Q => (∃ i j, xs = [.int i, .int j] ∧ Q (.int (if j < i then j else i)) H) ∨ rMin K xs H Q
theorem cr_maxZ (hc : X.calm = true) : CallR X (.builtin "max") (rMaxZ X.K) := (call_max2 hc).or (cr_max hc)
theorem cr_minZ (hc : X.calm = true) : CallR X (.builtin "min") (rMinZ X.K) := (call_min2 hc).or (cr_min hc)
theorem opn_max : OpN (cn X) (rMaxZ X.K) fnMax := by
  intro F H ps o vs Q rs e h
  unfold fnMax at e
  split at e
  · cases e
    obtain ⟨v, u, rfl, r, r2⟩ := rs.two
    exact .inl ⟨_, _, by rw [r.int, r2.int], h _ RF.int_⟩
  · obtain ⟨ns, e1, e2⟩ := Option.bind_eq_some_iff.mp e
    obtain ⟨m, e3, rfl⟩ := Option.map_eq_some_iff.mp e2
    obtain ⟨v, rfl, r⟩ := rs.one
    obtain ⟨a, us, rfl, h1, r1⟩ := r.lst
    have := asInts_ok r1 e1
    subst this
    obtain ⟨m1, m2⟩ := maxL_ok e3
    refine .inr ⟨a, ns, rfl, h1, by cases ns <;> simp_all [maxL], fun m' hm hle => ?_⟩
    have : m' = m := Int.le_antisymm (m2 m' hm) (hle m m1)
    rw [this]
    exact h _ RF.int_
  · cases e
theorem opn_min : OpN (cn X) (rMinZ X.K) fnMin := by
  intro F H ps o vs Q rs e h
  unfold fnMin at e
  split at e
  · cases e
    obtain ⟨v, u, rfl, r, r2⟩ := rs.two
    exact .inl ⟨_, _, by rw [r.int, r2.int], h _ RF.int_⟩
  · obtain ⟨ns, e1, e2⟩ := Option.bind_eq_some_iff.mp e
    obtain ⟨m, e3, rfl⟩ := Option.map_eq_some_iff.mp e2
    obtain ⟨v, rfl, r⟩ := rs.one
    obtain ⟨a, us, rfl, h1, r1⟩ := r.lst
    have := asInts_ok r1 e1
    subst this
    obtain ⟨m1, m2⟩ := minL_ok e3
    refine .inr ⟨a, ns, rfl, h1, by cases ns <;> simp_all [minL], fun m' hm hle => ?_⟩
    have : m' = m := Int.le_antisymm (hle m m1) (m2 m' hm)
    rw [this]
    exact h _ RF.int_
  · cases e
theorem opn_sum : OpN (cn X) (rSum X.K) fnSum := by
  intro F H ps o vs Q rs e h
  unfold fnSum at e
  split at e
  · obtain ⟨ns, e1, rfl⟩ := Option.map_eq_some_iff.mp e
    obtain ⟨v, rfl, r⟩ := rs.one
    obtain ⟨a, us, rfl, h1, r1⟩ := r.lst
    have := asInts_ok r1 e1
    subst this
    exact ⟨a, ns, rfl, h1, h _ RF.int_⟩
  · cases e
theorem opn_all : OpN (cn X) (rAll X.K) fnAll := by
  intro F H ps o vs Q rs e h
  unfold fnAll at e
  split at e
  · obtain ⟨ns, e1, rfl⟩ := Option.map_eq_some_iff.mp e
    obtain ⟨v, rfl, r⟩ := rs.one
    obtain ⟨a, us, rfl, h1, r1⟩ := r.lst
    have := asBls_ok r1 e1
    subst this
    exact ⟨a, ns, rfl, h1, h _ RF.bl_⟩
  · cases e
theorem opn_any : OpN (cn X) (rAny X.K) fnAny := by
  intro F H ps o vs Q rs e h
  unfold fnAny at e
  split at e
  · obtain ⟨ns, e1, rfl⟩ := Option.map_eq_some_iff.mp e
    obtain ⟨v, rfl, r⟩ := rs.one
    obtain ⟨a, us, rfl, h1, r1⟩ := r.lst
    have := asBls_ok r1 e1
    subst this
    exact ⟨a, ns, rfl, h1, h _ RF.bl_⟩
  · cases e
abbrev rList (K : PySem.W.Frag) : List V → Hp → VK → Prop := fun xs H Q => ∃ p ys, xs = [.ref p] ∧ (SqL K H p ys ∨ SqT K H p ys) ∧ ∀ l, H l = none → Q (.ref l) (upd H l (.lst ys))
theorem opn_list : OpN (cn X) (rList X.K) fnList := by
  intro F H ps o vs Q rs e h
  unfold fnList at e
  split at e
  · cases e
    obtain ⟨v, rfl, r⟩ := rs.one
    obtain ⟨a, us, rfl, h1, r1⟩ := r.lst
    exact ⟨a, us, rfl, .inl h1, fun l n => h l us n r1⟩
  · cases e
    obtain ⟨v, rfl, r⟩ := rs.one
    obtain ⟨a, us, rfl, h1, r1⟩ := r.tup
    exact ⟨a, us, rfl, .inr h1, fun l n => h l us n r1⟩
  · cases e
abbrev rTuple (K : PySem.W.Frag) : List V → Hp → VK → Prop := fun xs H Q => ∃ p ys, xs = [.ref p] ∧ ((SqL K H p ys ∧ ∀ l, H l = none → Q (.ref l) (upd H l (.tup ys))) ∨ (SqT K H p ys ∧ Q (.ref p) H))
theorem opn_tuple : OpN (cn X) (rTuple X.K) fnTuple := by
  intro F H ps o vs Q rs e h
  unfold fnTuple at e
  split at e
  · cases e
    obtain ⟨v, rfl, r⟩ := rs.one
    obtain ⟨a, us, rfl, h1, r1⟩ := r.lst
    exact ⟨a, us, rfl, .inl ⟨h1, fun l n => h l us n r1⟩⟩
  · cases e
    obtain ⟨v, rfl, r⟩ := rs.one
    obtain ⟨a, us, rfl, h1, r1⟩ := r.tup
    exact ⟨a, us, rfl, .inr ⟨h1, h _ (by unfold RF; exact ⟨a, us, rfl, h1, r1⟩)⟩⟩
  · cases e
/-! isinstance -/
theorem kit_rw {pins : List (Addr × Obj)} {σr : St} {F : Addr → Prop} {H : Hp} {s : Shared} {x : V} {u : Value} {p : PV} {t : String} (I : Inv X pins σr H s) (rx : RelV x u) (r : RW (cn X) F H p x) (e : tyName p = some t) :
    ∃ P : Heap → Prop, PySem.W.KitX X.K u (.type t) P ∧ P s.heap ∧ u ≠ .builtin "__main__.__loader__#opaque" := by
  cases p with
  | non => cases e; obtain rfl := r.non; cases (show u = Value.none from rx); exact ⟨_, PySem.W.kitx_none, True.intro, fun z => nomatch z⟩
  | bl b => cases e; obtain rfl := r.bl; cases (show u = Value.bool b from rx); exact ⟨_, PySem.W.kitx_bool, True.intro, fun z => nomatch z⟩
  | int i => cases e; obtain rfl := r.int; obtain ⟨t, q⟩ := (show ∃ t, u = Value.int i t from rx); cases q; exact ⟨_, PySem.W.kitx_int, True.intro, fun z => nomatch z⟩
  | str i => cases e; obtain rfl := r.str; obtain ⟨t, q⟩ := (show ∃ t, u = Value.str i t from rx); cases q; exact ⟨_, PySem.W.kitx_str, True.intro, fun z => nomatch z⟩
  | tup xs =>
    cases e
    obtain ⟨a, us, rfl, h1, r1⟩ := r.tup
    cases (show u = Value.ref a from rx)
    obtain ⟨its, _, ⟨o, ho, hc, _⟩, _⟩ := I.tuple h1
    exact ⟨_, PySem.W.kitx_tuple, ⟨o, ho, hc⟩, fun z => nomatch z⟩
  | lst xs =>
    cases e
    obtain ⟨a, us, rfl, h1, r1⟩ := r.lst
    cases (show u = Value.ref a from rx)
    obtain ⟨its, _, ⟨o, n, ho, hc, _⟩, _⟩ := I.list h1
    exact ⟨_, PySem.W.kitx_list, ⟨o, ho, hc⟩, fun z => nomatch z⟩
  | dct ks vs =>
    cases e
    obtain ⟨a, xs, us, rfl, ⟨_, _, _, ob, es, ep, e, ex, _⟩, _⟩ := r.dct
    cases (show u = Value.ref a from rx)
    have hh : ObjOk X.prog X.w H s.heap a (.ext fun h => h.get? a = some ob) := I.hok a _ e
    exact ⟨_, PySem.W.kitx_dict, ⟨ob, hh.1, ex.1⟩, fun z => nomatch z⟩
  | _ => cases e
theorem isB_ok {p : PV} {n t : String} {b : Bool} (e : tyName p = some t) (h : isB p n = some b) : kitB t n = some b := by
  unfold isB at h
  cases p <;> simp only [tyName] at e <;> cases e <;>
    (simp only at h
     repeat' (first
       | (split at h; · (subst_vars; cases h; decide +kernel))
       | (cases h; done)))
def rIsiZ (X : Cx) : List V → Hp → VK → Prop := fun xs H Q => ∃ (x : V) (n t : String) (b : Bool) (F : Addr → Prop) (p : PV), xs = [x, .ty n] ∧ RW (cn X) F H p x ∧ tyName p = some t ∧ isB p n = some b ∧ Q (.bl b) H
theorem cr_isiZ : CallR X (.builtin "isinstance") (rIsiZ X) := by
  intro pins s σ H xs us Q I r h
  obtain ⟨x, n, t, b, F, p, rfl, rw_, et, eb, q⟩ := h
  obtain ⟨u1, u2, rfl, r1, r2⟩ := vals2 r
  cases (show u2 = Value.type n from r2)
  obtain ⟨P, Z, pp, hx⟩ := kit_rw I r1 rw_ et
  exact PySem.W.kia_one Z I.kIn pp (kit_ty (isB_ok et eb)) hx fun tk => ⟨.bl b, H, I.tok tk, rfl, q⟩
theorem opn_isi : OpN (cn X) (rIsiZ X) fnIsi := by
  intro F H ps o vs Q rs e h
  unfold fnIsi at e
  split at e
  · rename_i p n
    obtain ⟨b, e1, rfl⟩ := Option.map_eq_some_iff.mp e
    obtain ⟨v, u, rfl, r, r2⟩ := rs.two
    obtain rfl := r2.ty
    cases et : tyName p with
    | none => cases p <;> simp [tyName] at et <;> simp [isB] at e1
    | some t => exact ⟨v, n, t, b, F, p, rfl, r, et, e1, h _ RF.bl_⟩
  · cases e
variable {W : WX} {e : Expr} {es : List Expr} {da : DA} {x : Str} {p pos : Pos} {id T : String} {r : List V → Hp → VK → Prop} {f : List PV → Option Ot}
theorem z_cB (hf : OpN (cn X) r f) (hc : CallR X (.builtin id) r) (hg : Gl X x) (hm : X.mg x = none) (hv : bootBuiltins x = some (.builtin id)) (ha : PA X (e :: es) (EVA (cn X) W da)) (hn : x ≠ "__name__" := by decide) (hdb : (x == ("__debug__" : Str)) = false := by decide)
    (he : starEach (e :: es) X.env = (false, eval e X.env) :: starEach es X.env := by rfl) (hpl : (backTo pos (starEach es X.env)).any (·.1) = false := by rfl) : PE X (.Call (.Name x p) (e :: es) [] pos) (EV (cn X) W (dCB f da)) :=
  z_cb hf (pe_callB hc hg hm hv ha hn hdb he hpl)
theorem z_cT (hf : OpN (cn X) r f) (hc : CallR X (.type T) r) (hg : Gl X x) (hm : X.mg x = none) (hv : bootBuiltins x = some (.type T)) (ha : PA X (e :: es) (EVA (cn X) W da)) (hn : x ≠ "__name__" := by decide) (hdb : (x == ("__debug__" : Str)) = false := by decide)
    (he : starEach (e :: es) X.env = (false, eval e X.env) :: starEach es X.env := by rfl) (hpl : (backTo pos (starEach es X.env)).any (·.1) = false := by rfl) : PE X (.Call (.Name x p) (e :: es) [] pos) (EV (cn X) W (dCB f da)) :=
  z_cb hf (pe_callTy hc hg hm hv ha hn hdb he hpl)
end

/-! ### in place -/
def wr (r : EVal) (p : PV) (σ : PSt) : Option PSt := match r with
  | .at i => match σ.sl[i]? with
    | some (some (.own _)) => some ⟨σ.sl.set i (some (.own p)), σ.ln⟩
    | _ => none
  | .lo k => if k < σ.ln.length then some ⟨σ.sl, σ.ln.set k p⟩ else none
  | .new _ => some σ
  | .val _ => none
/-- the receiver's content, the arguments' values: the answer, the new content -/
abbrev Mf := PV → List PV → Option (Ot × PV)
def dMut (f : Mf) (d : DE) (da : DA) : DE := fun σ => (d σ).bind fun r σ1 => (da σ1).bind fun rs σ2 => match rd σ2 r, dTup.vals rs with
  | some p, some ps => match f p ps with
    | some (o, q) => match wr r q σ2 with
      | some σ3 => otR (some o) σ3
      | none => .no
    | none => .no
  | _, _ => .no
section
variable {c : Cn} {F : Addr → Prop} {la : List Addr} {σ σ' : PSt} {σr : St} {H : Hp}
/-- a value that may be written, with where it stands -/
theorem wr_at (S : SR c F la σ σr H) {g : Gh} (x : Ex g ⟨F, H, Ow σ σr la⟩) {r : EVal} {v : V} {p q : PV} (h : ER c F la (Ow σ σr la) (Nw g) σr H r v) (e : rd σ r = some p) (ew : wr r q σ = some σ') :
    ∃ a, v = .ref a ∧ RO c F H p a ∧ ¬ F a ∧ Nw g a ∧ ∀ o, RO c F (upd H a o) q a → Ex g ⟨F, upd H a o, Ow σ' σr la⟩ ∧ SR c F la σ' σr (upd H a o) := by
  have main : ∀ a, RO c F H p a → ¬ F a → Nw g a → (∀ b, Ow σ' σr la b → Ow σ σr la b) → (∀ o, RO c F (upd H a o) q a →
      (∀ b u, H b = some u → (F b ∨ Stl u) → upd H a o b = some u) → (∀ b, b ≠ a → upd H a o b = H b) → SR c F la σ' σr (upd H a o)) →
      (RO c F H p a ∧ ¬ F a ∧ Nw g a ∧ ∀ o, RO c F (upd H a o) q a → Ex g ⟨F, upd H a o, Ow σ' σr la⟩ ∧ SR c F la σ' σr (upd H a o)) := by
    intro a r nf nn ho hS
    refine ⟨r, nf, nn, fun o ro => ⟨⟨x.fr, fun b u e n => ?_, fun b z => x.ow b (ho b z), x.fn⟩, ?_⟩⟩
    · have hb : b ≠ a := fun z => by
        subst z
        rcases nn with z | z
        · exact n z
        · rw [e] at z; cases z
      show upd H a o b = some u
      rw [upd_ne hb]
      exact x.kp b u e n
    · obtain ⟨u0, e0, ns⟩ := r.there
      refine hS o ro (fun b u e h => ?_) fun b hb => upd_ne hb
      have hb : b ≠ a := fun z => by
        subst z
        rw [e0] at e; cases e
        rcases h with h | h
        · exact nf h
        · exact ns h
      rw [upd_ne hb]
      exact e
  cases r with
  | val w => cases ew
  | new w =>
    cases ew
    cases e
    obtain ⟨a, rfl, r, nf, no, nn⟩ := h
    refine ⟨a, rfl, main a r nf nn (fun _ z => z) fun o ro k kb => ?_⟩
    refine ⟨S.len, fun i v e => ?_, S.lo, fun i v e => ?_, S.inj, S.lln, S.lnd, fun j v b e e1 => ?_, fun b f => ?_⟩
    · obtain ⟨u, e1, r⟩ := S.frz i v e
      exact ⟨u, e1, RF.ext (fun _ f => f) k _ _ r⟩
    · obtain ⟨b, e1, r, n, m⟩ := S.own i v e
      have hb : b ≠ a := fun z => no (by subst z; exact .inr ⟨i, v, e, e1⟩)
      exact ⟨b, e1, r.ext (fun _ f => f) k fun u e => by rw [kb b hb]; exact e, n, m⟩
    · obtain ⟨r, n⟩ := S.ln j v b e e1
      have hb : b ≠ a := fun z => no (by subst z; exact .inl (List.mem_of_getElem? e1))
      exact ⟨r.ext (fun _ f => f) k fun u e => by rw [kb b hb]; exact e, n⟩
    · obtain ⟨u, e⟩ := S.ftr b f
      exact ⟨u, k b u e (.inl f)⟩
  | «at» i =>
    have h' : σr[i]? = some (some v) := h
    rw [wr] at ew
    cases qs : σ.sl[i]? with
    | none => rw [qs] at ew; cases ew
    | some t =>
      cases t with
      | none => rw [qs] at ew; cases ew
      | some t =>
        rw [qs] at ew
        cases t with
        | own w =>
          cases ew
          rw [rd, qs] at e
          cases e
          obtain ⟨a, e2, r, nf, nl⟩ := S.own i p qs
          rw [h'] at e2; cases e2
          have hi : i < σ.sl.length := (List.getElem?_eq_some_iff.mp qs).1
          have old : ∀ (j : Nat) (s : Sl), j ≠ i → (σ.sl.set i (some (.own q)))[j]? = some (some s) → σ.sl[j]? = some (some s) := fun j s hj e => by
            rw [List.getElem?_set_ne (Ne.symm hj)] at e; exact e
          refine ⟨a, rfl, main a r nf (x.ow a (.inr ⟨i, p, qs, h'⟩)) (fun b z => ?_) fun o ro k kb => ?_⟩
          · rcases z with z | ⟨j, w, e1, e2⟩
            · exact .inl z
            · by_cases hj : j = i
              · subst hj
                rw [h'] at e2; cases e2
                exact .inr ⟨j, p, qs, h'⟩
              · exact .inr ⟨j, w, old j _ hj e1, e2⟩
          · refine ⟨by simpa using S.len, fun j v e => ?_, fun j kk e => ?_, fun j v e => ?_, fun j j' v w b e1 e2 e3 e4 => ?_, S.lln, S.lnd, fun j v b e e1 => ?_, fun b f => ?_⟩
            · by_cases hj : j = i
              · subst hj
                have e' : some (some (Sl.own q)) = some (some (Sl.frz v)) := (List.getElem?_set_self hi).symm.trans e
                cases e'
              · obtain ⟨u, e1, r⟩ := S.frz j v (old j _ hj e)
                exact ⟨u, e1, RF.ext (fun _ f => f) k _ _ r⟩
            · by_cases hj : j = i
              · subst hj
                have e' : some (some (Sl.own q)) = some (some (Sl.lo kk)) := (List.getElem?_set_self hi).symm.trans e
                cases e'
              · exact S.lo j kk (old j _ hj e)
            · by_cases hj : j = i
              · subst hj
                have e' : some (some (Sl.own q)) = some (some (Sl.own v)) := (List.getElem?_set_self hi).symm.trans e
                cases e'
                exact ⟨a, h', ro, nf, nl⟩
              · obtain ⟨b, e1, r, n, m⟩ := S.own j v (old j _ hj e)
                have hb : b ≠ a := fun z => hj (by subst z; exact S.inj j i v p b (old j _ hj e) qs e1 h')
                exact ⟨b, e1, r.ext (fun _ f => f) k fun u e => by rw [kb b hb]; exact e, n, m⟩
            · have fix : ∀ (j : Nat) (v : PV), (σ.sl.set i (some (.own q)))[j]? = some (some (Sl.own v)) → ∃ v', σ.sl[j]? = some (some (Sl.own v')) := fun j v e => by
                by_cases hj : j = i
                · subst hj; exact ⟨p, qs⟩
                · exact ⟨v, old j _ hj e⟩
              obtain ⟨v', e1'⟩ := fix j v e1
              obtain ⟨w', e2'⟩ := fix j' w e2
              exact S.inj j j' v' w' b e1' e2' e3 e4
            · obtain ⟨r, n⟩ := S.ln j v b e e1
              have hb : b ≠ a := fun z => nl (by subst z; exact List.mem_of_getElem? e1)
              exact ⟨r.ext (fun _ f => f) k fun u e => by rw [kb b hb]; exact e, n⟩
            · obtain ⟨u, e⟩ := S.ftr b f
              exact ⟨u, k b u e (.inl f)⟩
        | _ => cases ew
  | lo j =>
    obtain ⟨a, rfl, hk⟩ := h
    rw [wr] at ew
    by_cases hj : j < σ.ln.length
    · rw [if_pos hj] at ew
      cases ew
      have e' : σ.ln[j]? = some p := e
      obtain ⟨r, nf⟩ := S.ln j p a e' hk
      have mem : a ∈ la := List.mem_of_getElem? hk
      refine ⟨a, rfl, main a r nf (x.ow a (.inl mem)) (fun b z => z) fun o ro k kb => ?_⟩
      refine ⟨S.len, fun i v e => ?_, S.lo, fun i v e => ?_, S.inj, by simpa using S.lln, S.lnd, fun i v b e e1 => ?_, fun b f => ?_⟩
      · obtain ⟨u, e1, r⟩ := S.frz i v e
        exact ⟨u, e1, RF.ext (fun _ f => f) k _ _ r⟩
      · obtain ⟨b, e1, r, n, m⟩ := S.own i v e
        have hb : b ≠ a := fun z => m (by subst z; exact mem)
        exact ⟨b, e1, r.ext (fun _ f => f) k fun u e => by rw [kb b hb]; exact e, n, m⟩
      · by_cases hi : i = j
        · subst hi
          have e2 : some q = some v := (List.getElem?_set_self hj).symm.trans e
          cases e2
          rw [hk] at e1; cases e1
          exact ⟨ro, nf⟩
        · have e2 : σ.ln[i]? = some v := (List.getElem?_set_ne (Ne.symm hi)).symm.trans e
          obtain ⟨r, n⟩ := S.ln i v b e2 e1
          have hb : b ≠ a := fun z => hi (by
            subst z
            obtain ⟨h1, e3⟩ := List.getElem?_eq_some_iff.mp e1
            obtain ⟨h2, e4⟩ := List.getElem?_eq_some_iff.mp hk
            exact (List.getElem_inj S.lnd).mp (e3.trans e4.symm))
          exact ⟨r.ext (fun _ f => f) k fun u e => by rw [kb b hb]; exact e, n⟩
      · obtain ⟨u, e⟩ := S.ftr b f
        exact ⟨u, k b u e (.inl f)⟩
    · rw [if_neg hj] at ew; cases ew
end
end L2.Zz

/-! Z8: methods that write, statements, loops. -/
namespace L2.Zz
open PySem PySem.Spec PyProof.Rows

/-! ### methods of lists -/
def isLst : Option PV → Bool
  | some (.lst _) => true
  | _ => false
def dMutL (f : Mf) (d : DE) (da : DA) : DE := fun σ => (d σ).bind fun r σ1 => if isLst (rd σ1 r) = true then (da σ1).bind fun rs σ2 => match rd σ2 r, dTup.vals rs with
  | some p, some ps => match f p ps with
    | some (o, q) => match wr r q σ2 with
      | some σ3 => otR (some o) σ3
      | none => .no
    | none => .no
  | _, _ => .no else .no
def OpM (c : Cn) (r : V → List V → Hp → VK → Prop) (f : Mf) : Prop := ∀ F H a p ps vs o q Q, RO c F H p a → RFs c F H ps vs → f p ps = some (o, q) → (∀ b u, H b = some u → (F b ∨ Stl u) → ∀ ob, upd H a ob b = some u) →
  (∀ ob, RO c F (upd H a ob) q a → OtP c F (upd H a ob) o Q) → r (.ref a) vs H Q
def mAppend : Mf
  | .lst xs, [y] => if xs.length < szL then some (.v .non, .lst (xs ++ [y])) else none
  | _, _ => none
def mPop : Mf
  | .lst xs, [] => (xs[xs.length - 1]?).map fun y => (.v y, .lst xs.dropLast)
  | _, _ => none
def mClear : Mf
  | .lst _, [] => some (.v .non, .lst [])
  | _, _ => none
def mReverse : Mf
  | .lst xs, [] => some (.v .non, .lst xs.reverse)
  | _, _ => none
section
variable {c : Cn}
theorem RFs.dropLast {F : Addr → Prop} {H : Hp} {ps : List PV} {us : List V} (r : RFs c F H ps us) : RFs c F H ps.dropLast us.dropLast := by
  rw [List.dropLast_eq_take, List.dropLast_eq_take, ← r.length]
  exact r.take _
theorem opm_append : OpM c rAppend mAppend := by
  intro F H a p ps vs o q Q ro rs e k h
  unfold mAppend at e
  split at e
  · split at e
    · rename_i xs y hl
      cases e
      obtain ⟨us, e1, r1⟩ := ro
      unfold RFs at rs
      obtain ⟨u, r, rfl, h1, h2⟩ := rs
      unfold RFs at h2
      subst h2
      have kk := fun b o e s => k b o e s (.lst (us ++ [u]))
      refine ⟨a, us, u, rfl, rfl, e1, by rw [← r1.length, szL_eq]; exact hl, h _ ?_ _ RF.non_⟩
      exact ⟨_, upd_same, (RFs.ext (fun _ f => f) kk _ _ r1).append (RFs.cons_ (RF.ext (fun _ f => f) kk _ _ h1) RFs.nil_)⟩
    · cases e
  · cases e
theorem opm_pop : OpM c rPop mPop := by
  intro F H a p ps vs o q Q ro rs e k h
  unfold mPop at e
  split at e
  · rename_i xs
    obtain ⟨y, e1, e2⟩ := Option.map_eq_some_iff.mp e
    cases e2
    obtain ⟨us, e3, r1⟩ := ro
    unfold RFs at rs
    subst rs
    obtain ⟨u, e4, r2⟩ := r1.get e1
    have kk := fun b o e s => k b o e s (.lst us.dropLast)
    refine ⟨a, us, u, rfl, rfl, e3, by rw [← r1.length]; exact e4, h _ ?_ _ (RF.ext (fun _ f => f) kk _ _ r2)⟩
    exact ⟨_, upd_same, (RFs.ext (fun _ f => f) kk _ _ r1).dropLast⟩
  · cases e
theorem opm_clear : OpM c rClear mClear := by
  intro F H a p ps vs o q Q ro rs e k h
  unfold mClear at e
  split at e
  · cases e
    obtain ⟨us, e3, r1⟩ := ro
    unfold RFs at rs
    subst rs
    exact ⟨a, us, rfl, rfl, e3, h _ ⟨_, upd_same, RFs.nil_⟩ _ RF.non_⟩
  · cases e
theorem opm_reverse : OpM c rReverse mReverse := by
  intro F H a p ps vs o q Q ro rs e k h
  unfold mReverse at e
  split at e
  · cases e
    obtain ⟨us, e3, r1⟩ := ro
    unfold RFs at rs
    subst rs
    have kk := fun b o e s => k b o e s (.lst us.reverse)
    exact ⟨a, us, rfl, rfl, e3, h _ ⟨_, upd_same, (RFs.ext (fun _ f => f) kk _ _ r1).reverse⟩ _ RF.non_⟩
  · cases e
end
section
variable {X : Cx} {W : WX} {o e : Expr} {es : List Expr} {d : DE} {da : DA} {name : Str} {apos cpos : Pos} {id : String} {r : V → List V → Hp → VK → Prop} {f : Mf}
theorem mut_read {σr : St} {H : Hp} {Q : VK} (hf : OpM (cn X) r f) (h : EV (cn X) W (dMutL f d da) σr H Q) : tBM X.K "list" r (EV (cn X) W d) (EVA (cn X) W da) σr H Q := by
  obtain ⟨F, la, σ, S, x, g⟩ := h.start
  refine EV.seq S x g fun F1 σ1 rv v H1 x1 S1 e1 f1 => ?_
  by_cases hl : isLst (rd σ1 rv) = true
  · rw [if_pos hl] at f1
    obtain ⟨xs0, q0⟩ : ∃ xs, rd σ1 rv = some (.lst xs) := by
      cases q : rd σ1 rv with
      | none => rw [q] at hl; cases hl
      | some p => cases p with
        | lst xs => exact ⟨xs, rfl⟩
        | _ => rw [q] at hl; cases hl
    obtain ⟨a0, us0, rfl, hs0, _⟩ := (rd_ok S1 e1 q0).lst
    refine ⟨.inl ⟨rfl, us0, hs0⟩, F1, la, σ1, S1, (f1.bind.step x1).mono fun rs σ2 F2 H2 x2 S2 f2 vs es => ?_⟩
    have e2 := e1.ext S1 x2
    cases qa : rd σ2 rv with
    | none => simp [qa] at f2; exact f2.elim
    | some p =>
      cases qb : dTup.vals rs with
      | none => simp [qa, qb] at f2; exact f2.elim
      | some ps =>
        rw [qa, qb] at f2
        simp only at f2
        cases qf : f p ps with
        | none => rw [qf] at f2; exact f2.elim
        | some oq =>
          obtain ⟨ot, q⟩ := oq
          rw [qf] at f2
          simp only at f2
          cases qw : wr rv q σ2 with
          | none => rw [qw] at f2; exact f2.elim
          | some σ3 =>
            rw [qw] at f2
            obtain ⟨a, ea, ro, nf, nn, wrk⟩ := wr_at S2 (x1.trans x2) e2 qa qw
            cases ea
            obtain ⟨u0, eu, ns⟩ := ro.there
            refine hf F2 H2 a0 p ps vs ot q Q ro (vals_ok es qb) qf (fun b u e h ob => ?_) fun ob rob => ?_
            · rw [upd_ne (fun z => ?_)]
              · exact e
              · subst z
                rw [eu] at e; cases e
                rcases h with h | h
                · exact nf h
                · exact ns h
            · obtain ⟨x3, S3⟩ := wrk ob rob
              exact ot_fin S3 x3 f2
  · rw [if_neg hl] at f1; exact f1.elim
theorem z_mt (hf : OpM (cn X) r f) (pa : PlainAttrs "list") (slot : Slot "list" name id) (hty : typeOf (.builtin id) = pure (.type "method_descriptor")) (hm : MtR X id r) (ho : PE X o (EV (cn X) W d)) (ha : PA X (e :: es) (EVA (cn X) W da))
    (hbase : attributeBase o name X.env (eval o X.env) = eval o X.env := by rfl)
    (hfew : ((backTo cpos (starEach (e :: es) X.env)).all (fun x => !x.1) && (backToKw cpos (keywordEach [] X.env)).all (fun x => x.1.isSome)
      && decide ((e :: es).length + ([] : List Keyword).length + (if ([] : List Keyword).isEmpty then 0 else 1) < 30)) = true := by rfl)
    (hline : (apos.endLine == cpos.line) = true := by rfl) (hs : starEach (e :: es) X.env = (false, eval e X.env) :: starEach es X.env := by rfl) (hplain : (backTo cpos (starEach es X.env)).any (·.1) = false := by rfl) :
    PE X (.Call (.Attribute o name apos) (e :: es) [] cpos) (EV (cn X) W (dMutL f d da)) := PE.wk (pe_bm pa slot hty hm ho ha hbase hfew hline hs hplain) fun _ _ _ q => mut_read hf q
theorem z_mt0 (hf : OpM (cn X) r f) (pa : PlainAttrs "list") (slot : Slot "list" name id) (hty : typeOf (.builtin id) = pure (.type "method_descriptor")) (hm : MtR X id r) (ho : PE X o (EV (cn X) W d))
    (hbase : attributeBase o name X.env (eval o X.env) = eval o X.env := by rfl) (hline : (apos.endLine == cpos.line) = true := by rfl) : PE X (.Call (.Attribute o name apos) [] [] cpos) (EV (cn X) W (dMutL f d dNil)) :=
  PE.wk (pe_bm0 pa slot hty hm ho hbase hline) fun σr H Q q => by
    obtain ⟨F, la, σ, S, f⟩ := mut_read hf q
    refine ⟨F, la, σ, S, f.mono fun r σ' F' H' x S' q v e => ?_⟩
    obtain ⟨ty, F2, la2, σ2, S2, f2⟩ := q v e
    exact ⟨ty, f2 F2 H' (Ex.refl _) S2 [] .nil⟩
end

/-! ### statements -/
inductive Fl where
  | nx | bk | ct
  | rt (r : EVal)
abbrev DS := PSt → Rs Fl
abbrev DG := PV → PSt → Rs Unit
def FinS {α : Type} (c : Cn) (W : WX) (la : List Addr) (g : Gh) (o : Rs α) (P : α → PSt → St → (Addr → Prop) → Hp → Prop) : Prop := match o with
  | .ok r σ' => ∀ F' H' σr', Ex g ⟨F', H', Ow σ' σr' la⟩ → SR c F' la σ' σr' H' → P r σ' σr' F' H'
  | .ex e σ' => ∀ F' H' σr' cls dd, Ex g ⟨F', H', Ow σ' σr' la⟩ → SR c F' la σ' σr' H' → (∃ C, cls = .ref C ∧ c.mg e.cls = some (.ref C)) → XF c F' H' e dd → W cls dd σr' H'
  | .no => False
section
variable {c : Cn} {W : WX} {la : List Addr} {g g' : Gh} {α β : Type}
theorem FinS.step {o : Rs α} {P : α → PSt → St → (Addr → Prop) → Hp → Prop} (h : FinS c W la g o P) (x : Ex g g') : FinS c W la g' o P := by
  cases o with
  | ok r σ' => exact fun F' H' σr' y s => h F' H' σr' (x.trans y) s
  | ex e σ' => exact fun F' H' σr' cls dd y s => h F' H' σr' cls dd (x.trans y) s
  | no => exact h
theorem FinS.mono {o : Rs α} {P P' : α → PSt → St → (Addr → Prop) → Hp → Prop} (h : FinS c W la g o P) (m : ∀ r σ' σr' F' H', Ex g ⟨F', H', Ow σ' σr' la⟩ → SR c F' la σ' σr' H' → P r σ' σr' F' H' → P' r σ' σr' F' H') : FinS c W la g o P' := by
  cases o with
  | ok r σ' => exact fun F' H' σr' y s => m _ _ _ _ _ y s (h F' H' σr' y s)
  | ex e σ' => exact h
  | no => exact h
theorem FinS.bind {o : Rs α} {k : α → PSt → Rs β} {P : β → PSt → St → (Addr → Prop) → Hp → Prop} (h : FinS c W la g (o.bind k) P) : FinS c W la g o fun r σ' _ _ _ => FinS c W la g (k r σ') P := by
  cases o with
  | ok r σ' => exact fun F' H' σr' y s => h
  | ex e σ' => exact h
  | no => exact h
/-- an expression first -/
theorem FinS.expr {o : Rs α} {σr : St} {k : α → PSt → Rs β} {P : β → PSt → St → (Addr → Prop) → Hp → Prop} (h : FinS c W la g (o.bind k) P) : Fin c W la σr g o fun r σ' _ _ => FinS c W la g (k r σ') P := by
  cases o with
  | ok r σ' => exact fun F' H' y s => h
  | ex e σ' => exact fun F' H' cls dd y s => h F' H' σr cls dd y s
  | no => exact h
end
theorem finS_if {α : Type} {c : Cn} {W : WX} {la : List Addr} {g : Gh} {C : Prop} [Decidable C] {o : Rs α} {P : α → PSt → St → (Addr → Prop) → Hp → Prop} (h : FinS c W la g (if C then o else .no) P) : C ∧ FinS c W la g o P := by
  by_cases hc : C
  · rw [if_pos hc] at h; exact ⟨hc, h⟩
  · rw [if_neg hc] at h; exact h.elim
def endP (c : Cn) (la : List Addr) (g : Gh) (D : Ends) : Fl → PSt → St → (Addr → Prop) → Hp → Prop := fun f σ' σr' F' H' => match f with
  | .nx => D.nx σr' H'
  | .bk => D.bk σr' H'
  | .ct => D.ct σr' H'
  | .rt r => ∀ v, ER c F' la (Ow σ' σr' la) (Nw g) σr' H' r v → D.rt v H'
def SV (c : Cn) (W : WX) (d : DS) : TS := fun D σr H => ∃ F la σ, SR c F la σ σr H ∧ FinS c W la ⟨F, H, Ow σ σr la⟩ (d σ) (endP c la ⟨F, H, Ow σ σr la⟩ D)
def GV (c : Cn) (W : WX) (d : DG) : TG := fun v σr H Q => ∃ F la σ p, SR c F la σ σr H ∧ RF c F H p v ∧ FinS c W la ⟨F, H, Ow σ σr la⟩ (d p σ) fun _ _ σr' _ H' => Q σr' H'
def GVs (c : Cn) (W : WX) (d : List PV → PSt → Rs Unit) : TGs := fun vs σr H Q => ∃ F la σ ps, SR c F la σ σr H ∧ RFs c F H ps vs ∧ FinS c W la ⟨F, H, Ow σ σr la⟩ (d ps σ) fun _ _ σr' _ H' => Q σr' H'
/-- storing into a slot -/
def st (i : Nat) (r : EVal) (σ : PSt) : Rs Unit := match r with
  | .val v => .ok () ⟨σ.sl.set i (some (.frz v)), σ.ln⟩
  | .new v => .ok () ⟨σ.sl.set i (some (.own v)), σ.ln⟩
  | .lo k => .ok () ⟨σ.sl.set i (some (.lo k)), σ.ln⟩
  | .at j => (fz (.at j) σ).bind fun p σ1 => .ok () ⟨σ1.sl.set i (some (.frz p)), σ1.ln⟩
def SlR (c : Cn) (F : Addr → Prop) (la : List Addr) (O : Addr → Prop) (H : Hp) (s : Sl) (v : V) : Prop := match s with
  | .frz p => RF c F H p v
  | .own p => ∃ a, v = .ref a ∧ RO c F H p a ∧ ¬ F a ∧ ¬ O a
  | .lo k => ∃ a, v = .ref a ∧ la[k]? = some a
section
variable {c : Cn} {F : Addr → Prop} {la : List Addr} {σ σ' : PSt} {σr : St} {H : Hp} {g : Gh}
theorem set_sl (S : SR c F la σ σr H) (x : Ex g ⟨F, H, Ow σ σr la⟩) (i : Nat) {s : Sl} {v : V} (h : SlR c F la (Ow σ σr la) H s v) (nn : ∀ a, v = .ref a → (∃ p, s = .own p) → Nw g a) :
    Ex g ⟨F, H, Ow ⟨σ.sl.set i (some s), σ.ln⟩ (σr.set i (some v)) la⟩ ∧ SR c F la ⟨σ.sl.set i (some s), σ.ln⟩ (σr.set i (some v)) H := by
  by_cases hi : i < σ.sl.length
  · have hir : i < σr.length := by rw [← S.len]; exact hi
    have old : ∀ (j : Nat) (t : Sl), j ≠ i → (σ.sl.set i (some s))[j]? = some (some t) → σ.sl[j]? = some (some t) := fun j t hj e => by
      rw [List.getElem?_set_ne (Ne.symm hj)] at e; exact e
    have oldr : ∀ (j : Nat), j ≠ i → (σr.set i (some v))[j]? = σr[j]? := fun j hj => List.getElem?_set_ne (Ne.symm hj)
    have self : ∀ t, (σ.sl.set i (some s))[i]? = some (some t) → t = s := fun t e => by
      rw [List.getElem?_set_self hi] at e; cases e; rfl
    have selfr : (σr.set i (some v))[i]? = some (some v) := List.getElem?_set_self hir
    refine ⟨⟨x.fr, x.kp, fun b z => ?_, x.fn⟩, ⟨by simpa using S.len, fun j w e => ?_, fun j k e => ?_, fun j w e => ?_, fun j j' w w' b e1 e2 e3 e4 => ?_, S.lln, S.lnd, S.ln, S.ftr⟩⟩
    · rcases z with z | ⟨j, w, e1, e2⟩
      · exact x.ow b (.inl z)
      · by_cases hj : j = i
        · subst hj
          have es := self _ e1
          have e2' : some (some v) = some (some (V.ref b)) := selfr.symm.trans e2
          cases e2'
          exact nn b rfl ⟨w, es.symm⟩
        · exact x.ow b (.inr ⟨j, w, old j _ hj e1, (oldr j hj).symm.trans e2⟩)
    · by_cases hj : j = i
      · subst hj
        obtain rfl := self _ e
        exact ⟨v, selfr, h⟩
      · obtain ⟨u, e1, r⟩ := S.frz j w (old j _ hj e)
        exact ⟨u, (oldr j hj).trans e1, r⟩
    · by_cases hj : j = i
      · subst hj
        obtain rfl := self _ e
        obtain ⟨a, rfl, hk⟩ := h
        exact ⟨a, selfr, hk⟩
      · obtain ⟨u, e1, r⟩ := S.lo j k (old j _ hj e)
        exact ⟨u, (oldr j hj).trans e1, r⟩
    · by_cases hj : j = i
      · subst hj
        obtain rfl := self _ e
        obtain ⟨a, rfl, ro, nf, no⟩ := h
        exact ⟨a, selfr, ro, nf, fun z => no (.inl z)⟩
      · obtain ⟨u, e1, r⟩ := S.own j w (old j _ hj e)
        exact ⟨u, (oldr j hj).trans e1, r⟩
    · by_cases hj : j = i
      · by_cases hj' : j' = i
        · rw [hj, hj']
        · exfalso
          subst hj
          obtain rfl := self _ e1
          obtain ⟨a, rfl, ro, nf, no⟩ := h
          have e3' : some (some (V.ref a)) = some (some (V.ref b)) := selfr.symm.trans e3
          cases e3'
          exact no (.inr ⟨j', w', old j' _ hj' e2, (oldr j' hj').symm.trans e4⟩)
      · by_cases hj' : j' = i
        · exfalso
          subst hj'
          obtain rfl := self _ e2
          obtain ⟨a, rfl, ro, nf, no⟩ := h
          have e3' : some (some (V.ref a)) = some (some (V.ref b)) := selfr.symm.trans e4
          cases e3'
          exact no (.inr ⟨j, w, old j _ hj e1, (oldr j hj).symm.trans e3⟩)
        · exact S.inj j j' w w' b (old j _ hj e1) (old j' _ hj' e2) ((oldr j hj).symm.trans e3) ((oldr j' hj').symm.trans e4)
  · have h1 : σ.sl.set i (some s) = σ.sl := List.set_eq_of_length_le (by omega)
    have h2 : σr.set i (some v) = σr := List.set_eq_of_length_le (by rw [← S.len]; omega)
    have h3 : (⟨σ.sl, σ.ln⟩ : PSt) = σ := rfl
    rw [h1, h2]
    exact ⟨x, S⟩
theorem st_ok (S : SR c F la σ σr H) (x : Ex g ⟨F, H, Ow σ σr la⟩) {i : Nat} {r : EVal} {v : V} (h : ER c F la (Ow σ σr la) (Nw g) σr H r v) (e : st i r σ = .ok () σ') :
    ∃ F', Ex g ⟨F', H, Ow σ' (σr.set i (some v)) la⟩ ∧ SR c F' la σ' (σr.set i (some v)) H := by
  cases r with
  | val p =>
    cases e
    exact ⟨F, set_sl S x i (s := .frz p) h fun a _ ⟨p, z⟩ => by cases z⟩
  | new p =>
    cases e
    obtain ⟨a, rfl, ro, nf, no, nn⟩ := h
    exact ⟨F, set_sl S x i (s := .own p) ⟨a, rfl, ro, nf, no⟩ fun b e _ => by cases e; exact nn⟩
  | lo k =>
    cases e
    exact ⟨F, set_sl S x i (s := .lo k) h fun a _ ⟨p, z⟩ => by cases z⟩
  | «at» j =>
    rw [st] at e
    cases q : fz (.at j) σ with
    | no => rw [q] at e; cases e
    | ex ee s => rw [q] at e; cases e
    | ok p σ1 =>
      rw [q] at e
      cases e
      obtain ⟨F', x', S', r', _⟩ := fz_ok S x h q
      exact ⟨F', set_sl S' x' i (s := .frz p) r' fun a _ ⟨p, z⟩ => by cases z⟩
theorem st_cases {i : Nat} {r : EVal} {σ : PSt} : (∃ σ', st i r σ = .ok () σ') ∨ st i r σ = .no := by
  cases r with
  | val p => exact .inl ⟨_, rfl⟩
  | new p => exact .inl ⟨_, rfl⟩
  | lo k => exact .inl ⟨_, rfl⟩
  | «at» j =>
    rw [st]
    rw [fz]
    cases σ.sl[j]? with
    | none => exact .inr rfl
    | some t => cases t with
      | none => exact .inr rfl
      | some t => cases t <;> first | exact .inl ⟨_, rfl⟩ | exact .inr rfl
end
def dSet (i : Nat) (d : DE) : DS := fun σ => (d σ).bind fun r σ1 => (st i r σ1).bind fun _ σ2 => .ok .nx σ2
def dAsg (d : DE) (g : DG) : DS := fun σ => (d σ).bind fun r σ1 => (fz r σ1).bind fun p σ2 => (g p σ2).bind fun _ σ3 => .ok .nx σ3
def dSeq (a b : DS) : DS := fun σ => (a σ).bind fun f σ1 => match f with
  | .nx => b σ1
  | f => .ok f σ1
def dExp (d : DE) : DS := fun σ => (d σ).bind fun _ σ1 => .ok .nx σ1
def dRet (d : DE) : DS := fun σ => (d σ).bind fun r σ1 => .ok (.rt r) σ1
def dPass : DS := fun σ => .ok .nx σ
def dBrk : DS := fun σ => .ok .bk σ
def dCt : DS := fun σ => .ok .ct σ
def dRetN : DS := fun σ => .ok (.rt (.val .non)) σ
def dNever : DS := fun _ => .no
def dIfS (t : DT) (a b : DS) : DS := fun σ => (t σ).bind fun k σ1 => if k = true then a σ1 else b σ1
def gN (i : Nat) : DG := fun p σ => .ok () ⟨σ.sl.set i (some (.frz p)), σ.ln⟩
def gT (n : Nat) (g : List PV → PSt → Rs Unit) : DG := fun p σ => match p with
  | .tup xs => if xs.length = n then g xs σ else .no
  | _ => .no
/-- a tuple or a list taken apart -/
def gU (n : Nat) (g : List PV → PSt → Rs Unit) : DG := fun p σ => match p with
  | .tup xs => if xs.length = n then g xs σ else .no
  | .lst xs => if xs.length = n then g xs σ else .no
  | _ => .no
def gNil : List PV → PSt → Rs Unit := fun ps σ => match ps with
  | [] => .ok () σ
  | _ => .no
def gCons (g : DG) (gs : List PV → PSt → Rs Unit) : List PV → PSt → Rs Unit := fun ps σ => match ps with
  | p :: ps => (g p σ).bind fun _ σ1 => gs ps σ1
  | [] => .no
section
variable {X : Cx} {W : WX} {e : Expr} {d : DE} {a b : DS} {sa sb : List Stmt} {s : Stmt} {pos : Pos}
theorem z_set {i : Nat} {x : Str} {pos' : Pos} (hN : X.N.Nodup) (hi : X.N[i]? = some x) (hx : Loc X.env.scope x) (he : PE X e (EV (cn X) W d)) (hs : swapsWith e (some (.Name x pos')) pos.line X.env = pure false := by rfl) (hf : X.fn x = true ∨ X.env.scope.names.lookup x = some .local := by first | exact .inl rfl | exact .inr rfl | assumption) :
    PS X (.Assign [.Name x pos'] e pos) (SV (cn X) W (dSet i d)) := PS.wk (ps_set hN hi hx he hs hf) fun D σr H q => by
  obtain ⟨F, la, σ, S, f⟩ := q
  refine ⟨F, la, σ, S, f.expr.mono fun r σ1 F1 H1 x1 S1 f1 v e1 => ?_⟩
  rcases st_cases (i := i) (r := r) (σ := σ1) with ⟨σ2, q⟩ | q
  · rw [q] at f1
    obtain ⟨F2, x2, S2⟩ := st_ok S1 x1 e1 q
    exact f1 F2 H1 _ x2 S2
  · rw [q] at f1; exact f1.elim
theorem z_asg {tg : Expr} {g : DG} (he : PE X e (EV (cn X) W d)) (hg : PG X tg (GV (cn X) W g)) (hs : swapsWithSole [tg] e pos.line X.env = pure false := by rfl) (hw : swappedStores [tg] e X.env = pure none := by rfl)
    (h1 : (assignEach [tg] X.env).map (·.2) = [assign tg X.env] := by rfl) : PS X (.Assign [tg] e pos) (SV (cn X) W (dAsg d g)) := PS.wk (ps_asg he hg hs hw h1) fun D σr H q => by
  obtain ⟨F, la, σ, S, f⟩ := q
  refine ⟨F, la, σ, S, f.expr.mono fun r σ1 F1 H1 x1 S1 f1 v e1 => ?_⟩
  cases q : fz r σ1 with
  | no => rw [q] at f1; exact f1.elim
  | ex ee s =>
    exfalso
    cases r <;> simp only [fz] at q <;> try (cases q)
    split at q <;> cases q
  | ok p σ2 =>
    rw [q] at f1
    obtain ⟨F2, x2, S2, r2, _⟩ := fz_ok S1 x1 e1 q
    have f2 := FinS.bind (o := g p σ2) f1
    exact ⟨F2, la, σ2, p, S2, r2, (f2.step x2).mono fun _ σ3 σr3 F3 H3 x3 S3 f3 => f3 F3 H3 σr3 (x2.trans x3) S3⟩
theorem z_cons (h1 : PS X s (SV (cn X) W a)) (h2 : PSs X sb (SV (cn X) W b)) : PSs X (s :: sb) (SV (cn X) W (dSeq a b)) := PSs.wk (pss_cons h1 h2) fun D σr H q => by
  obtain ⟨F, la, σ, S, f⟩ := q
  refine ⟨F, la, σ, S, f.bind.mono fun fl σ1 σr1 F1 H1 x1 S1 f1 => ?_⟩
  cases fl with
  | nx => exact ⟨F1, la, σ1, S1, (FinS.step f1 x1).mono fun fl σ2 σr2 F2 H2 x2 S2 f2 => by
      cases fl with
      | rt r => exact fun v e => f2 v (e.weak fun a n => x1.back n)
      | _ => exact f2⟩
  | bk => exact f1 F1 H1 σr1 x1 S1
  | ct => exact f1 F1 H1 σr1 x1 S1
  | rt r => exact f1 F1 H1 σr1 x1 S1
theorem z_one (h1 : PS X s (SV (cn X) W a)) : PSs X [s] (SV (cn X) W a) := pss_one h1
theorem z_nil : PSs X [] (SV (cn X) W dPass) := PSs.wk pss_nil fun D σr H q => by
  obtain ⟨F, la, σ, S, f⟩ := q
  exact f F H σr (Ex.refl _) S
theorem z_exp (he : PE X e (EV (cn X) W d)) (hs : swapsWith e none pos.line X.env = pure false := by rfl) : PS X (.Expr e pos) (SV (cn X) W (dExp d)) := PS.wk (ps_expr he hs) fun D σr H q => by
  obtain ⟨F, la, σ, S, f⟩ := q
  exact ⟨F, la, σ, S, f.expr.mono fun r σ1 F1 H1 x1 S1 f1 v e1 => f1 F1 H1 σr x1 S1⟩
theorem z_ret (he : PE X e (EV (cn X) W d)) : PS X (.Return (some e) pos) (SV (cn X) W (dRet d)) := PS.wk (ps_ret he) fun D σr H q => by
  obtain ⟨F, la, σ, S, f⟩ := q
  exact ⟨F, la, σ, S, f.expr.mono fun r σ1 F1 H1 x1 S1 f1 v e1 => f1 F1 H1 σr x1 S1 v e1⟩
theorem z_retN : PS X (.Return none pos) (SV (cn X) W dRetN) := PS.wk ps_retN fun D σr H q => by
  obtain ⟨F, la, σ, S, f⟩ := q
  exact f F H σr (Ex.refl _) S .non (show RF (cn X) F H .non .non from RF.non_)
theorem z_ifS {t : Expr} {dt : DT} (hc : PT X t (EVT (cn X) W dt)) (ha : PSs X sa (SV (cn X) W a)) (hb : PSs X sb (SV (cn X) W b)) : PS X (.If t sa sb pos) (SV (cn X) W (dIfS dt a b)) := PS.wk (ps_if hc ha hb) fun D σr H q => by
  obtain ⟨F, la, σ, S, f⟩ := q
  refine ⟨F, la, σ, S, f.expr.mono fun k σ1 F1 H1 x1 S1 f1 => ?_⟩
  have go : ∀ {o : DS}, FinS (cn X) W la ⟨F, H, Ow σ σr la⟩ (o σ1) (endP (cn X) la ⟨F, H, Ow σ σr la⟩ D) → SV (cn X) W o D σr H1 := fun {o} f2 =>
    ⟨F1, la, σ1, S1, (f2.step x1).mono fun fl σ2 σr2 F2 H2 x2 S2 f2 => by
      cases fl with
      | rt r => exact fun v e => f2 v (e.weak fun a n => x1.back n)
      | _ => exact f2⟩
  cases k with
  | true => exact go f1
  | false => exact go f1
theorem z_pass : PS X (.Pass pos) (SV (cn X) W dPass) := PS.wk ps_pass fun D σr H q => by
  obtain ⟨F, la, σ, S, f⟩ := q
  exact f F H σr (Ex.refl _) S
theorem z_brk : PS X (.Break pos) (SV (cn X) W dBrk) := PS.wk ps_break fun D σr H q => by
  obtain ⟨F, la, σ, S, f⟩ := q
  exact f F H σr (Ex.refl _) S
theorem z_ct : PS X (.Continue pos) (SV (cn X) W dCt) := PS.wk ps_continue fun D σr H q => by
  obtain ⟨F, la, σ, S, f⟩ := q
  exact f F H σr (Ex.refl _) S
theorem z_never : PS X s (SV (cn X) W dNever) := PS.wk ps_never fun D σr H q => by
  obtain ⟨F, la, σ, S, f⟩ := q
  exact f
/-! targets -/
theorem zg_name {i : Nat} {x : Str} (hN : X.N.Nodup) (hi : X.N[i]? = some x) (hx : Loc X.env.scope x) (hf : X.fn x = true ∨ X.env.scope.names.lookup x = some .local := by first | exact .inl rfl | exact .inr rfl | assumption) : PG X (.Name x pos) (GV (cn X) W (gN i)) :=
  ⟨fun pins s σr H v u Q I r h => (pg_name hN hi hx hf).run pins s σr H v u Q I r (by
    obtain ⟨F, la, σ, p, S, rp, f⟩ := h
    obtain ⟨x2, S2⟩ := set_sl S (Ex.refl _) i (s := .frz p) (v := v) rp fun a _ ⟨p, z⟩ => by cases z
    exact f F H _ x2 S2)⟩
theorem zg_nil : PGs X [] (GVs (cn X) W gNil) := ⟨fun pins s σr H vs us Q I r h => pgs_nil.run pins s σr H vs us Q I r (by
    obtain ⟨F, la, σ, ps, S, rp, f⟩ := h
    cases ps with
    | nil => unfold RFs at rp; exact ⟨rp, f F H σr (Ex.refl _) S⟩
    | cons _ _ => exact f.elim)⟩
theorem zg_cons {es : List Expr} {g : DG} {gs : List PV → PSt → Rs Unit} (h1 : PG X e (GV (cn X) W g)) (h2 : PGs X es (GVs (cn X) W gs))
    (hs : (assignEach (e :: es) X.env).map (·.2) = assign e X.env :: (assignEach es X.env).map (·.2) := by rfl) : PGs X (e :: es) (GVs (cn X) W (gCons g gs)) :=
  ⟨fun pins s σr H vs us Q I r h => (pgs_cons h1 h2 hs).run pins s σr H vs us Q I r (by
    obtain ⟨F, la, σ, ps, S, rp, f⟩ := h
    cases ps with
    | nil => exact f.elim
    | cons p ps =>
      unfold RFs at rp
      obtain ⟨u, r', rfl, r1, r2⟩ := rp
      refine ⟨u, r', rfl, F, la, σ, p, S, r1, (FinS.bind f).mono fun _ σ1 σr1 F1 H1 x1 S1 f1 => ?_⟩
      exact ⟨F1, la, σ1, ps, S1, RFs.ext x1.fr (Ex.keep S x1) _ _ r2, FinS.step f1 x1⟩)⟩
theorem zg_tup {es : List Expr} {k n : Nat} {gs : List PV → PSt → Rs Unit} (hc : X.calm = true) (h : PGs X es (GVs (cn X) W gs))
    (hn : (assignEach es X.env).length = n := by rfl) (hst : (assignEach es X.env).findIdx? (·.1) = none := by rfl) : PG X (.Tuple es k pos) (GV (cn X) W (gT n gs)) :=
  ⟨fun pins s σr H v u Q I r hh => (pg_tup hc h hn hst).run pins s σr H v u Q I r (by
    obtain ⟨F, la, σ, p, S, rp, f⟩ := hh
    cases p with
    | tup xs =>
      unfold RF at rp
      obtain ⟨a, us, rfl, h1, r1⟩ := rp
      obtain ⟨hl, f'⟩ := finS_if f
      exact ⟨a, us, rfl, h1, by rw [← r1.length]; exact hl, F, la, σ, xs, S, r1, f'⟩
    | _ => exact f.elim)⟩
theorem zg_seq {es : List Expr} {k n : Nat} {gs : List PV → PSt → Rs Unit} (hc : X.calm = true) (h : PGs X es (GVs (cn X) W gs))
    (hn : (assignEach es X.env).length = n := by rfl) (hst : (assignEach es X.env).findIdx? (·.1) = none := by rfl) : PG X (.Tuple es k pos) (GV (cn X) W (gU n gs)) :=
  ⟨fun pins s σr H v u Q I r hh => by
    obtain ⟨F, la, σ, p, S, rp, f⟩ := hh
    cases p with
    | tup xs =>
      unfold RF at rp
      obtain ⟨a, us, rfl, h1, r1⟩ := rp
      obtain ⟨hl, f'⟩ := finS_if f
      exact (pg_tup hc h hn hst).run pins s σr H _ u Q I r ⟨a, us, rfl, h1, by rw [← r1.length]; exact hl, F, la, σ, xs, S, r1, f'⟩
    | lst xs =>
      unfold RF at rp
      obtain ⟨a, us, rfl, h1, r1⟩ := rp
      obtain ⟨hl, f'⟩ := finS_if f
      have hq : SqL (cn X).K H a us := by
        rcases h1 with ⟨_, h1⟩ | h1
        · exact .inl h1
        · exact .inr h1
      exact (pg_lst hc h hn hst).run pins s σr H _ u Q I r ⟨a, us, rfl, hq, by rw [← r1.length]; exact hl, F, la, σ, xs, S, r1, f'⟩
    | _ => exact f.elim⟩
end
/-! ### a, b = x, y -/
/-- storing what stands in no slot -/
def stN (i : Nat) (r : EVal) (σ : PSt) : Rs Unit := match r with
  | .at _ => .no
  | r => st i r σ
def stAll : List Nat → List EVal → PSt → Rs Unit
  | [], [], σ => .ok () σ
  | i :: is, r :: rs, σ => (stN i r σ).bind fun _ σ1 => stAll is rs σ1
  | _, _, _ => .no
def dPar (is : List Nat) (da : DA) : DS := fun σ => (da σ).bind fun rs σ1 => (stAll is rs σ1).bind fun _ σ2 => .ok .nx σ2
def setAll : List Nat → List V → St → St
  | i :: is, v :: vs, σr => setAll is vs (σr.set i (some v))
  | _, _, σr => σr
section
variable {c : Cn} {F : Addr → Prop} {la : List Addr} {H : Hp} {g : Gh}
theorem stAll_ok : ∀ (is : List Nat) (rs : List EVal) (vs : List V) (σ σ' : PSt) (σr : St), SR c F la σ σr H → Ex g ⟨F, H, Ow σ σr la⟩ → ERs c F la (Ow σ σr la) (Nw g) σr H rs vs → stAll is rs σ = .ok () σ' →
    rs.length = is.length ∧ Ex g ⟨F, H, Ow σ' (setAll is vs σr) la⟩ ∧ SR c F la σ' (setAll is vs σr) H
  | [], [], vs, σ, σ', σr, S, x, h, e => by
    cases e
    cases h
    exact ⟨rfl, x, S⟩
  | [], _ :: _, _, _, _, _, _, _, _, e => by simp [stAll] at e
  | _ :: _, [], _, _, _, _, _, _, _, e => by simp [stAll] at e
  | i :: is, r :: rs, vs, σ, σ', σr, S, x, h, e => by
    cases h with
    | cons h1 h2 nn =>
      rename_i v vs
      rw [stAll] at e
      -- what the first store leaves of the others
      have rest : ∀ (s : Sl), SlR c F la (Ow σ σr la) H s v → (∀ a, v = .ref a → (∃ p, s = .own p) → Nw g a ∧ NoNew a rs vs) → stN i r σ = .ok () ⟨σ.sl.set i (some s), σ.ln⟩ → (∀ q, r ≠ .at q) → stAll is rs ⟨σ.sl.set i (some s), σ.ln⟩ = .ok () σ' → (∀ q ∈ rs, ∀ k, q ≠ .at k) →
          (r :: rs).length = (i :: is).length ∧ Ex g ⟨F, H, Ow σ' (setAll (i :: is) (v :: vs) σr) la⟩ ∧ SR c F la σ' (setAll (i :: is) (v :: vs) σr) H := by
        intro s hs hn _ _ e2 nat
        obtain ⟨x2, S2⟩ := set_sl S x i hs fun a e p => (hn a e p).1
        have owb : ∀ b, Ow ⟨σ.sl.set i (some s), σ.ln⟩ (σr.set i (some v)) la b → Ow σ σr la b ∨ (v = .ref b ∧ ∃ p, s = .own p) := fun b z => by
          rcases z with z | ⟨j, w, e1, e2⟩
          · exact .inl (.inl z)
          · by_cases hj : j = i
            · subst hj
              have hi : j < σ.sl.length := by
                have := (List.getElem?_eq_some_iff.mp e1).1
                simpa using this
              have e1' : some (some s) = some (some (Sl.own w)) := (List.getElem?_set_self hi).symm.trans e1
              have e2' : some (some v) = some (some (V.ref b)) := (List.getElem?_set_self (by rw [← S.len]; exact hi)).symm.trans e2
              cases e1'
              cases e2'
              exact .inr ⟨rfl, w, rfl⟩
            · have e1' : σ.sl[j]? = some (some (Sl.own w)) := (List.getElem?_set_ne (Ne.symm hj)).symm.trans e1
              have e2' : σr[j]? = some (some (V.ref b)) := (List.getElem?_set_ne (Ne.symm hj)).symm.trans e2
              exact .inl (.inr ⟨j, w, e1', e2'⟩)
        have h2' : ERs c F la (Ow ⟨σ.sl.set i (some s), σ.ln⟩ (σr.set i (some v)) la) (Nw g) (σr.set i (some v)) H rs vs := by
          have hn' : ∀ a, v = .ref a → (∃ p, s = .own p) → NoNew a rs vs := fun a e p => (hn a e p).2
          clear e e2 x2 S2 hn nn h1 hs
          induction h2 with
          | nil => exact .nil
          | cons k1 k2 k3 ih =>
            rename_i r' v' rs' vs'
            refine .cons ?_ (ih (fun q hq k => nat q (List.mem_cons_of_mem _ hq) k) fun a e p => fun j q w e1 e2 => hn' a e p (j + 1) q w (by simpa using e1) (by simpa using e2)) k3
            cases r' with
            | val p => exact k1
            | lo k => exact k1
            | «at» k => exact absurd rfl (nat (.at k) List.mem_cons_self k)
            | new p =>
              obtain ⟨a, rfl, ro, nf, no, nn⟩ := k1
              refine ⟨a, rfl, ro, nf, fun z => ?_, nn⟩
              rcases owb a z with z | ⟨z, p2⟩
              · exact no z
              · exact hn' a z p2 0 p _ rfl rfl rfl
        obtain ⟨l, x3, S3⟩ := stAll_ok is rs vs _ σ' _ S2 x2 h2' e2
        exact ⟨by simp [l], x3, S3⟩
      have allN : ∀ (is : List Nat) (rs : List EVal) (σ σ' : PSt), stAll is rs σ = .ok () σ' → ∀ q ∈ rs, ∀ k, q ≠ .at k := by
        intro is
        induction is with
        | nil => intro rs σ σ' e q hq; cases rs with
          | nil => cases hq
          | cons _ _ => simp [stAll] at e
        | cons i is ih =>
          intro rs σ σ' e q hq k hk
          cases rs with
          | nil => cases hq
          | cons r rs =>
            rw [stAll] at e
            cases r with
            | «at» m => simp [stN, Rs.bind] at e
            | val p =>
              rcases List.mem_cons.mp hq with z | z
              · rw [z] at hk; cases hk
              · exact ih rs _ σ' e q z k hk
            | new p =>
              rcases List.mem_cons.mp hq with z | z
              · rw [z] at hk; cases hk
              · exact ih rs _ σ' e q z k hk
            | lo p =>
              rcases List.mem_cons.mp hq with z | z
              · rw [z] at hk; cases hk
              · exact ih rs _ σ' e q z k hk
      cases r with
      | «at» k => simp [stN, Rs.bind] at e
      | val p => exact rest (.frz p) h1 (fun a _ ⟨p, z⟩ => by cases z) rfl (fun q z => by cases z) e (allN is rs _ σ' e)
      | lo k => exact rest (.lo k) h1 (fun a _ ⟨p, z⟩ => by cases z) rfl (fun q z => by cases z) e (allN is rs _ σ' e)
      | new p =>
        obtain ⟨a, rfl, ro, nf, no, nw⟩ := h1
        exact rest (.own p) ⟨a, rfl, ro, nf, no⟩ (fun b eb _ => by cases eb; exact ⟨nw, nn a p rfl rfl⟩) rfl (fun q z => by cases z) e (allN is rs _ σ' e)
theorem stAll_cases (is : List Nat) (rs : List EVal) (σ : PSt) : (∃ σ', stAll is rs σ = .ok () σ') ∨ stAll is rs σ = .no := by
  induction is generalizing rs σ with
  | nil => cases rs with
    | nil => exact .inl ⟨_, rfl⟩
    | cons _ _ => exact .inr rfl
  | cons i is ih =>
    cases rs with
    | nil => exact .inr rfl
    | cons r rs =>
      rw [stAll]
      cases r with
      | «at» m => exact .inr rfl
      | val p => exact ih rs _
      | new p => exact ih rs _
      | lo p => exact ih rs _
end
section
variable {X : Cx} {W : WX} {a b c3 : Expr} {da : DA} {pos : Pos} {x y z : Str} {i j l : Nat}
theorem ERs.length {c : Cn} {F : Addr → Prop} {la : List Addr} {O N : Addr → Prop} {σr : St} {H : Hp} {rs : List EVal} {vs : List V} (h : ERs c F la O N σr H rs vs) : rs.length = vs.length := by
  induction h with
  | nil => rfl
  | cons _ _ _ ih => simp [ih]
theorem z_par {px py pt : Pos} {kt k2 pt2} (hc : X.calm = true) (hN : X.N.Nodup) (hi : X.N[i]? = some x) (hj : X.N[j]? = some y) (hij : i ≠ j)
    (hx : X.env.scope.names.lookup x = some .local) (hy : X.env.scope.names.lookup y = some .local) (ha : PA X [a, b] (EVA (cn X) W da))
    (hw : swappedStores [.Tuple [.Name x px, .Name y py] kt pt] (.Tuple [a, b] k2 pt2) X.env = pure (some [x, y]))
    (hs : swapsWithSole [.Tuple [.Name x px, .Name y py] kt pt] (.Tuple [a, b] k2 pt2) pos.line X.env = pure false := by rfl) :
    PS X (.Assign [.Tuple [.Name x px, .Name y py] kt pt] (.Tuple [a, b] k2 pt2) pos) (SV (cn X) W (dPar [i, j] da)) := PS.wk (ps_par hc hN hi hj hij hx hy ha hw hs) fun D σr H q => by
  obtain ⟨F, la, σ, S, f⟩ := q
  refine ⟨F, la, σ, S, f.expr.mono fun rs σ1 F1 H1 x1 S1 f1 vs es => ?_⟩
  rcases stAll_cases [i, j] rs σ1 with ⟨σ2, q⟩ | q
  · rw [q] at f1
    obtain ⟨hl, x2, S2⟩ := stAll_ok [i, j] rs vs σ1 σ2 σr S1 x1 es q
    have hv : vs.length = 2 := by rw [← es.length, hl]; rfl
    match vs, hv with
    | [v, w], _ => exact ⟨v, w, rfl, f1 F1 H1 _ x2 S2⟩
  · rw [q] at f1; exact f1.elim
end
end L2.Zz

/-! Z9: what is walked, for, while, comprehensions. -/
namespace L2.Zz
open PySem PySem.Spec PyProof.Rows

abbrev DI := PSt → Rs (List PV)
/-- an iterator that gives xs while what stands still stands -/
def JOk (c : Cn) (F0 : Addr → Prop) (H0 : Hp) (J : It) (xs : List PV) : Prop :=
  ∀ (F : Addr → Prop) (H : Hp), (∀ a, F0 a → F a) → (∀ a o, H0 a = some o → (F0 a ∨ Stl o) → H a = some o) →
    (∀ i, i < xs.length → J.go i H) ∧ J.stop xs.length H ∧ ∀ i v H', i < xs.length → J.yld i H v H' → ∃ p, xs[i]? = some p ∧ (∀ a o, H a = some o → H' a = some o) ∧ RF c F H' p v
def IV (c : Cn) (W : WX) (d : DI) : TI := fun σr H R => ∃ F la σ, SR c F la σ σr H ∧ Fin c W la σr ⟨F, H, Ow σ σr la⟩ (d σ) fun xs σ' F' H' => ∀ J, JOk c F' H' J xs → R J H'

/-! ### a list, a tuple -/
def dIt (d : DE) : DI := fun σ => (d σ).bind fun r σ1 => (fz r σ1).bind fun p σ2 => match p with
  | .lst xs => .ok xs σ2
  | .tup xs => .ok xs σ2
  | _ => .no
def rng (lo : Int) (n : Nat) : List PV := (List.range n).map fun (i : Nat) => PV.int (lo + (i : Int))
def rgOk (i : Int) : Prop := -(2 ^ 62) ≤ i ∧ i < 2 ^ 62
instance (i : Int) : Decidable (rgOk i) := by unfold rgOk; infer_instance
def dRng1 (da : DA) : DI := fun σ => (da σ).bind fun rs σ1 => match rdAll σ1 rs with
  | some [.int j] => if rgOk j then .ok (rng 0 j.toNat) σ1 else .no
  | _ => .no
def dRng2 (da : DA) : DI := fun σ => (da σ).bind fun rs σ1 => match rdAll σ1 rs with
  | some [.int i, .int j] => if rgOk i ∧ rgOk j then .ok (rng i (j - i).toNat) σ1 else .no
  | _ => .no
def enumL (xs : List PV) : List PV := (List.range xs.length).zipWith (fun (i : Nat) x => PV.tup [.int (i : Int), x]) xs
def zipL (xs ys : List PV) : List PV := List.zipWith (fun x y => PV.tup [x, y]) xs ys
def dEnum (da : DA) : DI := fun σ => (da σ).bind fun rs σ1 => match dTup.vals rs with
  | some [.lst xs] => .ok (enumL xs) σ1
  | _ => .no
def dZip (da : DA) : DI := fun σ => (da σ).bind fun rs σ1 => match dTup.vals rs with
  | some [.lst xs, .lst ys] => .ok (zipL xs ys) σ1
  | _ => .no
theorem rng_get {lo : Int} {n i : Nat} (h : i < n) : (rng lo n)[i]? = some (.int (lo + i)) := by
  unfold rng
  rw [List.getElem?_map, List.getElem?_range h]
  rfl
theorem rng_len {lo : Int} {n : Nat} : (rng lo n).length = n := by unfold rng; simp
section
variable {c : Cn} {F0 : Addr → Prop} {H0 : Hp}
theorem jok_list {a : Addr} {us : List V} {xs : List PV} (h : FrL c F0 H0 a us) (r : RFs c F0 H0 xs us) : JOk c F0 H0 (Itl c.K a) xs := by
  intro F H hF k
  have h' : SqL c.K H a us := (FrL.ext h hF k).sq
  have r' := RFs.ext hF k _ _ r
  refine ⟨fun i hi => ?_, ⟨us, h', by rw [r.length]; exact Nat.le_refl _⟩, fun i v H' hi y => ?_⟩
  · obtain ⟨u, e, _⟩ := r'.get (List.getElem?_eq_getElem hi)
    exact ⟨us, u, h', e⟩
  · obtain ⟨rfl, y⟩ := y
    obtain ⟨p, e, rp⟩ := r'.getR (y us h')
    exact ⟨p, e, fun _ _ e => e, rp⟩
theorem jok_tup {a : Addr} {us : List V} {xs : List PV} (h : SqT c.K H0 a us) (r : RFs c F0 H0 xs us) : JOk c F0 H0 (Itt c.K a) xs := by
  intro F H hF k
  have h' : SqT c.K H a us := SqT.ext h fun a o e s => k a o e (.inr s)
  have r' := RFs.ext hF k _ _ r
  refine ⟨fun i hi => ?_, ⟨us, h', by rw [r.length]; exact Nat.le_refl _⟩, fun i v H' hi y => ?_⟩
  · obtain ⟨u, e, _⟩ := r'.get (List.getElem?_eq_getElem hi)
    exact ⟨us, u, h', e⟩
  · obtain ⟨rfl, y⟩ := y
    obtain ⟨p, e, rp⟩ := r'.getR (y us h')
    exact ⟨p, e, fun _ _ e => e, rp⟩
theorem jok_range {lo : Int} {n : Nat} : JOk c F0 H0 (Itr lo n) (rng lo n) := by
  intro F H hF k
  rw [rng_len]
  refine ⟨fun i hi => hi, Nat.le_refl _, fun i v H' hi y => ?_⟩
  obtain ⟨rfl, rfl⟩ := y
  exact ⟨_, rng_get hi, fun _ _ e => e, RF.int_⟩
theorem RF.pair {F : Addr → Prop} {H : Hp} {T : Addr} {x y : V} {p q : PV} (n : H T = none) (h1 : RF c F H p x) (h2 : RF c F H q y) : RF c F (upd H T (.tup [x, y])) (.tup [p, q]) (.ref T) := by
  have k := fun a o e (_ : F a ∨ Stl o) => upd_keeps (o := HO.tup [x, y]) n a o e
  unfold RF
  exact ⟨T, [x, y], rfl, SqT.of upd_same, RFs.cons_ (RF.ext (fun _ f => f) k _ _ h1) (RFs.cons_ (RF.ext (fun _ f => f) k _ _ h2) RFs.nil_)⟩
theorem enumL_len {xs : List PV} : (enumL xs).length = xs.length := by unfold enumL; simp
theorem enumL_get {xs : List PV} {i : Nat} {p : PV} (h : xs[i]? = some p) : (enumL xs)[i]? = some (.tup [.int (i : Int), p]) := by
  have hi := (List.getElem?_eq_some_iff.mp h).1
  unfold enumL
  rw [List.getElem?_zipWith, List.getElem?_range hi, h]
theorem jok_enum {a : Addr} {us : List V} {xs : List PV} (h : FrL c F0 H0 a us) (r : RFs c F0 H0 xs us) : JOk c F0 H0 (Ite c.K a) (enumL xs) := by
  intro F H hF k
  have h' : SqL c.K H a us := (FrL.ext h hF k).sq
  have r' := RFs.ext hF k _ _ r
  rw [enumL_len]
  refine ⟨fun i hi => ?_, ⟨us, h', by rw [r.length]; exact Nat.le_refl _⟩, fun i v H' hi y => ?_⟩
  · obtain ⟨u, e, _⟩ := r'.get (List.getElem?_eq_getElem hi)
    exact ⟨us, u, h', e⟩
  · obtain ⟨T, x, rfl, n, rfl, y⟩ := y
    obtain ⟨p, e, rp⟩ := r'.getR (y us h')
    exact ⟨_, enumL_get e, upd_keeps n, RF.pair n RF.int_ rp⟩
theorem zipL_get {xs ys : List PV} {i : Nat} {p q : PV} (h : xs[i]? = some p) (h2 : ys[i]? = some q) : (zipL xs ys)[i]? = some (.tup [p, q]) := by
  unfold zipL
  rw [List.getElem?_zipWith, h, h2]
theorem zipL_len {xs ys : List PV} : (zipL xs ys).length = min xs.length ys.length := by unfold zipL; simp
theorem jok_zip {a b : Addr} {us ws : List V} {xs ys : List PV} (h : FrL c F0 H0 a us) (r : RFs c F0 H0 xs us) (h2 : FrL c F0 H0 b ws) (r2 : RFs c F0 H0 ys ws) : JOk c F0 H0 (Itz c.K a b) (zipL xs ys) := by
  intro F H hF k
  have h' : SqL c.K H a us := (FrL.ext h hF k).sq
  have h2' : SqL c.K H b ws := (FrL.ext h2 hF k).sq
  have r' := RFs.ext hF k _ _ r
  have r2' := RFs.ext hF k _ _ r2
  rw [zipL_len]
  refine ⟨fun i hi => ?_, ⟨us, ws, h', h2', by rw [← r.length, ← r2.length]; omega⟩, fun i v H' hi y => ?_⟩
  · obtain ⟨u, e, _⟩ := r'.get (List.getElem?_eq_getElem (show i < xs.length by omega))
    obtain ⟨w, e2, _⟩ := r2'.get (List.getElem?_eq_getElem (show i < ys.length by omega))
    exact ⟨us, ws, u, w, h', h2', e, e2⟩
  · obtain ⟨T, x, y', rfl, n, rfl, y1, y2⟩ := y
    obtain ⟨p, e, rp⟩ := r'.getR (y1 us h')
    obtain ⟨q, e2, rq⟩ := r2'.getR (y2 ws h2')
    exact ⟨_, zipL_get e e2, upd_keeps n, RF.pair n rp rq⟩
end
section
variable {X : Cx} {W : WX} {tg e e2 : Expr} {d : DE} {da : DA} {p pos tpos : Pos} {elts : List Expr} {kk : Nat}
/-- what is walked is a list or a tuple -/
def iSeq (K : PySem.W.Frag) (tl : TE) : TI := fun σ H R => tl σ H fun x H1 => ∃ a, x = .ref a ∧ (((∃ xs, SqL K H1 a xs) ∧ R (Itl K a) H1) ∨ ((∃ xs, SqT K H1 a xs) ∧ R (Itt K a) H1))
theorem pi_seq {tl : TE} (hl : PE X e tl) : PI X tg e (iSeq X.K tl) := by
  refine ⟨fun pins s σ H R I h => ?_⟩
  refine thn (hl.run pins s σ H _ I h) fun v s1 ⟨x, H1, I1, r1, q1⟩ => ?_
  obtain ⟨a, rfl, q⟩ := q1
  cases r1
  rcases q with ⟨⟨xs, hq⟩, q⟩ | ⟨⟨xs, hq⟩, q⟩
  · obtain ⟨its, rv, p, hz⟩ := I1.list hq
    refine wpAny_pyIter_list p.isList ?_
    refine ⟨s1.heap.objs.size, [s1.heap.objs.size], _, _, H1, rfl, I1.kept (t' := s1.toks) fun b o e => Heap.get?_push_of_some _ e, turn_list a _, ⟨_, Heap.get?_push_size _ rfl, rfl, rfl⟩, fun b hb => ?_, q⟩
    have e : b = s1.heap.objs.size := by simpa using hb
    subst e
    exact I1.fpOk (Nat.le_refl _) (I1.hok.fresh (Nat.le_refl _))
  · obtain ⟨its, rv, p, hz⟩ := I1.tuple hq
    refine wpAny_pyIter_tuple (show s1.heap.IsTuple a its.toArray from p) ?_
    refine ⟨s1.heap.objs.size, [s1.heap.objs.size], _, _, H1, rfl, I1.kept (t' := s1.toks) fun b o e => Heap.get?_push_of_some _ e, turn_tuple a _, ⟨_, Heap.get?_push_size _ rfl, rfl, rfl⟩, fun b hb => ?_, q⟩
    have e : b = s1.heap.objs.size := by simpa using hb
    subst e
    exact I1.fpOk (Nat.le_refl _) (I1.hok.fresh (Nat.le_refl _))
theorem fz_no_ex {r : EVal} {σ σ' : PSt} {ee : Exn} (q : fz r σ = .ex ee σ') : False := by
  cases r <;> simp only [fz] at q <;> try (cases q)
  split at q <;> cases q
theorem zi_seq (h : PE X e (EV (cn X) W d)) : PI X tg e (IV (cn X) W (dIt d)) := PI.wk (pi_seq h) fun σr H R q => by
  obtain ⟨F, la, σ, S, f⟩ := q
  refine EV.seq S (Ex.refl _) f fun F1 σ1 r v H1 x1 S1 e1 f1 => ?_
  cases q : fz r σ1 with
  | no => rw [q] at f1; exact f1.elim
  | ex ee s => exact (fz_no_ex q).elim
  | ok p σ2 =>
    rw [q] at f1
    obtain ⟨F2, x2, S2, r2, _⟩ := fz_ok S1 x1 e1 q
    cases p with
    | lst xs =>
      unfold RF at r2
      obtain ⟨a, us, rfl, h1, h2⟩ := r2
      exact ⟨a, rfl, .inl ⟨⟨us, h1.sq⟩, f1 F2 H1 x2 S2 _ (jok_list h1 h2)⟩⟩
    | tup xs =>
      unfold RF at r2
      obtain ⟨a, us, rfl, h1, h2⟩ := r2
      exact ⟨a, rfl, .inr ⟨⟨us, h1⟩, f1 F2 H1 x2 S2 _ (jok_tup h1 h2)⟩⟩
    | _ => exact f1.elim
theorem zi_range1 (hg : Gl X "range") (hm : X.mg "range" = none) (ha : PA X [e] (EVA (cn X) W da)) (hs : starEach [e] X.env = [(false, eval e X.env)] := by rfl) : PI X tg (.Call (.Name "range" p) [e] [] pos) (IV (cn X) W (dRng1 da)) :=
  PI.wk (pi_range1 hg hm ha hs) fun σr H R q => by
    obtain ⟨F, la, σ, S, f⟩ := q
    refine ⟨F, la, σ, S, f.bind.mono fun rs σ1 F1 H1 x1 S1 f1 vs es => ?_⟩
    cases qa : rdAll σ1 rs with
    | none => rw [qa] at f1; exact f1.elim
    | some ps =>
      rw [qa] at f1
      have r := rdAll_ok S1 es qa
      split at f1
      · rename_i j he
        cases he
        obtain ⟨hj, f2⟩ := fin_if f1
        obtain ⟨v, rfl, r1⟩ := r.one
        exact ⟨j, by rw [r1.int], hj.1, hj.2, f2 F1 H1 x1 S1 _ jok_range⟩
      · exact f1.elim
theorem zi_range2 (hg : Gl X "range") (hm : X.mg "range" = none) (ha : PA X [e, e2] (EVA (cn X) W da)) (hs : starEach [e, e2] X.env = [(false, eval e X.env), (false, eval e2 X.env)] := by rfl) (hs2 : starEach [e2] X.env = [(false, eval e2 X.env)] := by rfl) :
    PI X tg (.Call (.Name "range" p) [e, e2] [] pos) (IV (cn X) W (dRng2 da)) :=
  PI.wk (pi_range2 hg hm ha hs hs2) fun σr H R q => by
    obtain ⟨F, la, σ, S, f⟩ := q
    refine ⟨F, la, σ, S, f.bind.mono fun rs σ1 F1 H1 x1 S1 f1 vs es => ?_⟩
    cases qa : rdAll σ1 rs with
    | none => rw [qa] at f1; exact f1.elim
    | some ps =>
      rw [qa] at f1
      have r := rdAll_ok S1 es qa
      split at f1
      · rename_i i j he
        cases he
        obtain ⟨hj, f2⟩ := fin_if f1
        obtain ⟨v, u, rfl, r1, r2⟩ := r.two
        exact ⟨i, j, by rw [r1.int, r2.int], ⟨hj.1.1, hj.1.2, hj.2.1, hj.2.2⟩, f2 F1 H1 x1 S1 _ jok_range⟩
      · exact f1.elim
theorem zi_enum (hg : Gl X "enumerate") (hm : X.mg "enumerate" = none) (ha : PA X [e] (EVA (cn X) W da)) (hs : starEach [e] X.env = [(false, eval e X.env)] := by rfl) :
    PI X (.Tuple elts kk tpos) (.Call (.Name "enumerate" p) [e] [] pos) (IV (cn X) W (dEnum da)) :=
  PI.wk (pi_enum hg hm ha hs) fun σr H R q => by
    obtain ⟨F, la, σ, S, f⟩ := q
    refine ⟨F, la, σ, S, f.bind.mono fun rs σ1 F1 H1 x1 S1 f1 vs es => ?_⟩
    cases qa : dTup.vals rs with
    | none => rw [qa] at f1; exact f1.elim
    | some ps =>
      rw [qa] at f1
      have r := vals_ok es qa
      split at f1
      · rename_i xs he
        cases he
        unfold RFs at r
        obtain ⟨u, r', rfl, r1, r2⟩ := r
        unfold RFs at r2
        subst r2
        unfold RF at r1
        obtain ⟨a, us, rfl, h1, h2⟩ := r1
        exact ⟨a, us, rfl, h1.sq, f1 F1 H1 x1 S1 _ (jok_enum h1 h2)⟩
      · exact f1.elim
theorem zi_zip (hg : Gl X "zip") (hm : X.mg "zip" = none) (ha : PA X [e, e2] (EVA (cn X) W da)) (hs : starEach [e, e2] X.env = (false, eval e X.env) :: starEach [e2] X.env := by rfl) (hpl : (backTo pos (starEach [e2] X.env)).any (·.1) = false := by rfl) :
    PI X (.Tuple elts kk tpos) (.Call (.Name "zip" p) [e, e2] [] pos) (IV (cn X) W (dZip da)) :=
  PI.wk (pi_zip hg hm ha hs hpl) fun σr H R q => by
    obtain ⟨F, la, σ, S, f⟩ := q
    refine ⟨F, la, σ, S, f.bind.mono fun rs σ1 F1 H1 x1 S1 f1 vs es => ?_⟩
    cases qa : dTup.vals rs with
    | none => rw [qa] at f1; exact f1.elim
    | some ps =>
      rw [qa] at f1
      have r := vals_ok es qa
      split at f1
      · rename_i xs ys he
        cases he
        unfold RFs at r
        obtain ⟨u, r', rfl, r1, r2⟩ := r
        unfold RFs at r2
        obtain ⟨u2, r2', rfl, r3, r4⟩ := r2
        unfold RFs at r4
        subst r4
        unfold RF at r1 r3
        obtain ⟨a, us, rfl, h1, h2⟩ := r1
        obtain ⟨b, ws, rfl, h3, h4⟩ := r3
        exact ⟨a, b, us, ws, rfl, h1.sq, h3.sq, f1 F1 H1 x1 S1 _ (jok_zip h1 h2 h3 h4)⟩
      · exact f1.elim
end

/-! ### for -/
def lpFor (g : DG) (b : DS) : List PV → DS
  | [], σ => .ok .nx σ
  | x :: xs, σ => (g x σ).bind fun _ σ1 => (b σ1).bind fun f σ2 => match f with
    | .nx => lpFor g b xs σ2
    | .ct => lpFor g b xs σ2
    | .bk => .ok .nx σ2
    | .rt r => .ok (.rt r) σ2
def dFor (di : DI) (g : DG) (b : DS) : DS := fun σ => (di σ).bind fun xs σ1 => lpFor g b xs σ1
section
variable {X : Cx} {W : WX} {tg iter : Expr} {body : List Stmt} {di : DI} {g : DG} {b : DS} {pos : Pos}
theorem endP_weak {c : Cn} {la : List Addr} {g g' : Gh} {D : Ends} {fl : Fl} {σ' : PSt} {σr' : St} {F' : Addr → Prop} {H' : Hp} (w : ∀ a, Nw g' a → Nw g a) (h : endP c la g D fl σ' σr' F' H') : endP c la g' D fl σ' σr' F' H' := by
  cases fl with
  | rt r => exact fun v e => h v (e.weak w)
  | _ => exact h
theorem z_for (hp : PassesOwn (model X.prog X.w) X.A X.env X.xe) (hc : X.calm = true) (hi : PI X tg iter (IV (cn X) W di)) (hg : PG X tg (GV (cn X) W g)) (hb : PSs X body (SV (cn X) W b))
    (hs : ∀ x, foldedSetIterable iter X.env x = pure x := by intro _; rfl) : PS X (.For tg iter body [] pos) (SV (cn X) W (dFor di g b)) :=
  PS.wk (ps_for hp hc hi hg hb hs) fun D σr0 H0 q => by
    obtain ⟨F, la, σ, S, f⟩ := q
    refine ⟨F, la, σ, S, f.expr.mono fun xs σ1 F1 H1 x1 S1 f1 J hJ => ?_⟩
    refine ⟨fun i m σr H => m = xs.length - i ∧ i ≤ xs.length ∧ ∃ F' σ', SR (cn X) F' la σ' σr H ∧ Ex ⟨F1, H1, Ow σ1 σr0 la⟩ ⟨F', H, Ow σ' σr la⟩ ∧ FinS (cn X) W la ⟨F, H0, Ow σ σr0 la⟩ (lpFor g b (xs.drop i) σ') (endP (cn X) la ⟨F, H0, Ow σ σr0 la⟩ D),
      ⟨xs.length, rfl, Nat.zero_le _, F1, σ1, S1, Ex.refl _, f1⟩, ?_⟩
    rintro i m σr H ⟨rfl, hi, F', σ', S', x', f'⟩
    obtain ⟨go, stop, yld⟩ := hJ F' H x'.fr (Ex.keep S1 x')
    by_cases hlt : i < xs.length
    · refine .inr ⟨go i hlt, fun σr2 H2 => ∃ F2 σ2, SR (cn X) F2 la σ2 σr2 H2 ∧ Ex ⟨F1, H1, Ow σ1 σr0 la⟩ ⟨F2, H2, Ow σ2 σr2 la⟩ ∧ FinS (cn X) W la ⟨F, H0, Ow σ σr0 la⟩ (lpFor g b (xs.drop (i + 1)) σ2) (endP (cn X) la ⟨F, H0, Ow σ σr0 la⟩ D),
        fun σr2 H2 ⟨F2, σ2, S2, x2, f2⟩ => ⟨xs.length - (i + 1), by omega, rfl, hlt, F2, σ2, S2, x2, f2⟩, fun v H2 y => ?_⟩
      obtain ⟨p, ep, kp, rp⟩ := yld i v H2 hlt y
      have ed : xs.drop i = p :: xs.drop (i + 1) := by
        rw [List.drop_eq_getElem_cons hlt]
        rw [List.getElem?_eq_getElem hlt] at ep
        cases ep; rfl
      rw [ed, lpFor] at f'
      have S2 := S'.keeps kp
      have xk : Ex ⟨F', H, Ow σ' σr la⟩ ⟨F', H2, Ow σ' σr la⟩ := Ex.keeps kp
      have xa := (x1.trans x').trans xk
      refine ⟨F', la, σ', p, S2, rp, (f'.bind.step xa).mono fun _ σ3 σr3 F3 H3 x3 S3 f3 => ?_⟩
      refine ⟨F3, la, σ3, S3, ((f3.bind).step (xa.trans x3)).mono fun fl σ4 σr4 F4 H4 x4 S4 f4 => ?_⟩
      have xb := (xa.trans x3).trans x4
      have xc := (((x'.trans xk).trans x3).trans x4)
      cases fl with
      | nx => exact ⟨F4, σ4, S4, xc, f4⟩
      | ct => exact ⟨F4, σ4, S4, xc, f4⟩
      | bk => exact f4 F4 H4 σr4 xb S4
      | rt r => exact fun v e => f4 F4 H4 σr4 xb S4 v (e.weak fun a n => (xa.trans x3).back n)
    · have e : i = xs.length := by omega
      subst e
      rw [List.drop_length, lpFor] at f'
      exact .inl ⟨stop, f' F' H σr (x1.trans x') S'⟩

/-! ### while -/
def lpWh (t : DT) (b : DS) : Nat → DS
  | 0, _ => .no
  | n + 1, σ => (t σ).bind fun k σ1 => if k = true then (b σ1).bind fun f σ2 => match f with
    | .nx => lpWh t b n σ2
    | .ct => lpWh t b n σ2
    | .bk => .ok .nx σ2
    | .rt r => .ok (.rt r) σ2 else .ok .nx σ1
/-- the most turns of a while that a denotation goes -/
def wN : Nat := 2 ^ 4000
def dWh (t : DT) (b : DS) : DS := fun σ => lpWh t b wN σ
theorem z_while {t : Expr} {dt : DT} (hp : PassesOwn (model X.prog X.w) X.A X.env X.xe) (hc : PT X t (EVT (cn X) W dt)) (hb : PSs X body (SV (cn X) W b)) : PS X (.While t body [] pos) (SV (cn X) W (dWh dt b)) :=
  PS.wk (ps_while hp hc hb) fun D σr0 H0 q => by
    obtain ⟨F, la, σ, S, f⟩ := q
    refine ⟨fun m σr H => ∃ F' σ', SR (cn X) F' la σ' σr H ∧ Ex ⟨F, H0, Ow σ σr0 la⟩ ⟨F', H, Ow σ' σr la⟩ ∧ FinS (cn X) W la ⟨F, H0, Ow σ σr0 la⟩ (lpWh dt b m σ') (endP (cn X) la ⟨F, H0, Ow σ σr0 la⟩ D),
      ⟨wN, F, σ, S, Ex.refl _, f⟩, ?_⟩
    rintro m σr H ⟨F', σ', S', x', f'⟩
    cases m with
    | zero => exact f'.elim
    | succ n =>
      rw [lpWh] at f'
      refine ⟨F', la, σ', S', (f'.expr.step x').mono fun k σ1 F1 H1 x1 S1 f1 => ?_⟩
      cases k with
      | false =>
        rw [if_neg Bool.false_ne_true] at f1 ⊢
        exact f1 F1 H1 σr (x'.trans x1) S1
      | true =>
        rw [if_pos rfl] at f1 ⊢
        refine ⟨fun σr2 H2 => ∃ F2 σ2, SR (cn X) F2 la σ2 σr2 H2 ∧ Ex ⟨F, H0, Ow σ σr0 la⟩ ⟨F2, H2, Ow σ2 σr2 la⟩ ∧ FinS (cn X) W la ⟨F, H0, Ow σ σr0 la⟩ (lpWh dt b n σ2) (endP (cn X) la ⟨F, H0, Ow σ σr0 la⟩ D),
          fun σr2 H2 h => ⟨n, Nat.lt_succ_self n, h⟩, F1, la, σ1, S1, (f1.bind.step (x'.trans x1)).mono fun fl σ2 σr2 F2 H2 x2 S2 f2 => ?_⟩
        have xb := (x'.trans x1).trans x2
        cases fl with
        | nx => exact ⟨F2, σ2, S2, xb, f2⟩
        | ct => exact ⟨F2, σ2, S2, xb, f2⟩
        | bk => exact f2 F2 H2 σr2 xb S2
        | rt r => exact fun v e => f2 F2 H2 σr2 xb S2 v (e.weak fun a n => (x'.trans x1).back n)
end

/-! ### comprehensions -/
def wipeP (l : List (Option Sl)) : List Nat → List (Option Sl)
  | [] => l
  | v :: vs => (wipeP l vs).set v none
def nox {α : Type} (o : Rs α) : Rs α := match o with
  | .ex _ _ => .no
  | o => o
def lpLc (vs : List Nat) (g : DG) (tt : DT) (te : DE) : List PV → List PV → PSt → Rs (List PV)
  | [], acc, σ => .ok acc σ
  | x :: xs, acc, σ => (nox (g x σ)).bind fun _ σ1 => (nox (tt σ1)).bind fun k σ2 => if k = true then (nox (te σ2)).bind fun r σ3 => match r with
    | .val p => if acc.length < szL then lpLc vs g tt te xs (acc ++ [p]) ⟨wipeP σ3.sl vs, σ3.ln⟩ else .no
    | _ => .no else lpLc vs g tt te xs acc ⟨wipeP σ2.sl vs, σ2.ln⟩
def dLc (vs : List Nat) (di : DI) (g : DG) (tt : DT) (te : DE) : DE := fun σ => (di σ).bind fun xs σ1 => (lpLc vs g tt te xs [] ⟨wipeP σ1.sl vs, σ1.ln⟩).bind fun acc σ2 => .ok (.new (.lst acc)) σ2
def dYes : DT := fun σ => .ok true σ
section
theorem wipeP_len (l : List (Option Sl)) : ∀ vs, (wipeP l vs).length = l.length
  | [] => rfl
  | v :: vs => by rw [wipeP, List.length_set, wipeP_len l vs]
theorem wipeP_some {l : List (Option Sl)} {i : Nat} {s : Sl} : ∀ {vs : List Nat}, (wipeP l vs)[i]? = some (some s) → l[i]? = some (some s) ∧ i ∉ vs
  | [], h => ⟨h, by simp⟩
  | v :: vs, h => by
    rw [wipeP] at h
    by_cases hi : v = i
    · subst hi
      by_cases hv : v < (wipeP l vs).length
      · rw [List.getElem?_set_self hv] at h; cases h
      · rw [List.getElem?_eq_none (by simpa using hv)] at h; cases h
    · rw [List.getElem?_set_ne hi] at h
      obtain ⟨h1, h2⟩ := wipeP_some h
      exact ⟨h1, by simp only [List.mem_cons, not_or]; exact ⟨fun e => hi e.symm, h2⟩⟩
variable {c : Cn} {F : Addr → Prop} {la : List Addr} {σ : PSt} {σr : St} {H : Hp} {g : Gh}
/-- slots forgotten on both sides -/
theorem wipe_sr (S : SR c F la σ σr H) (x : Ex g ⟨F, H, Ow σ σr la⟩) (vs : List Nat) : SR c F la ⟨wipeP σ.sl vs, σ.ln⟩ (wipe σr vs) H ∧ Ex g ⟨F, H, Ow ⟨wipeP σ.sl vs, σ.ln⟩ (wipe σr vs) la⟩ := by
  have out : ∀ {i : Nat} {s : Sl}, (wipeP σ.sl vs)[i]? = some (some s) → σ.sl[i]? = some (some s) ∧ (wipe σr vs)[i]? = σr[i]? := fun h => by
    obtain ⟨h1, h2⟩ := wipeP_some h
    exact ⟨h1, wipe_out h2⟩
  refine ⟨⟨by rw [wipeP_len, wipe_length]; exact S.len, fun i v e => ?_, fun i k e => ?_, fun i v e => ?_, fun i j v w b e1 e2 e3 e4 => ?_, S.lln, S.lnd, S.ln, S.ftr⟩, ⟨x.fr, x.kp, fun a z => ?_, x.fn⟩⟩
  · obtain ⟨e1, e2⟩ := out e
    obtain ⟨u, e3, r⟩ := S.frz i v e1
    exact ⟨u, e2.trans e3, r⟩
  · obtain ⟨e1, e2⟩ := out e
    obtain ⟨u, e3, r⟩ := S.lo i k e1
    exact ⟨u, e2.trans e3, r⟩
  · obtain ⟨e1, e2⟩ := out e
    obtain ⟨u, e3, r⟩ := S.own i v e1
    exact ⟨u, e2.trans e3, r⟩
  · obtain ⟨h1, h2⟩ := out e1
    obtain ⟨h3, h4⟩ := out e2
    exact S.inj i j v w b h1 h3 (h2.symm.trans e3) (h4.symm.trans e4)
  · rcases z with z | ⟨i, v, e1, e2⟩
    · exact x.ow a (.inl z)
    · obtain ⟨h1, h2⟩ := out e1
      exact x.ow a (.inr ⟨i, v, h1, h2.symm.trans e2⟩)
theorem unwipe_sr {vs : List Nat} (S : SR c F la σ (wipe σr vs) H) (x : Ex g ⟨F, H, Ow σ (wipe σr vs) la⟩) : SR c F la σ σr H ∧ Ex g ⟨F, H, Ow σ σr la⟩ := by
  refine ⟨⟨by rw [← wipe_length σr vs]; exact S.len, fun i v e => ?_, fun i k e => ?_, fun i v e => ?_, fun i j v w b e1 e2 e3 e4 => ?_, S.lln, S.lnd, S.ln, S.ftr⟩, ⟨x.fr, x.kp, fun a z => ?_, x.fn⟩⟩
  · obtain ⟨u, e3, r⟩ := S.frz i v e
    exact ⟨u, (wipe_some e3).1, r⟩
  · obtain ⟨u, e3, r⟩ := S.lo i k e
    exact ⟨u, (wipe_some e3).1, r⟩
  · obtain ⟨u, e3, r⟩ := S.own i v e
    exact ⟨u, (wipe_some e3).1, r⟩
  · obtain ⟨u, e5, _⟩ := S.own i v e1
    obtain ⟨u', e6, _⟩ := S.own j w e2
    have h1 := (wipe_some e5).1
    have h2 := (wipe_some e6).1
    rw [e3] at h1; cases h1
    rw [e4] at h2; cases h2
    exact S.inj i j v w b e1 e2 e5 e6
  · rcases z with z | ⟨i, v, e1, e2⟩
    · exact x.ow a (.inl z)
    · obtain ⟨u, e5, _⟩ := S.own i v e1
      have h1 := (wipe_some e5).1
      rw [e2] at h1; cases h1
      exact x.ow a (.inr ⟨i, v, e1, e5⟩)
end
end L2.Zz

/-! Z10: comprehensions. -/
namespace L2.Zz
open PySem PySem.Spec PyProof.Rows

theorem wipe_get (τ : St) (vs : List Nat) (j : Nat) : (wipe τ vs)[j]? = if j ∈ vs ∧ j < τ.length then some none else τ[j]? := by
  induction vs with
  | nil => simp [wipe]
  | cons v vs ih =>
    unfold wipe
    by_cases hj : v = j
    · subst hj
      by_cases hl : v < τ.length
      · rw [List.getElem?_set_self (by rw [wipe_length]; exact hl)]
        simp [hl]
      · rw [List.getElem?_eq_none (by rw [List.length_set, wipe_length]; omega), if_neg (fun z => hl z.2), List.getElem?_eq_none (by omega)]
    · rw [List.getElem?_set_ne hj, ih]
      by_cases h : j ∈ vs <;> simp [h, Ne.symm hj]
theorem wipe_set {τ : St} {vs : List Nat} {i : Nat} {x : Option V} (h : i ∈ vs) : wipe (τ.set i x) vs = wipe τ vs := by
  apply List.ext_getElem?
  intro j
  rw [wipe_get, wipe_get]
  by_cases hj : j = i
  · subst hj
    by_cases hl : j < τ.length
    · simp [h, hl]
    · have : τ.set j x = τ := List.set_eq_of_length_le (by omega)
      rw [this]
  · rw [List.getElem?_set_ne (Ne.symm hj)]
    simp
theorem wipe_wipe {τ : St} {vs : List Nat} : wipe (wipe τ vs) vs = wipe τ vs := by
  apply List.ext_getElem?
  intro j
  rw [wipe_get, wipe_get, wipe_length]
  by_cases h : j ∈ vs ∧ j < τ.length <;> simp [h]

/-- a target within a comprehension: its names are the block's own -/
def PatOk (c : Cn) (vs : List Nat) (G : TG) (D : DG) : Prop :=
  ∀ (g : Gh) (F : Addr → Prop) (la : List Addr) (σ σ' : PSt) (τ : St) (H : Hp) (p : PV) (v : V) (Q : St → Hp → Prop), SR c F la σ τ H → Ex g ⟨F, H, Ow σ τ la⟩ → RF c F H p v → D p σ = .ok () σ' →
    (∀ τ', wipe τ' vs = wipe τ vs → SR c F la σ' τ' H → Ex g ⟨F, H, Ow σ' τ' la⟩ → (∀ a, Ow σ' τ' la a → Ow σ τ la a) → Q τ' H) → G v τ H Q
def gNs : List Nat → TGs
  | [] => L2.gNil
  | i :: is => L2.gCons (gName i) (gNs is)
def gAll : List Nat → List PV → PSt → Rs Unit
  | [], [], σ => .ok () σ
  | i :: is, p :: ps, σ => gAll is ps ⟨σ.sl.set i (some (.frz p)), σ.ln⟩
  | _, _, _ => .no
section
variable {c : Cn} {vs : List Nat}
theorem ow_frz {la : List Addr} {σ : PSt} {τ : St} {i : Nat} {p : PV} {x : Option V} {a : Addr} (h : Ow ⟨σ.sl.set i (some (.frz p)), σ.ln⟩ (τ.set i x) la a) : Ow σ τ la a := by
  rcases h with z | ⟨j, w, e1, e2⟩
  · exact .inl z
  · by_cases hj : j = i
    · subst hj
      have hi : j < σ.sl.length := by
        have := (List.getElem?_eq_some_iff.mp e1).1
        simpa using this
      have e1' : some (some (Sl.frz p)) = some (some (Sl.own w)) := (List.getElem?_set_self hi).symm.trans e1
      cases e1'
    · exact .inr ⟨j, w, (List.getElem?_set_ne (Ne.symm hj)).symm.trans e1, (List.getElem?_set_ne (Ne.symm hj)).symm.trans e2⟩
theorem pat_name {i : Nat} (h : i ∈ vs) : PatOk c vs (gName i) (gN i) := by
  intro g F la σ σ' τ H p v Q S x r e q
  cases e
  obtain ⟨x2, S2⟩ := set_sl S x i (s := .frz p) (v := v) r fun a _ ⟨p, z⟩ => by cases z
  exact q _ (wipe_set h) S2 x2 fun a z => ow_frz z
theorem gNs_run {H : Hp} {Q : St → Hp → Prop} : ∀ (is : List Nat) (us : List V) (τ : St), us.length = is.length → Q (setAll is us τ) H → gNs is us τ H Q
  | [], us, τ, h, q => by
    have : us = [] := List.eq_nil_of_length_eq_zero h
    subst this
    exact ⟨rfl, q⟩
  | i :: is, u :: us, τ, h, q => ⟨u, us, rfl, gNs_run is us _ (by simpa using h) q⟩
  | i :: is, [], τ, h, q => by simp at h
theorem gAll_ok {F : Addr → Prop} {la : List Addr} {H : Hp} {g : Gh} : ∀ (is : List Nat) (ps : List PV) (us : List V) (σ σ' : PSt) (τ : St), (∀ i ∈ is, i ∈ vs) → SR c F la σ τ H → Ex g ⟨F, H, Ow σ τ la⟩ → RFs c F H ps us → gAll is ps σ = .ok () σ' →
    us.length = is.length ∧ wipe (setAll is us τ) vs = wipe τ vs ∧ SR c F la σ' (setAll is us τ) H ∧ Ex g ⟨F, H, Ow σ' (setAll is us τ) la⟩ ∧ ∀ a, Ow σ' (setAll is us τ) la a → Ow σ τ la a
  | [], [], us, σ, σ', τ, hv, S, x, r, e => by
    cases e
    unfold RFs at r
    subst r
    exact ⟨rfl, rfl, S, x, fun _ z => z⟩
  | [], _ :: _, _, _, _, _, _, _, _, _, e => by simp [gAll] at e
  | _ :: _, [], _, _, _, _, _, _, _, _, e => by simp [gAll] at e
  | i :: is, p :: ps, us, σ, σ', τ, hv, S, x, r, e => by
    unfold RFs at r
    obtain ⟨u, us, rfl, r1, r2⟩ := r
    obtain ⟨x2, S2⟩ := set_sl S x i (s := .frz p) (v := u) r1 fun a _ ⟨p, z⟩ => by cases z
    obtain ⟨h1, h2, h3, h4, h5⟩ := gAll_ok is ps us _ σ' _ (fun j hj => hv j (List.mem_cons_of_mem _ hj)) S2 x2 r2 e
    exact ⟨by simp [h1], h2.trans (wipe_set (hv i List.mem_cons_self)), h3, h4, fun a z => ow_frz (h5 a z)⟩
theorem pat_tup {is : List Nat} {n : Nat} (hn : n = is.length) (hv : ∀ i ∈ is, i ∈ vs) : PatOk c vs (gTup c.K n (gNs is)) (gT n (gAll is)) := by
  intro g F la σ σ' τ H p v Q S x r e q
  cases p with
  | tup xs =>
    unfold RF at r
    obtain ⟨a, us, rfl, h1, r1⟩ := r
    rw [gT] at e
    by_cases hl : xs.length = n
    · rw [if_pos hl] at e
      obtain ⟨k1, k2, k3, k4, k5⟩ := gAll_ok is xs us σ σ' τ hv S x r1 e
      exact ⟨a, us, rfl, h1, by rw [← r1.length]; exact hl, gNs_run is us τ k1 (q _ k2 k3 k4 k5)⟩
    · rw [if_neg hl] at e; cases e
  | _ => cases e
end
theorem nox_fin {α β : Type} {c : Cn} {W : WX} {la : List Addr} {σr τ : St} {g : Gh} {o : Rs α} {k : α → PSt → Rs β} {P : β → PSt → (Addr → Prop) → Hp → Prop} (h : Fin c W la σr g ((nox o).bind k) P) : ∃ a σ', o = .ok a σ' ∧ Fin c W la σr g (k a σ') P := by
  cases o with
  | ok a s => exact ⟨a, s, rfl, h⟩
  | ex e s => exact h.elim
  | no => exact h.elim
section
variable {X : Cx} {W : WX} {elt tg iter : Expr} {ifs : List Expr} {scope : Scope} {own : List (Str × Nat)} {pos : Pos} {di : DI} {G : TG} {g : DG} {dt : DT} {te : DE}
abbrev W0 : WX := fun _ _ _ _ => False
theorem zts_nil : PTs X [] (EVT (cn X) W dYes) := ⟨fun pins s σr H Q I q => pts_nil.run pins s σr H Q I (by
  obtain ⟨F, la, σ, S, f⟩ := q
  exact f F H (Ex.refl _) S)⟩
theorem zts_one {c : Expr} (h : PT X c (EVT (cn X) W dt)) : PTs X [c] (EVT (cn X) W dt) := pts_one h
theorem lc_read {wi : TI} {vs : List Nat} (hw : wi = IV (cn X) W di) (hp : PatOk (cn X) vs G g) : ∀ σr H Q, EV (cn X) W (dLc vs di g dt te) σr H Q → tLc wi G (EVT (cn X) W0 dt) (EV (cn X) W0 te) vs σr H Q := by
  subst hw
  intro σr H0 Q q
  obtain ⟨F, la, σ, S, f⟩ := q
  refine ⟨F, la, σ, S, f.bind.mono fun xs σ1 F1 H1 x1 S1 f1 J hJ D nD => ?_⟩
  obtain ⟨hc1, hc2⟩ := S1.fresh nD
  have k0 := upd_keeps (o := HO.lst []) nD
  have S1' := S1.keeps k0
  obtain ⟨S2, x2⟩ := wipe_sr S1' (x1.trans (Ex.keeps k0)) vs
  have nw0 : Nw ⟨F, H0, Ow σ σr la⟩ D := x1.back (.inr nD)
  refine ⟨fun i m H => m = xs.length - i ∧ i ≤ xs.length ∧ ∃ F' σ' acc us, SR (cn X) F' la σ' (wipe σr vs) H ∧ Ex ⟨F, H0, Ow σ σr la⟩ ⟨F', H, Ow σ' (wipe σr vs) la⟩ ∧ H D = some (.lst us) ∧ RFs (cn X) F' H acc us ∧ ¬ F' D ∧ ¬ Ow σ' (wipe σr vs) la D ∧
      (∀ a, F1 a → F' a) ∧ (∀ a o, H1 a = some o → (F1 a ∨ Stl o) → H a = some o) ∧ Fin (cn X) W la σr ⟨F, H0, Ow σ σr la⟩ ((lpLc vs g dt te (xs.drop i) acc σ').bind fun acc σ2 => .ok (.new (.lst acc)) σ2) (PE0 (cn X) la σr ⟨F, H0, Ow σ σr la⟩ Q),
    ⟨xs.length, rfl, Nat.zero_le _, F1, _, [], [], S2, x2, upd_same, RFs.nil_, hc1, fun z => hc2 ?_, fun _ f => f, fun a o e _ => k0 a o e, (show Fin (cn X) W la σr ⟨F, H0, Ow σ σr la⟩ ((lpLc vs g dt te (List.drop 0 xs) [] ⟨wipeP σ1.sl vs, σ1.ln⟩).bind fun acc σ2 => .ok (.new (.lst acc)) σ2) (PE0 (cn X) la σr ⟨F, H0, Ow σ σr la⟩ Q) from f1)⟩, ?_⟩
  · rcases z with z | ⟨i, v, e1, e2⟩
    · exact .inl z
    · exact .inr ⟨i, v, (wipeP_some e1).1, (wipe_some e2).1⟩
  rintro i m H ⟨rfl, hi, F', σ', acc, us, S', x', hD, rA, nF, nO, hF, hk, f'⟩
  obtain ⟨go, stop, yld⟩ := hJ F' H hF hk
  by_cases hlt : i < xs.length
  · refine .inr ⟨go i hlt, fun H' => ∃ F' σ' acc us, SR (cn X) F' la σ' (wipe σr vs) H' ∧ Ex ⟨F, H0, Ow σ σr la⟩ ⟨F', H', Ow σ' (wipe σr vs) la⟩ ∧ H' D = some (.lst us) ∧ RFs (cn X) F' H' acc us ∧ ¬ F' D ∧ ¬ Ow σ' (wipe σr vs) la D ∧
      (∀ a, F1 a → F' a) ∧ (∀ a o, H1 a = some o → (F1 a ∨ Stl o) → H' a = some o) ∧ Fin (cn X) W la σr ⟨F, H0, Ow σ σr la⟩ ((lpLc vs g dt te (xs.drop (i + 1)) acc σ').bind fun acc σ2 => .ok (.new (.lst acc)) σ2) (PE0 (cn X) la σr ⟨F, H0, Ow σ σr la⟩ Q),
      fun H' h => ⟨xs.length - (i + 1), by omega, rfl, hlt, h⟩, fun v H2 y => ?_⟩
    obtain ⟨p, ep, kp, rp⟩ := yld i v H2 hlt y
    have ed : xs.drop i = p :: xs.drop (i + 1) := by
      rw [List.drop_eq_getElem_cons hlt]
      rw [List.getElem?_eq_getElem hlt] at ep
      cases ep; rfl
    rw [ed, lpLc] at f'
    -- the target
    cases qg : g p σ' with
    | no => rw [qg] at f'; exact f'.elim
    | ex e s => rw [qg] at f'; exact f'.elim
    | ok u σ3 =>
    rw [qg] at f'
    have Sk := S'.keeps kp
    have xk := x'.trans (Ex.keeps (F := F') (O := Ow σ' (wipe σr vs) la) kp)
    refine hp _ F' la σ' σ3 (wipe σr vs) H2 p v _ Sk xk rp qg fun τ' hτ S3 x3 ow3 => ⟨by rw [hτ, wipe_wipe], ?_⟩
    have hτ' : wipe τ' vs = wipe σr vs := by rw [hτ, wipe_wipe]
    have kD := kp D _ hD
    have erD : ER (cn X) F' la (Ow σ3 τ' la) (Nw ⟨F, H0, Ow σ σr la⟩) τ' H2 (.new (.lst acc)) (.ref D) :=
      ⟨D, rfl, ⟨us, kD, RFs.ext (fun _ f => f) (fun a o e _ => kp a o e) _ _ rA⟩, nF, fun z => nO (ow3 D z), nw0⟩
    have f3 : Fin (cn X) W la σr ⟨F, H0, Ow σ σr la⟩ (((nox (dt σ3)).bind fun k σ2 => if k = true then (nox (te σ2)).bind fun r σ3 => match r with
      | .val p => if acc.length < szL then lpLc vs g dt te (xs.drop (i + 1)) (acc ++ [p]) ⟨wipeP σ3.sl vs, σ3.ln⟩ else .no
      | _ => .no else lpLc vs g dt te (xs.drop (i + 1)) acc ⟨wipeP σ2.sl vs, σ2.ln⟩).bind fun acc σ2 => .ok (.new (.lst acc)) σ2) (PE0 (cn X) la σr ⟨F, H0, Ow σ σr la⟩ Q) := f'
    cases qt : dt σ3 with
    | no => rw [qt] at f3; exact f3.elim
    | ex e s => rw [qt] at f3; exact f3.elim
    | ok b σ4 =>
    rw [qt] at f3
    have f3 : Fin (cn X) W la σr ⟨F, H0, Ow σ σr la⟩ ((if b = true then (nox (te σ4)).bind fun r σ3 => match r with
      | .val p => if acc.length < szL then lpLc vs g dt te (xs.drop (i + 1)) (acc ++ [p]) ⟨wipeP σ3.sl vs, σ3.ln⟩ else .no
      | _ => .no else lpLc vs g dt te (xs.drop (i + 1)) acc ⟨wipeP σ4.sl vs, σ4.ln⟩).bind fun acc σ2 => .ok (.new (.lst acc)) σ2) (PE0 (cn X) la σr ⟨F, H0, Ow σ σr la⟩ Q) := f3
    refine ⟨F', la, σ3, S3, ?_⟩
    rw [qt]
    intro F4 H4 x4 S4
    have erD4 := erD.ext S3 x4
    obtain ⟨D', eD, ⟨us4, hD4, rA4⟩, nF4, nO4, _⟩ := id erD4
    cases eD
    have keep4 : ∀ a o, H1 a = some o → (F1 a ∨ Stl o) → H4 a = some o := fun a o e h => Ex.keep S3 x4 a o (kp a o (hk a o e h)) (h.imp (hF a) id)
    cases b with
    | false =>
      rw [if_neg Bool.false_ne_true] at f3
      refine iteF ?_
      obtain ⟨S5, x5⟩ := wipe_sr S4 (x3.trans x4) vs
      rw [hτ'] at S5 x5
      refine ⟨F4, _, acc, us4, S5, x5, hD4, rA4, nF4, fun z => nO4 ?_, fun a f => x4.fr a (hF a f), keep4, f3⟩
      rcases z with z | ⟨j, w, e1, e2⟩
      · exact .inl z
      · rw [← hτ'] at e2
        exact .inr ⟨j, w, (wipeP_some e1).1, (wipe_some e2).1⟩
    | true =>
      rw [if_pos rfl] at f3
      refine iteT ?_
      cases qe : te σ4 with
      | no => rw [qe] at f3; exact f3.elim
      | ex e s => rw [qe] at f3; exact f3.elim
      | ok r σ5 =>
      rw [qe] at f3
      cases r with
      | val y =>
        have f3 : Fin (cn X) W la σr ⟨F, H0, Ow σ σr la⟩ ((if acc.length < szL then lpLc vs g dt te (xs.drop (i + 1)) (acc ++ [y]) ⟨wipeP σ5.sl vs, σ5.ln⟩ else .no).bind fun acc σ2 => .ok (.new (.lst acc)) σ2) (PE0 (cn X) la σr ⟨F, H0, Ow σ σr la⟩ Q) := f3
        by_cases hz : acc.length < szL
        · rw [if_pos hz] at f3
          refine ⟨F4, la, σ4, S4, ?_⟩
          rw [qe]
          intro F5 H5 x5 S5 yv ey
          have erD5 := erD4.ext S4 x5
          obtain ⟨a5, e5, ro5, nf5, nn5, wrk⟩ := wr_at (q := .lst (acc ++ [y])) S5 ((x3.trans x4).trans x5) erD5 rfl rfl
          cases e5
          obtain ⟨_, e5', ⟨us5, hD5, rA5⟩, nF5, nO5, _⟩ := id erD5
          cases e5'
          have ey' : RF (cn X) F5 H5 y yv := ey
          have kk : ∀ b u, H5 b = some u → (F5 b ∨ Stl u) → upd H5 D (.lst (us5 ++ [yv])) b = some u := fun b u e h => by
            rw [upd_ne (fun z => ?_)]
            · exact e
            · subst z
              rw [hD5] at e; cases e
              rcases h with h | h
              · exact nf5 h
              · exact h
          have roN : RO (cn X) F5 (upd H5 D (.lst (us5 ++ [yv]))) (.lst (acc ++ [y])) D :=
            ⟨_, upd_same, (RFs.ext (fun _ f => f) kk _ _ rA5).append (RFs.cons_ (RF.ext (fun _ f => f) kk _ _ ey') RFs.nil_)⟩
          obtain ⟨x6, S6⟩ := wrk _ roN
          obtain ⟨S7, x7⟩ := wipe_sr S6 x6 vs
          rw [hτ'] at S7 x7
          refine ⟨us5, hD5, by rw [← rA5.length, szL_eq]; exact hz, F5, _, acc ++ [y], us5 ++ [yv], S7, x7, upd_same, ?_, nF5, fun z => nO5 ?_, fun a f => x5.fr a (x4.fr a (hF a f)), fun a o e h => ?_, f3⟩
          · obtain ⟨us', e', r'⟩ := roN
            rw [upd_same] at e'; cases e'
            exact r'
          · rcases z with z | ⟨j, w, e1, e2⟩
            · exact .inl z
            · rw [← hτ'] at e2
              exact .inr ⟨j, w, (wipeP_some e1).1, (wipe_some e2).1⟩
          · rw [upd_ne (fun z => by subst z; rw [nD] at e; cases e)]
            exact Ex.keep S4 x5 a o (keep4 a o e h) (h.imp (fun f => x4.fr a (hF a f)) id)
        · rw [if_neg hz] at f3; exact f3.elim
      | _ => exact f3.elim
  · have e : i = xs.length := by omega
    subst e
    rw [List.drop_length, lpLc] at f'
    refine .inl ⟨stop, ?_⟩
    have f2 : Fin (cn X) W la σr ⟨F, H0, Ow σ σr la⟩ (Rs.ok (.new (.lst acc)) σ') (PE0 (cn X) la σr ⟨F, H0, Ow σ σr la⟩ Q) := f'
    obtain ⟨S3, x3⟩ := unwipe_sr S' x'
    exact f2 F' H x3 S3 _ ⟨D, rfl, ⟨us, hD, rA⟩, nF, fun z => nO (by
      rcases z with z | ⟨j, w, e1, e2⟩
      · exact .inl z
      · obtain ⟨b, e3, _⟩ := S'.own j w e1
        have e4 := (wipe_some e3).1
        rw [e2] at e4; cases e4
        exact .inr ⟨j, w, e1, e3⟩), nw0⟩
theorem z_lc {vs : List Nat} (hv : vs = own.map (·.2)) (hp : PatOk (cn X) vs G g) (hc : X.calm = true) (hN : X.N.Nodup) (hi : PI X tg iter (IV (cn X) W di)) (ok : BlkOk X.N X.env.scope scope own)
    (hg : ∀ (s : Shared) (H : Hp) (C : Addr) (cl : List (Str × Addr)) (fp : List Addr), PG (X.blk s H scope (compEnvC scope cl C X.env) fp) tg G) (ht : ∀ (s : Shared) (H : Hp) (C : Addr) (cl : List (Str × Addr)) (fp : List Addr), PTs (X.blk s H scope (compEnvC scope cl C X.env) fp) ifs (EVT (cn X) W0 dt))
    (he : ∀ (s : Shared) (H : Hp) (C : Addr) (cl : List (Str × Addr)) (fp : List Addr), PE (X.blk s H scope (compEnvC scope cl C X.env) fp) elt (EV (cn X) W0 te)) (hs : ∀ x, foldedSetIterable iter X.env x = pure x := by intro _; rfl) :
    PE X (.ListComp elt [⟨tg, iter, ifs, 0⟩] scope pos) (EV (cn X) W (dLc vs di g dt te)) := by
  subst hv
  exact PE.wk (pe_lc hc hN hi ok hg ht he hs) fun σ H Q q => lc_read rfl hp σ H Q q
theorem z_setLc {vs : List Nat} {i : Nat} {y : Str} {py spos : Pos} (hv : vs = own.map (·.2)) (hp : PatOk (cn X) vs G g) (hc : X.calm = true) (hN : X.N.Nodup) (hy : X.N[i]? = some y) (hyl : X.env.scope.names.lookup y = some .local)
    (hsw : swapsWith (.ListComp elt [⟨tg, iter, ifs, 0⟩] scope pos) (some (.Name y py)) spos.line X.env = pure true) (hi : PI X tg iter (IV (cn X) W di)) (ok : BlkOk X.N X.env.scope scope own)
    (hg : ∀ (s : Shared) (H : Hp) (C : Addr) (cl : List (Str × Addr)) (fp : List Addr), PG (X.blk s H scope (compEnvC scope cl C X.env) fp) tg G) (ht : ∀ (s : Shared) (H : Hp) (C : Addr) (cl : List (Str × Addr)) (fp : List Addr), PTs (X.blk s H scope (compEnvC scope cl C X.env) fp) ifs (EVT (cn X) W0 dt))
    (he : ∀ (s : Shared) (H : Hp) (C : Addr) (cl : List (Str × Addr)) (fp : List Addr), PE (X.blk s H scope (compEnvC scope cl C X.env) fp) elt (EV (cn X) W0 te)) (hs : ∀ x, foldedSetIterable iter X.env x = pure x := by intro _; rfl) :
    PS X (.Assign [.Name y py] (.ListComp elt [⟨tg, iter, ifs, 0⟩] scope pos) spos) (SV (cn X) W (dSet i (dLc vs di g dt te))) := by
  subst hv
  refine PS.wk (ps_setLc hc hN hy hyl hsw hi ok hg ht he hs) fun D σr H q => ?_
  obtain ⟨F, la, σ, S, f⟩ := q
  refine lc_read rfl hp σr H _ ⟨F, la, σ, S, f.expr.mono fun r σ1 F1 H1 x1 S1 f1 v e1 => ?_⟩
  rcases st_cases (i := i) (r := r) (σ := σ1) with ⟨σ2, q⟩ | q
  · rw [q] at f1
    obtain ⟨F2, x2, S2⟩ := st_ok S1 x1 e1 q
    exact f1 F2 H1 _ x2 S2
  · rw [q] at f1; exact f1.elim
end
end L2.Zz

/-! Z11: calls of defs. -/
namespace L2.Zz
open PySem PySem.Spec PyProof.Rows

/-- a place that is lent: a slot (true), a loan of one's own (false) -/
abbrev Pl := Bool × Nat
def bindA : List EVal → Nat → Option (List (Option Sl) × List Pl)
  | [], _ => some ([], [])
  | .val p :: rs, k => (bindA rs k).map fun q => (some (.frz p) :: q.1, q.2)
  | .new p :: rs, k => (bindA rs k).map fun q => (some (.own p) :: q.1, q.2)
  | .at i :: rs, k => (bindA rs (k + 1)).map fun q => (some (.lo k) :: q.1, (true, i) :: q.2)
  | .lo j :: rs, k => (bindA rs (k + 1)).map fun q => (some (.lo k) :: q.1, (false, j) :: q.2)
def con1 (σ : PSt) : Pl → Option PV
  | (true, i) => match σ.sl[i]? with
    | some (some (.own p)) => some p
    | _ => none
  | (false, k) => σ.ln[k]?
def conA (σ : PSt) : List Pl → Option (List PV)
  | [] => some []
  | w :: ws => match con1 σ w, conA σ ws with
    | some p, some ps => some (p :: ps)
    | _, _ => none
def wbk : List Pl → List PV → PSt → PSt
  | (true, i) :: ws, p :: ps, σ => wbk ws ps ⟨σ.sl.set i (some (.own p)), σ.ln⟩
  | (false, k) :: ws, p :: ps, σ => wbk ws ps ⟨σ.sl, σ.ln.set k p⟩
  | _, _, σ => σ
/-- what a def hands back -/
def outV (r : EVal) (σ : PSt) : Option EVal := match r with
  | .val p => some (.val p)
  | .new p => some (.new p)
  | .at i => match σ.sl[i]? with
    | some (some (.own p)) => some (.new p)
    | some (some (.frz p)) => some (.val p)
    | _ => none
  | .lo _ => none
def callD (n : Nat) (body : DS) (rs : List EVal) (σ : PSt) : Rs EVal := match bindA rs 0 with
  | some (s, w) => if w.Nodup then match conA σ w with
    | some ln => match body ⟨s ++ List.replicate (n - s.length) none, ln⟩ with
      | .ok .nx σ2 => .ok (.val .non) (wbk w σ2.ln σ)
      | .ok (.rt r) σ2 => match outV r σ2 with
        | some r' => .ok r' (wbk w σ2.ln σ)
        | none => .no
      | .ok _ _ => .no
      | .ex e σ2 => .ex e (wbk w σ2.ln σ)
      | .no => .no
    | none => .no else .no
  | none => .no
def dCall (n np : Nat) (body : DS) (da : DA) (dps : List PV) : DE := fun σ => (da σ).bind fun rs σ1 => if (rs ++ dps.map EVal.val).length = np then callD n body (rs ++ dps.map .val) σ1 else .no

/-- the promise of a def, by its body's denotation -/
def spD (c : Cn) (N : List Str) (np : Nat) (body : DS) : Sp := fun vs H Q E => vs.length = np ∧ SV c (fun cls d _ H => E cls d H) body { nx := fun _ H' => Q .non H', rt := Q } (start N vs) H

/-! ### the places -/
def adr (σr : St) (la : List Addr) : Pl → Addr
  | (true, i) => match σr[i]? with
    | some (some (V.ref a)) => a
    | _ => 0
  | (false, k) => la.getD k 0
section
variable {c : Cn} {F : Addr → Prop} {la : List Addr} {σ : PSt} {σr : St} {H : Hp}
theorem con1_ok (S : SR c F la σ σr H) {w : Pl} {p : PV} (e : con1 σ w = some p) : RO c F H p (adr σr la w) ∧ ¬ F (adr σr la w) ∧ Ow σ σr la (adr σr la w) := by
  obtain ⟨b, i⟩ := w
  cases b with
  | true =>
    rw [con1] at e
    cases q : σ.sl[i]? with
    | none => rw [q] at e; cases e
    | some t => cases t with
      | none => rw [q] at e; cases e
      | some t => cases t with
        | own p' =>
          rw [q] at e
          cases e
          obtain ⟨a, e1, r, n, m⟩ := S.own i p q
          have : adr σr la (true, i) = a := by simp [adr, e1]
          rw [this]
          exact ⟨r, n, .inr ⟨i, p, q, e1⟩⟩
        | _ => rw [q] at e; cases e
  | false =>
    have e' : σ.ln[i]? = some p := e
    have hi : i < la.length := by rw [S.lln]; exact (List.getElem?_eq_some_iff.mp e').1
    have ea : la[i]? = some (la.getD i 0) := by rw [List.getD_eq_getElem?_getD, List.getElem?_eq_getElem hi]; rfl
    obtain ⟨r, n⟩ := S.ln i p _ e' ea
    exact ⟨r, n, .inl (List.mem_of_getElem? ea)⟩
theorem con1_inj (S : SR c F la σ σr H) {w w' : Pl} {p p' : PV} (e : con1 σ w = some p) (e' : con1 σ w' = some p') (h : adr σr la w = adr σr la w') : w = w' := by
  have slot : ∀ {i : Nat} {p : PV}, con1 σ (true, i) = some p → σ.sl[i]? = some (some (.own p)) ∧ σr[i]? = some (some (V.ref (adr σr la (true, i)))) ∧ adr σr la (true, i) ∉ la := fun {i p} e => by
    rw [con1] at e
    cases q : σ.sl[i]? with
    | none => rw [q] at e; cases e
    | some t => cases t with
      | none => rw [q] at e; cases e
      | some t => cases t with
        | own p' =>
          rw [q] at e
          cases e
          obtain ⟨a, e1, r, n, m⟩ := S.own i p q
          have : adr σr la (true, i) = a := by simp [adr, e1]
          rw [this]
          exact ⟨rfl, e1, m⟩
        | _ => rw [q] at e; cases e
  have loan : ∀ {i : Nat} {p : PV}, con1 σ (false, i) = some p → la[i]? = some (adr σr la (false, i)) := fun {i p} e => by
    have e' : σ.ln[i]? = some p := e
    have hi : i < la.length := by rw [S.lln]; exact (List.getElem?_eq_some_iff.mp e').1
    show la[i]? = some (la.getD i 0)
    rw [List.getD_eq_getElem?_getD, List.getElem?_eq_getElem hi]; rfl
  obtain ⟨b, i⟩ := w
  obtain ⟨b', i'⟩ := w'
  cases b <;> cases b'
  · have h1 := loan e
    have h2 := loan e'
    rw [h] at h1
    obtain ⟨k1, e1⟩ := List.getElem?_eq_some_iff.mp h1
    obtain ⟨k2, e2⟩ := List.getElem?_eq_some_iff.mp h2
    have : i = i' := (List.getElem_inj S.lnd).mp (e1.trans e2.symm)
    rw [this]
  · have h1 := loan e
    obtain ⟨_, _, h2⟩ := slot e'
    exact absurd (by rw [← h]; exact List.mem_of_getElem? h1) h2
  · have h1 := loan e'
    obtain ⟨_, _, h2⟩ := slot e
    exact absurd (by rw [h]; exact List.mem_of_getElem? h1) h2
  · obtain ⟨a1, a2, _⟩ := slot e
    obtain ⟨b1, b2, _⟩ := slot e'
    rw [h] at a2
    have := S.inj i i' p p' _ a1 b1 a2 b2
    rw [this]
theorem conA_get : ∀ {w : List Pl} {ps : List PV}, conA σ w = some ps → w.length = ps.length ∧ ∀ (n : Nat) (x : Pl), w[n]? = some x → ∃ p, ps[n]? = some p ∧ con1 σ x = some p
  | [], ps, e => by cases e; exact ⟨rfl, fun n x h => by simp at h⟩
  | y :: w, ps, e => by
    rw [conA] at e
    cases q1 : con1 σ y with
    | none => rw [q1] at e; cases e
    | some p => cases q2 : conA σ w with
      | none => rw [q1, q2] at e; cases e
      | some ps' =>
        rw [q1, q2] at e
        cases e
        obtain ⟨h1, h2⟩ := conA_get q2
        refine ⟨by simp [h1], fun n x h => ?_⟩
        cases n with
        | zero => simp at h; subst h; exact ⟨p, rfl, q1⟩
        | succ n => simpa using h2 n x (by simpa using h)
theorem adr_nodup (S : SR c F la σ σr H) {w : List Pl} (nd : w.Nodup) (h : ∀ x ∈ w, ∃ p, con1 σ x = some p) : (w.map (adr σr la)).Nodup := by
  induction w with
  | nil => exact List.nodup_nil
  | cons y w ih =>
    rw [List.nodup_cons] at nd
    rw [List.map_cons, List.nodup_cons]
    refine ⟨fun z => ?_, ih nd.2 fun x hx => h x (List.mem_cons_of_mem _ hx)⟩
    obtain ⟨x, hx, e⟩ := List.mem_map.mp z
    obtain ⟨p, ep⟩ := h y List.mem_cons_self
    obtain ⟨q, eq⟩ := h x (List.mem_cons_of_mem _ hx)
    have := con1_inj S eq ep e
    subst this
    exact nd.1 hx

/-! ### what the arguments become -/
structure BindOk (c : Cn) (F : Addr → Prop) (H : Hp) (O N : Addr → Prop) (lc : List Addr) (k : Nat) (s : List (Option Sl)) (vs : List V) : Prop where
  len : s.length = vs.length
  frz : ∀ (i : Nat) (p : PV), s[i]? = some (some (.frz p)) → ∃ v, vs[i]? = some v ∧ RF c F H p v
  lo : ∀ (i n : Nat), s[i]? = some (some (.lo n)) → k ≤ n ∧ ∃ a, vs[i]? = some (V.ref a) ∧ lc[n - k]? = some a
  own : ∀ (i : Nat) (p : PV), s[i]? = some (some (.own p)) → ∃ a, vs[i]? = some (V.ref a) ∧ RO c F H p a ∧ ¬ F a ∧ ¬ O a ∧ N a
  inj : ∀ (i j : Nat) (p q : PV) (a : Addr), s[i]? = some (some (.own p)) → s[j]? = some (some (.own q)) → vs[i]? = some (V.ref a) → vs[j]? = some (V.ref a) → i = j
theorem bindA_ok (S : SR c F la σ σr H) {N : Addr → Prop} {rs : List EVal} {vs : List V} (h : ERs c F la (Ow σ σr la) N σr H rs vs) : ∀ {k : Nat} {s : List (Option Sl)} {w : List Pl}, bindA rs k = some (s, w) → (∀ x ∈ w, ∃ p, con1 σ x = some p) →
    BindOk c F H (Ow σ σr la) N (w.map (adr σr la)) k s vs ∧ ∀ (i : Nat) (p : PV), s[i]? = some (some (Sl.own p)) → rs[i]? = some (EVal.new p) := by
  induction h with
  | nil =>
    intro k s w e _
    cases e
    exact ⟨⟨rfl, fun i p h => by simp at h, fun i p h => by simp at h, fun i p h => by simp at h, fun i j p q a h => by simp at h⟩, fun i p h => by simp at h⟩
  | cons h1 h2 nn ih =>
    rename_i r v rs vs
    intro k s w e hw
    have lift : ∀ {s' : List (Option Sl)} {w' : List Pl} (x : Sl), BindOk c F H (Ow σ σr la) N (w'.map (adr σr la)) k s' vs → (∀ (i : Nat) (p : PV), s'[i]? = some (some (Sl.own p)) → rs[i]? = some (EVal.new p)) → (match x with | .frz p => RF c F H p v | .own p => r = .new p ∧ ∃ a, v = .ref a ∧ RO c F H p a ∧ ¬ F a ∧ ¬ Ow σ σr la a ∧ N a | .lo n => False) →
        BindOk c F H (Ow σ σr la) N (w'.map (adr σr la)) k (some x :: s') (v :: vs) ∧ ∀ (i : Nat) (p : PV), (some x :: s')[i]? = some (some (Sl.own p)) → (r :: rs)[i]? = some (EVal.new p) := by
      intro s' w' x B B2 hx
      refine ⟨⟨by simp [B.len], fun i p h => ?_, fun i n h => ?_, fun i p h => ?_, fun i j p q a e1 e2 e3 e4 => ?_⟩, fun i p h => ?_⟩
      · cases i with
        | zero => simp at h; subst h; exact ⟨v, rfl, hx⟩
        | succ i => exact B.frz i p (by simpa using h)
      · cases i with
        | zero => simp at h; subst h; exact hx.elim
        | succ i => simpa using B.lo i n (by simpa using h)
      · cases i with
        | zero => simp at h; subst h; obtain ⟨_, a, e, r⟩ := hx; exact ⟨a, by simp [e], r⟩
        | succ i => simpa using B.own i p (by simpa using h)
      · cases i with
        | zero => cases j with
          | zero => rfl
          | succ j =>
            simp at e1 e2 e3 e4
            subst e1
            obtain ⟨er, _⟩ := hx
            exact absurd rfl (nn a p er e3 j q (V.ref a) (B2 j q e2) e4)
        | succ i => cases j with
          | zero =>
            simp at e1 e2 e3 e4
            subst e2
            obtain ⟨er, _⟩ := hx
            exact absurd rfl (nn a q er e4 i p (V.ref a) (B2 i p e1) e3)
          | succ j => rw [B.inj i j p q a (by simpa using e1) (by simpa using e2) (by simpa using e3) (by simpa using e4)]
      · cases i with
        | zero => simp at h; subst h; simp [hx.1]
        | succ i => simpa using B2 i p (by simpa using h)
    have liftL : ∀ {s' : List (Option Sl)} {w' : List Pl} (x : Pl) (p0 : PV), BindOk c F H (Ow σ σr la) N (w'.map (adr σr la)) (k + 1) s' vs → (∀ (i : Nat) (p : PV), s'[i]? = some (some (Sl.own p)) → rs[i]? = some (EVal.new p)) → v = .ref (adr σr la x) →
        BindOk c F H (Ow σ σr la) N ((x :: w').map (adr σr la)) k (some (.lo k) :: s') (v :: vs) ∧ ∀ (i : Nat) (p : PV), (some (Sl.lo k) :: s')[i]? = some (some (Sl.own p)) → (r :: rs)[i]? = some (EVal.new p) := by
      intro s' w' x p0 B B2 hv
      refine ⟨⟨by simp [B.len], fun i p h => ?_, fun i n h => ?_, fun i p h => ?_, fun i j p q a e1 e2 e3 e4 => ?_⟩, fun i p h => ?_⟩
      · cases i with
        | zero => simp at h
        | succ i => exact B.frz i p (by simpa using h)
      · cases i with
        | zero => simp at h; subst h; exact ⟨Nat.le_refl _, _, by rw [hv]; rfl, by simp⟩
        | succ i =>
          obtain ⟨l, a, h1, h2⟩ := B.lo i n (by simpa using h)
          refine ⟨by omega, a, by simpa using h1, ?_⟩
          have : n - k = (n - (k + 1)) + 1 := by omega
          rw [this, List.map_cons]
          simpa using h2
      · cases i with
        | zero => simp at h
        | succ i => simpa using B.own i p (by simpa using h)
      · cases i with
        | zero => simp at e1
        | succ i => cases j with
          | zero => simp at e2
          | succ j => rw [B.inj i j p q a (by simpa using e1) (by simpa using e2) (by simpa using e3) (by simpa using e4)]
      · cases i with
        | zero => simp at h
        | succ i => simpa using B2 i p (by simpa using h)
    cases r with
    | val p =>
      rw [bindA] at e
      obtain ⟨q, e1, e2⟩ := Option.map_eq_some_iff.mp e
      cases e2
      obtain ⟨B, B2⟩ := ih e1 hw
      exact lift (.frz p) B B2 h1
    | new p =>
      rw [bindA] at e
      obtain ⟨q, e1, e2⟩ := Option.map_eq_some_iff.mp e
      cases e2
      obtain ⟨B, B2⟩ := ih e1 hw
      exact lift (.own p) B B2 ⟨rfl, h1⟩
    | «at» i =>
      rw [bindA] at e
      obtain ⟨q, e1, e2⟩ := Option.map_eq_some_iff.mp e
      cases e2
      obtain ⟨B, B2⟩ := ih e1 fun x hx => hw x (List.mem_cons_of_mem _ hx)
      obtain ⟨p, ep⟩ := hw (true, i) List.mem_cons_self
      refine liftL (true, i) p B B2 ?_
      have h1' : σr[i]? = some (some v) := h1
      rw [con1] at ep
      cases q : σ.sl[i]? with
      | none => rw [q] at ep; cases ep
      | some t => cases t with
        | none => rw [q] at ep; cases ep
        | some t => cases t with
          | own p' =>
            obtain ⟨a, e1, _⟩ := S.own i p' q
            rw [h1'] at e1; cases e1
            simp [adr, h1']
          | _ => rw [q] at ep; cases ep
    | lo j =>
      rw [bindA] at e
      obtain ⟨q, e1, e2⟩ := Option.map_eq_some_iff.mp e
      cases e2
      obtain ⟨B, B2⟩ := ih e1 fun x hx => hw x (List.mem_cons_of_mem _ hx)
      obtain ⟨p, ep⟩ := hw (false, j) List.mem_cons_self
      refine liftL (false, j) p B B2 ?_
      obtain ⟨a, rfl, ha⟩ := h1
      simp [adr, ha]
theorem wbk_len : ∀ (w : List Pl) (ps : List PV) (σ : PSt), (wbk w ps σ).sl.length = σ.sl.length ∧ (wbk w ps σ).ln.length = σ.ln.length
  | [], ps, σ => by cases ps <;> exact ⟨rfl, rfl⟩
  | (true, i) :: w, [], σ => ⟨rfl, rfl⟩
  | (false, i) :: w, [], σ => ⟨rfl, rfl⟩
  | (true, i) :: w, p :: ps, σ => by rw [wbk]; have := wbk_len w ps ⟨σ.sl.set i (some (.own p)), σ.ln⟩; simpa using this
  | (false, i) :: w, p :: ps, σ => by rw [wbk]; have := wbk_len w ps ⟨σ.sl, σ.ln.set i p⟩; simpa using this
theorem wbk_sl : ∀ (w : List Pl) (ps : List PV) (σ : PSt) (i : Nat), (true, i) ∉ w → (wbk w ps σ).sl[i]? = σ.sl[i]?
  | [], ps, σ, i, h => by cases ps <;> rfl
  | (true, j) :: w, [], σ, i, h => rfl
  | (false, j) :: w, [], σ, i, h => rfl
  | (true, j) :: w, p :: ps, σ, i, h => by
    rw [wbk, wbk_sl w ps _ i fun z => h (List.mem_cons_of_mem _ z)]
    exact List.getElem?_set_ne fun e => h (by rw [e]; exact List.mem_cons_self)
  | (false, j) :: w, p :: ps, σ, i, h => by
    rw [wbk, wbk_sl w ps _ i fun z => h (List.mem_cons_of_mem _ z)]
theorem wbk_ln : ∀ (w : List Pl) (ps : List PV) (σ : PSt) (i : Nat), (false, i) ∉ w → (wbk w ps σ).ln[i]? = σ.ln[i]?
  | [], ps, σ, i, h => by cases ps <;> rfl
  | (true, j) :: w, [], σ, i, h => rfl
  | (false, j) :: w, [], σ, i, h => rfl
  | (false, j) :: w, p :: ps, σ, i, h => by
    rw [wbk, wbk_ln w ps _ i fun z => h (List.mem_cons_of_mem _ z)]
    exact List.getElem?_set_ne fun e => h (by rw [e]; exact List.mem_cons_self)
  | (true, j) :: w, p :: ps, σ, i, h => by
    rw [wbk, wbk_ln w ps _ i fun z => h (List.mem_cons_of_mem _ z)]
theorem wbk_slM : ∀ (w : List Pl) (ps : List PV) (σ : PSt) (i n : Nat) (p : PV), w.Nodup → w[n]? = some (true, i) → ps[n]? = some p → i < σ.sl.length → (wbk w ps σ).sl[i]? = some (some (.own p))
  | [], _, _, _, _, _, _, h, _, _ => by simp at h
  | _ :: _, [], _, _, _, _, _, _, h, _ => by simp at h
  | y :: w, q :: ps, σ, i, n, p, nd, h, hp, hi => by
    rw [List.nodup_cons] at nd
    cases n with
    | zero =>
      simp at h hp
      subst h hp
      rw [wbk, wbk_sl w ps _ i nd.1]
      exact List.getElem?_set_self hi
    | succ n =>
      obtain ⟨b, j⟩ := y
      cases b with
      | true => rw [wbk]; exact wbk_slM w ps _ i n p nd.2 (by simpa using h) (by simpa using hp) (by simpa using hi)
      | false => rw [wbk]; exact wbk_slM w ps _ i n p nd.2 (by simpa using h) (by simpa using hp) hi
theorem wbk_lnM : ∀ (w : List Pl) (ps : List PV) (σ : PSt) (i n : Nat) (p : PV), w.Nodup → w[n]? = some (false, i) → ps[n]? = some p → i < σ.ln.length → (wbk w ps σ).ln[i]? = some p
  | [], _, _, _, _, _, _, h, _, _ => by simp at h
  | _ :: _, [], _, _, _, _, _, _, h, _ => by simp at h
  | y :: w, q :: ps, σ, i, n, p, nd, h, hp, hi => by
    rw [List.nodup_cons] at nd
    cases n with
    | zero =>
      simp at h hp
      subst h hp
      rw [wbk, wbk_ln w ps _ i nd.1]
      exact List.getElem?_set_self hi
    | succ n =>
      obtain ⟨b, j⟩ := y
      cases b with
      | false => rw [wbk]; exact wbk_lnM w ps _ i n p nd.2 (by simpa using h) (by simpa using hp) (by simpa using hi)
      | true => rw [wbk]; exact wbk_lnM w ps _ i n p nd.2 (by simpa using h) (by simpa using hp) hi
end
end L2.Zz

/-! Z12: the call of a def by its denotation. -/
namespace L2.Zz
open PySem PySem.Spec PyProof.Rows

theorem app_get {α : Type} {s : List (Option α)} {m i : Nat} {x : α} (h : (s ++ List.replicate m none)[i]? = some (some x)) : s[i]? = some (some x) := by
  by_cases hi : i < s.length
  · rw [List.getElem?_append_left hi] at h; exact h
  · rw [List.getElem?_append_right (by omega), List.getElem?_replicate] at h
    split at h <;> simp at h
theorem start_get {N : List Str} {vs : List V} {i : Nat} {v : V} (h : vs[i]? = some v) : (start N vs)[i]? = some (some v) := by
  unfold start
  have hi := (List.getElem?_eq_some_iff.mp h).1
  rw [List.getElem?_append_left (by simpa using hi), List.getElem?_map, h]
  rfl
theorem start_get' {N : List Str} {vs : List V} {i : Nat} {v : V} (h : (start N vs)[i]? = some (some v)) : vs[i]? = some v := by
  unfold start at h
  have := app_get h
  rw [List.getElem?_map] at this
  cases q : vs[i]? with
  | none => rw [q] at this; cases this
  | some u => rw [q] at this; cases this; rfl
section
variable {c : Cn} {F : Addr → Prop} {la : List Addr} {σ : PSt} {σr : St} {H : Hp} {W : WX} {g : Gh}
theorem callD_ok {N : List Str} {np : Nat} {body : DS} {rs : List EVal} {vs : List V} {Q : VK} (hl : vs.length = np) (hn : vs.length ≤ N.length) (S : SR c F la σ σr H) (x : Ex g ⟨F, H, Ow σ σr la⟩) (h : ERs c F la (Ow σ σr la) (Nw g) σr H rs vs)
    (f : Fin c W la σr g (callD N.length body rs σ) (PE0 c la σr g Q)) : spD c N np body vs H Q (fun cls d H' => W cls d σr H') := by
  refine ⟨hl, ?_⟩
  unfold callD at f
  cases qb : bindA rs 0 with
  | none => rw [qb] at f; exact f.elim
  | some sw =>
  obtain ⟨s, w⟩ := sw
  rw [qb] at f
  simp only at f
  by_cases nd : w.Nodup
  · rw [if_pos nd] at f
    cases qc : conA σ w with
    | none => rw [qc] at f; exact f.elim
    | some ln =>
    rw [qc] at f
    simp only at f
    obtain ⟨cl, cg⟩ := conA_get qc
    have hw : ∀ y ∈ w, ∃ p, con1 σ y = some p := fun y hy => by
      obtain ⟨n, hn, e⟩ := List.mem_iff_getElem.mp hy
      obtain ⟨p, _, e2⟩ := cg n y (by rw [List.getElem?_eq_getElem hn, e])
      exact ⟨p, e2⟩
    obtain ⟨B, _⟩ := bindA_ok S h qb hw
    -- where the loans lie
    have hlc : ∀ a, a ∈ w.map (adr σr la) → Ow σ σr la a ∧ ¬ F a ∧ ∃ o, H a = some o := fun a ha => by
      obtain ⟨y, hy, rfl⟩ := List.mem_map.mp ha
      obtain ⟨p, ep⟩ := hw y hy
      obtain ⟨r, nf, ow⟩ := con1_ok S ep
      obtain ⟨o, eo, _⟩ := r.there
      exact ⟨ow, nf, o, eo⟩
    have S0 : SR c F (w.map (adr σr la)) ⟨s ++ List.replicate (N.length - s.length) none, ln⟩ (start N vs) H := by
      refine ⟨?_, fun i v e => ?_, fun i k e => ?_, fun i v e => ?_, fun i j v u a e1 e2 e3 e4 => ?_, by rw [List.length_map]; exact cl, adr_nodup S nd hw, fun k v a e1 e2 => ?_, S.ftr⟩
      · unfold start
        simp [B.len]
      · obtain ⟨u, e1, r⟩ := B.frz i v (app_get e)
        exact ⟨u, start_get e1, r⟩
      · obtain ⟨_, a, e1, e2⟩ := B.lo i k (app_get e)
        exact ⟨a, start_get e1, by simpa using e2⟩
      · obtain ⟨a, e1, r, nf, no, nn⟩ := B.own i v (app_get e)
        exact ⟨a, start_get e1, r, nf, fun z => no (hlc a z).1⟩
      · exact B.inj i j v u a (app_get e1) (app_get e2) (start_get' e3) (start_get' e4)
      · obtain ⟨y, ey⟩ : ∃ y, w[k]? = some y := by
          have := (List.getElem?_eq_some_iff.mp e2).1
          rw [List.length_map] at this
          exact ⟨_, List.getElem?_eq_getElem this⟩
        obtain ⟨p, e3, e4⟩ := cg k y ey
        rw [List.getElem?_map, ey] at e2
        cases e2
        have e1' : ln[k]? = some v := e1
        rw [e3] at e1'; cases e1'
        obtain ⟨r, nf, _⟩ := con1_ok S e4
        exact ⟨r, nf⟩
    -- what the callee may write is lent or new
    have ow0 : ∀ a, Ow ⟨s ++ List.replicate (N.length - s.length) none, ln⟩ (start N vs) (w.map (adr σr la)) a → a ∈ w.map (adr σr la) ∨ (¬ Ow σ σr la a ∧ Nw g a ∧ ∃ o, H a = some o) := fun a z => by
      rcases z with z | ⟨i, p, e1, e2⟩
      · exact .inl z
      · obtain ⟨b, e3, r, nf, no, nn⟩ := B.own i p (app_get e1)
        rw [start_get e3] at e2; cases e2
        obtain ⟨o, eo, _⟩ := r.there
        exact .inr ⟨no, nn, o, eo⟩
    -- behind the callee
    have back : ∀ (F2 : Addr → Prop) (H2 : Hp) (σ2 : PSt) (σr2 : St), Ex ⟨F, H, Ow ⟨s ++ List.replicate (N.length - s.length) none, ln⟩ (start N vs) (w.map (adr σr la))⟩ ⟨F2, H2, Ow σ2 σr2 (w.map (adr σr la))⟩ → SR c F2 (w.map (adr σr la)) σ2 σr2 H2 →
        Ex g ⟨F2, H2, Ow (wbk w σ2.ln σ) σr la⟩ ∧ SR c F2 la (wbk w σ2.ln σ) σr H2 ∧ (∀ a, Ow (wbk w σ2.ln σ) σr la a → Ow σ σr la a) := by
      intro F2 H2 σ2 σr2 x2 S2
      have l2 : w.length = σ2.ln.length := by rw [← S2.lln, List.length_map]
      have keep := Ex.keep S0 x2
      have hF : ∀ a, F a → F2 a := x2.fr
      have at_ : ∀ {n : Nat} {y : Pl}, w[n]? = some y → ∃ p, σ2.ln[n]? = some p ∧ RO c F2 H2 p (adr σr la y) ∧ ¬ F2 (adr σr la y) := fun {n y} e => by
        have hn : n < σ2.ln.length := by rw [← l2]; exact (List.getElem?_eq_some_iff.mp e).1
        refine ⟨_, List.getElem?_eq_getElem hn, ?_⟩
        exact S2.ln n _ _ (List.getElem?_eq_getElem hn) (by rw [List.getElem?_map, e]; rfl)
      have ow1 : ∀ a, Ow (wbk w σ2.ln σ) σr la a → Ow σ σr la a := fun a z => by
        rcases z with z | ⟨i, p, e1, e2⟩
        · exact .inl z
        · by_cases hm : (true, i) ∈ w
          · obtain ⟨q, eq⟩ := hw _ hm
            rw [con1] at eq
            cases qs : σ.sl[i]? with
            | none => rw [qs] at eq; cases eq
            | some t => cases t with
              | none => rw [qs] at eq; cases eq
              | some t => cases t with
                | own p' => exact .inr ⟨i, p', qs, e2⟩
                | _ => rw [qs] at eq; cases eq
          · rw [wbk_sl w _ σ i hm] at e1
            exact .inr ⟨i, p, e1, e2⟩
      have n2 : ∀ a, Ow σ σr la a → a ∉ w.map (adr σr la) → ¬ F2 a ∧ ∀ o, H a = some o → H2 a = some o := fun a ho hm => by
        have nO : ¬ Ow ⟨s ++ List.replicate (N.length - s.length) none, ln⟩ (start N vs) (w.map (adr σr la)) a := fun z => by
          rcases ow0 a z with z | ⟨z, _⟩
          · exact hm z
          · exact z ho
        refine ⟨fun z => ?_, fun o e => x2.kp a o e nO⟩
        obtain ⟨⟨o, eo, _⟩, nf⟩ := S.ow_there ho
        rcases x2.fn a z with z | z | z
        · exact nf z
        · exact nO z
        · have z' : H a = none := z
          rw [eo] at z'; cases z'
      refine ⟨⟨fun a f => hF a (x.fr a f), fun a o e no => ?_, fun a z => x.ow a (ow1 a z), fun a z => ?_⟩, ⟨by rw [(wbk_len w _ σ).1]; exact S.len, fun i v e => ?_, fun i k e => ?_, fun i v e => ?_, fun i j v u a e1 e2 e3 e4 => ?_, by rw [(wbk_len w _ σ).2]; exact S.lln, S.lnd, fun k v a e1 e2 => ?_, S2.ftr⟩, ow1⟩
      · have e1 := x.kp a o e no
        refine x2.kp a o e1 fun z => ?_
        have nw : Nw g a := by
          rcases ow0 a z with z | ⟨_, z, _⟩
          · exact x.ow a (hlc a z).1
          · exact z
        rcases nw with z | z
        · exact no z
        · rw [e] at z; cases z
      · rcases x2.fn a z with z | z | z
        · exact x.fn a z
        · rcases ow0 a z with z | ⟨_, z, _⟩
          · exact .inr (x.ow a (hlc a z).1)
          · exact .inr z
        · exact .inr (x.back (.inr z))
      · have hm : (true, i) ∉ w := fun z => by
          obtain ⟨n, hn, e1⟩ := List.mem_iff_getElem.mp z
          have e1' : w[n]? = some (true, i) := by rw [List.getElem?_eq_getElem hn, e1]
          obtain ⟨p, e2, _⟩ := at_ e1'
          have hi : i < σ.sl.length := by
            have := (List.getElem?_eq_some_iff.mp e).1
            rw [(wbk_len w _ σ).1] at this
            exact this
          rw [wbk_slM w _ σ i n p nd e1' e2 hi] at e
          cases e
        rw [wbk_sl w _ σ i hm] at e
        obtain ⟨u, e1, r⟩ := S.frz i v e
        exact ⟨u, e1, RF.ext hF keep _ _ r⟩
      · have hm : (true, i) ∉ w := fun z => by
          obtain ⟨n, hn, e1⟩ := List.mem_iff_getElem.mp z
          have e1' : w[n]? = some (true, i) := by rw [List.getElem?_eq_getElem hn, e1]
          obtain ⟨p, e2, _⟩ := at_ e1'
          have hi : i < σ.sl.length := by
            have := (List.getElem?_eq_some_iff.mp e).1
            rw [(wbk_len w _ σ).1] at this
            exact this
          rw [wbk_slM w _ σ i n p nd e1' e2 hi] at e
          cases e
        rw [wbk_sl w _ σ i hm] at e
        exact S.lo i k e
      · by_cases hm : (true, i) ∈ w
        · obtain ⟨n, hn, e1⟩ := List.mem_iff_getElem.mp hm
          have e1' : w[n]? = some (true, i) := by rw [List.getElem?_eq_getElem hn, e1]
          obtain ⟨p, e2, r, nf⟩ := at_ e1'
          obtain ⟨q, eq⟩ := hw _ hm
          rw [con1] at eq
          cases qs : σ.sl[i]? with
          | none => rw [qs] at eq; cases eq
          | some t => cases t with
            | none => rw [qs] at eq; cases eq
            | some t => cases t with
              | own p' =>
                obtain ⟨a, e3, _, _, nl⟩ := S.own i p' qs
                have ea : adr σr la (true, i) = a := by simp [adr, e3]
                rw [ea] at r nf
                rw [wbk_slM w _ σ i n p nd e1' e2 (List.getElem?_eq_some_iff.mp qs).1] at e
                cases e
                exact ⟨a, e3, r, nf, nl⟩
              | _ => rw [qs] at eq; cases eq
        · rw [wbk_sl w _ σ i hm] at e
          obtain ⟨a, e1, r, nf, nl⟩ := S.own i v e
          have ho : Ow σ σr la a := .inr ⟨i, v, e, e1⟩
          have hn : a ∉ w.map (adr σr la) := fun z => by
            obtain ⟨y, hy, ey⟩ := List.mem_map.mp z
            obtain ⟨p, ep⟩ := hw y hy
            have ei : con1 σ (true, i) = some v := by rw [con1, e]
            have ea : adr σr la (true, i) = a := by simp [adr, e1]
            exact hm (by rw [con1_inj S ei ep (ea.trans ey.symm)]; exact hy)
          obtain ⟨h1, h2⟩ := n2 a ho hn
          exact ⟨a, e1, r.ext hF keep h2, h1, nl⟩
      · have own : ∀ {i : Nat} {v : PV}, (wbk w σ2.ln σ).sl[i]? = some (some (Sl.own v)) → ∃ v', σ.sl[i]? = some (some (Sl.own v')) := fun {i v} e => by
          by_cases hm : (true, i) ∈ w
          · obtain ⟨q, eq⟩ := hw _ hm
            rw [con1] at eq
            cases qs : σ.sl[i]? with
            | none => rw [qs] at eq; cases eq
            | some t => cases t with
              | none => rw [qs] at eq; cases eq
              | some t => cases t with
                | own p' => exact ⟨p', rfl⟩
                | _ => rw [qs] at eq; cases eq
          · rw [wbk_sl w _ σ i hm] at e
            exact ⟨v, e⟩
        obtain ⟨v', e1'⟩ := own e1
        obtain ⟨u', e2'⟩ := own e2
        exact S.inj i j v' u' a e1' e2' e3 e4
      · by_cases hm : (false, k) ∈ w
        · obtain ⟨n, hn, e3⟩ := List.mem_iff_getElem.mp hm
          have e3' : w[n]? = some (false, k) := by rw [List.getElem?_eq_getElem hn, e3]
          obtain ⟨p, e4, r, nf⟩ := at_ e3'
          have hk : k < σ.ln.length := by
            have := (List.getElem?_eq_some_iff.mp e1).1
            rw [(wbk_len w _ σ).2] at this
            exact this
          rw [wbk_lnM w _ σ k n p nd e3' e4 hk] at e1
          cases e1
          have ea : adr σr la (false, k) = a := by simp [adr, e2]
          rw [ea] at r nf
          exact ⟨r, nf⟩
        · rw [wbk_ln w _ σ k hm] at e1
          obtain ⟨r, nf⟩ := S.ln k v a e1 e2
          have ho : Ow σ σr la a := .inl (List.mem_of_getElem? e2)
          have hn : a ∉ w.map (adr σr la) := fun z => by
            obtain ⟨y, hy, ey⟩ := List.mem_map.mp z
            obtain ⟨p, ep⟩ := hw y hy
            have ei : con1 σ (false, k) = some v := e1
            have ea : adr σr la (false, k) = a := by simp [adr, e2]
            exact hm (by rw [con1_inj S ei ep (ea.trans ey.symm)]; exact hy)
          obtain ⟨h1, h2⟩ := n2 a ho hn
          exact ⟨r.ext hF keep h2, h1⟩
    refine ⟨F, w.map (adr σr la), _, S0, ?_⟩
    -- a new value of the callee's is new here
    have newOk : ∀ {F2 : Addr → Prop} {H2 : Hp} {σ2 : PSt} {σr2 : St} {a : Addr}, Ex ⟨F, H, Ow ⟨s ++ List.replicate (N.length - s.length) none, ln⟩ (start N vs) (w.map (adr σr la))⟩ ⟨F2, H2, Ow σ2 σr2 (w.map (adr σr la))⟩ → Nw ⟨F, H, Ow ⟨s ++ List.replicate (N.length - s.length) none, ln⟩ (start N vs) (w.map (adr σr la))⟩ a → a ∉ w.map (adr σr la) →
        ¬ Ow σ σr la a ∧ Nw g a := fun {F2 H2 σ2 σr2 a} x2 hn hm => by
      rcases hn with z | z
      · rcases ow0 a z with z | ⟨z1, z2, _⟩
        · exact absurd z hm
        · exact ⟨z1, z2⟩
      · refine ⟨fun z2 => ?_, x.back (.inr z)⟩
        obtain ⟨⟨o, eo, _⟩, _⟩ := S.ow_there z2
        have z' : H a = none := z
        rw [eo] at z'
        cases z'
    cases qf : body ⟨s ++ List.replicate (N.length - s.length) none, ln⟩ with
    | no => rw [qf] at f; exact f.elim
    | ex e σ2 =>
      rw [qf] at f
      intro F2 H2 σr2 cls dd x2 S2 hc hf
      obtain ⟨xb, Sb, _⟩ := back F2 H2 σ2 σr2 x2 S2
      exact f F2 H2 cls dd xb Sb hc hf
    | ok fl σ2 =>
      rw [qf] at f
      intro F2 H2 σr2 x2 S2
      obtain ⟨xb, Sb, owb⟩ := back F2 H2 σ2 σr2 x2 S2
      cases fl with
      | bk => exact f.elim
      | ct => exact f.elim
      | nx => exact f F2 H2 xb Sb _ (show RF c F2 H2 .non .non from RF.non_)
      | rt r =>
        simp only at f
        intro v ev
        cases r with
        | val p => exact f F2 H2 xb Sb v ev
        | lo k => exact f.elim
        | new p =>
          have f2 : Fin c W la σr g (Rs.ok (EVal.new p) (wbk w σ2.ln σ)) (PE0 c la σr g Q) := f
          obtain ⟨a, ea, ro, nf, no, nn⟩ := ev
          obtain ⟨h1, h2⟩ := newOk x2 nn fun z => no (.inl z)
          exact f2 F2 H2 xb Sb v ⟨a, ea, ro, nf, fun z => h1 (owb a z), h2⟩
        | «at» i =>
          have ev' : σr2[i]? = some (some v) := ev
          simp only [outV] at f
          cases qs : σ2.sl[i]? with
          | none => rw [qs] at f; exact f.elim
          | some t => cases t with
            | none => rw [qs] at f; exact f.elim
            | some t => cases t with
              | lo k => rw [qs] at f; exact f.elim
              | frz p =>
                rw [qs] at f
                obtain ⟨u, e1, r⟩ := S2.frz i p qs
                rw [ev'] at e1; cases e1
                exact f F2 H2 xb Sb v r
              | own p =>
                rw [qs] at f
                obtain ⟨a, e1, r, nf, nl⟩ := S2.own i p qs
                have f2 : Fin c W la σr g (Rs.ok (EVal.new p) (wbk w σ2.ln σ)) (PE0 c la σr g Q) := f
                have ev2 : v = .ref a := by rw [ev'] at e1; cases e1; rfl
                obtain ⟨h1, h2⟩ := newOk x2 (x2.ow a (.inr ⟨i, p, qs, e1⟩)) nl
                exact f2 F2 H2 xb Sb v ⟨a, ev2, r, nf, fun z => h1 (owb a z), h2⟩
  · rw [if_neg nd] at f; exact f.elim
end

/-! ### a def, a call -/
section
variable {P : Program} {w : World} {K : PySem.W.Frag} {mg : Str → Option Value} {base : Heap}
/-- a def of the text keeps the promise of its body's denotation -/
theorem fn_ok {x qual : Str} {st : Stmt} {f : Addr} {fd : FuncData} {N ps : List Str} {k : Nat} {body : DS} (F : Fun K x qual st f fd) (S : FnScope N ps (defScope st))
    (hb : ∀ (cdv : Value) (A : Around) (outer : List Env) (s : Shared) (H : Hp) (E : XK), Room k (A.deeper (envOfC qual (defScope st) s.heap.objs.size f cdv)) →
      PSs (cxOf (L2.CX P w) P w K mg base N qual (defScope st) f cdv A outer s H E) (defBody st) (SV ⟨P, w, K, mg⟩ (fun cls d _ H => E cls d H) body)) : FnOk P w K mg base (L2.CX P w) (k + 1) f fd ps (spD ⟨P, w, K, mg⟩ N ps.length body) :=
  F.okX S (fun vs H Q E h => h.1) fun cdv A outer s H vs Q E hr h => ⟨_, hb cdv A outer s H E hr, h.2⟩
end
section
variable {X : Cx} {W : WX} {k np : Nat} {f : Addr} {fd : FuncData} {N ps : List Str} {body : DS} {x : Str} {p pos : Pos} {e : Expr} {es : List Expr} {da : DA} {dvs : List V} {ds : List Value} {dps : List PV}
theorem ERs.app {c : Cn} {F : Addr → Prop} {la : List Addr} {O N : Addr → Prop} {σr : St} {H : Hp} {rs : List EVal} {vs : List V} (h : ERs c F la O N σr H rs vs) : ∀ {ps : List PV} {us : List V}, RFs c F H ps us → ERs c F la O N σr H (rs ++ ps.map .val) (vs ++ us) := by
  have base : ∀ {ps : List PV} {us : List V}, RFs c F H ps us → ERs c F la O N σr H (ps.map .val) us ∧ ∀ a, NoNew a (ps.map EVal.val) us := fun {ps} => by
    induction ps with
    | nil => intro us r; unfold RFs at r; subst r; exact ⟨.nil, fun a i p v e => by simp at e⟩
    | cons p ps ih =>
      intro us r
      unfold RFs at r
      obtain ⟨u, us, rfl, h1, h2⟩ := r
      obtain ⟨i1, i2⟩ := ih h2
      refine ⟨.cons h1 i1 fun a q z => (by cases z), fun a i q v e1 e2 => ?_⟩
      cases i with
      | zero => simp at e1
      | succ i => exact i2 a i q v (by simpa using e1) (by simpa using e2)
  induction h with
  | nil => intro ps us r; simpa using (base r).1
  | cons h1 h2 nn ih =>
    intro ps us r
    refine .cons h1 (ih r) fun a q z1 z2 i q' v e1 e2 => ?_
    have l := h2.length
    rename_i r0 v0 rs vs
    have e1 : (rs ++ ps.map EVal.val)[i]? = some (EVal.new q') := e1
    have e2 : (vs ++ us)[i]? = some v := e2
    by_cases hi : i < rs.length
    · rw [List.getElem?_append_left hi] at e1
      rw [List.getElem?_append_left (by omega)] at e2
      exact nn a q z1 z2 i q' v e1 e2
    · rw [List.getElem?_append_right (by omega)] at e1
      rw [List.getElem?_append_right (by omega)] at e2
      rw [← l] at e2
      exact (base r).2 a _ q' v e1 e2
theorem z_call (F : FnOk X.prog X.w X.K X.mg X.base (L2.CX X.prog X.w) k f fd ps (spD (cn X) N np body)) (hr : Room k X.A) (hg : Gl X x) (hm : X.mg x = some (.ref f)) (hk : PySem.W.keepIn X.K (.ref f) = true) (hb : Binds X.K fd ps ds) (hd : Vals dvs ds) (hdp : ∀ F H, RFs (cn X) F H dps dvs) (tk : Takes X W)
    (ha : PA X (e :: es) (EVA (cn X) W da)) (hn : np ≤ N.length) (hdb : (x == ("__debug__" : Str)) = false := by decide) (he : starEach (e :: es) X.env = (false, eval e X.env) :: starEach es X.env := by rfl) (hpl : (backTo pos (starEach es X.env)).any (·.1) = false := by rfl) :
    PE X (.Call (.Name x p) (e :: es) [] pos) (EV (cn X) W (dCall N.length np body da dps)) :=
  PE.wk (pe_callSD (E := fun σr cls d H => W cls d σr H) F hr hg hm hk hb hd (fun σ => passAt tk σ) ha hdb he hpl) fun σr H Q q => by
    obtain ⟨F, la, σ, S, g⟩ := q
    refine ⟨F, la, σ, S, g.bind.mono fun rs σ1 F1 H1 x1 S1 f1 vs es' => ?_⟩
    obtain ⟨hl, f2⟩ := fin_if f1
    have ea := es'.app (hdp F1 H1)
    have hlen : (vs ++ dvs).length = np := by rw [← ea.length]; exact hl
    exact callD_ok hlen (by rw [hlen]; exact hn) S1 x1 ea f2
end
end L2.Zz

/-! Z13: dicts with tuples for keys; storing into lists and dicts. -/
namespace L2.Zz
open PySem PySem.Spec PyProof.Rows

def kIx (ks : List PV) (k : PV) : Option Nat := (keysOf ks).findIdx? fun x => decide (x = keyOf k)
def kPut (ks vs : List PV) (k v : PV) : PV := match kIx ks k with
  | some i => .dct ks (vs.set i v)
  | none => .dct (ks ++ [k]) (vs ++ [v])
def kDel (ks vs : List PV) (i : Nat) : PV := .dct (ks.eraseIdx i) (vs.eraseIdx i)
abbrev DX := List (NestedKey × Addr × Value)

/-! ### entries -/
theorem keysOf_len : ∀ ks : List PV, (keysOf ks).length = ks.length
  | [] => rfl
  | k :: ks => by rw [keysOf]; simp [keysOf_len ks]
theorem keysOf_get : ∀ {ks : List PV} {i : Nat} {x : NestedKey}, (keysOf ks)[i]? = some x → ∃ k, ks[i]? = some k ∧ keyOf k = x
  | [], _, _, h => by rw [keysOf] at h; simp at h
  | k :: ks, 0, x, h => by rw [keysOf] at h; simp at h; exact ⟨k, rfl, h⟩
  | k :: ks, i + 1, x, h => by rw [keysOf] at h; simp at h; simpa using keysOf_get h
theorem keysOf_app : ∀ (ks : List PV) (k : PV), keysOf (ks ++ [k]) = keysOf ks ++ [keyOf k]
  | [], k => by simp [keysOf]
  | x :: ks, k => by rw [List.cons_append, keysOf, keysOf, keysOf_app ks k]; rfl
theorem at_ix {k : NestedKey} : ∀ {xs : DX} {i : Nat}, (xs.map (·.1)).findIdx? (fun x => decide (x = k)) = some i → ∃ x, xs[i]? = some x ∧ x.1 = k ∧ atKey xs k = some x.2
  | [], _, h => by simp at h
  | x :: xs, i, h => by
    rw [List.map_cons, List.findIdx?_cons] at h
    by_cases e : x.1 = k
    · simp [e] at h
      subst h
      exact ⟨x, rfl, e, by simp [atKey, e]⟩
    · simp [e] at h
      obtain ⟨j, h1, rfl⟩ := h
      have h1' : (xs.map (·.1)).findIdx? (fun x => decide (x = k)) = some j := by rw [List.findIdx?_map]; exact h1
      obtain ⟨y, h2, h3, h4⟩ := at_ix h1'
      refine ⟨y, by simpa using h2, h3, ?_⟩
      unfold atKey at h4 ⊢
      rw [List.find?_cons]
      simp only [e, decide_false]
      exact h4
theorem at_no {k : NestedKey} : ∀ {xs : DX}, (xs.map (·.1)).findIdx? (fun x => decide (x = k)) = none → atKey xs k = none
  | [], h => rfl
  | x :: xs, h => by
    rw [List.map_cons, List.findIdx?_cons] at h
    by_cases e : x.1 = k
    · simp [e] at h
    · simp only [e, decide_false, Bool.false_eq_true, if_false, Option.map_eq_none_iff] at h
      have := at_no h
      unfold atKey at this ⊢
      rw [List.find?_cons]
      simp only [e, decide_false]
      exact this
theorem put_id {k : NestedKey} {v : Value} : ∀ {xs : DX}, k ∉ xs.map (·.1) → xs.map (putAt k v) = xs
  | [], _ => rfl
  | x :: xs, h => by
    rw [List.map_cons, List.mem_cons, not_or] at h
    rw [List.map_cons, put_id h.2]
    unfold putAt
    rw [if_neg (fun e => h.1 e.symm)]
theorem put_ix {k : NestedKey} {v : Value} : ∀ {xs : DX} {i : Nat}, (xs.map (·.1)).Nodup → (xs.map (·.1)).findIdx? (fun x => decide (x = k)) = some i →
    (xs.map (putAt k v)).map (·.1) = xs.map (·.1) ∧ ((xs.map (putAt k v)).map fun x => V.ref x.2.1) = (xs.map fun x => V.ref x.2.1) ∧ (xs.map (putAt k v)).map (·.2.2) = (xs.map (·.2.2)).set i v
  | [], _, _, h => by simp at h
  | x :: xs, i, nd, h => by
    rw [List.map_cons, List.nodup_cons] at nd
    rw [List.map_cons, List.findIdx?_cons] at h
    by_cases e : x.1 = k
    · simp [e] at h
      subst h
      have hn : k ∉ xs.map (·.1) := by rw [← e]; exact nd.1
      rw [List.map_cons, put_id hn]
      unfold putAt
      rw [if_pos e]
      exact ⟨rfl, rfl, rfl⟩
    · simp only [e, decide_false, Bool.false_eq_true, if_false, Option.map_eq_some_iff] at h
      obtain ⟨j, h1, rfl⟩ := h
      obtain ⟨h2, h3, h4⟩ := put_ix (v := v) nd.2 h1
      rw [List.map_cons]
      have e0 : putAt k v x = x := by unfold putAt; rw [if_neg e]
      rw [e0]
      refine ⟨?_, ?_, ?_⟩
      · rw [List.map_cons, h2, List.map_cons]
      · rw [List.map_cons, h3, List.map_cons]
      · rw [List.map_cons, h4, List.map_cons]; rfl
theorem nodup_app {xs : List NestedKey} {k : NestedKey} (nd : xs.Nodup) (h : xs.findIdx? (fun x => decide (x = k)) = none) : (xs ++ [k]).Nodup := by
  rw [List.findIdx?_eq_none_iff] at h
  rw [List.nodup_append]
  refine ⟨nd, by simp, fun a ha b hb => ?_⟩
  simp at hb
  subst hb
  intro e
  subst e
  have := h a ha
  simp at this

section
variable {X : Cx} {pins : List (Addr × Obj)} {σr : St} {H : Hp} {s : Shared} {F : Addr → Prop}
mutual
theorem nest_of (I : Inv X pins σr H s) : ∀ (p : PV) (v : V) (u : Value), kN p = true → RF (cn X) F H p v → RelV v u → NestedIs s.heap (keyOf p) u
  | .non, _, _, _, r, rv => by
    unfold RF at r; subst r
    cases rv
    exact .none
  | .bl b, _, _, _, r, rv => by
    unfold RF at r; subst r
    cases rv
    exact .bool rfl
  | .int i, _, _, _, r, rv => by
    unfold RF at r; subst r
    obtain ⟨t, rfl⟩ := rv
    exact .int i t
  | .str x, _, _, _, r, rv => by
    unfold RF at r; subst r
    obtain ⟨t, rfl⟩ := rv
    exact .text x t
  | .tup xs, _, _, k, r, rv => by
    unfold RF at r
    obtain ⟨a, us, rfl, h1, h2⟩ := r
    cases rv
    obtain ⟨its, rv, ⟨o, e, c, n, d⟩, hz⟩ := I.tuple h1
    rw [keyOf]
    exact .tup e c d (by simpa using nests_of I xs us its (by simpa [kN] using k) h2 rv)
  | .lst _, _, _, k, _, _ => by simp [kN] at k
  | .dct _ _, _, _, k, _, _ => by simp [kN] at k
  | .fn _, _, _, k, _, _ => by simp [kN] at k
  | .ty _, _, _, k, _, _ => by simp [kN] at k
  | .ins _ _ _, _, _, k, _, _ => by simp [kN] at k
theorem nests_of (I : Inv X pins σr H s) : ∀ (ps : List PV) (us : List V) (vs : List Value), kNs ps = true → RFs (cn X) F H ps us → Vals us vs → NestedAll s.heap (keysOf ps) vs
  | [], _, _, _, r, rv => by
    unfold RFs at r; subst r
    cases rv
    rw [keysOf]; exact .nil
  | p :: ps, _, _, k, r, rv => by
    unfold RFs at r
    obtain ⟨u, r', rfl, h1, h2⟩ := r
    cases rv with
    | cons rv rvs =>
      rw [keysOf]
      rw [kNs, Bool.and_eq_true] at k
      exact .cons (nest_of I p u _ k.1 h1 rv) (nests_of I ps r' _ k.2 h2 rvs)
end
theorem key_is (I : Inv X pins σr H s) {k : PV} {b : Addr} (ok : kOk k = true) (r : RF (cn X) F H k (.ref b)) : (nestedKind X.prog X.w).is s.heap (keyOf k) b := by
  cases k with
  | tup xs =>
    have ok' : kNs xs = true ∧ (NestedKey.tup (keysOf xs)).depth ≤ 8 := by simpa [kOk] using ok
    have h := nest_of I (.tup xs) (.ref b) (.ref b) (by simpa [kN] using ok'.1) r rfl
    exact ⟨h, by rw [keyOf]; exact ok'.2⟩
  | _ => simp [kOk] at ok
theorem key_ref {c : Cn} {k : PV} {v : V} (ok : kOk k = true) (r : RF c F H k v) : ∃ b, v = .ref b := by
  cases k with
  | tup xs => unfold RF at r; obtain ⟨a, _, e, _⟩ := r; exact ⟨a, e⟩
  | _ => simp [kOk] at ok
theorem dc_of (I : Inv X pins σr H s) {a : Addr} {xs : DX} {ks : List PV} (d : DcA (cn X) H a xs) (kk : KsOk xs ks) (r : RFs (cn X) F H ks (xs.map fun x => V.ref x.2.1)) : s.heap.DictOfH (nestedKind X.prog X.w) a xs := by
  obtain ⟨hs, nd, hz, ob, es, ep, e, ex, dt, el⟩ := d
  obtain ⟨hg, _⟩ := (show ObjOk X.prog X.w H s.heap a (.ext fun h => h.get? a = some ob) from I.hok a _ e)
  refine ⟨ob, es, ep, hg, ex, dt, el, fun x hx => ?_, nd⟩
  obtain ⟨i, hi, ei⟩ := List.mem_iff_getElem.mp hx
  have e1 : xs[i]? = some x := by rw [List.getElem?_eq_getElem hi, ei]
  have e2 : (xs.map fun x => V.ref x.2.1)[i]? = some (V.ref x.2.1) := by rw [List.getElem?_map, e1]; rfl
  obtain ⟨k, e3, r3⟩ := r.getR e2
  have e4 : (keysOf ks)[i]? = some x.1 := by rw [← kk.1, List.getElem?_map, e1]; rfl
  obtain ⟨k', e5, e6⟩ := keysOf_get e4
  rw [e3] at e5; cases e5
  rw [← e6]
  exact key_is I (kk.2 k (List.mem_of_getElem? e3)) r3
end

/-! ### a new dict -/
section
variable {X : Cx} {W : WX} {pos : Pos}
def tDNewN (X : Cx) : TE := fun _ H Q => ∀ p ob, H p = none → DcA (cn X) (upd H p ob) p [] → Q (.ref p) (upd H p ob)
theorem pe_dnewN : PE X (.Dict [] [] pos) (tDNewN X) := ⟨fun pins s σ H Q I h => by
  refine wpAny_Dict_empty ⟨.ref s.heap.objs.size, _, I.laid (a := s.heap.objs.size) (o := .ext fun h => h.get? s.heap.objs.size = some { cls := .type "dict", data := .dict #[] }) (t' := s.toks) (fun _ _ q => Heap.get?_push_of_some _ q) (Nat.le_refl _) ?_, rfl, h _ _ (I.hok.fresh (Nat.le_refl _)) ?_⟩
  · exact ⟨Heap.get?_push_size _ rfl, ⟨_, Heap.get?_push_size _ rfl⟩, fun h1 h2 q k => k _ q⟩
  · exact ⟨beq_eq_false_iff_ne.mpr (Ne.symm (Nat.ne_of_lt I.big)), List.nodup_nil, Nat.zero_le _, _, #[], 0, upd_same, ⟨rfl, rfl, rfl⟩, rfl, rfl⟩⟩
def dDNew : DE := fun σ => .ok (.new (.dct [] [])) σ
theorem z_dnew : PE X (.Dict [] [] pos) (EV (cn X) W dDNew) := PE.wk pe_dnewN fun σr H Q q => by
  obtain ⟨F, la, σ, S, f⟩ := q
  intro p ob n d
  have k := upd_keeps (o := ob) n
  obtain ⟨n1, n2⟩ := S.fresh n
  refine f F _ (Ex.keeps k) (S.keeps k) _ ⟨p, rfl, ⟨[], [], d, ⟨rfl, fun k hk => by cases hk⟩, RFs.nil_, RFs.nil_, .nil⟩, n1, n2, .inr n⟩
end

/-! ### reading -/
theorem Vals.gets {us : List V} {ws : List Value} (h : Vals us ws) {i : Nat} {w : Value} (e : ws[i]? = some w) : ∃ u, us[i]? = some u ∧ RelV u w := by
  have hl := h.length
  have hi := (List.getElem?_eq_some_iff.mp e).1
  have e1 : us[i]? = some us[i] := List.getElem?_eq_getElem (by omega)
  obtain ⟨w', e2, r⟩ := h.get e1
  rw [e] at e2; cases e2
  exact ⟨_, e1, r⟩
/-- a dict and a key, by values -/
def DKy (c : Cn) (H : Hp) (x y : V) (ks vs : List PV) (k : PV) (a b : Addr) (xs : DX) (us : List V) : Prop := ∃ F, x = .ref a ∧ y = .ref b ∧ DcA c H a xs ∧ KsOk xs ks ∧ RFs c F H ks (xs.map fun x => V.ref x.2.1) ∧ RFs c F H vs us ∧ Vals us (xs.map (·.2.2)) ∧ (∃ F', RF c F' H k (.ref b)) ∧ kOk k = true
def rDg (c : Cn) : R2 := fun x y H Q => ∃ ks vs k a b xs us i u, DKy c H x y ks vs k a b xs us ∧ kIx ks k = some i ∧ us[i]? = some u ∧ Q u H
def rDin (c : Cn) (neg : Bool) : R2 := fun x y H Q => ∃ ks vs k a b xs us, DKy c H y x ks vs k a b xs us ∧ Q (.bl (xor neg (kIx ks k).isSome)) H
section
variable {X : Cx}
theorem kIx_xs {xs : DX} {ks : List PV} (kk : KsOk xs ks) (k : PV) : (xs.map (·.1)).findIdx? (fun x => decide (x = keyOf k)) = kIx ks k := by
  unfold kIx; rw [kk.1]
theorem ix_dct (hu : X.A.units + 65 < cLine) : IxR X (rDg (cn X)) := by
  intro value slice pins s σ H x y v u Q I rx ry h hs
  obtain ⟨ks, vs, k, a, b, xs, us, i, w, ⟨F, rfl, rfl, d, kk, r1, r2, r3, ⟨F', rk⟩, ok⟩, hi, hw, q⟩ := h
  cases rx
  cases ry
  have dd := dc_of I d kk r1
  obtain ⟨x, e1, e2, e3⟩ := at_ix ((kIx_xs kk k).trans hi)
  obtain ⟨w', e4, e5⟩ := r3.get hw
  rw [List.getElem?_map, e1] at e4
  cases e4
  refine tail_any dd.typeIs slot_dict_getitem.lookup ?_ hs
  exact wpAny_getItem_heap (show X.A.in1.units + 8 < cLine by rw [Around.in1_units]; omega) (key_is I ok rk) dd e3 ⟨w, H, I.tok _, e5, q⟩
theorem op_in_dct (hu : X.A.units + 65 < cLine) : OpR X (compareOp .In) (rDin (cn X) false) := by
  intro pins s σ H x y v u Q I rx ry h
  obtain ⟨ks, vs, k, a, b, xs, us, ⟨F, rfl, rfl, d, kk, r1, r2, r3, ⟨F', rk⟩, ok⟩, q⟩ := h
  cases rx
  cases ry
  have dd := dc_of I d kk r1
  refine wpAny_in_heap (show X.A.in1.units + 8 < cLine by rw [Around.in1_units]; omega) (key_is I ok rk) d.1 dd ?_
  have e : (atKey xs (keyOf k)).isSome = (kIx ks k).isSome := by
    cases q : kIx ks k with
    | none => rw [at_no ((kIx_xs kk k).trans q)]; rfl
    | some i => obtain ⟨x, e1, e2, e3⟩ := at_ix ((kIx_xs kk k).trans q); rw [e3]; rfl
  rw [e]
  exact ⟨.bl _, H, I.tok _, rfl, by simpa using q⟩
theorem op_notIn_dct (hu : X.A.units + 65 < cLine) : OpR X (compareOp .NotIn) (rDin (cn X) true) := by
  intro pins s σ H x y v u Q I rx ry h
  obtain ⟨ks, vs, k, a, b, xs, us, ⟨F, rfl, rfl, d, kk, r1, r2, r3, ⟨F', rk⟩, ok⟩, q⟩ := h
  cases rx
  cases ry
  have dd := dc_of I d kk r1
  refine wpAny_notIn_heap (show X.A.in1.units + 8 < cLine by rw [Around.in1_units]; omega) (key_is I ok rk) d.1 dd ?_
  have e : (atKey xs (keyOf k)).isSome = (kIx ks k).isSome := by
    cases q : kIx ks k with
    | none => rw [at_no ((kIx_xs kk k).trans q)]; rfl
    | some i => obtain ⟨x, e1, e2, e3⟩ := at_ix ((kIx_xs kk k).trans q); rw [e3]; rfl
  rw [e]
  exact ⟨.bl _, H, I.tok _, rfl, by simpa using q⟩
end

/-! ### storing -/
def rSetN (c : Cn) : TSet := fun o i v H Q => ∃ F a ks vs k p, o = .ref a ∧ RO c F H (.dct ks vs) a ∧ ¬ F a ∧ RF c F H k i ∧ RF c F H p v ∧ kOk k = true ∧ ks.length < szL ∧ ∀ ob, RO c F (upd H a ob) (kPut ks vs k p) a → Q (upd H a ob)
theorem PSet.or {X : Cx} {r r' : TSet} (h : PSet X r) (h' : PSet X r') : PSet X (fun o i v H Q => r o i v H Q ∨ r' o i v H Q) := by
  intro pins s σ H o i v ov iv u Q I r1 r2 r3 q
  rcases q with q | q
  · exact h pins s σ H o i v ov iv u Q I r1 r2 r3 q
  · exact h' pins s σ H o i v ov iv u Q I r1 r2 r3 q
theorem Vals.setV {us : List V} {ws : List Value} (h : Vals us ws) {u : V} {w : Value} (r : RelV u w) (i : Nat) : Vals (us.set i u) (ws.set i w) := h.set r i
theorem set_dctN {X : Cx} (hu : X.A.units + 65 < cLine) : PSet X (rSetN (cn X)) := by
  intro pins s σ H o i v ov iv u Q I r1 r2 r3 h
  obtain ⟨F, a, ks, vs, k, p, rfl, ⟨xs, us, d, kk, q1, q2, q3⟩, nf, rk, rp, ok, hl, q⟩ := h
  cases r1
  obtain ⟨b, rfl⟩ := key_ref ok rk
  cases r2
  have dd := dc_of I d kk q1
  have hxl : xs.length = ks.length := by
    have := congrArg List.length kk.1
    rwa [List.length_map, keysOf_len] at this
  refine wpAny_setItem_heap (hsz := d.2.2.1) (show X.A.in1.units + 8 < cLine by rw [Around.in1_units]; omega) (key_is I ok rk) dd fun h' dd' sb => ?_
  obtain ⟨ob, es, ep, hg, hx, hdt, hel, _, hnd⟩ := dd'
  have eH : ∃ ob0, H a = some (.ext ob0) := let ⟨_, _, _, ob0, _, _, e, _⟩ := d; ⟨_, e⟩
  obtain ⟨ob0, e0⟩ := eH
  have kp : ∀ b u, H b = some u → (F b ∨ Stl u) → upd H a (.ext fun h => h.get? a = some ob) b = some u := fun b u e z => by
    rw [upd_ne (fun y => ?_)]
    · exact e
    · subst y
      rw [e0] at e; cases e
      rcases z with z | z
      · exact nf z
      · exact z
  have ls : (storedH xs (keyOf k) b u).length ≤ sizeLine := by
    have : (storedH xs (keyOf k) b u).length ≤ xs.length + 1 := by
      unfold storedH
      split
      · simp
      · simp
    have : szL = sizeLine := szL_eq
    omega
  refine ⟨_, I.write (x := a) (e := a) (o := .ext fun h => h.get? a = some ob) (t' := s.toks + (nestedKind X.prog X.w).draws (keyOf k)) (by rw [e0]; exact True.intro) (.inl rfl) (fun b u hb z => (sb.2 b hb).trans z) ⟨_, hg⟩ ⟨hg, ⟨_, hg⟩, fun h1 h2 z k => k _ z⟩, q _ ?_⟩
  have dn : DcA (cn X) (upd H a (.ext fun h => h.get? a = some ob)) a (storedH xs (keyOf k) b u) := ⟨d.1, hnd, ls, ob, es, ep, upd_same, hx, hdt, hel⟩
  have q1' := RFs.ext (fun _ f => f) kp _ _ q1
  have q2' := RFs.ext (fun _ f => f) kp _ _ q2
  have rk' := RF.ext (fun _ f => f) kp _ _ rk
  have rp' := RF.ext (fun _ f => f) kp _ _ rp
  unfold kPut
  cases qi : kIx ks k with
  | some j =>
    have e1 := (kIx_xs kk k).trans qi
    obtain ⟨x, e2, e3, e4⟩ := at_ix e1
    have es' : storedH xs (keyOf k) b u = xs.map (putAt (keyOf k) u) := storedH_old e4 b u
    rw [es'] at dn
    obtain ⟨h1, h2, h3⟩ := put_ix (v := u) d.2.1 e1
    refine ⟨xs.map (putAt (keyOf k) u), us.set j v, dn, ⟨h1.trans kk.1, kk.2⟩, by rw [h2]; exact q1', q2'.set j rp', ?_⟩
    rw [h3]
    exact q3.set r3 j
  | none =>
    have e1 := at_no ((kIx_xs kk k).trans qi)
    have es' : storedH xs (keyOf k) b u = xs ++ [(keyOf k, b, u)] := storedH_new e1 b u
    rw [es'] at dn
    refine ⟨xs ++ [(keyOf k, b, u)], us ++ [v], dn, ⟨?_, fun z hz => ?_⟩, ?_, q2'.append (RFs.cons_ rp' RFs.nil_), ?_⟩
    · rw [List.map_append, kk.1, keysOf_app]; rfl
    · rcases List.mem_append.mp hz with z | z
      · exact kk.2 _ z
      · simp at z; subst z; exact ok
    · rw [List.map_append]
      exact q1'.append (RFs.cons_ rk' RFs.nil_)
    · rw [List.map_append]
      exact q3.append (.cons r3 .nil)
end L2.Zz

/-! Z14: items of lists, tuples, dicts; in; storing; walking a dict; a, b, c = ..; keywords. -/
namespace L2.Zz
open PySem PySem.Spec PyProof.Rows

/-! ### items -/
def pvIxA : PV → PV → Option Ot
  | .dct ks vs, k => if kOk k = true then (match kIx ks k with
    | some i => (vs[i]?).map .v
    | none => none) else none
  | a, b => pvIx a b
theorem RW.key {c : Cn} {F : Addr → Prop} {H : Hp} {k : PV} {v : V} (ok : kOk k = true) (h : RW c F H k v) : RF c F H k v := by
  rcases h with h | ⟨a, e, h⟩
  · exact h
  · cases k with
    | tup xs => exact h.elim
    | _ => simp [kOk] at ok
theorem dky {c : Cn} {F : Addr → Prop} {H : Hp} {ks vs : List PV} {k : PV} {x y : V} (h : RW c F H (.dct ks vs) x) (hk : RW c F H k y) (ok : kOk k = true) : ∃ a b xs us, DKy c H x y ks vs k a b xs us ∧ RFs c F H vs us := by
  obtain ⟨a, xs, us, e, d, kk, r1, r2, r3⟩ := h.dct
  have rk := hk.key ok
  obtain ⟨b, e2⟩ := key_ref ok rk
  subst e2
  exact ⟨a, b, xs, us, ⟨F, e, rfl, d, kk, r1, r2, r3, ⟨F, rk⟩, ok⟩, r2⟩
section
variable {X : Cx} {W : WX} {a b : Expr} {da db : DE} {pos : Pos}
theorem op2_ixA : Op2 (cn X) (fun x y H Q => rDg (cn X) x y H Q ∨ (rIxL X.K x y H Q ∨ rIxT X.K x y H Q)) pvIxA := by
  intro F H p q o va vb Q ra rb e h
  unfold pvIxA at e
  split at e
  · rename_i ks vs
    by_cases ok : kOk q = true
    · rw [if_pos ok] at e
      cases qi : kIx ks q with
      | none => rw [qi] at e; cases e
      | some i =>
        rw [qi] at e
        obtain ⟨w, e1, rfl⟩ := Option.map_eq_some_iff.mp e
        obtain ⟨a, b, xs, us, D, r2⟩ := dky ra rb ok
        obtain ⟨u, e2, r3⟩ := r2.get e1
        exact .inl ⟨ks, vs, q, a, b, xs, us, i, u, D, qi, e2, h u r3⟩
    · rw [if_neg ok] at e; cases e
  · exact .inr (op2_ix F H _ _ o va vb Q ra rb e h)
theorem z_ixA (hu : X.A.units + 65 < cLine) (ha : PE X a (EV (cn X) W da)) (hb : PE X b (EV (cn X) W db)) (hs : PlainIx b := by intro _ _; rfl) : PE X (.Subscript a b pos) (EV (cn X) W (dOp2 pvIxA da db)) :=
  z_op2 op2_ixA (pe_ix ((ix_dct hu).or (ix_list.or ix_tup)) ha hb hs)
end

/-! ### in -/
def pvInA (a b : PV) : Option Bool := match b with
  | .dct ks _ => if kOk a = true then some (kIx ks a).isSome else none
  | .lst _ => pvIn a b
  | _ => none
def pvInO (a b : PV) : Option Ot := (pvInA a b).map fun t => .v (.bl t)
def pvNinO (a b : PV) : Option Ot := (pvInA a b).map fun t => .v (.bl !t)
section
variable {X : Cx}
def rInZ (X : Cx) : R2 := fun x y H Q => rDin (cn X) false x y H Q ∨ rInD X.K x y H Q
def rNinZ (X : Cx) : R2 := fun x y H Q => rDin (cn X) true x y H Q ∨ rNotInD X.K x y H Q
theorem op_inZ (hu : X.A.units + 65 < cLine) : OpR X (compareOp .In) (rInZ X) := (op_in_dct hu).or (op_inD hu)
theorem op_ninZ (hu : X.A.units + 65 < cLine) : OpR X (compareOp .NotIn) (rNinZ X) := (op_notIn_dct hu).or (op_notInD hu)
theorem pvIn_ok {F : Addr → Prop} {H : Hp} {p q : PV} {t : Bool} {va vb : V} (ra : RW (cn X) F H p va) (rb : RW (cn X) F H q vb) (e : pvIn p q = some t) :
    ∃ d ds, Dp X.K H va d ∧ Dp X.K H vb (.list ds) ∧ SeqAt.shaped d = true ∧ SeqAt.shaped (.list ds) = true ∧ t = ds.any fun z => PyData.eqv z d := by
  unfold pvIn at e
  split at e
  · rename_i d ds e1 e2
    by_cases h : SeqAt.shaped d = true ∧ SeqAt.shaped (.list ds) = true
    · rw [if_pos h] at e
      cases e
      exact ⟨d, ds, ra.dp e1, rb.dp e2, h.1, h.2, rfl⟩
    · rw [if_neg h] at e; cases e
  · cases e
theorem op2_in : Op2 (cn X) (rInZ X) pvInO := by
  intro F H p q o va vb Q ra rb e h
  obtain ⟨t, e1, rfl⟩ := Option.map_eq_some_iff.mp e
  have hq : Q (.bl t) H := h _ RF.bl_
  unfold pvInA at e1
  split at e1
  · rename_i ks vs
    by_cases ok : kOk p = true
    · rw [if_pos ok] at e1
      cases e1
      obtain ⟨a, b, xs, us, D, _⟩ := dky rb ra ok
      exact .inl ⟨ks, vs, p, a, b, xs, us, D, by simpa using hq⟩
    · rw [if_neg ok] at e1; cases e1
  · obtain ⟨d, ds, h1, h2, h3, h4, rfl⟩ := pvIn_ok ra rb e1
    exact .inr ⟨d, ds, h1, h2, h3, h4, hq⟩
  · cases e1
theorem op2_nin : Op2 (cn X) (rNinZ X) pvNinO := by
  intro F H p q o va vb Q ra rb e h
  obtain ⟨t, e1, rfl⟩ := Option.map_eq_some_iff.mp e
  have hq : Q (.bl !t) H := h _ RF.bl_
  unfold pvInA at e1
  split at e1
  · rename_i ks vs
    by_cases ok : kOk p = true
    · rw [if_pos ok] at e1
      cases e1
      obtain ⟨a, b, xs, us, D, _⟩ := dky rb ra ok
      exact .inl ⟨ks, vs, p, a, b, xs, us, D, by simpa using hq⟩
    · rw [if_neg ok] at e1; cases e1
  · obtain ⟨d, ds, h1, h2, h3, h4, rfl⟩ := pvIn_ok ra rb e1
    exact .inr ⟨d, ds, h1, h2, h3, h4, hq⟩
  · cases e1
end

/-! ### storing -/
def setPV (o i p : PV) : Option PV := match o, i with
  | .lst xs, .int k => (ixN xs.length k).map fun j => .lst (xs.set j p)
  | .dct ks vs, k => if kOk k = true ∧ ks.length < szL then some (kPut ks vs k p) else none
  | _, _ => none
def gSubP (do_ di : DE) : DG := fun p σ => (do_ σ).bind fun ro σ1 => (di σ1).bind fun ri σ2 => match ri with
  | .val i => match rd σ2 ro with
    | some o => match setPV o i p with
      | some q => match wr ro q σ2 with
        | some σ3 => .ok () σ3
        | none => .no
      | none => .no
    | none => .no
  | _ => .no
section
variable {X : Cx} {W : WX} {o i : Expr} {do_ di : DE} {pos : Pos}
theorem zg_sub (hu : X.A.units + 65 < cLine) (ho : PE X o (EV (cn X) W do_)) (hi : PE X i (EV (cn X) W di))
    (ha : ∀ v, assign (.Subscript o i pos) X.env v = (do
      let ov ← holding [v] (eval o X.env)
      let iv ← holding [v, ov] (eval i X.env)
      standAt pos
      holding [v, ov, iv] (setItem ov iv v)
      release [v, ov, iv] []) := by intro _; rfl) : PG X (.Subscript o i pos) (GV (cn X) W (gSubP do_ di)) :=
  ⟨fun pins s σr H v u Q I r hh => (pg_sub ho hi (PSet.or set_list (set_dctN hu)) ha).run pins s σr H v u Q I r (by
    obtain ⟨F, la, σ, p, S, rp, f⟩ := hh
    have f := FinS.expr (σr := σr) f
    refine ⟨F, la, σ, S, f.mono fun ro σ1 F1 H1 x1 S1 f1 vo eo => ?_⟩
    refine ⟨F1, la, σ1, S1, ((FinS.expr (σr := σr) f1).step x1).mono fun ri σ2 F2 H2 x2 S2 f2 vi ei => ?_⟩
    have eo2 := eo.ext S1 x2
    have rp2 := RF.ext (fun a f => x2.fr a (x1.fr a f)) (fun a o e h => Ex.keep S1 x2 a o (Ex.keep S x1 a o e h) (h.imp (x1.fr a) id)) _ _ rp
    cases ri with
    | val q =>
      simp only at f2
      cases qa : rd σ2 ro with
      | none => rw [qa] at f2; exact f2.elim
      | some ov =>
        rw [qa] at f2
        simp only at f2
        cases qs : setPV ov q p with
        | none => rw [qs] at f2; exact f2.elim
        | some q' =>
          rw [qs] at f2
          simp only at f2
          cases qw : wr ro q' σ2 with
          | none => rw [qw] at f2; exact f2.elim
          | some σ3 =>
            rw [qw] at f2
            obtain ⟨a, ea, rO, nf, nn, wrk⟩ := wr_at S2 (x1.trans x2) eo2 qa qw
            have fin : ∀ ob, RO (cn X) F2 (upd H2 a ob) q' a → Q σr (upd H2 a ob) := fun ob rob => by
              obtain ⟨x3, S3⟩ := wrk ob rob
              exact f2 F2 _ σr x3 S3
            have eq : RF (cn X) F2 H2 q vi := ei
            unfold setPV at qs
            split at qs
            · rename_i xs k
              obtain ⟨j, e1, rfl⟩ := Option.map_eq_some_iff.mp qs
              obtain ⟨us, e2, r2⟩ := rO
              refine .inl ⟨a, us, k, j, ea, (show RW _ _ _ _ _ from .inl eq).int, e2, by rw [← r2.length]; exact e1, fin _ ⟨_, upd_same, ?_⟩⟩
              refine RFs.ext (fun _ f => f) (fun b o e z => ?_) _ _ (r2.set j rp2)
              rw [upd_ne (fun y => ?_)]
              · exact e
              · subst y
                rw [e2] at e; cases e
                rcases z with z | z
                · exact nf z
                · exact z
            · rename_i ks vs
              by_cases ok : kOk q = true ∧ ks.length < szL
              · rw [if_pos ok] at qs
                cases qs
                exact .inr ⟨F2, a, ks, vs, q, p, ea, rO, nf, eq, rp2, ok.1, ok.2, fin⟩
              · rw [if_neg ok] at qs; cases qs
            · cases qs
    | _ => exact f2.elim)⟩
end

/-! ### walking a dict -/
def ItD (d : Addr) (ob : Obj) (xs : DX) : It :=
  ⟨fun i H => H d = some (.ext fun h => h.get? d = some ob) ∧ i < xs.length, fun i H x H' => H' = H ∧ ∃ e, xs[i]? = some e ∧ x = .ref e.2.1, fun i H => H d = some (.ext fun h => h.get? d = some ob) ∧ xs.length ≤ i⟩
theorem ext_get {X : Cx} {pins : List (Addr × Obj)} {σ : St} {H : Hp} {s : Shared} {d : Addr} {ob : Obj} (I : Inv X pins σ H s) (h : H d = some (.ext fun h => h.get? d = some ob)) : s.heap.get? d = some ob :=
  (show ObjOk X.prog X.w H s.heap d (.ext fun h => h.get? d = some ob) from I.hok d _ h).1
theorem turn_keysN {P : Program} {w : World} {K : PySem.W.Frag} {tg : Expr} {d : Addr} {ob : Obj} {es : Array DictEntry} {ep : Nat} {xs : DX} {P' : Program} {w' : World} (it : Addr) (hod : ob.data = .dict es ep) (he : es.toList = xs.map (entryOfKey (nestedKind P' w'))) :
    Turn P w K tg (ItD d ob xs) [it] it (fun i h => h.IsKeyIter it d i xs.length ep) where
  mem := by simp
  obj := fun i h st b hb => by
    have e : b = it := by simpa using hb
    subst e
    obtain ⟨oi, e, c, dd⟩ := st
    exact ⟨oi, e, fun v z => by rw [dd] at z; cases z⟩
  keep := fun i h h' st k => st.at fun oi e => k it (by simp) oi e
  item := by
    intro X hP hw hK hc i pins s σ H E I hf st hg
    subst hP hw hK
    obtain ⟨hd, hi⟩ := hg
    obtain ⟨f0, f1, f2, f3, f4, f5⟩ := hf it (by simp)
    have hgd := ext_get I hd
    have hsz : es.size = xs.length := size_of_entries he
    have e1 : xs[i]? = some xs[i] := List.getElem?_eq_getElem hi
    have hen : es[i]? = some (entryOfKey (nestedKind P' w') xs[i]) := by rw [entry_at he i, e1]; rfl
    refine next_key_item st hgd hod hsz hen fun h' st' sb => ?_
    have I1 : Inv X pins σ H { s with heap := h' } := I.turned (t' := s.toks) (fun b ob hb e => (sb.2 b hb).trans e) f0 f1 f3 f4 f5
    obtain ⟨oi, e, c, dd⟩ := id st'
    exact ⟨_, rfl, go_of (s := { s with heap := h' }) e c dd (by decide) ⟨.ref xs[i].2.1, H, I1, rfl, ⟨rfl, _, e1, rfl⟩, st', fun b hb => (hf b hb).1⟩⟩
  done := by
    intro X hP hw hK hc i pins s σ H E I hf st hg
    subst hP hw hK
    obtain ⟨hd, hi⟩ := hg
    obtain ⟨f0, f1, f2, f3, f4, f5⟩ := hf it (by simp)
    have hgd := ext_get I hd
    have hsz : es.size = xs.length := size_of_entries he
    exact next_key_end (I.ok.hd hc) st hgd hod hsz hi fun h' eb => ⟨rfl, I.turned (t' := s.toks) (fun b ob hb e => eb b ob hb e) f0 f1 f3 f4 f5⟩
  self := fun A i s Q E st h => by
    refine wpAny_pyIter_slot st.typeIs PySem.F.slot_dict_keyiterator_iter (wpAny_call_entry PySem.F.slot_dict_keyiterator_iter st.typeIs PySem.F.entry_dict_keyiterator_iter ?_ (PySem.F.args_dict_keyiterator_iter_1 _))
    show wpAny _ _ (ret (.ref it)) _ _ s
    exact wpAny_pure ⟨_, rfl, "dict_keyiterator", _, st.typeIs, PySem.F.slot_dict_keyiterator_next.lookup, h⟩
def iSeqD (X : Cx) (tl : TE) : TI := fun σ H R => tl σ H fun x H1 => ∃ a, x = .ref a ∧ (((∃ xs, SqL X.K H1 a xs) ∧ R (Itl X.K a) H1) ∨ ((∃ xs, SqT X.K H1 a xs) ∧ R (Itt X.K a) H1) ∨
  ∃ (xs : DX) (ob : Obj) (es : Array DictEntry) (ep : Nat), (a == sysModules) = false ∧ H1 a = some (.ext fun h => h.get? a = some ob) ∧ ob.ExactDict ∧ ob.data = .dict es ep ∧ es.toList = xs.map (entryOfKey (nestedKind X.prog X.w)) ∧ R (ItD a ob xs) H1)
theorem jok_dct {c : Cn} {F0 : Addr → Prop} {H0 : Hp} {a : Addr} {ob : Obj} {xs : DX} {ks : List PV} (f : F0 a) (h : H0 a = some (.ext fun h => h.get? a = some ob)) (r : RFs c F0 H0 ks (xs.map fun x => V.ref x.2.1)) : JOk c F0 H0 (ItD a ob xs) ks := by
  intro F H hF k
  have h' := k a _ h (.inl f)
  have r' := RFs.ext hF k _ _ r
  have hl : ks.length = xs.length := by rw [r.length, List.length_map]
  refine ⟨fun i hi => ⟨h', by omega⟩, ⟨h', by omega⟩, fun i v H' hi y => ?_⟩
  obtain ⟨rfl, e, e1, rfl⟩ := y
  have e2 : (xs.map fun x => V.ref x.2.1)[i]? = some (V.ref e.2.1) := by rw [List.getElem?_map, e1]; rfl
  obtain ⟨p, e3, rp⟩ := r'.getR e2
  exact ⟨p, e3, fun _ _ e => e, rp⟩
def dItA (d : DE) : DI := fun σ => (d σ).bind fun r σ1 => (fz r σ1).bind fun p σ2 => match p with
  | .lst xs => .ok xs σ2
  | .tup xs => .ok xs σ2
  | .dct ks _ => .ok ks σ2
  | _ => .no
section
variable {X : Cx} {W : WX} {tg e : Expr} {d : DE}
theorem pi_seqD {tl : TE} (hl : PE X e tl) : PI X tg e (iSeqD X tl) := by
  refine ⟨fun pins s σ H R I h => ?_⟩
  refine thn (hl.run pins s σ H _ I h) fun v s1 ⟨x, H1, I1, r1, q1⟩ => ?_
  obtain ⟨a, rfl, q⟩ := q1
  cases r1
  rcases q with ⟨⟨xs, hq⟩, q⟩ | ⟨⟨xs, hq⟩, q⟩ | ⟨xs, ob, es, ep, hs, hd, hx, hdt, he, q⟩
  · obtain ⟨its, rv, p, hz⟩ := I1.list hq
    refine wpAny_pyIter_list p.isList ?_
    refine ⟨s1.heap.objs.size, [s1.heap.objs.size], _, _, H1, rfl, I1.kept (t' := s1.toks) fun b o e => Heap.get?_push_of_some _ e, turn_list a _, ⟨_, Heap.get?_push_size _ rfl, rfl, rfl⟩, fun b hb => ?_, q⟩
    have e : b = s1.heap.objs.size := by simpa using hb
    subst e
    exact I1.fpOk (Nat.le_refl _) (I1.hok.fresh (Nat.le_refl _))
  · obtain ⟨its, rv, p, hz⟩ := I1.tuple hq
    refine wpAny_pyIter_tuple (show s1.heap.IsTuple a its.toArray from p) ?_
    refine ⟨s1.heap.objs.size, [s1.heap.objs.size], _, _, H1, rfl, I1.kept (t' := s1.toks) fun b o e => Heap.get?_push_of_some _ e, turn_tuple a _, ⟨_, Heap.get?_push_size _ rfl, rfl, rfl⟩, fun b hb => ?_, q⟩
    have e : b = s1.heap.objs.size := by simpa using hb
    subst e
    exact I1.fpOk (Nat.le_refl _) (I1.hok.fresh (Nat.le_refl _))
  · have hgd := ext_get I1 hd
    have hsz : es.size = xs.length := size_of_entries he
    refine iter_keys hs hgd hx hdt (pi_one (tk := s1.toks) I1 _ (turn_keysN _ hdt he) ⟨_, Heap.get?_push_size _ rfl, rfl, ?_⟩ q)
    rw [hsz] <;> rfl
theorem zi_seqA (h : PE X e (EV (cn X) W d)) : PI X tg e (IV (cn X) W (dItA d)) := PI.wk (pi_seqD h) fun σr H R q => by
  obtain ⟨F, la, σ, S, f⟩ := q
  refine EV.seq S (Ex.refl _) f fun F1 σ1 r v H1 x1 S1 e1 f1 => ?_
  cases q : fz r σ1 with
  | no => rw [q] at f1; exact f1.elim
  | ex ee s => exact (fz_no_ex q).elim
  | ok p σ2 =>
    rw [q] at f1
    obtain ⟨F2, x2, S2, r2, _⟩ := fz_ok S1 x1 e1 q
    cases p with
    | lst xs =>
      unfold RF at r2
      obtain ⟨a, us, rfl, h1, h2⟩ := r2
      exact ⟨a, rfl, .inl ⟨⟨us, h1.sq⟩, f1 F2 H1 x2 S2 _ (jok_list h1 h2)⟩⟩
    | tup xs =>
      unfold RF at r2
      obtain ⟨a, us, rfl, h1, h2⟩ := r2
      exact ⟨a, rfl, .inr (.inl ⟨⟨us, h1⟩, f1 F2 H1 x2 S2 _ (jok_tup h1 h2)⟩)⟩
    | dct ks vs =>
      unfold RF at r2
      obtain ⟨a, xs, us, rfl, fa, d, kk, q1, q2, q3⟩ := r2
      obtain ⟨hs, nd, hz, ob, es, ep, ea, hx, hdt, hel⟩ := d
      exact ⟨a, rfl, .inr (.inr ⟨xs, ob, es, ep, hs, ea, hx, hdt, hel, f1 F2 H1 x2 S2 _ (jok_dct fa ea q1)⟩)⟩
    | _ => exact f1.elim
end

/-! ### a, b, c = x, y, z -/
section
variable {X : Cx} {W : WX} {a b c3 : Expr} {da : DA} {pos : Pos} {x y z : Str} {i j l : Nat}
theorem z_par3 {px py pz pt : Pos} {kt k2 pt2} (hc : X.calm = true) (hN : X.N.Nodup) (hi : X.N[i]? = some x) (hj : X.N[j]? = some y) (hl : X.N[l]? = some z) (hij : i ≠ j) (hil : i ≠ l) (hjl : j ≠ l)
    (hx : X.env.scope.names.lookup x = some .local) (hy : X.env.scope.names.lookup y = some .local) (hz : X.env.scope.names.lookup z = some .local) (ha : PA X [a, b, c3] (EVA (cn X) W da))
    (hw : swappedStores [.Tuple [.Name x px, .Name y py, .Name z pz] kt pt] (.Tuple [a, b, c3] k2 pt2) X.env = pure (some [x, y, z]))
    (hs : swapsWithSole [.Tuple [.Name x px, .Name y py, .Name z pz] kt pt] (.Tuple [a, b, c3] k2 pt2) pos.line X.env = pure false := by rfl) :
    PS X (.Assign [.Tuple [.Name x px, .Name y py, .Name z pz] kt pt] (.Tuple [a, b, c3] k2 pt2) pos) (SV (cn X) W (dPar [i, j, l] da)) := PS.wk (ps_par3 hc hN hi hj hl hij hil hjl hx hy hz ha hw hs) fun D σr H q => by
  obtain ⟨F, la, σ, S, f⟩ := q
  refine ⟨F, la, σ, S, f.expr.mono fun rs σ1 F1 H1 x1 S1 f1 vs es => ?_⟩
  rcases stAll_cases [i, j, l] rs σ1 with ⟨σ2, q⟩ | q
  · rw [q] at f1
    obtain ⟨hl, x2, S2⟩ := stAll_ok [i, j, l] rs vs σ1 σ2 σr S1 x1 es q
    have hv : vs.length = 3 := by rw [← es.length, hl]; rfl
    match vs, hv with
    | [u, v, w], _ => exact ⟨u, v, w, rfl, f1 F1 H1 _ x2 S2⟩
  · rw [q] at f1; exact f1.elim
end

/-! ### f(e, .., k = v, ..) -/
def pick {α : Type} (is : List Nat) (xs : List α) : List α := is.filterMap fun i => xs[i]?
def dCallK (n np : Nat) (is : List Nat) (body : DS) (da dk : DA) : DE := fun σ => (da σ).bind fun rs σ1 => (dk σ1).bind fun zs σ2 => match dTup.vals rs, dTup.vals zs with
  | some ps, some qs => if (pick is (ps ++ qs)).length = np ∧ (∀ i ∈ is, i < (ps ++ qs).length) then callD n body ((pick is (ps ++ qs)).map .val) σ2 else .no
  | _, _ => .no
theorem pick_rfs {c : Cn} {F : Addr → Prop} {H : Hp} {ps : List PV} {us : List V} (r : RFs c F H ps us) : ∀ is : List Nat, RFs c F H (pick is ps) (pick is us)
  | [] => RFs.nil_
  | i :: is => by
    have ih := pick_rfs r is
    unfold pick at ih ⊢
    rw [List.filterMap_cons, List.filterMap_cons]
    cases q : ps[i]? with
    | none =>
      have hn : us[i]? = none := by
        rw [List.getElem?_eq_none_iff] at q ⊢
        rw [← r.length]; exact q
      rw [hn]
      exact ih
    | some p =>
      obtain ⟨u, e, rp⟩ := r.get q
      rw [e]
      exact RFs.cons_ rp ih
theorem pick_vals {us : List V} {ws : List Value} (r : Vals us ws) : ∀ is : List Nat, Vals (pick is us) (pick is ws)
  | [] => .nil
  | i :: is => by
    have ih := pick_vals r is
    unfold pick at ih ⊢
    rw [List.filterMap_cons, List.filterMap_cons]
    cases q : us[i]? with
    | none =>
      have hn : ws[i]? = none := by
        rw [List.getElem?_eq_none_iff] at q ⊢
        rw [← r.length]; exact q
      rw [hn]
      exact ih
    | some p =>
      obtain ⟨u, e, rp⟩ := r.get q
      rw [e]
      exact .cons rp ih
section
variable {X : Cx} {W : WX} {k np n : Nat} {f : Addr} {fd : FuncData} {N ps ks : List Str} {body : DS} {x : Str} {p pos kpos : Pos} {e : Expr} {es : List Expr} {kws : List Keyword} {d : DE} {ds da dk : DA} {nm : Option Str} {is : List Nat}
theorem EVA.cons {σr : St} {H : Hp} {Q : List V → Hp → Prop} (h : EVA (cn X) W (dCons d ds) σr H Q) : tCons (EV (cn X) W d) (EVA (cn X) W ds) σr H Q := by
    obtain ⟨F, la, σ, S, f⟩ := h
    refine EV.seq S (Ex.refl _) f fun F1 σ1 r v H1 x1 S1 e1 f1 => ?_
    refine ⟨F1, la, σ1, S1, (f1.bind.step x1).mono fun rs σ2 F2 H2 x2 S2 f2 vs es => ?_⟩
    refine f2 F2 H2 (x1.trans x2) S2 (v :: vs) (.cons (e1.ext S1 x2) (es.weak fun a n => x1.back n) fun a p hr hv => ?_)
    subst hr hv
    obtain ⟨b, eb, ro, nf, no, _⟩ := e1
    cases eb
    obtain ⟨o, ho, _⟩ := ro.there
    refine ERs.noNew (fun z => ?_) es
    rcases z with z | z
    · exact no z
    · have z' : H1 a = none := z
      rw [ho] at z'; cases z'
theorem PK.wk {t t' : TA} (h : PK X kws t) (w : ∀ σ H Q, t' σ H Q → t σ H Q) : PK X kws t' := ⟨fun pos pins s σ H Q I q => h.run pos pins s σ H Q I (w _ _ _ q)⟩
theorem z_knil : PK X [] (EVA (cn X) W dNil) := PK.wk pk_nil fun σr H Q q => by
  obtain ⟨F, la, σ, S, f⟩ := q
  exact f F H (Ex.refl _) S [] .nil
theorem z_kcons (ha : PE X e (EV (cn X) W d)) (hr : PK X kws (EVA (cn X) W ds)) : PK X (⟨nm, e, kpos⟩ :: kws) (EVA (cn X) W (dCons d ds)) := PK.wk (pk_cons ha hr) fun σr H Q q => q.cons
/-- binding by names -/
def KPick (fd : FuncData) (ps ks : List Str) (n : Nat) (is : List Nat) : Prop := ∀ us ws : List Value, us.length = n → ws.length = ks.length → bindArgs fd ⟨us, ks.zip ws⟩ = pure (ps.zip (pick is (us ++ ws)))
def tCallS (n m : Nat) (sp : Sp) (gV : List V → List V → List V) (E : St → XK) (t tk : TA) : TE := fun σ H Q => t σ H fun vs H1 => tk σ H1 fun zs H2 => vs.length = n ∧ zs.length = m ∧ sp (gV vs zs) H2 Q (E σ)
theorem run_fnNS {sp : Sp} {CX : CXT} {E : St → XK} {pins : List (Addr × Obj)} {σ : St} {H : Hp} {s : Shared} {Q : VK} {us ws : List Value} {vs zs : List V} {g : List Value → List Value → List Value} {gV : List V → List V → List V} (F : FnOk X.prog X.w X.K X.mg X.base CX k f fd ps sp) (hr : Room k X.A) (hb : KBn X.K fd ps n ks g gV) (hx : PassesAt CX X σ (E σ))
    (I : Inv X pins σ H s) (r : Vals vs us) (rz : Vals zs ws) (l1 : vs.length = n) (l2 : zs.length = ks.length) (h : sp (gV vs zs) H Q (E σ)) : wpAny (model X.prog X.w) X.A (call (.ref f) us (ks.zip ws)) (EP X pins σ Q) X.xe s := by
  have r2 := hb.rel r rz
  refine wpAny_call (codeAny_mono (F.run X.A X.stack s H ⟨us, ks.zip ws⟩ (g us ws) (gV vs zs) Q (E σ) hr I.env0 (hb.to s us ws I.kIn (r.length.symm.trans l1) (rz.length.symm.trans l2)) r2 h) fun r s' hq => ?_)
  cases r with
  | error e => exact hx pins H s e s' I hq
  | ok fl =>
    cases fl with
    | ret u => exact I.after hq
    | next => exact False.elim hq
    | brk => exact False.elim hq
    | cont => exact False.elim hq
theorem kpick_kbn {K : PySem.W.Frag} (h : KPick fd ps ks n is) : KBn K fd ps n ks (fun us ws => pick is (us ++ ws)) (fun vs zs => pick is (vs ++ zs)) :=
  ⟨fun s us ws _ h1 h2 => .of_eq (h us ws h1 h2), fun r1 r2 => pick_vals (r1.append r2) is⟩
theorem callK_read {σr : St} {H : Hp} {Q : VK} (hn : np ≤ N.length) (hl1 : ∀ {σ rs σ'}, da σ = .ok rs σ' → rs.length = n) (hl2 : ∀ {σ rs σ'}, dk σ = .ok rs σ' → rs.length = ks.length) (h : EV (cn X) W (dCallK N.length np is body da dk) σr H Q) :
    tCallS n ks.length (spD (cn X) N np body) (fun vs zs => pick is (vs ++ zs)) (fun σr cls d H => W cls d σr H) (EVA (cn X) W da) (EVA (cn X) W dk) σr H Q := by
  obtain ⟨F, la, σ, S, g⟩ := h
  unfold dCallK at g
  cases qa : da σ with
  | no => rw [qa] at g; exact g.elim
  | ex e σ1 =>
    rw [qa] at g
    refine ⟨F, la, σ, S, ?_⟩
    rw [qa]
    exact g
  | ok rs σ1 =>
  rw [qa] at g
  refine ⟨F, la, σ, S, ?_⟩
  rw [qa]
  intro F1 H1 x1 S1 vs es
  cases qk : dk σ1 with
  | no => simp [Rs.bind, qk] at g; exact g.elim
  | ex e σ2 =>
    simp only [Rs.bind, qk] at g
    refine ⟨F1, la, σ1, S1, ?_⟩
    rw [qk]
    exact Fin.step (o := (Rs.ex e σ2 : Rs (List EVal))) (P := fun _ _ _ _ => True) g x1
  | ok zs σ2 =>
  simp only [Rs.bind, qk] at g
  refine ⟨F1, la, σ1, S1, ?_⟩
  rw [qk]
  intro F2 H2 x2 S2 ws ez
  cases qv : dTup.vals rs with
  | none => rw [qv] at g; exact g.elim
  | some ps =>
    cases qw : dTup.vals zs with
    | none => rw [qv, qw] at g; exact g.elim
    | some qs =>
      rw [qv, qw] at g
      simp only at g
      obtain ⟨⟨h1, h2⟩, g2⟩ := fin_if g
      have es2 := es.ext S1 x2
      have rps := vals_ok es2 qv
      have rqs := vals_ok ez qw
      have rr := pick_rfs (rps.append rqs) is
      refine ⟨by rw [← es.length]; exact hl1 qa, by rw [← ez.length]; exact hl2 qk, ?_⟩
      have ea := (ERs.nil (c := cn X) (F := F2) (la := la) (O := Ow σ2 σr la) (N := Nw ⟨F, H, Ow σ σr la⟩) (σr := σr) (H := H2)).app rr
      have hlen : (pick is (vs ++ ws)).length = np := by rw [← rr.length]; exact h1
      exact callD_ok hlen (by rw [hlen]; exact hn) S2 (x1.trans x2) ea g2
theorem z_callK (F : FnOk X.prog X.w X.K X.mg X.base (L2.CX X.prog X.w) k f fd ps (spD (cn X) N np body)) (hr : Room k X.A) (hg : Gl X x) (hm : X.mg x = some (.ref f)) (hk : PySem.W.keepIn X.K (.ref f) = true) (hb : KPick fd ps ks n is) (tk : Takes X W)
    (ha : PA X (e :: es) (EVA (cn X) W da)) (hkw : PK X kws (EVA (cn X) W dk)) (hn : np ≤ N.length) (hl1 : ∀ {σ rs σ'}, da σ = .ok rs σ' → rs.length = n) (hl2 : ∀ {σ rs σ'}, dk σ = .ok rs σ' → rs.length = ks.length)
    (hall : (backToKw pos (keywordEach kws X.env)).all (·.1.isSome) = true := by rfl) (hks : (backToKw pos (keywordEach kws X.env)).filterMap (·.1) = ks := by rfl)
    (hdb : (x == ("__debug__" : Str)) = false := by decide) (he : starEach (e :: es) X.env = (false, eval e X.env) :: starEach es X.env := by rfl)
    (hpl : ((backTo pos (starEach (e :: es) X.env)).any (·.1) || (backToKw pos (keywordEach kws X.env)).any (·.1.isNone)) = false := by rfl) :
    PE X (.Call (.Name x p) (e :: es) kws pos) (EV (cn X) W (dCallK N.length np is body da dk)) := by
  refine ⟨fun pins s σ H Q I h => ?_⟩
  have h := callK_read hn hl1 hl2 h
  refine wpAny_Call_Name_kw (ld_glob I hg hm ?_ hdb)
  refine PySem.W.callWith_KW (h₀ := X.base) I.ok.mod.kin hk hall (thn (ha.run pos pins s σ H _ I h) fun us s1 ⟨vs, H1, I1, r, q⟩ => ?_) hpl he
  refine thn (hkw.run pos pins s1 σ H1 _ I1 q) fun ws s2 ⟨zs, H2, I2, rz, l1, l2, q2⟩ => ⟨I2.kIn, ?_⟩
  rw [hks]
  exact run_fnNS F hr (kpick_kbn hb) (passAt tk σ) I2 r rz l1 l2 q2
theorem z_callK0 (F : FnOk X.prog X.w X.K X.mg X.base (L2.CX X.prog X.w) k f fd ps (spD (cn X) N np body)) (hr : Room k X.A) (hg : Gl X x) (hm : X.mg x = some (.ref f)) (hk : PySem.W.keepIn X.K (.ref f) = true) (hb : KPick fd ps ks 0 is) (tk : Takes X W)
    (hkw : PK X kws (EVA (cn X) W dk)) (hn : np ≤ N.length) (hl2 : ∀ {σ rs σ'}, dk σ = .ok rs σ' → rs.length = ks.length)
    (hall : (backToKw pos (keywordEach kws X.env)).all (·.1.isSome) = true := by rfl) (hks : (backToKw pos (keywordEach kws X.env)).filterMap (·.1) = ks := by rfl)
    (hdb : (x == ("__debug__" : Str)) = false := by decide)
    (hpl : ((backTo pos (starEach [] X.env)).any (·.1) || (backToKw pos (keywordEach kws X.env)).any (·.1.isNone)) = false := by rfl) :
    PE X (.Call (.Name x p) [] kws pos) (EV (cn X) W (dCallK N.length np is body dNil dk)) := by
  refine ⟨fun pins s σ H Q I h => ?_⟩
  have h := callK_read (n := 0) hn (fun e => by cases e; rfl) hl2 h
  refine wpAny_Call_Name_kw (ld_glob I hg hm ?_ hdb)
  obtain ⟨F', la, σ', S', f'⟩ := h
  have q := f' F' H (Ex.refl _) S' [] .nil
  refine PySem.W.callWith_KW0 (h₀ := X.base) I.ok.mod.kin hk hall (thn (hkw.run pos pins s σ H _ I q) fun ws s2 ⟨zs, H2, I2, rz, l1, l2, q2⟩ => ⟨I2.kIn, ?_⟩) hpl
  rw [hks]
  exact run_fnNS F hr (kpick_kbn hb) (passAt tk σ) I2 .nil rz l1 l2 q2
end
theorem dCons_len {d : DE} {ds : DA} {n : Nat} (h : ∀ {σ rs σ'}, ds σ = .ok rs σ' → rs.length = n) : ∀ {σ rs σ'}, dCons d ds σ = .ok rs σ' → rs.length = n + 1 := by
  intro σ rs σ' e
  unfold dCons at e
  cases q : d σ with
  | no => rw [q] at e; cases e
  | ex _ _ => rw [q] at e; cases e
  | ok r σ1 =>
    cases q2 : ds σ1 with
    | no => simp [q, Rs.bind, q2] at e
    | ex _ _ => simp [q, Rs.bind, q2] at e
    | ok rs' σ2 =>
      simp [q, Rs.bind, q2] at e
      rw [← e.1, List.length_cons, h q2]
theorem dNil_len : ∀ {σ rs σ'}, dNil σ = .ok rs σ' → rs.length = 0 := by intro σ rs σ' e; cases e; rfl
end L2.Zz

/-! Z15: the law's start; small words for the printed terms. -/
namespace L2.Zz
open PySem PySem.Spec PyProof.Rows
theorem huz {k : Nat} {A : Around} (hr : Room k A) : A.units + 65 < cLine := by have := hr.un; omega
theorem takesB {X : Cx} {s : Shared} {H : Hp} {scope : Scope} {cenv : Env} {fp : List Addr} : Takes (X.blk s H scope cenv fp) L2.Zz.W0 := fun _ _ ⟨_, _, _, _, _, _, _, _, _, _, _, _, _, _, _, _, w⟩ => w.elim
theorem cx_false {P : Program} {w : World} {H : Hp} {s s' : Shared} {e : Value} (h : L2.CX P w [] H s (fun _ _ _ => False) e s') : False := by
  obtain ⟨_, _, _, _, _, _, _, _, _, _, _, _, h⟩ := h
  exact h
theorem law_sp {c : Cn} {N : List Str} {body : DS} {H : Hp} {a : Addr} {ns : List Int} (hS : SqL c.K H a (ns.map V.int))
    (h : ∃ σ', body ⟨some (.frz (.lst (ns.map PV.int))) :: List.replicate (N.length - 1) none, []⟩ = .ok (.rt (.val (.bl true))) σ') : spD c N 1 body [.ref a] H (fun v _ => v = .bl true) (fun _ _ _ => False) := by
  obtain ⟨σ', e⟩ := h
  refine ⟨rfl, ?_⟩
  have hr : ∃ F : Addr → Prop, (∀ b, F b → ∃ o, H b = some o) ∧ FrL c F H a (ns.map V.int) := by
    rcases hS with h | h
    · refine ⟨fun b => b = a, fun b e => ?_, .inl ⟨rfl, h⟩⟩
      subst e
      rcases h with h | ⟨o, h⟩
      · exact ⟨_, h⟩
      · exact ⟨_, h⟩
    · exact ⟨fun _ => False, fun b e => e.elim, .inr h⟩
  obtain ⟨F, hF, hL⟩ := hr
  have st : start N [V.ref a] = some (V.ref a) :: List.replicate (N.length - 1) none := rfl
  have rep : ∀ (m i : Nat) (t : Sl), (List.replicate m (none : Option Sl))[i]? = some (some t) → False := fun m i t e => by
    rw [List.getElem?_replicate] at e
    split at e <;> cases e
  have one : ∀ (i : Nat) (t : Sl), (some (Sl.frz (.lst (ns.map PV.int))) :: List.replicate (N.length - 1) (none : Option Sl))[i]? = some (some t) → i = 0 ∧ t = .frz (.lst (ns.map PV.int)) := fun i t e => by
    cases i with
    | zero => simp at e; exact ⟨rfl, e.symm⟩
    | succ i => exact (rep _ i t (by simpa using e)).elim
  refine ⟨F, [], ⟨some (.frz (.lst (ns.map PV.int))) :: List.replicate (N.length - 1) none, []⟩, ⟨?_, fun i v e => ?_, fun i k e => ?_, fun i v e => ?_, fun i j v u b e1 e2 e3 e4 => ?_, rfl, List.nodup_nil, fun k v b e1 e2 => ?_, hF⟩, ?_⟩
  · rw [st]; simp
  · obtain ⟨rfl, ev⟩ := one i _ e
    cases ev
    refine ⟨.ref a, by rw [st]; rfl, ?_⟩
    unfold RF
    exact ⟨a, ns.map V.int, rfl, hL, RFs.ints ns⟩
  · obtain ⟨_, ev⟩ := one i _ e; cases ev
  · obtain ⟨_, ev⟩ := one i _ e; cases ev
  · obtain ⟨_, ev⟩ := one i _ e1; cases ev
  · simp at e1
  · rw [e]
    intro F' H' σr' x S v ev
    have ev : RF c F' H' (.bl true) v := ev
    unfold RF at ev
    exact ev
end L2.Zz

/-! Z16: reckoning with denotations: what an outcome meets. -/
namespace L2.Zz
open PySem PySem.Spec PyProof.Rows

abbrev XP := Exn → PSt → Prop
abbrev noX : XP := fun _ _ => False
@[irreducible] def WP {α : Type} (o : Rs α) (Q : α → PSt → Prop) (R : XP) : Prop := match o with
  | .ok a s => Q a s
  | .ex e s => R e s
  | .no => False
section
variable {α β : Type} {o : Rs α} {Q Q' : α → PSt → Prop} {R R' : XP}
theorem WP.bind {k : α → PSt → Rs β} {Q : β → PSt → Prop} (h : WP o (fun a s => WP (k a s) Q R) R) : WP (o.bind k) Q R := by
  with_unfolding_all
    cases o with
    | ok a s => exact h
    | ex e s => exact h
    | no => exact h
theorem WP.mono (h : WP o Q R) (m : ∀ a s, Q a s → Q' a s) (mr : ∀ e s, R e s → R' e s := by exact fun _ _ z => z) : WP o Q' R' := by
  with_unfolding_all
    cases o with
    | ok a s => exact m a s h
    | ex e s => exact mr e s h
    | no => exact h
theorem WP.ok {a : α} {s : PSt} (h : Q a s) : WP (.ok a s) Q R := by
  with_unfolding_all exact h
theorem WP.some_ {a : α} {s : PSt} (h : WP o Q noX) : ∃ a s, o = .ok a s ∧ Q a s := by
  with_unfolding_all
    cases o with
    | ok a s => exact ⟨a, s, rfl, h⟩
    | ex e s => exact h.elim
    | no => exact h.elim
theorem WP.of {a : α} {s : PSt} (e : o = .ok a s) (h : Q a s) : WP o Q R := by
  with_unfolding_all
    rw [e]; exact h
end
/-! ### small tables -/
abbrev SlL := List (Option Sl)
def GetL (l : SlL) (i : Nat) (s : Sl) : Prop := l[i]? = some (some s)
theorem GetL.z {l : SlL} {s : Sl} : GetL (some s :: l) 0 s := rfl
theorem GetL.s {l : SlL} {a : Option Sl} {i : Nat} {s : Sl} (h : GetL l i s) : GetL (a :: l) (i + 1) s := by unfold GetL at h ⊢; simpa using h
def SetL (l : SlL) (i : Nat) (s : Sl) (l' : SlL) : Prop := l.set i (some s) = l'
theorem SetL.z {l : SlL} {a : Option Sl} {s : Sl} : SetL (a :: l) 0 s (some s :: l) := rfl
theorem SetL.s {l l' : SlL} {a : Option Sl} {i : Nat} {s : Sl} (h : SetL l i s l') : SetL (a :: l) (i + 1) s (a :: l') := by unfold SetL at h ⊢; rw [List.set_cons_succ, h]
def GetP (l : List PV) (i : Nat) (s : PV) : Prop := l[i]? = some s
theorem GetP.z {l : List PV} {s : PV} : GetP (s :: l) 0 s := rfl
theorem GetP.s {l : List PV} {a : PV} {i : Nat} {s : PV} (h : GetP l i s) : GetP (a :: l) (i + 1) s := by unfold GetP at h ⊢; simpa using h
def SetP (l : List PV) (i : Nat) (s : PV) (l' : List PV) : Prop := i < l.length ∧ l.set i s = l'
theorem SetP.z {l : List PV} {a s : PV} : SetP (a :: l) 0 s (s :: l) := ⟨by simp, rfl⟩
theorem SetP.s {l l' : List PV} {a : PV} {i : Nat} {s : PV} (h : SetP l i s l') : SetP (a :: l) (i + 1) s (a :: l') := ⟨by have := h.1; simp; omega, by rw [List.set_cons_succ, h.2]⟩
inductive SlVal (i : Nat) : Sl → EVal → Prop
  | own {v} : SlVal i (.own v) (.at i)
  | frz {v} : SlVal i (.frz v) (.val v)
  | lo {k} : SlVal i (.lo k) (.lo k)
theorem SlVal.eq {i : Nat} {s : Sl} {r : EVal} (h : SlVal i s r) : slV i s = r := by cases h <;> rfl
def RdS (σ : PSt) (r : EVal) (p : PV) : Prop := rd σ r = some p
theorem RdS.v {σ : PSt} {p : PV} : RdS σ (.val p) p := rfl
theorem RdS.n {σ : PSt} {p : PV} : RdS σ (.new p) p := rfl
theorem RdS.o {l : SlL} {n : List PV} {i : Nat} {p : PV} (h : GetL l i (.own p)) : RdS ⟨l, n⟩ (.at i) p := by unfold GetL at h; unfold RdS rd; simp only [h]
theorem RdS.f {l : SlL} {n : List PV} {i : Nat} {p : PV} (h : GetL l i (.frz p)) : RdS ⟨l, n⟩ (.at i) p := by unfold GetL at h; unfold RdS rd; simp only [h]
theorem RdS.l {l : SlL} {n : List PV} {k : Nat} {p : PV} (h : GetP n k p) : RdS ⟨l, n⟩ (.lo k) p := h
def RdsS (σ : PSt) (rs : List EVal) (ps : List PV) : Prop := rdAll σ rs = some ps
theorem RdsS.n {σ : PSt} : RdsS σ [] [] := rfl
theorem RdsS.c {σ : PSt} {r : EVal} {rs : List EVal} {p : PV} {ps : List PV} (h : RdS σ r p) (t : RdsS σ rs ps) : RdsS σ (r :: rs) (p :: ps) := by
  unfold RdS at h; unfold RdsS at t ⊢
  rw [rdAll, h, t]
def VlS (rs : List EVal) (ps : List PV) : Prop := dTup.vals rs = some ps
theorem VlS.n : VlS [] [] := rfl
theorem VlS.c {p : PV} {rs : List EVal} {ps : List PV} (t : VlS rs ps) : VlS (.val p :: rs) (p :: ps) := by unfold VlS at t ⊢; rw [dTup.vals, t]; rfl
def FzS (r : EVal) (σ : PSt) (p : PV) (σ' : PSt) : Prop := fz r σ = .ok p σ'
theorem FzS.v {σ : PSt} {p : PV} : FzS (.val p) σ p σ := rfl
theorem FzS.n {σ : PSt} {p : PV} : FzS (.new p) σ p σ := rfl
theorem FzS.o {l l' : SlL} {n : List PV} {i : Nat} {p : PV} (h : GetL l i (.own p)) (s : SetL l i (.frz p) l') : FzS (.at i) ⟨l, n⟩ p ⟨l', n⟩ := by
  unfold GetL at h; unfold SetL at s; unfold FzS fz
  simp only [h, s]
theorem FzS.f {l : SlL} {n : List PV} {i : Nat} {p : PV} (h : GetL l i (.frz p)) : FzS (.at i) ⟨l, n⟩ p ⟨l, n⟩ := by
  unfold GetL at h; unfold FzS fz
  simp only [h]
def WrS (r : EVal) (q : PV) (σ σ' : PSt) : Prop := wr r q σ = some σ'
theorem WrS.n {σ : PSt} {p q : PV} : WrS (.new p) q σ σ := rfl
theorem WrS.o {l l' : SlL} {n : List PV} {i : Nat} {p q : PV} (h : GetL l i (.own p)) (s : SetL l i (.own q) l') : WrS (.at i) q ⟨l, n⟩ ⟨l', n⟩ := by
  unfold GetL at h; unfold SetL at s; unfold WrS wr
  simp only [h, s]
theorem WrS.l {l : SlL} {n n' : List PV} {k : Nat} {q : PV} (s : SetP n k q n') : WrS (.lo k) q ⟨l, n⟩ ⟨l, n'⟩ := by
  obtain ⟨h1, h2⟩ := s
  unfold WrS wr
  simp only [h1, if_true, h2]
def StS (i : Nat) (r : EVal) (σ σ' : PSt) : Prop := st i r σ = .ok () σ'
theorem StS.v {l l' : SlL} {n : List PV} {i : Nat} {p : PV} (h : SetL l i (.frz p) l') : StS i (.val p) ⟨l, n⟩ ⟨l', n⟩ := by unfold SetL at h; unfold StS st; simp only [h]
theorem StS.n {l l' : SlL} {n : List PV} {i : Nat} {p : PV} (h : SetL l i (.own p) l') : StS i (.new p) ⟨l, n⟩ ⟨l', n⟩ := by unfold SetL at h; unfold StS st; simp only [h]
theorem StS.l {l l' : SlL} {n : List PV} {i k : Nat} (h : SetL l i (.lo k) l') : StS i (.lo k) ⟨l, n⟩ ⟨l', n⟩ := by unfold SetL at h; unfold StS st; simp only [h]
theorem StS.a {l l' : SlL} {n n1 : List PV} {l1 : SlL} {i j : Nat} {p : PV} (f : FzS (.at j) ⟨l, n⟩ p ⟨l1, n1⟩) (h : SetL l1 i (.frz p) l') : StS i (.at j) ⟨l, n⟩ ⟨l', n1⟩ := by
  unfold SetL at h; unfold FzS at f; unfold StS
  show (fz (.at j) ⟨l, n⟩).bind (fun p σ1 => Rs.ok () ⟨σ1.sl.set i (some (.frz p)), σ1.ln⟩) = _
  rw [f]; simp only [Rs.bind, h]
inductive StAll : List Nat → List EVal → PSt → PSt → Prop
  | n {σ} : StAll [] [] σ σ
  | c {i is r rs σ σ1 σ2} : (∀ j, r ≠ .at j) → StS i r σ σ1 → StAll is rs σ1 σ2 → StAll (i :: is) (r :: rs) σ σ2
theorem StAll.ok {is : List Nat} {rs : List EVal} {σ σ' : PSt} (h : StAll is rs σ σ') : stAll is rs σ = .ok () σ' := by
  induction h with
  | n => rfl
  | c na h _ ih =>
    rename_i i is r rs σ σ1 σ2 _
    rw [stAll]
    have : stN i r σ = st i r σ := by
      cases r with
      | «at» j => exact absurd rfl (na j)
      | _ => rfl
    rw [this, show st i r σ = _ from h]
    exact ih
theorem StAll.v {i : Nat} {is : List Nat} {p : PV} {rs : List EVal} {l l1 : SlL} {n : List PV} {σ2 : PSt} (h : SetL l i (.frz p) l1) (t : StAll is rs ⟨l1, n⟩ σ2) : StAll (i :: is) (.val p :: rs) ⟨l, n⟩ σ2 := .c (fun j e => by cases e) (.v h) t
theorem StAll.w {i : Nat} {is : List Nat} {p : PV} {rs : List EVal} {l l1 : SlL} {n : List PV} {σ2 : PSt} (h : SetL l i (.own p) l1) (t : StAll is rs ⟨l1, n⟩ σ2) : StAll (i :: is) (.new p :: rs) ⟨l, n⟩ σ2 := .c (fun j e => by cases e) (.n h) t
theorem StAll.l {i k : Nat} {is : List Nat} {rs : List EVal} {l l1 : SlL} {n : List PV} {σ2 : PSt} (h : SetL l i (.lo k) l1) (t : StAll is rs ⟨l1, n⟩ σ2) : StAll (i :: is) (.lo k :: rs) ⟨l, n⟩ σ2 := .c (fun j e => by cases e) (.l h) t
/-- what an operation gives -/
def EqF {α : Type} (a b : Option α) : Prop := a = b
theorem EqF.mk {α : Type} {a b : Option α} (h : a = b) : EqF a b := h

/-! ### branches -/
def Br (b : Bool) (A B : Prop) : Prop := (b = true → A) ∧ (b = false → B)
theorem Br.t {A B : Prop} (h : A) : Br true A B := ⟨fun _ => h, fun e => by cases e⟩
theorem Br.f {A B : Prop} (h : B) : Br false A B := ⟨fun e => (nomatch e), fun _ => h⟩
theorem Br.dec {p : Prop} [Decidable p] {A B : Prop} (h : p → A) (h' : ¬ p → B) : Br (decide p) A B := ⟨fun e => h (of_decide_eq_true e), fun e => h' (of_decide_eq_false e)⟩
theorem Br.n {p : Prop} [Decidable p] {A B : Prop} (h : ¬ p → A) (h' : p → B) : Br (!decide p) A B := by
  by_cases q : p
  · rw [decide_eq_true q]; exact .f (h' q)
  · rw [decide_eq_false q]; exact .t (h q)
theorem Br.i {b : Bool} {A B : Prop} (h : b = true → A) (h' : b = false → B) : Br b A B := ⟨h, h'⟩
theorem Br.nn {b : Bool} {A B : Prop} (h : Br b B A) : Br (!b) A B := by
  cases b with
  | true => exact ⟨fun e => (nomatch e), fun _ => h.1 rfl⟩
  | false => exact ⟨fun _ => h.2 rfl, fun e => (nomatch e)⟩
/-! ### expressions -/
section
variable {Q : EVal → PSt → Prop} {R : XP} {σ : PSt} {da db dc d : DE} {ds dk : DA}
theorem w_C {v : PV} (h : Q (.val v) σ) : WP (dC v σ) Q R := by
  with_unfolding_all exact h
theorem w_var {l : SlL} {n : List PV} {i : Nat} {s : Sl} {r : EVal} (h : GetL l i s) (e : SlVal i s r) (q : Q r ⟨l, n⟩) : WP (dVar i ⟨l, n⟩) Q R := by
  with_unfolding_all
    unfold GetL at h
    unfold dVar
    simp only [h]
    rw [e.eq]; exact q
theorem w_fz (h : WP (d σ) (fun r σ1 => ∃ p σ2, FzS r σ1 p σ2 ∧ Q (.val p) σ2) R) : WP (dFz d σ) Q R := by
  with_unfolding_all exact WP.bind (h.mono fun r σ1 ⟨p, σ2, e, q⟩ => by rw [show fz r σ1 = _ from e]; exact q)
theorem w_op1 {f : PV → Option Ot} (h : WP (da σ) (fun ra σ1 => ∃ a o, RdS σ1 ra a ∧ EqF (f a) (some o) ∧ Q o.ev σ1) R) : WP (dOp1 f da σ) Q R := by
  with_unfolding_all exact WP.bind (h.mono fun ra σ1 ⟨a, o, e1, e2, q⟩ => by rw [show rd σ1 ra = _ from e1]; show WP (otR (f a) σ1) Q R; rw [show f a = _ from e2]; exact q)
theorem w_op2 {f : PV → PV → Option Ot} (h : WP (da σ) (fun ra σ1 => WP (db σ1) (fun rb σ2 => ∃ a b o, RdS σ2 ra a ∧ RdS σ2 rb b ∧ EqF (f a b) (some o) ∧ Q o.ev σ2) R) R) : WP (dOp2 f da db σ) Q R := by
  with_unfolding_all exact WP.bind (h.mono fun ra σ1 h => WP.bind (h.mono fun rb σ2 ⟨a, b, o, e1, e2, e3, q⟩ => by
      rw [show rd σ2 ra = _ from e1, show rd σ2 rb = _ from e2]; show WP (otR (f a b) σ2) Q R; rw [show f a b = _ from e3]; exact q))
theorem w_nil {Q : List EVal → PSt → Prop} (h : Q [] σ) : WP (dNil σ) Q R := by
  with_unfolding_all exact h
theorem w_cons {Q : List EVal → PSt → Prop} (h : WP (d σ) (fun r σ1 => WP (ds σ1) (fun rs σ2 => Q (r :: rs) σ2) R) R) : WP (dCons d ds σ) Q R := by
  with_unfolding_all exact WP.bind (h.mono fun r σ1 h => WP.bind (h.mono fun rs σ2 h => h))
theorem w_cb {f : List PV → Option Ot} (h : WP (ds σ) (fun rs σ1 => ∃ ps o, RdsS σ1 rs ps ∧ EqF (f ps) (some o) ∧ Q o.ev σ1) R) : WP (dCB f ds σ) Q R := by
  with_unfolding_all exact WP.bind (h.mono fun rs σ1 ⟨ps, o, e1, e2, q⟩ => by rw [show rdAll σ1 rs = _ from e1]; show WP (otR (f ps) σ1) Q R; rw [show f ps = _ from e2]; exact q)
theorem w_tup (h : WP (ds σ) (fun rs σ1 => ∃ ps, VlS rs ps ∧ EqF (some (decide (ps.length ≤ szL))) (some true) ∧ Q (.val (.tup ps)) σ1) R) : WP (dTup ds σ) Q R := by
  with_unfolding_all exact WP.bind (h.mono fun rs σ1 ⟨ps, e1, e2, q⟩ => by
      rw [show dTup.vals rs = _ from e1]
      have e2 : ps.length ≤ szL := of_decide_eq_true (Option.some.inj e2)
      show WP (if ps.length ≤ szL then Rs.ok (EVal.val (.tup ps)) σ1 else .no) Q R
      rw [if_pos e2]; exact q)
theorem w_lst (h : WP (ds σ) (fun rs σ1 => ∃ ps, VlS rs ps ∧ EqF (some (decide (ps.length ≤ szL))) (some true) ∧ Q (.new (.lst ps)) σ1) R) : WP (dLst ds σ) Q R := by
  with_unfolding_all exact WP.bind (h.mono fun rs σ1 ⟨ps, e1, e2, q⟩ => by
      rw [show dTup.vals rs = _ from e1]
      have e2 : ps.length ≤ szL := of_decide_eq_true (Option.some.inj e2)
      show WP (if ps.length ≤ szL then Rs.ok (EVal.new (.lst ps)) σ1 else .no) Q R
      rw [if_pos e2]; exact q)
theorem w_dnew (h : Q (.new (.dct [] [])) σ) : WP (dDNew σ) Q R := by
  with_unfolding_all exact h
theorem w_no {Q : Option Int → PSt → Prop} (h : Q none σ) : WP (dNo σ) Q R := by
  with_unfolding_all exact h
theorem w_so {Q : Option Int → PSt → Prop} (h : WP (d σ) (fun r σ1 => ∃ i, RdS σ1 r (.int i) ∧ Q (some i) σ1) R) : WP (dSo d σ) Q R := by
  with_unfolding_all exact WP.bind (h.mono fun r σ1 ⟨i, e, q⟩ => by rw [show rd σ1 r = _ from e]; exact q)
theorem w_sl {lo hi : DO} (h : WP (d σ) (fun r σ1 => WP (lo σ1) (fun l σ2 => WP (hi σ2) (fun u σ3 => ∃ p o, RdS σ3 r p ∧ EqF (pvSl l u p) (some o) ∧ Q o.ev σ3) R) R) R) : WP (dSl d lo hi σ) Q R := by
  with_unfolding_all exact WP.bind (h.mono fun r σ1 h => WP.bind (h.mono fun l σ2 h => WP.bind (h.mono fun u σ3 ⟨p, o, e1, e2, q⟩ => by rw [show rd σ3 r = _ from e1]; show WP (otR (pvSl l u p) σ3) Q R; rw [show pvSl l u p = _ from e2]; exact q)))
theorem Br.ite {α : Type} {b : Bool} {x y : Rs α} {Q : α → PSt → Prop} (h : Br b (WP x Q R) (WP y Q R)) : WP (if b = true then x else y) Q R := by
  with_unfolding_all
    cases b with
    | true => exact h.1 rfl
    | false => exact h.2 rfl
theorem w_B {Q : Bool → PSt → Prop} (h : WP (d σ) (fun r σ1 => ∃ b, RdS σ1 r (.bl b) ∧ Q b σ1) R) : WP (dB d σ) Q R := by
  with_unfolding_all exact WP.bind (h.mono fun r σ1 ⟨b, e, q⟩ => by rw [show rd σ1 r = _ from e]; exact q)
theorem w_not {dt : DT} {Q : Bool → PSt → Prop} (h : WP (dt σ) (fun b σ1 => Q (!b) σ1) R) : WP (dNot dt σ) Q R := by
  with_unfolding_all exact WP.bind (h.mono fun b σ1 q => q)
theorem w_and {dt du : DT} {Q : Bool → PSt → Prop} (h : WP (dt σ) (fun b σ1 => Br b (WP (du σ1) Q R) (Q false σ1)) R) : WP (dAnd dt du σ) Q R := by
  with_unfolding_all exact WP.bind (h.mono fun b σ1 q => Br.ite q)
theorem w_or {dt du : DT} {Q : Bool → PSt → Prop} (h : WP (dt σ) (fun b σ1 => Br b (Q true σ1) (WP (du σ1) Q R)) R) : WP (dOr dt du σ) Q R := by
  with_unfolding_all exact WP.bind (h.mono fun b σ1 q => Br.ite q)
theorem w_tv {dt : DT} (h : WP (dt σ) (fun b σ1 => Q (.val (.bl b)) σ1) R) : WP (dTV dt σ) Q R := by
  with_unfolding_all exact WP.bind (h.mono fun b σ1 q => q)
theorem w_if {dt : DT} (h : WP (dt σ) (fun b σ1 => Br b (WP (da σ1) Q R) (WP (db σ1) Q R)) R) : WP (dIf dt da db σ) Q R := by
  with_unfolding_all exact WP.bind (h.mono fun b σ1 q => Br.ite q)
theorem w_andV (h : WP (da σ) (fun r σ1 => ∃ b, RdS σ1 r (.bl b) ∧ Br b (WP (db σ1) Q R) (Q (.val (.bl false)) σ1)) R) : WP (dAndV da db σ) Q R := by
  with_unfolding_all exact WP.bind (w_B (h.mono fun r σ1 ⟨b, e, q⟩ => ⟨b, e, Br.ite q⟩))
theorem w_orV (h : WP (da σ) (fun r σ1 => ∃ b, RdS σ1 r (.bl b) ∧ Br b (Q (.val (.bl true)) σ1) (WP (db σ1) Q R)) R) : WP (dOrV da db σ) Q R := by
  with_unfolding_all exact WP.bind (w_B (h.mono fun r σ1 ⟨b, e, q⟩ => ⟨b, e, Br.ite q⟩))
theorem w_notV (h : WP (da σ) (fun r σ1 => ∃ b, RdS σ1 r (.bl b) ∧ Q (.val (.bl !b)) σ1) R) : WP (dNotV da σ) Q R := by
  with_unfolding_all exact WP.bind (w_B (h.mono fun r σ1 ⟨b, e, q⟩ => ⟨b, e, q⟩))
theorem w_ch {f f' : PV → PV → Option Ot} (h : WP (da σ) (fun ra σ1 => WP (db σ1) (fun rb σ2 => ∃ a b t, RdS σ2 ra a ∧ RdS σ2 rb b ∧ EqF (f a b) (some (.v (.bl t))) ∧
    Br t (WP (dc σ2) (fun rc σ3 => ∃ b' c o, RdS σ3 rb b' ∧ RdS σ3 rc c ∧ EqF (f' b' c) (some o) ∧ Q o.ev σ3) R) (Q (.val (.bl false)) σ2)) R) R) : WP (dCh f f' da db dc σ) Q R := by
  with_unfolding_all exact WP.bind (h.mono fun ra σ1 h => WP.bind (h.mono fun rb σ2 ⟨a, b, t, e1, e2, e3, q⟩ => by
      rw [show rd σ2 ra = _ from e1, show rd σ2 rb = _ from e2]
      simp only
      rw [show f a b = _ from e3]
      cases t with
      | true => exact WP.bind ((q.1 rfl).mono fun rc σ3 ⟨b', c, o, e4, e5, e6, q⟩ => by
          rw [show rd σ3 rb = _ from e4, show rd σ3 rc = _ from e5]; show WP (otR (f' b' c) σ3) Q R; rw [show f' b' c = _ from e6]; exact q)
      | false => exact q.2 rfl))
/-! ### methods, calls -/
theorem w_mut {f : Mf} (h : WP (d σ) (fun r σ1 => ∃ xs0, RdS σ1 r (.lst xs0) ∧ WP (ds σ1) (fun rs σ2 => ∃ p ps o q σ3, RdS σ2 r p ∧ VlS rs ps ∧ EqF (f p ps) (some (o, q)) ∧ WrS r q σ2 σ3 ∧ Q o.ev σ3) R) R) : WP (dMutL f d ds σ) Q R := by
  with_unfolding_all exact WP.bind (h.mono fun r σ1 ⟨xs0, e0, h⟩ => by
      rw [show rd σ1 r = _ from e0]
      simp only [isLst, if_true]
      exact WP.bind (h.mono fun rs σ2 ⟨p, ps, o, q, σ3, e1, e2, e3, e4, hq⟩ => by
        rw [show rd σ2 r = _ from e1, show dTup.vals rs = _ from e2]
        simp only
        rw [show f p ps = _ from e3]
        simp only
        rw [show wr r q σ2 = _ from e4]
        exact hq))
def CallA (n np : Nat) (body : DS) (dps : List PV) (rs : List EVal) (σ : PSt) (Q : EVal → PSt → Prop) (R : XP) : Prop := (rs ++ dps.map EVal.val).length = np ∧ WP (callD n body (rs ++ dps.map .val) σ) Q R
theorem CallA.mk {n np : Nat} {body : DS} {rs : List EVal} (hl : rs.length = np) (h : WP (callD n body rs σ) Q R) : CallA n np body [] rs σ Q R := by
  with_unfolding_all
    unfold CallA
    simp only [List.map_nil, List.append_nil]
    exact ⟨hl, h⟩
theorem w_call {n np : Nat} {body : DS} {dps : List PV} (h : WP (ds σ) (fun rs σ1 => CallA n np body dps rs σ1 Q R) R) : WP (dCall n np body ds dps σ) Q R := by
  with_unfolding_all exact WP.bind (h.mono fun rs σ1 ⟨hl, q⟩ => by
    show WP (if _ then _ else Rs.no) Q R
    rw [if_pos hl]; exact q)
def CallKA (n np : Nat) (is : List Nat) (body : DS) (rs zs : List EVal) (σ : PSt) (Q : EVal → PSt → Prop) (R : XP) : Prop := ∃ ps qs as, VlS rs ps ∧ VlS zs qs ∧ EqF (some (pick is (ps ++ qs))) (some as) ∧ as.length = np ∧ (∀ i ∈ is, i < (ps ++ qs).length) ∧ WP (callD n body (as.map .val) σ) Q R
theorem w_callK {n np : Nat} {is : List Nat} {body : DS} (h : WP (ds σ) (fun rs σ1 => WP (dk σ1) (fun zs σ2 => CallKA n np is body rs zs σ2 Q R) R) R) : WP (dCallK n np is body ds dk σ) Q R := by
  with_unfolding_all exact WP.bind (h.mono fun rs σ1 h => WP.bind (h.mono fun zs σ2 ⟨ps, qs, as, e1, e2, e3, hl, hi, q⟩ => by
      rw [show dTup.vals rs = _ from e1, show dTup.vals zs = _ from e2]
      have e3 : pick is (ps ++ qs) = as := Option.some.inj e3
      show WP (if _ then _ else Rs.no) Q R
      rw [if_pos ⟨by rw [e3]; exact hl, hi⟩, e3]; exact q))
/-- at a def's end -/
def KRet (w : List Pl) (σ : PSt) (Q : EVal → PSt → Prop) : Fl → PSt → Prop := fun f σ2 => match f with
  | .nx => Q (.val .non) (wbk w σ2.ln σ)
  | .rt r => ∃ r', outV r σ2 = some r' ∧ Q r' (wbk w σ2.ln σ)
  | _ => False
theorem w_callD {n : Nat} {body : DS} {rs : List EVal} {s s' : SlL} {w : List Pl} {ln : List PV} (h1 : EqF (bindA rs 0) (some (s, w))) (h2 : EqF (conA σ w) (some ln)) (nd : w.Nodup) (h3 : EqF (some (s ++ List.replicate (n - s.length) none)) (some s')) (h : WP (body ⟨s', ln⟩) (KRet w σ Q) (fun e σ2 => R e (wbk w σ2.ln σ))) : WP (callD n body rs σ) Q R := by
  with_unfolding_all
    unfold callD
    rw [show bindA rs 0 = _ from h1]
    simp only
    rw [if_pos nd, show conA σ w = _ from h2]
    simp only
    have h3 : s ++ List.replicate (n - s.length) none = s' := Option.some.inj h3
    rw [h3]
    cases q : body ⟨s', ln⟩ with
    | no => rw [q] at h; exact h
    | ex e σ2 => rw [q] at h; exact h
    | ok f σ2 =>
      rw [q] at h
      cases f with
      | nx => exact h
      | bk => exact h.elim
      | ct => exact h.elim
      | rt r =>
        have h : KRet w σ Q (.rt r) σ2 := h
        obtain ⟨r', e, hq⟩ := h; simp only; rw [e]; exact hq
/-- all arguments stand still -/
theorem w_callV {n : Nat} {body : DS} {rs : List EVal} {ps : List PV} {s' : SlL} (h1 : VlS rs ps) (h3 : EqF (some ((ps.map fun p => some (Sl.frz p)) ++ List.replicate (n - ps.length) none)) (some s')) (h : WP (body ⟨s', []⟩) (KRet [] σ Q) (fun e _ => R e σ)) : WP (callD n body rs σ) Q R := by
  with_unfolding_all
    have hb : ∀ {rs : List EVal} {ps : List PV}, VlS rs ps → bindA rs 0 = some (ps.map fun p => some (Sl.frz p), []) := by
      intro rs
      induction rs with
      | nil => intro ps h; unfold VlS at h; cases h; rfl
      | cons r rs ih =>
        intro ps h
        unfold VlS at h
        cases r with
        | val p =>
          rw [dTup.vals] at h
          obtain ⟨qs, e, rfl⟩ := Option.map_eq_some_iff.mp h
          rw [bindA, ih e]
          rfl
        | _ => cases h
    have wn : ∀ (ps : List PV), wbk [] ps σ = σ := fun ps => by cases ps <;> rfl
    refine w_callD (s := ps.map fun p => some (Sl.frz p)) (w := []) (ln := []) (s' := s') (hb h1) rfl List.nodup_nil (by simpa using h3) (h.mono (fun _ _ z => z) fun e σ2 z => ?_)
    rw [wn]; exact z
theorem k_nx {w : List Pl} {σ2 : PSt} (h : Q (.val .non) (wbk w σ2.ln σ)) : KRet w σ Q .nx σ2 := h
theorem k_rt {w : List Pl} {r r' : EVal} {σ2 : PSt} (e : EqF (outV r σ2) (some r')) (h : Q r' (wbk w σ2.ln σ)) : KRet w σ Q (.rt r) σ2 := ⟨r', e, h⟩
theorem k_rtv {p : PV} {σ2 : PSt} (h : Q (.val p) σ) : KRet [] σ Q (.rt (.val p)) σ2 := ⟨_, rfl, by cases σ2.ln <;> exact h⟩
theorem k_rtn {p : PV} {σ2 : PSt} (h : Q (.new p) σ) : KRet [] σ Q (.rt (.new p)) σ2 := ⟨_, rfl, by cases σ2.ln <;> exact h⟩
theorem k_rto {p : PV} {l : SlL} {n : List PV} {i : Nat} (g : GetL l i (.own p)) (h : Q (.new p) σ) : KRet [] σ Q (.rt (.at i)) ⟨l, n⟩ := ⟨.new p, by unfold GetL at g; unfold outV; simp only [g], by cases n <;> exact h⟩
theorem k_nxv {σ2 : PSt} (h : Q (.val .non) σ) : KRet [] σ Q .nx σ2 := by show Q _ (wbk [] σ2.ln σ); cases σ2.ln <;> exact h
end
/-! ### statements -/
section
variable {Q : Fl → PSt → Prop} {R : XP} {σ : PSt} {d : DE} {a b : DS} {ds : DA}
def KSeq (b : DS) (Q : Fl → PSt → Prop) (R : XP) : Fl → PSt → Prop := fun f σ1 => match f with
  | .nx => WP (b σ1) Q R
  | f => Q f σ1
theorem w_seq (h : WP (a σ) (KSeq b Q R) R) : WP (dSeq a b σ) Q R := by
  with_unfolding_all exact WP.bind (h.mono fun f σ1 q => by cases f <;> exact q)
theorem k_snx (h : WP (b σ) Q R) : KSeq b Q R .nx σ := by
  with_unfolding_all exact h
theorem k_srt {r : EVal} (h : Q (.rt r) σ) : KSeq b Q R (.rt r) σ := h
theorem k_sbk (h : Q .bk σ) : KSeq b Q R .bk σ := h
theorem k_sct (h : Q .ct σ) : KSeq b Q R .ct σ := h
theorem w_set {i : Nat} (h : WP (d σ) (fun r σ1 => ∃ σ2, StS i r σ1 σ2 ∧ Q .nx σ2) R) : WP (dSet i d σ) Q R := by
  with_unfolding_all exact WP.bind (h.mono fun r σ1 ⟨σ2, e, q⟩ => by rw [show st i r σ1 = _ from e]; exact q)
theorem w_asg {g : DG} (h : WP (d σ) (fun r σ1 => ∃ p σ2, FzS r σ1 p σ2 ∧ WP (g p σ2) (fun _ σ3 => Q .nx σ3) R) R) : WP (dAsg d g σ) Q R := by
  with_unfolding_all exact WP.bind (h.mono fun r σ1 ⟨p, σ2, e, q⟩ => by rw [show fz r σ1 = _ from e]; exact WP.bind (o := g p σ2) q)
theorem w_exp (h : WP (d σ) (fun _ σ1 => Q .nx σ1) R) : WP (dExp d σ) Q R := by
  with_unfolding_all exact WP.bind h
theorem w_ret (h : WP (d σ) (fun r σ1 => Q (.rt r) σ1) R) : WP (dRet d σ) Q R := by
  with_unfolding_all exact WP.bind h
theorem w_pass (h : Q .nx σ) : WP (dPass σ) Q R := by
  with_unfolding_all exact h
theorem w_brk (h : Q .bk σ) : WP (dBrk σ) Q R := by
  with_unfolding_all exact h
theorem w_ct (h : Q .ct σ) : WP (dCt σ) Q R := by
  with_unfolding_all exact h
theorem w_retN (h : Q (.rt (.val .non)) σ) : WP (dRetN σ) Q R := by
  with_unfolding_all exact h
theorem w_ifS {t : DT} (h : WP (t σ) (fun k σ1 => Br k (WP (a σ1) Q R) (WP (b σ1) Q R)) R) : WP (dIfS t a b σ) Q R := by
  with_unfolding_all exact WP.bind (h.mono fun k σ1 q => Br.ite q)
theorem w_par {is : List Nat} (h : WP (ds σ) (fun rs σ1 => ∃ σ2, StAll is rs σ1 σ2 ∧ Q .nx σ2) R) : WP (dPar is ds σ) Q R := by
  with_unfolding_all exact WP.bind (h.mono fun rs σ1 ⟨σ2, e, q⟩ => by rw [e.ok]; exact q)
end
section
variable {Q : Unit → PSt → Prop} {R : XP} {σ : PSt}
theorem w_gN {i : Nat} {p : PV} {l l' : SlL} {n : List PV} (h : SetL l i (.frz p) l') (q : Q () ⟨l', n⟩) : WP (gN i p ⟨l, n⟩) Q R := by
  with_unfolding_all
    unfold SetL at h; unfold gN; simp only [h]; exact q
theorem w_gT {n : Nat} {g : List PV → PSt → Rs Unit} {xs : List PV} (hl : xs.length = n) (h : WP (g xs σ) Q R) : WP (gT n g (.tup xs) σ) Q R := by
  with_unfolding_all
    show WP (if xs.length = n then g xs σ else .no) Q R
    rw [if_pos hl]; exact h
theorem w_gNil (h : Q () σ) : WP (gNil [] σ) Q R := by
  with_unfolding_all exact h
theorem w_gCons {g : DG} {gs : List PV → PSt → Rs Unit} {p : PV} {ps : List PV} (h : WP (g p σ) (fun _ σ1 => WP (gs ps σ1) Q R) R) : WP (gCons g gs (p :: ps) σ) Q R := by
  with_unfolding_all exact WP.bind h
theorem w_gA0 (h : Q () σ) : WP (gAll [] [] σ) Q R := by
  with_unfolding_all exact h
theorem w_gA {i : Nat} {is : List Nat} {p : PV} {ps : List PV} {l l' : SlL} {n : List PV} (h : SetL l i (.frz p) l') (q : WP (gAll is ps ⟨l', n⟩) Q R) : WP (gAll (i :: is) (p :: ps) ⟨l, n⟩) Q R := by
  with_unfolding_all
    unfold SetL at h; rw [gAll]; simp only [h]; exact q
theorem w_gSub {do_ di : DE} {p : PV} (h : WP (do_ σ) (fun ro σ1 => WP (di σ1) (fun ri σ2 => ∃ i o q σ3, ri = .val i ∧ RdS σ2 ro o ∧ EqF (setPV o i p) (some q) ∧ WrS ro q σ2 σ3 ∧ Q () σ3) R) R) : WP (gSubP do_ di p σ) Q R := by
  with_unfolding_all exact WP.bind (h.mono fun ro σ1 h => WP.bind (h.mono fun ri σ2 ⟨i, o, q, σ3, e0, e1, e2, e3, hq⟩ => by
      subst e0
      simp only
      rw [show rd σ2 ro = _ from e1]
      simp only
      rw [show setPV o i p = _ from e2]
      simp only
      rw [show wr ro q σ2 = _ from e3]
      exact hq))
end
/-! ### walks -/
section
variable {Q : Fl → PSt → Prop} {R : XP} {σ : PSt}
theorem w_itA {d : DE} {Q : List PV → PSt → Prop} (h : WP (d σ) (fun r σ1 => ∃ p σ2 xs, FzS r σ1 p σ2 ∧ (p = .lst xs ∨ p = .tup xs ∨ ∃ vs, p = .dct xs vs) ∧ Q xs σ2) R) : WP (dItA d σ) Q R := by
  with_unfolding_all exact WP.bind (h.mono fun r σ1 ⟨p, σ2, xs, e, hp, q⟩ => by
      rw [show fz r σ1 = _ from e]
      rcases hp with rfl | rfl | ⟨vs, rfl⟩ <;> exact q)
theorem w_rng1 {ds : DA} {Q : List PV → PSt → Prop} (h : WP (ds σ) (fun rs σ1 => ∃ j, RdsS σ1 rs [.int j] ∧ rgOk j ∧ Q (rng 0 j.toNat) σ1) R) : WP (dRng1 ds σ) Q R := by
  with_unfolding_all exact WP.bind (h.mono fun rs σ1 ⟨j, e, ok, q⟩ => by
      rw [show rdAll σ1 rs = _ from e]
      show WP (if rgOk j then _ else Rs.no) Q R
      rw [if_pos ok]; exact q)
theorem w_rng2 {ds : DA} {Q : List PV → PSt → Prop} (h : WP (ds σ) (fun rs σ1 => ∃ i j, RdsS σ1 rs [.int i, .int j] ∧ (rgOk i ∧ rgOk j) ∧ Q (rng i (j - i).toNat) σ1) R) : WP (dRng2 ds σ) Q R := by
  with_unfolding_all exact WP.bind (h.mono fun rs σ1 ⟨i, j, e, ok, q⟩ => by
      rw [show rdAll σ1 rs = _ from e]
      show WP (if rgOk i ∧ rgOk j then _ else Rs.no) Q R
      rw [if_pos ok]; exact q)
theorem w_enum {ds : DA} {Q : List PV → PSt → Prop} (h : WP (ds σ) (fun rs σ1 => ∃ xs, VlS rs [.lst xs] ∧ Q (enumL xs) σ1) R) : WP (dEnum ds σ) Q R := by
  with_unfolding_all exact WP.bind (h.mono fun rs σ1 ⟨xs, e, q⟩ => by rw [show dTup.vals rs = _ from e]; exact q)
theorem w_zip {ds : DA} {Q : List PV → PSt → Prop} (h : WP (ds σ) (fun rs σ1 => ∃ xs ys, VlS rs [.lst xs, .lst ys] ∧ Q (zipL xs ys) σ1) R) : WP (dZip ds σ) Q R := by
  with_unfolding_all exact WP.bind (h.mono fun rs σ1 ⟨xs, ys, e, q⟩ => by rw [show dTup.vals rs = _ from e]; exact q)
/-- behind a loop's body -/
def KBody (N : PSt → Prop) (Q : Fl → PSt → Prop) : Fl → PSt → Prop := fun f σ => match f with
  | .nx => N σ
  | .ct => N σ
  | .bk => Q .nx σ
  | .rt r => Q (.rt r) σ
theorem k_bnx {N : PSt → Prop} (h : N σ) : KBody N Q .nx σ := h
theorem k_bct {N : PSt → Prop} (h : N σ) : KBody N Q .ct σ := h
theorem k_bbk {N : PSt → Prop} (h : Q .nx σ) : KBody N Q .bk σ := h
theorem k_brt {N : PSt → Prop} {r : EVal} (h : Q (.rt r) σ) : KBody N Q (.rt r) σ := h
theorem lp_for {g : DG} {b : DS} (I : Nat → PSt → Prop) {xs : List PV} (step : ∀ i x σ, xs[i]? = some x → I i σ → WP (g x σ) (fun _ σ1 => WP (b σ1) (KBody (I (i + 1)) Q) R) R) (fin : ∀ σ, I xs.length σ → Q .nx σ) (h0 : I 0 σ) : WP (lpFor g b xs σ) Q R := by
  with_unfolding_all
    have main : ∀ (n : Nat) (σ : PSt), n ≤ xs.length → I (xs.length - n) σ → WP (lpFor g b (xs.drop (xs.length - n)) σ) Q R := by
      intro n
      induction n with
      | zero => intro σ _ h; rw [Nat.sub_zero, List.drop_length]; exact fin σ (by simpa using h)
      | succ n ih =>
        intro σ hn h
        have hi : xs.length - (n + 1) < xs.length := by omega
        rw [List.drop_eq_getElem_cons hi, lpFor]
        refine WP.bind ((step _ _ σ (List.getElem?_eq_getElem hi) h).mono fun _ σ1 q => WP.bind (q.mono fun f σ2 q => ?_))
        have e : xs.length - (n + 1) + 1 = xs.length - n := by omega
        rw [e] at q ⊢
        cases f with
        | nx => exact ih σ2 (by omega) q
        | ct => exact ih σ2 (by omega) q
        | bk => exact q
        | rt r => exact q
    have := main xs.length σ (Nat.le_refl _) (by simpa using h0)
    simpa using this
theorem w_for {di : DI} {g : DG} {b : DS} (h : WP (di σ) (fun xs σ1 => WP (lpFor g b xs σ1) Q R) R) : WP (dFor di g b σ) Q R := by
  with_unfolding_all exact WP.bind h
/-- a while: a measure that falls -/
theorem lp_wh {t : DT} {b : DS} (I : PSt → Prop) (m : PSt → Nat) (step : ∀ σ, I σ → WP (t σ) (fun k σ1 => Br k (WP (b σ1) (KBody (fun σ2 => I σ2 ∧ m σ2 < m σ) Q) R) (Q .nx σ1)) R) : ∀ (n : Nat) (σ : PSt), I σ → m σ < n → WP (lpWh t b n σ) Q R := by
  with_unfolding_all
    intro n
    induction n with
    | zero => intro σ _ h; omega
    | succ n ih =>
      intro σ h hm
      rw [lpWh]
      refine WP.bind ((step σ h).mono fun k σ1 q => Br.ite ⟨fun e => WP.bind ((q.1 e).mono fun f σ2 q => ?_), fun e => q.2 e⟩)
      cases f with
      | nx => exact ih σ2 q.1 (by have := q.2; omega)
      | ct => exact ih σ2 q.1 (by have := q.2; omega)
      | bk => exact q
      | rt r => exact q
theorem w_wh {t : DT} {b : DS} (h : WP (lpWh t b wN σ) Q R) : WP (dWh t b σ) Q R := by
  with_unfolding_all exact h
/-- a comprehension: J says what is gathered -/
theorem WP.nox {α : Type} {o : Rs α} {Q : α → PSt → Prop} (h : WP o Q noX) : WP (L2.Zz.nox o) Q R := by
  with_unfolding_all
    cases o with
    | ok a s => exact h
    | ex e s => exact h.elim
    | no => exact h
theorem lp_lc {vs : List Nat} {g : DG} {tt : DT} {te : DE} {Q : List PV → PSt → Prop} (J : Nat → List PV → PSt → Prop) {xs : List PV}
    (step : ∀ i x acc σ, xs[i]? = some x → J i acc σ → WP (g x σ) (fun _ σ1 => WP (tt σ1) (fun k σ2 => Br k (WP (te σ2) (fun r σ3 => ∃ p, r = .val p ∧ acc.length < szL ∧ J (i + 1) (acc ++ [p]) ⟨wipeP σ3.sl vs, σ3.ln⟩) noX) (J (i + 1) acc ⟨wipeP σ2.sl vs, σ2.ln⟩)) noX) noX)
    (fin : ∀ acc σ, J xs.length acc σ → Q acc σ) (h0 : J 0 [] σ) : WP (lpLc vs g tt te xs [] σ) Q R := by
  with_unfolding_all
    have main : ∀ (n : Nat) (acc : List PV) (σ : PSt), n ≤ xs.length → J (xs.length - n) acc σ → WP (lpLc vs g tt te (xs.drop (xs.length - n)) acc σ) Q R := by
      intro n
      induction n with
      | zero => intro acc σ _ h; rw [Nat.sub_zero, List.drop_length]; exact fin acc σ (by simpa using h)
      | succ n ih =>
        intro acc σ hn h
        have hi : xs.length - (n + 1) < xs.length := by omega
        have e : xs.length - (n + 1) + 1 = xs.length - n := by omega
        rw [List.drop_eq_getElem_cons hi, lpLc]
        refine WP.bind (WP.nox ((step _ _ acc σ (List.getElem?_eq_getElem hi) h).mono fun _ σ1 q => WP.bind (WP.nox (q.mono fun k σ2 q => ?_)) ) |>.mono (fun _ _ z => z))
        rw [e] at q ⊢
        refine Br.ite ⟨fun ek => WP.bind (WP.nox ((q.1 ek).mono fun r σ3 ⟨p, er, hl, hj⟩ => ?_)), fun ek => ih acc _ (by omega) (q.2 ek)⟩
        subst er
        show WP (if acc.length < szL then _ else Rs.no) Q R
        rw [if_pos hl]
        exact ih _ _ (by omega) hj
    have := main xs.length [] σ (Nat.le_refl _) (by simpa using h0)
    simpa using this
theorem w_lc {vs : List Nat} {di : DI} {g : DG} {tt : DT} {te : DE} {Q : EVal → PSt → Prop} (h : WP (di σ) (fun xs σ1 => WP (lpLc vs g tt te xs [] ⟨wipeP σ1.sl vs, σ1.ln⟩) (fun acc σ2 => Q (.new (.lst acc)) σ2) R) R) : WP (dLc vs di g tt te σ) Q R := by
  with_unfolding_all exact WP.bind (h.mono fun xs σ1 q => WP.bind q)
theorem w_yes {Q : Bool → PSt → Prop} (h : Q true σ) : WP (dYes σ) Q R := by
  with_unfolding_all exact h
end
/-! ### operations on whole numbers, bools -/
theorem mulOk_l {i j : Int} (h : -(2 ^ 64) < i) (h' : i < 2 ^ 64) : mulOk i j := .inl (.inl ⟨h, h'⟩)
theorem mulOk_r {i j : Int} (h : -(2 ^ 64) < j) (h' : j < 2 ^ 64) : mulOk i j := .inl (.inr ⟨h, h'⟩)
theorem f_mul {i j : Int} (h : mulOk i j) : EqF (pvMul (.int i) (.int j)) (some (.v (.int (i * j)))) := by
  unfold EqF pvMul; simp only [if_pos h]
theorem f_fdiv {i j : Int} (h : divOk j) : EqF (pvFdiv (.int i) (.int j)) (some (.v (.int (i.fdiv j)))) := by
  unfold EqF pvFdiv; simp only [if_pos h]
theorem f_mod {i j : Int} (h : j ≠ 0) : EqF (pvMod (.int i) (.int j)) (some (.v (.int (i.fmod j)))) := by
  unfold EqF pvMod; simp only [if_pos h]
theorem f_pow {i j : Int} (h : powOk i j) : EqF (pvPow (.int i) (.int j)) (some (.v (.int (i ^ j.toNat)))) := by
  unfold EqF pvPow; simp only [if_pos h]
theorem divOk_of {j : Int} (h : 0 < j) (h' : j < 2 ^ 64) : divOk j := by
  refine ⟨by omega, ?_⟩
  have : j.natAbs < 2 ^ 64 := by omega
  have h3 : j.natAbs ≠ 0 := by omega
  have := (Nat.log2_lt h3).mpr this
  omega
theorem eqI {i j : Int} : pvEq (.int i) (.int j) = some (decide (i = j)) := by
  have h : SeqAt.shaped (.int i) = true ∧ SeqAt.shaped (.int j) = true := ⟨rfl, rfl⟩
  unfold pvEq
  simp only [toD, if_pos h]
  congr 1
theorem eqB {i j : Bool} : pvEq (.bl i) (.bl j) = some (decide (i = j)) := by
  have h : SeqAt.shaped (.bool i) = true ∧ SeqAt.shaped (.bool j) = true := ⟨rfl, rfl⟩
  unfold pvEq
  simp only [toD, if_pos h]
  cases i <;> cases j <;> rfl
end L2.Zz

/-! Z17: the same rules in steps that a machine can take. -/
namespace L2.Zz
open PySem PySem.Spec PyProof.Rows
inductive OtE : Ot → EVal → Prop
  | v {p} : OtE (.v p) (.val p)
  | l {xs} : OtE (.l xs) (.new (.lst xs))
  | t {xs} : OtE (.t xs) (.val (.tup xs))
theorem OtE.eq {o : Ot} {r : EVal} (h : OtE o r) : o.ev = r := by cases h <;> rfl
section
variable {Q : EVal → PSt → Prop} {R : XP} {σ σ2 σ3 : PSt} {da db dc d : DE} {ds dk : DA} {r ra rb rc : EVal} {rs zs : List EVal} {p a b c : PV} {o o' : Ot} {ps qs as : List PV}
def KFz (Q : EVal → PSt → Prop) : EVal → PSt → Prop := fun r σ1 => ∃ p σ2, FzS r σ1 p σ2 ∧ Q (.val p) σ2
theorem k_fz (h : FzS r σ p σ2) (q : Q (.val p) σ2) : KFz Q r σ := ⟨_, _, h, q⟩
theorem v_fz (h : WP (d σ) (KFz Q) R) : WP (dFz d σ) Q R := by
  with_unfolding_all exact w_fz h
def K1 (f : PV → Option Ot) (Q : EVal → PSt → Prop) : EVal → PSt → Prop := fun ra σ1 => ∃ a o, RdS σ1 ra a ∧ EqF (f a) (some o) ∧ Q o.ev σ1
theorem k_1 {f : PV → Option Ot} (h : RdS σ ra a) (e : EqF (f a) (some o)) (oe : OtE o r) (q : Q r σ) : K1 f Q ra σ := ⟨_, _, h, e, by rw [oe.eq]; exact q⟩
theorem v_op1 {f : PV → Option Ot} (h : WP (da σ) (K1 f Q) R) : WP (dOp1 f da σ) Q R := by
  with_unfolding_all exact w_op1 h
def K2 (f : PV → PV → Option Ot) (ra : EVal) (Q : EVal → PSt → Prop) : EVal → PSt → Prop := fun rb σ2 => ∃ a b o, RdS σ2 ra a ∧ RdS σ2 rb b ∧ EqF (f a b) (some o) ∧ Q o.ev σ2
theorem k_2 {f : PV → PV → Option Ot} (h1 : RdS σ ra a) (h2 : RdS σ rb b) (e : EqF (f a b) (some o)) (oe : OtE o r) (q : Q r σ) : K2 f ra Q rb σ := ⟨_, _, _, h1, h2, e, by rw [oe.eq]; exact q⟩
theorem v_op2 {f : PV → PV → Option Ot} (h : WP (da σ) (fun ra σ1 => WP (db σ1) (K2 f ra Q) R) R) : WP (dOp2 f da db σ) Q R := by
  with_unfolding_all exact w_op2 h
def KCb (f : List PV → Option Ot) (Q : EVal → PSt → Prop) : List EVal → PSt → Prop := fun rs σ1 => ∃ ps o, RdsS σ1 rs ps ∧ EqF (f ps) (some o) ∧ Q o.ev σ1
theorem k_cb {f : List PV → Option Ot} (h : RdsS σ rs ps) (e : EqF (f ps) (some o)) (oe : OtE o r) (q : Q r σ) : KCb f Q rs σ := ⟨_, _, h, e, by rw [oe.eq]; exact q⟩
theorem v_cb {f : List PV → Option Ot} (h : WP (ds σ) (KCb f Q) R) : WP (dCB f ds σ) Q R := by
  with_unfolding_all exact w_cb h
def KTp (Q : EVal → PSt → Prop) : List EVal → PSt → Prop := fun rs σ1 => ∃ ps, VlS rs ps ∧ EqF (some (decide (ps.length ≤ szL))) (some true) ∧ Q (.val (.tup ps)) σ1
theorem k_tp (h : VlS rs ps) (e : EqF (some (decide (ps.length ≤ szL))) (some true)) (q : Q (.val (.tup ps)) σ) : KTp Q rs σ := ⟨_, h, e, q⟩
theorem v_tup (h : WP (ds σ) (KTp Q) R) : WP (dTup ds σ) Q R := by
  with_unfolding_all exact w_tup h
def KLs (Q : EVal → PSt → Prop) : List EVal → PSt → Prop := fun rs σ1 => ∃ ps, VlS rs ps ∧ EqF (some (decide (ps.length ≤ szL))) (some true) ∧ Q (.new (.lst ps)) σ1
theorem k_ls (h : VlS rs ps) (e : EqF (some (decide (ps.length ≤ szL))) (some true)) (q : Q (.new (.lst ps)) σ) : KLs Q rs σ := ⟨_, h, e, q⟩
theorem v_lst (h : WP (ds σ) (KLs Q) R) : WP (dLst ds σ) Q R := by
  with_unfolding_all exact w_lst h
def KSo (Q : Option Int → PSt → Prop) : EVal → PSt → Prop := fun r σ1 => ∃ i, RdS σ1 r (.int i) ∧ Q (some i) σ1
theorem k_so {Q : Option Int → PSt → Prop} {i : Int} (h : RdS σ r (.int i)) (q : Q (some i) σ) : KSo Q r σ := ⟨_, h, q⟩
theorem v_so {Q : Option Int → PSt → Prop} (h : WP (d σ) (KSo Q) R) : WP (dSo d σ) Q R := by
  with_unfolding_all exact w_so h
def KSl (r : EVal) (l u : Option Int) (Q : EVal → PSt → Prop) (σ3 : PSt) : Prop := ∃ p o, RdS σ3 r p ∧ EqF (pvSl l u p) (some o) ∧ Q o.ev σ3
theorem k_sl {l u : Option Int} (h : RdS σ r p) (e : EqF (pvSl l u p) (some o)) (oe : OtE o rb) (q : Q rb σ) : KSl r l u Q σ := ⟨_, _, h, e, by rw [oe.eq]; exact q⟩
theorem v_sl {lo hi : DO} (h : WP (d σ) (fun r σ1 => WP (lo σ1) (fun l σ2 => WP (hi σ2) (fun u σ3 => KSl r l u Q σ3) R) R) R) : WP (dSl d lo hi σ) Q R := by
  with_unfolding_all exact w_sl h
def KB (Q : Bool → PSt → Prop) : EVal → PSt → Prop := fun r σ1 => ∃ b, RdS σ1 r (.bl b) ∧ Q b σ1
theorem k_B {Q : Bool → PSt → Prop} {t : Bool} (h : RdS σ r (.bl t)) (q : Q t σ) : KB Q r σ := ⟨_, h, q⟩
theorem v_B {Q : Bool → PSt → Prop} (h : WP (d σ) (KB Q) R) : WP (dB d σ) Q R := by
  with_unfolding_all exact w_B h
theorem v_andV (h : WP (da σ) (KB fun b σ1 => Br b (WP (db σ1) Q R) (Q (.val (.bl false)) σ1)) R) : WP (dAndV da db σ) Q R := by
  with_unfolding_all exact w_andV h
theorem v_orV (h : WP (da σ) (KB fun b σ1 => Br b (Q (.val (.bl true)) σ1) (WP (db σ1) Q R)) R) : WP (dOrV da db σ) Q R := by
  with_unfolding_all exact w_orV h
theorem v_notV (h : WP (da σ) (KB fun b σ1 => Q (.val (.bl !b)) σ1) R) : WP (dNotV da σ) Q R := by
  with_unfolding_all exact w_notV h
def KCh (f f' : PV → PV → Option Ot) (ra : EVal) (dc : DE) (Q : EVal → PSt → Prop) (R : XP) : EVal → PSt → Prop := fun rb σ2 => ∃ a b t, RdS σ2 ra a ∧ RdS σ2 rb b ∧ EqF (f a b) (some (.v (.bl t))) ∧ Br t (WP (dc σ2) (K2 f' rb Q) R) (Q (.val (.bl false)) σ2)
theorem k_ch {f f' : PV → PV → Option Ot} {t : Bool} (h1 : RdS σ ra a) (h2 : RdS σ rb b) (e : EqF (f a b) (some (.v (.bl t)))) (q : Br t (WP (dc σ) (K2 f' rb Q) R) (Q (.val (.bl false)) σ)) : KCh f f' ra dc Q R rb σ := by
  with_unfolding_all exact ⟨_, _, _, h1, h2, e, q⟩
theorem v_ch {f f' : PV → PV → Option Ot} (h : WP (da σ) (fun ra σ1 => WP (db σ1) (KCh f f' ra dc Q R) R) R) : WP (dCh f f' da db dc σ) Q R := by
  with_unfolding_all exact w_ch h
def KMt (f : Mf) (r : EVal) (Q : EVal → PSt → Prop) : List EVal → PSt → Prop := fun rs σ2 => ∃ p ps o q σ3, RdS σ2 r p ∧ VlS rs ps ∧ EqF (f p ps) (some (o, q)) ∧ WrS r q σ2 σ3 ∧ Q o.ev σ3
theorem k_mt {f : Mf} (h : RdS σ r p) (v : VlS rs ps) (e : EqF (f p ps) (some (o, a))) (w : WrS r a σ σ3) (oe : OtE o rb) (q : Q rb σ3) : KMt f r Q rs σ := ⟨_, _, _, _, _, h, v, e, w, by rw [oe.eq]; exact q⟩
def KM0 (f : Mf) (ds : DA) (Q : EVal → PSt → Prop) (R : XP) : EVal → PSt → Prop := fun r σ1 => ∃ xs0, RdS σ1 r (.lst xs0) ∧ WP (ds σ1) (KMt f r Q) R
theorem k_m0 {f : Mf} {xs : List PV} (h : RdS σ r (.lst xs)) (q : WP (ds σ) (KMt f r Q) R) : KM0 f ds Q R r σ := by
  with_unfolding_all exact ⟨_, h, q⟩
theorem v_mut {f : Mf} (h : WP (d σ) (KM0 f ds Q R) R) : WP (dMutL f d ds σ) Q R := by
  with_unfolding_all exact w_mut h
theorem CallKA.mk {n np : Nat} {is : List Nat} {body : DS} (v : VlS rs ps) (w : VlS zs qs) (e : EqF (some (pick is (ps ++ qs))) (some as)) (h1 : EqF (some (decide (as.length = np ∧ ∀ i ∈ is, i < (ps ++ qs).length))) (some true)) (q : WP (callD n body (as.map .val) σ) Q R) : CallKA n np is body rs zs σ Q R := by
  with_unfolding_all
    have h : as.length = np ∧ ∀ i ∈ is, i < (ps ++ qs).length := of_decide_eq_true (Option.some.inj h1)
    exact ⟨_, _, _, v, w, e, h.1, h.2, q⟩
theorem EqF.dec {p : Prop} [Decidable p] (h : p) : EqF (some (decide p)) (some true) := by unfold EqF; rw [decide_eq_true h]
end
section
variable {Q : Fl → PSt → Prop} {R : XP} {σ σ2 : PSt} {d : DE} {a b : DS} {ds : DA} {r : EVal} {rs : List EVal} {p : PV}
def KSt (i : Nat) (Q : Fl → PSt → Prop) : EVal → PSt → Prop := fun r σ1 => ∃ σ2, StS i r σ1 σ2 ∧ Q .nx σ2
theorem k_st {i : Nat} (h : StS i r σ σ2) (q : Q .nx σ2) : KSt i Q r σ := ⟨_, h, q⟩
theorem v_set {i : Nat} (h : WP (d σ) (KSt i Q) R) : WP (dSet i d σ) Q R := by
  with_unfolding_all exact w_set h
def KAs (g : DG) (Q : Fl → PSt → Prop) (R : XP) : EVal → PSt → Prop := fun r σ1 => ∃ p σ2, FzS r σ1 p σ2 ∧ WP (g p σ2) (fun _ σ3 => Q .nx σ3) R
theorem k_as {g : DG} (h : FzS r σ p σ2) (q : WP (g p σ2) (fun _ σ3 => Q .nx σ3) R) : KAs g Q R r σ := by
  with_unfolding_all exact ⟨_, _, h, q⟩
theorem v_asg {g : DG} (h : WP (d σ) (KAs g Q R) R) : WP (dAsg d g σ) Q R := by
  with_unfolding_all exact w_asg h
def KPa (is : List Nat) (Q : Fl → PSt → Prop) : List EVal → PSt → Prop := fun rs σ1 => ∃ σ2, StAll is rs σ1 σ2 ∧ Q .nx σ2
theorem k_pa {is : List Nat} (h : StAll is rs σ σ2) (q : Q .nx σ2) : KPa is Q rs σ := ⟨_, h, q⟩
theorem v_par {is : List Nat} (h : WP (ds σ) (KPa is Q) R) : WP (dPar is ds σ) Q R := by
  with_unfolding_all exact w_par h
end
section
variable {Q : Unit → PSt → Prop} {R : XP} {σ σ3 : PSt} {ro : EVal} {i o p q : PV}
def KSu (ro : EVal) (p : PV) (Q : Unit → PSt → Prop) : EVal → PSt → Prop := fun ri σ2 => ∃ i o q σ3, ri = .val i ∧ RdS σ2 ro o ∧ EqF (setPV o i p) (some q) ∧ WrS ro q σ2 σ3 ∧ Q () σ3
theorem k_su (h : RdS σ ro o) (e : EqF (setPV o i p) (some q)) (w : WrS ro q σ σ3) (hq : Q () σ3) : KSu ro p Q (.val i) σ := ⟨_, _, _, _, rfl, h, e, w, hq⟩
theorem v_gSub {do_ di : DE} (h : WP (do_ σ) (fun ro σ1 => WP (di σ1) (KSu ro p Q) R) R) : WP (gSubP do_ di p σ) Q R := by
  with_unfolding_all exact w_gSub h
end
section
variable {Q : List PV → PSt → Prop} {R : XP} {σ σ2 : PSt} {r : EVal} {rs : List EVal} {xs ys vs : List PV} {d : DE} {ds : DA}
def KIt (Q : List PV → PSt → Prop) : EVal → PSt → Prop := fun r σ1 => ∃ p σ2 xs, FzS r σ1 p σ2 ∧ (p = .lst xs ∨ p = .tup xs ∨ ∃ vs, p = .dct xs vs) ∧ Q xs σ2
theorem k_itl (h : FzS r σ (.lst xs) σ2) (q : Q xs σ2) : KIt Q r σ := ⟨_, _, _, h, .inl rfl, q⟩
theorem k_itt (h : FzS r σ (.tup xs) σ2) (q : Q xs σ2) : KIt Q r σ := ⟨_, _, _, h, .inr (.inl rfl), q⟩
theorem k_itd (h : FzS r σ (.dct xs vs) σ2) (q : Q xs σ2) : KIt Q r σ := ⟨_, _, _, h, .inr (.inr ⟨_, rfl⟩), q⟩
theorem v_it (h : WP (d σ) (KIt Q) R) : WP (dItA d σ) Q R := by
  with_unfolding_all exact w_itA h
def KR1 (Q : List PV → PSt → Prop) : List EVal → PSt → Prop := fun rs σ1 => ∃ j, RdsS σ1 rs [.int j] ∧ rgOk j ∧ Q (rng 0 j.toNat) σ1
theorem k_r1 {j : Int} (h : RdsS σ rs [.int j]) (ok : EqF (some (decide (rgOk j))) (some true)) (q : Q (rng 0 j.toNat) σ) : KR1 Q rs σ := ⟨_, h, of_decide_eq_true (Option.some.inj ok), q⟩
theorem v_rng1 (h : WP (ds σ) (KR1 Q) R) : WP (dRng1 ds σ) Q R := by
  with_unfolding_all exact w_rng1 h
def KR2 (Q : List PV → PSt → Prop) : List EVal → PSt → Prop := fun rs σ1 => ∃ i j, RdsS σ1 rs [.int i, .int j] ∧ (rgOk i ∧ rgOk j) ∧ Q (rng i (j - i).toNat) σ1
theorem k_r2 {i j : Int} (h : RdsS σ rs [.int i, .int j]) (ok : EqF (some (decide (rgOk i ∧ rgOk j))) (some true)) (q : Q (rng i (j - i).toNat) σ) : KR2 Q rs σ := ⟨_, _, h, of_decide_eq_true (Option.some.inj ok), q⟩
theorem v_rng2 (h : WP (ds σ) (KR2 Q) R) : WP (dRng2 ds σ) Q R := by
  with_unfolding_all exact w_rng2 h
def KEn (Q : List PV → PSt → Prop) : List EVal → PSt → Prop := fun rs σ1 => ∃ xs, VlS rs [.lst xs] ∧ Q (enumL xs) σ1
theorem k_en (h : VlS rs [.lst xs]) (q : Q (enumL xs) σ) : KEn Q rs σ := ⟨_, h, q⟩
theorem v_enum (h : WP (ds σ) (KEn Q) R) : WP (dEnum ds σ) Q R := by
  with_unfolding_all exact w_enum h
def KZp (Q : List PV → PSt → Prop) : List EVal → PSt → Prop := fun rs σ1 => ∃ xs ys, VlS rs [.lst xs, .lst ys] ∧ Q (zipL xs ys) σ1
theorem k_zp (h : VlS rs [.lst xs, .lst ys]) (q : Q (zipL xs ys) σ) : KZp Q rs σ := ⟨_, _, h, q⟩
theorem v_zip (h : WP (ds σ) (KZp Q) R) : WP (dZip ds σ) Q R := by
  with_unfolding_all exact w_zip h
end
/-! values of operations in the common cases -/
theorem f_eqI {i j : Int} : EqF (pvEqO (.int i) (.int j)) (some (.v (.bl (decide (i = j))))) := by unfold EqF pvEqO; rw [eqI]; rfl
theorem f_neI {i j : Int} : EqF (pvNeO (.int i) (.int j)) (some (.v (.bl (!decide (i = j))))) := by unfold EqF pvNeO; rw [eqI]; rfl
theorem f_eqB {i j : Bool} : EqF (pvEqO (.bl i) (.bl j)) (some (.v (.bl (decide (i = j))))) := by unfold EqF pvEqO; rw [eqB]; rfl
theorem f_neB {i j : Bool} : EqF (pvNeO (.bl i) (.bl j)) (some (.v (.bl (!decide (i = j))))) := by unfold EqF pvNeO; rw [eqB]; rfl
theorem eqS {a b c d : Int} : pvEq (.tup [.int a, .int b]) (.tup [.int c, .int d]) = some (decide (a = c ∧ b = d)) := by
  have h : SeqAt.shaped (.tuple [.int a, .int b]) = true ∧ SeqAt.shaped (.tuple [.int c, .int d]) = true := ⟨rfl, rfl⟩
  unfold pvEq
  simp only [toD, toDs, Option.map_some, if_pos h]
  congr 1
  simp only [PyData.eqv, PyData.eqvAll, Bool.and_true, Bool.decide_and]
  rfl
theorem f_eqS {a b c d : Int} : EqF (pvEqO (.tup [.int a, .int b]) (.tup [.int c, .int d])) (some (.v (.bl (decide (a = c ∧ b = d))))) := by unfold EqF pvEqO; rw [eqS]; rfl
theorem f_neS {a b c d : Int} : EqF (pvNeO (.tup [.int a, .int b]) (.tup [.int c, .int d])) (some (.v (.bl (!decide (a = c ∧ b = d))))) := by unfold EqF pvNeO; rw [eqS]; rfl
theorem f_isi {p : PV} {n : String} {t : Bool} (h : isB p n = some t) : EqF (fnIsi [p, .ty n]) (some (.v (.bl t))) := by unfold EqF fnIsi; simp only [h]; rfl
theorem f_all {xs : List PV} {bs : List Bool} (h : asBls xs = some bs) : EqF (fnAll [.lst xs]) (some (.v (.bl (bs.all id)))) := by unfold EqF fnAll; simp only [h]; rfl
end L2.Zz

/-! Z18: entering and leaving a def. -/
namespace L2.Zz
open PySem PySem.Spec PyProof.Rows
inductive PadL : Nat → SlL → Prop
  | z : PadL 0 []
  | s {n l} : PadL n l → PadL (n + 1) (none :: l)
theorem PadL.eq {n : Nat} {l : SlL} (h : PadL n l) : List.replicate n none = l := by
  induction h with
  | z => rfl
  | s _ ih => rw [List.replicate_succ, ih]
inductive CallI (σ : PSt) : List EVal → Nat → Nat → SlL → List Pl → List PV → Prop
  | z {k n l} : PadL n l → CallI σ [] k n l [] []
  | v {p rs k n l w ln} : CallI σ rs k n l w ln → CallI σ (.val p :: rs) k (n + 1) (some (.frz p) :: l) w ln
  | n {p rs k n l w ln} : CallI σ rs k n l w ln → CallI σ (.new p :: rs) k (n + 1) (some (.own p) :: l) w ln
  | a {i p rs k n l w ln} : GetL σ.sl i (.own p) → CallI σ rs (k + 1) n l w ln → CallI σ (.at i :: rs) k (n + 1) (some (.lo k) :: l) ((true, i) :: w) (p :: ln)
  | l {j p rs k n l w ln} : GetP σ.ln j p → CallI σ rs (k + 1) n l w ln → CallI σ (.lo j :: rs) k (n + 1) (some (.lo k) :: l) ((false, j) :: w) (p :: ln)
theorem CallI.eq {σ : PSt} {rs : List EVal} {k n : Nat} {l : SlL} {w : List Pl} {ln : List PV} (h : CallI σ rs k n l w ln) : ∃ s, bindA rs k = some (s, w) ∧ s.length ≤ n ∧ s ++ List.replicate (n - s.length) none = l ∧ conA σ w = some ln := by
  induction h with
  | z h => exact ⟨[], rfl, Nat.zero_le _, by simpa using h.eq, rfl⟩
  | v _ ih =>
    obtain ⟨s, h1, h2, h3, h4⟩ := ih
    refine ⟨some (.frz _) :: s, by rw [bindA, h1]; rfl, by simp; omega, ?_, h4⟩
    rw [List.length_cons, Nat.add_sub_add_right, List.cons_append, h3]
  | n _ ih =>
    obtain ⟨s, h1, h2, h3, h4⟩ := ih
    refine ⟨some (.own _) :: s, by rw [bindA, h1]; rfl, by simp; omega, ?_, h4⟩
    rw [List.length_cons, Nat.add_sub_add_right, List.cons_append, h3]
  | a g _ ih =>
    obtain ⟨s, h1, h2, h3, h4⟩ := ih
    refine ⟨some (.lo _) :: s, by rw [bindA, h1]; rfl, by simp; omega, ?_, ?_⟩
    · rw [List.length_cons, Nat.add_sub_add_right, List.cons_append, h3]
    · unfold GetL at g
      simp only [conA, con1, g, h4]
  | l g _ ih =>
    obtain ⟨s, h1, h2, h3, h4⟩ := ih
    refine ⟨some (.lo _) :: s, by rw [bindA, h1]; rfl, by simp; omega, ?_, ?_⟩
    · rw [List.length_cons, Nat.add_sub_add_right, List.cons_append, h3]
    · unfold GetP at g
      simp only [conA, con1, g, h4]
def WbS (w : List Pl) (ln : List PV) (σ σ' : PSt) : Prop := wbk w ln σ = σ'
theorem WbS.z {ln : List PV} {σ : PSt} : WbS [] ln σ σ := by cases ln <;> rfl
theorem WbS.a {i : Nat} {w : List Pl} {p : PV} {ps : List PV} {l l' : SlL} {n : List PV} {σ' : PSt} (h : SetL l i (.own p) l') (t : WbS w ps ⟨l', n⟩ σ') : WbS ((true, i) :: w) (p :: ps) ⟨l, n⟩ σ' := by
  unfold SetL at h; unfold WbS at t ⊢; rw [wbk]; simp only [h]; exact t
theorem WbS.l {i : Nat} {w : List Pl} {p : PV} {ps : List PV} {l : SlL} {n n' : List PV} {σ' : PSt} (h : SetP n i p n') (t : WbS w ps ⟨l, n'⟩ σ') : WbS ((false, i) :: w) (p :: ps) ⟨l, n⟩ σ' := by
  obtain ⟨_, h⟩ := h
  unfold WbS at t ⊢; rw [wbk]; simp only [h]; exact t
def OutS (r : EVal) (σ : PSt) (r' : EVal) : Prop := outV r σ = some r'
theorem OutS.v {σ : PSt} {p : PV} : OutS (.val p) σ (.val p) := rfl
theorem OutS.n {σ : PSt} {p : PV} : OutS (.new p) σ (.new p) := rfl
theorem OutS.o {l : SlL} {n : List PV} {i : Nat} {p : PV} (h : GetL l i (.own p)) : OutS (.at i) ⟨l, n⟩ (.new p) := by unfold GetL at h; unfold OutS outV; simp only [h]
theorem OutS.f {l : SlL} {n : List PV} {i : Nat} {p : PV} (h : GetL l i (.frz p)) : OutS (.at i) ⟨l, n⟩ (.val p) := by unfold GetL at h; unfold OutS outV; simp only [h]
section
variable {Q : EVal → PSt → Prop} {R : XP} {σ σ3 : PSt} {w : List Pl}
def NdS (w : List Pl) : Prop := w.Nodup
theorem NdS.mk {w : List Pl} (h : decide w.Nodup = true) : NdS w := (of_decide_eq_true h : w.Nodup)
theorem v_callD {n : Nat} {body : DS} {rs : List EVal} {s' : SlL} {ln : List PV} (h : CallI σ rs 0 n s' w ln) (nd : NdS w) (hb : WP (body ⟨s', ln⟩) (KRet w σ Q) (fun e σ2 => R e (wbk w σ2.ln σ))) : WP (callD n body rs σ) Q R := by
  with_unfolding_all
    obtain ⟨s, h1, h2, h3, h4⟩ := h.eq
    exact w_callD (s := s) (s' := s') h1 h4 nd (congrArg some h3) hb
theorem k_ret {r r' : EVal} {l : SlL} {ln : List PV} (e : OutS r ⟨l, ln⟩ r') (b : WbS w ln σ σ3) (h : Q r' σ3) : KRet w σ Q (.rt r) ⟨l, ln⟩ := ⟨r', e, by rw [show wbk w ln σ = _ from b]; exact h⟩
theorem k_nxt {l : SlL} {ln : List PV} (b : WbS w ln σ σ3) (h : Q (.val .non) σ3) : KRet w σ Q .nx ⟨l, ln⟩ := by show Q _ (wbk w ln σ); rw [show wbk w ln σ = _ from b]; exact h
end
end L2.Zz
namespace L2.Zz
open PySem PySem.Spec PyProof.Rows
theorem gWP {α : Type} {o : Rs α} {Q : α → PSt → Prop} {R : XP} (h : WP o Q R) : WP o Q R := by
  with_unfolding_all exact h
theorem gWE {o : Rs EVal} {Q : EVal → PSt → Prop} {R : XP} (h : WP o Q R) : WP o Q R := by
  with_unfolding_all exact h
theorem gWS {o : Rs Fl} {Q : Fl → PSt → Prop} {R : XP} (h : WP o Q R) : WP o Q R := by
  with_unfolding_all exact h
theorem gWB {o : Rs Bool} {Q : Bool → PSt → Prop} {R : XP} (h : WP o Q R) : WP o Q R := by
  with_unfolding_all exact h
theorem gEF {α : Type} {a b : Option α} (h : EqF a b) : EqF a b := h
theorem gRd {σ : PSt} {r : EVal} {p : PV} (h : RdS σ r p) : RdS σ r p := h
end L2.Zz

/-! Z19: comprehensions and walks over lists that are known. -/
namespace L2.Zz
open PySem PySem.Spec PyProof.Rows
def DelL (l : SlL) (i : Nat) (l' : SlL) : Prop := l.set i none = l'
theorem DelL.z {l : SlL} {a : Option Sl} : DelL (a :: l) 0 (none :: l) := rfl
theorem DelL.s {l l' : SlL} {a : Option Sl} {i : Nat} (h : DelL l i l') : DelL (a :: l) (i + 1) (a :: l') := by unfold DelL at h ⊢; rw [List.set_cons_succ, h]
def WpL (l : SlL) (vs : List Nat) (l' : SlL) : Prop := wipeP l vs = l'
theorem WpL.z {l : SlL} : WpL l [] l := rfl
theorem WpL.s {l l1 l' : SlL} {v : Nat} {vs : List Nat} (h : WpL l vs l1) (d : DelL l1 v l') : WpL l (v :: vs) l' := by unfold WpL at h ⊢; rw [wipeP, h]; exact d
section
variable {R : XP} {σ σ2 : PSt} {vs : List Nat} {di : DI} {g : DG} {tt : DT} {te : DE} {xs acc : List PV} {x p : PV} {l l' : SlL} {n : List PV}
def KLw (vs : List Nat) (g : DG) (tt : DT) (te : DE) (Q : List PV → PSt → Prop) (R : XP) : List PV → PSt → Prop := fun xs σ1 => WP (lpLc vs g tt te xs [] ⟨wipeP σ1.sl vs, σ1.ln⟩) Q R
theorem k_lw {Q : List PV → PSt → Prop} (w : WpL l vs l') (h : WP (lpLc vs g tt te xs [] ⟨l', n⟩) Q R) : KLw vs g tt te Q R xs ⟨l, n⟩ := by
  with_unfolding_all
    unfold WpL at w; unfold KLw; simp only [w]; exact h
theorem v_lc {Q : EVal → PSt → Prop} (h : WP (di σ) (KLw vs g tt te (fun acc σ2 => Q (.new (.lst acc)) σ2) R) R) : WP (dLc vs di g tt te σ) Q R := by
  with_unfolding_all exact w_lc h
/-- behind an element -/
def KLe (vs : List Nat) (acc : List PV) (N : List PV → PSt → Prop) : EVal → PSt → Prop := fun r σ3 => ∃ p, r = .val p ∧ acc.length < szL ∧ N (acc ++ [p]) ⟨wipeP σ3.sl vs, σ3.ln⟩
theorem k_le {N : List PV → PSt → Prop} {acc' : List PV} (hl : EqF (some (decide (acc.length < szL))) (some true)) (w : WpL l vs l') (e : EqF (some (acc ++ [p])) (some acc')) (h : N acc' ⟨l', n⟩) : KLe vs acc N (.val p) ⟨l, n⟩ := by
  have e : acc ++ [p] = acc' := Option.some.inj e
  unfold WpL at w
  refine ⟨p, rfl, of_decide_eq_true (Option.some.inj hl), ?_⟩
  simp only [w, e]; exact h
def KLn (vs : List Nat) (acc : List PV) (N : List PV → PSt → Prop) (σ2 : PSt) : Prop := N acc ⟨wipeP σ2.sl vs, σ2.ln⟩
theorem k_ln {N : List PV → PSt → Prop} (w : WpL l vs l') (h : N acc ⟨l', n⟩) : KLn vs acc N ⟨l, n⟩ := by unfold WpL at w; unfold KLn; simp only [w]; exact h
theorem w_lcN {Q : List PV → PSt → Prop} (h : Q acc σ) : WP (lpLc vs g tt te [] acc σ) Q R := by
  with_unfolding_all exact h
theorem w_lcC {Q : List PV → PSt → Prop} (h : WP (g x σ) (fun _ σ1 => WP (tt σ1) (fun k σ2 => Br k (WP (te σ2) (KLe vs acc fun a s => WP (lpLc vs g tt te xs a s) Q R) noX) (KLn vs acc (fun a s => WP (lpLc vs g tt te xs a s) Q R) σ2)) noX) noX) : WP (lpLc vs g tt te (x :: xs) acc σ) Q R := by
  with_unfolding_all
    rw [lpLc]
    refine WP.bind (WP.nox (h.mono fun _ σ1 q => WP.bind (WP.nox (q.mono fun k σ2 q => ?_))))
    refine Br.ite ⟨fun ek => WP.bind (WP.nox ((q.1 ek).mono fun r σ3 ⟨p, er, hl, hj⟩ => ?_)), fun ek => q.2 ek⟩
    subst er
    show WP (if acc.length < szL then _ else Rs.no) Q R
    rw [if_pos hl]
    exact hj
theorem v_lcJ {Q : List PV → PSt → Prop} (J : Nat → List PV → PSt → Prop)
    (h0 : J 0 [] σ) (step : ∀ i x acc σ, xs[i]? = some x → J i acc σ → WP (g x σ) (fun _ σ1 => WP (tt σ1) (fun k σ2 => Br k (WP (te σ2) (KLe vs acc (J (i + 1))) noX) (KLn vs acc (J (i + 1)) σ2)) noX) noX)
    (fin : ∀ acc σ, J xs.length acc σ → Q acc σ) : WP (lpLc vs g tt te xs [] σ) Q R := by
  with_unfolding_all exact lp_lc J step fin h0
end
section
variable {Q : Fl → PSt → Prop} {R : XP} {σ : PSt} {g : DG} {b : DS} {xs : List PV} {x : PV}
theorem w_foN (h : Q .nx σ) : WP (lpFor g b [] σ) Q R := by
  with_unfolding_all exact h
theorem w_foC (h : WP (g x σ) (fun _ σ1 => WP (b σ1) (KBody (fun s => WP (lpFor g b xs s) Q R) Q) R) R) : WP (lpFor g b (x :: xs) σ) Q R := by
  with_unfolding_all
    rw [lpFor]
    refine WP.bind (h.mono fun _ σ1 q => WP.bind (q.mono fun f σ2 q => ?_))
    cases f <;> exact q
end
end L2.Zz

/-! Z20: more steps. -/
namespace L2.Zz
open PySem PySem.Spec PyProof.Rows
inductive SeqS : PV → List PV → Prop
  | l {xs} : SeqS (.lst xs) xs
  | t {xs} : SeqS (.tup xs) xs
  | d {ks vs} : SeqS (.dct ks vs) ks
theorem k_it {Q : List PV → PSt → Prop} {r : EVal} {σ σ2 : PSt} {p : PV} {xs : List PV} (h : FzS r σ p σ2) (s : SeqS p xs) (q : Q xs σ2) : KIt Q r σ := by
  refine ⟨p, σ2, xs, h, ?_, q⟩
  cases s with
  | l => exact .inl rfl
  | t => exact .inr (.inl rfl)
  | d => exact .inr (.inr ⟨_, rfl⟩)
inductive AppL : List PV → List PV → List PV → Prop
  | z {qs} : AppL [] qs qs
  | s {p ps qs l} : AppL ps qs l → AppL (p :: ps) qs (p :: l)
theorem AppL.eq {ps qs l : List PV} (h : AppL ps qs l) : ps ++ qs = l := by
  induction h with
  | z => rfl
  | s _ ih => rw [List.cons_append, ih]
inductive PickL (l : List PV) : List Nat → List PV → Prop
  | z : PickL l [] []
  | s {i p is as} : GetP l i p → PickL l is as → PickL l (i :: is) (p :: as)
theorem PickL.eq {l as : List PV} {is : List Nat} (h : PickL l is as) : pick is l = as ∧ ∀ i ∈ is, i < l.length := by
  induction h with
  | z => exact ⟨rfl, fun i h => by cases h⟩
  | s g _ ih =>
    unfold GetP at g
    refine ⟨?_, fun i h => ?_⟩
    · have := ih.1
      unfold pick at this ⊢
      rw [List.filterMap_cons, g]
      simp only [this]
    · rcases List.mem_cons.mp h with e | h
      · subst e; exact (List.getElem?_eq_some_iff.mp g).1
      · exact ih.2 i h
inductive MapV : List PV → List EVal → Prop
  | z : MapV [] []
  | s {p ps rs} : MapV ps rs → MapV (p :: ps) (.val p :: rs)
theorem MapV.eq {ps : List PV} {rs : List EVal} (h : MapV ps rs) : ps.map EVal.val = rs := by
  induction h with
  | z => rfl
  | s _ ih => rw [List.map_cons, ih]
section
variable {Q : EVal → PSt → Prop} {R : XP} {σ : PSt} {rs zs rs' : List EVal} {ps qs l as : List PV} {n np : Nat} {is : List Nat} {body : DS}
theorem k_ca (hl : EqF (some rs.length) (some np)) (h : WP (callD n body rs σ) Q R) : CallA n np body [] rs σ Q R := by
  with_unfolding_all exact CallA.mk (Option.some.inj hl) h
theorem k_ck (v : VlS rs ps) (w : VlS zs qs) (a : AppL ps qs l) (pk : PickL l is as) (h1 : EqF (some as.length) (some np)) (m : MapV as rs') (q : WP (callD n body rs' σ) Q R) : CallKA n np is body rs zs σ Q R := by
  with_unfolding_all
    have e1 := a.eq
    obtain ⟨e2, e3⟩ := pk.eq
    subst e1
    refine ⟨ps, qs, as, v, w, congrArg some e2, Option.some.inj h1, e3, ?_⟩
    rw [m.eq]; exact q
theorem v_gU {Q : Unit → PSt → Prop} {g : List PV → PSt → Rs Unit} {xs : List PV} (hl : EqF (some xs.length) (some n)) (h : WP (g xs σ) Q R) : WP (gU n g (.tup xs) σ) Q R := by
  with_unfolding_all
    have hl : xs.length = n := Option.some.inj hl
    show WP (if xs.length = n then g xs σ else .no) Q R
    rw [if_pos hl]; exact h
theorem v_gL {Q : Unit → PSt → Prop} {g : List PV → PSt → Rs Unit} {xs : List PV} (hl : EqF (some xs.length) (some n)) (h : WP (g xs σ) Q R) : WP (gU n g (.lst xs) σ) Q R := by
  with_unfolding_all
    have hl : xs.length = n := Option.some.inj hl
    show WP (if xs.length = n then g xs σ else .no) Q R
    rw [if_pos hl]; exact h
theorem v_gT {Q : Unit → PSt → Prop} {g : List PV → PSt → Rs Unit} {xs : List PV} (hl : EqF (some xs.length) (some n)) (h : WP (g xs σ) Q R) : WP (gT n g (.tup xs) σ) Q R := by
  with_unfolding_all exact w_gT (Option.some.inj hl) h
end
end L2.Zz

/-! Z21: parts that change nothing, both ways taken at once. -/
namespace L2.Zz
open PySem PySem.Spec PyProof.Rows
def KPu (σ : PSt) (p : PV) : EVal → PSt → Prop := fun r s => r = .val p ∧ s = σ
theorem k_pu {σ : PSt} {p : PV} : KPu σ p (.val p) σ := ⟨rfl, rfl⟩
def KPb (σ : PSt) (b : Bool) : Bool → PSt → Prop := fun t s => t = b ∧ s = σ
theorem k_pb {σ : PSt} {b : Bool} : KPb σ b b σ := ⟨rfl, rfl⟩
section
variable {Q : EVal → PSt → Prop} {R : XP} {σ : PSt} {da db dc : DE} {dt du : DT} {a b : Bool} {p q : PV}
theorem v_andP (h1 : WP (da σ) (KPu σ (.bl a)) noX) (h2 : WP (db σ) (KPu σ (.bl b)) noX) (hq : Q (.val (.bl (a && b))) σ) : WP (dAndV da db σ) Q R := by
  with_unfolding_all
    refine w_andV (h1.mono (fun r s ⟨er, es⟩ => ?_) (fun _ _ z => z.elim))
    subst er es
    refine ⟨a, rfl, fun ea => ?_, fun ea => ?_⟩
    · subst ea
      refine h2.mono (fun r s ⟨er, es⟩ => ?_) (fun _ _ z => z.elim)
      subst er es
      simpa using hq
    · subst ea
      simpa using hq
theorem v_orP (h1 : WP (da σ) (KPu σ (.bl a)) noX) (h2 : WP (db σ) (KPu σ (.bl b)) noX) (hq : Q (.val (.bl (a || b))) σ) : WP (dOrV da db σ) Q R := by
  with_unfolding_all
    refine w_orV (h1.mono (fun r s ⟨er, es⟩ => ?_) (fun _ _ z => z.elim))
    subst er es
    refine ⟨a, rfl, fun ea => ?_, fun ea => ?_⟩
    · subst ea
      simpa using hq
    · subst ea
      refine h2.mono (fun r s ⟨er, es⟩ => ?_) (fun _ _ z => z.elim)
      subst er es
      simpa using hq
theorem v_chP {f f' : PV → PV → Option Ot} {x y z : PV} (h1 : WP (da σ) (KPu σ x) noX) (h2 : WP (db σ) (KPu σ y) noX) (h3 : WP (dc σ) (KPu σ z) noX) (e1 : EqF (f x y) (some (.v (.bl a)))) (e2 : EqF (f' y z) (some (.v (.bl b)))) (hq : Q (.val (.bl (a && b))) σ) : WP (dCh f f' da db dc σ) Q R := by
  with_unfolding_all
    refine w_ch (h1.mono (fun r s ⟨er, es⟩ => ?_) (fun _ _ z => z.elim))
    subst er es
    refine h2.mono (fun r s ⟨er, es⟩ => ?_) (fun _ _ z => z.elim)
    subst er es
    refine ⟨x, y, a, rfl, rfl, e1, fun ea => ?_, fun ea => ?_⟩
    · subst ea
      refine h3.mono (fun r s ⟨er, es⟩ => ?_) (fun _ _ z => z.elim)
      subst er es
      exact ⟨y, z, _, rfl, rfl, e2, by simpa [Ot.ev] using hq⟩
    · subst ea
      simpa using hq
theorem v_ifP {c : Bool} {x y : PV} (h1 : WP (dt σ) (KPb σ c) noX) (h2 : WP (da σ) (KPu σ x) noX) (h3 : WP (db σ) (KPu σ y) noX) (hq : Q (.val (if c = true then x else y)) σ) : WP (dIf dt da db σ) Q R := by
  with_unfolding_all
    refine w_if (h1.mono (fun r s ⟨er, es⟩ => ?_) (fun _ _ z => z.elim))
    subst er es
    refine ⟨fun ea => ?_, fun ea => ?_⟩
    · subst ea
      refine h2.mono (fun r s ⟨er, es⟩ => ?_) (fun _ _ z => z.elim)
      subst er es
      simpa using hq
    · subst ea
      refine h3.mono (fun r s ⟨er, es⟩ => ?_) (fun _ _ z => z.elim)
      subst er es
      simpa using hq
variable {Q : Bool → PSt → Prop}
theorem v_andB (h1 : WP (dt σ) (KPb σ a) noX) (h2 : WP (du σ) (KPb σ b) noX) (hq : Q (a && b) σ) : WP (dAnd dt du σ) Q R := by
  with_unfolding_all
    refine w_and (h1.mono (fun r s ⟨er, es⟩ => ?_) (fun _ _ z => z.elim))
    subst er es
    refine ⟨fun ea => ?_, fun ea => ?_⟩
    · subst ea
      refine h2.mono (fun r s ⟨er, es⟩ => ?_) (fun _ _ z => z.elim)
      subst er es
      simpa using hq
    · subst ea
      simpa using hq
theorem v_orB (h1 : WP (dt σ) (KPb σ a) noX) (h2 : WP (du σ) (KPb σ b) noX) (hq : Q (a || b) σ) : WP (dOr dt du σ) Q R := by
  with_unfolding_all
    refine w_or (h1.mono (fun r s ⟨er, es⟩ => ?_) (fun _ _ z => z.elim))
    subst er es
    refine ⟨fun ea => ?_, fun ea => ?_⟩
    · subst ea
      simpa using hq
    · subst ea
      refine h2.mono (fun r s ⟨er, es⟩ => ?_) (fun _ _ z => z.elim)
      subst er es
      simpa using hq
end
end L2.Zz
namespace L2.Zz
open PySem PySem.Spec PyProof.Rows
theorem Br.nt {A B : Prop} (h : B) : Br (!true) A B := .f h
theorem Br.nf {A B : Prop} (h : A) : Br (!false) A B := .t h
theorem Br.dT {p : Prop} [Decidable p] {A B : Prop} (h : p) (q : A) : Br (decide p) A B := by rw [decide_eq_true h]; exact .t q
theorem Br.dF {p : Prop} [Decidable p] {A B : Prop} (h : ¬ p) (q : B) : Br (decide p) A B := by rw [decide_eq_false h]; exact .f q
theorem Br.nT {p : Prop} [Decidable p] {A B : Prop} (h : ¬ p) (q : A) : Br (!decide p) A B := by rw [decide_eq_false h]; exact .t q
theorem Br.nF {p : Prop} [Decidable p] {A B : Prop} (h : p) (q : B) : Br (!decide p) A B := by rw [decide_eq_true h]; exact .f q
theorem q_bl {b c : Bool} {Q : EVal → PSt → Prop} {σ : PSt} (e : b = c) (q : Q (.val (.bl c)) σ) : Q (.val (.bl b)) σ := by rw [e]; exact q
theorem q_int {b c : Int} {Q : EVal → PSt → Prop} {σ : PSt} (e : b = c) (q : Q (.val (.int c)) σ) : Q (.val (.int b)) σ := by rw [e]; exact q
end L2.Zz
namespace L2.Zz
open PySem PySem.Spec PyProof.Rows
theorem GetL.of {l : SlL} {i : Nat} {s : Sl} (h : l[i]? = some (some s)) : GetL l i s := h
theorem GetP.of {l : List PV} {i : Nat} {s : PV} (h : l[i]? = some s) : GetP l i s := h
theorem gGet {l : SlL} {i : Nat} {s : Sl} (h : GetL l i s) : GetL l i s := h
theorem gSet {l l' : SlL} {i : Nat} {s : Sl} (h : SetL l i s l') : SetL l i s l' := h
theorem gFz {r : EVal} {σ σ' : PSt} {p : PV} (h : FzS r σ p σ') : FzS r σ p σ' := h
theorem gCI {σ : PSt} {rs : List EVal} {k n : Nat} {l : SlL} {w : List Pl} {ln : List PV} (h : CallI σ rs k n l w ln) : CallI σ rs k n l w ln := h
theorem gVl {rs : List EVal} {ps : List PV} (h : VlS rs ps) : VlS rs ps := h
theorem gRs {σ : PSt} {rs : List EVal} {ps : List PV} (h : RdsS σ rs ps) : RdsS σ rs ps := h
theorem gBr {b : Bool} {A B : Prop} (h : Br b A B) : Br b A B := h
section
variable {R : XP} {σ : PSt} {l : SlL} {n : List PV} {i : Nat} {p v : PV}
theorem w_varF {Q : EVal → PSt → Prop} (h : GetL l i (.frz v)) (q : Q (.val v) ⟨l, n⟩) : WP (dVar i ⟨l, n⟩) Q R := by
  with_unfolding_all exact w_var h .frz q
theorem w_varO {Q : EVal → PSt → Prop} (h : GetL l i (.own v)) (q : Q (.at i) ⟨l, n⟩) : WP (dVar i ⟨l, n⟩) Q R := by
  with_unfolding_all exact w_var h .own q
theorem w_varL {Q : EVal → PSt → Prop} {k : Nat} (h : GetL l i (.lo k)) (q : Q (.lo k) ⟨l, n⟩) : WP (dVar i ⟨l, n⟩) Q R := by
  with_unfolding_all exact w_var h .lo q
end
end L2.Zz
namespace L2.Zz
theorem gCall {n : Nat} {body : DS} {rs : List EVal} {σ : PSt} {Q : EVal → PSt → Prop} {R : XP} (h : WP (callD n body rs σ) Q R) : WP (callD n body rs σ) Q R := by
  with_unfolding_all exact h
end L2.Zz
namespace L2.Zz
theorem Br.eqF {b : Bool} {A B : Prop} (h : b = false) (q : B) : Br b A B := by subst h; exact .f q
theorem Br.eqT {b : Bool} {A B : Prop} (h : b = true) (q : A) : Br b A B := by subst h; exact .t q
end L2.Zz
namespace L2.Zz
theorem setPV_n {xs : List PV} {p : PV} {j : Nat} (h : j < xs.length) : setPV (.lst xs) (.int j) p = some (.lst (xs.set j p)) := by
  unfold setPV L2.ixN
  have h1 : (0 : Int) ≤ j := by omega
  have h2 : (j : Int) < xs.length := by omega
  simp only [h1, h2, if_true, Option.map_some, Int.toNat_natCast]
theorem f_set0 {xs : List PV} {p a : PV} : EqF (setPV (.lst (a :: xs)) (.int 0) p) (some (.lst (p :: xs))) := setPV_n (j := 0) (by simp)
theorem f_set1 {xs : List PV} {p a b : PV} : EqF (setPV (.lst (a :: b :: xs)) (.int 1) p) (some (.lst (a :: p :: xs))) := setPV_n (j := 1) (by simp)
theorem f_set2 {xs : List PV} {p a b c : PV} : EqF (setPV (.lst (a :: b :: c :: xs)) (.int 2) p) (some (.lst (a :: b :: p :: xs))) := setPV_n (j := 2) (by simp)
end L2.Zz
namespace L2.Zz
theorem atI_getD {xs : List PV} {r : Int} (h0 : 0 ≤ r) (h1 : r < xs.length) : L2.atI xs r = some (xs.getD r.toNat .non) := by
  have h : r.toNat < xs.length := by omega
  unfold L2.atI L2.ixN
  simp only [h0, h1, if_true, Option.bind_some]
  rw [List.getElem?_eq_getElem h, List.getD_eq_getElem?_getD, List.getElem?_eq_getElem h]
  rfl
theorem f_ixl {xs : List PV} {r : Int} (h : 0 ≤ r ∧ r < xs.length) : EqF (pvIxA (.lst xs) (.int r)) (some (.v (xs.getD r.toNat .non))) := by
  show (L2.atI xs r).map Ot.v = _
  rw [atI_getD h.1 h.2]; rfl
theorem f_ixt {xs : List PV} {r : Int} (h : 0 ≤ r ∧ r < xs.length) : EqF (pvIxA (.tup xs) (.int r)) (some (.v (xs.getD r.toNat .non))) := by
  show (L2.atI xs r).map Ot.v = _
  rw [atI_getD h.1 h.2]; rfl
theorem getD_mem {xs : List PV} {r : Int} (h : 0 ≤ r ∧ r < xs.length) : xs.getD r.toNat .non ∈ xs := by
  have h' : r.toNat < xs.length := by omega
  rw [List.getD_eq_getElem?_getD, List.getElem?_eq_getElem h']
  exact List.getElem_mem h'
end L2.Zz
namespace L2.Zz
theorem f_addl {xs ys : List PV} (h : xs.length + ys.length ≤ szL) : EqF (pvAdd (.lst xs) (.lst ys)) (some (.l (xs ++ ys))) := by
  unfold EqF pvAdd; simp only [h, if_true]
theorem cutP_nn (xs : List PV) (i j : Nat) : cutP xs (some (i : Int)) (some (j : Int)) = (xs.drop (min i xs.length)).take (min j xs.length - min i xs.length) := by
  unfold cutP
  rw [HT.sIx_nat, HT.sIx_nat]
end L2.Zz
namespace L2.Zz
theorem f_setk {ks vs : List PV} {k v : PV} (h : kOk k = true ∧ ks.length < szL) : EqF (setPV (.dct ks vs) k v) (some (kPut ks vs k v)) := by
  have e : setPV (.dct ks vs) k v = if kOk k = true ∧ ks.length < szL then some (kPut ks vs k v) else none := rfl
  unfold EqF
  rw [e, if_pos h]
theorem rng_at {lo : Int} {n i : Nat} {x : PV} (h : (rng lo n)[i]? = some x) : i < n ∧ x = .int (lo + i) := by
  have hi : i < n := by
    have := (List.getElem?_eq_some_iff.mp h).1
    rwa [rng_len] at this
  rw [rng_get hi] at h
  exact ⟨hi, (Option.some.inj h).symm⟩
end L2.Zz
namespace L2.Zz
theorem WP.fin {o : Rs Fl} (h : WP o (fun f _ => f = .rt (.val (.bl true))) noX) : ∃ σ', o = .ok (.rt (.val (.bl true))) σ' := by
  with_unfolding_all
    cases o with
    | ok f s => exact ⟨s, by rw [show f = _ from h]⟩
    | ex e s => exact h.elim
    | no => exact h.elim
theorem cutP_mem {xs : List PV} {lo hi : Option Int} {p : PV} (h : p ∈ cutP xs lo hi) : p ∈ xs := by
  unfold cutP at h
  exact List.mem_of_mem_drop (List.mem_of_mem_take h)
theorem cutP_len {xs : List PV} {lo hi : Option Int} : (cutP xs lo hi).length ≤ xs.length := by
  unfold cutP
  rw [List.length_take, List.length_drop]
  omega
end L2.Zz

/-! Z22: max and min of three. -/
namespace L2.Zz
open PySem PySem.Spec PyProof.Rows
def mx2 (i j : Int) : Int := if i < j then j else i
def mn2 (i j : Int) : Int := if j < i then j else i
def fnMax3 : List PV → Option Ot
  | [.int i, .int j, .int k] => some (.v (.int (mx2 (mx2 i j) k)))
  | _ => none
def fnMin3 : List PV → Option Ot
  | [.int i, .int j, .int k] => some (.v (.int (mn2 (mn2 i j) k)))
  | _ => none
theorem RWs.three {c : Cn} {F : Addr → Prop} {H : Hp} {p q r : PV} {vs : List V} (h : RWs c F H [p, q, r] vs) : ∃ v u w, vs = [v, u, w] ∧ RW c F H p v ∧ RW c F H q u ∧ RW c F H r w := by
  cases h with
  | cons h1 t => cases t with
    | cons h2 t => cases t with
      | cons h3 t => cases t; exact ⟨_, _, _, rfl, h1, h2, h3⟩
theorem nu_max2 {i j : Int} : nuMax2 (.int i) (.int j) = some (.int (mx2 i j)) := by
  unfold nuMax2 mx2
  show Option.map _ (some (decide (i < j))) = _
  by_cases h : i < j <;> simp [h]
theorem nu_min2 {i j : Int} : nuMin2 (.int i) (.int j) = some (.int (mn2 i j)) := by
  unfold nuMin2 mn2
  show Option.map _ (some (decide (j < i))) = _
  by_cases h : j < i <;> simp [h]
section
variable {X : Cx}
theorem opn_max3 : OpN (cn X) (rNuC3 nuMax3) fnMax3 := by
  intro F H ps o vs Q rs e h
  unfold fnMax3 at e
  split at e
  · cases e
    obtain ⟨v, u, w, rfl, r1, r2, r3⟩ := rs.three
    refine ⟨_, _, _, _, rfl, ?_, h _ RF.int_⟩
    rw [r1.int, r2.int, r3.int]
    unfold nuMax3
    rw [nu_max2]
    exact nu_max2
  · cases e
theorem opn_min3 : OpN (cn X) (rNuC3 nuMin3) fnMin3 := by
  intro F H ps o vs Q rs e h
  unfold fnMin3 at e
  split at e
  · cases e
    obtain ⟨v, u, w, rfl, r1, r2, r3⟩ := rs.three
    refine ⟨_, _, _, _, rfl, ?_, h _ RF.int_⟩
    rw [r1.int, r2.int, r3.int]
    unfold nuMin3
    rw [nu_min2]
    exact nu_min2
  · cases e
end
end L2.Zz
namespace L2.Zz
section
variable {R : XP} {vs : List Nat} {acc acc' xs ys l0 : List PV} {p : PV} {l l' : SlL} {n : List PV}
/-- behind an element, what is gathered being written out -/
theorem k_leA {N : List PV → PSt → Prop} (a : AppL acc [p] acc') (hl : EqF (some (decide (acc.length < szL))) (some true)) (w : WpL l vs l') (h : N acc' ⟨l', n⟩) : KLe vs acc N (.val p) ⟨l, n⟩ :=
  k_le hl w (congrArg some a.eq) h
theorem f_addA (a : AppL xs ys l0) (h : l0.length ≤ szL) : EqF (pvAdd (.lst xs) (.lst ys)) (some (.l l0)) := by
  have e := a.eq
  subst e
  exact f_addl (by rw [List.length_append] at h; exact h)
end
end L2.Zz

/-! Z23: more for reckoning: short ranges. -/
namespace L2.Zz
open PySem PySem.Spec PyProof.Rows
section
variable {Q : List PV → PSt → Prop} {σ : PSt} {rs : List EVal}
theorem rgOk_nat {n : Nat} (h : n < 1000) : rgOk (n : Int) := by unfold rgOk; omega
theorem k_r12 (h : RdsS σ rs [.int 2]) (q : Q [.int 0, .int 1] σ) : KR1 Q rs σ := ⟨2, h, rgOk_nat (n := 2) (by omega), q⟩
theorem k_r13 (h : RdsS σ rs [.int 3]) (q : Q [.int 0, .int 1, .int 2] σ) : KR1 Q rs σ := ⟨3, h, rgOk_nat (n := 3) (by omega), q⟩
theorem k_r14 (h : RdsS σ rs [.int 4]) (q : Q [.int 0, .int 1, .int 2, .int 3] σ) : KR1 Q rs σ := ⟨4, h, rgOk_nat (n := 4) (by omega), q⟩
end
end L2.Zz

/-! Z24: a call of a local name that holds a def. -/
namespace L2.Zz
open PySem PySem.Spec PyProof.Rows
/-- a def by its name: its slots, its parameters, its body -/
abbrev FTab := List (Str × Nat × Nat × DS)
def dCallV (tab : FTab) (i : Nat) (da : DA) : DE := fun σ => match σ.sl[i]? with
  | some (some (.frz (.fn x))) => match tab.lookup x with
    | some r => (da σ).bind fun rs σ1 => if rs.length = r.2.1 then callD r.1 r.2.2 rs σ1 else .no
    | none => .no
  | _ => .no
/-- a def that is at hand -/
structure AtHand (X : Cx) (k : Nat) (x : Str) (n np : Nat) (body : DS) : Prop where
  ex : ∃ (f : Addr) (fd : FuncData) (N ps : List Str), X.mg x = some (.ref f) ∧ FnOk X.prog X.w X.K X.mg X.base (L2.CX X.prog X.w) k f fd ps (spD (cn X) N np body) ∧ N.length = n ∧ PySem.W.keepIn X.K (.ref f) = true ∧ Binds X.K fd ps [] ∧ np ≤ n
theorem AtHand.mk' {X : Cx} {k j : Nat} {x : Str} {np : Nat} {body : DS} {f : Addr} {fd : FuncData} {N ps : List Str} (hm : X.mg x = some (.ref f)) (F : FnOk X.prog X.w X.K X.mg X.base (L2.CX X.prog X.w) j f fd ps (spD (cn X) N np body)) (hk : PySem.W.keepIn X.K (.ref f) = true)
    (hb : Binds X.K fd ps []) (hn : np ≤ N.length) (hj : j ≤ k) : AtHand X k x N.length np body := ⟨f, fd, N, ps, hm, F.mono hj, rfl, hk, hb, hn⟩
inductive Hands (X : Cx) (k : Nat) : FTab → Prop
  | nil : Hands X k []
  | cons {x n np body t} : AtHand X k x n np body → Hands X k t → Hands X k ((x, n, np, body) :: t)
theorem Hands.get {X : Cx} {k : Nat} {t : FTab} (h : Hands X k t) {x : Str} {r : Nat × Nat × DS} (e : t.lookup x = some r) : AtHand X k x r.1 r.2.1 r.2.2 := by
  induction h with
  | nil => simp at e
  | cons h1 _ ih =>
    rename_i y n np body t _
    rw [List.lookup] at e
    by_cases q : x = y
    · subst q
      simp at e
      subst e
      exact h1
    · have q' : (x == y) = false := by simpa using q
      rw [q'] at e
      exact ih e
/-- the slot holds the def at f: its promise, exceptions wished for at the caller's slots -/
theorem pe_callLSD {X : Cx} {k i : Nat} {f : Addr} {fd : FuncData} {ps : List Str} {sp : Sp} {E : St → XK} {x : Str} {p pos : Pos} {e : Expr} {es : List Expr} {t : TA} (F : FnOk X.prog X.w X.K X.mg X.base (L2.CX X.prog X.w) k f fd ps sp) (hr : Room k X.A) (hN : X.N[i]? = some x) (hv : Vis X.env.scope x)
    (hk : PySem.W.keepIn X.K (.ref f) = true) (hb : Binds X.K fd ps []) (hx : ∀ σ, PassesAt (L2.CX X.prog X.w) X σ (E σ)) (ha : PA X (e :: es) t) (hdb : (x == ("__debug__" : Str)) = false := by decide) (hcd : (x == ("__classdict__" : Str)) = false := by decide)
    (he : starEach (e :: es) X.env = (false, eval e X.env) :: starEach es X.env := by rfl) (hpl : (backTo pos (starEach es X.env)).any (·.1) = false := by rfl) :
    PE X (.Call (.Name x p) (e :: es) [] pos) (fun σ H Q => σ[i]? = some (some (.ref f)) ∧ t σ H fun vs H1 => sp (vs ++ []) H1 Q (E σ)) := by
  refine ⟨fun pins s σ H Q I ⟨hs, ht⟩ => ?_⟩
  have rd := (pe_var (pos := p) hN hv hdb hcd).run pins s σ H (fun v H1 => v = .ref f ∧ H1 = H) I ⟨.ref f, hs, rfl, rfl⟩
  refine wpAny_Call_Name_kw (thn rd fun u s1 ⟨v, H1, I1, r1, q1⟩ => ?_)
  obtain ⟨rfl, rfl⟩ := q1
  cases r1
  exact PySem.W.callWith_K (h₀ := X.base) I.ok.mod.kin hk (thn (ha.run pos pins s1 σ _ _ I1 ht) fun us s2 ⟨vs, H2, I2, r, q⟩ => ⟨I2.kIn, run_fnSD F hr hb .nil (hx σ) I2 r q⟩) he hpl
section
variable {X : Cx} {W : WX} {k i : Nat} {x : Str} {p pos : Pos} {e : Expr} {es : List Expr} {da : DA} {tab : FTab}
theorem z_callV (A : Hands X k tab) (hr : Room k X.A) (hN : X.N[i]? = some x) (hv : Vis X.env.scope x) (tk : Takes X W) (ha : PA X (e :: es) (EVA (cn X) W da)) (hdb : (x == ("__debug__" : Str)) = false := by decide) (hcd : (x == ("__classdict__" : Str)) = false := by decide)
    (he : starEach (e :: es) X.env = (false, eval e X.env) :: starEach es X.env := by rfl) (hpl : (backTo pos (starEach es X.env)).any (·.1) = false := by rfl) :
    PE X (.Call (.Name x p) (e :: es) [] pos) (EV (cn X) W (dCallV tab i da)) := by
  refine ⟨fun pins s σr H Q I q => ?_⟩
  obtain ⟨F, la, σ, S, f⟩ := q
  unfold dCallV at f
  split at f
  · rename_i y hy
    obtain ⟨u, hu, ru⟩ := S.frz i _ hy
    unfold RF at ru
    obtain ⟨a, rfl, hm⟩ := ru
    split at f
    · rename_i r hl
      obtain ⟨a', fd, N, ps, hm', G, hn', hk, hb, hn⟩ := (A.get hl).ex
      have ea : a' = a := by
        have := hm.symm.trans hm'
        cases this
        rfl
      subst ea
      refine (pe_callLSD (i := i) (E := fun σr cls d H => W cls d σr H) G hr hN hv hk hb (fun σ => passAt tk σ) ha hdb hcd he hpl).run pins s σr H Q I ⟨hu, F, la, σ, S, f.bind.mono fun rs σ1 F1 H1 x1 S1 f1 vs es' => ?_⟩
      obtain ⟨hlen, f2⟩ := fin_if f1
      have hv' : vs.length = r.2.1 := by rw [← es'.length]; exact hlen
      rw [List.append_nil]
      rw [← hn'] at f2 hn
      exact callD_ok hv' (by rw [hv']; exact hn) S1 x1 es' f2
    · exact f.elim
  · exact f.elim
end
/-! ### reckoning -/
section
variable {Q : EVal → PSt → Prop} {R : XP} {l : SlL} {ln : List PV} {i : Nat} {x : Str} {da : DA} {tab : FTab} {r : Nat × Nat × DS}
/-- behind the arguments -/
def KCv (r : Nat × Nat × DS) (Q : EVal → PSt → Prop) (R : XP) : List EVal → PSt → Prop := fun rs σ1 => rs.length = r.2.1 ∧ WP (callD r.1 r.2.2 rs σ1) Q R
theorem k_cv {n np : Nat} {body : DS} {rs : List EVal} {σ : PSt} (hl : EqF (some rs.length) (some np)) (h : WP (callD n body rs σ) Q R) : KCv (n, np, body) Q R rs σ := ⟨Option.some.inj hl, h⟩
theorem v_callV (h : GetL l i (.frz (.fn x))) (e : EqF (tab.lookup x) (some r)) (q : WP (da ⟨l, ln⟩) (KCv r Q R) R) : WP (dCallV tab i da ⟨l, ln⟩) Q R := by
  unfold GetL at h
  unfold dCallV
  simp only [h]
  rw [show tab.lookup x = _ from e]
  exact WP.bind (q.mono fun rs σ1 ⟨hl, z⟩ => by rw [if_pos hl]; exact z)
end
end L2.Zz

/-! Z25: equality of short tuples of whole numbers. -/
namespace L2.Zz
open PySem PySem.Spec PyProof.Rows
theorem eqS3 {a b c a' b' c' : Int} : pvEq (.tup [.int a, .int b, .int c]) (.tup [.int a', .int b', .int c']) = some (decide (a = a' ∧ b = b' ∧ c = c')) := by
  have h : SeqAt.shaped (.tuple [.int a, .int b, .int c]) = true ∧ SeqAt.shaped (.tuple [.int a', .int b', .int c']) = true := ⟨rfl, rfl⟩
  unfold pvEq
  simp only [toD, toDs, Option.map_some, if_pos h]
  congr 1
  simp only [PyData.eqv, PyData.eqvAll, Bool.and_true, Bool.decide_and]
  rfl
theorem eqS4 {a b c d a' b' c' d' : Int} : pvEq (.tup [.int a, .int b, .int c, .int d]) (.tup [.int a', .int b', .int c', .int d']) = some (decide (a = a' ∧ b = b' ∧ c = c' ∧ d = d')) := by
  have h : SeqAt.shaped (.tuple [.int a, .int b, .int c, .int d]) = true ∧ SeqAt.shaped (.tuple [.int a', .int b', .int c', .int d']) = true := ⟨rfl, rfl⟩
  unfold pvEq
  simp only [toD, toDs, Option.map_some, if_pos h]
  congr 1
  simp only [PyData.eqv, PyData.eqvAll, Bool.and_true, Bool.decide_and]
  rfl
section
variable {a b c d a' b' c' d' : Int}
theorem f_eqT3 : EqF (pvEqO (.tup [.int a, .int b, .int c]) (.tup [.int a', .int b', .int c'])) (some (.v (.bl (decide (a = a' ∧ b = b' ∧ c = c'))))) := by unfold EqF pvEqO; rw [eqS3]; rfl
theorem f_neT3 : EqF (pvNeO (.tup [.int a, .int b, .int c]) (.tup [.int a', .int b', .int c'])) (some (.v (.bl (!decide (a = a' ∧ b = b' ∧ c = c'))))) := by unfold EqF pvNeO; rw [eqS3]; rfl
theorem f_eqT4 : EqF (pvEqO (.tup [.int a, .int b, .int c, .int d]) (.tup [.int a', .int b', .int c', .int d'])) (some (.v (.bl (decide (a = a' ∧ b = b' ∧ c = c' ∧ d = d'))))) := by unfold EqF pvEqO; rw [eqS4]; rfl
theorem f_neT4 : EqF (pvNeO (.tup [.int a, .int b, .int c, .int d]) (.tup [.int a', .int b', .int c', .int d'])) (some (.v (.bl (!decide (a = a' ∧ b = b' ∧ c = c' ∧ d = d'))))) := by unfold EqF pvNeO; rw [eqS4]; rfl
end
/-! powers of ten that the texts name -/
theorem f_p3 : EqF (pvPow (.int 10) (.int 3)) (some (.v (.int 1000))) := f_pow (i := 10) (j := 3) (by unfold powOk; decide)
theorem f_p6 : EqF (pvPow (.int 10) (.int 6)) (some (.v (.int 1000000))) := f_pow (i := 10) (j := 6) (by unfold powOk; decide)
theorem f_p18 : EqF (pvPow (.int 10) (.int 18)) (some (.v (.int 1000000000000000000))) := f_pow (i := 10) (j := 18) (by unfold powOk; decide)
theorem f_p29 : EqF (pvPow (.int 10) (.int 29)) (some (.v (.int 100000000000000000000000000000))) := f_pow (i := 10) (j := 29) (by unfold powOk; decide)
theorem f_p30 : EqF (pvPow (.int 10) (.int 30)) (some (.v (.int 1000000000000000000000000000000))) := f_pow (i := 10) (j := 30) (by unfold powOk; decide)
theorem f_p40 : EqF (pvPow (.int 10) (.int 40)) (some (.v (.int 10000000000000000000000000000000000000000))) := f_pow (i := 10) (j := 40) (by unfold powOk; decide)
/-- a list of whole numbers that is written out -/
inductive IntL : List PV → List Int → Prop
  | z : IntL [] []
  | s {xs ns i} : IntL xs ns → IntL (.int i :: xs) (i :: ns)
theorem IntL.mem {xs : List PV} {ns : List Int} (h : IntL xs ns) {p : PV} (hp : p ∈ xs) : ∃ i, p = .int i ∧ i ∈ ns := by
  induction h with
  | z => cases hp
  | s _ ih =>
    rcases List.mem_cons.mp hp with e | hp
    · exact ⟨_, e, List.mem_cons_self⟩
    · obtain ⟨i, e, hi⟩ := ih hp
      exact ⟨i, e, List.mem_cons_of_mem _ hi⟩
theorem f_max2 {i j : Int} : EqF (fnMax [.int i, .int j]) (some (.v (.int (max i j)))) := by
  have e : (if j > i then j else i) = max i j := by split <;> omega
  show some (Ot.v (PV.int (if j > i then j else i))) = _
  rw [e]
theorem f_min2 {i j : Int} : EqF (fnMin [.int i, .int j]) (some (.v (.int (min i j)))) := by
  have e : (if j < i then j else i) = min i j := by split <;> omega
  show some (Ot.v (PV.int (if j < i then j else i))) = _
  rw [e]
end L2.Zz

namespace Kx
open PySem PySem.Spec PyProof.Rows L2 L2.Zz
/-! ### the text -/
def topS (i : Nat) : Stmt := PySem.Challenge.pw_closecells_k71_whole_far_shapes.main.body.getD i (.Pass ⟨0, 0, 0, 0⟩)
abbrev s_is_integer : Stmt := topS 5
abbrev N_is_integer : List Str := ["value"]
theorem sc_is_integer : FnScope N_is_integer ["value"] (defScope s_is_integer) := ⟨rfl, rfl, rfl, by decide +kernel, rfl, by decide +kernel, by decide +kernel⟩
abbrev s_is_between : Stmt := topS 6
abbrev N_is_between : List Str := ["value", "low", "high"]
theorem sc_is_between : FnScope N_is_between ["value", "low", "high"] (defScope s_is_between) := ⟨rfl, rfl, rfl, by decide +kernel, rfl, by decide +kernel, by decide +kernel⟩
abbrev s_check_span : Stmt := topS 22
abbrev N_check_span : List Str := ["word", "value"]
theorem sc_check_span : FnScope N_check_span ["word", "value"] (defScope s_check_span) := ⟨rfl, rfl, rfl, by decide +kernel, rfl, by decide +kernel, by decide +kernel⟩
abbrev s_counted : Stmt := topS 20
abbrev N_counted : List Str := ["many", "faces", "triangles"]
theorem sc_counted : FnScope N_counted ["many", "faces", "triangles"] (defScope s_counted) := ⟨rfl, rfl, rfl, by decide +kernel, rfl, by decide +kernel, by decide +kernel⟩
abbrev s_check_sides : Stmt := topS 21
abbrev N_check_sides : List Str := ["low", "m", "n", "word", "value"]
theorem sc_check_sides : FnScope N_check_sides ["low", "m", "n"] (defScope s_check_sides) := ⟨rfl, rfl, rfl, by decide +kernel, rfl, by decide +kernel, by decide +kernel⟩
abbrev s_two_rows_counts : Stmt := topS 24
abbrev N_two_rows_counts : List Str := ["m", "n", "shift", "above", "triangles"]
theorem sc_two_rows_counts : FnScope N_two_rows_counts ["m", "n", "shift"] (defScope s_two_rows_counts) := ⟨rfl, rfl, rfl, by decide +kernel, rfl, by decide +kernel, by decide +kernel⟩
abbrev s_law_coin : Stmt := topS 30
abbrev N_law_coin : List Str := ["_law_purse_here", "_law_many", "_law_got_so", "_law_hashed"]
theorem sc_law_coin : FnScope N_law_coin ["_law_purse_here", "_law_many"] (defScope s_law_coin) := ⟨rfl, rfl, rfl, by decide +kernel, rfl, by decide +kernel, by decide +kernel⟩
abbrev s_law_pick : Stmt := topS 31
abbrev N_law_pick : List Str := ["_law_purse_here", "_law_some"]
theorem sc_law_pick : FnScope N_law_pick ["_law_purse_here", "_law_some"] (defScope s_law_pick) := ⟨rfl, rfl, rfl, by decide +kernel, rfl, by decide +kernel, by decide +kernel⟩
abbrev s_law_size : Stmt := topS 32
abbrev N_law_size : List Str := ["_law_purse_here", "_law_least_so"]
theorem sc_law_size : FnScope N_law_size ["_law_purse_here", "_law_least_so"] (defScope s_law_size) := ⟨rfl, rfl, rfl, by decide +kernel, rfl, by decide +kernel, by decide +kernel⟩
abbrev s_law_rows_right : Stmt := topS 35
abbrev N_law_rows_right : List Str := ["_law_purse_here", "_law_m", "_law_n", "_law_by", "_law_found", "_law_units"]
theorem sc_law_rows_right : FnScope N_law_rows_right ["_law_purse_here"] (defScope s_law_rows_right) := ⟨rfl, rfl, rfl, by decide +kernel, rfl, by decide +kernel, by decide +kernel⟩
abbrev s_law_whole : Stmt := topS 33
abbrev N_law_whole : List Str := ["_law_found"]
theorem sc_law_whole : FnScope N_law_whole ["_law_found"] (defScope s_law_whole) := ⟨rfl, rfl, rfl, by decide +kernel, rfl, by decide +kernel, by decide +kernel⟩
abbrev s_zigzag_counts : Stmt := topS 27
abbrev N_zigzag_counts : List Str := ["m", "n", "triangles"]
theorem sc_zigzag_counts : FnScope N_zigzag_counts ["m", "n"] (defScope s_zigzag_counts) := ⟨rfl, rfl, rfl, by decide +kernel, rfl, by decide +kernel, by decide +kernel⟩
abbrev s_law_zigzags_right : Stmt := topS 38
abbrev N_law_zigzags_right : List Str := ["_law_purse_here", "_law_m", "_law_n", "_law_found", "_law_border_so"]
theorem sc_law_zigzags_right : FnScope N_law_zigzags_right ["_law_purse_here"] (defScope s_law_zigzags_right) := ⟨rfl, rfl, rfl, by decide +kernel, rfl, by decide +kernel, by decide +kernel⟩
abbrev s_law_purse : Stmt := topS 29
abbrev N_law_purse : List Str := ["_law_figure"]
theorem sc_law_purse : FnScope N_law_purse ["_law_figure"] (defScope s_law_purse) := ⟨rfl, rfl, rfl, by decide +kernel, rfl, by decide +kernel, by decide +kernel⟩
abbrev s_grid_counts : Stmt := topS 23
abbrev N_grid_counts : List Str := ["m", "n", "faces"]
theorem sc_grid_counts : FnScope N_grid_counts ["m", "n"] (defScope s_grid_counts) := ⟨rfl, rfl, rfl, by decide +kernel, rfl, by decide +kernel, by decide +kernel⟩
abbrev s_law_grids_right : Stmt := topS 34
abbrev N_law_grids_right : List Str := ["_law_purse_here", "_law_m", "_law_n", "_law_found", "_law_units"]
theorem sc_law_grids_right : FnScope N_law_grids_right ["_law_purse_here"] (defScope s_law_grids_right) := ⟨rfl, rfl, rfl, by decide +kernel, rfl, by decide +kernel, by decide +kernel⟩
abbrev s_check_ends : Stmt := topS 25
abbrev N_check_ends : List Str := ["low", "high"]
theorem sc_check_ends : FnScope N_check_ends ["low", "high"] (defScope s_check_ends) := ⟨rfl, rfl, rfl, by decide +kernel, rfl, by decide +kernel, by decide +kernel⟩
abbrev s_parabola_counts : Stmt := topS 26
abbrev N_parabola_counts : List Str := ["low", "high", "many", "triangles"]
theorem sc_parabola_counts : FnScope N_parabola_counts ["low", "high"] (defScope s_parabola_counts) := ⟨rfl, rfl, rfl, by decide +kernel, rfl, by decide +kernel, by decide +kernel⟩
abbrev s_law_parabolas_right : Stmt := topS 36
abbrev N_law_parabolas_right : List Str := ["_law_purse_here", "_law_low", "_law_high", "_law_found", "_law_size_here", "_law_faces_so"]
theorem sc_law_parabolas_right : FnScope N_law_parabolas_right ["_law_purse_here"] (defScope s_law_parabolas_right) := ⟨rfl, rfl, rfl, by decide +kernel, rfl, by decide +kernel, by decide +kernel⟩
abbrev s_is_site : Stmt := topS 10
abbrev N_is_site : List Str := ["value", "one"]
theorem sc_is_site : FnScope N_is_site ["value"] (defScope s_is_site) := ⟨rfl, rfl, rfl, by decide +kernel, rfl, by decide +kernel, by decide +kernel⟩
abbrev s_check_site : Stmt := topS 11
abbrev N_check_site : List Str := ["argument", "value"]
theorem sc_check_site : FnScope N_check_site ["argument", "value"] (defScope s_check_site) := ⟨rfl, rfl, rfl, by decide +kernel, rfl, by decide +kernel, by decide +kernel⟩
abbrev s_check_circle : Stmt := topS 16
abbrev N_check_circle : List Str := ["a", "b", "c"]
theorem sc_check_circle : FnScope N_check_circle ["a", "b", "c"] (defScope s_check_circle) := ⟨rfl, rfl, rfl, by decide +kernel, rfl, by decide +kernel, by decide +kernel⟩
abbrev s_turn : Stmt := topS 13
abbrev N_turn : List Str := ["a", "b", "c"]
theorem sc_turn : FnScope N_turn ["a", "b", "c"] (defScope s_turn) := ⟨rfl, rfl, rfl, by decide +kernel, rfl, by decide +kernel, by decide +kernel⟩
abbrev s_sign : Stmt := topS 7
abbrev N_sign : List Str := ["value"]
theorem sc_sign : FnScope N_sign ["value"] (defScope s_sign) := ⟨rfl, rfl, rfl, by decide +kernel, rfl, by decide +kernel, by decide +kernel⟩
abbrev s_power : Stmt := topS 14
abbrev N_power : List Str := ["a", "b", "c", "d", "rows", "ax", "ay", "bx", "by", "cx", "cy", "lifts", "one", "x", "y"]
theorem sc_power : FnScope N_power ["a", "b", "c", "d"] (defScope s_power) := ⟨rfl, rfl, rfl, by decide +kernel, rfl, by decide +kernel, by decide +kernel⟩
abbrev s_inside : Stmt := topS 15
abbrev N_inside : List Str := ["a", "b", "c", "d"]
theorem sc_inside : FnScope N_inside ["a", "b", "c", "d"] (defScope s_inside) := ⟨rfl, rfl, rfl, by decide +kernel, rfl, by decide +kernel, by decide +kernel⟩
abbrev s_in_circle : Stmt := topS 17
abbrev N_in_circle : List Str := ["a", "b", "c", "d"]
theorem sc_in_circle : FnScope N_in_circle ["a", "b", "c", "d"] (defScope s_in_circle) := ⟨rfl, rfl, rfl, by decide +kernel, rfl, by decide +kernel, by decide +kernel⟩
abbrev s_law_circles_right : Stmt := topS 37
abbrev N_law_circles_right : List Str := ["_law_purse_here", "_law_rows_so", "_law_turn_so", "_law_x", "_law_i", "_law_j", "_law_k", "_law_end", "_law_mark", "_law_spot", "_law_due"]
theorem sc_law_circles_right : FnScope N_law_circles_right ["_law_purse_here"] (defScope s_law_circles_right) := ⟨rfl, rfl, rfl, by decide +kernel, rfl, by decide +kernel, by decide +kernel⟩
abbrev s_law : Stmt := topS 39
abbrev N_law : List Str := ["_law_script", "_law_figure", "_law_purse_here", "_law_ask", "_law_far_so", "_law_units"]
theorem sc_law : FnScope N_law ["_law_script"] (defScope s_law) := ⟨rfl, rfl, rfl, by decide +kernel, rfl, by decide +kernel, by decide +kernel⟩
/-! ### what the defs do -/
def d_is_integer : DS :=
    (dRet (dAndV (dCB fnIsi (dCons (dVar 0) (dCons (dC (.ty "int")) dNil))) (dNotV (dCB fnIsi (dCons (dVar 0) (dCons (dC (.ty "bool")) dNil))))))
def d_is_between : DS :=
    (dRet (dAndV (dCall 1 1 d_is_integer (dCons (dFz (dVar 0)) dNil) []) (dCh pvLe pvLe (dVar 1) (dVar 0) (dVar 2))))
def d_check_span : DS :=
    (dIfS (dNot (dB (dCall 3 3 d_is_between (dCons (dFz (dVar 1)) (dCons (dOp2 pvSub (dC (.int 0)) (dC (.int 1000000))) (dCons (dFz (dC (.int 1000000))) dNil))) []))) dNever dPass)
def d_counted : DS :=
    (dRet (dTup (dCons (dFz (dVar 0)) (dCons (dOp2 pvSub (dOp2 pvAdd (dVar 0) (dVar 1)) (dC (.int 1))) (dCons (dFz (dVar 1)) (dCons (dFz (dVar 2)) dNil))))))
def d_check_sides : DS :=
    (dFor (dItA (dLst (dCons (dTup (dCons (dC (.str "m")) (dCons (dFz (dVar 1)) dNil))) (dCons (dTup (dCons (dC (.str "n")) (dCons (dFz (dVar 2)) dNil))) dNil)))) (gU 2 (gCons (gN 3) (gCons (gN 4) gNil))) (dIfS (dNot (dB (dCall 3 3 d_is_between (dCons (dFz (dVar 4)) (dCons (dFz (dVar 0)) (dCons (dFz (dC (.int 1000000))) dNil))) []))) dNever dPass))
def d_two_rows_counts : DS :=
    (dSeq (dExp (dCall 5 3 d_check_sides (dCons (dC (.int 1)) (dCons (dFz (dVar 0)) (dCons (dFz (dVar 1)) dNil))) []))
    (dSeq (dExp (dCall 2 2 d_check_span (dCons (dC (.str "shift")) (dCons (dFz (dVar 2)) dNil)) []))
    (dSeq (dSet 3 (dOp2 pvSub (dCB fnMin (dCons (dVar 0) (dCons (dOp2 pvAdd (dVar 2) (dVar 1)) dNil))) (dCB fnMax (dCons (dC (.int 0)) (dCons (dVar 2) dNil)))))
    (dSeq (dSet 4 (dOp2 pvSub (dOp2 pvAdd (dVar 0) (dVar 1)) (dC (.int 2))))
    (dRet (dCall 3 3 d_counted (dCons (dFz (dOp2 pvAdd (dVar 0) (dVar 1))) (dCons (dOp2 pvSub (dVar 4) (dCB fnMax (dCons (dC (.int 0)) (dCons (dOp2 pvSub (dVar 3) (dC (.int 1))) dNil)))) (dCons (dFz (dVar 4)) dNil))) []))))))
def d_law_coin : DS :=
    (dSeq (dIfS (dB (dOp2 pvGt (dOp2 pvIxA (dVar 0) (dC (.int 0))) (dC (.int 0)))) (dSeq (dSet 2 (dOp2 pvMod (dCB fnInt (dCons (dOp2 pvIxA (dVar 0) (dC (.int 0))) dNil)) (dVar 1)))
    (dSeq (dAsg (dOp2 pvFdiv (dOp2 pvIxA (dVar 0) (dC (.int 0))) (dVar 1)) (gSubP (dVar 0) (dC (.int 0))))
    (dRet (dVar 2)))) dPass)
    (dSeq (dAsg (dOp2 pvAdd (dOp2 pvIxA (dVar 0) (dC (.int 2))) (dC (.int 1))) (gSubP (dVar 0) (dC (.int 2))))
    (dSeq (dSet 3 (dOp2 pvMod (dCB fnInt (dCons (dOp2 pvPow (dOp2 pvAdd (dOp2 pvAdd (dOp2 pvIxA (dVar 0) (dC (.int 1))) (dOp2 pvMul (dC (.int 70001)) (dOp2 pvIxA (dVar 0) (dC (.int 2))))) (dC (.int 7))) (dC (.int 3))) dNil)) (dC (.int 2147483587))))
    (dSeq (dSet 3 (dOp2 pvMod (dCB fnInt (dCons (dOp2 pvMul (dOp2 pvAdd (dVar 3) (dOp2 pvMul (dC (.int 11)) (dOp2 pvIxA (dVar 0) (dC (.int 2))))) (dOp2 pvAdd (dOp2 pvFdiv (dVar 3) (dC (.int 1009))) (dC (.int 48611)))) dNil)) (dC (.int 2147483549))))
    (dRet (dOp2 pvMod (dCB fnInt (dCons (dOp2 pvFdiv (dOp2 pvMod (dCB fnInt (dCons (dOp2 pvMul (dVar 3) (dOp2 pvAdd (dOp2 pvFdiv (dVar 3) (dC (.int 2027))) (dC (.int 69621)))) dNil)) (dC (.int 2147483543))) (dC (.int 5))) dNil)) (dVar 1)))))))
def d_law_pick : DS :=
    (dRet (dOp2 pvIxA (dVar 1) (dCall 4 2 d_law_coin (dCons (dVar 0) (dCons (dFz (dCB fnLen (dCons (dVar 1) dNil))) dNil)) [])))
def d_law_size : DS :=
    (dRet (dOp2 pvAdd (dVar 1) (dCall 4 2 d_law_coin (dCons (dVar 0) (dCons (dFz (dCall 2 2 d_law_pick (dCons (dVar 0) (dCons (dFz (dLst (dCons (dC (.int 3)) (dCons (dC (.int 1000)) (dCons (dOp2 pvAdd (dOp2 pvSub (dOp2 pvPow (dC (.int 10)) (dC (.int 6))) (dVar 1)) (dC (.int 1))) dNil))))) dNil)) [])) dNil)) [])))
def d_law_rows_right : DS :=
    (dSeq (dPar [1, 2, 3] (dCons (dFz (dCall 2 2 d_law_size (dCons (dVar 0) (dCons (dC (.int 1)) dNil)) [])) (dCons (dFz (dCall 2 2 d_law_size (dCons (dVar 0) (dCons (dC (.int 1)) dNil)) [])) (dCons (dOp2 pvSub (dCall 4 2 d_law_coin (dCons (dVar 0) (dCons (dOp2 pvAdd (dOp2 pvMul (dC (.int 2)) (dOp2 pvPow (dC (.int 10)) (dC (.int 6)))) (dC (.int 1))) dNil)) []) (dOp2 pvPow (dC (.int 10)) (dC (.int 6)))) dNil))))
    (dSeq (dSet 3 (dFz (dCall 2 2 d_law_pick (dCons (dVar 0) (dCons (dFz (dLst (dCons (dFz (dVar 3)) (dCons (dC (.int 0)) (dCons (dOp2 pvSub (dC (.int 1)) (dVar 2)) (dCons (dOp2 pvSub (dVar 1) (dC (.int 1))) (dCons (dFz (dVar 1)) (dCons (dOp2 pvSub (dC (.int 0)) (dVar 2)) (dCons (dOp2 pvSub (dOp2 pvMod (dCB fnInt (dCons (dVar 3) dNil)) (dOp2 pvAdd (dVar 1) (dVar 2))) (dVar 2)) dNil))))))))) dNil)) [])))
    (dSeq (dSet 3 (dFz (dCB fnMax (dCons (dOp1 pvNeg (dOp2 pvPow (dC (.int 10)) (dC (.int 6)))) (dCons (dCB fnMin (dCons (dOp2 pvPow (dC (.int 10)) (dC (.int 6))) (dCons (dVar 3) dNil))) dNil)))))
    (dSeq (dPar [4, 5] (dCons (dFz (dCall 5 3 d_two_rows_counts (dCons (dFz (dVar 1)) (dCons (dFz (dVar 2)) (dCons (dFz (dVar 3)) dNil))) [])) (dCons (dFz (dCB fnMax (dCons (dC (.int 0)) (dCons (dOp2 pvSub (dOp2 pvSub (dCB fnMin (dCons (dVar 1) (dCons (dOp2 pvAdd (dVar 3) (dVar 2)) dNil))) (dCB fnMax (dCons (dC (.int 0)) (dCons (dVar 3) dNil)))) (dC (.int 1))) dNil)))) dNil)))
    (dSeq (dIfS (dB (dOp2 pvNeO (dVar 4) (dTup (dCons (dFz (dOp2 pvAdd (dVar 1) (dVar 2))) (dCons (dOp2 pvSub (dOp2 pvSub (dOp2 pvMul (dC (.int 2)) (dOp2 pvAdd (dVar 1) (dVar 2))) (dC (.int 3))) (dVar 5)) (dCons (dOp2 pvSub (dOp2 pvSub (dOp2 pvAdd (dVar 1) (dVar 2)) (dC (.int 2))) (dVar 5)) (dCons (dOp2 pvSub (dOp2 pvAdd (dVar 1) (dVar 2)) (dC (.int 2))) dNil))))))) (dRet (dC (.bl false))) dPass)
    (dRet (dOp2 pvEqO (dCall 5 3 d_two_rows_counts (dCons (dFz (dVar 2)) (dCons (dFz (dVar 1)) (dCons (dOp2 pvSub (dC (.int 0)) (dVar 3)) dNil))) []) (dVar 4))))))))
def d_law_whole : DS :=
    (dRet (dAndV (dOp2 pvEqO (dOp2 pvAdd (dOp2 pvIxA (dVar 0) (dC (.int 0))) (dOp2 pvIxA (dVar 0) (dC (.int 2)))) (dOp2 pvAdd (dOp2 pvIxA (dVar 0) (dC (.int 1))) (dC (.int 1)))) (dAndV (dOp2 pvLe (dOp2 pvIxA (dVar 0) (dC (.int 2))) (dOp2 pvIxA (dVar 0) (dC (.int 3)))) (dOp2 pvLe (dOp2 pvIxA (dVar 0) (dC (.int 1))) (dOp2 pvSub (dOp2 pvMul (dC (.int 3)) (dOp2 pvIxA (dVar 0) (dC (.int 0)))) (dC (.int 3)))))))
def d_zigzag_counts : DS :=
    (dSeq (dExp (dCall 5 3 d_check_sides (dCons (dC (.int 2)) (dCons (dFz (dVar 0)) (dCons (dFz (dVar 1)) dNil))) []))
    (dSeq (dSet 2 (dOp2 pvSub (dOp2 pvSub (dOp2 pvMul (dOp2 pvMul (dC (.int 2)) (dVar 0)) (dVar 1)) (dOp2 pvMul (dC (.int 2)) (dVar 0))) (dVar 1)))
    (dRet (dCall 3 3 d_counted (dCons (dOp2 pvMul (dVar 0) (dVar 1)) (dCons (dFz (dVar 2)) (dCons (dFz (dVar 2)) dNil))) []))))
def d_law_zigzags_right : DS :=
    (dSeq (dPar [1, 2] (dCons (dFz (dCall 2 2 d_law_size (dCons (dVar 0) (dCons (dC (.int 2)) dNil)) [])) (dCons (dFz (dCall 2 2 d_law_size (dCons (dVar 0) (dCons (dC (.int 2)) dNil)) [])) dNil)))
    (dSeq (dSet 3 (dFz (dCall 3 2 d_zigzag_counts (dCons (dFz (dVar 1)) (dCons (dFz (dVar 2)) dNil)) [])))
    (dSeq (dSet 4 (dOp2 pvSub (dOp2 pvAdd (dOp2 pvMul (dC (.int 2)) (dVar 1)) (dVar 2)) (dC (.int 2))))
    (dRet (dAndV (dCh pvEqO pvEqO (dOp2 pvIxA (dVar 3) (dC (.int 3))) (dOp2 pvSub (dOp2 pvSub (dOp2 pvMul (dC (.int 2)) (dOp2 pvIxA (dVar 3) (dC (.int 0)))) (dC (.int 2))) (dVar 4)) (dOp2 pvIxA (dVar 3) (dC (.int 2)))) (dAndV (dOp2 pvEqO (dOp2 pvIxA (dVar 3) (dC (.int 0))) (dOp2 pvMul (dVar 1) (dVar 2))) (dCall 1 1 d_law_whole (dCons (dFz (dVar 3)) dNil) [])))))))
def d_law_purse : DS :=
    (dRet (dLst (dCons (dOp2 pvMul (dCB fnAbs (dCons (dVar 0) dNil)) (dCB fnInt (dCons (dOp2 pvGe (dCB fnAbs (dCons (dVar 0) dNil)) (dOp2 pvPow (dC (.int 10)) (dC (.int 18)))) dNil))) (dCons (dOp2 pvMod (dCB fnInt (dCons (dVar 0) dNil)) (dC (.int 2147483563))) (dCons (dC (.int 3)) dNil)))))
def d_grid_counts : DS :=
    (dSeq (dExp (dCall 5 3 d_check_sides (dCons (dC (.int 1)) (dCons (dFz (dVar 0)) (dCons (dFz (dVar 1)) dNil))) []))
    (dSeq (dSet 2 (dOp2 pvMul (dOp2 pvSub (dVar 0) (dC (.int 1))) (dOp2 pvSub (dVar 1) (dC (.int 1)))))
    (dRet (dCall 3 3 d_counted (dCons (dOp2 pvMul (dVar 0) (dVar 1)) (dCons (dFz (dVar 2)) (dCons (dOp2 pvMul (dC (.int 2)) (dVar 2)) dNil))) []))))
def d_law_grids_right : DS :=
    (dSeq (dPar [1, 2] (dCons (dFz (dCall 2 2 d_law_size (dCons (dVar 0) (dCons (dC (.int 1)) dNil)) [])) (dCons (dFz (dCall 2 2 d_law_size (dCons (dVar 0) (dCons (dC (.int 1)) dNil)) [])) dNil)))
    (dSeq (dSet 3 (dFz (dCall 3 2 d_grid_counts (dCons (dFz (dVar 1)) (dCons (dFz (dVar 2)) dNil)) [])))
    (dSeq (dSet 4 (dOp2 pvMul (dOp2 pvSub (dVar 1) (dC (.int 1))) (dOp2 pvSub (dVar 2) (dC (.int 1)))))
    (dSeq (dIfS (dOr (dB (dOp2 pvNeO (dVar 3) (dTup (dCons (dOp2 pvMul (dVar 1) (dVar 2)) (dCons (dOp2 pvSub (dOp2 pvSub (dOp2 pvMul (dOp2 pvMul (dC (.int 2)) (dVar 1)) (dVar 2)) (dVar 1)) (dVar 2)) (dCons (dFz (dVar 4)) (dCons (dOp2 pvMul (dC (.int 2)) (dVar 4)) dNil))))))) (dB (dOp2 pvNeO (dCall 3 2 d_grid_counts (dCons (dFz (dVar 2)) (dCons (dFz (dVar 1)) dNil)) []) (dVar 3)))) (dRet (dC (.bl false))) dPass)
    (dRet (dOrV (dOp2 pvEqO (dOp2 pvIxA (dVar 3) (dC (.int 0))) (dC (.int 1))) (dCall 1 1 d_law_whole (dCons (dFz (dVar 3)) dNil) [])))))))
def d_check_ends : DS :=
    (dSeq (dExp (dCall 2 2 d_check_span (dCons (dC (.str "low")) (dCons (dFz (dVar 0)) dNil)) []))
    (dSeq (dExp (dCall 2 2 d_check_span (dCons (dC (.str "high")) (dCons (dFz (dVar 1)) dNil)) []))
    (dIfS (dB (dOp2 pvGt (dVar 0) (dVar 1))) dNever dPass)))
def d_parabola_counts : DS :=
    (dSeq (dExp (dCall 2 2 d_check_ends (dCons (dFz (dVar 0)) (dCons (dFz (dVar 1)) dNil)) []))
    (dSeq (dSet 2 (dOp2 pvAdd (dOp2 pvSub (dVar 1) (dVar 0)) (dC (.int 1))))
    (dSeq (dSet 3 (dFz (dCB fnMax (dCons (dC (.int 0)) (dCons (dOp2 pvSub (dVar 2) (dC (.int 2))) dNil)))))
    (dRet (dCall 3 3 d_counted (dCons (dFz (dVar 2)) (dCons (dFz (dIf (dB (dCh pvLt pvLt (dVar 0) (dC (.int 0)) (dVar 1))) (dCB fnMax (dCons (dOp2 pvSub (dC (.int 0)) (dVar 0)) (dCons (dVar 1) dNil))) (dVar 3))) (dCons (dFz (dVar 3)) dNil))) [])))))
def d_law_parabolas_right : DS :=
    (dSeq (dSet 1 (dOp2 pvSub (dCall 4 2 d_law_coin (dCons (dVar 0) (dCons (dFz (dCall 2 2 d_law_pick (dCons (dVar 0) (dCons (dFz (dLst (dCons (dC (.int 9)) (dCons (dOp2 pvAdd (dOp2 pvMul (dC (.int 2)) (dOp2 pvPow (dC (.int 10)) (dC (.int 6)))) (dC (.int 1))) dNil)))) dNil)) [])) dNil)) []) (dCall 2 2 d_law_pick (dCons (dVar 0) (dCons (dFz (dLst (dCons (dC (.int 4)) (dCons (dOp2 pvPow (dC (.int 10)) (dC (.int 6))) dNil)))) dNil)) [])))
    (dSeq (dSet 1 (dFz (dCB fnMin (dCons (dOp2 pvPow (dC (.int 10)) (dC (.int 6))) (dCons (dVar 1) dNil)))))
    (dSeq (dSet 2 (dFz (dOp2 pvAdd (dVar 1) (dCall 4 2 d_law_coin (dCons (dVar 0) (dCons (dFz (dCall 2 2 d_law_pick (dCons (dVar 0) (dCons (dFz (dLst (dCons (dC (.int 5)) (dCons (dOp2 pvAdd (dOp2 pvSub (dOp2 pvPow (dC (.int 10)) (dC (.int 6))) (dVar 1)) (dC (.int 1))) dNil)))) dNil)) [])) dNil)) []))))
    (dSeq (dSet 2 (dFz (dCB fnMin (dCons (dOp2 pvPow (dC (.int 10)) (dC (.int 6))) (dCons (dVar 2) dNil)))))
    (dSeq (dPar [3, 4] (dCons (dFz (dCall 4 2 d_parabola_counts (dCons (dFz (dVar 1)) (dCons (dFz (dVar 2)) dNil)) [])) (dCons (dOp2 pvAdd (dOp2 pvSub (dVar 2) (dVar 1)) (dC (.int 1))) dNil)))
    (dSeq (dSet 5 (dFz (dIf (dOr (dB (dOp2 pvGe (dVar 1) (dC (.int 0)))) (dB (dOp2 pvLe (dVar 2) (dC (.int 0))))) (dCB fnMax (dCons (dC (.int 0)) (dCons (dOp2 pvSub (dVar 4) (dC (.int 2))) dNil))) (dCB fnMax (dCons (dOp2 pvSub (dC (.int 0)) (dVar 1)) (dCons (dVar 2) dNil))))))
    (dSeq (dIfS (dB (dOp2 pvNeO (dVar 3) (dTup (dCons (dFz (dVar 4)) (dCons (dOp2 pvSub (dOp2 pvAdd (dVar 4) (dVar 5)) (dC (.int 1))) (dCons (dFz (dVar 5)) (dCons (dFz (dCB fnMax (dCons (dC (.int 0)) (dCons (dOp2 pvSub (dVar 4) (dC (.int 2))) dNil)))) dNil))))))) (dRet (dC (.bl false))) dPass)
    (dRet (dOp2 pvEqO (dCall 4 2 d_parabola_counts (dCons (dOp2 pvSub (dC (.int 0)) (dVar 2)) (dCons (dOp2 pvSub (dC (.int 0)) (dVar 1)) dNil)) []) (dVar 3))))))))))
def d_is_site : DS :=
    (dSeq (dIfS (dOr (dNot (dB (dCB fnIsi (dCons (dVar 0) (dCons (dC (.ty "tuple")) dNil))))) (dB (dOp2 pvNeO (dCB fnLen (dCons (dVar 0) dNil)) (dC (.int 2))))) (dRet (dC (.bl false))) dPass)
    (dRet (dCB fnAll (dCons (dLc [1] (dItA (dVar 0)) (gN 1) dYes (dFz (dCall 3 3 d_is_between (dCons (dFz (dVar 1)) (dCons (dOp2 pvSub (dC (.int 0)) (dC (.int 1000000))) (dCons (dFz (dC (.int 1000000))) dNil))) []))) dNil))))
def d_check_site : DS :=
    (dIfS (dNot (dB (dCall 2 1 d_is_site (dCons (dFz (dVar 1)) dNil) []))) dNever dPass)
def d_check_circle : DS :=
    (dSeq (dExp (dCall 2 2 d_check_site (dCons (dC (.str "a")) (dCons (dFz (dVar 0)) dNil)) []))
    (dSeq (dExp (dCall 2 2 d_check_site (dCons (dC (.str "b")) (dCons (dFz (dVar 1)) dNil)) []))
    (dExp (dCall 2 2 d_check_site (dCons (dC (.str "c")) (dCons (dFz (dVar 2)) dNil)) []))))
def d_turn : DS :=
    (dRet (dOp2 pvSub (dOp2 pvMul (dOp2 pvSub (dOp2 pvIxA (dVar 1) (dC (.int 0))) (dOp2 pvIxA (dVar 0) (dC (.int 0)))) (dOp2 pvSub (dOp2 pvIxA (dVar 2) (dC (.int 1))) (dOp2 pvIxA (dVar 0) (dC (.int 1))))) (dOp2 pvMul (dOp2 pvSub (dOp2 pvIxA (dVar 1) (dC (.int 1))) (dOp2 pvIxA (dVar 0) (dC (.int 1)))) (dOp2 pvSub (dOp2 pvIxA (dVar 2) (dC (.int 0))) (dOp2 pvIxA (dVar 0) (dC (.int 0)))))))
def d_sign : DS :=
    (dRet (dOp2 pvSub (dCB fnInt (dCons (dOp2 pvGt (dVar 0) (dC (.int 0))) dNil)) (dCB fnInt (dCons (dOp2 pvLt (dVar 0) (dC (.int 0))) dNil))))
def d_power : DS :=
    (dSeq (dSet 4 (dLc [12] (dItA (dTup (dCons (dFz (dVar 0)) (dCons (dFz (dVar 1)) (dCons (dFz (dVar 2)) dNil))))) (gN 12) dYes (dTup (dCons (dOp2 pvSub (dOp2 pvIxA (dVar 12) (dC (.int 0))) (dOp2 pvIxA (dVar 3) (dC (.int 0)))) (dCons (dOp2 pvSub (dOp2 pvIxA (dVar 12) (dC (.int 1))) (dOp2 pvIxA (dVar 3) (dC (.int 1)))) dNil)))))
    (dSeq (dAsg (dVar 4) (gU 3 (gCons (gU 2 (gCons (gN 5) (gCons (gN 6) gNil))) (gCons (gU 2 (gCons (gN 7) (gCons (gN 8) gNil))) (gCons (gU 2 (gCons (gN 9) (gCons (gN 10) gNil))) gNil)))))
    (dSeq (dSet 11 (dLc [13, 14] (dItA (dVar 4)) (gT 2 (gAll [13, 14])) dYes (dOp2 pvAdd (dOp2 pvMul (dVar 13) (dVar 13)) (dOp2 pvMul (dVar 14) (dVar 14)))))
    (dRet (dOp2 pvAdd (dOp2 pvSub (dOp2 pvMul (dOp2 pvIxA (dVar 11) (dC (.int 0))) (dOp2 pvSub (dOp2 pvMul (dVar 7) (dVar 10)) (dOp2 pvMul (dVar 9) (dVar 8)))) (dOp2 pvMul (dOp2 pvIxA (dVar 11) (dC (.int 1))) (dOp2 pvSub (dOp2 pvMul (dVar 5) (dVar 10)) (dOp2 pvMul (dVar 9) (dVar 6))))) (dOp2 pvMul (dOp2 pvIxA (dVar 11) (dC (.int 2))) (dOp2 pvSub (dOp2 pvMul (dVar 5) (dVar 8)) (dOp2 pvMul (dVar 7) (dVar 6)))))))))
def d_inside : DS :=
    (dRet (dOp2 pvMul (dCall 1 1 d_sign (dCons (dFz (dCall 15 4 d_power (dCons (dFz (dVar 0)) (dCons (dFz (dVar 1)) (dCons (dFz (dVar 2)) (dCons (dFz (dVar 3)) dNil)))) [])) dNil) []) (dCall 1 1 d_sign (dCons (dFz (dCall 3 3 d_turn (dCons (dFz (dVar 0)) (dCons (dFz (dVar 1)) (dCons (dFz (dVar 2)) dNil))) [])) dNil) [])))
def d_in_circle : DS :=
    (dSeq (dExp (dCall 3 3 d_check_circle (dCons (dFz (dVar 0)) (dCons (dFz (dVar 1)) (dCons (dFz (dVar 2)) dNil))) []))
    (dSeq (dExp (dCall 2 2 d_check_site (dCons (dC (.str "d")) (dCons (dFz (dVar 3)) dNil)) []))
    (dSeq (dIfS (dB (dOp2 pvEqO (dCall 3 3 d_turn (dCons (dFz (dVar 0)) (dCons (dFz (dVar 1)) (dCons (dFz (dVar 2)) dNil))) []) (dC (.int 0)))) dNever dPass)
    (dRet (dCall 4 4 d_inside (dCons (dFz (dVar 0)) (dCons (dFz (dVar 1)) (dCons (dFz (dVar 2)) (dCons (dFz (dVar 3)) dNil)))) [])))))
def d_law_circles_right : DS :=
    (dSeq (dSet 1 (dLst dNil))
    (dSeq (dFor (dRng1 (dCons (dC (.int 60)) dNil)) (gN 2) (dSeq (dSet 3 (dOp2 pvSub (dCall 4 2 d_law_coin (dCons (dVar 0) (dCons (dFz (dCall 2 2 d_law_pick (dCons (dVar 0) (dCons (dFz (dLst (dCons (dC (.int 9)) (dCons (dC (.int 2001)) dNil)))) dNil)) [])) dNil)) []) (dCall 2 2 d_law_pick (dCons (dVar 0) (dCons (dFz (dLst (dCons (dC (.int 4)) (dCons (dC (.int 1000)) dNil)))) dNil)) [])))
    (dSeq (dSet 3 (dFz (dCB fnMax (dCons (dOp1 pvNeg (dC (.int 1000))) (dCons (dCB fnMin (dCons (dC (.int 1000)) (dCons (dVar 3) dNil))) dNil)))))
    (dIfS (dAnd (dB (dOp2 pvNinO (dVar 3) (dVar 1))) (dB (dOp2 pvLt (dCB fnLen (dCons (dVar 1) dNil)) (dC (.int 3))))) (dExp (dMutL mAppend (dVar 1) (dCons (dFz (dVar 3)) dNil))) dPass))))
    (dSeq (dIfS (dB (dOp2 pvLt (dCB fnLen (dCons (dVar 1) dNil)) (dC (.int 3)))) (dRet (dC (.bl true))) dPass)
    (dSeq (dAsg (dVar 1) (gU 3 (gCons (gN 4) (gCons (gN 5) (gCons (gN 6) gNil)))))
    (dSeq (dFor (dItA (dTup (dCons (dOp2 pvSub (dCall 4 2 d_law_coin (dCons (dVar 0) (dCons (dC (.int 2001)) dNil)) []) (dC (.int 1000))) (dCons (dOp2 pvSub (dOp2 pvSub (dOp2 pvSub (dC (.int 0)) (dVar 4)) (dVar 5)) (dVar 6)) (dCons (dFz (dVar 4)) (dCons (dOp2 pvSub (dOp2 pvSub (dOp2 pvSub (dC (.int 1)) (dVar 4)) (dVar 5)) (dVar 6)) (dCons (dOp2 pvAdd (dVar 5) (dC (.int 1))) dNil))))))) (gN 7) (dIfS (dB (dOp2 pvLe (dCB fnAbs (dCons (dVar 7) dNil)) (dC (.int 1000)))) (dSeq (dSet 8 (dFz (dOp2 pvAdd (dOp2 pvAdd (dOp2 pvAdd (dVar 7) (dVar 4)) (dVar 5)) (dVar 6))))
    (dSeq (dFor (dItA (dVar 1)) (gN 9) (dSet 8 (dOp2 pvMul (dVar 8) (dOp2 pvSub (dVar 7) (dVar 9)))))
    (dSeq (dSet 10 (dOp2 pvSub (dCB fnInt (dCons (dOp2 pvLt (dVar 8) (dC (.int 0))) dNil)) (dCB fnInt (dCons (dOp2 pvGt (dVar 8) (dC (.int 0))) dNil))))
    (dIfS (dB (dOp2 pvNeO (dCall 4 4 d_in_circle (dCons (dTup (dCons (dFz (dVar 4)) (dCons (dOp2 pvMul (dVar 4) (dVar 4)) dNil))) (dCons (dTup (dCons (dFz (dVar 5)) (dCons (dOp2 pvMul (dVar 5) (dVar 5)) dNil))) (dCons (dTup (dCons (dFz (dVar 6)) (dCons (dOp2 pvMul (dVar 6) (dVar 6)) dNil))) (dCons (dTup (dCons (dFz (dVar 7)) (dCons (dOp2 pvMul (dVar 7) (dVar 7)) dNil))) dNil)))) []) (dVar 10))) (dRet (dC (.bl false))) dPass)))) dPass))
    (dRet (dC (.bl true))))))))
def d_law : DS :=
    (dSeq (dFor (dItA (dOp2 pvAdd (dSl (dVar 0) dNo (dSo (dC (.int 5)))) (dLst (dCons (dC (.int 0)) dNil)))) (gN 1) (dSeq (dSet 2 (dCall 1 1 d_law_purse (dCons (dFz (dVar 1)) dNil) []))
    (dFor (dItA (dTup (dCons (dFz (dC (.fn "_law_grids_right"))) (dCons (dFz (dC (.fn "_law_rows_right"))) (dCons (dFz (dC (.fn "_law_parabolas_right"))) (dCons (dFz (dC (.fn "_law_circles_right"))) (dCons (dFz (dC (.fn "_law_zigzags_right"))) dNil))))))) (gN 3) (dIfS (dNot (dB (dCallV [("_law_grids_right", 5, 1, d_law_grids_right), ("_law_rows_right", 6, 1, d_law_rows_right), ("_law_parabolas_right", 6, 1, d_law_parabolas_right), ("_law_circles_right", 11, 1, d_law_circles_right), ("_law_zigzags_right", 5, 1, d_law_zigzags_right)] 3 (dCons (dVar 2) dNil)))) (dRet (dC (.bl false))) dPass))))
    (dSeq (dSet 4 (dOp2 pvPow (dC (.int 10)) (dC (.int 6))))
    (dSeq (dSet 5 (dOp2 pvPow (dOp2 pvSub (dVar 4) (dC (.int 1))) (dC (.int 2))))
    (dSeq (dIfS (dB (dOp2 pvNeO (dCall 3 2 d_grid_counts (dCons (dFz (dVar 4)) (dCons (dFz (dVar 4)) dNil)) []) (dTup (dCons (dOp2 pvMul (dVar 4) (dVar 4)) (dCons (dOp2 pvMul (dOp2 pvMul (dC (.int 2)) (dVar 4)) (dOp2 pvSub (dVar 4) (dC (.int 1)))) (dCons (dFz (dVar 5)) (dCons (dOp2 pvMul (dC (.int 2)) (dVar 5)) dNil))))))) (dRet (dC (.bl false))) dPass)
    (dRet (dOp2 pvEqO (dCall 4 2 d_parabola_counts (dCons (dOp2 pvSub (dC (.int 0)) (dVar 4)) (dCons (dFz (dVar 4)) dNil)) []) (dTup (dCons (dOp2 pvAdd (dOp2 pvMul (dC (.int 2)) (dVar 4)) (dC (.int 1))) (dCons (dOp2 pvMul (dC (.int 3)) (dVar 4)) (dCons (dFz (dVar 4)) (dCons (dOp2 pvSub (dOp2 pvMul (dC (.int 2)) (dVar 4)) (dC (.int 1))) dNil)))))))))))
/-- what the top has written -/
structure Tx (K : PySem.W.Frag) (mg : Str → Option Value) where
  f_is_integer : Addr
  fd_is_integer : FuncData
  F_is_integer : Fun K "is_integer" "is_integer" s_is_integer f_is_integer fd_is_integer
  b_is_integer : Binds K fd_is_integer ["value"] []
  f_is_between : Addr
  fd_is_between : FuncData
  F_is_between : Fun K "is_between" "is_between" s_is_between f_is_between fd_is_between
  b_is_between : Binds K fd_is_between ["value", "low", "high"] []
  f_check_span : Addr
  fd_check_span : FuncData
  F_check_span : Fun K "check_span" "check_span" s_check_span f_check_span fd_check_span
  b_check_span : Binds K fd_check_span ["word", "value"] []
  f_counted : Addr
  fd_counted : FuncData
  F_counted : Fun K "counted" "counted" s_counted f_counted fd_counted
  b_counted : Binds K fd_counted ["many", "faces", "triangles"] []
  f_check_sides : Addr
  fd_check_sides : FuncData
  F_check_sides : Fun K "check_sides" "check_sides" s_check_sides f_check_sides fd_check_sides
  b_check_sides : Binds K fd_check_sides ["low", "m", "n"] []
  f_two_rows_counts : Addr
  fd_two_rows_counts : FuncData
  F_two_rows_counts : Fun K "two_rows_counts" "two_rows_counts" s_two_rows_counts f_two_rows_counts fd_two_rows_counts
  b_two_rows_counts : Binds K fd_two_rows_counts ["m", "n", "shift"] []
  f_law_coin : Addr
  fd_law_coin : FuncData
  F_law_coin : Fun K "_law_coin" "_law_coin" s_law_coin f_law_coin fd_law_coin
  b_law_coin : Binds K fd_law_coin ["_law_purse_here", "_law_many"] []
  f_law_pick : Addr
  fd_law_pick : FuncData
  F_law_pick : Fun K "_law_pick" "_law_pick" s_law_pick f_law_pick fd_law_pick
  b_law_pick : Binds K fd_law_pick ["_law_purse_here", "_law_some"] []
  f_law_size : Addr
  fd_law_size : FuncData
  F_law_size : Fun K "_law_size" "_law_size" s_law_size f_law_size fd_law_size
  b_law_size : Binds K fd_law_size ["_law_purse_here", "_law_least_so"] []
  f_law_rows_right : Addr
  fd_law_rows_right : FuncData
  F_law_rows_right : Fun K "_law_rows_right" "_law_rows_right" s_law_rows_right f_law_rows_right fd_law_rows_right
  b_law_rows_right : Binds K fd_law_rows_right ["_law_purse_here"] []
  f_law_whole : Addr
  fd_law_whole : FuncData
  F_law_whole : Fun K "_law_whole" "_law_whole" s_law_whole f_law_whole fd_law_whole
  b_law_whole : Binds K fd_law_whole ["_law_found"] []
  f_zigzag_counts : Addr
  fd_zigzag_counts : FuncData
  F_zigzag_counts : Fun K "zigzag_counts" "zigzag_counts" s_zigzag_counts f_zigzag_counts fd_zigzag_counts
  b_zigzag_counts : Binds K fd_zigzag_counts ["m", "n"] []
  f_law_zigzags_right : Addr
  fd_law_zigzags_right : FuncData
  F_law_zigzags_right : Fun K "_law_zigzags_right" "_law_zigzags_right" s_law_zigzags_right f_law_zigzags_right fd_law_zigzags_right
  b_law_zigzags_right : Binds K fd_law_zigzags_right ["_law_purse_here"] []
  f_law_purse : Addr
  fd_law_purse : FuncData
  F_law_purse : Fun K "_law_purse" "_law_purse" s_law_purse f_law_purse fd_law_purse
  b_law_purse : Binds K fd_law_purse ["_law_figure"] []
  f_grid_counts : Addr
  fd_grid_counts : FuncData
  F_grid_counts : Fun K "grid_counts" "grid_counts" s_grid_counts f_grid_counts fd_grid_counts
  b_grid_counts : Binds K fd_grid_counts ["m", "n"] []
  f_law_grids_right : Addr
  fd_law_grids_right : FuncData
  F_law_grids_right : Fun K "_law_grids_right" "_law_grids_right" s_law_grids_right f_law_grids_right fd_law_grids_right
  b_law_grids_right : Binds K fd_law_grids_right ["_law_purse_here"] []
  f_check_ends : Addr
  fd_check_ends : FuncData
  F_check_ends : Fun K "check_ends" "check_ends" s_check_ends f_check_ends fd_check_ends
  b_check_ends : Binds K fd_check_ends ["low", "high"] []
  f_parabola_counts : Addr
  fd_parabola_counts : FuncData
  F_parabola_counts : Fun K "parabola_counts" "parabola_counts" s_parabola_counts f_parabola_counts fd_parabola_counts
  b_parabola_counts : Binds K fd_parabola_counts ["low", "high"] []
  f_law_parabolas_right : Addr
  fd_law_parabolas_right : FuncData
  F_law_parabolas_right : Fun K "_law_parabolas_right" "_law_parabolas_right" s_law_parabolas_right f_law_parabolas_right fd_law_parabolas_right
  b_law_parabolas_right : Binds K fd_law_parabolas_right ["_law_purse_here"] []
  f_is_site : Addr
  fd_is_site : FuncData
  F_is_site : Fun K "is_site" "is_site" s_is_site f_is_site fd_is_site
  b_is_site : Binds K fd_is_site ["value"] []
  f_check_site : Addr
  fd_check_site : FuncData
  F_check_site : Fun K "check_site" "check_site" s_check_site f_check_site fd_check_site
  b_check_site : Binds K fd_check_site ["argument", "value"] []
  f_check_circle : Addr
  fd_check_circle : FuncData
  F_check_circle : Fun K "check_circle" "check_circle" s_check_circle f_check_circle fd_check_circle
  b_check_circle : Binds K fd_check_circle ["a", "b", "c"] []
  f_turn : Addr
  fd_turn : FuncData
  F_turn : Fun K "turn" "turn" s_turn f_turn fd_turn
  b_turn : Binds K fd_turn ["a", "b", "c"] []
  f_sign : Addr
  fd_sign : FuncData
  F_sign : Fun K "sign" "sign" s_sign f_sign fd_sign
  b_sign : Binds K fd_sign ["value"] []
  f_power : Addr
  fd_power : FuncData
  F_power : Fun K "power" "power" s_power f_power fd_power
  b_power : Binds K fd_power ["a", "b", "c", "d"] []
  f_inside : Addr
  fd_inside : FuncData
  F_inside : Fun K "inside" "inside" s_inside f_inside fd_inside
  b_inside : Binds K fd_inside ["a", "b", "c", "d"] []
  f_in_circle : Addr
  fd_in_circle : FuncData
  F_in_circle : Fun K "in_circle" "in_circle" s_in_circle f_in_circle fd_in_circle
  b_in_circle : Binds K fd_in_circle ["a", "b", "c", "d"] []
  f_law_circles_right : Addr
  fd_law_circles_right : FuncData
  F_law_circles_right : Fun K "_law_circles_right" "_law_circles_right" s_law_circles_right f_law_circles_right fd_law_circles_right
  b_law_circles_right : Binds K fd_law_circles_right ["_law_purse_here"] []
  f_law : Addr
  fd_law : FuncData
  F_law : Fun K "law" "law" s_law f_law fd_law
  b_law : Binds K fd_law ["_law_script"] []
  g_parabola_counts : mg "parabola_counts" = some (.ref f_parabola_counts)
  g_grid_counts : mg "grid_counts" = some (.ref f_grid_counts)
  g__law_zigzags_right : mg "_law_zigzags_right" = some (.ref f_law_zigzags_right)
  g__law_circles_right : mg "_law_circles_right" = some (.ref f_law_circles_right)
  g__law_parabolas_right : mg "_law_parabolas_right" = some (.ref f_law_parabolas_right)
  g__law_rows_right : mg "_law_rows_right" = some (.ref f_law_rows_right)
  g__law_grids_right : mg "_law_grids_right" = some (.ref f_law_grids_right)
  g__law_purse : mg "_law_purse" = some (.ref f_law_purse)
  g_two_rows_counts : mg "two_rows_counts" = some (.ref f_two_rows_counts)
  z_min : mg "min" = none
  z_max : mg "max" = none
  g__law_pick : mg "_law_pick" = some (.ref f_law_pick)
  z_int : mg "int" = none
  g__law_coin : mg "_law_coin" = some (.ref f_law_coin)
  g__law_size : mg "_law_size" = some (.ref f_law_size)
  g_counted : mg "counted" = some (.ref f_counted)
  g_check_span : mg "check_span" = some (.ref f_check_span)
  g_check_sides : mg "check_sides" = some (.ref f_check_sides)
  g_is_between : mg "is_between" = some (.ref f_is_between)
  t_MOST_COORDINATE : Tok
  v_MOST_COORDINATE : mg "MOST_COORDINATE" = some (.int 1000000 t_MOST_COORDINATE)
  g_is_integer : mg "is_integer" = some (.ref f_is_integer)
  z_bool : mg "bool" = none
  z_isinstance : mg "isinstance" = none
  t_MOST_SIDE : Tok
  v_MOST_SIDE : mg "MOST_SIDE" = some (.int 1000000 t_MOST_SIDE)
  z_len : mg "len" = none
  g__law_whole : mg "_law_whole" = some (.ref f_law_whole)
  g_zigzag_counts : mg "zigzag_counts" = some (.ref f_zigzag_counts)
  z_abs : mg "abs" = none
  g_check_ends : mg "check_ends" = some (.ref f_check_ends)
  g_in_circle : mg "in_circle" = some (.ref f_in_circle)
  z_range : mg "range" = none
  g_inside : mg "inside" = some (.ref f_inside)
  g_turn : mg "turn" = some (.ref f_turn)
  g_check_site : mg "check_site" = some (.ref f_check_site)
  g_check_circle : mg "check_circle" = some (.ref f_check_circle)
  g_is_site : mg "is_site" = some (.ref f_is_site)
  z_all : mg "all" = none
  z_tuple : mg "tuple" = none
  g_sign : mg "sign" = some (.ref f_sign)
  g_power : mg "power" = some (.ref f_power)
section
variable {P : Program} {w : World} {K : PySem.W.Frag} {mg : Str → Option Value} {base : Heap}
theorem ok_is_integer (T : Tx K mg) : FnOk P w K mg base (L2.CX P w) 1 T.f_is_integer T.fd_is_integer ["value"] (spD ⟨P, w, K, mg⟩ N_is_integer 1 d_is_integer) :=
  fn_ok T.F_is_integer sc_is_integer fun cdv A outer s H E hr =>
    (z_one (z_ret (z_vand (z_cB opn_isi cr_isiZ (by rfl) T.z_isinstance rfl (z_acons (z_v (i := 0)) (z_acons (z_ty (by rfl) T.z_int rfl) z_anil))) (z_vone (z_vnot (z_cB opn_isi cr_isiZ (by rfl) T.z_isinstance rfl (z_acons (z_v (i := 0)) (z_acons (z_ty (by rfl) T.z_bool rfl) z_anil))))))))
theorem ok_is_between (T : Tx K mg) : FnOk P w K mg base (L2.CX P w) 2 T.f_is_between T.fd_is_between ["value", "low", "high"] (spD ⟨P, w, K, mg⟩ N_is_between 3 d_is_between) :=
  fn_ok T.F_is_between sc_is_between fun cdv A outer s H E hr =>
    (z_one (z_ret (z_vand (z_call (N := N_is_integer) (ok_is_integer T) (hr.mono (by decide)) (by rfl) T.g_is_integer T.F_is_integer.kp T.b_is_integer .nil (fun _ _ => RFs.nil_) (takes_of rfl rfl rfl rfl) (z_acons (z_fz (z_v (i := 0))) z_anil) (by decide)) (z_vone (z_ch op_le op_le op2_le op2_le (z_v (i := 1)) (z_v (i := 0)) (z_v (i := 2)))))))
theorem ok_check_span (T : Tx K mg) : FnOk P w K mg base (L2.CX P w) 3 T.f_check_span T.fd_check_span ["word", "value"] (spD ⟨P, w, K, mg⟩ N_check_span 2 d_check_span) :=
  fn_ok T.F_check_span sc_check_span fun cdv A outer s H E hr =>
    (z_one (z_ifS (z_not (z_B (z_call (N := N_is_between) (ok_is_between T) (hr.mono (by decide)) (by rfl) T.g_is_between T.F_is_between.kp T.b_is_between .nil (fun _ _ => RFs.nil_) (takes_of rfl rfl rfl rfl) (z_acons (z_fz (z_v (i := 1))) (z_acons (z_sub z_int (z_glob (by rfl) T.v_MOST_COORDINATE)) (z_acons (z_fz (z_glob (by rfl) T.v_MOST_COORDINATE)) z_anil))) (by decide)))) (z_one z_never) z_nil))
theorem ok_counted (T : Tx K mg) : FnOk P w K mg base (L2.CX P w) 1 T.f_counted T.fd_counted ["many", "faces", "triangles"] (spD ⟨P, w, K, mg⟩ N_counted 3 d_counted) :=
  fn_ok T.F_counted sc_counted fun cdv A outer s H E hr =>
    (z_one (z_ret (z_tup (z_acons (z_fz (z_v (i := 0))) (z_acons (z_sub (z_add (z_v (i := 0)) (z_v (i := 1))) z_int) (z_acons (z_fz (z_v (i := 1))) (z_acons (z_fz (z_v (i := 2))) z_anil)))))))
theorem ok_check_sides (T : Tx K mg) : FnOk P w K mg base (L2.CX P w) 3 T.f_check_sides T.fd_check_sides ["low", "m", "n"] (spD ⟨P, w, K, mg⟩ N_check_sides 3 d_check_sides) :=
  fn_ok T.F_check_sides sc_check_sides fun cdv A outer s H E hr =>
    (z_one (z_for (passes_of rfl) rfl (zi_seqA (z_lst (z_acons (z_tup (z_acons z_str (z_acons (z_fz (z_v (i := 1))) z_anil))) (z_acons (z_tup (z_acons z_str (z_acons (z_fz (z_v (i := 2))) z_anil))) z_anil)))) (zg_seq rfl (zg_cons (zg_name (i := 3) sc_check_sides.nd rfl (Or.inl rfl)) (zg_cons (zg_name (i := 4) sc_check_sides.nd rfl (Or.inl rfl)) zg_nil))) (z_one (z_ifS (z_not (z_B (z_call (N := N_is_between) (ok_is_between T) (hr.mono (by decide)) (by rfl) T.g_is_between T.F_is_between.kp T.b_is_between .nil (fun _ _ => RFs.nil_) (takes_of rfl rfl rfl rfl) (z_acons (z_fz (z_v (i := 4))) (z_acons (z_fz (z_v (i := 0))) (z_acons (z_fz (z_glob (by rfl) T.v_MOST_SIDE)) z_anil))) (by decide)))) (z_one z_never) z_nil))))
theorem ok_two_rows_counts (T : Tx K mg) : FnOk P w K mg base (L2.CX P w) 4 T.f_two_rows_counts T.fd_two_rows_counts ["m", "n", "shift"] (spD ⟨P, w, K, mg⟩ N_two_rows_counts 3 d_two_rows_counts) :=
  fn_ok T.F_two_rows_counts sc_two_rows_counts fun cdv A outer s H E hr =>
    (z_cons (z_exp (z_call (N := N_check_sides) (ok_check_sides T) (hr.mono (by decide)) (by rfl) T.g_check_sides T.F_check_sides.kp T.b_check_sides .nil (fun _ _ => RFs.nil_) (takes_of rfl rfl rfl rfl) (z_acons z_int (z_acons (z_fz (z_v (i := 0))) (z_acons (z_fz (z_v (i := 1))) z_anil))) (by decide)))
    (z_cons (z_exp (z_call (N := N_check_span) (ok_check_span T) (hr.mono (by decide)) (by rfl) T.g_check_span T.F_check_span.kp T.b_check_span .nil (fun _ _ => RFs.nil_) (takes_of rfl rfl rfl rfl) (z_acons z_str (z_acons (z_fz (z_v (i := 2))) z_anil)) (by decide)))
    (z_cons (z_set (i := 3) sc_two_rows_counts.nd rfl (Or.inl rfl) (z_sub (z_cB opn_min (cr_minZ rfl) (by rfl) T.z_min rfl (z_acons (z_v (i := 0)) (z_acons (z_add (z_v (i := 2)) (z_v (i := 1))) z_anil))) (z_cB opn_max (cr_maxZ rfl) (by rfl) T.z_max rfl (z_acons z_int (z_acons (z_v (i := 2)) z_anil)))))
    (z_cons (z_set (i := 4) sc_two_rows_counts.nd rfl (Or.inl rfl) (z_sub (z_add (z_v (i := 0)) (z_v (i := 1))) z_int))
    (z_one (z_ret (z_call (N := N_counted) (ok_counted T) (hr.mono (by decide)) (by rfl) T.g_counted T.F_counted.kp T.b_counted .nil (fun _ _ => RFs.nil_) (takes_of rfl rfl rfl rfl) (z_acons (z_fz (z_add (z_v (i := 0)) (z_v (i := 1)))) (z_acons (z_sub (z_v (i := 4)) (z_cB opn_max (cr_maxZ rfl) (by rfl) T.z_max rfl (z_acons z_int (z_acons (z_sub (z_v (i := 3)) z_int) z_anil)))) (z_acons (z_fz (z_v (i := 4))) z_anil))) (by decide))))))))
theorem ok_law_coin (T : Tx K mg) : FnOk P w K mg base (L2.CX P w) 1 T.f_law_coin T.fd_law_coin ["_law_purse_here", "_law_many"] (spD ⟨P, w, K, mg⟩ N_law_coin 2 d_law_coin) :=
  fn_ok T.F_law_coin sc_law_coin fun cdv A outer s H E hr =>
    (z_cons (z_ifS (zt_cmp op_gt op2_gt (z_ixA (huz hr) (z_v (i := 0)) z_int) z_int (nomark _)) (z_cons (z_set (i := 2) sc_law_coin.nd rfl (Or.inl rfl) (z_mod (z_cT opn_int call_int1 (by rfl) T.z_int rfl (z_acons (z_ixA (huz hr) (z_v (i := 0)) z_int) z_anil)) (z_v (i := 1))))
    (z_cons (z_asg (z_fdiv (z_ixA (huz hr) (z_v (i := 0)) z_int) (z_v (i := 1))) (zg_sub (huz hr) (z_v (i := 0)) z_int))
    (z_one (z_ret (z_v (i := 2)))))) z_nil)
    (z_cons (z_asg (z_add (z_ixA (huz hr) (z_v (i := 0)) z_int) z_int) (zg_sub (huz hr) (z_v (i := 0)) z_int))
    (z_cons (z_set (i := 3) sc_law_coin.nd rfl (Or.inl rfl) (z_mod (z_cT opn_int call_int1 (by rfl) T.z_int rfl (z_acons (z_pow (z_add (z_add (z_ixA (huz hr) (z_v (i := 0)) z_int) (z_mul z_int (z_ixA (huz hr) (z_v (i := 0)) z_int))) z_int) z_int) z_anil)) z_int))
    (z_cons (z_set (i := 3) sc_law_coin.nd rfl (Or.inl rfl) (z_mod (z_cT opn_int call_int1 (by rfl) T.z_int rfl (z_acons (z_mul (z_add (z_v (i := 3)) (z_mul z_int (z_ixA (huz hr) (z_v (i := 0)) z_int))) (z_add (z_fdiv (z_v (i := 3)) z_int) z_int)) z_anil)) z_int))
    (z_one (z_ret (z_mod (z_cT opn_int call_int1 (by rfl) T.z_int rfl (z_acons (z_fdiv (z_mod (z_cT opn_int call_int1 (by rfl) T.z_int rfl (z_acons (z_mul (z_v (i := 3)) (z_add (z_fdiv (z_v (i := 3)) z_int) z_int)) z_anil)) z_int) z_int) z_anil)) (z_v (i := 1)))))))))
theorem ok_law_pick (T : Tx K mg) : FnOk P w K mg base (L2.CX P w) 2 T.f_law_pick T.fd_law_pick ["_law_purse_here", "_law_some"] (spD ⟨P, w, K, mg⟩ N_law_pick 2 d_law_pick) :=
  fn_ok T.F_law_pick sc_law_pick fun cdv A outer s H E hr =>
    (z_one (z_ret (z_ixA (huz hr) (z_v (i := 1)) (z_call (N := N_law_coin) (ok_law_coin T) (hr.mono (by decide)) (by rfl) T.g__law_coin T.F_law_coin.kp T.b_law_coin .nil (fun _ _ => RFs.nil_) (takes_of rfl rfl rfl rfl) (z_acons (z_v (i := 0)) (z_acons (z_fz (z_cB opn_len call_len_seq (by rfl) T.z_len rfl (z_acons (z_v (i := 1)) z_anil))) z_anil)) (by decide)))))
theorem ok_law_size (T : Tx K mg) : FnOk P w K mg base (L2.CX P w) 3 T.f_law_size T.fd_law_size ["_law_purse_here", "_law_least_so"] (spD ⟨P, w, K, mg⟩ N_law_size 2 d_law_size) :=
  fn_ok T.F_law_size sc_law_size fun cdv A outer s H E hr =>
    (z_one (z_ret (z_add (z_v (i := 1)) (z_call (N := N_law_coin) (ok_law_coin T) (hr.mono (by decide)) (by rfl) T.g__law_coin T.F_law_coin.kp T.b_law_coin .nil (fun _ _ => RFs.nil_) (takes_of rfl rfl rfl rfl) (z_acons (z_v (i := 0)) (z_acons (z_fz (z_call (N := N_law_pick) (ok_law_pick T) (hr.mono (by decide)) (by rfl) T.g__law_pick T.F_law_pick.kp T.b_law_pick .nil (fun _ _ => RFs.nil_) (takes_of rfl rfl rfl rfl) (z_acons (z_v (i := 0)) (z_acons (z_fz (z_lst (z_acons z_int (z_acons z_int (z_acons (z_add (z_sub (z_pow z_int z_int) (z_v (i := 1))) z_int) z_anil))))) z_anil)) (by decide))) z_anil)) (by decide)))))
theorem ok_law_rows_right (T : Tx K mg) : FnOk P w K mg base (L2.CX P w) 5 T.f_law_rows_right T.fd_law_rows_right ["_law_purse_here"] (spD ⟨P, w, K, mg⟩ N_law_rows_right 1 d_law_rows_right) :=
  fn_ok T.F_law_rows_right sc_law_rows_right fun cdv A outer s H E hr =>
    (z_cons (z_par3 (i := 1) (j := 2) (l := 3) rfl sc_law_rows_right.nd rfl rfl rfl (by decide) (by decide) (by decide) rfl rfl rfl (z_acons (z_fz (z_call (N := N_law_size) (ok_law_size T) (hr.mono (by decide)) (by rfl) T.g__law_size T.F_law_size.kp T.b_law_size .nil (fun _ _ => RFs.nil_) (takes_of rfl rfl rfl rfl) (z_acons (z_v (i := 0)) (z_acons z_int z_anil)) (by decide))) (z_acons (z_fz (z_call (N := N_law_size) (ok_law_size T) (hr.mono (by decide)) (by rfl) T.g__law_size T.F_law_size.kp T.b_law_size .nil (fun _ _ => RFs.nil_) (takes_of rfl rfl rfl rfl) (z_acons (z_v (i := 0)) (z_acons z_int z_anil)) (by decide))) (z_acons (z_sub (z_call (N := N_law_coin) (ok_law_coin T) (hr.mono (by decide)) (by rfl) T.g__law_coin T.F_law_coin.kp T.b_law_coin .nil (fun _ _ => RFs.nil_) (takes_of rfl rfl rfl rfl) (z_acons (z_v (i := 0)) (z_acons (z_add (z_mul z_int (z_pow z_int z_int)) z_int) z_anil)) (by decide)) (z_pow z_int z_int)) z_anil))) rfl)
    (z_cons (z_set (i := 3) sc_law_rows_right.nd rfl (Or.inl rfl) (z_fz (z_call (N := N_law_pick) (ok_law_pick T) (hr.mono (by decide)) (by rfl) T.g__law_pick T.F_law_pick.kp T.b_law_pick .nil (fun _ _ => RFs.nil_) (takes_of rfl rfl rfl rfl) (z_acons (z_v (i := 0)) (z_acons (z_fz (z_lst (z_acons (z_fz (z_v (i := 3))) (z_acons z_int (z_acons (z_sub z_int (z_v (i := 2))) (z_acons (z_sub (z_v (i := 1)) z_int) (z_acons (z_fz (z_v (i := 1))) (z_acons (z_sub z_int (z_v (i := 2))) (z_acons (z_sub (z_mod (z_cT opn_int call_int1 (by rfl) T.z_int rfl (z_acons (z_v (i := 3)) z_anil)) (z_add (z_v (i := 1)) (z_v (i := 2)))) (z_v (i := 2))) z_anil))))))))) z_anil)) (by decide))))
    (z_cons (z_set (i := 3) sc_law_rows_right.nd rfl (Or.inl rfl) (z_fz (z_cB opn_max (cr_maxZ rfl) (by rfl) T.z_max rfl (z_acons (z_neg (z_pow z_int z_int)) (z_acons (z_cB opn_min (cr_minZ rfl) (by rfl) T.z_min rfl (z_acons (z_pow z_int z_int) (z_acons (z_v (i := 3)) z_anil))) z_anil)))))
    (z_cons (z_par (i := 4) (j := 5) rfl sc_law_rows_right.nd rfl rfl (by decide) rfl rfl (z_acons (z_fz (z_call (N := N_two_rows_counts) (ok_two_rows_counts T) (hr.mono (by decide)) (by rfl) T.g_two_rows_counts T.F_two_rows_counts.kp T.b_two_rows_counts .nil (fun _ _ => RFs.nil_) (takes_of rfl rfl rfl rfl) (z_acons (z_fz (z_v (i := 1))) (z_acons (z_fz (z_v (i := 2))) (z_acons (z_fz (z_v (i := 3))) z_anil))) (by decide))) (z_acons (z_fz (z_cB opn_max (cr_maxZ rfl) (by rfl) T.z_max rfl (z_acons z_int (z_acons (z_sub (z_sub (z_cB opn_min (cr_minZ rfl) (by rfl) T.z_min rfl (z_acons (z_v (i := 1)) (z_acons (z_add (z_v (i := 3)) (z_v (i := 2))) z_anil))) (z_cB opn_max (cr_maxZ rfl) (by rfl) T.z_max rfl (z_acons z_int (z_acons (z_v (i := 3)) z_anil)))) z_int) z_anil)))) z_anil)) rfl)
    (z_cons (z_ifS (zt_cmp (op_neD hr.units) op2_ne (z_v (i := 4)) (z_tup (z_acons (z_fz (z_add (z_v (i := 1)) (z_v (i := 2)))) (z_acons (z_sub (z_sub (z_mul z_int (z_add (z_v (i := 1)) (z_v (i := 2)))) z_int) (z_v (i := 5))) (z_acons (z_sub (z_sub (z_add (z_v (i := 1)) (z_v (i := 2))) z_int) (z_v (i := 5))) (z_acons (z_sub (z_add (z_v (i := 1)) (z_v (i := 2))) z_int) z_anil))))) (nomark _)) (z_one (z_ret z_bl)) z_nil)
    (z_one (z_ret (z_cmp (op_eqD hr.units) op2_eq (z_call (N := N_two_rows_counts) (ok_two_rows_counts T) (hr.mono (by decide)) (by rfl) T.g_two_rows_counts T.F_two_rows_counts.kp T.b_two_rows_counts .nil (fun _ _ => RFs.nil_) (takes_of rfl rfl rfl rfl) (z_acons (z_fz (z_v (i := 2))) (z_acons (z_fz (z_v (i := 1))) (z_acons (z_sub z_int (z_v (i := 3))) z_anil))) (by decide)) (z_v (i := 4)) (nomark _)))))))))
theorem ok_law_whole (T : Tx K mg) : FnOk P w K mg base (L2.CX P w) 1 T.f_law_whole T.fd_law_whole ["_law_found"] (spD ⟨P, w, K, mg⟩ N_law_whole 1 d_law_whole) :=
  fn_ok T.F_law_whole sc_law_whole fun cdv A outer s H E hr =>
    (z_one (z_ret (z_vand (z_cmp (op_eqD hr.units) op2_eq (z_add (z_ixA (huz hr) (z_v (i := 0)) z_int) (z_ixA (huz hr) (z_v (i := 0)) z_int)) (z_add (z_ixA (huz hr) (z_v (i := 0)) z_int) z_int) (nomark _)) (z_vand (z_cmp op_le op2_le (z_ixA (huz hr) (z_v (i := 0)) z_int) (z_ixA (huz hr) (z_v (i := 0)) z_int) (nomark _)) (z_vone (z_cmp op_le op2_le (z_ixA (huz hr) (z_v (i := 0)) z_int) (z_sub (z_mul z_int (z_ixA (huz hr) (z_v (i := 0)) z_int)) z_int) (nomark _)))))))
theorem ok_zigzag_counts (T : Tx K mg) : FnOk P w K mg base (L2.CX P w) 4 T.f_zigzag_counts T.fd_zigzag_counts ["m", "n"] (spD ⟨P, w, K, mg⟩ N_zigzag_counts 2 d_zigzag_counts) :=
  fn_ok T.F_zigzag_counts sc_zigzag_counts fun cdv A outer s H E hr =>
    (z_cons (z_exp (z_call (N := N_check_sides) (ok_check_sides T) (hr.mono (by decide)) (by rfl) T.g_check_sides T.F_check_sides.kp T.b_check_sides .nil (fun _ _ => RFs.nil_) (takes_of rfl rfl rfl rfl) (z_acons z_int (z_acons (z_fz (z_v (i := 0))) (z_acons (z_fz (z_v (i := 1))) z_anil))) (by decide)))
    (z_cons (z_set (i := 2) sc_zigzag_counts.nd rfl (Or.inl rfl) (z_sub (z_sub (z_mul (z_mul z_int (z_v (i := 0))) (z_v (i := 1))) (z_mul z_int (z_v (i := 0)))) (z_v (i := 1))))
    (z_one (z_ret (z_call (N := N_counted) (ok_counted T) (hr.mono (by decide)) (by rfl) T.g_counted T.F_counted.kp T.b_counted .nil (fun _ _ => RFs.nil_) (takes_of rfl rfl rfl rfl) (z_acons (z_mul (z_v (i := 0)) (z_v (i := 1))) (z_acons (z_fz (z_v (i := 2))) (z_acons (z_fz (z_v (i := 2))) z_anil))) (by decide))))))
theorem ok_law_zigzags_right (T : Tx K mg) : FnOk P w K mg base (L2.CX P w) 5 T.f_law_zigzags_right T.fd_law_zigzags_right ["_law_purse_here"] (spD ⟨P, w, K, mg⟩ N_law_zigzags_right 1 d_law_zigzags_right) :=
  fn_ok T.F_law_zigzags_right sc_law_zigzags_right fun cdv A outer s H E hr =>
    (z_cons (z_par (i := 1) (j := 2) rfl sc_law_zigzags_right.nd rfl rfl (by decide) rfl rfl (z_acons (z_fz (z_call (N := N_law_size) (ok_law_size T) (hr.mono (by decide)) (by rfl) T.g__law_size T.F_law_size.kp T.b_law_size .nil (fun _ _ => RFs.nil_) (takes_of rfl rfl rfl rfl) (z_acons (z_v (i := 0)) (z_acons z_int z_anil)) (by decide))) (z_acons (z_fz (z_call (N := N_law_size) (ok_law_size T) (hr.mono (by decide)) (by rfl) T.g__law_size T.F_law_size.kp T.b_law_size .nil (fun _ _ => RFs.nil_) (takes_of rfl rfl rfl rfl) (z_acons (z_v (i := 0)) (z_acons z_int z_anil)) (by decide))) z_anil)) rfl)
    (z_cons (z_set (i := 3) sc_law_zigzags_right.nd rfl (Or.inl rfl) (z_fz (z_call (N := N_zigzag_counts) (ok_zigzag_counts T) (hr.mono (by decide)) (by rfl) T.g_zigzag_counts T.F_zigzag_counts.kp T.b_zigzag_counts .nil (fun _ _ => RFs.nil_) (takes_of rfl rfl rfl rfl) (z_acons (z_fz (z_v (i := 1))) (z_acons (z_fz (z_v (i := 2))) z_anil)) (by decide))))
    (z_cons (z_set (i := 4) sc_law_zigzags_right.nd rfl (Or.inl rfl) (z_sub (z_add (z_mul z_int (z_v (i := 1))) (z_v (i := 2))) z_int))
    (z_one (z_ret (z_vand (z_ch (op_eqD hr.units) (op_eqD hr.units) op2_eq op2_eq (z_ixA (huz hr) (z_v (i := 3)) z_int) (z_sub (z_sub (z_mul z_int (z_ixA (huz hr) (z_v (i := 3)) z_int)) z_int) (z_v (i := 4))) (z_ixA (huz hr) (z_v (i := 3)) z_int)) (z_vand (z_cmp (op_eqD hr.units) op2_eq (z_ixA (huz hr) (z_v (i := 3)) z_int) (z_mul (z_v (i := 1)) (z_v (i := 2))) (nomark _)) (z_vone (z_call (N := N_law_whole) (ok_law_whole T) (hr.mono (by decide)) (by rfl) T.g__law_whole T.F_law_whole.kp T.b_law_whole .nil (fun _ _ => RFs.nil_) (takes_of rfl rfl rfl rfl) (z_acons (z_fz (z_v (i := 3))) z_anil) (by decide))))))))))
theorem ok_law_purse (T : Tx K mg) : FnOk P w K mg base (L2.CX P w) 1 T.f_law_purse T.fd_law_purse ["_law_figure"] (spD ⟨P, w, K, mg⟩ N_law_purse 1 d_law_purse) :=
  fn_ok T.F_law_purse sc_law_purse fun cdv A outer s H E hr =>
    (z_one (z_ret (z_lst (z_acons (z_mul (z_cB opn_abs call_abs (by rfl) T.z_abs rfl (z_acons (z_v (i := 0)) z_anil)) (z_cT opn_int call_int1 (by rfl) T.z_int rfl (z_acons (z_cmp op_ge op2_ge (z_cB opn_abs call_abs (by rfl) T.z_abs rfl (z_acons (z_v (i := 0)) z_anil)) (z_pow z_int z_int) (nomark _)) z_anil))) (z_acons (z_mod (z_cT opn_int call_int1 (by rfl) T.z_int rfl (z_acons (z_v (i := 0)) z_anil)) z_int) (z_acons z_int z_anil))))))
theorem ok_grid_counts (T : Tx K mg) : FnOk P w K mg base (L2.CX P w) 4 T.f_grid_counts T.fd_grid_counts ["m", "n"] (spD ⟨P, w, K, mg⟩ N_grid_counts 2 d_grid_counts) :=
  fn_ok T.F_grid_counts sc_grid_counts fun cdv A outer s H E hr =>
    (z_cons (z_exp (z_call (N := N_check_sides) (ok_check_sides T) (hr.mono (by decide)) (by rfl) T.g_check_sides T.F_check_sides.kp T.b_check_sides .nil (fun _ _ => RFs.nil_) (takes_of rfl rfl rfl rfl) (z_acons z_int (z_acons (z_fz (z_v (i := 0))) (z_acons (z_fz (z_v (i := 1))) z_anil))) (by decide)))
    (z_cons (z_set (i := 2) sc_grid_counts.nd rfl (Or.inl rfl) (z_mul (z_sub (z_v (i := 0)) z_int) (z_sub (z_v (i := 1)) z_int)))
    (z_one (z_ret (z_call (N := N_counted) (ok_counted T) (hr.mono (by decide)) (by rfl) T.g_counted T.F_counted.kp T.b_counted .nil (fun _ _ => RFs.nil_) (takes_of rfl rfl rfl rfl) (z_acons (z_mul (z_v (i := 0)) (z_v (i := 1))) (z_acons (z_fz (z_v (i := 2))) (z_acons (z_mul z_int (z_v (i := 2))) z_anil))) (by decide))))))
theorem ok_law_grids_right (T : Tx K mg) : FnOk P w K mg base (L2.CX P w) 5 T.f_law_grids_right T.fd_law_grids_right ["_law_purse_here"] (spD ⟨P, w, K, mg⟩ N_law_grids_right 1 d_law_grids_right) :=
  fn_ok T.F_law_grids_right sc_law_grids_right fun cdv A outer s H E hr =>
    (z_cons (z_par (i := 1) (j := 2) rfl sc_law_grids_right.nd rfl rfl (by decide) rfl rfl (z_acons (z_fz (z_call (N := N_law_size) (ok_law_size T) (hr.mono (by decide)) (by rfl) T.g__law_size T.F_law_size.kp T.b_law_size .nil (fun _ _ => RFs.nil_) (takes_of rfl rfl rfl rfl) (z_acons (z_v (i := 0)) (z_acons z_int z_anil)) (by decide))) (z_acons (z_fz (z_call (N := N_law_size) (ok_law_size T) (hr.mono (by decide)) (by rfl) T.g__law_size T.F_law_size.kp T.b_law_size .nil (fun _ _ => RFs.nil_) (takes_of rfl rfl rfl rfl) (z_acons (z_v (i := 0)) (z_acons z_int z_anil)) (by decide))) z_anil)) rfl)
    (z_cons (z_set (i := 3) sc_law_grids_right.nd rfl (Or.inl rfl) (z_fz (z_call (N := N_grid_counts) (ok_grid_counts T) (hr.mono (by decide)) (by rfl) T.g_grid_counts T.F_grid_counts.kp T.b_grid_counts .nil (fun _ _ => RFs.nil_) (takes_of rfl rfl rfl rfl) (z_acons (z_fz (z_v (i := 1))) (z_acons (z_fz (z_v (i := 2))) z_anil)) (by decide))))
    (z_cons (z_set (i := 4) sc_law_grids_right.nd rfl (Or.inl rfl) (z_mul (z_sub (z_v (i := 1)) z_int) (z_sub (z_v (i := 2)) z_int)))
    (z_cons (z_ifS (z_or (zt_cmp (op_neD hr.units) op2_ne (z_v (i := 3)) (z_tup (z_acons (z_mul (z_v (i := 1)) (z_v (i := 2))) (z_acons (z_sub (z_sub (z_mul (z_mul z_int (z_v (i := 1))) (z_v (i := 2))) (z_v (i := 1))) (z_v (i := 2))) (z_acons (z_fz (z_v (i := 4))) (z_acons (z_mul z_int (z_v (i := 4))) z_anil))))) (nomark _)) (z_or1 (zt_cmp (op_neD hr.units) op2_ne (z_call (N := N_grid_counts) (ok_grid_counts T) (hr.mono (by decide)) (by rfl) T.g_grid_counts T.F_grid_counts.kp T.b_grid_counts .nil (fun _ _ => RFs.nil_) (takes_of rfl rfl rfl rfl) (z_acons (z_fz (z_v (i := 2))) (z_acons (z_fz (z_v (i := 1))) z_anil)) (by decide)) (z_v (i := 3)) (nomark _)))).pt (z_one (z_ret z_bl)) z_nil)
    (z_one (z_ret (z_vor (z_cmp (op_eqD hr.units) op2_eq (z_ixA (huz hr) (z_v (i := 3)) z_int) z_int (nomark _)) (z_vone (z_call (N := N_law_whole) (ok_law_whole T) (hr.mono (by decide)) (by rfl) T.g__law_whole T.F_law_whole.kp T.b_law_whole .nil (fun _ _ => RFs.nil_) (takes_of rfl rfl rfl rfl) (z_acons (z_fz (z_v (i := 3))) z_anil) (by decide))))))))))
theorem ok_check_ends (T : Tx K mg) : FnOk P w K mg base (L2.CX P w) 4 T.f_check_ends T.fd_check_ends ["low", "high"] (spD ⟨P, w, K, mg⟩ N_check_ends 2 d_check_ends) :=
  fn_ok T.F_check_ends sc_check_ends fun cdv A outer s H E hr =>
    (z_cons (z_exp (z_call (N := N_check_span) (ok_check_span T) (hr.mono (by decide)) (by rfl) T.g_check_span T.F_check_span.kp T.b_check_span .nil (fun _ _ => RFs.nil_) (takes_of rfl rfl rfl rfl) (z_acons z_str (z_acons (z_fz (z_v (i := 0))) z_anil)) (by decide)))
    (z_cons (z_exp (z_call (N := N_check_span) (ok_check_span T) (hr.mono (by decide)) (by rfl) T.g_check_span T.F_check_span.kp T.b_check_span .nil (fun _ _ => RFs.nil_) (takes_of rfl rfl rfl rfl) (z_acons z_str (z_acons (z_fz (z_v (i := 1))) z_anil)) (by decide)))
    (z_one (z_ifS (zt_cmp op_gt op2_gt (z_v (i := 0)) (z_v (i := 1)) (nomark _)) (z_one z_never) z_nil))))
theorem ok_parabola_counts (T : Tx K mg) : FnOk P w K mg base (L2.CX P w) 5 T.f_parabola_counts T.fd_parabola_counts ["low", "high"] (spD ⟨P, w, K, mg⟩ N_parabola_counts 2 d_parabola_counts) :=
  fn_ok T.F_parabola_counts sc_parabola_counts fun cdv A outer s H E hr =>
    (z_cons (z_exp (z_call (N := N_check_ends) (ok_check_ends T) (hr.mono (by decide)) (by rfl) T.g_check_ends T.F_check_ends.kp T.b_check_ends .nil (fun _ _ => RFs.nil_) (takes_of rfl rfl rfl rfl) (z_acons (z_fz (z_v (i := 0))) (z_acons (z_fz (z_v (i := 1))) z_anil)) (by decide)))
    (z_cons (z_set (i := 2) sc_parabola_counts.nd rfl (Or.inl rfl) (z_add (z_sub (z_v (i := 1)) (z_v (i := 0))) z_int))
    (z_cons (z_set (i := 3) sc_parabola_counts.nd rfl (Or.inl rfl) (z_fz (z_cB opn_max (cr_maxZ rfl) (by rfl) T.z_max rfl (z_acons z_int (z_acons (z_sub (z_v (i := 2)) z_int) z_anil)))))
    (z_one (z_ret (z_call (N := N_counted) (ok_counted T) (hr.mono (by decide)) (by rfl) T.g_counted T.F_counted.kp T.b_counted .nil (fun _ _ => RFs.nil_) (takes_of rfl rfl rfl rfl) (z_acons (z_fz (z_v (i := 2))) (z_acons (z_fz (z_if (zt_ch (op_ltZ hr.units0) (op_ltZ hr.units0) op2_lt op2_lt (z_v (i := 0)) z_int (z_v (i := 1))) (z_cB opn_max (cr_maxZ rfl) (by rfl) T.z_max rfl (z_acons (z_sub z_int (z_v (i := 0))) (z_acons (z_v (i := 1)) z_anil))) (z_v (i := 3)))) (z_acons (z_fz (z_v (i := 3))) z_anil))) (by decide)))))))
theorem ok_law_parabolas_right (T : Tx K mg) : FnOk P w K mg base (L2.CX P w) 6 T.f_law_parabolas_right T.fd_law_parabolas_right ["_law_purse_here"] (spD ⟨P, w, K, mg⟩ N_law_parabolas_right 1 d_law_parabolas_right) :=
  fn_ok T.F_law_parabolas_right sc_law_parabolas_right fun cdv A outer s H E hr =>
    (z_cons (z_set (i := 1) sc_law_parabolas_right.nd rfl (Or.inl rfl) (z_sub (z_call (N := N_law_coin) (ok_law_coin T) (hr.mono (by decide)) (by rfl) T.g__law_coin T.F_law_coin.kp T.b_law_coin .nil (fun _ _ => RFs.nil_) (takes_of rfl rfl rfl rfl) (z_acons (z_v (i := 0)) (z_acons (z_fz (z_call (N := N_law_pick) (ok_law_pick T) (hr.mono (by decide)) (by rfl) T.g__law_pick T.F_law_pick.kp T.b_law_pick .nil (fun _ _ => RFs.nil_) (takes_of rfl rfl rfl rfl) (z_acons (z_v (i := 0)) (z_acons (z_fz (z_lst (z_acons z_int (z_acons (z_add (z_mul z_int (z_pow z_int z_int)) z_int) z_anil)))) z_anil)) (by decide))) z_anil)) (by decide)) (z_call (N := N_law_pick) (ok_law_pick T) (hr.mono (by decide)) (by rfl) T.g__law_pick T.F_law_pick.kp T.b_law_pick .nil (fun _ _ => RFs.nil_) (takes_of rfl rfl rfl rfl) (z_acons (z_v (i := 0)) (z_acons (z_fz (z_lst (z_acons z_int (z_acons (z_pow z_int z_int) z_anil)))) z_anil)) (by decide))))
    (z_cons (z_set (i := 1) sc_law_parabolas_right.nd rfl (Or.inl rfl) (z_fz (z_cB opn_min (cr_minZ rfl) (by rfl) T.z_min rfl (z_acons (z_pow z_int z_int) (z_acons (z_v (i := 1)) z_anil)))))
    (z_cons (z_set (i := 2) sc_law_parabolas_right.nd rfl (Or.inl rfl) (z_fz (z_add (z_v (i := 1)) (z_call (N := N_law_coin) (ok_law_coin T) (hr.mono (by decide)) (by rfl) T.g__law_coin T.F_law_coin.kp T.b_law_coin .nil (fun _ _ => RFs.nil_) (takes_of rfl rfl rfl rfl) (z_acons (z_v (i := 0)) (z_acons (z_fz (z_call (N := N_law_pick) (ok_law_pick T) (hr.mono (by decide)) (by rfl) T.g__law_pick T.F_law_pick.kp T.b_law_pick .nil (fun _ _ => RFs.nil_) (takes_of rfl rfl rfl rfl) (z_acons (z_v (i := 0)) (z_acons (z_fz (z_lst (z_acons z_int (z_acons (z_add (z_sub (z_pow z_int z_int) (z_v (i := 1))) z_int) z_anil)))) z_anil)) (by decide))) z_anil)) (by decide)))))
    (z_cons (z_set (i := 2) sc_law_parabolas_right.nd rfl (Or.inl rfl) (z_fz (z_cB opn_min (cr_minZ rfl) (by rfl) T.z_min rfl (z_acons (z_pow z_int z_int) (z_acons (z_v (i := 2)) z_anil)))))
    (z_cons (z_par (i := 3) (j := 4) rfl sc_law_parabolas_right.nd rfl rfl (by decide) rfl rfl (z_acons (z_fz (z_call (N := N_parabola_counts) (ok_parabola_counts T) (hr.mono (by decide)) (by rfl) T.g_parabola_counts T.F_parabola_counts.kp T.b_parabola_counts .nil (fun _ _ => RFs.nil_) (takes_of rfl rfl rfl rfl) (z_acons (z_fz (z_v (i := 1))) (z_acons (z_fz (z_v (i := 2))) z_anil)) (by decide))) (z_acons (z_add (z_sub (z_v (i := 2)) (z_v (i := 1))) z_int) z_anil)) rfl)
    (z_cons (z_set (i := 5) sc_law_parabolas_right.nd rfl (Or.inl rfl) (z_fz (z_if (z_or (zt_cmp op_ge op2_ge (z_v (i := 1)) z_int (nomark _)) (z_or1 (zt_cmp op_le op2_le (z_v (i := 2)) z_int (nomark _)))).pt (z_cB opn_max (cr_maxZ rfl) (by rfl) T.z_max rfl (z_acons z_int (z_acons (z_sub (z_v (i := 4)) z_int) z_anil))) (z_cB opn_max (cr_maxZ rfl) (by rfl) T.z_max rfl (z_acons (z_sub z_int (z_v (i := 1))) (z_acons (z_v (i := 2)) z_anil))))))
    (z_cons (z_ifS (zt_cmp (op_neD hr.units) op2_ne (z_v (i := 3)) (z_tup (z_acons (z_fz (z_v (i := 4))) (z_acons (z_sub (z_add (z_v (i := 4)) (z_v (i := 5))) z_int) (z_acons (z_fz (z_v (i := 5))) (z_acons (z_fz (z_cB opn_max (cr_maxZ rfl) (by rfl) T.z_max rfl (z_acons z_int (z_acons (z_sub (z_v (i := 4)) z_int) z_anil)))) z_anil))))) (nomark _)) (z_one (z_ret z_bl)) z_nil)
    (z_one (z_ret (z_cmp (op_eqD hr.units) op2_eq (z_call (N := N_parabola_counts) (ok_parabola_counts T) (hr.mono (by decide)) (by rfl) T.g_parabola_counts T.F_parabola_counts.kp T.b_parabola_counts .nil (fun _ _ => RFs.nil_) (takes_of rfl rfl rfl rfl) (z_acons (z_sub z_int (z_v (i := 2))) (z_acons (z_sub z_int (z_v (i := 1))) z_anil)) (by decide)) (z_v (i := 3)) (nomark _)))))))))))
theorem ok_is_site (T : Tx K mg) : FnOk P w K mg base (L2.CX P w) 3 T.f_is_site T.fd_is_site ["value"] (spD ⟨P, w, K, mg⟩ N_is_site 1 d_is_site) :=
  fn_ok T.F_is_site sc_is_site fun cdv A outer s H E hr =>
    (z_cons (z_ifS (z_or (z_not (z_B (z_cB opn_isi cr_isiZ (by rfl) T.z_isinstance rfl (z_acons (z_v (i := 0)) (z_acons (z_ty (by rfl) T.z_tuple rfl) z_anil))))) (z_or1 (zt_cmp (op_neD hr.units) op2_ne (z_cB opn_len call_len_seq (by rfl) T.z_len rfl (z_acons (z_v (i := 0)) z_anil)) z_int (nomark _)))).pt (z_one (z_ret z_bl)) z_nil)
    (z_one (z_ret (z_cB opn_all (cr_all rfl) (by rfl) T.z_all rfl (z_acons (z_lc (G := gName 1) (own := [("one", 1)]) rfl (pat_name (by decide)) rfl sc_is_site.nd (zi_seqA (z_v (i := 0))) (blkOk_by (N := N_is_site) (sc := defScope s_is_site) (by decide +kernel)) (fun _ _ _ _ _ => pg_name (i := 1) sc_is_site.nd rfl (Or.inl rfl)) (fun _ _ _ _ _ => zts_nil) (fun _ _ _ _ _ => (z_fz (z_call (N := N_is_between) (ok_is_between T) (hr.mono (by decide)) (by rfl) T.g_is_between T.F_is_between.kp T.b_is_between .nil (fun _ _ => RFs.nil_) takesB (z_acons (z_fz (z_v (i := 1))) (z_acons (z_sub z_int (z_glob (by rfl) T.v_MOST_COORDINATE)) (z_acons (z_fz (z_glob (by rfl) T.v_MOST_COORDINATE)) z_anil))) (by decide))))) z_anil)))))
theorem ok_check_site (T : Tx K mg) : FnOk P w K mg base (L2.CX P w) 4 T.f_check_site T.fd_check_site ["argument", "value"] (spD ⟨P, w, K, mg⟩ N_check_site 2 d_check_site) :=
  fn_ok T.F_check_site sc_check_site fun cdv A outer s H E hr =>
    (z_one (z_ifS (z_not (z_B (z_call (N := N_is_site) (ok_is_site T) (hr.mono (by decide)) (by rfl) T.g_is_site T.F_is_site.kp T.b_is_site .nil (fun _ _ => RFs.nil_) (takes_of rfl rfl rfl rfl) (z_acons (z_fz (z_v (i := 1))) z_anil) (by decide)))) (z_one z_never) z_nil))
theorem ok_check_circle (T : Tx K mg) : FnOk P w K mg base (L2.CX P w) 5 T.f_check_circle T.fd_check_circle ["a", "b", "c"] (spD ⟨P, w, K, mg⟩ N_check_circle 3 d_check_circle) :=
  fn_ok T.F_check_circle sc_check_circle fun cdv A outer s H E hr =>
    (z_cons (z_exp (z_call (N := N_check_site) (ok_check_site T) (hr.mono (by decide)) (by rfl) T.g_check_site T.F_check_site.kp T.b_check_site .nil (fun _ _ => RFs.nil_) (takes_of rfl rfl rfl rfl) (z_acons z_str (z_acons (z_fz (z_v (i := 0))) z_anil)) (by decide)))
    (z_cons (z_exp (z_call (N := N_check_site) (ok_check_site T) (hr.mono (by decide)) (by rfl) T.g_check_site T.F_check_site.kp T.b_check_site .nil (fun _ _ => RFs.nil_) (takes_of rfl rfl rfl rfl) (z_acons z_str (z_acons (z_fz (z_v (i := 1))) z_anil)) (by decide)))
    (z_one (z_exp (z_call (N := N_check_site) (ok_check_site T) (hr.mono (by decide)) (by rfl) T.g_check_site T.F_check_site.kp T.b_check_site .nil (fun _ _ => RFs.nil_) (takes_of rfl rfl rfl rfl) (z_acons z_str (z_acons (z_fz (z_v (i := 2))) z_anil)) (by decide))))))
theorem ok_turn (T : Tx K mg) : FnOk P w K mg base (L2.CX P w) 1 T.f_turn T.fd_turn ["a", "b", "c"] (spD ⟨P, w, K, mg⟩ N_turn 3 d_turn) :=
  fn_ok T.F_turn sc_turn fun cdv A outer s H E hr =>
    (z_one (z_ret (z_sub (z_mul (z_sub (z_ixA (huz hr) (z_v (i := 1)) z_int) (z_ixA (huz hr) (z_v (i := 0)) z_int)) (z_sub (z_ixA (huz hr) (z_v (i := 2)) z_int) (z_ixA (huz hr) (z_v (i := 0)) z_int))) (z_mul (z_sub (z_ixA (huz hr) (z_v (i := 1)) z_int) (z_ixA (huz hr) (z_v (i := 0)) z_int)) (z_sub (z_ixA (huz hr) (z_v (i := 2)) z_int) (z_ixA (huz hr) (z_v (i := 0)) z_int))))))
theorem ok_sign (T : Tx K mg) : FnOk P w K mg base (L2.CX P w) 1 T.f_sign T.fd_sign ["value"] (spD ⟨P, w, K, mg⟩ N_sign 1 d_sign) :=
  fn_ok T.F_sign sc_sign fun cdv A outer s H E hr =>
    (z_one (z_ret (z_sub (z_cT opn_int call_int1 (by rfl) T.z_int rfl (z_acons (z_cmp op_gt op2_gt (z_v (i := 0)) z_int (nomark _)) z_anil)) (z_cT opn_int call_int1 (by rfl) T.z_int rfl (z_acons (z_cmp (op_ltZ hr.units0) op2_lt (z_v (i := 0)) z_int (nomark _)) z_anil)))))
theorem ok_power (T : Tx K mg) : FnOk P w K mg base (L2.CX P w) 1 T.f_power T.fd_power ["a", "b", "c", "d"] (spD ⟨P, w, K, mg⟩ N_power 4 d_power) :=
  fn_ok T.F_power sc_power fun cdv A outer s H E hr =>
    (z_cons (z_setLc (i := 4) (G := gName 12) (own := [("one", 12)]) rfl (pat_name (by decide)) rfl sc_power.nd rfl rfl (sw_true rfl rfl rfl (by decide +kernel)) (zi_seqA (z_tup (z_acons (z_fz (z_v (i := 0))) (z_acons (z_fz (z_v (i := 1))) (z_acons (z_fz (z_v (i := 2))) z_anil))))) (blkOk_by (N := N_power) (sc := defScope s_power) (by decide +kernel)) (fun _ _ _ _ _ => pg_name (i := 12) sc_power.nd rfl (Or.inl rfl)) (fun _ _ _ _ _ => zts_nil) (fun _ _ _ _ _ => (z_tup (z_acons (z_sub (z_ixA (huz hr) (z_v (i := 12)) z_int) (z_ixA (huz hr) (z_v (i := 3)) z_int)) (z_acons (z_sub (z_ixA (huz hr) (z_v (i := 12)) z_int) (z_ixA (huz hr) (z_v (i := 3)) z_int)) z_anil)))))
    (z_cons (z_asg (z_v (i := 4)) (zg_seq rfl (zg_cons (zg_seq rfl (zg_cons (zg_name (i := 5) sc_power.nd rfl (Or.inl rfl)) (zg_cons (zg_name (i := 6) sc_power.nd rfl (Or.inl rfl)) zg_nil))) (zg_cons (zg_seq rfl (zg_cons (zg_name (i := 7) sc_power.nd rfl (Or.inl rfl)) (zg_cons (zg_name (i := 8) sc_power.nd rfl (Or.inl rfl)) zg_nil))) (zg_cons (zg_seq rfl (zg_cons (zg_name (i := 9) sc_power.nd rfl (Or.inl rfl)) (zg_cons (zg_name (i := 10) sc_power.nd rfl (Or.inl rfl)) zg_nil))) zg_nil)))))
    (z_cons (z_setLc (i := 11) (G := gTup K 2 (gNs [13, 14])) (own := [("x", 13), ("y", 14)]) rfl (pat_tup (is := [13, 14]) rfl (by decide)) rfl sc_power.nd rfl rfl (sw_true rfl rfl rfl (by decide +kernel)) (zi_seqA (z_v (i := 4))) (blkOk_by (N := N_power) (sc := defScope s_power) (by decide +kernel)) (fun _ _ _ _ _ => pg_tup rfl (pgs_cons (pg_name (i := 13) sc_power.nd rfl (Or.inl rfl)) (pgs_cons (pg_name (i := 14) sc_power.nd rfl (Or.inl rfl)) pgs_nil))) (fun _ _ _ _ _ => zts_nil) (fun _ _ _ _ _ => (z_add (z_mul (z_v (i := 13)) (z_v (i := 13))) (z_mul (z_v (i := 14)) (z_v (i := 14))))))
    (z_one (z_ret (z_add (z_sub (z_mul (z_ixA (huz hr) (z_v (i := 11)) z_int) (z_sub (z_mul (z_v (i := 7)) (z_v (i := 10))) (z_mul (z_v (i := 9)) (z_v (i := 8))))) (z_mul (z_ixA (huz hr) (z_v (i := 11)) z_int) (z_sub (z_mul (z_v (i := 5)) (z_v (i := 10))) (z_mul (z_v (i := 9)) (z_v (i := 6)))))) (z_mul (z_ixA (huz hr) (z_v (i := 11)) z_int) (z_sub (z_mul (z_v (i := 5)) (z_v (i := 8))) (z_mul (z_v (i := 7)) (z_v (i := 6)))))))))))
theorem ok_inside (T : Tx K mg) : FnOk P w K mg base (L2.CX P w) 2 T.f_inside T.fd_inside ["a", "b", "c", "d"] (spD ⟨P, w, K, mg⟩ N_inside 4 d_inside) :=
  fn_ok T.F_inside sc_inside fun cdv A outer s H E hr =>
    (z_one (z_ret (z_mul (z_call (N := N_sign) (ok_sign T) (hr.mono (by decide)) (by rfl) T.g_sign T.F_sign.kp T.b_sign .nil (fun _ _ => RFs.nil_) (takes_of rfl rfl rfl rfl) (z_acons (z_fz (z_call (N := N_power) (ok_power T) (hr.mono (by decide)) (by rfl) T.g_power T.F_power.kp T.b_power .nil (fun _ _ => RFs.nil_) (takes_of rfl rfl rfl rfl) (z_acons (z_fz (z_v (i := 0))) (z_acons (z_fz (z_v (i := 1))) (z_acons (z_fz (z_v (i := 2))) (z_acons (z_fz (z_v (i := 3))) z_anil)))) (by decide))) z_anil) (by decide)) (z_call (N := N_sign) (ok_sign T) (hr.mono (by decide)) (by rfl) T.g_sign T.F_sign.kp T.b_sign .nil (fun _ _ => RFs.nil_) (takes_of rfl rfl rfl rfl) (z_acons (z_fz (z_call (N := N_turn) (ok_turn T) (hr.mono (by decide)) (by rfl) T.g_turn T.F_turn.kp T.b_turn .nil (fun _ _ => RFs.nil_) (takes_of rfl rfl rfl rfl) (z_acons (z_fz (z_v (i := 0))) (z_acons (z_fz (z_v (i := 1))) (z_acons (z_fz (z_v (i := 2))) z_anil))) (by decide))) z_anil) (by decide)))))
theorem ok_in_circle (T : Tx K mg) : FnOk P w K mg base (L2.CX P w) 6 T.f_in_circle T.fd_in_circle ["a", "b", "c", "d"] (spD ⟨P, w, K, mg⟩ N_in_circle 4 d_in_circle) :=
  fn_ok T.F_in_circle sc_in_circle fun cdv A outer s H E hr =>
    (z_cons (z_exp (z_call (N := N_check_circle) (ok_check_circle T) (hr.mono (by decide)) (by rfl) T.g_check_circle T.F_check_circle.kp T.b_check_circle .nil (fun _ _ => RFs.nil_) (takes_of rfl rfl rfl rfl) (z_acons (z_fz (z_v (i := 0))) (z_acons (z_fz (z_v (i := 1))) (z_acons (z_fz (z_v (i := 2))) z_anil))) (by decide)))
    (z_cons (z_exp (z_call (N := N_check_site) (ok_check_site T) (hr.mono (by decide)) (by rfl) T.g_check_site T.F_check_site.kp T.b_check_site .nil (fun _ _ => RFs.nil_) (takes_of rfl rfl rfl rfl) (z_acons z_str (z_acons (z_fz (z_v (i := 3))) z_anil)) (by decide)))
    (z_cons (z_ifS (zt_cmp (op_eqD hr.units) op2_eq (z_call (N := N_turn) (ok_turn T) (hr.mono (by decide)) (by rfl) T.g_turn T.F_turn.kp T.b_turn .nil (fun _ _ => RFs.nil_) (takes_of rfl rfl rfl rfl) (z_acons (z_fz (z_v (i := 0))) (z_acons (z_fz (z_v (i := 1))) (z_acons (z_fz (z_v (i := 2))) z_anil))) (by decide)) z_int (nomark _)) (z_one z_never) z_nil)
    (z_one (z_ret (z_call (N := N_inside) (ok_inside T) (hr.mono (by decide)) (by rfl) T.g_inside T.F_inside.kp T.b_inside .nil (fun _ _ => RFs.nil_) (takes_of rfl rfl rfl rfl) (z_acons (z_fz (z_v (i := 0))) (z_acons (z_fz (z_v (i := 1))) (z_acons (z_fz (z_v (i := 2))) (z_acons (z_fz (z_v (i := 3))) z_anil)))) (by decide)))))))
theorem ok_law_circles_right (T : Tx K mg) : FnOk P w K mg base (L2.CX P w) 7 T.f_law_circles_right T.fd_law_circles_right ["_law_purse_here"] (spD ⟨P, w, K, mg⟩ N_law_circles_right 1 d_law_circles_right) :=
  fn_ok T.F_law_circles_right sc_law_circles_right fun cdv A outer s H E hr =>
    (z_cons (z_set (i := 1) sc_law_circles_right.nd rfl (Or.inl rfl) (z_lst z_anil))
    (z_cons (z_for (passes_of rfl) rfl (zi_range1 (by rfl) T.z_range (z_acons z_int z_anil)) (zg_name (i := 2) sc_law_circles_right.nd rfl (Or.inl rfl)) (z_cons (z_set (i := 3) sc_law_circles_right.nd rfl (Or.inl rfl) (z_sub (z_call (N := N_law_coin) (ok_law_coin T) (hr.mono (by decide)) (by rfl) T.g__law_coin T.F_law_coin.kp T.b_law_coin .nil (fun _ _ => RFs.nil_) (takes_of rfl rfl rfl rfl) (z_acons (z_v (i := 0)) (z_acons (z_fz (z_call (N := N_law_pick) (ok_law_pick T) (hr.mono (by decide)) (by rfl) T.g__law_pick T.F_law_pick.kp T.b_law_pick .nil (fun _ _ => RFs.nil_) (takes_of rfl rfl rfl rfl) (z_acons (z_v (i := 0)) (z_acons (z_fz (z_lst (z_acons z_int (z_acons z_int z_anil)))) z_anil)) (by decide))) z_anil)) (by decide)) (z_call (N := N_law_pick) (ok_law_pick T) (hr.mono (by decide)) (by rfl) T.g__law_pick T.F_law_pick.kp T.b_law_pick .nil (fun _ _ => RFs.nil_) (takes_of rfl rfl rfl rfl) (z_acons (z_v (i := 0)) (z_acons (z_fz (z_lst (z_acons z_int (z_acons z_int z_anil)))) z_anil)) (by decide))))
    (z_cons (z_set (i := 3) sc_law_circles_right.nd rfl (Or.inl rfl) (z_fz (z_cB opn_max (cr_maxZ rfl) (by rfl) T.z_max rfl (z_acons (z_neg z_int) (z_acons (z_cB opn_min (cr_minZ rfl) (by rfl) T.z_min rfl (z_acons z_int (z_acons (z_v (i := 3)) z_anil))) z_anil)))))
    (z_one (z_ifS (z_and (zt_cmp (op_ninZ (huz hr)) op2_nin (z_v (i := 3)) (z_v (i := 1)) (by with_unfolding_all rfl)) (z_and1 (zt_cmp (op_ltZ hr.units0) op2_lt (z_cB opn_len call_len_seq (by rfl) T.z_len rfl (z_acons (z_v (i := 1)) z_anil)) z_int (nomark _)))).pt (z_one (z_exp (z_mt opm_append PySem.F.plainAttrs_list PySem.F.slot_list_append PySem.F.type_list_append mt_append (z_v (i := 1)) (z_acons (z_fz (z_v (i := 3))) z_anil)))) z_nil)))))
    (z_cons (z_ifS (zt_cmp (op_ltZ hr.units0) op2_lt (z_cB opn_len call_len_seq (by rfl) T.z_len rfl (z_acons (z_v (i := 1)) z_anil)) z_int (nomark _)) (z_one (z_ret z_bl)) z_nil)
    (z_cons (z_asg (z_v (i := 1)) (zg_seq rfl (zg_cons (zg_name (i := 4) sc_law_circles_right.nd rfl (Or.inl rfl)) (zg_cons (zg_name (i := 5) sc_law_circles_right.nd rfl (Or.inl rfl)) (zg_cons (zg_name (i := 6) sc_law_circles_right.nd rfl (Or.inl rfl)) zg_nil)))))
    (z_cons (z_for (passes_of rfl) rfl (zi_seqA (z_tup (z_acons (z_sub (z_call (N := N_law_coin) (ok_law_coin T) (hr.mono (by decide)) (by rfl) T.g__law_coin T.F_law_coin.kp T.b_law_coin .nil (fun _ _ => RFs.nil_) (takes_of rfl rfl rfl rfl) (z_acons (z_v (i := 0)) (z_acons z_int z_anil)) (by decide)) z_int) (z_acons (z_sub (z_sub (z_sub z_int (z_v (i := 4))) (z_v (i := 5))) (z_v (i := 6))) (z_acons (z_fz (z_v (i := 4))) (z_acons (z_sub (z_sub (z_sub z_int (z_v (i := 4))) (z_v (i := 5))) (z_v (i := 6))) (z_acons (z_add (z_v (i := 5)) z_int) z_anil))))))) (zg_name (i := 7) sc_law_circles_right.nd rfl (Or.inl rfl)) (z_one (z_ifS (zt_cmp op_le op2_le (z_cB opn_abs call_abs (by rfl) T.z_abs rfl (z_acons (z_v (i := 7)) z_anil)) z_int (nomark _)) (z_cons (z_set (i := 8) sc_law_circles_right.nd rfl (Or.inl rfl) (z_fz (z_add (z_add (z_add (z_v (i := 7)) (z_v (i := 4))) (z_v (i := 5))) (z_v (i := 6)))))
    (z_cons (z_for (passes_of rfl) rfl (zi_seqA (z_v (i := 1))) (zg_name (i := 9) sc_law_circles_right.nd rfl (Or.inl rfl)) (z_one (z_set (i := 8) sc_law_circles_right.nd rfl (Or.inl rfl) (z_mul (z_v (i := 8)) (z_sub (z_v (i := 7)) (z_v (i := 9)))))))
    (z_cons (z_set (i := 10) sc_law_circles_right.nd rfl (Or.inl rfl) (z_sub (z_cT opn_int call_int1 (by rfl) T.z_int rfl (z_acons (z_cmp (op_ltZ hr.units0) op2_lt (z_v (i := 8)) z_int (nomark _)) z_anil)) (z_cT opn_int call_int1 (by rfl) T.z_int rfl (z_acons (z_cmp op_gt op2_gt (z_v (i := 8)) z_int (nomark _)) z_anil))))
    (z_one (z_ifS (zt_cmp (op_neD hr.units) op2_ne (z_call (N := N_in_circle) (ok_in_circle T) (hr.mono (by decide)) (by rfl) T.g_in_circle T.F_in_circle.kp T.b_in_circle .nil (fun _ _ => RFs.nil_) (takes_of rfl rfl rfl rfl) (z_acons (z_tup (z_acons (z_fz (z_v (i := 4))) (z_acons (z_mul (z_v (i := 4)) (z_v (i := 4))) z_anil))) (z_acons (z_tup (z_acons (z_fz (z_v (i := 5))) (z_acons (z_mul (z_v (i := 5)) (z_v (i := 5))) z_anil))) (z_acons (z_tup (z_acons (z_fz (z_v (i := 6))) (z_acons (z_mul (z_v (i := 6)) (z_v (i := 6))) z_anil))) (z_acons (z_tup (z_acons (z_fz (z_v (i := 7))) (z_acons (z_mul (z_v (i := 7)) (z_v (i := 7))) z_anil))) z_anil)))) (by decide)) (z_v (i := 10)) (nomark _)) (z_one (z_ret z_bl)) z_nil))))) z_nil)))
    (z_one (z_ret z_bl)))))))
theorem ok_law (T : Tx K mg) : FnOk P w K mg base (L2.CX P w) 8 T.f_law T.fd_law ["_law_script"] (spD ⟨P, w, K, mg⟩ N_law 1 d_law) :=
  fn_ok T.F_law sc_law fun cdv A outer s H E hr =>
    (z_cons (z_for (passes_of rfl) rfl (zi_seqA (z_add (z_sl (z_v (i := 0)) z_no (z_so z_int)) (z_lst (z_acons z_int z_anil)))) (zg_name (i := 1) sc_law.nd rfl (Or.inl rfl)) (z_cons (z_set (i := 2) sc_law.nd rfl (Or.inl rfl) (z_call (N := N_law_purse) (ok_law_purse T) (hr.mono (by decide)) (by rfl) T.g__law_purse T.F_law_purse.kp T.b_law_purse .nil (fun _ _ => RFs.nil_) (takes_of rfl rfl rfl rfl) (z_acons (z_fz (z_v (i := 1))) z_anil) (by decide)))
    (z_one (z_for (passes_of rfl) rfl (zi_seqA (z_tup (z_acons (z_fz (z_fn (by rfl) T.g__law_grids_right)) (z_acons (z_fz (z_fn (by rfl) T.g__law_rows_right)) (z_acons (z_fz (z_fn (by rfl) T.g__law_parabolas_right)) (z_acons (z_fz (z_fn (by rfl) T.g__law_circles_right)) (z_acons (z_fz (z_fn (by rfl) T.g__law_zigzags_right)) z_anil))))))) (zg_name (i := 3) sc_law.nd rfl (Or.inl rfl)) (z_one (z_ifS (z_not (z_B (z_callV (i := 3) (k := 7) (.cons (AtHand.mk' (N := N_law_grids_right) T.g__law_grids_right (ok_law_grids_right T) T.F_law_grids_right.kp T.b_law_grids_right (by decide) (by decide)) (.cons (AtHand.mk' (N := N_law_rows_right) T.g__law_rows_right (ok_law_rows_right T) T.F_law_rows_right.kp T.b_law_rows_right (by decide) (by decide)) (.cons (AtHand.mk' (N := N_law_parabolas_right) T.g__law_parabolas_right (ok_law_parabolas_right T) T.F_law_parabolas_right.kp T.b_law_parabolas_right (by decide) (by decide)) (.cons (AtHand.mk' (N := N_law_circles_right) T.g__law_circles_right (ok_law_circles_right T) T.F_law_circles_right.kp T.b_law_circles_right (by decide) (by decide)) (.cons (AtHand.mk' (N := N_law_zigzags_right) T.g__law_zigzags_right (ok_law_zigzags_right T) T.F_law_zigzags_right.kp T.b_law_zigzags_right (by decide) (by decide)) .nil))))) (hr.mono (by decide)) rfl (.inl rfl) (takes_of rfl rfl rfl rfl) (z_acons (z_v (i := 2)) z_anil)))) (z_one (z_ret z_bl)) z_nil))))))
    (z_cons (z_set (i := 4) sc_law.nd rfl (Or.inl rfl) (z_pow z_int z_int))
    (z_cons (z_set (i := 5) sc_law.nd rfl (Or.inl rfl) (z_pow (z_sub (z_v (i := 4)) z_int) z_int))
    (z_cons (z_ifS (zt_cmp (op_neD hr.units) op2_ne (z_call (N := N_grid_counts) (ok_grid_counts T) (hr.mono (by decide)) (by rfl) T.g_grid_counts T.F_grid_counts.kp T.b_grid_counts .nil (fun _ _ => RFs.nil_) (takes_of rfl rfl rfl rfl) (z_acons (z_fz (z_v (i := 4))) (z_acons (z_fz (z_v (i := 4))) z_anil)) (by decide)) (z_tup (z_acons (z_mul (z_v (i := 4)) (z_v (i := 4))) (z_acons (z_mul (z_mul z_int (z_v (i := 4))) (z_sub (z_v (i := 4)) z_int)) (z_acons (z_fz (z_v (i := 5))) (z_acons (z_mul z_int (z_v (i := 5))) z_anil))))) (nomark _)) (z_one (z_ret z_bl)) z_nil)
    (z_one (z_ret (z_cmp (op_eqD hr.units) op2_eq (z_call (N := N_parabola_counts) (ok_parabola_counts T) (hr.mono (by decide)) (by rfl) T.g_parabola_counts T.F_parabola_counts.kp T.b_parabola_counts .nil (fun _ _ => RFs.nil_) (takes_of rfl rfl rfl rfl) (z_acons (z_sub z_int (z_v (i := 4))) (z_acons (z_fz (z_v (i := 4))) z_anil)) (by decide)) (z_tup (z_acons (z_add (z_mul z_int (z_v (i := 4))) z_int) (z_acons (z_mul z_int (z_v (i := 4))) (z_acons (z_fz (z_v (i := 4))) (z_acons (z_sub (z_mul z_int (z_v (i := 4))) z_int) z_anil))))) (nomark _))))))))
end
section
variable {P : Program} {w : World} {K : PySem.W.Frag} {h : Heap} {mg : Str → Option Value}
/-- the promise of the law -/
def lawSp (P : Program) (w : World) (K : PySem.W.Frag) : Sp := fun vs H Q E => ∀ mg : Str → Option Value, spD ⟨P, w, K, mg⟩ N_law 1 d_law vs H Q E
theorem all_mk {fa : Addr} (X : K.In h) (G : h.Ns mainGlobals mg) (hfa : mg "law" = some (.ref fa))
    {f_is_integer : Addr} {oc_is_integer kV_is_integer dc_is_integer pm_is_integer cd_is_integer ct_is_integer : Value} {od_is_integer an_is_integer : Option Addr} {sl_is_integer : Array (Option Value)}
    {f_is_between : Addr} {oc_is_between kV_is_between dc_is_between pm_is_between cd_is_between ct_is_between : Value} {od_is_between an_is_between : Option Addr} {sl_is_between : Array (Option Value)}
    {f_check_span : Addr} {oc_check_span kV_check_span dc_check_span pm_check_span cd_check_span ct_check_span : Value} {od_check_span an_check_span : Option Addr} {sl_check_span : Array (Option Value)}
    {f_counted : Addr} {oc_counted kV_counted dc_counted pm_counted cd_counted ct_counted : Value} {od_counted an_counted : Option Addr} {sl_counted : Array (Option Value)}
    {f_check_sides : Addr} {oc_check_sides kV_check_sides dc_check_sides pm_check_sides cd_check_sides ct_check_sides : Value} {od_check_sides an_check_sides : Option Addr} {sl_check_sides : Array (Option Value)}
    {f_two_rows_counts : Addr} {oc_two_rows_counts kV_two_rows_counts dc_two_rows_counts pm_two_rows_counts cd_two_rows_counts ct_two_rows_counts : Value} {od_two_rows_counts an_two_rows_counts : Option Addr} {sl_two_rows_counts : Array (Option Value)}
    {f_law_coin : Addr} {oc_law_coin kV_law_coin dc_law_coin pm_law_coin cd_law_coin ct_law_coin : Value} {od_law_coin an_law_coin : Option Addr} {sl_law_coin : Array (Option Value)}
    {f_law_pick : Addr} {oc_law_pick kV_law_pick dc_law_pick pm_law_pick cd_law_pick ct_law_pick : Value} {od_law_pick an_law_pick : Option Addr} {sl_law_pick : Array (Option Value)}
    {f_law_size : Addr} {oc_law_size kV_law_size dc_law_size pm_law_size cd_law_size ct_law_size : Value} {od_law_size an_law_size : Option Addr} {sl_law_size : Array (Option Value)}
    {f_law_rows_right : Addr} {oc_law_rows_right kV_law_rows_right dc_law_rows_right pm_law_rows_right cd_law_rows_right ct_law_rows_right : Value} {od_law_rows_right an_law_rows_right : Option Addr} {sl_law_rows_right : Array (Option Value)}
    {f_law_whole : Addr} {oc_law_whole kV_law_whole dc_law_whole pm_law_whole cd_law_whole ct_law_whole : Value} {od_law_whole an_law_whole : Option Addr} {sl_law_whole : Array (Option Value)}
    {f_zigzag_counts : Addr} {oc_zigzag_counts kV_zigzag_counts dc_zigzag_counts pm_zigzag_counts cd_zigzag_counts ct_zigzag_counts : Value} {od_zigzag_counts an_zigzag_counts : Option Addr} {sl_zigzag_counts : Array (Option Value)}
    {f_law_zigzags_right : Addr} {oc_law_zigzags_right kV_law_zigzags_right dc_law_zigzags_right pm_law_zigzags_right cd_law_zigzags_right ct_law_zigzags_right : Value} {od_law_zigzags_right an_law_zigzags_right : Option Addr} {sl_law_zigzags_right : Array (Option Value)}
    {f_law_purse : Addr} {oc_law_purse kV_law_purse dc_law_purse pm_law_purse cd_law_purse ct_law_purse : Value} {od_law_purse an_law_purse : Option Addr} {sl_law_purse : Array (Option Value)}
    {f_grid_counts : Addr} {oc_grid_counts kV_grid_counts dc_grid_counts pm_grid_counts cd_grid_counts ct_grid_counts : Value} {od_grid_counts an_grid_counts : Option Addr} {sl_grid_counts : Array (Option Value)}
    {f_law_grids_right : Addr} {oc_law_grids_right kV_law_grids_right dc_law_grids_right pm_law_grids_right cd_law_grids_right ct_law_grids_right : Value} {od_law_grids_right an_law_grids_right : Option Addr} {sl_law_grids_right : Array (Option Value)}
    {f_check_ends : Addr} {oc_check_ends kV_check_ends dc_check_ends pm_check_ends cd_check_ends ct_check_ends : Value} {od_check_ends an_check_ends : Option Addr} {sl_check_ends : Array (Option Value)}
    {f_parabola_counts : Addr} {oc_parabola_counts kV_parabola_counts dc_parabola_counts pm_parabola_counts cd_parabola_counts ct_parabola_counts : Value} {od_parabola_counts an_parabola_counts : Option Addr} {sl_parabola_counts : Array (Option Value)}
    {f_law_parabolas_right : Addr} {oc_law_parabolas_right kV_law_parabolas_right dc_law_parabolas_right pm_law_parabolas_right cd_law_parabolas_right ct_law_parabolas_right : Value} {od_law_parabolas_right an_law_parabolas_right : Option Addr} {sl_law_parabolas_right : Array (Option Value)}
    {f_is_site : Addr} {oc_is_site kV_is_site dc_is_site pm_is_site cd_is_site ct_is_site : Value} {od_is_site an_is_site : Option Addr} {sl_is_site : Array (Option Value)}
    {f_check_site : Addr} {oc_check_site kV_check_site dc_check_site pm_check_site cd_check_site ct_check_site : Value} {od_check_site an_check_site : Option Addr} {sl_check_site : Array (Option Value)}
    {f_check_circle : Addr} {oc_check_circle kV_check_circle dc_check_circle pm_check_circle cd_check_circle ct_check_circle : Value} {od_check_circle an_check_circle : Option Addr} {sl_check_circle : Array (Option Value)}
    {f_turn : Addr} {oc_turn kV_turn dc_turn pm_turn cd_turn ct_turn : Value} {od_turn an_turn : Option Addr} {sl_turn : Array (Option Value)}
    {f_sign : Addr} {oc_sign kV_sign dc_sign pm_sign cd_sign ct_sign : Value} {od_sign an_sign : Option Addr} {sl_sign : Array (Option Value)}
    {f_power : Addr} {oc_power kV_power dc_power pm_power cd_power ct_power : Value} {od_power an_power : Option Addr} {sl_power : Array (Option Value)}
    {f_inside : Addr} {oc_inside kV_inside dc_inside pm_inside cd_inside ct_inside : Value} {od_inside an_inside : Option Addr} {sl_inside : Array (Option Value)}
    {f_in_circle : Addr} {oc_in_circle kV_in_circle dc_in_circle pm_in_circle cd_in_circle ct_in_circle : Value} {od_in_circle an_in_circle : Option Addr} {sl_in_circle : Array (Option Value)}
    {f_law_circles_right : Addr} {oc_law_circles_right kV_law_circles_right dc_law_circles_right pm_law_circles_right cd_law_circles_right ct_law_circles_right : Value} {od_law_circles_right an_law_circles_right : Option Addr} {sl_law_circles_right : Array (Option Value)}
    {f_law : Addr} {oc_law kV_law dc_law pm_law cd_law ct_law : Value} {od_law an_law : Option Addr} {sl_law : Array (Option Value)}
    {t_MOST_COORDINATE : Tok}
    {t_MOST_SIDE : Tok}
    (l_is_integer : K.lookup f_is_integer = some ⟨oc_is_integer, od_is_integer, .func (PySem.W.fnOf "is_integer" "is_integer" (defArgs s_is_integer) (defBody s_is_integer) (defScope s_is_integer) .none kV_is_integer dc_is_integer pm_is_integer an_is_integer cd_is_integer ct_is_integer), sl_is_integer⟩) (c_is_integer : PySem.W.codeIn K cd_is_integer "is_integer" = true) (k_is_integer : PySem.W.keepIn K (.ref f_is_integer) = true)
    (l_is_between : K.lookup f_is_between = some ⟨oc_is_between, od_is_between, .func (PySem.W.fnOf "is_between" "is_between" (defArgs s_is_between) (defBody s_is_between) (defScope s_is_between) .none kV_is_between dc_is_between pm_is_between an_is_between cd_is_between ct_is_between), sl_is_between⟩) (c_is_between : PySem.W.codeIn K cd_is_between "is_between" = true) (k_is_between : PySem.W.keepIn K (.ref f_is_between) = true)
    (l_check_span : K.lookup f_check_span = some ⟨oc_check_span, od_check_span, .func (PySem.W.fnOf "check_span" "check_span" (defArgs s_check_span) (defBody s_check_span) (defScope s_check_span) .none kV_check_span dc_check_span pm_check_span an_check_span cd_check_span ct_check_span), sl_check_span⟩) (c_check_span : PySem.W.codeIn K cd_check_span "check_span" = true) (k_check_span : PySem.W.keepIn K (.ref f_check_span) = true)
    (l_counted : K.lookup f_counted = some ⟨oc_counted, od_counted, .func (PySem.W.fnOf "counted" "counted" (defArgs s_counted) (defBody s_counted) (defScope s_counted) .none kV_counted dc_counted pm_counted an_counted cd_counted ct_counted), sl_counted⟩) (c_counted : PySem.W.codeIn K cd_counted "counted" = true) (k_counted : PySem.W.keepIn K (.ref f_counted) = true)
    (l_check_sides : K.lookup f_check_sides = some ⟨oc_check_sides, od_check_sides, .func (PySem.W.fnOf "check_sides" "check_sides" (defArgs s_check_sides) (defBody s_check_sides) (defScope s_check_sides) .none kV_check_sides dc_check_sides pm_check_sides an_check_sides cd_check_sides ct_check_sides), sl_check_sides⟩) (c_check_sides : PySem.W.codeIn K cd_check_sides "check_sides" = true) (k_check_sides : PySem.W.keepIn K (.ref f_check_sides) = true)
    (l_two_rows_counts : K.lookup f_two_rows_counts = some ⟨oc_two_rows_counts, od_two_rows_counts, .func (PySem.W.fnOf "two_rows_counts" "two_rows_counts" (defArgs s_two_rows_counts) (defBody s_two_rows_counts) (defScope s_two_rows_counts) .none kV_two_rows_counts dc_two_rows_counts pm_two_rows_counts an_two_rows_counts cd_two_rows_counts ct_two_rows_counts), sl_two_rows_counts⟩) (c_two_rows_counts : PySem.W.codeIn K cd_two_rows_counts "two_rows_counts" = true) (k_two_rows_counts : PySem.W.keepIn K (.ref f_two_rows_counts) = true)
    (l_law_coin : K.lookup f_law_coin = some ⟨oc_law_coin, od_law_coin, .func (PySem.W.fnOf "_law_coin" "_law_coin" (defArgs s_law_coin) (defBody s_law_coin) (defScope s_law_coin) .none kV_law_coin dc_law_coin pm_law_coin an_law_coin cd_law_coin ct_law_coin), sl_law_coin⟩) (c_law_coin : PySem.W.codeIn K cd_law_coin "_law_coin" = true) (k_law_coin : PySem.W.keepIn K (.ref f_law_coin) = true)
    (l_law_pick : K.lookup f_law_pick = some ⟨oc_law_pick, od_law_pick, .func (PySem.W.fnOf "_law_pick" "_law_pick" (defArgs s_law_pick) (defBody s_law_pick) (defScope s_law_pick) .none kV_law_pick dc_law_pick pm_law_pick an_law_pick cd_law_pick ct_law_pick), sl_law_pick⟩) (c_law_pick : PySem.W.codeIn K cd_law_pick "_law_pick" = true) (k_law_pick : PySem.W.keepIn K (.ref f_law_pick) = true)
    (l_law_size : K.lookup f_law_size = some ⟨oc_law_size, od_law_size, .func (PySem.W.fnOf "_law_size" "_law_size" (defArgs s_law_size) (defBody s_law_size) (defScope s_law_size) .none kV_law_size dc_law_size pm_law_size an_law_size cd_law_size ct_law_size), sl_law_size⟩) (c_law_size : PySem.W.codeIn K cd_law_size "_law_size" = true) (k_law_size : PySem.W.keepIn K (.ref f_law_size) = true)
    (l_law_rows_right : K.lookup f_law_rows_right = some ⟨oc_law_rows_right, od_law_rows_right, .func (PySem.W.fnOf "_law_rows_right" "_law_rows_right" (defArgs s_law_rows_right) (defBody s_law_rows_right) (defScope s_law_rows_right) .none kV_law_rows_right dc_law_rows_right pm_law_rows_right an_law_rows_right cd_law_rows_right ct_law_rows_right), sl_law_rows_right⟩) (c_law_rows_right : PySem.W.codeIn K cd_law_rows_right "_law_rows_right" = true) (k_law_rows_right : PySem.W.keepIn K (.ref f_law_rows_right) = true)
    (l_law_whole : K.lookup f_law_whole = some ⟨oc_law_whole, od_law_whole, .func (PySem.W.fnOf "_law_whole" "_law_whole" (defArgs s_law_whole) (defBody s_law_whole) (defScope s_law_whole) .none kV_law_whole dc_law_whole pm_law_whole an_law_whole cd_law_whole ct_law_whole), sl_law_whole⟩) (c_law_whole : PySem.W.codeIn K cd_law_whole "_law_whole" = true) (k_law_whole : PySem.W.keepIn K (.ref f_law_whole) = true)
    (l_zigzag_counts : K.lookup f_zigzag_counts = some ⟨oc_zigzag_counts, od_zigzag_counts, .func (PySem.W.fnOf "zigzag_counts" "zigzag_counts" (defArgs s_zigzag_counts) (defBody s_zigzag_counts) (defScope s_zigzag_counts) .none kV_zigzag_counts dc_zigzag_counts pm_zigzag_counts an_zigzag_counts cd_zigzag_counts ct_zigzag_counts), sl_zigzag_counts⟩) (c_zigzag_counts : PySem.W.codeIn K cd_zigzag_counts "zigzag_counts" = true) (k_zigzag_counts : PySem.W.keepIn K (.ref f_zigzag_counts) = true)
    (l_law_zigzags_right : K.lookup f_law_zigzags_right = some ⟨oc_law_zigzags_right, od_law_zigzags_right, .func (PySem.W.fnOf "_law_zigzags_right" "_law_zigzags_right" (defArgs s_law_zigzags_right) (defBody s_law_zigzags_right) (defScope s_law_zigzags_right) .none kV_law_zigzags_right dc_law_zigzags_right pm_law_zigzags_right an_law_zigzags_right cd_law_zigzags_right ct_law_zigzags_right), sl_law_zigzags_right⟩) (c_law_zigzags_right : PySem.W.codeIn K cd_law_zigzags_right "_law_zigzags_right" = true) (k_law_zigzags_right : PySem.W.keepIn K (.ref f_law_zigzags_right) = true)
    (l_law_purse : K.lookup f_law_purse = some ⟨oc_law_purse, od_law_purse, .func (PySem.W.fnOf "_law_purse" "_law_purse" (defArgs s_law_purse) (defBody s_law_purse) (defScope s_law_purse) .none kV_law_purse dc_law_purse pm_law_purse an_law_purse cd_law_purse ct_law_purse), sl_law_purse⟩) (c_law_purse : PySem.W.codeIn K cd_law_purse "_law_purse" = true) (k_law_purse : PySem.W.keepIn K (.ref f_law_purse) = true)
    (l_grid_counts : K.lookup f_grid_counts = some ⟨oc_grid_counts, od_grid_counts, .func (PySem.W.fnOf "grid_counts" "grid_counts" (defArgs s_grid_counts) (defBody s_grid_counts) (defScope s_grid_counts) .none kV_grid_counts dc_grid_counts pm_grid_counts an_grid_counts cd_grid_counts ct_grid_counts), sl_grid_counts⟩) (c_grid_counts : PySem.W.codeIn K cd_grid_counts "grid_counts" = true) (k_grid_counts : PySem.W.keepIn K (.ref f_grid_counts) = true)
    (l_law_grids_right : K.lookup f_law_grids_right = some ⟨oc_law_grids_right, od_law_grids_right, .func (PySem.W.fnOf "_law_grids_right" "_law_grids_right" (defArgs s_law_grids_right) (defBody s_law_grids_right) (defScope s_law_grids_right) .none kV_law_grids_right dc_law_grids_right pm_law_grids_right an_law_grids_right cd_law_grids_right ct_law_grids_right), sl_law_grids_right⟩) (c_law_grids_right : PySem.W.codeIn K cd_law_grids_right "_law_grids_right" = true) (k_law_grids_right : PySem.W.keepIn K (.ref f_law_grids_right) = true)
    (l_check_ends : K.lookup f_check_ends = some ⟨oc_check_ends, od_check_ends, .func (PySem.W.fnOf "check_ends" "check_ends" (defArgs s_check_ends) (defBody s_check_ends) (defScope s_check_ends) .none kV_check_ends dc_check_ends pm_check_ends an_check_ends cd_check_ends ct_check_ends), sl_check_ends⟩) (c_check_ends : PySem.W.codeIn K cd_check_ends "check_ends" = true) (k_check_ends : PySem.W.keepIn K (.ref f_check_ends) = true)
    (l_parabola_counts : K.lookup f_parabola_counts = some ⟨oc_parabola_counts, od_parabola_counts, .func (PySem.W.fnOf "parabola_counts" "parabola_counts" (defArgs s_parabola_counts) (defBody s_parabola_counts) (defScope s_parabola_counts) .none kV_parabola_counts dc_parabola_counts pm_parabola_counts an_parabola_counts cd_parabola_counts ct_parabola_counts), sl_parabola_counts⟩) (c_parabola_counts : PySem.W.codeIn K cd_parabola_counts "parabola_counts" = true) (k_parabola_counts : PySem.W.keepIn K (.ref f_parabola_counts) = true)
    (l_law_parabolas_right : K.lookup f_law_parabolas_right = some ⟨oc_law_parabolas_right, od_law_parabolas_right, .func (PySem.W.fnOf "_law_parabolas_right" "_law_parabolas_right" (defArgs s_law_parabolas_right) (defBody s_law_parabolas_right) (defScope s_law_parabolas_right) .none kV_law_parabolas_right dc_law_parabolas_right pm_law_parabolas_right an_law_parabolas_right cd_law_parabolas_right ct_law_parabolas_right), sl_law_parabolas_right⟩) (c_law_parabolas_right : PySem.W.codeIn K cd_law_parabolas_right "_law_parabolas_right" = true) (k_law_parabolas_right : PySem.W.keepIn K (.ref f_law_parabolas_right) = true)
    (l_is_site : K.lookup f_is_site = some ⟨oc_is_site, od_is_site, .func (PySem.W.fnOf "is_site" "is_site" (defArgs s_is_site) (defBody s_is_site) (defScope s_is_site) .none kV_is_site dc_is_site pm_is_site an_is_site cd_is_site ct_is_site), sl_is_site⟩) (c_is_site : PySem.W.codeIn K cd_is_site "is_site" = true) (k_is_site : PySem.W.keepIn K (.ref f_is_site) = true)
    (l_check_site : K.lookup f_check_site = some ⟨oc_check_site, od_check_site, .func (PySem.W.fnOf "check_site" "check_site" (defArgs s_check_site) (defBody s_check_site) (defScope s_check_site) .none kV_check_site dc_check_site pm_check_site an_check_site cd_check_site ct_check_site), sl_check_site⟩) (c_check_site : PySem.W.codeIn K cd_check_site "check_site" = true) (k_check_site : PySem.W.keepIn K (.ref f_check_site) = true)
    (l_check_circle : K.lookup f_check_circle = some ⟨oc_check_circle, od_check_circle, .func (PySem.W.fnOf "check_circle" "check_circle" (defArgs s_check_circle) (defBody s_check_circle) (defScope s_check_circle) .none kV_check_circle dc_check_circle pm_check_circle an_check_circle cd_check_circle ct_check_circle), sl_check_circle⟩) (c_check_circle : PySem.W.codeIn K cd_check_circle "check_circle" = true) (k_check_circle : PySem.W.keepIn K (.ref f_check_circle) = true)
    (l_turn : K.lookup f_turn = some ⟨oc_turn, od_turn, .func (PySem.W.fnOf "turn" "turn" (defArgs s_turn) (defBody s_turn) (defScope s_turn) .none kV_turn dc_turn pm_turn an_turn cd_turn ct_turn), sl_turn⟩) (c_turn : PySem.W.codeIn K cd_turn "turn" = true) (k_turn : PySem.W.keepIn K (.ref f_turn) = true)
    (l_sign : K.lookup f_sign = some ⟨oc_sign, od_sign, .func (PySem.W.fnOf "sign" "sign" (defArgs s_sign) (defBody s_sign) (defScope s_sign) .none kV_sign dc_sign pm_sign an_sign cd_sign ct_sign), sl_sign⟩) (c_sign : PySem.W.codeIn K cd_sign "sign" = true) (k_sign : PySem.W.keepIn K (.ref f_sign) = true)
    (l_power : K.lookup f_power = some ⟨oc_power, od_power, .func (PySem.W.fnOf "power" "power" (defArgs s_power) (defBody s_power) (defScope s_power) .none kV_power dc_power pm_power an_power cd_power ct_power), sl_power⟩) (c_power : PySem.W.codeIn K cd_power "power" = true) (k_power : PySem.W.keepIn K (.ref f_power) = true)
    (l_inside : K.lookup f_inside = some ⟨oc_inside, od_inside, .func (PySem.W.fnOf "inside" "inside" (defArgs s_inside) (defBody s_inside) (defScope s_inside) .none kV_inside dc_inside pm_inside an_inside cd_inside ct_inside), sl_inside⟩) (c_inside : PySem.W.codeIn K cd_inside "inside" = true) (k_inside : PySem.W.keepIn K (.ref f_inside) = true)
    (l_in_circle : K.lookup f_in_circle = some ⟨oc_in_circle, od_in_circle, .func (PySem.W.fnOf "in_circle" "in_circle" (defArgs s_in_circle) (defBody s_in_circle) (defScope s_in_circle) .none kV_in_circle dc_in_circle pm_in_circle an_in_circle cd_in_circle ct_in_circle), sl_in_circle⟩) (c_in_circle : PySem.W.codeIn K cd_in_circle "in_circle" = true) (k_in_circle : PySem.W.keepIn K (.ref f_in_circle) = true)
    (l_law_circles_right : K.lookup f_law_circles_right = some ⟨oc_law_circles_right, od_law_circles_right, .func (PySem.W.fnOf "_law_circles_right" "_law_circles_right" (defArgs s_law_circles_right) (defBody s_law_circles_right) (defScope s_law_circles_right) .none kV_law_circles_right dc_law_circles_right pm_law_circles_right an_law_circles_right cd_law_circles_right ct_law_circles_right), sl_law_circles_right⟩) (c_law_circles_right : PySem.W.codeIn K cd_law_circles_right "_law_circles_right" = true) (k_law_circles_right : PySem.W.keepIn K (.ref f_law_circles_right) = true)
    (l_law : K.lookup f_law = some ⟨oc_law, od_law, .func (PySem.W.fnOf "law" "law" (defArgs s_law) (defBody s_law) (defScope s_law) .none kV_law dc_law pm_law an_law cd_law ct_law), sl_law⟩) (c_law : PySem.W.codeIn K cd_law "law" = true) (k_law : PySem.W.keepIn K (.ref f_law) = true)
    (a_law : PySem.W.nsIn K mainGlobals "law" = some (some (.ref f_law)))
    (a_parabola_counts : PySem.W.nsIn K mainGlobals "parabola_counts" = some (some (.ref f_parabola_counts)))
    (a_grid_counts : PySem.W.nsIn K mainGlobals "grid_counts" = some (some (.ref f_grid_counts)))
    (a__law_zigzags_right : PySem.W.nsIn K mainGlobals "_law_zigzags_right" = some (some (.ref f_law_zigzags_right)))
    (a__law_circles_right : PySem.W.nsIn K mainGlobals "_law_circles_right" = some (some (.ref f_law_circles_right)))
    (a__law_parabolas_right : PySem.W.nsIn K mainGlobals "_law_parabolas_right" = some (some (.ref f_law_parabolas_right)))
    (a__law_rows_right : PySem.W.nsIn K mainGlobals "_law_rows_right" = some (some (.ref f_law_rows_right)))
    (a__law_grids_right : PySem.W.nsIn K mainGlobals "_law_grids_right" = some (some (.ref f_law_grids_right)))
    (a__law_purse : PySem.W.nsIn K mainGlobals "_law_purse" = some (some (.ref f_law_purse)))
    (a_two_rows_counts : PySem.W.nsIn K mainGlobals "two_rows_counts" = some (some (.ref f_two_rows_counts)))
    (a__law_pick : PySem.W.nsIn K mainGlobals "_law_pick" = some (some (.ref f_law_pick)))
    (a__law_coin : PySem.W.nsIn K mainGlobals "_law_coin" = some (some (.ref f_law_coin)))
    (a__law_size : PySem.W.nsIn K mainGlobals "_law_size" = some (some (.ref f_law_size)))
    (a_counted : PySem.W.nsIn K mainGlobals "counted" = some (some (.ref f_counted)))
    (a_check_span : PySem.W.nsIn K mainGlobals "check_span" = some (some (.ref f_check_span)))
    (a_check_sides : PySem.W.nsIn K mainGlobals "check_sides" = some (some (.ref f_check_sides)))
    (a_is_between : PySem.W.nsIn K mainGlobals "is_between" = some (some (.ref f_is_between)))
    (a_is_integer : PySem.W.nsIn K mainGlobals "is_integer" = some (some (.ref f_is_integer)))
    (a__law_whole : PySem.W.nsIn K mainGlobals "_law_whole" = some (some (.ref f_law_whole)))
    (a_zigzag_counts : PySem.W.nsIn K mainGlobals "zigzag_counts" = some (some (.ref f_zigzag_counts)))
    (a_check_ends : PySem.W.nsIn K mainGlobals "check_ends" = some (some (.ref f_check_ends)))
    (a_in_circle : PySem.W.nsIn K mainGlobals "in_circle" = some (some (.ref f_in_circle)))
    (a_inside : PySem.W.nsIn K mainGlobals "inside" = some (some (.ref f_inside)))
    (a_turn : PySem.W.nsIn K mainGlobals "turn" = some (some (.ref f_turn)))
    (a_check_site : PySem.W.nsIn K mainGlobals "check_site" = some (some (.ref f_check_site)))
    (a_check_circle : PySem.W.nsIn K mainGlobals "check_circle" = some (some (.ref f_check_circle)))
    (a_is_site : PySem.W.nsIn K mainGlobals "is_site" = some (some (.ref f_is_site)))
    (a_sign : PySem.W.nsIn K mainGlobals "sign" = some (some (.ref f_sign)))
    (a_power : PySem.W.nsIn K mainGlobals "power" = some (some (.ref f_power)))
    (z_min : PySem.W.nsIn K mainGlobals "min" = some none)
    (z_max : PySem.W.nsIn K mainGlobals "max" = some none)
    (z_int : PySem.W.nsIn K mainGlobals "int" = some none)
    (z_bool : PySem.W.nsIn K mainGlobals "bool" = some none)
    (z_isinstance : PySem.W.nsIn K mainGlobals "isinstance" = some none)
    (z_len : PySem.W.nsIn K mainGlobals "len" = some none)
    (z_abs : PySem.W.nsIn K mainGlobals "abs" = some none)
    (z_range : PySem.W.nsIn K mainGlobals "range" = some none)
    (z_all : PySem.W.nsIn K mainGlobals "all" = some none)
    (z_tuple : PySem.W.nsIn K mainGlobals "tuple" = some none)
    (v_MOST_COORDINATE : PySem.W.nsIn K mainGlobals "MOST_COORDINATE" = some (some (.int 1000000 t_MOST_COORDINATE)))
    (v_MOST_SIDE : PySem.W.nsIn K mainGlobals "MOST_SIDE" = some (some (.int 1000000 t_MOST_SIDE)))
    : ∃ fd : FuncData, (∀ (s : Shared) (v : Value), BindsTo s fd ⟨[v], []⟩ [("_law_script", v)]) ∧ ∀ base : Heap, K.In base → base.Ns mainGlobals mg → FnOk P w K mg base (L2.CX P w) 8 fa fd ["_law_script"] (lawSp P w K) := by
  have e : Value.ref f_law = Value.ref fa := Option.some.inj ((PySem.W.mg_of X G a_law).symm.trans hfa)
  injection e with e
  subst e
  have F_is_integer := fun_mk (st := s_is_integer) l_is_integer c_is_integer k_is_integer
  have F_is_between := fun_mk (st := s_is_between) l_is_between c_is_between k_is_between
  have F_check_span := fun_mk (st := s_check_span) l_check_span c_check_span k_check_span
  have F_counted := fun_mk (st := s_counted) l_counted c_counted k_counted
  have F_check_sides := fun_mk (st := s_check_sides) l_check_sides c_check_sides k_check_sides
  have F_two_rows_counts := fun_mk (st := s_two_rows_counts) l_two_rows_counts c_two_rows_counts k_two_rows_counts
  have F_law_coin := fun_mk (st := s_law_coin) l_law_coin c_law_coin k_law_coin
  have F_law_pick := fun_mk (st := s_law_pick) l_law_pick c_law_pick k_law_pick
  have F_law_size := fun_mk (st := s_law_size) l_law_size c_law_size k_law_size
  have F_law_rows_right := fun_mk (st := s_law_rows_right) l_law_rows_right c_law_rows_right k_law_rows_right
  have F_law_whole := fun_mk (st := s_law_whole) l_law_whole c_law_whole k_law_whole
  have F_zigzag_counts := fun_mk (st := s_zigzag_counts) l_zigzag_counts c_zigzag_counts k_zigzag_counts
  have F_law_zigzags_right := fun_mk (st := s_law_zigzags_right) l_law_zigzags_right c_law_zigzags_right k_law_zigzags_right
  have F_law_purse := fun_mk (st := s_law_purse) l_law_purse c_law_purse k_law_purse
  have F_grid_counts := fun_mk (st := s_grid_counts) l_grid_counts c_grid_counts k_grid_counts
  have F_law_grids_right := fun_mk (st := s_law_grids_right) l_law_grids_right c_law_grids_right k_law_grids_right
  have F_check_ends := fun_mk (st := s_check_ends) l_check_ends c_check_ends k_check_ends
  have F_parabola_counts := fun_mk (st := s_parabola_counts) l_parabola_counts c_parabola_counts k_parabola_counts
  have F_law_parabolas_right := fun_mk (st := s_law_parabolas_right) l_law_parabolas_right c_law_parabolas_right k_law_parabolas_right
  have F_is_site := fun_mk (st := s_is_site) l_is_site c_is_site k_is_site
  have F_check_site := fun_mk (st := s_check_site) l_check_site c_check_site k_check_site
  have F_check_circle := fun_mk (st := s_check_circle) l_check_circle c_check_circle k_check_circle
  have F_turn := fun_mk (st := s_turn) l_turn c_turn k_turn
  have F_sign := fun_mk (st := s_sign) l_sign c_sign k_sign
  have F_power := fun_mk (st := s_power) l_power c_power k_power
  have F_inside := fun_mk (st := s_inside) l_inside c_inside k_inside
  have F_in_circle := fun_mk (st := s_in_circle) l_in_circle c_in_circle k_in_circle
  have F_law_circles_right := fun_mk (st := s_law_circles_right) l_law_circles_right c_law_circles_right k_law_circles_right
  have F_law := fun_mk (st := s_law) l_law c_law k_law
  let T : Tx K mg :=
    {
      f_is_integer := f_is_integer, fd_is_integer := _, F_is_integer := F_is_integer, b_is_integer := F_is_integer.binds fun _ _ _ _ _ _ us hl => match us, hl with | [_], _ => rfl,
      f_is_between := f_is_between, fd_is_between := _, F_is_between := F_is_between, b_is_between := F_is_between.binds fun _ _ _ _ _ _ us hl => match us, hl with | [_, _, _], _ => rfl,
      f_check_span := f_check_span, fd_check_span := _, F_check_span := F_check_span, b_check_span := F_check_span.binds fun _ _ _ _ _ _ us hl => match us, hl with | [_, _], _ => rfl,
      f_counted := f_counted, fd_counted := _, F_counted := F_counted, b_counted := F_counted.binds fun _ _ _ _ _ _ us hl => match us, hl with | [_, _, _], _ => rfl,
      f_check_sides := f_check_sides, fd_check_sides := _, F_check_sides := F_check_sides, b_check_sides := F_check_sides.binds fun _ _ _ _ _ _ us hl => match us, hl with | [_, _, _], _ => rfl,
      f_two_rows_counts := f_two_rows_counts, fd_two_rows_counts := _, F_two_rows_counts := F_two_rows_counts, b_two_rows_counts := F_two_rows_counts.binds fun _ _ _ _ _ _ us hl => match us, hl with | [_, _, _], _ => rfl,
      f_law_coin := f_law_coin, fd_law_coin := _, F_law_coin := F_law_coin, b_law_coin := F_law_coin.binds fun _ _ _ _ _ _ us hl => match us, hl with | [_, _], _ => rfl,
      f_law_pick := f_law_pick, fd_law_pick := _, F_law_pick := F_law_pick, b_law_pick := F_law_pick.binds fun _ _ _ _ _ _ us hl => match us, hl with | [_, _], _ => rfl,
      f_law_size := f_law_size, fd_law_size := _, F_law_size := F_law_size, b_law_size := F_law_size.binds fun _ _ _ _ _ _ us hl => match us, hl with | [_, _], _ => rfl,
      f_law_rows_right := f_law_rows_right, fd_law_rows_right := _, F_law_rows_right := F_law_rows_right, b_law_rows_right := F_law_rows_right.binds fun _ _ _ _ _ _ us hl => match us, hl with | [_], _ => rfl,
      f_law_whole := f_law_whole, fd_law_whole := _, F_law_whole := F_law_whole, b_law_whole := F_law_whole.binds fun _ _ _ _ _ _ us hl => match us, hl with | [_], _ => rfl,
      f_zigzag_counts := f_zigzag_counts, fd_zigzag_counts := _, F_zigzag_counts := F_zigzag_counts, b_zigzag_counts := F_zigzag_counts.binds fun _ _ _ _ _ _ us hl => match us, hl with | [_, _], _ => rfl,
      f_law_zigzags_right := f_law_zigzags_right, fd_law_zigzags_right := _, F_law_zigzags_right := F_law_zigzags_right, b_law_zigzags_right := F_law_zigzags_right.binds fun _ _ _ _ _ _ us hl => match us, hl with | [_], _ => rfl,
      f_law_purse := f_law_purse, fd_law_purse := _, F_law_purse := F_law_purse, b_law_purse := F_law_purse.binds fun _ _ _ _ _ _ us hl => match us, hl with | [_], _ => rfl,
      f_grid_counts := f_grid_counts, fd_grid_counts := _, F_grid_counts := F_grid_counts, b_grid_counts := F_grid_counts.binds fun _ _ _ _ _ _ us hl => match us, hl with | [_, _], _ => rfl,
      f_law_grids_right := f_law_grids_right, fd_law_grids_right := _, F_law_grids_right := F_law_grids_right, b_law_grids_right := F_law_grids_right.binds fun _ _ _ _ _ _ us hl => match us, hl with | [_], _ => rfl,
      f_check_ends := f_check_ends, fd_check_ends := _, F_check_ends := F_check_ends, b_check_ends := F_check_ends.binds fun _ _ _ _ _ _ us hl => match us, hl with | [_, _], _ => rfl,
      f_parabola_counts := f_parabola_counts, fd_parabola_counts := _, F_parabola_counts := F_parabola_counts, b_parabola_counts := F_parabola_counts.binds fun _ _ _ _ _ _ us hl => match us, hl with | [_, _], _ => rfl,
      f_law_parabolas_right := f_law_parabolas_right, fd_law_parabolas_right := _, F_law_parabolas_right := F_law_parabolas_right, b_law_parabolas_right := F_law_parabolas_right.binds fun _ _ _ _ _ _ us hl => match us, hl with | [_], _ => rfl,
      f_is_site := f_is_site, fd_is_site := _, F_is_site := F_is_site, b_is_site := F_is_site.binds fun _ _ _ _ _ _ us hl => match us, hl with | [_], _ => rfl,
      f_check_site := f_check_site, fd_check_site := _, F_check_site := F_check_site, b_check_site := F_check_site.binds fun _ _ _ _ _ _ us hl => match us, hl with | [_, _], _ => rfl,
      f_check_circle := f_check_circle, fd_check_circle := _, F_check_circle := F_check_circle, b_check_circle := F_check_circle.binds fun _ _ _ _ _ _ us hl => match us, hl with | [_, _, _], _ => rfl,
      f_turn := f_turn, fd_turn := _, F_turn := F_turn, b_turn := F_turn.binds fun _ _ _ _ _ _ us hl => match us, hl with | [_, _, _], _ => rfl,
      f_sign := f_sign, fd_sign := _, F_sign := F_sign, b_sign := F_sign.binds fun _ _ _ _ _ _ us hl => match us, hl with | [_], _ => rfl,
      f_power := f_power, fd_power := _, F_power := F_power, b_power := F_power.binds fun _ _ _ _ _ _ us hl => match us, hl with | [_, _, _, _], _ => rfl,
      f_inside := f_inside, fd_inside := _, F_inside := F_inside, b_inside := F_inside.binds fun _ _ _ _ _ _ us hl => match us, hl with | [_, _, _, _], _ => rfl,
      f_in_circle := f_in_circle, fd_in_circle := _, F_in_circle := F_in_circle, b_in_circle := F_in_circle.binds fun _ _ _ _ _ _ us hl => match us, hl with | [_, _, _, _], _ => rfl,
      f_law_circles_right := f_law_circles_right, fd_law_circles_right := _, F_law_circles_right := F_law_circles_right, b_law_circles_right := F_law_circles_right.binds fun _ _ _ _ _ _ us hl => match us, hl with | [_], _ => rfl,
      f_law := f_law, fd_law := _, F_law := F_law, b_law := F_law.binds fun _ _ _ _ _ _ us hl => match us, hl with | [_], _ => rfl,
      g_parabola_counts := PySem.W.mg_of X G a_parabola_counts,
      g_grid_counts := PySem.W.mg_of X G a_grid_counts,
      g__law_zigzags_right := PySem.W.mg_of X G a__law_zigzags_right,
      g__law_circles_right := PySem.W.mg_of X G a__law_circles_right,
      g__law_parabolas_right := PySem.W.mg_of X G a__law_parabolas_right,
      g__law_rows_right := PySem.W.mg_of X G a__law_rows_right,
      g__law_grids_right := PySem.W.mg_of X G a__law_grids_right,
      g__law_purse := PySem.W.mg_of X G a__law_purse,
      g_two_rows_counts := PySem.W.mg_of X G a_two_rows_counts,
      z_min := PySem.W.mg_none_of X G z_min,
      z_max := PySem.W.mg_none_of X G z_max,
      g__law_pick := PySem.W.mg_of X G a__law_pick,
      z_int := PySem.W.mg_none_of X G z_int,
      g__law_coin := PySem.W.mg_of X G a__law_coin,
      g__law_size := PySem.W.mg_of X G a__law_size,
      g_counted := PySem.W.mg_of X G a_counted,
      g_check_span := PySem.W.mg_of X G a_check_span,
      g_check_sides := PySem.W.mg_of X G a_check_sides,
      g_is_between := PySem.W.mg_of X G a_is_between,
      t_MOST_COORDINATE := _, v_MOST_COORDINATE := PySem.W.mg_of X G v_MOST_COORDINATE,
      g_is_integer := PySem.W.mg_of X G a_is_integer,
      z_bool := PySem.W.mg_none_of X G z_bool,
      z_isinstance := PySem.W.mg_none_of X G z_isinstance,
      t_MOST_SIDE := _, v_MOST_SIDE := PySem.W.mg_of X G v_MOST_SIDE,
      z_len := PySem.W.mg_none_of X G z_len,
      g__law_whole := PySem.W.mg_of X G a__law_whole,
      g_zigzag_counts := PySem.W.mg_of X G a_zigzag_counts,
      z_abs := PySem.W.mg_none_of X G z_abs,
      g_check_ends := PySem.W.mg_of X G a_check_ends,
      g_in_circle := PySem.W.mg_of X G a_in_circle,
      z_range := PySem.W.mg_none_of X G z_range,
      g_inside := PySem.W.mg_of X G a_inside,
      g_turn := PySem.W.mg_of X G a_turn,
      g_check_site := PySem.W.mg_of X G a_check_site,
      g_check_circle := PySem.W.mg_of X G a_check_circle,
      g_is_site := PySem.W.mg_of X G a_is_site,
      z_all := PySem.W.mg_none_of X G z_all,
      z_tuple := PySem.W.mg_none_of X G z_tuple,
      g_sign := PySem.W.mg_of X G a_sign,
      g_power := PySem.W.mg_of X G a_power }
  exact ⟨_, fun s v => .of_eq rfl, fun base _ _ => ok_law (P := P) (w := w) (base := base) T |>.imp fun _ _ _ _ q => q mg⟩
end
end Kx

namespace Kx
open PySem PySem.Spec PyProof.Rows L2 L2.Zz
local macro_rules | `(tactic| fail) => `(tactic| with_reducible first
  | (apply gRd; first | exact RdS.v | exact RdS.n | exact RdS.o (by with_unfolding_all exact GetL.of rfl) | exact RdS.l (by with_unfolding_all exact GetP.of rfl) | exact RdS.f (by with_unfolding_all exact GetL.of rfl))
  | (apply gGet; with_unfolding_all exact GetL.of rfl)
  | (apply gSet; repeat apply SetL.s
     exact SetL.z)
  | (apply gFz; first | exact FzS.v | exact FzS.n | (apply FzS.o <;> fail) | exact FzS.f (by with_unfolding_all exact GetL.of rfl))
  | exact OtE.v | exact OtE.l | exact OtE.t | exact SlVal.frz | exact SlVal.own | exact SlVal.lo
  | (apply gVl; repeat apply VlS.c
     exact VlS.n)
  | (apply gRs; repeat (apply RdsS.c; fail)
     exact RdsS.n)
  | (apply gCI; repeat (first | apply CallI.v | apply CallI.n | (apply CallI.a; fail) | (apply CallI.l; fail))
     apply CallI.z; repeat apply PadL.s
     exact PadL.z)
  | (apply NdS.mk; with_unfolding_all rfl)
  | exact WrS.n | (apply WrS.o <;> fail) | (apply WrS.l; fail)
  | (apply StS.v; fail) | (apply StS.n; fail) | (apply StS.l; fail) | (apply StS.a <;> fail)
  | exact StAll.n | (apply StAll.v <;> fail) | (apply StAll.w <;> fail) | (apply StAll.l <;> fail)
  | exact OutS.v | exact OutS.n | (apply OutS.o; fail) | (apply OutS.f; fail)
  | exact WbS.z | (apply WbS.a <;> fail) | (apply WbS.l <;> fail)
  | exact SeqS.l | exact SeqS.t | exact SeqS.d
  | exact SetP.z | (apply SetP.s; fail) | exact GetP.z | (apply GetP.s; fail)
  | exact WpL.z | (apply WpL.s <;> fail) | exact DelL.z | (apply DelL.s; fail)
  | exact AppL.z | (apply AppL.s; fail) | exact IntL.z | (apply IntL.s; fail) | exact PickL.z | (apply PickL.s <;> fail) | exact MapV.z | (apply MapV.s; fail))
local macro_rules | `(tactic| fail "s") => `(tactic| first
  | ((with_reducible apply gCall); left)
  | (with_reducible first
  | (apply gWE; first | (apply w_varF; fail) | apply w_C | apply v_op2 | apply v_fz | apply w_call | apply v_cb | (apply w_varO; fail) | (apply w_varL; fail) | apply v_op1 | apply v_tup | apply v_lst | apply w_if | apply v_sl | apply w_dnew | apply v_andV | apply v_orV | apply v_notV | apply v_ch | apply w_tv | apply v_mut | apply w_callK | apply v_lc | (apply v_callV; fail))
  | (apply k_2; fail; fail)
  | (apply gEF; first | exact f_eqI | exact f_neI | exact f_eqB | exact f_neB | exact f_eqS | exact f_neS | exact f_eqT3 | exact f_neT3 | exact f_eqT4 | exact f_neT4 | apply f_mul | apply f_fdiv | apply f_mod | exact f_max2 | exact f_min2 | exact f_p6 | exact f_p3 | exact f_p18 | exact f_p29 | exact f_p30 | exact f_p40 | apply f_pow | exact f_set0 | exact f_set1 | exact f_set2 | (with_unfolding_all rfl) | (apply f_addA; (repeat apply AppL.s); exact AppL.z) | apply f_addl | apply f_setk | apply f_ixl | apply f_ixt)
  | (apply k_fz; fail)
  | exact OtE.v | exact OtE.l | exact OtE.t
  | (apply gWS; first | apply w_seq | apply v_set | apply v_asg | apply w_ifS | apply w_ret | apply v_par | apply w_exp | apply w_for | apply w_wh | apply w_retN | apply w_brk | apply w_ct | apply w_pass)
  | apply w_cons | apply w_nil | (apply k_cb; fail) | apply k_snx | (apply k_st; fail)
  | (apply gWB; first | apply v_B | apply w_not | apply w_and | apply w_or | apply w_yes)
  | (apply k_B; fail) | apply Br.t | apply Br.f | apply Br.nt | apply Br.nf
  | (apply k_tp; fail) | (apply k_ls; fail) | apply k_ca | (apply k_ck; iterate 4 fail) | (apply k_ret; fail; fail) | apply k_srt
  | (apply gWP; first | (apply w_gN; fail) | apply v_gT | apply v_gU | apply v_gL | apply w_gCons | apply w_gNil | (apply w_gA; fail) | apply w_gA0 | apply v_gSub | apply v_it | apply v_rng1 | apply v_rng2 | apply v_enum | apply v_zip | apply v_so | apply w_no | apply w_lcN | apply w_lcC)
  | (apply k_1; fail) | (apply k_as; fail) | (apply k_pa; fail) | (apply k_su; fail) | (apply k_so; fail) | (apply k_sl; fail) | (apply k_ch; fail; fail) | (apply k_m0; fail) | (apply k_mt; fail; fail)
  | apply k_bnx | apply k_bct | apply k_bbk | apply k_brt | apply k_sbk | apply k_sct | (apply k_nxt; fail)
  | apply k_cv | (apply k_lw; fail) | (apply k_leA; (repeat apply AppL.s); exact AppL.z) | apply k_le | (apply k_ln; fail)
  | (apply k_it; fail; fail) | (apply k_r12; fail) | (apply k_r13; fail) | (apply k_r14; fail) | (apply k_r1; fail) | (apply k_r2; fail) | (apply k_en; fail) | (apply k_zp; fail))
  | fail
  | ((with_reducible apply Br.dT); focus (first | omega | (simp only [List.length_cons, List.length_nil]; done) | (simp only [List.length_cons, List.length_nil]; omega)))
  | ((with_reducible apply Br.dF); focus (first | omega | (simp only [List.length_cons, List.length_nil]; omega)))
  | ((with_reducible apply Br.nT); focus (first | omega | (simp only [List.length_cons, List.length_nil]; omega)))
  | ((with_reducible apply Br.nF); focus (first | omega | (simp only [List.length_cons, List.length_nil]; omega)))
  | with_reducible apply Br.dec | with_reducible apply Br.n
  | ((with_reducible apply Br.eqF); focus (first | (simp; done) | (simp; omega)))
  | ((with_reducible apply Br.eqT); focus (first | (simp; done) | (simp; omega)))
  | with_reducible intro _)
local macro_rules | `(tactic| fail "t") => `(tactic| first
  | (with_reducible first
  | exact k_pu | exact k_pb
  | (apply gWE; first | apply v_andP | apply v_orP | apply v_chP | apply v_ifP)
  | (apply gWB; first | apply v_andB | apply v_orB))
  | fail "s")
local macro_rules | `(tactic| fail "f") => `(tactic| first | fail "s" | with_reducible apply w_foN | with_reducible apply w_foC)
local macro_rules | `(tactic| fail "c") => `(tactic| first | assumption | contradiction | exact mulOk_l (by omega) (by omega) | exact mulOk_r (by omega) (by omega) | (unfold powOk; decide) | omega | (simp only [List.length_cons, List.length_nil]; omega) | (simp only [List.mem_cons, List.not_mem_nil, or_false] at *; omega))

def Bd (x : Int) : Prop := -1000000 ≤ x ∧ x ≤ 1000000
abbrev tp (x y : Int) : PV := .tup [.int x, .int y]
abbrev t3 (x y d : Int) : PV := .tup [.int x, .int y, .int d]
def trn (ax ay bx by_ cx cy : Int) : Int := (bx - ax) * (cy - ay) - (by_ - ay) * (cx - ax)
def sgn (i : Int) : Int := (if decide (0 < i) = true then 1 else 0) - (if decide (i < 0) = true then 1 else 0)
abbrev gg (a b : Int) : Int := (Int.gcd a b : Int)
theorem ml {x y : Int} {A B : Nat} (h : x.natAbs ≤ A) (h' : y.natAbs ≤ B) : (x * y).natAbs ≤ A * B := by
  rw [Int.natAbs_mul]; exact Nat.mul_le_mul h h'
theorem mulOk_w {i j : Int} (h : i.natAbs < 2 ^ 1000) (h' : j.natAbs < 2 ^ 1000) : mulOk i j := by
  refine .inr ?_
  have l : ∀ k : Nat, k < 2 ^ 1000 → k.log2 < 1000 := fun k hk => by
    by_cases h0 : k = 0
    · subst h0; decide
    · exact (Nat.log2_lt h0).mpr hk
  have := l _ h
  have := l _ h'
  show i.natAbs.log2 + j.natAbs.log2 < 1000000
  omega
theorem divOk_w {j : Int} (h0 : j ≠ 0) (h : j.natAbs < 2 ^ 1000) : divOk j := by
  refine ⟨h0, ?_⟩
  have := (Nat.log2_lt (show j.natAbs ≠ 0 by omega)).mpr h
  omega
theorem fmod_b (a : Int) {m : Int} (h : 0 < m) : 0 ≤ a.fmod m ∧ a.fmod m < m := ⟨Int.fmod_nonneg_of_pos a h, Int.fmod_lt_of_pos a h⟩
section
variable {σ : PSt} {R : XP} {Q : EVal → PSt → Prop} {ax ay bx by_ cx cy : Int}
theorem ru_is_integer {i : Int} (q : Q (.val (.bl true)) σ) : WP (callD 1 d_is_integer [.val (.int i)] σ) Q R := by
  apply v_callD <;> try unfold d_is_integer
  repeat' fail "s"
  exact q
local macro_rules | `(tactic| left) => `(tactic| with_reducible apply ru_is_integer)
theorem ru_is_between {i l h : Int} (q : Q (.val (.bl (decide (l ≤ i) && decide (i ≤ h)))) σ) : WP (callD 3 d_is_between [.val (.int i), .val (.int l), .val (.int h)] σ) Q R := by
  apply v_callD <;> try unfold d_is_between
  repeat' fail "t"
  exact q
local macro_rules | `(tactic| left) => `(tactic| with_reducible apply ru_is_between)
theorem ru_is_site (h1 : Bd ax) (h2 : Bd ay) (q : Q (.val (.bl true)) σ) : WP (callD 2 d_is_site [.val (tp ax ay)] σ) Q R := by
  unfold Bd at h1 h2
  apply v_callD <;> try unfold d_is_site
  repeat' fail "s"
  exact q_bl (by simp; omega) q
local macro_rules | `(tactic| left) => `(tactic| with_reducible apply ru_is_site)
theorem ru_check_site {x : Str} (h1 : Bd ax) (h2 : Bd ay) (q : Q (.val .non) σ) : WP (callD 2 d_check_site [.val (.str x), .val (tp ax ay)] σ) Q R := by
  apply v_callD <;> try unfold d_check_site
  repeat' fail "s"
  all_goals first | exact h1 | exact h2 | exact q
local macro_rules | `(tactic| left) => `(tactic| with_reducible apply ru_check_site)
theorem ru_turn (h1 : Bd ax) (h2 : Bd ay) (h3 : Bd bx) (h4 : Bd by_) (q : Q (.val (.int (trn ax ay bx by_ cx cy))) σ) : WP (callD 3 d_turn [.val (tp ax ay), .val (tp bx by_), .val (tp cx cy)] σ) Q R := by
  unfold Bd at h1 h2 h3 h4
  apply v_callD <;> try unfold d_turn
  repeat' fail "s"
  · exact mulOk_l (by omega) (by omega)
  · exact mulOk_l (by omega) (by omega)
  · exact q
local macro_rules | `(tactic| left) => `(tactic| with_reducible apply ru_turn)
theorem ru_sign {i : Int} (q : Q (.val (.int (sgn i))) σ) : WP (callD 1 d_sign [.val (.int i)] σ) Q R := by
  apply v_callD <;> try unfold d_sign
  repeat' fail "s"
  exact q
local macro_rules | `(tactic| left) => `(tactic| with_reducible apply ru_sign)
end

local macro_rules | `(tactic| left) => `(tactic| with_reducible first | apply ru_is_integer | apply ru_is_between | apply ru_is_site | apply ru_check_site | apply ru_turn | apply ru_sign)
section
variable {σ : PSt} {R : XP} {Q : EVal → PSt → Prop} {ax ay bx by_ cx cy dx dy : Int}
theorem mb {x y A B : Int} (h : -A ≤ x ∧ x ≤ A) (h' : -B ≤ y ∧ y ≤ B) : -(A * B) ≤ x * y ∧ x * y ≤ A * B := by
  have a := ml (x := x) (y := y) (A := A.toNat) (B := B.toNat) (by omega) (by omega)
  have e : ((A.toNat * B.toNat : Nat) : Int) = A * B := by rw [Int.natCast_mul, Int.toNat_of_nonneg (by omega), Int.toNat_of_nonneg (by omega)]
  rw [← e]
  omega
theorem sgn_b (i : Int) : -1 ≤ sgn i ∧ sgn i ≤ 1 := by
  unfold sgn
  repeat' split
  all_goals omega
theorem sgn_neg (i : Int) : sgn (0 - i) = 0 - sgn i := by
  unfold sgn
  by_cases h : 0 < i
  · have h1 : ¬ i < 0 := by omega
    have h2 : ¬ 0 < 0 - i := by omega
    have h3 : 0 - i < 0 := by omega
    simp [h, h1, h2, h3]
  · by_cases h' : i < 0
    · have h2 : 0 < 0 - i := by omega
      have h3 : ¬ 0 - i < 0 := by omega
      simp [h, h', h2, h3]
    · have h2 : ¬ 0 < 0 - i := by omega
      have h3 : ¬ 0 - i < 0 := by omega
      simp [h, h', h2, h3]
theorem sgn_pos {i : Int} (h : 0 < i) : sgn i = 1 := by
  unfold sgn; have h1 : ¬ i < 0 := by omega
  simp [h, h1]
theorem sgn_ng {i : Int} (h : i < 0) : sgn i = -1 := by
  unfold sgn; have h1 : ¬ 0 < i := by omega
  simp [h, h1]
theorem sgn_z : sgn 0 = 0 := rfl
theorem ru_check_circle (h1 : Bd ax) (h2 : Bd ay) (h3 : Bd bx) (h4 : Bd by_) (h5 : Bd cx) (h6 : Bd cy) (q : Q (.val .non) σ) : WP (callD 3 d_check_circle [.val (tp ax ay), .val (tp bx by_), .val (tp cx cy)] σ) Q R := by
  apply v_callD <;> try unfold d_check_circle
  repeat' fail "s"
  all_goals first | exact h1 | exact h2 | exact h3 | exact h4 | exact h5 | exact h6 | exact q
local macro_rules | `(tactic| left) => `(tactic| with_reducible apply ru_check_circle)
def pwr (ax ay bx by_ cx cy : Int) : Int := (ax * ax + ay * ay) * (bx * cy - cx * by_) - (bx * bx + by_ * by_) * (ax * cy - cx * ay) + (cx * cx + cy * cy) * (ax * by_ - bx * ay)
theorem ru_power (h1 : Bd ax) (h2 : Bd ay) (h3 : Bd bx) (h4 : Bd by_) (h5 : Bd cx) (h6 : Bd cy) (h7 : Bd dx) (h8 : Bd dy) (q : Q (.val (.int (pwr (ax - dx) (ay - dy) (bx - dx) (by_ - dy) (cx - dx) (cy - dy)))) σ) :
    WP (callD 15 d_power [.val (tp ax ay), .val (tp bx by_), .val (tp cx cy), .val (tp dx dy)] σ) Q R := by
  unfold Bd at h1 h2 h3 h4 h5 h6 h7 h8
  have e1 := mb (x := ax - dx) (y := ax - dx) (A := 2000000) (B := 2000000) (by omega) (by omega)
  have e2 := mb (x := ay - dy) (y := ay - dy) (A := 2000000) (B := 2000000) (by omega) (by omega)
  have e3 := mb (x := bx - dx) (y := bx - dx) (A := 2000000) (B := 2000000) (by omega) (by omega)
  have e4 := mb (x := by_ - dy) (y := by_ - dy) (A := 2000000) (B := 2000000) (by omega) (by omega)
  have e5 := mb (x := cx - dx) (y := cx - dx) (A := 2000000) (B := 2000000) (by omega) (by omega)
  have e6 := mb (x := cy - dy) (y := cy - dy) (A := 2000000) (B := 2000000) (by omega) (by omega)
  apply v_callD <;> try unfold d_power
  repeat' fail "s"
  all_goals first
    | exact mulOk_l (by omega) (by omega)
    | exact q
local macro_rules | `(tactic| left) => `(tactic| with_reducible apply ru_power)
def inc (ax ay bx by_ cx cy dx dy : Int) : Int := sgn (pwr (ax - dx) (ay - dy) (bx - dx) (by_ - dy) (cx - dx) (cy - dy)) * sgn (trn ax ay bx by_ cx cy)
theorem ru_inside (h1 : Bd ax) (h2 : Bd ay) (h3 : Bd bx) (h4 : Bd by_) (h5 : Bd cx) (h6 : Bd cy) (h7 : Bd dx) (h8 : Bd dy) (q : Q (.val (.int (inc ax ay bx by_ cx cy dx dy))) σ) :
    WP (callD 4 d_inside [.val (tp ax ay), .val (tp bx by_), .val (tp cx cy), .val (tp dx dy)] σ) Q R := by
  apply v_callD <;> try unfold d_inside
  repeat' fail "s"
  all_goals first
    | exact h1 | exact h2 | exact h3 | exact h4 | exact h5 | exact h6 | exact h7 | exact h8
    | (exact mulOk_l (by have := sgn_b (pwr (ax - dx) (ay - dy) (bx - dx) (by_ - dy) (cx - dx) (cy - dy)); omega) (by have := sgn_b (pwr (ax - dx) (ay - dy) (bx - dx) (by_ - dy) (cx - dx) (cy - dy)); omega))
    | exact q
local macro_rules | `(tactic| left) => `(tactic| with_reducible apply ru_inside)
theorem ru_in_circle (h1 : Bd ax) (h2 : Bd ay) (h3 : Bd bx) (h4 : Bd by_) (h5 : Bd cx) (h6 : Bd cy) (h7 : Bd dx) (h8 : Bd dy) (ht : trn ax ay bx by_ cx cy ≠ 0) (q : Q (.val (.int (inc ax ay bx by_ cx cy dx dy))) σ) :
    WP (callD 4 d_in_circle [.val (tp ax ay), .val (tp bx by_), .val (tp cx cy), .val (tp dx dy)] σ) Q R := by
  apply v_callD <;> try unfold d_in_circle
  repeat' fail "s"
  all_goals first
    | exact h1 | exact h2 | exact h3 | exact h4 | exact h5 | exact h6 | exact h7 | exact h8
    | contradiction
    | exact q
local macro_rules | `(tactic| left) => `(tactic| with_reducible apply ru_in_circle)
end

/-! ### the purse -/
def Sr (s : Int × Int × Int) : PV := .lst [.int s.1, .int s.2.1, .int s.2.2]
/-- a purse behind at most N draws -/
def Pu (N : Nat) (s : Int × Int × Int) : Prop := 0 ≤ s.2.1 ∧ s.2.1 < 2147483563 ∧ 0 ≤ s.2.2 ∧ s.2.2 ≤ 3 + N
theorem lt250 {m : Int} (h0 : 0 < m) (h : m < 2 ^ 250) : m.natAbs < 2 ^ 1000 := by
  have h1 : m.natAbs < 2 ^ 250 := by omega
  exact Nat.lt_of_lt_of_le h1 (Nat.pow_le_pow_right (by omega) (by omega))
theorem powOk3 {i : Int} (h : i.natAbs < 2 ^ 200) : powOk i 3 := by
  refine ⟨by omega, ?_⟩
  have : i.natAbs.log2 < 200 := by
    by_cases h0 : i.natAbs = 0
    · rw [h0]; decide
    · exact (Nat.log2_lt h0).mpr h
  omega
theorem mulOk_fm {a m c j : Int} (hm : 0 < m) (hm2 : m < 1000000000000) (hc : -1000000000000 ≤ c) (hc2 : c ≤ 1000000000000) : mulOk (a.fmod m + c) j := by
  have := fmod_b a hm
  exact mulOk_l (by omega) (by omega)
theorem mulOk_fm0 {a m j : Int} (hm : 0 < m) (hm2 : m < 1000000000000) : mulOk (a.fmod m) j := by
  have := fmod_b a hm
  exact mulOk_l (by omega) (by omega)
theorem coin_body {a b c m : Int} {N : Nat} (hN : N < 100000) (h : Pu N (a, b, c)) (hm : 0 < m) (hm2 : m < 2 ^ 250) : WP (d_law_coin ⟨[some (.lo 0), some (.frz (.int m)), none, none], [.lst [.int a, .int b, .int c]]⟩) (fun f σ' => ∃ r s l, f = .rt (.val (.int r)) ∧ 0 ≤ r ∧ r < m ∧ Pu (N + 1) s ∧ σ' = ⟨l, [Sr s]⟩) noX := by
  obtain ⟨h1, h2, h3, h4⟩ := h
  have h1 : 0 ≤ b := h1
  have h2 : b < 2147483563 := h2
  have h3 : 0 ≤ c := h3
  have h4 : c ≤ 3 + N := h4
  unfold d_law_coin
  repeat' fail "s"
  all_goals first
    | exact divOk_of (by omega) (by omega)
    | exact divOk_w (by omega) (lt250 hm hm2)
    | omega
    | exact mulOk_l (by omega) (by omega)
    | exact powOk3 (by omega)
    | exact mulOk_fm (by omega) (by omega) (by omega) (by omega)
    | exact mulOk_fm0 (by omega) (by omega)
    | exact ⟨_, (_, b, c), _, rfl, (fmod_b _ hm).1, (fmod_b _ hm).2, ⟨by omega, by omega, by omega, by show c ≤ 3 + ((N + 1 : Nat) : Int); omega⟩, rfl⟩
    | exact ⟨_, (a, b, c + 1), _, rfl, (fmod_b _ hm).1, (fmod_b _ hm).2, ⟨by omega, by omega, by show 0 ≤ c + 1; omega, by show c + 1 ≤ 3 + ((N + 1 : Nat) : Int); omega⟩, rfl⟩
section
variable {R : XP} {Q : EVal → PSt → Prop}
theorem ru_coinO {l : SlL} {n : List PV} {i : Nat} {s : Int × Int × Int} {m : Int} {N : Nat} {l' : Int × Int × Int → SlL} (hp : Pu N s) (hN : N < 100000) (hm : 0 < m) (hm2 : m < 2 ^ 250) (g : GetL l i (.own (Sr s))) (st : ∀ s', SetL l i (.own (Sr s')) (l' s'))
    (q : ∀ r s', Pu (N + 1) s' → 0 ≤ r → r < m → Q (.val (.int r)) ⟨l' s', n⟩) : WP (callD 4 d_law_coin [.at i, .val (.int m)] ⟨l, n⟩) Q R := by
  refine v_callD (CallI.a g (.v (.z (.s (.s .z))))) (NdS.mk rfl) ?_
  refine (coin_body (a := s.1) (b := s.2.1) (c := s.2.2) hN hp hm hm2).mono ?_ (fun _ _ z => z.elim)
  rintro f σ' ⟨r, s', l1, rfl, h0, h1, hp', rfl⟩
  exact k_ret .v (.a (st s') .z) (q r s' hp' h0 h1)
theorem ru_coinL {l : SlL} {s : Int × Int × Int} {m : Int} {N : Nat} (hp : Pu N s) (hN : N < 100000) (hm : 0 < m) (hm2 : m < 2 ^ 250)
    (q : ∀ r s', Pu (N + 1) s' → 0 ≤ r → r < m → Q (.val (.int r)) ⟨l, [Sr s']⟩) : WP (callD 4 d_law_coin [.lo 0, .val (.int m)] ⟨l, [Sr s]⟩) Q R := by
  refine v_callD (CallI.l .z (.v (.z (.s (.s .z))))) (NdS.mk rfl) ?_
  refine (coin_body (a := s.1) (b := s.2.1) (c := s.2.2) hN hp hm hm2).mono ?_ (fun _ _ z => z.elim)
  rintro f σ' ⟨r, s', l1, rfl, h0, h1, hp', rfl⟩
  exact k_ret .v (.l .z .z) (q r s' hp' h0 h1)
end
local macro_rules | `(tactic| left) => `(tactic| first | ((with_reducible apply ru_coinL) <;> first | assumption | omega | skip) | ((with_reducible apply ru_coinO) <;> first | assumption | omega | skip))
section
variable {R : XP} {Q : EVal → PSt → Prop}
theorem ru_pickL {l : SlL} {s : Int × Int × Int} {xs : List PV} {N : Nat} (hp : Pu N s) (hN : N < 100000) (hx : 0 < xs.length) (hx2 : xs.length < 1000)
    (q : ∀ p s', Pu (N + 1) s' → p ∈ xs → Q (.val p) ⟨l, [Sr s']⟩) : WP (callD 2 d_law_pick [.lo 0, .val (.lst xs)] ⟨l, [Sr s]⟩) Q R := by
  refine v_callD (CallI.l .z (.v (.z .z))) (NdS.mk rfl) ?_
  unfold d_law_pick
  repeat' fail "s"
  all_goals first
    | omega
    | (rename_i r s' hp' h0 h1; exact q _ _ hp' (getD_mem (xs := xs) ⟨h0, h1⟩))
local macro_rules | `(tactic| left) => `(tactic| ((with_reducible apply ru_pickL) <;> first | assumption | omega | skip))
theorem ru_pickI {l : SlL} {s : Int × Int × Int} {xs : List PV} {ns : List Int} {N : Nat} (il : IntL xs ns) (hp : Pu N s) (hN : N < 100000) (hx : 0 < xs.length) (hx2 : xs.length < 1000)
    (q : ∀ v s', Pu (N + 1) s' → v ∈ ns → Q (.val (.int v)) ⟨l, [Sr s']⟩) : WP (callD 2 d_law_pick [.lo 0, .val (.lst xs)] ⟨l, [Sr s]⟩) Q R := by
  refine ru_pickL hp hN hx hx2 fun p s' h hm => ?_
  obtain ⟨v, rfl, hv⟩ := il.mem hm
  exact q v s' h hv
theorem ru_size {l : SlL} {s : Int × Int × Int} {a : Int} {N : Nat} (hp : Pu N s) (hN : N + 2 < 100000) (h1 : 1 ≤ a) (h2 : a ≤ 2)
    (q : ∀ r s', Pu (N + 2) s' → a ≤ r → r ≤ 1000000 → Q (.val (.int r)) ⟨l, [Sr s']⟩) : WP (callD 2 d_law_size [.lo 0, .val (.int a)] ⟨l, [Sr s]⟩) Q R := by
  refine v_callD (CallI.l .z (.v (.z .z))) (NdS.mk rfl) ?_
  unfold d_law_size
  repeat' fail "s"
  all_goals try first
    | (unfold powOk; decide)
    | (simp only [List.length_cons, List.length_nil]; omega)
  rename_i p s1 hp1 hm
  obtain ⟨G, rfl, g0, g1⟩ : ∃ G : Int, p = .int G ∧ 0 < G ∧ a + G - 1 ≤ 1000000 := by
    simp only [List.mem_cons, List.not_mem_nil, or_false] at hm
    rcases hm with rfl | rfl | rfl
    · exact ⟨_, rfl, by omega⟩
    · exact ⟨_, rfl, by omega⟩
    · exact ⟨_, rfl, by omega⟩
  repeat' fail "s"
  all_goals try omega
  rename_i r s2 hp2 r0 r1
  exact q _ _ hp2 (by omega) (by omega)
theorem ru_purse {σ : PSt} {i : Int} (q : ∀ s, Pu 0 s → Q (.new (Sr s)) σ) : WP (callD 1 d_law_purse [.val (.int i)] σ) Q R := by
  apply v_callD <;> try unfold d_law_purse
  repeat' fail "s"
  all_goals first
    | (unfold powOk; decide)
    | (refine mulOk_r ?_ ?_ <;> split <;> omega)
    | omega
    | (have := fmod_b i (m := 2147483563) (by omega); exact q (_, _, _) ⟨this.1, this.2, by show (0:Int) ≤ 3; omega, by show (3:Int) ≤ 3 + ((0:Nat):Int); omega⟩)
end

abbrev t4 (a b c d : Int) : PV := .tup [.int a, .int b, .int c, .int d]
local macro_rules | `(tactic| left) => `(tactic| first | ((with_reducible apply ru_pickI) <;> first | (with_reducible assumption) | omega | (repeat apply IntL.s; exact IntL.z) | skip) | ((with_reducible apply ru_coinO) <;> first | (with_reducible assumption) | omega | (repeat apply IntL.s; exact IntL.z) | skip) | ((with_reducible apply ru_coinL) <;> first | (with_reducible assumption) | omega | (repeat apply IntL.s; exact IntL.z) | skip) | ((with_reducible apply ru_pickL) <;> first | (with_reducible assumption) | omega | (repeat apply IntL.s; exact IntL.z) | skip) | ((with_reducible apply ru_size) <;> first | (with_reducible assumption) | omega | (repeat apply IntL.s; exact IntL.z) | skip) | with_reducible first | apply ru_is_integer | apply ru_is_between | apply ru_is_site | apply ru_check_site | apply ru_turn | apply ru_sign | apply ru_check_circle | apply ru_power | apply ru_inside | apply ru_in_circle | apply ru_purse)
section
variable {σ : PSt} {R : XP} {Q : EVal → PSt → Prop}
theorem ru_counted {a f t : Int} (q : Q (.val (t4 a (a + f - 1) f t)) σ) : WP (callD 3 d_counted [.val (.int a), .val (.int f), .val (.int t)] σ) Q R := by
  apply v_callD <;> try unfold d_counted
  repeat' fail "s"
  exact q
local macro_rules | `(tactic| left) => `(tactic| with_reducible apply ru_counted)
theorem ru_check_sides {lo m n : Int} (h1 : lo ≤ m) (h2 : m ≤ 1000000) (h3 : lo ≤ n) (h4 : n ≤ 1000000) (q : Q (.val .non) σ) : WP (callD 5 d_check_sides [.val (.int lo), .val (.int m), .val (.int n)] σ) Q R := by
  apply v_callD <;> try unfold d_check_sides
  repeat' fail "f"
  exact q
local macro_rules | `(tactic| left) => `(tactic| with_reducible apply ru_check_sides)
theorem ru_check_span {x : Str} {i : Int} (h1 : Bd i) (q : Q (.val .non) σ) : WP (callD 2 d_check_span [.val (.str x), .val (.int i)] σ) Q R := by
  unfold Bd at h1
  apply v_callD <;> try unfold d_check_span
  repeat' fail "s"
  exact q
local macro_rules | `(tactic| left) => `(tactic| with_reducible apply ru_check_span)
theorem ru_grid_counts {m n : Int} (h1 : 1 ≤ m) (h2 : m ≤ 1000000) (h3 : 1 ≤ n) (h4 : n ≤ 1000000) (q : Q (.val (t4 (m * n) (m * n + (m - 1) * (n - 1) - 1) ((m - 1) * (n - 1)) (2 * ((m - 1) * (n - 1))))) σ) : WP (callD 3 d_grid_counts [.val (.int m), .val (.int n)] σ) Q R := by
  apply v_callD <;> try unfold d_grid_counts
  repeat' fail "s"
  all_goals first
    | assumption
    | exact mulOk_l (by omega) (by omega)
local macro_rules | `(tactic| left) => `(tactic| with_reducible apply ru_grid_counts)
theorem ru_whole {a f t : Int} (h1 : f ≤ t) (h2 : a + f - 1 ≤ 3 * a - 3) (q : Q (.val (.bl true)) σ) : WP (callD 1 d_law_whole [.val (t4 a (a + f - 1) f t)] σ) Q R := by
  apply v_callD <;> try unfold d_law_whole
  repeat' fail "t"
  · exact mulOk_l (by omega) (by omega)
  · exact q_bl (by simp; omega) q
local macro_rules | `(tactic| left) => `(tactic| with_reducible apply ru_whole)
end
local macro_rules | `(tactic| left) => `(tactic| first | ((with_reducible apply ru_pickI) <;> first | (with_reducible assumption) | omega | (repeat apply IntL.s; exact IntL.z) | skip) | ((with_reducible apply ru_coinO) <;> first | (with_reducible assumption) | omega | (repeat apply IntL.s; exact IntL.z) | skip) | ((with_reducible apply ru_coinL) <;> first | (with_reducible assumption) | omega | (repeat apply IntL.s; exact IntL.z) | skip) | ((with_reducible apply ru_pickL) <;> first | (with_reducible assumption) | omega | (repeat apply IntL.s; exact IntL.z) | skip) | ((with_reducible apply ru_size) <;> first | (with_reducible assumption) | omega | (repeat apply IntL.s; exact IntL.z) | skip) | with_reducible first | apply ru_is_integer | apply ru_is_between | apply ru_is_site | apply ru_check_site | apply ru_turn | apply ru_sign | apply ru_check_circle | apply ru_power | apply ru_inside | apply ru_in_circle | apply ru_purse | apply ru_counted | apply ru_check_sides | apply ru_check_span | apply ru_grid_counts | apply ru_whole)
section
variable {R : XP} {Q : EVal → PSt → Prop}
theorem sz_mul {m n : Int} (h1 : 1 ≤ m) (h2 : 1 ≤ n) : (m - 1) * (n - 1) = m * n - m - n + 1 ∧ m ≤ m * n ∧ n ≤ m * n := by
  refine ⟨by grind, ?_, ?_⟩
  · have := Int.mul_le_mul_of_nonneg_left (c := m) h2 (by omega)
    omega
  · have := Int.mul_le_mul_of_nonneg_right (c := n) h1 (by omega)
    omega
theorem gr1 {m n : Int} (h1 : 1 ≤ m) (h2 : 1 ≤ n) : m * n = m * n ∧ m * n + (m - 1) * (n - 1) - 1 = 2 * m * n - m - n ∧ (m - 1) * (n - 1) = (m - 1) * (n - 1) ∧ 2 * ((m - 1) * (n - 1)) = 2 * ((m - 1) * (n - 1)) := by
  obtain ⟨e, _⟩ := sz_mul h1 h2
  have e4 : 2 * m * n = 2 * (m * n) := by rw [Int.mul_assoc]
  omega
theorem gr2 {m n : Int} : n * m = m * n ∧ n * m + (n - 1) * (m - 1) - 1 = m * n + (m - 1) * (n - 1) - 1 ∧ (n - 1) * (m - 1) = (m - 1) * (n - 1) ∧ 2 * ((n - 1) * (m - 1)) = 2 * ((m - 1) * (n - 1)) := by
  rw [Int.mul_comm n m, Int.mul_comm (n - 1) (m - 1)]
  omega
theorem gr3 {m n : Int} (h1 : 1 ≤ m) (h2 : 1 ≤ n) : (m - 1) * (n - 1) ≤ 2 * ((m - 1) * (n - 1)) := by
  have := Int.mul_nonneg (a := m - 1) (b := n - 1) (by omega) (by omega)
  omega
theorem gr4 {m n : Int} (h1 : 1 ≤ m) (h2 : 1 ≤ n) (h : ¬ m * n = 1) : m * n + (m - 1) * (n - 1) - 1 ≤ 3 * (m * n) - 3 := by
  obtain ⟨e, e1, e2⟩ := sz_mul h1 h2
  omega
theorem ru_grids {s : Int × Int × Int} {l : SlL} {n : List PV} {i : Nat} {N : Nat} {l' : Int × Int × Int → SlL} (hp : Pu N s) (hN : N + 4 < 100000) (g : GetL l i (.own (Sr s))) (st : ∀ s', SetL l i (.own (Sr s')) (l' s'))
    (q : ∀ s', Pu (N + 4) s' → Q (.val (.bl true)) ⟨l' s', n⟩) : WP (callD 5 d_law_grids_right [.at i] ⟨l, n⟩) Q R := by
  refine v_callD (CallI.a g (.z (.s (.s (.s (.s .z)))))) (NdS.mk rfl) ?_
  unfold d_law_grids_right
  repeat' fail "s"
  all_goals try fail "c"
  all_goals first
    | (exfalso; rename_i h; exact h (gr1 (by assumption) (by assumption)))
    | (exfalso; rename_i h; exact h gr2)
    | exact k_ret .v (.a (st _) .z) (q _ (by assumption))
    | exact gr3 (by assumption) (by assumption)
    | exact gr4 (by assumption) (by assumption) (by assumption)
/-! ### two rows -/
theorem ru_two_rows {m n d : Int} (h1 : 1 ≤ m) (h2 : m ≤ 1000000) (h3 : 1 ≤ n) (h4 : n ≤ 1000000) (h5 : Bd d) {σ : PSt}
    (q : ∀ u, u = max 0 (min m (d + n) - max 0 d - 1) → Q (.val (t4 (m + n) (m + n + (m + n - 2 - u) - 1) (m + n - 2 - u) (m + n - 2))) σ) : WP (callD 5 d_two_rows_counts [.val (.int m), .val (.int n), .val (.int d)] σ) Q R := by
  apply v_callD <;> try unfold d_two_rows_counts
  repeat' fail "s"
  all_goals try fail "c"
  exact q _ (by omega)
theorem ru_check_ends {a b : Int} (h1 : Bd a) (h2 : Bd b) (h3 : a ≤ b) {σ : PSt} (q : Q (.val .non) σ) : WP (callD 2 d_check_ends [.val (.int a), .val (.int b)] σ) Q R := by
  apply v_callD <;> try unfold d_check_ends
  repeat' fail "s"
  all_goals fail "c"
local macro_rules | `(tactic| left) => `(tactic| with_reducible apply ru_check_ends)
theorem ru_parabola {a b : Int} (h1 : Bd a) (h2 : Bd b) (h3 : a ≤ b) {σ : PSt}
    (q : ∀ f, (a < 0 ∧ 0 < b → f = max (0 - a) b) → (¬ (a < 0 ∧ 0 < b) → f = max 0 (b - a + 1 - 2)) → Q (.val (t4 (b - a + 1) (b - a + 1 + f - 1) f (max 0 (b - a + 1 - 2)))) σ) : WP (callD 4 d_parabola_counts [.val (.int a), .val (.int b)] σ) Q R := by
  have g1 := h1
  have g2 := h2
  unfold Bd at g1 g2
  apply v_callD <;> try unfold d_parabola_counts
  repeat' fail "s"
  all_goals try fail "c"
  · exact q _ (by omega) (by omega)
  · exact q _ (by omega) (by omega)
  · exact q _ (by omega) (by omega)
theorem ru_zigzag {m n : Int} (h1 : 2 ≤ m) (h2 : m ≤ 1000000) (h3 : 2 ≤ n) (h4 : n ≤ 1000000) {σ : PSt}
    (q : Q (.val (t4 (m * n) (m * n + (2 * m * n - 2 * m - n) - 1) (2 * m * n - 2 * m - n) (2 * m * n - 2 * m - n))) σ) : WP (callD 3 d_zigzag_counts [.val (.int m), .val (.int n)] σ) Q R := by
  apply v_callD <;> try unfold d_zigzag_counts
  repeat' fail "s"
  all_goals try fail "c"
end
local macro_rules | `(tactic| left) => `(tactic| first | ((with_reducible apply ru_pickI) <;> first | (with_reducible assumption) | omega | (repeat apply IntL.s; exact IntL.z) | skip) | ((with_reducible apply ru_coinO) <;> first | (with_reducible assumption) | omega | (repeat apply IntL.s; exact IntL.z) | skip) | ((with_reducible apply ru_coinL) <;> first | (with_reducible assumption) | omega | (repeat apply IntL.s; exact IntL.z) | skip) | ((with_reducible apply ru_pickL) <;> first | (with_reducible assumption) | omega | (repeat apply IntL.s; exact IntL.z) | skip) | ((with_reducible apply ru_size) <;> first | (with_reducible assumption) | omega | (repeat apply IntL.s; exact IntL.z) | skip) | with_reducible first | apply ru_is_integer | apply ru_is_between | apply ru_is_site | apply ru_check_site | apply ru_turn | apply ru_sign | apply ru_check_circle | apply ru_power | apply ru_inside | apply ru_in_circle | apply ru_purse | apply ru_counted | apply ru_check_sides | apply ru_check_span | apply ru_grid_counts | apply ru_whole | apply ru_grids | apply ru_two_rows | apply ru_check_ends | apply ru_parabola | apply ru_zigzag)
section
variable {R : XP} {Q : EVal → PSt → Prop} {s : Int × Int × Int} {l : SlL} {n : List PV} {i : Nat} {N : Nat} {l' : Int × Int × Int → SlL}
theorem ru_rows (hp : Pu N s) (hN : N + 6 < 100000) (g : GetL l i (.own (Sr s))) (st : ∀ s', SetL l i (.own (Sr s')) (l' s'))
    (q : ∀ s', Pu (N + 6) s' → Q (.val (.bl true)) ⟨l' s', n⟩) : WP (callD 6 d_law_rows_right [.at i] ⟨l, n⟩) Q R := by
  refine v_callD (CallI.a g (.z (.s (.s (.s (.s (.s .z))))))) (NdS.mk rfl) ?_
  unfold d_law_rows_right
  repeat' fail "s"
  all_goals try fail "c"
  all_goals try first
    | (simp only [List.mem_cons, List.not_mem_nil, or_false] at *; unfold Bd; omega)
    | (exfalso; simp only [List.mem_cons, List.not_mem_nil, or_false] at *; omega)
    | exact k_ret .v (.a (st _) .z) (q _ (by assumption))
    | (refine k_ret .v (.a (st _) .z) (q_bl (decide_eq_true ?_) (q _ (by assumption))); simp only [List.mem_cons, List.not_mem_nil, or_false] at *; omega)
theorem ru_parabolas (hp : Pu N s) (hN : N + 5 < 100000) (g : GetL l i (.own (Sr s))) (st : ∀ s', SetL l i (.own (Sr s')) (l' s'))
    (q : ∀ s', Pu (N + 5) s' → Q (.val (.bl true)) ⟨l' s', n⟩) : WP (callD 6 d_law_parabolas_right [.at i] ⟨l, n⟩) Q R := by
  refine v_callD (CallI.a g (.z (.s (.s (.s (.s (.s .z))))))) (NdS.mk rfl) ?_
  unfold d_law_parabolas_right
  repeat' fail "s"
  all_goals try fail "c"
  all_goals try first
    | (simp only [List.mem_cons, List.not_mem_nil, or_false] at *; unfold Bd; omega)
    | (exfalso; simp only [List.mem_cons, List.not_mem_nil, or_false] at *; omega)
    | exact k_ret .v (.a (st _) .z) (q _ (by assumption))
    | (refine k_ret .v (.a (st _) .z) (q_bl (decide_eq_true ?_) (q _ (by assumption))); simp only [List.mem_cons, List.not_mem_nil, or_false] at *; omega)
theorem ru_zigzags (hp : Pu N s) (hN : N + 4 < 100000) (g : GetL l i (.own (Sr s))) (st : ∀ s', SetL l i (.own (Sr s')) (l' s'))
    (q : ∀ s', Pu (N + 4) s' → Q (.val (.bl true)) ⟨l' s', n⟩) : WP (callD 5 d_law_zigzags_right [.at i] ⟨l, n⟩) Q R := by
  refine v_callD (CallI.a g (.z (.s (.s (.s (.s .z)))))) (NdS.mk rfl) ?_
  unfold d_law_zigzags_right
  repeat' fail "s"
  all_goals try fail "c"
  all_goals try first
    | (simp only [List.mem_cons, List.not_mem_nil, or_false] at *; unfold Bd; omega)
    | (exfalso; simp only [List.mem_cons, List.not_mem_nil, or_false] at *; omega)
    | exact k_ret .v (.a (st _) .z) (q _ (by assumption))
    | (refine k_ret .v (.a (st _) .z) (q_bl (decide_eq_true ?_) (q _ (by assumption))); simp only [List.mem_cons, List.not_mem_nil, or_false] at *; omega)
  rename_i m s1 _ _ _ k s2 _ _ _ h
  have := Int.mul_assoc 2 m k
  omega
end

theorem eqvI (a b : Int) : PyData.eqv (.int a) (.int b) = decide (a = b) := rfl
theorem nin3 {x : Int} {ns : List Int} (h : ns.length ≤ 3) : EqF (pvNinO (.int x) (.lst (ns.map .int))) (some (.v (.bl (!decide (x ∈ ns))))) := by
  have main : pvIn (.int x) (.lst (ns.map .int)) = some (decide (x ∈ ns)) := by
    rcases ns with _ | ⟨a, _ | ⟨b, _ | ⟨c, _ | ⟨d, r⟩⟩⟩⟩
    · have hs : SeqAt.shaped (.int x) = true ∧ SeqAt.shaped (.list []) = true := ⟨rfl, rfl⟩
      unfold pvIn
      simp only [List.map_nil, toD, toDs, Option.map_some, if_pos hs]
      simp
    · have hs : SeqAt.shaped (.int x) = true ∧ SeqAt.shaped (.list [.int a]) = true := ⟨rfl, rfl⟩
      unfold pvIn
      simp only [List.map_cons, List.map_nil, toD, toDs, Option.map_some, if_pos hs, List.any_cons, List.any_nil, eqvI]
      simp [eq_comm]
    · have hs : SeqAt.shaped (.int x) = true ∧ SeqAt.shaped (.list [.int a, .int b]) = true := ⟨rfl, rfl⟩
      unfold pvIn
      simp only [List.map_cons, List.map_nil, toD, toDs, Option.map_some, if_pos hs, List.any_cons, List.any_nil, eqvI]
      simp [eq_comm]
    · have hs : SeqAt.shaped (.int x) = true ∧ SeqAt.shaped (.list [.int a, .int b, .int c]) = true := ⟨rfl, rfl⟩
      unfold pvIn
      simp only [List.map_cons, List.map_nil, toD, toDs, Option.map_some, if_pos hs, List.any_cons, List.any_nil, eqvI]
      simp [eq_comm]
    · simp at h
  show (pvIn (.int x) (.lst (ns.map .int))).map _ = _
  rw [main]
  rfl
theorem app3 {x : Int} {ns : List Int} (h : ns.length ≤ 3) : EqF (mAppend (.lst (ns.map .int)) [.int x]) (some (.v .non, .lst ((ns ++ [x]).map .int))) := by
  have e : (ns.map PV.int).length < szL := by rw [List.length_map]; unfold szL; omega
  unfold EqF mAppend
  simp only [e, if_true]
  simp
theorem len3 {ns : List Int} : EqF (fnLen [.lst (ns.map .int)]) (some (.v (.int ns.length))) := by
  have : fnLen [.lst (ns.map PV.int)] = some (.v (.int (ns.map PV.int).length)) := rfl
  unfold EqF
  rw [this, List.length_map]
theorem sgn_mul (a b : Int) : sgn (a * b) = sgn a * sgn b := by
  rcases Int.lt_trichotomy a 0 with h | h | h <;> rcases Int.lt_trichotomy b 0 with k | k | k
  · rw [sgn_pos (Int.mul_pos_of_neg_of_neg h k), sgn_ng h, sgn_ng k]; rfl
  · subst k; simp [sgn_z]
  · rw [sgn_ng (Int.mul_neg_of_neg_of_pos h k), sgn_ng h, sgn_pos k]; rfl
  · subst h; simp [sgn_z]
  · subst h; simp [sgn_z]
  · subst h; simp [sgn_z]
  · rw [sgn_ng (Int.mul_neg_of_pos_of_neg h k), sgn_pos h, sgn_ng k]; rfl
  · subst k; simp [sgn_z]
  · rw [sgn_pos (Int.mul_pos h k), sgn_pos h, sgn_pos k]; rfl
theorem sgn_sq {a : Int} (h : a ≠ 0) : sgn a * sgn a = 1 := by
  rcases Int.lt_trichotomy a 0 with k | k | k
  · rw [sgn_ng k]; rfl
  · exact absurd k h
  · rw [sgn_pos k]; rfl
theorem par_trn (i j k : Int) : trn i (i * i) j (j * j) k (k * k) = (j - i) * ((k - i) * (k - j)) := by
  unfold trn
  grind
def mark (i j k e : Int) : Int := (e + i + j + k) * (e - i) * (e - j) * (e - k)
theorem par_pwr (i j k e : Int) : pwr (i - e) (i * i - e * e) (j - e) (j * j - e * e) (k - e) (k * k - e * e) = 0 - mark i j k e * trn i (i * i) j (j * j) k (k * k) := by
  rw [par_trn]
  unfold pwr mark
  grind
theorem par_inc {i j k e : Int} (h1 : i ≠ j) (h2 : i ≠ k) (h3 : j ≠ k) : inc i (i * i) j (j * j) k (k * k) e (e * e) = 0 - sgn (mark i j k e) := by
  have ht : trn i (i * i) j (j * j) k (k * k) ≠ 0 := by
    rw [par_trn]
    exact Int.mul_ne_zero (by omega) (Int.mul_ne_zero (by omega) (by omega))
  unfold inc
  rw [par_pwr, sgn_neg, sgn_mul]
  have := sgn_sq ht
  have e1 : (0 - sgn (mark i j k e) * sgn (trn i (i * i) j (j * j) k (k * k))) * sgn (trn i (i * i) j (j * j) k (k * k)) = 0 - sgn (mark i j k e) * (sgn (trn i (i * i) j (j * j) k (k * k)) * sgn (trn i (i * i) j (j * j) k (k * k))) := by
    rw [Int.sub_mul, Int.mul_assoc, Int.zero_mul]
  rw [e1, this, Int.mul_one]
theorem nodup_snoc {ns : List Int} {x : Int} (h : ns.Nodup) (hx : ¬ x ∈ ns) : (ns ++ [x]).Nodup := by
  rw [List.nodup_append]
  refine ⟨h, by simp, ?_⟩
  intro a ha b hb e
  simp only [List.mem_singleton] at hb
  subst hb
  subst e
  exact hx ha
local macro_rules | `(tactic| left) => `(tactic| first | ((with_reducible apply ru_pickI) <;> first | ((with_reducible show Pu _ _); (with_reducible assumption)) | ((with_reducible show IntL _ _); (repeat apply IntL.s); exact IntL.z) | omega | skip) | ((with_reducible apply ru_coinO) <;> first | ((with_reducible show Pu _ _); (with_reducible assumption)) | ((with_reducible show IntL _ _); (repeat apply IntL.s); exact IntL.z) | omega | skip) | ((with_reducible apply ru_coinL) <;> first | ((with_reducible show Pu _ _); (with_reducible assumption)) | ((with_reducible show IntL _ _); (repeat apply IntL.s); exact IntL.z) | omega | skip) | ((with_reducible apply ru_pickL) <;> first | ((with_reducible show Pu _ _); (with_reducible assumption)) | ((with_reducible show IntL _ _); (repeat apply IntL.s); exact IntL.z) | omega | skip) | ((with_reducible apply ru_size) <;> first | ((with_reducible show Pu _ _); (with_reducible assumption)) | ((with_reducible show IntL _ _); (repeat apply IntL.s); exact IntL.z) | omega | skip) | with_reducible first | apply ru_is_integer | apply ru_is_between | apply ru_is_site | apply ru_check_site | apply ru_turn | apply ru_sign | apply ru_check_circle | apply ru_power | apply ru_inside | apply ru_in_circle | apply ru_purse | apply ru_counted | apply ru_check_sides | apply ru_check_span | apply ru_grid_counts | apply ru_whole | apply ru_grids | apply ru_two_rows | apply ru_check_ends | apply ru_parabola | apply ru_zigzag | apply ru_rows | apply ru_parabolas | apply ru_zigzags)
local macro_rules | `(tactic| fail) => `(tactic| with_reducible first | exact nin3 (by assumption) | exact app3 (by assumption) | exact len3)
section
variable {R : XP} {Q : EVal → PSt → Prop} {s : Int × Int × Int} {l : SlL} {n : List PV} {i : Nat} {N : Nat} {l' : Int × Int × Int → SlL}
theorem ru_circles (hp : Pu N s) (hN : N + 200 < 100000) (g : GetL l i (.own (Sr s))) (st : ∀ s', SetL l i (.own (Sr s')) (l' s'))
    (q : ∀ s', Pu (N + 181) s' → Q (.val (.bl true)) ⟨l' s', n⟩) : WP (callD 11 d_law_circles_right [.at i] ⟨l, n⟩) Q R := by
  refine v_callD (CallI.a g (.z (.s (.s (.s (.s (.s (.s (.s (.s (.s (.s .z)))))))))))) (NdS.mk rfl) ?_
  unfold d_law_circles_right
  repeat' fail "s"
  all_goals try fail "c"
  refine lp_for (fun k σ => ∃ s ns y2 y3, σ = ⟨[some (.lo 0), some (.own (.lst (List.map PV.int ns))), y2, y3, none, none, none, none, none, none, none], [Sr s]⟩ ∧ Pu (N + 3 * k) s ∧ ns.Nodup ∧ ns.length ≤ 3 ∧ ∀ x ∈ ns, -1000 ≤ x ∧ x ≤ 1000) ?_ ?_ ⟨s, [], none, none, rfl, hp, List.nodup_nil, by simp, (fun x hx => by cases hx)⟩
  · rintro k x σ hx ⟨s1, ns, y2, y3, rfl, h1, h2, h3, h4⟩
    obtain ⟨hk, rfl⟩ := rng_at hx
    have hk : k < 60 := hk
    repeat' fail "s"
    all_goals try fail "c"
    all_goals try rw [List.length_map] at *
    · rename_i v1 _ _ _ r _ _ _ _ v2 s9 hp9 _ hn hl
      refine ⟨s9, ns ++ [_], _, _, rfl, ?_, nodup_snoc h2 hn, ?_, ?_⟩
      · rw [show N + 3 * (k + 1) = N + 3 * k + 1 + 1 + 1 by omega]; exact hp9
      · rw [List.length_append, List.length_singleton]; omega
      · intro x hx
        rcases List.mem_append.mp hx with hx | hx
        · exact h4 x hx
        · simp only [List.mem_singleton] at hx
          omega
    · rename_i v1 _ _ _ r _ _ _ _ v2 s9 hp9 _ hn hl
      exact ⟨s9, ns, _, _, rfl, by rw [show N + 3 * (k + 1) = N + 3 * k + 1 + 1 + 1 by omega]; exact hp9, h2, h3, h4⟩
    · rename_i v1 _ _ _ r _ _ _ _ v2 s9 hp9 _ hn
      exact ⟨s9, ns, _, _, rfl, by rw [show N + 3 * (k + 1) = N + 3 * k + 1 + 1 + 1 by omega]; exact hp9, h2, h3, h4⟩
  · rintro σ ⟨s1, ns, y2, y3, rfl, h1, h2, h3, h4⟩
    rw [rng_len] at h1
    have h1 : Pu (N + 180) s1 := h1
    rcases ns with _ | ⟨a, _ | ⟨b, _ | ⟨c, _ | ⟨d, r⟩⟩⟩⟩
    · simp only [List.map_cons, List.map_nil]
      repeat' fail "s"
      exact k_ret .v (.a (st _) .z) (q _ ⟨h1.1, h1.2.1, h1.2.2.1, by have := h1.2.2.2; omega⟩)
    · simp only [List.map_cons, List.map_nil]
      repeat' fail "s"
      exact k_ret .v (.a (st _) .z) (q _ ⟨h1.1, h1.2.1, h1.2.2.1, by have := h1.2.2.2; omega⟩)
    · simp only [List.map_cons, List.map_nil]
      repeat' fail "s"
      exact k_ret .v (.a (st _) .z) (q _ ⟨h1.1, h1.2.1, h1.2.2.1, by have := h1.2.2.2; omega⟩)
    · simp only [List.map_cons, List.map_nil]
      repeat' fail "s"
      all_goals try fail "c"
      rename_i r s2 hp2 r0 r1
      have ha := h4 a (by simp)
      have hb := h4 b (by simp)
      have hc := h4 c (by simp)
      have nd : a ≠ b ∧ a ≠ c ∧ b ≠ c := by
        simp only [List.nodup_cons, List.mem_cons, List.not_mem_nil, or_false, not_or] at h2
        exact ⟨h2.1.1, h2.1.2, h2.2.1⟩
      have aa := mb (x := a) (y := a) (A := 1000) (B := 1000) (by omega) (by omega)
      have bb := mb (x := b) (y := b) (A := 1000) (B := 1000) (by omega) (by omega)
      have cc := mb (x := c) (y := c) (A := 1000) (B := 1000) (by omega) (by omega)
      refine lp_for (fun k σ => ∃ y7 y8 y9 y10, σ = ⟨[some (.lo 0), some (.frz (.lst [.int a, .int b, .int c])), y2, y3, some (.frz (.int a)), some (.frz (.int b)), some (.frz (.int c)), y7, y8, y9, y10], [Sr s2]⟩) ?_ ?_ ⟨none, none, none, none, rfl⟩
      · rintro k x σ hx ⟨y7, y8, y9, y10, rfl⟩
        obtain ⟨e, rfl⟩ : ∃ e : Int, x = .int e := by
          have := List.mem_of_getElem? hx
          simp only [List.mem_cons, List.not_mem_nil, or_false] at this
          rcases this with rfl | rfl | rfl | rfl | rfl <;> exact ⟨_, rfl⟩
        clear hx
        by_cases he : -1000 ≤ e ∧ e ≤ 1000
        · have ee := mb (x := e) (y := e) (A := 1000) (B := 1000) (by omega) (by omega)
          have ht : trn a (a * a) b (b * b) c (c * c) ≠ 0 := by
            rw [par_trn]
            exact Int.mul_ne_zero (by omega) (Int.mul_ne_zero (by omega) (by omega))
          have hi := par_inc (e := e) nd.1 nd.2.1 nd.2.2
          repeat' fail "f"
          all_goals first
            | (unfold Bd; omega)
            | exact mulOk_l (by omega) (by omega)
            | exact mulOk_r (by omega) (by omega)
            | exact ht
            | exact ⟨_, _, _, _, rfl⟩
            | (exfalso; rename_i h; apply h; rw [hi]; unfold sgn mark; omega)
        · have e0 : ¬ (if e < 0 then -e else e) ≤ 1000 := by split <;> omega
          repeat' fail "f"
          all_goals first
            | contradiction
            | exact ⟨_, _, _, _, rfl⟩
      · rintro σ ⟨y7, y8, y9, y10, rfl⟩
        repeat' fail "s"
        exact k_ret .v (.a (st _) .z) (q _ hp2)
    · simp at h3
end

local macro_rules | `(tactic| left) => `(tactic| first | ((with_reducible apply ru_pickI) <;> first | ((with_reducible show Pu _ _); (with_reducible assumption)) | ((with_reducible show IntL _ _); (repeat apply IntL.s); exact IntL.z) | omega | skip) | ((with_reducible apply ru_coinO) <;> first | ((with_reducible show Pu _ _); (with_reducible assumption)) | ((with_reducible show IntL _ _); (repeat apply IntL.s); exact IntL.z) | omega | skip) | ((with_reducible apply ru_coinL) <;> first | ((with_reducible show Pu _ _); (with_reducible assumption)) | ((with_reducible show IntL _ _); (repeat apply IntL.s); exact IntL.z) | omega | skip) | ((with_reducible apply ru_pickL) <;> first | ((with_reducible show Pu _ _); (with_reducible assumption)) | ((with_reducible show IntL _ _); (repeat apply IntL.s); exact IntL.z) | omega | skip) | ((with_reducible apply ru_size) <;> first | ((with_reducible show Pu _ _); (with_reducible assumption)) | ((with_reducible show IntL _ _); (repeat apply IntL.s); exact IntL.z) | omega | skip) | ((with_reducible apply ru_grids) <;> first | ((with_reducible show Pu _ _); (with_reducible assumption)) | ((with_reducible show IntL _ _); (repeat apply IntL.s); exact IntL.z) | omega | skip) | ((with_reducible apply ru_rows) <;> first | ((with_reducible show Pu _ _); (with_reducible assumption)) | ((with_reducible show IntL _ _); (repeat apply IntL.s); exact IntL.z) | omega | skip) | ((with_reducible apply ru_parabolas) <;> first | ((with_reducible show Pu _ _); (with_reducible assumption)) | ((with_reducible show IntL _ _); (repeat apply IntL.s); exact IntL.z) | omega | skip) | ((with_reducible apply ru_zigzags) <;> first | ((with_reducible show Pu _ _); (with_reducible assumption)) | ((with_reducible show IntL _ _); (repeat apply IntL.s); exact IntL.z) | omega | skip) | ((with_reducible apply ru_circles) <;> first | ((with_reducible show Pu _ _); (with_reducible assumption)) | ((with_reducible show IntL _ _); (repeat apply IntL.s); exact IntL.z) | omega | skip) | with_reducible first | apply ru_is_integer | apply ru_is_between | apply ru_is_site | apply ru_check_site | apply ru_turn | apply ru_sign | apply ru_check_circle | apply ru_power | apply ru_inside | apply ru_in_circle | apply ru_purse | apply ru_counted | apply ru_check_sides | apply ru_check_span | apply ru_grid_counts | apply ru_whole | apply ru_two_rows | apply ru_check_ends | apply ru_parabola | apply ru_zigzag)
theorem law_math (ns : List Int) (h1 : ns.length ≤ 63) : ∃ σ', d_law ⟨some (.frz (.lst (ns.map PV.int))) :: List.replicate (N_law.length - 1) none, []⟩ = .ok (.rt (.val (.bl true))) σ' := by
  have main : WP (d_law ⟨[some (.frz (.lst (ns.map PV.int))), none, none, none, none, none], []⟩) (fun f _ => f = .rt (.val (.bl true))) noX := by
    unfold d_law
    repeat' fail "s"
    · have := cutP_len (xs := ns.map PV.int) (lo := none) (hi := some 5)
      rw [List.length_map] at this
      simp only [List.length_cons, List.length_nil]
      unfold szL
      omega
    · have hall : ∀ p ∈ (cutP (ns.map PV.int) none (some 5) ++ [PV.int 0]), ∃ j : Int, p = .int j := by
        intro p hp
        rcases List.mem_append.mp hp with hp | hp
        · obtain ⟨j, _, rfl⟩ := List.mem_map.mp (cutP_mem hp)
          exact ⟨j, rfl⟩
        · simp only [List.mem_singleton] at hp
          exact ⟨_, hp⟩
      generalize cutP (ns.map PV.int) none (some 5) ++ [PV.int 0] = xs at hall ⊢
      generalize ns.map PV.int = sc
      refine lp_for (fun k σ => ∃ y1 y2 y3, σ = ⟨[some (.frz (.lst sc)), y1, y2, y3, none, none], []⟩) ?_ ?_ ⟨_, _, _, rfl⟩
      · rintro k x σ hx ⟨y1, y2, y3, rfl⟩
        obtain ⟨j, rfl⟩ := hall x (List.mem_of_getElem? hx)
        repeat' fail "f"
        all_goals try fail "c"
        exact ⟨_, _, _, rfl⟩
      · rintro σ ⟨y1, y2, y3, rfl⟩
        repeat' fail "s"
        all_goals try fail "c"
        all_goals try (unfold Bd; omega)
        all_goals try (exact mulOk_l (by decide) (by decide))
        rename_i f hf1 hf2
        have hf : f = 1000000 := by omega
        subst hf
        rfl
  exact main.fin

theorem law_ok {P : Program} (w : World) (K : PySem.W.Frag) {H : Hp} {a : Addr} (ns : List Int) (h1 : ns.length ≤ 63) (h2 : ∀ z ∈ ns, Builtin.Int.intBits z ≤ 1048576) (hS : SqL K H a (ns.map V.int)) : lawSp P w K [.ref a] H (fun v _ => v = .bl true) fun _ _ _ => False :=
  fun mg => law_sp (c := ⟨P, w, K, mg⟩) hS (law_math ns h1)
end Kx
open PySem PySem.W PyProof.Rows
set_option maxHeartbeats 0 in
theorem PySem.Challenge.cw_closecells_k71_whole_far_shapes_holds : PySem.Challenge.rw_closecells_k71_whole_far_shapes.Holds := by
  w_on; o_law; k_head; (case hw => w_witness2)
  k_fill
  refine L2.walk_ofB (l := PySem.Challenge.rw_closecells_k71_whole_far_shapes) (n := 63) (k := 8) (x := "_law_script") (CX := fun w => L2.CX PySem.Challenge.pw_closecells_k71_whole_far_shapes w) (sp := fun w => Kx.lawSp PySem.Challenge.pw_closecells_k71_whole_far_shapes w _) rfl (by decide) rfl ⟨rfl, by decide, by decide⟩ (fun w h Y => PySem.W.kIn_of Y) ?F (fun w H a ns h1 h2 _ hS => Kx.law_ok w _ ns h1 h2 hS) (fun w H s e s' h => L2.Zz.cx_false h)
  case F =>
    intro w mg fa h KX G hmg
    refine' Kx.all_mk KX G hmg ?l_is_integer ?c_is_integer ?k_is_integer ?l_is_between ?c_is_between ?k_is_between ?l_check_span ?c_check_span ?k_check_span ?l_counted ?c_counted ?k_counted ?l_check_sides ?c_check_sides ?k_check_sides ?l_two_rows_counts ?c_two_rows_counts ?k_two_rows_counts ?l_law_coin ?c_law_coin ?k_law_coin ?l_law_pick ?c_law_pick ?k_law_pick ?l_law_size ?c_law_size ?k_law_size ?l_law_rows_right ?c_law_rows_right ?k_law_rows_right ?l_law_whole ?c_law_whole ?k_law_whole ?l_zigzag_counts ?c_zigzag_counts ?k_zigzag_counts ?l_law_zigzags_right ?c_law_zigzags_right ?k_law_zigzags_right ?l_law_purse ?c_law_purse ?k_law_purse ?l_grid_counts ?c_grid_counts ?k_grid_counts ?l_law_grids_right ?c_law_grids_right ?k_law_grids_right ?l_check_ends ?c_check_ends ?k_check_ends ?l_parabola_counts ?c_parabola_counts ?k_parabola_counts ?l_law_parabolas_right ?c_law_parabolas_right ?k_law_parabolas_right ?l_is_site ?c_is_site ?k_is_site ?l_check_site ?c_check_site ?k_check_site ?l_check_circle ?c_check_circle ?k_check_circle ?l_turn ?c_turn ?k_turn ?l_sign ?c_sign ?k_sign ?l_power ?c_power ?k_power ?l_inside ?c_inside ?k_inside ?l_in_circle ?c_in_circle ?k_in_circle ?l_law_circles_right ?c_law_circles_right ?k_law_circles_right ?l_law ?c_law ?k_law ?a_law ?a_parabola_counts ?a_grid_counts ?a__law_zigzags_right ?a__law_circles_right ?a__law_parabolas_right ?a__law_rows_right ?a__law_grids_right ?a__law_purse ?a_two_rows_counts ?a__law_pick ?a__law_coin ?a__law_size ?a_counted ?a_check_span ?a_check_sides ?a_is_between ?a_is_integer ?a__law_whole ?a_zigzag_counts ?a_check_ends ?a_in_circle ?a_inside ?a_turn ?a_check_site ?a_check_circle ?a_is_site ?a_sign ?a_power ?z_min ?z_max ?z_int ?z_bool ?z_isinstance ?z_len ?z_abs ?z_range ?z_all ?z_tuple ?v_MOST_COORDINATE ?v_MOST_SIDE
    (case a_law => k_is); (case a_parabola_counts => k_is); (case a_grid_counts => k_is); (case a__law_zigzags_right => k_is); (case a__law_circles_right => k_is); (case a__law_parabolas_right => k_is); (case a__law_rows_right => k_is); (case a__law_grids_right => k_is); (case a__law_purse => k_is); (case a_two_rows_counts => k_is); (case a__law_pick => k_is); (case a__law_coin => k_is); (case a__law_size => k_is); (case a_counted => k_is); (case a_check_span => k_is); (case a_check_sides => k_is); (case a_is_between => k_is); (case a_is_integer => k_is); (case a__law_whole => k_is); (case a_zigzag_counts => k_is); (case a_check_ends => k_is); (case a_in_circle => k_is); (case a_inside => k_is); (case a_turn => k_is); (case a_check_site => k_is); (case a_check_circle => k_is); (case a_is_site => k_is); (case a_sign => k_is); (case a_power => k_is); (case l_is_integer => k_is); (case c_is_integer => k_is); (case k_is_integer => k_is); (case l_is_between => k_is); (case c_is_between => k_is); (case k_is_between => k_is); (case l_check_span => k_is); (case c_check_span => k_is); (case k_check_span => k_is); (case l_counted => k_is); (case c_counted => k_is); (case k_counted => k_is); (case l_check_sides => k_is); (case c_check_sides => k_is); (case k_check_sides => k_is); (case l_two_rows_counts => k_is); (case c_two_rows_counts => k_is); (case k_two_rows_counts => k_is); (case l_law_coin => k_is); (case c_law_coin => k_is); (case k_law_coin => k_is); (case l_law_pick => k_is); (case c_law_pick => k_is); (case k_law_pick => k_is); (case l_law_size => k_is); (case c_law_size => k_is); (case k_law_size => k_is); (case l_law_rows_right => k_is); (case c_law_rows_right => k_is); (case k_law_rows_right => k_is); (case l_law_whole => k_is); (case c_law_whole => k_is); (case k_law_whole => k_is); (case l_zigzag_counts => k_is); (case c_zigzag_counts => k_is); (case k_zigzag_counts => k_is); (case l_law_zigzags_right => k_is); (case c_law_zigzags_right => k_is); (case k_law_zigzags_right => k_is); (case l_law_purse => k_is); (case c_law_purse => k_is); (case k_law_purse => k_is); (case l_grid_counts => k_is); (case c_grid_counts => k_is); (case k_grid_counts => k_is); (case l_law_grids_right => k_is); (case c_law_grids_right => k_is); (case k_law_grids_right => k_is); (case l_check_ends => k_is); (case c_check_ends => k_is); (case k_check_ends => k_is); (case l_parabola_counts => k_is); (case c_parabola_counts => k_is); (case k_parabola_counts => k_is); (case l_law_parabolas_right => k_is); (case c_law_parabolas_right => k_is); (case k_law_parabolas_right => k_is); (case l_is_site => k_is); (case c_is_site => k_is); (case k_is_site => k_is); (case l_check_site => k_is); (case c_check_site => k_is); (case k_check_site => k_is); (case l_check_circle => k_is); (case c_check_circle => k_is); (case k_check_circle => k_is); (case l_turn => k_is); (case c_turn => k_is); (case k_turn => k_is); (case l_sign => k_is); (case c_sign => k_is); (case k_sign => k_is); (case l_power => k_is); (case c_power => k_is); (case k_power => k_is); (case l_inside => k_is); (case c_inside => k_is); (case k_inside => k_is); (case l_in_circle => k_is); (case c_in_circle => k_is); (case k_in_circle => k_is); (case l_law_circles_right => k_is); (case c_law_circles_right => k_is); (case k_law_circles_right => k_is); (case l_law => k_is); (case c_law => k_is); (case k_law => k_is); (case z_min => k_is); (case z_max => k_is); (case z_int => k_is); (case z_bool => k_is); (case z_isinstance => k_is); (case z_len => k_is); (case z_abs => k_is); (case z_range => k_is); (case z_all => k_is); (case z_tuple => k_is); (case v_MOST_COORDINATE => k_is); (case v_MOST_SIDE => k_is)

