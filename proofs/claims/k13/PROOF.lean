import PyProof.Rows.All
import Wide.All
import OpenK.AllK
import Wide.FinOn
import HandS.ForMost
import HandS.Exc
import HandS.ExcOwn
import HandS.CallSlots
import HandS.Wide
import HandS.Zip
import HandS.IsInst
import HandS.Conv
import HandS.TupAny
import HandS.TupMul
import HandS.TupLe
import HandS.Style
import HandS.Deep
import KE.GoesNew
import HandS.Comp
import HandS.ExcIs
import HandS.ExcValue
import HandS.Text
import HandS.StrMore
import HandS.FStr
import HandS.Strs
import HandS.SetFor
import HandS.Defaults
import HandS.Head0
import HandS.Head1
import HandS.Head2
import HandS.HeadEnd
import HandS.HeadHook1
import HandS.HeadHook2
import PyProof.ExcBaseAll.ValueError
import KE.KStateDown
import Lean
import HandS.Codes
import PySem.Challenge.RW_jointcurves_k13_whole_joints
set_option Elab.async false
set_option linter.all false
set_option maxRecDepth 100000
/-! tuples whose record is known to have no dict -/
namespace J
open PySem PySem.Spec PyProof.Rows L2
/-- a new tuple is told with its record -/
def NewT (H : Hp) (vs : List V) (Q : VK) : Prop := ∀ (p : Addr) (o : Obj), H p = none → o.dict = none → Q (.ref p) (upd H p (.frz o (.tup vs)))
section
variable {X : Cx} {pins : List (Addr × Obj)} {σ : L2.St} {H : Hp} {s : Shared}
theorem laidT {h' : Heap} {t' : Nat} {xs : List V} {its : List Value} {Q : VK} (I : Inv X pins σ H s) (k : ∀ b o, s.heap.get? b = some o → h'.get? b = some o) (r : Vals xs its) (hz : xs.length ≤ sizeLine) (q : NewT H xs Q) (hs : h'.objs.size = s.heap.objs.size) :
    EP X pins σ Q (.ref h'.objs.size) { s with heap := h'.push { cls := .type "tuple", data := .seq its.toArray }, toks := t' } := by
  have I2 := I.laid (t' := t') (h' := h'.push { cls := .type "tuple", data := .seq its.toArray }) (a := h'.objs.size) (o := .frz { cls := .type "tuple", data := .seq its.toArray } (.tup xs)) (fun b u e => Heap.get?_push_of_some _ (k b u e)) (Nat.le_of_eq hs.symm) ⟨Heap.get?_push_size _ rfl, hz, its, r, IsTup.new _ _⟩
  exact ⟨.ref h'.objs.size, _, I2, rfl, q _ _ (I.hok.fresh (Nat.le_of_eq hs.symm)) rfl⟩
end
section
variable {X : Cx} {es : List Expr} {t : TA} {pos : Pos}
def tTupF (t : TA) : TE := fun σ H Q => t σ H fun xs H1 => xs.length ≤ sizeLine ∧ NewT H1 xs Q
theorem pe_tupF {x1} (h : PA X es t) : PE X (.Tuple es x1 pos) (tTupF t) := by
  refine ⟨fun pins s σ H Q I hq => ?_⟩
  refine wpAny_Tuple_spliced (thn (h.run pos pins s σ H _ I hq) fun us s1 ⟨xs, H1, I1, r, z, q⟩ => ⟨by rw [← r.length]; exact z, ?_⟩)
  exact laidT (t' := s1.toks) I1 (fun _ _ e => e) r z q rfl
theorem call_tupF : CallR X (.type "tuple") (fun xs H Q => ∃ p ys, xs = [.ref p] ∧ ((SqL X.K H p ys ∧ NewT H ys Q) ∨ (SqT X.K H p ys ∧ Q (.ref p) H))) := by
  intro pins s σ H xs us Q I r h
  obtain ⟨p, ys, rfl, h⟩ := h
  obtain ⟨u, rfl, ru⟩ := vals1 r
  cases ru
  rcases h with ⟨hs, q⟩ | ⟨hs, q⟩
  · obtain ⟨its, rv, pl, hz⟩ := I.list hs
    refine call_tuple_list pl.isList (fun h' hk => ?_) (by rw [List.size_toArray, ← rv.length]; exact hz)
    have I1 : Inv X pins σ H { s with heap := h' } := I.kept (t' := s.toks) hk
    exact laidT (s := { s with heap := h' }) (t' := s.toks) I1 (fun _ _ e => e) rv hz q rfl
  · obtain ⟨its, _, p1, _⟩ := I.tuple hs
    exact call_tuple_same (items := its.toArray) p1 ⟨.ref p, H, I, rfl, q⟩
def rSlF (K : PySem.W.Frag) : V → Option Int → Option Int → Hp → VK → Prop := fun x lo hi H Q => ∃ a xs, x = .ref a ∧ SqT K H a xs ∧
  (HT.sIx xs.length 0 lo = 0 ∧ HT.sIx xs.length xs.length hi = xs.length → Q (.ref a) H) ∧ (¬ (HT.sIx xs.length 0 lo = 0 ∧ HT.sIx xs.length xs.length hi = xs.length) → NewT H (cutV xs lo hi) Q)
theorem sl_tupF : SlR X (rSlF X.K) := by
  intro pins s σ H x v vl vu lo hi sl Q I rx hs pl pu h
  obtain ⟨a, xs, rfl, hx, q1, q2⟩ := h
  cases rx
  obtain ⟨its, r, ht, hz⟩ := I.tuple hx
  have hlen : its.toArray.size = xs.length := by rw [List.size_toArray]; exact r.length.symm
  by_cases hw : HT.sIx xs.length 0 lo = 0 ∧ HT.sIx xs.length xs.length hi = xs.length
  · refine ⟨"tuple", _, PyProof.Rows.slot_tuple_getitem.lookup, ht.typeIs, ?_⟩
    exact getItem_tuple_whole ht hs pl pu (by rw [hlen]; exact hw) ⟨.ref a, H, I, rfl, q1 hw⟩
  · refine ⟨"tuple", _, PyProof.Rows.slot_tuple_getitem.lookup, ht.typeIs, ?_⟩
    refine HT.getItem_tuple_cut ht hs pl pu (by rw [hlen]; exact hw) ?_ (by rw [hlen]; exact hz)
    rw [hlen]
    exact laidT (t' := s.toks) I (fun _ _ e => e) ((r.drop (HT.sIx xs.length 0 lo)).take (HT.sIx xs.length xs.length hi - HT.sIx xs.length 0 lo)) (Nat.le_trans (cutV_length xs lo hi) hz) (q2 hw) rfl
def rCatF (K : PySem.W.Frag) : R2 := fun x y H Q => ∃ a b xs ys, x = .ref a ∧ y = .ref b ∧ SqT K H a xs ∧ SqT K H b ys ∧ xs.length + ys.length ≤ sizeLine ∧
  (xs = [] → Q (.ref b) H) ∧ (xs ≠ [] → ys = [] → Q (.ref a) H) ∧ (xs ≠ [] → ys ≠ [] → NewT H (xs ++ ys) Q)
theorem op_catF : OpR X (binaryOp .Add) (rCatF X.K) := by
  intro pins s σ H x y v u Q I rx ry h
  obtain ⟨a, b, xs, ys, rfl, rfl, ha, hb, hz, q0, q1, q2⟩ := h
  cases rx
  cases ry
  obtain ⟨its, r1, p1, _⟩ := I.tuple ha
  obtain ⟨its2, r2, p2, _⟩ := I.tuple hb
  by_cases hx : xs = []
  · subst hx
    cases r1
    exact cat_tup0 p1 p2 ⟨.ref b, H, I, rfl, q0 rfl⟩
  · refine HT.cat_tup p1 p2 (fun z => hx (r1.nil_iff.mp z)) (fun z => ⟨.ref a, H, I, rfl, q1 hx (r2.nil_iff.mp z)⟩) (fun z => ?_) (by rw [← r1.length, ← r2.length]; exact hz)
    exact laidT (t' := s.toks) I (fun _ _ e => e) (r1.append r2) (by rw [List.length_append]; exact hz) (q2 hx fun w => z (r2.nil_iff.mpr w)) rfl
end
end J

/-! plain data, the ghost state, steps -/
namespace J
open PySem PySem.Spec PyProof.Rows L2

inductive D where
  | non | bl (b : Bool) | int (i : Int) | str (x : Str) | tup (xs : List D) | wt (xs : List D) | lst (xs : List D) | ref (n : Nat) | fn (f : Nat) | exc (c : Nat) | scr (ns : List Int)

/-- what stands still: the fragment, where functions and classes stand -/
structure Sta where
  K : PySem.W.Frag
  fadr : Nat → Addr
  cadr : Nat → Addr

/-- G: what is frozen; O: what a mutable object owns; I: where the mutable objects stand -/
structure Gh where
  G : Hp
  O : Addr → Option (Nat × Nat)
  I : List Addr

/-- an exception of the class cls that was caught -/
def ExT (cls : Value) (a : Addr) : HO := .ext fun h => ∃ (oe : Obj) (vs : Array Value), h.get? a = some oe ∧ L2.Zc cls none oe ∧ oe.data = .fields vs
mutual
inductive Rep (S : Sta) (g : Gh) : D → V → Prop
  | non : Rep S g .non .non
  | bl (b : Bool) : Rep S g (.bl b) (.bl b)
  | int (i : Int) : Rep S g (.int i) (.int i)
  | str (x : Str) : Rep S g (.str x) (.str x)
  | tup {a : Addr} {o : Obj} {vs : List V} {ds : List D} : g.G a = some (.frz o (.tup vs)) → o.dict = none → Reps S g ds vs → Rep S g (.tup ds) (.ref a)
  | wt {a : Addr} {vs : List V} {ds : List D} : g.G a = some (.tup vs) → Reps S g ds vs → Rep S g (.wt ds) (.ref a)
  | lst {a : Addr} {vs : List V} {ds : List D} : g.G a = some (.lst vs) → Reps S g ds vs → Rep S g (.lst ds) (.ref a)
  | scr {a : Addr} {o : Obj} {ns : List Int} : g.G a = some (.frz o (.lst (ns.map V.int))) → Rep S g (.scr ns) (.ref a)
  | ref {n : Nat} {a : Addr} : g.I[n]? = some a → Rep S g (.ref n) (.ref a)
  | fn {f : Nat} : Rep S g (.fn f) (.ref (S.fadr f))
  | exc {c : Nat} {a : Addr} : g.G a = some (ExT (.ref (S.cadr c)) a) → Rep S g (.exc c) (.ref a)
inductive Reps (S : Sta) (g : Gh) : List D → List V → Prop
  | nil : Reps S g [] []
  | cons {d : D} {v : V} {ds : List D} {vs : List V} : Rep S g d v → Reps S g ds vs → Reps S g (d :: ds) (v :: vs)
end

structure Gle (g g' : Gh) : Prop where
  G : ∀ a o, g.G a = some o → g'.G a = some o
  I : ∀ (n : Nat) (a : Addr), g.I[n]? = some a → g'.I[n]? = some a
  O : ∀ a p, g.O a = some p → g'.O a = some p
theorem Gle.refl (g : Gh) : Gle g g := ⟨fun _ _ h => h, fun _ _ h => h, fun _ _ h => h⟩
theorem Gle.trans {a b c : Gh} (h : Gle a b) (k : Gle b c) : Gle a c := ⟨fun x o q => k.G x o (h.G x o q), fun n x q => k.I n x (h.I n x q), fun x p q => k.O x p (h.O x p q)⟩
theorem Gle.rd {g g' : Gh} (h : Gle g g') {a : Addr} {u : HO} (r : Rd g.G a u) : Rd g'.G a u := by
  rcases r with r | ⟨o, r⟩
  · exact .inl (h.G _ _ r)
  · exact .inr ⟨o, h.G _ _ r⟩
section
variable {S : Sta} {g g' : Gh}
mutual
theorem Rep.mono (h : Gle g g') : ∀ {d : D} {v : V}, Rep S g d v → Rep S g' d v
  | _, _, .non => .non
  | _, _, .bl b => .bl b
  | _, _, .int i => .int i
  | _, _, .str x => .str x
  | _, _, .tup e d r => .tup (h.G _ _ e) d (Reps.mono h r)
  | _, _, .wt e r => .wt (h.G _ _ e) (Reps.mono h r)
  | _, _, .lst e r => .lst (h.G _ _ e) (Reps.mono h r)
  | _, _, .scr e => .scr (h.G _ _ e)
  | _, _, .ref e => .ref (h.I _ _ e)
  | _, _, .fn => .fn
  | _, _, .exc e => .exc (h.G _ _ e)
theorem Reps.mono (h : Gle g g') : ∀ {ds : List D} {vs : List V}, Reps S g ds vs → Reps S g' ds vs
  | _, _, .nil => .nil
  | _, _, .cons a b => .cons (Rep.mono h a) (Reps.mono h b)
end
theorem Reps.length : ∀ {ds : List D} {vs : List V}, Reps S g ds vs → ds.length = vs.length
  | _, _, .nil => rfl
  | _, _, .cons _ b => by rw [List.length_cons, List.length_cons, Reps.length b]
theorem Reps.append : ∀ {ds es : List D} {vs us : List V}, Reps S g ds vs → Reps S g es us → Reps S g (ds ++ es) (vs ++ us)
  | _, _, _, _, .nil, k => k
  | _, _, _, _, .cons a b, k => .cons a (Reps.append b k)
theorem Reps.get : ∀ {ds : List D} {vs : List V}, Reps S g ds vs → ∀ {i : Nat} {d : D}, ds[i]? = some d → ∃ v, vs[i]? = some v ∧ Rep S g d v
  | _, _, .nil, _, _, h => by simp at h
  | _, _, .cons a b, 0, _, h => by
    have e := Option.some.inj h
    exact ⟨_, rfl, e ▸ a⟩
  | _, _, .cons a b, i + 1, d, h => Reps.get b (i := i) (d := d) (by simpa using h)
theorem Reps.getV : ∀ {ds : List D} {vs : List V}, Reps S g ds vs → ∀ {i : Nat} {v : V}, vs[i]? = some v → ∃ d, ds[i]? = some d ∧ Rep S g d v
  | _, _, .nil, _, _, h => by simp at h
  | _, _, .cons a b, 0, _, h => by
    have e := Option.some.inj h
    exact ⟨_, rfl, e ▸ a⟩
  | _, _, .cons a b, i + 1, d, h => Reps.getV b (i := i) (v := d) (by simpa using h)
theorem Reps.take : ∀ {ds : List D} {vs : List V}, Reps S g ds vs → ∀ n, Reps S g (ds.take n) (vs.take n)
  | _, _, _, 0 => by simpa using Reps.nil
  | _, _, .nil, _ + 1 => by simpa using Reps.nil
  | _, _, .cons a b, n + 1 => by simpa using Reps.cons a (Reps.take b n)
theorem Reps.drop : ∀ {ds : List D} {vs : List V}, Reps S g ds vs → ∀ n, Reps S g (ds.drop n) (vs.drop n)
  | _, _, h, 0 => by simpa using h
  | _, _, .nil, _ + 1 => by simpa using Reps.nil
  | _, _, .cons a b, n + 1 => by simpa using Reps.drop b n
theorem Reps.set : ∀ {ds : List D} {vs : List V}, Reps S g ds vs → ∀ (i : Nat) {d : D} {v : V}, Rep S g d v → Reps S g (ds.set i d) (vs.set i v)
  | _, _, .nil, _, _, _, _ => by simpa using Reps.nil
  | _, _, .cons _ b, 0, _, _, r => by simpa using Reps.cons r b
  | _, _, .cons a b, i + 1, _, _, r => by simpa using Reps.cons a (Reps.set b i r)
theorem Reps.rev : ∀ {ds : List D} {vs : List V}, Reps S g ds vs → Reps S g ds.reverse vs.reverse
  | _, _, .nil => by simpa using Reps.nil
  | _, _, .cons a b => by simpa using Reps.append (Reps.rev b) (.cons a .nil)
theorem Reps.one {d : D} {v : V} (h : Rep S g d v) : Reps S g [d] [v] := .cons h .nil
end

/-! ### data without a way to an object from n on -/
mutual
def noRef (n : Nat) : D → Bool
  | .ref m => decide (m < n)
  | .tup ds => noRefs n ds
  | .wt ds => noRefs n ds
  | .lst ds => noRefs n ds
  | .non => true
  | .bl _ => true
  | .int _ => true
  | .str _ => true
  | .fn _ => true
  | .exc _ => true
  | .scr _ => true
def noRefs (n : Nat) : List D → Bool
  | [] => true
  | d :: ds => noRef n d && noRefs n ds
end
/-! ### mutable objects -/
inductive Fld where
  | val (d : D) | own (id : Nat) (ds : List D)
inductive AObj where
  | lst (p : Bool) (ds : List D) | ins (c : Nat) (k : Nat) (fs : List (Str × Fld)) | dK (kvs : List (Key × D)) | dT (kvs : List (List Key × D))
abbrev AH := List AObj
def mkL (ds : List D) : AObj := .lst (noRefs 0 ds) ds
/-- the numbers of an object's own lists are less -/
def AObj.cap : AObj → Nat
  | .ins _ k _ => k
  | _ => 1

def HLen : HO → Prop
  | .lst xs => xs.length ≤ sizeLine
  | .tup xs => xs.length ≤ sizeLine
  | .frz _ u => HLen u
  | _ => True
theorem lens_upd {H : Hp} {p : Addr} {o : HO} (h : ∀ a o, H a = some o → HLen o) (l : HLen o) : ∀ a u, upd H p o a = some u → HLen u := fun a u e => by
  by_cases q : a = p
  · subst q; rw [upd_same] at e; cases e; exact l
  · rw [upd_ne q] at e; exact h a u e
section
variable (S : Sta) (g : Gh) (H : Hp)
def FldOk (n : Nat) : List (Str × Fld) → List (Str × V) → Prop
  | [], [] => True
  | (x, .val d) :: fs, (y, v) :: vs => x = y ∧ Rep S g d v ∧ FldOk n fs vs
  | (x, .own j ds) :: fs, (y, v) :: vs => x = y ∧ (∃ a us, v = .ref a ∧ g.O a = some (n, j) ∧ H a = some (.lst us) ∧ Reps S g ds us) ∧ FldOk n fs vs
  | _, _ => False
def ObOk (n : Nat) (a : Addr) : AObj → Prop
  | .lst p ds => g.O a = some (n, 0) ∧ (p = true → noRefs 0 ds = true) ∧ ∃ us, H a = some (.lst us) ∧ Reps S g ds us
  | .ins c _ fs => g.O a = some (n, 0) ∧ ∃ dx vs, H a = some (.ins (S.cadr c) dx vs) ∧ FldOk S g H n fs vs
  | .dK kvs => g.O a = some (n, 0) ∧ ∃ us, H a = some (.dK us) ∧ us.map (·.1) = kvs.map (·.1) ∧ Reps S g (kvs.map (·.2)) (us.map (·.2))
  | .dT kvs => g.O a = some (n, 0) ∧ ∃ us, H a = some (.dT us) ∧ us.map (·.1) = kvs.map (·.1) ∧ Reps S g (kvs.map (·.2)) (us.map (·.2))
structure HeapOk (h : AH) : Prop where
  lens : ∀ a o, H a = some o → HLen o
  sub : ∀ a o, g.G a = some o → H a = some o
  og : ∀ a p, g.O a = some p → g.G a = none ∧ H a ≠ none
  len : h.length = g.I.length
  inj : ∀ a b p, g.O a = some p → g.O b = some p → a = b
  bnd : ∀ a n j, g.O a = some (n, j) → ∃ o, h[n]? = some o ∧ j < o.cap
  obj : ∀ (n : Nat) (o : AObj) (a : Addr), h[n]? = some o → g.I[n]? = some a → ObOk S g H n a o
end

/-- what a run may change of what stood before: owned things alone -/
structure Stp (g : Gh) (H : Hp) (g' : Gh) (H' : Hp) : Prop where
  keep : ∀ a o, H a = some o → g.O a = none → H' a = some o
  gk : ∀ a, H a ≠ none → g'.G a = g.G a
  ok : ∀ a, H a ≠ none → g'.O a = g.O a
  dom : ∀ a, H a ≠ none → H' a ≠ none
  pre : ∀ (n : Nat) (a : Addr), g.I[n]? = some a → g'.I[n]? = some a
theorem Stp.refl (g : Gh) (H : Hp) : Stp g H g H := ⟨fun _ _ h _ => h, fun _ _ => rfl, fun _ _ => rfl, fun _ h => h, fun _ _ h => h⟩
theorem Stp.trans {g1 g2 g3 : Gh} {H1 H2 H3 : Hp} (a : Stp g1 H1 g2 H2) (b : Stp g2 H2 g3 H3) : Stp g1 H1 g3 H3 where
  keep := fun x o e n => b.keep x o (a.keep x o e n) (by rw [a.ok x (by rw [e]; simp)]; exact n)
  gk := fun x e => (b.gk x (a.dom x e)).trans (a.gk x e)
  ok := fun x e => (b.ok x (a.dom x e)).trans (a.ok x e)
  dom := fun x e => b.dom x (a.dom x e)
  pre := fun n x e => b.pre n x (a.pre n x e)
theorem Stp.le {S : Sta} {g g' : Gh} {H H' : Hp} {h : AH} (s : Stp g H g' H') (k : HeapOk S g H h) : Gle g g' :=
  ⟨fun a o e => by rw [s.gk a (by rw [k.sub a o e]; simp)]; exact e, s.pre, fun a p e => by rw [s.ok a (k.og a p e).2]; exact e⟩
theorem HeapOk.gn {S : Sta} {g : Gh} {H : Hp} {h : AH} (k : HeapOk S g H h) {p : Addr} (n : H p = none) : g.G p = none := by
  cases e : g.G p with
  | none => rfl
  | some o => rw [k.sub p o e] at n; cases n
theorem HeapOk.on {S : Sta} {g : Gh} {H : Hp} {h : AH} (k : HeapOk S g H h) {p : Addr} (n : H p = none) : g.O p = none := by
  cases e : g.O p with
  | none => rfl
  | some o => exact absurd n (k.og p o e).2

/-- owned things as they were, a grown frozen part -/
theorem FldOk.keep {S : Sta} {g g' : Gh} {H H' : Hp} (l : Gle g g') (n : Nat) (ho : ∀ a j, g.O a = some (n, j) → g'.O a = some (n, j)) (hh : ∀ a j o, g.O a = some (n, j) → H a = some o → H' a = some o) : ∀ (fs : List (Str × Fld)) (vs : List (Str × V)), FldOk S g H n fs vs → FldOk S g' H' n fs vs
  | [], [], _ => True.intro
  | (x, .val d) :: fs, (y, v) :: vs, h => ⟨h.1, h.2.1.mono l, FldOk.keep l n ho hh fs vs h.2.2⟩
  | (x, .own j ds) :: fs, (y, v) :: vs, h => by
    obtain ⟨h1, ⟨a, us, e, o, q, r⟩, h3⟩ := h
    exact ⟨h1, ⟨a, us, e, ho a j o, hh a j _ o q, r.mono l⟩, FldOk.keep l n ho hh fs vs h3⟩
  | [], _ :: _, h => h.elim
  | (_, .val _) :: _, [], h => h.elim
  | (_, .own _ _) :: _, [], h => h.elim
theorem ObOk.keep {S : Sta} {g g' : Gh} {H H' : Hp} (l : Gle g g') (n : Nat) (ho : ∀ a j, g.O a = some (n, j) → g'.O a = some (n, j)) (hh : ∀ a j o, g.O a = some (n, j) → H a = some o → H' a = some o) {a : Addr} : ∀ {o : AObj}, ObOk S g H n a o → ObOk S g' H' n a o
  | .lst p ds, ⟨h1, hp, us, e, r⟩ => ⟨ho _ _ h1, hp, us, hh _ _ _ h1 e, r.mono l⟩
  | .ins c _ fs, ⟨h1, dx, vs, e, r⟩ => ⟨ho _ _ h1, dx, vs, hh _ _ _ h1 e, FldOk.keep l n ho hh _ _ r⟩
  | .dK kvs, ⟨h1, us, e, q, r⟩ => ⟨ho _ _ h1, us, hh _ _ _ h1 e, q, r.mono l⟩
  | .dT kvs, ⟨h1, us, e, q, r⟩ => ⟨ho _ _ h1, us, hh _ _ _ h1 e, q, r.mono l⟩

section
variable {S : Sta} {g : Gh} {H : Hp} {h : AH} {p : Addr} {o : HO}
abbrev Gh.frz (g : Gh) (p : Addr) (o : HO) : Gh := { g with G := upd g.G p o }
theorem upd_dom {H : Hp} {p a : Addr} {o : HO} (h : H a ≠ none) : upd H p o a ≠ none := by
  unfold upd; split
  · simp
  · exact h
theorem ne_dom {H : Hp} {p a : Addr} (n : H p = none) (h : H a ≠ none) : a ≠ p := fun e => h (e ▸ n)
/-- a new frozen thing -/
theorem Stp.new (n : H p = none) : Stp g H (g.frz p o) (upd H p o) where
  keep := fun a u e _ => by rw [upd_ne (ne_of_none e n)]; exact e
  gk := fun a e => upd_ne (ne_dom n e)
  ok := fun _ _ => rfl
  dom := fun a e => upd_dom e
  pre := fun _ _ e => e
theorem frz_le (n : g.G p = none) : Gle g (g.frz p o) := ⟨fun b u q => by show upd g.G p o b = some u; rw [upd_ne (ne_of_none q n)]; exact q, fun _ _ q => q, fun _ _ q => q⟩
theorem HeapOk.new (k : HeapOk S g H h) (n : H p = none) (l : HLen o) : HeapOk S (g.frz p o) (upd H p o) h where
  lens := lens_upd k.lens l
  sub := fun a u e => by
    have e : upd g.G p o a = some u := e
    by_cases q : a = p
    · subst q; rw [upd_same] at e; rw [upd_same]; exact e
    · rw [upd_ne q] at e; rw [upd_ne q]; exact k.sub a u e
  og := fun a u e => by
    have q := k.og a u e
    exact ⟨by show upd g.G p o a = none; rw [upd_ne (ne_dom n q.2)]; exact q.1, upd_dom q.2⟩
  len := k.len
  inj := k.inj
  bnd := k.bnd
  obj := fun i ob a e1 e2 => ObOk.keep (g := g) (g' := g.frz p o) (H := H) (H' := upd H p o) (frz_le (k.gn n)) i (fun _ _ q => q) (fun b j u _ q => by rw [upd_ne (ne_of_none q n)]; exact q) (k.obj i ob a e1 e2)
/-- a new thing that nobody holds yet -/
theorem Stp.newT (n : H p = none) : Stp g H g (upd H p o) where
  keep := fun a u e _ => by rw [upd_ne (ne_of_none e n)]; exact e
  gk := fun _ _ => rfl
  ok := fun _ _ => rfl
  dom := fun a e => upd_dom e
  pre := fun _ _ e => e
theorem HeapOk.newT (k : HeapOk S g H h) (n : H p = none) (l : HLen o) : HeapOk S g (upd H p o) h where
  lens := lens_upd k.lens l
  sub := fun a u e => by rw [upd_ne (ne_of_none (k.sub a u e) n)]; exact k.sub a u e
  og := fun a u e => ⟨(k.og a u e).1, upd_dom (k.og a u e).2⟩
  len := k.len
  inj := k.inj
  bnd := k.bnd
  obj := fun i ob a e1 e2 => (k.obj i ob a e1 e2).keep (Gle.refl g) i (fun _ _ q => q) fun b j u _ q => by rw [upd_ne (ne_of_none q n)]; exact q
/-- a thing that nobody owns is changed in place -/
theorem HeapOk.wrT (k : HeapOk S g H h) (n1 : g.G p = none) (n2 : g.O p = none) (l : HLen o) : HeapOk S g (upd H p o) h where
  lens := lens_upd k.lens l
  sub := fun a u e => by rw [upd_ne (ne_of_none e n1)]; exact k.sub a u e
  og := fun a u e => ⟨(k.og a u e).1, upd_dom (k.og a u e).2⟩
  len := k.len
  inj := k.inj
  bnd := k.bnd
  obj := fun i ob a e1 e2 => (k.obj i ob a e1 e2).keep (Gle.refl g) i (fun _ _ q => q) fun b j u q e => by
    rw [upd_ne (fun z => by rw [z, n2] at q; cases q)]; exact e
/-- what stands there is frozen -/
theorem HeapOk.freeze (k : HeapOk S g H h) (n2 : g.O p = none) (e : H p = some o) (n1 : g.G p = none) : HeapOk S (g.frz p o) H h where
  lens := k.lens
  sub := fun a u q => by
    have q : upd g.G p o a = some u := q
    by_cases z : a = p
    · subst z; rw [upd_same] at q; cases q; exact e
    · rw [upd_ne z] at q; exact k.sub a u q
  og := fun a u q => ⟨by show upd g.G p o a = none; rw [upd_ne (fun z => by rw [z, n2] at q; cases q)]; exact (k.og a u q).1, (k.og a u q).2⟩
  len := k.len
  inj := k.inj
  bnd := k.bnd
  obj := fun i ob a e1 e2 => ObOk.keep (g := g) (g' := g.frz p o) (H := H) (H' := H) (frz_le n1) i (fun _ _ q => q) (fun b j u _ q => q) (k.obj i ob a e1 e2)
end

/-! ### what an expression comes to -/
inductive EV where
  | v (d : D) | f (ds : List D) | b (ds : List D) | fb (n id : Nat)
inductive Res (α : Type) where
  | ok (a : α) (h : AH) | exc (c : Nat) (h : AH) | err

def EvRel (S : Sta) (g : Gh) (Hb H : Hp) : EV → V → Prop
  | .v d, v => Rep S g d v
  | .f ds, v => ∃ p vs, v = .ref p ∧ H p = some (.lst vs) ∧ Reps S g ds vs ∧ g.G p = none ∧ g.O p = none ∧ Hb p = none
  | .b ds, v => ∃ a vs, v = .ref a ∧ H a = some (.lst vs) ∧ Reps S g ds vs ∧ g.O a = none
  | .fb n j, v => ∃ a, v = .ref a ∧ g.O a = some (n, j)
def EV.still : EV → Bool := fun _ => true
@[simp] theorem still_true (e : EV) : e.still = true := rfl

/-! ### a frame -/
inductive Slot where
  | val (d : D) | own (ds : List D)
abbrev Env' := List (Option Slot)
structure Fm where
  g0 : Gh
  H0 : Hp
  P : Gh → Prop
  mono : ∀ g g', Gle g g' → P g → P g'
def SlotOk (S : Sta) (g : Gh) (OS : Addr → Option Nat) (H : Hp) (i : Nat) : Slot → V → Prop
  | .val d, v => Rep S g d v
  | .own ds, v => ∃ a vs, v = .ref a ∧ OS a = some i ∧ H a = some (.lst vs) ∧ Reps S g ds vs
structure Slots (S : Sta) (F : Fm) (g : Gh) (OS : Addr → Option Nat) (env : Env') (σ : L2.St) (H : Hp) : Prop where
  len : env.length = σ.length
  at_ : ∀ (i : Nat) (s : Slot), env[i]? = some (some s) → ∃ v, σ[i]? = some (some v) ∧ SlotOk S g OS H i s v
  os : ∀ a i, OS a = some i → g.G a = none ∧ g.O a = none ∧ F.H0 a = none ∧ H a ≠ none
structure Rel (S : Sta) (F : Fm) (g : Gh) (OS : Addr → Option Nat) (env : Env') (h : AH) (σ : L2.St) (H : Hp) : Prop where
  heap : HeapOk S g H h
  slots : Slots S F g OS env σ H
  ent : Stp F.g0 F.H0 g H
  pin : F.P g
section
variable {S : Sta} {F : Fm} {g g' : Gh} {OS : Addr → Option Nat} {env : Env'} {h h' : AH} {σ : L2.St} {H H' : Hp}
theorem Rel.step (r : Rel S F g OS env h σ H) (s : Stp g H g' H') (k : HeapOk S g' H' h') : Rel S F g' OS env h' σ H' where
  heap := k
  ent := r.ent.trans s
  pin := F.mono _ _ (s.le r.heap) r.pin
  slots := ⟨r.slots.len, fun i sl e => by
      obtain ⟨v, e1, q⟩ := r.slots.at_ i sl e
      refine ⟨v, e1, ?_⟩
      cases sl with
      | val d => exact Rep.mono (s.le r.heap) q
      | own ds =>
        obtain ⟨a, vs, e2, o, e3, z⟩ := q
        exact ⟨a, vs, e2, o, s.keep a _ e3 (r.slots.os a i o).2.1, z.mono (s.le r.heap)⟩,
    fun a i o => by
      obtain ⟨z1, z2, z3, z4⟩ := r.slots.os a i o
      exact ⟨(s.gk a z4).trans z1, (s.ok a z4).trans z2, z3, s.dom a z4⟩⟩
theorem EvRel.step {Hb : Hp} (k : HeapOk S g H h) (s : Stp g H g' H') : ∀ {ev : EV} {v : V}, EvRel S g Hb H ev v → ev.still = true → EvRel S g' Hb H' ev v
  | .v d, v, e, _ => Rep.mono (s.le k) e
  | .f ds, v, ⟨p, vs, e1, e2, r, n1, n2, n3⟩, _ => ⟨p, vs, e1, s.keep p _ e2 n2, r.mono (s.le k), (s.gk p (by rw [e2]; simp)).trans n1, (s.ok p (by rw [e2]; simp)).trans n2, n3⟩
  | .b ds, v, ⟨p, vs, e1, e2, r, n1⟩, _ => ⟨p, vs, e1, s.keep p _ e2 n1, r.mono (s.le k), (s.ok p (by rw [e2]; simp)).trans n1⟩
  | .fb n j, v, ⟨p, e1, o⟩, _ => ⟨p, e1, (s.le k).O p _ o⟩
theorem EvRel.base {Hb Hc : Hp} (hb : ∀ a, Hb a ≠ none → Hc a ≠ none) : ∀ {ev : EV} {v : V}, EvRel S g Hc H ev v → EvRel S g Hb H ev v
  | .v d, v, e => e
  | .f ds, v, ⟨p, vs, e1, e2, r, n1, n2, n3⟩ => ⟨p, vs, e1, e2, r, n1, n2, by
      cases q : Hb p with
      | none => rfl
      | some o => exact absurd n3 (hb p (by rw [q]; simp))⟩
  | .b ds, v, e => e
  | .fb _ _, v, e => e
/-- a fresh list is frozen -/
def EV.toD : EV → Option D
  | .v d => some d
  | .f ds => some (.lst ds)
  | _ => none
theorem EvRel.val {ev : EV} {v : V} {d : D} (e : EvRel S g' H H' ev v) (t : ev.toD = some d) (s : Stp g H g' H') (k : HeapOk S g' H' h') : ∃ g'', Stp g H g'' H' ∧ HeapOk S g'' H' h' ∧ Rep S g'' d v := by
  cases ev with
  | v x => cases t; exact ⟨g', s, k, e⟩
  | f ds =>
    cases t
    obtain ⟨p, vs, rfl, e2, r, n1, n2, n3⟩ := e
    refine ⟨g'.frz p (.lst vs), ⟨s.keep, fun a q => ?_, s.ok, s.dom, s.pre⟩, k.freeze n2 e2 n1, ?_⟩
    · show upd g'.G p _ a = _
      rw [upd_ne (ne_dom n3 q)]; exact s.gk a q
    · exact .lst upd_same (r.mono (frz_le n1))
  | b ds => cases t
  | fb n j => cases t
end
/-! ### sequences -/
inductive SK where
  | l | t | s
  deriving DecidableEq
def fldOf (j : Nat) : List (Str × Fld) → Option (List D)
  | [] => none
  | (_, .own i ds) :: fs => if i = j then some ds else fldOf j fs
  | _ :: fs => fldOf j fs
/-- the list with the number j that object n owns -/
def ownL (h : AH) (n j : Nat) : Option (List D) := match h[n]? with
  | some (.ins _ _ fs) => fldOf j fs
  | some (.lst _ ds) => if j = 0 then some ds else none
  | _ => none
def seqOf (h : AH) : EV → Option (SK × List D)
  | .v (.lst ds) => some (.l, ds)
  | .v (.tup ds) => some (.t, ds)
  | .v (.scr ns) => some (.s, ns.map D.int)
  | .v (.ref n) => match h[n]? with
    | some (.lst _ ds) => some (.l, ds)
    | _ => none
  | .f ds => some (.l, ds)
  | .b ds => some (.l, ds)
  | .fb n j => (ownL h n j).map fun ds => (.l, ds)
  | _ => none
def SqH (H : Hp) (a : Addr) (vs : List V) : SK → Prop
  | .l => H a = some (.lst vs)
  | .t => ∃ o, o.dict = none ∧ H a = some (.frz o (.tup vs))
  | .s => ∃ o, H a = some (.frz o (.lst vs))
section
variable {S : Sta} {g : Gh} {H Hb : Hp} {h : AH}
theorem reps_ints : ∀ ns : List Int, Reps S g (ns.map D.int) (ns.map V.int)
  | [] => .nil
  | n :: ns => .cons (.int n) (reps_ints ns)
theorem fldOf_rel {n j : Nat} : ∀ {fs : List (Str × Fld)} {vs : List (Str × V)} {ds : List D}, FldOk S g H n fs vs → fldOf j fs = some ds → ∃ a us, g.O a = some (n, j) ∧ H a = some (.lst us) ∧ Reps S g ds us
  | [], _, _, _, e => by simp [fldOf] at e
  | (_, .val _) :: fs, [], _, k, _ => k.elim
  | (_, .own _ _) :: fs, [], _, k, _ => k.elim
  | (x, .val d) :: fs, (y, v) :: vs, ds, k, e => fldOf_rel (fs := fs) k.2.2 e
  | (x, .own i es) :: fs, (y, v) :: vs, ds, k, e => by
    unfold fldOf at e
    obtain ⟨_, ⟨a, us, _, o, q, r⟩, k3⟩ := k
    split at e
    · rename_i hi
      cases e
      subst hi
      exact ⟨a, us, o, q, r⟩
    · exact fldOf_rel (fs := fs) k3 e
theorem ownL_rel {n j : Nat} {ds : List D} {a : Addr} (hk : HeapOk S g H h) (o : g.O a = some (n, j)) (e : ownL h n j = some ds) : ∃ us, H a = some (.lst us) ∧ Reps S g ds us := by
  unfold ownL at e
  have hn : ∀ x, h[n]? = some x → ∃ b, g.I[n]? = some b := fun x q => by
    have : n < g.I.length := by rw [← hk.len]; exact (List.getElem?_eq_some_iff.mp q).1
    exact ⟨_, List.getElem?_eq_getElem this⟩
  split at e
  · rename_i c k fs q
    obtain ⟨b, hb⟩ := hn _ q
    obtain ⟨_, dx, vs, _, z⟩ := hk.obj n _ b q hb
    obtain ⟨a', us, o', q', r⟩ := fldOf_rel z e
    rw [hk.inj a a' _ o o']
    exact ⟨us, q', r⟩
  · rename_i pp es q
    split at e
    · rename_i hj
      subst hj
      cases e
      obtain ⟨b, hb⟩ := hn _ q
      obtain ⟨o', _, us, q', r⟩ := hk.obj n _ b q hb
      rw [hk.inj a b _ o o']
      exact ⟨us, q', r⟩
    · cases e
  · cases e
theorem seq_rel {ev : EV} {v : V} {k : SK} {ds : List D} (hk : HeapOk S g H h) (e : EvRel S g Hb H ev v) (q : seqOf h ev = some (k, ds)) :
    ∃ a vs, v = .ref a ∧ SqH H a vs k ∧ Reps S g ds vs := by
  cases ev with
  | v d =>
    cases d with
    | lst xs =>
      cases q
      cases e with
      | lst r1 r2 => exact ⟨_, _, rfl, hk.sub _ _ r1, r2⟩
    | tup xs =>
      cases q
      cases e with
      | tup r1 rd r2 => exact ⟨_, _, rfl, ⟨_, rd, hk.sub _ _ r1⟩, r2⟩
    | scr ns =>
      cases q
      cases e with
      | scr r1 => exact ⟨_, _, rfl, ⟨_, hk.sub _ _ r1⟩, reps_ints ns⟩
    | ref n =>
      simp only [seqOf] at q
      cases e with
      | ref r1 =>
        rename_i a
        cases z : h[n]? with
        | none => rw [z] at q; cases q
        | some o =>
          rw [z] at q
          cases o with
          | lst pp xs =>
            cases q
            obtain ⟨_, _, us, e1, r⟩ := hk.obj n _ a z r1
            exact ⟨a, us, rfl, e1, r⟩
          | _ => cases q
    | _ => cases q
  | f xs =>
    cases q
    obtain ⟨p, vs, rfl, e2, r, _⟩ := e
    exact ⟨p, vs, rfl, e2, r⟩
  | b xs =>
    cases q
    obtain ⟨p, vs, rfl, e2, r, _⟩ := e
    exact ⟨p, vs, rfl, e2, r⟩
  | fb n j =>
    obtain ⟨p, rfl, o⟩ := e
    obtain ⟨es, q1, q2⟩ := Option.map_eq_some_iff.mp q
    cases q2
    obtain ⟨us, q3, r⟩ := ownL_rel hk o q1
    exact ⟨p, us, rfl, q3, r⟩
theorem SqH.sq {a : Addr} {vs : List V} {k : SK} (K : PySem.W.Frag) (e : SqH H a vs k) : SqL K H a vs ∨ SqT K H a vs := by
  cases k with
  | l => exact .inl (.inl (.inl e))
  | t => obtain ⟨o, _, e⟩ := e; exact .inr (.inl (.inr ⟨o, e⟩))
  | s => obtain ⟨o, e⟩ := e; exact .inl (.inl (.inr ⟨o, e⟩))
theorem SqH.sqL {a : Addr} {vs : List V} {k : SK} (K : PySem.W.Frag) (e : SqH H a vs k) (n : k ≠ .t) : SqL K H a vs := by
  cases k with
  | l => exact .inl (.inl e)
  | t => exact absurd rfl n
  | s => obtain ⟨o, e⟩ := e; exact .inl (.inr ⟨o, e⟩)
theorem SqH.sqT {a : Addr} {vs : List V} (K : PySem.W.Frag) (e : SqH H a vs .t) : SqT K H a vs := by obtain ⟨o, _, e⟩ := e; exact .inl (.inr ⟨o, e⟩)
theorem SqH.len {a : Addr} {vs : List V} {k : SK} (e : SqH H a vs k) (hk : HeapOk S g H h) : vs.length ≤ sizeLine := by
  cases k with
  | l => exact hk.lens a _ e
  | t => obtain ⟨o, _, e⟩ := e; exact hk.lens a _ e
  | s => obtain ⟨o, e⟩ := e; exact hk.lens a _ e
end
end J

/-! readings of expressions by plain functions -/
namespace J
open PySem PySem.Spec PyProof.Rows L2
abbrev WishX := Nat → L2.St → Hp → Prop
abbrev DE := Env' → AH → Res EV
abbrev DL := Env' → AH → Res (List D)
abbrev DB := Env' → AH → Res Bool
def Res.bind {α β : Type} (r : Res α) (k : α → AH → Res β) : Res β := match r with
  | .ok a h => k a h
  | .exc c h => .exc c h
  | .err => .err
def Res.lift {α : Type} (o : Option α) (h : AH) : Res α := match o with
  | some a => .ok a h
  | none => .err
@[simp] theorem bind_ok {α β : Type} (a : α) (h : AH) (k : α → AH → Res β) : (Res.ok a h).bind k = k a h := rfl
@[simp] theorem bind_exc {α β : Type} (c : Nat) (h : AH) (k : α → AH → Res β) : (Res.exc c h : Res α).bind k = .exc c h := rfl
@[simp] theorem bind_err {α β : Type} (k : α → AH → Res β) : (Res.err : Res α).bind k = .err := rfl
@[simp] theorem lift_some {α : Type} (a : α) (h : AH) : Res.lift (some a) h = .ok a h := rfl
@[simp] theorem lift_none {α : Type} (h : AH) : Res.lift (none : Option α) h = .err := rfl

section
variable (S : Sta) (F : Fm) (W : WishX)
def tE (f : DE) : TE := fun σ H Q => ∃ g OS env h, Rel S F g OS env h σ H ∧ match f env h with
  | .ok ev h' => ∀ v g' H', Stp g H g' H' → HeapOk S g' H' h' → EvRel S g' H H' ev v → Q v H'
  | .exc c h' => ∀ g' H', Stp g H g' H' → HeapOk S g' H' h' → W c σ H'
  | .err => False
def tL (f : DL) : TA := fun σ H Q => ∃ g OS env h, Rel S F g OS env h σ H ∧ match f env h with
  | .ok ds h' => ∀ vs g' H', Stp g H g' H' → HeapOk S g' H' h' → Reps S g' ds vs → Q vs H'
  | .exc c h' => ∀ g' H', Stp g H g' H' → HeapOk S g' H' h' → W c σ H'
  | .err => False
def tT (f : DB) : TT := fun σ H Q => ∃ g OS env h, Rel S F g OS env h σ H ∧ match f env h with
  | .ok b h' => ∀ g' H', Stp g H g' H' → HeapOk S g' H' h' → Q b H'
  | .exc c h' => ∀ g' H', Stp g H g' H' → HeapOk S g' H' h' → W c σ H'
  | .err => False
end
section
variable {S : Sta} {F : Fm} {W : WishX} {X : Cx} {e : Expr} {pos : Pos}
theorem PEim {t t' : TE} (p : PE X e t) (h : ∀ σ H Q, t' σ H Q → t σ H Q) : PE X e t' := ⟨fun pins s σ H Q I ht => p.run pins s σ H Q I (h σ H Q ht)⟩
theorem PTim {t t' : TT} (p : PT X e t) (h : ∀ σ H Q, t' σ H Q → t σ H Q) : PT X e t' := ⟨fun pins s σ H Q I ht => p.run pins s σ H Q I (h σ H Q ht)⟩
theorem PWim {t t' : TT} (p : PW X e t) (h : ∀ σ H Q, t' σ H Q → t σ H Q) : PW X e t' := ⟨fun wh pins s σ H Q I ht => p.run wh pins s σ H Q I (h σ H Q ht)⟩
theorem PAim {es : List Expr} {t t' : TA} (p : PA X es t) (h : ∀ σ H Q, t' σ H Q → t σ H Q) : PA X es t' := ⟨fun pos pins s σ H Q I ht => p.run pos pins s σ H Q I (h σ H Q ht)⟩
theorem PSim {st : Stmt} {t t' : TS} (p : PS X st t) (h : ∀ D σ H, t' D σ H → t D σ H) : PS X st t' := ⟨fun pins s σ H D I ht => p.run pins s σ H D I (h D σ H ht)⟩
theorem PSsim {st : List Stmt} {t t' : TS} (p : PSs X st t) (h : ∀ D σ H, t' D σ H → t D σ H) : PSs X st t' := ⟨fun pins s σ H D I ht => p.run pins s σ H D I (h D σ H ht)⟩

/-! ### names and constants -/
def dSlot (i : Nat) : DE := fun env h => match env[i]? with
  | some (some (.val d)) => .ok (.v d) h
  | some (some (.own ds)) => .ok (.b ds) h
  | _ => .err
def dC (d : D) : DE := fun _ h => .ok (.v d) h
theorem ae_slot {i : Nat} {x : Str} (hN : X.N[i]? = some x) (hv : Vis X.env.scope x) (hd : (x == ("__debug__" : Str)) = false) (hcd : (x == ("__classdict__" : Str)) = false) : PE X (.Name x pos) (tE S F W (dSlot i)) := by
  refine PEim (pe_var hN hv hd hcd) fun σ H Q h => ?_
  obtain ⟨g, OS, env, h, r, q⟩ := h
  unfold dSlot at q
  cases e : env[i]? with
  | none => rw [e] at q; exact q.elim
  | some o =>
    rw [e] at q
    cases o with
    | none => exact q.elim
    | some s =>
      obtain ⟨v, e1, k⟩ := r.slots.at_ i s e
      cases s with
      | val d => exact ⟨v, e1, q v g H (Stp.refl g H) r.heap k⟩
      | own ds =>
        obtain ⟨a, vs, e2, o, e3, z⟩ := k
        exact ⟨v, e1, q v g H (Stp.refl g H) r.heap ⟨a, vs, e2, e3, z, (r.slots.os a i o).2.1⟩⟩
theorem ae_c {e : Expr} {d : D} {v : V} (p : PE X e (tC v)) (hr : ∀ g, Rep S g d v) : PE X e (tE S F W (dC d)) := by
  refine PEim p fun σ H Q h => ?_
  obtain ⟨g, OS, env, h, r, q⟩ := h
  exact q v g H (Stp.refl g H) r.heap (hr g)

/-! ### two operands -/
def den2 (fa fb : DE) (k : AH → EV → EV → Option EV) : DE := fun env h => (fa env h).bind fun e1 h1 => if e1.still then (fb env h1).bind fun e2 h2 => .lift (k h2 e1 e2) h2 else .err
def Op2Ok (S : Sta) (r : R2) (k : AH → EV → EV → Option EV) : Prop := ∀ (g : Gh) (H0 H : Hp) (h : AH) (e1 e2 : EV) (v1 v2 : V) (ev : EV) (Q : VK), HeapOk S g H h → (∀ a, H0 a ≠ none → H a ≠ none) → EvRel S g H0 H e1 v1 → EvRel S g H0 H e2 v2 → k h e1 e2 = some ev →
  (∀ v g' H', Stp g H g' H' → HeapOk S g' H' h → EvRel S g' H0 H' ev v → Q v H') → r v1 v2 H Q
theorem op2_read {r : R2} {fa fb : DE} {k : AH → EV → EV → Option EV} (hk : Op2Ok S r k) (σ : L2.St) (H : Hp) (Q : VK) (hq : tE S F W (den2 fa fb k) σ H Q) : tOp r (tE S F W fa) (tE S F W fb) σ H Q := by
  obtain ⟨g, OS, env, h, rl, q⟩ := hq
  refine ⟨g, OS, env, h, rl, ?_⟩
  unfold den2 at q
  cases e1 : fa env h with
  | err => rw [e1] at q; exact q
  | exc c h1 => rw [e1] at q; exact q
  | ok x h1 =>
    rw [e1] at q
    simp only [bind_ok] at q
    intro v1 g1 H1 s1 k1 r1
    cases st : x.still with
    | false => rw [st] at q; exact q.elim
    | true =>
      rw [st] at q
      simp only [if_true] at q
      refine ⟨g1, OS, env, h1, rl.step s1 k1, ?_⟩
      cases e2 : fb env h1 with
      | err => rw [e2] at q; exact q
      | exc c h2 => rw [e2] at q; exact fun g2 H2 s2 k2 => q g2 H2 (s1.trans s2) k2
      | ok y h2 =>
        rw [e2] at q
        simp only [bind_ok] at q
        intro v2 g2 H2 s2 k2 r2
        cases e3 : k h2 x y with
        | none => rw [e3] at q; exact q.elim
        | some ev =>
          rw [e3] at q
          simp only [lift_some] at q
          exact hk g2 H H2 h2 x y v1 v2 ev Q k2 (fun a z => s2.dom a (s1.dom a z)) (r1.step k1 s2 st) (r2.base s1.dom) e3 fun v g' H' s k r => q v g' H' ((s1.trans s2).trans s) k r
theorem opR_or {f : Value → Value → Sem Value} {r1 r2 : R2} (a : OpR X f r1) (b : OpR X f r2) : OpR X f (fun x y H Q => r1 x y H Q ∨ r2 x y H Q) := by
  intro pins s σ H x y v u Q I rx ry h
  rcases h with h | h
  · exact a pins s σ H x y v u Q I rx ry h
  · exact b pins s σ H x y v u Q I rx ry h
theorem ixR_or {r1 r2 : R2} (a : IxR X r1) (b : IxR X r2) : IxR X (fun x y H Q => r1 x y H Q ∨ r2 x y H Q) := by
  intro value slice pins s σ H x y v u Q I rx ry h hs
  rcases h with h | h
  · exact a value slice pins s σ H x y v u Q I rx ry h hs
  · exact b value slice pins s σ H x y v u Q I rx ry h hs
theorem ae_bin {op : Operator} {r : R2} {a b : Expr} {fa fb : DE} {k : AH → EV → EV → Option EV} (ho : OpR X (binaryOp op) r) (hk : Op2Ok S r k) (ha : PE X a (tE S F W fa)) (hb : PE X b (tE S F W fb)) : PE X (.BinOp a op b pos) (tE S F W (den2 fa fb k)) :=
  PEim (pe_op ho ha hb) (op2_read hk)
theorem ae_cmp {op : CmpOp} {r : R2} {a b : Expr} {fa fb : DE} {k : AH → EV → EV → Option EV} (ho : OpR X (compareOp op) r) (hk : Op2Ok S r k) (ha : PE X a (tE S F W fa)) (hb : PE X b (tE S F W fb)) (hm : behindInMarks op b = false) : PE X (.Compare a [op] [b] pos) (tE S F W (den2 fa fb k)) :=
  PEim (pe_cmpR ho ha hb hm) (op2_read hk)
theorem ae_ix {r : R2} {a b : Expr} {fa fb : DE} {k : AH → EV → EV → Option EV} (ho : IxR X r) (hk : Op2Ok S r k) (ha : PE X a (tE S F W fa)) (hb : PE X b (tE S F W fb)) (hs : PlainIx b) : PE X (.Subscript a b pos) (tE S F W (den2 fa fb k)) :=
  PEim (pe_ix ho ha hb hs) (op2_read hk)

/-! ### one operand -/
def den1 (fa : DE) (k : AH → EV → Option EV) : DE := fun env h => (fa env h).bind fun e1 h1 => .lift (k h1 e1) h1
def Op1Ok (S : Sta) (r : V → Hp → VK → Prop) (k : AH → EV → Option EV) : Prop := ∀ (g : Gh) (H0 H : Hp) (h : AH) (e1 : EV) (v1 : V) (ev : EV) (Q : VK), HeapOk S g H h → (∀ a, H0 a ≠ none → H a ≠ none) → EvRel S g H0 H e1 v1 → k h e1 = some ev →
  (∀ v g' H', Stp g H g' H' → HeapOk S g' H' h → EvRel S g' H0 H' ev v → Q v H') → r v1 H Q
theorem op1_read {r : V → Hp → VK → Prop} {fa : DE} {k : AH → EV → Option EV} (hk : Op1Ok S r k) (σ : L2.St) (H : Hp) (Q : VK) (hq : tE S F W (den1 fa k) σ H Q) : tE S F W fa σ H (fun x H1 => r x H1 Q) := by
  obtain ⟨g, OS, env, h, rl, q⟩ := hq
  refine ⟨g, OS, env, h, rl, ?_⟩
  unfold den1 at q
  cases e1 : fa env h with
  | err => rw [e1] at q; exact q
  | exc c h1 => rw [e1] at q; exact q
  | ok x h1 =>
    rw [e1] at q
    simp only [bind_ok] at q
    intro v1 g1 H1 s1 k1 r1
    cases e3 : k h1 x with
    | none => rw [e3] at q; exact q.elim
    | some ev =>
      rw [e3] at q
      simp only [lift_some] at q
      exact hk g1 H H1 h1 x v1 ev Q k1 (fun a z => s1.dom a z) r1 e3 fun v g' H' s k r => q v g' H' (s1.trans s) k r
theorem ae_un {op : UnaryOp} {r : V → Hp → VK → Prop} {a : Expr} {fa : DE} {k : AH → EV → Option EV} (ho : UnR X (unaryOp op) r) (hk : Op1Ok S r k) (ha : PE X a (tE S F W fa)) : PE X (.UnaryOp op a pos) (tE S F W (den1 fa k)) :=
  PEim (pe_un ho ha) (op1_read hk)
/-- a built-in of one argument -/
theorem starEach_cons {e : Expr} {es : List Expr} {env : Env} (h : (match e with | .Starred .. => false | _ => true) = true) : starEach (e :: es) env = (false, eval e env) :: starEach es env := by
  cases e <;> first | rfl | cases h
def notStar (e : Expr) : Bool := match e with | .Starred .. => false | _ => true
theorem pa1 {a : Expr} {t : TE} (ha : PE X a t) (hs : notStar a = true) : PA X [a] (tCons t tNil) := pa_cons ha pa_nil (starEach_cons hs)
theorem pa2 {a b : Expr} {t u : TE} (ha : PE X a t) (hb : PE X b u) (hs : notStar a = true) (hs2 : notStar b = true) : PA X [a, b] (tCons t (tCons u tNil)) := pa_cons ha (pa1 hb hs2) (starEach_cons hs)
theorem ae_callB1 {x : Str} {p : Pos} {id : String} {r : List V → Hp → VK → Prop} {a : Expr} {fa : DE} {k : AH → EV → Option EV} (hc : CallR X (.builtin id) r) (hk : Op1Ok S (fun v H Q => r [v] H Q) k) (hg : Gl X x) (hm : X.mg x = none) (hv : bootBuiltins x = some (.builtin id))
    (hn : x ≠ "__name__") (hdb : (x == ("__debug__" : Str)) = false) (ha : PE X a (tE S F W fa)) (hs : notStar a = true) : PE X (.Call (.Name x p) [a] [] pos) (tE S F W (den1 fa k)) :=
  PEim (pe_callB hc hg hm hv (pa1 ha hs) hn hdb (starEach_cons hs) rfl) fun σ H Q h => op1_read (r := fun v H Q => r [v] H Q) hk σ H Q h
theorem ae_callT1 {x : Str} {p : Pos} {T : String} {r : List V → Hp → VK → Prop} {a : Expr} {fa : DE} {k : AH → EV → Option EV} (hc : CallR X (.type T) r) (hk : Op1Ok S (fun v H Q => r [v] H Q) k) (hg : Gl X x) (hm : X.mg x = none) (hv : bootBuiltins x = some (.type T))
    (hn : x ≠ "__name__") (hdb : (x == ("__debug__" : Str)) = false) (ha : PE X a (tE S F W fa)) (hs : notStar a = true) : PE X (.Call (.Name x p) [a] [] pos) (tE S F W (den1 fa k)) :=
  PEim (pe_callTy hc hg hm hv (pa1 ha hs) hn hdb (starEach_cons hs) rfl) fun σ H Q h => op1_read (r := fun v H Q => r [v] H Q) hk σ H Q h
theorem backTo_any {pos : Pos} {l : List (Bool × Sem Value)} (h : l.any (·.1) = false) : (backTo pos l).any (·.1) = false := by
  cases l with
  | nil => rfl
  | cons a r =>
    obtain ⟨b, x⟩ := a
    simp only [backTo, List.any_map, List.any_cons] at h ⊢
    first | exact h | (simp at h ⊢; exact h)
theorem ae_callB2 {x : Str} {p : Pos} {id : String} {r : List V → Hp → VK → Prop} {a b : Expr} {fa fb : DE} {k : AH → EV → EV → Option EV} (hc : CallR X (.builtin id) r) (hk : Op2Ok S (fun v u H Q => r [v, u] H Q) k) (hg : Gl X x) (hm : X.mg x = none) (hv : bootBuiltins x = some (.builtin id))
    (hn : x ≠ "__name__") (hdb : (x == ("__debug__" : Str)) = false) (ha : PE X a (tE S F W fa)) (hb : PE X b (tE S F W fb)) (hs : notStar a = true) (hs2 : notStar b = true) : PE X (.Call (.Name x p) [a, b] [] pos) (tE S F W (den2 fa fb k)) :=
  PEim (pe_callB hc hg hm hv (pa2 ha hb hs hs2) hn hdb (starEach_cons hs) (backTo_any (by rw [starEach_cons hs2]; rfl))) fun σ H Q h => op2_read (r := fun v u H Q => r [v, u] H Q) hk σ H Q h
end
end J

/-! operations on plain data -/
namespace J
open PySem PySem.Spec PyProof.Rows L2
set_option maxHeartbeats 2000000 in
theorem tuple_mul1 (l : Addr) (items : Array Value) (n : Nat) (dd : Option Addr) (sl : Array (Option Value)) (u : Tok) :
    Meets (Builtin.«tuple.__mul__» ⟨[.ref l, .int 1 u], []⟩) (fun _ R s => s.heap.get? l = some { cls := .type "tuple", dict := dd, data := .seq items n, slots := sl } ∧
      R (.ok (.ret (Value.ref l))) s) :=
  .of_wp fun prog w A R s h => by
    obtain ⟨hp, g, d, tk, os⟩ := s
    obtain ⟨hl, h⟩ := h
    have f1 := AutoSeq1.idx_int
    have c1 : (items.isEmpty || (1 : Int) == 1) = true := by simp
    wp_walk using wpAny_loadPart' hl
    repeat (first
      | (refine wpAny_ite_true (decide_eq_true c1) ?_; wp_walk using wpAny_loadPart' hl)
      | (refine wpAny_ite_false (decide_eq_false (by decide)) ?_; wp_walk using wpAny_loadPart' hl))
    exact ⟨_, rfl, h⟩
set_option maxHeartbeats 2000000 in
theorem tuple_mul0 (l : Addr) (items : Array Value) (n : Nat) (dd : Option Addr) (sl : Array (Option Value)) (x : Int) (u : Tok) (c0 : (decide (x < -(2 ^ 63)) || decide (x ≥ 2 ^ 63)) = false) (c1 : (items.isEmpty || x == 1) = false) (c2 : (decide (x ≤ 0) || items.isEmpty) = true) :
    Meets (Builtin.«tuple.__mul__» ⟨[.ref l, .int x u], []⟩) (fun _ R s => s.heap.get? l = some { cls := .type "tuple", dict := dd, data := .seq items n, slots := sl } ∧
      R (.ok (.ret (Value.ref s.heap.objs.size))) { s with heap := s.heap.push { cls := Value.type "tuple", data := Data.seq #[] }, toks := s.toks }) :=
  .of_wp fun prog w A R s h => by
    obtain ⟨hp, g, d, tk, os⟩ := s
    obtain ⟨hl, h⟩ := h
    have f1 := AutoSeq1.idx_int
    wp_walk using wpAny_loadPart' hl
    repeat (first
      | (refine wpAny_ite_false (decide_eq_false (by rw [c0]; exact Bool.false_ne_true)) ?_; wp_walk using wpAny_loadPart' hl)
      | (refine wpAny_ite_false (decide_eq_false (by rw [c1]; exact Bool.false_ne_true)) ?_; wp_walk using wpAny_loadPart' hl)
      | (refine wpAny_ite_true (decide_eq_true c2) ?_; wp_walk using wpAny_loadPart' hl))
    exact ⟨_, rfl, h⟩

def rRepU (K : PySem.W.Frag) : R2 := fun x y H Q => ∃ l k xs, x = .ref l ∧ y = .int k ∧ SqT K H l xs ∧ xs ≠ [] ∧ -1000 ≤ k ∧ k ≤ 1000 ∧ xs.length ≤ 1000 ∧ (k = 1 → Q (.ref l) H) ∧ (k ≠ 1 → NewT H (List.replicate k.toNat xs).flatten Q)
theorem op_repU {X : Cx} : OpR X (binaryOp .Mult) (rRepU X.K) := by
  intro pins s σ H x y v u Q I rx ry h
  obtain ⟨l, k, xs, e1, e2, hT, hne, h1, h2, hz, q1, q2⟩ := h
  subst e1 e2
  cases rx
  obtain ⟨t, rfl⟩ := ry
  obtain ⟨its, r, ⟨⟨cls, dd, data, sl⟩, ho, hc, n, hd⟩, hs⟩ := I.tuple hT
  simp only at hc hd
  subst hc hd
  have hn : its ≠ [] := fun e => hne (by
    have := r.length
    rw [e] at this
    exact List.eq_nil_of_length_eq_zero this)
  have hi : its.toArray.isEmpty = false := by
    cases its with
    | nil => exact absurd rfl hn
    | cons a b => rfl
  by_cases hk : 2 ≤ k
  · have hle : its.length = xs.length := r.length.symm
    have hsz0 : its.toArray.size = xs.length := by rw [List.size_toArray, hle]
    have hm : ((its.toArray.size : Nat) : Int) * k ≤ 1000000 := by
      rw [hsz0]
      have a1 : ((xs.length : Nat) : Int) * k ≤ 1000 * k := Int.mul_le_mul_of_nonneg_right (by omega) (by omega)
      omega
    have flen : (List.replicate k.toNat its).flatten.length ≤ sizeLine := by
      rw [PyProof.Rows.lm_len_rep_flat, hle, sizeLine_eq]
      have a1 : k.toNat * xs.length ≤ 1000 * 1000 := Nat.mul_le_mul (by omega) hz
      omega
    have c0 : (decide (k < -(2 ^ 63)) || decide (k ≥ 2 ^ 63)) = false := by
      rw [decide_eq_false (by omega), decide_eq_false (by omega)] <;> rfl
    have c1 : (its.toArray.isEmpty || k == 1) = false := by
      rw [hi, Bool.false_or]
      exact beq_eq_false_iff_ne.mpr (by omega)
    have c2 : (decide (k ≤ 0) || its.toArray.isEmpty) = false := by
      rw [hi, Bool.or_false]
      exact decide_eq_false (by omega)
    have c4 : Builtin.Tuple.tupleTooMany (((its.toArray.size : Nat) : Int) * k) = false := by
      unfold Builtin.Tuple.tupleTooMany
      rw [sizeLine_eq]
      exact decide_eq_false (by omega)
    refine wpAny_binaryOp_repeat_ref (T := "tuple") (U := "int") (by decide) ⟨_, ho, rfl⟩ (fun s' => typeIs_int s' k t) noFill_tuple_mul F.fills_int_mul F.slot_int_rmul repeat_tuple F.slot_int_index.lookup
      (call_meets F.slot_int_rmul (typeIs_int s k t) F.entry_int_rmul (F.args_int_rmul_2 _ _) (int_rmul_tuple k t l its.toArray n dd sl)
        ⟨ho, rfl, ⟨_, ho, rfl⟩, call_meets F.slot_tuple_mul ⟨_, ho, rfl⟩ F.entry_tuple_mul (F.args_tuple_mul_2 _ _) (tuple_mulW l its.toArray n dd sl k t c0 c1 c2 (by omega) c4 (by rw [size_rep, List.size_toArray]; exact flen)) ⟨ho, ?_⟩⟩)
    rw [size_rep]
    exact laidT (t' := s.toks) I (fun _ _ e => e) (r.rep k.toNat) (by rw [PyProof.Rows.lm_len_rep_flat, sizeLine_eq]; have a1 : k.toNat * xs.length ≤ 1000 * 1000 := Nat.mul_le_mul (by omega) hz; omega) (q2 (by omega)) rfl
  by_cases h3 : k = 1
  · subst h3
    refine wpAny_binaryOp_repeat_ref (T := "tuple") (U := "int") (by decide) ⟨_, ho, rfl⟩ (fun s' => typeIs_int s' 1 t) noFill_tuple_mul F.fills_int_mul F.slot_int_rmul repeat_tuple F.slot_int_index.lookup
      (call_meets F.slot_int_rmul (typeIs_int s 1 t) F.entry_int_rmul (F.args_int_rmul_2 _ _) (int_rmul_tuple 1 t l its.toArray n dd sl)
        ⟨ho, rfl, ⟨_, ho, rfl⟩, call_meets F.slot_tuple_mul ⟨_, ho, rfl⟩ F.entry_tuple_mul (F.args_tuple_mul_2 _ _) (tuple_mul1 l its.toArray n dd sl t) ⟨ho, ?_⟩⟩)
    exact ⟨.ref l, H, I, rfl, q1 rfl⟩
  · have c0 : (decide (k < -(2 ^ 63)) || decide (k ≥ 2 ^ 63)) = false := by
      rw [decide_eq_false (by omega), decide_eq_false (by omega)] <;> rfl
    have c1 : (its.toArray.isEmpty || k == 1) = false := by
      rw [hi, Bool.false_or]
      exact beq_eq_false_iff_ne.mpr h3
    have c2 : (decide (k ≤ 0) || its.toArray.isEmpty) = true := by
      rw [decide_eq_true (by omega)]; rfl
    refine wpAny_binaryOp_repeat_ref (T := "tuple") (U := "int") (by decide) ⟨_, ho, rfl⟩ (fun s' => typeIs_int s' k t) noFill_tuple_mul F.fills_int_mul F.slot_int_rmul repeat_tuple F.slot_int_index.lookup
      (call_meets F.slot_int_rmul (typeIs_int s k t) F.entry_int_rmul (F.args_int_rmul_2 _ _) (int_rmul_tuple k t l its.toArray n dd sl)
        ⟨ho, rfl, ⟨_, ho, rfl⟩, call_meets F.slot_tuple_mul ⟨_, ho, rfl⟩ F.entry_tuple_mul (F.args_tuple_mul_2 _ _) (tuple_mul0 l its.toArray n dd sl k t c0 c1 c2) ⟨ho, ?_⟩⟩)
    have e0 : k.toNat = 0 := by omega
    have q2 := q2 h3
    rw [e0] at q2
    exact laidT (t' := s.toks) (its := []) I (fun _ _ e => e) .nil (Nat.zero_le _) q2 rfl
section
variable {S : Sta} {X : Cx} {g : Gh} {H0 H : Hp} {h : AH} {Q : VK}
abbrev Fin (S : Sta) (g : Gh) (H0 H : Hp) (h : AH) (ev : EV) (Q : VK) : Prop := ∀ v g' H', Stp g H g' H' → HeapOk S g' H' h → EvRel S g' H0 H' ev v → Q v H'
theorem finS {d : D} {v : V} (q : Fin S g H0 H h (.v d) Q) (hk : HeapOk S g H h) (r : Rep S g d v) : Q v H := q v g H (Stp.refl g H) hk r
theorem base_none {p : Addr} (hd : ∀ a, H0 a ≠ none → H a ≠ none) (n : H p = none) : H0 p = none := by
  cases e : H0 p with
  | none => rfl
  | some o => exact absurd n (hd p (by rw [e]; simp))
theorem finF {ds : List D} {vs : List V} (q : Fin S g H0 H h (.f ds) Q) (hk : HeapOk S g H h) (hd : ∀ a, H0 a ≠ none → H a ≠ none) (r : Reps S g ds vs) (l : vs.length ≤ sizeLine) (p : Addr) (n : H p = none) : Q (.ref p) (upd H p (.lst vs)) :=
  q (.ref p) g _ (Stp.newT n) (hk.newT n l) ⟨p, vs, rfl, upd_same, r, hk.gn n, hk.on n, base_none hd n⟩
theorem finT {ds : List D} {vs : List V} (q : Fin S g H0 H h (.v (.tup ds)) Q) (hk : HeapOk S g H h) (r : Reps S g ds vs) (l : vs.length ≤ sizeLine) : NewT H vs Q := fun p o n d =>
  q (.ref p) (g.frz p (.frz o (.tup vs))) _ (Stp.new n) (hk.new n l) (.tup upd_same d (r.mono (frz_le (hk.gn n))))
theorem rep_int {i : Int} {v : V} (r : Rep S g (.int i) v) : v = .int i := by cases r; rfl
theorem rep_bl {b : Bool} {v : V} (r : Rep S g (.bl b) v) : v = .bl b := by cases r; rfl
theorem rep_str {x : Str} {v : V} (r : Rep S g (.str x) v) : v = .str x := by cases r; rfl
theorem rep_non {v : V} (r : Rep S g .non v) : v = .non := by cases r; rfl

/-! ### ints -/
def intK (f : Int → Int → Option D) : AH → EV → EV → Option EV
  | _, .v (.int a), .v (.int b) => (f a b).map .v
  | _, _, _ => none
theorem op2_int {r : R2} {f : Int → Int → Option D} (hr : ∀ (a b : Int) (d : D) (g : Gh) (H : Hp) (Q : VK), f a b = some d → (∀ v, Rep S g d v → Q v H) → r (.int a) (.int b) H Q) : Op2Ok S r (intK f) := by
  intro g H0 H h e1 e2 v1 v2 ev Q hk hd x1 x2 e q
  unfold intK at e
  split at e
  · rename_i a b
    cases z : f a b with
    | none => rw [z] at e; cases e
    | some d =>
      rw [z] at e
      have e' : EV.v d = ev := Option.some.inj e
      subst e'
      rw [rep_int x1, rep_int x2]
      exact hr a b d g H Q z fun v r => finS q hk r
  · cases e
/-- an operator with int, int in and a scalar out -/
theorem op2_int0 {C : Int → Int → Prop} {gi : Int → Int → V} {f : Int → Int → Option D} (hf : ∀ a b d, f a b = some d → C a b ∧ ∀ g, Rep S g d (gi a b)) : Op2Ok S (rI C gi) (intK f) :=
  op2_int fun a b d g H Q e q => ⟨a, b, rfl, rfl, (hf a b d e).1, q _ ((hf a b d e).2 g)⟩
theorem op2_intB {gi : Int → Int → Bool} : Op2Ok S (rI0 fun i j => .bl (gi i j)) (intK fun a b => some (.bl (gi a b))) :=
  op2_int fun a b d g H Q e q => by cases e; exact ⟨a, b, rfl, rfl, q _ (.bl _)⟩
def mulOk (a b : Int) : Bool := decide (a.natAbs.log2 + b.natAbs.log2 < 1000000)
def divOk (b : Int) : Bool := b != 0 && decide (b.natAbs.log2 < 9000)
def powOk (a b : Int) : Bool := decide (0 ≤ b ∧ b ≤ 1000000 ∧ a.natAbs < 2 ^ 64)
abbrev subK := intK fun a b => some (.int (a - b))
abbrev fdivK := intK fun a b => if divOk b then some (.int (a.fdiv b)) else none
abbrev modK := intK fun a b => if b != 0 then some (.int (a.fmod b)) else none
abbrev powK := intK fun a b => if powOk a b then some (.int (a ^ b.toNat)) else none
theorem op_fdivX : OpR X (binaryOp .FloorDiv) (rI (fun _ j => j ≠ 0 ∧ j.natAbs.log2 < 9000) fun i j => .int (i.fdiv j)) := opI fun i j _ _ _ _ _ hc q => floordiv_int hc.1 q (.inl (PyProof.noPylong_of_log2 hc.2))
theorem ok_sub : Op2Ok S (rI0 fun i j => .int (i - j)) subK := op2_int fun a b d g H Q e q => by cases e; exact ⟨a, b, rfl, rfl, q _ (.int _)⟩
theorem ok_fdiv : Op2Ok S (rI (fun _ j => j ≠ 0 ∧ j.natAbs.log2 < 9000) fun i j => .int (i.fdiv j)) fdivK := op2_int0 fun a b d e => by
  unfold divOk at e
  split at e
  · rename_i h
    rw [Bool.and_eq_true] at h
    cases e
    exact ⟨⟨by simpa using h.1, of_decide_eq_true h.2⟩, fun g => .int _⟩
  · cases e
theorem ok_mod : Op2Ok S (rI (fun _ j => j ≠ 0) fun i j => .int (i.fmod j)) modK := op2_int0 fun a b d e => by
  split at e
  · rename_i h
    cases e
    exact ⟨by simpa using h, fun g => .int _⟩
  · cases e
theorem ok_pow : Op2Ok S (rI CPow fun i j => .int (i ^ j.toNat)) powK := op2_int0 fun a b d e => by
  unfold powOk at e
  split at e
  · rename_i h
    cases e
    have h' : 0 ≤ b ∧ b ≤ 1000000 ∧ a.natAbs < 2 ^ 64 := of_decide_eq_true h
    exact ⟨h', fun g => .int _⟩
  · cases e
/-! ### + and * -/
def addK : AH → EV → EV → Option EV
  | _, .v (.int a), .v (.int b) => some (.v (.int (a + b)))
  | _, .v (.str a), .v (.str b) => if a.length + b.length ≤ sizeLine then some (.v (.str (a ++ b))) else none
  | h, x, y => match seqOf h x, seqOf h y with
    | some (.l, xs), some (.l, ys) => if xs.length + ys.length ≤ sizeLine then some (.f (xs ++ ys)) else none
    | some (.t, xs), some (.t, ys) => if xs.length + ys.length ≤ sizeLine then some (.v (.tup (xs ++ ys))) else none
    | _, _ => none
def rAddA (K : PySem.W.Frag) : R2 := fun x y H Q => (rI0 fun i j => .int (i + j)) x y H Q ∨ (∃ i j, x = .str i ∧ y = .str j ∧ i.length + j.length ≤ sizeLine ∧ Q (.str (i ++ j)) H) ∨ rCat x y H Q ∨ rCatF K x y H Q
theorem op_addA : OpR X (binaryOp .Add) (rAddA X.K) := opR_or op_add (opR_or op_add_str (opR_or op_cat op_catF))
theorem reps_nil_iff {ds : List D} {vs : List V} (r : Reps S g ds vs) : vs = [] ↔ ds = [] := by
  cases r with
  | nil => simp
  | cons _ _ => simp
theorem seq_t {ev : EV} {ds : List D} (q : seqOf h ev = some (.t, ds)) : ev = .v (.tup ds) := by
  unfold seqOf at q
  split at q
  all_goals first
    | (cases q; rfl)
    | (cases q; done)
    | (split at q <;> cases q; done)
    | (obtain ⟨_, _, q2⟩ := Option.map_eq_some_iff.mp q; cases q2)
theorem ok_add (K : PySem.W.Frag) : Op2Ok S (rAddA K) addK := by
  intro g H0 H h e1 e2 v1 v2 ev Q hk hd x1 x2 e q
  unfold addK at e
  split at e
  · cases e
    rw [rep_int x1, rep_int x2]
    exact .inl ⟨_, _, rfl, rfl, finS q hk (.int _)⟩
  · split at e
    · rename_i hl
      cases e
      rw [rep_str x1, rep_str x2]
      exact .inr (.inl ⟨_, _, rfl, rfl, hl, finS q hk (.str _)⟩)
    · cases e
  · split at e
    · rename_i xs ys h1 h2
      obtain ⟨a, vs, rfl, s1, r1⟩ := seq_rel hk x1 h1
      obtain ⟨b, us, rfl, s2, r2⟩ := seq_rel hk x2 h2
      split at e
      · rename_i hl
        cases e
        have l : vs.length + us.length ≤ sizeLine := by rw [← r1.length, ← r2.length]; exact hl
        exact .inr (.inr (.inl ⟨a, b, vs, us, rfl, rfl, s1, s2, l, finF q hk hd (r1.append r2) (by rw [List.length_append]; exact l)⟩))
      · cases e
    · rename_i xs ys h1 h2
      obtain ⟨a, vs, rfl, s1, r1⟩ := seq_rel hk x1 h1
      obtain ⟨b, us, rfl, s2, r2⟩ := seq_rel hk x2 h2
      split at e
      · rename_i hl
        cases e
        have l : vs.length + us.length ≤ sizeLine := by rw [← r1.length, ← r2.length]; exact hl
        refine .inr (.inr (.inr ⟨a, b, vs, us, rfl, rfl, s1.sqT K, s2.sqT K, l, fun z => ?_, fun z z2 => ?_, fun _ _ => finT q hk (r1.append r2) (by rw [List.length_append]; exact l)⟩))
        · have z' := (reps_nil_iff r1).mp z
          subst z'
          rw [seq_t h2] at x2
          exact finS q hk x2
        · have z' := (reps_nil_iff r2).mp z2
          subst z'
          rw [seq_t h1] at x1
          exact finS q hk (by rw [List.append_nil]; exact x1)
      · cases e
    · cases e
theorem rep_flat {ds : List D} {vs : List V} (r : Reps S g ds vs) : ∀ n : Nat, Reps S g (List.replicate n ds).flatten (List.replicate n vs).flatten
  | 0 => .nil
  | n + 1 => by
    rw [List.replicate_succ, List.replicate_succ, List.flatten_cons, List.flatten_cons]
    exact r.append (rep_flat r n)
def mulK : AH → EV → EV → Option EV
  | _, .v (.int a), .v (.int b) => if mulOk a b then some (.v (.int (a * b))) else none
  | h, x, .v (.int n) => match seqOf h x with
    | some (.l, xs) => if -(2 ^ 63) ≤ n ∧ n < 2 ^ 63 ∧ xs.length * n.toNat ≤ sizeLine then some (.f (List.replicate n.toNat xs).flatten) else none
    | some (.t, xs) => if xs ≠ [] ∧ -1000 ≤ n ∧ n ≤ 1000 ∧ xs.length ≤ 1000 then some (.v (.tup (List.replicate n.toNat xs).flatten)) else none
    | _ => none
  | _, _, _ => none
def rMulA (K : PySem.W.Frag) : R2 := fun x y H Q => rI CMulW (fun i j => .int (i * j)) x y H Q ∨ rRep x y H Q ∨ rRepU K x y H Q
theorem op_mulA : OpR X (binaryOp .Mult) (rMulA X.K) := opR_or op_mulW (opR_or op_rep op_repU)
theorem ok_mul (K : PySem.W.Frag) : Op2Ok S (rMulA K) mulK := by
  intro g H0 H h e1 e2 v1 v2 ev Q hk hd x1 x2 e q
  unfold mulK at e
  split at e
  · split at e
    · rename_i hm
      cases e
      rw [rep_int x1, rep_int x2]
      have hm' := of_decide_eq_true (show decide _ = true from hm)
      exact .inl ⟨_, _, rfl, rfl, hm', finS q hk (.int _)⟩
    · cases e
  · rename_i n _
    rw [rep_int x2]
    split at e
    · rename_i xs h1
      obtain ⟨a, vs, rfl, s1, r1⟩ := seq_rel hk x1 h1
      split at e
      · rename_i hl
        cases e
        have l : vs.length * n.toNat ≤ sizeLine := by rw [← r1.length]; exact hl.2.2
        exact .inr (.inl ⟨a, n, vs, rfl, rfl, s1, hl.1, hl.2.1, l, finF q hk hd (rep_flat r1 _) (by rw [PyProof.Rows.lm_len_rep_flat, Nat.mul_comm]; exact l)⟩)
      · cases e
    · rename_i xs h1
      obtain ⟨a, vs, rfl, s1, r1⟩ := seq_rel hk x1 h1
      split at e
      · rename_i hl
        cases e
        refine .inr (.inr ⟨a, n, vs, rfl, rfl, s1.sqT K, fun z => hl.1 ((reps_nil_iff r1).mp z), hl.2.1, hl.2.2.1, by rw [← r1.length]; exact hl.2.2.2, fun z => ?_, fun z => finT q hk (rep_flat r1 _) ?_⟩)
        · subst z
          rw [seq_t h1] at x1
          have x1 : Rep S g (.tup xs) (.ref a) := x1
          exact finS q hk (by simpa using x1)
        · rw [PyProof.Rows.lm_len_rep_flat, sizeLine_eq, ← r1.length]
          have a1 : n.toNat * xs.length ≤ 1000 * 1000 := Nat.mul_le_mul (by omega) hl.2.2.2
          omega
      · cases e
    · cases e
  · cases e
def negK : AH → EV → Option EV
  | _, .v (.int a) => some (.v (.int (-a)))
  | _, _ => none
theorem ok_neg : Op1Ok S (rU fun i => .int (-i)) negK := by
  intro g H0 H h e1 v1 ev Q hk hd x1 e q
  unfold negK at e
  split at e
  · cases e
    rw [rep_int x1]
    exact ⟨_, rfl, finS q hk (.int _)⟩
  · cases e
def absK : AH → EV → Option EV
  | _, .v (.int a) => some (.v (.int (if a < 0 then -a else a)))
  | _, _ => none
theorem ok_abs : Op1Ok S (fun v H Q => ∃ i, [v] = [V.int i] ∧ Q (.int (if i < 0 then -i else i)) H) absK := by
  intro g H0 H h e1 v1 ev Q hk hd x1 e q
  unfold absK at e
  split at e
  · cases e
    rw [rep_int x1]
    exact ⟨_, rfl, finS q hk (.int _)⟩
  · cases e

/-! ### plain data as the model's data -/
mutual
def toPy : D → PyData
  | .bl b => .bool b
  | .int i => .int i
  | .str x => .str x
  | .tup xs => .tuple (toPys xs)
  | .lst xs => .list (toPys xs)
  | .scr ns => .list (ns.map .int)
  | .non => .none
  | .ref _ => .none
  | .fn _ => .none
  | .exc _ => .none
  | .wt _ => .none
def toPys : List D → List PyData
  | [] => []
  | d :: ds => toPy d :: toPys ds
end
mutual
def plainD : Nat → D → Bool
  | _, .bl _ => true
  | _, .int _ => true
  | _, .str x => PyData.strOk x
  | n + 1, .tup xs => plainDs n xs
  | n + 1, .lst xs => plainDs n xs
  | _ + 1, .scr _ => true
  | _, .non => true
  | _, _ => false
def plainDs : Nat → List D → Bool
  | _, [] => true
  | n, d :: ds => plainD n d && plainDs n ds
end
def evD (h : AH) : EV → Option D
  | .v (.ref n) => match h[n]? with
    | some (.lst _ ds) => some (.lst ds)
    | _ => none
  | .v d => some d
  | .f ds => some (.lst ds)
  | .b ds => some (.lst ds)
  | .fb n j => (ownL h n j).map D.lst
theorem dpAll_ints (K : PySem.W.Frag) : ∀ ns : List Int, DpAll K H (ns.map V.int) (ns.map PyData.int)
  | [] => .nil
  | n :: ns => .cons (.int n) (dpAll_ints K ns)
mutual
theorem dp_of (K : PySem.W.Frag) (hk : HeapOk S g H h) : ∀ (n : Nat) (d : D) (v : V), Rep S g d v → plainD n d = true → Dp K H v (toPy d)
  | _, _, _, .non, _ => by unfold toPy; exact .non
  | _, _, _, .bl b, _ => by unfold toPy; exact .bl b
  | _, _, _, .int i, _ => by unfold toPy; exact .int i
  | _, _, _, .str x, _ => by unfold toPy; exact .str x
  | n + 1, .tup ds, _, .tup e _ r, p => by
    unfold toPy
    exact .tup (.inl (.inr ⟨_, hk.sub _ _ e⟩)) (dps_of K hk n ds _ r (by unfold plainD at p; exact p))
  | n + 1, .lst ds, _, .lst e r, p => by
    unfold toPy
    exact .lst (.inl (.inl (hk.sub _ _ e))) (dps_of K hk n ds _ r (by unfold plainD at p; exact p))
  | n + 1, _, _, .scr e, _ => by
    unfold toPy
    exact .lst (.inl (.inr ⟨_, hk.sub _ _ e⟩)) (dpAll_ints K _)
  | 0, .tup ds, _, .tup e _ r, p => by simp [plainD] at p
  | 0, .lst ds, _, .lst e r, p => by simp [plainD] at p
  | 0, .scr ns, _, .scr e, p => by simp [plainD] at p
  | n, .ref _, _, .ref _, p => by cases n <;> simp [plainD] at p
  | n, .fn _, _, .fn, p => by cases n <;> simp [plainD] at p
theorem dps_of (K : PySem.W.Frag) (hk : HeapOk S g H h) : ∀ (n : Nat) (ds : List D) (vs : List V), Reps S g ds vs → plainDs n ds = true → DpAll K H vs (toPys ds)
  | _, _, _, .nil, _ => by unfold toPys; exact .nil
  | n, d :: ds, _, .cons a b, p => by
    unfold plainDs at p
    rw [Bool.and_eq_true] at p
    unfold toPys
    exact .cons (dp_of K hk n d _ a p.1) (dps_of K hk n ds _ b p.2)
end
end
end J

/-! comparisons, subscripts, built-in functions -/
namespace J
open PySem PySem.Spec PyProof.Rows L2
section
variable {S : Sta} {X : Cx} {g : Gh} {H0 H : Hp} {h : AH} {Q : VK}
theorem lay_ints : ∀ ns : List Int, PyData.canLayAll0 (ns.map PyData.int) = true
  | [] => by simp [PyData.canLayAll0]
  | n :: ns => by simp [PyData.canLayAll0, PyData.canLay0, lay_ints ns]
theorem depth_ints : ∀ ns : List Int, PyData.depthAll (ns.map PyData.int) = 0
  | [] => by simp [PyData.depthAll]
  | n :: ns => by simp [PyData.depthAll, PyData.depth, depth_ints ns]
mutual
theorem lay_of : ∀ (n : Nat) (d : D), plainD n d = true → PyData.canLay0 (toPy d) = true ∧ PyData.depth (toPy d) ≤ n
  | _, .non, _ => by simp [toPy, PyData.canLay0, PyData.depth]
  | _, .bl _, _ => by simp [toPy, PyData.canLay0, PyData.depth]
  | _, .int _, _ => by simp [toPy, PyData.canLay0, PyData.depth]
  | n, .str x, p => by
    have p' : PyData.strOk x = true := by cases n <;> simpa [plainD] using p
    simp [toPy, PyData.canLay0, PyData.depth, p']
  | n + 1, .tup xs, p => by
    have := lays_of n xs (by simpa [plainD] using p)
    simp only [toPy, PyData.canLay0, PyData.depth]
    exact ⟨this.1, by omega⟩
  | n + 1, .lst xs, p => by
    have := lays_of n xs (by simpa [plainD] using p)
    simp only [toPy, PyData.canLay0, PyData.depth]
    exact ⟨this.1, by omega⟩
  | n + 1, .scr ns, _ => by
    simp only [toPy, PyData.canLay0, PyData.depth]
    exact ⟨lay_ints ns, by rw [depth_ints]; omega⟩
  | 0, .tup xs, p => by simp [plainD] at p
  | 0, .lst xs, p => by simp [plainD] at p
  | 0, .scr xs, p => by simp [plainD] at p
  | n, .ref _, p => by cases n <;> simp [plainD] at p
  | n, .fn _, p => by cases n <;> simp [plainD] at p
  | n, .exc _, p => by cases n <;> simp [plainD] at p
theorem lays_of : ∀ (n : Nat) (ds : List D), plainDs n ds = true → PyData.canLayAll0 (toPys ds) = true ∧ PyData.depthAll (toPys ds) ≤ n
  | _, [], _ => by simp [toPys, PyData.canLayAll0, PyData.depthAll]
  | n, d :: ds, p => by
    unfold plainDs at p
    rw [Bool.and_eq_true] at p
    have h1 := lay_of n d p.1
    have h2 := lays_of n ds p.2
    simp only [toPys, PyData.canLayAll0, PyData.depthAll, h1.1, h2.1, Bool.and_self, true_and]
    exact Nat.max_le.mpr ⟨h1.2, h2.2⟩
end
theorem shaped_of {n : Nat} {d : D} (p : plainD n d = true) (hn : n ≤ 64) : SeqAt.shaped (toPy d) = true := by
  have := lay_of n d p
  unfold SeqAt.shaped
  rw [this.1, decide_eq_true (by omega)]; rfl
theorem ev_dp (K : PySem.W.Frag) {n : Nat} (hk : HeapOk S g H h) {ev : EV} {v : V} {d : D} (e : EvRel S g H0 H ev v) (q : evD h ev = some d) (p : plainD n d = true) : Dp K H v (toPy d) := by
  have lst : ∀ {a : Addr} {vs : List V} {ds : List D}, H a = some (.lst vs) → Reps S g ds vs → d = .lst ds → Dp K H (.ref a) (toPy d) := fun {a vs ds} e1 r e2 => by
    subst e2
    cases n with
    | zero => simp [plainD] at p
    | succ m =>
      unfold toPy
      exact .lst (.inl (.inl e1)) (dps_of K hk m ds vs r (by simpa [plainD] using p))
  cases ev with
  | v x =>
    cases x with
    | ref m =>
      simp only [evD] at q
      cases e with
      | ref r1 =>
        rename_i a
        cases z : h[m]? with
        | none => rw [z] at q; cases q
        | some o =>
          rw [z] at q
          cases o with
          | lst pp xs =>
            obtain ⟨_, _, us, e1, r⟩ := hk.obj m _ a z r1
            exact lst e1 r (Option.some.inj q).symm
          | _ => cases q
    | _ => cases q; exact dp_of K hk n _ v e p
  | f ds =>
    obtain ⟨a, vs, rfl, e2, r, _⟩ := e
    exact lst e2 r (Option.some.inj q).symm
  | b ds =>
    obtain ⟨a, vs, rfl, e2, r, _⟩ := e
    exact lst e2 r (Option.some.inj q).symm
  | fb m j =>
    obtain ⟨a, rfl, o⟩ := e
    obtain ⟨ds, q1, q2⟩ := Option.map_eq_some_iff.mp q
    obtain ⟨us, q3, r⟩ := ownL_rel hk o q1
    exact lst q3 r q2.symm
def eqvD (d e : D) : Bool := PyData.eqv (toPy d) (toPy e)
def eqK (neg : Bool) : AH → EV → EV → Option EV := fun h x y => match evD h x, evD h y with
  | some d, some e => if plainD 60 d && plainD 60 e then some (.v (.bl (if neg then !eqvD d e else eqvD d e))) else none
  | _, _ => none
theorem ok_eq (K : PySem.W.Frag) : Op2Ok S (rEqD K) (eqK false) := by
  intro g H0 H h e1 e2 v1 v2 ev Q hk hd x1 x2 e q
  unfold eqK at e
  split at e
  · rename_i d1 d2 h1 h2
    split at e
    · rename_i p
      rw [Bool.and_eq_true] at p
      cases e
      exact ⟨toPy d1, toPy d2, ev_dp K hk x1 h1 p.1, ev_dp K hk x2 h2 p.2, shaped_of p.1 (by omega), shaped_of p.2 (by omega), finS q hk (.bl _)⟩
    · cases e
  · cases e
theorem ok_ne (K : PySem.W.Frag) : Op2Ok S (rNeD K) (eqK true) := by
  intro g H0 H h e1 e2 v1 v2 ev Q hk hd x1 x2 e q
  unfold eqK at e
  split at e
  · rename_i d1 d2 h1 h2
    split at e
    · rename_i p
      rw [Bool.and_eq_true] at p
      cases e
      exact ⟨toPy d1, toPy d2, ev_dp K hk x1 h1 p.1, ev_dp K hk x2 h2 p.2, shaped_of p.1 (by omega), shaped_of p.2 (by omega), finS q hk (.bl _)⟩
    · cases e
  · cases e
/-! ### is -/
def isD : D → D → Option Bool
  | x, .non => match x with
    | .non => some true
    | _ => some false
  | .bl a, .bl b => some (decide (a = b))
  | _, _ => none
def isK (neg : Bool) : AH → EV → EV → Option EV
  | _, .v x, .v y => (isD x y).map fun b => .v (.bl (if neg then !b else b))
  | _, _, _ => none
def rIsA : R2 := fun x y H Q => (y = .non ∧ Q (.bl (decide (x = .non))) H) ∨ rIsB x y H Q
def rNotA : R2 := fun x y H Q => (y = .non ∧ Q (.bl (!decide (x = .non))) H) ∨ rNotB x y H Q
theorem op_isA : OpR X (compareOp .Is) rIsA := opR_or op_isN op_isBl
theorem op_notA : OpR X (compareOp .IsNot) rNotA := opR_or op_notN op_notBl
theorem rep_isnon {d : D} {v : V} (r : Rep S g d v) : decide (v = .non) = (match d with | .non => true | _ => false) := by
  cases r <;> first | rfl | simp
theorem isD_ok {x y : D} {v1 v2 : V} {b : Bool} (x1 : Rep S g x v1) (x2 : Rep S g y v2) (e : isD x y = some b) : (v2 = .non ∧ decide (v1 = .non) = b) ∨ ∃ a c : Bool, v1 = .bl a ∧ v2 = .bl c ∧ decide (a = c) = b := by
  cases x2 with
  | non =>
    refine .inl ⟨rfl, ?_⟩
    rw [rep_isnon x1]
    cases x1 <;> (simp [isD] at e; simp [e])
  | bl c =>
    cases x1 with
    | bl a =>
      simp [isD] at e
      exact .inr ⟨a, c, rfl, rfl, e⟩
    | _ => simp [isD] at e
  | _ => cases x1 <;> simp [isD] at e
theorem ok_is : Op2Ok S rIsA (isK false) := by
  intro g H0 H h e1 e2 v1 v2 ev Q hk hd x1 x2 e q
  unfold isK at e
  split at e
  · rename_i x y
    cases z : isD x y with
    | none => rw [z] at e; cases e
    | some b =>
      rw [z] at e
      cases e
      rcases isD_ok x1 x2 z with ⟨z1, z2⟩ | ⟨a, c, z1, z2, z3⟩
      · exact .inl ⟨z1, by rw [z2]; exact finS q hk (.bl _)⟩
      · exact .inr ⟨a, c, z1, z2, by rw [z3]; exact finS q hk (.bl _)⟩
  · cases e
theorem ok_isnot : Op2Ok S rNotA (isK true) := by
  intro g H0 H h e1 e2 v1 v2 ev Q hk hd x1 x2 e q
  unfold isK at e
  split at e
  · rename_i x y
    cases z : isD x y with
    | none => rw [z] at e; cases e
    | some b =>
      rw [z] at e
      cases e
      rcases isD_ok x1 x2 z with ⟨z1, z2⟩ | ⟨a, c, z1, z2, z3⟩
      · exact .inl ⟨z1, by rw [z2]; exact finS q hk (.bl _)⟩
      · exact .inr ⟨a, c, z1, z2, by rw [z3]; exact finS q hk (.bl _)⟩
  · cases e
/-! ### in -/
def flatD : D → Bool
  | .non => true
  | .bl _ => true
  | .int _ => true
  | .str _ => true
  | _ => false
theorem flat_V {d : D} {v : V} (r : Rep S g d v) (f : flatD d = true) : flatV v = true := by
  cases r <;> first | rfl | cases f
theorem eqV_D {d e : D} {v u : V} (r : Rep S g d v) (r2 : Rep S g e u) (f : flatD d = true) (f2 : flatD e = true) : L2.eqV v u = eqvD d e := by
  cases r <;> first | (cases f; done) | (cases r2 <;> first | (cases f2; done) | (simp only [L2.eqV, eqvD, toPy, PyData.eqv]; done) | (simp only [L2.eqV, eqvD, toPy, PyData.eqv]; rfl))
theorem inV_D {d : D} {v : V} (r : Rep S g d v) (f : flatD d = true) : ∀ {ds : List D} {vs : List V}, Reps S g ds vs → ds.all flatD = true → vs.all flatV = true ∧ L2.inV v vs = ds.any fun y => eqvD y d
  | _, _, .nil, _ => ⟨rfl, rfl⟩
  | _, _, .cons a b, h => by
    rw [List.all_cons, Bool.and_eq_true] at h
    have := inV_D r f b h.2
    refine ⟨by rw [List.all_cons, flat_V a h.1, this.1]; rfl, ?_⟩
    unfold L2.inV at this ⊢
    rw [List.any_cons, List.any_cons, this.2, eqV_D a r h.1 f]
def inK (neg : Bool) : AH → EV → EV → Option EV
  | _, .v (.str x), .v (.str z) => match x.cps.toList with
    | [c] => some (.v (.bl (if neg then !decide (c ∈ z.cps.toList) else decide (c ∈ z.cps.toList))))
    | _ => none
  | h, .v d, y => match seqOf h y with
    | some (_, ds) => if flatD d && ds.all flatD then some (.v (.bl (if neg then !(ds.any fun y => eqvD y d) else ds.any fun y => eqvD y d))) else none
    | none => none
  | _, _, _ => none
theorem str_one {x : Str} {c : Nat} (e : x.cps.toList = [c]) : x = ⟨#[c]⟩ := by
  obtain ⟨⟨l⟩⟩ := x
  have e' : l = [c] := e
  rw [e']
def rInA (K : PySem.W.Frag) : R2 := fun x y H Q => (∃ (c : Nat) (z : Str), x = .str ⟨#[c]⟩ ∧ y = .str z ∧ Q (.bl (decide (c ∈ z.cps.toList))) H) ∨ rIn K false x y H Q
def rNotInA (K : PySem.W.Frag) : R2 := fun x y H Q => (∃ (c : Nat) (z : Str), x = .str ⟨#[c]⟩ ∧ y = .str z ∧ Q (.bl (!decide (c ∈ z.cps.toList))) H) ∨ rIn K true x y H Q
theorem op_inA : OpR X (compareOp .In) (rInA X.K) := opR_or op_in_sign op_in_seq
theorem op_notInA : OpR X (compareOp .NotIn) (rNotInA X.K) := opR_or op_notIn_sign op_notIn_seq
theorem ok_in (K : PySem.W.Frag) : Op2Ok S (rInA K) (inK false) := by
  intro g H0 H h e1 e2 v1 v2 ev Q hk hd x1 x2 e q
  unfold inK at e
  split at e
  · split at e
    · rename_i c hc
      cases e
      rw [rep_str x1, rep_str x2, str_one hc]
      exact .inl ⟨_, _, rfl, rfl, finS q hk (.bl _)⟩
    · cases e
  · split at e
    · rename_i k ds hs
      split at e
      · rename_i f
        rw [Bool.and_eq_true] at f
        cases e
        obtain ⟨a, vs, rfl, s1, r1⟩ := seq_rel hk x2 hs
        have z := inV_D x1 f.1 r1 f.2
        exact .inr ⟨a, vs, rfl, s1.sq K, flat_V x1 f.1, z.1, by rw [if_neg Bool.false_ne_true, z.2]; exact finS q hk (.bl _)⟩
      · cases e
    · cases e
  · cases e
theorem ok_notin (K : PySem.W.Frag) : Op2Ok S (rNotInA K) (inK true) := by
  intro g H0 H h e1 e2 v1 v2 ev Q hk hd x1 x2 e q
  unfold inK at e
  split at e
  · split at e
    · rename_i c hc
      cases e
      rw [rep_str x1, rep_str x2, str_one hc]
      exact .inl ⟨_, _, rfl, rfl, finS q hk (.bl _)⟩
    · cases e
  · split at e
    · rename_i k ds hs
      split at e
      · rename_i f
        rw [Bool.and_eq_true] at f
        cases e
        obtain ⟨a, vs, rfl, s1, r1⟩ := seq_rel hk x2 hs
        have z := inV_D x1 f.1 r1 f.2
        exact .inr ⟨a, vs, rfl, s1.sq K, flat_V x1 f.1, z.1, by rw [if_pos rfl, z.2]; exact finS q hk (.bl _)⟩
      · cases e
    · cases e
  · cases e
/-! ### subscripts -/
def ixK : AH → EV → EV → Option EV
  | _, .v (.str z), .v (.int i) => if z.length ≤ sizeLine then (atI z.cps.toList i).map fun c => .v (.str ⟨#[c]⟩) else none
  | h, x, .v (.int i) => match seqOf h x with
    | some (_, ds) => (atI ds i).map .v
    | none => none
  | _, _, _ => none
def rIxA (K : PySem.W.Frag) : R2 := fun x y H Q => rIxL K x y H Q ∨ rIxT K x y H Q ∨ rIxS x y H Q
theorem op_ixA : IxR X (rIxA X.K) := ixR_or ix_list (ixR_or ix_tup ix_str)
theorem atI_reps {ds : List D} {vs : List V} (r : Reps S g ds vs) {i : Int} {d : D} (e : atI ds i = some d) : ∃ v, atI vs i = some v ∧ Rep S g d v := by
  unfold atI at e ⊢
  rw [r.length] at e
  cases z : L2.ixN vs.length i with
  | none => rw [z] at e; cases e
  | some j =>
    rw [z] at e
    exact r.get e
theorem ok_ix (K : PySem.W.Frag) : Op2Ok S (rIxA K) ixK := by
  intro g H0 H h e1 e2 v1 v2 ev Q hk hd x1 x2 e q
  unfold ixK at e
  split at e
  · split at e
    · rename_i hl
      rename_i i
      cases z : atI (Str.cps _).toList i with
      | none => rw [z] at e; cases e
      | some c =>
        rw [z] at e
        cases e
        rw [rep_str x1, rep_int x2]
        exact .inr (.inr ⟨_, _, c, rfl, rfl, hl, z, finS q hk (.str _)⟩)
    · cases e
  · split at e
    · rename_i k ds hs
      obtain ⟨a, vs, rfl, s1, r1⟩ := seq_rel hk x1 hs
      rename_i i _ _
      cases z : atI ds i with
      | none => rw [z] at e; cases e
      | some d =>
        rw [z] at e
        cases e
        obtain ⟨v, zv, rv⟩ := atI_reps r1 z
        rw [rep_int x2]
        rcases s1.sq K with s1 | s1
        · exact .inl ⟨a, vs, _, v, rfl, rfl, s1, zv, finS q hk rv⟩
        · exact .inr (.inl ⟨a, vs, _, v, rfl, rfl, s1, zv, finS q hk rv⟩)
    · cases e
  · cases e
end
end J

namespace J
open PySem PySem.Spec PyProof.Rows L2 HT
theorem fm_congr {α β : Type} {f g : α → Option β} : ∀ (l : List α), (∀ a ∈ l, f a = g a) → l.filterMap f = l.filterMap g
  | [], _ => rfl
  | a :: l, h => by
    rw [List.filterMap_cons, List.filterMap_cons, h a List.mem_cons_self, fm_congr l fun b hb => h b (List.mem_cons_of_mem _ hb)]
theorem pick_rev (xs : Array Value) : ((List.range xs.size).filterMap fun (k : Nat) => xs[(((xs.size : Int) - 1) + (k : Int) * (-1)).toNat]?).toArray = xs.toList.reverse.toArray := by
  congr 1
  apply List.ext_getElem?
  intro i
  have e : (List.range xs.size).filterMap (fun (k : Nat) => xs[(((xs.size : Int) - 1) + (k : Int) * (-1)).toNat]?) = (List.range xs.size).map (fun k => xs.toList.getD (xs.size - 1 - k) .none) := by
    rw [← List.filterMap_eq_map]
    apply fm_congr
    intro k hk
    have hk' : k < xs.size := List.mem_range.mp hk
    have e1 : (((xs.size : Int) - 1) + (k : Int) * (-1)).toNat = xs.size - 1 - k := by omega
    rw [e1]
    have h2 : xs.size - 1 - k < xs.size := by omega
    simp [List.getD, h2]
  rw [e, List.getElem?_map]
  by_cases hi : i < xs.size
  · rw [List.getElem?_range hi, List.getElem?_reverse (by simpa using hi)]
    have h2 : xs.size - 1 - i < xs.size := by omega
    simp [List.getD, h2]
  · rw [List.getElem?_eq_none (by simpa using hi), List.getElem?_eq_none (by simpa using hi)]
    rfl
section
variable {prog : Program} {w : World} {A : Around} {E : Value → Shared → Prop} {s : Shared}
theorem getItem_tuple_rev {t sl : Addr} {items : Array Value} {vl vu vs : Value} {Q : Value → Shared → Prop} (ht : IsTup s.heap t items) (hs : s.heap.IsSliceOf sl vl vu vs) (pl : IsPart vl none) (pu : IsPart vu none) (ps : IsPart vs (some (-1)))
    (h : Q (.ref s.heap.objs.size) { s with heap := s.heap.push { cls := .type "tuple", data := .seq items.toList.reverse.toArray } })
    (hsz : items.size ≤ sizeLine) : wpAny (model prog w) A (getItem (.ref t) (.ref sl)) Q E s := by
  have htake : sizeOk (.seq items.toList.reverse.toArray) := by
    show items.toList.reverse.toArray.size ≤ sizeLine
    rw [List.size_toArray, List.length_reverse, Array.length_toList]
    omega
  obtain ⟨os, hos, hcs, hds⟩ := id hs
  have hTs : s.TypeIs (.ref sl) "slice" := ⟨os, hos, hcs⟩
  unfold getItem
  try with_reducible refine wpAny_holding ?_
  first | refine wpAny_bind (wpAny_pure ?_) | skip
  refine wpAny_bind (wpAny_sequenceKey ht.typeIs (by decide) ?_)
  refine wpAny_bind (wpAny_callSpecial?_slot (name := Str.ofString "__getitem__") ht.typeIs PyProof.Rows.slot_tuple_getitem
    (wpAny_call_entry PyProof.Rows.slot_tuple_getitem ht.typeIs entry_tuple_getitem ?_ (args_tuple_getitem _ _)))
  show wpAny _ _ (Builtin.Tuple.tupleItemsOf (.ref t) >>= _) _ _ s
  refine wpAny_bind (tupleItemsOf_ ht ?_)
  refine wpAny_bind (wpAny_typeOf hTs ?_)
  rw [if_pos (by decide)]
  have ap : ∀ {A' : Around} {E' : Value → Shared → Prop} {Q' : Int × Int × Nat → Shared → Prop}, Q' ((items.size : Int) - 1, -1, items.size) s → wpAny (model prog w) A' (Builtin.Slice.sliceApplied (.ref sl) (pure (items.size : Int))) Q' E' s := by
    intro A' E' Q' q
    unfold Builtin.Slice.sliceApplied Builtin.Slice.sliceFields
    refine wpAny_bind (wpAny_bind (wpAny_field hos hds (x := vl) rfl (wpAny_bind (wpAny_field hos hds (x := vu) rfl (wpAny_bind (wpAny_field hos hds (x := vs) rfl (wpAny_pure ?_)))))))
    refine wpAny_bind (slicePart_ ps ?_)
    show wpAny _ _ (if (((-1 : Int)) == 0) = true then _ else _) _ _ s
    rw [if_neg (by decide)]
    refine wpAny_bind (slicePart_ pl (wpAny_bind (slicePart_ pu (wpAny_bind (wpAny_pure ?_)))))
    have e1 : Builtin.Slice.sliceAdjust none none (-1) (items.size : Int) = ((items.size : Int) - 1, -1) := by
      simp [Builtin.Slice.sliceAdjust]
    have e2 : Builtin.Slice.slicePlaces ((items.size : Int) - 1) (-1) (-1) = items.size := by
      simp [Builtin.Slice.slicePlaces] <;> omega
    show wpAny _ _ (match Builtin.Slice.sliceAdjust none none (-1) (items.size : Int) with | (lo, hi) => pure (lo, (-1 : Int), Builtin.Slice.slicePlaces lo hi (-1))) _ _ s
    rw [e1]
    show wpAny _ _ (pure ((items.size : Int) - 1, (-1 : Int), Builtin.Slice.slicePlaces ((items.size : Int) - 1) (-1) (-1))) _ _ s
    rw [e2]
    exact wpAny_pure q
  refine wpAny_bind (ap ?_)
  show wpAny _ _ (if ((((items.size : Int) - 1) == 0 && (-1 : Int) == 1 && items.size == items.size) = true) then _ else _) _ _ s
  rw [if_neg (by simp), pick_rev]
  first
    | exact wpAny_bind (m := Builtin.Tuple.tupleExact _) (wpAny_newObj_type (wpAny_pure ⟨_, rfl, wpAny_pure h⟩) htake)
    | exact wpAny_bind (m := Builtin.Tuple.tupleExact _) (wpAny_newObj_type (wpAny_bind (wpAny_pure (wpAny_pure ⟨_, rfl, wpAny_pure h⟩))) htake)
    | exact wpAny_bind (wpAny_bind (m := Builtin.Tuple.tupleExact _) (wpAny_newObj_type (wpAny_pure (wpAny_pure ⟨_, rfl, wpAny_pure h⟩)) htake))
    | exact wpAny_bind (wpAny_bind (m := Builtin.Tuple.tupleExact _) (wpAny_newObj_type (wpAny_pure ⟨_, rfl, wpAny_pure h⟩) htake))
end
def tRevA (K : PySem.W.Frag) (te : TE) : TE := fun σ H Q => te σ H fun x H1 => ∃ a xs, x = .ref a ∧ ((SqL K H1 a xs ∧ ∀ p, H1 p = none → Q (.ref p) (upd H1 p (.lst xs.reverse))) ∨ (SqT K H1 a xs ∧ NewT H1 xs.reverse Q))
theorem pe_revA {X : Cx} {e : Expr} {te : TE} {k : Nat} {p1 p2 p3 pos : Pos} (he : PE X e te) : PE X (.Subscript e (.Slice none none (some (.UnaryOp .USub (.Constant (.int 1) k p1) p2)) p3) pos) (tRevA X.K te) := by
  refine ⟨fun pins s σ H Q I h => ?_⟩
  refine Subscript_ (thn (he.run pins s σ H _ I h) fun v s1 ⟨x, H1, I1, r1, q1⟩ => ?_)
  obtain ⟨a, xs, ex, q⟩ := q1
  subst ex
  cases r1
  have hst : PO X (some (.UnaryOp .USub (.Constant (.int 1) k p1) p2)) (tPart (tUn (rU fun i => .int (-i)) (tC (.int 1)))) := po_some (pe_un un_neg pe_int)
  refine wpAny_Slice (thn (po_none.run pins s1 σ H1 (fun o H2 => o = none ∧ H2 = H1) I1 ⟨rfl, rfl⟩) fun vl s2 ⟨l, H2, I2, pl, el, e2⟩ => ?_)
  subst el e2
  refine thn (po_none.run pins s2 σ H2 (fun o H3 => o = none ∧ H3 = H2) I2 ⟨rfl, rfl⟩) fun vu s3 ⟨u, H3, I3, pu, eu, e3⟩ => ?_
  subst eu e3
  refine thn (hst.run pins s3 σ H3 (fun o H4 => o = some (-1) ∧ H4 = H3) I3 ⟨1, rfl, -1, rfl, rfl, rfl⟩) fun vs s4 ⟨o, H4, I4, ps, eo, e4⟩ => ?_
  subst eo e4
  have I5 : Inv X pins σ H4 { s4 with heap := s4.heap.push { cls := .type "slice", data := .fields #[vl, vu, vs] } } := I4.kept (t' := s4.toks) fun b ob q => Heap.get?_push_of_some _ q
  show wpAny (model X.prog X.w) X.A (subscriptTail e (.Slice none none (some (.UnaryOp .USub (.Constant (.int 1) k p1) p2)) p3) (.ref a) (.ref s4.heap.objs.size)) (EP X pins σ Q) X.xe { s4 with heap := s4.heap.push { cls := .type "slice", data := .fields #[vl, vu, vs] } }
  rcases q with ⟨hx, q⟩ | ⟨hx, q⟩
  · obtain ⟨its, r, ht, hz⟩ := I5.list hx
    have hlen := r.length
    refine tail_any (ops := [.ref a, .ref s4.heap.objs.size]) ht.isList.typeIs (PySem.slot_list_getitem.lookup) ?_ (by with_unfolding_all rfl)
    refine wpAny_getItem_list_slice ht.isList (Heap.IsSliceOf.new _ vl vu vs) pl pu ps (by decide) ?_ (by rw [List.size_toArray]; omega)
    rw [PySem.W.krv_pick]
    refine ⟨.ref _, _, I5.laid (t' := s4.toks) (o := .lst xs.reverse) (fun b ob q => Heap.get?_push_of_some _ q) (Nat.le_refl _) ?_, rfl, q _ (I5.hok.fresh (Nat.le_refl _))⟩
    exact ⟨by rw [List.length_reverse]; exact hz, _, 0, r.reverse, Heap.get?_push_size _ rfl⟩
  · obtain ⟨its, r, ht, hz⟩ := I5.tuple hx
    have hlen := r.length
    refine tail_any (ops := [.ref a, .ref s4.heap.objs.size]) ht.typeIs (PyProof.Rows.slot_tuple_getitem.lookup) ?_ (by with_unfolding_all rfl)
    refine getItem_tuple_rev ht (Heap.IsSliceOf.new _ vl vu vs) pl pu ps ?_ (by rw [List.size_toArray]; omega)
    exact laidT (t' := s4.toks) I5 (fun _ _ e => e) r.reverse (by rw [List.length_reverse]; exact hz) q rfl
end J

/-! slices, built-in functions, displays, and | or | if -/
namespace J
open PySem PySem.Spec PyProof.Rows L2
section
variable {S : Sta} {F : Fm} {W : WishX} {X : Cx} {e : Expr} {pos : Pos}
/-! ### a reading that hands on any plain value -/
def tX {α : Type} (S : Sta) (F : Fm) (W : WishX) (f : Env' → AH → Res α) : L2.St → Hp → (α → Hp → Prop) → Prop := fun σ H Q => ∃ g OS env h, Rel S F g OS env h σ H ∧ match f env h with
  | .ok a h' => ∀ g' H', Stp g H g' H' → HeapOk S g' H' h' → Q a H'
  | .exc c h' => ∀ g' H', Stp g H g' H' → HeapOk S g' H' h' → W c σ H'
  | .err => False
/-! ### slices -/
def partK : EV → Option (Option Int)
  | .v (.int i) => some (some i)
  | _ => none
def dPart (f : DE) : Env' → AH → Res (Option Int) := fun env h => (f env h).bind fun e h1 => .lift (partK e) h1
def dNoPart : Env' → AH → Res (Option Int) := fun _ h => .ok none h
theorem ao_none : PO X none (tX S F W dNoPart) := ⟨fun pins s σ H Q I h => po_none.run pins s σ H Q I (by
  obtain ⟨g, OS, env, h, r, q⟩ := h
  exact q g H (Stp.refl g H) r.heap)⟩
theorem ao_some {f : DE} (p : PE X e (tE S F W f)) : PO X (some e) (tX S F W (dPart f)) := ⟨fun pins s σ H Q I h => (po_some p).run pins s σ H Q I (by
  obtain ⟨g, OS, env, h, r, q⟩ := h
  refine ⟨g, OS, env, h, r, ?_⟩
  unfold dPart at q
  cases e1 : f env h with
  | err => rw [e1] at q; exact q
  | exc c h1 => rw [e1] at q; exact q
  | ok x h1 =>
    rw [e1] at q
    simp only [bind_ok] at q
    intro v g' H' s k r
    cases z : partK x with
    | none => rw [z] at q; exact q.elim
    | some o =>
      rw [z] at q
      unfold partK at z
      split at z
      · cases z
        exact ⟨_, rep_int r, q g' H' s k⟩
      · cases z)⟩
def cutD (xs : List D) (lo hi : Option Int) : List D := (xs.drop (HT.sIx xs.length 0 lo)).take (HT.sIx xs.length xs.length hi - HT.sIx xs.length 0 lo)
theorem cut_reps {g : Gh} {ds : List D} {vs : List V} (r : Reps S g ds vs) (lo hi : Option Int) : Reps S g (cutD ds lo hi) (cutV vs lo hi) := by
  unfold cutD cutV
  rw [r.length]
  exact (r.drop _).take _
def cutK (h : AH) (e : EV) (lo hi : Option Int) : Option EV := match e with
  | .v (.str z) => if z.length ≤ sizeLine then some (.v (.str (cutS z lo hi))) else none
  | e => match seqOf h e with
    | some (.t, ds) => some (.v (.tup (cutD ds lo hi)))
    | some (_, ds) => some (.f (cutD ds lo hi))
    | none => none
def denSl (fa : DE) (lo hi : Env' → AH → Res (Option Int)) : DE := fun env h => (fa env h).bind fun e1 h1 => if e1.still then (lo env h1).bind fun l h2 => (hi env h2).bind fun u h3 => .lift (cutK h3 e1 l u) h3 else .err
def rSlAll (K : PySem.W.Frag) : V → Option Int → Option Int → Hp → VK → Prop := fun x lo hi H Q => rSlL K x lo hi H Q ∨ rSlF K x lo hi H Q ∨ rSlS x lo hi H Q
theorem sl_all : SlR X (rSlAll X.K) := SlR.or sl_list (SlR.or sl_tupF sl_str)
theorem cut_ok (K : PySem.W.Frag) {g : Gh} {H0 H : Hp} {h : AH} {e1 ev : EV} {v : V} {lo hi : Option Int} {Q : VK} (hk : HeapOk S g H h) (hd : ∀ a, H0 a ≠ none → H a ≠ none) (r : EvRel S g H0 H e1 v) (e : cutK h e1 lo hi = some ev)
    (q : Fin S g H0 H h ev Q) : rSlAll K v lo hi H Q := by
  unfold cutK at e
  split at e
  · split at e
    · rename_i hl
      cases e
      exact .inr (.inr ⟨_, rep_str r, hl, finS q hk (.str _)⟩)
    · cases e
  · split at e
    · rename_i ds hs
      cases e
      obtain ⟨a, vs, rfl, s1, r1⟩ := seq_rel hk r hs
      refine .inr (.inl ⟨a, vs, rfl, s1.sqT K, fun z => ?_, fun _ => finT q hk (cut_reps r1 lo hi) (Nat.le_trans (cutV_length _ _ _) (s1.len hk))⟩)
      rw [seq_t hs] at r
      have e2 : cutD ds lo hi = ds := by
        unfold cutD
        rw [r1.length, z.1, z.2, List.drop_zero, Nat.sub_zero, ← r1.length, List.take_length]
      rw [e2] at q
      exact finS q hk r
    · rename_i k ds hn hs
      cases e
      obtain ⟨a, vs, rfl, s1, r1⟩ := seq_rel hk r hs
      refine .inl ⟨a, vs, rfl, s1.sqL K (fun z => ?_), finF q hk hd (cut_reps r1 lo hi) (Nat.le_trans (cutV_length _ _ _) (s1.len hk))⟩
      subst z
      exact hn rfl
    · cases e
theorem ae_slice {lo hi : Option Expr} {p2 : Pos} {fa : DE} {fl fu : Env' → AH → Res (Option Int)} (ha : PE X e (tE S F W fa)) (hl : PO X lo (tX S F W fl)) (hu : PO X hi (tX S F W fu)) : PE X (.Subscript e (.Slice lo hi none p2) pos) (tE S F W (denSl fa fl fu)) := by
  refine PEim (pe_slice sl_all ha hl hu) fun σ H Q hq => ?_
  obtain ⟨g, OS, env, h, rl, q⟩ := hq
  refine ⟨g, OS, env, h, rl, ?_⟩
  unfold denSl at q
  cases e1 : fa env h with
  | err => rw [e1] at q; exact q
  | exc c h1 => rw [e1] at q; exact q
  | ok x h1 =>
    rw [e1] at q
    simp only [bind_ok] at q
    intro v1 g1 H1 s1 k1 r1
    cases st : x.still with
    | false => rw [st] at q; exact q.elim
    | true =>
      rw [st] at q
      simp only [if_true] at q
      refine ⟨g1, OS, env, h1, rl.step s1 k1, ?_⟩
      cases e2 : fl env h1 with
      | err => rw [e2] at q; exact q
      | exc c h2 => rw [e2] at q; exact fun g2 H2 s2 k2 => q g2 H2 (s1.trans s2) k2
      | ok l h2 =>
        rw [e2] at q
        simp only [bind_ok] at q
        intro g2 H2 s2 k2
        refine ⟨g2, OS, env, h2, (rl.step s1 k1).step s2 k2, ?_⟩
        cases e3 : fu env h2 with
        | err => rw [e3] at q; exact q
        | exc c h3 => rw [e3] at q; exact fun g3 H3 s3 k3 => q g3 H3 ((s1.trans s2).trans s3) k3
        | ok u h3 =>
          rw [e3] at q
          simp only [bind_ok] at q
          intro g3 H3 s3 k3
          cases e4 : cutK h3 x l u with
          | none => rw [e4] at q; exact q.elim
          | some ev =>
            rw [e4] at q
            simp only [lift_some] at q
            exact cut_ok X.K k3 (fun a z => s3.dom a (s2.dom a (s1.dom a z))) ((r1.step k1 s2 st).step k2 s3 st) e4 fun v g' H' s k r => q v g' H' (((s1.trans s2).trans s3).trans s) k r
def revK : AH → EV → Option EV := fun h e => match seqOf h e with
  | some (.t, ds) => some (.v (.tup ds.reverse))
  | some (_, ds) => some (.f ds.reverse)
  | none => none
theorem ae_rev {fa : DE} {k : Nat} {p1 p2 p3 : Pos} (ha : PE X e (tE S F W fa)) : PE X (.Subscript e (.Slice none none (some (.UnaryOp .USub (.Constant (.int 1) k p1) p2)) p3) pos) (tE S F W (den1 fa revK)) := by
  refine PEim (pe_revA ha) fun σ H Q hq => ?_
  refine op1_read (r := fun x H1 Q => ∃ a xs, x = .ref a ∧ ((SqL X.K H1 a xs ∧ ∀ p, H1 p = none → Q (.ref p) (upd H1 p (.lst xs.reverse))) ∨ (SqT X.K H1 a xs ∧ NewT H1 xs.reverse Q))) ?_ σ H Q hq
  intro g H0 H h e1 v1 ev Q hk hd x1 e q
  unfold revK at e
  split at e
  · rename_i ds hs
    cases e
    obtain ⟨a, vs, rfl, s1, r1⟩ := seq_rel hk x1 hs
    exact ⟨a, vs, rfl, .inr ⟨s1.sqT _, finT q hk r1.rev (by rw [List.length_reverse]; exact s1.len hk)⟩⟩
  · rename_i k ds hn hs
    cases e
    obtain ⟨a, vs, rfl, s1, r1⟩ := seq_rel hk x1 hs
    exact ⟨a, vs, rfl, .inl ⟨s1.sqL _ (fun z => by subst z; exact hn rfl), finF q hk hd r1.rev (by rw [List.length_reverse]; exact s1.len hk)⟩⟩
  · cases e
/-! ### built-in functions of one argument -/
def lenK : AH → EV → Option EV
  | _, .v (.str z) => if z.length ≤ sizeLine then some (.v (.int z.length)) else none
  | h, e => match seqOf h e with
    | some (_, ds) => some (.v (.int ds.length))
    | none => none
def rLenA (K : PySem.W.Frag) : List V → Hp → VK → Prop := fun xs H Q => (∃ p ys, xs = [.ref p] ∧ (SqL K H p ys ∨ SqT K H p ys) ∧ Q (.int ys.length) H) ∨ (∃ z, xs = [.str z] ∧ z.length ≤ sizeLine ∧ Q (.int z.length) H)
theorem callR_or {f : Value} {r1 r2 : List V → Hp → VK → Prop} (a : CallR X f r1) (b : CallR X f r2) : CallR X f (fun xs H Q => r1 xs H Q ∨ r2 xs H Q) := by
  intro pins s σ H xs us Q I r h
  rcases h with h | h
  · exact a pins s σ H xs us Q I r h
  · exact b pins s σ H xs us Q I r h
theorem call_lenA : CallR X (.builtin "len") (rLenA X.K) := callR_or call_len_seq call_len_str
theorem ok_len (K : PySem.W.Frag) : Op1Ok S (fun v H Q => rLenA K [v] H Q) lenK := by
  intro g H0 H h e1 v1 ev Q hk hd x1 e q
  unfold lenK at e
  split at e
  · split at e
    · rename_i hl
      cases e
      rw [rep_str x1]
      exact .inr ⟨_, rfl, hl, finS q hk (.int _)⟩
    · cases e
  · split at e
    · rename_i k ds hs
      cases e
      obtain ⟨a, vs, rfl, s1, r1⟩ := seq_rel hk x1 hs
      rw [r1.length] at q
      exact .inl ⟨a, vs, rfl, s1.sq K, finS q hk (.int _)⟩
    · cases e
/-- the bools of a list -/
def blsOf : List D → Option (List Bool)
  | [] => some []
  | .bl b :: r => (blsOf r).map (b :: ·)
  | _ => none
def intsOf : List D → Option (List Int)
  | [] => some []
  | .int b :: r => (intsOf r).map (b :: ·)
  | _ => none
theorem bls_reps {g : Gh} : ∀ {ds : List D} {vs : List V} {bs : List Bool}, Reps S g ds vs → blsOf ds = some bs → vs = bs.map V.bl
  | _, _, bs, .nil, e => by cases e; rfl
  | _, _, bs, .cons (d := d) a b, e => by
    cases d with
    | bl x =>
      simp only [blsOf] at e
      obtain ⟨r, e1, e2⟩ := Option.map_eq_some_iff.mp e
      subst e2
      rw [rep_bl a, bls_reps b e1]; rfl
    | _ => simp [blsOf] at e
theorem ints_reps {g : Gh} : ∀ {ds : List D} {vs : List V} {bs : List Int}, Reps S g ds vs → intsOf ds = some bs → vs = bs.map V.int
  | _, _, bs, .nil, e => by cases e; rfl
  | _, _, bs, .cons (d := d) a b, e => by
    cases d with
    | int x =>
      simp only [intsOf] at e
      obtain ⟨r, e1, e2⟩ := Option.map_eq_some_iff.mp e
      subst e2
      rw [rep_int a, ints_reps b e1]; rfl
    | _ => simp [intsOf] at e
def allK : AH → EV → Option EV := fun h e => match seqOf h e with
  | some (.l, ds) => (blsOf ds).map fun bs => .v (.bl (bs.all id))
  | _ => none
theorem ok_all (K : PySem.W.Frag) : Op1Ok S (fun v H Q => rAll K [v] H Q) allK := by
  intro g H0 H h e1 v1 ev Q hk hd x1 e q
  unfold allK at e
  split at e
  · rename_i ds hs
    obtain ⟨bs, e1, e2⟩ := Option.map_eq_some_iff.mp e
    subst e2
    obtain ⟨a, vs, rfl, s1, r1⟩ := seq_rel hk x1 hs
    have z := bls_reps r1 e1
    subst z
    exact ⟨a, bs, rfl, s1.sqL K (by decide), finS q hk (.bl _)⟩
  · cases e
theorem truth_ints {prog : Program} {w : World} {A : Around} {bs : List Int} {its : List Value} (rv : Vals (bs.map V.int) its) :
    TruthOf prog w A (fun i v => its.toArray[i]? = some v) (fun i => (bs.map (· != 0)).getD i false) := fun i v s Q E hv hq => by
  have hv' : its[i]? = some v := by simpa using hv
  have hl := rv.length
  obtain ⟨hi, _⟩ := List.getElem?_eq_some_iff.mp hv'
  have hb : (bs.map V.int)[i]? = some (.int (bs[i]'(by simpa [← hl] using hi))) := by
    rw [List.getElem?_map, List.getElem?_eq_getElem (by simpa [← hl] using hi)]; rfl
  obtain ⟨u, hu, ru⟩ := rv.get hb
  rw [hv'] at hu
  cases hu
  obtain ⟨t, rfl⟩ := ru
  have hg : (bs.map (· != 0)).getD i false = (bs[i]'(by simpa [← hl] using hi) != 0) := by
    rw [List.getD_eq_getElem?_getD, List.getElem?_map, List.getElem?_eq_getElem (by simpa [← hl] using hi)]; rfl
  have hq' : Q ((bs.map (· != 0)).getD i false) s := hq
  rw [hg] at hq'
  exact PySem.P.truthy_int hq'
def rAnyI (K : PySem.W.Frag) : List V → Hp → VK → Prop := fun vs H Q => ∃ (a : Addr) (ns : List Int), vs = [V.ref a] ∧ SqL K H a (ns.map V.int) ∧ Q (.bl (ns.any (· != 0))) H
theorem cr_anyI (hc : X.calm = true) : CallR X (.builtin "any") (rAnyI X.K) := by
  intro pins s σ H vs us Q I r h
  obtain ⟨a, bs, rfl, hs, q⟩ := h
  obtain ⟨its, rv, hl, _⟩ := I.list hs
  rw [Vals.ref1 r]
  have hlen := rv.length
  refine call_any_walk (iter_any hl.isList fun s₂ e2 st hne => ?_)
  subst e2
  refine ⟨_, _, _, _, _, _, _, rfl, Walks.list (A := X.A.in1) (I.ok.hd hc) _ a hne its.toArray, st, truth_ints rv, fun h' tk hk => ?_⟩
  refine ⟨.bl _, H, I.kept fun b o eo => hk b o (fun hmem => ?_) (Heap.get?_push_of_some _ eo), ?_, q⟩
  · rcases List.mem_cons.mp hmem with e1 | hmem
    · exact absurd (e1 ▸ Heap.lt_size eo) (Nat.lt_irrefl _)
    · cases hmem
  · show Value.bool _ = Value.bool _
    have e3 : its.toArray.size = (bs.map (· != 0)).length := by rw [List.size_toArray, ← hlen, List.length_map, List.length_map]
    rw [e3, L2.any_range, List.any_map]; rfl
def anyK : AH → EV → Option EV := fun h e => match seqOf h e with
  | some (.l, ds) => match blsOf ds with
    | some bs => some (.v (.bl (bs.any id)))
    | none => (intsOf ds).map fun ns => .v (.bl (ns.any (· != 0)))
  | _ => none
theorem ok_any (K : PySem.W.Frag) : Op1Ok S (fun v H Q => rAny K [v] H Q ∨ rAnyI K [v] H Q) anyK := by
  intro g H0 H h e1 v1 ev Q hk hd x1 e q
  unfold anyK at e
  split at e
  · rename_i ds hs
    obtain ⟨a, vs, rfl, s1, r1⟩ := seq_rel hk x1 hs
    split at e
    · rename_i bs e1
      cases e
      have z := bls_reps r1 e1
      subst z
      exact .inl ⟨a, bs, rfl, s1.sqL K (by decide), finS q hk (.bl _)⟩
    · obtain ⟨bs, e1, e2⟩ := Option.map_eq_some_iff.mp e
      subst e2
      have z := ints_reps r1 e1
      subst z
      exact .inr ⟨a, bs, rfl, s1.sqL K (by decide), finS q hk (.bl _)⟩
  · cases e
def sumK : AH → EV → Option EV := fun h e => match seqOf h e with
  | some (.l, ds) => (intsOf ds).map fun bs => .v (.int bs.sum)
  | _ => none
theorem ok_sum (K : PySem.W.Frag) : Op1Ok S (fun v H Q => rSum K [v] H Q) sumK := by
  intro g H0 H h e1 v1 ev Q hk hd x1 e q
  unfold sumK at e
  split at e
  · rename_i ds hs
    obtain ⟨bs, e1, e2⟩ := Option.map_eq_some_iff.mp e
    subst e2
    obtain ⟨a, vs, rfl, s1, r1⟩ := seq_rel hk x1 hs
    have z := ints_reps r1 e1
    subst z
    exact ⟨a, bs, rfl, s1.sqL K (by decide), finS q hk (.int _)⟩
  · cases e
/-- the greatest of some ints -/
def maxL : Int → List Int → Int
  | m, [] => m
  | m, x :: r => maxL (if m < x then x else m) r
theorem maxL_mem : ∀ (r : List Int) (m : Int), maxL m r ∈ m :: r
  | [], m => by simp [maxL]
  | x :: r, m => by
    have := maxL_mem r (if m < x then x else m)
    unfold maxL
    rcases List.mem_cons.mp this with e | e
    · rw [e]; split <;> simp
    · exact List.mem_cons_of_mem _ (List.mem_cons_of_mem _ e)
theorem maxL_ge : ∀ (r : List Int) (m : Int), ∀ y ∈ m :: r, y ≤ maxL m r
  | [], m, y, h => by simp at h; simp [maxL, h]
  | x :: r, m, y, h => by
    unfold maxL
    have h0 := maxL_ge r (if m < x then x else m) (if m < x then x else m) List.mem_cons_self
    rcases List.mem_cons.mp h with e | h
    · subst e; split at h0 <;> split <;> omega
    · rcases List.mem_cons.mp h with e | h
      · subst e; split at h0 <;> split <;> omega
      · exact maxL_ge r _ y (List.mem_cons_of_mem _ h)
def maxK : AH → EV → Option EV := fun h e => match seqOf h e with
  | some (.l, ds) => match intsOf ds with
    | some (n :: ns) => some (.v (.int (maxL n ns)))
    | _ => none
  | _ => none
theorem ok_max (K : PySem.W.Frag) : Op1Ok S (fun v H Q => rMax K [v] H Q) maxK := by
  intro g H0 H h e1 v1 ev Q hk hd x1 e q
  unfold maxK at e
  split at e
  · rename_i ds hs
    split at e
    · rename_i n ns e1
      cases e
      obtain ⟨a, vs, rfl, s1, r1⟩ := seq_rel hk x1 hs
      have z := ints_reps r1 e1
      subst z
      refine ⟨a, n :: ns, rfl, s1.sqL K (by decide), by simp, fun m hm hy => ?_⟩
      have e3 : m = maxL n ns := Int.le_antisymm (maxL_ge ns n m hm) (hy _ (maxL_mem ns n))
      rw [e3]
      exact finS q hk (.int _)
    · cases e
  · cases e
def tupK : AH → EV → Option EV := fun h e => match seqOf h e with
  | some (_, ds) => some (.v (.tup ds))
  | none => none
theorem ok_tup (K : PySem.W.Frag) : Op1Ok S (fun v H Q => ∃ p ys, [v] = [V.ref p] ∧ ((SqL K H p ys ∧ NewT H ys Q) ∨ (SqT K H p ys ∧ Q (.ref p) H))) tupK := by
  intro g H0 H h e1 v1 ev Q hk hd x1 e q
  unfold tupK at e
  split at e
  · rename_i k ds hs
    cases e
    obtain ⟨a, vs, rfl, s1, r1⟩ := seq_rel hk x1 hs
    by_cases z : k = .t
    · subst z
      rw [seq_t hs] at x1
      exact ⟨a, vs, rfl, .inr ⟨s1.sqT K, finS q hk x1⟩⟩
    · exact ⟨a, vs, rfl, .inl ⟨s1.sqL K z, finT q hk r1 (s1.len hk)⟩⟩
  · cases e
def lstK : AH → EV → Option EV := fun h e => match seqOf h e with
  | some (_, ds) => some (.f ds)
  | none => none
theorem ok_lst (K : PySem.W.Frag) : Op1Ok S (fun v H Q => ∃ p ys, [v] = [V.ref p] ∧ (SqL K H p ys ∨ SqT K H p ys) ∧ ∀ l, H l = none → Q (.ref l) (upd H l (.lst ys))) lstK := by
  intro g H0 H h e1 v1 ev Q hk hd x1 e q
  unfold lstK at e
  split at e
  · rename_i k ds hs
    cases e
    obtain ⟨a, vs, rfl, s1, r1⟩ := seq_rel hk x1 hs
    exact ⟨a, vs, rfl, s1.sq K, finF q hk hd r1 (s1.len hk)⟩
  · cases e
def intCK : AH → EV → Option EV
  | _, .v (.int i) => some (.v (.int i))
  | _, .v (.bl k) => some (.v (.int (if k then 1 else 0)))
  | _, _ => none
theorem ok_intC : Op1Ok S (fun v H Q => (∃ i, [v] = [V.int i] ∧ Q (.int i) H) ∨ ∃ k, [v] = [V.bl k] ∧ Q (.int (if k then 1 else 0)) H) intCK := by
  intro g H0 H h e1 v1 ev Q hk hd x1 e q
  unfold intCK at e
  split at e
  · cases e; rw [rep_int x1]; exact .inl ⟨_, rfl, finS q hk (.int _)⟩
  · cases e; rw [rep_bl x1]; exact .inr ⟨_, rfl, finS q hk (.int _)⟩
  · cases e
abbrev max2K := intK fun a b => some (.int (if b > a then b else a))
abbrev min2K := intK fun a b => some (.int (if b < a then b else a))
theorem ok_max2 : Op2Ok S (fun v u H Q => ∃ i j, [v, u] = [V.int i, V.int j] ∧ Q (.int (if j > i then j else i)) H) max2K := op2_int fun a b d g H Q e q => by cases e; exact ⟨a, b, rfl, q _ (.int _)⟩
theorem ok_min2 : Op2Ok S (fun v u H Q => ∃ i j, [v, u] = [V.int i, V.int j] ∧ Q (.int (if j < i then j else i)) H) min2K := op2_int fun a b d g H Q e q => by cases e; exact ⟨a, b, rfl, q _ (.int _)⟩
end
end J

/-! displays, tests, isinstance, calls of defs -/
namespace J
open PySem PySem.Spec PyProof.Rows L2
section
variable {S : Sta} {F : Fm} {W : WishX} {X : Cx} {e : Expr} {es : List Expr} {pos : Pos}
/-! ### argument lists, displays -/
def dNil : DL := fun _ h => .ok [] h
def dCons (f : DE) (fs : DL) : DL := fun env h => (f env h).bind fun e1 h1 => (Res.lift e1.toD h1).bind fun d h1 => (fs env h1).bind fun ds h2 => .ok (d :: ds) h2
def LenIs (fs : DL) (n : Nat) : Prop := ∀ env h ds h', fs env h = .ok ds h' → ds.length = n
theorem lenIs_nil : LenIs dNil 0 := fun env h ds h' e => by unfold dNil at e; cases e; rfl
theorem lenIs_cons {f : DE} {fs : DL} {n : Nat} (l : LenIs fs n) : LenIs (dCons f fs) (n + 1) := fun env h ds h' e => by
  unfold dCons at e
  cases e1 : f env h with
  | err => rw [e1] at e; cases e
  | exc c h1 => rw [e1] at e; cases e
  | ok x h1 =>
    rw [e1] at e
    simp only [bind_ok] at e
    cases e2 : x.toD with
    | none => rw [e2] at e; cases e
    | some d =>
      rw [e2] at e
      simp only [lift_some, bind_ok] at e
      cases e3 : fs env h1 with
      | err => rw [e3] at e; cases e
      | exc c h1 => rw [e3] at e; cases e
      | ok ds' h2 =>
        rw [e3] at e
        cases e
        rw [List.length_cons, l _ _ _ _ e3]
theorem aa_nil : PA X [] (tL S F W dNil) := PAim pa_nil fun σ H Q h => by
  obtain ⟨g, OS, env, h, r, q⟩ := h
  exact q [] g H (Stp.refl g H) r.heap .nil
theorem aa_cons {f : DE} {fs : DL} (he : PE X e (tE S F W f)) (hes : PA X es (tL S F W fs)) (hs : notStar e = true) : PA X (e :: es) (tL S F W (dCons f fs)) := by
  refine PAim (pa_cons he hes (starEach_cons hs)) fun σ H Q hq => ?_
  obtain ⟨g, OS, env, h, rl, q⟩ := hq
  refine ⟨g, OS, env, h, rl, ?_⟩
  unfold dCons at q
  cases e1 : f env h with
  | err => rw [e1] at q; exact q
  | exc c h1 => rw [e1] at q; exact q
  | ok x h1 =>
    rw [e1] at q
    simp only [bind_ok] at q
    intro v1 g1 H1 s1 k1 r1
    cases e2 : x.toD with
    | none => rw [e2] at q; exact q.elim
    | some d =>
      rw [e2] at q
      simp only [lift_some, bind_ok] at q
      obtain ⟨g1', s1', k1', r1'⟩ := r1.val e2 s1 k1
      refine ⟨g1', OS, env, h1, rl.step s1' k1', ?_⟩
      cases e3 : fs env h1 with
      | err => rw [e3] at q; exact q
      | exc c h2 => rw [e3] at q; exact fun g2 H2 s2 k2 => q g2 H2 (s1'.trans s2) k2
      | ok ds h2 =>
        rw [e3] at q
        simp only [bind_ok] at q
        intro vs g2 H2 s2 k2 r2
        exact q (v1 :: vs) g2 H2 (s1'.trans s2) k2 (.cons (r1'.mono (s2.le k1')) r2)
def dTup (fs : DL) : DE := fun env h => (fs env h).bind fun ds h1 => .ok (.v (.tup ds)) h1
def dLst (fs : DL) : DE := fun env h => (fs env h).bind fun ds h1 => .ok (.f ds) h1
theorem ae_tup {fs : DL} {n : Nat} {x1} (ha : PA X es (tL S F W fs)) (l : LenIs fs n) (hn : n ≤ sizeLine) : PE X (.Tuple es x1 pos) (tE S F W (dTup fs)) := by
  refine PEim (pe_tupF ha) fun σ H Q hq => ?_
  obtain ⟨g, OS, env, h, rl, q⟩ := hq
  refine ⟨g, OS, env, h, rl, ?_⟩
  unfold dTup at q
  cases e1 : fs env h with
  | err => rw [e1] at q; exact q
  | exc c h1 => rw [e1] at q; exact q
  | ok ds h1 =>
    rw [e1] at q
    simp only [bind_ok] at q
    intro vs g1 H1 s1 k1 r1
    have hl : vs.length ≤ sizeLine := by rw [← r1.length, l _ _ _ _ e1]; exact hn
    exact ⟨hl, finT (H0 := H) (fun v g' H' s k r => q v g' H' (s1.trans s) k r) k1 r1 hl⟩
theorem ae_lst {fs : DL} {n : Nat} (ha : PA X es (tL S F W fs)) (l : LenIs fs n) (hn : n ≤ sizeLine) : PE X (.List es pos) (tE S F W (dLst fs)) := by
  refine PEim (pe_lst ha) fun σ H Q hq => ?_
  obtain ⟨g, OS, env, h, rl, q⟩ := hq
  refine ⟨g, OS, env, h, rl, ?_⟩
  unfold dLst at q
  cases e1 : fs env h with
  | err => rw [e1] at q; exact q
  | exc c h1 => rw [e1] at q; exact q
  | ok ds h1 =>
    rw [e1] at q
    simp only [bind_ok] at q
    intro vs g1 H1 s1 k1 r1
    have hl : vs.length ≤ sizeLine := by rw [← r1.length, l _ _ _ _ e1]; exact hn
    exact ⟨hl, finF (H0 := H) (fun v g' H' s k r => q v g' H' (s1.trans s) k r) k1 s1.dom r1 hl⟩
/-! ### tests -/
def blK : EV → Option Bool
  | .v (.bl b) => some b
  | _ => none
def dBool (f : DE) : DB := fun env h => (f env h).bind fun e h1 => .lift (blK e) h1
theorem blK_ok {g : Gh} {Hb H : Hp} {ev : EV} {v : V} {b : Bool} (r : EvRel S g Hb H ev v) (e : blK ev = some b) : v = .bl b := by
  unfold blK at e
  split at e
  · cases e; exact rep_bl r
  · cases e
theorem dBool_read {f : DE} (σ : L2.St) (H : Hp) (Q : Bool → Hp → Prop) (hq : tX S F W (dBool f) σ H Q) : tE S F W f σ H (fun x H' => ∃ k, x = .bl k ∧ Q k H') := by
  obtain ⟨g, OS, env, h, rl, q⟩ := hq
  refine ⟨g, OS, env, h, rl, ?_⟩
  unfold dBool at q
  cases e1 : f env h with
  | err => rw [e1] at q; exact q
  | exc c h1 => rw [e1] at q; exact q
  | ok x h1 =>
    rw [e1] at q
    simp only [bind_ok] at q
    intro v1 g1 H1 s1 k1 r1
    cases e2 : blK x with
    | none => rw [e2] at q; exact q.elim
    | some b =>
      rw [e2] at q
      exact ⟨b, blK_ok r1 e2, q g1 H1 s1 k1⟩
theorem at_cmp {op : CmpOp} {r : R2} {a b : Expr} {fa fb : DE} {k : AH → EV → EV → Option EV} (ho : OpR X (compareOp op) r) (hk : Op2Ok S r k) (ha : PE X a (tE S F W fa)) (hb : PE X b (tE S F W fb)) (hm : behindInMarks op b = false) : PT X (.Compare a [op] [b] pos) (tX S F W (dBool (den2 fa fb k))) :=
  PTim (pt_cmpR ho ha hb hm) fun σ H Q h => op2_read hk σ H _ (dBool_read σ H Q h)
def truthK (h : AH) : EV → Option Bool
  | .v .non => some false
  | .v (.bl b) => some b
  | .v (.int i) => some (i != 0)
  | .v (.str y) => if y.length ≤ sizeLine then some ((y.length : Int) != 0) else none
  | e => match seqOf h e with
    | some (_, ds) => some (!ds.isEmpty)
    | none => none
def dTruth (f : DE) : DB := fun env h => (f env h).bind fun e h1 => .lift (truthK h1 e) h1
def plainTest : Expr → Bool
  | .UnaryOp .Not _ _ => false
  | .BoolOp .. => false
  | .IfExp .. => false
  | .Compare .. => false
  | _ => true
theorem plainTest_ok {env : Env} (h : plainTest e = true) : ∀ whole, isTrue e env whole = (do let v ← whole; standAt e.pos; holding [v] (truthy v)) := by
  intro whole
  cases e with
  | UnaryOp op a p => cases op <;> first | rfl | cases h
  | BoolOp => cases h
  | IfExp => cases h
  | Compare => cases h
  | _ => rfl
theorem isEmpty_reps {g : Gh} {ds : List D} {vs : List V} (r : Reps S g ds vs) : vs.isEmpty = ds.isEmpty := by cases r <;> rfl
theorem at_truth {f : DE} (he : PE X e (tE S F W f)) (hp : plainTest e = true) : PT X e (tX S F W (dTruth f)) := by
  refine PTim (pt_truth he (plainTest_ok hp)) fun σ H Q hq => ?_
  obtain ⟨g, OS, env, h, rl, q⟩ := hq
  refine ⟨g, OS, env, h, rl, ?_⟩
  unfold dTruth at q
  cases e1 : f env h with
  | err => rw [e1] at q; exact q
  | exc c h1 => rw [e1] at q; exact q
  | ok x h1 =>
    rw [e1] at q
    simp only [bind_ok] at q
    intro v1 g1 H1 s1 k1 r1
    cases e2 : truthK h1 x with
    | none => rw [e2] at q; exact q.elim
    | some b =>
      rw [e2] at q
      refine ⟨b, ?_, q g1 H1 s1 k1⟩
      unfold truthK at e2
      split at e2
      · cases e2; rw [rep_non r1]; rfl
      · cases e2; rw [rep_bl r1]; rfl
      · cases e2; rw [rep_int r1]; rfl
      · split at e2
        · rename_i hl
          cases e2; rw [rep_str r1]; exact ⟨hl, rfl⟩
        · cases e2
      · split at e2
        · rename_i k ds hs
          cases e2
          obtain ⟨a, vs, rfl, s2, r2⟩ := seq_rel k1 r1 hs
          rcases s2.sq X.K with z | z
          · exact .inl ⟨vs, z, by rw [isEmpty_reps r2]⟩
          · exact .inr (.inl ⟨vs, z, by rw [isEmpty_reps r2]⟩)
        · cases e2
def dNot (f : DB) : DB := fun env h => (f env h).bind fun b h1 => .ok (!b) h1
def dAnd (f k : DB) : DB := fun env h => (f env h).bind fun b h1 => if b then k env h1 else .ok false h1
def dOr (f k : DB) : DB := fun env h => (f env h).bind fun b h1 => if b then .ok true h1 else k env h1
theorem at_not {f : DB} (he : PT X e (tX S F W f)) : PT X (.UnaryOp .Not e pos) (tX S F W (dNot f)) := by
  refine PTim (pt_not he) fun σ H Q hq => ?_
  obtain ⟨g, OS, env, h, rl, q⟩ := hq
  refine ⟨g, OS, env, h, rl, ?_⟩
  unfold dNot at q
  cases e1 : f env h with
  | err => rw [e1] at q; exact q
  | exc c h1 => rw [e1] at q; exact q
  | ok x h1 => rw [e1] at q; exact q
theorem and_read {f k : DB} (σ : L2.St) (H : Hp) (Q : Bool → Hp → Prop) (hq : tX S F W (dAnd f k) σ H Q) : tAnd (tX S F W f) (tX S F W k) σ H Q := by
  obtain ⟨g, OS, env, h, rl, q⟩ := hq
  refine ⟨g, OS, env, h, rl, ?_⟩
  unfold dAnd at q
  cases e1 : f env h with
  | err => rw [e1] at q; exact q
  | exc c h1 => rw [e1] at q; exact q
  | ok b h1 =>
    rw [e1] at q
    simp only [bind_ok] at q
    intro g1 H1 s1 k1
    cases b with
    | false =>
      rw [if_neg Bool.false_ne_true]
      simp only [Bool.false_eq_true, if_false] at q
      exact q g1 H1 s1 k1
    | true =>
      rw [if_pos rfl]
      simp only [if_true] at q
      refine ⟨g1, OS, env, h1, rl.step s1 k1, ?_⟩
      cases e2 : k env h1 with
      | err => rw [e2] at q; exact q
      | exc c h2 => rw [e2] at q; exact fun g2 H2 s2 k2 => q g2 H2 (s1.trans s2) k2
      | ok b2 h2 => rw [e2] at q; exact fun g2 H2 s2 k2 => q g2 H2 (s1.trans s2) k2
theorem or_read {f k : DB} (σ : L2.St) (H : Hp) (Q : Bool → Hp → Prop) (hq : tX S F W (dOr f k) σ H Q) : tOr (tX S F W f) (tX S F W k) σ H Q := by
  obtain ⟨g, OS, env, h, rl, q⟩ := hq
  refine ⟨g, OS, env, h, rl, ?_⟩
  unfold dOr at q
  cases e1 : f env h with
  | err => rw [e1] at q; exact q
  | exc c h1 => rw [e1] at q; exact q
  | ok b h1 =>
    rw [e1] at q
    simp only [bind_ok] at q
    intro g1 H1 s1 k1
    cases b with
    | true =>
      rw [if_pos rfl]
      simp only [if_true] at q
      exact q g1 H1 s1 k1
    | false =>
      rw [if_neg Bool.false_ne_true]
      simp only [Bool.false_eq_true, if_false] at q
      refine ⟨g1, OS, env, h1, rl.step s1 k1, ?_⟩
      cases e2 : k env h1 with
      | err => rw [e2] at q; exact q
      | exc c h2 => rw [e2] at q; exact fun g2 H2 s2 k2 => q g2 H2 (s1.trans s2) k2
      | ok b2 h2 => rw [e2] at q; exact fun g2 H2 s2 k2 => q g2 H2 (s1.trans s2) k2
variable {a b c : Expr} {rest : List Expr}
theorem aw_and1 {f : DB} (ha : PT X a (tX S F W f)) : PW X (.BoolOp .And [a] pos) (tX S F W f) := pw_and1 ha
theorem aw_or1 {f : DB} (ha : PT X a (tX S F W f)) : PW X (.BoolOp .Or [a] pos) (tX S F W f) := pw_or1 ha
theorem aw_and {f k : DB} (ha : PT X a (tX S F W f)) (hb : PW X (.BoolOp .And (b :: rest) pos) (tX S F W k)) : PW X (.BoolOp .And (a :: b :: rest) pos) (tX S F W (dAnd f k)) := PWim (pw_and ha hb) and_read
theorem aw_or {f k : DB} (ha : PT X a (tX S F W f)) (hb : PW X (.BoolOp .Or (b :: rest) pos) (tX S F W k)) : PW X (.BoolOp .Or (a :: b :: rest) pos) (tX S F W (dOr f k)) := PWim (pw_or ha hb) or_read
/-! ### as values -/
def ofB (f : DB) : DE := fun env h => (f env h).bind fun b h1 => .ok (.v (.bl b)) h1
def dAndV (f k : DE) : DE := fun env h => (f env h).bind fun e h1 => (Res.lift (blK e) h1).bind fun b h1 => if b then k env h1 else .ok (.v (.bl false)) h1
def dOrV (f k : DE) : DE := fun env h => (f env h).bind fun e h1 => (Res.lift (blK e) h1).bind fun b h1 => if b then .ok (.v (.bl true)) h1 else k env h1
def dNotV (f : DE) : DE := fun env h => (f env h).bind fun e h1 => (Res.lift (blK e) h1).bind fun b h1 => .ok (.v (.bl (!b))) h1
theorem ae_one {op} {f : DE} (h : PE X a (tE S F W f)) : PE X (.BoolOp op [a] pos) (tE S F W f) := pe_one h
theorem ae_and {f k : DE} (ha : PE X a (tE S F W f)) (hb : PE X (.BoolOp .And (b :: rest) pos) (tE S F W k)) : PE X (.BoolOp .And (a :: b :: rest) pos) (tE S F W (dAndV f k)) := by
  refine PEim (pe_and ha hb) fun σ H Q hq => ?_
  obtain ⟨g, OS, env, h, rl, q⟩ := hq
  refine ⟨g, OS, env, h, rl, ?_⟩
  unfold dAndV at q
  cases e1 : f env h with
  | err => rw [e1] at q; exact q
  | exc c h1 => rw [e1] at q; exact q
  | ok x h1 =>
    rw [e1] at q
    simp only [bind_ok] at q
    intro v1 g1 H1 s1 k1 r1
    cases e2 : blK x with
    | none => rw [e2] at q; exact q.elim
    | some b =>
      rw [e2] at q
      simp only [lift_some, bind_ok] at q
      refine ⟨b, blK_ok r1 e2, ?_⟩
      cases b with
      | false =>
        rw [if_neg Bool.false_ne_true]
        simp only [Bool.false_eq_true, if_false] at q
        exact q _ g1 H1 s1 k1 (.bl false)
      | true =>
        rw [if_pos rfl]
        simp only [if_true] at q
        refine ⟨g1, OS, env, h1, rl.step s1 k1, ?_⟩
        cases e3 : k env h1 with
        | err => rw [e3] at q; exact q
        | exc c h2 => rw [e3] at q; exact fun g2 H2 s2 k2 => q g2 H2 (s1.trans s2) k2
        | ok y h2 => rw [e3] at q; exact fun v2 g2 H2 s2 k2 r2 => q v2 g2 H2 (s1.trans s2) k2 (r2.base s1.dom)
theorem ae_or {f k : DE} (ha : PE X a (tE S F W f)) (hb : PE X (.BoolOp .Or (b :: rest) pos) (tE S F W k)) : PE X (.BoolOp .Or (a :: b :: rest) pos) (tE S F W (dOrV f k)) := by
  refine PEim (pe_or ha hb) fun σ H Q hq => ?_
  obtain ⟨g, OS, env, h, rl, q⟩ := hq
  refine ⟨g, OS, env, h, rl, ?_⟩
  unfold dOrV at q
  cases e1 : f env h with
  | err => rw [e1] at q; exact q
  | exc c h1 => rw [e1] at q; exact q
  | ok x h1 =>
    rw [e1] at q
    simp only [bind_ok] at q
    intro v1 g1 H1 s1 k1 r1
    cases e2 : blK x with
    | none => rw [e2] at q; exact q.elim
    | some b =>
      rw [e2] at q
      simp only [lift_some, bind_ok] at q
      refine ⟨b, blK_ok r1 e2, ?_⟩
      cases b with
      | true =>
        rw [if_pos rfl]
        simp only [if_true] at q
        exact q _ g1 H1 s1 k1 (.bl true)
      | false =>
        rw [if_neg Bool.false_ne_true]
        simp only [Bool.false_eq_true, if_false] at q
        refine ⟨g1, OS, env, h1, rl.step s1 k1, ?_⟩
        cases e3 : k env h1 with
        | err => rw [e3] at q; exact q
        | exc c h2 => rw [e3] at q; exact fun g2 H2 s2 k2 => q g2 H2 (s1.trans s2) k2
        | ok y h2 => rw [e3] at q; exact fun v2 g2 H2 s2 k2 r2 => q v2 g2 H2 (s1.trans s2) k2 (r2.base s1.dom)
theorem ae_not {f : DE} (ha : PE X a (tE S F W f)) : PE X (.UnaryOp .Not a pos) (tE S F W (dNotV f)) := by
  refine PEim (pe_not ha) fun σ H Q hq => ?_
  obtain ⟨g, OS, env, h, rl, q⟩ := hq
  refine ⟨g, OS, env, h, rl, ?_⟩
  unfold dNotV at q
  cases e1 : f env h with
  | err => rw [e1] at q; exact q
  | exc c h1 => rw [e1] at q; exact q
  | ok x h1 =>
    rw [e1] at q
    simp only [bind_ok] at q
    intro v1 g1 H1 s1 k1 r1
    cases e2 : blK x with
    | none => rw [e2] at q; exact q.elim
    | some b =>
      rw [e2] at q
      exact ⟨b, blK_ok r1 e2, q _ g1 H1 s1 k1 (.bl _)⟩
def dIf (t : DB) (f k : DE) : DE := fun env h => (t env h).bind fun b h1 => if b then f env h1 else k env h1
theorem ae_if {t : DB} {f k : DE} (hc : PT X c (tX S F W t)) (ha : PE X a (tE S F W f)) (hb : PE X b (tE S F W k)) : PE X (.IfExp c a b pos) (tE S F W (dIf t f k)) := by
  refine PEim (pe_ifExp hc ha hb) fun σ H Q hq => ?_
  obtain ⟨g, OS, env, h, rl, q⟩ := hq
  refine ⟨g, OS, env, h, rl, ?_⟩
  unfold dIf at q
  cases e1 : t env h with
  | err => rw [e1] at q; exact q
  | exc c h1 => rw [e1] at q; exact q
  | ok b h1 =>
    rw [e1] at q
    simp only [bind_ok] at q
    intro g1 H1 s1 k1
    cases b with
    | true =>
      rw [if_pos rfl]
      simp only [if_true] at q
      refine ⟨g1, OS, env, h1, rl.step s1 k1, ?_⟩
      cases e3 : f env h1 with
      | err => rw [e3] at q; exact q
      | exc c h2 => rw [e3] at q; exact fun g2 H2 s2 k2 => q g2 H2 (s1.trans s2) k2
      | ok y h2 => rw [e3] at q; exact fun v2 g2 H2 s2 k2 r2 => q v2 g2 H2 (s1.trans s2) k2 (r2.base s1.dom)
    | false =>
      rw [if_neg Bool.false_ne_true]
      simp only [Bool.false_eq_true, if_false] at q
      refine ⟨g1, OS, env, h1, rl.step s1 k1, ?_⟩
      cases e3 : k env h1 with
      | err => rw [e3] at q; exact q
      | exc c h2 => rw [e3] at q; exact fun g2 H2 s2 k2 => q g2 H2 (s1.trans s2) k2
      | ok y h2 => rw [e3] at q; exact fun v2 g2 H2 s2 k2 r2 => q v2 g2 H2 (s1.trans s2) k2 (r2.base s1.dom)
/-! ### a op b op c -/
def denCh (fa fb fc : DE) (k k' : AH → EV → EV → Option EV) : DE := fun env h => (fa env h).bind fun e1 h1 => if e1.still then (fb env h1).bind fun e2 h2 => (Res.lift ((k h2 e1 e2).bind blK) h2).bind fun b h2 =>
  if b then (if e2.still then (fc env h2).bind fun e3 h3 => .lift (k' h3 e2 e3) h3 else .err) else .ok (.v (.bl false)) h2 else .err
theorem chain_read {r r' : R2} {fa fb fc : DE} {k k' : AH → EV → EV → Option EV} (hk : Op2Ok S r k) (hk' : Op2Ok S r' k') (σ : L2.St) (H : Hp) (Q : VK) (hq : tE S F W (denCh fa fb fc k k') σ H Q) : tChain r r' (tE S F W fa) (tE S F W fb) (tE S F W fc) σ H Q := by
  obtain ⟨g, OS, env, h, rl, q⟩ := hq
  refine ⟨g, OS, env, h, rl, ?_⟩
  unfold denCh at q
  cases e1 : fa env h with
  | err => rw [e1] at q; exact q
  | exc c h1 => rw [e1] at q; exact q
  | ok x h1 =>
    rw [e1] at q
    simp only [bind_ok] at q
    intro v1 g1 H1 s1 k1 r1
    cases st : x.still with
    | false => rw [st] at q; exact q.elim
    | true =>
      rw [st] at q
      simp only [if_true] at q
      refine ⟨g1, OS, env, h1, rl.step s1 k1, ?_⟩
      cases e2 : fb env h1 with
      | err => rw [e2] at q; exact q
      | exc c h2 => rw [e2] at q; exact fun g2 H2 s2 k2 => q g2 H2 (s1.trans s2) k2
      | ok y h2 =>
        rw [e2] at q
        simp only [bind_ok] at q
        intro v2 g2 H2 s2 k2 r2
        cases e3 : k h2 x y with
        | none => rw [e3] at q; exact q.elim
        | some ev =>
          rw [e3] at q
          cases e4 : blK ev with
          | none => simp only [Option.bind_some, e4, lift_none, bind_err] at q
          | some b =>
            simp only [Option.bind_some, e4, lift_some, bind_ok] at q
            refine hk g2 H H2 h2 x y v1 v2 ev _ k2 (fun a z => s2.dom a (s1.dom a z)) (r1.step k1 s2 st) (r2.base s1.dom) e3 fun v3 g3 H3 s3 k3 r3 => ⟨b, blK_ok r3 e4, ?_⟩
            cases b with
            | false =>
              rw [if_neg Bool.false_ne_true]
              simp only [Bool.false_eq_true, if_false] at q
              exact q _ g3 H3 ((s1.trans s2).trans s3) k3 (.bl false)
            | true =>
              rw [if_pos rfl]
              simp only [if_true] at q
              cases st2 : y.still with
              | false => rw [st2] at q; exact q.elim
              | true =>
                rw [st2] at q
                simp only [if_true] at q
                refine ⟨g3, OS, env, h2, ((rl.step s1 k1).step s2 k2).step s3 k3, ?_⟩
                cases e5 : fc env h2 with
                | err => rw [e5] at q; exact q
                | exc c h4 => rw [e5] at q; exact fun g4 H4 s4 k4 => q g4 H4 (((s1.trans s2).trans s3).trans s4) k4
                | ok z h4 =>
                  rw [e5] at q
                  simp only [bind_ok] at q
                  intro v4 g4 H4 s4 k4 r4
                  cases e6 : k' h4 y z with
                  | none => rw [e6] at q; exact q.elim
                  | some ev2 =>
                    rw [e6] at q
                    simp only [lift_some] at q
                    exact hk' g4 H H4 h4 y z v2 v4 ev2 Q k4 (fun a z => s4.dom a (s3.dom a (s2.dom a (s1.dom a z)))) (((r2.base s1.dom).step k2 s3 st2).step k3 s4 st2) (r4.base (fun a z => s3.dom a (s2.dom a (s1.dom a z)))) e6 fun v g' H' s k r => q v g' H' ((((s1.trans s2).trans s3).trans s4).trans s) k r
theorem ae_chain {op op' : CmpOp} {r r' : R2} {fa fb fc : DE} {k k' : AH → EV → EV → Option EV} (ho : OpR X (compareOp op) r) (ho' : OpR X (compareOp op') r') (hk : Op2Ok S r k) (hk' : Op2Ok S r' k') (ha : PE X a (tE S F W fa)) (hb : PE X b (tE S F W fb)) (hc : PE X c (tE S F W fc))
    (hm : lastMarks [op, op'] [b, c] = false) : PE X (.Compare a [op, op'] [b, c] pos) (tE S F W (denCh fa fb fc k k')) := PEim (pe_chain ho ho' ha hb hc hm) (chain_read hk hk')
theorem at_chain {op op' : CmpOp} {r r' : R2} {fa fb fc : DE} {k k' : AH → EV → EV → Option EV} (ho : OpR X (compareOp op) r) (ho' : OpR X (compareOp op') r') (hk : Op2Ok S r k) (hk' : Op2Ok S r' k') (ha : PE X a (tE S F W fa)) (hb : PE X b (tE S F W fb)) (hc : PE X c (tE S F W fc))
    (hm : lastMarks [op, op'] [b, c] = false) : PT X (.Compare a [op, op'] [b, c] pos) (tX S F W (dBool (denCh fa fb fc k k'))) := PTim (pt_chain ho ho' ha hb hc hm) fun σ H Q h => chain_read hk hk' σ H _ (dBool_read σ H Q h)
end
end J

/-! isinstance, calls of defs, small statements -/
namespace J
open PySem PySem.Spec PyProof.Rows L2
/-! ### isinstance -/
inductive TyN where
  | non | bool | int | str | tup | lst
  deriving DecidableEq
def TyN.name : TyN → String
  | .non => "NoneType"
  | .bool => "bool"
  | .int => "int"
  | .str => "str"
  | .tup => "tuple"
  | .lst => "list"
def isiT : TyN → TyN → Bool
  | .non, .non => true
  | .bool, .bool => true
  | .bool, .int => true
  | .int, .int => true
  | .str, .str => true
  | .tup, .tup => true
  | .lst, .lst => true
  | _, _ => false
theorem kitT (a b : TyN) : kitB a.name b.name = some (isiT a b) := by
  cases a <;> cases b <;> decide +kernel
def tyOf (h : AH) : EV → Option TyN
  | .v .non => some .non
  | .v (.bl _) => some .bool
  | .v (.int _) => some .int
  | .v (.str _) => some .str
  | e => match seqOf h e with
    | some (.t, _) => some .tup
    | some (_, _) => some .lst
    | none => none
theorem tyOf_ok {S : Sta} {g : Gh} {H0 H : Hp} {h : AH} {ev : EV} {v : V} {t : TyN} (K : PySem.W.Frag) (hk : HeapOk S g H h) (r : EvRel S g H0 H ev v) (e : tyOf h ev = some t) : TyX K H v (.type t.name) := by
  unfold tyOf at e
  split at e
  · cases e; rw [rep_non r]; exact .base .non
  · cases e; rw [rep_bl r]; exact .base (.bl _)
  · cases e; rw [rep_int r]; exact .base (.int _)
  · cases e; rw [rep_str r]; exact .base (.str _)
  · split at e
    · rename_i ds hs
      cases e
      obtain ⟨a, vs, rfl, s1, r1⟩ := seq_rel hk r hs
      obtain ⟨o, _, s1⟩ := s1
      exact .fTuple s1
    · rename_i k ds hn hs
      cases e
      obtain ⟨a, vs, rfl, s1, r1⟩ := seq_rel hk r hs
      cases k with
      | l => exact .base (.lst s1)
      | t => exact absurd rfl hn
      | s => obtain ⟨o, s1⟩ := s1; exact .base (.frz s1)
    · cases e
def isiK (T : TyN) : AH → EV → Option EV := fun h e => (tyOf h e).map fun t => .v (.bl (isiT t T))
section
variable {S : Sta} {F : Fm} {W : WishX} {X : Cx} {e : Expr} {es : List Expr} {pos : Pos}
theorem ae_isi {p p2 : Pos} {a : Expr} {fa : DE} {T : TyN} {y : Str} (hg : Gl X "isinstance") (hm : X.mg "isinstance" = none) (hg2 : Gl X y) (hm2 : X.mg y = none) (hv2 : bootBuiltins y = some (.type T.name)) (hn2 : y ≠ "__name__") (hd2 : (y == ("__debug__" : Str)) = false)
    (ha : PE X a (tE S F W fa)) (hs : notStar a = true) : PE X (.Call (.Name "isinstance" p) [a, .Name y p2] [] pos) (tE S F W (den1 fa (isiK T))) := by
  have hT : PE X (.Name y p2) (tC (.ty T.name)) := pe_bltn hg2 hm2 hv2 rfl hn2 hd2
  refine PEim (pe_callB call_isi hg hm boot_isinstance (pa2 ha hT hs rfl) (by decide) (by decide) (starEach_cons hs) (backTo_any (by rw [starEach_cons rfl]; rfl))) fun σ H Q h => ?_
  refine op1_read (r := fun v H Q => rIsi X.K [v, .ty T.name] H Q) ?_ σ H Q h
  intro g H0 H h e1 v1 ev Q hk hd x1 e q
  unfold isiK at e
  obtain ⟨t, e1, e2⟩ := Option.map_eq_some_iff.mp e
  subst e2
  exact ⟨v1, .ty T.name, .type t.name, .type T.name, isiT t T, rfl, .ty _, tyOf_ok X.K hk x1 e1, kit_ty (kitT t T), finS q hk (.bl _)⟩
/-! ### calls of defs -/
/-- a def's promise: it does what the plain function f says -/
def spF (S : Sta) (n : Nat) (f : List D → AH → Res D) : Sp := fun vs H Q E => ∃ g ds h, HeapOk S g H h ∧ Reps S g ds vs ∧ vs.length = n ∧ match f ds h with
  | .ok d h' => ∀ v g' H', Stp g H g' H' → HeapOk S g' H' h' → Rep S g' d v → Q v H'
  | .exc c h' => ∀ g' H', Stp g H g' H' → HeapOk S g' H' h' → E (.ref (S.cadr c)) none H'
  | .err => False
def wxOf (S : Sta) (W : WishX) : WX := fun cls d σ H => ∃ c, cls = .ref (S.cadr c) ∧ d = none ∧ W c σ H
structure CallOk (X : Cx) (S : Sta) (x : Str) (n : Nat) (f : List D → AH → Res D) : Prop where
  ex : ∃ k a fd ps, FnOk X.prog X.w X.K X.mg X.base (L2.CX X.prog X.w) k a fd ps (spF S n f) ∧ Room k X.A ∧ X.mg x = some (.ref a) ∧ PySem.W.keepIn X.K (.ref a) = true ∧ Binds X.K fd ps []
def dCall (f : List D → AH → Res D) (fs : DL) : DE := fun env h => (fs env h).bind fun ds h1 => (f ds h1).bind fun d h2 => .ok (.v d) h2
theorem call_read {f : List D → AH → Res D} {fs : DL} {n : Nat} (l : LenIs fs n) (σ : L2.St) (H : Hp) (Q : VK) (hq : tE S F W (dCall f fs) σ H Q) : tCallSD (spF S n f) [] (WE (wxOf S W)) (tL S F W fs) σ H Q := by
  obtain ⟨g, OS, env, h, rl, q⟩ := hq
  refine ⟨g, OS, env, h, rl, ?_⟩
  unfold dCall at q
  cases e1 : fs env h with
  | err => rw [e1] at q; exact q
  | exc c h1 => rw [e1] at q; exact q
  | ok ds h1 =>
    rw [e1] at q
    simp only [bind_ok] at q
    intro vs g1 H1 s1 k1 r1
    refine ⟨g1, ds, h1, k1, by rw [List.append_nil]; exact r1, by rw [List.append_nil, ← r1.length]; exact l _ _ _ _ e1, ?_⟩
    cases e2 : f ds h1 with
    | err => rw [e2] at q; exact q
    | exc c h2 => rw [e2] at q; exact fun g2 H2 s2 k2 => ⟨c, rfl, rfl, q g2 H2 (s1.trans s2) k2⟩
    | ok d h2 => rw [e2] at q; exact fun v g2 H2 s2 k2 r2 => q v g2 H2 (s1.trans s2) k2 r2
theorem pe_callSD0 {CX : CXT} {k : Nat} {f : Addr} {fd : FuncData} {ps : List Str} {sp : Sp} {dvs : List V} {ds : List Value} {E : L2.St → XK} {x : Str} {p : Pos} (F : FnOk X.prog X.w X.K X.mg X.base CX k f fd ps sp) (hr : Room k X.A) (hg : Gl X x) (hm : X.mg x = some (.ref f)) (hk : PySem.W.keepIn X.K (.ref f) = true) (hb : Binds X.K fd ps ds) (hd : Vals dvs ds) (hx : ∀ σ, PassesAt CX X σ (E σ))
    (hdb : (x == ("__debug__" : Str)) = false) : PE X (.Call (.Name x p) [] [] pos) (tCallSD sp dvs E tNil) := by
  refine ⟨fun pins s σ H Q I h => ?_⟩
  refine wpAny_Call_Name_kw (ld_glob I hg hm ?_ hdb)
  exact PySem.W.callWith_K0 I.kIn hk (run_fnSD (us := []) F hr hb hd (hx σ) I .nil h)
theorem ae_call {x : Str} {p : Pos} {n : Nat} {f : List D → AH → Res D} {fs : DL} (c : CallOk X S x n f) (tk : Takes X (wxOf S W)) (hg : Gl X x) (hdb : (x == ("__debug__" : Str)) = false) (l : LenIs fs n) (ha : PA X (e :: es) (tL S F W fs)) (hs : notStar e = true) (hs2 : es.all notStar = true) :
    PE X (.Call (.Name x p) (e :: es) [] pos) (tE S F W (dCall f fs)) := by
  obtain ⟨k, a, fd, ps, F, hr, hm, hk, hb⟩ := c.ex
  refine PEim (pe_callSD F hr hg hm hk hb .nil (fun σ => passAt tk σ) ha hdb (starEach_cons hs) (backTo_any ?_)) (call_read l)
  have all : ∀ es : List Expr, es.all notStar = true → (starEach es X.env).any (·.1) = false := by
    intro es
    induction es with
    | nil => intro _; rfl
    | cons y ys ih =>
      intro z
      rw [List.all_cons, Bool.and_eq_true] at z
      rw [starEach_cons z.1, List.any_cons, ih z.2]; rfl
  exact all es hs2
theorem ae_call0 {x : Str} {p : Pos} {f : List D → AH → Res D} (c : CallOk X S x 0 f) (tk : Takes X (wxOf S W)) (hg : Gl X x) (hdb : (x == ("__debug__" : Str)) = false) : PE X (.Call (.Name x p) [] [] pos) (tE S F W (dCall f dNil)) := by
  obtain ⟨k, a, fd, ps, F, hr, hm, hk, hb⟩ := c.ex
  refine PEim (pe_callSD0 F hr hg hm hk hb .nil (fun σ => passAt tk σ) hdb) fun σ H Q h => ?_
  obtain ⟨g, OS, env, h, r, q⟩ := call_read lenIs_nil σ H Q h
  exact q [] g H (Stp.refl g H) r.heap .nil
end

/-! ### statements -/
inductive RS where
  | nx (env : Env') (h : AH) | ret (d : D) (h : AH) | exc (c : Nat) (env : Env') (h : AH) | err
abbrev DS := Env' → AH → RS
def tS (S : Sta) (F : Fm) (W : WishX) (f : DS) : TS := fun Dn σ H => ∃ g OS env h, Rel S F g OS env h σ H ∧ match f env h with
  | .nx env' h' => ∀ g' OS' σ' H', Rel S F g' OS' env' h' σ' H' → Dn.nx σ' H'
  | .ret d h' => ∀ v g' H', HeapOk S g' H' h' → Stp F.g0 F.H0 g' H' → Rep S g' d v → Dn.rt v H'
  | .exc c env' h' => ∀ g' OS' σ' H', Rel S F g' OS' env' h' σ' H' → W c σ' H'
  | .err => False
section
variable {S : Sta} {F : Fm} {W : WishX} {X : Cx} {e : Expr} {st : Stmt} {rest : List Stmt} {pos : Pos}
def dNext : DS := fun env h => .nx env h
def dSeq (f k : DS) : DS := fun env h => match f env h with
  | .nx env' h' => k env' h'
  | r => r
theorem as_nil : PSs X [] (tS S F W dNext) := PSsim pss_nil fun D σ H h => by
  obtain ⟨g, OS, env, h, r, q⟩ := h
  exact q g OS σ H r
theorem as_cons {f k : DS} (h1 : PS X st (tS S F W f)) (h2 : PSs X rest (tS S F W k)) : PSs X (st :: rest) (tS S F W (dSeq f k)) := by
  refine PSsim (pss_cons h1 h2) fun D σ H hq => ?_
  obtain ⟨g, OS, env, h, rl, q⟩ := hq
  refine ⟨g, OS, env, h, rl, ?_⟩
  unfold dSeq at q
  cases e1 : f env h with
  | err => rw [e1] at q; exact q
  | exc c env' h1 => rw [e1] at q; exact q
  | ret d h1 => rw [e1] at q; exact q
  | nx env' h1 => rw [e1] at q; exact fun g' OS' σ' H' r => ⟨g', OS', env', h1, r, q⟩
theorem as_pass : PS X (.Pass pos) (tS S F W dNext) := PSim ps_pass fun D σ H h => by
  obtain ⟨g, OS, env, h, r, q⟩ := h
  exact q g OS σ H r
/-- an expression's result used by a statement -/
def exS {α : Type} (r : Res α) (env : Env') (k : α → AH → RS) : RS := match r with
  | .ok a h => k a h
  | .exc c h => .exc c env h
  | .err => .err
@[simp] theorem exS_ok {α : Type} (a : α) (h : AH) (env : Env') (k : α → AH → RS) : exS (.ok a h) env k = k a h := rfl
@[simp] theorem exS_err {α : Type} (env : Env') (k : α → AH → RS) : exS (.err : Res α) env k = .err := rfl
def dRet (f : DE) : DS := fun env h => exS (f env h) env fun e h1 => exS (.lift e.toD h1) env fun d h1 => .ret d h1
theorem as_ret {f : DE} (he : PE X e (tE S F W f)) : PS X (.Return (some e) pos) (tS S F W (dRet f)) := by
  refine PSim (ps_ret he) fun D σ H hq => ?_
  obtain ⟨g, OS, env, h, rl, q⟩ := hq
  refine ⟨g, OS, env, h, rl, ?_⟩
  unfold dRet at q
  cases e1 : f env h with
  | err => rw [e1] at q; exact q
  | exc c h1 => rw [e1] at q; exact fun g1 H1 s1 k1 => q g1 OS σ H1 (rl.step s1 k1)
  | ok x h1 =>
    rw [e1] at q
    simp only [exS_ok] at q
    intro v1 g1 H1 s1 k1 r1
    cases e2 : x.toD with
    | none => rw [e2] at q; exact q.elim
    | some d =>
      rw [e2] at q
      simp only [lift_some, exS_ok] at q
      obtain ⟨g1', s1', k1', r1'⟩ := r1.val e2 s1 k1
      exact q v1 g1' H1 k1' (rl.ent.trans s1') r1'
def dIfS (t : DB) (f k : DS) : DS := fun env h => exS (t env h) env fun b h1 => if b then f env h1 else k env h1
theorem as_if {c : Expr} {a b : List Stmt} {t : DB} {f k : DS} (hc : PT X c (tX S F W t)) (ha : PSs X a (tS S F W f)) (hb : PSs X b (tS S F W k)) : PS X (.If c a b pos) (tS S F W (dIfS t f k)) := by
  refine PSim (ps_if hc ha hb) fun D σ H hq => ?_
  obtain ⟨g, OS, env, h, rl, q⟩ := hq
  refine ⟨g, OS, env, h, rl, ?_⟩
  unfold dIfS at q
  cases e1 : t env h with
  | err => rw [e1] at q; exact q
  | exc c h1 => rw [e1] at q; exact fun g1 H1 s1 k1 => q g1 OS σ H1 (rl.step s1 k1)
  | ok b h1 =>
    rw [e1] at q
    simp only [exS_ok] at q
    intro g1 H1 s1 k1
    cases b with
    | true => rw [if_pos rfl]; exact ⟨g1, OS, env, h1, rl.step s1 k1, q⟩
    | false => rw [if_neg Bool.false_ne_true]; exact ⟨g1, OS, env, h1, rl.step s1 k1, q⟩
/-! ### names set -/
theorem Slots.setVal {g : Gh} {OS : Addr → Option Nat} {env : Env'} {σ : L2.St} {H : Hp} {i : Nat} {d : D} {v : V} (s : Slots S F g OS env σ H) (r : Rep S g d v) : Slots S F g OS (env.set i (some (.val d))) (σ.set i (some v)) H where
  len := by rw [List.length_set, List.length_set]; exact s.len
  os := s.os
  at_ := fun j sl e => by
    by_cases hj : j = i
    · subst hj
      have hl : j < env.length := by
        have := (List.getElem?_eq_some_iff.mp e).1
        rwa [List.length_set] at this
      rw [List.getElem?_set_self hl] at e
      cases e
      exact ⟨v, List.getElem?_set_self (by rw [← s.len]; exact hl), r⟩
    · rw [List.getElem?_set_ne (Ne.symm hj)] at e
      obtain ⟨u, e1, z⟩ := s.at_ j sl e
      exact ⟨u, by rw [List.getElem?_set_ne (Ne.symm hj)]; exact e1, z⟩
theorem Slots.setOwn {g : Gh} {OS : Addr → Option Nat} {env : Env'} {σ : L2.St} {H : Hp} {i : Nat} {ds : List D} {p : Addr} {vs : List V} (s : Slots S F g OS env σ H) (e1 : H p = some (.lst vs)) (r : Reps S g ds vs) (n1 : g.G p = none) (n2 : g.O p = none) (n3 : F.H0 p = none) (n4 : OS p = none) :
    Slots S F g (fun a => if a = p then some i else OS a) (env.set i (some (.own ds))) (σ.set i (some (.ref p))) H where
  len := by rw [List.length_set, List.length_set]; exact s.len
  os := fun a j e => by
    by_cases ha : a = p
    · subst ha; exact ⟨n1, n2, n3, by rw [e1]; simp⟩
    · rw [if_neg ha] at e; exact s.os a j e
  at_ := fun j sl e => by
    by_cases hj : j = i
    · subst hj
      have hl : j < env.length := by
        have := (List.getElem?_eq_some_iff.mp e).1
        rwa [List.length_set] at this
      rw [List.getElem?_set_self hl] at e
      cases e
      exact ⟨.ref p, List.getElem?_set_self (by rw [← s.len]; exact hl), p, vs, rfl, if_pos rfl, e1, r⟩
    · rw [List.getElem?_set_ne (Ne.symm hj)] at e
      obtain ⟨u, e2, z⟩ := s.at_ j sl e
      refine ⟨u, by rw [List.getElem?_set_ne (Ne.symm hj)]; exact e2, ?_⟩
      cases sl with
      | val d => exact z
      | own es =>
        obtain ⟨a, us, z1, z2, z3, z4⟩ := z
        exact ⟨a, us, z1, by show (if a = p then some i else OS a) = some j; rw [if_neg (fun q => by rw [q, n4] at z2; cases z2)]; exact z2, z3, z4⟩
/-- what a slot takes: own: a fresh list is the slot's own -/
def slotOf (own : Bool) : EV → Option Slot
  | .v d => some (.val d)
  | .f ds => some (if own then .own ds else .val (.lst ds))
  | _ => none
def dSet (i : Nat) (own : Bool) (f : DE) : DS := fun env h => exS (f env h) env fun e h1 => exS (.lift (slotOf own e) h1) env fun s h1 => .nx (env.set i (some s)) h1
theorem set_rel {g g1 : Gh} {OS : Addr → Option Nat} {env : Env'} {h h1 : AH} {σ : L2.St} {H H1 : Hp} {own : Bool} {i : Nat} {x : EV} {s : Slot} {v1 : V} (rl : Rel S F g OS env h σ H) (s1 : Stp g H g1 H1) (k1 : HeapOk S g1 H1 h1) (r1 : EvRel S g1 H H1 x v1) (e2 : slotOf own x = some s) :
    ∃ g' OS', Rel S F g' OS' (env.set i (some s)) h1 (σ.set i (some v1)) H1 := by
  have val : ∀ {d : D}, x.toD = some d → s = .val d → ∃ g' OS', Rel S F g' OS' (env.set i (some s)) h1 (σ.set i (some v1)) H1 := fun {d} ed es => by
    obtain ⟨g1', s1', k1', r1'⟩ := r1.val ed s1 k1
    have z := rl.step s1' k1'
    subst es
    exact ⟨g1', OS, z.heap, z.slots.setVal r1', z.ent, z.pin⟩
  cases x with
  | v d => cases e2; exact val rfl rfl
  | f ds =>
    cases own with
    | false => cases e2; exact val rfl rfl
    | true =>
      cases e2
      obtain ⟨p, vs, rfl, e3, r, n1, n2, n3⟩ := r1
      have z := rl.step s1 k1
      have n4 : OS p = none := by
        cases q : OS p with
        | none => rfl
        | some j => exact absurd n3 (rl.slots.os p j q).2.2.2
      have n5 : F.H0 p = none := by
        cases q : F.H0 p with
        | none => rfl
        | some o => exact absurd n3 (rl.ent.dom p (by rw [q]; simp))
      exact ⟨g1, _, z.heap, z.slots.setOwn e3 r n1 n2 n5 n4, z.ent, z.pin⟩
  | b ds => cases e2
  | fb n j => cases e2
theorem set_read {f : DE} {i : Nat} {own : Bool} (D : Ends) (σ : L2.St) (H : Hp) (hq : tS S F W (dSet i own f) D σ H) : tAsg (tE S F W f) (gName i) D σ H := by
  obtain ⟨g, OS, env, h, rl, q⟩ := hq
  refine ⟨g, OS, env, h, rl, ?_⟩
  unfold dSet at q
  cases e1 : f env h with
  | err => rw [e1] at q; exact q
  | exc c h1 => rw [e1] at q; exact fun g1 H1 s1 k1 => q g1 OS σ H1 (rl.step s1 k1)
  | ok x h1 =>
    rw [e1] at q
    simp only [exS_ok] at q
    intro v1 g1 H1 s1 k1 r1
    cases e2 : slotOf own x with
    | none => rw [e2] at q; exact q.elim
    | some s =>
      rw [e2] at q
      simp only [lift_some, exS_ok] at q
      obtain ⟨g', OS', z⟩ := set_rel (i := i) rl s1 k1 r1 e2
      exact q g' OS' _ H1 z
theorem as_set {i : Nat} {x : Str} {pos' : Pos} {f : DE} (own : Bool) (hN : X.N.Nodup) (hi : X.N[i]? = some x) (hx : Loc X.env.scope x) (he : PE X e (tE S F W f)) (hs : swapsWith e (some (.Name x pos')) pos.line X.env = pure false) (hf : X.fn x = true ∨ X.env.scope.names.lookup x = some .local) :
    PS X (.Assign [.Name x pos'] e pos) (tS S F W (dSet i own f)) := PSim (ps_set hN hi hx he hs hf) set_read
/-! ### what a slot owns is frozen -/
def frz1 (i : Nat) (env : Env') : Env' := match env[i]? with
  | some (some (.own ds)) => env.set i (some (.val (.lst ds)))
  | _ => env
theorem Rel.freeze {g : Gh} {OS : Addr → Option Nat} {env : Env'} {h : AH} {σ : L2.St} {H : Hp} (i : Nat) (rl : Rel S F g OS env h σ H) : ∃ g' OS', Rel S F g' OS' (frz1 i env) h σ H := by
  unfold frz1
  split
  · rename_i ds e
    obtain ⟨v, e1, a, vs, rfl, e2, e3, r⟩ := rl.slots.at_ i _ e
    obtain ⟨n1, n2, n3, n4⟩ := rl.slots.os a i e2
    have le : Gle g (g.frz a (.lst vs)) := frz_le n1
    refine ⟨g.frz a (.lst vs), fun x => if x = a then none else OS x, rl.heap.freeze n2 e3 n1, ⟨?_, fun j sl q => ?_, fun x j q => ?_⟩, ⟨rl.ent.keep, fun x q => ?_, rl.ent.ok, rl.ent.dom, rl.ent.pre⟩, F.mono _ _ le rl.pin⟩
    · rw [List.length_set]; exact rl.slots.len
    · have hl : i < env.length := (List.getElem?_eq_some_iff.mp e).1
      by_cases hj : j = i
      · subst hj
        rw [List.getElem?_set_self hl] at q
        cases q
        exact ⟨.ref a, e1, .lst upd_same (r.mono le)⟩
      · rw [List.getElem?_set_ne (Ne.symm hj)] at q
        obtain ⟨u, z1, z⟩ := rl.slots.at_ j sl q
        refine ⟨u, z1, ?_⟩
        cases sl with
        | val d => exact Rep.mono le z
        | own es =>
          obtain ⟨b, us, y1, y2, y3, y4⟩ := z
          refine ⟨b, us, y1, ?_, y3, y4.mono le⟩
          show (if b = a then none else OS b) = some j
          rw [if_neg (fun w => by rw [w, e2] at y2; exact hj (Option.some.inj y2).symm)]
          exact y2
    · have q : (if x = a then none else OS x) = some j := q
      by_cases hx : x = a
      · rw [if_pos hx] at q; cases q
      · rw [if_neg hx] at q
        obtain ⟨m1, m2, m3, m4⟩ := rl.slots.os x j q
        exact ⟨by show upd g.G a _ x = none; rw [upd_ne hx]; exact m1, m2, m3, m4⟩
    · show upd g.G a _ x = _
      rw [upd_ne (fun w : x = a => q (by rw [w]; exact n3))]
      exact rl.ent.gk x q
  · exact ⟨g, OS, rl⟩
def frzs : List Nat → Env' → Env'
  | [], env => env
  | i :: is, env => frzs is (frz1 i env)
theorem Rel.freezes {g : Gh} {OS : Addr → Option Nat} {env : Env'} {h : AH} {σ : L2.St} {H : Hp} : ∀ (is : List Nat) {g : Gh} {OS : Addr → Option Nat} {env : Env'}, Rel S F g OS env h σ H → ∃ g' OS', Rel S F g' OS' (frzs is env) h σ H
  | [], g, OS, env, rl => ⟨g, OS, rl⟩
  | i :: is, g, OS, env, rl => by
    obtain ⟨g', OS', rl'⟩ := rl.freeze i
    exact Rel.freezes (g := g) (OS := OS) (env := env) is rl'
def dFrz (is : List Nat) (f : DS) : DS := fun env h => f (frzs is env) h
theorem as_frz {f : DS} (is : List Nat) (h : PS X st (tS S F W f)) : PS X st (tS S F W (dFrz is f)) := PSim h fun D σ H hq => by
  obtain ⟨g, OS, env, h, rl, q⟩ := hq
  obtain ⟨g', OS', rl'⟩ := Rel.freezes (g := g) (OS := OS) (env := env) is rl
  exact ⟨g', OS', _, h, rl', q⟩
end
end J

/-! lists that a slot owns, or that are mutable objects: append, extend, pop, x[i] = e -/
namespace J
open PySem PySem.Spec PyProof.Rows L2
def getL (i : Nat) (env : Env') (h : AH) : Option (List D) := match env[i]? with
  | some (some (.own ds)) => some ds
  | some (some (.val (.ref n))) => match h[n]? with
    | some (.lst _ ds) => some ds
    | _ => none
  | _ => none
def putE (i : Nat) (ds : List D) (env : Env') : Env' := match env[i]? with
  | some (some (.own _)) => env.set i (some (.own ds))
  | _ => env
def putH (i : Nat) (ds : List D) (env : Env') (h : AH) : AH := match env[i]? with
  | some (some (.val (.ref n))) => h.set n (mkL ds)
  | _ => h
section
variable {S : Sta} {F : Fm} {g : Gh} {OS : Addr → Option Nat} {env : Env'} {h : AH} {σ : L2.St} {H : Hp}
/-- an object's list is changed -/
theorem HeapOk.wrL {n : Nat} {a : Addr} {ds : List D} {vs : List V} (k : HeapOk S g H h) (ho : ∃ p o, h[n]? = some (.lst p o)) (e : g.I[n]? = some a) (r : Reps S g ds vs) (l : vs.length ≤ sizeLine) : HeapOk S g (upd H a (.lst vs)) (h.set n (mkL ds)) := by
  obtain ⟨pp, o, ho⟩ := ho
  obtain ⟨o1, _, us, e1, _⟩ := k.obj n _ a ho e
  have hn : n < h.length := (List.getElem?_eq_some_iff.mp ho).1
  refine ⟨lens_upd k.lens l, fun b u q => ?_, fun b u q => ⟨(k.og b u q).1, upd_dom (k.og b u q).2⟩, by rw [List.length_set]; exact k.len, k.inj, fun b m j q => ?_, fun m ob b q1 q2 => ?_⟩
  · rw [upd_ne (fun z => by rw [z] at q; rw [(k.og a _ o1).1] at q; cases q)]; exact k.sub b u q
  · obtain ⟨x, z1, z2⟩ := k.bnd b m j q
    by_cases hm : m = n
    · subst hm
      rw [ho] at z1; cases z1
      exact ⟨_, List.getElem?_set_self hn, z2⟩
    · exact ⟨x, by rw [List.getElem?_set_ne (Ne.symm hm)]; exact z1, z2⟩
  · by_cases hm : m = n
    · subst hm
      rw [List.getElem?_set_self hn] at q1
      cases q1
      rw [e] at q2
      cases q2
      exact ⟨o1, fun z => z, vs, upd_same, r⟩
    · rw [List.getElem?_set_ne (Ne.symm hm)] at q1
      exact (k.obj m ob b q1 q2).keep (Gle.refl g) m (fun _ _ z => z) fun c j u z1 z2 => by
        rw [upd_ne (fun z => by rw [z, o1] at z1; cases z1; exact hm rfl)]; exact z2
theorem lv_rel {i : Nat} {ds : List D} (rl : Rel S F g OS env h σ H) (e : getL i env h = some ds) : ∃ a vs, σ[i]? = some (some (.ref a)) ∧ H a = some (.lst vs) ∧ Reps S g ds vs ∧
    ∀ ds' vs', Reps S g ds' vs' → vs'.length ≤ sizeLine → Rel S F g OS (putE i ds' env) (putH i ds' env h) σ (upd H a (.lst vs')) := by
  unfold getL at e
  split at e
  · rename_i es q
    cases e
    obtain ⟨v, e1, a, vs, rfl, e2, e3, r⟩ := rl.slots.at_ i _ q
    obtain ⟨n1, n2, n3, n4⟩ := rl.slots.os a i e2
    refine ⟨a, vs, e1, e3, r, fun ds' vs' r' l => ?_⟩
    have hE : putE i ds' env = env.set i (some (.own ds')) := by unfold putE; rw [q]
    have hH : putH i ds' env h = h := by unfold putH; rw [q]
    rw [hE, hH]
    have hl : i < env.length := (List.getElem?_eq_some_iff.mp q).1
    refine ⟨rl.heap.wrT n1 n2 l, ⟨by rw [List.length_set]; exact rl.slots.len, fun j sl z => ?_, fun x j z => ?_⟩, ⟨fun x o z1 z2 => ?_, rl.ent.gk, rl.ent.ok, fun x z => upd_dom (rl.ent.dom x z), rl.ent.pre⟩, rl.pin⟩
    · by_cases hj : j = i
      · subst hj
        rw [List.getElem?_set_self hl] at z
        cases z
        exact ⟨.ref a, e1, a, vs', rfl, e2, upd_same, r'⟩
      · rw [List.getElem?_set_ne (Ne.symm hj)] at z
        obtain ⟨u, z1, z2⟩ := rl.slots.at_ j sl z
        refine ⟨u, z1, ?_⟩
        cases sl with
        | val d => exact z2
        | own es' =>
          obtain ⟨b, us, y1, y2, y3, y4⟩ := z2
          exact ⟨b, us, y1, y2, by rw [upd_ne (fun w => by rw [w, e2] at y2; exact hj (Option.some.inj y2).symm)]; exact y3, y4⟩
    · obtain ⟨m1, m2, m3, m4⟩ := rl.slots.os x j z
      exact ⟨m1, m2, m3, upd_dom m4⟩
    · rw [upd_ne (fun w : x = a => by rw [w, n3] at z1; cases z1)]; exact rl.ent.keep x o z1 z2
  · rename_i n q
    split at e
    · rename_i pp es q2
      cases e
      obtain ⟨v, e1, r0⟩ := rl.slots.at_ i _ q
      cases r0 with
      | ref r1 =>
        rename_i a
        obtain ⟨o1, _, us, e2, r⟩ := rl.heap.obj n _ a q2 r1
        have n0 : F.H0 a = none ∨ F.g0.O a ≠ none := by
          cases z : F.H0 a with
          | none => exact .inl rfl
          | some u => exact .inr (fun w => by rw [rl.ent.ok a (by rw [z]; simp), w] at o1; cases o1)
        refine ⟨a, us, e1, e2, r, fun ds' vs' r' l => ?_⟩
        have hE : putE i ds' env = env := by unfold putE; rw [q]
        have hH : putH i ds' env h = h.set n (mkL ds') := by unfold putH; rw [q]
        rw [hE, hH]
        refine ⟨rl.heap.wrL ⟨_, _, q2⟩ r1 r' l, ⟨rl.slots.len, fun j sl z => ?_, fun x j z => ?_⟩, ⟨fun x o z1 z2 => ?_, rl.ent.gk, rl.ent.ok, fun x z => upd_dom (rl.ent.dom x z), rl.ent.pre⟩, rl.pin⟩
        · obtain ⟨u, z1, z2⟩ := rl.slots.at_ j sl z
          refine ⟨u, z1, ?_⟩
          cases sl with
          | val d => exact z2
          | own es' =>
            obtain ⟨b, ws, y1, y2, y3, y4⟩ := z2
            exact ⟨b, ws, y1, y2, by rw [upd_ne (fun w => by rw [w] at y2; rw [(rl.slots.os a j y2).2.1] at o1; cases o1)]; exact y3, y4⟩
        · obtain ⟨m1, m2, m3, m4⟩ := rl.slots.os x j z
          exact ⟨m1, m2, m3, upd_dom m4⟩
        · rw [upd_ne (fun w : x = a => by
            rw [w] at z1 z2
            rcases n0 with n0 | n0
            · rw [n0] at z1; cases z1
            · exact n0 z2)]
          exact rl.ent.keep x o z1 z2
    · cases e
  · cases e
end
section
variable {S : Sta} {F : Fm} {W : WishX} {X : Cx} {e : Expr} {pos p0 apos cpos : Pos} {x : Str} {i : Nat}
/-- a method of the list in slot i, with one argument: k: from the items and the argument to the new items -/
def dMeth1 (i : Nat) (f : DE) (k : AH → List D → EV → Option (List D)) : DS := fun env h => match getL i env h with
  | none => .err
  | some _ => exS (f env h) env fun ev h1 => match getL i env h1 with
    | none => .err
    | some ds => match k h1 ds ev with
      | none => .err
      | some ds' => .nx (putE i ds' env) (putH i ds' env h1)
def Me1Ok (S : Sta) (r : V → List V → Hp → VK → Prop) (k : AH → List D → EV → Option (List D)) : Prop := ∀ (g : Gh) (H0 H1 : Hp) (h : AH) (a : Addr) (vs : List V) (ds ds' : List D) (ev : EV) (v1 : V) (Q : Hp → Prop), HeapOk S g H1 h → H1 a = some (.lst vs) → Reps S g ds vs → EvRel S g H0 H1 ev v1 → (∀ b, H0 b ≠ none → H1 b ≠ none) → H0 a ≠ none →
  k h ds ev = some ds' → (∀ g' vs', (∀ b, H0 b ≠ none → g'.G b = g.G b) → g'.O = g.O → g'.I = g.I → HeapOk S g' H1 h → Reps S g' ds' vs' → vs'.length ≤ sizeLine → Q (upd H1 a (.lst vs'))) → r (.ref a) [v1] H1 (fun _ H' => Q H')
theorem meth1_read {r : V → List V → Hp → VK → Prop} {k : AH → List D → EV → Option (List D)} {f : DE} (hk : Me1Ok S r k) (D : Ends) (σ : L2.St) (H : Hp) (hq : tS S F W (dMeth1 i f k) D σ H) : tDrop (tBM X.K "list" r (tVar i) (tCons (tE S F W f) tNil)) D σ H := by
  obtain ⟨g, OS, env, h, rl, q⟩ := hq
  unfold dMeth1 at q
  cases e0 : getL i env h with
  | none => rw [e0] at q; exact q.elim
  | some ds0 =>
    rw [e0] at q
    simp only at q
    obtain ⟨a, vs, z1, z2, z3, _⟩ := lv_rel rl e0
    refine ⟨.ref a, z1, .inl ⟨rfl, vs, .inl (.inl z2)⟩, g, OS, env, h, rl, ?_⟩
    cases e1 : f env h with
    | err => rw [e1] at q; exact q
    | exc c h1 => rw [e1] at q; exact fun g1 H1 s1 k1 => q g1 OS σ H1 (rl.step s1 k1)
    | ok ev h1 =>
      rw [e1] at q
      simp only [exS_ok] at q
      intro v1 g1 H1 s1 k1 r1
      have rl1 := rl.step s1 k1
      cases e2 : getL i env h1 with
      | none => rw [e2] at q; exact q.elim
      | some ds =>
        rw [e2] at q
        simp only at q
        obtain ⟨a', vs1, y1, y2, y3, y4⟩ := lv_rel rl1 e2
        have ea : a' = a := by
          rw [z1] at y1
          exact (V.ref.inj (Option.some.inj (Option.some.inj y1))).symm
        subst ea
        cases e3 : k h1 ds ev with
        | none => rw [e3] at q; exact q.elim
        | some ds' =>
          rw [e3] at q
          refine hk g1 H H1 h1 a' vs1 ds ds' ev v1 (fun H' => D.nx σ H') k1 y2 y3 r1 s1.dom (by rw [z2]; simp) e3 fun g' vs' m1 m2 m3 m4 m5 m6 => ?_
          -- the ghost may have grown by what was frozen
          have s1' : Stp g H g' H1 := ⟨s1.keep, fun b hb => (m1 b hb).trans (s1.gk b hb), fun b hb => by rw [m2]; exact s1.ok b hb, s1.dom, fun n b hb => by rw [m3]; exact s1.pre n b hb⟩
          obtain ⟨a2, vs2, w1, w2, w3, w4⟩ := lv_rel (rl.step s1' m4) e2
          have ea : a2 = a' := by
            rw [z1] at w1
            exact (V.ref.inj (Option.some.inj (Option.some.inj w1))).symm
          subst ea
          exact q g' OS σ _ (w4 ds' vs' m5 m6)
theorem as_meth1 {r : V → List V → Hp → VK → Prop} {k : AH → List D → EV → Option (List D)} {f : DE} {name : Str} {id : String} (hk : Me1Ok S r k) (pa : PlainAttrs "list") (slot : PySem.Slot "list" name id) (hty : typeOf (.builtin id) = pure (.type "method_descriptor")) (hm : MtR X id r)
    (hN : X.N[i]? = some x) (hv : Vis X.env.scope x) (hd : (x == ("__debug__" : Str)) = false) (hcd : (x == ("__classdict__" : Str)) = false) (he : PE X e (tE S F W f)) (hs : notStar e = true) (hline : (apos.endLine == cpos.line) = true) :
    PS X (.Expr (.Call (.Attribute (.Name x p0) name apos) [e] [] cpos) pos) (tS S F W (dMeth1 i f k)) := by
  refine PSim (ps_expr (pe_bm pa slot hty hm (pe_var hN hv hd hcd) (pa1 he hs) rfl ?_ hline (starEach_cons hs) rfl) rfl) (meth1_read hk)
  rw [starEach_cons hs]; rfl
theorem EvRel.val' {g : Gh} {H0 H : Hp} {h : AH} {ev : EV} {v : V} {d : D} (e : EvRel S g H0 H ev v) (t : ev.toD = some d) (k : HeapOk S g H h) : ∃ g', (∀ b, H0 b ≠ none → g'.G b = g.G b) ∧ g'.O = g.O ∧ g'.I = g.I ∧ HeapOk S g' H h ∧ Gle g g' ∧ Rep S g' d v := by
  cases ev with
  | v x => cases t; exact ⟨g, fun _ _ => rfl, rfl, rfl, k, Gle.refl g, e⟩
  | f ds =>
    cases t
    obtain ⟨p, vs, rfl, e2, r, n1, n2, n3⟩ := e
    refine ⟨g.frz p (.lst vs), fun b hb => ?_, rfl, rfl, k.freeze n2 e2 n1, frz_le n1, ?_⟩
    · show upd g.G p _ b = _
      rw [upd_ne (ne_dom n3 hb)]
    · exact .lst upd_same (r.mono (frz_le n1))
  | b ds => cases t
  | fb n j => cases t
def appK : AH → List D → EV → Option (List D) := fun _ ds ev => match ev.toD with
  | some d => if ds.length < sizeLine then some (ds ++ [d]) else none
  | none => none
theorem ok_app : Me1Ok S rAppend appK := by
  intro g H0 H1 h a vs ds ds' ev v1 Q hk e1 r rv hd h0 e q
  unfold appK at e
  split at e
  · rename_i d ed
    split at e
    · rename_i hl
      cases e
      obtain ⟨g', m1, m2, m3, m4, le, r'⟩ := rv.val' ed hk
      have hl' : vs.length < sizeLine := by rw [← r.length]; exact hl
      exact ⟨a, vs, v1, rfl, rfl, e1, hl', q g' _ m1 m2 m3 m4 ((r.mono le).append (.one r')) (by rw [List.length_append, List.length_singleton]; omega)⟩
    · cases e
  · cases e
def extK : AH → List D → EV → Option (List D) := fun h ds ev => match seqOf h ev with
  | some (.l, es) => if ds.length + es.length ≤ sizeLine then some (ds ++ es) else none
  | _ => none
theorem ok_ext : Me1Ok S rExtend extK := by
  intro g H0 H1 h a vs ds ds' ev v1 Q hk e1 r rv hd h0 e q
  unfold extK at e
  split at e
  · rename_i es hs
    split at e
    · rename_i hl
      cases e
      obtain ⟨b, us, rfl, s1, r1⟩ := seq_rel hk rv hs
      have hl' : vs.length + us.length ≤ sizeLine := by rw [← r.length, ← r1.length]; exact hl
      exact ⟨a, b, vs, us, rfl, rfl, e1, s1, hl', q g _ (fun _ _ => rfl) rfl rfl hk (r.append r1) (by rw [List.length_append]; exact hl')⟩
    · cases e
  · cases e
theorem Reps.erase {g : Gh} : ∀ {ds : List D} {vs : List V}, Reps S g ds vs → ∀ n, Reps S g (ds.eraseIdx n) (vs.eraseIdx n)
  | _, _, .nil, _ => by simpa using Reps.nil
  | _, _, .cons a b, 0 => by simpa using b
  | _, _, .cons a b, n + 1 => by simpa using Reps.cons a (Reps.erase b n)
def popK : AH → List D → EV → Option (List D) := fun _ ds ev => match ev with
  | .v (.int i) => match L2.ixN ds.length i with
    | some j => some (ds.eraseIdx j)
    | none => none
  | _ => none
theorem ok_pop : Me1Ok S rPopAt popK := by
  intro g H0 H1 h a vs ds ds' ev v1 Q hk e1 r rv hd h0 e q
  unfold popK at e
  split at e
  · rename_i i
    split at e
    · rename_i j hj
      cases e
      rw [r.length] at hj
      obtain ⟨z1, z2, z3, z4⟩ := ixN_seq hj
      have hl := hk.lens a _ e1
      have hl : vs.length ≤ sizeLine := hl
      have hz := line63
      rw [rep_int rv]
      refine ⟨a, vs, i, j, vs[j], rfl, rfl, e1, by omega, by omega, z1, List.getElem?_eq_getElem z2, q g _ (fun _ _ => rfl) rfl rfl hk (r.erase j) ?_⟩
      have := List.length_eraseIdx_le (l := vs) (i := j)
      omega
    · cases e
  · cases e
/-! ### x[i] = e -/
def ixD (iv : EV) (n : Nat) : Option Nat := match iv with
  | .v (.int k) => L2.ixN n k
  | _ => none
def dSetIx (i : Nat) (f fi : DE) : DS := fun env h => exS (f env h) env fun ev h1 => exS (.lift ev.toD h1) env fun d h1 => match getL i env h1 with
  | none => .err
  | some _ => exS (fi env h1) env fun iv h2 => match getL i env h2 with
    | none => .err
    | some ds => match ixD iv ds.length with
      | some j => .nx (putE i (ds.set j d) env) (putH i (ds.set j d) env h2)
      | none => .err
theorem as_setix {ix : Expr} {tpos : Pos} {f fi : DE} (hN : X.N[i]? = some x) (hv : Vis X.env.scope x) (hd : (x == ("__debug__" : Str)) = false) (hcd : (x == ("__classdict__" : Str)) = false) (he : PE X e (tE S F W f)) (hi : PE X ix (tE S F W fi))
    (hs : swapsWithSole [.Subscript (.Name x p0) ix tpos] e pos.line X.env = pure false) (ha : ∀ v, assign (.Subscript (.Name x p0) ix tpos) X.env v = (do
      let ov ← holding [v] (eval (.Name x p0) X.env)
      let iv ← holding [v, ov] (eval ix X.env)
      standAt tpos
      holding [v, ov, iv] (setItem ov iv v)
      release [v, ov, iv] [])) : PS X (.Assign [.Subscript (.Name x p0) ix tpos] e pos) (tS S F W (dSetIx i f fi)) := by
  refine PSim (ps_asg he (pg_sub (pe_var (i := i) hN hv hd hcd) hi set_list ha) hs rfl rfl) fun Dn σ H hq => ?_
  obtain ⟨g, OS, env, h, rl, q⟩ := hq
  refine ⟨g, OS, env, h, rl, ?_⟩
  unfold dSetIx at q
  cases e1 : f env h with
  | err => rw [e1] at q; exact q
  | exc c h1 => rw [e1] at q; exact fun g1 H1 s1 k1 => q g1 OS σ H1 (rl.step s1 k1)
  | ok ev h1 =>
    rw [e1] at q
    simp only [exS_ok] at q
    intro v1 g1 H1 s1 k1 r1
    cases e2 : ev.toD with
    | none => rw [e2] at q; exact q.elim
    | some d =>
      rw [e2] at q
      simp only [lift_some, exS_ok] at q
      obtain ⟨g1', s1', k1', r1'⟩ := r1.val e2 s1 k1
      have rl1 := rl.step s1' k1'
      cases e0 : getL i env h1 with
      | none => rw [e0] at q; exact q.elim
      | some ds0 =>
        rw [e0] at q
        simp only at q
        obtain ⟨a, vs0, z1, _, _, _⟩ := lv_rel rl1 e0
        refine ⟨.ref a, z1, g1', OS, env, h1, rl1, ?_⟩
        cases e3 : fi env h1 with
        | err => rw [e3] at q; exact q
        | exc c h2 => rw [e3] at q; exact fun g2 H2 s2 k2 => q g2 OS σ H2 (rl1.step s2 k2)
        | ok iv h2 =>
          rw [e3] at q
          simp only [exS_ok] at q
          intro v2 g2 H2 s2 k2 r2
          have rl2 := rl1.step s2 k2
          cases e4 : getL i env h2 with
          | none => rw [e4] at q; exact q.elim
          | some ds =>
            rw [e4] at q
            simp only at q
            obtain ⟨a', vs, y1, y2, y3, y4⟩ := lv_rel rl2 e4
            have ea : a' = a := by
              rw [z1] at y1
              exact (V.ref.inj (Option.some.inj (Option.some.inj y1))).symm
            subst ea
            cases e5 : ixD iv ds.length with
            | none => rw [e5] at q; exact q.elim
            | some j =>
              rw [e5] at q
              simp only at q
              unfold ixD at e5
              split at e5
              · rename_i k
                rw [rep_int r2]
                rw [y3.length] at e5
                have hl : vs.length ≤ sizeLine := rl2.heap.lens a' _ y2
                exact ⟨a', vs, k, j, rfl, rfl, y2, e5, q g2 OS σ _ (y4 _ _ (y3.set j (r1'.mono (s2.le k1'))) (by rw [List.length_set]; exact hl))⟩
              · cases e5
end
end J

/-! zip and enumerate over lists and tuples in any mixture -/
namespace J
open PySem PySem.Spec PyProof.Rows L2
/-- k: a list (true) or a tuple -/
def SqIt (k : Bool) (h : Heap) (it l : Addr) (i : Nat) : Prop := match k with
  | true => h.IsListIter it l i
  | false => h.IsTupleIter it l i
def SqIs (k : Bool) (h : Heap) (l : Addr) (items : Array Value) : Prop := match k with
  | true => h.IsList l items
  | false => h.IsTuple l items
def Sq (k : Bool) (K : PySem.W.Frag) (H : Hp) (a : Addr) (xs : List V) : Prop := match k with
  | true => SqL K H a xs
  | false => SqT K H a xs
def itO (k : Bool) (l : Addr) : Obj := match k with
  | true => { cls := .type "list_iterator", data := .fields #[.ref l, .int 0 0] }
  | false => { cls := .type "tuple_iterator", data := .fields #[.ref l, .int 0 0] }
theorem SqIt.keep {k : Bool} {h h' : Heap} {it l : Addr} {i : Nat} (x : SqIt k h it l i) (hk : ∀ o, h.get? it = some o → h'.get? it = some o) : SqIt k h' it l i := by
  cases k with
  | true => exact Heap.IsListIter.at x hk
  | false => exact Heap.IsTupleIter.at x hk
theorem SqIt.obj {k : Bool} {h : Heap} {it l : Addr} {i : Nat} (x : SqIt k h it l i) : ∃ o, h.get? it = some o ∧ ∀ v, o.data ≠ .cell v := by
  cases k with
  | true => obtain ⟨o, e, _, d⟩ := x; exact ⟨o, e, fun v z => by rw [d] at z; cases z⟩
  | false => obtain ⟨o, e, _, d⟩ := x; exact ⟨o, e, fun v z => by rw [d] at z; cases z⟩
theorem drawsK {prog : Program} {w : World} {A : Around} (k : Bool) (hh : A.handled = none) (it l : Addr) (hne : l ≠ it) (items : Array Value) :
    Draws prog w A it [it, l] items.size (fun i v => items[i]? = some v) (fun i h => SqIt k h it l i ∧ SqIs k h l items) := by
  cases k with
  | true => exact Draws.list hh it l hne items
  | false => exact Draws.tuple hh it l hne items
theorem beginsK (k : Bool) (l : Addr) (items : Array Value) : Begins (.ref l) (itO k l) fun h => SqIs k h l items := by
  cases k with
  | true => exact begins_list l items
  | false => exact begins_tuple l items
theorem itO_at {k : Bool} {h : Heap} {it l : Addr} (e : h.get? it = some (itO k l)) : SqIt k h it l 0 := by
  cases k with
  | true => exact ⟨_, e, rfl, rfl⟩
  | false => exact ⟨_, e, rfl, rfl⟩
section
variable {X : Cx} {pins : List (Addr × Obj)} {σ : L2.St} {H : Hp} {s : Shared}
theorem sq_is {k : Bool} {a : Addr} {xs : List V} (I : Inv X pins σ H s) (h : Sq k X.K H a xs) : ∃ its : List Value, Vals xs its ∧ SqIs k s.heap a its.toArray ∧ a < s.heap.objs.size := by
  cases k with
  | true =>
    obtain ⟨its, r, p, _⟩ := I.list h
    exact ⟨its, r, p.isList, p.lt⟩
  | false =>
    obtain ⟨its, r, p, _⟩ := I.tuple h
    exact ⟨its, r, p, p.lt⟩
theorem sq_inj {k : Bool} {a : Addr} {xs ys : List V} (I : Inv X pins σ H s) (h : Sq k X.K H a xs) (h' : Sq k X.K H a ys) : xs = ys := by
  cases k with
  | true => exact I.list_inj h h'
  | false => exact I.tuple_inj h h'
end
def ItZ (k1 k2 : Bool) (K : PySem.W.Frag) (a b : Addr) : It :=
  ⟨fun i H => ∃ (xs ys : List V) (x y : V), Sq k1 K H a xs ∧ Sq k2 K H b ys ∧ xs[i]? = some x ∧ ys[i]? = some y,
    fun i H v H' => ∃ T x y, v = .ref T ∧ H T = none ∧ H' = upd H T (.tup [x, y]) ∧ (∀ xs, Sq k1 K H a xs → xs[i]? = some x) ∧ ∀ ys, Sq k2 K H b ys → ys[i]? = some y,
    fun i H => ∃ xs ys : List V, Sq k1 K H a xs ∧ Sq k2 K H b ys ∧ i = min xs.length ys.length⟩
/-- the records of a zip lie apart -/
structure ZAp (z TI TO i1 i2 a b : Addr) : Prop where
  sep : ZipSep2 z TI TO i1 i2 [i1, a] [i2, b]
  ai : a ≠ i1
  bi : b ≠ i2
theorem turnZ {P : Program} {w : World} {K : PySem.W.Frag} {elts : List Expr} {kk : Nat} {tpos : Pos} {a b z TI TO i1 i2 : Addr} (k1 k2 : Bool) (D : ZAp z TI TO i1 i2 a b) :
    Turn P w K (.Tuple elts kk tpos) (ItZ k1 k2 K a b) [z, TI, TO, i1, i2] z (fun i h => IsZip h z TI TO .none ∧ IsTupOf2 h TI (.ref i1) (.ref i2) ∧ (∃ x y, IsTupOf2 h TO x y) ∧ SqIt k1 h i1 a i ∧ SqIt k2 h i2 b i) where
  mem := List.mem_cons_self
  obj := fun i h st c hc => by
    obtain ⟨hz, hTI, ⟨x, y, hTO⟩, h1, h2⟩ := st
    simp only [List.mem_cons, List.not_mem_nil, or_false] at hc
    rcases hc with rfl | rfl | rfl | rfl | rfl
    · exact ⟨_, hz, fun v q => nomatch q⟩
    · exact ⟨_, hTI, fun v q => nomatch q⟩
    · exact ⟨_, hTO, fun v q => nomatch q⟩
    · exact h1.obj
    · exact h2.obj
  keep := fun i h h' st k => by
    obtain ⟨hz, hTI, ⟨x, y, hTO⟩, h1, h2⟩ := st
    exact ⟨k z (by simp) _ hz, k TI (by simp) _ hTI, ⟨x, y, k TO (by simp) _ hTO⟩, h1.keep fun o q => k i1 (by simp) o q, h2.keep fun o q => k i2 (by simp) o q⟩
  item := by
    intro X hP hw hK hc i pins s σ H E I hf st hg
    subst hP hw hK
    obtain ⟨hz, hTI, hTO, h1, h2⟩ := st
    obtain ⟨xs, ys, x, y, hqx, hqy, hx, hy⟩ := hg
    obtain ⟨its, rv, p, _⟩ := sq_is I hqx
    obtain ⟨its2, rv2, p2, _⟩ := sq_is I hqy
    obtain ⟨u, hu, ru⟩ := rv.get hx
    obtain ⟨u2, hu2, ru2⟩ := rv2.get hy
    have hh : X.A.handled = none := I.ok.hd hc
    have W := GoesN.zip2 (prog := X.prog) (w := X.w) (A := X.A) (elts := elts) (x1 := kk) (pos := tpos) D.sep (drawsK (A := X.A.in1) k1 hh i1 a D.ai its.toArray) (drawsK (A := X.A.in1) k2 hh i2 b D.bi its2.toArray)
    have l1 : i < its.toArray.size := by
      have := (List.getElem?_eq_some_iff.mp hu).1
      simpa using this
    have l2 : i < its2.toArray.size := by
      have := (List.getElem?_eq_some_iff.mp hu2).1
      simpa using this
    have lt : ∀ c ∈ [z, TI, TO, i1, i2], c < s.heap.objs.size := fun c hc => by
      simp only [List.mem_cons, List.not_mem_nil, or_false] at hc
      rcases hc with rfl | rfl | rfl | rfl | rfl
      · exact Heap.lt_size hz
      · exact Heap.lt_size hTI
      · obtain ⟨_, _, e⟩ := hTO; exact Heap.lt_size e
      · obtain ⟨o, e, _⟩ := h1.obj; exact Heap.lt_size e
      · obtain ⟨o, e, _⟩ := h2.obj; exact Heap.lt_size e
    refine wpAny_mono (W.goes i s (fun v s2 => ∃ x H', Inv X pins σ H' s2 ∧ RelV x v ∧ (ItZ k1 k2 X.K a b).yld i H x H' ∧ (IsZip s2.heap z TI TO .none ∧ IsTupOf2 s2.heap TI (.ref i1) (.ref i2) ∧ (∃ x y, IsTupOf2 s2.heap TO x y) ∧ SqIt k1 s2.heap i1 a (i + 1) ∧ SqIt k2 s2.heap i2 b (i + 1)) ∧ ∀ c ∈ [z, TI, TO, i1, i2], H' c = none) E (Nat.lt_min.mpr ⟨l1, l2⟩) ⟨hz, hTI, hTO, ⟨h1, p⟩, ⟨h2, p2⟩⟩ fun v h' tk hY st' hk htk => ?_) (fun r s1 h1 => h1) fun _ _ e => e
    obtain ⟨T, w1, w2, rfl, hT, hw1, hw2, hTT⟩ := hY
    have e1 : w1 = u := by
      have q : its.toArray[i]? = some u := by simpa using hu
      rw [hw1] at q; exact Option.some.inj q
    have e2 : w2 = u2 := by
      have q : its2.toArray[i]? = some u2 := by simpa using hu2
      rw [hw2] at q; exact Option.some.inj q
    subst e1 e2
    have nT : H T = none := I.hok.fresh hT
    obtain ⟨oT, hoT, hcT, nn, hdT⟩ := hTT
    have I1 : Inv X pins σ (upd H T (.tup [x, y])) { s with heap := h', toks := tk } :=
      I.turnedNew (t' := tk) (ch := [z, TI, TO, i1, i2]) (fun c o hb q => hk c o (fun hm => hb (by
        simp only [List.mem_cons, List.not_mem_nil, or_false] at hm ⊢
        rcases hm with h | h | h | h <;> simp [h])) q) hf hT ⟨by show 2 ≤ sizeLine; decide, [w1, w2], .cons ru (.cons ru2 .nil), ⟨oT, hoT, hcT, nn, hdT⟩⟩
    obtain ⟨a1, a2, a3, ⟨a4, _⟩, ⟨a5, _⟩⟩ := st'
    refine ⟨.ref T, _, I1, rfl, ⟨T, x, y, rfl, nT, rfl, fun l hl => by rw [sq_inj I hl hqx]; exact hx, fun l hl => by rw [sq_inj I hl hqy]; exact hy⟩, ⟨a1, a2, a3, a4, a5⟩, fun c hcm => ?_⟩
    rw [upd_ne (Nat.ne_of_lt (Nat.lt_of_lt_of_le (lt c hcm) hT))]
    exact (hf c hcm).1
  done := by
    intro X hP hw hK hc i pins s σ H E I hf st hg
    subst hP hw hK
    obtain ⟨hz, hTI, hTO, h1, h2⟩ := st
    obtain ⟨xs, ys, hqx, hqy, hend⟩ := hg
    obtain ⟨its, rv, p, _⟩ := sq_is I hqx
    obtain ⟨its2, rv2, p2, _⟩ := sq_is I hqy
    have hh : X.A.handled = none := I.ok.hd hc
    have W := GoesN.zip2 (prog := X.prog) (w := X.w) (A := X.A) (elts := elts) (x1 := kk) (pos := tpos) D.sep (drawsK (A := X.A.in1) k1 hh i1 a D.ai its.toArray) (drawsK (A := X.A.in1) k2 hh i2 b D.bi its2.toArray)
    have e : i = min its.toArray.size its2.toArray.size := by
      rw [hend, rv.length, rv2.length, List.size_toArray, List.size_toArray]
    subst e
    refine W.stops s (fun s1 => Inv X pins σ H s1) E ⟨hz, hTI, hTO, ⟨h1, p⟩, ⟨h2, p2⟩⟩ fun h' tk hk htk => ?_
    exact I.turnedL (t' := tk) (ch := [z, TI, TO, i1, i2]) (fun c o hb q => hk c o (fun hm => hb (by
        simp only [List.mem_cons, List.not_mem_nil, or_false] at hm ⊢
        rcases hm with h | h | h | h <;> simp [h])) q) hf
  self := fun A i s Q E st h => wpAny_pyIter_zip st.1 h
/-! ### zip(e, e2) -/
def iZ (K : PySem.W.Frag) (ta : TA) : TI := fun σ H R => ta σ H fun vs H1 => ∃ k1 k2 a b xs ys, vs = [.ref a, .ref b] ∧ Sq k1 K H1 a xs ∧ Sq k2 K H1 b ys ∧ R (ItZ k1 k2 K a b) H1
theorem zAp_new {N a b : Addr} (ha : a < N) (hb : b < N) : ZAp (N + 4) (N + 2) (N + 3) N (N + 1) a b :=
  ⟨zip_sep2 (fun c hc => by rw [List.mem_singleton.mp hc]; exact ha) (fun c hc => by rw [List.mem_singleton.mp hc]; exact hb), Nat.ne_of_lt ha, Nat.ne_of_lt (Nat.lt_succ_of_lt hb)⟩
theorem piZ {X : Cx} {e e2 : Expr} {ta : TA} {p pos tpos : Pos} {elts : List Expr} {kk : Nat} (hg : Gl X "zip") (hm : X.mg "zip" = none) (ha : PA X [e, e2] ta) (hs : notStar e = true) (hs2 : notStar e2 = true) :
    PI X (.Tuple elts kk tpos) (.Call (.Name "zip" p) [e, e2] [] pos) (iZ X.K ta) := by
  refine ⟨fun pins s σ H R I h => ?_⟩
  refine Call_ (ld_blt I hg hm PyProof.Rows.boot_zip (PyProof.Rows.callWith_type1 (thn (ha.run pos pins s σ H _ I h) fun us s1 ⟨vs, H1, I1, r1, q1⟩ => ?_) (starEach_cons hs) (backTo_any (by rw [starEach_cons hs2]; rfl))))
  obtain ⟨k1, k2, a, b, xs, ys, ex, hqx, hqy, q⟩ := q1
  subst ex
  cases r1 with
  | cons r rr =>
    cases rr with
    | cons r' rr =>
      cases rr
      cases r
      cases r'
      obtain ⟨its, rv, p1, la⟩ := sq_is I1 hqx
      obtain ⟨its2, rv2, p2, lb⟩ := sq_is I1 hqy
      refine zip_begins2 (beginsK k1 a its.toArray) (beginsK k2 b its2.toArray) p1 p2 fun h' hz hTI hTO h1 h2 hsz hk => wpAny_pyIter_zip hz ?_
      refine ⟨s1.heap.objs.size + 4, [s1.heap.objs.size + 4, s1.heap.objs.size + 2, s1.heap.objs.size + 3, s1.heap.objs.size, s1.heap.objs.size + 1], _, _, H1, rfl, I1.kept (t' := s1.toks) hk, turnZ k1 k2 (zAp_new la lb), ⟨hz, hTI, ⟨_, _, hTO⟩, itO_at h1, itO_at h2⟩, fun c hcm => ?_, q⟩
      have hle : s1.heap.objs.size ≤ c := by
        simp only [List.mem_cons, List.not_mem_nil, or_false] at hcm
        rcases hcm with rfl | rfl | rfl | rfl | rfl
        · exact Nat.le_add_right _ 4
        · exact Nat.le_add_right _ 2
        · exact Nat.le_add_right _ 3
        · exact Nat.le_refl _
        · exact Nat.le_add_right _ 1
      exact I1.fpOk hle (I1.hok.fresh hle)
/-! ### enumerate(e) -/
set_option maxHeartbeats 1000000 in
theorem meets_enum1 {v : Value} {o : Obj} {H : Heap → Prop} (B : Begins v o H) :
    Meets (Builtin.«enumerate.__new__» ⟨[.type "enumerate", v], []⟩) (fun _ R s => H s.heap ∧
      R (.ok (.ret (.ref (s.heap.push o).objs.size))) { s with heap := (s.heap.push o).push { cls := .type "enumerate", data := .fields #[.none, .bool false, .ref s.heap.objs.size, rawInt 0, .none, .none] } }) :=
  .of_wp fun prog w A R s h => by
    obtain ⟨hp, g, d, tk, os⟩ := s; obtain ⟨h1, h⟩ := h
    have hsub := sub_enumerate
    have it : ∀ {A' : Around} {E : Value → Shared → Prop} {Q : Value → Shared → Prop}, Q (.ref hp.objs.size) ⟨hp.push o, g, d, tk, os⟩ → wpAny (model prog w) A' (pyIter v) Q E ⟨hp, g, d, tk, os⟩ :=
      fun q => B.iter prog w _ _ ⟨hp, g, d, tk, os⟩ _ h1 q
    wp_walk using it
    refine wpAny_stack_any fun st => wpAny_pure ?_
    split
    · rename_i c _ _ _ _ _
      cases (c == Value.type "enumerate") <;> (wp_walk using it; exact ⟨_, rfl, h⟩)
    · wp_walk using it
      exact ⟨_, rfl, h⟩
theorem enum_one {prog : Program} {w : World} {A : Around} {E : Value → Shared → Prop} {s : Shared} {v : Value} {o : Obj} {H : Heap → Prop} {Q : Value → Shared → Prop} (B : Begins v o H) (h1 : H s.heap)
    (h : ∀ h', IsEnum h' (s.heap.objs.size + 1) s.heap.objs.size 0 .none → h'.get? s.heap.objs.size = some o → (∀ b o, s.heap.get? b = some o → h'.get? b = some o) → Q (.ref (s.heap.objs.size + 1)) { s with heap := h' }) :
    wpAny (model prog w) A (call (.type "enumerate") [v]) Q E s := by
  refine callType_new F.called_enumerate (by decide) (F.typeCall_enumerate_1 _) (F.newCall_enumerate_1 _) (fun obj => F.args_object_init_2 obj _) F.entry_enumerate_new (meets_enum1 B) ⟨h1, ?_⟩
  have hz : (s.heap.push o).objs.size = s.heap.objs.size + 1 := Heap.size_push ..
  have he := Heap.get?_push_size (s.heap.push o) (o := { cls := .type "enumerate", data := .fields #[.none, .bool false, .ref s.heap.objs.size, rawInt 0, .none, .none] }) rfl
  show _ ∧ _
  rw [hz] at he ⊢
  exact ⟨⟨_, he, rfl⟩, h _ he (Heap.get?_push_of_some _ (Heap.get?_push_size _ B.free)) fun b o x => Heap.get?_push_of_some _ (Heap.get?_push_of_some _ x)⟩
def ItE (k : Bool) (K : PySem.W.Frag) (a : Addr) : It :=
  ⟨fun i H => ∃ (xs : List V) (x : V), Sq k K H a xs ∧ xs[i]? = some x, fun i H v H' => ∃ T x, v = .ref T ∧ H T = none ∧ H' = upd H T (.tup [.int (i : Nat), x]) ∧ ∀ xs, Sq k K H a xs → xs[i]? = some x, fun i H => ∃ xs : List V, Sq k K H a xs ∧ i = xs.length⟩
theorem turnE {P : Program} {w : World} {K : PySem.W.Frag} {elts : List Expr} {kk : Nat} {tpos : Pos} (k : Bool) (a e it : Addr) (h1 : e ≠ it) (h2 : e ≠ a) (h3 : a ≠ it) :
    Turn P w K (.Tuple elts kk tpos) (ItE k K a) [e, it] e (fun i h => (∃ old, IsEnum h e it (0 + (i : Int)) old) ∧ SqIt k h it a i) where
  mem := List.mem_cons_self
  obj := fun i h st c hc => by
    obtain ⟨⟨old, he⟩, hi⟩ := st
    simp only [List.mem_cons, List.not_mem_nil, or_false] at hc
    rcases hc with rfl | rfl
    · exact ⟨_, he, fun v q => nomatch q⟩
    · exact hi.obj
  keep := fun i h h' st k => ⟨⟨st.1.choose, k e (by simp) _ st.1.choose_spec⟩, st.2.keep fun o q => k it (by simp) o q⟩
  item := by
    intro X hP hw hK hc i pins s σ H E I hf st hg
    subst hP hw hK
    obtain ⟨⟨old, he⟩, hit⟩ := st
    obtain ⟨xs, x, hq, hx⟩ := hg
    obtain ⟨its, rv, p, _⟩ := sq_is I hq
    obtain ⟨u, hu, ru⟩ := rv.get hx
    have hh : X.A.handled = none := I.ok.hd hc
    have W := GoesN.enumFrom (prog := X.prog) (w := X.w) (A := X.A) (elts := elts) (x1 := kk) (pos := tpos) 0 (drawsK (A := X.A.in1) k hh it a h3 its.toArray) e h1 (by simp [h1, h2]) (by simp)
    have l1 : i < its.toArray.size := by
      have := (List.getElem?_eq_some_iff.mp hu).1
      simpa using this
    refine wpAny_mono (W.goes i s (fun v s2 => ∃ x H', Inv X pins σ H' s2 ∧ RelV x v ∧ (ItE k X.K a).yld i H x H' ∧ ((∃ old, IsEnum s2.heap e it (0 + ((i + 1 : Nat) : Int)) old) ∧ SqIt k s2.heap it a (i + 1)) ∧ ∀ c ∈ [e, it], H' c = none) E l1 ⟨⟨old, he⟩, hit, p⟩ fun v h' tk hY st' hk htk => ?_) (fun r s1 h1 => h1) fun _ _ e => e
    obtain ⟨T, t, w1, rfl, hT, hw1, hTT⟩ := hY
    have e1 : w1 = u := by
      have q : its.toArray[i]? = some u := by simpa using hu
      rw [hw1] at q; exact Option.some.inj q
    subst e1
    obtain ⟨oT, hoT, hcT, nn, hdT⟩ := hTT
    have I1 : Inv X pins σ (upd H T (.tup [.int (i : Nat), x])) { s with heap := h', toks := tk } :=
      I.turnedNew (t' := tk) (ch := [e, it]) (fun c o hb q => hk c o hb q) hf hT ⟨by show 2 ≤ sizeLine; decide, [.int (0 + (i : Int)) t, w1], .cons ⟨t, by rw [Int.zero_add]⟩ (.cons ru .nil), ⟨oT, hoT, hcT, nn, hdT⟩⟩
    refine ⟨.ref T, _, I1, rfl, ⟨T, x, rfl, I.hok.fresh hT, rfl, fun l hl => by rw [sq_inj I hl hq]; exact hx⟩, ⟨st'.1, st'.2.1⟩, fun c hcm => ?_⟩
    have lt : c < s.heap.objs.size := by
      simp only [List.mem_cons, List.not_mem_nil, or_false] at hcm
      rcases hcm with rfl | rfl
      · exact Heap.lt_size he
      · obtain ⟨o, e, _⟩ := hit.obj; exact Heap.lt_size e
    rw [upd_ne (Nat.ne_of_lt (Nat.lt_of_lt_of_le lt hT))]
    exact (hf c hcm).1
  done := by
    intro X hP hw hK hc i pins s σ H E I hf st hg
    subst hP hw hK
    obtain ⟨⟨old, he⟩, hit⟩ := st
    obtain ⟨xs, hq, hend⟩ := hg
    obtain ⟨its, rv, p, _⟩ := sq_is I hq
    have hh : X.A.handled = none := I.ok.hd hc
    have W := GoesN.enumFrom (prog := X.prog) (w := X.w) (A := X.A) (elts := elts) (x1 := kk) (pos := tpos) 0 (drawsK (A := X.A.in1) k hh it a h3 its.toArray) e h1 (by simp [h1, h2]) (by simp)
    have e : i = its.toArray.size := by rw [hend, rv.length, List.size_toArray]
    subst e
    exact W.stops s (fun s1 => Inv X pins σ H s1) E ⟨⟨old, he⟩, hit, p⟩ fun h' tk hk htk => I.turnedL (t' := tk) (ch := [_, it]) (fun c o hb q => hk c o hb q) hf
  self := fun A i s Q E st h => let ⟨⟨_, he⟩, _⟩ := st; wpAny_pyIter_enum he h
def iE (K : PySem.W.Frag) (ta : TA) : TI := fun σ H R => ta σ H fun vs H1 => ∃ k a xs, vs = [.ref a] ∧ Sq k K H1 a xs ∧ R (ItE k K a) H1
theorem piE {X : Cx} {e : Expr} {ta : TA} {p pos tpos : Pos} {elts : List Expr} {kk : Nat} (hg : Gl X "enumerate") (hm : X.mg "enumerate" = none) (ha : PA X [e] ta) (hs : notStar e = true) :
    PI X (.Tuple elts kk tpos) (.Call (.Name "enumerate" p) [e] [] pos) (iE X.K ta) := by
  refine ⟨fun pins s σ H R I h => ?_⟩
  refine Call_ (ld_blt I hg hm boot_enumerate (PyProof.Rows.callWith_type1 (thn (ha.run pos pins s σ H _ I h) fun us s1 ⟨vs, H1, I1, r1, q1⟩ => ?_) (starEach_cons hs) rfl))
  obtain ⟨k, a, xs, ex, hq, q⟩ := q1
  subst ex
  cases r1 with
  | cons r rr =>
    cases rr
    cases r
    obtain ⟨its, rv, p', la⟩ := sq_is I1 hq
    refine enum_one (beginsK k a its.toArray) p' fun h' he hit hk => wpAny_pyIter_enum he ?_
    refine ⟨s1.heap.objs.size + 1, [s1.heap.objs.size + 1, s1.heap.objs.size], _, _, H1, rfl, I1.kept (t' := s1.toks) hk, turnE k a (s1.heap.objs.size + 1) s1.heap.objs.size (Nat.succ_ne_self _) (Nat.ne_of_gt (Nat.lt_succ_of_lt la)) (Nat.ne_of_lt la), ⟨⟨.none, he⟩, itO_at hit⟩, fun b hb => ?_, q⟩
    have hle : s1.heap.objs.size ≤ b := by
      simp only [List.mem_cons, List.not_mem_nil, or_false] at hb
      rcases hb with rfl | rfl
      · exact Nat.le_add_right _ 1
      · exact Nat.le_refl _
    exact I1.fpOk hle (I1.hok.fresh hle)
/-! ### a list, a tuple, a text as it stands -/
def iS (K : PySem.W.Frag) (tl : TE) : TI := fun σ H R => tl σ H fun x H1 => (∃ a, x = .ref a ∧ (∃ xs, SqL K H1 a xs) ∧ R (Itl K a) H1) ∨ (∃ a, x = .ref a ∧ (∃ xs, SqT K H1 a xs) ∧ R (Itt K a) H1) ∨ ∃ z, x = .str z ∧ R (Its z) H1
theorem piS {X : Cx} {tg l : Expr} {tl : TE} (hl : PE X l tl) : PI X tg l (iS X.K tl) := by
  refine ⟨fun pins s σ H R I h => ?_⟩
  refine thn (hl.run pins s σ H _ I h) fun v s1 ⟨x, H1, I1, r1, q1⟩ => ?_
  rcases q1 with ⟨a, e, ⟨xs, hq⟩, q⟩ | ⟨a, e, ⟨xs, hq⟩, q⟩ | ⟨z, e, q⟩
  · subst e
    cases r1
    obtain ⟨its, rv, p, hz⟩ := I1.list hq
    refine wpAny_pyIter_list p.isList ⟨s1.heap.objs.size, [s1.heap.objs.size], _, _, H1, rfl, I1.kept (t' := s1.toks) fun b o e => Heap.get?_push_of_some _ e, turn_list a _, ⟨_, Heap.get?_push_size _ rfl, rfl, rfl⟩, fun b hb => ?_, q⟩
    rw [List.mem_singleton.mp hb]
    exact I1.fpOk (Nat.le_refl _) (I1.hok.fresh (Nat.le_refl _))
  · subst e
    cases r1
    obtain ⟨its, rv, p, hz⟩ := I1.tuple hq
    refine wpAny_pyIter_tuple (show s1.heap.IsTuple a its.toArray from p) ⟨s1.heap.objs.size, [s1.heap.objs.size], _, _, H1, rfl, I1.kept (t' := s1.toks) fun b o e => Heap.get?_push_of_some _ e, turn_tuple a _, ⟨_, Heap.get?_push_size _ rfl, rfl, rfl⟩, fun b hb => ?_, q⟩
    rw [List.mem_singleton.mp hb]
    exact I1.fpOk (Nat.le_refl _) (I1.hok.fresh (Nat.le_refl _))
  · subst e
    obtain ⟨t, rfl⟩ := r1
    refine wpAny_pyIter_strU ⟨s1.heap.objs.size, [s1.heap.objs.size], _, _, H1, rfl, I1.kept (t' := s1.toks) fun b o e => Heap.get?_push_of_some _ e, turn_str _ z t (strIterType z) ?_, ⟨_, Heap.get?_push_size _ rfl, rfl, rfl⟩, fun b hb => ?_, q⟩
    · unfold strIterType
      split
      · exact .inl rfl
      · exact .inr rfl
    · rw [List.mem_singleton.mp hb]
      exact I1.fpOk (Nat.le_refl _) (I1.hok.fresh (Nat.le_refl _))
end J

/-! targets, parallel assignment, for, while -/
namespace J
open PySem PySem.Spec PyProof.Rows L2
/-! ### targets -/
inductive Tg where
  | name (i : Nat) | tup (ts : List Tg)
mutual
def bindT : Tg → D → Env' → Option Env'
  | .name i, d, env => some (env.set i (some (.val d)))
  | .tup ts, .tup ds, env => bindTs ts ds env
  | .tup ts, .wt ds, env => bindTs ts ds env
  | .tup _, _, _ => none
def bindTs : List Tg → List D → Env' → Option Env'
  | [], [], env => some env
  | t :: ts, d :: ds, env => (bindT t d env).bind fun env' => bindTs ts ds env'
  | _, _, _ => none
end
mutual
def Tg.ix : Tg → List Nat
  | .name i => [i]
  | .tup ts => Tg.ixs ts
def Tg.ixs : List Tg → List Nat
  | [] => []
  | t :: ts => t.ix ++ Tg.ixs ts
end
/-- nothing but the slots is is changed -/
def Same (is : List Nat) (σ σ' : L2.St) : Prop := ∀ js, (∀ i ∈ is, i ∈ js) → wipe σ' js = wipe σ js
theorem set_none_comm (l : L2.St) (i j : Nat) : (l.set i none).set j none = (l.set j none).set i none := by
  by_cases h : i = j
  · subst h; rfl
  · rw [List.set_comm _ _ h]
theorem wipe_set (σ : L2.St) (i j : Nat) (x : Option V) (h : i ≠ j) : ∀ js, (wipe (σ.set i x) js).set i none = (wipe σ js).set i none
  | [] => by show (σ.set i x).set i none = σ.set i none; rw [List.set_set]
  | k :: js => by
    show ((wipe (σ.set i x) js).set k none).set i none = ((wipe σ js).set k none).set i none
    rw [set_none_comm _ k i, wipe_set σ i j x h js, set_none_comm _ i k]
theorem wipe_mem (σ : L2.St) (i : Nat) (x : Option V) : ∀ js, i ∈ js → wipe (σ.set i x) js = wipe σ js
  | [], h => by simp at h
  | k :: js, h => by
    show (wipe (σ.set i x) js).set k none = (wipe σ js).set k none
    by_cases hk : i = k
    · subst hk; exact wipe_set σ i (i + 1) x (by omega) js
    · rw [wipe_mem σ i x js (by simpa [hk] using h)]
theorem Same.refl (is : List Nat) (σ : L2.St) : Same is σ σ := fun _ _ => rfl
theorem Same.trans {is js : List Nat} {a b c : L2.St} (h : Same is a b) (k : Same js b c) : Same (is ++ js) a c := fun l hl => (k l fun i hi => hl i (List.mem_append_right _ hi)).trans (h l fun i hi => hl i (List.mem_append_left _ hi))
theorem bindTs_len : ∀ {ts : List Tg} {ds : List D} {env env' : Env'}, bindTs ts ds env = some env' → ts.length = ds.length
  | [], [], _, _, _ => rfl
  | [], _ :: _, _, _, e => by simp [bindTs] at e
  | _ :: _, [], _, _, e => by simp [bindTs] at e
  | t :: ts, d :: ds, env, env', e => by
    unfold bindTs at e
    obtain ⟨e1, _, e2⟩ := Option.bind_eq_some_iff.mp e
    rw [List.length_cons, List.length_cons, bindTs_len e2]
section
variable {S : Sta} {F : Fm} {W : WishX} {X : Cx} {e : Expr} {es : List Expr} {pos : Pos}
def tG (S : Sta) (F : Fm) (t : Tg) : TG := fun v σ H Q => ∃ g OS env h d env', Rel S F g OS env h σ H ∧ Rep S g d v ∧ bindT t d env = some env' ∧ ∀ σ', Rel S F g OS env' h σ' H → Same t.ix σ σ' → Q σ' H
def tGs (S : Sta) (F : Fm) (ts : List Tg) : TGs := fun vs σ H Q => ∃ g OS env h ds env', Rel S F g OS env h σ H ∧ Reps S g ds vs ∧ bindTs ts ds env = some env' ∧ ∀ σ', Rel S F g OS env' h σ' H → Same (Tg.ixs ts) σ σ' → Q σ' H
theorem PGim {t t' : TG} (p : PG X e t) (h : ∀ v σ H Q, t' v σ H Q → t v σ H Q) : PG X e t' := ⟨fun pins s σ H v u Q I r ht => p.run pins s σ H v u Q I r (h v σ H Q ht)⟩
theorem PGsim {t t' : TGs} (p : PGs X es t) (h : ∀ v σ H Q, t' v σ H Q → t v σ H Q) : PGs X es t' := ⟨fun pins s σ H v u Q I r ht => p.run pins s σ H v u Q I r (h v σ H Q ht)⟩
theorem ag_name {i : Nat} {x : Str} (hN : X.N.Nodup) (hi : X.N[i]? = some x) (hx : Loc X.env.scope x) (hf : X.fn x = true ∨ X.env.scope.names.lookup x = some .local) : PG X (.Name x pos) (tG S F (.name i)) := by
  refine PGim (pg_name hN hi hx hf) fun v σ H Q h => ?_
  obtain ⟨g, OS, env, h, d, env', rl, r, e, q⟩ := h
  unfold bindT at e
  cases e
  exact q _ ⟨rl.heap, rl.slots.setVal r, rl.ent, rl.pin⟩ fun js hj => wipe_mem σ i _ js (hj i (by simp [Tg.ix]))
theorem ags_nil : PGs X [] (tGs S F []) := by
  refine PGsim pgs_nil fun v σ H Q h => ?_
  obtain ⟨g, OS, env, h, ds, env', rl, r, e, q⟩ := h
  cases r with
  | nil => unfold bindTs at e; cases e; exact ⟨rfl, q σ rl (Same.refl _ _)⟩
  | cons a b => simp [bindTs] at e
theorem ags_cons {t : Tg} {ts : List Tg} (h1 : PG X e (tG S F t)) (h2 : PGs X es (tGs S F ts)) (hs : (assignEach (e :: es) X.env).map (·.2) = assign e X.env :: (assignEach es X.env).map (·.2)) : PGs X (e :: es) (tGs S F (t :: ts)) := by
  refine PGsim (pgs_cons h1 h2 hs) fun v σ H Q h => ?_
  obtain ⟨g, OS, env, h, ds, env', rl, r, e, q⟩ := h
  cases r with
  | nil => simp [bindTs] at e
  | cons a b =>
    unfold bindTs at e
    obtain ⟨e1, z1, z2⟩ := Option.bind_eq_some_iff.mp e
    refine ⟨_, _, rfl, g, OS, env, h, _, e1, rl, a, z1, fun σ' rl' sm => ?_⟩
    exact ⟨g, OS, e1, h, _, env', rl', b, z2, fun σ2 rl2 sm2 => q σ2 rl2 (by unfold Tg.ixs; exact sm.trans sm2)⟩
theorem ag_tup {k : Nat} {ts : List Tg} (hc : X.calm = true) (h : PGs X es (tGs S F ts)) (hn : (assignEach es X.env).length = ts.length) (hst : (assignEach es X.env).findIdx? (·.1) = none) : PG X (.Tuple es k pos) (tG S F (.tup ts)) := by
  refine PGim (pg_tup hc h hn hst) fun v σ H Q h => ?_
  obtain ⟨g, OS, env, h, d, env', rl, r, e, q⟩ := h
  cases r with
  | wt e1 r1 =>
    unfold bindT at e
    exact ⟨_, _, rfl, .inl (.inl (rl.heap.sub _ _ e1)), by rw [← r1.length, bindTs_len e], g, OS, env, h, _, env', rl, r1, e, fun σ2 rl2 sm2 => q σ2 rl2 (by unfold Tg.ix; exact sm2)⟩
  | tup e1 _ r1 =>
    unfold bindT at e
    exact ⟨_, _, rfl, .inl (.inr ⟨_, rl.heap.sub _ _ e1⟩), by rw [← r1.length, bindTs_len e], g, OS, env, h, _, env', rl, r1, e, fun σ2 rl2 sm2 => q σ2 rl2 (by unfold Tg.ix; exact sm2)⟩
  | _ => simp [bindT] at e
/-! ### a, b = e -/
def dAsgT (t : Tg) (f : DE) : DS := fun env h => exS (f env h) env fun ev h1 => exS (.lift ev.toD h1) env fun d h1 => match bindT t d env with
  | some env' => .nx env' h1
  | none => .err
theorem as_asgT {tg : Expr} {t : Tg} {f : DE} (he : PE X e (tE S F W f)) (hg : PG X tg (tG S F t)) (hs : swapsWithSole [tg] e pos.line X.env = pure false) (hw : swappedStores [tg] e X.env = pure none) (h1 : (assignEach [tg] X.env).map (·.2) = [assign tg X.env]) : PS X (.Assign [tg] e pos) (tS S F W (dAsgT t f)) := by
  refine PSim (ps_asg he hg hs hw h1) fun D σ H hq => ?_
  obtain ⟨g, OS, env, h, rl, q⟩ := hq
  refine ⟨g, OS, env, h, rl, ?_⟩
  unfold dAsgT at q
  cases e1 : f env h with
  | err => rw [e1] at q; exact q
  | exc c h1 => rw [e1] at q; exact fun g1 H1 s1 k1 => q g1 OS σ H1 (rl.step s1 k1)
  | ok x h1 =>
    rw [e1] at q
    simp only [exS_ok] at q
    intro v1 g1 H1 s1 k1 r1
    cases e2 : x.toD with
    | none => rw [e2] at q; exact q.elim
    | some d =>
      rw [e2] at q
      simp only [lift_some, exS_ok] at q
      obtain ⟨g1', s1', k1', r1'⟩ := r1.val e2 s1 k1
      cases e3 : bindT t d env with
      | none => rw [e3] at q; exact q.elim
      | some env' =>
        rw [e3] at q
        exact ⟨g1', OS, env, h1, d, env', rl.step s1' k1', r1', e3, fun σ' rl' _ => q g1' OS σ' H1 rl'⟩
/-! ### a, b = e1, e2: fresh lists may be a slot's own -/
def EV.lone : EV → Bool
  | .v (.fn _) => false
  | .v _ => true
  | .f _ => true
  | _ => false
inductive EvsRel (S : Sta) (g : Gh) (Hb H : Hp) : List EV → List V → Prop
  | nil : EvsRel S g Hb H [] []
  | cons {e : EV} {v : V} {es : List EV} {vs : List V} : EvRel S g Hb H e v → e.lone = true → (∀ ds, e = .f ds → v ∉ vs) → EvsRel S g Hb H es vs → EvsRel S g Hb H (e :: es) (v :: vs)
abbrev DEs := Env' → AH → Res (List EV)
def tEs (S : Sta) (F : Fm) (W : WishX) (f : DEs) : TA := fun σ H Q => ∃ g OS env h, Rel S F g OS env h σ H ∧ match f env h with
  | .ok evs h' => ∀ vs g' H', Stp g H g' H' → HeapOk S g' H' h' → EvsRel S g' H H' evs vs → Q vs H'
  | .exc c h' => ∀ g' H', Stp g H g' H' → HeapOk S g' H' h' → W c σ H'
  | .err => False
def dEsNil : DEs := fun _ h => .ok [] h
def dEsCons (f : DE) (fs : DEs) : DEs := fun env h => (f env h).bind fun e1 h1 => if e1.lone then (fs env h1).bind fun es h2 => .ok (e1 :: es) h2 else .err
theorem EvsRel.base {g : Gh} {Hb Hc H : Hp} (hb : ∀ a, Hb a ≠ none → Hc a ≠ none) : ∀ {evs : List EV} {vs : List V}, EvsRel S g Hc H evs vs → EvsRel S g Hb H evs vs
  | _, _, .nil => .nil
  | _, _, .cons a b c d => .cons (a.base hb) b c (EvsRel.base hb d)
theorem EvsRel.length {g : Gh} {Hb H : Hp} : ∀ {evs : List EV} {vs : List V}, EvsRel S g Hb H evs vs → evs.length = vs.length
  | _, _, .nil => rfl
  | _, _, .cons _ _ _ d => by rw [List.length_cons, List.length_cons, EvsRel.length d]
/-- what came later is not what stood there unowned -/
theorem EvsRel.notin {g : Gh} {Hb H : Hp} {h : AH} {p : Addr} (k : HeapOk S g H h) (n1 : g.G p = none) (n2 : g.O p = none) (n3 : Hb p ≠ none) : ∀ {evs : List EV} {vs : List V}, EvsRel S g Hb H evs vs → V.ref p ∉ vs
  | _, _, .nil => by simp
  | _, _, .cons (e := e) (v := v) a b c d => by
    intro hm
    rcases List.mem_cons.mp hm with z | z
    · subst z
      cases e with
      | v x =>
        cases a with
        | tup q _ _ => rw [q] at n1; cases n1
        | wt q _ => rw [q] at n1; cases n1
        | lst q _ => rw [q] at n1; cases n1
        | scr q => rw [q] at n1; cases n1
        | exc q => rw [q] at n1; cases n1
        | ref q =>
          rename_i n
          have hl : n < h.length := by rw [k.len]; exact (List.getElem?_eq_some_iff.mp q).1
          have ho := k.obj n h[n] p (List.getElem?_eq_getElem hl) q
          cases hx : h[n] with
          | lst _ ds => rw [hx] at ho; rw [ho.1] at n2; cases n2
          | ins c _ fs => rw [hx] at ho; rw [ho.1] at n2; cases n2
          | dK ds => rw [hx] at ho; rw [ho.1] at n2; cases n2
          | dT ds => rw [hx] at ho; rw [ho.1] at n2; cases n2
        | fn => cases b
      | f ds =>
        obtain ⟨p', vs', e1, _, _, _, _, n4⟩ := a
        cases e1
        exact n3 n4
      | b ds => cases b
      | fb n j => cases b
    · exact EvsRel.notin k n1 n2 n3 d z
theorem lone_still {e : EV} (h : e.lone = true) : e.still = true := by
  cases e <;> first | rfl | cases h
theorem aes_nil : PA X [] (tEs S F W dEsNil) := PAim pa_nil fun σ H Q h => by
  obtain ⟨g, OS, env, h, r, q⟩ := h
  exact q [] g H (Stp.refl g H) r.heap .nil
theorem aes_cons {f : DE} {fs : DEs} (he : PE X e (tE S F W f)) (hes : PA X es (tEs S F W fs)) (hs : notStar e = true) : PA X (e :: es) (tEs S F W (dEsCons f fs)) := by
  refine PAim (pa_cons he hes (starEach_cons hs)) fun σ H Q hq => ?_
  obtain ⟨g, OS, env, h, rl, q⟩ := hq
  refine ⟨g, OS, env, h, rl, ?_⟩
  unfold dEsCons at q
  cases e1 : f env h with
  | err => rw [e1] at q; exact q
  | exc c h1 => rw [e1] at q; exact q
  | ok x h1 =>
    rw [e1] at q
    simp only [bind_ok] at q
    intro v1 g1 H1 s1 k1 r1
    cases lo : x.lone with
    | false => rw [lo] at q; exact q.elim
    | true =>
      rw [lo] at q
      simp only [if_true] at q
      refine ⟨g1, OS, env, h1, rl.step s1 k1, ?_⟩
      cases e3 : fs env h1 with
      | err => rw [e3] at q; exact q
      | exc c h2 => rw [e3] at q; exact fun g2 H2 s2 k2 => q g2 H2 (s1.trans s2) k2
      | ok ds h2 =>
        rw [e3] at q
        simp only [bind_ok] at q
        intro vs g2 H2 s2 k2 r2
        refine q (v1 :: vs) g2 H2 (s1.trans s2) k2 (.cons (r1.step k1 s2 (lone_still lo)) lo (fun ds' ef => ?_) (r2.base s1.dom))
        subst ef
        obtain ⟨p, vs', ev, e2, _, n1, n2, n3⟩ := r1
        subst ev
        exact EvsRel.notin k2 ((s2.gk p (by rw [e2]; simp)).trans n1) ((s2.ok p (by rw [e2]; simp)).trans n2) (by rw [e2]; simp) r2
/-- slots set one after another -/
def setsE : List Nat → List Slot → Env' → Env'
  | i :: is, s :: ss, env => setsE is ss (env.set i (some s))
  | _, _, env => env
def setsV : List Nat → List V → L2.St → L2.St
  | i :: is, v :: vs, σ => setsV is vs (σ.set i (some v))
  | _, _, σ => σ
def slotsOf : List Bool → List EV → Option (List Slot)
  | b :: bs, e :: es => (slotOf b e).bind fun s => (slotsOf bs es).map (s :: ·)
  | [], [] => some []
  | _, _ => none
theorem EvsRel.le {g g' : Gh} {Hb H : Hp} (le : Gle g g') : ∀ {evs : List EV} {vs : List V}, EvsRel S g Hb H evs vs → (∀ p, V.ref p ∈ vs → g.G p = none → g'.G p = none) → (g'.O = g.O) → EvsRel S g' Hb H evs vs
  | _, _, .nil, _, _ => .nil
  | _, _, .cons (e := e) (v := v) a b c d, hn, ho => by
    refine .cons ?_ b c (EvsRel.le le d (fun p hp => hn p (List.mem_cons_of_mem _ hp)) ho)
    cases e with
    | v x => exact Rep.mono le a
    | f ds =>
      obtain ⟨p, vs', rfl, e2, r, n1, n2, n3⟩ := a
      exact ⟨p, vs', rfl, e2, r.mono le, hn p List.mem_cons_self n1, by rw [ho]; exact n2, n3⟩
    | b ds => cases b
    | fb n j => cases b
theorem par_rel {Hb H1 : Hp} {h1 : AH} : ∀ {evs : List EV} {vs : List V} (is : List Nat) (bs : List Bool) {ss : List Slot} {g1 : Gh} {OS : Addr → Option Nat} {env : Env'} {σ : L2.St}, (∀ p, Hb p = none → F.H0 p = none) → (∀ p j, OS p = some j → V.ref p ∉ vs) →
    Rel S F g1 OS env h1 σ H1 → EvsRel S g1 Hb H1 evs vs → slotsOf bs evs = some ss → ∃ g' OS', Rel S F g' OS' (setsE is ss env) h1 (setsV is vs σ) H1
  | [], _, is, bs, ss, g1, OS, env, σ, _, _, rl, .nil, e => by
    have : ss = [] := by
      cases bs with
      | nil => cases e; rfl
      | cons b bs => simp [slotsOf] at e
    subst this
    exact ⟨g1, OS, by cases is <;> exact rl⟩
  | ev :: evs, v :: vs, is, bs, ss, g1, OS, env, σ, hb, ho, rl, .cons a b c d, e => by
    cases bs with
    | nil => simp [slotsOf] at e
    | cons bb bs =>
      unfold slotsOf at e
      obtain ⟨s, z1, z2⟩ := Option.bind_eq_some_iff.mp e
      obtain ⟨ss', z3, z4⟩ := Option.map_eq_some_iff.mp z2
      subst z4
      cases is with
      | nil => exact ⟨g1, OS, rl⟩
      | cons i is =>
        show ∃ g' OS', Rel S F g' OS' (setsE is ss' (env.set i (some s))) h1 (setsV is vs (σ.set i (some v))) H1
        cases ev with
        | v x =>
          have z1' : s = .val x := by simp [slotOf] at z1; exact z1.symm
          subst z1'
          exact par_rel is bs hb (fun p j q hm => ho p j q (List.mem_cons_of_mem _ hm)) ⟨rl.heap, rl.slots.setVal a, rl.ent, rl.pin⟩ d z3
        | f ds =>
          obtain ⟨p, us, rfl, e2, r, n1, n2, n3⟩ := a
          cases bb with
          | true =>
            have z1' : s = .own ds := by simp [slotOf] at z1; exact z1.symm
            subst z1'
            have n4 : OS p = none := by
              cases q : OS p with
              | none => rfl
              | some j => exact absurd List.mem_cons_self (ho p j q)
            refine par_rel is bs hb (fun p' j q hm => ?_) ⟨rl.heap, rl.slots.setOwn (i := i) e2 r n1 n2 (hb p n3) n4, rl.ent, rl.pin⟩ d z3
            by_cases hp : p' = p
            · subst hp; exact c ds rfl hm
            · rw [if_neg hp] at q; exact ho p' j q (List.mem_cons_of_mem _ hm)
          | false =>
            have z1' : s = .val (.lst ds) := by simp [slotOf] at z1; exact z1.symm
            subst z1'
            have le : Gle g1 (g1.frz p (.lst us)) := frz_le n1
            have rl' : Rel S F (g1.frz p (.lst us)) OS env h1 σ H1 := by
              refine ⟨rl.heap.freeze n2 e2 n1, ⟨rl.slots.len, fun j sl q => ?_, fun x j q => ?_⟩, ⟨rl.ent.keep, fun x q => ?_, rl.ent.ok, rl.ent.dom, rl.ent.pre⟩, F.mono _ _ le rl.pin⟩
              · obtain ⟨u, y1, y2⟩ := rl.slots.at_ j sl q
                refine ⟨u, y1, ?_⟩
                cases sl with
                | val d => exact Rep.mono le y2
                | own es' => obtain ⟨b', ws, w1, w2, w3, w4⟩ := y2; exact ⟨b', ws, w1, w2, w3, w4.mono le⟩
              · obtain ⟨m1, m2, m3, m4⟩ := rl.slots.os x j q
                refine ⟨?_, m2, m3, m4⟩
                show upd g1.G p _ x = none
                rw [upd_ne (fun w : x = p => by rw [w] at q; exact ho p j q List.mem_cons_self)]
                exact m1
              · show upd g1.G p _ x = _
                rw [upd_ne (fun w : x = p => q (by rw [w]; exact hb p n3))]
                exact rl.ent.gk x q
            refine par_rel is bs hb (fun p j q hm => ho p j q (List.mem_cons_of_mem _ hm)) ⟨rl'.heap, rl'.slots.setVal (.lst upd_same (r.mono le)), rl'.ent, rl'.pin⟩ (d.le le (fun p' hm hn => ?_) rfl) z3
            show upd g1.G p _ p' = none
            rw [upd_ne (fun w : p' = p => by rw [w] at hm; exact c ds rfl hm)]
            exact hn
        | b ds => cases b
        | fb n j => cases b
def dPar (is : List Nat) (bs : List Bool) (f : DEs) : DS := fun env h => exS (f env h) env fun evs h1 => exS (.lift (slotsOf bs evs) h1) env fun ss h1 => .nx (setsE is ss env) h1
theorem par_read {is : List Nat} {bs : List Bool} {f : DEs} (D : Ends) (σ : L2.St) (H : Hp) (hq : tS S F W (dPar is bs f) D σ H) : tEs S F W f σ H fun vs H1 => vs.length = bs.length ∧ D.nx (setsV is vs σ) H1 ∧ (bs.length ≤ sizeLine → ∀ p, H1 p = none → D.nx (setsV is vs σ) (upd H1 p (.tup vs))) := by
  obtain ⟨g, OS, env, h, rl, q⟩ := hq
  refine ⟨g, OS, env, h, rl, ?_⟩
  unfold dPar at q
  cases e1 : f env h with
  | err => rw [e1] at q; exact q
  | exc c h1 => rw [e1] at q; exact fun g1 H1 s1 k1 => q g1 OS σ H1 (rl.step s1 k1)
  | ok evs h1 =>
    rw [e1] at q
    simp only [exS_ok] at q
    intro vs g1 H1 s1 k1 r1
    cases e2 : slotsOf bs evs with
    | none => rw [e2] at q; exact q.elim
    | some ss =>
      rw [e2] at q
      simp only [lift_some, exS_ok] at q
      have hl : ∀ {bs : List Bool} {evs : List EV} {ss : List Slot}, slotsOf bs evs = some ss → evs.length = bs.length := by
        intro bs
        induction bs with
        | nil => intro evs ss e; cases evs with
          | nil => rfl
          | cons _ _ => simp [slotsOf] at e
        | cons b bs ih => intro evs ss e; cases evs with
          | nil => simp [slotsOf] at e
          | cons ev evs =>
            unfold slotsOf at e
            obtain ⟨s, z1, z2⟩ := Option.bind_eq_some_iff.mp e
            obtain ⟨ss', z3, z4⟩ := Option.map_eq_some_iff.mp z2
            rw [List.length_cons, List.length_cons, ih z3]
      refine ⟨by rw [← r1.length, hl e2], ?_⟩
      have rl1 := rl.step s1 k1
      have fresh : ∀ {evs : List EV} {vs : List V}, EvsRel S g1 H H1 evs vs → ∀ p j, OS p = some j → V.ref p ∉ vs := by
        intro evs vs er p j q
        obtain ⟨m1, m2, m3, m4⟩ := rl.slots.os p j q
        exact EvsRel.notin k1 ((s1.gk p m4).trans m1) ((s1.ok p m4).trans m2) m4 er
      have h0 : ∀ p, H p = none → F.H0 p = none := fun p n => by
        cases w : F.H0 p with
        | none => rfl
        | some o => exact absurd n (rl.ent.dom p (by rw [w]; simp))
      refine ⟨?_, fun hz p n => ?_⟩
      · obtain ⟨g', OS', z⟩ := par_rel (F := F) (Hb := H) is bs h0 (fresh r1) rl1 r1 e2
        exact q g' OS' _ H1 z
      · have lv : vs.length ≤ sizeLine := by rw [← r1.length, hl e2]; exact hz
        have s2 : Stp g1 H1 g1 (upd H1 p (.tup vs)) := Stp.newT n
        have k2 : HeapOk S g1 (upd H1 p (.tup vs)) h1 := k1.newT n lv
        have r2 : EvsRel S g1 H (upd H1 p (.tup vs)) evs vs := by
          clear q e1 e2 hz lv s2 k2
          have go : ∀ {ws : List V} {evs : List EV} {vs : List V}, EvsRel S g1 H H1 evs vs → EvsRel S g1 H (upd H1 p (.tup ws)) evs vs := by
            intro ws evs vs er
            induction er with
            | nil => exact .nil
            | cons a b c d ih => exact .cons (a.step k1 (Stp.newT n) (lone_still b)) b c ih
          exact go r1
        obtain ⟨g', OS', z⟩ := par_rel (F := F) (Hb := H) is bs h0 (fresh r1) (rl1.step s2 k2) r2 e2
        exact q g' OS' _ _ z
variable {i j l : Nat} {x y z : Str} {a b c : Expr} {px py pz pt pt2 : Pos} {kt k2 : Nat}
theorem as_par2 {bs : List Bool} {f : DEs} (hb : bs.length = 2) (hc : X.calm = true) (hN : X.N.Nodup) (hi : X.N[i]? = some x) (hj : X.N[j]? = some y) (hij : i ≠ j) (hx : X.env.scope.names.lookup x = some .local) (hy : X.env.scope.names.lookup y = some .local) (ha : PA X [a, b] (tEs S F W f))
    (hw : swappedStores [.Tuple [.Name x px, .Name y py] kt pt] (.Tuple [a, b] k2 pt2) X.env = pure (some [x, y])) : PS X (.Assign [.Tuple [.Name x px, .Name y py] kt pt] (.Tuple [a, b] k2 pt2) pos) (tS S F W (dPar [i, j] bs f)) := by
  refine PSim (ps_par hc hN hi hj hij hx hy ha hw rfl) fun D σ H hq => ?_
  obtain ⟨g, OS, env, h, rl, q⟩ := par_read D σ H hq
  refine ⟨g, OS, env, h, rl, ?_⟩
  cases e1 : f env h with
  | err => rw [e1] at q; exact q
  | exc c h1 => rw [e1] at q; exact q
  | ok evs h1 =>
    rw [e1] at q
    intro vs g1 H1 s1 k1 r1
    obtain ⟨z1, z2, _⟩ := q vs g1 H1 s1 k1 r1
    rw [hb] at z1
    match vs, z1 with
    | [v, w], _ => exact ⟨v, w, rfl, z2⟩
theorem as_par3 {bs : List Bool} {f : DEs} (hb : bs.length = 3) (hc : X.calm = true) (hN : X.N.Nodup) (hi : X.N[i]? = some x) (hj : X.N[j]? = some y) (hl : X.N[l]? = some z) (hij : i ≠ j) (hil : i ≠ l) (hjl : j ≠ l) (hx : X.env.scope.names.lookup x = some .local) (hy : X.env.scope.names.lookup y = some .local) (hz : X.env.scope.names.lookup z = some .local) (ha : PA X [a, b, c] (tEs S F W f))
    (hw : swappedStores [.Tuple [.Name x px, .Name y py, .Name z pz] kt pt] (.Tuple [a, b, c] k2 pt2) X.env = pure (some [x, y, z])) : PS X (.Assign [.Tuple [.Name x px, .Name y py, .Name z pz] kt pt] (.Tuple [a, b, c] k2 pt2) pos) (tS S F W (dPar [i, j, l] bs f)) := by
  refine PSim (ps_par3 hc hN hi hj hl hij hil hjl hx hy hz ha hw rfl) fun D σ H hq => ?_
  obtain ⟨g, OS, env, h, rl, q⟩ := par_read D σ H hq
  refine ⟨g, OS, env, h, rl, ?_⟩
  cases e1 : f env h with
  | err => rw [e1] at q; exact q
  | exc c h1 => rw [e1] at q; exact q
  | ok evs h1 =>
    rw [e1] at q
    intro vs g1 H1 s1 k1 r1
    obtain ⟨z1, z2, _⟩ := q vs g1 H1 s1 k1 r1
    rw [hb] at z1
    match vs, z1 with
    | [v, w, u], _ => exact ⟨v, w, u, rfl, z2⟩
/-- names, one after another -/
def gNames : List Nat → TGs
  | [] => gNil
  | i :: is => gCons (gName i) (gNames is)
theorem gNames_read : ∀ (is : List Nat) (vs : List V) (σ : L2.St) (H : Hp) (Q : L2.St → Hp → Prop), vs.length = is.length → Q (setsV is vs σ) H → gNames is vs σ H Q
  | [], [], σ, H, Q, _, q => ⟨rfl, q⟩
  | [], _ :: _, _, _, _, h, _ => by simp at h
  | _ :: _, [], _, _, _, h, _ => by simp at h
  | i :: is, v :: vs, σ, H, Q, h, q => ⟨v, vs, rfl, gNames_read is vs _ H Q (by simpa using h) q⟩
theorem as_parN {ts es' : List Expr} {is : List Nat} {bs : List Bool} {f : DEs} (hb : bs.length = is.length) (hz : bs.length ≤ sizeLine) (hc : X.calm = true) (hg : PGs X ts (gNames is)) (ha : PA X es' (tEs S F W f)) (hn : (assignEach ts X.env).length = is.length) (hst : (assignEach ts X.env).findIdx? (·.1) = none)
    (hw : swappedStores [.Tuple ts kt pt] (.Tuple es' k2 pt2) X.env = pure none) : PS X (.Assign [.Tuple ts kt pt] (.Tuple es' k2 pt2) pos) (tS S F W (dPar is bs f)) := by
  refine PSim (ps_asg (pe_tup ha) (pg_tup hc hg hn hst) rfl hw rfl) fun D σ H hq => ?_
  obtain ⟨g, OS, env, h, rl, q⟩ := par_read D σ H hq
  refine ⟨g, OS, env, h, rl, ?_⟩
  cases e1 : f env h with
  | err => rw [e1] at q; exact q
  | exc c h1 => rw [e1] at q; exact q
  | ok evs h1 =>
    rw [e1] at q
    intro vs g1 H1 s1 k1 r1
    obtain ⟨z1, z2, z3⟩ := q vs g1 H1 s1 k1 r1
    refine ⟨by rw [z1]; exact hz, fun p n => ⟨p, vs, rfl, .inl (.inl upd_same), by rw [z1, hb], gNames_read is vs σ _ _ (by rw [z1, hb]) (z3 hz p n)⟩⟩
end
end J

/-! what is walked, for, while -/
namespace J
open PySem PySem.Spec PyProof.Rows L2
inductive Src where
  | fx (ds : List D) | bw (ds : List D) | ob (n j : Nat)
def Src.get (h : AH) : Src → Option (List D)
  | .fx ds => some ds
  | .bw ds => some ds
  | .ob n j => ownL h n j
def Src.pin : Src → Bool
  | .bw _ => false
  | _ => true
def enumF : Nat → List D → List D
  | _, [] => []
  | k, d :: ds => .wt [.int k, d] :: enumF (k + 1) ds
def zipD : List D → List D → List D
  | a :: as, b :: bs => .wt [a, b] :: zipD as bs
  | _, _ => []
inductive Sr where
  | one (s : Src) | zip (s t : Src) | enum (s : Src)
def Sr.items (h : AH) : Sr → Option (List D)
  | .one s => s.get h
  | .zip s t => match s.get h, t.get h with
    | some a, some b => some (zipD a b)
    | _, _ => none
  | .enum s => match s.get h with
    | some a => some (enumF 0 a)
    | none => none
def Sr.pin : Sr → Bool
  | .one s => s.pin
  | .zip s t => s.pin && t.pin
  | .enum s => s.pin
theorem zipD_len : ∀ a b : List D, (zipD a b).length = min a.length b.length
  | [], b => by simp [zipD]
  | _ :: _, [] => by simp [zipD]
  | a :: as, b :: bs => by simp [zipD, zipD_len as bs]
theorem zipD_get : ∀ (a b : List D) (i : Nat) (d : D), (zipD a b)[i]? = some d → ∃ x y, a[i]? = some x ∧ b[i]? = some y ∧ d = .wt [x, y]
  | [], b, i, d, h => by simp [zipD] at h
  | _ :: _, [], i, d, h => by simp [zipD] at h
  | a :: as, b :: bs, 0, d, h => ⟨a, b, rfl, rfl, by simpa [zipD] using h.symm⟩
  | a :: as, b :: bs, i + 1, d, h => by simpa using zipD_get as bs i d (by simpa [zipD] using h)
theorem enumF_len : ∀ (k : Nat) (a : List D), (enumF k a).length = a.length
  | _, [] => rfl
  | k, a :: as => by simp [enumF, enumF_len (k + 1) as]
theorem enumF_get : ∀ (k : Nat) (a : List D) (i : Nat) (d : D), (enumF k a)[i]? = some d → ∃ x, a[i]? = some x ∧ d = .wt [.int ((k + i : Nat) : Int), x]
  | _, [], i, d, h => by simp [enumF] at h
  | k, a :: as, 0, d, h => ⟨a, rfl, by simpa [enumF] using h.symm⟩
  | k, a :: as, i + 1, d, h => by
    obtain ⟨x, h1, h2⟩ := enumF_get (k + 1) as i d (by simpa [enumF] using h)
    exact ⟨x, by simpa using h1, by rw [h2]; congr 4; omega⟩
/-- the source s stands at a -/
def SrcAt (S : Sta) (g : Gh) (H : Hp) (k : Bool) (a : Addr) : Src → Prop
  | .fx ds => ∃ vs sk, SqH g.G a vs sk ∧ (sk = .t ↔ k = false) ∧ Reps S g ds vs
  | .bw ds => k = true ∧ ∃ vs, H a = some (.lst vs) ∧ g.O a = none ∧ Reps S g ds vs
  | .ob n j => k = true ∧ g.O a = some (n, j)
theorem SqH.mono {H H' : Hp} {a : Addr} {vs : List V} {sk : SK} (h : SqH H a vs sk) (k : ∀ a o, H a = some o → H' a = some o) : SqH H' a vs sk := by
  cases sk with
  | l => exact k _ _ h
  | t => obtain ⟨o, d, h⟩ := h; exact ⟨o, d, k _ _ h⟩
  | s => obtain ⟨o, h⟩ := h; exact ⟨o, k _ _ h⟩
section
variable {S : Sta} {g g' : Gh} {H H' H0 : Hp} {h h' : AH} {k : Bool} {a : Addr} {s : Src}
theorem SrcAt.sq (K : PySem.W.Frag) (hk : HeapOk S g H h) (z : SrcAt S g H k a s) {ds : List D} (e : s.get h = some ds) : ∃ vs, Sq k K H a vs ∧ Reps S g ds vs := by
  cases s with
  | fx es =>
    cases e
    obtain ⟨vs, sk, z1, z2, r⟩ := z
    have z1 := z1.mono hk.sub
    refine ⟨vs, ?_, r⟩
    cases k with
    | true => exact z1.sqL K (fun q => Bool.noConfusion (z2.mp q))
    | false => have := z2.mpr rfl; subst this; exact z1.sqT K
  | bw es =>
    cases e
    obtain ⟨rfl, vs, z1, _, r⟩ := z
    exact ⟨vs, .inl (.inl z1), r⟩
  | ob n j =>
    obtain ⟨rfl, o⟩ := z
    obtain ⟨us, q, r⟩ := ownL_rel hk o e
    exact ⟨us, .inl (.inl q), r⟩
theorem SrcAt.step (hk : HeapOk S g H h) (st : Stp g H g' H') (z : SrcAt S g H k a s) : SrcAt S g' H' k a s := by
  have le := st.le hk
  cases s with
  | fx es =>
    obtain ⟨vs, sk, z1, z2, r⟩ := z
    exact ⟨vs, sk, z1.mono le.G, z2, r.mono le⟩
  | bw es =>
    obtain ⟨rfl, vs, z1, z2, r⟩ := z
    exact ⟨rfl, vs, st.keep a _ z1 z2, (st.ok a (by rw [z1]; simp)).trans z2, r.mono le⟩
  | ob n j => exact ⟨z.1, le.O _ _ z.2⟩
theorem SrcAt.le (le : Gle g g') (p : s.pin = true) (z : SrcAt S g H k a s) : SrcAt S g' H' k a s := by
  cases s with
  | fx es =>
    obtain ⟨vs, sk, z1, z2, r⟩ := z
    exact ⟨vs, sk, z1.mono le.G, z2, r.mono le⟩
  | bw es => cases p
  | ob n j => exact ⟨z.1, le.O _ _ z.2⟩
def srcOf : EV → Option Src
  | .v (.lst ds) => some (.fx ds)
  | .v (.tup ds) => some (.fx ds)
  | .v (.scr ns) => some (.fx (ns.map D.int))
  | .v (.ref n) => some (.ob n 0)
  | .f ds => some (.fx ds)
  | .b ds => some (.bw ds)
  | .fb n j => some (.ob n j)
  | _ => none
theorem ref_own (hk : HeapOk S g H h) {n : Nat} {a : Addr} (r : g.I[n]? = some a) : g.O a = some (n, 0) := by
  have hl : n < h.length := by rw [hk.len]; exact (List.getElem?_eq_some_iff.mp r).1
  have ho := hk.obj n h[n] a (List.getElem?_eq_getElem hl) r
  cases hx : h[n] with
  | lst _ ds => rw [hx] at ho; exact ho.1
  | ins c _ fs => rw [hx] at ho; exact ho.1
  | dK ds => rw [hx] at ho; exact ho.1
  | dT ds => rw [hx] at ho; exact ho.1
theorem src_rel {ev : EV} {v : V} {s : Src} (e : EvRel S g' H H' ev v) (t : srcOf ev = some s) (st : Stp g H g' H') (k : HeapOk S g' H' h') : ∃ g'' a b, Stp g H g'' H' ∧ HeapOk S g'' H' h' ∧ v = .ref a ∧ SrcAt S g'' H' b a s := by
  cases ev with
  | v d =>
    cases d with
    | lst ds =>
      cases t
      cases e with
      | lst e1 r => exact ⟨g', _, true, st, k, rfl, _, .l, e1, by simp, r⟩
    | tup ds =>
      cases t
      cases e with
      | tup e1 d r => exact ⟨g', _, false, st, k, rfl, _, .t, ⟨_, d, e1⟩, by simp, r⟩
    | scr ns =>
      cases t
      cases e with
      | scr e1 => exact ⟨g', _, true, st, k, rfl, _, .s, ⟨_, e1⟩, by simp, reps_ints ns⟩
    | ref n =>
      cases t
      cases e with
      | ref e1 => exact ⟨g', _, true, st, k, rfl, rfl, ref_own k e1⟩
    | _ => cases t
  | f ds =>
    cases t
    obtain ⟨g'', z1, z2, z3⟩ := EvRel.val (ev := .f ds) e rfl st k
    cases z3 with
    | lst e1 r => exact ⟨g'', _, true, z1, z2, rfl, _, .l, e1, by simp, r⟩
  | b ds =>
    cases t
    obtain ⟨a, vs, rfl, e2, r, n1⟩ := e
    exact ⟨g', a, true, st, k, rfl, rfl, vs, e2, n1, r⟩
  | fb n j =>
    cases t
    obtain ⟨a, rfl, o⟩ := e
    exact ⟨g', a, true, st, k, rfl, rfl, o⟩
end
/-- the iterator J goes through it -/
def JOk (S : Sta) (J : It) (it : AH → Option (List D)) (Ok : Gh → Hp → Prop) : Prop := ∀ g H h ds, HeapOk S g H h → Ok g H → it h = some ds →
  J.stop ds.length H ∧ ∀ i d, ds[i]? = some d → J.go i H ∧ ∀ x H', J.yld i H x H' → ∃ g', Stp g H g' H' ∧ HeapOk S g' H' h ∧ Rep S g' d x
abbrev DI := Env' → AH → Res Sr
def tI (S : Sta) (F : Fm) (W : WishX) (f : DI) : TI := fun σ H R => ∃ g OS env h, Rel S F g OS env h σ H ∧ match f env h with
  | .ok sr h' => ∀ J g' H' (Ok : Gh → Hp → Prop), Stp g H g' H' → HeapOk S g' H' h' → JOk S J (fun h => sr.items h) Ok → Ok g' H' → (∀ g H g' H' h, HeapOk S g H h → Stp g H g' H' → Ok g H → Ok g' H') → (sr.pin = true → ∀ g H g' H', Gle g g' → Ok g H → Ok g' H') → R J H'
  | .exc c h' => ∀ g' H', Stp g H g' H' → HeapOk S g' H' h' → W c σ H'
  | .err => False
theorem PIim {X : Cx} {tg e : Expr} {t t' : TI} (p : PI X tg e t) (h : ∀ σ H R, t' σ H R → t σ H R) : PI X tg e t' := ⟨fun pins s σ H R I ht => p.run pins s σ H R I (h σ H R ht)⟩
section
variable {S : Sta} {F : Fm} {W : WishX} {X : Cx} {tg e e2 e3 : Expr} {pos p : Pos}
/-! ### ranges -/
def upTo (lo : Int) (n : Nat) : List D := (List.range n).map fun i => .int (lo + (i : Nat))
def downFrom (lo : Int) (n : Nat) : List D := (List.range n).map fun i => .int (lo + (i : Nat) * (-1))
theorem map_range_get {α : Type} {f : Nat → α} {n i : Nat} {d : α} (h : ((List.range n).map f)[i]? = some d) : i < n ∧ d = f i := by
  rw [List.getElem?_map] at h
  obtain ⟨x, h1, h2⟩ := Option.map_eq_some_iff.mp h
  have hl := (List.getElem?_eq_some_iff.mp h1).1
  rw [List.length_range] at hl
  rw [List.getElem?_range hl] at h1
  cases h1
  exact ⟨hl, h2.symm⟩
theorem jok_r (lo : Int) (n : Nat) : JOk S (Itr lo n) (fun h => (Sr.one (.fx (upTo lo n))).items h) fun _ _ => True := by
  intro g H h ds hk _ e
  cases e
  refine ⟨by show n ≤ _; simp [upTo], fun i d hd => ?_⟩
  obtain ⟨h1, h2⟩ := map_range_get hd
  exact ⟨h1, fun x H' ⟨y1, y2⟩ => ⟨g, y1 ▸ Stp.refl g H, y1 ▸ hk, by rw [y2, h2]; exact .int _⟩⟩
theorem jok_c (lo : Int) (n : Nat) : JOk S (Itc lo (-1) n) (fun h => (Sr.one (.fx (downFrom lo n))).items h) fun _ _ => True := by
  intro g H h ds hk _ e
  cases e
  refine ⟨by show n ≤ _; simp [downFrom], fun i d hd => ?_⟩
  obtain ⟨h1, h2⟩ := map_range_get hd
  exact ⟨h1, fun x H' ⟨y1, y2⟩ => ⟨g, y1 ▸ Stp.refl g H, y1 ▸ hk, by rw [y2, h2]; exact .int _⟩⟩
def intOf : D → Option Int
  | .int i => some i
  | _ => none
def rgOk (i : Int) : Bool := decide (-(2 ^ 62) ≤ i) && decide (i < 2 ^ 62)
theorem rgOk_ok {i : Int} (h : rgOk i = true) : -(2 ^ 62) ≤ i ∧ i < 2 ^ 62 := by simpa [rgOk] using h
def rngK : List D → Option Sr
  | [.int j] => if rgOk j then some (.one (.fx (upTo 0 j.toNat))) else none
  | [.int i, .int j] => if rgOk i && rgOk j then some (.one (.fx (upTo i (j - i).toNat))) else none
  | [.int i, .int j, .int c] => if rgOk i && rgOk j && c == -1 then some (.one (.fx (downFrom i (i - j).toNat))) else none
  | _ => none
def dRng (fs : DL) : DI := fun env h => (fs env h).bind fun ds h1 => .lift (rngK ds) h1
theorem reps1 {g : Gh} {d : D} {vs : List V} (r : Reps S g [d] vs) : ∃ v, vs = [v] ∧ Rep S g d v := by
  cases r with
  | cons a b => cases b; exact ⟨_, rfl, a⟩
theorem reps2 {g : Gh} {d e : D} {vs : List V} (r : Reps S g [d, e] vs) : ∃ v u, vs = [v, u] ∧ Rep S g d v ∧ Rep S g e u := by
  cases r with
  | cons a b => obtain ⟨u, rfl, x⟩ := reps1 b; exact ⟨_, _, rfl, a, x⟩
theorem reps3 {g : Gh} {d e f : D} {vs : List V} (r : Reps S g [d, e, f] vs) : ∃ v u w, vs = [v, u, w] ∧ Rep S g d v ∧ Rep S g e u ∧ Rep S g f w := by
  cases r with
  | cons a b => obtain ⟨u, w, rfl, x, y⟩ := reps2 b; exact ⟨_, _, _, rfl, a, x, y⟩
theorem rep_i {g : Gh} {i : Int} {v : V} (r : Rep S g (.int i) v) : v = .int i := by cases r; rfl
theorem rng_read {fs : DL} (n : Nat) (l : LenIs fs n) (σ : L2.St) (H : Hp) (R : It → Hp → Prop) (hq : tI S F W (dRng fs) σ H R) : tL S F W fs σ H fun vs H1 => vs.length = n ∧ match vs with
    | [.int j] => rgOk j = true ∧ R (Itr 0 j.toNat) H1
    | [.int i, .int j] => rgOk i = true ∧ rgOk j = true ∧ R (Itr i (j - i).toNat) H1
    | [.int i, .int j, .int c] => rgOk i = true ∧ rgOk j = true ∧ c = -1 ∧ R (Itc i (-1) (i - j).toNat) H1
    | _ => False := by
  obtain ⟨g, OS, env, h, rl, q⟩ := hq
  refine ⟨g, OS, env, h, rl, ?_⟩
  unfold dRng at q
  cases e1 : fs env h with
  | err => rw [e1] at q; exact q
  | exc c h1 => rw [e1] at q; exact q
  | ok ds h1 =>
    rw [e1] at q
    simp only [bind_ok] at q
    intro vs g1 H1 s1 k1 r1
    refine ⟨by rw [← r1.length]; exact l _ _ _ _ e1, ?_⟩
    cases e2 : rngK ds with
    | none => rw [e2] at q; exact q.elim
    | some sr =>
      rw [e2] at q
      simp only [lift_some] at q
      unfold rngK at e2
      split at e2
      · rename_i j
        obtain ⟨v, rfl, x⟩ := reps1 r1
        rw [rep_i x]
        split at e2
        · rename_i hj
          cases e2
          exact ⟨hj, q _ g1 H1 _ s1 k1 (jok_r 0 j.toNat) trivial (fun _ _ _ _ _ _ _ _ => trivial) fun _ _ _ _ _ _ _ => trivial⟩
        · cases e2
      · rename_i i j
        obtain ⟨v, u, rfl, x, y⟩ := reps2 r1
        rw [rep_i x, rep_i y]
        split at e2
        · rename_i hj
          rw [Bool.and_eq_true] at hj
          cases e2
          exact ⟨hj.1, hj.2, q _ g1 H1 _ s1 k1 (jok_r i (j - i).toNat) trivial (fun _ _ _ _ _ _ _ _ => trivial) fun _ _ _ _ _ _ _ => trivial⟩
        · cases e2
      · rename_i i j c
        obtain ⟨v, u, w, rfl, x, y, z⟩ := reps3 r1
        rw [rep_i x, rep_i y, rep_i z]
        split at e2
        · rename_i hj
          rw [Bool.and_eq_true, Bool.and_eq_true] at hj
          cases e2
          exact ⟨hj.1.1, hj.1.2, by simpa using hj.2, q _ g1 H1 _ s1 k1 (jok_c i (i - j).toNat) trivial (fun _ _ _ _ _ _ _ _ => trivial) fun _ _ _ _ _ _ _ => trivial⟩
        · cases e2
      · cases e2
theorem tL_mono {fs : DL} {σ : L2.St} {H : Hp} {Q Q' : List V → Hp → Prop} (h : tL S F W fs σ H Q) (k : ∀ vs H, Q vs H → Q' vs H) : tL S F W fs σ H Q' := by
  obtain ⟨g, OS, env, h, rl, q⟩ := h
  refine ⟨g, OS, env, h, rl, ?_⟩
  cases e1 : fs env h with
  | err => rw [e1] at q; exact q
  | exc c h1 => rw [e1] at q; exact q
  | ok ds h1 => rw [e1] at q; exact fun vs g1 H1 s1 k1 r1 => k vs H1 (q vs g1 H1 s1 k1 r1)
theorem ai_rng1 {fs : DL} (l : LenIs fs 1) (hg : Gl X "range") (hm : X.mg "range" = none) (ha : PA X [e] (tL S F W fs)) (hs : notStar e = true) : PI X tg (.Call (.Name "range" p) [e] [] pos) (tI S F W (dRng fs)) := by
  refine PIim (pi_range1 hg hm ha (starEach_cons hs)) fun σ H R h => tL_mono (rng_read 1 l σ H R h) fun vs H1 ⟨z1, z2⟩ => ?_
  match vs, z1 with
  | [v], _ =>
    split at z2
    · rename_i j q
      cases q
      exact ⟨j, rfl, (rgOk_ok z2.1).1, (rgOk_ok z2.1).2, z2.2⟩
    · rename_i q; cases q
    · rename_i q; cases q
    · exact z2.elim
theorem ai_rng2 {fs : DL} (l : LenIs fs 2) (hg : Gl X "range") (hm : X.mg "range" = none) (ha : PA X [e, e2] (tL S F W fs)) (hs : notStar e = true) (hs2 : notStar e2 = true) : PI X tg (.Call (.Name "range" p) [e, e2] [] pos) (tI S F W (dRng fs)) := by
  refine PIim (pi_range2 hg hm ha (by rw [starEach_cons hs, starEach_cons hs2]; rfl) (by rw [starEach_cons hs2]; rfl)) fun σ H R h => tL_mono (rng_read 2 l σ H R h) fun vs H1 ⟨z1, z2⟩ => ?_
  match vs, z1 with
  | [v, u], _ =>
    split at z2
    · rename_i q; cases q
    · rename_i i j q
      cases q
      exact ⟨i, j, rfl, ⟨(rgOk_ok z2.1).1, (rgOk_ok z2.1).2, (rgOk_ok z2.2.1).1, (rgOk_ok z2.2.1).2⟩, z2.2.2⟩
    · rename_i q; cases q
    · exact z2.elim
theorem ai_rng3 {fs : DL} (l : LenIs fs 3) (hg : Gl X "range") (hm : X.mg "range" = none) (ha : PA X [e, e2, e3] (tL S F W fs)) (hs : notStar e = true) (hs2 : notStar e2 = true) (hs3 : notStar e3 = true) : PI X tg (.Call (.Name "range" p) [e, e2, e3] [] pos) (tI S F W (dRng fs)) := by
  refine PIim (pi_range3 hg hm ha (starEach_cons hs) (backTo_any (by rw [starEach_cons hs2, starEach_cons hs3]; rfl))) fun σ H R h => tL_mono (rng_read 3 l σ H R h) fun vs H1 ⟨z1, z2⟩ => ?_
  match vs, z1 with
  | [v, u, w], _ =>
    split at z2
    · rename_i q; cases q
    · rename_i q; cases q
    · rename_i i j c q
      cases q
      obtain ⟨a1, a2, a3, a4⟩ := z2
      subst a3
      exact ⟨i, j, -1, _, rfl, RgC.neg (rgOk_ok a1).1 (rgOk_ok a1).2 (rgOk_ok a2).1 (rgOk_ok a2).2, a4⟩
    · exact z2.elim
/-! ### sequences as they stand -/
def charsD (x : Str) : List D := x.cps.toList.map fun c => .str ⟨#[c]⟩
def srK : EV → Option Sr
  | .v (.str x) => some (.one (.fx (charsD x)))
  | e => (srcOf e).map Sr.one
def okI (sr : Sr) (h : AH) : Option Sr := match sr.items h with
  | some _ => some sr
  | none => none
theorem okI_some {sr sr' : Sr} {h : AH} (e : okI sr h = some sr') : sr' = sr ∧ ∃ ds, sr.items h = some ds := by
  unfold okI at e
  split at e
  · rename_i ds q; cases e; exact ⟨rfl, ds, q⟩
  · cases e
def dSeqI (f : DE) : DI := fun env h => (f env h).bind fun ev h1 => .lift ((srK ev).bind fun sr => okI sr h1) h1
theorem jok_s (x : Str) : JOk S (Its x) (fun h => (Sr.one (.fx (charsD x))).items h) fun _ _ => True := by
  intro g H h ds hk _ e
  cases e
  refine ⟨by show x.cps.size ≤ _; simp [charsD], fun i d hd => ?_⟩
  unfold charsD at hd
  rw [List.getElem?_map] at hd
  obtain ⟨c, h1, h2⟩ := Option.map_eq_some_iff.mp hd
  have h3 : x.cps[i]? = some c := by simpa using h1
  refine ⟨(Array.getElem?_eq_some_iff.mp h3).1, fun v H' ⟨y1, c', y2, y3⟩ => ⟨g, y1 ▸ Stp.refl g H, y1 ▸ hk, ?_⟩⟩
  rw [h3] at y2
  cases y2
  rw [y3, ← h2]
  exact .str _
theorem jok_l (K : PySem.W.Frag) {b : Bool} {a : Addr} {s : Src} : JOk S (if b then Itl K a else Itt K a) (fun h => (Sr.one s).items h) fun g H => SrcAt S g H b a s := by
  intro g H h ds hk z e
  obtain ⟨vs, sq, r⟩ := z.sq K hk e
  cases b with
  | true =>
    refine ⟨⟨vs, sq, by rw [r.length]; exact Nat.le_refl _⟩, fun i d hd => ?_⟩
    obtain ⟨v, h1, h2⟩ := r.get hd
    refine ⟨⟨vs, v, sq, h1⟩, fun x H' ⟨y1, y2⟩ => ⟨g, y1 ▸ Stp.refl g H, y1 ▸ hk, ?_⟩⟩
    have := y2 vs sq
    rw [h1] at this
    cases this
    exact h2
  | false =>
    refine ⟨⟨vs, sq, by rw [r.length]; exact Nat.le_refl _⟩, fun i d hd => ?_⟩
    obtain ⟨v, h1, h2⟩ := r.get hd
    refine ⟨⟨vs, v, sq, h1⟩, fun x H' ⟨y1, y2⟩ => ⟨g, y1 ▸ Stp.refl g H, y1 ▸ hk, ?_⟩⟩
    have := y2 vs sq
    rw [h1] at this
    cases this
    exact h2
theorem seqI_read {f : DE} (K : PySem.W.Frag) (σ : L2.St) (H : Hp) (R : It → Hp → Prop) (hq : tI S F W (dSeqI f) σ H R) : iS K (tE S F W f) σ H R := by
  obtain ⟨g, OS, env, h, rl, q⟩ := hq
  refine ⟨g, OS, env, h, rl, ?_⟩
  unfold dSeqI at q
  cases e1 : f env h with
  | err => rw [e1] at q; exact q
  | exc c h1 => rw [e1] at q; exact q
  | ok ev h1 =>
    rw [e1] at q
    simp only [bind_ok] at q
    intro v g1 H1 s1 k1 r1
    cases e0 : (srK ev).bind fun sr => okI sr h1 with
    | none => rw [e0] at q; exact q.elim
    | some sr =>
      rw [e0] at q
      simp only [lift_some] at q
      obtain ⟨sr', e2, e3⟩ := Option.bind_eq_some_iff.mp e0
      obtain ⟨rfl, ds, eds⟩ := okI_some e3
      unfold srK at e2
      split at e2
      · rename_i x
        cases e2
        exact .inr (.inr ⟨x, rep_str r1, q _ g1 H1 _ s1 k1 (jok_s x) trivial (fun _ _ _ _ _ _ _ _ => trivial) fun _ _ _ _ _ _ _ => trivial⟩)
      · obtain ⟨s, e5, e4⟩ := Option.map_eq_some_iff.mp e2
        subst e4
        obtain ⟨g2, a, b, s2, k2, rfl, z⟩ := src_rel r1 e5 s1 k1
        have go := q _ g2 H1 _ s2 k2 (jok_l K (b := b) (a := a) (s := s)) z (fun g H g' H' h hk st z => z.step hk st) fun p g H g' H' le z => z.le le p
        obtain ⟨vs, sq, _⟩ := z.sq K k2 eds
        cases b with
        | true => exact .inl ⟨a, rfl, ⟨vs, sq⟩, go⟩
        | false => exact .inr (.inl ⟨a, rfl, ⟨vs, sq⟩, go⟩)
theorem ai_seq {f : DE} (he : PE X e (tE S F W f)) : PI X tg e (tI S F W (dSeqI f)) := PIim (piS he) (seqI_read X.K)
/-! ### zip, enumerate -/
theorem jok_z (K : PySem.W.Frag) {k1 k2 : Bool} {a b : Addr} {s t : Src} : JOk S (ItZ k1 k2 K a b) (fun h => (Sr.zip s t).items h) fun g H => SrcAt S g H k1 a s ∧ SrcAt S g H k2 b t := by
  intro g H h ds hk ⟨z1, z2⟩ e
  unfold Sr.items at e
  simp only at e
  split at e
  · rename_i xs ys e1 e2
    cases e
    obtain ⟨vs, sq1, r1⟩ := z1.sq K hk e1
    obtain ⟨us, sq2, r2⟩ := z2.sq K hk e2
    refine ⟨⟨vs, us, sq1, sq2, by rw [zipD_len, r1.length, r2.length]⟩, fun i d hd => ?_⟩
    obtain ⟨x, y, h1, h2, rfl⟩ := zipD_get _ _ _ _ hd
    obtain ⟨v, h3, rv⟩ := r1.get h1
    obtain ⟨u, h4, ru⟩ := r2.get h2
    refine ⟨⟨vs, us, v, u, sq1, sq2, h3, h4⟩, fun w H' ⟨T, x', y', e3, nT, e4, q1, q2⟩ => ?_⟩
    have a1 := q1 vs sq1
    have a2 := q2 us sq2
    rw [h3] at a1
    rw [h4] at a2
    cases a1
    cases a2
    subst e3 e4
    exact ⟨g.frz T (.tup [v, u]), Stp.new nT, hk.new nT (by show 2 ≤ sizeLine; decide), .wt upd_same (.cons (rv.mono (frz_le (hk.gn nT))) (.one (ru.mono (frz_le (hk.gn nT)))))⟩
  · cases e
theorem jok_e (K : PySem.W.Frag) {k : Bool} {a : Addr} {s : Src} : JOk S (ItE k K a) (fun h => (Sr.enum s).items h) fun g H => SrcAt S g H k a s := by
  intro g H h ds hk z1 e
  unfold Sr.items at e
  simp only at e
  split at e
  · rename_i xs e1
    cases e
    obtain ⟨vs, sq1, r1⟩ := z1.sq K hk e1
    refine ⟨⟨vs, sq1, by rw [enumF_len, r1.length]⟩, fun i d hd => ?_⟩
    obtain ⟨x, h1, rfl⟩ := enumF_get _ _ _ _ hd
    obtain ⟨v, h3, rv⟩ := r1.get h1
    refine ⟨⟨vs, v, sq1, h3⟩, fun w H' ⟨T, x', e3, nT, e4, q1⟩ => ?_⟩
    have a1 := q1 vs sq1
    rw [h3] at a1
    cases a1
    subst e3 e4
    exact ⟨g.frz T _, Stp.new nT, hk.new nT (by show 2 ≤ sizeLine; decide), .wt upd_same (.cons (by rw [Nat.zero_add]; exact .int _) (.one (rv.mono (frz_le (hk.gn nT)))))⟩
  · cases e
def dEnumI (f : DE) : DI := fun env h => (f env h).bind fun ev h1 => .lift ((srcOf ev).bind fun s => okI (.enum s) h1) h1
theorem enumI_read {f : DE} (K : PySem.W.Frag) (σ : L2.St) (H : Hp) (R : It → Hp → Prop) (hq : tI S F W (dEnumI f) σ H R) : iE K (tCons (tE S F W f) tNil) σ H R := by
  obtain ⟨g, OS, env, h, rl, q⟩ := hq
  refine ⟨g, OS, env, h, rl, ?_⟩
  unfold dEnumI at q
  cases e1 : f env h with
  | err => rw [e1] at q; exact q
  | exc c h1 => rw [e1] at q; exact q
  | ok ev h1 =>
    rw [e1] at q
    simp only [bind_ok] at q
    intro v g1 H1 s1 k1 r1
    cases e0 : (srcOf ev).bind fun s => okI (.enum s) h1 with
    | none => rw [e0] at q; exact q.elim
    | some sr =>
      rw [e0] at q
      simp only [lift_some] at q
      obtain ⟨s, e2, e3⟩ := Option.bind_eq_some_iff.mp e0
      obtain ⟨rfl, ds, eds⟩ := okI_some e3
      obtain ⟨g2, a, b, s2, k2, rfl, z⟩ := src_rel r1 e2 s1 k1
      have go := q _ g2 H1 _ s2 k2 (jok_e K (k := b) (a := a) (s := s)) z (fun g H g' H' h hk st z => z.step hk st) fun p g H g' H' le z => z.le le p
      unfold Sr.items at eds
      simp only at eds
      split at eds
      · rename_i xs exs
        obtain ⟨vs, sq, _⟩ := z.sq K k2 exs
        exact ⟨b, a, vs, rfl, sq, go⟩
      · cases eds
theorem ai_enum {f : DE} {elts : List Expr} {kk : Nat} {tpos : Pos} (hg : Gl X "enumerate") (hm : X.mg "enumerate" = none) (he : PE X e (tE S F W f)) (hs : notStar e = true) : PI X (.Tuple elts kk tpos) (.Call (.Name "enumerate" p) [e] [] pos) (tI S F W (dEnumI f)) :=
  PIim (piE hg hm (pa1 he hs) hs) (enumI_read X.K)
def dZipI (f f2 : DE) : DI := fun env h => (f env h).bind fun ev h1 => (Res.lift (srcOf ev) h1).bind fun s h1 => (f2 env h1).bind fun ev2 h2 => .lift ((srcOf ev2).bind fun t => okI (.zip s t) h2) h2
theorem zipI_read {f f2 : DE} (K : PySem.W.Frag) (σ : L2.St) (H : Hp) (R : It → Hp → Prop) (hq : tI S F W (dZipI f f2) σ H R) : iZ K (tCons (tE S F W f) (tCons (tE S F W f2) tNil)) σ H R := by
  obtain ⟨g, OS, env, h, rl, q⟩ := hq
  refine ⟨g, OS, env, h, rl, ?_⟩
  unfold dZipI at q
  cases e1 : f env h with
  | err => rw [e1] at q; exact q
  | exc c h1 => rw [e1] at q; exact q
  | ok ev h1 =>
    rw [e1] at q
    simp only [bind_ok] at q
    intro v g1 H1 s1 k1 r1
    cases e2 : srcOf ev with
    | none => rw [e2] at q; exact q.elim
    | some s =>
      rw [e2] at q
      simp only [lift_some, bind_ok] at q
      obtain ⟨g2, a, b, s2, k2, rfl, z⟩ := src_rel r1 e2 s1 k1
      refine ⟨g2, OS, env, h1, rl.step s2 k2, ?_⟩
      cases e3 : f2 env h1 with
      | err => rw [e3] at q; exact q
      | exc c h2 => rw [e3] at q; exact fun g3 H3 s3 k3 => q g3 H3 (s2.trans s3) k3
      | ok ev2 h2 =>
        rw [e3] at q
        simp only [bind_ok] at q
        intro v2 g3 H3 s3 k3 r3
        cases e0 : (srcOf ev2).bind fun t => okI (.zip s t) h2 with
        | none => rw [e0] at q; exact q.elim
        | some sr =>
          rw [e0] at q
          simp only [lift_some] at q
          obtain ⟨t, e4, e5⟩ := Option.bind_eq_some_iff.mp e0
          obtain ⟨rfl, ds, eds⟩ := okI_some e5
          obtain ⟨g4, a2, b2, s4, k4, rfl, z2⟩ := src_rel r3 e4 s3 k3
          have z' := z.step k2 s4
          have go := q _ g4 H3 _ (s2.trans s4) k4 (jok_z K (k1 := b) (k2 := b2) (a := a) (b := a2) (s := s) (t := t)) ⟨z', z2⟩ (fun g H g' H' h hk st z => ⟨z.1.step hk st, z.2.step hk st⟩) fun p g H g' H' le z => by
            unfold Sr.pin at p
            rw [Bool.and_eq_true] at p
            exact ⟨z.1.le le p.1, z.2.le le p.2⟩
          unfold Sr.items at eds
          simp only at eds
          split at eds
          · rename_i xs ys exs eys
            obtain ⟨vs, sq, _⟩ := z'.sq K k4 exs
            obtain ⟨us, sq2, _⟩ := z2.sq K k4 eys
            exact ⟨b, b2, a, a2, vs, us, rfl, sq, sq2, go⟩
          · cases eds
theorem ai_zip {f f2 : DE} {elts : List Expr} {kk : Nat} {tpos : Pos} (hg : Gl X "zip") (hm : X.mg "zip" = none) (he : PE X e (tE S F W f)) (he2 : PE X e2 (tE S F W f2)) (hs : notStar e = true) (hs2 : notStar e2 = true) : PI X (.Tuple elts kk tpos) (.Call (.Name "zip" p) [e, e2] [] pos) (tI S F W (dZipI f f2)) :=
  PIim (piZ hg hm (pa2 he he2 hs hs2) hs hs2) (zipI_read X.K)
/-! ### for -/
def FinR (S : Sta) (F : Fm) (W : WishX) (Dn : Ends) : RS → Prop
  | .nx env' h' => ∀ g' OS' σ' H', Rel S F g' OS' env' h' σ' H' → Dn.nx σ' H'
  | .ret d h' => ∀ v g' H', HeapOk S g' H' h' → Stp F.g0 F.H0 g' H' → Rep S g' d v → Dn.rt v H'
  | .exc c env' h' => ∀ g' OS' σ' H', Rel S F g' OS' env' h' σ' H' → W c σ' H'
  | .err => False
theorem tS_fin {f : DS} {Dn : Ends} {σ : L2.St} {H : Hp} : tS S F W f Dn σ H ↔ ∃ g OS env h, Rel S F g OS env h σ H ∧ FinR S F W Dn (f env h) := by
  constructor
  · rintro ⟨g, OS, env, h, r, q⟩
    refine ⟨g, OS, env, h, r, ?_⟩
    cases e : f env h <;> (rw [e] at q; exact q)
  · rintro ⟨g, OS, env, h, r, q⟩
    refine ⟨g, OS, env, h, r, ?_⟩
    cases e : f env h <;> (rw [e] at q; exact q)
def loopN (it : AH → Option (List D)) (t : Tg) (body : DS) : Nat → Nat → DS
  | 0, i => fun env h => match it h with
    | some ds => if ds.length = i then .nx env h else .err
    | none => .err
  | n + 1, i => fun env h => match it h with
    | some ds => match ds[i]? with
      | some d => match bindT t d env with
        | some env' => dSeq body (loopN it t body n (i + 1)) env' h
        | none => .err
      | none => if ds.length = i then .nx env h else .err
    | none => .err
def dFor (fi : DI) (t : Tg) (body : DS) : DS := fun env h => exS (fi env h) env fun sr h1 => if sr.pin then (match sr.items h1 with
  | some ds => loopN (fun h => sr.items h) t body ds.length 0 env h1
  | none => .err) else .err
def Fm.more (F : Fm) (P : Gh → Prop) (m : ∀ g g', Gle g g' → P g → P g') : Fm := { F with P := fun g => F.P g ∧ P g, mono := fun g g' l h => ⟨F.mono g g' l h.1, m g g' l h.2⟩ }
theorem Rel.less {P : Gh → Prop} {m : ∀ g g', Gle g g' → P g → P g'} {g : Gh} {OS : Addr → Option Nat} {env : Env'} {h : AH} {σ : L2.St} {H : Hp} (r : Rel S (F.more P m) g OS env h σ H) : Rel S F g OS env h σ H :=
  ⟨r.heap, ⟨r.slots.len, r.slots.at_, r.slots.os⟩, r.ent, r.pin.1⟩
theorem Rel.mor {P : Gh → Prop} {m : ∀ g g', Gle g g' → P g → P g'} {g : Gh} {OS : Addr → Option Nat} {env : Env'} {h : AH} {σ : L2.St} {H : Hp} (r : Rel S F g OS env h σ H) (p : P g) : Rel S (F.more P m) g OS env h σ H :=
  ⟨r.heap, ⟨r.slots.len, r.slots.at_, r.slots.os⟩, r.ent, r.pin, p⟩
theorem as_for {iter : Expr} {body : List Stmt} {fi : DI} {t : Tg} {fb : DS} (hp : PassesOwn (model X.prog X.w) X.A X.env X.xe) (hc : X.calm = true) (hi : PI X tg iter (tI S F W fi)) (hg : ∀ F, PG X tg (tG S F t)) (hb : ∀ F, PSs X body (tS S F W fb)) (hs : ∀ x, foldedSetIterable iter X.env x = pure x) :
    PS X (.For tg iter body [] pos) (tS S F W (dFor fi t fb)) := by
  refine ⟨fun pins s σ H Dn I hq => ?_⟩
  obtain ⟨g, OS, env, h, rl, q⟩ := tS_fin.mp hq
  unfold dFor at q
  -- the reading of the whole, by the iterator's
  have key : ∀ (J : It) (g1 : Gh) (H1 : Hp) (h1 : AH) (sr : Sr) (ds : List D) (Ok : Gh → Hp → Prop), Stp g H g1 H1 → HeapOk S g1 H1 h1 → JOk S J (fun h => sr.items h) Ok → Ok g1 H1 → (∀ g H g' H', Gle g g' → Ok g H → Ok g' H') → FinR S F W Dn (loopN (fun h => sr.items h) t fb ds.length 0 env h1) →
      ∃ F' : Fm, ∃ Wf : Nat → Nat → L2.St → Hp → Prop, (∃ m, Wf 0 m σ H1) ∧ ∀ i m σ H, Wf i m σ H → (J.stop i H ∧ Dn.nx σ H) ∨ (J.go i H ∧ ∃ N : L2.St → Hp → Prop, (∀ σ' H', N σ' H' → ∃ m', m' < m ∧ Wf (i + 1) m' σ' H') ∧ ∀ x H', J.yld i H x H' → tG S F' t x σ H' fun σ2 H2 => tS S F' W fb { Dn with nx := N, ct := N, bk := Dn.nx } σ2 H2) := by
    intro J g1 H1 h1 sr ds Ok s1 k1 jok ok1 mono fin
    have mono' : ∀ g g', Gle g g' → (∀ H, Ok g H) → ∀ H, Ok g' H := fun g g' le z H => mono g H g' H le (z H)
    have ok1' : ∀ H, Ok g1 H := fun H => mono g1 H1 g1 H (Gle.refl g1) ok1
    refine ⟨F.more (fun g => ∀ H, Ok g H) mono', fun i m σ H => ∃ g OS env h, Rel S (F.more (fun g => ∀ H, Ok g H) mono') g OS env h σ H ∧ FinR S F W Dn (loopN (fun h => sr.items h) t fb m i env h), ⟨ds.length, g1, OS, env, h1, (rl.step s1 k1).mor ok1', fin⟩, ?_⟩
    rintro i m σ2 H2 ⟨g2, OS2, env2, h2, rl2, fin2⟩
    have stop : ∀ es, sr.items h2 = some es → es.length = i → FinR S F W Dn (.nx env2 h2) → J.stop i H2 ∧ Dn.nx σ2 H2 := fun es e1 e2 f => by
      have := (jok g2 H2 h2 es rl2.heap (rl2.pin.2 H2) e1).1
      rw [e2] at this
      exact ⟨this, f g2 OS2 σ2 H2 rl2.less⟩
    cases m with
    | zero =>
      unfold loopN at fin2
      cases e1 : sr.items h2 with
      | none => rw [e1] at fin2; exact fin2.elim
      | some es =>
        rw [e1] at fin2
        simp only at fin2
        split at fin2
        · rename_i hl
          exact .inl (stop es e1 hl fin2)
        · exact fin2.elim
    | succ m =>
      unfold loopN at fin2
      cases e1 : sr.items h2 with
      | none => rw [e1] at fin2; exact fin2.elim
      | some es =>
        rw [e1] at fin2
        simp only at fin2
        cases e2 : es[i]? with
        | none =>
          rw [e2] at fin2
          simp only at fin2
          split at fin2
          · rename_i hl
            exact .inl (stop es e1 hl fin2)
          · exact fin2.elim
        | some d =>
          rw [e2] at fin2
          simp only at fin2
          cases e3 : bindT t d env2 with
          | none => rw [e3] at fin2; exact fin2.elim
          | some env3 =>
            rw [e3] at fin2
            simp only at fin2
            have jj := (jok g2 H2 h2 es rl2.heap (rl2.pin.2 H2) e1).2 i d e2
            refine .inr ⟨jj.1, fun σ' H' => ∃ g OS env h, Rel S (F.more (fun g => ∀ H, Ok g H) mono') g OS env h σ' H' ∧ FinR S F W Dn (loopN (fun h => sr.items h) t fb m (i + 1) env h), fun σ' H' z => ⟨m, Nat.lt_succ_self m, z⟩, fun x H' y => ?_⟩
            obtain ⟨g3, s3, k3, r3⟩ := jj.2 x H' y
            refine ⟨g3, OS2, env2, h2, d, env3, rl2.step s3 k3, r3, e3, fun σ3 rl3 _ => ?_⟩
            refine tS_fin.mpr ⟨g3, OS2, env3, h2, rl3, ?_⟩
            unfold dSeq at fin2
            cases e4 : fb env3 h2 with
            | err => rw [e4] at fin2; exact fin2
            | exc c env' h' => rw [e4] at fin2; exact fun g' OS' σ' H' r => fin2 g' OS' σ' H' r.less
            | ret d h' => rw [e4] at fin2; exact fin2
            | nx env' h' => rw [e4] at fin2; exact fun g' OS' σ' H' r => ⟨g', OS', env', h', r, fin2⟩
  refine ((ps_for (g := fun x σ H Q => ∃ F', tG S F' t x σ H Q) (tb := fun Dn σ H => ∃ F', tS S F' W fb Dn σ H) hp hc hi ⟨fun pins s σ H v u Q I r ⟨F', z⟩ => (hg F').run pins s σ H v u Q I r z⟩ ⟨fun pins s σ H Dn I ⟨F', z⟩ => (hb F').run pins s σ H Dn I z⟩ hs)).run pins s σ H Dn I ?_
  refine ⟨g, OS, env, h, rl, ?_⟩
  cases e1 : fi env h with
  | err => rw [e1] at q; exact q
  | exc c h1 => rw [e1] at q; exact fun g1 H1 s1 k1 => q g1 OS σ H1 (rl.step s1 k1)
  | ok sr h1 =>
    rw [e1] at q
    simp only [exS_ok] at q
    intro J g1 H1 Ok s1 k1 jok ok1 _ mono
    cases hpin : sr.pin with
    | false => rw [hpin] at q; exact q.elim
    | true =>
      rw [hpin] at q
      simp only [if_true] at q
      cases e2 : sr.items h1 with
      | none => rw [e2] at q; exact q.elim
      | some ds =>
        rw [e2] at q
        simp only at q
        obtain ⟨F', Wf, z1, z2⟩ := key J g1 H1 h1 sr ds Ok s1 k1 jok ok1 (mono hpin) q
        refine ⟨Wf, z1, fun i m σ H w => ?_⟩
        rcases z2 i m σ H w with z | ⟨z3, N, z4, z5⟩
        · exact .inl z
        · exact .inr ⟨z3, N, z4, fun x H' y => ⟨F', by
            obtain ⟨g, OS, env, h, d, env', y1, y2, y3, y4⟩ := z5 x H' y
            exact ⟨g, OS, env, h, d, env', y1, y2, y3, fun σ' r sm => ⟨F', y4 σ' r sm⟩⟩⟩⟩
/-- over a list that stands still -/
def loopL (t : Tg) (body : DS) : List D → DS
  | [] => dNext
  | d :: ds => fun env h => match bindT t d env with
    | some env' => dSeq body (loopL t body ds) env' h
    | none => .err
theorem loopN_fx (t : Tg) (body : DS) (it : AH → Option (List D)) : ∀ (ds es : List D), (∀ h, it h = some (es ++ ds)) → ∀ env h, loopN it t body ds.length es.length env h = loopL t body ds env h
  | [], es, hi, env, h => by simp [loopN, loopL, hi, dNext]
  | d :: ds, es, hi, env, h => by
    have z := loopN_fx t body it ds (es ++ [d]) (fun h => by rw [hi, List.append_assoc]; rfl)
    rw [List.length_append] at z
    show loopN it t body (ds.length + 1) es.length env h = _
    unfold loopN loopL
    rw [hi]
    simp only [List.getElem?_append_right (Nat.le_refl _), Nat.sub_self, List.getElem?_cons_zero]
    cases bindT t d env with
    | none => rfl
    | some env' =>
      simp only [dSeq]
      cases body env' h with
      | nx e' h' => exact z e' h'
      | _ => rfl
/-! ### while -/
def whN (c : DB) (b : DS) : Nat → DS
  | 0 => fun _ _ => .err
  | n + 1 => fun env h => exS (c env h) env fun k h1 => if k then dSeq b (whN c b n) env h1 else .nx env h1
theorem as_while {c : Expr} {body : List Stmt} {fc : DB} {fb : DS} (n : Nat) (hp : PassesOwn (model X.prog X.w) X.A X.env X.xe) (hc : PT X c (tX S F W fc)) (hb : PSs X body (tS S F W fb)) : PS X (.While c body [] pos) (tS S F W (whN fc fb n)) := by
  refine PSim (ps_while hp hc hb) fun Dn σ H hq => ?_
  obtain ⟨g, OS, env, h, rl, q⟩ := tS_fin.mp hq
  refine ⟨fun m σ H => ∃ g OS env h, Rel S F g OS env h σ H ∧ FinR S F W Dn (whN fc fb m env h), ⟨n, g, OS, env, h, rl, q⟩, ?_⟩
  rintro m σ2 H2 ⟨g2, OS2, env2, h2, rl2, q2⟩
  cases m with
  | zero => exact q2.elim
  | succ m =>
    unfold whN at q2
    refine ⟨g2, OS2, env2, h2, rl2, ?_⟩
    cases e1 : fc env2 h2 with
    | err => rw [e1] at q2; exact q2
    | exc c h1 => rw [e1] at q2; exact fun g1 H1 s1 k1 => q2 g1 OS2 σ2 H1 (rl2.step s1 k1)
    | ok b h1 =>
      rw [e1] at q2
      simp only [exS_ok] at q2
      intro g3 H3 s3 k3
      have rl3 := rl2.step s3 k3
      cases b with
      | false =>
        simp only [Bool.false_eq_true, if_false] at q2 ⊢
        exact q2 g3 OS2 σ2 H3 rl3
      | true =>
        simp only [if_true] at q2 ⊢
        refine ⟨fun σ' H' => ∃ g OS env h, Rel S F g OS env h σ' H' ∧ FinR S F W Dn (whN fc fb m env h), fun σ' H' z => ⟨m, Nat.lt_succ_self m, z⟩, ?_⟩
        refine tS_fin.mpr ⟨g3, OS2, env2, h1, rl3, ?_⟩
        unfold dSeq at q2
        cases e4 : fb env2 h1 with
        | err => rw [e4] at q2; exact q2
        | exc c env' h' => rw [e4] at q2; exact q2
        | ret d h' => rw [e4] at q2; exact q2
        | nx env' h' => rw [e4] at q2; exact fun g' OS' σ' H' r => ⟨g', OS', env', h', r, q2⟩
end
end J

/-! list comprehensions -/
namespace J
open PySem PySem.Spec PyProof.Rows L2
def wipeE (env : Env') : List Nat → Env'
  | [] => env
  | v :: vs => (wipeE env vs).set v none
theorem wipeE_length (env : Env') : ∀ vs : List Nat, (wipeE env vs).length = env.length
  | [] => rfl
  | v :: vs => by unfold wipeE; rw [List.length_set, wipeE_length env vs]
theorem wipeE_some {env : Env'} {i : Nat} {x : Slot} : ∀ {vs : List Nat}, (wipeE env vs)[i]? = some (some x) → env[i]? = some (some x) ∧ i ∉ vs
  | [], h => ⟨h, by simp⟩
  | v :: vs, h => by
    unfold wipeE at h
    by_cases e : i = v
    · subst e
      by_cases hl : i < (wipeE env vs).length
      · rw [List.getElem?_set_self hl] at h; cases h
      · rw [List.getElem?_eq_none (by rw [List.length_set]; omega)] at h; cases h
    · rw [List.getElem?_set_ne (Ne.symm e)] at h
      obtain ⟨h1, h2⟩ := wipeE_some h
      exact ⟨h1, by simp [e, h2]⟩
theorem wipe_at {σ : L2.St} {i : Nat} : ∀ {vs : List Nat}, i ∉ vs → (wipe σ vs)[i]? = σ[i]?
  | [], _ => rfl
  | v :: vs, h => by
    unfold wipe
    rw [List.getElem?_set_ne (fun e => h (by simp [e])), wipe_at (fun z => h (List.mem_cons_of_mem _ z))]
theorem wipe_wipe (σ : L2.St) : ∀ vs : List Nat, wipe (wipe σ vs) vs = wipe σ vs := fun vs => by
  have go : ∀ (us : List Nat) (τ : L2.St), (∀ v ∈ us, τ.set v none = τ) → wipe τ us = τ := by
    intro us
    induction us with
    | nil => intro τ _; rfl
    | cons u us ih =>
      intro τ h
      unfold wipe
      rw [ih τ (fun v hv => h v (List.mem_cons_of_mem _ hv))]
      exact h u List.mem_cons_self
  refine go vs _ fun v hv => ?_
  have : ∀ (us : List Nat), v ∈ us → (wipe σ us).set v none = wipe σ us := by
    intro us
    induction us with
    | nil => intro h; simp at h
    | cons u us ih =>
      intro h
      unfold wipe
      by_cases e : v = u
      · subst e; rw [List.set_set]
      · rw [set_none_comm, ih (by simpa [e] using h)]
  exact this vs hv
section
variable {S : Sta} {F : Fm} {g g' : Gh} {OS : Addr → Option Nat} {env : Env'} {h h' : AH} {σ : L2.St} {H H' : Hp}
theorem Rel.wiped (r : Rel S F g OS env h σ H) (vs : List Nat) : Rel S F g OS (wipeE env vs) h (wipe σ vs) H :=
  ⟨r.heap, ⟨by rw [wipeE_length, wipe_length]; exact r.slots.len, fun i s e => by
    obtain ⟨e1, e2⟩ := wipeE_some e
    obtain ⟨v, e3, z⟩ := r.slots.at_ i s e1
    exact ⟨v, by rw [wipe_at e2]; exact e3, z⟩, r.slots.os⟩, r.ent, r.pin⟩
theorem Rel.wrT {p : Addr} {o : HO} (r : Rel S F g OS env h σ H) (n1 : g.G p = none) (n2 : g.O p = none) (n3 : F.H0 p = none) (n4 : OS p = none) (l : HLen o) : Rel S F g OS env h σ (upd H p o) where
  heap := r.heap.wrT n1 n2 l
  pin := r.pin
  ent := ⟨fun x o z1 z2 => by rw [upd_ne (fun w : x = p => by rw [w, n3] at z1; cases z1)]; exact r.ent.keep x o z1 z2, r.ent.gk, r.ent.ok, fun x z => upd_dom (r.ent.dom x z), r.ent.pre⟩
  slots := ⟨r.slots.len, fun j sl z => by
      obtain ⟨u, z1, z2⟩ := r.slots.at_ j sl z
      refine ⟨u, z1, ?_⟩
      cases sl with
      | val d => exact z2
      | own es =>
        obtain ⟨b, us, y1, y2, y3, y4⟩ := z2
        exact ⟨b, us, y1, y2, by rw [upd_ne (fun w => by rw [w, n4] at y2; cases y2)]; exact y3, y4⟩,
    fun x j z => by
      obtain ⟨m1, m2, m3, m4⟩ := r.slots.os x j z
      exact ⟨m1, m2, m3, upd_dom m4⟩⟩
end
/-- the state of a comprehension: the new list stands at p -/
structure LcI (S : Sta) (F : Fm) (OS : Addr → Option Nat) (L : List (Env' × L2.St)) (g1 : Gh) (H1 : Hp) (p : Addr) (g : Gh) (H : Hp) (h : AH) (acc : List D) : Prop where
  rel : ∀ x ∈ L, Rel S F g OS x.1 h x.2 H
  heap : HeapOk S g H h
  st : Stp g1 H1 g H
  n0 : H1 p = none
  n3 : F.H0 p = none
  n4 : OS p = none
  n1 : g.G p = none
  n2 : g.O p = none
  lst : ∃ vs, H p = some (.lst vs) ∧ Reps S g acc vs
section
variable {S : Sta} {F : Fm} {OS : Addr → Option Nat} {L : List (Env' × L2.St)} {g1 g g' : Gh} {H1 H H' : Hp} {p : Addr} {h h' : AH} {acc : List D}
theorem LcI.step (c : LcI S F OS L g1 H1 p g H h acc) (s : Stp g H g' H') (k : HeapOk S g' H' h') : LcI S F OS L g1 H1 p g' H' h' acc where
  rel := fun x hx => (c.rel x hx).step s k
  heap := k
  st := c.st.trans s
  n0 := c.n0
  n3 := c.n3
  n4 := c.n4
  n1 := by obtain ⟨vs, e, _⟩ := c.lst; exact (s.gk p (by rw [e]; simp)).trans c.n1
  n2 := by obtain ⟨vs, e, _⟩ := c.lst; exact (s.ok p (by rw [e]; simp)).trans c.n2
  lst := by obtain ⟨vs, e, r⟩ := c.lst; exact ⟨vs, s.keep p _ e c.n2, r.mono (s.le c.heap)⟩
theorem LcI.app (c : LcI S F OS L g1 H1 p g H h acc) {d : D} {y : V} {vs : List V} (e : H p = some (.lst vs)) (r : Rep S g d y) (l : acc.length < sizeLine) : LcI S F OS L g1 H1 p g (upd H p (.lst (vs ++ [y]))) h (acc ++ [d]) := by
  obtain ⟨us, e', rs⟩ := c.lst
  rw [e] at e'
  cases e'
  have hl : HLen (.lst (vs ++ [y])) := by show (vs ++ [y]).length ≤ sizeLine; rw [List.length_append, List.length_singleton, ← rs.length]; omega
  exact ⟨fun x hx => (c.rel x hx).wrT c.n1 c.n2 c.n3 c.n4 hl, c.heap.wrT c.n1 c.n2 hl, ⟨fun x o z1 z2 => by rw [upd_ne (fun w : x = p => by rw [w, c.n0] at z1; cases z1)]; exact c.st.keep x o z1 z2, c.st.gk, c.st.ok, fun x z => upd_dom (c.st.dom x z), c.st.pre⟩, c.n0, c.n3, c.n4, c.n1, c.n2, _, upd_same, rs.append (.one r)⟩
/-! ### the plain loop -/
abbrev DTn := Env' → AH → List D → Res (List D)
def lcLoop (it : AH → Option (List D)) (t : Tg) (turn : DTn) (env : Env') : Nat → Nat → AH → List D → Res (List D)
  | 0, i, h, acc => match it h with
    | some ds => if ds.length = i then .ok acc h else .err
    | none => .err
  | n + 1, i, h, acc => match it h with
    | some ds => match ds[i]? with
      | some d => match bindT t d env with
        | some env' => (turn env' h acc).bind fun acc' h' => lcLoop it t turn env n (i + 1) h' acc'
        | none => .err
      | none => if ds.length = i then .ok acc h else .err
    | none => .err
def turn1 (ft : DB) (fe : DE) : DTn := fun env h acc => match ft env h with
  | .ok true h1 => match fe env h1 with
    | .ok ev h2 => match ev.toD with
      | some d => if acc.length < sizeLine then .ok (acc ++ [d]) h2 else .err
      | none => .err
    | _ => .err
  | .ok false h1 => .ok acc h1
  | _ => .err
def turn2 (ft : DB) (fi : DI) (t : Tg) (ft1 : DB) (fe : DE) (vs : List Nat) : DTn := fun env h acc => match ft env h with
  | .ok true h1 => match fi env h1 with
    | .ok sr h2 => if sr.pin then (match sr.items h2 with
      | some ds => lcLoop (fun h => sr.items h) t (turn1 ft1 fe) (wipeE env vs) ds.length 0 h2 acc
      | none => .err) else .err
    | _ => .err
  | .ok false h1 => .ok acc h1
  | _ => .err
def dLcT (fi : DI) (t : Tg) (turn : DTn) (vs : List Nat) : DE := fun env h => (fi env h).bind fun sr h1 => match sr.items h1 with
  | some ds => (lcLoop (fun h => sr.items h) t turn (wipeE env vs) ds.length 0 h1 []).bind fun acc h2 => .ok (.f acc) h2
  | none => .err
def dLc (fi : DI) (t : Tg) (ft : DB) (fe : DE) (vs : List Nat) : DE := dLcT fi t (turn1 ft fe) vs
def dLc2 (fi : DI) (t : Tg) (ft : DB) (fi1 : DI) (t1 : Tg) (ft1 : DB) (fe : DE) (vs vs1 : List Nat) : DE := dLcT fi t (turn2 ft fi1 t1 ft1 fe vs1) vs
abbrev W0 : WishX := fun _ _ _ => False
theorem loop_read {J : It} {it : AH → Option (List D)} {Ok : Gh → Hp → Prop} {t : Tg} {turn : DTn} {env : Env'} {Qd : Hp → Prop} {G : V → Hp → (Hp → Prop) → Prop} (jok : JOk S J it Ok) (stb : ∀ g H h acc, LcI S F OS L g1 H1 p g H h acc → Ok g H)
    (hG : ∀ g h acc d env' acc' h' x H' Nx, LcI S F OS L g1 H1 p g H' h acc → Rep S g d x → bindT t d env = some env' → turn env' h acc = .ok acc' h' → (∀ g' H'', LcI S F OS L g1 H1 p g' H'' h' acc' → Nx H'') → G x H' Nx)
    (n : Nat) (acc' : List D) (h' : AH) (c : LcI S F OS L g1 H1 p g H h acc) (e : lcLoop it t turn env n 0 h acc = .ok acc' h') (q : ∀ g' H', LcI S F OS L g1 H1 p g' H' h' acc' → Qd H') :
    ∃ W : Nat → Nat → Hp → Prop, (∃ m, W 0 m H) ∧ ∀ i m H, W i m H → (J.stop i H ∧ Qd H) ∨ (J.go i H ∧ ∃ Nx : Hp → Prop, (∀ H', Nx H' → ∃ m', m' < m ∧ W (i + 1) m' H') ∧ ∀ x H', J.yld i H x H' → G x H' Nx) := by
  refine ⟨fun i m H => ∃ g h acc, LcI S F OS L g1 H1 p g H h acc ∧ lcLoop it t turn env m i h acc = .ok acc' h', ⟨n, g, h, acc, c, e⟩, ?_⟩
  rintro i m H2 ⟨g2, h2, acc2, c2, e2⟩
  have ok2 := stb g2 H2 h2 acc2 c2
  have stop : ∀ ds, it h2 = some ds → ds.length = i → (Res.ok acc2 h2 : Res (List D)) = .ok acc' h' → J.stop i H2 ∧ Qd H2 := fun ds e3 e4 e5 => by
    have := (jok g2 H2 h2 ds c2.heap ok2 e3).1
    rw [e4] at this
    injection e5 with y1 y2
    refine ⟨this, q g2 H2 ?_⟩
    rw [← y1, ← y2]
    exact c2
  cases m with
  | zero =>
    unfold lcLoop at e2
    cases e3 : it h2 with
    | none => rw [e3] at e2; cases e2
    | some ds =>
      rw [e3] at e2
      simp only at e2
      split at e2
      · rename_i hl; exact .inl (stop ds e3 hl e2)
      · cases e2
  | succ m =>
    unfold lcLoop at e2
    cases e3 : it h2 with
    | none => rw [e3] at e2; cases e2
    | some ds =>
      rw [e3] at e2
      simp only at e2
      cases e4 : ds[i]? with
      | none =>
        rw [e4] at e2
        simp only at e2
        split at e2
        · rename_i hl; exact .inl (stop ds e3 hl e2)
        · cases e2
      | some d =>
        rw [e4] at e2
        simp only at e2
        cases e5 : bindT t d env with
        | none => rw [e5] at e2; cases e2
        | some env' =>
          rw [e5] at e2
          simp only at e2
          have jj := (jok g2 H2 h2 ds c2.heap ok2 e3).2 i d e4
          cases e6 : turn env' h2 acc2 with
          | err => rw [e6] at e2; cases e2
          | exc c h3 => rw [e6] at e2; cases e2
          | ok acc3 h3 =>
            rw [e6] at e2
            simp only [bind_ok] at e2
            refine .inr ⟨jj.1, fun H' => ∃ g h acc, LcI S F OS L g1 H1 p g H' h acc ∧ lcLoop it t turn env m (i + 1) h acc = .ok acc' h', fun H' z => ⟨m, Nat.lt_succ_self m, z⟩, fun x H' y => ?_⟩
            obtain ⟨g3, s3, k3, r3⟩ := jj.2 x H' y
            exact hG g3 h2 acc2 d env' acc3 h3 x H' _ (c2.step s3 k3) r3 e5 e6 fun g' H'' c' => ⟨g', h3, acc3, c', e2⟩
theorem turn1_read {F2 : Fm} {ft : DB} {fe : DE} {env2 : Env'} {σ2 : L2.St} {acc' : List D} {Nx : Hp → Prop} (c : LcI S F2 OS L g1 H1 p g H h acc) (rl : Rel S F g OS env2 h σ2 H) (e : turn1 ft fe env2 h acc = .ok acc' h') (q : ∀ g' H', LcI S F2 OS L g1 H1 p g' H' h' acc' → Nx H') :
    tX S F W0 ft σ2 H fun b H3 => if b = true then tE S F W0 fe σ2 H3 fun y H4 => ∃ acc, H4 p = some (.lst acc) ∧ acc.length < sizeLine ∧ Nx (upd H4 p (.lst (acc ++ [y]))) else Nx H3 := by
  refine ⟨g, OS, env2, h, rl, ?_⟩
  unfold turn1 at e
  cases e1 : ft env2 h with
  | err => rw [e1] at e; cases e
  | exc c h1 => rw [e1] at e; cases e
  | ok b h1 =>
    rw [e1] at e
    intro g2 H2 s2 k2
    cases b with
    | false =>
      simp only [Bool.false_eq_true, if_false] at e ⊢
      cases e
      exact q g2 H2 (c.step s2 k2)
    | true =>
      simp only [if_true] at e ⊢
      refine ⟨g2, OS, env2, h1, rl.step s2 k2, ?_⟩
      cases e2 : fe env2 h1 with
      | err => rw [e2] at e; cases e
      | exc c h1 => rw [e2] at e; cases e
      | ok ev h2 =>
        rw [e2] at e
        simp only at e
        intro v g3 H3 s3 k3 r3
        cases e3 : ev.toD with
        | none => rw [e3] at e; cases e
        | some d =>
          rw [e3] at e
          simp only at e
          split at e
          · rename_i hl
            cases e
            obtain ⟨g4, s4, k4, r4⟩ := r3.val e3 s3 k3
            have c4 := (c.step s2 k2).step s4 k4
            obtain ⟨vs, z1, z2⟩ := c4.lst
            exact ⟨vs, z1, by rw [← z2.length]; exact hl, q g4 _ (c4.app z1 r4 hl)⟩
          · cases e
theorem lc_noexc {it : AH → Option (List D)} {t : Tg} {turn : DTn} {env : Env'} (ht : ∀ env h acc c h', turn env h acc ≠ .exc c h') : ∀ (n i : Nat) (h : AH) (acc : List D) (c : Nat) (h' : AH), lcLoop it t turn env n i h acc ≠ .exc c h'
  | 0, i, h, acc, c, h', z => by
    unfold lcLoop at z
    split at z
    · split at z <;> cases z
    · cases z
  | n + 1, i, h, acc, c, h', z => by
    unfold lcLoop at z
    split at z
    · split at z
      · split at z
        · rename_i env' _
          cases e6 : turn env' h acc with
          | err => rw [e6] at z; cases z
          | ok a b => rw [e6] at z; exact lc_noexc ht n _ _ _ _ _ z
          | exc a b => exact ht _ _ _ _ _ e6
        · cases z
      · split at z <;> cases z
    · cases z
theorem turn1_noexc (ft : DB) (fe : DE) : ∀ env h acc c h', turn1 ft fe env h acc ≠ .exc c h' := by
  intro env h acc c h' e6
  unfold turn1 at e6
  split at e6
  · split at e6
    · split at e6
      · split at e6 <;> cases e6
      · cases e6
    · cases e6
  · cases e6
  · cases e6
theorem turn2_noexc (ft : DB) (fi : DI) (t : Tg) (ft1 : DB) (fe : DE) (vs : List Nat) : ∀ env h acc c h', turn2 ft fi t ft1 fe vs env h acc ≠ .exc c h' := by
  intro env h acc c h' e6
  unfold turn2 at e6
  split at e6
  · split at e6
    · split at e6
      · split at e6
        · exact lc_noexc (turn1_noexc ft1 fe) _ _ _ _ _ _ e6
        · cases e6
      · cases e6
    · cases e6
  · cases e6
  · cases e6
variable {W : WishX} {X : Cx} {elt tg iter tg1 iter1 : Expr} {ifs ifs1 : List Expr} {scope : Scope} {own : List (Str × Nat)} {pos : Pos} {fi fi1 : DI} {t t1 : Tg} {ft ft1 : DB} {fe : DE} {vs1 : List Nat}
theorem lc_read {vs : List Nat} (hv : ∀ i ∈ t.ix, i ∈ vs) (σ : L2.St) (H : Hp) (Q : VK) (hq : tE S F W (dLc fi t ft fe vs) σ H Q) : tLc (tI S F W fi) (tG S F t) (tX S F W0 ft) (tE S F W0 fe) vs σ H Q := by
  obtain ⟨g, OS, env, h, rl, q⟩ := hq
  refine ⟨g, OS, env, h, rl, ?_⟩
  unfold dLc dLcT at q
  cases e1 : fi env h with
  | err => rw [e1] at q; exact q
  | exc c h1 => rw [e1] at q; exact q
  | ok sr h1 =>
    rw [e1] at q
    simp only [bind_ok] at q
    intro J g1 H1 Ok s1 k1 jok ok1 stb _ p hp
    cases e2 : sr.items h1 with
    | none => rw [e2] at q; exact q.elim
    | some ds =>
      rw [e2] at q
      simp only at q
      have rl1 := rl.step s1 k1
      have n3 : F.H0 p = none := by
        cases z : F.H0 p with
        | none => rfl
        | some o => exact absurd hp (rl1.ent.dom p (by rw [z]; simp))
      have n4 : OS p = none := by
        cases z : OS p with
        | none => rfl
        | some j => exact absurd hp (rl1.slots.os p j z).2.2.2
      have c0 : LcI S F OS [(wipeE env vs, wipe σ vs)] g1 H1 p g1 (upd H1 p (.lst [])) h1 [] :=
        ⟨fun x hx => by rw [List.mem_singleton.mp hx]; exact (rl1.wiped vs).step (Stp.newT hp) (k1.newT hp (Nat.zero_le _)), k1.newT hp (Nat.zero_le _), Stp.newT hp, hp, n3, n4, k1.gn hp, k1.on hp, [], upd_same, .nil⟩
      cases e3 : lcLoop (fun h => sr.items h) t (turn1 ft fe) (wipeE env vs) ds.length 0 h1 [] with
      | err => rw [e3] at q; exact q.elim
      | exc c h1 => exact absurd e3 (lc_noexc (turn1_noexc ft fe) _ _ _ _ _ _)
      | ok acc h2 =>
        rw [e3] at q
        simp only [bind_ok] at q
        refine loop_read jok (fun g H _ _ c => stb g1 H1 g H h1 k1 c.st ok1) (fun g3 h3 acc3 d env' acc4 h4 x H' Nx c3 r3 e5 e6 nx => ?_) ds.length acc h2 c0 e3 fun g' H' c' => ?_
        · have rl3 := c3.rel _ List.mem_cons_self
          refine ⟨g3, OS, wipeE env vs, h3, d, env', rl3, r3, e5, fun σ2 rl2 sm => ⟨?_, turn1_read c3 rl2 e6 nx⟩⟩
          rw [sm vs hv, wipe_wipe]
        · obtain ⟨us, z1, z2⟩ := c'.lst
          refine q (.ref p) g' H' (s1.trans c'.st) c'.heap ⟨p, us, rfl, z1, z2, c'.n1, c'.n2, ?_⟩
          cases z : H p with
          | none => rfl
          | some o => exact absurd hp (s1.dom p (by rw [z]; simp))
theorem lc2_read {vs : List Nat} (hv : ∀ i ∈ t.ix, i ∈ vs) (hv1 : ∀ i ∈ t1.ix, i ∈ vs1) (σ : L2.St) (H : Hp) (Q : VK) (hq : tE S F W (dLc2 fi t ft fi1 t1 ft1 fe vs vs1) σ H Q) : tLc2 (tI S F W fi) (tG S F t) (tX S F W0 ft) (tI S F W0 fi1) (tG S F t1) (tX S F W0 ft1) (tE S F W0 fe) vs vs1 σ H Q := by
  obtain ⟨g, OS, env, h, rl, q⟩ := hq
  refine ⟨g, OS, env, h, rl, ?_⟩
  unfold dLc2 dLcT at q
  cases e1 : fi env h with
  | err => rw [e1] at q; exact q
  | exc c h1 => rw [e1] at q; exact q
  | ok sr h1 =>
    rw [e1] at q
    simp only [bind_ok] at q
    intro J g1 H1 Ok s1 k1 jok ok1 stb _ p hp
    cases e2 : sr.items h1 with
    | none => rw [e2] at q; exact q.elim
    | some ds =>
      rw [e2] at q
      simp only at q
      have rl1 := rl.step s1 k1
      have n3 : F.H0 p = none := by
        cases z : F.H0 p with
        | none => rfl
        | some o => exact absurd hp (rl1.ent.dom p (by rw [z]; simp))
      have n4 : OS p = none := by
        cases z : OS p with
        | none => rfl
        | some j => exact absurd hp (rl1.slots.os p j z).2.2.2
      have c0 : LcI S F OS [(wipeE env vs, wipe σ vs)] g1 H1 p g1 (upd H1 p (.lst [])) h1 [] :=
        ⟨fun x hx => by rw [List.mem_singleton.mp hx]; exact (rl1.wiped vs).step (Stp.newT hp) (k1.newT hp (Nat.zero_le _)), k1.newT hp (Nat.zero_le _), Stp.newT hp, hp, n3, n4, k1.gn hp, k1.on hp, [], upd_same, .nil⟩
      cases e3 : lcLoop (fun h => sr.items h) t (turn2 ft fi1 t1 ft1 fe vs1) (wipeE env vs) ds.length 0 h1 [] with
      | err => rw [e3] at q; exact q.elim
      | exc c h1 => exact absurd e3 (lc_noexc (turn2_noexc _ _ _ _ _ _) _ _ _ _ _ _)
      | ok acc h2 =>
        rw [e3] at q
        simp only [bind_ok] at q
        refine loop_read jok (fun g H _ _ c => stb g1 H1 g H h1 k1 c.st ok1) (fun g3 h3 acc3 d env' acc4 h4 x H' Nx c3 r3 e5 e6 nx => ?_) ds.length acc h2 c0 e3 fun g' H' c' => ?_
        · have rl3 := c3.rel _ List.mem_cons_self
          refine ⟨g3, OS, wipeE env vs, h3, d, env', rl3, r3, e5, fun σ2 rl2 sm => ⟨by rw [sm vs hv, wipe_wipe], ?_⟩⟩
          refine ⟨g3, OS, env', h3, rl2, ?_⟩
          unfold turn2 at e6
          cases f1 : ft env' h3 with
          | err => rw [f1] at e6; cases e6
          | exc c h1 => rw [f1] at e6; cases e6
          | ok b h5 =>
            rw [f1] at e6
            intro g5 H5 s5 k5
            cases b with
            | false =>
              simp only [Bool.false_eq_true, if_false] at e6 ⊢
              cases e6
              exact nx g5 H5 (c3.step s5 k5)
            | true =>
              simp only [if_true] at e6 ⊢
              refine ⟨g5, OS, env', h5, rl2.step s5 k5, ?_⟩
              cases f2 : fi1 env' h5 with
              | err => rw [f2] at e6; cases e6
              | exc c h1 => rw [f2] at e6; cases e6
              | ok sr2 h6 =>
                rw [f2] at e6
                simp only at e6
                intro J2 g6 H6 Ok2 s6 k6 jok2 ok2 _ mono2
                cases hpin : sr2.pin with
                | false => rw [hpin] at e6; cases e6
                | true =>
                  rw [hpin] at e6
                  simp only [if_true] at e6
                  have mono2 := mono2 hpin
                  cases f3 : sr2.items h6 with
                  | none => rw [f3] at e6; cases e6
                  | some ds2 =>
                    rw [f3] at e6
                    simp only at e6
                    have c6 := (c3.step s5 k5).step s6 k6
                    have rl6 := (rl2.step s5 k5).step s6 k6
                    have mono' : ∀ g g', Gle g g' → (∀ H, Ok2 g H) → ∀ H, Ok2 g' H := fun g g' le z H => mono2 g H g' H le (z H)
                    have ok2' : ∀ H, Ok2 g6 H := fun H => mono2 g6 H6 g6 H (Gle.refl g6) ok2
                    have c7 : LcI S (F.more (fun g => ∀ H, Ok2 g H) mono') OS [(wipeE env' vs1, wipe σ2 vs1), (wipeE env vs, wipe σ vs)] g1 H1 p g6 H6 h6 acc3 :=
                      ⟨fun x hx => by
                        rcases List.mem_cons.mp hx with rfl | hx
                        · exact (rl6.wiped vs1).mor ok2'
                        · exact (c6.rel x hx).mor ok2', c6.heap, c6.st, c6.n0, c6.n3, c6.n4, c6.n1, c6.n2, c6.lst⟩
                    refine loop_read (G := fun x H' Nx1 => tG S F t1 x (wipe σ2 vs1) H' fun σ3 H5 => wipe σ3 vs1 = wipe σ2 vs1 ∧ tX S F W0 ft1 σ3 H5 fun b H6 => if b = true then tE S F W0 fe σ3 H6 fun y H7 => ∃ acc, H7 p = some (.lst acc) ∧ acc.length < sizeLine ∧ Nx1 (upd H7 p (.lst (acc ++ [y]))) else Nx1 H6)
                      (F := F.more (fun g => ∀ H, Ok2 g H) mono') (L := [(wipeE env' vs1, wipe σ2 vs1), (wipeE env vs, wipe σ vs)]) jok2 (fun g H _ _ c => (c.rel (wipeE env' vs1, wipe σ2 vs1) List.mem_cons_self).pin.2 H) (fun g3 h3 acc3 d env3 acc4 h4 x H' Nx c3 r3 e5 e6 nx => ?_) ds2.length acc4 h4 c7 e6 fun g' H' c' => nx g' H' ⟨fun x hx => (c'.rel x (List.mem_cons_of_mem _ hx)).less, c'.heap, c'.st, c'.n0, c'.n3, c'.n4, c'.n1, c'.n2, c'.lst⟩
                    refine ⟨g3, OS, wipeE env' vs1, h3, d, env3, (c3.rel _ List.mem_cons_self).less, r3, e5, fun σ3 rl3 sm => ⟨by rw [sm vs1 hv1, wipe_wipe], turn1_read c3 rl3 e6 nx⟩⟩
        · obtain ⟨us, z1, z2⟩ := c'.lst
          refine q (.ref p) g' H' (s1.trans c'.st) c'.heap ⟨p, us, rfl, z1, z2, c'.n1, c'.n2, ?_⟩
          cases z : H p with
          | none => rfl
          | some o => exact absurd hp (s1.dom p (by rw [z]; simp))
theorem ae_lc (hc : X.calm = true) (hN : X.N.Nodup) (hi : PI X tg iter (tI S F W fi)) (ok : BlkOk X.N X.env.scope scope own)
    (hg : ∀ (s : Shared) (H : Hp) (C : Addr) (cl : List (Str × Addr)) (fp : List Addr), PG (X.blk s H scope (compEnvC scope cl C X.env) fp) tg (tG S F t)) (ht : ∀ (s : Shared) (H : Hp) (C : Addr) (cl : List (Str × Addr)) (fp : List Addr), PTs (X.blk s H scope (compEnvC scope cl C X.env) fp) ifs (tX S F W0 ft))
    (he : ∀ (s : Shared) (H : Hp) (C : Addr) (cl : List (Str × Addr)) (fp : List Addr), PE (X.blk s H scope (compEnvC scope cl C X.env) fp) elt (tE S F W0 fe)) (hv : ∀ i ∈ t.ix, i ∈ own.map (·.2)) (hs : ∀ x, foldedSetIterable iter X.env x = pure x) :
    PE X (.ListComp elt [⟨tg, iter, ifs, 0⟩] scope pos) (tE S F W (dLc fi t ft fe (own.map (·.2)))) := PEim (pe_lc hc hN hi ok hg ht he hs) (lc_read hv)
theorem as_setLc {i : Nat} {y : Str} {py spos : Pos} (ow : Bool) (hc : X.calm = true) (hN : X.N.Nodup) (hy : X.N[i]? = some y) (hyl : X.env.scope.names.lookup y = some .local)
    (hsw : swapsWith (.ListComp elt [⟨tg, iter, ifs, 0⟩] scope pos) (some (.Name y py)) spos.line X.env = pure true) (hi : PI X tg iter (tI S F W fi)) (ok : BlkOk X.N X.env.scope scope own)
    (hg : ∀ (s : Shared) (H : Hp) (C : Addr) (cl : List (Str × Addr)) (fp : List Addr), PG (X.blk s H scope (compEnvC scope cl C X.env) fp) tg (tG S F t)) (ht : ∀ (s : Shared) (H : Hp) (C : Addr) (cl : List (Str × Addr)) (fp : List Addr), PTs (X.blk s H scope (compEnvC scope cl C X.env) fp) ifs (tX S F W0 ft))
    (he : ∀ (s : Shared) (H : Hp) (C : Addr) (cl : List (Str × Addr)) (fp : List Addr), PE (X.blk s H scope (compEnvC scope cl C X.env) fp) elt (tE S F W0 fe)) (hv : ∀ i ∈ t.ix, i ∈ own.map (·.2)) (hs : ∀ x, foldedSetIterable iter X.env x = pure x) :
    PS X (.Assign [.Name y py] (.ListComp elt [⟨tg, iter, ifs, 0⟩] scope pos) spos) (tS S F W (dSet i ow (dLc fi t ft fe (own.map (·.2))))) :=
  PSim (ps_setLc hc hN hy hyl hsw hi ok hg ht he hs) fun D σ H hq => lc_read hv σ H _ (set_read D σ H hq)
theorem ae_lc2 (hc : X.calm = true) (hN : X.N.Nodup) (hi : PI X tg iter (tI S F W fi)) (ok : BlkOk X.N X.env.scope scope own) (hvs : ∀ i ∈ vs1, i ∈ own.map (·.2))
    (hg : ∀ (s : Shared) (H : Hp) (C : Addr) (cl : List (Str × Addr)) (fp : List Addr), PG (X.blk s H scope (compEnvC scope cl C X.env) fp) tg (tG S F t)) (ht : ∀ (s : Shared) (H : Hp) (C : Addr) (cl : List (Str × Addr)) (fp : List Addr), PTs (X.blk s H scope (compEnvC scope cl C X.env) fp) ifs (tX S F W0 ft))
    (hi1 : ∀ (s : Shared) (H : Hp) (C : Addr) (cl : List (Str × Addr)) (fp : List Addr), PI (X.blk s H scope (compEnvC scope cl C X.env) fp) tg1 iter1 (tI S F W0 fi1))
    (hg1 : ∀ (s : Shared) (H : Hp) (C : Addr) (cl : List (Str × Addr)) (fp : List Addr), PG (X.blk s H scope (compEnvC scope cl C X.env) fp) tg1 (tG S F t1)) (ht1 : ∀ (s : Shared) (H : Hp) (C : Addr) (cl : List (Str × Addr)) (fp : List Addr), PTs (X.blk s H scope (compEnvC scope cl C X.env) fp) ifs1 (tX S F W0 ft1))
    (he : ∀ (s : Shared) (H : Hp) (C : Addr) (cl : List (Str × Addr)) (fp : List Addr), PE (X.blk s H scope (compEnvC scope cl C X.env) fp) elt (tE S F W0 fe)) (hv : ∀ i ∈ t.ix, i ∈ own.map (·.2)) (hv1 : ∀ i ∈ t1.ix, i ∈ vs1) (hs : ∀ x, foldedSetIterable iter X.env x = pure x) (hs1 : ∀ env x, foldedSetIterable iter1 env x = pure x) :
    PE X (.ListComp elt [⟨tg, iter, ifs, 0⟩, ⟨tg1, iter1, ifs1, 0⟩] scope pos) (tE S F W (dLc2 fi t ft fi1 t1 ft1 fe (own.map (·.2)) vs1)) := PEim (pe_lc2 hc hN hi ok hvs hg ht hi1 hg1 ht1 he hs hs1) (lc2_read hv hv1)
def dYes : DB := fun _ h => .ok true h
theorem ats_nil : PTs X [] (tX S F W dYes) := ⟨fun pins s σ H Q I h => pts_nil.run pins s σ H Q I (by
  obtain ⟨g, OS, env, h, rl, q⟩ := h
  exact q g H (Stp.refl g H) rl.heap)⟩
theorem ats_one {c : Expr} {f : DB} (h : PT X c (tX S F W f)) : PTs X [c] (tX S F W f) := pts_one h
end
end J

/-! an exception that is caught and kept as a value -/
namespace J
open PySem PySem.Spec PyProof.Rows L2
theorem track {X : Cx} {pins : List (Addr × Obj)} {σ : L2.St} {H : Hp} {s : Shared} {a : Addr} {oe : Obj} {cls : Value} (I : Inv X ((a, oe) :: pins) σ H s) (n0 : X.s_0.heap.get? a = none) (hp : ∀ p ∈ X.pn ++ pins, p.1 ≠ a) (hz : Zc cls none oe) (hd : ∃ vs, oe.data = .fields vs) :
    Inv X pins σ (upd H a (ExT cls a)) s := by
  obtain ⟨ga, na, nL, nF, nc⟩ := I.pin (a, oe) (List.mem_append_right _ List.mem_cons_self)
  have ga : s.heap.get? a = some oe := ga
  have na : H a = none := na
  obtain ⟨vs, hd⟩ := hd
  have neT : ∀ b o, H b = some o → b ≠ a := fun b o e z => by rw [z, na] at e; cases e
  refine ⟨I.ok, I.os, I.bare, ⟨I.base.keep, I.base.slot, fun b o e n hb => ?_, I.base.there, fun b xs e => ?_, fun b o u e => ?_, fun b ps e => ?_⟩, I.loc, I.cell, ?_, fun x c e => ?_, fun p hq => ?_, fun b u e => ?_, I.len⟩
  · rw [upd_ne (fun z => by rw [z, n0] at e; cases e)]; exact I.base.free b o e n hb
  · rw [upd_ne (neT b _ (I.base.tups b xs e))]; exact I.base.tups b xs e
  · rw [upd_ne (neT b _ (I.base.frzs b o u e))]; exact I.base.frzs b o u e
  · obtain ⟨m, z⟩ := I.base.tbls b ps e
    exact ⟨m, by rw [upd_ne (neT b _ z)]; exact z⟩
  · rw [upd_ne (Ne.symm nL)]; exact I.free
  · obtain ⟨v, q⟩ := I.cell x c e
    rw [upd_ne (fun z => ?_)]
    · exact I.freeC x c e
    · subst z
      obtain ⟨o, q1, q2⟩ := q
      rw [ga] at q1
      cases q1
      exact nc _ q2
  · have hq' : p ∈ X.pn ++ (a, oe) :: pins := by
      rcases List.mem_append.mp hq with h | h
      · exact List.mem_append_left _ h
      · exact List.mem_append_right _ (List.mem_cons_of_mem _ h)
    obtain ⟨z1, z2, z3⟩ := I.pin p hq'
    exact ⟨z1, by rw [upd_ne (hp p hq)]; exact z2, z3⟩
  · by_cases hb : b = a
    · subst hb
      rw [upd_same] at e
      cases e
      exact ⟨⟨oe, vs, ga, hz, hd⟩, ⟨oe, ga⟩, fun _ _ ⟨o, v, q, r⟩ k => ⟨o, v, k o q, r⟩⟩
    · rw [upd_ne hb] at e
      exact (I.hok b u e).stay (fun c v _ q => q) (fun c q => by rw [upd_ne (neT c _ q)]; exact q) fun c xs q => by rw [upd_ne (neT c _ q)]; exact q
/-- what 'except x as n: y = n' wishes: slot i is n's, slot j is y's -/
def wOut (K : PySem.W.Frag) (c : Value) (i j : Nat) (Wout : WX) (D : Ends) : WX := fun cls d σ H =>
  ∃ b, PySem.W.exmOne K cls c = some b ∧ (b = true → d = none ∧ ∀ a, H a = none → D.nx ((((σ.set i (some (.ref a))).set j (some (.ref a)))).set i none) (upd H a (ExT cls a))) ∧ (b = false → Wout cls d σ H)
section
variable {X : Cx} {x n y : Str} {c : Value} {i j : Nat} {body : List Stmt} {np pn py apos pos pos' : Pos} {tb : WX → TS} {Wout : WX}
theorem ps_try_out (hs : X.stack = X.env :: X.outer) (hf : X.env.frame = some X.env.locals) (hx0 : X.ex = []) (hN : X.N.Nodup) (hi : X.N[i]? = some n) (hj : X.N[j]? = some y) (hij : i ≠ j) (hln : X.env.kindOf n = some .local) (hly : X.env.scope.names.lookup y = some .local) (hc : Names X x c) (tk : Takes X Wout)
    (hdn : (n == ("__debug__" : Str)) = false) (hcd : (n == ("__classdict__" : Str)) = false)
    (hb : ∀ (W : WX) (pn : List (Addr × Obj)) (xe : Value → Shared → Prop), Takes (X.tr pn xe) W → PassesOwn (model X.prog X.w) X.A X.env xe → PSs (X.tr pn xe) body (tb W)) :
    PS X (.Try body [.ExceptHandler (some (.Name x np)) (some n) [.Assign [.Name y py] (.Name n pn) apos] pos'] [] [] pos) (fun D σ H => tb (wOut X.K c i j Wout D) D σ H) := by
  refine ⟨fun pins s σ H D I h => ?_⟩
  have ok := I.ok
  have hfr : X.A.frames = some (X.env :: X.outer) := by rw [ok.frames, hs]
  have hloc : Loc X.env.scope n := .inl hln
  refine wpAny_Try_except ?_
  refine wpAny_mono ((hb (wOut X.K c i j Wout D) (X.pn ++ pins) (fun e s₁ => wpAny (model X.prog X.w) X.A (noteFrame e X.env) (fun _ s₂ => wpAny (model X.prog X.w) X.A (setFlight e none) (fun _ s₃ =>
    wpAny (model X.prog X.w) X.A (handleBy e X.env [.ExceptHandler (some (.Name x np)) (some n) [.Assign [.Name y py] (.Name n pn) apos] pos']) (SP X pins D) X.xe s₃) X.xe s₂) X.xe s₁) (fun u s' xx => ?_) PassesOwn.looking).run [] s σ H D (I.toTry _) h) (fun f s1 hsp => ?_) (fun e s1 he => he)
  · -- the catch
    obtain ⟨a, B, sI, pins', σ', H', cls, d, rfl, J', nb, up, sky, na, os, ag, b, hb1, hyes, hno⟩ := xx
    have J : Inv X pins σ' H' sI := J'.ofTry ok
    have sky' : Sky B (X.env :: X.outer) a (Zc cls d) X.env.locals s'.heap := by rw [← hs]; exact sky
    have Ba : B.get? a = none := by
      rcases sky with ⟨_, z, _⟩ | ⟨_, z, _⟩ | ⟨_, z, _⟩ <;> exact z
    show wpAny (model X.prog X.w) X.A (noteFrame (.ref a) X.env) _ _ _
    refine Sky.land Zc.steady hfr hf sky' fun h3 fl3 up3 => ?_
    have J3 : Inv X pins σ' H' { s' with heap := h3 } := J.landed nb fl3.1 (up.trans up3) os ag
    obtain ⟨oe3, vs3, he3, hz3, hd3⟩ := fl3.there
    have notFr : ∀ {h : Heap} {o : Obj} {vs : Array Value}, h.FunFrames B (X.env :: X.outer) → h.get? a = some o → o.data = .fields vs → a ∉ frs (X.env :: X.outer) := fun {h o vs} ff e dd hm => by
      obtain ⟨_, o', e', hnf⟩ := ff.mem hm
      rw [e] at e'; cases e'
      exact hnf _ dd
    have nfr := notFr fl3.2.2.1 he3 hd3
    have nL : a ≠ X.env.locals := fun z => nfr (List.mem_filterMap.mpr ⟨X.env, List.mem_cons_self, by rw [hf, z]⟩)
    have nF : a ∉ X.fs := fun hm => by
      obtain ⟨e, he, q⟩ := List.mem_filterMap.mp hm
      exact nfr (List.mem_filterMap.mpr ⟨e, List.mem_cons_of_mem _ he, q⟩)
    have nI : sI.heap.get? a = none := by
      cases e : sI.heap.get? a with
      | none => rfl
      | some o =>
        have := nb a o e (by show a ∉ frs X.stack; rw [hs]; exact nfr)
        rw [Ba] at this; cases this
    have n0 : X.s_0.heap.get? a = none := by
      cases e : X.s_0.heap.get? a with
      | none => rfl
      | some o =>
        obtain ⟨o', z⟩ := J.base.there a o e (by rw [hx0]; simp)
        rw [nI] at z; cases z
    have npin : ∀ p ∈ X.pn ++ pins, p.1 ≠ a := fun p hp z => by
      have := (J.pin p hp).1
      rw [z, nI] at this; cases this
    have S3 := J3.suite he3 hd3 na nL nF
    refine wpAny_handleBy_cons (codeAny_handlers_test ?_) (by intro q; cases q)
    have LT : PySem.W.Looks (model X.prog X.w) h3 (typeOf (.ref a)) cls := fun A Q E s k q => wpAny_typeOf_ref (k _ _ he3) (by rw [hz3.1]; exact q)
    have LM := PySem.W.exm_one (M := model X.prog X.w) (J3.kIn) LT hb1
    have test : ∀ {Q : Value → Shared → Prop} {E : Value → Shared → Prop}, Q c { s' with heap := h3 } → wpAny (model X.prog X.w) (X.A.mark (some (.ref a))) (eval (.Name x np) X.env) Q E { s' with heap := h3 } := fun {Q E} q => by
      obtain ⟨hg, hdbg, hm | ⟨hm, hv, hnn⟩⟩ := hc
      · exact ld_glob (X := X.suite a ((a, oe3) :: (X.pn ++ pins))) S3 hg hm q hdbg
      · exact ld_blt (X := X.suite a ((a, oe3) :: (X.pn ++ pins))) S3 hg hm hv q hnn hdbg
    refine test (LM.here ?_)
    cases b with
    | true =>
      obtain ⟨hd0, hye2⟩ := hyes rfl
      subst hd0
      refine codeAny_handlers_suite_as ?_
      refine HandSPX.lands_againZ fl3 fun h4 fl4 up4 => ?_
      have J4 : Inv X pins σ' H' { s' with heap := h4 } := J.landed nb fl4.1 ((up.trans up3).trans up4) os ag
      obtain ⟨oe4, vs4, he4, hz4, hd4⟩ := fl4.there
      have S4 := J4.suite he4 hd4 na nL nF
      refine store_ok (X := X.suite a ((a, oe4) :: (X.pn ++ pins))) (v := .ref a) S4 hN hi hloc rfl (fun s5 S5 => ?_) (.inr hln)
      have hl : i < σ'.length := by rw [J.len]; exact (List.getElem?_eq_some_iff.mp hi).1
      have asg : PSs (X.suite a ((a, oe4) :: (X.pn ++ pins))) [.Assign [.Name y py] (.Name n pn) apos] (tSeq (tAsg (tVar i) (gName j)) tNext) :=
        pss_cons (ps_set (X := X.suite a ((a, oe4) :: (X.pn ++ pins))) hN hj (.inl hly) (pe_var hi (.inl hln) hdn hcd) rfl (.inr hly)) pss_nil
      refine wpAny_mono (asg.run [] s5 _ H' { D with nx := fun σ6 H6 => σ6 = (σ'.set i (some (.ref a))).set j (some (.ref a)) ∧ H6 = H', rt := fun _ _ => False, bk := fun _ _ => False, ct := fun _ _ => False } S5 ⟨.ref a, List.getElem?_set_self hl, rfl, rfl⟩) (fun f s6 hsp => ?_) (fun _ _ z => False.elim z)
      cases f with
      | next =>
        obtain ⟨σ6, H6, S6, q6, q7⟩ := hsp
        subst q6 q7
        have S7 : Inv X ((a, oe4) :: pins) _ H6 s6 := ⟨ok, S6.os, S6.bare, S6.base, S6.loc, S6.cell, S6.free, S6.freeC, fun p hp => S6.pin p (by
          rw [List.append_nil]
          rcases List.mem_append.mp hp with h | h
          · exact List.mem_cons_of_mem _ (List.mem_append_left _ h)
          · rcases List.mem_cons.mp h with h | h
            · rw [h]; exact List.mem_cons_self
            · exact List.mem_cons_of_mem _ (List.mem_append_right _ h)), S6.hok, S6.len⟩
        exact gone_ok S7 hN hi hln fun s7 J7 => ⟨_, _, track J7 n0 npin hz4 ⟨_, hd4⟩, hye2 a na⟩
      | brk => obtain ⟨_, _, _, z⟩ := hsp; exact z.elim
      | cont => obtain ⟨_, _, _, z⟩ := hsp; exact z.elim
      | ret u => obtain ⟨_, _, _, _, _, z⟩ := hsp; exact z.elim
    | false =>
      show wpAny _ X.A (handleBy (.ref a) X.env []) _ _ _
      refine wpAny_handleBy_nil ?_
      obtain ⟨k1, k2, k3, oe, vs, T, oT, ts', he, hz, hd, h1, hr⟩ := id fl3
      unfold PySem.passOn
      refine wpAny_bind (wpAny_field he hd h1 ?_)
      rw [if_neg (show ¬ ((Value.ref T == Value.none) = true) from by simp)]
      have fin : wpAny (model X.prog X.w) X.A (setFlight (.ref a) X.env.frame) (fun _ s4 => wpAny (model X.prog X.w) X.A (throw (.ref a) : Sem Flow) (SP X pins D) X.xe s4) X.xe { s' with heap := h3 } := by
        rw [hf]
        refine HandSPX.setFlight_upZ fl3 fun h4 hh4 up4 => wpAny_throw (tk _ _ ?_)
        exact ⟨a, B, sI, pins, σ', H', cls, d, rfl, J, nb, (up.trans up3).trans up4, .inr (.inr (by rw [hs]; exact hh4)), na, os, ag, hno rfl⟩
      first
        | exact wpAny_bind (wpAny_pure (wpAny_bind fin))
        | exact wpAny_bind fin
  · cases f with
    | next =>
      obtain ⟨σ', H', J', q⟩ := hsp
      exact wpAny_execs_nil ⟨σ', H', J'.ofTry ok, q⟩
    | brk =>
      obtain ⟨σ', H', J', q⟩ := hsp
      exact ⟨σ', H', J'.ofTry ok, q⟩
    | cont =>
      obtain ⟨σ', H', J', q⟩ := hsp
      exact ⟨σ', H', J'.ofTry ok, q⟩
    | ret u =>
      obtain ⟨v, σ', H', J', r, q⟩ := hsp
      exact ⟨v, σ', H', J'.ofTry ok, r, q⟩
end
/-! ### as plain functions -/
def dTry (fb : DS) (ok : Nat → Option Bool) (i j : Nat) : DS := fun env h => match fb env h with
  | .exc c env' h' => match ok c with
    | some true => .nx ((env'.set j (some (.val (.exc c)))).set i none) h'
    | some false => .exc c env' h'
    | none => .err
  | r => r
section
variable {S : Sta} {F : Fm} {W : WishX} {X : Cx} {x n y : Str} {cv : Value} {i j : Nat} {body : List Stmt} {np pn py apos pos pos' : Pos} {fb : DS} {okc : Nat → Option Bool}
theorem Slots.setNone {g : Gh} {OS : Addr → Option Nat} {env : Env'} {σ : L2.St} {H : Hp} {i : Nat} (s : Slots S F g OS env σ H) : Slots S F g OS (env.set i none) (σ.set i none) H where
  len := by rw [List.length_set, List.length_set]; exact s.len
  os := s.os
  at_ := fun j sl e => by
    by_cases hj : j = i
    · subst hj
      have hl : j < env.length := by
        have := (List.getElem?_eq_some_iff.mp e).1
        rwa [List.length_set] at this
      rw [List.getElem?_set_self hl] at e
      cases e
    · rw [List.getElem?_set_ne (Ne.symm hj)] at e
      obtain ⟨u, e1, z⟩ := s.at_ j sl e
      exact ⟨u, by rw [List.getElem?_set_ne (Ne.symm hj)]; exact e1, z⟩
theorem set_over (σ : L2.St) (i j : Nat) (a b : Option V) (h : i ≠ j) : ((σ.set i a).set j b).set i none = (σ.set j b).set i none := by
  rw [List.set_comm _ _ h, List.set_set]
theorem as_try (hs : X.stack = X.env :: X.outer) (hf : X.env.frame = some X.env.locals) (hx0 : X.ex = []) (hN : X.N.Nodup) (hi : X.N[i]? = some n) (hj : X.N[j]? = some y) (hij : i ≠ j) (hln : X.env.kindOf n = some .local) (hly : X.env.scope.names.lookup y = some .local) (hc : Names X x cv) (tk : Takes X (wxOf S W))
    (hdn : (n == ("__debug__" : Str)) = false) (hcd : (n == ("__classdict__" : Str)) = false) (hexm : ∀ c b, okc c = some b → PySem.W.exmOne X.K (.ref (S.cadr c)) cv = some b)
    (hb : ∀ (W : WishX) (pn : List (Addr × Obj)) (xe : Value → Shared → Prop), Takes (X.tr pn xe) (wxOf S W) → PassesOwn (model X.prog X.w) X.A X.env xe → PSs (X.tr pn xe) body (tS S F W fb)) :
    PS X (.Try body [.ExceptHandler (some (.Name x np)) (some n) [.Assign [.Name y py] (.Name n pn) apos] pos'] [] [] pos) (tS S F W (dTry fb okc i j)) := by
  refine PSim (ps_try_out (tb := fun Wx => tS S F (fun c σ H => Wx (.ref (S.cadr c)) none σ H) fb) hs hf hx0 hN hi hj hij hln hly hc tk hdn hcd fun Wx pn xe t p => hb _ pn xe (t.imp fun cls d σ H ⟨c, e1, e2, z⟩ => by rw [e1, e2]; exact z) p) fun D σ H hq => ?_
  obtain ⟨g, OS, env, h, rl, q⟩ := tS_fin.mp hq
  refine tS_fin.mpr ⟨g, OS, env, h, rl, ?_⟩
  unfold dTry at q
  cases e1 : fb env h with
  | err => rw [e1] at q; exact q
  | nx env' h' => rw [e1] at q; exact q
  | ret d h' => rw [e1] at q; exact q
  | exc c env' h' =>
    rw [e1] at q
    simp only at q
    intro g' OS' σ' H' rl'
    cases e2 : okc c with
    | none => rw [e2] at q; exact q.elim
    | some b =>
      rw [e2] at q
      refine ⟨b, hexm c b e2, fun hb => ?_, fun hb => ?_⟩
      · subst hb
        simp only at q
        refine ⟨rfl, fun a na => ?_⟩
        rw [set_over _ _ _ _ _ hij]
        have st : Stp g' H' (g'.frz a (ExT (.ref (S.cadr c)) a)) (upd H' a (ExT (.ref (S.cadr c)) a)) := Stp.new na
        have rl2 := rl'.step st (rl'.heap.new na (by exact True.intro))
        exact q _ OS' _ _ ⟨rl2.heap, (rl2.slots.setVal (i := j) (.exc upd_same)).setNone, rl2.ent, rl2.pin⟩
      · subst hb
        exact ⟨c, rfl, rfl, q g' OS' σ' H' rl'⟩
/-! ### isinstance of such a value -/
def rIsT (K : PySem.W.Frag) : List V → Hp → VK → Prop := fun xs H Q => ∃ (a cl : Addr) (c : V) (cv : Value) (b : Bool), xs = [.ref a, c] ∧ H a = some (ExT (.ref cl) a) ∧ ExcC K cl ∧ (∀ u, RelV c u → u = cv) ∧ PySem.W.kitOne K (.ref cl) cv = some b ∧ Q (.bl b) H
theorem call_isT : CallR X (.builtin "isinstance") (rIsT X.K) := by
  intro pins s σ H xs us Q I r h
  obtain ⟨a, D, c, cv, b, rfl, ha, C, hcv, e, q⟩ := h
  cases r with
  | cons rx rr =>
    cases rr with
    | cons rt rr =>
      cases rr
      cases rx
      have ec := hcv _ rt
      subst ec
      obtain ⟨⟨oe, vs, hget, hz, hv⟩, _⟩ := (show ObjOk X.prog X.w H s.heap a (ExT (.ref D) a) from I.hok a _ ha)
      have J : PySem.W.InstAt s.heap a oe D none := by
        obtain ⟨oc, od, oda, osl⟩ := oe
        obtain ⟨h1, h2⟩ := hz
        dsimp only at h1 h2 hv
        subst h1 h2 hv
        exact ⟨hget, rfl, rfl, trivial⟩
      exact PySem.W.kia_one (PySem.W.handS_kitx_exc C.hg C.hk C.hs C.hd C.ha C.hn C.ht C.hm) I.kIn J e (fun z => nomatch z) fun tk => ⟨.bl b, H, I.kept (t' := tk) fun _ _ z => z, rfl, q⟩
def isEK (f : Nat → Option Bool) : AH → EV → Option EV := fun _ e => match e with
  | .v (.exc c) => (f c).map fun b => .v (.bl b)
  | _ => none
theorem ae_isE {p p2 : Pos} {a : Expr} {fa : DE} {f : Nat → Option Bool} {vT : V} {pos : Pos} (hg : Gl X "isinstance") (hm : X.mg "isinstance" = none) (hT : PE X (.Name y p2) (tC vT)) (hv : ∀ u, RelV vT u → u = cv) (hf : ∀ c b, f c = some b → ExcC X.K (S.cadr c) ∧ PySem.W.kitOne X.K (.ref (S.cadr c)) cv = some b)
    (ha : PE X a (tE S F W fa)) (hs : notStar a = true) : PE X (.Call (.Name "isinstance" p) [a, .Name y p2] [] pos) (tE S F W (den1 fa (isEK f))) := by
  refine PEim (pe_callB call_isT hg hm boot_isinstance (pa2 ha hT hs rfl) (by decide) (by decide) (starEach_cons hs) (backTo_any (by rw [starEach_cons rfl]; rfl))) fun σ H Q h => ?_
  refine op1_read (r := fun v H Q => rIsT X.K [v, vT] H Q) ?_ σ H Q h
  intro g H0 H h e1 v1 ev Q hk hd x1 e q
  unfold isEK at e
  split at e
  · rename_i c
    obtain ⟨b, e1, e2⟩ := Option.map_eq_some_iff.mp e
    subst e2
    cases x1 with
    | exc x2 =>
      obtain ⟨z1, z2⟩ := hf c b e1
      exact ⟨_, S.cadr c, vT, cv, b, rfl, hk.sub _ _ x2, z1, hv, z2, finS q hk (.bl _)⟩
  · cases e
/-! ### raise -/
def dRaise (c : Nat) : DS := fun env h => .exc c env h
theorem as_raise {e : Expr} {c : Nat} (hc : X.calm = true) (tk : Takes X (wxOf S W)) (he : PMk X e (fun _ H Q => Q (.ref (S.cadr c)) none H)) : PS X (.Raise (some e) none pos) (tS S F W (dRaise c)) := by
  refine PSim (ps_raise hc tk he) fun D σ H hq => ?_
  obtain ⟨g, OS, env, h, rl, q⟩ := hq
  exact ⟨c, rfl, rfl, q g OS σ H rl⟩
end
end J

/-! methods of lists, tuples and texts; f-strings -/
namespace J
open PySem PySem.Spec PyProof.Rows L2
def tyW (K : PySem.W.Frag) (T : String) (x : V) (H : Hp) : Prop := tyV K T x H ∨ (T = "tuple" ∧ ∃ (p : Addr) (o : Obj) (vs : List V), x = .ref p ∧ o.dict = none ∧ H p = some (.frz o (.tup vs)))
section
variable {X : Cx}
theorem tyW_is {pins : List (Addr × Obj)} {σ : L2.St} {H : Hp} {s : Shared} {T : String} {x : V} {v : Value} (I : Inv X pins σ H s) (r : RelV x v) (ty : tyW X.K T x H) :
    s.TypeIs v T ∧ ∀ a, v = .ref a → ∃ ob, s.heap.get? a = some ob ∧ ob.dict = none := by
  rcases ty with ty | ⟨rfl, p, o, vs, rfl, hd, e⟩
  · exact tyV_is I r ty
  · cases r
    obtain ⟨e1, _, its, _, o', e2, hc, _⟩ := (show ObjOk X.prog X.w H s.heap p (.frz o (.tup vs)) from I.hok p _ e)
    rw [e1] at e2
    cases e2
    exact ⟨⟨o, e1, hc⟩, fun a ea => by cases ea; exact ⟨o, e1, hd⟩⟩
variable {o e : Expr} {es : List Expr} {to : TE} {t : TA} {name : Str} {apos cpos : Pos} {T id : String} {r : V → List V → Hp → VK → Prop}
def tBW (K : PySem.W.Frag) (T : String) (r : V → List V → Hp → VK → Prop) (to : TE) (t : TA) : TE := fun σ H Q => to σ H fun x H1 => tyW K T x H1 ∧ t σ H1 fun xs H2 => r x xs H2 Q
theorem pe_bw (pa : PlainAttrs T) (slot : PySem.Slot T name id) (hty : typeOf (.builtin id) = pure (.type "method_descriptor")) (hm : MtR X id r) (ho : PE X o to) (ha : PA X (e :: es) t)
    (hbase : attributeBase o name X.env (eval o X.env) = eval o X.env)
    (hfew : ((backTo cpos (starEach (e :: es) X.env)).all (fun x => !x.1) && (backToKw cpos (keywordEach [] X.env)).all (fun x => x.1.isSome)
      && decide ((e :: es).length + ([] : List Keyword).length + (if ([] : List Keyword).isEmpty then 0 else 1) < 30)) = true)
    (hline : (apos.endLine == cpos.line) = true) (hs : starEach (e :: es) X.env = (false, eval e X.env) :: starEach es X.env) (hplain : (backTo cpos (starEach es X.env)).any (·.1) = false) :
    PE X (.Call (.Attribute o name apos) (e :: es) [] cpos) (tBW X.K T r to t) := by
  refine ⟨fun pins s σ H Q I h => ?_⟩
  refine wpAny_Call_method_late hbase hfew hline rfl (thn (ho.run pins s σ H _ I h) fun v s1 ⟨x, H1, I1, r1, ty, q1⟩ => ?_)
  obtain ⟨h1, h2⟩ := tyW_is I1 r1 ty
  refine ⟨T, id, pa, slot, hty, h1, h2, ?_⟩
  have hA := ha.run cpos pins s1 σ H1 _ I1 q1
  rw [hs] at hA ⊢
  refine Calls.callWith_builtin (by show (false || (backTo cpos (starEach es X.env)).any (·.1)) = false; rw [hplain] <;> rfl) (Calls.evalArgs_plain ?_)
  exact thn hA fun us s2 ⟨vs, H2, I2, r2, q2⟩ => hm pins s2 σ H2 x vs v us Q I2 r1 r2 q2
/-! ### index and count of any data -/
def rIndexT (K : PySem.W.Frag) : V → List V → Hp → VK → Prop := fun x xs H Q => ∃ (a : Addr) (y : V) (d : PyData) (ds : List PyData) (j : Nat) (z : PyData), x = V.ref a ∧ xs = [y] ∧ Dp K H (V.ref a) (.tuple ds) ∧ Dp K H y d ∧
  SeqAt.shaped (.tuple ds) = true ∧ SeqAt.shaped d = true ∧ ds[j]? = some z ∧ PyData.eqv z d = true ∧ (∀ (m : Nat) (z' : PyData), m < j → ds[m]? = some z' → PyData.eqv z' d = false) ∧ Q (.int (j : Nat)) H
theorem mt_indexT (hu : X.A.units + 65 < cLine) : MtR X "tuple.index" (rIndexT X.K) := by
  intro pins s σ H x xs v us Q I rx rxs h
  obtain ⟨a, y, d, ds, j, z, rfl, rfl, hl, hy, sl, sd, hz, hzj, hno, q⟩ := h
  cases rx
  cases rxs with
  | cons ry rt =>
    rename_i uy ut
    cases rt
    obtain ⟨bs, r1⟩ := Dp.reads I d y uy hy ry
    have hxs : PyData.canLayAll0 ds = true := SeqAt.canLay_of_shaped sl
    have hroom : X.A.units + 1 + min (PyData.depthAll ds) d.depth < cLine := room_in_shaped sd hu
    cases hl with
    | tup hs ha =>
      obtain ⟨its, rv, ⟨⟨cls, dd, data, sls⟩, ho, hc, n, hdt⟩, hlen⟩ := I.tuple hs
      simp only at hc hdt
      subst hc hdt
      obtain ⟨as, h4⟩ := Dp.readsAll I ds _ its ha rv
      have hn : its.length = ds.length := SeqAt.ReadsAll.length ds its as h4
      have hmap : its.map (SeqAt.readOf s.heap) = ds := SeqAt.readsAll_map ds its as hxs h4
      obtain ⟨hjd, _⟩ := List.getElem?_eq_some_iff.mp hz
      have hjl : j < its.length := by omega
      have hj : j < its.toArray.size := by simpa using hjl
      have at_ : ∀ (m : Nat) (hm : m < its.toArray.size) (z' : PyData), ds[m]? = some z' → SeqAt.readOf s.heap its.toArray[m] = z' := by
        intro m hm z' hz'
        have hml : m < its.length := by simpa using hm
        rw [← hmap, List.getElem?_map, List.getElem?_eq_getElem hml] at hz'
        have e1 : SeqAt.readOf s.heap its[m] = z' := Option.some.inj (show some (SeqAt.readOf s.heap its[m]) = some z' from hz')
        simpa using e1
      refine call_meets PySem.F.slot_tuple_index ⟨_, ho, rfl⟩ PySem.F.entry_tuple_index (PySem.F.args_tuple_index_2 _ _)
        (TI.tuple_indexAt a its.toArray n dd sls uy (fun u => PyData.eqv (SeqAt.readOf s.heap u) d) j hj ?_ ?_) ⟨ho, SeqAt.items_eqAt (vs := its.toArray) (show ReadsAll s.heap its.toArray.toList ds as from h4) r1 hxs (SeqAt.canLay_of_shaped sd) hroom, ?_⟩
      · show PyData.eqv (SeqAt.readOf s.heap its.toArray[j]) d = true
        rw [at_ j hj z hz]
        exact hzj
      · intro m hm hmj
        have hmd : m < ds.length := by
          have : m < its.length := by simpa using hm
          omega
        have hz' : ds[m]? = some ds[m] := List.getElem?_eq_getElem hmd
        show PyData.eqv (SeqAt.readOf s.heap its.toArray[m]) d = false
        rw [at_ m hm _ hz']
        exact hno m _ hmj hz'
      · exact ⟨.int (j : Nat), H, I.tok _, ⟨_, rfl⟩, q⟩
def rCountD (K : PySem.W.Frag) : V → List V → Hp → VK → Prop := fun x xs H Q => ∃ (a : Addr) (y : V) (d : PyData) (ds : List PyData), x = V.ref a ∧ xs = [y] ∧ Dp K H (V.ref a) (.list ds) ∧ Dp K H y d ∧
  SeqAt.shaped (.list ds) = true ∧ SeqAt.shaped d = true ∧ Q (.int (ds.countP fun z => PyData.eqv z d : Nat)) H
theorem mt_countD (hu : X.A.units + 65 < cLine) : MtR X "list.count" (rCountD X.K) := by
  intro pins s σ H x xs v us Q I rx rxs h
  obtain ⟨a, y, d, ds, rfl, rfl, hl, hy, sl, sd, q⟩ := h
  cases rx
  cases rxs with
  | cons ry rt =>
    rename_i uy ut
    cases rt
    obtain ⟨bs, r1⟩ := Dp.reads I d y uy hy ry
    have hxs : PyData.canLayAll0 ds = true := SeqAt.canLay_of_shaped sl
    have hroom : X.A.units + 1 + min (PyData.depthAll ds) d.depth < cLine := room_in_shaped sd hu
    cases hl with
    | lst hs ha =>
      obtain ⟨its, rv, ⟨⟨cls, dd, data, sls⟩, n, ho, hc, hdn, hdt⟩, hlen⟩ := I.list hs
      simp only at hc hdt
      subst hc hdt
      obtain ⟨as, h4⟩ := Dp.readsAll I ds _ its ha rv
      have hmap : its.map (SeqAt.readOf s.heap) = ds := SeqAt.readsAll_map ds its as hxs h4
      refine call_meets PySem.F.slot_list_count ⟨_, ho, rfl⟩ PySem.F.entry_list_count (PySem.F.args_list_count_2 _ _)
        (SeqAt.list_countAt a its.toArray n dd sls uy (fun u => PyData.eqv (SeqAt.readOf s.heap u) d)) ⟨ho, SeqAt.items_eqAt (vs := its.toArray) (show ReadsAll s.heap its.toArray.toList ds as from h4) r1 hxs (SeqAt.canLay_of_shaped sd) hroom, ?_⟩
      have ec : its.toArray.toList.countP (fun u => PyData.eqv (SeqAt.readOf s.heap u) d) = ds.countP fun z => PyData.eqv z d := by
        rw [← hmap, List.countP_map]; rfl
      refine ⟨.int (ds.countP fun z => PyData.eqv z d : Nat), H, I.tok _, ⟨s.toks, ?_⟩, q⟩
      show Value.int ((its.toArray.toList.countP (fun u => PyData.eqv (SeqAt.readOf s.heap u) d) : Nat) : Int) s.toks = _
      rw [ec]
end
/-! ### as plain functions -/
section
variable {S : Sta} {F : Fm} {W : WishX} {X : Cx} {e o : Expr} {pos apos cpos : Pos} {name : Str} {id : String}
def denM (T : TyN) (fa fb : DE) (k : AH → EV → EV → Option EV) : DE := fun env h => (fa env h).bind fun e1 h1 => if tyOf h1 e1 = some T then (fb env h1).bind fun e2 h2 => .lift (k h2 e1 e2) h2 else .err
theorem tyW_of {g : Gh} {H0 H : Hp} {h : AH} {ev : EV} {v : V} {t : TyN} (K : PySem.W.Frag) (hk : HeapOk S g H h) (r : EvRel S g H0 H ev v) (e : tyOf h ev = some t) (ht : t = .str ∨ t = .tup ∨ t = .lst) : tyW K t.name v H := by
  unfold tyOf at e
  split at e
  · cases e; rcases ht with h | h | h <;> cases h
  · cases e; rcases ht with h | h | h <;> cases h
  · cases e; rcases ht with h | h | h <;> cases h
  · cases e; rw [rep_str r]; exact .inl rfl
  · split at e
    · rename_i ds hs
      cases e
      obtain ⟨a, vs, rfl, ⟨o, d, s1⟩, r1⟩ := seq_rel hk r hs
      exact .inr ⟨rfl, a, o, vs, rfl, d, s1⟩
    · rename_i k ds hn hs
      cases e
      obtain ⟨a, vs, rfl, s1, r1⟩ := seq_rel hk r hs
      exact .inl (.inl ⟨rfl, vs, s1.sqL K (by
        intro z; subst z; exact hn rfl)⟩)
    · cases e
theorem ae_bm {T : TyN} {r : V → List V → Hp → VK → Prop} {fa fb : DE} {k : AH → EV → EV → Option EV} (pa : PlainAttrs T.name) (slot : PySem.Slot T.name name id) (hty : typeOf (.builtin id) = pure (.type "method_descriptor")) (hm : MtR X id r) (hk : Op2Ok S (fun x y H Q => r x [y] H Q) k) (ht : T = .str ∨ T = .tup ∨ T = .lst)
    (ho : PE X o (tE S F W fa)) (ha : PE X e (tE S F W fb)) (hbase : attributeBase o name X.env (eval o X.env) = eval o X.env) (hs : notStar e = true) (hline : (apos.endLine == cpos.line) = true) :
    PE X (.Call (.Attribute o name apos) [e] [] cpos) (tE S F W (denM T fa fb k)) := by
  refine PEim (pe_bw pa slot hty hm ho (pa1 ha hs) hbase (by rw [starEach_cons hs]; rfl) hline (starEach_cons hs) rfl) fun σ H Q hq => ?_
  obtain ⟨g, OS, env, h, rl, q⟩ := hq
  refine ⟨g, OS, env, h, rl, ?_⟩
  unfold denM at q
  cases e1 : fa env h with
  | err => rw [e1] at q; exact q
  | exc c h1 => rw [e1] at q; exact q
  | ok x h1 =>
    rw [e1] at q
    simp only [bind_ok] at q
    intro v1 g1 H1 s1 k1 r1
    by_cases hT : tyOf h1 x = some T
    · rw [if_pos hT] at q
      refine ⟨tyW_of X.K k1 r1 hT ht, g1, OS, env, h1, rl.step s1 k1, ?_⟩
      cases e2 : fb env h1 with
      | err => rw [e2] at q; exact q
      | exc c h2 => rw [e2] at q; exact fun g2 H2 s2 k2 => q g2 H2 (s1.trans s2) k2
      | ok y h2 =>
        rw [e2] at q
        simp only [bind_ok] at q
        intro v2 g2 H2 s2 k2 r2
        cases e3 : k h2 x y with
        | none => rw [e3] at q; exact q.elim
        | some ev =>
          rw [e3] at q
          simp only [lift_some] at q
          exact hk g2 H H2 h2 x y v1 v2 ev Q k2 (fun a z => s2.dom a (s1.dom a z)) (r1.step k1 s2 rfl) (r2.base s1.dom) e3 fun v g' H' s k r => q v g' H' ((s1.trans s2).trans s) k r
    · rw [if_neg hT] at q; exact q.elim
/-- the first place of an equal one -/
def findD (d : D) : List D → Nat → Option Nat
  | [], _ => none
  | x :: xs, i => if eqvD x d then some i else findD d xs (i + 1)
theorem toPys_map : ∀ ds : List D, toPys ds = ds.map toPy
  | [] => by unfold toPys; rfl
  | d :: ds => by unfold toPys; rw [toPys_map ds]; rfl
theorem findD_ok (d : D) : ∀ (xs : List D) (i j : Nat), findD d xs i = some j → ∃ m, j = i + m ∧ ∃ x, xs[m]? = some x ∧ eqvD x d = true ∧ ∀ n y, n < m → xs[n]? = some y → eqvD y d = false
  | [], i, j, e => by simp [findD] at e
  | x :: xs, i, j, e => by
    unfold findD at e
    split at e
    · rename_i h
      cases e
      exact ⟨0, rfl, x, rfl, h, fun n y hn => absurd hn (Nat.not_lt_zero n)⟩
    · rename_i h
      obtain ⟨m, e1, z, e2, e3, e4⟩ := findD_ok d xs (i + 1) j e
      refine ⟨m + 1, by omega, z, by simpa using e2, e3, fun n y hn hy => ?_⟩
      cases n with
      | zero => simp at hy; subst hy; simpa using h
      | succ n => exact e4 n y (by omega) (by simpa using hy)
def indexLK : AH → EV → EV → Option EV := fun h x y => match evD h x, evD h y with
  | some (.lst ds), some d => if plainD 60 (.lst ds) && plainD 60 d then (findD d ds 0).map fun (j : Nat) => EV.v (.int (j : Int)) else none
  | _, _ => none
def indexTK : AH → EV → EV → Option EV := fun h x y => match evD h x, evD h y with
  | some (.tup ds), some d => if plainD 60 (.tup ds) && plainD 60 d then (findD d ds 0).map fun (j : Nat) => EV.v (.int (j : Int)) else none
  | _, _ => none
theorem evD_ref {g : Gh} {H0 H : Hp} {h : AH} {ev : EV} {v : V} {ds : List D} (hk : HeapOk S g H h) (r : EvRel S g H0 H ev v) (e : evD h ev = some (.lst ds) ∨ evD h ev = some (.tup ds)) : ∃ a, v = .ref a := by
  cases ev with
  | v d =>
    cases d with
    | lst xs => cases r with | lst _ _ => exact ⟨_, rfl⟩
    | tup xs => cases r with | tup _ _ _ => exact ⟨_, rfl⟩
    | ref n => cases r with | ref _ => exact ⟨_, rfl⟩
    | _ => rcases e with e | e <;> simp [evD] at e
  | f ds => obtain ⟨p, _, rfl, _⟩ := r; exact ⟨p, rfl⟩
  | b ds => obtain ⟨p, _, rfl, _⟩ := r; exact ⟨p, rfl⟩
  | fb n j => obtain ⟨p, rfl, _⟩ := r; exact ⟨p, rfl⟩
theorem ok_indexL (K : PySem.W.Frag) : Op2Ok S (fun x y H Q => rIndexD K x [y] H Q) indexLK := by
  intro g H0 H h e1 e2 v1 v2 ev Q hk hd x1 x2 e q
  unfold indexLK at e
  split at e
  · rename_i ds d h1 h2
    split at e
    · rename_i p
      rw [Bool.and_eq_true] at p
      obtain ⟨j, e3, e4⟩ := Option.map_eq_some_iff.mp e
      subst e4
      obtain ⟨m, z1, x, z2, z3, z4⟩ := findD_ok _ _ _ _ e3
      rw [Nat.zero_add] at z1
      subst z1
      obtain ⟨a, rfl⟩ := evD_ref hk x1 (.inl h1)
      have dl := ev_dp K hk x1 h1 p.1
      have sh := shaped_of (d := .lst ds) p.1 (by omega)
      unfold toPy at dl sh
      rw [toPys_map] at dl sh
      refine ⟨a, v2, toPy d, ds.map toPy, j, toPy x, rfl, rfl, dl, ev_dp K hk x2 h2 p.2, sh, shaped_of p.2 (by omega), by rw [List.getElem?_map, z2]; rfl, z3, fun m z' hm hz => ?_, finS q hk (.int _)⟩
      rw [List.getElem?_map] at hz
      obtain ⟨y, hy, rfl⟩ := Option.map_eq_some_iff.mp hz
      exact z4 m y hm hy
    · cases e
  · cases e
theorem ok_indexT (K : PySem.W.Frag) : Op2Ok S (fun x y H Q => rIndexT K x [y] H Q) indexTK := by
  intro g H0 H h e1 e2 v1 v2 ev Q hk hd x1 x2 e q
  unfold indexTK at e
  split at e
  · rename_i ds d h1 h2
    split at e
    · rename_i p
      rw [Bool.and_eq_true] at p
      obtain ⟨j, e3, e4⟩ := Option.map_eq_some_iff.mp e
      subst e4
      obtain ⟨m, z1, x, z2, z3, z4⟩ := findD_ok _ _ _ _ e3
      rw [Nat.zero_add] at z1
      subst z1
      obtain ⟨a, rfl⟩ := evD_ref hk x1 (.inr h1)
      have dl := ev_dp K hk x1 h1 p.1
      have sh := shaped_of (d := .tup ds) p.1 (by omega)
      unfold toPy at dl sh
      rw [toPys_map] at dl sh
      refine ⟨a, v2, toPy d, ds.map toPy, j, toPy x, rfl, rfl, dl, ev_dp K hk x2 h2 p.2, sh, shaped_of p.2 (by omega), by rw [List.getElem?_map, z2]; rfl, z3, fun m z' hm hz => ?_, finS q hk (.int _)⟩
      rw [List.getElem?_map] at hz
      obtain ⟨y, hy, rfl⟩ := Option.map_eq_some_iff.mp hz
      exact z4 m y hm hy
    · cases e
  · cases e
def countK : AH → EV → EV → Option EV := fun h x y => match evD h x, evD h y with
  | some (.lst ds), some d => if plainD 60 (.lst ds) && plainD 60 d then some (.v (.int (ds.countP fun z => eqvD z d : Nat))) else none
  | _, _ => none
theorem ok_count (K : PySem.W.Frag) : Op2Ok S (fun x y H Q => rCountD K x [y] H Q) countK := by
  intro g H0 H h e1 e2 v1 v2 ev Q hk hd x1 x2 e q
  unfold countK at e
  split at e
  · rename_i ds d h1 h2
    split at e
    · rename_i p
      rw [Bool.and_eq_true] at p
      cases e
      obtain ⟨a, rfl⟩ := evD_ref hk x1 (.inl h1)
      have dl := ev_dp K hk x1 h1 p.1
      have sh := shaped_of (d := .lst ds) p.1 (by omega)
      unfold toPy at dl sh
      rw [toPys_map] at dl sh
      refine ⟨a, v2, toPy d, ds.map toPy, rfl, rfl, dl, ev_dp K hk x2 h2 p.2, sh, shaped_of p.2 (by omega), ?_⟩
      rw [List.countP_map]
      exact finS q hk (.int _)
    · cases e
  · cases e
/-! ### texts -/
def strsOf : List D → Option (List Str)
  | [] => some []
  | .str x :: ds => (strsOf ds).map (x :: ·)
  | _ :: _ => none
theorem strsOf_ok {g : Gh} : ∀ {ds : List D} {xs : List Str} {vs : List V}, strsOf ds = some xs → Reps S g ds vs → vs = xs.map V.str
  | [], _, _, e, .nil => by unfold strsOf at e; cases e; rfl
  | .str x :: ds, _, _, e, .cons a b => by
    unfold strsOf at e
    obtain ⟨ys, e1, rfl⟩ := Option.map_eq_some_iff.mp e
    cases a
    rw [strsOf_ok e1 b]
    rfl
  | .non :: _, _, _, e, _ => by simp [strsOf] at e
  | .bl _ :: _, _, _, e, _ => by simp [strsOf] at e
  | .int _ :: _, _, _, e, _ => by simp [strsOf] at e
  | .tup _ :: _, _, _, e, _ => by simp [strsOf] at e
  | .wt _ :: _, _, _, e, _ => by simp [strsOf] at e
  | .lst _ :: _, _, _, e, _ => by simp [strsOf] at e
  | .ref _ :: _, _, _, e, _ => by simp [strsOf] at e
  | .fn _ :: _, _, _, e, _ => by simp [strsOf] at e
  | .exc _ :: _, _, _, e, _ => by simp [strsOf] at e
  | .scr _ :: _, _, _, e, _ => by simp [strsOf] at e
def joinK : AH → EV → EV → Option EV := fun h x y => match x, seqOf h y with
  | .v (.str a), some (_, ds) => match strsOf ds with
    | some ys => if (ys.map (·.length)).sum + ys.length * a.length ≤ 16777216 then some (.v (.str (Txt.join a ys))) else none
    | none => none
  | _, _ => none
theorem ok_join (K : PySem.W.Frag) : Op2Ok S (fun x y H Q => ∃ a p, ∃ ys : List Str, x = .str a ∧ [y] = [.ref p] ∧ (SqL K H p (ys.map V.str) ∨ SqT K H p (ys.map V.str)) ∧
    (ys.map (·.length)).sum + ys.length * a.length ≤ 16777216 ∧ Q (.str (Txt.join a ys)) H) joinK := by
  intro g H0 H h e1 e2 v1 v2 ev Q hk hd x1 x2 e q
  unfold joinK at e
  split at e
  · rename_i a k ds hs
    split at e
    · rename_i ys hy
      split at e
      · rename_i hl
        cases e
        obtain ⟨p, vs, rfl, s1, r1⟩ := seq_rel hk x2 hs
        have ev := strsOf_ok hy r1
        subst ev
        exact ⟨a, p, ys, rep_str x1, rfl, s1.sq K, hl, finS q hk (.str _)⟩
      · cases e
    · cases e
  · cases e
theorem reps_strs {g : Gh} : ∀ ys : List Str, Reps S g (ys.map D.str) (ys.map V.str)
  | [] => .nil
  | y :: ys => .cons (.str y) (reps_strs ys)
def splitK : AH → EV → EV → Option EV := fun h x y => match x, y with
  | .v (.str a), .v (.str b) => if b.length ≠ 0 ∧ a.length + 2 ≤ sizeLine ∧ (Txt.split a b).length ≤ sizeLine then some (.f ((Txt.split a b).map D.str)) else none
  | _, _ => none
theorem ok_split : Op2Ok S (fun x y H Q => ∃ a b, x = .str a ∧ [y] = [.str b] ∧ (b.length == 0) = false ∧ a.length + 2 ≤ sizeLine ∧ rNewStrs (Txt.split a b) H Q) splitK := by
  intro g H0 H h e1 e2 v1 v2 ev Q hk hd x1 x2 e q
  unfold splitK at e
  split at e
  · rename_i a b
    split at e
    · rename_i hl
      cases e
      refine ⟨a, b, rep_str x1, by rw [rep_str x2], beq_eq_false_iff_ne.mpr hl.1, hl.2.1, ?_⟩
      exact finF q hk hd (reps_strs _) (by rw [List.length_map]; exact hl.2.2)
    · cases e
  · cases e
def partK2 : AH → EV → EV → Option EV := fun h x y => match x, y with
  | .v (.str a), .v (.str b) => if b.length ≠ 0 ∧ a.length ≤ sizeLine then some (.v (.wt [.str (Txt.partition a b).1, .str (Txt.partition a b).2.1, .str (Txt.partition a b).2.2])) else none
  | _, _ => none
theorem ok_part : Op2Ok S (fun x y H Q => ∃ a b, x = .str a ∧ [y] = [.str b] ∧ (b.length == 0) = false ∧ a.length ≤ sizeLine ∧
    ∀ p, H p = none → Q (.ref p) (upd H p (.tup [.str (Txt.partition a b).1, .str (Txt.partition a b).2.1, .str (Txt.partition a b).2.2]))) partK2 := by
  intro g H0 H h e1 e2 v1 v2 ev Q hk hd x1 x2 e q
  unfold partK2 at e
  split at e
  · rename_i a b
    split at e
    · rename_i hl
      cases e
      refine ⟨a, b, rep_str x1, by rw [rep_str x2], beq_eq_false_iff_ne.mpr hl.1, hl.2, fun p n => ?_⟩
      exact q (.ref p) (g.frz p (.tup _)) _ (Stp.new n) (hk.new n (by show 3 ≤ sizeLine; decide)) (.wt upd_same (.cons (.str _) (.cons (.str _) (.one (.str _)))))
    · cases e
  · cases e
def endsK : AH → EV → EV → Option EV := fun h x y => match x, y with
  | .v (.str a), .v (.str b) => some (.v (.bl (Txt.endswith a b)))
  | _, _ => none
theorem ok_ends : Op2Ok S (fun x y H Q => ∃ a b, x = .str a ∧ [y] = [.str b] ∧ Q (.bl (Txt.endswith a b)) H) endsK := by
  intro g H0 H h e1 e2 v1 v2 ev Q hk hd x1 x2 e q
  unfold endsK at e
  split at e
  · rename_i a b
    cases e
    exact ⟨a, b, rep_str x1, by rw [rep_str x2], finS q hk (.bl _)⟩
  · cases e
def lstripK : AH → EV → EV → Option EV := fun h x y => match x, y with
  | .v (.str a), .v (.str b) => if a.length ≤ sizeLine then some (.v (.str (Txt.lstripChars a b))) else none
  | _, _ => none
theorem ok_lstrip : Op2Ok S (fun x y H Q => ∃ a b, x = .str a ∧ [y] = [.str b] ∧ a.length ≤ sizeLine ∧ Q (.str (Txt.lstripChars a b)) H) lstripK := by
  intro g H0 H h e1 e2 v1 v2 ev Q hk hd x1 x2 e q
  unfold lstripK at e
  split at e
  · rename_i a b
    split at e
    · rename_i hl
      cases e
      exact ⟨a, b, rep_str x1, by rw [rep_str x2], hl, finS q hk (.str _)⟩
    · cases e
  · cases e
def strK : AH → EV → Option EV := fun h x => match x with
  | .v (.int i) => if i.natAbs.log2 < 1920 then some (.v (.str (toString i))) else none
  | _ => none
theorem ok_str : Op1Ok S (fun v H Q => ∃ i, [v] = [V.int i] ∧ i.natAbs.log2 < 1920 ∧ Q (.str (toString i)) H) strK := by
  intro g H0 H h e1 v1 ev Q hk hd x1 e q
  unfold strK at e
  split at e
  · rename_i i
    split at e
    · rename_i hl
      cases e
      exact ⟨i, by rw [rep_int x1], hl, finS q hk (.str _)⟩
    · cases e
  · cases e
/-- int(text) -/
def intSK : AH → EV → Option EV := fun h x => match x with
  | .v (.str a) => match PySem.intText? a with
    | some n => if a.length ≤ 640 then some (.v (.int n)) else none
    | none => none
  | _ => none
theorem ok_intS : Op1Ok S (fun v H Q => ∃ a n, [v] = [V.str a] ∧ PySem.intText? a = some n ∧ a.length ≤ 640 ∧ Q (.int n) H) intSK := by
  intro g H0 H h e1 v1 ev Q hk hd x1 e q
  unfold intSK at e
  split at e
  · rename_i a
    split at e
    · rename_i n hn
      split at e
      · rename_i hl
        cases e
        exact ⟨a, n, by rw [rep_str x1], hn, hl, finS q hk (.int _)⟩
      · cases e
    · cases e
  · cases e
/-! ### f-strings -/
def fmtK : AH → EV → Option EV := fun h x => match x with
  | .v (.str a) => if a.length ≤ sizeLine then some (.v (.str a)) else none
  | .v (.int i) => if i.natAbs.log2 < 1920 then some (.v (.str (toString i))) else none
  | _ => none
theorem ok_fmt : Op1Ok S (fun x H1 Q => (∃ y : Str, x = .str y ∧ y.length ≤ sizeLine ∧ Q (.str y) H1) ∨ ∃ i : Int, x = .int i ∧ i.natAbs.log2 < 1920 ∧ Q (.str (toString i)) H1) fmtK := by
  intro g H0 H h e1 v1 ev Q hk hd x1 e q
  unfold fmtK at e
  split at e
  · rename_i a
    split at e
    · rename_i hl
      cases e
      exact .inl ⟨a, rep_str x1, hl, finS q hk (.str _)⟩
    · cases e
  · rename_i i
    split at e
    · rename_i hl
      cases e
      exact .inr ⟨i, rep_int x1, hl, finS q hk (.str _)⟩
    · cases e
  · cases e
theorem ae_fmt {fa : DE} (he : PE X e (tE S F W fa)) : PE X (.FormattedValue e (-1) none pos) (tE S F W (den1 fa fmtK)) := PEim (pe_fmt he) fun σ H Q hq => op1_read ok_fmt σ H Q hq
theorem ae_joined1 {fa : DE} (he : PE X e (tE S F W fa)) : PE X (.JoinedStr [e] pos) (tE S F W fa) := pe_joined1 he
/-- three parts -/
def strE : EV → Option Str
  | .v (.str a) => some a
  | _ => none
def dJoin (fs : List DE) : Str → DE := match fs with
  | [] => fun acc _ h => .ok (.v (.str acc)) h
  | f :: fs => fun acc env h => (f env h).bind fun e h1 => match strE e with
    | some y => if (acc ++ y).length ≤ sizeLine then dJoin fs (acc ++ y) env h1 else .err
    | none => .err
theorem join_read : ∀ (fs : List DE) (acc : Str) (σ : L2.St) (H : Hp) (Q : VK), tE S F W (dJoin fs acc) σ H Q → tJs (fs.map fun f => tE S F W f) acc σ H fun out H1 => Q (.str out) H1
  | [], acc, σ, H, Q, hq => by
    obtain ⟨g, OS, env, h, rl, q⟩ := hq
    exact q _ g H (Stp.refl g H) rl.heap (.str acc)
  | f :: fs, acc, σ, H, Q, hq => by
    obtain ⟨g, OS, env, h, rl, q⟩ := hq
    refine ⟨g, OS, env, h, rl, ?_⟩
    unfold dJoin at q
    cases e1 : f env h with
    | err => rw [e1] at q; exact q
    | exc c h1 => rw [e1] at q; exact q
    | ok x h1 =>
      rw [e1] at q
      simp only [bind_ok] at q
      intro v1 g1 H1 s1 k1 r1
      cases e2 : strE x with
      | none => rw [e2] at q; exact q.elim
      | some y =>
        rw [e2] at q
        simp only at q
        by_cases hl : (acc ++ y).length ≤ sizeLine
        · rw [if_pos hl] at q
          have ex : x = .v (.str y) := by
            unfold strE at e2
            split at e2
            · cases e2; rfl
            · cases e2
          subst ex
          refine ⟨y, rep_str r1, hl, join_read fs (acc ++ y) σ H1 Q ⟨g1, OS, env, h1, rl.step s1 k1, ?_⟩⟩
          cases e3 : dJoin fs (acc ++ y) env h1 with
          | err => rw [e3] at q; exact q
          | exc c h2 => rw [e3] at q; exact fun g2 H2 s2 k2 => q g2 H2 (s1.trans s2) k2
          | ok z h2 => rw [e3] at q; exact fun v2 g2 H2 s2 k2 r2 => q v2 g2 H2 (s1.trans s2) k2 (r2.base s1.dom)
        · rw [if_neg hl] at q; exact q.elim
theorem ae_joined {v1 v2 : Expr} {rest : List Expr} {fs : List DE} (h : PJ X (v1 :: v2 :: rest) (fs.map fun f => tE S F W f)) : PE X (.JoinedStr (v1 :: v2 :: rest) pos) (tE S F W (dJoin fs Str.empty)) := PEim (pe_joined h) fun σ H Q hq => join_read fs _ σ H Q hq
/-! ### list(range(..)) -/
def rgOk2 (i j : Int) : Bool := rgOk i && rgOk j && decide ((j - i).toNat ≤ 2 ^ 24)
theorem rgOk2_ok {i j : Int} (h : rgOk2 i j = true) : RgOk i j := by
  unfold rgOk2 at h
  rw [Bool.and_eq_true, Bool.and_eq_true] at h
  exact ⟨(rgOk_ok h.1.1).1, (rgOk_ok h.1.1).2, (rgOk_ok h.1.2).1, (rgOk_ok h.1.2).2, of_decide_eq_true h.2⟩
def lr2K : AH → EV → EV → Option EV := fun _ x y => match x, y with
  | .v (.int i), .v (.int j) => if rgOk2 i j then some (.f (upTo i (j - i).toNat)) else none
  | _, _ => none
def lr1K : AH → EV → Option EV := fun _ x => match x with
  | .v (.int j) => if rgOk2 0 j then some (.f (upTo 0 (j - 0).toNat)) else none
  | _ => none
theorem reps_rg {g : Gh} (i j : Int) : Reps S g (upTo i (j - i).toNat) (rgV i j) := by
  unfold upTo rgV
  generalize List.range (j - i).toNat = l
  induction l with
  | nil => exact .nil
  | cons a l ih => exact .cons (.int _) ih
theorem rg_len {i j : Int} (h : RgOk i j) : (rgV i j).length ≤ sizeLine := by
  rw [rgV_length, sizeLine_eq]
  have := h.2.2.2.2
  omega
theorem ae_lr2 {a b : Expr} {fa fb : DE} {p p2 pos2 : Pos} (hc : X.calm = true) (hg : Gl X "list") (hm : X.mg "list" = none) (hg2 : Gl X "range") (hm2 : X.mg "range" = none) (ha : PE X a (tE S F W fa)) (hb : PE X b (tE S F W fb)) (hs : notStar a = true) (hs2 : notStar b = true) :
    PE X (.Call (.Name "list" p) [.Call (.Name "range" p2) [a, b] [] pos2] [] pos) (tE S F W (den2 fa fb lr2K)) := by
  refine PEim (pe_listRg hc hg hm (prg_2 hg2 hm2 ha hb (starEach_cons hs) (starEach_cons hs2) (backTo_any (by rw [starEach_cons hs2]; rfl))) (starEach_cons rfl)) fun σ H Q hq => ?_
  refine op2_read (r := fun x y H Q => ∃ i j, x = .int i ∧ y = .int j ∧ RgOk i j ∧ ∀ q, H q = none → Q (.ref q) (upd H q (.lst (rgV i j)))) ?_ σ H Q hq
  intro g H0 H h e1 e2 v1 v2 ev Q hk hd x1 x2 e q
  unfold lr2K at e
  split at e
  · rename_i i j
    split at e
    · rename_i hr
      cases e
      exact ⟨i, j, rep_int x1, rep_int x2, rgOk2_ok hr, finF q hk hd (reps_rg i j) (rg_len (rgOk2_ok hr))⟩
    · cases e
  · cases e
theorem ae_lr1 {a : Expr} {fa : DE} {p p2 pos2 : Pos} (hc : X.calm = true) (hg : Gl X "list") (hm : X.mg "list" = none) (hg2 : Gl X "range") (hm2 : X.mg "range" = none) (ha : PE X a (tE S F W fa)) (hs : notStar a = true) :
    PE X (.Call (.Name "list" p) [.Call (.Name "range" p2) [a] [] pos2] [] pos) (tE S F W (den1 fa lr1K)) := by
  refine PEim (pe_listRg hc hg hm (prg_1 hg2 hm2 ha (starEach_cons hs)) (starEach_cons rfl)) fun σ H Q hq => ?_
  refine op1_read (r := fun x H Q => ∃ n, x = .int n ∧ RgOk 0 n ∧ ∀ q, H q = none → Q (.ref q) (upd H q (.lst (rgV 0 n)))) ?_ σ H Q hq
  intro g H0 H h e1 v1 ev Q hk hd x1 e q
  unfold lr1K at e
  split at e
  · rename_i j
    split at e
    · rename_i hr
      cases e
      exact ⟨j, rep_int x1, rgOk2_ok hr, finF q hk hd (reps_rg 0 j) (rg_len (rgOk2_ok hr))⟩
    · cases e
  · cases e
end
end J

/-! objects: fields, their lists, methods, new ones -/
namespace J
open PySem PySem.Spec PyProof.Rows L2
def setFld (j : Nat) (ds : List D) : List (Str × Fld) → List (Str × Fld)
  | [] => []
  | (x, .own i es) :: fs => (x, .own i (if i = j then ds else es)) :: setFld j ds fs
  | (x, .val d) :: fs => (x, .val d) :: setFld j ds fs
def setObj (j : Nat) (ds : List D) : AObj → AObj
  | .ins c k fs => .ins c k (setFld j ds fs)
  | .lst _ _ => mkL ds
  | o => o
def setOwn (h : AH) (n j : Nat) (ds : List D) : AH := match h[n]? with
  | some o => h.set n (setObj j ds o)
  | none => h
section
variable {S : Sta} {g g' : Gh} {H H' : Hp} {h h' : AH}
theorem FldOk.write {n j : Nat} {a : Addr} {ds : List D} {vs : List V} (inj : ∀ a b p, g.O a = some p → g.O b = some p → a = b) (o : g.O a = some (n, j)) (r : Reps S g ds vs) : ∀ (fs : List (Str × Fld)) (us : List (Str × V)), FldOk S g H n fs us → FldOk S g (upd H a (.lst vs)) n (setFld j ds fs) us
  | [], [], _ => True.intro
  | (x, .val d) :: fs, (y, v) :: us, k => ⟨k.1, k.2.1, FldOk.write inj o r fs us k.2.2⟩
  | (x, .own i es) :: fs, (y, v) :: us, k => by
    obtain ⟨h1, ⟨b, ws, e, ob, q, rr⟩, h3⟩ := k
    refine ⟨h1, ?_, FldOk.write inj o r fs us h3⟩
    by_cases hi : i = j
    · subst hi
      have eb := inj b a _ ob o
      subst eb
      rw [if_pos rfl]
      exact ⟨b, vs, e, ob, upd_same, r⟩
    · rw [if_neg hi]
      exact ⟨b, ws, e, ob, by rw [upd_ne (fun z => by rw [z, o] at ob; cases ob; exact hi rfl)]; exact q, rr⟩
  | [], _ :: _, k => k.elim
  | (_, .val _) :: _, [], k => k.elim
  | (_, .own _ _) :: _, [], k => k.elim
theorem setObj_cap (j : Nat) (ds : List D) (o : AObj) : (setObj j ds o).cap = o.cap := by
  cases o <;> rfl
theorem own_write {n j : Nat} {a : Addr} {ds ds' : List D} {vs : List V} (hk : HeapOk S g H h) (o : g.O a = some (n, j)) (e : ownL h n j = some ds) (r : Reps S g ds' vs) (l : vs.length ≤ sizeLine) :
    HeapOk S g (upd H a (.lst vs)) (setOwn h n j ds') ∧ Stp g H g (upd H a (.lst vs)) := by
  have st : Stp g H g (upd H a (.lst vs)) := ⟨fun x u e n => by rw [upd_ne (fun z => by rw [z, o] at n; cases n)]; exact e, fun _ _ => rfl, fun _ _ => rfl, fun x e => upd_dom e, fun _ _ e => e⟩
  refine ⟨?_, st⟩
  obtain ⟨ob, q0, _⟩ := hk.bnd a n j o
  have hn : n < h.length := (List.getElem?_eq_some_iff.mp q0).1
  have eS : setOwn h n j ds' = h.set n (setObj j ds' ob) := by unfold setOwn; rw [q0]
  rw [eS]
  refine ⟨lens_upd hk.lens l, fun b u q => ?_, fun b u q => ⟨(hk.og b u q).1, upd_dom (hk.og b u q).2⟩, by rw [List.length_set]; exact hk.len, hk.inj, fun b m i q => ?_, fun m o2 b q1 q2 => ?_⟩
  · rw [upd_ne (fun z => by rw [z] at q; rw [(hk.og a _ o).1] at q; cases q)]; exact hk.sub b u q
  · obtain ⟨x, z1, z2⟩ := hk.bnd b m i q
    by_cases hm : m = n
    · subst hm
      rw [q0] at z1; cases z1
      exact ⟨_, List.getElem?_set_self hn, by rw [setObj_cap]; exact z2⟩
    · exact ⟨x, by rw [List.getElem?_set_ne (Ne.symm hm)]; exact z1, z2⟩
  · by_cases hm : m = n
    · subst hm
      rw [List.getElem?_set_self hn] at q1
      cases q1
      have ho := hk.obj m ob b q0 q2
      unfold ownL at e
      rw [q0] at e
      cases ob with
      | lst pp es =>
        simp only at e
        split at e
        · rename_i hj
          subst hj
          have eb := hk.inj a b _ o ho.1
          subst eb
          exact ⟨ho.1, fun z => z, vs, upd_same, r⟩
        · cases e
      | ins c k fs =>
        obtain ⟨z1, dx, us, z2, z3⟩ := ho
        obtain ⟨a2, ws, w1, w2, _⟩ := fldOf_rel z3 (show fldOf j fs = some ds from e)
        have ea := hk.inj a a2 _ o w1
        subst ea
        have nab : b ≠ a := fun z => by rw [z, w2] at z2; cases z2
        exact ⟨z1, dx, us, by rw [upd_ne nab]; exact z2, FldOk.write hk.inj o r _ _ z3⟩
      | dK _ => cases e
      | dT _ => cases e
    · rw [List.getElem?_set_ne (Ne.symm hm)] at q1
      exact (hk.obj m o2 b q1 q2).keep (Gle.refl g) m (fun _ _ z => z) fun c i u z1 z2 => by
        rw [upd_ne (fun z => by rw [z, o] at z1; cases z1; exact hm rfl)]; exact z2
end
/-! ### methods of lists that objects own, as expressions -/
def locOf : EV → Option (Nat × Nat)
  | .fb n j => some (n, j)
  | .v (.ref n) => some (n, 0)
  | _ => none
section
variable {S : Sta} {F : Fm} {W : WishX} {X : Cx} {e o : Expr} {es : List Expr} {pos apos cpos : Pos} {name : Str} {id : String}
theorem loc_rel {g : Gh} {H0 H : Hp} {h : AH} {ev : EV} {v : V} {n j : Nat} (hk : HeapOk S g H h) (r : EvRel S g H0 H ev v) (e : locOf ev = some (n, j)) : ∃ a, v = .ref a ∧ g.O a = some (n, j) := by
  unfold locOf at e
  split at e
  · cases e; exact r
  · cases e
    cases r with
    | ref r1 => exact ⟨_, rfl, ref_own hk r1⟩
  · cases e
def dOwn1 (fa fb : DE) (k : AH → List D → EV → Option (List D × D)) : DE := fun env h => (fa env h).bind fun e1 h1 => match locOf e1 with
  | none => .err
  | some (n, j) => match ownL h1 n j with
    | none => .err
    | some _ => (fb env h1).bind fun e2 h2 => match ownL h2 n j with
      | none => .err
      | some ds => match k h2 ds e2 with
        | some (ds', d) => .ok (.v d) (setOwn h2 n j ds')
        | none => .err
/-- the rule of a method: with the list's items, the argument, and what comes out -/
def MvOk (S : Sta) (r : V → List V → Hp → VK → Prop) (k : AH → List D → EV → Option (List D × D)) : Prop := ∀ (g : Gh) (H0 H1 : Hp) (h : AH) (a : Addr) (vs : List V) (ds ds' : List D) (d : D) (ev : EV) (v1 : V) (Q : VK), HeapOk S g H1 h → H1 a = some (.lst vs) → Reps S g ds vs → EvRel S g H0 H1 ev v1 → (∀ b, H0 b ≠ none → H1 b ≠ none) →
  k h ds ev = some (ds', d) → (∀ g' vs' v, (∀ b, H0 b ≠ none → g'.G b = g.G b) → g'.O = g.O → g'.I = g.I → HeapOk S g' H1 h → Reps S g' ds' vs' → vs'.length ≤ sizeLine → Rep S g' d v → Q v (upd H1 a (.lst vs'))) → r (.ref a) [v1] H1 Q
theorem ae_own1 {r : V → List V → Hp → VK → Prop} {fa fb : DE} {k : AH → List D → EV → Option (List D × D)} (slot : PySem.Slot "list" name id) (hty : typeOf (.builtin id) = pure (.type "method_descriptor")) (hm : MtR X id r) (hk : MvOk S r k)
    (ho : PE X o (tE S F W fa)) (ha : PE X e (tE S F W fb)) (hbase : attributeBase o name X.env (eval o X.env) = eval o X.env) (hs : notStar e = true) (hline : (apos.endLine == cpos.line) = true) :
    PE X (.Call (.Attribute o name apos) [e] [] cpos) (tE S F W (dOwn1 fa fb k)) := by
  refine PEim (pe_bm PySem.F.plainAttrs_list slot hty hm ho (pa1 ha hs) hbase (by rw [starEach_cons hs]; rfl) hline (starEach_cons hs) rfl) fun σ H Q hq => ?_
  obtain ⟨g, OS, env, h, rl, q⟩ := hq
  refine ⟨g, OS, env, h, rl, ?_⟩
  unfold dOwn1 at q
  cases e1 : fa env h with
  | err => rw [e1] at q; exact q
  | exc c h1 => rw [e1] at q; exact q
  | ok x h1 =>
    rw [e1] at q
    simp only [bind_ok] at q
    intro v1 g1 H1 s1 k1 r1
    cases el : locOf x with
    | none => rw [el] at q; exact q.elim
    | some nj =>
      obtain ⟨n, j⟩ := nj
      rw [el] at q
      simp only at q
      obtain ⟨a, rfl, oa⟩ := loc_rel k1 r1 el
      cases e0 : ownL h1 n j with
      | none => rw [e0] at q; exact q.elim
      | some ds0 =>
        rw [e0] at q
        simp only at q
        obtain ⟨us0, z0, _⟩ := ownL_rel k1 oa e0
        refine ⟨.inl ⟨rfl, us0, .inl (.inl z0)⟩, g1, OS, env, h1, rl.step s1 k1, ?_⟩
        cases e2 : fb env h1 with
        | err => rw [e2] at q; exact q
        | exc c h2 => rw [e2] at q; exact fun g2 H2 s2 k2 => q g2 H2 (s1.trans s2) k2
        | ok y h2 =>
          rw [e2] at q
          simp only [bind_ok] at q
          intro v2 g2 H2 s2 k2 r2
          have oa2 := (s2.le k1).O a _ oa
          cases e3 : ownL h2 n j with
          | none => rw [e3] at q; exact q.elim
          | some ds =>
            rw [e3] at q
            simp only at q
            obtain ⟨us, z1, z2⟩ := ownL_rel k2 oa2 e3
            cases e4 : k h2 ds y with
            | none => rw [e4] at q; exact q.elim
            | some p =>
              obtain ⟨ds', d⟩ := p
              rw [e4] at q
              simp only at q
              refine hk g2 H H2 h2 a us ds ds' d y v2 Q k2 z1 z2 (r2.base s1.dom) (fun b z => s2.dom b (s1.dom b z)) e4 fun g3 vs3 v3 m1 m2 m3 m4 m5 m6 m7 => ?_
              have s3 : Stp g H g3 H2 := ⟨(s1.trans s2).keep, fun b hb => (m1 b hb).trans ((s1.trans s2).gk b hb), fun b hb => by rw [m2]; exact (s1.trans s2).ok b hb, (s1.trans s2).dom, fun i b hb => by rw [m3]; exact (s1.trans s2).pre i b hb⟩
              obtain ⟨w1, w2⟩ := own_write m4 (by rw [m2]; exact oa2) e3 m5 m6
              exact q v3 g3 _ (s3.trans w2) w1 m7
def appV : AH → List D → EV → Option (List D × D) := fun _ ds ev => match ev.toD with
  | some d => if ds.length < sizeLine then some (ds ++ [d], .non) else none
  | none => none
theorem ov_app : MvOk S rAppend appV := by
  intro g H0 H1 h a vs ds ds' d' ev v1 Q hk e1 r rv hd e q
  unfold appV at e
  split at e
  · rename_i d ed
    split at e
    · rename_i hl
      cases e
      obtain ⟨g', m1, m2, m3, m4, le, r'⟩ := rv.val' ed hk
      have hl' : vs.length < sizeLine := by rw [← r.length]; exact hl
      exact ⟨a, vs, v1, rfl, rfl, e1, hl', q g' _ .non m1 m2 m3 m4 ((r.mono le).append (.one r')) (by rw [List.length_append, List.length_singleton]; omega) .non⟩
    · cases e
  · cases e
def extV : AH → List D → EV → Option (List D × D) := fun h ds ev => match seqOf h ev with
  | some (.l, es) => if ds.length + es.length ≤ sizeLine then some (ds ++ es, .non) else none
  | _ => none
theorem ov_ext : MvOk S rExtend extV := by
  intro g H0 H1 h a vs ds ds' d' ev v1 Q hk e1 r rv hd e q
  unfold extV at e
  split at e
  · rename_i es hs
    split at e
    · rename_i hl
      cases e
      obtain ⟨b, us, rfl, s1, r1⟩ := seq_rel hk rv hs
      have hl' : vs.length + us.length ≤ sizeLine := by rw [← r.length, ← r1.length]; exact hl
      exact ⟨a, b, vs, us, rfl, rfl, e1, s1, hl', q g _ .non (fun _ _ => rfl) rfl rfl hk (r.append r1) (by rw [List.length_append]; exact hl') .non⟩
    · cases e
  · cases e
def popV : AH → List D → EV → Option (List D × D) := fun _ ds ev => match ev with
  | .v (.int i) => match L2.ixN ds.length i with
    | some j => match ds[j]? with
      | some d => some (ds.eraseIdx j, d)
      | none => none
    | none => none
  | _ => none
theorem ov_pop : MvOk S rPopAt popV := by
  intro g H0 H1 h a vs ds ds' d' ev v1 Q hk e1 r rv hd e q
  unfold popV at e
  split at e
  · rename_i i
    split at e
    · rename_i j hj
      split at e
      · rename_i d hdj
        cases e
        rw [r.length] at hj
        obtain ⟨z1, z2, z3, z4⟩ := ixN_seq hj
        have hl := hk.lens a _ e1
        have hl : vs.length ≤ sizeLine := hl
        have hz := line63
        rw [rep_int rv]
        obtain ⟨u, hu, ru⟩ := r.get hdj
        refine ⟨a, vs, i, j, u, rfl, rfl, e1, by omega, by omega, z1, hu, q g _ u (fun _ _ => rfl) rfl rfl hk (r.erase j) ?_ ru⟩
        have := List.length_eraseIdx_le (l := vs) (i := j)
        omega
      · cases e
    · cases e
  · cases e
/-- recv.pop() -/
def dPop0 (fa : DE) : DE := fun env h => (fa env h).bind fun e1 h1 => match locOf e1 with
  | none => .err
  | some (n, j) => match ownL h1 n j with
    | none => .err
    | some ds => match ds[ds.length - 1]? with
      | some d => .ok (.v d) (setOwn h1 n j ds.dropLast)
      | none => .err
theorem Reps.dropLast {g : Gh} : ∀ {ds : List D} {vs : List V}, Reps S g ds vs → Reps S g ds.dropLast vs.dropLast := fun {ds vs} r => by
  rw [List.dropLast_eq_take, List.dropLast_eq_take, r.length]
  exact r.take _
theorem ae_pop0 {fa : DE} (ho : PE X o (tE S F W fa)) (hbase : attributeBase o "pop" X.env (eval o X.env) = eval o X.env) (hline : (apos.endLine == cpos.line) = true) :
    PE X (.Call (.Attribute o "pop" apos) [] [] cpos) (tE S F W (dPop0 fa)) := by
  refine PEim (pe_bm0 PySem.F.plainAttrs_list PySem.F.slot_list_pop PySem.F.type_list_pop mt_pop ho hbase hline) fun σ H Q hq => ?_
  obtain ⟨g, OS, env, h, rl, q⟩ := hq
  refine ⟨g, OS, env, h, rl, ?_⟩
  unfold dPop0 at q
  cases e1 : fa env h with
  | err => rw [e1] at q; exact q
  | exc c h1 => rw [e1] at q; exact q
  | ok x h1 =>
    rw [e1] at q
    simp only [bind_ok] at q
    intro v1 g1 H1 s1 k1 r1
    cases el : locOf x with
    | none => rw [el] at q; exact q.elim
    | some nj =>
      obtain ⟨n, j⟩ := nj
      rw [el] at q
      simp only at q
      obtain ⟨a, rfl, oa⟩ := loc_rel k1 r1 el
      cases e0 : ownL h1 n j with
      | none => rw [e0] at q; exact q.elim
      | some ds =>
        rw [e0] at q
        simp only at q
        obtain ⟨us, z0, z2⟩ := ownL_rel k1 oa e0
        cases e3 : ds[ds.length - 1]? with
        | none => rw [e3] at q; exact q.elim
        | some d =>
          rw [e3] at q
          simp only at q
          obtain ⟨u, hu, ru⟩ := z2.get e3
          obtain ⟨w1, w2⟩ := own_write k1 oa e0 z2.dropLast (by
            have := k1.lens a _ z0
            have : us.length ≤ sizeLine := this
            rw [List.length_dropLast]; omega)
          refine ⟨.inl ⟨rfl, us, .inl (.inl z0)⟩, a, us, u, rfl, rfl, z0, by rw [← z2.length]; exact hu, q u g1 _ (s1.trans w2) w1 ru⟩
/-! ### fields -/
def fldK (okc : Nat → Bool) (f : Str) : AH → EV → Option EV := fun h e => match e with
  | .v (.ref n) => match h[n]? with
    | some (.ins c _ fs) => if okc c then (match fs.lookup f with
      | some (.val d) => some (.v d)
      | some (.own j _) => some (.fb n j)
      | none => none) else none
    | _ => none
  | _ => none
theorem fld_lookup {g : Gh} {H : Hp} {n : Nat} {f : Str} : ∀ {fs : List (Str × Fld)} {vs : List (Str × V)} {x : Fld}, FldOk S g H n fs vs → fs.lookup f = some x → ∃ v, vs.lookup f = some v ∧ (match x with
    | .val d => Rep S g d v
    | .own j _ => ∃ a, v = .ref a ∧ g.O a = some (n, j))
  | [], _, x, _, e => by simp at e
  | (y, .val d) :: fs, [], _, k, _ => k.elim
  | (y, .own _ _) :: fs, [], _, k, _ => k.elim
  | (y, .val d) :: fs, (z, v) :: vs, x, k, e => by
    obtain ⟨k1, k2, k3⟩ := k
    subst k1
    rw [List.lookup_cons] at e ⊢
    cases hb : f == y with
    | true => rw [hb] at e; simp only at e ⊢; cases e; exact ⟨v, rfl, k2⟩
    | false => rw [hb] at e; simp only at e ⊢; exact fld_lookup k3 e
  | (y, .own j ds) :: fs, (z, v) :: vs, x, k, e => by
    obtain ⟨k1, ⟨a, us, k2, k4, _⟩, k3⟩ := k
    subst k1
    rw [List.lookup_cons] at e ⊢
    cases hb : f == y with
    | true => rw [hb] at e; simp only at e ⊢; cases e; exact ⟨v, rfl, a, k2, k4⟩
    | false => rw [hb] at e; simp only at e ⊢; exact fld_lookup k3 e
theorem ae_fld {okc : Nat → Bool} {f : Str} {fa : DE} (hc : ∀ c, okc c = true → Cls X.K (S.cadr c) ∧ NoAttr X.K (S.cadr c) f) (he : PE X e (tE S F W fa)) (hb : attributeBase e f X.env (eval e X.env) = eval e X.env) : PE X (.Attribute e f pos) (tE S F W (den1 fa (fldK okc f))) := by
  refine PEim (pe_fld he hb) fun σ H Q hq => op1_read (r := fun x H1 Q => ∃ a C dx fs v, x = .ref a ∧ H1 a = some (.ins C dx fs) ∧ Cls X.K C ∧ NoAttr X.K C f ∧ fs.lookup f = some v ∧ Q v H1) ?_ σ H Q hq
  intro g H0 H h e1 v1 ev Q hk hd x1 e q
  unfold fldK at e
  split at e
  · rename_i n
    split at e
    · rename_i c k fs hn
      split at e
      · rename_i ho
        cases x1 with
        | ref x2 =>
          obtain ⟨_, dx, vs, z1, z2⟩ := hk.obj n _ _ hn x2
          split at e
          · rename_i d hl
            cases e
            obtain ⟨v, w1, w2⟩ := fld_lookup z2 hl
            exact ⟨_, _, dx, vs, v, rfl, z1, (hc c ho).1, (hc c ho).2, w1, finS q hk w2⟩
          · rename_i j es hl
            cases e
            obtain ⟨v, w1, w2⟩ := fld_lookup z2 hl
            exact ⟨_, _, dx, vs, v, rfl, z1, (hc c ho).1, (hc c ho).2, w1, q v g H (Stp.refl g H) hk w2⟩
          · cases e
      · cases e
    · cases e
  · cases e
/-! ### e.f = value -/
def putA (f : Str) (x : Fld) : List (Str × Fld) → List (Str × Fld)
  | [] => [(f, x)]
  | (g, y) :: r => if g = f then (g, x) :: r else (g, y) :: putA f x r
/-- what the field takes: own: a fresh list is the field's own, by the number k -/
def fldOfEv (own : Bool) (k : Nat) : EV → Option Fld
  | .v d => some (.val d)
  | .f ds => some (if own then .own k ds else .val (.lst ds))
  | _ => none
def dSetFld (own : Bool) (okc : Nat → Bool) (f : Str) (fv fo : DE) : DS := fun env h => exS (fv env h) env fun ev h1 => exS (fo env h1) env fun ov h2 => match ov with
  | .v (.ref n) => match h2[n]? with
    | some (.ins c k fs) => if okc c && decide (fs.length < 1000) then (match fldOfEv own k ev with
      | some x => .nx env (h2.set n (.ins c (k + 1) (putA f x fs)))
      | none => .err) else .err
    | _ => .err
  | _ => .err
abbrev Gh.claim (g : Gh) (p : Addr) (n k : Nat) : Gh := { g with O := fun x => if x = p then some (n, k) else g.O x }
theorem claim_le {g : Gh} {p : Addr} {n k : Nat} (h : g.O p = none) : Gle g (g.claim p n k) := ⟨fun _ _ q => q, fun _ _ q => q, fun x y q => by
  show (if x = p then some (n, k) else g.O x) = some y
  rw [if_neg (fun z => by rw [z, h] at q; cases q)]; exact q⟩
theorem HeapOk.claim {g : Gh} {H : Hp} {h : AH} {p : Addr} {n c k : Nat} {fs : List (Str × Fld)} (hk : HeapOk S g H h) (e : h[n]? = some (.ins c k fs)) (n1 : g.G p = none) (n2 : g.O p = none) (n3 : H p ≠ none) (hn0 : 0 < k) : HeapOk S (g.claim p n k) H (h.set n (.ins c (k + 1) fs)) := by
  have hn : n < h.length := (List.getElem?_eq_some_iff.mp e).1
  have le : Gle g (g.claim p n k) := claim_le n2
  refine ⟨hk.lens, hk.sub, fun a q z => ?_, by rw [List.length_set]; exact hk.len, fun a b q z1 z2 => ?_, fun a m j z => ?_, fun m o a z1 z2 => ?_⟩
  · by_cases ha : a = p
    · subst ha; exact ⟨n1, n3⟩
    · have z : (if a = p then some (n, k) else g.O a) = some q := z
      rw [if_neg ha] at z; exact hk.og a q z
  · have z1 : (if a = p then some (n, k) else g.O a) = some q := z1
    have z2 : (if b = p then some (n, k) else g.O b) = some q := z2
    have no : ∀ x, g.O x = some (n, k) → False := fun x w => by
      obtain ⟨o, w1, w2⟩ := hk.bnd x n k w
      rw [e] at w1; cases w1
      exact Nat.lt_irrefl _ w2
    by_cases ha : a = p
    · by_cases hb : b = p
      · rw [ha, hb]
      · rw [if_pos ha] at z1; rw [if_neg hb] at z2; cases z1; exact (no b z2).elim
    · rw [if_neg ha] at z1
      by_cases hb : b = p
      · rw [if_pos hb] at z2; cases z2; exact (no a z1).elim
      · rw [if_neg hb] at z2; exact hk.inj a b q z1 z2
  · have z : (if a = p then some (n, k) else g.O a) = some (m, j) := z
    by_cases ha : a = p
    · rw [if_pos ha] at z; cases z
      exact ⟨_, List.getElem?_set_self hn, Nat.lt_succ_self _⟩
    · rw [if_neg ha] at z
      obtain ⟨o, w1, w2⟩ := hk.bnd a m j z
      by_cases hm : m = n
      · subst hm
        rw [e] at w1; cases w1
        exact ⟨_, List.getElem?_set_self hn, Nat.lt_succ_of_lt w2⟩
      · exact ⟨o, by rw [List.getElem?_set_ne (Ne.symm hm)]; exact w1, w2⟩
  · by_cases hm : m = n
    · subst hm
      rw [List.getElem?_set_self hn] at z1
      cases z1
      have := hk.obj m _ a e z2
      exact ObOk.keep le m (fun b j w => le.O b _ w) (fun b j u _ w => w) (o := .ins c (k + 1) fs) this
    · rw [List.getElem?_set_ne (Ne.symm hm)] at z1
      exact (hk.obj m o a z1 z2).keep le m (fun b j w => le.O b _ w) (fun b j u _ w => w)
def FldNew (S : Sta) (g : Gh) (H : Hp) (n : Nat) (y : V) : Fld → Prop
  | .val d => Rep S g d y
  | .own j ds => ∃ p us, y = .ref p ∧ g.O p = some (n, j) ∧ H p = some (.lst us) ∧ Reps S g ds us
theorem FldOk.put {g : Gh} {H H' : Hp} {n : Nat} {f : Str} {x : Fld} {y : V} (hh : ∀ b us, H b = some (.lst us) → H' b = some (.lst us)) (nw : FldNew S g H n y x) : ∀ (fs : List (Str × Fld)) (vs : List (Str × V)), FldOk S g H n fs vs → FldOk S g H' n (putA f x fs) (putF f y vs) := by
  have one : ∀ (fs : List (Str × Fld)) (vs : List (Str × V)) (z : Str), FldOk S g H' n fs vs → FldOk S g H' n ((z, x) :: fs) ((z, y) :: vs) := fun fs vs z k => by
    cases x with
    | val d => exact ⟨rfl, nw, k⟩
    | own j ds =>
      obtain ⟨p, us, e1, e2, e3, e4⟩ := nw
      exact ⟨rfl, ⟨p, us, e1, e2, hh p us e3, e4⟩, k⟩
  have kp : ∀ (fs : List (Str × Fld)) (vs : List (Str × V)), FldOk S g H n fs vs → FldOk S g H' n fs vs := by
    intro fs
    induction fs with
    | nil => intro vs k; cases vs with
      | nil => exact True.intro
      | cons _ _ => exact k.elim
    | cons p fs ih =>
      obtain ⟨z, w⟩ := p
      intro vs k
      cases vs with
      | nil => cases w <;> exact k.elim
      | cons q vs =>
        obtain ⟨z', v⟩ := q
        cases w with
        | val d => exact ⟨k.1, k.2.1, ih vs k.2.2⟩
        | own j ds =>
          obtain ⟨k1, ⟨a, us, e1, e2, e3, e4⟩, k3⟩ := k
          exact ⟨k1, ⟨a, us, e1, e2, hh a us e3, e4⟩, ih vs k3⟩
  intro fs
  induction fs with
  | nil => intro vs k; cases vs with
    | nil => exact one [] [] f True.intro
    | cons _ _ => exact k.elim
  | cons p fs ih =>
    obtain ⟨z, w⟩ := p
    intro vs k
    cases vs with
    | nil => cases w <;> exact k.elim
    | cons q vs =>
      obtain ⟨z', v⟩ := q
      have ez : z = z' := by cases w <;> exact k.1
      subst ez
      unfold putA putF
      by_cases hz : z = f
      · rw [if_pos hz, if_pos hz]
        refine one _ _ z ?_
        cases w with
        | val d => exact kp _ _ k.2.2
        | own j ds => exact kp _ _ k.2.2
      · rw [if_neg hz, if_neg hz]
        cases w with
        | val d => exact ⟨rfl, k.2.1, ih vs k.2.2⟩
        | own j ds =>
          obtain ⟨k1, ⟨a, us, e1, e2, e3, e4⟩, k3⟩ := k
          exact ⟨rfl, ⟨a, us, e1, e2, hh a us e3, e4⟩, ih vs k3⟩
theorem HeapOk.put {g : Gh} {H : Hp} {h : AH} {a dx : Addr} {n c k k' : Nat} {f : Str} {fs : List (Str × Fld)} {vs : List (Str × V)} {x : Fld} {y : V} (hk : HeapOk S g H h) (e : h[n]? = some (.ins c k fs)) (ea : g.I[n]? = some a) (eh : H a = some (.ins (S.cadr c) dx vs)) (fo : FldOk S g H n fs vs) (nw : FldNew S g H n y x) (hkk : k ≤ k') :
    HeapOk S g (upd H a (.ins (S.cadr c) dx (putF f y vs))) (h.set n (.ins c k' (putA f x fs))) := by
  have hn : n < h.length := (List.getElem?_eq_some_iff.mp e).1
  have oa := ref_own hk ea
  refine ⟨lens_upd hk.lens True.intro, fun b u q => ?_, fun b u q => ⟨(hk.og b u q).1, upd_dom (hk.og b u q).2⟩, by rw [List.length_set]; exact hk.len, hk.inj, fun b m j q => ?_, fun m o b q1 q2 => ?_⟩
  · rw [upd_ne (fun z => by rw [z] at q; rw [(hk.og a _ oa).1] at q; cases q)]; exact hk.sub b u q
  · obtain ⟨o, z1, z2⟩ := hk.bnd b m j q
    by_cases hm : m = n
    · subst hm
      rw [e] at z1; cases z1
      exact ⟨_, List.getElem?_set_self hn, Nat.lt_of_lt_of_le z2 hkk⟩
    · exact ⟨o, by rw [List.getElem?_set_ne (Ne.symm hm)]; exact z1, z2⟩
  · by_cases hm : m = n
    · subst hm
      rw [List.getElem?_set_self hn] at q1
      cases q1
      rw [ea] at q2; cases q2
      refine ⟨oa, dx, _, upd_same, FldOk.put (fun b us z => ?_) nw _ _ fo⟩
      rw [upd_ne (fun w => by rw [w, eh] at z; cases z)]; exact z
    · rw [List.getElem?_set_ne (Ne.symm hm)] at q1
      exact (hk.obj m o b q1 q2).keep (Gle.refl g) m (fun _ _ z => z) fun b' j u z1 z2 => by
        rw [upd_ne (fun z => by rw [z, oa] at z1; cases z1; exact hm rfl)]; exact z2
theorem Rel.putO {g : Gh} {OS : Addr → Option Nat} {env : Env'} {h h' : AH} {σ : L2.St} {H : Hp} {a : Addr} {o : HO} {q : Nat × Nat} (rl : Rel S F g OS env h σ H) (oa : g.O a = some q) (k : HeapOk S g (upd H a o) h') : Rel S F g OS env h' σ (upd H a o) := by
  refine rl.step ⟨fun x u e n => ?_, fun _ _ => rfl, fun _ _ => rfl, fun x e => upd_dom e, fun _ _ e => e⟩ k
  rw [upd_ne (fun z => by rw [z, oa] at n; cases n)]; exact e
theorem as_setfld {own : Bool} {okc : Nat → Bool} {f : Str} {fv fo : DE} {value : Expr} {pos' : Pos} (hc : ∀ c, okc c = true → Cls X.K (S.cadr c) ∧ NoAttr X.K (S.cadr c) f) (hv : PE X value (tE S F W fv)) (ho : PE X o (tE S F W fo)) (hs : swapsWith value (some (.Attribute o f pos')) pos.line X.env = pure false) :
    PS X (.Assign [.Attribute o f pos'] value pos) (tS S F W (dSetFld own okc f fv fo)) := by
  refine PSim (ps_fld ho hv hs) fun Dn σ H hq => ?_
  obtain ⟨g, OS, env, h, rl, q⟩ := hq
  refine ⟨g, OS, env, h, rl, ?_⟩
  unfold dSetFld at q
  cases e1 : fv env h with
  | err => rw [e1] at q; exact q
  | exc c h1 => rw [e1] at q; exact fun g1 H1 s1 k1 => q g1 OS σ H1 (rl.step s1 k1)
  | ok ev h1 =>
    rw [e1] at q
    simp only [exS_ok] at q
    intro y g1 H1 s1 k1 r1
    have rl1 := rl.step s1 k1
    refine ⟨g1, OS, env, h1, rl1, ?_⟩
    cases e2 : fo env h1 with
    | err => rw [e2] at q; exact q
    | exc c h2 => rw [e2] at q; exact fun g2 H2 s2 k2 => q g2 OS σ H2 (rl1.step s2 k2)
    | ok ov h2 =>
      rw [e2] at q
      simp only [exS_ok] at q
      intro x g2 H2 s2 k2 r2
      have rl2 := rl1.step s2 k2
      have ry := r1.step k1 s2 rfl
      have d2 : ∀ b, H b ≠ none → H2 b ≠ none := fun b z => s2.dom b (s1.dom b z)
      cases ov with
      | v d =>
        cases d with
        | ref n =>
          simp only at q
          cases e3 : h2[n]? with
          | none => rw [e3] at q; exact q.elim
          | some ob =>
            rw [e3] at q
            cases ob with
            | ins c k fs =>
              simp only at q
              by_cases hcl : (okc c && decide (fs.length < 1000)) = true
              · rw [if_pos hcl] at q
                rw [Bool.and_eq_true, decide_eq_true_eq] at hcl
                cases r2 with
                | ref r3 =>
                  rename_i a
                  obtain ⟨oa, dx, vs, z1, z2⟩ := k2.obj n _ a e3 r3
                  have lf : ∀ (fs : List (Str × Fld)) (vs : List (Str × V)), FldOk S g2 H2 n fs vs → vs.length = fs.length := by
                    intro fs
                    induction fs with
                    | nil => intro vs kk; cases vs with
                      | nil => rfl
                      | cons _ _ => exact kk.elim
                    | cons p fs ih =>
                      obtain ⟨z, w⟩ := p
                      intro vs kk
                      cases vs with
                      | nil => cases w <;> exact kk.elim
                      | cons q' vs =>
                        obtain ⟨z', v⟩ := q'
                        cases w with
                        | val d => rw [List.length_cons, List.length_cons, ih vs kk.2.2]
                        | own j ds => rw [List.length_cons, List.length_cons, ih vs kk.2.2]
                  refine ⟨a, S.cadr c, dx, vs, rfl, z1, (hc c hcl.1).1, (hc c hcl.1).2, by rw [lf _ _ z2]; exact hcl.2, ?_⟩
                  have val : ∀ {d : D}, ev.toD = some d → fldOfEv own k ev = some (.val d) → Dn.nx σ (upd H2 a (.ins (S.cadr c) dx (putF f y vs))) := fun {d} ed ef => by
                    rw [ef] at q
                    simp only at q
                    obtain ⟨g3, m1, m2, m3, m4, le, r'⟩ := ry.val' ed k2
                    have s3 : Stp g H g3 H2 := ⟨(s1.trans s2).keep, fun b hb => (m1 b hb).trans ((s1.trans s2).gk b hb), fun b hb => by rw [m2]; exact (s1.trans s2).ok b hb, (s1.trans s2).dom, fun i b hb => by rw [m3]; exact (s1.trans s2).pre i b hb⟩
                    have rl3 := rl.step s3 m4
                    have hp := m4.put (f := f) (x := .val d) (y := y) e3 (by rw [m3]; exact r3) z1 (FldOk.keep le n (fun b j w => le.O b _ w) (fun b j u _ w => w) _ _ z2) r' (Nat.le_succ k)
                    exact q g3 OS σ _ (rl3.putO (q := (n, 0)) (by rw [m2]; exact oa) hp)
                  cases ev with
                  | v d => exact val rfl rfl
                  | f ds =>
                    cases own with
                    | false => exact val rfl rfl
                    | true =>
                      have ef : fldOfEv true k (.f ds) = some (.own k ds) := rfl
                      rw [ef] at q
                      simp only at q
                      obtain ⟨p, us, rfl, w1, w2, w3, w4, w5⟩ := ry
                      have hk0 : 0 < k := by
                        obtain ⟨o', y1, y2⟩ := k2.bnd a n 0 oa
                        rw [e3] at y1; cases y1
                        exact y2
                      have cl := k2.claim e3 w3 w4 (by rw [w1]; simp) hk0
                      have le : Gle g2 (g2.claim p n k) := claim_le w4
                      have npa : p ≠ a := fun z => by rw [z, oa] at w4; cases w4
                      have nOS : OS p = none := by
                        cases z : OS p with
                        | none => rfl
                        | some j => exact absurd w5 (rl.slots.os p j z).2.2.2
                      have nH0 : F.H0 p = none := by
                        cases z : F.H0 p with
                        | none => rfl
                        | some u => exact absurd w5 (rl.ent.dom p (by rw [z]; simp))
                      have rlc : Rel S F (g2.claim p n k) OS env (h2.set n (.ins c (k + 1) fs)) σ H2 := by
                        refine ⟨cl, ⟨rl2.slots.len, fun j sl z => ?_, fun x j z => ?_⟩, ⟨rl2.ent.keep, rl2.ent.gk, fun x z => ?_, rl2.ent.dom, rl2.ent.pre⟩, F.mono _ _ le rl2.pin⟩
                        · obtain ⟨u, y1, y2⟩ := rl2.slots.at_ j sl z
                          refine ⟨u, y1, ?_⟩
                          cases sl with
                          | val d => exact Rep.mono le y2
                          | own es' => obtain ⟨b', ws, x1, x2, x3, x4⟩ := y2; exact ⟨b', ws, x1, x2, x3, x4.mono le⟩
                        · obtain ⟨y1, y2, y3, y4⟩ := rl2.slots.os x j z
                          exact ⟨y1, by show (if x = p then some (n, k) else g2.O x) = none; rw [if_neg (fun w => by rw [w, nOS] at z; cases z)]; exact y2, y3, y4⟩
                        · show (if x = p then some (n, k) else g2.O x) = _
                          rw [if_neg (fun w => z (by rw [w]; exact nH0))]; exact rl2.ent.ok x z
                      have hn : n < h2.length := (List.getElem?_eq_some_iff.mp e3).1
                      have hp := cl.put (f := f) (x := .own k ds) (y := .ref p) (List.getElem?_set_self hn) (show (g2.claim p n k).I[n]? = some a from r3) z1 (FldOk.keep le n (fun b j w => le.O b _ w) (fun b j u _ w => w) _ _ z2) ⟨p, us, rfl, if_pos rfl, w1, w2.mono le⟩ (Nat.le_refl (k + 1))
                      have oa' : (g2.claim p n k).O a = some (n, 0) := le.O a _ oa
                      have hp' := rlc.putO oa' hp
                      rw [List.set_set] at hp'
                      exact q _ OS σ _ hp'
                  | b ds => rw [show fldOfEv own k (.b ds) = none from rfl] at q; exact q.elim
                  | fb m j => rw [show fldOfEv own k (.fb m j) = none from rfl] at q; exact q.elim
              · rw [if_neg hcl] at q; exact q.elim
            | _ => exact q.elim
        | _ => exact q.elim
      | _ => exact q.elim
end
end J

/-! calls of methods, new objects, calls of function values, returns -/
namespace J
open PySem PySem.Spec PyProof.Rows L2
section
variable {S : Sta} {F : Fm} {W : WishX} {X : Cx} {e o : Expr} {es : List Expr} {pos apos : Pos} {g : Gh} {H : Hp} {h : AH}
/-! ### a new object -/
abbrev Gh.obj (g : Gh) (x : Addr) (n : Nat) : Gh := { g with O := fun a => if a = x then some (n, 0) else g.O a, I := g.I ++ [x] }
theorem obj_le {x : Addr} {n : Nat} (n2 : g.O x = none) : Gle g (g.obj x n) := ⟨fun _ _ q => q, fun i a q => by
    show (g.I ++ [x])[i]? = some a
    rw [List.getElem?_append_left (List.getElem?_eq_some_iff.mp q).1]; exact q, fun a p q => by
    show (if a = x then some (n, 0) else g.O a) = some p
    rw [if_neg (fun z => by rw [z, n2] at q; cases q)]; exact q⟩
theorem HeapOk.obj_new {H' : Hp} {x : Addr} {ob : AObj} (hk : HeapOk S g H h) (n1 : g.G x = none) (n2 : g.O x = none) (lens : ∀ a o, H' a = some o → HLen o) (keep : ∀ a o, H a = some o → a ≠ x → H' a = some o) (dx : H' x ≠ none) (hc : 0 < ob.cap)
    (ok : ObOk S (g.obj x h.length) H' h.length x ob) : HeapOk S (g.obj x h.length) H' (h ++ [ob]) := by
  have le : Gle g (g.obj x h.length) := obj_le n2
  have hx : ∀ a o, g.G a = some o → a ≠ x := fun a o q z => by rw [z, n1] at q; cases q
  refine ⟨lens, fun a u q => keep a u (hk.sub a u q) (hx a u q), fun a p q => ?_, by show (h ++ [ob]).length = (g.I ++ [x]).length; rw [List.length_append, List.length_append, hk.len]; rfl, fun a b p q1 q2 => ?_, fun a m j q => ?_, fun m o a q1 q2 => ?_⟩
  · have q : (if a = x then some (h.length, 0) else g.O a) = some p := q
    by_cases ha : a = x
    · subst ha; exact ⟨n1, dx⟩
    · rw [if_neg ha] at q
      obtain ⟨z1, z2⟩ := hk.og a p q
      refine ⟨z1, fun z => ?_⟩
      cases e : H a with
      | none => exact z2 e
      | some u => rw [keep a u e ha] at z; cases z
  · have no : ∀ y, g.O y = some (h.length, 0) → False := fun y w => by
      obtain ⟨o, w1, _⟩ := hk.bnd y _ _ w
      exact Nat.lt_irrefl _ (List.getElem?_eq_some_iff.mp w1).1
    have q1 : (if a = x then some (h.length, 0) else g.O a) = some p := q1
    have q2 : (if b = x then some (h.length, 0) else g.O b) = some p := q2
    by_cases ha : a = x
    · by_cases hb : b = x
      · rw [ha, hb]
      · rw [if_pos ha] at q1; rw [if_neg hb] at q2; cases q1; exact (no b q2).elim
    · rw [if_neg ha] at q1
      by_cases hb : b = x
      · rw [if_pos hb] at q2; cases q2; exact (no a q1).elim
      · rw [if_neg hb] at q2; exact hk.inj a b p q1 q2
  · have q : (if a = x then some (h.length, 0) else g.O a) = some (m, j) := q
    by_cases ha : a = x
    · rw [if_pos ha] at q; cases q
      exact ⟨ob, by rw [List.getElem?_append_right (Nat.le_refl _), Nat.sub_self]; rfl, hc⟩
    · rw [if_neg ha] at q
      obtain ⟨o, w1, w2⟩ := hk.bnd a m j q
      exact ⟨o, by rw [List.getElem?_append_left (List.getElem?_eq_some_iff.mp w1).1]; exact w1, w2⟩
  · by_cases hm : m < h.length
    · rw [List.getElem?_append_left hm] at q1
      have q2 : (g.I ++ [x])[m]? = some a := q2
      rw [List.getElem?_append_left (by rw [← hk.len]; exact hm)] at q2
      refine (hk.obj m o a q1 q2).keep le m (fun b j w => le.O b _ w) fun b j u w1 w2 => keep b u w2 fun z => ?_
      rw [z, n2] at w1; cases w1
    · have hm2 : m = h.length := by
        have := (List.getElem?_eq_some_iff.mp q1).1
        rw [List.length_append, List.length_singleton] at this
        omega
      subst hm2
      rw [List.getElem?_append_right (Nat.le_refl _), Nat.sub_self] at q1
      cases q1
      have q2 : (g.I ++ [x])[h.length]? = some a := q2
      rw [hk.len, List.getElem?_append_right (Nat.le_refl _), Nat.sub_self] at q2
      cases q2
      exact ok
/-! ### return of a list that the caller will own -/
def dRetOwn (f : DE) : DS := fun env h => exS (f env h) env fun e h1 => match e with
  | .f ds => .ret (.ref h1.length) (h1 ++ [mkL ds])
  | _ => .err
theorem as_retOwn {f : DE} (he : PE X e (tE S F W f)) : PS X (.Return (some e) pos) (tS S F W (dRetOwn f)) := by
  refine PSim (ps_ret he) fun D σ H hq => ?_
  obtain ⟨g, OS, env, h, rl, q⟩ := hq
  refine ⟨g, OS, env, h, rl, ?_⟩
  unfold dRetOwn at q
  cases e1 : f env h with
  | err => rw [e1] at q; exact q
  | exc c h1 => rw [e1] at q; exact fun g1 H1 s1 k1 => q g1 OS σ H1 (rl.step s1 k1)
  | ok x h1 =>
    rw [e1] at q
    simp only [exS_ok] at q
    intro v1 g1 H1 s1 k1 r1
    cases x with
    | f ds =>
      simp only at q
      obtain ⟨p, vs, rfl, e2, r, n1, n2, n3⟩ := r1
      have le : Gle g1 (g1.obj p h1.length) := obj_le n2
      have k2 : HeapOk S (g1.obj p h1.length) H1 (h1 ++ [mkL ds]) := k1.obj_new n1 n2 k1.lens (fun _ _ e _ => e) (by rw [e2]; simp) Nat.zero_lt_one ⟨if_pos rfl, fun z => z, vs, e2, r.mono le⟩
      have ent := rl.ent.trans s1
      have nH0 : F.H0 p = none := by
        cases z : F.H0 p with
        | none => rfl
        | some u => exact absurd n3 (rl.ent.dom p (by rw [z]; simp))
      refine q (.ref p) (g1.obj p h1.length) H1 k2 ⟨ent.keep, ent.gk, fun a z => ?_, ent.dom, fun i a z => le.I i a (ent.pre i a z)⟩ (.ref ?_)
      · show (if a = p then some (h1.length, 0) else g1.O a) = _
        rw [if_neg (fun w => z (by rw [w]; exact nH0))]; exact ent.ok a z
      · show (g1.I ++ [p])[h1.length]? = some p
        rw [k1.len, List.getElem?_append_right (Nat.le_refl _), Nat.sub_self]; rfl
    | _ => exact q.elim
/-! ### return, an expression as a statement -/
def dDrop (f : DE) : DS := fun env h => exS (f env h) env fun _ h1 => .nx env h1
theorem as_drop {f : DE} (he : PE X e (tE S F W f)) (hs : swapsWith e none pos.line X.env = pure false) : PS X (.Expr e pos) (tS S F W (dDrop f)) := by
  refine PSim (ps_expr he hs) fun D σ H hq => ?_
  obtain ⟨g, OS, env, h, rl, q⟩ := hq
  refine ⟨g, OS, env, h, rl, ?_⟩
  unfold dDrop at q
  cases e1 : f env h with
  | err => rw [e1] at q; exact q
  | exc c h1 => rw [e1] at q; exact fun g1 H1 s1 k1 => q g1 OS σ H1 (rl.step s1 k1)
  | ok x h1 => rw [e1] at q; exact fun v g1 H1 s1 k1 _ => q g1 OS σ H1 (rl.step s1 k1)
theorem as_doc {x : Str} {j : Nat} {pos' : Pos} : PS X (.Expr (.Constant (.str x) j pos) pos') (tS S F W dNext) := PSim ps_doc fun D σ H h => by
  obtain ⟨g, OS, env, h, r, q⟩ := h
  exact q g OS σ H r
/-! ### what is known of a def -/
structure FnAt (X : Cx) (S : Sta) (f n : Nat) (φ : List D → AH → Res D) : Prop where
  ex : ∃ k fd ps, FnOk X.prog X.w X.K X.mg X.base (L2.CX X.prog X.w) k (S.fadr f) fd ps (spF S n φ) ∧ Room k X.A ∧ PySem.W.keepIn X.K (.ref (S.fadr f)) = true ∧ Binds X.K fd ps []
structure FnAt1 (X : Cx) (S : Sta) (f n : Nat) (φ : List D → AH → Res D) : Prop where
  ex : ∃ k fd ps, FnOk X.prog X.w X.K X.mg X.base (L2.CX X.prog X.w) k (S.fadr f) fd ps (spF S n φ) ∧ Room (k + 1) X.A ∧ PySem.W.keepIn X.K (.ref (S.fadr f)) = true ∧ Binds X.K fd ps []
theorem FnAt.call {f n : Nat} {φ : List D → AH → Res D} {x : Str} (a : FnAt X S f n φ) (hm : X.mg x = some (.ref (S.fadr f))) : CallOk X S x n φ := by
  obtain ⟨k, fd, ps, z1, z2, z3, z4⟩ := a.ex
  exact ⟨k, S.fadr f, fd, ps, z1, z2, hm, z3, z4⟩
theorem all_plain : ∀ es : List Expr, es.all notStar = true → (starEach es X.env).any (·.1) = false := by
  intro es
  induction es with
  | nil => intro _; rfl
  | cons y ys ih =>
    intro z
    rw [List.all_cons, Bool.and_eq_true] at z
    rw [starEach_cons z.1, List.any_cons, ih z.2]; rfl
/-! ### a method of an object -/
def dMethO (c : Nat) (m : Str) (φ : List D → AH → Res D) (fa : DE) (fs : DL) : DE := fun env h => (fa env h).bind fun e1 h1 => match e1 with
  | .v (.ref n) => match h1[n]? with
    | some (.ins c' _ fl) => if c' = c ∧ fl.lookup m = none then (fs env h1).bind fun ds h2 => (φ (.ref n :: ds) h2).bind fun d h3 => .ok (.v d) h3 else .err
    | _ => .err
  | _ => .err
theorem fld_nolook {n : Nat} {f : Str} : ∀ {fs : List (Str × Fld)} {vs : List (Str × V)}, FldOk S g H n fs vs → fs.lookup f = none → vs.lookup f = none
  | [], [], _, _ => rfl
  | [], _ :: _, k, _ => k.elim
  | (y, .val d) :: fs, [], k, _ => k.elim
  | (y, .own _ _) :: fs, [], k, _ => k.elim
  | (y, .val d) :: fs, (z, v) :: vs, k, e => by
    obtain ⟨k1, _, k3⟩ := k
    subst k1
    rw [List.lookup_cons] at e ⊢
    cases hb : f == y with
    | true => rw [hb] at e; cases e
    | false => rw [hb] at e; exact fld_nolook k3 e
  | (y, .own j ds) :: fs, (z, v) :: vs, k, e => by
    obtain ⟨k1, _, k3⟩ := k
    subst k1
    rw [List.lookup_cons] at e ⊢
    cases hb : f == y with
    | true => rw [hb] at e; cases e
    | false => rw [hb] at e; exact fld_nolook k3 e
def tMethS (C : Addr) (m : Str) (sp : Sp) (E : L2.St → XK) (ta : TE) (t : TA) : TE := fun σ H Q => ta σ H fun x H1 => ∃ a dx fs, x = .ref a ∧ H1 a = some (.ins C dx fs) ∧ fs.lookup m = none ∧ t σ H1 fun vs H2 => sp (x :: (vs ++ [])) H2 Q (E σ)
theorem methO_read {c f n : Nat} {m : Str} {φ : List D → AH → Res D} {fa : DE} {fs : DL} (l : LenIs fs n) (σ : L2.St) (H : Hp) (Q : VK) (hq : tE S F W (dMethO c m φ fa fs) σ H Q) : tMethS (S.cadr c) m (spF S (n + 1) φ) (WE (wxOf S W)) (tE S F W fa) (tL S F W fs) σ H Q := by
  obtain ⟨g, OS, env, h, rl, q⟩ := hq
  refine ⟨g, OS, env, h, rl, ?_⟩
  unfold dMethO at q
  cases e1 : fa env h with
  | err => rw [e1] at q; exact q
  | exc c h1 => rw [e1] at q; exact q
  | ok x h1 =>
    rw [e1] at q
    simp only [bind_ok] at q
    intro v1 g1 H1 s1 k1 r1
    cases x with
    | v d =>
      cases d with
      | ref i =>
        simp only at q
        cases e3 : h1[i]? with
        | none => rw [e3] at q; exact q.elim
        | some ob =>
          rw [e3] at q
          cases ob with
          | ins c' k fl =>
            simp only at q
            by_cases hcl : c' = c ∧ fl.lookup m = none
            · rw [if_pos hcl] at q
              obtain ⟨hc, hl⟩ := hcl
              subst hc
              cases r1 with
              | ref r2 =>
                rename_i a
                obtain ⟨oa, dx, vs, z1, z2⟩ := k1.obj i _ a e3 r2
                refine ⟨a, dx, vs, rfl, z1, fld_nolook z2 hl, g1, OS, env, h1, rl.step s1 k1, ?_⟩
                cases e4 : fs env h1 with
                | err => rw [e4] at q; exact q
                | exc c h2 => rw [e4] at q; exact fun g2 H2 s2 k2 => q g2 H2 (s1.trans s2) k2
                | ok ds h2 =>
                  rw [e4] at q
                  simp only [bind_ok] at q
                  intro us g2 H2 s2 k2 r3
                  refine ⟨g2, .ref i :: ds, h2, k2, .cons (.ref ((s2.le k1).I _ _ r2)) (by rw [List.append_nil]; exact r3), by rw [List.length_cons, List.append_nil, ← r3.length, l _ _ _ _ e4], ?_⟩
                  cases e5 : φ (.ref i :: ds) h2 with
                  | err => rw [e5] at q; exact q
                  | exc c h3 => rw [e5] at q; exact fun g3 H3 s3 k3 => ⟨c, rfl, rfl, q g3 H3 ((s1.trans s2).trans s3) k3⟩
                  | ok d h3 => rw [e5] at q; exact fun v g3 H3 s3 k3 r4 => q v g3 H3 ((s1.trans s2).trans s3) k3 r4
            · rw [if_neg hcl] at q; exact q.elim
          | _ => exact q.elim
      | _ => exact q.elim
    | _ => exact q.elim
theorem ae_methO {c f n : Nat} {m : Str} {φ : List D → AH → Res D} {fa : DE} {fs : DL} (cl : Cls X.K (S.cadr c)) (hm : Meth X.K (S.cadr c) m (S.fadr f)) (A : FnAt X S f (n + 1) φ) (tk : Takes X (wxOf S W)) (l : LenIs fs n) (ho : PE X o (tE S F W fa)) (ha : PA X (e :: es) (tL S F W fs)) (hs : notStar e = true) (hs2 : es.all notStar = true)
    {pl : Sem Bool} (ht : eval (.Call (.Attribute o m apos) (e :: es) [] pos) X.env = (do
      let ov ← eval o X.env
      standAt apos.atName
      let (f, first) ← holding [ov] (getMethod ov m pl)
      callWith pos f first (backTo pos (starEach (e :: es) X.env)) (backToKw pos (keywordEach [] X.env)))) :
    PE X (.Call (.Attribute o m apos) (e :: es) [] pos) (tE S F W (dMethO c m φ fa fs)) := by
  obtain ⟨k, fd, ps, F1, hr, hkp, hb⟩ := A.ex
  refine ⟨fun pins s σ H Q I hq => ?_⟩
  have h := methO_read (f := f) l σ H Q hq
  refine PySem.W.methodCall_KW (pl := pl) (thn (ho.run pins s σ H _ I h) fun u s1 ⟨x, H1, I1, rx, a, dx, fl, ex, ea, lk, q⟩ => ?_) ht
  subst ex
  obtain rfl : u = Value.ref a := rx
  refine getmeth_ok I1 ea cl hm lk ?_
  refine PySem.W.callWith_K (first := [.ref a]) (h₀ := X.base) I.ok.mod.kin hm.kp (thn (ha.run pos pins s1 σ H1 _ I1 q) fun us s2 ⟨vs, H2, I2, r, q2⟩ => ⟨I2.kIn, ?_⟩) (starEach_cons hs) (backTo_any (all_plain es hs2))
  exact run_fnSD (us := .ref a :: us) (vs := .ref a :: vs) F1 hr hb .nil (passAt tk σ) I2 (.cons rfl r) q2
theorem ae_methO0 {c f : Nat} {m : Str} {φ : List D → AH → Res D} {fa : DE} (cl : Cls X.K (S.cadr c)) (hm : Meth X.K (S.cadr c) m (S.fadr f)) (A : FnAt X S f 1 φ) (tk : Takes X (wxOf S W)) (ho : PE X o (tE S F W fa))
    {pl : Sem Bool} (ht : eval (.Call (.Attribute o m apos) [] [] pos) X.env = (do
      let ov ← eval o X.env
      standAt apos.atName
      let (f, first) ← holding [ov] (getMethod ov m pl)
      callWith pos f first (backTo pos (starEach [] X.env)) (backToKw pos (keywordEach [] X.env)))) :
    PE X (.Call (.Attribute o m apos) [] [] pos) (tE S F W (dMethO c m φ fa dNil)) := by
  obtain ⟨k, fd, ps, F1, hr, hkp, hb⟩ := A.ex
  refine ⟨fun pins s σ H Q I hq => ?_⟩
  have h := methO_read (f := f) lenIs_nil σ H Q hq
  refine PySem.W.methodCall_KW (pl := pl) (thn (ho.run pins s σ H _ I h) fun u s1 ⟨x, H1, I1, rx, a, dx, fl, ex, ea, lk, q⟩ => ?_) ht
  subst ex
  obtain rfl : u = Value.ref a := rx
  refine getmeth_ok I1 ea cl hm lk ?_
  have q : tL S F W dNil σ H1 fun vs H2 => spF S (0 + 1) φ (.ref a :: (vs ++ [])) H2 Q (WE (wxOf S W) σ) := q
  obtain ⟨g, OS, env, h, rl, q⟩ := q
  have q := q [] g H1 (Stp.refl g H1) rl.heap .nil
  exact PySem.W.callWith_K0 (first := [.ref a]) I1.kIn hm.kp (run_fnSD (us := [.ref a]) (vs := [.ref a]) F1 hr hb .nil (passAt tk σ) I1 (.cons rfl .nil) q)
/-! ### C(..) -/
def dMake (c : Nat) (φ : List D → AH → Res D) (fs : DL) : DE := fun env h => (fs env h).bind fun ds h1 => (φ (.ref h1.length :: ds) (h1 ++ [.ins c 1 []])).bind fun d h2 => match d with
  | .non => .ok (.v (.ref h1.length)) h2
  | _ => .err
def tMakeS (C : Addr) (sp : Sp) (E : L2.St → XK) (t : TA) : TE := fun σ H Q => t σ H fun vs H1 => ∀ x dx, H1 x = none → H1 dx = none → dx ≠ x →
  sp (.ref x :: (vs ++ [])) (upd (upd H1 dx (.own x)) x (.ins C dx [])) (fun v H2 => v = .non ∧ Q (.ref x) H2) (E σ)
theorem make_read {c n : Nat} {φ : List D → AH → Res D} {fs : DL} (l : LenIs fs n) (σ : L2.St) (H : Hp) (Q : VK) (hq : tE S F W (dMake c φ fs) σ H Q) : tMakeS (S.cadr c) (spF S (n + 1) φ) (WE (wxOf S W)) (tL S F W fs) σ H Q := by
  obtain ⟨g, OS, env, h, rl, q⟩ := hq
  refine ⟨g, OS, env, h, rl, ?_⟩
  unfold dMake at q
  cases e1 : fs env h with
  | err => rw [e1] at q; exact q
  | exc c h1 => rw [e1] at q; exact q
  | ok ds h1 =>
    rw [e1] at q
    simp only [bind_ok] at q
    intro vs g1 H1 s1 k1 r1 x dx nx ndx hne
    have n2 : g1.O x = none := k1.on nx
    have le : Gle g1 (g1.obj x h1.length) := obj_le n2
    have k2 : HeapOk S (g1.obj x h1.length) (upd (upd H1 dx (.own x)) x (.ins (S.cadr c) dx [])) (h1 ++ [.ins c 1 []]) := by
      refine k1.obj_new (k1.gn nx) n2 (lens_upd (lens_upd k1.lens True.intro) True.intro) (fun a o e1 e2 => ?_) (by rw [upd_same]; simp) Nat.zero_lt_one ⟨if_pos rfl, dx, [], upd_same, True.intro⟩
      rw [upd_ne e2, upd_ne (ne_of_none e1 ndx)]; exact e1
    have s2 : Stp g1 H1 (g1.obj x h1.length) (upd (upd H1 dx (.own x)) x (.ins (S.cadr c) dx [])) := by
      refine ⟨fun a o e _ => ?_, fun _ _ => rfl, fun a e => ?_, fun a e => upd_dom (upd_dom e), fun i a e => le.I i a e⟩
      · rw [upd_ne (ne_of_none e nx), upd_ne (ne_of_none e ndx)]; exact e
      · show (if a = x then some (h1.length, 0) else g1.O a) = _
        rw [if_neg (ne_dom nx e)]
    have rx : Rep S (g1.obj x h1.length) (.ref h1.length) (.ref x) := .ref (by
      show (g1.I ++ [x])[h1.length]? = some x
      rw [k1.len, List.getElem?_append_right (Nat.le_refl _), Nat.sub_self]; rfl)
    refine ⟨g1.obj x h1.length, .ref h1.length :: ds, h1 ++ [.ins c 1 []], k2, .cons rx (by rw [List.append_nil]; exact r1.mono le), by rw [List.length_cons, List.append_nil, ← r1.length, l _ _ _ _ e1], ?_⟩
    cases e2 : φ (.ref h1.length :: ds) (h1 ++ [.ins c 1 []]) with
    | err => rw [e2] at q; exact q
    | exc c h2 => rw [e2] at q; exact fun g3 H3 s3 k3 => ⟨c, rfl, rfl, q g3 H3 ((s1.trans s2).trans s3) k3⟩
    | ok d h2 =>
      rw [e2] at q
      simp only [bind_ok] at q
      intro v g3 H3 s3 k3 r4
      cases d with
      | non => cases r4; exact ⟨rfl, q (.ref x) g3 H3 ((s1.trans s2).trans s3) k3 (rx.mono (s3.le k2))⟩
      | _ => exact q.elim
theorem run_makeS {CX : CXT} {k : Nat} {C f : Addr} {fd : FuncData} {ps : List Str} {sp : Sp} {E : XK} {pins : List (Addr × Obj)} {σ : L2.St} {H : Hp} {s : Shared} {Q : VK} {us : List Value} {vs : List V} (M : Mk X.K C f) (F : FnOk X.prog X.w X.K X.mg X.base CX k f fd ps sp) (hr : Room (k + 1) X.A) (hb : Binds X.K fd ps [])
    (hx : PassesAt CX X σ E) (I : Inv X pins σ H s) (r : Vals vs us)
    (h : ∀ x dx, H x = none → H dx = none → dx ≠ x → sp (.ref x :: (vs ++ [])) (upd (upd H dx (.own x)) x (.ins C dx [])) (fun v H2 => v = .non ∧ Q (.ref x) H2) E) :
    wpAny (model X.prog X.w) X.A (call (.ref C) us) (EP X pins σ Q) X.xe s := by
  have hq := h (s.heap.objs.size + 1) s.heap.objs.size (I.hok.fresh (Nat.le_succ _)) (I.hok.fresh (Nat.le_refl _)) (Nat.ne_of_lt (Nat.lt_succ_self _))
  have I2 := Inv.made (C := C) I
  have r2 : Vals (V.ref (s.heap.objs.size + 1) :: (vs ++ [])) (Value.ref (s.heap.objs.size + 1) :: (us ++ [])) := .cons rfl (r.append .nil)
  have hl : (Value.ref (s.heap.objs.size + 1) :: us ++ []).length = ps.length := by
    have e := r2.length
    rw [F.len _ _ _ _ hq] at e
    exact e.symm
  refine wpAny_call (make_map (f := f) I.kIn M.makes M.init (beq_iff_eq.mp M.fn) (codeAny_mono (F.run _ X.stack _ _ ⟨Value.ref (s.heap.objs.size + 1) :: us, []⟩ (Value.ref (s.heap.objs.size + 1) :: (us ++ [])) _ _ E (hr.make C us [])
    (I2.env0.make C us []) (by have z := hb _ (Value.ref (s.heap.objs.size + 1) :: us) I2.kIn hl; rw [List.append_nil] at z; rw [List.append_nil]; exact z) r2 hq) fun r s' hq' => ?_))
  cases r with
  | error e => exact hx pins _ _ e s' I2 hq'
  | ok fl =>
    cases fl with
    | ret u =>
      obtain ⟨v, H', I3, rv, ev, q3⟩ := I2.after hq'
      subst ev
      exact ⟨rv, ⟨V.ref (s.heap.objs.size + 1), H', I3, rfl, q3⟩⟩
    | next => exact False.elim hq'
    | brk => exact False.elim hq'
    | cont => exact False.elim hq'
theorem ae_make {c f n : Nat} {x : Str} {p : Pos} {φ : List D → AH → Res D} {fs : DL} (M : Mk X.K (S.cadr c) (S.fadr f)) (A : FnAt1 X S f (n + 1) φ) (tk : Takes X (wxOf S W)) (hg : Gl X x) (hm : X.mg x = some (.ref (S.cadr c))) (hdb : (x == ("__debug__" : Str)) = false) (l : LenIs fs n) (ha : PA X (e :: es) (tL S F W fs)) (hs : notStar e = true) (hs2 : es.all notStar = true) :
    PE X (.Call (.Name x p) (e :: es) [] pos) (tE S F W (dMake c φ fs)) := by
  obtain ⟨k, fd, ps, F1, hr, hkp, hb⟩ := A.ex
  refine ⟨fun pins s σ H Q I hq => ?_⟩
  have h := make_read l σ H Q hq
  refine wpAny_Call_Name_kw (ld_glob I hg hm ?_ hdb)
  refine PySem.W.callWith_K (h₀ := X.base) I.ok.mod.kin M.kp (thn (ha.run pos pins s σ H _ I h) fun us s1 ⟨vs, H1, I1, r, q⟩ => ⟨I1.kIn, ?_⟩) (starEach_cons hs) (backTo_any (all_plain es hs2))
  exact run_makeS M F1 hr hb (passAt tk σ) I1 r q
/-! ### the call of a function value -/
def dCallX (n : Nat) (ar : Nat → Option Nat) (φ : Nat → List D → AH → Res D) (fa : DE) (fs : DL) : DE := fun env h => (fa env h).bind fun e1 h1 => match e1 with
  | .v (.fn f) => if ar f = some n then (fs env h1).bind fun ds h2 => (φ f ds h2).bind fun d h3 => .ok (.v d) h3 else .err
  | _ => .err
theorem ae_callX {n : Nat} {ar : Nat → Option Nat} {φ : Nat → List D → AH → Res D} {fa : DE} {fs : DL} (A : ∀ f n, ar f = some n → FnAt X S f n (φ f)) (tk : Takes X (wxOf S W)) (l : LenIs fs n) (ho : PE X o (tE S F W fa)) (ha : PA X (e :: es) (tL S F W fs)) (hs : notStar e = true) (hs2 : es.all notStar = true)
    (he : eval (.Call o (e :: es) [] pos) X.env = (do callWith pos (← eval o X.env) [] (backTo pos (starEach (e :: es) X.env)) (backToKw pos (keywordEach [] X.env)))) :
    PE X (.Call o (e :: es) [] pos) (tE S F W (dCallX n ar φ fa fs)) := by
  refine ⟨fun pins s σ H Q I hq => ?_⟩
  obtain ⟨g, OS, env, h, rl, q⟩ := hq
  unfold dCallX at q
  refine Call_ (thn (ho.run pins s σ H (fun v H1 => ∃ f, v = .ref (S.fadr f) ∧ ar f = some n ∧ tL S F W fs σ H1 fun vs H2 => spF S n (φ f) (vs ++ []) H2 Q (WE (wxOf S W) σ)) I ⟨g, OS, env, h, rl, ?_⟩) fun v s1 ⟨x, H1, I1, rx, f, ex, hf, z⟩ => ?_) he
  · cases e1 : fa env h with
    | err => rw [e1] at q; exact q
    | exc c h1 => rw [e1] at q; exact q
    | ok x h1 =>
      rw [e1] at q
      simp only [bind_ok] at q
      intro v1 g1 H1 s1 k1 r1
      cases x with
      | v d =>
        cases d with
        | fn f =>
          simp only at q
          by_cases hf : ar f = some n
          · rw [if_pos hf] at q
            cases r1
            refine ⟨f, rfl, hf, g1, OS, env, h1, rl.step s1 k1, ?_⟩
            cases e4 : fs env h1 with
            | err => rw [e4] at q; exact q
            | exc c h2 => rw [e4] at q; exact fun g2 H2 s2 k2 => q g2 H2 (s1.trans s2) k2
            | ok ds h2 =>
              rw [e4] at q
              simp only [bind_ok] at q
              intro us g2 H2 s2 k2 r3
              refine ⟨g2, ds, h2, k2, by rw [List.append_nil]; exact r3, by rw [List.append_nil, ← r3.length, l _ _ _ _ e4], ?_⟩
              cases e5 : φ f ds h2 with
              | err => rw [e5] at q; exact q
              | exc c h3 => rw [e5] at q; exact fun g3 H3 s3 k3 => ⟨c, rfl, rfl, q g3 H3 ((s1.trans s2).trans s3) k3⟩
              | ok d h3 => rw [e5] at q; exact fun v g3 H3 s3 k3 r4 => q v g3 H3 ((s1.trans s2).trans s3) k3 r4
          · rw [if_neg hf] at q; exact q.elim
        | _ => exact q.elim
      | _ => exact q.elim
  · subst ex
    obtain rfl : v = Value.ref (S.fadr f) := rx
    obtain ⟨k, fd, ps, F1, hr, hkp, hb⟩ := (A f n hf).ex
    refine PySem.W.callWith_K (h₀ := X.base) I.ok.mod.kin hkp (thn (ha.run pos pins s1 σ H1 _ I1 z) fun us s2 ⟨vs, H2, I2, r, q2⟩ => ⟨I2.kIn, ?_⟩) (starEach_cons hs) (backTo_any (all_plain es hs2))
    exact run_fnSD F1 hr hb .nil (passAt tk σ) I2 r q2
/-! ### recv[i] = e, recv an object's own list -/
def dSetIxF (fv fa fi : DE) : DS := fun env h => exS (fv env h) env fun ev h1 => exS (.lift ev.toD h1) env fun d h1 => exS (fa env h1) env fun rv h2 => match locOf rv with
  | none => .err
  | some (n, j) => exS (fi env h2) env fun iv h3 => match ownL h3 n j with
    | none => .err
    | some ds => match ixD iv ds.length with
      | some m => .nx env (setOwn h3 n j (ds.set m d))
      | none => .err
theorem as_setixF {ix : Expr} {tpos : Pos} {fv fa fi : DE} (hv : PE X e (tE S F W fv)) (ho : PE X o (tE S F W fa)) (hi : PE X ix (tE S F W fi))
    (hs : swapsWithSole [.Subscript o ix tpos] e pos.line X.env = pure false) (hw : swappedStores [.Subscript o ix tpos] e X.env = pure none) (ha : ∀ v, assign (.Subscript o ix tpos) X.env v = (do
      let ov ← holding [v] (eval o X.env)
      let iv ← holding [v, ov] (eval ix X.env)
      standAt tpos
      holding [v, ov, iv] (setItem ov iv v)
      release [v, ov, iv] [])) (h1 : (assignEach [.Subscript o ix tpos] X.env).map (·.2) = [assign (.Subscript o ix tpos) X.env]) : PS X (.Assign [.Subscript o ix tpos] e pos) (tS S F W (dSetIxF fv fa fi)) := by
  refine PSim (ps_asg hv (pg_sub ho hi set_list ha) hs hw h1) fun Dn σ H hq => ?_
  obtain ⟨g, OS, env, h, rl, q⟩ := hq
  refine ⟨g, OS, env, h, rl, ?_⟩
  unfold dSetIxF at q
  cases e1 : fv env h with
  | err => rw [e1] at q; exact q
  | exc c h1 => rw [e1] at q; exact fun g1 H1 s1 k1 => q g1 OS σ H1 (rl.step s1 k1)
  | ok ev h1 =>
    rw [e1] at q
    simp only [exS_ok] at q
    intro v1 g1 H1 s1 k1 r1
    cases e2 : ev.toD with
    | none => rw [e2] at q; exact q.elim
    | some d =>
      rw [e2] at q
      simp only [lift_some, exS_ok] at q
      obtain ⟨g1', s1', k1', r1'⟩ := r1.val e2 s1 k1
      have rl1 := rl.step s1' k1'
      refine ⟨g1', OS, env, h1, rl1, ?_⟩
      cases e3 : fa env h1 with
      | err => rw [e3] at q; exact q
      | exc c h2 => rw [e3] at q; exact fun g2 H2 s2 k2 => q g2 OS σ H2 (rl1.step s2 k2)
      | ok rv h2 =>
        rw [e3] at q
        simp only [exS_ok] at q
        intro v2 g2 H2 s2 k2 r2
        have rl2 := rl1.step s2 k2
        cases el : locOf rv with
        | none => rw [el] at q; exact q.elim
        | some nj =>
          obtain ⟨n, j⟩ := nj
          rw [el] at q
          simp only at q
          obtain ⟨a, rfl, oa⟩ := loc_rel k2 r2 el
          refine ⟨g2, OS, env, h2, rl2, ?_⟩
          cases e5 : fi env h2 with
          | err => rw [e5] at q; exact q
          | exc c h3 => rw [e5] at q; exact fun g3 H3 s3 k3 => q g3 OS σ H3 (rl2.step s3 k3)
          | ok iv h3 =>
            rw [e5] at q
            simp only [exS_ok] at q
            intro v3 g3 H3 s3 k3 r3
            have rl3 := rl2.step s3 k3
            have oa3 := (s3.le k2).O a _ oa
            cases e6 : ownL h3 n j with
            | none => rw [e6] at q; exact q.elim
            | some ds =>
              rw [e6] at q
              simp only at q
              obtain ⟨us, z1, z2⟩ := ownL_rel k3 oa3 e6
              cases e7 : ixD iv ds.length with
              | none => rw [e7] at q; exact q.elim
              | some m =>
                rw [e7] at q
                simp only at q
                unfold ixD at e7
                split at e7
                · rename_i ki
                  rw [z2.length] at e7
                  have rd := (r1'.mono (s2.le k1')).mono (s3.le k2)
                  obtain ⟨w1, w2⟩ := own_write (ds' := ds.set m d) (vs := us.set m v1) k3 oa3 e6 (z2.set m rd) (by
                    have := k3.lens a _ z1
                    have : us.length ≤ sizeLine := this
                    rw [List.length_set]; exact this)
                  exact ⟨a, us, ki, m, rfl, rep_int r3, z1, e7, q g3 OS σ _ (rl3.step w2 w1)⟩
                · cases e7
end
end J

/-! a small language, its meaning, its look at the syntax -/
namespace J
open PySem PySem.Spec PyProof.Rows L2
inductive BOp where
  | add | sub | mul | fdiv | mod | pow
  deriving DecidableEq
inductive COp where
  | eq | ne | lt | le | gt | ge | is | isnot | inn | notin
  deriving DecidableEq
inductive B1 where
  | len | all | any | sum | max | tuple | list | int | abs | str
  deriving DecidableEq
inductive B2 where
  | max | min
  deriving DecidableEq
inductive M1 where
  | indexL | indexT | count | join | split | part | ends | lstrip
  deriving DecidableEq
inductive O1 where
  | app | ext | pop
  deriving DecidableEq
mutual
inductive XE where
  | slot (i : Nat) | cst (d : D) | fnv (f : Nat)
  | bin (o : BOp) (a b : XE) | cmp (o : COp) (a b : XE) | chain (o p : COp) (a b c : XE)
  | ix (a b : XE) | sl (a : XE) (lo hi : XO) | rev (a : XE) | neg (a : XE)
  | notv (a : XE) | andv (a b : XE) | orv (a b : XE) | ife (t : XT) (a b : XE)
  | tup (es : XL) | lst (es : XL)
  | call (f : Nat) (es : XL) | b1 (k : B1) (a : XE) | b2 (k : B2) (a b : XE)
  | isi (T : TyN) (a : XE) | isE (x : Str) (a : XE)
  | lc (it : XI) (t : Tg) (ft : XT) (e : XE) (vs : List Nat)
  | lc2 (it : XI) (t : Tg) (ft : XT) (it1 : XI) (t1 : Tg) (ft1 : XT) (e : XE) (vs vs1 : List Nat)
  | m1 (k : M1) (a b : XE) | fld (f : Str) (a : XE) | own1 (k : O1) (a b : XE) | pop0 (a : XE)
  | meth (c : Nat) (m : Str) (f : Nat) (a : XE) (es : XL) | make (c f : Nat) (es : XL) | callx (a : XE) (es : XL)
  | fmt (a : XE) | fstr1 (a : XE) | fstr (es : XL) | lr1 (a : XE) | lr2 (a b : XE)
inductive XO where
  | no | so (a : XE)
inductive XL where
  | nil | cons (a : XE) (es : XL)
inductive XT where
  | yes | tr (a : XE) | cmp (o : COp) (a b : XE) | chain (o p : COp) (a b c : XE) | not (t : XT) | and (s t : XT) | or (s t : XT)
inductive XI where
  | seq (a : XE) | rng (es : XL) | zip (a b : XE) | enum (a : XE)
end
/-- what is known of the program -/
structure Tab where
  N : List Str
  fns : Str → Option Nat
  ar : Nat → Option Nat
  cls : Str → Option Nat
  free : Str → Bool
  isE : Str → Nat → Option Bool
  exm : Str → Nat → Option Bool
  fldOk : Str → Nat → Bool
  meth : Nat → Str → Option Nat
  mkr : Nat → Option Nat
  isEn : Str → Bool
  exn : Str → Bool
  exc : Str → Option Nat
structure Phi where
  fuel : Nat
  call : Nat → List D → AH → Res D
  make : Nat → List D → AH → Res D
/-! ### the operators -/
def BOp.op : BOp → Operator
  | .add => .Add
  | .sub => .Sub
  | .mul => .Mult
  | .fdiv => .FloorDiv
  | .mod => .Mod
  | .pow => .Pow
def BOp.k : BOp → AH → EV → EV → Option EV
  | .add => addK
  | .sub => subK
  | .mul => mulK
  | .fdiv => fdivK
  | .mod => modK
  | .pow => powK
def COp.op : COp → CmpOp
  | .eq => .Eq
  | .ne => .NotEq
  | .lt => .Lt
  | .le => .LtE
  | .gt => .Gt
  | .ge => .GtE
  | .is => .Is
  | .isnot => .IsNot
  | .inn => .In
  | .notin => .NotIn
def COp.k : COp → AH → EV → EV → Option EV
  | .eq => eqK false
  | .ne => eqK true
  | .lt => intK fun a b => some (.bl (decide (a < b)))
  | .le => intK fun a b => some (.bl (decide (a ≤ b)))
  | .gt => intK fun a b => some (.bl (decide (b < a)))
  | .ge => intK fun a b => some (.bl (decide (b ≤ a)))
  | .is => isK false
  | .isnot => isK true
  | .inn => inK false
  | .notin => inK true
def B1.name : B1 → Str
  | .len => "len"
  | .all => "all"
  | .any => "any"
  | .sum => "sum"
  | .max => "max"
  | .tuple => "tuple"
  | .list => "list"
  | .int => "int"
  | .abs => "abs"
  | .str => "str"
def intAK : AH → EV → Option EV := fun h e => match intCK h e with
  | some r => some r
  | none => intSK h e
def B1.k : B1 → AH → EV → Option EV
  | .len => lenK
  | .all => allK
  | .any => anyK
  | .sum => sumK
  | .max => maxK
  | .tuple => tupK
  | .list => lstK
  | .int => intAK
  | .abs => absK
  | .str => strK
def B2.name : B2 → Str
  | .max => "max"
  | .min => "min"
def B2.k : B2 → AH → EV → EV → Option EV
  | .max => max2K
  | .min => min2K
def M1.T : M1 → TyN
  | .indexL => .lst
  | .indexT => .tup
  | .count => .lst
  | _ => .str
def M1.name : M1 → Str
  | .indexL => "index"
  | .indexT => "index"
  | .count => "count"
  | .join => "join"
  | .split => "split"
  | .part => "partition"
  | .ends => "endswith"
  | .lstrip => "lstrip"
def M1.k : M1 → AH → EV → EV → Option EV
  | .indexL => indexLK
  | .indexT => indexTK
  | .count => countK
  | .join => joinK
  | .split => splitK
  | .part => partK2
  | .ends => endsK
  | .lstrip => lstripK
def O1.name : O1 → Str
  | .app => "append"
  | .ext => "extend"
  | .pop => "pop"
def O1.k : O1 → AH → List D → EV → Option (List D × D)
  | .app => appV
  | .ext => extV
  | .pop => popV
/-! ### the meaning -/
mutual
def denE (T : Tab) (Φ : Phi) : XE → DE
  | .slot i => dSlot i
  | .cst d => dC d
  | .fnv f => dC (.fn f)
  | .bin o a b => den2 (denE T Φ a) (denE T Φ b) o.k
  | .cmp o a b => den2 (denE T Φ a) (denE T Φ b) o.k
  | .chain o p a b c => denCh (denE T Φ a) (denE T Φ b) (denE T Φ c) o.k p.k
  | .ix a b => den2 (denE T Φ a) (denE T Φ b) ixK
  | .sl a lo hi => denSl (denE T Φ a) (denO T Φ lo) (denO T Φ hi)
  | .rev a => den1 (denE T Φ a) revK
  | .neg a => den1 (denE T Φ a) negK
  | .notv a => dNotV (denE T Φ a)
  | .andv a b => dAndV (denE T Φ a) (denE T Φ b)
  | .orv a b => dOrV (denE T Φ a) (denE T Φ b)
  | .ife t a b => dIf (denT T Φ t) (denE T Φ a) (denE T Φ b)
  | .tup es => dTup (denL T Φ es)
  | .lst es => dLst (denL T Φ es)
  | .call f es => dCall (Φ.call f) (denL T Φ es)
  | .b1 k a => den1 (denE T Φ a) k.k
  | .b2 k a b => den2 (denE T Φ a) (denE T Φ b) k.k
  | .isi t a => den1 (denE T Φ a) (isiK t)
  | .isE x a => den1 (denE T Φ a) (isEK (T.isE x))
  | .lc it t ft e vs => dLc (denI T Φ it) t (denT T Φ ft) (denE T Φ e) vs
  | .lc2 it t ft it1 t1 ft1 e vs vs1 => dLc2 (denI T Φ it) t (denT T Φ ft) (denI T Φ it1) t1 (denT T Φ ft1) (denE T Φ e) vs vs1
  | .m1 k a b => denM k.T (denE T Φ a) (denE T Φ b) k.k
  | .fld f a => den1 (denE T Φ a) (fldK (T.fldOk f) f)
  | .own1 k a b => dOwn1 (denE T Φ a) (denE T Φ b) k.k
  | .pop0 a => dPop0 (denE T Φ a)
  | .meth c m f a es => dMethO c m (Φ.call f) (denE T Φ a) (denL T Φ es)
  | .make c f es => dMake c (Φ.make f) (denL T Φ es)
  | .callx a es => dCallX es.len T.ar Φ.call (denE T Φ a) (denL T Φ es)
  | .fmt a => den1 (denE T Φ a) fmtK
  | .fstr1 a => denE T Φ a
  | .fstr es => dJoin (denEs T Φ es) Str.empty
  | .lr1 a => den1 (denE T Φ a) lr1K
  | .lr2 a b => den2 (denE T Φ a) (denE T Φ b) lr2K
def denO (T : Tab) (Φ : Phi) : XO → Env' → AH → Res (Option Int)
  | .no => dNoPart
  | .so a => dPart (denE T Φ a)
def denL (T : Tab) (Φ : Phi) : XL → DL
  | .nil => dNil
  | .cons a es => dCons (denE T Φ a) (denL T Φ es)
def denEs (T : Tab) (Φ : Phi) : XL → List DE
  | .nil => []
  | .cons a es => denE T Φ a :: denEs T Φ es
def denT (T : Tab) (Φ : Phi) : XT → DB
  | .yes => dYes
  | .tr a => dTruth (denE T Φ a)
  | .cmp o a b => dBool (den2 (denE T Φ a) (denE T Φ b) o.k)
  | .chain o p a b c => dBool (denCh (denE T Φ a) (denE T Φ b) (denE T Φ c) o.k p.k)
  | .not t => dNot (denT T Φ t)
  | .and s t => dAnd (denT T Φ s) (denT T Φ t)
  | .or s t => dOr (denT T Φ s) (denT T Φ t)
def denI (T : Tab) (Φ : Phi) : XI → DI
  | .seq a => dSeqI (denE T Φ a)
  | .rng es => dRng (denL T Φ es)
  | .zip a b => dZipI (denE T Φ a) (denE T Φ b)
  | .enum a => dEnumI (denE T Φ a)
def XL.len : XL → Nat
  | .nil => 0
  | .cons _ es => es.len + 1
end
/-! ### the look at the syntax -/
def visB (sc : Scope) (x : Str) : Bool := match sc.names.lookup x with
  | some .local => true
  | some .cell => true
  | some .free => true
  | _ => false
def glB (sc : Scope) (x : Str) : Bool := match sc.names.lookup x with
  | some .globalImplicit => true
  | _ => false
def okN (x : Str) : Bool := !(x == ("__debug__" : Str)) && !(x == ("__classdict__" : Str)) && !(x == ("__name__" : Str))
def isSlice : Expr → Bool
  | .Slice .. => true
  | _ => false
def notSet : Expr → Bool
  | .Set .. => false
  | _ => true
def isTupE : Expr → Bool
  | .Tuple .. => true
  | _ => false
def plainBase : Expr → Bool
  | .Call _ [] _ _ => false
  | _ => true
def plainCallee : Expr → Bool
  | .Subscript .. => true
  | _ => false
def relS (scope sc : Scope) : Scope := { scope with names := scope.names.map fun (n, k) => if (k == .free && sc.kind == .function && sc.names.lookup n == some .cell) then (n, .cell) else (n, k) }
def ownOf (T : Tab) (vs : List Nat) : List (Str × Nat) := vs.filterMap fun i => (T.N[i]?).map fun x => (x, i)
def TyN.nm : TyN → Str
  | .non => "NoneType"
  | .bool => "bool"
  | .int => "int"
  | .str => "str"
  | .tup => "tuple"
  | .lst => "list"
def locB' (sc : Scope) (fb : Str → Bool) (x : Str) : Bool := match sc.names.lookup x with
  | some .local => true
  | some .cell => fb x
  | _ => false
mutual
def cG (T : Tab) (fb : Str → Bool) : Nat → Scope → Tg → Expr → Bool
  | 0, _, _, _ => false
  | n + 1, sc, t, e => match t with
    | .name i => (match e with
      | .Name x _ => decide (T.N[i]? = some x) && locB' sc fb x
      | _ => false)
    | .tup ts => (match e with
      | .Tuple es _ _ => cGs T fb n sc ts es
      | _ => false)
def cGs (T : Tab) (fb : Str → Bool) : Nat → Scope → List Tg → List Expr → Bool
  | 0, _, _, _ => false
  | n + 1, sc, ts, es => match ts, es with
    | [], [] => true
    | t :: ts, e :: es => notStar e && cG T fb n sc t e && cGs T fb n sc ts es
    | _, _ => false
end
def blkF (scope : Scope) : Str → Bool := fun x => scope.names.lookup x == some .cell
mutual
def cE (T : Tab) : Nat → Scope → XE → Expr → Bool
  | 0, _, _, _ => false
  | n + 1, sc, x, e => match x with
    | .slot i => (match e with
      | .Name x _ => decide (T.N[i]? = some x) && visB sc x && okN x
      | _ => false)
    | .cst d => (match e with
      | .Constant .none _ _ => (match d with | .non => true | _ => false)
      | .Constant (.bool b) _ _ => (match d with | .bl c => decide (b = c) | _ => false)
      | .Constant (.int i) _ _ => (match d with | .int j => decide (i = j) | _ => false)
      | .Constant (.str y) _ _ => (match d with | .str z => decide (y = z) | _ => false)
      | _ => false)
    | .fnv f => (match e with
      | .Name x _ => glB sc x && decide (T.fns x = some f) && okN x
      | _ => false)
    | .bin o a b => (match e with
      | .BinOp p q r _ => decide (q = o.op) && cE T n sc a p && cE T n sc b r
      | _ => false)
    | .cmp o a b => (match e with
      | .Compare p [q] [r] _ => decide (q = o.op) && notSet r && cE T n sc a p && cE T n sc b r
      | _ => false)
    | .chain o o2 a b c => (match e with
      | .Compare p [q, q2] [r, r2] _ => decide (q = o.op) && decide (q2 = o2.op) && notSet r2 && cE T n sc a p && cE T n sc b r && cE T n sc c r2
      | _ => false)
    | .ix a b => (match e with
      | .Subscript p q _ => !isSlice q && cE T n sc a p && cE T n sc b q
      | _ => false)
    | .sl a lo hi => (match e with
      | .Subscript p (.Slice l h none _) _ => cE T n sc a p && cO T n sc lo l && cO T n sc hi h
      | _ => false)
    | .rev a => (match e with
      | .Subscript p (.Slice none none (some (.UnaryOp .USub (.Constant (.int 1) _ _) _)) _) _ => cE T n sc a p
      | _ => false)
    | .neg a => (match e with
      | .UnaryOp .USub p _ => cE T n sc a p
      | _ => false)
    | .notv a => (match e with
      | .UnaryOp .Not p _ => cE T n sc a p
      | _ => false)
    | .andv a b => (match e with
      | .BoolOp .And [p, q] _ => cE T n sc a p && cE T n sc b q
      | .BoolOp .And (p :: q :: r :: rs) pos => cE T n sc a p && cE T n sc b (.BoolOp .And (q :: r :: rs) pos)
      | _ => false)
    | .orv a b => (match e with
      | .BoolOp .Or [p, q] _ => cE T n sc a p && cE T n sc b q
      | .BoolOp .Or (p :: q :: r :: rs) pos => cE T n sc a p && cE T n sc b (.BoolOp .Or (q :: r :: rs) pos)
      | _ => false)
    | .ife t a b => (match e with
      | .IfExp c p q _ => cT T n sc t c && cE T n sc a p && cE T n sc b q
      | _ => false)
    | .tup es => (match e with
      | .Tuple ps _ _ => decide (es.len ≤ 1000) && cL T n sc es ps
      | _ => false)
    | .lst es => (match e with
      | .List ps _ => decide (es.len ≤ 1000) && cL T n sc es ps
      | _ => false)
    | .call f es => (match e with
      | .Call (.Name x _) ps [] _ => glB sc x && okN x && decide (T.fns x = some f) && decide (T.ar f = some es.len) && cL T n sc es ps
      | _ => false)
    | .b1 k a => (match e with
      | .Call (.Name x _) [p] [] _ => decide (x = k.name) && glB sc x && T.free x && notStar p && cE T n sc a p
      | _ => false)
    | .b2 k a b => (match e with
      | .Call (.Name x _) [p, q] [] _ => decide (x = k.name) && glB sc x && T.free x && notStar p && notStar q && cE T n sc a p && cE T n sc b q
      | _ => false)
    | .isi t a => (match e with
      | .Call (.Name x _) [p, .Name y _] [] _ => decide (x = "isinstance") && glB sc x && T.free x && decide (y = t.nm) && decide (t ≠ .non) && glB sc y && T.free y && notStar p && cE T n sc a p
      | _ => false)
    | .isE z a => (match e with
      | .Call (.Name x _) [p, .Name y _] [] _ => decide (x = "isinstance") && glB sc x && T.free x && decide (y = z) && glB sc y && T.isEn y && okN y && notStar p && cE T n sc a p
      | _ => false)
    | .lc it t ft el vs => (match e with
      | .ListComp p [⟨tg, i, ifs, 0⟩] scope _ => notSet i && blkC T.N sc scope (ownOf T vs) && decide ((ownOf T vs).map (·.2) = vs) && t.ix.all (fun i => decide (i ∈ vs)) && cI T n sc (isTupE tg) it i && cG T (blkF scope) n (relS scope sc) t tg && cTs T n (relS scope sc) ft ifs && cE T n (relS scope sc) el p
      | _ => false)
    | .lc2 it t ft it1 t1 ft1 el vs vs1 => (match e with
      | .ListComp p [⟨tg, i, ifs, 0⟩, ⟨tg1, i1, ifs1, 0⟩] scope _ => notSet i && notSet i1 && blkC T.N sc scope (ownOf T vs) && decide ((ownOf T vs).map (·.2) = vs) && t.ix.all (fun i => decide (i ∈ vs)) && t1.ix.all (fun i => decide (i ∈ vs1)) && vs1.all (fun i => decide (i ∈ vs)) &&
          cI T n sc (isTupE tg) it i && cG T (blkF scope) n (relS scope sc) t tg && cTs T n (relS scope sc) ft ifs && cI T n (relS scope sc) (isTupE tg1) it1 i1 && cG T (blkF scope) n (relS scope sc) t1 tg1 && cTs T n (relS scope sc) ft1 ifs1 && cE T n (relS scope sc) el p
      | _ => false)
    | .m1 k a b => (match e with
      | .Call (.Attribute o x ap) [p] [] cp => decide (x = k.name) && plainBase o && notStar p && (ap.endLine == cp.line) && cE T n sc a o && cE T n sc b p
      | _ => false)
    | .fld f a => (match e with
      | .Attribute o x _ => decide (x = f) && plainBase o && cE T n sc a o
      | _ => false)
    | .own1 k a b => (match e with
      | .Call (.Attribute o x ap) [p] [] cp => decide (x = k.name) && plainBase o && notStar p && (ap.endLine == cp.line) && cE T n sc a o && cE T n sc b p
      | _ => false)
    | .pop0 a => (match e with
      | .Call (.Attribute o x ap) [] [] cp => decide (x = "pop") && plainBase o && (ap.endLine == cp.line) && cE T n sc a o
      | _ => false)
    | .meth c m f a es => (match e with
      | .Call (.Attribute o x ap) ps [] cp => decide (x = m) && plainBase o && (ap.endLine == cp.line) && decide (ps.length < 20) && decide (T.meth c m = some f) && decide (T.ar f = some (es.len + 1)) && cE T n sc a o && cL T n sc es ps
      | _ => false)
    | .make c f es => (match e with
      | .Call (.Name x _) (p :: ps) [] _ => glB sc x && okN x && decide (T.cls x = some c) && decide (T.mkr c = some f) && decide (T.ar f = some (es.len + 1)) && cL T n sc es (p :: ps)
      | _ => false)
    | .callx a es => (match e with
      | .Call o (p :: ps) [] _ => plainCallee o && cE T n sc a o && cL T n sc es (p :: ps)
      | _ => false)
    | .fmt a => (match e with
      | .FormattedValue p (-1) none _ => cE T n sc a p
      | _ => false)
    | .fstr1 a => (match e with
      | .JoinedStr [p] _ => cE T n sc a p
      | _ => false)
    | .fstr es => (match e with
      | .JoinedStr (p :: q :: ps) _ => cL T n sc es (p :: q :: ps)
      | _ => false)
    | .lr1 a => (match e with
      | .Call (.Name x _) [.Call (.Name y _) [p] [] _] [] _ => decide (x = "list") && glB sc x && T.free x && decide (y = "range") && glB sc y && T.free y && notStar p && cE T n sc a p
      | _ => false)
    | .lr2 a b => (match e with
      | .Call (.Name x _) [.Call (.Name y _) [p, q] [] _] [] _ => decide (x = "list") && glB sc x && T.free x && decide (y = "range") && glB sc y && T.free y && notStar p && notStar q && cE T n sc a p && cE T n sc b q
      | _ => false)
def cO (T : Tab) : Nat → Scope → XO → Option Expr → Bool
  | 0, _, _, _ => false
  | n + 1, sc, x, e => match x with
    | .no => (match e with | none => true | _ => false)
    | .so a => (match e with | some p => cE T n sc a p | _ => false)
def cL (T : Tab) : Nat → Scope → XL → List Expr → Bool
  | 0, _, _, _ => false
  | n + 1, sc, x, e => match x with
    | .nil => (match e with | [] => true | _ => false)
    | .cons a es => (match e with | p :: ps => notStar p && cE T n sc a p && cL T n sc es ps | _ => false)
def cT (T : Tab) : Nat → Scope → XT → Expr → Bool
  | 0, _, _, _ => false
  | n + 1, sc, x, e => match x with
    | .yes => false
    | .tr a => plainTest e && cE T n sc a e
    | .cmp o a b => (match e with
      | .Compare p [q] [r] _ => decide (q = o.op) && notSet r && cE T n sc a p && cE T n sc b r
      | _ => false)
    | .chain o o2 a b c => (match e with
      | .Compare p [q, q2] [r, r2] _ => decide (q = o.op) && decide (q2 = o2.op) && notSet r2 && cE T n sc a p && cE T n sc b r && cE T n sc c r2
      | _ => false)
    | .not t => (match e with
      | .UnaryOp .Not p _ => cT T n sc t p
      | _ => false)
    | .and s t => (match e with
      | .BoolOp .And (p :: q :: rs) pos => cT T n sc s p && cA T n sc t q rs
      | _ => false)
    | .or s t => (match e with
      | .BoolOp .Or (p :: q :: rs) pos => cT T n sc s p && cR T n sc t q rs
      | _ => false)
def cA (T : Tab) : Nat → Scope → XT → Expr → List Expr → Bool
  | 0, _, _, _, _ => false
  | n + 1, sc, t, p, ps => match ps with
    | [] => cT T n sc t p
    | q :: qs => (match t with | .and s u => cT T n sc s p && cA T n sc u q qs | _ => false)
def cR (T : Tab) : Nat → Scope → XT → Expr → List Expr → Bool
  | 0, _, _, _, _ => false
  | n + 1, sc, t, p, ps => match ps with
    | [] => cT T n sc t p
    | q :: qs => (match t with | .or s u => cT T n sc s p && cR T n sc u q qs | _ => false)
def cTs (T : Tab) : Nat → Scope → XT → List Expr → Bool
  | 0, _, _, _ => false
  | n + 1, sc, t, es => match es with
    | [] => (match t with | .yes => true | _ => false)
    | [p] => cT T n sc t p
    | _ => false
def cI (T : Tab) : Nat → Scope → Bool → XI → Expr → Bool
  | 0, _, _, _, _ => false
  | n + 1, sc, tu, x, e => match x with
    | .seq a => cE T n sc a e
    | .rng es => (match e with
      | .Call (.Name x _) ps [] _ => decide (x = "range") && glB sc x && T.free x && decide (1 ≤ ps.length ∧ ps.length ≤ 3) && cL T n sc es ps
      | _ => false)
    | .zip a b => (match e with
      | .Call (.Name x _) [p, q] [] _ => tu && decide (x = "zip") && glB sc x && T.free x && notStar p && notStar q && cE T n sc a p && cE T n sc b q
      | _ => false)
    | .enum a => (match e with
      | .Call (.Name x _) [p] [] _ => tu && decide (x = "enumerate") && glB sc x && T.free x && notStar p && cE T n sc a p
      | _ => false)
end
end J

/-! the look is sound: expressions -/
namespace J
open PySem PySem.Spec PyProof.Rows L2
/-- the name x stands for cv -/
def NameIs (X : Cx) (x : Str) (cv : Value) : Prop := X.mg x = some cv ∨ (X.mg x = none ∧ bootBuiltins x = some cv)
structure Facts (T : Tab) (S : Sta) (X : Cx) : Prop where
  isE : ∀ x, T.isEn x = true → ∃ vT cv, NameIs X x cv ∧ RelV vT cv ∧ (∀ u, RelV vT u → u = cv) ∧ ∀ c b, T.isE x c = some b → ExcC X.K (S.cadr c) ∧ PySem.W.kitOne X.K (.ref (S.cadr c)) cv = some b
  exm : ∀ x, T.exn x = true → ∃ cv, NameIs X x cv ∧ ∀ c b, T.exm x c = some b → PySem.W.exmOne X.K (.ref (S.cadr c)) cv = some b
  fld : ∀ f c, T.fldOk f c = true → Cls X.K (S.cadr c) ∧ NoAttr X.K (S.cadr c) f
  meth : ∀ c m f, T.meth c m = some f → Cls X.K (S.cadr c) ∧ Meth X.K (S.cadr c) m (S.fadr f)
  mkr : ∀ c f, T.mkr c = some f → Mk X.K (S.cadr c) (S.fadr f)
  exc : ∀ x c, T.exc x = some c → X.mg x = some (.ref (S.cadr c)) ∧ PySem.W.keepIn X.K (.ref (S.cadr c)) = true ∧ Raises X (.ref (S.cadr c)) ∧ ∃ (B newId initId : String) (bmB : List Value), Nonempty (PLift (ExcBaseFacts B newId initId bmB)) ∧ PySem.W.excIn X.K (S.cadr c) bmB newId = true
structure Gd (T : Tab) (Φ : Phi) (S : Sta) (sc : Scope) (X : Cx) (W : WishX) : Prop where
  scp : X.env.scope = sc
  N : X.N = T.N
  nd : T.N.Nodup
  calm : X.calm = true
  kind : sc.kind = .function
  fr : ∀ x, T.free x = true → X.mg x = none
  gl : ∀ x f, T.fns x = some f → X.mg x = some (.ref (S.fadr f))
  cl : ∀ x c, T.cls x = some c → X.mg x = some (.ref (S.cadr c))
  fnat : ∀ f n, T.ar f = some n → FnAt X S f n (Φ.call f)
  fnat1 : ∀ f n, T.ar f = some n → FnAt1 X S f n (Φ.make f)
  un : X.A.units + 65 < cLine
  tk : Takes X (wxOf S W)
  fx : Facts T S X
section
variable {T : Tab} {Φ : Phi} {S : Sta} {sc : Scope} {X : Cx} {W : WishX} {F : Fm} {pos : Pos}
theorem ba2 {a b : Bool} (h : (a && b) = true) : a = true ∧ b = true := by simpa using h
theorem Gd.vis (g : Gd T Φ S sc X W) {x : Str} (h : visB sc x = true) : Vis X.env.scope x := by
  rw [g.scp]
  unfold visB at h
  unfold Vis
  split at h
  · rename_i e; exact .inl e
  · rename_i e; exact .inr (.inl e)
  · rename_i e; exact .inr (.inr e)
  · cases h
theorem Gd.loc (g : Gd T Φ S sc X W) {fb : Str → Bool} (hf : ∀ x, fb x = true → X.fn x = true) {x : Str} (h : locB' sc fb x = true) : L2.Loc X.env.scope x ∧ (X.fn x = true ∨ X.env.scope.names.lookup x = some .local) := by
  rw [g.scp]
  unfold locB' at h
  unfold L2.Loc
  split at h
  · rename_i e; exact ⟨.inl e, .inr e⟩
  · rename_i e; exact ⟨.inr e, .inl (hf x h)⟩
  · cases h
theorem Gd.glo (g : Gd T Φ S sc X W) {x : Str} (h : glB sc x = true) : Gl X x := by
  unfold Gl Env.kindOf
  rw [g.scp]
  unfold glB at h
  split at h
  · rename_i e; exact e
  · cases h
theorem okN_ok {x : Str} (h : okN x = true) : (x == ("__debug__" : Str)) = false ∧ (x == ("__classdict__" : Str)) = false ∧ x ≠ "__name__" := by
  unfold okN at h
  obtain ⟨h, h3⟩ := ba2 h
  obtain ⟨h1, h2⟩ := ba2 h
  refine ⟨by simpa using h1, by simpa using h2, fun e => ?_⟩
  subst e
  simp at h3
theorem notSet_marks {op : CmpOp} {e : Expr} (h : notSet e = true) : behindInMarks op e = false := by
  cases e <;> first | rfl | cases h
theorem notSet_last {op op2 : CmpOp} {b c : Expr} (h : notSet c = true) : lastMarks [op, op2] [b, c] = false := by
  show behindInMarks op2 c = false
  exact notSet_marks h
theorem notSet_fold {e : Expr} {env : Env} (h : notSet e = true) : ∀ x, foldedSetIterable e env x = pure x := by
  intro x
  cases e <;> first | rfl | cases h
theorem plainIx_of {e : Expr} (h : isSlice e = false) : PlainIx e := by
  intro o i
  cases e <;> first | rfl | cases h
theorem plainBase_of {o : Expr} {name : Str} {env : Env} (h : plainBase o = true) : attributeBase o name env (eval o env) = eval o env := by
  cases o with
  | Call f args kw p =>
    cases args with
    | nil => cases h
    | cons a as => cases f <;> rfl
  | _ => rfl
theorem relabel_eq {scope : Scope} {env : Env} (h : env.scope = sc) : relabel scope env = relS scope sc := by
  unfold relabel relS Env.kindOf
  rw [h]
theorem Takes.none {Y : Cx} : Takes Y (wxOf S W0) := fun u s' ⟨a, B, sI, pins, σ, H, cls, d, e, I, nb, up, sky, na, os, ag, c, e1, e2, w⟩ => w.elim
/-! ### operators -/
theorem bin_ok (g : Gd T Φ S sc X W) (o : BOp) {a b : Expr} {fa fb : DE} (ha : PE X a (tE S F W fa)) (hb : PE X b (tE S F W fb)) : PE X (.BinOp a o.op b pos) (tE S F W (den2 fa fb o.k)) := by
  cases o with
  | add => exact ae_bin op_addA (ok_add X.K) ha hb
  | sub => exact ae_bin op_sub ok_sub ha hb
  | mul => exact ae_bin op_mulA (ok_mul X.K) ha hb
  | fdiv => exact ae_bin op_fdivX ok_fdiv ha hb
  | mod => exact ae_bin op_modN ok_mod ha hb
  | pow => exact ae_bin op_pow ok_pow ha hb
theorem cop_ok (g : Gd T Φ S sc X W) (o : COp) : ∃ r, OpR X (compareOp o.op) r ∧ Op2Ok S r o.k := by
  have hu : X.A.units + 64 < cLine := by have := g.un; omega
  cases o with
  | eq => exact ⟨_, op_eqD hu, ok_eq X.K⟩
  | ne => exact ⟨_, op_neD hu, ok_ne X.K⟩
  | lt => exact ⟨_, op_lt, op2_intB⟩
  | le => exact ⟨_, op_le, op2_intB⟩
  | gt => exact ⟨_, op_gt, op2_intB⟩
  | ge => exact ⟨_, op_ge, op2_intB⟩
  | is => exact ⟨_, op_isA, ok_is⟩
  | isnot => exact ⟨_, op_notA, ok_isnot⟩
  | inn => exact ⟨_, op_inA, ok_in X.K⟩
  | notin => exact ⟨_, op_notInA, ok_notin X.K⟩
theorem intA_ok : Op1Ok S (fun v H Q => ((∃ i, [v] = [V.int i] ∧ Q (.int i) H) ∨ ∃ k, [v] = [V.bl k] ∧ Q (.int (if k then 1 else 0)) H) ∨ ∃ a n, [v] = [V.str a] ∧ PySem.intText? a = some n ∧ a.length ≤ 640 ∧ Q (.int n) H) intAK := by
  intro g H0 H h e1 v1 ev Q hk hd x1 e q
  unfold intAK at e
  split at e
  · rename_i r hr
    cases e
    exact .inl (ok_intC g H0 H h e1 v1 ev Q hk hd x1 hr q)
  · exact .inr (ok_intS g H0 H h e1 v1 ev Q hk hd x1 e q)
theorem any_ok (hc : X.calm = true) : CallR X (.builtin "any") (fun xs H Q => rAny X.K xs H Q ∨ rAnyI X.K xs H Q) := callR_or (cr_any hc) (cr_anyI hc)
theorem b1_ok (g : Gd T Φ S sc X W) (k : B1) {a : Expr} {fa : DE} {p : Pos} (hg : Gl X k.name) (hm : X.mg k.name = none) (ha : PE X a (tE S F W fa)) (hs : notStar a = true) : PE X (.Call (.Name k.name p) [a] [] pos) (tE S F W (den1 fa k.k)) := by
  cases k with
  | len => exact ae_callB1 call_lenA (ok_len X.K) hg hm (by decide +kernel) (by decide) (by decide) ha hs
  | all => exact ae_callB1 (cr_all g.calm) (ok_all X.K) hg hm (by decide +kernel) (by decide) (by decide) ha hs
  | any => exact ae_callB1 (any_ok g.calm) (ok_any X.K) hg hm (by decide +kernel) (by decide) (by decide) ha hs
  | sum => exact ae_callB1 (cr_sum g.calm) (ok_sum X.K) hg hm (by decide +kernel) (by decide) (by decide) ha hs
  | max => exact ae_callB1 (cr_max g.calm) (ok_max X.K) hg hm (by decide +kernel) (by decide) (by decide) ha hs
  | tuple => exact ae_callT1 call_tupF (ok_tup X.K) hg hm (by decide +kernel) (by decide) (by decide) ha hs
  | list => exact ae_callT1 call_list_of (ok_lst X.K) hg hm (by decide +kernel) (by decide) (by decide) ha hs
  | int => exact ae_callT1 (callR_or call_int1 call_int_str) intA_ok hg hm (by decide +kernel) (by decide) (by decide) ha hs
  | abs => exact ae_callB1 call_abs ok_abs hg hm (by decide +kernel) (by decide) (by decide) ha hs
  | str => exact ae_callT1 call_str_int ok_str hg hm (by decide +kernel) (by decide) (by decide) ha hs
theorem b2_ok (g : Gd T Φ S sc X W) (k : B2) {a b : Expr} {fa fb : DE} {p : Pos} (hg : Gl X k.name) (hm : X.mg k.name = none) (ha : PE X a (tE S F W fa)) (hb : PE X b (tE S F W fb)) (hs : notStar a = true) (hs2 : notStar b = true) : PE X (.Call (.Name k.name p) [a, b] [] pos) (tE S F W (den2 fa fb k.k)) := by
  cases k with
  | max => exact ae_callB2 (call_max2 g.calm) ok_max2 hg hm (by decide +kernel) (by decide) (by decide) ha hb hs hs2
  | min => exact ae_callB2 (call_min2 g.calm) ok_min2 hg hm (by decide +kernel) (by decide) (by decide) ha hb hs hs2
theorem mtR_or {id : String} {r1 r2 : V → List V → Hp → VK → Prop} (a : MtR X id r1) (b : MtR X id r2) : MtR X id (fun x xs H Q => r1 x xs H Q ∨ r2 x xs H Q) := by
  intro pins s σ H x xs v us Q I rx rs h
  rcases h with h | h
  · exact a pins s σ H x xs v us Q I rx rs h
  · exact b pins s σ H x xs v us Q I rx rs h
theorem m1_ok (g : Gd T Φ S sc X W) (k : M1) {o a : Expr} {fa fb : DE} {apos cpos : Pos} (hbase : plainBase o = true) (hs : notStar a = true) (hl : (apos.endLine == cpos.line) = true) (ho : PE X o (tE S F W fa)) (ha : PE X a (tE S F W fb)) : PE X (.Call (.Attribute o k.name apos) [a] [] cpos) (tE S F W (denM k.T fa fb k.k)) := by
  have hb := plainBase_of (name := k.name) (env := X.env) hbase
  cases k with
  | indexL => exact ae_bm (T := .lst) PySem.F.plainAttrs_list PySem.F.slot_list_index PySem.F.type_list_index (mt_indexD g.un) (ok_indexL X.K) (.inr (.inr rfl)) ho ha hb hs hl
  | indexT => exact ae_bm (T := .tup) PySem.F.plainAttrs_tuple PySem.F.slot_tuple_index PySem.F.type_tuple_index (mt_indexT g.un) (ok_indexT X.K) (.inr (.inl rfl)) ho ha hb hs hl
  | count => exact ae_bm (T := .lst) PySem.F.plainAttrs_list PySem.F.slot_list_count PySem.F.type_list_count (mt_countD g.un) (ok_count X.K) (.inr (.inr rfl)) ho ha hb hs hl
  | join => exact ae_bm (T := .str) PySem.F.plainAttrs_str PySem.F.slot_str_join PySem.F.type_str_join mt_join (ok_join X.K) (.inl rfl) ho ha hb hs hl
  | split => exact ae_bm (T := .str) PySem.F.plainAttrs_str PySem.F.slot_str_split PySem.F.type_str_split mt_split ok_split (.inl rfl) ho ha hb hs hl
  | part => exact ae_bm (T := .str) PySem.F.plainAttrs_str PySem.F.slot_str_partition PySem.F.type_str_partition mt_partition ok_part (.inl rfl) ho ha hb hs hl
  | ends => exact ae_bm (T := .str) PySem.F.plainAttrs_str PySem.F.slot_str_endswith PySem.F.type_str_endswith mt_endswith ok_ends (.inl rfl) ho ha hb hs hl
  | lstrip => exact ae_bm (T := .str) PySem.F.plainAttrs_str PySem.F.slot_str_lstrip PySem.F.type_str_lstrip mt_lstripChars ok_lstrip (.inl rfl) ho ha hb hs hl
theorem o1_ok (k : O1) {o a : Expr} {fa fb : DE} {apos cpos : Pos} (hbase : plainBase o = true) (hs : notStar a = true) (hl : (apos.endLine == cpos.line) = true) (ho : PE X o (tE S F W fa)) (ha : PE X a (tE S F W fb)) : PE X (.Call (.Attribute o k.name apos) [a] [] cpos) (tE S F W (dOwn1 fa fb k.k)) := by
  have hb := plainBase_of (name := k.name) (env := X.env) hbase
  cases k with
  | app => exact ae_own1 PySem.F.slot_list_append PySem.F.type_list_append mt_append ov_app ho ha hb hs hl
  | ext => exact ae_own1 PySem.F.slot_list_extend PySem.F.type_list_extend mt_extend ov_ext ho ha hb hs hl
  | pop => exact ae_own1 PySem.F.slot_list_pop PySem.F.type_list_pop mt_popAt ov_pop ho ha hb hs hl
theorem few_of {ps : List Expr} {cpos : Pos} {env : Env} (h : ps.all notStar = true) (hl : ps.length < 20) : methodCallForm (ps.length + 0) (backTo cpos (starEach ps env)) (backToKw cpos (keywordEach [] env)) = true := by
  unfold methodCallForm
  have h1 : (starEach ps env).all (fun x => !x.1) = true := by
    clear hl
    induction ps with
    | nil => rfl
    | cons p ps ih =>
      rw [List.all_cons, Bool.and_eq_true] at h
      rw [starEach_cons h.1, List.all_cons, ih h.2]; rfl
  have h2 : (backTo cpos (starEach ps env)).all (fun x => !x.1) = true := by
    cases e : starEach ps env with
    | nil => rfl
    | cons a r =>
      rw [e] at h1
      obtain ⟨b, x⟩ := a
      simp only [backTo, List.all_map, List.all_cons] at h1 ⊢
      first | exact h1 | (simp at h1 ⊢; exact h1)
  rw [h2]
  have h3 : decide (ps.length + 0 + (if (backToKw cpos (keywordEach [] env)).isEmpty = true then 0 else 1) < 30) = true := by
    rw [decide_eq_true_eq]
    split <;> omega
  rw [h3]
  rfl
theorem ht_of {o : Expr} {m : Str} {ps : List Expr} {apos cpos : Pos} {env : Env} (hbase : plainBase o = true) (h : ps.all notStar = true) (hl : ps.length < 20) (hline : (apos.endLine == cpos.line) = true) :
    eval (.Call (.Attribute o m apos) ps [] cpos) env = (do
      let ov ← eval o env
      standAt apos.atName
      let (f, first) ← holding [ov] (getMethod ov m (do return (← importBound o env).getD true))
      callWith cpos f first (backTo cpos (starEach ps env)) (backToKw cpos (keywordEach [] env))) := by
  rw [arm_eval_Call, plainBase_of hbase]
  unfold methodCall
  rw [show (ps.length + ([] : List Keyword).length) = ps.length + 0 from rfl, few_of h hl]
  have hpos : methodCallPos true o env apos cpos = pure cpos := by unfold methodCallPos; simp [hline]
  rw [hpos]
  unfold calleeOf
  simp only [if_true, pure_bind]
end
/-- in a comprehension's block -/
theorem Gd.blk {T : Tab} {Φ : Phi} {S : Sta} {sc : Scope} {X : Cx} {W : WishX} (g : Gd T Φ S sc X W) {scope : Scope} (hk : scope.kind = .function) (s : Shared) (H : Hp) (C : Addr) (cl : List (Str × Addr)) (fp : List Addr) : Gd T Φ S (relS scope sc) (X.blk s H scope (compEnvC scope cl C X.env) fp) W0 where
  scp := relabel_eq g.scp
  N := g.N
  nd := g.nd
  calm := g.calm
  kind := hk
  fr := g.fr
  gl := g.gl
  cl := g.cl
  fnat := fun f n h => ⟨(g.fnat f n h).ex⟩
  fnat1 := fun f n h => ⟨(g.fnat1 f n h).ex⟩
  un := g.un
  tk := Takes.none
  fx := ⟨g.fx.isE, g.fx.exm, g.fx.fld, g.fx.meth, g.fx.mkr, g.fx.exc⟩
end J

/-! the look is sound: the induction -/
namespace J
open PySem PySem.Spec PyProof.Rows L2
section
variable {T : Tab} {Φ : Phi} {S : Sta}
theorem assignEach_cons {e : Expr} {es : List Expr} {env : Env} (h : notStar e = true) : assignEach (e :: es) env = (false, assign e env) :: assignEach es env := by
  cases e <;> first | rfl | cases h
theorem cG_sound {fb : Str → Bool} (n : Nat) : (∀ {sc : Scope} {t : Tg} {e : Expr} {X : Cx} {W : WishX} {F : Fm}, Gd T Φ S sc X W → (∀ x, fb x = true → X.fn x = true) → cG T fb n sc t e = true → PG X e (tG S F t)) ∧
    (∀ {sc : Scope} {ts : List Tg} {es : List Expr} {X : Cx} {W : WishX} {F : Fm}, Gd T Φ S sc X W → (∀ x, fb x = true → X.fn x = true) → cGs T fb n sc ts es = true → PGs X es (tGs S F ts) ∧ es.all notStar = true ∧ es.length = ts.length) := by
  induction n with
  | zero => exact ⟨fun _ _ h => by simp [cG] at h, fun _ _ h => by simp [cGs] at h⟩
  | succ n ih =>
    refine ⟨fun {sc t e X W F} g hf h => ?_, fun {sc ts es X W F} g hf h => ?_⟩
    · unfold cG at h
      cases t with
      | name i =>
        simp only at h
        split at h
        · rename_i x p
          obtain ⟨h1, h2⟩ := ba2 h
          obtain ⟨l1, l2⟩ := g.loc hf h2
          exact ag_name (by rw [g.N]; exact g.nd) (by rw [g.N]; exact of_decide_eq_true h1) l1 l2
        · cases h
      | tup ts =>
        simp only at h
        split at h
        · rename_i es k p
          obtain ⟨h1, h2, h3⟩ := ih.2 (F := F) g hf h
          refine ag_tup g.calm h1 ?_ ?_
          · have : ∀ es : List Expr, (assignEach es X.env).length = es.length := by
              intro es
              induction es with
              | nil => rfl
              | cons e es ih => cases e <;> (simp [assignEach, ih])
            rw [this, h3]
          · clear h1 h3 h
            induction es with
            | nil => rfl
            | cons e es ih2 =>
              rw [List.all_cons, Bool.and_eq_true] at h2
              rw [assignEach_cons h2.1, List.findIdx?_cons, if_neg Bool.false_ne_true, ih2 h2.2]
              rfl
        · cases h
    · unfold cGs at h
      split at h
      · exact ⟨ags_nil, rfl, rfl⟩
      · rename_i t ts' e es'
        obtain ⟨h, h3⟩ := ba2 h
        obtain ⟨h1, h2⟩ := ba2 h
        obtain ⟨q1, q2, q3⟩ := ih.2 (F := F) g hf h3
        refine ⟨ags_cons (ih.1 g hf h2) q1 (by rw [assignEach_cons h1]; rfl), by rw [List.all_cons, h1, q2]; rfl, by rw [List.length_cons, List.length_cons, q3]⟩
      · cases h
structure Snd (T : Tab) (Φ : Phi) (S : Sta) (n : Nat) : Prop where
  e : ∀ {sc : Scope} {x : XE} {e : Expr} {X : Cx} {W : WishX} {F : Fm}, Gd T Φ S sc X W → cE T n sc x e = true → PE X e (tE S F W (denE T Φ x))
  o : ∀ {sc : Scope} {x : XO} {e : Option Expr} {X : Cx} {W : WishX} {F : Fm}, Gd T Φ S sc X W → cO T n sc x e = true → PO X e (tX S F W (denO T Φ x))
  l : ∀ {sc : Scope} {x : XL} {e : List Expr} {X : Cx} {W : WishX} {F : Fm}, Gd T Φ S sc X W → cL T n sc x e = true → PA X e (tL S F W (denL T Φ x)) ∧ LenIs (denL T Φ x) x.len ∧ e.all notStar = true ∧ e.length = x.len ∧ PJ X e ((denEs T Φ x).map fun f => tE S F W f)
  t : ∀ {sc : Scope} {x : XT} {e : Expr} {X : Cx} {W : WishX} {F : Fm}, Gd T Φ S sc X W → cT T n sc x e = true → PT X e (tX S F W (denT T Φ x))
  a : ∀ {sc : Scope} {x : XT} {e : Expr} {es : List Expr} {pos : Pos} {X : Cx} {W : WishX} {F : Fm}, Gd T Φ S sc X W → cA T n sc x e es = true → PW X (.BoolOp .And (e :: es) pos) (tX S F W (denT T Φ x))
  r : ∀ {sc : Scope} {x : XT} {e : Expr} {es : List Expr} {pos : Pos} {X : Cx} {W : WishX} {F : Fm}, Gd T Φ S sc X W → cR T n sc x e es = true → PW X (.BoolOp .Or (e :: es) pos) (tX S F W (denT T Φ x))
  ts : ∀ {sc : Scope} {x : XT} {e : List Expr} {X : Cx} {W : WishX} {F : Fm}, Gd T Φ S sc X W → cTs T n sc x e = true → PTs X e (tX S F W (denT T Φ x))
  i : ∀ {sc : Scope} {x : XI} {tg e : Expr} {X : Cx} {W : WishX} {F : Fm}, Gd T Φ S sc X W → cI T n sc (isTupE tg) x e = true → PI X tg e (tI S F W (denI T Φ x))
theorem szl {n : Nat} (h : n ≤ 1000) : n ≤ sizeLine := by rw [sizeLine_eq]; omega
theorem nameV {X : Cx} {x : Str} {cv : Value} {vT : V} {p : Pos} (hg : Gl X x) (h : NameIs X x cv) (r : RelV vT cv) (ok : okN x = true) : PE X (.Name x p) (tC vT) := by
  obtain ⟨k1, k2, k3⟩ := okN_ok ok
  rcases h with h | ⟨h1, h2⟩
  · exact pe_glob hg h r k1
  · exact pe_bltn hg h1 h2 r k3 k1
theorem tyN_boot (t : TyN) (h : t ≠ .non) : bootBuiltins t.nm = some (.type t.name) ∧ t.nm ≠ "__name__" ∧ (t.nm == ("__debug__" : Str)) = false := by
  cases t with
  | non => exact absurd rfl h
  | bool => exact ⟨by decide +kernel, by decide, by decide⟩
  | int => exact ⟨by decide +kernel, by decide, by decide⟩
  | str => exact ⟨by decide +kernel, by decide, by decide⟩
  | tup => exact ⟨by decide +kernel, by decide, by decide⟩
  | lst => exact ⟨by decide +kernel, by decide, by decide⟩
theorem all_mem {l vs : List Nat} (h : l.all (fun i => decide (i ∈ vs)) = true) : ∀ i ∈ l, i ∈ vs := fun i hi => of_decide_eq_true (List.all_eq_true.mp h i hi)
theorem blkC_kind {N : List Str} {sc scope : Scope} {own : List (Str × Nat)} (h : blkC N sc scope own = true) : scope.kind = .function := (blkOk_by h).kind
theorem blkF_fn {X : Cx} {s : Shared} {H : Hp} {scope : Scope} {cenv : Env} {fp : List Addr} : ∀ x, blkF scope x = true → (X.blk s H scope cenv fp).fn x = true := fun _ h => h
theorem callee_eval {o : Expr} {ps : List Expr} {pos : Pos} {env : Env} (h : plainCallee o = true) : eval (.Call o ps [] pos) env = (do callWith pos (← eval o env) [] (backTo pos (starEach ps env)) (backToKw pos (keywordEach [] env))) := by
  cases o <;> first | rfl | cases h
theorem sndE {n : Nat} (ih : Snd T Φ S n) : ∀ {sc : Scope} {x : XE} {e : Expr} {X : Cx} {W : WishX} {F : Fm}, Gd T Φ S sc X W → cE T (n + 1) sc x e = true → PE X e (tE S F W (denE T Φ x)) := by
  intro sc x e X W F g h
  unfold cE at h
  cases x with
  | slot i =>
    simp only at h
    split at h
    · obtain ⟨h, h3⟩ := ba2 h
      obtain ⟨h1, h2⟩ := ba2 h
      obtain ⟨k1, k2, k3⟩ := okN_ok h3
      rw [denE]
      exact ae_slot (by rw [g.N]; exact of_decide_eq_true h1) (g.vis h2) k1 k2
    · cases h
  | cst d =>
    simp only at h
    rw [denE]
    split at h
    · split at h
      · exact ae_c pe_non fun g => .non
      · cases h
    · split at h
      · have := of_decide_eq_true h; subst this; exact ae_c pe_bl fun g => .bl _
      · cases h
    · split at h
      · have := of_decide_eq_true h; subst this; exact ae_c pe_int fun g => .int _
      · cases h
    · split at h
      · have := of_decide_eq_true h; subst this; exact ae_c pe_str fun g => .str _
      · cases h
    · cases h
  | fnv f =>
    simp only at h
    split at h
    · obtain ⟨h, h3⟩ := ba2 h
      obtain ⟨h1, h2⟩ := ba2 h
      obtain ⟨k1, k2, k3⟩ := okN_ok h3
      rw [denE]
      exact ae_c (pe_glob (v := .ref (S.fadr f)) (g.glo h1) (g.gl _ _ (of_decide_eq_true h2)) rfl k1) fun g => .fn
    · cases h
  | bin o a b =>
    simp only at h
    split at h
    · obtain ⟨h, h3⟩ := ba2 h
      obtain ⟨h1, h2⟩ := ba2 h
      have := of_decide_eq_true h1
      subst this
      rw [denE]
      exact bin_ok g o (ih.e g h2) (ih.e g h3)
    · cases h
  | cmp o a b =>
    simp only at h
    split at h
    · obtain ⟨h, h4⟩ := ba2 h
      obtain ⟨h, h3⟩ := ba2 h
      obtain ⟨h1, h2⟩ := ba2 h
      have := of_decide_eq_true h1
      subst this
      rw [denE]
      obtain ⟨r, z1, z2⟩ := cop_ok g o
      exact ae_cmp z1 z2 (ih.e g h3) (ih.e g h4) (notSet_marks h2)
    · cases h
  | chain o o2 a b c =>
    simp only at h
    split at h
    · obtain ⟨h, h6⟩ := ba2 h
      obtain ⟨h, h5⟩ := ba2 h
      obtain ⟨h, h4⟩ := ba2 h
      obtain ⟨h, h3⟩ := ba2 h
      obtain ⟨h1, h2⟩ := ba2 h
      have := of_decide_eq_true h1
      subst this
      have := of_decide_eq_true h2
      subst this
      rw [denE]
      obtain ⟨r, z1, z2⟩ := cop_ok g o
      obtain ⟨r', z3, z4⟩ := cop_ok g o2
      exact ae_chain z1 z3 z2 z4 (ih.e g h4) (ih.e g h5) (ih.e g h6) (notSet_last h3)
    · cases h
  | ix a b =>
    simp only at h
    split at h
    · obtain ⟨h, h3⟩ := ba2 h
      obtain ⟨h1, h2⟩ := ba2 h
      rw [denE]
      exact ae_ix op_ixA (ok_ix X.K) (ih.e g h2) (ih.e g h3) (plainIx_of (by simpa using h1))
    · cases h
  | sl a lo hi =>
    simp only at h
    split at h
    · obtain ⟨h, h3⟩ := ba2 h
      obtain ⟨h1, h2⟩ := ba2 h
      rw [denE]
      exact ae_slice (ih.e g h1) (ih.o g h2) (ih.o g h3)
    · cases h
  | rev a =>
    simp only at h
    split at h
    · rw [denE]
      exact ae_rev (ih.e g h)
    · cases h
  | neg a =>
    simp only at h
    split at h
    · rw [denE]
      exact ae_un un_neg ok_neg (ih.e g h)
    · cases h
  | notv a =>
    simp only at h
    split at h
    · rw [denE]
      exact ae_not (ih.e g h)
    · cases h
  | andv a b =>
    simp only at h
    split at h
    · obtain ⟨h1, h2⟩ := ba2 h
      rw [denE]
      exact ae_and (ih.e g h1) (ae_one (ih.e g h2))
    · obtain ⟨h1, h2⟩ := ba2 h
      rw [denE]
      exact ae_and (ih.e g h1) (ih.e g h2)
    · cases h
  | orv a b =>
    simp only at h
    split at h
    · obtain ⟨h1, h2⟩ := ba2 h
      rw [denE]
      exact ae_or (ih.e g h1) (ae_one (ih.e g h2))
    · obtain ⟨h1, h2⟩ := ba2 h
      rw [denE]
      exact ae_or (ih.e g h1) (ih.e g h2)
    · cases h
  | ife t a b =>
    simp only at h
    split at h
    · obtain ⟨h, h3⟩ := ba2 h
      obtain ⟨h1, h2⟩ := ba2 h
      rw [denE]
      exact ae_if (ih.t g h1) (ih.e g h2) (ih.e g h3)
    · cases h
  | tup es =>
    simp only at h
    split at h
    · obtain ⟨h1, h2⟩ := ba2 h
      obtain ⟨z1, z2, z3, z4, z5⟩ := ih.l (F := F) g h2
      rw [denE]
      exact ae_tup z1 z2 (szl (of_decide_eq_true h1))
    · cases h
  | lst es =>
    simp only at h
    split at h
    · obtain ⟨h1, h2⟩ := ba2 h
      obtain ⟨z1, z2, z3, z4, z5⟩ := ih.l (F := F) g h2
      rw [denE]
      exact ae_lst z1 z2 (szl (of_decide_eq_true h1))
    · cases h
  | call f es =>
    simp only at h
    split at h
    · rename_i x p ps pos
      obtain ⟨h, h5⟩ := ba2 h
      obtain ⟨h, h4⟩ := ba2 h
      obtain ⟨h, h3⟩ := ba2 h
      obtain ⟨h1, h2⟩ := ba2 h
      obtain ⟨k1, k2, k3⟩ := okN_ok h2
      obtain ⟨z1, z2, z3, z4, z5⟩ := ih.l (F := F) g h5
      have A := (g.fnat f _ (of_decide_eq_true h4)).call (g.gl _ _ (of_decide_eq_true h3))
      rw [denE]
      cases ps with
      | nil =>
        cases es with
        | nil => rw [denL]; exact ae_call0 A g.tk (g.glo h1) k1
        | cons a es => simp [XL.len] at z4
      | cons p' ps =>
        rw [List.all_cons, Bool.and_eq_true] at z3
        exact ae_call A g.tk (g.glo h1) k1 z2 z1 z3.1 z3.2
    · cases h
  | b1 k a =>
    simp only at h
    split at h
    · obtain ⟨h, h5⟩ := ba2 h
      obtain ⟨h, h4⟩ := ba2 h
      obtain ⟨h, h3⟩ := ba2 h
      obtain ⟨h1, h2⟩ := ba2 h
      have := of_decide_eq_true h1
      subst this
      rw [denE]
      exact b1_ok g k (g.glo h2) (g.fr _ h3) (ih.e g h5) h4
    · cases h
  | b2 k a b =>
    simp only at h
    split at h
    · obtain ⟨h, h7⟩ := ba2 h
      obtain ⟨h, h6⟩ := ba2 h
      obtain ⟨h, h5⟩ := ba2 h
      obtain ⟨h, h4⟩ := ba2 h
      obtain ⟨h, h3⟩ := ba2 h
      obtain ⟨h1, h2⟩ := ba2 h
      have := of_decide_eq_true h1
      subst this
      rw [denE]
      exact b2_ok g k (g.glo h2) (g.fr _ h3) (ih.e g h6) (ih.e g h7) h4 h5
    · cases h
  | isi t a =>
    simp only at h
    split at h
    · obtain ⟨h, h9⟩ := ba2 h
      obtain ⟨h, h8⟩ := ba2 h
      obtain ⟨h, h7⟩ := ba2 h
      obtain ⟨h, h6⟩ := ba2 h
      obtain ⟨h, h5⟩ := ba2 h
      obtain ⟨h, h4⟩ := ba2 h
      obtain ⟨h, h3⟩ := ba2 h
      obtain ⟨h1, h2⟩ := ba2 h
      have := of_decide_eq_true h1
      subst this
      have := of_decide_eq_true h4
      subst this
      obtain ⟨k1, k2, k3⟩ := tyN_boot t (of_decide_eq_true h5)
      rw [denE]
      exact ae_isi (g.glo h2) (g.fr _ h3) (g.glo h6) (g.fr _ h7) k1 k2 k3 (ih.e g h9) h8
    · cases h
  | isE z a =>
    simp only at h
    split at h
    · obtain ⟨h, h9⟩ := ba2 h
      obtain ⟨h, h8⟩ := ba2 h
      obtain ⟨h, h7⟩ := ba2 h
      obtain ⟨h, h6⟩ := ba2 h
      obtain ⟨h, h5⟩ := ba2 h
      obtain ⟨h, h4⟩ := ba2 h
      obtain ⟨h, h3⟩ := ba2 h
      obtain ⟨h1, h2⟩ := ba2 h
      have := of_decide_eq_true h1
      subst this
      have := of_decide_eq_true h4
      subst this
      obtain ⟨vT, cv, n1, n2, n3, n4⟩ := g.fx.isE _ h6
      rw [denE]
      exact ae_isE (g.glo h2) (g.fr _ h3) (nameV (g.glo h5) n1 n2 h7) n3 n4 (ih.e g h9) h8
    · cases h
  | lc it t ft el vs =>
    simp only at h
    split at h
    · rename_i p0 tg0 i0 ifs0 scope0 pos0
      obtain ⟨h, h8⟩ := ba2 h
      obtain ⟨h, h7⟩ := ba2 h
      obtain ⟨h, h6⟩ := ba2 h
      obtain ⟨h, h5⟩ := ba2 h
      obtain ⟨h, h4⟩ := ba2 h
      obtain ⟨h, h3⟩ := ba2 h
      obtain ⟨h1, h2⟩ := ba2 h
      have hv := of_decide_eq_true h3
      have bk : BlkOk X.N X.env.scope scope0 (ownOf T vs) := by rw [g.N, g.scp]; exact blkOk_by h2
      have z := ae_lc (pos := pos0) (S := S) (F := F) (W := W) g.calm (by rw [g.N]; exact g.nd) (ih.i g h5) bk (fun s H C cl fp => (cG_sound n).1 (g.blk (blkC_kind h2) s H C cl fp) blkF_fn h6) (fun s H C cl fp => ih.ts (g.blk (blkC_kind h2) s H C cl fp) h7) (fun s H C cl fp => ih.e (g.blk (blkC_kind h2) s H C cl fp) h8) (by rw [hv]; exact all_mem h4) (notSet_fold h1)
      rw [hv] at z
      rw [denE]
      exact z
    · cases h
  | lc2 it t ft it1 t1 ft1 el vs vs1 =>
    simp only at h
    split at h
    · rename_i p0 tg0 i0 ifs0 tg1 i1 ifs1 scope0 pos0
      obtain ⟨h, h14⟩ := ba2 h
      obtain ⟨h, h13⟩ := ba2 h
      obtain ⟨h, h12⟩ := ba2 h
      obtain ⟨h, h11⟩ := ba2 h
      obtain ⟨h, h10⟩ := ba2 h
      obtain ⟨h, h9⟩ := ba2 h
      obtain ⟨h, h8⟩ := ba2 h
      obtain ⟨h, h7⟩ := ba2 h
      obtain ⟨h, h6⟩ := ba2 h
      obtain ⟨h, h5⟩ := ba2 h
      obtain ⟨h, h4⟩ := ba2 h
      obtain ⟨h, h3⟩ := ba2 h
      obtain ⟨h1, h2⟩ := ba2 h
      have hv := of_decide_eq_true h4
      have bk : BlkOk X.N X.env.scope scope0 (ownOf T vs) := by rw [g.N, g.scp]; exact blkOk_by h3
      have z := ae_lc2 (pos := pos0) (S := S) (F := F) (W := W) (vs1 := vs1) g.calm (by rw [g.N]; exact g.nd) (ih.i g h8) bk (by rw [hv]; exact all_mem h7) (fun s H C cl fp => (cG_sound n).1 (g.blk (blkC_kind h3) s H C cl fp) blkF_fn h9) (fun s H C cl fp => ih.ts (g.blk (blkC_kind h3) s H C cl fp) h10)
        (fun s H C cl fp => ih.i (g.blk (blkC_kind h3) s H C cl fp) h11) (fun s H C cl fp => (cG_sound n).1 (g.blk (blkC_kind h3) s H C cl fp) blkF_fn h12) (fun s H C cl fp => ih.ts (g.blk (blkC_kind h3) s H C cl fp) h13) (fun s H C cl fp => ih.e (g.blk (blkC_kind h3) s H C cl fp) h14) (by rw [hv]; exact all_mem h5) (all_mem h6) (notSet_fold h1) (fun env => notSet_fold h2)
      rw [hv] at z
      rw [denE]
      exact z
    · cases h
  | m1 k a b =>
    simp only at h
    split at h
    · obtain ⟨h, h6⟩ := ba2 h
      obtain ⟨h, h5⟩ := ba2 h
      obtain ⟨h, h4⟩ := ba2 h
      obtain ⟨h, h3⟩ := ba2 h
      obtain ⟨h1, h2⟩ := ba2 h
      have := of_decide_eq_true h1
      subst this
      rw [denE]
      exact m1_ok g k h2 h3 h4 (ih.e g h5) (ih.e g h6)
    · cases h
  | fld f a =>
    simp only at h
    split at h
    · obtain ⟨h, h3⟩ := ba2 h
      obtain ⟨h1, h2⟩ := ba2 h
      have := of_decide_eq_true h1
      subst this
      rw [denE]
      exact ae_fld (fun c hc => g.fx.fld _ c hc) (ih.e g h3) (plainBase_of h2)
    · cases h
  | own1 k a b =>
    simp only at h
    split at h
    · obtain ⟨h, h6⟩ := ba2 h
      obtain ⟨h, h5⟩ := ba2 h
      obtain ⟨h, h4⟩ := ba2 h
      obtain ⟨h, h3⟩ := ba2 h
      obtain ⟨h1, h2⟩ := ba2 h
      have := of_decide_eq_true h1
      subst this
      rw [denE]
      exact o1_ok k h2 h3 h4 (ih.e g h5) (ih.e g h6)
    · cases h
  | pop0 a =>
    simp only at h
    split at h
    · obtain ⟨h, h4⟩ := ba2 h
      obtain ⟨h, h3⟩ := ba2 h
      obtain ⟨h1, h2⟩ := ba2 h
      have := of_decide_eq_true h1
      subst this
      rw [denE]
      exact ae_pop0 (ih.e g h4) (plainBase_of h2) h3
    · cases h
  | meth c m f a es =>
    simp only at h
    split at h
    · rename_i o x ap ps cp
      obtain ⟨h, h8⟩ := ba2 h
      obtain ⟨h, h7⟩ := ba2 h
      obtain ⟨h, h6⟩ := ba2 h
      obtain ⟨h, h5⟩ := ba2 h
      obtain ⟨h, h4⟩ := ba2 h
      obtain ⟨h, h3⟩ := ba2 h
      obtain ⟨h1, h2⟩ := ba2 h
      have := of_decide_eq_true h1
      subst this
      obtain ⟨z1, z2, z3, z4, z5⟩ := ih.l (F := F) g h8
      obtain ⟨m1, m2⟩ := g.fx.meth c x f (of_decide_eq_true h5)
      have A := g.fnat f _ (of_decide_eq_true h6)
      have ht := ht_of (m := x) (env := X.env) h2 z3 (of_decide_eq_true h4) h3
      rw [denE]
      cases ps with
      | nil =>
        cases es with
        | nil => rw [denL]; exact ae_methO0 m1 m2 A g.tk (ih.e g h7) ht
        | cons a es => simp [XL.len] at z4
      | cons p' ps =>
        rw [List.all_cons, Bool.and_eq_true] at z3
        exact ae_methO m1 m2 A g.tk z2 (ih.e g h7) z1 z3.1 z3.2 ht
    · cases h
  | make c f es =>
    simp only at h
    split at h
    · obtain ⟨h, h6⟩ := ba2 h
      obtain ⟨h, h5⟩ := ba2 h
      obtain ⟨h, h4⟩ := ba2 h
      obtain ⟨h, h3⟩ := ba2 h
      obtain ⟨h1, h2⟩ := ba2 h
      obtain ⟨k1, k2, k3⟩ := okN_ok h2
      obtain ⟨z1, z2, z3, z4, z5⟩ := ih.l (F := F) g h6
      rw [List.all_cons, Bool.and_eq_true] at z3
      rw [denE]
      exact ae_make (g.fx.mkr c f (of_decide_eq_true h4)) (g.fnat1 f _ (of_decide_eq_true h5)) g.tk (g.glo h1) (g.cl _ _ (of_decide_eq_true h3)) k1 z2 z1 z3.1 z3.2
    · cases h
  | callx a es =>
    simp only at h
    split at h
    · obtain ⟨h, h3⟩ := ba2 h
      obtain ⟨h1, h2⟩ := ba2 h
      obtain ⟨z1, z2, z3, z4, z5⟩ := ih.l (F := F) g h3
      rw [List.all_cons, Bool.and_eq_true] at z3
      rw [denE]
      refine ae_callX (fun f n hf => g.fnat f n hf) g.tk z2 (ih.e g h2) z1 z3.1 z3.2 (callee_eval h1)
    · cases h
  | fmt a =>
    simp only at h
    split at h
    · rw [denE]
      exact ae_fmt (ih.e g h)
    · cases h
  | fstr1 a =>
    simp only at h
    split at h
    · rw [denE]
      exact ae_joined1 (ih.e g h)
    · cases h
  | fstr es =>
    simp only at h
    split at h
    · obtain ⟨z1, z2, z3, z4, z5⟩ := ih.l (F := F) g h
      rw [denE]
      exact ae_joined z5
    · cases h
  | lr1 a =>
    simp only at h
    split at h
    · obtain ⟨h, h8⟩ := ba2 h
      obtain ⟨h, h7⟩ := ba2 h
      obtain ⟨h, h6⟩ := ba2 h
      obtain ⟨h, h5⟩ := ba2 h
      obtain ⟨h, h4⟩ := ba2 h
      obtain ⟨h, h3⟩ := ba2 h
      obtain ⟨h1, h2⟩ := ba2 h
      have := of_decide_eq_true h1
      subst this
      have := of_decide_eq_true h4
      subst this
      rw [denE]
      exact ae_lr1 g.calm (g.glo h2) (g.fr _ h3) (g.glo h5) (g.fr _ h6) (ih.e g h8) h7
    · cases h
  | lr2 a b =>
    simp only at h
    split at h
    · obtain ⟨h, h10⟩ := ba2 h
      obtain ⟨h, h9⟩ := ba2 h
      obtain ⟨h, h8⟩ := ba2 h
      obtain ⟨h, h7⟩ := ba2 h
      obtain ⟨h, h6⟩ := ba2 h
      obtain ⟨h, h5⟩ := ba2 h
      obtain ⟨h, h4⟩ := ba2 h
      obtain ⟨h, h3⟩ := ba2 h
      obtain ⟨h1, h2⟩ := ba2 h
      have := of_decide_eq_true h1
      subst this
      have := of_decide_eq_true h4
      subst this
      rw [denE]
      exact ae_lr2 g.calm (g.glo h2) (g.fr _ h3) (g.glo h5) (g.fr _ h6) (ih.e g h9) (ih.e g h10) h7 h8
    · cases h
theorem snd_all : ∀ n, Snd T Φ S n := by
  intro n
  induction n with
  | zero =>
    exact ⟨fun _ h => by simp [cE] at h, fun _ h => by simp [cO] at h, fun _ h => by simp [cL] at h, fun _ h => by simp [cT] at h, fun _ h => by simp [cA] at h, fun _ h => by simp [cR] at h, fun _ h => by simp [cTs] at h, fun _ h => by simp [cI] at h⟩
  | succ n ih =>
    refine ⟨sndE ih, fun {sc x e X W F} g h => ?_, fun {sc x e X W F} g h => ?_, fun {sc x e X W F} g h => ?_, fun {sc x e es pos X W F} g h => ?_, fun {sc x e es pos X W F} g h => ?_, fun {sc x e X W F} g h => ?_, fun {sc x tg e X W F} g h => ?_⟩
    · unfold cO at h
      cases x with
      | no =>
        simp only at h
        split at h
        · rw [denO]; exact ao_none
        · cases h
      | so a =>
        simp only at h
        split at h
        · rw [denO]; exact ao_some (ih.e g h)
        · cases h
    · unfold cL at h
      cases x with
      | nil =>
        simp only at h
        split at h
        · rw [denL, denEs]; exact ⟨aa_nil, lenIs_nil, rfl, rfl, .nil⟩
        · cases h
      | cons a es =>
        simp only at h
        split at h
        · obtain ⟨h, h3⟩ := ba2 h
          obtain ⟨h1, h2⟩ := ba2 h
          obtain ⟨z1, z2, z3, z4, z5⟩ := ih.l (F := F) g h3
          rw [denL, denEs]
          exact ⟨aa_cons (ih.e g h2) z1 h1, lenIs_cons z2, by rw [List.all_cons, h1, z3]; rfl, by rw [List.length_cons, z4]; rfl, .cons (ih.e g h2) z5⟩
        · cases h
    · unfold cT at h
      cases x with
      | yes => cases h
      | tr a =>
        simp only at h
        obtain ⟨h1, h2⟩ := ba2 h
        rw [denT]
        exact at_truth (ih.e g h2) h1
      | cmp o a b =>
        simp only at h
        split at h
        · obtain ⟨h, h4⟩ := ba2 h
          obtain ⟨h, h3⟩ := ba2 h
          obtain ⟨h1, h2⟩ := ba2 h
          have := of_decide_eq_true h1
          subst this
          rw [denT]
          obtain ⟨r, z1, z2⟩ := cop_ok g o
          exact at_cmp z1 z2 (ih.e g h3) (ih.e g h4) (notSet_marks h2)
        · cases h
      | chain o o2 a b c =>
        simp only at h
        split at h
        · obtain ⟨h, h6⟩ := ba2 h
          obtain ⟨h, h5⟩ := ba2 h
          obtain ⟨h, h4⟩ := ba2 h
          obtain ⟨h, h3⟩ := ba2 h
          obtain ⟨h1, h2⟩ := ba2 h
          have := of_decide_eq_true h1
          subst this
          have := of_decide_eq_true h2
          subst this
          rw [denT]
          obtain ⟨r, z1, z2⟩ := cop_ok g o
          obtain ⟨r', z3, z4⟩ := cop_ok g o2
          exact at_chain z1 z3 z2 z4 (ih.e g h4) (ih.e g h5) (ih.e g h6) (notSet_last h3)
        · cases h
      | not t =>
        simp only at h
        split at h
        · rw [denT]; exact at_not (ih.t g h)
        · cases h
      | and s t =>
        simp only at h
        split at h
        · obtain ⟨h1, h2⟩ := ba2 h
          rw [denT]
          exact (aw_and (ih.t g h1) (ih.a g h2)).pt
        · cases h
      | or s t =>
        simp only at h
        split at h
        · obtain ⟨h1, h2⟩ := ba2 h
          rw [denT]
          exact (aw_or (ih.t g h1) (ih.r g h2)).pt
        · cases h
    · unfold cA at h
      split at h
      · exact aw_and1 (ih.t g h)
      · split at h
        · obtain ⟨h1, h2⟩ := ba2 h
          rw [denT]
          exact aw_and (ih.t g h1) (ih.a g h2)
        · cases h
    · unfold cR at h
      split at h
      · exact aw_or1 (ih.t g h)
      · split at h
        · obtain ⟨h1, h2⟩ := ba2 h
          rw [denT]
          exact aw_or (ih.t g h1) (ih.r g h2)
        · cases h
    · unfold cTs at h
      split at h
      · split at h
        · rw [denT]; exact ats_nil
        · cases h
      · exact ats_one (ih.t g h)
      · cases h
    · unfold cI at h
      cases x with
      | seq a => simp only at h; rw [denI]; exact ai_seq (ih.e g h)
      | rng es =>
        simp only at h
        split at h
        · rename_i x p ps pos
          obtain ⟨h, h5⟩ := ba2 h
          obtain ⟨h, h4⟩ := ba2 h
          obtain ⟨h, h3⟩ := ba2 h
          obtain ⟨h1, h2⟩ := ba2 h
          have := of_decide_eq_true h1
          subst this
          obtain ⟨z1, z2, z3, z4, z5⟩ := ih.l (F := F) g h5
          have hl := of_decide_eq_true h4
          rw [denI]
          rw [← z4] at z2
          match ps, hl, z1, z2, z3 with
          | [a], _, z1, z2, z3 =>
            simp only [List.all_cons, List.all_nil, Bool.and_true] at z3
            exact ai_rng1 z2 (g.glo h2) (g.fr _ h3) z1 z3
          | [a, b], _, z1, z2, z3 =>
            simp only [List.all_cons, List.all_nil, Bool.and_true, Bool.and_eq_true] at z3
            exact ai_rng2 z2 (g.glo h2) (g.fr _ h3) z1 z3.1 z3.2
          | [a, b, c], _, z1, z2, z3 =>
            simp only [List.all_cons, List.all_nil, Bool.and_true, Bool.and_eq_true] at z3
            exact ai_rng3 z2 (g.glo h2) (g.fr _ h3) z1 z3.1 z3.2.1 z3.2.2
          | [], hl, _, _, _ => simp at hl
          | _ :: _ :: _ :: _ :: _, hl, _, _, _ => simp at hl
        · cases h
      | zip a b =>
        simp only at h
        split at h
        · obtain ⟨h, h8⟩ := ba2 h
          obtain ⟨h, h7⟩ := ba2 h
          obtain ⟨h, h6⟩ := ba2 h
          obtain ⟨h, h5⟩ := ba2 h
          obtain ⟨h, h4⟩ := ba2 h
          obtain ⟨h, h3⟩ := ba2 h
          obtain ⟨h1, h2⟩ := ba2 h
          have := of_decide_eq_true h2
          subst this
          rw [denI]
          cases tg with
          | Tuple elts kk tpos => exact ai_zip (g.glo h3) (g.fr _ h4) (ih.e g h7) (ih.e g h8) h5 h6
          | _ => cases h1
        · cases h
      | enum a =>
        simp only at h
        split at h
        · obtain ⟨h, h6⟩ := ba2 h
          obtain ⟨h, h5⟩ := ba2 h
          obtain ⟨h, h4⟩ := ba2 h
          obtain ⟨h, h3⟩ := ba2 h
          obtain ⟨h1, h2⟩ := ba2 h
          have := of_decide_eq_true h2
          subst this
          rw [denI]
          cases tg with
          | Tuple elts kk tpos => exact ai_enum (g.glo h3) (g.fr _ h4) (ih.e g h6) h5
          | _ => cases h1
        · cases h
end
end J

/-! statements of the small language -/
namespace J
open PySem PySem.Spec PyProof.Rows L2
mutual
inductive XS where
  | doc | pass | set (i : Nat) (own : Bool) (e : XE) | asg (t : Tg) (e : XE) | par (is : List Nat) (bs : List Bool) (es : XL)
  | setix (i : Nat) (ix e : XE) | setixF (a ix e : XE) | setfld (own : Bool) (f : Str) (e a : XE) | m1 (i : Nat) (k : O1) (e : XE)
  | drop (e : XE) | ret (e : XE) | retOwn (e : XE) | ife (t : XT) (a b : XB) | forr (t : Tg) (it : XI) (b : XB) | whl (t : XT) (b : XB)
  | raise (c : Nat) | tryy (b : XB) (x : Str) (i j : Nat) | frz (is : List Nat) (s : XS)
inductive XB where
  | nil | cons (s : XS) (b : XB)
end
def O1.k1 : O1 → AH → List D → EV → Option (List D)
  | .app => appK
  | .ext => extK
  | .pop => popK
def denEL (T : Tab) (Φ : Phi) : XL → DEs
  | .nil => dEsNil
  | .cons a es => dEsCons (denE T Φ a) (denEL T Φ es)
mutual
def denS (T : Tab) (Φ : Phi) : XS → DS
  | .doc => dNext
  | .pass => dNext
  | .set i own e => dSet i own (denE T Φ e)
  | .asg t e => dAsgT t (denE T Φ e)
  | .par is bs es => dPar is bs (denEL T Φ es)
  | .setix i ix e => dSetIx i (denE T Φ e) (denE T Φ ix)
  | .setixF a ix e => dSetIxF (denE T Φ e) (denE T Φ a) (denE T Φ ix)
  | .setfld own f e a => dSetFld own (T.fldOk f) f (denE T Φ e) (denE T Φ a)
  | .m1 i k e => dMeth1 i (denE T Φ e) k.k1
  | .drop e => dDrop (denE T Φ e)
  | .ret e => dRet (denE T Φ e)
  | .retOwn e => dRetOwn (denE T Φ e)
  | .ife t a b => dIfS (denT T Φ t) (denB T Φ a) (denB T Φ b)
  | .forr t it b => dFor (denI T Φ it) t (denB T Φ b)
  | .whl t b => whN (denT T Φ t) (denB T Φ b) Φ.fuel
  | .raise c => dRaise c
  | .tryy b x i j => dTry (denB T Φ b) (T.exm x) i j
  | .frz is s => dFrz is (denS T Φ s)
def denB (T : Tab) (Φ : Phi) : XB → DS
  | .nil => dNext
  | .cons s b => dSeq (denS T Φ s) (denB T Φ b)
end
/-! ### the stores of a, b = c, d -/
def swapQ (sc : Scope) (ts vs : List Expr) : Option (Option (List Str)) :=
  if (!(ts.length == 2 || ts.length == 3) || vs.length != ts.length) = true then some none else
  if (vs.any fun | .Starred .. => true | _ => false) = true then some none else
  if ((ts.filterMap fun
    | .Name id pos => if sc.names.lookup id == some .local && pos.line == (ts.head?.map (·.pos.line)).getD 0 then some id else none
    | _ => none).length != ts.length || (ts.filterMap fun
    | .Name id pos => if sc.names.lookup id == some .local && pos.line == (ts.head?.map (·.pos.line)).getD 0 then some id else none
    | _ => none).eraseDups.length != (ts.filterMap fun
    | .Name id pos => if sc.names.lookup id == some .local && pos.line == (ts.head?.map (·.pos.line)).getD 0 then some id else none
    | _ => none).length) = true then some none else
  if (vs.all (foldedForSure 8)) = true then some none else
  if (vs.all (constantsAlone 8)) = true then none else some (some (ts.filterMap fun
    | .Name id pos => if sc.names.lookup id == some .local && pos.line == (ts.head?.map (·.pos.line)).getD 0 then some id else none
    | _ => none))
theorem swapQ_ok {sc : Scope} {ts vs : List Expr} {r : Option (List Str)} {env : Env} {k k2 : Nat} {p p2 : Pos} (h : env.scope = sc) (hk : sc.kind = .function) (q : swapQ sc ts vs = some r) : swappedStores [.Tuple ts k p] (.Tuple vs k2 p2) env = pure r := by
  have hb : env.blockKind = .function := by unfold Env.blockKind; rw [h, hk]; rfl
  unfold swappedStores
  unfold swapQ at q
  simp only [hb, Env.kindOf, h]
  split at q
  · rename_i c
    cases q
    exact if_pos (by rw [Bool.or_eq_true]; exact .inl c)
  · rename_i c
    refine (if_neg (by rw [Bool.or_eq_true]; intro z; rcases z with z | z; exact c z; simp at z)).trans ?_
    split at q
    · rename_i c2; cases q; exact if_pos c2
    · rename_i c2
      refine (if_neg c2).trans ?_
      split at q
      · rename_i c3; cases q; exact if_pos c3
      · rename_i c3
        refine (if_neg c3).trans ?_
        split at q
        · rename_i c4; cases q; exact if_pos c4
        · rename_i c4
          refine (if_neg c4).trans ?_
          split at q
          · cases q
          · rename_i c5
            cases q
            exact if_neg c5
/-! ### the look -/
def swC (sc : Scope) (y : Str) (py : Pos) : Expr → Bool
  | .ListComp _ _ s cp => sc.names.lookup y == some .local && py.line == cp.line && !(s.names.any fun (n, k) => n == y && (k == .local || k == .cell))
  | .SetComp _ _ s cp => sc.names.lookup y == some .local && py.line == cp.line && !(s.names.any fun (n, k) => n == y && (k == .local || k == .cell))
  | .DictComp _ _ _ s cp => sc.names.lookup y == some .local && py.line == cp.line && !(s.names.any fun (n, k) => n == y && (k == .local || k == .cell))
  | _ => false
theorem swC_ok {sc : Scope} {y : Str} {py : Pos} {e : Expr} {l : Nat} {env : Env} (h : env.scope = sc) (hk : sc.kind = .function) : swapsWith e (some (.Name y py)) l env = pure (swC sc y py e) := by
  have hb : env.blockKind = .function := by unfold Env.blockKind; rw [h, hk]; rfl
  cases e with
  | ListComp a b c d =>
    unfold swapsWith swC
    simp only [hb, Env.kindOf, h, Expr.pos]
    rfl
  | SetComp a b c d =>
    unfold swapsWith swC
    simp only [hb, Env.kindOf, h, Expr.pos]
    rfl
  | DictComp a b c d e =>
    unfold swapsWith swC
    simp only [hb, Env.kindOf, h, Expr.pos]
    rfl
  | _ => rfl
theorem swOther {e t : Expr} {l : Nat} {env : Env} (h : (match t with | .Name .. => false | _ => true) = true) : swapsWith e (some t) l env = pure false := by
  cases e with
  | ListComp a b c d => cases t <;> first | rfl | cases h
  | SetComp a b c d => cases t <;> first | rfl | cases h
  | DictComp a b c d e => cases t <;> first | rfl | cases h
  | _ => rfl
def notComp : Expr → Bool
  | .ListComp .. => false
  | .SetComp .. => false
  | .DictComp .. => false
  | _ => true
theorem notComp_none {e : Expr} {l : Nat} {env : Env} (h : notComp e = true) : swapsWith e none l env = pure false := by
  cases e <;> first | rfl | cases h
def isLc : XE → Bool
  | .lc .. => true
  | _ => false
def notTupE : Expr → Bool
  | .Tuple .. => false
  | _ => true
def swOkA (sc : Scope) : Expr → Expr → Bool
  | .Tuple ts _ _, .Tuple vs _ _ => (match swapQ sc ts vs with | some none => true | _ => false)
  | _, e => notTupE e
def allF : Str → Bool := fun _ => true
def cNames (T : Tab) (sc : Scope) : List Nat → List Expr → Bool
  | [], [] => true
  | i :: is, .Name x _ :: ts => decide (T.N[i]? = some x) && locB' sc allF x && cNames T sc is ts
  | _, _ => false
def locS (sc : Scope) (x : Str) : Bool := match sc.names.lookup x with
  | some .local => true
  | _ => false
mutual
def cS (T : Tab) : Nat → Scope → XS → Stmt → Bool
  | 0, _, _, _ => false
  | n + 1, sc, x, st => match x with
    | .doc => (match st with
      | .Expr (.Constant (.str _) _ _) _ => true
      | _ => false)
    | .pass => (match st with
      | .Pass _ => true
      | _ => false)
    | .set i own x => (match st with
      | .Assign [.Name y py] e _ => decide (T.N[i]? = some y) && locB' sc allF y && cE T n sc x e && (!swC sc y py e || isLc x)
      | _ => false)
    | .asg t x => (match st with
      | .Assign [tg] e _ => isTupE tg && swOkA sc tg e && cG T allF n sc t tg && cE T n sc x e
      | _ => false)
    | .par is bs es => (match st with
      | .Assign [.Tuple ts _ _] (.Tuple vs _ _) _ => decide (bs.length = is.length) && decide (bs.length ≤ 1000) && decide (is.Nodup) && cNames T sc is ts && cL T n sc es vs && (match swapQ sc ts vs with
        | some none => true
        | some (some [x, y]) => (match ts with | [.Name x' _, .Name y' _] => decide (x = x') && decide (y = y') && locS sc x && locS sc y | _ => false)
        | some (some [x, y, z]) => (match ts with | [.Name x' _, .Name y' _, .Name z' _] => decide (x = x') && decide (y = y') && decide (z = z') && locS sc x && locS sc y && locS sc z | _ => false)
        | _ => false)
      | _ => false)
    | .setix i ix x => (match st with
      | .Assign [.Subscript (.Name y _) q _] e _ => decide (T.N[i]? = some y) && visB sc y && okN y && !isSlice q && cE T n sc ix q && cE T n sc x e
      | _ => false)
    | .setixF a ix x => (match st with
      | .Assign [.Subscript o q _] e _ => !isSlice q && cE T n sc a o && cE T n sc ix q && cE T n sc x e
      | _ => false)
    | .setfld own f x a => (match st with
      | .Assign [.Attribute o y _] e _ => decide (y = f) && cE T n sc a o && cE T n sc x e
      | _ => false)
    | .m1 i k x => (match st with
      | .Expr (.Call (.Attribute (.Name y _) m ap) [p] [] cp) _ => decide (T.N[i]? = some y) && visB sc y && okN y && decide (m = k.name) && notStar p && (ap.endLine == cp.line) && cE T n sc x p
      | _ => false)
    | .drop x => (match st with
      | .Expr e _ => notComp e && cE T n sc x e
      | _ => false)
    | .ret x => (match st with
      | .Return (some e) _ => cE T n sc x e
      | _ => false)
    | .retOwn x => (match st with
      | .Return (some e) _ => cE T n sc x e
      | _ => false)
    | .ife t a b => (match st with
      | .If c p q _ => cT T n sc t c && cB T n sc a p && cB T n sc b q
      | _ => false)
    | .forr t it b => (match st with
      | .For tg i p [] _ => notSet i && cI T n sc (isTupE tg) it i && cG T allF n sc t tg && cB T n sc b p
      | _ => false)
    | .whl t b => (match st with
      | .While c p [] _ => cT T n sc t c && cB T n sc b p
      | _ => false)
    | .raise c => (match st with
      | .Raise (some (.Call (.Name x _) [.Constant (.str _) _ _] [] _)) none _ => glB sc x && okN x && decide (T.exc x = some c)
      | _ => false)
    | .tryy b z i j => (match st with
      | .Try p [.ExceptHandler (some (.Name x _)) (some m) [.Assign [.Name y _] (.Name m' _) _] _] [] [] _ => decide (x = z) && glB sc x && okN x && T.exn x && decide (m = m') && decide (T.N[i]? = some m) && decide (T.N[j]? = some y) && decide (i ≠ j) && locS sc m && locS sc y && okN m && cB T n sc b p
      | _ => false)
    | .frz is s => cS T n sc s st
def cB (T : Tab) : Nat → Scope → XB → List Stmt → Bool
  | 0, _, _, _ => false
  | n + 1, sc, x, ss => match x with
    | .nil => (match ss with | [] => true | _ => false)
    | .cons s b => (match ss with | st :: ss => cS T n sc s st && cB T n sc b ss | _ => false)
end
/-! ### sound -/
structure Gs (T : Tab) (Φ : Phi) (S : Sta) (sc : Scope) (X : Cx) (W : WishX) : Prop extends Gd T Φ S sc X W where
  ps : PassesOwn (model X.prog X.w) X.A X.env X.xe
  ft : ∀ x, X.fn x = true
  st : X.stack = X.env :: X.outer
  fr2 : X.env.frame = some X.env.locals
  ex : X.ex = []
section
variable {T : Tab} {Φ : Phi} {S : Sta} {sc : Scope} {X : Cx} {W : WishX} {F : Fm}
theorem cL_es (n : Nat) : ∀ {x : XL} {vs : List Expr} {n : Nat}, Gd T Φ S sc X W → cL T n sc x vs = true → PA X vs (tEs S F W (denEL T Φ x))
  | x, vs, 0, g, h => by simp [cL] at h
  | .nil, vs, n + 1, g, h => by
    unfold cL at h
    simp only at h
    split at h
    · exact aes_nil
    · cases h
  | .cons a es, vs, n + 1, g, h => by
    unfold cL at h
    simp only at h
    split at h
    · obtain ⟨h, h3⟩ := ba2 h
      obtain ⟨h1, h2⟩ := ba2 h
      exact aes_cons ((snd_all n).e g h2) (cL_es n g h3) h1
    · cases h
theorem cNames_ok (g : Gs T Φ S sc X W) : ∀ {is : List Nat} {ts : List Expr}, cNames T sc is ts = true → PGs X ts (gNames is) ∧ ts.all notStar = true ∧ ts.length = is.length
  | [], [], _ => ⟨pgs_nil, rfl, rfl⟩
  | [], _ :: _, h => by simp [cNames] at h
  | i :: is, [], h => by simp [cNames] at h
  | i :: is, t :: ts, h => by
    unfold cNames at h
    split at h
    · rename_i e1 e2; cases e1
    · rename_i i' is' x p ts' e1 e2
      cases e1
      cases e2
      obtain ⟨h, h3⟩ := ba2 h
      obtain ⟨h1, h2⟩ := ba2 h
      obtain ⟨z1, z2, z3⟩ := cNames_ok g h3
      obtain ⟨l1, l2⟩ := g.toGd.loc (fb := allF) (fun x _ => g.ft x) h2
      exact ⟨pgs_cons (pg_name (by rw [g.N]; exact g.nd) (by rw [g.N]; exact of_decide_eq_true h1) l1 l2) z1 rfl, by rw [List.all_cons, z2]; rfl, by rw [List.length_cons, List.length_cons, z3]⟩
    · cases h
theorem locS_ok (g : Gs T Φ S sc X W) {x : Str} (h : locS sc x = true) : X.env.scope.names.lookup x = some .local := by
  rw [g.scp]
  unfold locS at h
  split at h
  · rename_i e; exact e
  · cases h
theorem assign_len (es : List Expr) : (assignEach es X.env).length = es.length := by
  induction es with
  | nil => rfl
  | cons e es ih => cases e <;> (simp [assignEach, ih])
theorem assign_nostar {es : List Expr} (h : es.all notStar = true) : (assignEach es X.env).findIdx? (·.1) = none := by
  induction es with
  | nil => rfl
  | cons e es ih2 =>
    rw [List.all_cons, Bool.and_eq_true] at h
    rw [assignEach_cons h.1, List.findIdx?_cons, if_neg Bool.false_ne_true, ih2 h.2]
    rfl
theorem setLc_ok (g : Gs T Φ S sc X W) {n i : Nat} {own : Bool} {it : XI} {t : Tg} {ft : XT} {el : XE} {vs : List Nat} {y : Str} {py pos : Pos} {e : Expr} (h : cE T n sc (.lc it t ft el vs) e = true) (hN : T.N[i]? = some y) (hsw : swC sc y py e = true) :
    PS X (.Assign [.Name y py] e pos) (tS S F W (dSet i own (denE T Φ (.lc it t ft el vs)))) := by
  cases n with
  | zero => simp [cE] at h
  | succ n =>
    unfold cE at h
    simp only at h
    split at h
    · rename_i p0 tg0 i0 ifs0 scope0 pos0
      obtain ⟨h, h8⟩ := ba2 h
      obtain ⟨h, h7⟩ := ba2 h
      obtain ⟨h, h6⟩ := ba2 h
      obtain ⟨h, h5⟩ := ba2 h
      obtain ⟨h, h4⟩ := ba2 h
      obtain ⟨h, h3⟩ := ba2 h
      obtain ⟨h1, h2⟩ := ba2 h
      have ih := snd_all (T := T) (Φ := Φ) (S := S) n
      have g' := g.toGd
      have hv := of_decide_eq_true h3
      have bk : BlkOk X.N X.env.scope scope0 (ownOf T vs) := by rw [g.N, g.scp]; exact blkOk_by h2
      have hyl : X.env.scope.names.lookup y = some .local := by
        rw [g.scp]
        unfold swC at hsw
        simp only at hsw
        obtain ⟨w, _⟩ := ba2 hsw
        obtain ⟨w, _⟩ := ba2 w
        simpa using w
      have z := as_setLc (pos := pos0) (spos := pos) (py := py) (S := S) (F := F) (W := W) own g.calm (by rw [g.N]; exact g.nd) (by rw [g.N]; exact hN) hyl (by rw [swC_ok g.scp g.kind, hsw]) (ih.i g' h5) bk (fun s H C cl fp => (cG_sound n).1 (g'.blk (blkC_kind h2) s H C cl fp) blkF_fn h6) (fun s H C cl fp => ih.ts (g'.blk (blkC_kind h2) s H C cl fp) h7) (fun s H C cl fp => ih.e (g'.blk (blkC_kind h2) s H C cl fp) h8) (by rw [hv]; exact all_mem h4) (notSet_fold h1)
      rw [hv] at z
      rw [denE]
      exact z
    · cases h
end
end J

/-! the look is sound: statements -/
namespace J
open PySem PySem.Spec PyProof.Rows L2
section
variable {T : Tab} {Φ : Phi} {S : Sta}
theorem sub_ha {o q : Expr} {tpos : Pos} {env : Env} (h : isSlice q = false) : ∀ v, assign (.Subscript o q tpos) env v = (do
      let ov ← holding [v] (eval o env)
      let iv ← holding [v, ov] (eval q env)
      standAt tpos
      holding [v, ov, iv] (setItem ov iv v)
      release [v, ov, iv] []) := by
  intro v
  cases q <;> first | rfl | cases h
theorem sub_sw {o q e : Expr} {p : Pos} {env : Env} : swappedStores [.Subscript o q p] e env = pure none := by
  cases e <;> rfl
theorem sub_sole {o q e : Expr} {p : Pos} {l : Nat} {env : Env} : swapsWithSole [.Subscript o q p] e l env = pure false := by
  show swapsWith e (some (.Subscript o q p)) l env = pure false
  exact swOther (t := .Subscript o q p) rfl
theorem notTup_sw {t e : Expr} {env : Env} (h : notTupE e = true) : swappedStores [t] e env = pure none := by
  cases e <;> first | (cases t <;> rfl) | cases h
theorem swOkA_ok {sc : Scope} {t e : Expr} {env : Env} (hs : env.scope = sc) (hk : sc.kind = .function) (h : swOkA sc t e = true) : swappedStores [t] e env = pure none := by
  unfold swOkA at h
  split at h
  · split at h
    · rename_i q; exact swapQ_ok hs hk q
    · cases h
  · exact notTup_sw h
theorem o1m_ok {X : Cx} {W : WishX} {F : Fm} (k : O1) {i : Nat} {y : Str} {p : Expr} {fa : DE} {p0 ap cp pos : Pos} (hN : X.N[i]? = some y) (hv : Vis X.env.scope y) (hd : (y == ("__debug__" : Str)) = false) (hcd : (y == ("__classdict__" : Str)) = false) (ha : PE X p (tE S F W fa)) (hs : notStar p = true) (hl : (ap.endLine == cp.line) = true) :
    PS X (.Expr (.Call (.Attribute (.Name y p0) k.name ap) [p] [] cp) pos) (tS S F W (dMeth1 i fa k.k1)) := by
  cases k with
  | app => exact as_meth1 ok_app PySem.F.plainAttrs_list PySem.F.slot_list_append PySem.F.type_list_append mt_append hN hv hd hcd ha hs hl
  | ext => exact as_meth1 ok_ext PySem.F.plainAttrs_list PySem.F.slot_list_extend PySem.F.type_list_extend mt_extend hN hv hd hcd ha hs hl
  | pop => exact as_meth1 ok_pop PySem.F.plainAttrs_list PySem.F.slot_list_pop PySem.F.type_list_pop mt_popAt hN hv hd hcd ha hs hl
structure SndS (T : Tab) (Φ : Phi) (S : Sta) (n : Nat) : Prop where
  s : ∀ {sc : Scope} {x : XS} {st : Stmt} {X : Cx} {W : WishX} {F : Fm}, Gs T Φ S sc X W → cS T n sc x st = true → PS X st (tS S F W (denS T Φ x))
  b : ∀ {sc : Scope} {x : XB} {ss : List Stmt} {X : Cx} {W : WishX} {F : Fm}, Gs T Φ S sc X W → cB T n sc x ss = true → PSs X ss (tS S F W (denB T Φ x))
theorem nodup2 {i j : Nat} (h : [i, j].Nodup) : i ≠ j := by simpa using h
theorem nodup3 {i j k : Nat} (h : [i, j, k].Nodup) : i ≠ j ∧ i ≠ k ∧ j ≠ k := by
  simp at h
  exact ⟨h.1.1, h.1.2, h.2⟩
theorem sndS {n : Nat} (ihs : SndS T Φ S n) : ∀ {sc : Scope} {x : XS} {st : Stmt} {X : Cx} {W : WishX} {F : Fm}, Gs T Φ S sc X W → cS T (n + 1) sc x st = true → PS X st (tS S F W (denS T Φ x)) := by
  intro sc x st X W F g h
  have ih := snd_all (T := T) (Φ := Φ) (S := S) n
  have g' := g.toGd
  unfold cS at h
  cases x with
  | doc =>
    simp only at h
    split at h
    · rw [denS]; exact as_doc
    · cases h
  | pass =>
    simp only at h
    split at h
    · rw [denS]; exact as_pass
    · cases h
  | set i own x =>
    simp only at h
    split at h
    · rename_i y py e pos
      obtain ⟨h, h4⟩ := ba2 h
      obtain ⟨h, h3⟩ := ba2 h
      obtain ⟨h1, h2⟩ := ba2 h
      obtain ⟨l1, l2⟩ := g'.loc (fb := allF) (fun x _ => g.ft x) h2
      rw [denS]
      cases hsw : swC sc y py e with
      | false => exact as_set own (by rw [g.N]; exact g.nd) (by rw [g.N]; exact of_decide_eq_true h1) l1 (ih.e g' h3) (by rw [swC_ok g.scp g.kind, hsw]) l2
      | true =>
        rw [hsw] at h4
        cases x with
        | lc it t ft el vs => exact setLc_ok g h3 (of_decide_eq_true h1) hsw
        | _ => simp [isLc] at h4
    · cases h
  | asg t x =>
    simp only at h
    split at h
    · rename_i tg e pos
      obtain ⟨h, h4⟩ := ba2 h
      obtain ⟨h, h3⟩ := ba2 h
      obtain ⟨h1, h2⟩ := ba2 h
      rw [denS]
      refine as_asgT (ih.e g' h4) ((cG_sound n).1 g' (fun x _ => g.ft x) h3) ?_ (swOkA_ok g.scp g.kind h2) ?_
      · exact swOther (by cases tg <;> first | rfl | cases h1)
      · cases tg <;> first | rfl | cases h1
    · cases h
  | par is bs es =>
    simp only at h
    split at h
    · rename_i ts k p vs k2 p2 pos
      obtain ⟨h, h6⟩ := ba2 h
      obtain ⟨h, h5⟩ := ba2 h
      obtain ⟨h, h4⟩ := ba2 h
      obtain ⟨h, h3⟩ := ba2 h
      obtain ⟨h1, h2⟩ := ba2 h
      have hb := of_decide_eq_true h1
      have hz := szl (of_decide_eq_true h2)
      have hnd := of_decide_eq_true h3
      obtain ⟨z1, z2, z3⟩ := cNames_ok g h4
      have pa := cL_es (F := F) n g' h5
      obtain ⟨w1, w2, w3, w4, w5⟩ := ih.l (F := F) g' h5
      rw [denS]
      split at h6
      · rename_i hq
        exact as_parN hb hz g.calm z1 pa (by rw [assign_len, z3]) (assign_nostar z2) (swapQ_ok g.scp g.kind hq)
      · rename_i x y hq
        split at h6
        · rename_i x' px y' py
          obtain ⟨h6, q4⟩ := ba2 h6
          obtain ⟨h6, q3⟩ := ba2 h6
          obtain ⟨q1, q2⟩ := ba2 h6
          have e1 := of_decide_eq_true q1
          have e2 := of_decide_eq_true q2
          subst e1 e2
          have hsq := swapQ_ok (env := X.env) (k := k) (k2 := k2) (p := p) (p2 := p2) g.scp g.kind hq
          match is, vs, z3, h4, w4, hb, hnd, pa, hsq with
          | [i, j], vs, _, h4, w4, hb, hnd, pa, hsq =>
            unfold cNames at h4
            obtain ⟨h4, n3⟩ := ba2 h4
            obtain ⟨n1, n2⟩ := ba2 h4
            unfold cNames at n3
            obtain ⟨n3, _⟩ := ba2 n3
            obtain ⟨n4, n5⟩ := ba2 n3
            have hvl : vs.length = 2 := by
              unfold swapQ at hq
              split at hq
              · cases hq
              · rename_i c
                simp at c
                exact c
            match vs, hvl, pa, hsq with
            | [a, b], _, pa, hsq =>
              exact as_par2 hb g.calm (by rw [g.N]; exact g.nd) (by rw [g.N]; exact of_decide_eq_true n1) (by rw [g.N]; exact of_decide_eq_true n4) (nodup2 hnd) (locS_ok g q3) (locS_ok g q4) pa hsq
        · cases h6
      · rename_i x y z hq
        split at h6
        · rename_i x' px y' py z' pz
          obtain ⟨h6, q6⟩ := ba2 h6
          obtain ⟨h6, q5⟩ := ba2 h6
          obtain ⟨h6, q4⟩ := ba2 h6
          obtain ⟨h6, q3⟩ := ba2 h6
          obtain ⟨q1, q2⟩ := ba2 h6
          have e1 := of_decide_eq_true q1
          have e2 := of_decide_eq_true q2
          have e3 := of_decide_eq_true q3
          subst e1 e2 e3
          have hsq := swapQ_ok (env := X.env) (k := k) (k2 := k2) (p := p) (p2 := p2) g.scp g.kind hq
          match is, vs, z3, h4, w4, hb, hnd, pa, hsq with
          | [i, j, l], vs, _, h4, w4, hb, hnd, pa, hsq =>
            unfold cNames at h4
            obtain ⟨h4, n3⟩ := ba2 h4
            obtain ⟨n1, n2⟩ := ba2 h4
            unfold cNames at n3
            obtain ⟨n3, n6⟩ := ba2 n3
            obtain ⟨n4, n5⟩ := ba2 n3
            unfold cNames at n6
            obtain ⟨n6, _⟩ := ba2 n6
            obtain ⟨n7, n8⟩ := ba2 n6
            have hvl : vs.length = 3 := by
              unfold swapQ at hq
              split at hq
              · cases hq
              · rename_i c
                simp at c
                exact c
            obtain ⟨d1, d2, d3⟩ := nodup3 hnd
            match vs, hvl, pa, hsq with
            | [a, b, c], _, pa, hsq =>
              exact as_par3 hb g.calm (by rw [g.N]; exact g.nd) (by rw [g.N]; exact of_decide_eq_true n1) (by rw [g.N]; exact of_decide_eq_true n4) (by rw [g.N]; exact of_decide_eq_true n7) d1 d2 d3 (locS_ok g q4) (locS_ok g q5) (locS_ok g q6) pa hsq
        · cases h6
      · cases h6
    · cases h
  | setix i ix x =>
    simp only at h
    split at h
    · obtain ⟨h, h6⟩ := ba2 h
      obtain ⟨h, h5⟩ := ba2 h
      obtain ⟨h, h4⟩ := ba2 h
      obtain ⟨h, h3⟩ := ba2 h
      obtain ⟨h1, h2⟩ := ba2 h
      obtain ⟨k1, k2, k3⟩ := okN_ok h3
      rw [denS]
      exact as_setix (by rw [g.N]; exact of_decide_eq_true h1) (g'.vis h2) k1 k2 (ih.e g' h6) (ih.e g' h5) sub_sole (sub_ha (by simpa using h4))
    · cases h
  | setixF a ix x =>
    simp only at h
    split at h
    · obtain ⟨h, h4⟩ := ba2 h
      obtain ⟨h, h3⟩ := ba2 h
      obtain ⟨h1, h2⟩ := ba2 h
      rw [denS]
      exact as_setixF (ih.e g' h4) (ih.e g' h2) (ih.e g' h3) sub_sole sub_sw (sub_ha (by simpa using h1)) rfl
    · cases h
  | setfld own f x a =>
    simp only at h
    split at h
    · obtain ⟨h, h3⟩ := ba2 h
      obtain ⟨h1, h2⟩ := ba2 h
      have := of_decide_eq_true h1
      subst this
      rw [denS]
      exact as_setfld (fun c hc => g.fx.fld _ c hc) (ih.e g' h3) (ih.e g' h2) (swOther rfl)
    · cases h
  | m1 i k x =>
    simp only at h
    split at h
    · obtain ⟨h, h7⟩ := ba2 h
      obtain ⟨h, h6⟩ := ba2 h
      obtain ⟨h, h5⟩ := ba2 h
      obtain ⟨h, h4⟩ := ba2 h
      obtain ⟨h, h3⟩ := ba2 h
      obtain ⟨h1, h2⟩ := ba2 h
      obtain ⟨k1, k2, k3⟩ := okN_ok h3
      have := of_decide_eq_true h4
      subst this
      rw [denS]
      exact o1m_ok k (by rw [g.N]; exact of_decide_eq_true h1) (g'.vis h2) k1 k2 (ih.e g' h7) h5 h6
    · cases h
  | drop x =>
    simp only at h
    split at h
    · obtain ⟨h1, h2⟩ := ba2 h
      rw [denS]
      exact as_drop (ih.e g' h2) (notComp_none h1)
    · cases h
  | ret x =>
    simp only at h
    split at h
    · rw [denS]; exact as_ret (ih.e g' h)
    · cases h
  | retOwn x =>
    simp only at h
    split at h
    · rw [denS]; exact as_retOwn (ih.e g' h)
    · cases h
  | ife t a b =>
    simp only at h
    split at h
    · obtain ⟨h, h3⟩ := ba2 h
      obtain ⟨h1, h2⟩ := ba2 h
      rw [denS]
      exact as_if (ih.t g' h1) (ihs.b g h2) (ihs.b g h3)
    · cases h
  | forr t it b =>
    simp only at h
    split at h
    · obtain ⟨h, h4⟩ := ba2 h
      obtain ⟨h, h3⟩ := ba2 h
      obtain ⟨h1, h2⟩ := ba2 h
      rw [denS]
      exact as_for g.ps g.calm (ih.i g' h2) (fun F => (cG_sound n).1 g' (fun x _ => g.ft x) h3) (fun F => ihs.b g h4) (notSet_fold h1)
    · cases h
  | whl t b =>
    simp only at h
    split at h
    · obtain ⟨h1, h2⟩ := ba2 h
      rw [denS]
      exact as_while Φ.fuel g.ps (ih.t g' h1) (ihs.b g h2)
    · cases h
  | raise c =>
    simp only at h
    split at h
    · obtain ⟨h, h3⟩ := ba2 h
      obtain ⟨h1, h2⟩ := ba2 h
      obtain ⟨k1, k2, k3⟩ := okN_ok h2
      obtain ⟨e1, e2, e3, B, newId, initId, bmB, ⟨⟨e4⟩⟩, e5⟩ := g.fx.exc _ _ (of_decide_eq_true h3)
      rw [denS]
      exact as_raise g.calm g.tk (pmk_own e4 e5 e1 e2 e3 (g'.glo h1) k1)
    · cases h
  | tryy b z i j =>
    simp only at h
    split at h
    · rename_i p x np m y py m' pn ap pos' pos
      obtain ⟨h, h12⟩ := ba2 h
      obtain ⟨h, h11⟩ := ba2 h
      obtain ⟨h, h10⟩ := ba2 h
      obtain ⟨h, h9⟩ := ba2 h
      obtain ⟨h, h8⟩ := ba2 h
      obtain ⟨h, h7⟩ := ba2 h
      obtain ⟨h, h6⟩ := ba2 h
      obtain ⟨h, h5⟩ := ba2 h
      obtain ⟨h, h4⟩ := ba2 h
      obtain ⟨h, h3⟩ := ba2 h
      obtain ⟨h1, h2⟩ := ba2 h
      have e1 := of_decide_eq_true h1
      have e2 := of_decide_eq_true h5
      subst e1 e2
      obtain ⟨k1, k2, k3⟩ := okN_ok h3
      obtain ⟨q1, q2, q3⟩ := okN_ok h11
      obtain ⟨cv, n1, n2⟩ := g.fx.exm _ h4
      have nm : Names X x cv := ⟨g'.glo h2, k1, by
        rcases n1 with n1 | ⟨n1, n3⟩
        · exact .inl n1
        · exact .inr ⟨n1, n3, k3⟩⟩
      rw [denS]
      refine as_try g.st g.fr2 g.ex (by rw [g.N]; exact g.nd) (by rw [g.N]; exact of_decide_eq_true h6) (by rw [g.N]; exact of_decide_eq_true h7) (of_decide_eq_true h8) (locS_ok g h9) (locS_ok g h10) nm g.tk q1 q2 n2 fun W' pn xe t ps => ?_
      exact ihs.b (X := X.tr pn xe) ⟨⟨g.scp, g.N, g.nd, g.calm, g.kind, g.fr, g.gl, g.cl, fun f n h => ⟨(g.fnat f n h).ex⟩, fun f n h => ⟨(g.fnat1 f n h).ex⟩, g.un, t, ⟨g.fx.isE, g.fx.exm, g.fx.fld, g.fx.meth, g.fx.mkr, g.fx.exc⟩⟩, ps, g.ft, g.st, g.fr2, g.ex⟩ h12
    · cases h
  | frz is s =>
    simp only at h
    rw [denS]
    exact as_frz is (ihs.s g h)
theorem sndS_all : ∀ n, SndS T Φ S n := by
  intro n
  induction n with
  | zero => exact ⟨fun _ h => by simp [cS] at h, fun _ h => by simp [cB] at h⟩
  | succ n ih =>
    refine ⟨sndS ih, fun {sc x ss X W F} g h => ?_⟩
    unfold cB at h
    cases x with
    | nil =>
      simp only at h
      split at h
      · rw [denB]; exact as_nil
      · cases h
    | cons s b =>
      simp only at h
      split at h
      · obtain ⟨h1, h2⟩ := ba2 h
        rw [denB]
        exact as_cons (ih.s g h1) (ih.b g h2)
      · cases h
end
end J

/-! defs: all of them at once, by the depth of calls -/
namespace J
open PySem PySem.Spec PyProof.Rows L2
/-! ### what a call leaves behind is forgotten -/
def noRefF (n : Nat) : List (Str × Fld) → Bool
  | [] => true
  | (_, .val d) :: fs => noRef n d && noRefF n fs
  | (_, .own _ ds) :: fs => noRefs n ds && noRefF n fs
def noRefO (n : Nat) : AObj → Bool
  | .lst p _ => p
  | .ins _ _ fs => noRefF n fs
  | _ => false
def trim (n : Nat) (d : D) (h : AH) : AH := if h.length = n then h else if noRef n d && (h.take n).all (noRefO n) then h.take n else h
section
variable {S : Sta} {g : Gh} {H : Hp} {h : AH}
abbrev Gh.cut (g : Gh) (n : Nat) : Gh := { g with O := fun a => match g.O a with | some (m, j) => if m < n then some (m, j) else none | none => none, I := g.I.take n }
mutual
theorem Rep.cut {n : Nat} : ∀ {d : D} {v : V}, Rep S g d v → noRef n d = true → Rep S (g.cut n) d v
  | _, _, .non, _ => .non
  | _, _, .bl b, _ => .bl b
  | _, _, .int i, _ => .int i
  | _, _, .str x, _ => .str x
  | _, _, .tup e o r, q => .tup e o (Reps.cut r (by unfold noRef at q; exact q))
  | _, _, .wt e r, q => .wt e (Reps.cut r (by unfold noRef at q; exact q))
  | _, _, .lst e r, q => .lst e (Reps.cut r (by unfold noRef at q; exact q))
  | _, _, .scr e, _ => .scr e
  | _, _, .ref (n := m) e, q => .ref (by
      unfold noRef at q
      show (g.I.take n)[m]? = _
      rw [List.getElem?_take, if_pos (of_decide_eq_true q)]; exact e)
  | _, _, .fn, _ => .fn
  | _, _, .exc e, _ => .exc e
theorem Reps.cut {n : Nat} : ∀ {ds : List D} {vs : List V}, Reps S g ds vs → noRefs n ds = true → Reps S (g.cut n) ds vs
  | _, _, .nil, _ => .nil
  | _, _, .cons a b, q => by
    unfold noRefs at q
    obtain ⟨q1, q2⟩ := ba2 q
    exact .cons (Rep.cut a q1) (Reps.cut b q2)
end
theorem cut_O {n : Nat} {a : Addr} {m j : Nat} (h : g.O a = some (m, j)) (hm : m < n) : (g.cut n).O a = some (m, j) := by
  show (match g.O a with | some (m, j) => if m < n then some (m, j) else none | none => none) = _
  rw [h]; simp [hm]
theorem cut_O' {n : Nat} {a : Addr} {p : Nat × Nat} (h : (g.cut n).O a = some p) : g.O a = some p ∧ p.1 < n := by
  have h : (match g.O a with | some (m, j) => if m < n then some (m, j) else none | none => none) = some p := h
  split at h
  · rename_i m j e
    split at h
    · rename_i hm; cases h; exact ⟨e, hm⟩
    · cases h
  · cases h
theorem FldOk.cut {n i : Nat} (hi : i < n) : ∀ (fs : List (Str × Fld)) (vs : List (Str × V)), FldOk S g H i fs vs → noRefF n fs = true → FldOk S (g.cut n) H i fs vs
  | [], [], _, _ => True.intro
  | (x, .val d) :: fs, (y, v) :: vs, k, q => by
    unfold noRefF at q
    obtain ⟨q1, q2⟩ := ba2 q
    exact ⟨k.1, k.2.1.cut q1, FldOk.cut hi fs vs k.2.2 q2⟩
  | (x, .own j ds) :: fs, (y, v) :: vs, k, q => by
    unfold noRefF at q
    obtain ⟨q1, q2⟩ := ba2 q
    obtain ⟨h1, ⟨a, us, e, o, w, r⟩, h3⟩ := k
    exact ⟨h1, ⟨a, us, e, cut_O o hi, w, r.cut q1⟩, FldOk.cut hi fs vs h3 q2⟩
  | [], _ :: _, k, _ => k.elim
  | (_, .val _) :: _, [], k, _ => k.elim
  | (_, .own _ _) :: _, [], k, _ => k.elim
mutual
theorem noRef_mono {m n : Nat} (h : m ≤ n) : ∀ d : D, noRef m d = true → noRef n d = true
  | .ref k, q => by
    unfold noRef at q ⊢
    exact decide_eq_true (Nat.lt_of_lt_of_le (of_decide_eq_true q) h)
  | .tup ds, q => by unfold noRef at q ⊢; exact noRefs_mono h ds q
  | .wt ds, q => by unfold noRef at q ⊢; exact noRefs_mono h ds q
  | .lst ds, q => by unfold noRef at q ⊢; exact noRefs_mono h ds q
  | .non, _ => by simp [noRef]
  | .bl _, _ => by simp [noRef]
  | .int _, _ => by simp [noRef]
  | .str _, _ => by simp [noRef]
  | .fn _, _ => by simp [noRef]
  | .exc _, _ => by simp [noRef]
  | .scr _, _ => by simp [noRef]
theorem noRefs_mono {m n : Nat} (h : m ≤ n) : ∀ ds : List D, noRefs m ds = true → noRefs n ds = true
  | [], _ => by simp [noRefs]
  | d :: ds, q => by
    unfold noRefs at q ⊢
    obtain ⟨q1, q2⟩ := ba2 q
    rw [noRef_mono h d q1, noRefs_mono h ds q2]; rfl
end
theorem HeapOk.cut {n : Nat} (hk : HeapOk S g H h) (q : (h.take n).all (noRefO n) = true) (hn : n ≤ h.length) : HeapOk S (g.cut n) H (h.take n) := by
  refine ⟨hk.lens, hk.sub, fun a p e => hk.og a p (cut_O' e).1, by show (h.take n).length = (g.I.take n).length; rw [List.length_take, List.length_take, hk.len], fun a b p e1 e2 => hk.inj a b p (cut_O' e1).1 (cut_O' e2).1, fun a m j e => ?_, fun m o a e1 e2 => ?_⟩
  · obtain ⟨z1, z2⟩ := cut_O' e
    obtain ⟨o, w1, w2⟩ := hk.bnd a m j z1
    exact ⟨o, by rw [List.getElem?_take, if_pos z2]; exact w1, w2⟩
  · have hm : m < n := by
      have := (List.getElem?_eq_some_iff.mp e1).1
      rw [List.length_take] at this; omega
    have e1' : h[m]? = some o := by rw [List.getElem?_take, if_pos hm] at e1; exact e1
    have e2 : (g.I.take n)[m]? = some a := e2
    rw [List.getElem?_take, if_pos hm] at e2
    have nr : noRefO n o = true := List.all_eq_true.mp q o (List.mem_of_getElem? e1)
    have ho := hk.obj m o a e1' e2
    cases o with
    | lst pp ds =>
      obtain ⟨h1, hp, us, w, r⟩ := ho
      exact ⟨cut_O h1 hm, hp, us, w, r.cut (noRefs_mono (Nat.zero_le n) ds (hp nr))⟩
    | ins c k fs =>
      obtain ⟨h1, dx, vs, w, r⟩ := ho
      exact ⟨cut_O h1 hm, dx, vs, w, FldOk.cut hm fs vs r nr⟩
    | dK _ => cases nr
    | dT _ => cases nr
theorem trim_ok {g0 : Gh} {H0 : Hp} {h0 : AH} {d : D} {v : V} (k0 : HeapOk S g0 H0 h0) (st : Stp g0 H0 g H) (hk : HeapOk S g H h) (r : Rep S g d v) : ∃ g', Stp g0 H0 g' H ∧ HeapOk S g' H (trim h0.length d h) ∧ Rep S g' d v := by
  unfold trim
  split
  · exact ⟨g, st, hk, r⟩
  · split
    · rename_i q
      obtain ⟨q1, q2⟩ := ba2 q
      have hn : h0.length ≤ h.length := by
        rw [hk.len, k0.len]
        by_cases z : g0.I.length ≤ g.I.length
        · exact z
        · exfalso
          have hl : g.I.length < g0.I.length := by omega
          have := st.pre g.I.length _ (List.getElem?_eq_getElem hl)
          exact Nat.lt_irrefl _ (List.getElem?_eq_some_iff.mp this).1
      refine ⟨g.cut h0.length, ⟨st.keep, st.gk, fun a e => ?_, st.dom, fun i a e => ?_⟩, hk.cut q2 hn, r.cut q1⟩
      · have z := st.ok a e
        cases e0 : g0.O a with
        | none =>
          rw [e0] at z
          show (match g.O a with | some (m, j) => if m < h0.length then some (m, j) else none | none => none) = none
          rw [z]
        | some p =>
          obtain ⟨m, j⟩ := p
          rw [e0] at z
          obtain ⟨o, w1, w2⟩ := k0.bnd a m j e0
          exact cut_O z (List.getElem?_eq_some_iff.mp w1).1
      · have hi : i < h0.length := by rw [k0.len]; exact (List.getElem?_eq_some_iff.mp e).1
        show (g.I.take h0.length)[i]? = some a
        rw [List.getElem?_take, if_pos hi]
        exact st.pre i a e
    · exact ⟨g, st, hk, r⟩
end
/-! ### the defs -/
structure XFn where
  N : List Str
  ps : List Str
  sc : Scope
  body : List Stmt
  x : XB
def Tab.at (T : Tab) (F : XFn) : Tab := { T with N := F.N }
def env0 (F : XFn) (ds : List D) : Env' := ds.map (fun d => some (Slot.val d)) ++ List.replicate (F.N.length - ds.length) none
def endF (n : Nat) : RS → Res D
  | .nx _ h => .ok .non (trim n .non h)
  | .ret d h => .ok d (trim n d h)
  | .exc c _ h => .exc c (trim n .non h)
  | .err => .err
def runF (T : Tab) (fs : Nat → Option XFn) (fuel : Nat) : Nat → Nat → List D → AH → Res D
  | 0 => fun _ _ _ => .err
  | 1 => fun f ds h => match fs f with
    | none => .err
    | some F => endF h.length (denB (T.at F) ⟨fuel, fun _ _ _ => .err, fun _ _ _ => .err⟩ F.x (env0 F ds) h)
  | d + 2 => fun f ds h => match fs f with
    | none => .err
    | some F => endF h.length (denB (T.at F) ⟨fuel, runF T fs fuel (d + 1), runF T fs fuel d⟩ F.x (env0 F ds) h)
theorem runF_succ (T : Tab) (fs : Nat → Option XFn) (fuel d f : Nat) (ds : List D) (h : AH) : runF T fs fuel (d + 1) f ds h = (match fs f with
    | none => .err
    | some F => endF h.length (denB (T.at F) ⟨fuel, runF T fs fuel d, runF T fs fuel (d - 1)⟩ F.x (env0 F ds) h)) := by
  cases d with
  | zero => rfl
  | succ d => rfl
theorem runF_zero (T : Tab) (fs : Nat → Option XFn) (fuel f : Nat) (ds : List D) (h : AH) : runF T fs fuel 0 f ds h = .err := rfl
/-- what is known of the program's heap -/
structure Prog (T : Tab) (fs : Nat → Option XFn) (S : Sta) (mg : Str → Option Value) : Prop where
  fr : ∀ x, T.free x = true → mg x = none
  gl : ∀ x f, T.fns x = some f → mg x = some (.ref (S.fadr f))
  cl : ∀ x c, T.cls x = some c → mg x = some (.ref (S.cadr c))
  fx : ∀ X : Cx, X.K = S.K → X.mg = mg → Facts T S X
  fn : ∀ f n, T.ar f = some n → ∃ F name qual params fd, fs f = some F ∧ F.ps.length = n ∧ FunD S.K name qual params F.body F.sc [] [] (S.fadr f) fd ∧ FnScope F.N F.ps F.sc ∧ (Binds S.K fd F.ps [] ∧ ∀ (s : Shared) (us : List Value), us.length = F.ps.length → BindsTo s fd ⟨us, []⟩ (F.ps.zip us)) ∧ cB (T.at F) 400 F.sc F.x F.body = true
section
variable {T : Tab} {fs : Nat → Option XFn} {S : Sta} {mg : Str → Option Value} {P : Program} {w : World} {base : Heap} {fuel : Nat}
theorem spF_err {n : Nat} {φ : List D → AH → Res D} (hφ : ∀ ds h, φ ds h = .err) {vs : List V} {H : Hp} {Q : VK} {E : XK} : ¬ spF S n φ vs H Q E := by
  rintro ⟨g, ds, h, _, _, _, z⟩
  rw [hφ] at z
  exact z
theorem start_slots {F : XFn} {Fm0 : Fm} {g : Gh} {H : Hp} {ds : List D} {vs : List V} (r : Reps S g ds vs) : Slots S Fm0 g (fun _ => none) (env0 F ds) (L2.start F.N vs) H where
  len := by
    unfold env0 L2.start
    rw [List.length_append, List.length_append, List.length_map, List.length_map, List.length_replicate, List.length_replicate, r.length]
  os := fun a i e => by cases e
  at_ := fun i s e => by
    unfold env0 at e
    unfold L2.start
    by_cases hi : i < ds.length
    · rw [List.getElem?_append_left (by rw [List.length_map]; exact hi), List.getElem?_map, List.getElem?_eq_getElem hi] at e
      cases e
      obtain ⟨v, h1, h2⟩ := r.get (List.getElem?_eq_getElem hi)
      exact ⟨v, by rw [List.getElem?_append_left (by rw [List.length_map, ← r.length]; exact hi), List.getElem?_map, h1]; rfl, h2⟩
    · rw [List.getElem?_append_right (by rw [List.length_map]; omega)] at e
      have := List.mem_of_getElem? e
      have := List.eq_of_mem_replicate this
      cases this
theorem fn_all (hp : Prog T fs S mg) : ∀ d f n, T.ar f = some n → ∃ F fd, fs f = some F ∧ F.ps.length = n ∧ (∀ base : Heap, FnOk P w S.K mg base (L2.CX P w) (d + 1) (S.fadr f) fd F.ps (spF S n (runF T fs fuel d f))) ∧ PySem.W.keepIn S.K (.ref (S.fadr f)) = true ∧ Binds S.K fd F.ps [] ∧ ∀ (s : Shared) (us : List Value), us.length = F.ps.length → BindsTo s fd ⟨us, []⟩ (F.ps.zip us) := by
  intro d
  induction d using Nat.strongRecOn with
  | _ d ih =>
    intro f n hn
    obtain ⟨F, name, qual, params, fd, hf, hl, FD, FS, ⟨hb, hb2⟩, hc⟩ := hp.fn f n hn
    refine ⟨F, fd, hf, hl, fun base => ?_, FD.kp, hb, hb2⟩
    cases d with
    | zero => exact ⟨fun vs H Q E h => absurd h (spF_err (φ := runF T fs fuel 0 _) fun _ _ => rfl), fun A outer s H args us vs Q E _ _ _ _ h => absurd h (spF_err (φ := runF T fs fuel 0 _) fun _ _ => rfl)⟩
    | succ d =>
      refine FD.ok FS (fun vs H Q E h => ?_) fun cdv A outer s H vs Q E hr h => ?_
      · obtain ⟨g, ds, h, _, _, z, _⟩ := h
        rw [hl]; exact z
      · obtain ⟨g, ds, h0, hk, r, hlv, z⟩ := h
        have eF : runF T fs fuel (d + 1) f ds h0 = endF h0.length (denB (T.at F) ⟨fuel, runF T fs fuel d, runF T fs fuel (d - 1)⟩ F.x (env0 F ds) h0) := by
          rw [runF_succ, hf]
        rw [eF] at z
        let W : WishX := fun c σ H' => E (.ref (S.cadr c)) none H'
        let X := cxOf (L2.CX P w) P w S.K mg base F.N qual F.sc (S.fadr f) cdv A outer s H E
        have tk : Takes X (wxOf S W) := (takes_of (X := X) (E := E) rfl rfl rfl rfl).imp fun cls d σ H ⟨c, e1, e2, w⟩ => by rw [e1, e2]; exact w
        have room0 : Room (d + 1) X.A := hr
        have gs : Gs (T.at F) ⟨fuel, runF T fs fuel d, runF T fs fuel (d - 1)⟩ S F.sc X W := by
          refine ⟨⟨rfl, rfl, FS.nd, rfl, FS.kind, hp.fr, hp.gl, hp.cl, fun f' n' h' => ?_, fun f' n' h' => ?_, ?_, tk, ?_⟩, passes_of (X := X) rfl, fun _ => rfl, rfl, rfl, rfl⟩
          · obtain ⟨F', fd', z0, _, z1, z2, z3, _⟩ := ih d (Nat.lt_succ_self d) f' n' h'
            exact ⟨d + 1, fd', F'.ps, z1 base, room0, z2, z3⟩
          · obtain ⟨F', fd', z0, _, z1, z2, z3, _⟩ := ih (d - 1) (by omega) f' n' h'
            cases d with
            | zero => exact ⟨0, fd', F'.ps, ⟨fun vs H Q E h => absurd h (spF_err (φ := runF T fs fuel 0 f') fun _ _ => rfl), fun A outer s H args us vs Q E _ _ _ _ h => absurd h (spF_err (φ := runF T fs fuel 0 f') fun _ _ => rfl)⟩, room0, z2, z3⟩
            | succ d => exact ⟨d + 1, fd', F'.ps, z1 base, room0, z2, z3⟩
          · have := room0.un; omega
          · have fx := hp.fx X rfl rfl
            exact ⟨fx.isE, fx.exm, fx.fld, fx.meth, fx.mkr, fx.exc⟩
        let F0 : Fm := ⟨g, H, fun _ => True, fun _ _ _ _ => True.intro⟩
        refine ⟨tS S F0 W _, (sndS_all 400).b gs hc, tS_fin.mpr ⟨g, fun _ => none, env0 F ds, h0, ⟨hk, start_slots r, Stp.refl g H, True.intro⟩, ?_⟩⟩
        cases e1 : denB (T.at F) ⟨fuel, runF T fs fuel d, runF T fs fuel (d - 1)⟩ F.x (env0 F ds) h0 with
        | err => rw [e1] at z; exact z
        | nx env' h' =>
          rw [e1] at z
          intro g' OS' σ' H' rl
          obtain ⟨g2, s2, k2, r2⟩ := trim_ok hk rl.ent rl.heap (.non : Rep S g' .non .non)
          exact z .non g2 H' s2 k2 r2
        | ret d' h' =>
          rw [e1] at z
          intro v g' H' k' s' r'
          obtain ⟨g2, s2, k2, r2⟩ := trim_ok hk s' k' r'
          exact z v g2 H' s2 k2 r2
        | exc c env' h' =>
          rw [e1] at z
          intro g' OS' σ' H' rl
          obtain ⟨g2, s2, k2, r2⟩ := trim_ok hk rl.ent rl.heap (.non : Rep S g' .non .non)
          exact z g2 H' s2 k2
end
end J

/-! rules by which the small language is run in proofs -/
namespace J
open PySem PySem.Spec PyProof.Rows L2
section
variable {T : Tab} {Φ : Phi} {env : Env'} {h : AH} {α β : Type}
def seqR (r : RS) (k : DS) : RS := match r with
  | .nx e h => k e h
  | r => r
@[simp] theorem seqR_nx (e : Env') (h : AH) (k : DS) : seqR (.nx e h) k = k e h := (Eq.refl _).trans rfl
@[simp] theorem seqR_ret (d : D) (h : AH) (k : DS) : seqR (.ret d h) k = .ret d h := (Eq.refl _).trans rfl
@[simp] theorem seqR_exc (c : Nat) (e : Env') (h : AH) (k : DS) : seqR (.exc c e h) k = .exc c e h := (Eq.refl _).trans rfl
@[simp] theorem seqR_err (k : DS) : seqR .err k = .err := (Eq.refl _).trans rfl
/-! statements: what is still to do has a name, so that it is not run before its time -/
@[simp] theorem dB_nil : denB T Φ .nil env h = .nx env h := (Eq.refl _).trans rfl
@[simp] theorem dB_cons (s : XS) (b : XB) : denB T Φ (.cons s b) env h = seqR (denS T Φ s env h) (denB T Φ b) := by
  show dSeq _ _ env h = _
  unfold dSeq seqR
  cases denS T Φ s env h <;> rfl
@[simp] theorem dS_doc : denS T Φ .doc env h = .nx env h := (Eq.refl _).trans rfl
@[simp] theorem dS_pass : denS T Φ .pass env h = .nx env h := (Eq.refl _).trans rfl
def kSet2 (i : Nat) (env : Env') (s : Slot) (h : AH) : RS := .nx (env.set i (some s)) h
@[simp] theorem kSet2_eq (i : Nat) (s : Slot) : kSet2 i env s h = .nx (env.set i (some s)) h := (Eq.refl _).trans rfl
def kSet (i : Nat) (own : Bool) (env : Env') (e : EV) (h : AH) : RS := exS (.lift (slotOf own e) h) env (kSet2 i env)
@[simp] theorem kSet_eq (i : Nat) (own : Bool) (e : EV) : kSet i own env e h = exS (.lift (slotOf own e) h) env (kSet2 i env) := (Eq.refl _).trans rfl
@[simp] theorem dS_set (i : Nat) (own : Bool) (e : XE) : denS T Φ (.set i own e) env h = exS (denE T Φ e env h) env (kSet i own env) := (Eq.refl _).trans rfl
def nxO (o : Option Env') (h : AH) : RS := match o with
  | some env' => .nx env' h
  | none => .err
@[simp] theorem nxO_some (h : AH) : nxO (some env) h = .nx env h := (Eq.refl _).trans rfl
def kAsg2 (t : Tg) (env : Env') (d : D) (h : AH) : RS := nxO (bindT t d env) h
@[simp] theorem kAsg2_eq (t : Tg) (d : D) : kAsg2 t env d h = nxO (bindT t d env) h := (Eq.refl _).trans rfl
def kAsg (t : Tg) (env : Env') (e : EV) (h : AH) : RS := exS (.lift e.toD h) env (kAsg2 t env)
@[simp] theorem kAsg_eq (t : Tg) (e : EV) : kAsg t env e h = exS (.lift e.toD h) env (kAsg2 t env) := (Eq.refl _).trans rfl
@[simp] theorem dS_asg (t : Tg) (e : XE) : denS T Φ (.asg t e) env h = exS (denE T Φ e env h) env (kAsg t env) := (Eq.refl _).trans rfl
def kPar2 (is : List Nat) (env : Env') (ss : List Slot) (h : AH) : RS := .nx (setsE is ss env) h
@[simp] theorem kPar2_eq (is : List Nat) (ss : List Slot) : kPar2 is env ss h = .nx (setsE is ss env) h := (Eq.refl _).trans rfl
def kPar (is : List Nat) (bs : List Bool) (env : Env') (es : List EV) (h : AH) : RS := exS (.lift (slotsOf bs es) h) env (kPar2 is env)
@[simp] theorem kPar_eq (is : List Nat) (bs : List Bool) (es : List EV) : kPar is bs env es h = exS (.lift (slotsOf bs es) h) env (kPar2 is env) := (Eq.refl _).trans rfl
@[simp] theorem dS_par (is : List Nat) (bs : List Bool) (es : XL) : denS T Φ (.par is bs es) env h = exS (denEL T Φ es env h) env (kPar is bs env) := (Eq.refl _).trans rfl
def kDrop (env : Env') (e : EV) (h : AH) : RS := .nx env h
@[simp] theorem kDrop_eq (e : EV) : kDrop env e h = .nx env h := (Eq.refl _).trans rfl
@[simp] theorem dS_drop (e : XE) : denS T Φ (.drop e) env h = exS (denE T Φ e env h) env (kDrop env) := (Eq.refl _).trans rfl
def kRet2 (d : D) (h : AH) : RS := .ret d h
@[simp] theorem kRet2_eq (d : D) : kRet2 d h = .ret d h := (Eq.refl _).trans rfl
def kRet (env : Env') (e : EV) (h : AH) : RS := exS (.lift e.toD h) env kRet2
@[simp] theorem kRet_eq (e : EV) : kRet env e h = exS (.lift e.toD h) env kRet2 := (Eq.refl _).trans rfl
@[simp] theorem dS_ret (e : XE) : denS T Φ (.ret e) env h = exS (denE T Φ e env h) env (kRet env) := (Eq.refl _).trans rfl
def kRetO (e : EV) (h : AH) : RS := match e with
  | .f ds => .ret (.ref h.length) (h ++ [mkL ds])
  | _ => .err
@[simp] theorem kRetO_eq (ds : List D) : kRetO (.f ds) h = .ret (.ref h.length) (h ++ [mkL ds]) := (Eq.refl _).trans rfl
@[simp] theorem dS_retOwn (e : XE) : denS T Φ (.retOwn e) env h = exS (denE T Φ e env h) env kRetO := (Eq.refl _).trans rfl
def kIfS (T : Tab) (Φ : Phi) (a b : XB) (env : Env') (k : Bool) (h : AH) : RS := match k with
  | true => denB T Φ a env h
  | false => denB T Φ b env h
@[simp] theorem kIfS_t (a b : XB) : kIfS T Φ a b env true h = denB T Φ a env h := (Eq.refl _).trans rfl
@[simp] theorem kIfS_f (a b : XB) : kIfS T Φ a b env false h = denB T Φ b env h := (Eq.refl _).trans rfl
@[simp] theorem dS_ife (t : XT) (a b : XB) : denS T Φ (.ife t a b) env h = exS (denT T Φ t env h) env (kIfS T Φ a b env) := by
  show dIfS _ _ _ env h = _
  unfold dIfS
  congr; funext k h1; cases k <;> rfl
@[simp] theorem dS_raise (c : Nat) : denS T Φ (.raise c) env h = .exc c env h := (Eq.refl _).trans rfl
@[simp] theorem dS_frz (is : List Nat) (s : XS) : denS T Φ (.frz is s) env h = denS T Φ s (frzs is env) h := (Eq.refl _).trans rfl
def tryR (r : RS) (ok : Nat → Option Bool) (i j : Nat) : RS := dTry (fun _ _ => r) ok i j [] []
@[simp] theorem dS_tryy (b : XB) (x : Str) (i j : Nat) : denS T Φ (.tryy b x i j) env h = tryR (denB T Φ b env h) (T.exm x) i j := (Eq.refl _).trans rfl
theorem dS_setix {i j : Nat} {ix e : XE} {ev iv : EV} {d : D} {ds0 ds : List D} {h1 h2 : AH} (e1 : denE T Φ e env h = .ok ev h1) (e2 : ev.toD = some d) (e3 : getL i env h1 = some ds0) (e4 : denE T Φ ix env h1 = .ok iv h2) (e5 : getL i env h2 = some ds) (e6 : ixD iv ds.length = some j) :
    denS T Φ (.setix i ix e) env h = .nx (putE i (ds.set j d) env) (putH i (ds.set j d) env h2) := by
  show dSetIx _ _ _ env h = _
  unfold dSetIx
  simp only [e1, exS_ok, e2, lift_some, e3, e4, e5, e6]
theorem dS_m1 {i : Nat} {k : O1} {e : XE} {ds ds' : List D} {ev : EV} {h1 : AH} (e0 : getL i env h ≠ none) (e1 : denE T Φ e env h = .ok ev h1) (e2 : getL i env h1 = some ds) (e3 : k.k1 h1 ds ev = some ds') : denS T Φ (.m1 i k e) env h = .nx (putE i ds' env) (putH i ds' env h1) := by
  show dMeth1 _ _ _ env h = _
  unfold dMeth1
  cases e4 : getL i env h with
  | none => exact absurd e4 e0
  | some z => simp only [e1, exS_ok, e2, e3]
/-! expressions -/
def slotR (o : Option (Option Slot)) (h : AH) : Res EV := match o with
  | some (some (.val d)) => .ok (.v d) h
  | some (some (.own ds)) => .ok (.b ds) h
  | _ => .err
@[simp] theorem slotR_v (d : D) : slotR (some (some (.val d))) h = .ok (.v d) h := (Eq.refl _).trans rfl
@[simp] theorem slotR_o (ds : List D) : slotR (some (some (.own ds))) h = .ok (.b ds) h := (Eq.refl _).trans rfl
@[simp] theorem dE_slot (i : Nat) : denE T Φ (.slot i) env h = slotR env[i]? h := (Eq.refl _).trans rfl
@[simp] theorem dE_cst (d : D) : denE T Φ (.cst d) env h = .ok (.v d) h := (Eq.refl _).trans rfl
@[simp] theorem dE_fnv (f : Nat) : denE T Φ (.fnv f) env h = .ok (.v (.fn f)) h := (Eq.refl _).trans rfl
def kB2 (k : AH → EV → EV → Option EV) (e1 e2 : EV) (h : AH) : Res EV := .lift (k h e1 e2) h
@[simp] theorem kB2_eq (k : AH → EV → EV → Option EV) (e1 e2 : EV) : kB2 k e1 e2 h = .lift (k h e1 e2) h := (Eq.refl _).trans rfl
def kB1 (T : Tab) (Φ : Phi) (b : XE) (env : Env') (k : AH → EV → EV → Option EV) (e1 : EV) (h : AH) : Res EV := (denE T Φ b env h).bind (kB2 k e1)
@[simp] theorem kB1_eq (b : XE) (k : AH → EV → EV → Option EV) (e1 : EV) : kB1 T Φ b env k e1 h = (denE T Φ b env h).bind (kB2 k e1) := (Eq.refl _).trans rfl
def kU (k : AH → EV → Option EV) (e : EV) (h : AH) : Res EV := .lift (k h e) h
@[simp] theorem kU_eq (k : AH → EV → Option EV) (e : EV) : kU k e h = .lift (k h e) h := (Eq.refl _).trans rfl
@[simp] theorem dE_bin (o : BOp) (a b : XE) : denE T Φ (.bin o a b) env h = (denE T Φ a env h).bind (kB1 T Φ b env o.k) := (Eq.refl _).trans rfl
@[simp] theorem dE_cmp (o : COp) (a b : XE) : denE T Φ (.cmp o a b) env h = (denE T Φ a env h).bind (kB1 T Φ b env o.k) := (Eq.refl _).trans rfl
def kC3 (T : Tab) (Φ : Phi) (c : XE) (env : Env') (k' : AH → EV → EV → Option EV) (e2 : EV) (b : Bool) (h : AH) : Res EV := match b with
  | true => (denE T Φ c env h).bind (kB2 k' e2)
  | false => .ok (.v (.bl false)) h
@[simp] theorem kC3_t (c : XE) (k' : AH → EV → EV → Option EV) (e2 : EV) : kC3 T Φ c env k' e2 true h = (denE T Φ c env h).bind (kB2 k' e2) := (Eq.refl _).trans rfl
@[simp] theorem kC3_f (c : XE) (k' : AH → EV → EV → Option EV) (e2 : EV) : kC3 T Φ c env k' e2 false h = .ok (.v (.bl false)) h := (Eq.refl _).trans rfl
def kC2 (T : Tab) (Φ : Phi) (c : XE) (env : Env') (k k' : AH → EV → EV → Option EV) (e1 e2 : EV) (h : AH) : Res EV := (Res.lift ((k h e1 e2).bind blK) h).bind (kC3 T Φ c env k' e2)
@[simp] theorem kC2_eq (c : XE) (k k' : AH → EV → EV → Option EV) (e1 e2 : EV) : kC2 T Φ c env k k' e1 e2 h = (Res.lift ((k h e1 e2).bind blK) h).bind (kC3 T Φ c env k' e2) := (Eq.refl _).trans rfl
def kC1 (T : Tab) (Φ : Phi) (b c : XE) (env : Env') (k k' : AH → EV → EV → Option EV) (e1 : EV) (h : AH) : Res EV := (denE T Φ b env h).bind (kC2 T Φ c env k k' e1)
@[simp] theorem kC1_eq (b c : XE) (k k' : AH → EV → EV → Option EV) (e1 : EV) : kC1 T Φ b c env k k' e1 h = (denE T Φ b env h).bind (kC2 T Φ c env k k' e1) := (Eq.refl _).trans rfl
@[simp] theorem dE_chain (o p : COp) (a b c : XE) : denE T Φ (.chain o p a b c) env h = (denE T Φ a env h).bind (kC1 T Φ b c env o.k p.k) := by
  show denCh _ _ _ _ _ env h = _
  unfold denCh
  congr; funext e1 h1
  simp only [still_true, if_true]
  unfold kC1 kC2
  congr; funext e2 h2
  congr; funext k h2
  cases k <;> rfl
@[simp] theorem dE_ix (a b : XE) : denE T Φ (.ix a b) env h = (denE T Φ a env h).bind (kB1 T Φ b env ixK) := (Eq.refl _).trans rfl
def kS3 (e1 : EV) (l u : Option Int) (h : AH) : Res EV := .lift (cutK h e1 l u) h
@[simp] theorem kS3_eq (e1 : EV) (l u : Option Int) : kS3 e1 l u h = .lift (cutK h e1 l u) h := (Eq.refl _).trans rfl
def kS2 (T : Tab) (Φ : Phi) (hi : XO) (env : Env') (e1 : EV) (l : Option Int) (h : AH) : Res EV := (denO T Φ hi env h).bind (kS3 e1 l)
@[simp] theorem kS2_eq (hi : XO) (e1 : EV) (l : Option Int) : kS2 T Φ hi env e1 l h = (denO T Φ hi env h).bind (kS3 e1 l) := (Eq.refl _).trans rfl
def kS1 (T : Tab) (Φ : Phi) (lo hi : XO) (env : Env') (e1 : EV) (h : AH) : Res EV := (denO T Φ lo env h).bind (kS2 T Φ hi env e1)
@[simp] theorem kS1_eq (lo hi : XO) (e1 : EV) : kS1 T Φ lo hi env e1 h = (denO T Φ lo env h).bind (kS2 T Φ hi env e1) := (Eq.refl _).trans rfl
@[simp] theorem dE_sl (a : XE) (lo hi : XO) : denE T Φ (.sl a lo hi) env h = (denE T Φ a env h).bind (kS1 T Φ lo hi env) := (Eq.refl _).trans rfl
@[simp] theorem dE_rev (a : XE) : denE T Φ (.rev a) env h = (denE T Φ a env h).bind (kU revK) := (Eq.refl _).trans rfl
@[simp] theorem dE_neg (a : XE) : denE T Φ (.neg a) env h = (denE T Φ a env h).bind (kU negK) := (Eq.refl _).trans rfl
def kNot (e : EV) (h : AH) : Res EV := (Res.lift (blK e) h).bind fun b h1 => .ok (.v (.bl (!b))) h1
@[simp] theorem kNot_eq (b : Bool) : kNot (.v (.bl b)) h = .ok (.v (.bl (!b))) h := (Eq.refl _).trans rfl
@[simp] theorem dE_notv (a : XE) : denE T Φ (.notv a) env h = (denE T Φ a env h).bind kNot := (Eq.refl _).trans rfl
def kAnd (T : Tab) (Φ : Phi) (b : XE) (env : Env') (e : EV) (h : AH) : Res EV := (Res.lift (blK e) h).bind fun k h1 => if k then denE T Φ b env h1 else .ok (.v (.bl false)) h1
@[simp] theorem kAnd_t (b : XE) : kAnd T Φ b env (.v (.bl true)) h = denE T Φ b env h := (Eq.refl _).trans rfl
@[simp] theorem kAnd_f (b : XE) : kAnd T Φ b env (.v (.bl false)) h = .ok (.v (.bl false)) h := (Eq.refl _).trans rfl
@[simp] theorem dE_andv (a b : XE) : denE T Φ (.andv a b) env h = (denE T Φ a env h).bind (kAnd T Φ b env) := (Eq.refl _).trans rfl
def kOr (T : Tab) (Φ : Phi) (b : XE) (env : Env') (e : EV) (h : AH) : Res EV := (Res.lift (blK e) h).bind fun k h1 => if k then .ok (.v (.bl true)) h1 else denE T Φ b env h1
@[simp] theorem kOr_t (b : XE) : kOr T Φ b env (.v (.bl true)) h = .ok (.v (.bl true)) h := (Eq.refl _).trans rfl
@[simp] theorem kOr_f (b : XE) : kOr T Φ b env (.v (.bl false)) h = denE T Φ b env h := (Eq.refl _).trans rfl
@[simp] theorem dE_orv (a b : XE) : denE T Φ (.orv a b) env h = (denE T Φ a env h).bind (kOr T Φ b env) := (Eq.refl _).trans rfl
def kIf (T : Tab) (Φ : Phi) (a b : XE) (env : Env') (k : Bool) (h : AH) : Res EV := if k then denE T Φ a env h else denE T Φ b env h
@[simp] theorem kIf_t (a b : XE) : kIf T Φ a b env true h = denE T Φ a env h := (Eq.refl _).trans rfl
@[simp] theorem kIf_f (a b : XE) : kIf T Φ a b env false h = denE T Φ b env h := (Eq.refl _).trans rfl
@[simp] theorem dE_ife (t : XT) (a b : XE) : denE T Φ (.ife t a b) env h = (denT T Φ t env h).bind (kIf T Φ a b env) := (Eq.refl _).trans rfl
def kTup (ds : List D) (h : AH) : Res EV := .ok (.v (.tup ds)) h
@[simp] theorem kTup_eq (ds : List D) : kTup ds h = .ok (.v (.tup ds)) h := (Eq.refl _).trans rfl
def kLst (ds : List D) (h : AH) : Res EV := .ok (.f ds) h
@[simp] theorem kLst_eq (ds : List D) : kLst ds h = .ok (.f ds) h := (Eq.refl _).trans rfl
def kV (d : D) (h : AH) : Res EV := .ok (.v d) h
@[simp] theorem kV_eq (d : D) : kV d h = .ok (.v d) h := (Eq.refl _).trans rfl
@[simp] theorem dE_tup (es : XL) : denE T Φ (.tup es) env h = (denL T Φ es env h).bind kTup := (Eq.refl _).trans rfl
@[simp] theorem dE_lst (es : XL) : denE T Φ (.lst es) env h = (denL T Φ es env h).bind kLst := (Eq.refl _).trans rfl
def kCall (Φ : Phi) (f : Nat) (ds : List D) (h : AH) : Res EV := (Φ.call f ds h).bind kV
@[simp] theorem kCall_eq (f : Nat) (ds : List D) : kCall Φ f ds h = (Φ.call f ds h).bind kV := (Eq.refl _).trans rfl
@[simp] theorem dE_call (f : Nat) (es : XL) : denE T Φ (.call f es) env h = (denL T Φ es env h).bind (kCall Φ f) := (Eq.refl _).trans rfl
@[simp] theorem dE_b1 (k : B1) (a : XE) : denE T Φ (.b1 k a) env h = (denE T Φ a env h).bind (kU k.k) := (Eq.refl _).trans rfl
@[simp] theorem dE_b2 (k : B2) (a b : XE) : denE T Φ (.b2 k a b) env h = (denE T Φ a env h).bind (kB1 T Φ b env k.k) := (Eq.refl _).trans rfl
@[simp] theorem dE_isi (t : TyN) (a : XE) : denE T Φ (.isi t a) env h = (denE T Φ a env h).bind (kU (isiK t)) := (Eq.refl _).trans rfl
@[simp] theorem dE_isE (x : Str) (a : XE) : denE T Φ (.isE x a) env h = (denE T Φ a env h).bind (kU (isEK (T.isE x))) := (Eq.refl _).trans rfl
@[simp] theorem dE_lr1 (a : XE) : denE T Φ (.lr1 a) env h = (denE T Φ a env h).bind (kU lr1K) := (Eq.refl _).trans rfl
@[simp] theorem dE_lr2 (a b : XE) : denE T Φ (.lr2 a b) env h = (denE T Φ a env h).bind (kB1 T Φ b env lr2K) := (Eq.refl _).trans rfl
@[simp] theorem dO_no : denO T Φ .no env h = .ok none h := (Eq.refl _).trans rfl
def kPart (e : EV) (h : AH) : Res (Option Int) := .lift (partK e) h
@[simp] theorem kPart_eq (e : EV) : kPart e h = .lift (partK e) h := (Eq.refl _).trans rfl
@[simp] theorem dO_so (a : XE) : denO T Φ (.so a) env h = (denE T Φ a env h).bind kPart := (Eq.refl _).trans rfl
@[simp] theorem dL_nil : denL T Φ .nil env h = .ok [] h := (Eq.refl _).trans rfl
def kL3 (d : D) (ds : List D) (h : AH) : Res (List D) := .ok (d :: ds) h
@[simp] theorem kL3_eq (d : D) (ds : List D) : kL3 d ds h = .ok (d :: ds) h := (Eq.refl _).trans rfl
def kL2 (T : Tab) (Φ : Phi) (es : XL) (env : Env') (d : D) (h : AH) : Res (List D) := (denL T Φ es env h).bind (kL3 d)
@[simp] theorem kL2_eq (es : XL) (d : D) : kL2 T Φ es env d h = (denL T Φ es env h).bind (kL3 d) := (Eq.refl _).trans rfl
def kL1 (T : Tab) (Φ : Phi) (es : XL) (env : Env') (e : EV) (h : AH) : Res (List D) := (Res.lift e.toD h).bind (kL2 T Φ es env)
@[simp] theorem kL1_eq (es : XL) (e : EV) : kL1 T Φ es env e h = (Res.lift e.toD h).bind (kL2 T Φ es env) := (Eq.refl _).trans rfl
@[simp] theorem dL_cons (a : XE) (es : XL) : denL T Φ (.cons a es) env h = (denE T Φ a env h).bind (kL1 T Φ es env) := (Eq.refl _).trans rfl
@[simp] theorem dEL_nil : denEL T Φ .nil env h = .ok [] h := (Eq.refl _).trans rfl
def kM3 (e : EV) (es : List EV) (h : AH) : Res (List EV) := .ok (e :: es) h
@[simp] theorem kM3_eq (e : EV) (es : List EV) : kM3 e es h = .ok (e :: es) h := (Eq.refl _).trans rfl
def kM2 (T : Tab) (Φ : Phi) (es : XL) (env : Env') (e : EV) (b : Bool) (h : AH) : Res (List EV) := match b with
  | true => (denEL T Φ es env h).bind (kM3 e)
  | false => .err
@[simp] theorem kM2_t (es : XL) (e : EV) : kM2 T Φ es env e true h = (denEL T Φ es env h).bind (kM3 e) := (Eq.refl _).trans rfl
def kM1 (T : Tab) (Φ : Phi) (es : XL) (env : Env') (e : EV) (h : AH) : Res (List EV) := kM2 T Φ es env e e.lone h
@[simp] theorem kM1_eq (es : XL) (e : EV) : kM1 T Φ es env e h = kM2 T Φ es env e e.lone h := (Eq.refl _).trans rfl
@[simp] theorem dEL_cons (a : XE) (es : XL) : denEL T Φ (.cons a es) env h = (denE T Φ a env h).bind (kM1 T Φ es env) := by
  show dEsCons _ _ env h = _
  unfold dEsCons
  congr; funext e h1
  unfold kM1
  cases e.lone <;> rfl
@[simp] theorem dT_yes : denT T Φ .yes env h = .ok true h := (Eq.refl _).trans rfl
def kTr (e : EV) (h : AH) : Res Bool := .lift (truthK h e) h
@[simp] theorem kTr_eq (e : EV) : kTr e h = .lift (truthK h e) h := (Eq.refl _).trans rfl
def kBl (e : EV) (h : AH) : Res Bool := .lift (blK e) h
@[simp] theorem kBl_eq (e : EV) : kBl e h = .lift (blK e) h := (Eq.refl _).trans rfl
def kNotT (b : Bool) (h : AH) : Res Bool := .ok (!b) h
@[simp] theorem kNotT_eq (b : Bool) : kNotT b h = .ok (!b) h := (Eq.refl _).trans rfl
def kAndT (T : Tab) (Φ : Phi) (t : XT) (env : Env') (b : Bool) (h : AH) : Res Bool := if b then denT T Φ t env h else .ok false h
@[simp] theorem kAndT_t (t : XT) : kAndT T Φ t env true h = denT T Φ t env h := (Eq.refl _).trans rfl
@[simp] theorem kAndT_f (t : XT) : kAndT T Φ t env false h = .ok false h := (Eq.refl _).trans rfl
def kOrT (T : Tab) (Φ : Phi) (t : XT) (env : Env') (b : Bool) (h : AH) : Res Bool := if b then .ok true h else denT T Φ t env h
@[simp] theorem kOrT_t (t : XT) : kOrT T Φ t env true h = .ok true h := (Eq.refl _).trans rfl
@[simp] theorem kOrT_f (t : XT) : kOrT T Φ t env false h = denT T Φ t env h := (Eq.refl _).trans rfl
@[simp] theorem dT_tr (a : XE) : denT T Φ (.tr a) env h = (denE T Φ a env h).bind kTr := (Eq.refl _).trans rfl
@[simp] theorem dT_cmp (o : COp) (a b : XE) : denT T Φ (.cmp o a b) env h = (denE T Φ (.cmp o a b) env h).bind kBl := (Eq.refl _).trans rfl
@[simp] theorem dT_chain (o p : COp) (a b c : XE) : denT T Φ (.chain o p a b c) env h = (denE T Φ (.chain o p a b c) env h).bind kBl := (Eq.refl _).trans rfl
@[simp] theorem dT_not (t : XT) : denT T Φ (.not t) env h = (denT T Φ t env h).bind kNotT := (Eq.refl _).trans rfl
@[simp] theorem dT_and (s t : XT) : denT T Φ (.and s t) env h = (denT T Φ s env h).bind (kAndT T Φ t env) := (Eq.refl _).trans rfl
@[simp] theorem dT_or (s t : XT) : denT T Φ (.or s t) env h = (denT T Φ s env h).bind (kOrT T Φ t env) := (Eq.refl _).trans rfl
def kSq (ev : EV) (h : AH) : Res Sr := .lift ((srK ev).bind fun sr => okI sr h) h
@[simp] theorem kSq_eq {ev : EV} : kSq ev h = .lift ((srK ev).bind fun sr => okI sr h) h := (Eq.refl _).trans rfl
@[simp] theorem dI_seq (a : XE) : denI T Φ (.seq a) env h = (denE T Φ a env h).bind kSq := (Eq.refl _).trans rfl
def kRg (ds : List D) (h : AH) : Res Sr := .lift (rngK ds) h
@[simp] theorem kRg_eq (ds : List D) : kRg ds h = .lift (rngK ds) h := (Eq.refl _).trans rfl
@[simp] theorem dI_rng (es : XL) : denI T Φ (.rng es) env h = (denL T Φ es env h).bind kRg := (Eq.refl _).trans rfl
def kZ3 (s : Src) (ev : EV) (h : AH) : Res Sr := .lift ((srcOf ev).bind fun t => okI (.zip s t) h) h
@[simp] theorem kZ3_eq (s : Src) (ev : EV) : kZ3 s ev h = .lift ((srcOf ev).bind fun t => okI (.zip s t) h) h := (Eq.refl _).trans rfl
def kZ2 (T : Tab) (Φ : Phi) (b : XE) (env : Env') (s : Src) (h : AH) : Res Sr := (denE T Φ b env h).bind (kZ3 s)
@[simp] theorem kZ2_eq (b : XE) (s : Src) : kZ2 T Φ b env s h = (denE T Φ b env h).bind (kZ3 s) := (Eq.refl _).trans rfl
def kZ1 (T : Tab) (Φ : Phi) (b : XE) (env : Env') (ev : EV) (h : AH) : Res Sr := (Res.lift (srcOf ev) h).bind (kZ2 T Φ b env)
@[simp] theorem kZ1_eq (b : XE) (ev : EV) : kZ1 T Φ b env ev h = (Res.lift (srcOf ev) h).bind (kZ2 T Φ b env) := (Eq.refl _).trans rfl
@[simp] theorem dI_zip (a b : XE) : denI T Φ (.zip a b) env h = (denE T Φ a env h).bind (kZ1 T Φ b env) := (Eq.refl _).trans rfl
def kEn (ev : EV) (h : AH) : Res Sr := .lift ((srcOf ev).bind fun s => okI (.enum s) h) h
@[simp] theorem kEn_eq (ev : EV) : kEn ev h = .lift ((srcOf ev).bind fun s => okI (.enum s) h) h := (Eq.refl _).trans rfl
@[simp] theorem dI_enum (a : XE) : denI T Φ (.enum a) env h = (denE T Φ a env h).bind kEn := (Eq.refl _).trans rfl
/-! operators -/
@[simp] theorem k_add : BOp.k .add = addK := (Eq.refl _).trans rfl
@[simp] theorem k_sub : BOp.k .sub = subK := (Eq.refl _).trans rfl
@[simp] theorem k_mul : BOp.k .mul = mulK := (Eq.refl _).trans rfl
@[simp] theorem k_fdiv : BOp.k .fdiv = fdivK := (Eq.refl _).trans rfl
@[simp] theorem k_mod : BOp.k .mod = modK := (Eq.refl _).trans rfl
@[simp] theorem k_pow : BOp.k .pow = powK := (Eq.refl _).trans rfl
@[simp] theorem add_ii (a b : Int) : addK h (.v (.int a)) (.v (.int b)) = some (.v (.int (a + b))) := (Eq.refl _).trans rfl
@[simp] theorem sub_ii (a b : Int) : subK h (.v (.int a)) (.v (.int b)) = some (.v (.int (a - b))) := (Eq.refl _).trans rfl
@[simp] theorem mul_ii (a b : Int) : mulK h (.v (.int a)) (.v (.int b)) = if mulOk a b then some (.v (.int (a * b))) else none := (Eq.refl _).trans rfl
@[simp] theorem fdiv_ii (a b : Int) : fdivK h (.v (.int a)) (.v (.int b)) = if divOk b then some (.v (.int (Int.fdiv a b))) else none := by
  show ((if divOk b then _ else _ : Option D)).map _ = _
  split <;> rfl
@[simp] theorem mod_ii (a b : Int) : modK h (.v (.int a)) (.v (.int b)) = if b != 0 then some (.v (.int (Int.fmod a b))) else none := by
  show ((if b != 0 then _ else _ : Option D)).map _ = _
  split <;> rfl
@[simp] theorem pow_ii (a b : Int) : powK h (.v (.int a)) (.v (.int b)) = if powOk a b then some (.v (.int (a ^ b.toNat))) else none := by
  show ((if powOk a b then _ else _ : Option D)).map _ = _
  split <;> rfl
@[simp] theorem neg_i (a : Int) : negK h (.v (.int a)) = some (.v (.int (-a))) := (Eq.refl _).trans rfl
@[simp] theorem abs_i (a : Int) : absK h (.v (.int a)) = some (.v (.int a.natAbs)) := by
  show some (EV.v (.int (if a < 0 then -a else a))) = _
  split
  · congr; omega
  · congr; omega
@[simp] theorem k_eq : COp.k .eq = eqK false := (Eq.refl _).trans rfl
@[simp] theorem k_ne : COp.k .ne = eqK true := (Eq.refl _).trans rfl
@[simp] theorem lt_ii (a b : Int) : COp.k .lt h (.v (.int a)) (.v (.int b)) = some (.v (.bl (decide (a < b)))) := (Eq.refl _).trans rfl
@[simp] theorem le_ii (a b : Int) : COp.k .le h (.v (.int a)) (.v (.int b)) = some (.v (.bl (decide (a ≤ b)))) := (Eq.refl _).trans rfl
@[simp] theorem gt_ii (a b : Int) : COp.k .gt h (.v (.int a)) (.v (.int b)) = some (.v (.bl (decide (b < a)))) := (Eq.refl _).trans rfl
@[simp] theorem ge_ii (a b : Int) : COp.k .ge h (.v (.int a)) (.v (.int b)) = some (.v (.bl (decide (b ≤ a)))) := (Eq.refl _).trans rfl
@[simp] theorem k_is : COp.k .is = isK false := (Eq.refl _).trans rfl
@[simp] theorem k_isnot : COp.k .isnot = isK true := (Eq.refl _).trans rfl
@[simp] theorem k_inn : COp.k .inn = inK false := (Eq.refl _).trans rfl
@[simp] theorem k_notin : COp.k .notin = inK true := (Eq.refl _).trans rfl
@[simp] theorem is_bb (a b : Bool) : isK false h (.v (.bl a)) (.v (.bl b)) = some (.v (.bl (decide (a = b)))) := (Eq.refl _).trans rfl
@[simp] theorem isn_bb (a b : Bool) : isK true h (.v (.bl a)) (.v (.bl b)) = some (.v (.bl (!decide (a = b)))) := (Eq.refl _).trans rfl
@[simp] theorem blK_b (b : Bool) : blK (.v (.bl b)) = some b := (Eq.refl _).trans rfl
@[simp] theorem truth_b (b : Bool) : truthK h (.v (.bl b)) = some b := (Eq.refl _).trans rfl
@[simp] theorem truth_i (b : Int) : truthK h (.v (.int b)) = some (b != 0) := (Eq.refl _).trans rfl
@[simp] theorem truth_n : truthK h (.v .non) = some false := (Eq.refl _).trans rfl
@[simp] theorem toD_v (d : D) : (EV.v d).toD = some d := (Eq.refl _).trans rfl
@[simp] theorem toD_f (ds : List D) : (EV.f ds).toD = some (.lst ds) := (Eq.refl _).trans rfl
@[simp] theorem slotOf_v (o : Bool) (d : D) : slotOf o (.v d) = some (.val d) := (Eq.refl _).trans rfl
@[simp] theorem slotOf_ft (ds : List D) : slotOf true (.f ds) = some (.own ds) := (Eq.refl _).trans rfl
@[simp] theorem slotOf_ff (ds : List D) : slotOf false (.f ds) = some (.val (.lst ds)) := (Eq.refl _).trans rfl
@[simp] theorem seqOf_l (ds : List D) : seqOf h (.v (.lst ds)) = some (.l, ds) := (Eq.refl _).trans rfl
@[simp] theorem seqOf_t (ds : List D) : seqOf h (.v (.tup ds)) = some (.t, ds) := (Eq.refl _).trans rfl
@[simp] theorem seqOf_s (ns : List Int) : seqOf h (.v (.scr ns)) = some (.s, ns.map D.int) := (Eq.refl _).trans rfl
@[simp] theorem seqOf_f (ds : List D) : seqOf h (.f ds) = some (.l, ds) := (Eq.refl _).trans rfl
@[simp] theorem seqOf_b (ds : List D) : seqOf h (.b ds) = some (.l, ds) := (Eq.refl _).trans rfl
@[simp] theorem lone_i (i : Int) : EV.lone (.v (.int i)) = true := (Eq.refl _).trans rfl
@[simp] theorem lone_t (i : List D) : EV.lone (.v (.tup i)) = true := (Eq.refl _).trans rfl
@[simp] theorem lone_l (i : List D) : EV.lone (.v (.lst i)) = true := (Eq.refl _).trans rfl
@[simp] theorem lone_b (i : Bool) : EV.lone (.v (.bl i)) = true := (Eq.refl _).trans rfl
@[simp] theorem lone_n : EV.lone (.v .non) = true := (Eq.refl _).trans rfl
@[simp] theorem lone_s (i : Str) : EV.lone (.v (.str i)) = true := (Eq.refl _).trans rfl
@[simp] theorem lone_f (i : List D) : EV.lone (.f i) = true := (Eq.refl _).trans rfl
@[simp] theorem len_t (ds : List D) : lenK h (.v (.tup ds)) = some (.v (.int ds.length)) := (Eq.refl _).trans rfl
@[simp] theorem len_l (ds : List D) : lenK h (.v (.lst ds)) = some (.v (.int ds.length)) := (Eq.refl _).trans rfl
@[simp] theorem len_f (ds : List D) : lenK h (.f ds) = some (.v (.int ds.length)) := (Eq.refl _).trans rfl
@[simp] theorem len_b (ds : List D) : lenK h (.b ds) = some (.v (.int ds.length)) := (Eq.refl _).trans rfl
@[simp] theorem len_s (ns : List Int) : lenK h (.v (.scr ns)) = some (.v (.int ns.length)) := by
  show some (EV.v (.int (List.length (ns.map D.int)))) = _
  rw [List.length_map]
@[simp] theorem b1_len : B1.k .len = lenK := (Eq.refl _).trans rfl
@[simp] theorem b1_all : B1.k .all = allK := (Eq.refl _).trans rfl
@[simp] theorem b1_any : B1.k .any = anyK := (Eq.refl _).trans rfl
@[simp] theorem b1_sum : B1.k .sum = sumK := (Eq.refl _).trans rfl
@[simp] theorem b1_max : B1.k .max = maxK := (Eq.refl _).trans rfl
@[simp] theorem b1_tuple : B1.k .tuple = tupK := (Eq.refl _).trans rfl
@[simp] theorem b1_list : B1.k .list = lstK := (Eq.refl _).trans rfl
@[simp] theorem b1_int : B1.k .int = intAK := (Eq.refl _).trans rfl
@[simp] theorem b1_abs : B1.k .abs = absK := (Eq.refl _).trans rfl
@[simp] theorem b1_str : B1.k .str = strK := (Eq.refl _).trans rfl
@[simp] theorem tup_l (ds : List D) : tupK h (.v (.lst ds)) = some (.v (.tup ds)) := (Eq.refl _).trans rfl
@[simp] theorem tup_t (ds : List D) : tupK h (.v (.tup ds)) = some (.v (.tup ds)) := (Eq.refl _).trans rfl
@[simp] theorem tup_f (ds : List D) : tupK h (.f ds) = some (.v (.tup ds)) := (Eq.refl _).trans rfl
@[simp] theorem tup_b (ds : List D) : tupK h (.b ds) = some (.v (.tup ds)) := (Eq.refl _).trans rfl
@[simp] theorem lst_l (ds : List D) : lstK h (.v (.lst ds)) = some (.f ds) := (Eq.refl _).trans rfl
@[simp] theorem lst_t (ds : List D) : lstK h (.v (.tup ds)) = some (.f ds) := (Eq.refl _).trans rfl
@[simp] theorem lst_f (ds : List D) : lstK h (.f ds) = some (.f ds) := (Eq.refl _).trans rfl
@[simp] theorem lst_b (ds : List D) : lstK h (.b ds) = some (.f ds) := (Eq.refl _).trans rfl
@[simp] theorem lst_s (ns : List Int) : lstK h (.v (.scr ns)) = some (.f (ns.map D.int)) := (Eq.refl _).trans rfl
@[simp] theorem isi_i (t : TyN) (i : Int) : isiK t h (.v (.int i)) = some (.v (.bl (isiT .int t))) := (Eq.refl _).trans rfl
@[simp] theorem isi_b (t : TyN) (i : Bool) : isiK t h (.v (.bl i)) = some (.v (.bl (isiT .bool t))) := (Eq.refl _).trans rfl
@[simp] theorem isi_t (t : TyN) (i : List D) : isiK t h (.v (.tup i)) = some (.v (.bl (isiT .tup t))) := (Eq.refl _).trans rfl
@[simp] theorem isi_s (t : TyN) (i : Str) : isiK t h (.v (.str i)) = some (.v (.bl (isiT .str t))) := (Eq.refl _).trans rfl
@[simp] theorem isi_n (t : TyN) : isiK t h (.v .non) = some (.v (.bl (isiT .non t))) := (Eq.refl _).trans rfl
@[simp] theorem isi_l (t : TyN) (i : List D) : isiK t h (.v (.lst i)) = some (.v (.bl (isiT .lst t))) := (Eq.refl _).trans rfl
@[simp] theorem isiT1 : isiT .int .int = true := (Eq.refl _).trans rfl
@[simp] theorem isiT2 : isiT .int .bool = false := (Eq.refl _).trans rfl
@[simp] theorem isiT3 : isiT .bool .int = true := (Eq.refl _).trans rfl
@[simp] theorem isiT4 : isiT .bool .bool = true := (Eq.refl _).trans rfl
@[simp] theorem isiT5 : isiT .tup .tup = true := (Eq.refl _).trans rfl
@[simp] theorem isiT6 : isiT .tup .int = false := (Eq.refl _).trans rfl
@[simp] theorem isiT7 : isiT .str .tup = false := (Eq.refl _).trans rfl
@[simp] theorem isiT8 : isiT .non .tup = false := (Eq.refl _).trans rfl
@[simp] theorem isiT9 : isiT .int .tup = false := (Eq.refl _).trans rfl
@[simp] theorem ix_t (ds : List D) (i : Int) : ixK h (.v (.tup ds)) (.v (.int i)) = (atI ds i).map .v := (Eq.refl _).trans rfl
@[simp] theorem ix_l (ds : List D) (i : Int) : ixK h (.v (.lst ds)) (.v (.int i)) = (atI ds i).map .v := (Eq.refl _).trans rfl
@[simp] theorem ix_f (ds : List D) (i : Int) : ixK h (.f ds) (.v (.int i)) = (atI ds i).map .v := (Eq.refl _).trans rfl
@[simp] theorem ix_b (ds : List D) (i : Int) : ixK h (.b ds) (.v (.int i)) = (atI ds i).map .v := (Eq.refl _).trans rfl
@[simp] theorem ix_s (ns : List Int) (i : Int) : ixK h (.v (.scr ns)) (.v (.int i)) = (atI (ns.map D.int) i).map .v := (Eq.refl _).trans rfl
@[simp] theorem rev_t (ds : List D) : revK h (.v (.tup ds)) = some (.v (.tup ds.reverse)) := (Eq.refl _).trans rfl
@[simp] theorem rev_l (ds : List D) : revK h (.v (.lst ds)) = some (.f ds.reverse) := (Eq.refl _).trans rfl
@[simp] theorem partK_i (i : Int) : partK (.v (.int i)) = some (some i) := (Eq.refl _).trans rfl
@[simp] theorem cut_t (ds : List D) (lo hi : Option Int) : cutK h (.v (.tup ds)) lo hi = some (.v (.tup (cutD ds lo hi))) := (Eq.refl _).trans rfl
@[simp] theorem cut_l (ds : List D) (lo hi : Option Int) : cutK h (.v (.lst ds)) lo hi = some (.f (cutD ds lo hi)) := (Eq.refl _).trans rfl
@[simp] theorem cut_f (ds : List D) (lo hi : Option Int) : cutK h (.f ds) lo hi = some (.f (cutD ds lo hi)) := (Eq.refl _).trans rfl
@[simp] theorem cut_b (ds : List D) (lo hi : Option Int) : cutK h (.b ds) lo hi = some (.f (cutD ds lo hi)) := (Eq.refl _).trans rfl
@[simp] theorem srcOf_l (ds : List D) : srcOf (.v (.lst ds)) = some (.fx ds) := (Eq.refl _).trans rfl
@[simp] theorem srcOf_t (ds : List D) : srcOf (.v (.tup ds)) = some (.fx ds) := (Eq.refl _).trans rfl
@[simp] theorem srcOf_f (ds : List D) : srcOf (.f ds) = some (.fx ds) := (Eq.refl _).trans rfl
@[simp] theorem srcOf_b (ds : List D) : srcOf (.b ds) = some (.bw ds) := (Eq.refl _).trans rfl
@[simp] theorem srcOf_r (n : Nat) : srcOf (.v (.ref n)) = some (.ob n 0) := (Eq.refl _).trans rfl
@[simp] theorem srK_l (ds : List D) : srK (.v (.lst ds)) = some (.one (.fx ds)) := (Eq.refl _).trans rfl
@[simp] theorem srK_t (ds : List D) : srK (.v (.tup ds)) = some (.one (.fx ds)) := (Eq.refl _).trans rfl
@[simp] theorem srK_f (ds : List D) : srK (.f ds) = some (.one (.fx ds)) := (Eq.refl _).trans rfl
@[simp] theorem srK_b (ds : List D) : srK (.b ds) = some (.one (.bw ds)) := (Eq.refl _).trans rfl
@[simp] theorem okI1 (ds : List D) : okI (.one (.fx ds)) h = some (.one (.fx ds)) := (Eq.refl _).trans rfl
@[simp] theorem okI2 (ds : List D) : okI (.one (.bw ds)) h = some (.one (.bw ds)) := (Eq.refl _).trans rfl
@[simp] theorem okI3 (a b : List D) : okI (.zip (.fx a) (.fx b)) h = some (.zip (.fx a) (.fx b)) := (Eq.refl _).trans rfl
@[simp] theorem okI3' (a b : List D) : okI (.zip (.bw a) (.fx b)) h = some (.zip (.bw a) (.fx b)) := (Eq.refl _).trans rfl
@[simp] theorem okI3'' (a b : List D) : okI (.zip (.fx a) (.bw b)) h = some (.zip (.fx a) (.bw b)) := (Eq.refl _).trans rfl
@[simp] theorem okI4 (a : List D) : okI (.enum (.fx a)) h = some (.enum (.fx a)) := (Eq.refl _).trans rfl
@[simp] theorem okI5 (a : List D) : okI (.enum (.bw a)) h = some (.enum (.bw a)) := (Eq.refl _).trans rfl
@[simp] theorem rng1 {j : Int} (q : rgOk j = true) : rngK [.int j] = some (.one (.fx (upTo 0 j.toNat))) := by simp only [rngK, q, if_true]
@[simp] theorem rng2 {i j : Int} (q : rgOk i = true) (r : rgOk j = true) : rngK [.int i, .int j] = some (.one (.fx (upTo i (j - i).toNat))) := by simp only [rngK, q, r, Bool.and_self, if_true]
@[simp] theorem rng3 {i j : Int} (q : rgOk i = true) (r : rgOk j = true) : rngK [.int i, .int j, .int (-1)] = some (.one (.fx (downFrom i (i - j).toNat))) := by simp [rngK, q, r]
@[simp] theorem setsE0 (ss : List Slot) : setsE [] ss env = env := by unfold setsE; rfl
@[simp] theorem setsE1 (i : Nat) (is : List Nat) (s : Slot) (ss : List Slot) : setsE (i :: is) (s :: ss) env = setsE is ss (env.set i (some s)) := (Eq.refl _).trans rfl
@[simp] theorem slotsOf0 : slotsOf [] [] = some [] := (Eq.refl _).trans rfl
@[simp] theorem slotsOf1 (b : Bool) (bs : List Bool) (e : EV) (es : List EV) : slotsOf (b :: bs) (e :: es) = (slotOf b e).bind fun s => (slotsOf bs es).map (s :: ·) := (Eq.refl _).trans rfl
@[simp] theorem bindT_n (i : Nat) (d : D) : bindT (.name i) d env = some (env.set i (some (.val d))) := by simp [bindT]
@[simp] theorem bindT_t (ts : List Tg) (ds : List D) : bindT (.tup ts) (.tup ds) env = bindTs ts ds env := by simp [bindT]
@[simp] theorem bindT_w (ts : List Tg) (ds : List D) : bindT (.tup ts) (.wt ds) env = bindTs ts ds env := by simp [bindT]
@[simp] theorem bindTs_0 : bindTs [] [] env = some env := by simp [bindTs]
@[simp] theorem bindTs_1 (t : Tg) (ts : List Tg) (d : D) (ds : List D) : bindTs (t :: ts) (d :: ds) env = (bindT t d env).bind fun env' => bindTs ts ds env' := by simp [bindTs]
/-! loops over lists that stand still -/
def lcL (t : Tg) (turn : DTn) (env : Env') : List D → AH → List D → Res (List D)
  | [], h, acc => .ok acc h
  | d :: ds, h, acc => match bindT t d env with
    | some env' => (turn env' h acc).bind fun acc' h' => lcL t turn env ds h' acc'
    | none => .err
theorem lcLoop_fx (it : AH → Option (List D)) (t : Tg) (turn : DTn) (env : Env') : ∀ (ds es : List D), (∀ h, it h = some (es ++ ds)) → ∀ h acc, lcLoop it t turn env ds.length es.length h acc = lcL t turn env ds h acc
  | [], es, hi, h, acc => by simp [lcLoop, lcL, hi]
  | d :: ds, es, hi, h, acc => by
    have z := lcLoop_fx it t turn env ds (es ++ [d]) (fun h => by rw [hi, List.append_assoc]; rfl)
    rw [List.length_append] at z
    show lcLoop it t turn env (ds.length + 1) es.length h acc = _
    unfold lcLoop lcL
    rw [hi]
    simp only [List.getElem?_append_right (Nat.le_refl _), Nat.sub_self, List.getElem?_cons_zero]
    cases bindT t d env with
    | none => rfl
    | some env' =>
      simp only
      cases turn env' h acc with
      | ok a h' => exact z h' a
      | _ => rfl
def Sr.fx : Sr → Option (List D)
  | .one (.fx ds) => some ds
  | .one (.bw ds) => some ds
  | .zip (.fx a) (.fx b) => some (zipD a b)
  | .zip (.bw a) (.fx b) => some (zipD a b)
  | .zip (.fx a) (.bw b) => some (zipD a b)
  | .zip (.bw a) (.bw b) => some (zipD a b)
  | .enum (.fx a) => some (enumF 0 a)
  | .enum (.bw a) => some (enumF 0 a)
  | _ => none
theorem Sr.fx_ok : ∀ {sr : Sr} {ds : List D}, sr.fx = some ds → ∀ h, sr.items h = some ds
  | .one (.fx ds), _, e, h => e
  | .one (.bw ds), _, e, h => e
  | .zip (.fx a) (.fx b), _, e, h => e
  | .zip (.bw a) (.fx b), _, e, h => e
  | .zip (.fx a) (.bw b), _, e, h => e
  | .zip (.bw a) (.bw b), _, e, h => e
  | .enum (.fx a), _, e, h => e
  | .enum (.bw a), _, e, h => e
@[simp] theorem fx1 (ds : List D) : (Sr.one (.fx ds)).fx = some ds := (Eq.refl _).trans rfl
@[simp] theorem fx2 (ds : List D) : (Sr.one (.bw ds)).fx = some ds := (Eq.refl _).trans rfl
@[simp] theorem fx3 (a b : List D) : (Sr.zip (.fx a) (.fx b)).fx = some (zipD a b) := (Eq.refl _).trans rfl
@[simp] theorem fx4 (a b : List D) : (Sr.zip (.bw a) (.fx b)).fx = some (zipD a b) := (Eq.refl _).trans rfl
@[simp] theorem fx5 (a b : List D) : (Sr.zip (.fx a) (.bw b)).fx = some (zipD a b) := (Eq.refl _).trans rfl
@[simp] theorem fx6 (a b : List D) : (Sr.zip (.bw a) (.bw b)).fx = some (zipD a b) := (Eq.refl _).trans rfl
@[simp] theorem fx7 (a : List D) : (Sr.enum (.fx a)).fx = some (enumF 0 a) := (Eq.refl _).trans rfl
@[simp] theorem fx8 (a : List D) : (Sr.enum (.bw a)).fx = some (enumF 0 a) := (Eq.refl _).trans rfl
/-- a comprehension, its source known -/
theorem dE_lc {it : XI} {t : Tg} {ft : XT} {e : XE} {vs : List Nat} {sr : Sr} {ds : List D} {h1 : AH} (hi : denI T Φ it env h = .ok sr h1) (hf : sr.fx = some ds) :
    denE T Φ (.lc it t ft e vs) env h = (lcL t (turn1 (denT T Φ ft) (denE T Φ e)) (wipeE env vs) ds h1 []).bind fun acc h2 => .ok (.f acc) h2 := by
  show dLcT _ _ _ _ env h = _
  unfold dLcT
  rw [hi]
  simp only [bind_ok, Sr.fx_ok hf]
  exact congrArg (fun r => Res.bind r _) (lcLoop_fx (fun _ => some ds) t _ _ ds [] (fun h => rfl) h1 [])
theorem dE_lc2 {it it1 : XI} {t t1 : Tg} {ft ft1 : XT} {e : XE} {vs vs1 : List Nat} {sr : Sr} {ds : List D} {h1 : AH} (hi : denI T Φ it env h = .ok sr h1) (hf : sr.fx = some ds) :
    denE T Φ (.lc2 it t ft it1 t1 ft1 e vs vs1) env h = (lcL t (turn2 (denT T Φ ft) (denI T Φ it1) t1 (denT T Φ ft1) (denE T Φ e) vs1) (wipeE env vs) ds h1 []).bind fun acc h2 => .ok (.f acc) h2 := by
  show dLcT _ _ _ _ env h = _
  unfold dLcT
  rw [hi]
  simp only [bind_ok, Sr.fx_ok hf]
  exact congrArg (fun r => Res.bind r _) (lcLoop_fx (fun _ => some ds) t _ _ ds [] (fun h => rfl) h1 [])
/-- a comprehension without a heap's change -/
theorem lcL_map {α : Type} {t : Tg} {ft : DB} {fe : DE} {env : Env'} {h : AH} (f g : α → D) : ∀ (l : List α) (acc : List D), acc.length + l.length ≤ sizeLine →
    (∀ a ∈ l, ∃ env' ev, bindT t (f a) env = some env' ∧ ft env' h = .ok true h ∧ fe env' h = .ok ev h ∧ ev.toD = some (g a)) → lcL t (turn1 ft fe) env (l.map f) h acc = .ok (acc ++ l.map g) h
  | [], acc, _, _ => by simp [lcL]
  | a :: l, acc, hl, hs => by
    obtain ⟨env', ev, e1, e2, e3, e4⟩ := hs a List.mem_cons_self
    rw [List.length_cons] at hl
    have z := lcL_map f g l (acc ++ [g a]) (by rw [List.length_append]; simp; omega) fun b hb => hs b (List.mem_cons_of_mem _ hb)
    simp only [List.map_cons, lcL, e1, turn1, e2, e3, e4, if_pos (show acc.length < sizeLine by omega), bind_ok, z]
    simp
theorem dE_lcm {α : Type} {it : XI} {t : Tg} {ft : XT} {e : XE} {vs : List Nat} {sr : Sr} {h1 : AH} (f g : α → D) (l : List α) (hi : denI T Φ it env h = .ok sr h1) (hf : sr.fx = some (l.map f)) (hl : l.length ≤ sizeLine)
    (hs : ∀ a ∈ l, ∃ env' ev, bindT t (f a) (wipeE env vs) = some env' ∧ denT T Φ ft env' h1 = .ok true h1 ∧ denE T Φ e env' h1 = .ok ev h1 ∧ ev.toD = some (g a)) :
    denE T Φ (.lc it t ft e vs) env h = .ok (.f (l.map g)) h1 := by
  rw [dE_lc hi hf, lcL_map f g l [] (by simpa using hl) hs]
  simp
/-- two nested ones without a heap's change -/
theorem lcL_map2 {α β : Type} {t t1 : Tg} {ft ft1 : DB} {fi : DI} {fe : DE} {vs1 : List Nat} {env : Env'} {h : AH} (f : α → D) (sub : α → List β) (f1 g : β → D) : ∀ (l : List α) (acc : List D), acc.length + (l.flatMap sub).length ≤ sizeLine →
    (∀ a ∈ l, ∃ env' sr, bindT t (f a) env = some env' ∧ ft env' h = .ok true h ∧ fi env' h = .ok sr h ∧ sr.pin = true ∧ sr.fx = some ((sub a).map f1) ∧ ∀ b ∈ sub a, ∃ env2 ev, bindT t1 (f1 b) (wipeE env' vs1) = some env2 ∧ ft1 env2 h = .ok true h ∧ fe env2 h = .ok ev h ∧ ev.toD = some (g b)) →
    lcL t (turn2 ft fi t1 ft1 fe vs1) env (l.map f) h acc = .ok (acc ++ (l.flatMap sub).map g) h
  | [], acc, _, _ => by simp [lcL]
  | a :: l, acc, hl, hs => by
    obtain ⟨env', sr, e1, e2, e3, e4, e5, e6⟩ := hs a List.mem_cons_self
    rw [List.flatMap_cons, List.length_append] at hl
    have y := lcL_map (t := t1) (ft := ft1) (fe := fe) (env := wipeE env' vs1) (h := h) f1 g (sub a) acc (by omega) e6
    have z := lcL_map2 (t := t) (t1 := t1) (ft := ft) (ft1 := ft1) (fi := fi) (fe := fe) (vs1 := vs1) f sub f1 g l (acc ++ (sub a).map g) (by rw [List.length_append, List.length_map]; omega) fun b hb => hs b (List.mem_cons_of_mem _ hb)
    have w := lcLoop_fx (fun _ => some ((sub a).map f1)) t1 (turn1 ft1 fe) (wipeE env' vs1) ((sub a).map f1) [] (fun h => rfl) h acc
    simp only [List.length_nil] at w
    simp only [List.map_cons, lcL, e1, turn2, e2, e3, e4, if_true, Sr.fx_ok e5]
    rw [w, y]
    simp only [bind_ok, z]
    simp
theorem dE_lcm2 {α β : Type} {it it1 : XI} {t t1 : Tg} {ft ft1 : XT} {e : XE} {vs vs1 : List Nat} {sr : Sr} {h1 : AH} (f : α → D) (sub : α → List β) (f1 g : β → D) (l : List α) (hi : denI T Φ it env h = .ok sr h1) (hf : sr.fx = some (l.map f)) (hl : (l.flatMap sub).length ≤ sizeLine)
    (hs : ∀ a ∈ l, ∃ env' sr, bindT t (f a) (wipeE env vs) = some env' ∧ denT T Φ ft env' h1 = .ok true h1 ∧ denI T Φ it1 env' h1 = .ok sr h1 ∧ sr.pin = true ∧ sr.fx = some ((sub a).map f1) ∧ ∀ b ∈ sub a, ∃ env2 ev, bindT t1 (f1 b) (wipeE env' vs1) = some env2 ∧ denT T Φ ft1 env2 h1 = .ok true h1 ∧ denE T Φ e env2 h1 = .ok ev h1 ∧ ev.toD = some (g b)) :
    denE T Φ (.lc2 it t ft it1 t1 ft1 e vs vs1) env h = .ok (.f ((l.flatMap sub).map g)) h1 := by
  rw [dE_lc2 hi hf, lcL_map2 f sub f1 g l [] (by simpa using hl) hs]
  simp
/-- for, its source known -/
theorem dS_for {it : XI} {t : Tg} {b : XB} {sr : Sr} {ds : List D} {h1 : AH} (hi : denI T Φ it env h = .ok sr h1) (hp : sr.pin = true) (hf : sr.fx = some ds) :
    denS T Φ (.forr t it b) env h = loopL t (denB T Φ b) ds env h1 := by
  show dFor _ _ _ env h = _
  unfold dFor
  rw [hi]
  simp only [exS_ok, hp, if_true, Sr.fx_ok hf]
  exact loopN_fx t (denB T Φ b) (fun _ => some ds) ds [] (fun h => rfl) env h1
theorem loopL_cons {t : Tg} {body : DS} {d : D} {ds : List D} {env' : Env'} (hb : bindT t d env = some env') : loopL t body (d :: ds) env h = seqR (body env' h) (loopL t body ds) := by
  show (match bindT t d env with | some env' => dSeq body (loopL t body ds) env' h | none => .err) = _
  rw [hb]
  show dSeq body (loopL t body ds) env' h = _
  unfold dSeq seqR
  cases body env' h <;> rfl
@[simp] theorem loopL_nil {t : Tg} {body : DS} : loopL t body [] env h = .nx env h := (Eq.refl _).trans rfl
/-- a loop that never leaves early, by an invariant -/
theorem loopL_inv {α : Type} {t : Tg} {body : DS} (f : α → D) (I : List α → Env' → AH → Prop) : ∀ (l : List α) (env : Env') (h : AH), I l env h →
    (∀ a l env h, I (a :: l) env h → ∃ env' env'' h', bindT t (f a) env = some env' ∧ body env' h = .nx env'' h' ∧ I l env'' h') → ∃ env' h', loopL t body (l.map f) env h = .nx env' h' ∧ I [] env' h'
  | [], env, h, i, _ => ⟨env, h, rfl, i⟩
  | a :: l, env, h, i, hs => by
    obtain ⟨env', env'', h', e1, e2, e3⟩ := hs a l env h i
    obtain ⟨env2, h2, z1, z2⟩ := loopL_inv f I l env'' h' e3 hs
    exact ⟨env2, h2, by rw [List.map_cons, loopL_cons e1, e2, seqR_nx, z1], z2⟩
/-- while -/
@[simp] theorem dS_whl (t : XT) (b : XB) : denS T Φ (.whl t b) env h = whN (denT T Φ t) (denB T Φ b) Φ.fuel env h := (Eq.refl _).trans rfl
theorem whN_true {c : DB} {b : DS} {n : Nat} {h1 h' : AH} {env' : Env'} (hc : c env h = .ok true h1) (hb : b env h1 = .nx env' h') : whN c b (n + 1) env h = whN c b n env' h' := by
  show exS _ _ _ = _
  rw [hc, exS_ok, if_pos rfl]
  show dSeq _ _ _ _ = _
  unfold dSeq
  rw [hb]
theorem whN_false {c : DB} {b : DS} {n : Nat} {h1 : AH} (hc : c env h = .ok false h1) : whN c b (n + 1) env h = .nx env h1 := by
  show exS _ _ _ = _
  rw [hc, exS_ok]
  rfl
end
/-! calls -/
section
variable {T : Tab} {fs : Nat → Option XFn} {fuel : Nat}
theorem runF_at {f : Nat} {F : XFn} (hf : fs f = some F) (d : Nat) (ds : List D) (h : AH) : runF T fs fuel (d + 1) f ds h = endF h.length (denB (T.at F) ⟨fuel, runF T fs fuel d, runF T fs fuel (d - 1)⟩ F.x (env0 F ds) h) := by
  rw [runF_succ, hf]
@[simp] theorem endF_ret (n : Nat) (d : D) (h : AH) : endF n (.ret d h) = .ok d (trim n d h) := (Eq.refl _).trans rfl
@[simp] theorem endF_nx (n : Nat) (e : Env') (h : AH) : endF n (.nx e h) = .ok .non (trim n .non h) := (Eq.refl _).trans rfl
@[simp] theorem endF_exc (n c : Nat) (e : Env') (h : AH) : endF n (.exc c e h) = .exc c (trim n .non h) := (Eq.refl _).trans rfl
@[simp] theorem trim_self (d : D) (h : AH) : trim h.length d h = h := by simp [trim]
theorem trim_len {n : Nat} {d : D} {h : AH} (e : h.length = n) : trim n d h = h := by simp [trim, e]
end
end J

/-! the head: what the top leaves, as one look at a fragment of literal addresses -/
namespace J
open PySem PySem.Spec PyProof.Rows L2
/-- what the head says of one program; all addresses are numbers -/
structure HD where
  as : List Addr
  fn : List (Addr × He.DefD)
  glo : List (Str × Addr)
  free : List Str
  exc : List Addr
  joint : Addr
  cls : List (Addr × List Str × List (Str × Addr) × Addr)
def excCB (K : PySem.W.Frag) (a : Addr) : Bool :=
  He.eqO (PySem.W.findIn K (.ref a) "__getattribute__") (some (some (.builtin "BaseException.__getattribute__"))) && (He.eqO (PySem.W.findIn K (.ref a) "__getattr__") (some none) && (decide (PySem.W.subIn K (.ref a) (.type "BaseException") = some true) && (PySem.W.hasDictIn K a &&
    (He.eqO (PySem.W.findIn K (.ref a) "__class__") (some (some (.builtin "object.__class__"))) && (He.eqO (PySem.W.specialIn K (.builtin "object.__class__") "__get__") (some (some (.builtin "getset_descriptor.__get__"))) && (decide (PySem.W.takesIn K (.builtin "object.__class__") = some true) && decide (PySem.W.mroIn K a (.type "object") = some true)))))))
theorem excCB_ok {K : PySem.W.Frag} {a : Addr} (h : excCB K a = true) : ExcC K a := by
  unfold excCB at h
  obtain ⟨h1, h⟩ := ba2 h
  obtain ⟨h2, h⟩ := ba2 h
  obtain ⟨h3, h⟩ := ba2 h
  obtain ⟨h4, h⟩ := ba2 h
  obtain ⟨h5, h⟩ := ba2 h
  obtain ⟨h6, h⟩ := ba2 h
  obtain ⟨h7, h8⟩ := ba2 h
  exact ⟨He.eqO_ok h1, He.eqO_ok h2, of_decide_eq_true h3, h4, He.eqO_ok h5, He.eqO_ok h6, of_decide_eq_true h7, of_decide_eq_true h8⟩
def fnB (K : PySem.W.Frag) (p : Addr × He.DefD) : Bool := PySem.W.keepIn K (.ref p.1) && (match K.lookup p.1 with
  | some ⟨_, _, .func fd, _⟩ => PySem.W.codeIn K fd.code p.2.qual && (He.dflB K fd.defaults [] && He.kwdB K fd.kwdefaults [])
  | _ => false)
def fnV (K : PySem.W.Frag) (a : Addr) : He.FnW := match K.lookup a with
  | some ⟨_, _, .func fd, _⟩ => some (fd.name, fd.qualname, fd.params, fd.body, fd.scope, fd.globals, fd.closure, fd.builtins)
  | _ => none
def noList (K : PySem.W.Frag) : Bool := K.all fun p => !(p.2.cls == .type "list")
/-- the plain facts -/
def okK (d : HD) (K : PySem.W.Frag) : Bool :=
  d.glo.all (fun p => He.eqO (PySem.W.nsIn K mainGlobals p.1) (some (some (.ref p.2)))) && (d.free.all (fun x => He.eqO (PySem.W.nsIn K mainGlobals x) (some none)) && (noList K &&
  (d.exc.all (fun a => PySem.W.excIn K a He.veBase "ValueError.__new__" && (PySem.W.keepIn K (.ref a) && (decide (PySem.W.subIn K (.ref a) (.type "BaseException") = some true) && decide (PySem.W.typeIn K (.ref a) = some (.type "type"))))) &&
  (d.exc.all (fun a => excCB K a) && (d.exc.all (fun a => decide (PySem.W.exmOne K (.ref a) (.ref d.joint) = some true)) && (d.exc.all (fun a => decide (PySem.W.kitOne K (.ref a) (.type "ValueError") = some true)) &&
  (d.exc.all (fun a => d.exc.all fun b => decide (PySem.W.kitOne K (.ref a) (.ref b) = some (b == a || b == d.joint))) &&
  (d.cls.all (fun c => PySem.W.plainGet K c.1 Str.empty && (PySem.W.hasDictIn K c.1 && (PySem.W.plainOver K c.1 && (He.eqO (PySem.W.findIn K (.ref c.1) "__setattr__") (some (some (.builtin "object.__setattr__"))) &&
    (c.2.1.all (fun f => He.eqO (PySem.W.findIn K (.ref c.1) f) (some none)) && (c.2.2.1.all (fun m => He.eqO (PySem.W.findIn K (.ref c.1) m.1) (some (some (.ref m.2))) && (PySem.W.isFn K (.ref m.2) && PySem.W.keepIn K (.ref m.2))) &&
    (PySem.W.makesIn K c.1 && (He.eqO (PySem.W.findIn K (.ref c.1) "__init__") (some (some (.ref c.2.2.2))) && (PySem.W.isFn K (.ref c.2.2.2) && PySem.W.keepIn K (.ref c.1)))))))))) &&
  d.fn.all (fnB K)))))))))
abbrev AlJ : Type := Bool × List He.FnW
def obJ (d : HD) (g : Addr → Option Obj) : AlJ := (okK d (He.frG g d.as), d.fn.map fun p => fnV (He.frG g d.as) p.1)
def vaJ (d : HD) : AlJ := (true, d.fn.map fun p => p.2.val)
def SaysJ (d : HD) (K : PySem.W.Frag) : Prop := okK d K = true ∧ d.fn.map (fun p => fnV K p.1) = d.fn.map fun p => p.2.val
def hookJ (d : HD) : PySem.W.Hook where
  α := AlJ
  obs := fun s => obJ d s.heap.get?
  val := fun _ => vaJ d
  says := fun _ h => ∃ K : PySem.W.Frag, K.In h ∧ SaysJ d K
  of := fun _ _ e => ⟨_, He.frG_in, congrArg (fun z : AlJ => z.1) e, congrArg (fun z : AlJ => z.2) e⟩
  keeps := fun _ _ _ ⟨K, hK, c⟩ k => ⟨K, PySem.W.Frag.In.keeps hK k, c⟩
end J

/-! from the head's facts to Prog -/
namespace J
open PySem PySem.Spec PyProof.Rows L2
theorem funD_of {K : PySem.W.Frag} {a : Addr} {d : He.DefD} (e : fnV K a = d.val) (c : fnB K (a, d) = true) : ∃ fd, FunD K d.name d.qual d.params d.body d.scope [] [] a fd := by
  obtain ⟨kp, c2⟩ := ba2 c
  unfold fnV at e
  cases q : K.lookup a with
  | none => simp only [q] at c2; cases c2
  | some o =>
    obtain ⟨oc, od, dt, osl⟩ := o
    simp only [q] at c2 e
    cases dt with
    | func fd =>
      simp only at c2 e
      obtain ⟨c3, c4⟩ := ba2 c2
      obtain ⟨c4, c5⟩ := ba2 c4
      obtain ⟨n1, n2, n3, n4, n5, n6, n7, n8, n9, n10, n11, n12, n13, n14, n15⟩ := fd
      have e2 := e
      unfold He.DefD.val at e2
      simp only [Option.some.injEq, Prod.mk.injEq] at e2
      obtain ⟨h1, h2, h3, h4, h5, h6, h7, h8⟩ := e2
      subst h1 h2 h3 h4 h5 h6 h7 h8
      exact ⟨_, ⟨oc, od, _, _, _, _, _, _, _, osl, rfl, q, c3, He.dflB_ok c4, He.kwdB_ok c5⟩, kp⟩
    | _ => cases c2
/-- a law's tables -/
structure LD where
  hd : HD
  fnT : List (Str × Nat)
  arT : List (Option Nat)
  fs : List (Option XFn)
  clT : List (Str × Nat)
  exT : List (Str × Nat)
  fdT : List (Str × List Nat)
  meT : List (Nat × List (Str × Nat))
  mkT : List (Nat × Nat)
  cad : List Addr
def LD.fadr (l : LD) (f : Nat) : Addr := match l.hd.fn[f]? with
  | some p => p.1
  | none => 0
def LD.cadr (l : LD) (c : Nat) : Addr := (l.cad[c]?).getD 0
def LD.sta (l : LD) (K : PySem.W.Frag) : Sta := ⟨K, l.fadr, l.cadr⟩
def LD.nx (l : LD) : Nat := l.hd.exc.length
/-- the first exc.length classes are the exceptions, the first of all is JointError -/
def LD.tab (l : LD) : Tab where
  N := []
  fns := fun x => l.fnT.lookup x
  ar := fun k => (l.arT[k]?).getD none
  cls := fun x => l.clT.lookup x
  free := fun x => l.hd.free.contains x
  isE := fun x c => if c < l.nx then (if x = "ValueError" then some true else match l.exT.lookup x with
    | some d => some (l.cadr d == l.cadr c || l.cadr d == l.hd.joint)
    | none => none) else none
  exm := fun x c => if x = "JointError" then (if c < l.nx then some true else none) else none
  fldOk := fun f c => match l.fdT.lookup f with
    | some cs => cs.contains c
    | none => false
  meth := fun c m => match l.meT.lookup c with
    | some ms => ms.lookup m
    | none => none
  mkr := fun c => l.mkT.lookup c
  isEn := fun x => decide (x = "ValueError") || (l.exT.lookup x).isSome
  exn := fun x => decide (x = "JointError")
  exc := fun x => l.exT.lookup x
theorem lookup_mem {α β : Type} [BEq α] [LawfulBEq α] {x : α} {v : β} : ∀ {l : List (α × β)}, l.lookup x = some v → (x, v) ∈ l
  | [], h => by simp at h
  | (y, u) :: l, h => by
    rw [List.lookup_cons] at h
    cases hb : x == y with
    | true =>
      rw [hb] at h
      simp only at h
      cases h
      rw [eq_of_beq hb]
      exact List.mem_cons_self
    | false =>
      rw [hb] at h
      exact List.mem_cons_of_mem _ (lookup_mem h)
def LD.fit (l : LD) : Bool :=
  l.fnT.all (fun p => l.hd.glo.contains (p.1, l.fadr p.2)) && (l.clT.all (fun p => l.hd.glo.contains (p.1, l.cadr p.2)) && (l.exT.all (fun p => l.hd.glo.contains (p.1, l.cadr p.2) && l.hd.exc.contains (l.cadr p.2)) &&
  ((List.range l.nx).all (fun c => l.hd.exc.contains (l.cadr c)) && (l.hd.glo.contains ("JointError", l.hd.joint) && (l.hd.free.contains "ValueError" &&
  (l.fdT.all (fun p => p.2.all fun c => l.hd.cls.any fun k => k.1 == l.cadr c && k.2.1.contains p.1) &&
  (l.meT.all (fun p => p.2.all fun m => l.hd.cls.any fun k => k.1 == l.cadr p.1 && k.2.2.1.contains (m.1, l.fadr m.2)) &&
  l.mkT.all (fun p => l.hd.cls.any fun k => k.1 == l.cadr p.1 && k.2.2.2 == l.fadr p.2))))))))
structure OkK (d : HD) (K : PySem.W.Frag) : Prop where
  glo : ∀ p ∈ d.glo, PySem.W.nsIn K mainGlobals p.1 = some (some (.ref p.2))
  free : ∀ x ∈ d.free, PySem.W.nsIn K mainGlobals x = some none
  nol : noList K = true
  exc : ∀ a ∈ d.exc, PySem.W.excIn K a He.veBase "ValueError.__new__" = true ∧ PySem.W.keepIn K (.ref a) = true ∧ PySem.W.subIn K (.ref a) (.type "BaseException") = some true ∧ PySem.W.typeIn K (.ref a) = some (.type "type")
  excC : ∀ a ∈ d.exc, ExcC K a
  exm : ∀ a ∈ d.exc, PySem.W.exmOne K (.ref a) (.ref d.joint) = some true
  kitV : ∀ a ∈ d.exc, PySem.W.kitOne K (.ref a) (.type "ValueError") = some true
  kit : ∀ a ∈ d.exc, ∀ b ∈ d.exc, PySem.W.kitOne K (.ref a) (.ref b) = some (b == a || b == d.joint)
  cls : ∀ c ∈ d.cls, Cls K c.1 ∧ (∀ f ∈ c.2.1, NoAttr K c.1 f) ∧ (∀ m ∈ c.2.2.1, Meth K c.1 m.1 m.2) ∧ Mk K c.1 c.2.2.2
  fn : ∀ p ∈ d.fn, fnB K p = true
theorem okK_ok {d : HD} {K : PySem.W.Frag} (h : okK d K = true) : OkK d K := by
  unfold okK at h
  obtain ⟨h1, h⟩ := ba2 h
  obtain ⟨h2, h⟩ := ba2 h
  obtain ⟨h3, h⟩ := ba2 h
  obtain ⟨h4, h⟩ := ba2 h
  obtain ⟨h5, h⟩ := ba2 h
  obtain ⟨h6, h⟩ := ba2 h
  obtain ⟨h7, h⟩ := ba2 h
  obtain ⟨h8, h⟩ := ba2 h
  obtain ⟨h9, h10⟩ := ba2 h
  refine ⟨fun p hp => He.eqO_ok (List.all_eq_true.mp h1 p hp), fun x hx => He.eqO_ok (List.all_eq_true.mp h2 x hx), h3, fun a ha => ?_, fun a ha => excCB_ok (List.all_eq_true.mp h5 a ha), fun a ha => of_decide_eq_true (List.all_eq_true.mp h6 a ha), fun a ha => of_decide_eq_true (List.all_eq_true.mp h7 a ha),
    fun a ha b hb => of_decide_eq_true (List.all_eq_true.mp (List.all_eq_true.mp h8 a ha) b hb), fun c hc => ?_, fun p hp => List.all_eq_true.mp h10 p hp⟩
  · have z := List.all_eq_true.mp h4 a ha
    obtain ⟨z1, z⟩ := ba2 z
    obtain ⟨z2, z⟩ := ba2 z
    obtain ⟨z3, z4⟩ := ba2 z
    exact ⟨z1, z2, of_decide_eq_true z3, of_decide_eq_true z4⟩
  · have z := List.all_eq_true.mp h9 c hc
    obtain ⟨z1, z⟩ := ba2 z
    obtain ⟨z2, z⟩ := ba2 z
    obtain ⟨z3, z⟩ := ba2 z
    obtain ⟨z4, z⟩ := ba2 z
    obtain ⟨z5, z⟩ := ba2 z
    obtain ⟨z6, z⟩ := ba2 z
    obtain ⟨z7, z⟩ := ba2 z
    obtain ⟨z8, z⟩ := ba2 z
    obtain ⟨z9, z10⟩ := ba2 z
    refine ⟨⟨z1, z2, z3, He.eqO_ok z4⟩, fun f hf => He.eqO_ok (List.all_eq_true.mp z5 f hf), fun m hm => ?_, ⟨z7, He.eqO_ok z8, z9, z10⟩⟩
    have w := List.all_eq_true.mp z6 m hm
    obtain ⟨w1, w⟩ := ba2 w
    obtain ⟨w2, w3⟩ := ba2 w
    exact ⟨He.eqO_ok w1, w2, w3⟩
theorem any_cls {d : HD} {K : PySem.W.Frag} (o : OkK d K) {a : Addr} {p : (Addr × List Str × List (Str × Addr) × Addr) → Bool} (h : (d.cls.any fun k => k.1 == a && p k) = true) : ∃ k ∈ d.cls, k.1 = a ∧ p k = true := by
  obtain ⟨k, hk, z⟩ := List.any_eq_true.mp h
  obtain ⟨z1, z2⟩ := ba2 z
  exact ⟨k, hk, by simpa using z1, z2⟩
theorem prog_of {l : LD} {K : PySem.W.Frag} {h : Heap} {mg : Str → Option Value} (X : K.In h) (G : h.Ns mainGlobals mg) (c : SaysJ l.hd K) (ft : l.fit = true)
    (hfn : ∀ f n, l.tab.ar f = some n → ∃ F p, (l.fs[f]?).getD none = some F ∧ l.hd.fn[f]? = some p ∧ F.ps.length = n ∧ p.2.body = F.body ∧ p.2.scope = F.sc ∧ FnScope F.N F.ps F.sc ∧ (∀ (kV doc pm : Value) (an : Option Addr) (cdv ct : Value) (us : List Value), us.length = F.ps.length → bindArgs (PySem.W.fnOf p.2.name p.2.qual p.2.params p.2.body p.2.scope .none kV doc pm an cdv ct) ⟨us, []⟩ = pure (F.ps.zip us)) ∧ cB (l.tab.at F) 400 F.sc F.x F.body = true) :
    Prog l.tab (fun k => (l.fs[k]?).getD none) (l.sta K) mg := by
  have o := okK_ok c.1
  unfold LD.fit at ft
  obtain ⟨t1, ft⟩ := ba2 ft
  obtain ⟨t2, ft⟩ := ba2 ft
  obtain ⟨t3, ft⟩ := ba2 ft
  obtain ⟨t4, ft⟩ := ba2 ft
  obtain ⟨t5, ft⟩ := ba2 ft
  obtain ⟨t6, ft⟩ := ba2 ft
  obtain ⟨t7, ft⟩ := ba2 ft
  obtain ⟨t8, t9⟩ := ba2 ft
  have glo : ∀ x a, l.hd.glo.contains (x, a) = true → mg x = some (.ref a) := fun x a z => PySem.W.mg_of X G (o.glo (x, a) (by simpa using z))
  have free : ∀ x, l.hd.free.contains x = true → mg x = none := fun x z => PySem.W.mg_none_of X G (o.free x (by simpa using z))
  have excIx : ∀ c, c < l.nx → l.cadr c ∈ l.hd.exc := fun c z => by
    have := List.all_eq_true.mp t4 c (List.mem_range.mpr z)
    simpa using this
  have exT : ∀ x c, l.exT.lookup x = some c → mg x = some (.ref (l.cadr c)) ∧ l.cadr c ∈ l.hd.exc := fun x c z => by
    obtain ⟨z1, z2⟩ := ba2 (List.all_eq_true.mp t3 (x, c) (lookup_mem z))
    exact ⟨glo x _ z1, by simpa using z2⟩
  refine ⟨fun x z => free x z, fun x f z => glo x _ (List.all_eq_true.mp t1 (x, f) (lookup_mem z)), fun x f z => glo x _ (List.all_eq_true.mp t2 (x, f) (lookup_mem z)), fun Y hK hmg => ?_, fun f n hn => ?_⟩
  · have hK : Y.K = K := hK
    refine ⟨fun x hx => ?_, fun x hx => ?_, fun f c hc => ?_, fun c m f hc => ?_, fun c f hc => ?_, fun x c hc => ?_⟩
    · have hx : (decide (x = "ValueError") || (l.exT.lookup x).isSome) = true := hx
      by_cases hv : x = "ValueError"
      · subst hv
        refine ⟨.ty "ValueError", .type "ValueError", .inr ⟨by rw [hmg]; exact free _ t6, by decide +kernel⟩, rfl, fun u r => r, fun c b hb => ?_⟩
        have hb : (if c < l.nx then (if ("ValueError" : Str) = "ValueError" then some true else match l.exT.lookup ("ValueError" : Str) with
          | some d => some (l.cadr d == l.cadr c || l.cadr d == l.hd.joint)
          | none => none) else none) = some b := hb
        split at hb
        · rename_i hc
          first | rw [if_pos rfl] at hb | skip
          cases hb
          rw [hK]
          exact ⟨o.excC _ (excIx c hc), o.kitV _ (excIx c hc)⟩
        · cases hb
      · rw [decide_eq_false hv, Bool.false_or] at hx
        obtain ⟨d, hd⟩ := Option.isSome_iff_exists.mp hx
        obtain ⟨e1, e2⟩ := exT x d hd
        refine ⟨.ref (l.cadr d), .ref (l.cadr d), .inl (by rw [hmg]; exact e1), rfl, fun u r => r, fun c b hb => ?_⟩
        have hb : (if c < l.nx then (if x = "ValueError" then some true else match l.exT.lookup x with
          | some d => some (l.cadr d == l.cadr c || l.cadr d == l.hd.joint)
          | none => none) else none) = some b := hb
        split at hb
        · rename_i hc
          first | rw [if_neg hv, hd] at hb | rw [hd] at hb
          cases hb
          rw [hK]
          exact ⟨o.excC _ (excIx c hc), o.kit _ (excIx c hc) _ e2⟩
        · cases hb
    · have hx : x = "JointError" := of_decide_eq_true hx
      subst hx
      refine ⟨.ref l.hd.joint, .inl (by rw [hmg]; exact glo _ _ t5), fun c b hb => ?_⟩
      have hb : (if ("JointError" : Str) = "JointError" then (if c < l.nx then some true else none) else none) = some b := hb
      rw [if_pos rfl] at hb
      split at hb
      · rename_i hc
        cases hb
        rw [hK]
        exact o.exm _ (excIx c hc)
      · cases hb
    · have hc : (match l.fdT.lookup f with | some cs => cs.contains c | none => false) = true := hc
      split at hc
      · rename_i cs e
        have z := List.all_eq_true.mp (List.all_eq_true.mp t7 (f, cs) (lookup_mem e)) c (by simpa using hc)
        obtain ⟨k, hk, e1, e2⟩ := any_cls o z
        obtain ⟨w1, w2, _⟩ := o.cls k hk
        rw [hK]
        show Cls K (l.cadr c) ∧ NoAttr K (l.cadr c) f
        rw [← e1]
        exact ⟨w1, w2 f (by simpa using e2)⟩
      · cases hc
    · have hc : (match l.meT.lookup c with | some ms => ms.lookup m | none => none) = some f := hc
      split at hc
      · rename_i ms e
        have z := List.all_eq_true.mp (List.all_eq_true.mp t8 (c, ms) (lookup_mem e)) (m, f) (lookup_mem hc)
        obtain ⟨k, hk, e1, e2⟩ := any_cls o z
        obtain ⟨w1, _, w3, _⟩ := o.cls k hk
        rw [hK]
        show Cls K (l.cadr c) ∧ Meth K (l.cadr c) m (l.fadr f)
        rw [← e1]
        exact ⟨w1, w3 (m, l.fadr f) (by simpa using e2)⟩
      · cases hc
    · have z := List.all_eq_true.mp t9 (c, f) (lookup_mem (show l.mkT.lookup c = some f from hc))
      obtain ⟨k, hk, e1, e2⟩ := any_cls o z
      obtain ⟨_, _, _, w4⟩ := o.cls k hk
      rw [hK]
      show Mk K (l.cadr c) (l.fadr f)
      have e2 : k.2.2.2 = l.fadr f := by simpa using e2
      rw [← e1, ← e2]
      exact w4
    · obtain ⟨e1, e2⟩ := exT x c hc
      obtain ⟨w1, w2, w3, w4⟩ := o.exc _ e2
      refine ⟨by rw [hmg]; exact e1, by rw [hK]; exact w2, raises_own (by rw [hK]; exact w3) (by rw [hK]; exact w4), "ValueError", "ValueError.__new__", "ValueError.__init__", He.veBase, ⟨⟨PySem.F.excBase_ValueError⟩⟩, by rw [hK]; exact w1⟩
  · obtain ⟨F, p, e1, e2, e3, e4, e5, e6, e7, e8⟩ := hfn f n hn
    have ev : fnV K p.1 = p.2.val := by
      have z := congrArg (fun l => l[f]?) c.2
      simp only [List.getElem?_map, e2] at z
      exact Option.some.inj z
    obtain ⟨fd, FD⟩ := funD_of ev (o.fn p (List.mem_of_getElem? e2))
    have hb : Binds K fd F.ps [] := FD.bindsN e7
    have ea : l.fadr f = p.1 := by unfold LD.fadr; rw [e2]
    refine ⟨F, p.2.name, p.2.qual, p.2.params, fd, e1, e3, ?_, e6, ⟨hb, fun s us hl => FD.bindsA e7 s us hl⟩, e8⟩
    show FunD K _ _ _ _ _ [] [] (l.fadr f) fd
    rw [ea, ← e4, ← e5]
    exact FD
end J

/-! the law's end -/
namespace J
open PySem PySem.Spec PyProof.Rows L2
theorem noList_ok {K : PySem.W.Frag} (h : noList K = true) {a : Addr} {o : Obj} (e : K.lookup a = some o) (c : o.cls = .type "list") : False := by
  have z := List.all_eq_true.mp h (a, o) (lookup_mem e)
  simp [c] at z
def spLaw (K : PySem.W.Frag) : Sp := fun vs H Q _ => ∃ (a : Addr) (ns : List Int), vs = [.ref a] ∧ ns.length ≤ 63 ∧ Only H ∧ SqL K H a (ns.map V.int) ∧ ∀ H', Q (.bl true) H'
theorem law_fn {P : Program} {w : World} {S : Sta} {mg : Str → Option Value} {base : Heap} {k : Nat} {f : Addr} {fd : FuncData} {x : Str} {φ : List D → AH → Res D}
    (F : FnOk P w S.K mg base (L2.CX P w) k f fd [x] (spF S 1 φ)) (nol : noList S.K = true) (hφ : ∀ ns : List Int, ns.length ≤ 63 → ∃ h', φ [.scr ns] [] = .ok (.bl true) h') : FnOk P w S.K mg base (L2.CX P w) k f fd [x] (spLaw S.K) := by
  refine ⟨fun vs H Q E h => ?_, fun A outer s H args us vs Q E hr he hb hv hs => F.run A outer s H args us vs Q E hr he hb hv ?_⟩
  · obtain ⟨a, ns, rfl, _⟩ := h
    rfl
  · obtain ⟨a, ns, rfl, hl, ho, hS, hQ⟩ := hs
    obtain ⟨h', e⟩ := hφ ns hl
    have hG : ∃ o, H a = some (.frz o (.lst (ns.map V.int))) := by
      rcases hS with (z | ⟨o, z⟩) | ⟨o, its, n, z1, z2, _⟩
      · rcases ho a with y | ⟨o, xs, y⟩
        · rw [y] at z; cases z
        · rw [y] at z; cases z
      · exact ⟨o, z⟩
      · exact (noList_ok nol z1 z2).elim
    obtain ⟨o, hG⟩ := hG
    refine ⟨⟨H, fun _ => none, []⟩, [.scr ns], [], ⟨fun b u hb => ?_, fun b u hb => hb, fun b p z => (by cases z), rfl, (fun b c p z => (by cases z)), (fun b n j z => (by cases z)), fun n o a z => (by simp at z)⟩, .cons (.scr hG) .nil, rfl, ?_⟩
    · rcases ho b with y | ⟨o, xs, y⟩
      · rw [y] at hb; cases hb
      · rw [y] at hb; cases hb
        have := he.hok b _ y
        exact this.2.1
    · rw [e]
      intro v g' H' _ _ r
      cases r
      exact hQ H'
def CXe (P : Program) : CXT := fun outer H s E u s' => ∃ w, L2.CX P w outer H s E u s'
theorem cx_false {P : Program} (H : Hp) (s : Shared) (e : Value) (s' : Shared) (h : CXe P [] H s (fun _ _ _ => False) e s') : False := by
  obtain ⟨w, _, _, _, _, _, _, _, _, _, _, _, _, z⟩ := h
  exact z
theorem fn_cxe {P : Program} {w : World} {K : PySem.W.Frag} {mg : Str → Option Value} {base : Heap} {k : Nat} {f : Addr} {fd : FuncData} {ps : List Str} {sp : Sp} (F : FnOk P w K mg base (L2.CX P w) k f fd ps sp) : FnOk P w K mg base (CXe P) k f fd ps sp :=
  ⟨F.len, fun A outer s H args us vs Q E hr he hb hv hs => codeAny_mono (F.run A outer s H args us vs Q E hr he hb hv hs) fun r s' hq => by
    match r, hq with
    | .ok (.ret u), hq => exact hq
    | .error e, hq => exact ⟨w, hq⟩⟩
/-- all that the head must hand on: from the facts to the law's promise -/
theorem law_of {l : LD} {P : Program} {w : World} {K : PySem.W.Frag} {h : Heap} {mg : Str → Option Value} {fa : Addr} {F : XFn} {x : Str} {k fuel D : Nat} (X : K.In h) (G : h.Ns mainGlobals mg) (hmg : mg "law" = some (.ref fa)) (c : SaysJ l.hd K) (ft : l.fit = true)
    (hfn : ∀ f n, l.tab.ar f = some n → ∃ F p, (l.fs[f]?).getD none = some F ∧ l.hd.fn[f]? = some p ∧ F.ps.length = n ∧ p.2.body = F.body ∧ p.2.scope = F.sc ∧ FnScope F.N F.ps F.sc ∧ (∀ (kV doc pm : Value) (an : Option Addr) (cdv ct : Value) (us : List Value), us.length = F.ps.length → bindArgs (PySem.W.fnOf p.2.name p.2.qual p.2.params p.2.body p.2.scope .none kV doc pm an cdv ct) ⟨us, []⟩ = pure (F.ps.zip us)) ∧ cB (l.tab.at F) 400 F.sc F.x F.body = true)
    (hk : l.tab.fns "law" = some k) (hk1 : l.tab.ar k = some 1) (hk2 : (l.fs[k]?).getD none = some F) (hx : F.ps = [x])
    (run : ∀ ns : List Int, ns.length ≤ 63 → ∃ h', runF l.tab (fun k => (l.fs[k]?).getD none) fuel D k [.scr ns] [] = .ok (.bl true) h') :
    ∃ fd : FuncData, (∀ (s : Shared) (u : Value), BindsTo s fd ⟨[u], []⟩ [(x, u)]) ∧ ∀ base : Heap, FnOk P w K mg base (CXe P) (D + 1) fa fd [x] (spLaw K) := by
  have hp := prog_of X G c ft hfn
  obtain ⟨F', fd, z0, z1, z2, z3, z4, z5⟩ := fn_all (P := P) (w := w) (fuel := fuel) hp D k 1 hk1
  have z0 : (l.fs[k]?).getD none = some F' := z0
  rw [hk2] at z0
  cases z0
  rw [hx] at z2 z5
  have e := hmg.symm.trans (hp.gl _ _ hk)
  have e : fa = (l.sta K).fadr k := by injection e with e; injection e
  subst e
  exact ⟨fd, fun s u => z5 s [u] rfl, fun base => fn_cxe (law_fn (S := l.sta K) (z2 base) (okK_ok c.1).nol run)⟩
end J

/-! fractions: sizes -/
namespace J
def Sz (n : Nat) (q : Rat) : Prop := q.num.natAbs < 2 ^ n ∧ q.den < 2 ^ n
theorem Sz.mono {m n : Nat} {q : Rat} (h : Sz m q) (l : m ≤ n) : Sz n q := ⟨Nat.lt_of_lt_of_le h.1 (Nat.pow_le_pow_right (by decide) l), Nat.lt_of_lt_of_le h.2 (Nat.pow_le_pow_right (by decide) l)⟩
theorem sz_norm {n d m : Nat} {t : Int} (hd : d ≠ 0) (h1 : t.natAbs < 2 ^ m) (h2 : d < 2 ^ m) : Sz m (Rat.normalize t d hd) := by
  rw [Rat.normalize_eq]
  refine ⟨Nat.lt_of_le_of_lt (Int.natAbs_ediv_le_natAbs _ _) h1, Nat.lt_of_le_of_lt (Nat.div_le_self _ _) h2⟩
theorem mul_lt_pow {a b m n : Nat} (h1 : a < 2 ^ m) (h2 : b < 2 ^ n) : a * b < 2 ^ (m + n) := by
  rw [Nat.pow_add]
  exact Nat.mul_lt_mul'' h1 h2
theorem Sz.add {m n : Nat} {a b : Rat} (ha : Sz m a) (hb : Sz n b) : Sz (m + n + 1) (a + b) := by
  rw [Rat.add_def]
  refine sz_norm (n := 0) _ ?_ ?_
  · have h1 := mul_lt_pow ha.1 hb.2
    have h2 := mul_lt_pow hb.1 ha.2
    rw [Nat.add_comm n m] at h2
    have h3 := Int.natAbs_add_le (a.num * (b.den : Int)) (b.num * (a.den : Int))
    rw [Int.natAbs_mul, Int.natAbs_mul, Int.natAbs_natCast, Int.natAbs_natCast] at h3
    rw [Nat.pow_succ]
    omega
  · exact Nat.lt_of_lt_of_le (mul_lt_pow ha.2 hb.2) (Nat.pow_le_pow_right (by decide) (by omega))
theorem Sz.mul {m n : Nat} {a b : Rat} (ha : Sz m a) (hb : Sz n b) : Sz (m + n) (a * b) := by
  rw [Rat.mul_def]
  refine sz_norm (n := 0) _ ?_ (mul_lt_pow ha.2 hb.2)
  rw [Int.natAbs_mul]
  exact mul_lt_pow ha.1 hb.1
theorem Sz.int {n : Nat} {i : Int} (h : i.natAbs < 2 ^ n) (h1 : 0 < n) : Sz n (i : Rat) := by
  refine ⟨by rw [Rat.num_intCast]; exact h, ?_⟩
  rw [Rat.den_intCast]
  exact Nat.lt_of_lt_of_le (by decide : 1 < 2 ^ 1) (Nat.pow_le_pow_right (by decide) h1)
theorem Sz.zero {n : Nat} (h : 0 < n) : Sz n 0 := Sz.int (i := 0) (by simp; exact Nat.pow_pos (by decide)) h
theorem Sz.one {n : Nat} (h : 0 < n) : Sz n 1 := Sz.int (i := 1) (Nat.lt_of_lt_of_le (by decide : 1 < 2 ^ 1) (Nat.pow_le_pow_right (by decide) h)) h
/-- a fraction in lowest terms -/
theorem ratio_num (t : Int) {b : Nat} (hb : b ≠ 0) : t.fdiv (Nat.gcd t.natAbs b : Nat) = (mkRat t b).num := by
  rw [Rat.num_mkRat, if_neg hb, Int.fdiv_eq_ediv_of_nonneg _ (by omega), Nat.gcd_comm]
theorem ratio_den (t : Int) {b : Nat} (hb : b ≠ 0) : (b : Int).fdiv (Nat.gcd t.natAbs b : Nat) = ((mkRat t b).den : Int) := by
  rw [Rat.den_mkRat, if_neg hb, Int.fdiv_eq_ediv_of_nonneg _ (by omega), Nat.gcd_comm]
  rfl
theorem add_mk (a b : Rat) : mkRat (a.num * b.den + b.num * a.den) (a.den * b.den) = a + b := by
  rw [Rat.add_def, Rat.mkRat_def, dif_neg]
theorem mul_mk (a b : Rat) : mkRat (a.num * b.num) (a.den * b.den) = a * b := by
  rw [Rat.mul_def, Rat.mkRat_def, dif_neg]
theorem Sz.mk {n b : Nat} {t : Int} (h1 : t.natAbs < 2 ^ n) (h2 : b < 2 ^ n) (hb : b ≠ 0) : Sz n (mkRat t b) := by
  rw [Rat.mkRat_def, dif_neg hb]
  exact sz_norm (n := 0) hb h1 h2
theorem int_num (i : Int) : (i : Rat).num = i := Rat.num_intCast i
theorem int_den (i : Int) : (i : Rat).den = 1 := Rat.den_intCast i
theorem mk_div (t : Int) (b : Nat) : mkRat t b = (t : Rat) / (b : Rat) := by
  have := Rat.divInt_eq_div t b
  rw [← Rat.mkRat_eq_div]
end J

namespace Lw
open PySem PySem.Spec PyProof.Rows L2 J
abbrev pw : Program := PySem.Challenge.pw_jointcurves_k13_whole_joints
def top (i : Nat) : Stmt := pw.main.body.getD i (.Pass ⟨0, 0, 0, 0⟩)
def clsBody : Stmt → List Stmt
  | .ClassDef (body := b) .. => b
  | _ => []
def meth (i j : Nat) : Stmt := (clsBody (top i)).getD j (.Pass ⟨0, 0, 0, 0⟩)
def mkD (a : Str × Option Str) (x qual : Str) (s : Stmt) : He.DefD := ⟨a, x, qual, defArgs s, defBody s, defScope s, [], []⟩
abbrev ec_JointError : Nat := 0
abbrev ec_InvalidKind : Nat := 1
abbrev ec_InvalidFunction : Nat := 2
abbrev ec_InvalidKnot : Nat := 3
abbrev ec_TooMany : Nat := 4
abbrev k_is_between : Nat := 0
abbrev k_divisor_of : Nat := 1
abbrev k_fraction : Nat := 2
abbrev k_plus : Nat := 3
abbrev k_by_factor : Nat := 4
abbrev k_is_number : Nat := 5
abbrev k_is_kind : Nat := 6
abbrev k_check_kind : Nat := 7
abbrev k_piece_at : Nat := 8
abbrev k_at_place : Nat := 9
abbrev k_derivative : Nat := 10
abbrev k_derivatives : Nat := 11
abbrev k_agreeing : Nat := 12
abbrev k_is_rows : Nat := 13
abbrev k_does_join : Nat := 14
abbrev k_is_function : Nat := 15
abbrev k_check_function : Nat := 16
abbrev k_check_both : Nat := 17
abbrev k_found_joints : Nat := 18
abbrev k_joints_of : Nat := 19
abbrev k_found_thinned : Nat := 20
abbrev k_thinned : Nat := 21
abbrev k_are_same : Nat := 22
abbrev k_with_knot : Nat := 23
abbrev k__law_town : Nat := 24
abbrev k__law_draw : Nat := 25
abbrev k__law_pick : Nat := 26
abbrev k__law_ratio : Nat := 27
abbrev k__law_plus : Nat := 28
abbrev k__law_times : Nat := 29
abbrev k__law_fraction : Nat := 30
abbrev k__law_kind : Nat := 31
abbrev k__law_cut : Nat := 32
abbrev k__law_function : Nat := 33
abbrev k__law_at : Nat := 34
abbrev k__law_derived : Nat := 35
abbrev k__law_agreeing : Nat := 36
abbrev k__law_thinned : Nat := 37
abbrev k_law : Nat := 38
def x_is_between : XB := .cons (.ret (.andv (.isi .int (.slot 0)) (.andv (.notv (.isi .bool (.slot 0))) (.chain .le .le (.slot 1) (.slot 0) (.slot 2))))) (.nil)
def f_is_between : XFn := ⟨["value", "low", "high"], ["value", "low", "high"], defScope (top 7), defBody (top 7), x_is_between⟩
def x_divisor_of : XB := .cons (.par [0, 1] [false, false] (.cons (.b1 .abs (.slot 0)) (.cons (.b1 .abs (.slot 1)) (.nil)))) (.cons (.whl (.cmp .ne (.slot 1) (.cst (.int 0))) (.cons (.par [0, 1] [false, false] (.cons (.slot 1) (.cons (.bin .mod (.slot 0) (.slot 1)) (.nil)))) (.nil))) (.cons (.ret (.slot 0)) (.nil)))
def f_divisor_of : XFn := ⟨["one", "other"], ["one", "other"], defScope (top 8), defBody (top 8), x_divisor_of⟩
def x_fraction : XB := .cons (.set 2 false (.call k_divisor_of (.cons (.slot 0) (.cons (.slot 1) (.nil))))) (.cons (.set 2 false (.ife (.cmp .gt (.slot 1) (.cst (.int 0))) (.slot 2) (.neg (.slot 2)))) (.cons (.ret (.tup (.cons (.bin .fdiv (.slot 0) (.slot 2)) (.cons (.bin .fdiv (.slot 1) (.slot 2)) (.nil))))) (.nil)))
def f_fraction : XFn := ⟨["top", "bottom", "by"], ["top", "bottom"], defScope (top 9), defBody (top 9), x_fraction⟩
def x_plus : XB := .cons (.ret (.call k_fraction (.cons (.bin .add (.bin .mul (.ix (.slot 0) (.cst (.int 0))) (.ix (.slot 1) (.cst (.int 1)))) (.bin .mul (.ix (.slot 1) (.cst (.int 0))) (.ix (.slot 0) (.cst (.int 1))))) (.cons (.bin .mul (.ix (.slot 0) (.cst (.int 1))) (.ix (.slot 1) (.cst (.int 1)))) (.nil))))) (.nil)
def f_plus : XFn := ⟨["one", "other"], ["one", "other"], defScope (top 10), defBody (top 10), x_plus⟩
def x_by_factor : XB := .cons (.ret (.call k_fraction (.cons (.bin .mul (.ix (.slot 0) (.cst (.int 0))) (.ix (.slot 1) (.cst (.int 0)))) (.cons (.bin .mul (.ix (.slot 0) (.cst (.int 1))) (.ix (.slot 1) (.cst (.int 1)))) (.nil))))) (.nil)
def f_by_factor : XFn := ⟨["one", "other"], ["one", "other"], defScope (top 11), defBody (top 11), x_by_factor⟩
def x_is_number : XB := .cons (.ife (.or (.not (.tr (.isi .tup (.slot 0)))) (.cmp .ne (.b1 .len (.slot 0)) (.cst (.int 2)))) (.cons (.ret (.cst (.bl false))) (.nil)) (.nil)) (.cons (.ife (.not (.tr (.b1 .all (.lc (.seq (.slot 0)) (.name 1) (.yes) (.andv (.isi .int (.slot 1)) (.notv (.isi .bool (.slot 1)))) [1])))) (.cons (.ret (.cst (.bl false))) (.nil)) (.nil)) (.cons (.ret (.andv (.cmp .gt (.ix (.slot 0) (.cst (.int 1))) (.cst (.int 0))) (.cmp .eq (.call k_divisor_of (.cons (.ix (.slot 0) (.cst (.int 0))) (.cons (.ix (.slot 0) (.cst (.int 1))) (.nil)))) (.cst (.int 1))))) (.nil)))
def f_is_number : XFn := ⟨["value", "one"], ["value"], defScope (top 12), defBody (top 12), x_is_number⟩
def x_is_kind : XB := .cons (.ife (.or (.not (.tr (.isi .tup (.slot 0)))) (.or (.cmp .ne (.b1 .len (.slot 0)) (.cst (.int 3))) (.not (.tr (.call k_is_between (.cons (.ix (.slot 0) (.cst (.int 0))) (.cons (.cst (.int 1)) (.cons (.cst (.int 3)) (.nil))))))))) (.cons (.ret (.cst (.bl false))) (.nil)) (.nil)) (.cons (.asg (.tup [.name 1, .name 2, .name 3]) (.slot 0)) (.cons (.ife (.or (.not (.tr (.isi .tup (.slot 2)))) (.or (.not (.chain .le .le (.cst (.int 2)) (.b1 .len (.slot 2)) (.cst (.int 6)))) (.not (.tr (.isi .tup (.slot 3)))))) (.cons (.ret (.cst (.bl false))) (.nil)) (.nil)) (.cons (.ife (.not (.tr (.b1 .all (.lc (.seq (.slot 2)) (.name 4) (.yes) (.call k_is_between (.cons (.slot 4) (.cons (.neg (.cst (.int 20))) (.cons (.cst (.int 20)) (.nil))))) [4])))) (.cons (.ret (.cst (.bl false))) (.nil)) (.nil)) (.cons (.ife (.not (.tr (.b1 .all (.lc (.rng (.cons (.bin .sub (.b1 .len (.slot 2)) (.cst (.int 1))) (.nil))) (.name 5) (.yes) (.cmp .lt (.ix (.slot 2) (.slot 5)) (.ix (.slot 2) (.bin .add (.slot 5) (.cst (.int 1))))) [5])))) (.cons (.ret (.cst (.bl false))) (.nil)) (.nil)) (.cons (.ret (.andv (.cmp .eq (.b1 .len (.slot 3)) (.bin .sub (.b1 .len (.slot 2)) (.cst (.int 2)))) (.b1 .all (.lc (.seq (.slot 3)) (.name 4) (.yes) (.call k_is_between (.cons (.slot 4) (.cons (.cst (.int 0)) (.cons (.bin .sub (.slot 1) (.cst (.int 1))) (.nil))))) [4])))) (.nil))))))
def f_is_kind : XFn := ⟨["value", "degree", "knots", "joints", "one", "k"], ["value"], defScope (top 14), defBody (top 14), x_is_kind⟩
def x_check_kind : XB := .cons (.ife (.not (.tr (.call k_is_kind (.cons (.slot 0) (.nil))))) (.cons (.raise ec_InvalidKind) (.nil)) (.nil)) (.nil)
def f_check_kind : XFn := ⟨["value"], ["value"], defScope (top 15), defBody (top 15), x_check_kind⟩
def x_piece_at : XB := .cons (.set 2 false (.cst (.int 0))) (.cons (.whl (.cmp .lt (.bin .mul (.ix (.ix (.slot 0) (.cst (.int 1))) (.bin .add (.slot 2) (.cst (.int 1)))) (.ix (.slot 1) (.cst (.int 1)))) (.ix (.slot 1) (.cst (.int 0)))) (.cons (.set 2 false (.bin .add (.slot 2) (.cst (.int 1)))) (.nil))) (.cons (.ret (.slot 2)) (.nil)))
def f_piece_at : XFn := ⟨["kind", "place", "number"], ["kind", "place"], defScope (top 16), defBody (top 16), x_piece_at⟩
def x_at_place : XB := .cons (.set 2 false (.tup (.cons (.cst (.int 0)) (.cons (.cst (.int 1)) (.nil))))) (.cons (.forr (.name 3) (.seq (.rev (.slot 0))) (.cons (.set 2 false (.call k_plus (.cons (.call k_by_factor (.cons (.slot 2) (.cons (.slot 1) (.nil)))) (.cons (.slot 3) (.nil))))) (.nil))) (.cons (.ret (.slot 2)) (.nil)))
def f_at_place : XFn := ⟨["row", "place", "found", "one"], ["row", "place"], defScope (top 18), defBody (top 18), x_at_place⟩
def x_derivative : XB := .cons (.set 1 false (.lc (.rng (.cons (.cst (.int 1)) (.cons (.b1 .len (.slot 0)) (.nil)))) (.name 2) (.yes) (.call k_by_factor (.cons (.tup (.cons (.slot 2) (.cons (.cst (.int 1)) (.nil)))) (.cons (.ix (.slot 0) (.slot 2)) (.nil)))) [2])) (.cons (.ret (.ife (.cmp .ne (.slot 1) (.lst (.nil))) (.slot 1) (.lst (.cons (.tup (.cons (.cst (.int 0)) (.cons (.cst (.int 1)) (.nil)))) (.nil))))) (.nil))
def f_derivative : XFn := ⟨["row", "found", "k"], ["row"], defScope (top 19), defBody (top 19), x_derivative⟩
def x_derivatives : XB := .cons (.set 2 true (.lst (.cons (.b1 .list (.slot 0)) (.nil)))) (.cons (.forr (.name 3) (.rng (.cons (.slot 1) (.nil))) (.cons (.m1 2 .app (.call k_derivative (.cons (.ix (.slot 2) (.neg (.cst (.int 1)))) (.nil)))) (.nil))) (.cons (.frz [2] (.ret (.slot 2))) (.nil)))
def f_derivatives : XFn := ⟨["row", "many", "found", "time"], ["row", "many"], defScope (top 20), defBody (top 20), x_derivatives⟩
def x_agreeing : XB := .cons (.par [3, 4] [false, false] (.cons (.neg (.cst (.int 1))) (.cons (.tup (.cons (.slot 2) (.cons (.cst (.int 1)) (.nil)))) (.nil)))) (.cons (.forr (.tup [.name 5, .name 6]) (.zip (.call k_derivatives (.cons (.slot 0) (.cons (.bin .sub (.b1 .len (.slot 0)) (.cst (.int 1))) (.nil)))) (.call k_derivatives (.cons (.slot 1) (.cons (.bin .sub (.b1 .len (.slot 0)) (.cst (.int 1))) (.nil))))) (.cons (.ife (.cmp .ne (.call k_at_place (.cons (.slot 5) (.cons (.slot 4) (.nil)))) (.call k_at_place (.cons (.slot 6) (.cons (.slot 4) (.nil))))) (.cons (.ret (.slot 3)) (.nil)) (.nil)) (.cons (.set 3 false (.bin .add (.slot 3) (.cst (.int 1)))) (.nil)))) (.cons (.ret (.slot 3)) (.nil)))
def f_agreeing : XFn := ⟨["one", "other", "knot", "found", "place", "first", "second"], ["one", "other", "knot"], defScope (top 22), defBody (top 22), x_agreeing⟩
def x_is_rows : XB := .cons (.ife (.or (.not (.tr (.isi .tup (.slot 1)))) (.cmp .ne (.b1 .len (.slot 1)) (.bin .sub (.b1 .len (.ix (.slot 0) (.cst (.int 1)))) (.cst (.int 1))))) (.cons (.ret (.cst (.bl false))) (.nil)) (.nil)) (.cons (.ife (.not (.tr (.b1 .all (.lc (.seq (.slot 1)) (.name 2) (.yes) (.andv (.isi .tup (.slot 2)) (.cmp .eq (.b1 .len (.slot 2)) (.bin .add (.ix (.slot 0) (.cst (.int 0))) (.cst (.int 1))))) [2])))) (.cons (.ret (.cst (.bl false))) (.nil)) (.nil)) (.cons (.ret (.b1 .all (.lc2 (.seq (.slot 1)) (.name 2) (.yes) (.seq (.slot 2)) (.name 3) (.yes) (.call k_is_number (.cons (.slot 3) (.nil))) [2, 3] [3]))) (.nil)))
def f_is_rows : XFn := ⟨["kind", "value", "row", "one"], ["kind", "value"], defScope (top 23), defBody (top 23), x_is_rows⟩
def x_does_join : XB := .cons (.set 2 false (.lc (.enum (.sl (.ix (.slot 0) (.cst (.int 1))) (.so (.cst (.int 1))) (.so (.neg (.cst (.int 1)))))) (.tup [.name 3, .name 4]) (.yes) (.call k_agreeing (.cons (.ix (.slot 1) (.slot 3)) (.cons (.ix (.slot 1) (.bin .add (.slot 3) (.cst (.int 1)))) (.cons (.slot 4) (.nil))))) [3, 4])) (.cons (.ret (.b1 .all (.lc (.zip (.slot 2) (.ix (.slot 0) (.cst (.int 2)))) (.tup [.name 5, .name 6]) (.yes) (.cmp .ge (.slot 5) (.slot 6)) [5, 6]))) (.nil))
def f_does_join : XFn := ⟨["kind", "rows", "some", "k", "knot", "found", "joint"], ["kind", "rows"], defScope (top 24), defBody (top 24), x_does_join⟩
def x_is_function : XB := .cons (.drop (.call k_check_kind (.cons (.slot 0) (.nil)))) (.cons (.ret (.andv (.call k_is_rows (.cons (.slot 0) (.cons (.slot 1) (.nil)))) (.call k_does_join (.cons (.slot 0) (.cons (.slot 1) (.nil)))))) (.nil))
def f_is_function : XFn := ⟨["kind", "value"], ["kind", "value"], defScope (top 25), defBody (top 25), x_is_function⟩
def x_check_function : XB := .cons (.ife (.or (.not (.tr (.call k_is_rows (.cons (.slot 0) (.cons (.slot 1) (.nil)))))) (.not (.tr (.call k_does_join (.cons (.slot 0) (.cons (.slot 1) (.nil))))))) (.cons (.raise ec_InvalidFunction) (.nil)) (.nil)) (.nil)
def f_check_function : XFn := ⟨["kind", "value"], ["kind", "value"], defScope (top 26), defBody (top 26), x_check_function⟩
def x_check_both : XB := .cons (.drop (.call k_check_kind (.cons (.slot 0) (.nil)))) (.cons (.drop (.call k_check_function (.cons (.slot 0) (.cons (.slot 1) (.nil))))) (.nil))
def f_check_both : XFn := ⟨["kind", "function"], ["kind", "function"], defScope (top 27), defBody (top 27), x_check_both⟩
def x_found_joints : XB := .cons (.ret (.lc (.enum (.sl (.ix (.slot 0) (.cst (.int 1))) (.so (.cst (.int 1))) (.so (.neg (.cst (.int 1)))))) (.tup [.name 2, .name 3]) (.yes) (.call k_agreeing (.cons (.ix (.slot 1) (.slot 2)) (.cons (.ix (.slot 1) (.bin .add (.slot 2) (.cst (.int 1)))) (.cons (.slot 3) (.nil))))) [2, 3])) (.nil)
def f_found_joints : XFn := ⟨["kind", "function", "k", "knot"], ["kind", "function"], defScope (top 28), defBody (top 28), x_found_joints⟩
def x_joints_of : XB := .cons (.drop (.call k_check_both (.cons (.slot 0) (.cons (.slot 1) (.nil))))) (.cons (.ret (.b1 .tuple (.call k_found_joints (.cons (.slot 0) (.cons (.slot 1) (.nil)))))) (.nil))
def f_joints_of : XFn := ⟨["kind", "function"], ["kind", "function"], defScope (top 29), defBody (top 29), x_joints_of⟩
def x_found_thinned : XB := .cons (.asg (.tup [.name 6, .name 7, .name 8]) (.slot 0)) (.cons (.ife (.and (.cmp .gt (.slot 6) (.cst (.int 1))) (.tr (.b1 .all (.lc (.seq (.slot 1)) (.name 11) (.yes) (.cmp .eq (.ix (.slot 11) (.neg (.cst (.int 1)))) (.tup (.cons (.cst (.int 0)) (.cons (.cst (.int 1)) (.nil))))) [11])))) (.cons (.set 5 false (.b1 .tuple (.lc (.seq (.slot 1)) (.name 11) (.yes) (.sl (.slot 11) .no (.so (.neg (.cst (.int 1))))) [11]))) (.cons (.ret (.call k_found_thinned (.cons (.tup (.cons (.bin .sub (.slot 6) (.cst (.int 1))) (.cons (.slot 7) (.cons (.b1 .tuple (.lc (.seq (.slot 8)) (.name 10) (.yes) (.cst (.int 0)) [10])) (.nil))))) (.cons (.slot 5) (.nil))))) (.nil))) (.nil)) (.cons (.set 2 false (.call k_found_joints (.cons (.slot 0) (.cons (.slot 1) (.nil))))) (.cons (.set 3 false (.lc (.enum (.slot 2)) (.tup [.name 9, .name 10]) (.cmp .lt (.slot 10) (.slot 6)) (.slot 9) [9, 10])) (.cons (.set 4 false (.b1 .tuple (.lc (.seq (.slot 3)) (.name 9) (.yes) (.ix (.slot 7) (.bin .add (.slot 9) (.cst (.int 1)))) [9]))) (.cons (.set 5 false (.bin .add (.tup (.cons (.ix (.slot 1) (.cst (.int 0))) (.nil))) (.b1 .tuple (.lc (.seq (.slot 3)) (.name 9) (.yes) (.ix (.slot 1) (.bin .add (.slot 9) (.cst (.int 1)))) [9])))) (.cons (.ret (.tup (.cons (.tup (.cons (.slot 6) (.cons (.bin .add (.bin .add (.sl (.slot 7) .no (.so (.cst (.int 1)))) (.slot 4)) (.sl (.slot 7) (.so (.neg (.cst (.int 1)))) .no)) (.cons (.b1 .tuple (.lc (.seq (.slot 3)) (.name 9) (.yes) (.ix (.slot 2) (.slot 9)) [9])) (.nil))))) (.cons (.slot 5) (.nil))))) (.nil)))))))
def f_found_thinned : XFn := ⟨["kind", "function", "some", "kept", "inner", "rows", "degree", "knots", "joints", "k", "joint", "row"], ["kind", "function"], defScope (top 30), defBody (top 30), x_found_thinned⟩
def x_thinned : XB := .cons (.drop (.call k_check_both (.cons (.slot 0) (.cons (.slot 1) (.nil))))) (.cons (.ret (.call k_found_thinned (.cons (.slot 0) (.cons (.slot 1) (.nil))))) (.nil))
def f_thinned : XFn := ⟨["kind", "function"], ["kind", "function"], defScope (top 31), defBody (top 31), x_thinned⟩
def x_are_same : XB := .cons (.drop (.call k_check_both (.cons (.slot 0) (.cons (.slot 1) (.nil))))) (.cons (.drop (.call k_check_both (.cons (.slot 2) (.cons (.slot 3) (.nil))))) (.cons (.ret (.cmp .eq (.call k_found_thinned (.cons (.slot 0) (.cons (.slot 1) (.nil)))) (.call k_found_thinned (.cons (.slot 2) (.cons (.slot 3) (.nil)))))) (.nil)))
def f_are_same : XFn := ⟨["kind", "function", "other_kind", "other"], ["kind", "function", "other_kind", "other"], defScope (top 32), defBody (top 32), x_are_same⟩
def x_with_knot : XB := .cons (.drop (.call k_check_both (.cons (.slot 0) (.cons (.slot 1) (.nil))))) (.cons (.asg (.tup [.name 5, .name 6, .name 7]) (.slot 0)) (.cons (.ife (.or (.not (.tr (.call k_is_between (.cons (.slot 2) (.cons (.bin .add (.ix (.slot 6) (.cst (.int 0))) (.cst (.int 1))) (.cons (.bin .sub (.ix (.slot 6) (.neg (.cst (.int 1)))) (.cst (.int 1))) (.nil))))))) (.cmp .inn (.slot 2) (.slot 6))) (.cons (.raise ec_InvalidKnot) (.nil)) (.nil)) (.cons (.ife (.cmp .eq (.b1 .len (.slot 6)) (.cst (.int 6))) (.cons (.raise ec_TooMany) (.nil)) (.nil)) (.cons (.set 3 false (.call k_piece_at (.cons (.slot 0) (.cons (.tup (.cons (.slot 2) (.cons (.cst (.int 1)) (.nil)))) (.nil))))) (.cons (.set 4 false (.tup (.cons (.slot 5) (.cons (.bin .add (.bin .add (.sl (.slot 6) .no (.so (.bin .add (.slot 3) (.cst (.int 1))))) (.tup (.cons (.slot 2) (.nil)))) (.sl (.slot 6) (.so (.bin .add (.slot 3) (.cst (.int 1)))) .no)) (.cons (.bin .add (.bin .add (.sl (.slot 7) .no (.so (.slot 3))) (.tup (.cons (.bin .sub (.slot 5) (.cst (.int 1))) (.nil)))) (.sl (.slot 7) (.so (.slot 3)) .no)) (.nil)))))) (.cons (.ret (.tup (.cons (.slot 4) (.cons (.bin .add (.sl (.slot 1) .no (.so (.bin .add (.slot 3) (.cst (.int 1))))) (.sl (.slot 1) (.so (.slot 3)) .no)) (.nil))))) (.nil)))))))
def f_with_knot : XFn := ⟨["kind", "function", "knot", "piece", "more", "degree", "knots", "joints"], ["kind", "function", "knot"], defScope (top 33), defBody (top 33), x_with_knot⟩
def x__law_town : XB := .cons (.retOwn (.bin .add (.lst (.cons (.cst (.int 0)) (.nil))) (.b1 .list (.slot 0)))) (.nil)
def f__law_town : XFn := ⟨["script"], ["script"], defScope (top 35), defBody (top 35), x__law_town⟩
def x__law_draw : XB := .cons (.setix 1 (.cst (.int 0)) (.bin .add (.ix (.slot 1) (.cst (.int 0))) (.cst (.int 1)))) (.cons (.ife (.cmp .eq (.slot 0) (.lst (.nil))) (.cons (.ret (.bin .mod (.bin .fdiv (.bin .mul (.bin .mul (.ix (.slot 1) (.cst (.int 0))) (.ix (.slot 1) (.cst (.int 0)))) (.cst (.int 7))) (.cst (.int 3))) (.slot 2))) (.nil)) (.nil)) (.cons (.set 3 false (.bin .mod (.ix (.slot 1) (.cst (.int 0))) (.b1 .len (.slot 0)))) (.cons (.set 4 false (.ix (.slot 1) (.bin .add (.cst (.int 1)) (.slot 3)))) (.cons (.ife (.and (.cmp .ge (.ix (.slot 0) (.slot 3)) (.bin .pow (.cst (.int 10)) (.cst (.int 18)))) (.cmp .gt (.slot 4) (.cst (.int 0)))) (.cons (.setix 1 (.bin .add (.cst (.int 1)) (.slot 3)) (.bin .fdiv (.slot 4) (.slot 2))) (.cons (.ret (.bin .mod (.slot 4) (.slot 2))) (.nil))) (.nil)) (.cons (.set 5 false (.bin .mod (.bin .add (.ix (.slot 0) (.slot 3)) (.bin .mul (.cst (.int 104729)) (.ix (.slot 1) (.cst (.int 0))))) (.cst (.int 4294967291)))) (.cons (.set 5 false (.bin .mod (.bin .pow (.slot 5) (.cst (.int 5))) (.cst (.int 4294967279)))) (.cons (.ret (.bin .mod (.bin .fdiv (.bin .mod (.bin .add (.bin .mul (.bin .fdiv (.slot 5) (.cst (.int 64))) (.cst (.int 69621))) (.slot 5)) (.cst (.int 4294967231))) (.cst (.int 8))) (.slot 2))) (.nil))))))))
def f__law_draw : XFn := ⟨["script", "town", "limit", "at", "left", "number"], ["script", "town", "limit"], defScope (top 36), defBody (top 36), x__law_draw⟩
def x__law_pick : XB := .cons (.ret (.ix (.slot 2) (.call k__law_draw (.cons (.slot 0) (.cons (.slot 1) (.cons (.b1 .len (.slot 2)) (.nil))))))) (.nil)
def f__law_pick : XFn := ⟨["script", "town", "choices"], ["script", "town", "choices"], defScope (top 37), defBody (top 37), x__law_pick⟩
def x__law_ratio : XB := .cons (.par [2, 3] [false, false] (.cons (.b1 .abs (.slot 0)) (.cons (.b1 .abs (.slot 1)) (.nil)))) (.cons (.whl (.cmp .ne (.slot 3) (.cst (.int 0))) (.cons (.par [2, 3] [false, false] (.cons (.slot 3) (.cons (.bin .mod (.slot 2) (.slot 3)) (.nil)))) (.nil))) (.cons (.set 2 false (.ife (.cmp .gt (.slot 1) (.cst (.int 0))) (.slot 2) (.bin .sub (.cst (.int 0)) (.slot 2)))) (.cons (.ret (.tup (.cons (.bin .fdiv (.slot 0) (.slot 2)) (.cons (.bin .fdiv (.slot 1) (.slot 2)) (.nil))))) (.nil))))
def f__law_ratio : XFn := ⟨["top", "bottom", "one", "two"], ["top", "bottom"], defScope (top 38), defBody (top 38), x__law_ratio⟩
def x__law_plus : XB := .cons (.ret (.call k__law_ratio (.cons (.bin .add (.bin .mul (.ix (.slot 0) (.cst (.int 0))) (.ix (.slot 1) (.cst (.int 1)))) (.bin .mul (.ix (.slot 1) (.cst (.int 0))) (.ix (.slot 0) (.cst (.int 1))))) (.cons (.bin .mul (.ix (.slot 0) (.cst (.int 1))) (.ix (.slot 1) (.cst (.int 1)))) (.nil))))) (.nil)
def f__law_plus : XFn := ⟨["one", "two"], ["one", "two"], defScope (top 39), defBody (top 39), x__law_plus⟩
def x__law_times : XB := .cons (.ret (.call k__law_ratio (.cons (.bin .mul (.ix (.slot 0) (.cst (.int 0))) (.ix (.slot 1) (.cst (.int 0)))) (.cons (.bin .mul (.ix (.slot 0) (.cst (.int 1))) (.ix (.slot 1) (.cst (.int 1)))) (.nil))))) (.nil)
def f__law_times : XFn := ⟨["one", "two"], ["one", "two"], defScope (top 40), defBody (top 40), x__law_times⟩
def x__law_fraction : XB := .cons (.ret (.call k__law_ratio (.cons (.bin .sub (.call k__law_draw (.cons (.slot 0) (.cons (.slot 1) (.cons (.bin .add (.bin .mul (.cst (.int 2)) (.slot 2)) (.cst (.int 1))) (.nil))))) (.slot 2)) (.cons (.call k__law_pick (.cons (.slot 0) (.cons (.slot 1) (.cons (.lst (.cons (.cst (.int 1)) (.cons (.cst (.int 1)) (.cons (.cst (.int 2)) (.cons (.cst (.int 3)) (.cons (.cst (.int 5)) (.nil))))))) (.nil))))) (.nil))))) (.nil)
def f__law_fraction : XFn := ⟨["script", "town", "most"], ["script", "town", "most"], defScope (top 41), defBody (top 41), x__law_fraction⟩
def x__law_kind : XB := .cons (.par [4, 3] [false, true] (.cons (.bin .add (.cst (.int 1)) (.call k__law_draw (.cons (.slot 0) (.cons (.slot 1) (.cons (.cst (.int 3)) (.nil)))))) (.cons (.lr2 (.neg (.cst (.int 6))) (.cst (.int 7))) (.nil)))) (.cons (.whl (.cmp .gt (.b1 .len (.slot 3)) (.bin .add (.cst (.int 2)) (.call k__law_draw (.cons (.slot 0) (.cons (.slot 1) (.cons (.bin .sub (.slot 2) (.cst (.int 1))) (.nil))))))) (.cons (.m1 3 .pop (.call k__law_draw (.cons (.slot 0) (.cons (.slot 1) (.cons (.b1 .len (.slot 3)) (.nil)))))) (.nil))) (.cons (.set 3 true (.sl (.slot 3) .no (.so (.slot 2)))) (.cons (.ret (.tup (.cons (.slot 4) (.cons (.b1 .tuple (.slot 3)) (.cons (.b1 .tuple (.lc (.seq (.sl (.slot 3) (.so (.cst (.int 1))) (.so (.neg (.cst (.int 1)))))) (.name 5) (.yes) (.call k__law_draw (.cons (.slot 0) (.cons (.slot 1) (.cons (.slot 4) (.nil))))) [5])) (.nil)))))) (.nil))))
def f__law_kind : XFn := ⟨["script", "town", "most", "left", "degree", "knot"], ["script", "town", "most"], defScope (top 42), defBody (top 42), x__law_kind⟩
def x__law_cut : XB := .cons (.set 3 false (.bin .add (.lst (.cons (.cst (.int 1)) (.nil))) (.bin .mul (.lst (.cons (.cst (.int 0)) (.nil))) (.slot 2)))) (.cons (.forr (.name 4) (.rng (.cons (.slot 1) (.nil))) (.cons (.set 3 false (.lc (.rng (.cons (.bin .add (.slot 2) (.cst (.int 1))) (.nil))) (.name 5) (.yes) (.bin .sub (.ife (.cmp .gt (.slot 5) (.cst (.int 0))) (.ix (.slot 3) (.bin .sub (.slot 5) (.cst (.int 1)))) (.cst (.int 0))) (.bin .mul (.slot 0) (.ix (.slot 3) (.slot 5)))) [5])) (.nil))) (.cons (.ret (.slot 3)) (.nil)))
def f__law_cut : XFn := ⟨["knot", "power", "degree", "found", "turn", "k"], ["knot", "power", "degree"], defScope (top 43), defBody (top 43), x__law_cut⟩
def x__law_function : XB := .cons (.asg (.tup [.name 6, .name 7, .name 8]) (.slot 2)) (.cons (.set 4 false (.lc (.rng (.cons (.bin .add (.slot 6) (.cst (.int 1))) (.nil))) (.name 12) (.yes) (.call k__law_fraction (.cons (.slot 0) (.cons (.slot 1) (.cons (.slot 3) (.nil))))) [12])) (.cons (.set 5 true (.lst (.cons (.b1 .tuple (.slot 4)) (.nil)))) (.cons (.forr (.tup [.name 9, .name 10]) (.zip (.sl (.slot 7) (.so (.cst (.int 1))) (.so (.neg (.cst (.int 1))))) (.slot 8)) (.cons (.forr (.name 11) (.rng (.cons (.bin .add (.slot 10) (.cst (.int 1))) (.cons (.bin .add (.slot 6) (.cst (.int 1))) (.nil)))) (.cons (.set 13 false (.call k__law_fraction (.cons (.slot 0) (.cons (.slot 1) (.cons (.slot 3) (.nil)))))) (.cons (.set 14 false (.call k__law_cut (.cons (.slot 9) (.cons (.slot 11) (.cons (.slot 6) (.nil)))))) (.cons (.set 4 false (.lc (.rng (.cons (.bin .add (.slot 6) (.cst (.int 1))) (.nil))) (.name 12) (.yes) (.call k__law_plus (.cons (.ix (.slot 4) (.slot 12)) (.cons (.call k__law_times (.cons (.slot 13) (.cons (.tup (.cons (.ix (.slot 14) (.slot 12)) (.cons (.cst (.int 1)) (.nil)))) (.nil)))) (.nil)))) [12])) (.nil))))) (.cons (.m1 5 .app (.b1 .tuple (.slot 4))) (.nil)))) (.cons (.ret (.b1 .tuple (.slot 5))) (.nil)))))
def f__law_function : XFn := ⟨["script", "town", "kind", "most", "line", "found", "degree", "knots", "joints", "knot", "joint", "power", "k", "part", "cut"], ["script", "town", "kind", "most"], defScope (top 44), defBody (top 44), x__law_function⟩
def x__law_at : XB := .cons (.set 2 false (.tup (.cons (.cst (.int 0)) (.cons (.cst (.int 1)) (.nil))))) (.cons (.forr (.name 3) (.seq (.rev (.slot 0))) (.cons (.set 2 false (.call k__law_plus (.cons (.call k__law_times (.cons (.slot 2) (.cons (.slot 1) (.nil)))) (.cons (.slot 3) (.nil))))) (.nil))) (.cons (.ret (.slot 2)) (.nil)))
def f__law_at : XFn := ⟨["line", "place", "found", "one"], ["line", "place"], defScope (top 45), defBody (top 45), x__law_at⟩
def x__law_derived : XB := .cons (.forr (.name 2) (.rng (.cons (.slot 1) (.nil))) (.cons (.set 0 false (.bin .add (.lc (.rng (.cons (.cst (.int 1)) (.cons (.b1 .len (.slot 0)) (.nil)))) (.name 3) (.yes) (.call k__law_times (.cons (.tup (.cons (.slot 3) (.cons (.cst (.int 1)) (.nil)))) (.cons (.ix (.slot 0) (.slot 3)) (.nil)))) [3]) (.lst (.cons (.tup (.cons (.cst (.int 0)) (.cons (.cst (.int 1)) (.nil)))) (.nil))))) (.nil))) (.cons (.ret (.slot 0)) (.nil))
def f__law_derived : XFn := ⟨["line", "order", "turn", "k"], ["line", "order"], defScope (top 46), defBody (top 46), x__law_derived⟩
def x__law_agreeing : XB := .cons (.set 3 false (.neg (.cst (.int 1)))) (.cons (.forr (.name 4) (.rng (.cons (.b1 .len (.slot 0)) (.nil))) (.cons (.ife (.cmp .ne (.call k__law_at (.cons (.call k__law_derived (.cons (.b1 .list (.slot 0)) (.cons (.slot 4) (.nil)))) (.cons (.tup (.cons (.slot 2) (.cons (.cst (.int 1)) (.nil)))) (.nil)))) (.call k__law_at (.cons (.call k__law_derived (.cons (.b1 .list (.slot 1)) (.cons (.slot 4) (.nil)))) (.cons (.tup (.cons (.slot 2) (.cons (.cst (.int 1)) (.nil)))) (.nil))))) (.cons (.ret (.slot 3)) (.nil)) (.nil)) (.cons (.set 3 false (.slot 4)) (.nil)))) (.cons (.ret (.slot 3)) (.nil)))
def f__law_agreeing : XFn := ⟨["one", "two", "knot", "found", "order"], ["one", "two", "knot"], defScope (top 47), defBody (top 47), x__law_agreeing⟩
def x__law_thinned : XB := .cons (.par [3, 4] [false, false] (.cons (.ix (.slot 0) (.cst (.int 0))) (.cons (.ix (.slot 0) (.cst (.int 1))) (.nil)))) (.cons (.whl (.and (.cmp .gt (.slot 3) (.cst (.int 1))) (.cmp .eq (.lc (.seq (.slot 1)) (.name 9) (.cmp .ne (.ix (.slot 9) (.neg (.cst (.int 1)))) (.tup (.cons (.cst (.int 0)) (.cons (.cst (.int 1)) (.nil))))) (.slot 9) [9]) (.lst (.nil)))) (.cons (.par [3, 1] [false, false] (.cons (.bin .sub (.slot 3) (.cst (.int 1))) (.cons (.b1 .tuple (.lc (.seq (.slot 1)) (.name 9) (.yes) (.sl (.slot 9) .no (.so (.neg (.cst (.int 1))))) [9])) (.nil)))) (.nil))) (.cons (.par [5, 6, 7] [true, true, true] (.cons (.lst (.cons (.ix (.slot 1) (.cst (.int 0))) (.nil))) (.cons (.lst (.nil)) (.cons (.lst (.nil)) (.nil))))) (.cons (.forr (.name 2) (.rng (.cons (.cst (.int 1)) (.cons (.b1 .len (.slot 1)) (.nil)))) (.cons (.set 8 false (.call k__law_agreeing (.cons (.ix (.slot 1) (.bin .sub (.slot 2) (.cst (.int 1)))) (.cons (.ix (.slot 1) (.slot 2)) (.cons (.ix (.slot 4) (.slot 2)) (.nil)))))) (.cons (.ife (.cmp .lt (.slot 8) (.slot 3)) (.cons (.m1 5 .app (.ix (.slot 1) (.slot 2))) (.cons (.m1 6 .app (.ix (.slot 4) (.slot 2))) (.cons (.m1 7 .app (.slot 8)) (.nil)))) (.nil)) (.nil)))) (.cons (.ret (.tup (.cons (.tup (.cons (.slot 3) (.cons (.bin .add (.bin .add (.sl (.slot 4) .no (.so (.cst (.int 1)))) (.b1 .tuple (.slot 6))) (.sl (.slot 4) (.so (.neg (.cst (.int 1)))) .no)) (.cons (.b1 .tuple (.slot 7)) (.nil))))) (.cons (.b1 .tuple (.slot 5)) (.nil))))) (.nil)))))
def f__law_thinned : XFn := ⟨["kind", "line", "k", "degree", "knots", "found", "inner", "joints", "joint", "piece"], ["kind", "line"], defScope (top 48), defBody (top 48), x__law_thinned⟩
def x_law : XB := .cons (.set 1 false (.call k__law_town (.cons (.slot 0) (.nil)))) (.cons (.set 2 false (.call k__law_kind (.cons (.slot 0) (.cons (.slot 1) (.cons (.cst (.int 6)) (.nil)))))) (.cons (.asg (.tup [.name 10, .name 11, .name 12]) (.slot 2)) (.cons (.set 3 false (.tup (.cons (.slot 10) (.cons (.slot 11) (.cons (.b1 .tuple (.lc (.seq (.slot 12)) (.name 17) (.yes) (.call k__law_pick (.cons (.slot 0) (.cons (.slot 1) (.cons (.lst (.cons (.slot 17) (.cons (.bin .sub (.slot 10) (.cst (.int 1))) (.nil)))) (.nil))))) [17])) (.nil)))))) (.cons (.set 4 false (.call k__law_function (.cons (.slot 0) (.cons (.slot 1) (.cons (.slot 3) (.cons (.call k__law_pick (.cons (.slot 0) (.cons (.slot 1) (.cons (.lst (.cons (.cst (.int 1)) (.cons (.cst (.int 1)) (.cons (.cst (.int 4)) (.nil))))) (.nil))))) (.nil))))))) (.cons (.ife (.cmp .eq (.call k__law_draw (.cons (.slot 0) (.cons (.slot 1) (.cons (.cst (.int 3)) (.nil))))) (.cst (.int 0))) (.cons (.set 4 false (.bin .mul (.b1 .tuple (.lc (.seq (.sl (.slot 4) .no (.so (.cst (.int 1))))) (.name 18) (.yes) (.bin .add (.sl (.slot 18) .no (.so (.neg (.cst (.int 1))))) (.tup (.cons (.tup (.cons (.cst (.int 0)) (.cons (.cst (.int 1)) (.nil)))) (.nil)))) [18])) (.b1 .len (.slot 4)))) (.nil)) (.nil)) (.cons (.set 5 false (.lc (.rng (.cons (.b1 .len (.slot 12)) (.nil))) (.name 14) (.yes) (.call k__law_agreeing (.cons (.ix (.slot 4) (.slot 14)) (.cons (.ix (.slot 4) (.bin .add (.slot 14) (.cst (.int 1)))) (.cons (.ix (.slot 11) (.bin .add (.slot 14) (.cst (.int 1)))) (.nil))))) [14])) (.cons (.ife (.cmp .ne (.call k_joints_of (.cons (.slot 2) (.cons (.slot 4) (.nil)))) (.b1 .tuple (.slot 5))) (.cons (.ret (.cst (.bl false))) (.nil)) (.nil)) (.cons (.set 6 false (.call k__law_thinned (.cons (.slot 2) (.cons (.slot 4) (.nil))))) (.cons (.ife (.or (.cmp .ne (.call k_thinned (.cons (.slot 2) (.cons (.slot 4) (.nil)))) (.slot 6)) (.cmp .isnot (.call k_is_function (.cons (.ix (.slot 6) (.cst (.int 0))) (.cons (.ix (.slot 6) (.cst (.int 1))) (.nil)))) (.cst (.bl true)))) (.cons (.ret (.cst (.bl false))) (.nil)) (.nil)) (.cons (.ife (.or (.cmp .isnot (.call k_are_same (.cons (.slot 2) (.cons (.slot 4) (.cons (.ix (.slot 6) (.cst (.int 0))) (.cons (.ix (.slot 6) (.cst (.int 1))) (.nil)))))) (.cst (.bl true))) (.cmp .ne (.call k_thinned (.cons (.ix (.slot 6) (.cst (.int 0))) (.cons (.ix (.slot 6) (.cst (.int 1))) (.nil)))) (.slot 6))) (.cons (.ret (.cst (.bl false))) (.nil)) (.nil)) (.cons (.set 7 false (.call k__law_function (.cons (.slot 0) (.cons (.slot 1) (.cons (.slot 2) (.cons (.cst (.int 1)) (.nil))))))) (.cons (.ife (.cmp .ne (.call k_are_same (.cons (.slot 2) (.cons (.slot 4) (.cons (.slot 2) (.cons (.slot 7) (.nil)))))) (.cmp .eq (.slot 4) (.slot 7))) (.cons (.ret (.cst (.bl false))) (.nil)) (.nil)) (.cons (.set 8 false (.bin .add (.bin .add (.ix (.slot 11) (.cst (.int 0))) (.cst (.int 1))) (.call k__law_draw (.cons (.slot 0) (.cons (.slot 1) (.cons (.bin .sub (.ix (.slot 11) (.neg (.cst (.int 1)))) (.ix (.slot 11) (.cst (.int 0)))) (.nil))))))) (.cons (.ife (.and (.cmp .lt (.slot 8) (.ix (.slot 11) (.neg (.cst (.int 1))))) (.and (.cmp .notin (.slot 8) (.slot 11)) (.cmp .lt (.b1 .len (.slot 11)) (.cst (.int 6))))) (.cons (.asg (.tup [.name 15, .name 16]) (.call k_with_knot (.cons (.slot 2) (.cons (.slot 4) (.cons (.slot 8) (.nil)))))) (.cons (.set 13 false (.ix (.lc (.rng (.cons (.b1 .len (.slot 11)) (.nil))) (.name 14) (.cmp .lt (.ix (.slot 11) (.slot 14)) (.slot 8)) (.slot 14) [14]) (.neg (.cst (.int 1))))) (.cons (.ife (.cmp .ne (.slot 15) (.tup (.cons (.slot 10) (.cons (.bin .add (.bin .add (.sl (.slot 11) .no (.so (.bin .add (.slot 13) (.cst (.int 1))))) (.tup (.cons (.slot 8) (.nil)))) (.sl (.slot 11) (.so (.bin .add (.slot 13) (.cst (.int 1)))) .no)) (.cons (.bin .add (.bin .add (.sl (.slot 12) .no (.so (.slot 13))) (.tup (.cons (.bin .sub (.slot 10) (.cst (.int 1))) (.nil)))) (.sl (.slot 12) (.so (.slot 13)) .no)) (.nil)))))) (.cons (.ret (.cst (.bl false))) (.nil)) (.nil)) (.cons (.ife (.or (.cmp .ne (.slot 16) (.bin .add (.sl (.slot 4) .no (.so (.bin .add (.slot 13) (.cst (.int 1))))) (.sl (.slot 4) (.so (.slot 13)) .no))) (.cmp .isnot (.call k_are_same (.cons (.slot 2) (.cons (.slot 4) (.cons (.slot 15) (.cons (.slot 16) (.nil)))))) (.cst (.bl true)))) (.cons (.ret (.cst (.bl false))) (.nil)) (.nil)) (.nil))))) (.nil)) (.cons (.set 9 false (.tup (.cons (.slot 10) (.cons (.bin .add (.sl (.slot 11) .no (.so (.neg (.cst (.int 1))))) (.tup (.cons (.bin .add (.ix (.slot 11) (.neg (.cst (.int 1)))) (.cst (.int 1))) (.nil)))) (.cons (.slot 12) (.nil)))))) (.cons (.ret (.cmp .is (.call k_are_same (.cons (.slot 2) (.cons (.slot 4) (.cons (.slot 9) (.cons (.slot 4) (.nil)))))) (.cst (.bl false)))) (.nil)))))))))))))))))
def f_law : XFn := ⟨["script", "town", "kind", "smooth", "line", "told", "due", "other", "knot", "wide", "degree", "knots", "joints", "at", "k", "more", "longer", "joint", "piece"], ["script"], defScope (top 49), defBody (top 49), x_law⟩
def p_is_between : Addr × He.DefD := (82, mkD ("is_between", none) "is_between" "is_between" (top 7))
def p_divisor_of : Addr × He.DefD := (89, mkD ("divisor_of", none) "divisor_of" "divisor_of" (top 8))
def p_fraction : Addr × He.DefD := (96, mkD ("fraction", none) "fraction" "fraction" (top 9))
def p_plus : Addr × He.DefD := (103, mkD ("plus", none) "plus" "plus" (top 10))
def p_by_factor : Addr × He.DefD := (110, mkD ("by_factor", none) "by_factor" "by_factor" (top 11))
def p_is_number : Addr × He.DefD := (115, mkD ("is_number", none) "is_number" "is_number" (top 12))
def p_is_kind : Addr × He.DefD := (120, mkD ("is_kind", none) "is_kind" "is_kind" (top 14))
def p_check_kind : Addr × He.DefD := (127, mkD ("check_kind", none) "check_kind" "check_kind" (top 15))
def p_piece_at : Addr × He.DefD := (134, mkD ("piece_at", none) "piece_at" "piece_at" (top 16))
def p_at_place : Addr × He.DefD := (141, mkD ("at_place", none) "at_place" "at_place" (top 18))
def p_derivative : Addr × He.DefD := (146, mkD ("derivative", none) "derivative" "derivative" (top 19))
def p_derivatives : Addr × He.DefD := (153, mkD ("derivatives", none) "derivatives" "derivatives" (top 20))
def p_agreeing : Addr × He.DefD := (160, mkD ("agreeing", none) "agreeing" "agreeing" (top 22))
def p_is_rows : Addr × He.DefD := (165, mkD ("is_rows", none) "is_rows" "is_rows" (top 23))
def p_does_join : Addr × He.DefD := (170, mkD ("does_join", none) "does_join" "does_join" (top 24))
def p_is_function : Addr × He.DefD := (177, mkD ("is_function", none) "is_function" "is_function" (top 25))
def p_check_function : Addr × He.DefD := (184, mkD ("check_function", none) "check_function" "check_function" (top 26))
def p_check_both : Addr × He.DefD := (191, mkD ("check_both", none) "check_both" "check_both" (top 27))
def p_found_joints : Addr × He.DefD := (196, mkD ("found_joints", none) "found_joints" "found_joints" (top 28))
def p_joints_of : Addr × He.DefD := (203, mkD ("joints_of", none) "joints_of" "joints_of" (top 29))
def p_found_thinned : Addr × He.DefD := (208, mkD ("found_thinned", none) "found_thinned" "found_thinned" (top 30))
def p_thinned : Addr × He.DefD := (215, mkD ("thinned", none) "thinned" "thinned" (top 31))
def p_are_same : Addr × He.DefD := (222, mkD ("are_same", none) "are_same" "are_same" (top 32))
def p_with_knot : Addr × He.DefD := (229, mkD ("with_knot", none) "with_knot" "with_knot" (top 33))
def p__law_town : Addr × He.DefD := (236, mkD ("_law_town", none) "_law_town" "_law_town" (top 35))
def p__law_draw : Addr × He.DefD := (243, mkD ("_law_draw", none) "_law_draw" "_law_draw" (top 36))
def p__law_pick : Addr × He.DefD := (250, mkD ("_law_pick", none) "_law_pick" "_law_pick" (top 37))
def p__law_ratio : Addr × He.DefD := (257, mkD ("_law_ratio", none) "_law_ratio" "_law_ratio" (top 38))
def p__law_plus : Addr × He.DefD := (264, mkD ("_law_plus", none) "_law_plus" "_law_plus" (top 39))
def p__law_times : Addr × He.DefD := (271, mkD ("_law_times", none) "_law_times" "_law_times" (top 40))
def p__law_fraction : Addr × He.DefD := (278, mkD ("_law_fraction", none) "_law_fraction" "_law_fraction" (top 41))
def p__law_kind : Addr × He.DefD := (283, mkD ("_law_kind", none) "_law_kind" "_law_kind" (top 42))
def p__law_cut : Addr × He.DefD := (288, mkD ("_law_cut", none) "_law_cut" "_law_cut" (top 43))
def p__law_function : Addr × He.DefD := (293, mkD ("_law_function", none) "_law_function" "_law_function" (top 44))
def p__law_at : Addr × He.DefD := (300, mkD ("_law_at", none) "_law_at" "_law_at" (top 45))
def p__law_derived : Addr × He.DefD := (305, mkD ("_law_derived", none) "_law_derived" "_law_derived" (top 46))
def p__law_agreeing : Addr × He.DefD := (312, mkD ("_law_agreeing", none) "_law_agreeing" "_law_agreeing" (top 47))
def p__law_thinned : Addr × He.DefD := (317, mkD ("_law_thinned", none) "_law_thinned" "_law_thinned" (top 48))
def p_law : Addr × He.DefD := (322, mkD ("law", none) "law" "law" (top 49))
def fnL0 : List (Option XFn) := [some f_is_between, some f_divisor_of, some f_fraction, some f_plus, some f_by_factor, some f_is_number, some f_is_kind, some f_check_kind, some f_piece_at, some f_at_place, some f_derivative, some f_derivatives, some f_agreeing, some f_is_rows, some f_does_join, some f_is_function, some f_check_function, some f_check_both, some f_found_joints, some f_joints_of]
def fnL20 : List (Option XFn) := [some f_found_thinned, some f_thinned, some f_are_same, some f_with_knot, some f__law_town, some f__law_draw, some f__law_pick, some f__law_ratio, some f__law_plus, some f__law_times, some f__law_fraction, some f__law_kind, some f__law_cut, some f__law_function, some f__law_at, some f__law_derived, some f__law_agreeing, some f__law_thinned, some f_law]
def fnL : List (Option XFn) := fnL0 ++ fnL20
def fnP0 : List (Addr × He.DefD) := [p_is_between, p_divisor_of, p_fraction, p_plus, p_by_factor, p_is_number, p_is_kind, p_check_kind, p_piece_at, p_at_place, p_derivative, p_derivatives, p_agreeing, p_is_rows, p_does_join, p_is_function, p_check_function, p_check_both, p_found_joints, p_joints_of]
def fnP20 : List (Addr × He.DefD) := [p_found_thinned, p_thinned, p_are_same, p_with_knot, p__law_town, p__law_draw, p__law_pick, p__law_ratio, p__law_plus, p__law_times, p__law_fraction, p__law_kind, p__law_cut, p__law_function, p__law_at, p__law_derived, p__law_agreeing, p__law_thinned, p_law]
def fnP : List (Addr × He.DefD) := fnP0 ++ fnP20
def fnT0 : List (Str × Nat) := [("is_between", 0), ("divisor_of", 1), ("fraction", 2), ("plus", 3), ("by_factor", 4), ("is_number", 5), ("is_kind", 6), ("check_kind", 7), ("piece_at", 8), ("at_place", 9), ("derivative", 10), ("derivatives", 11), ("agreeing", 12), ("is_rows", 13), ("does_join", 14), ("is_function", 15), ("check_function", 16), ("check_both", 17), ("found_joints", 18), ("joints_of", 19)]
def fnT20 : List (Str × Nat) := [("found_thinned", 20), ("thinned", 21), ("are_same", 22), ("with_knot", 23), ("_law_town", 24), ("_law_draw", 25), ("_law_pick", 26), ("_law_ratio", 27), ("_law_plus", 28), ("_law_times", 29), ("_law_fraction", 30), ("_law_kind", 31), ("_law_cut", 32), ("_law_function", 33), ("_law_at", 34), ("_law_derived", 35), ("_law_agreeing", 36), ("_law_thinned", 37), ("law", 38)]
def fnT : List (Str × Nat) := fnT0 ++ fnT20
def arT0 : List (Option Nat) := [some 3, some 2, some 2, some 2, some 2, some 1, some 1, some 1, some 2, some 2, some 1, some 2, some 3, some 2, some 2, some 2, some 2, some 2, some 2, some 2]
def arT20 : List (Option Nat) := [some 2, some 2, some 4, some 3, some 1, some 3, some 3, some 2, some 2, some 2, some 3, some 3, some 3, some 4, some 2, some 2, some 3, some 2, some 1]
def arT : List (Option Nat) := arT0 ++ arT20
def glT0 : List (Str × Addr) := [("is_between", 82), ("divisor_of", 89), ("fraction", 96), ("plus", 103), ("by_factor", 110), ("is_number", 115), ("is_kind", 120), ("check_kind", 127), ("piece_at", 134), ("at_place", 141), ("derivative", 146), ("derivatives", 153), ("agreeing", 160), ("is_rows", 165), ("does_join", 170), ("is_function", 177), ("check_function", 184), ("check_both", 191), ("found_joints", 196), ("joints_of", 203)]
def glT20 : List (Str × Addr) := [("found_thinned", 208), ("thinned", 215), ("are_same", 222), ("with_knot", 229), ("_law_town", 236), ("_law_draw", 243), ("_law_pick", 250), ("_law_ratio", 257), ("_law_plus", 264), ("_law_times", 271), ("_law_fraction", 278), ("_law_kind", 283), ("_law_cut", 288), ("_law_function", 293), ("_law_at", 300), ("_law_derived", 305), ("_law_agreeing", 312), ("_law_thinned", 317), ("law", 322), ("JointError", 24)]
def glT40 : List (Str × Addr) := [("InvalidKind", 37), ("InvalidFunction", 49), ("InvalidKnot", 61), ("TooMany", 73)]
def glT : List (Str × Addr) := glT0 ++ glT20 ++ glT40
def clT : List (Str × Nat) := []
def exT : List (Str × Nat) := [("JointError", 0), ("InvalidKind", 1), ("InvalidFunction", 2), ("InvalidKnot", 3), ("TooMany", 4)]
def fdT : List (Str × List Nat) := []
def meT : List (Nat × List (Str × Nat)) := []
def mkT : List (Nat × Nat) := []
def clsH : List (Addr × List Str × List (Str × Addr) × Addr) := []
def hd : HD := ⟨List.range 323, fnP, glT, ["len", "range", "zip", "enumerate", "isinstance", "all", "any", "sum", "max", "min", "abs", "tuple", "list", "int", "bool", "str", "sorted", "dict", "set", "ValueError"], [24, 37, 49, 61, 73], 24, clsH⟩
def ld : LD := ⟨hd, fnT, arT, fnL, clT, exT, fdT, meT, mkT, [24, 37, 49, 61, 73]⟩
abbrev T : Tab := ld.tab
abbrev fs : Nat → Option XFn := fun k => (ld.fs[k]?).getD none
theorem fit : ld.fit = true := by decide +kernel
theorem c_is_between : cB (ld.tab.at f_is_between) 400 f_is_between.sc f_is_between.x f_is_between.body = true := by decide +kernel
theorem s_is_between : FnScope f_is_between.N f_is_between.ps f_is_between.sc := C8.fnScope_by (by decide +kernel)
theorem e_is_between : fs k_is_between = some f_is_between := rfl
theorem b_is_between : ∀ (kV doc pm : Value) (an : Option Addr) (cdv ct : Value) (us : List Value), us.length = f_is_between.ps.length → bindArgs (PySem.W.fnOf p_is_between.2.name p_is_between.2.qual p_is_between.2.params p_is_between.2.body p_is_between.2.scope .none kV doc pm an cdv ct) ⟨us, []⟩ = pure (f_is_between.ps.zip us) := fun _ _ _ _ _ _ us hl => match us, hl with | [_, _, _], _ => rfl
theorem c_divisor_of : cB (ld.tab.at f_divisor_of) 400 f_divisor_of.sc f_divisor_of.x f_divisor_of.body = true := by decide +kernel
theorem s_divisor_of : FnScope f_divisor_of.N f_divisor_of.ps f_divisor_of.sc := C8.fnScope_by (by decide +kernel)
theorem e_divisor_of : fs k_divisor_of = some f_divisor_of := rfl
theorem b_divisor_of : ∀ (kV doc pm : Value) (an : Option Addr) (cdv ct : Value) (us : List Value), us.length = f_divisor_of.ps.length → bindArgs (PySem.W.fnOf p_divisor_of.2.name p_divisor_of.2.qual p_divisor_of.2.params p_divisor_of.2.body p_divisor_of.2.scope .none kV doc pm an cdv ct) ⟨us, []⟩ = pure (f_divisor_of.ps.zip us) := fun _ _ _ _ _ _ us hl => match us, hl with | [_, _], _ => rfl
theorem c_fraction : cB (ld.tab.at f_fraction) 400 f_fraction.sc f_fraction.x f_fraction.body = true := by decide +kernel
theorem s_fraction : FnScope f_fraction.N f_fraction.ps f_fraction.sc := C8.fnScope_by (by decide +kernel)
theorem e_fraction : fs k_fraction = some f_fraction := rfl
theorem b_fraction : ∀ (kV doc pm : Value) (an : Option Addr) (cdv ct : Value) (us : List Value), us.length = f_fraction.ps.length → bindArgs (PySem.W.fnOf p_fraction.2.name p_fraction.2.qual p_fraction.2.params p_fraction.2.body p_fraction.2.scope .none kV doc pm an cdv ct) ⟨us, []⟩ = pure (f_fraction.ps.zip us) := fun _ _ _ _ _ _ us hl => match us, hl with | [_, _], _ => rfl
theorem c_plus : cB (ld.tab.at f_plus) 400 f_plus.sc f_plus.x f_plus.body = true := by decide +kernel
theorem s_plus : FnScope f_plus.N f_plus.ps f_plus.sc := C8.fnScope_by (by decide +kernel)
theorem e_plus : fs k_plus = some f_plus := rfl
theorem b_plus : ∀ (kV doc pm : Value) (an : Option Addr) (cdv ct : Value) (us : List Value), us.length = f_plus.ps.length → bindArgs (PySem.W.fnOf p_plus.2.name p_plus.2.qual p_plus.2.params p_plus.2.body p_plus.2.scope .none kV doc pm an cdv ct) ⟨us, []⟩ = pure (f_plus.ps.zip us) := fun _ _ _ _ _ _ us hl => match us, hl with | [_, _], _ => rfl
theorem c_by_factor : cB (ld.tab.at f_by_factor) 400 f_by_factor.sc f_by_factor.x f_by_factor.body = true := by decide +kernel
theorem s_by_factor : FnScope f_by_factor.N f_by_factor.ps f_by_factor.sc := C8.fnScope_by (by decide +kernel)
theorem e_by_factor : fs k_by_factor = some f_by_factor := rfl
theorem b_by_factor : ∀ (kV doc pm : Value) (an : Option Addr) (cdv ct : Value) (us : List Value), us.length = f_by_factor.ps.length → bindArgs (PySem.W.fnOf p_by_factor.2.name p_by_factor.2.qual p_by_factor.2.params p_by_factor.2.body p_by_factor.2.scope .none kV doc pm an cdv ct) ⟨us, []⟩ = pure (f_by_factor.ps.zip us) := fun _ _ _ _ _ _ us hl => match us, hl with | [_, _], _ => rfl
theorem c_is_number : cB (ld.tab.at f_is_number) 400 f_is_number.sc f_is_number.x f_is_number.body = true := by decide +kernel
theorem s_is_number : FnScope f_is_number.N f_is_number.ps f_is_number.sc := C8.fnScope_by (by decide +kernel)
theorem e_is_number : fs k_is_number = some f_is_number := rfl
theorem b_is_number : ∀ (kV doc pm : Value) (an : Option Addr) (cdv ct : Value) (us : List Value), us.length = f_is_number.ps.length → bindArgs (PySem.W.fnOf p_is_number.2.name p_is_number.2.qual p_is_number.2.params p_is_number.2.body p_is_number.2.scope .none kV doc pm an cdv ct) ⟨us, []⟩ = pure (f_is_number.ps.zip us) := fun _ _ _ _ _ _ us hl => match us, hl with | [_], _ => rfl
theorem c_is_kind : cB (ld.tab.at f_is_kind) 400 f_is_kind.sc f_is_kind.x f_is_kind.body = true := by decide +kernel
theorem s_is_kind : FnScope f_is_kind.N f_is_kind.ps f_is_kind.sc := C8.fnScope_by (by decide +kernel)
theorem e_is_kind : fs k_is_kind = some f_is_kind := rfl
theorem b_is_kind : ∀ (kV doc pm : Value) (an : Option Addr) (cdv ct : Value) (us : List Value), us.length = f_is_kind.ps.length → bindArgs (PySem.W.fnOf p_is_kind.2.name p_is_kind.2.qual p_is_kind.2.params p_is_kind.2.body p_is_kind.2.scope .none kV doc pm an cdv ct) ⟨us, []⟩ = pure (f_is_kind.ps.zip us) := fun _ _ _ _ _ _ us hl => match us, hl with | [_], _ => rfl
theorem c_check_kind : cB (ld.tab.at f_check_kind) 400 f_check_kind.sc f_check_kind.x f_check_kind.body = true := by decide +kernel
theorem s_check_kind : FnScope f_check_kind.N f_check_kind.ps f_check_kind.sc := C8.fnScope_by (by decide +kernel)
theorem e_check_kind : fs k_check_kind = some f_check_kind := rfl
theorem b_check_kind : ∀ (kV doc pm : Value) (an : Option Addr) (cdv ct : Value) (us : List Value), us.length = f_check_kind.ps.length → bindArgs (PySem.W.fnOf p_check_kind.2.name p_check_kind.2.qual p_check_kind.2.params p_check_kind.2.body p_check_kind.2.scope .none kV doc pm an cdv ct) ⟨us, []⟩ = pure (f_check_kind.ps.zip us) := fun _ _ _ _ _ _ us hl => match us, hl with | [_], _ => rfl
theorem c_piece_at : cB (ld.tab.at f_piece_at) 400 f_piece_at.sc f_piece_at.x f_piece_at.body = true := by decide +kernel
theorem s_piece_at : FnScope f_piece_at.N f_piece_at.ps f_piece_at.sc := C8.fnScope_by (by decide +kernel)
theorem e_piece_at : fs k_piece_at = some f_piece_at := rfl
theorem b_piece_at : ∀ (kV doc pm : Value) (an : Option Addr) (cdv ct : Value) (us : List Value), us.length = f_piece_at.ps.length → bindArgs (PySem.W.fnOf p_piece_at.2.name p_piece_at.2.qual p_piece_at.2.params p_piece_at.2.body p_piece_at.2.scope .none kV doc pm an cdv ct) ⟨us, []⟩ = pure (f_piece_at.ps.zip us) := fun _ _ _ _ _ _ us hl => match us, hl with | [_, _], _ => rfl
theorem c_at_place : cB (ld.tab.at f_at_place) 400 f_at_place.sc f_at_place.x f_at_place.body = true := by decide +kernel
theorem s_at_place : FnScope f_at_place.N f_at_place.ps f_at_place.sc := C8.fnScope_by (by decide +kernel)
theorem e_at_place : fs k_at_place = some f_at_place := rfl
theorem b_at_place : ∀ (kV doc pm : Value) (an : Option Addr) (cdv ct : Value) (us : List Value), us.length = f_at_place.ps.length → bindArgs (PySem.W.fnOf p_at_place.2.name p_at_place.2.qual p_at_place.2.params p_at_place.2.body p_at_place.2.scope .none kV doc pm an cdv ct) ⟨us, []⟩ = pure (f_at_place.ps.zip us) := fun _ _ _ _ _ _ us hl => match us, hl with | [_, _], _ => rfl
theorem c_derivative : cB (ld.tab.at f_derivative) 400 f_derivative.sc f_derivative.x f_derivative.body = true := by decide +kernel
theorem s_derivative : FnScope f_derivative.N f_derivative.ps f_derivative.sc := C8.fnScope_by (by decide +kernel)
theorem e_derivative : fs k_derivative = some f_derivative := rfl
theorem b_derivative : ∀ (kV doc pm : Value) (an : Option Addr) (cdv ct : Value) (us : List Value), us.length = f_derivative.ps.length → bindArgs (PySem.W.fnOf p_derivative.2.name p_derivative.2.qual p_derivative.2.params p_derivative.2.body p_derivative.2.scope .none kV doc pm an cdv ct) ⟨us, []⟩ = pure (f_derivative.ps.zip us) := fun _ _ _ _ _ _ us hl => match us, hl with | [_], _ => rfl
theorem c_derivatives : cB (ld.tab.at f_derivatives) 400 f_derivatives.sc f_derivatives.x f_derivatives.body = true := by decide +kernel
theorem s_derivatives : FnScope f_derivatives.N f_derivatives.ps f_derivatives.sc := C8.fnScope_by (by decide +kernel)
theorem e_derivatives : fs k_derivatives = some f_derivatives := rfl
theorem b_derivatives : ∀ (kV doc pm : Value) (an : Option Addr) (cdv ct : Value) (us : List Value), us.length = f_derivatives.ps.length → bindArgs (PySem.W.fnOf p_derivatives.2.name p_derivatives.2.qual p_derivatives.2.params p_derivatives.2.body p_derivatives.2.scope .none kV doc pm an cdv ct) ⟨us, []⟩ = pure (f_derivatives.ps.zip us) := fun _ _ _ _ _ _ us hl => match us, hl with | [_, _], _ => rfl
theorem c_agreeing : cB (ld.tab.at f_agreeing) 400 f_agreeing.sc f_agreeing.x f_agreeing.body = true := by decide +kernel
theorem s_agreeing : FnScope f_agreeing.N f_agreeing.ps f_agreeing.sc := C8.fnScope_by (by decide +kernel)
theorem e_agreeing : fs k_agreeing = some f_agreeing := rfl
theorem b_agreeing : ∀ (kV doc pm : Value) (an : Option Addr) (cdv ct : Value) (us : List Value), us.length = f_agreeing.ps.length → bindArgs (PySem.W.fnOf p_agreeing.2.name p_agreeing.2.qual p_agreeing.2.params p_agreeing.2.body p_agreeing.2.scope .none kV doc pm an cdv ct) ⟨us, []⟩ = pure (f_agreeing.ps.zip us) := fun _ _ _ _ _ _ us hl => match us, hl with | [_, _, _], _ => rfl
theorem c_is_rows : cB (ld.tab.at f_is_rows) 400 f_is_rows.sc f_is_rows.x f_is_rows.body = true := by decide +kernel
theorem s_is_rows : FnScope f_is_rows.N f_is_rows.ps f_is_rows.sc := C8.fnScope_by (by decide +kernel)
theorem e_is_rows : fs k_is_rows = some f_is_rows := rfl
theorem b_is_rows : ∀ (kV doc pm : Value) (an : Option Addr) (cdv ct : Value) (us : List Value), us.length = f_is_rows.ps.length → bindArgs (PySem.W.fnOf p_is_rows.2.name p_is_rows.2.qual p_is_rows.2.params p_is_rows.2.body p_is_rows.2.scope .none kV doc pm an cdv ct) ⟨us, []⟩ = pure (f_is_rows.ps.zip us) := fun _ _ _ _ _ _ us hl => match us, hl with | [_, _], _ => rfl
theorem c_does_join : cB (ld.tab.at f_does_join) 400 f_does_join.sc f_does_join.x f_does_join.body = true := by decide +kernel
theorem s_does_join : FnScope f_does_join.N f_does_join.ps f_does_join.sc := C8.fnScope_by (by decide +kernel)
theorem e_does_join : fs k_does_join = some f_does_join := rfl
theorem b_does_join : ∀ (kV doc pm : Value) (an : Option Addr) (cdv ct : Value) (us : List Value), us.length = f_does_join.ps.length → bindArgs (PySem.W.fnOf p_does_join.2.name p_does_join.2.qual p_does_join.2.params p_does_join.2.body p_does_join.2.scope .none kV doc pm an cdv ct) ⟨us, []⟩ = pure (f_does_join.ps.zip us) := fun _ _ _ _ _ _ us hl => match us, hl with | [_, _], _ => rfl
theorem c_is_function : cB (ld.tab.at f_is_function) 400 f_is_function.sc f_is_function.x f_is_function.body = true := by decide +kernel
theorem s_is_function : FnScope f_is_function.N f_is_function.ps f_is_function.sc := C8.fnScope_by (by decide +kernel)
theorem e_is_function : fs k_is_function = some f_is_function := rfl
theorem b_is_function : ∀ (kV doc pm : Value) (an : Option Addr) (cdv ct : Value) (us : List Value), us.length = f_is_function.ps.length → bindArgs (PySem.W.fnOf p_is_function.2.name p_is_function.2.qual p_is_function.2.params p_is_function.2.body p_is_function.2.scope .none kV doc pm an cdv ct) ⟨us, []⟩ = pure (f_is_function.ps.zip us) := fun _ _ _ _ _ _ us hl => match us, hl with | [_, _], _ => rfl
theorem c_check_function : cB (ld.tab.at f_check_function) 400 f_check_function.sc f_check_function.x f_check_function.body = true := by decide +kernel
theorem s_check_function : FnScope f_check_function.N f_check_function.ps f_check_function.sc := C8.fnScope_by (by decide +kernel)
theorem e_check_function : fs k_check_function = some f_check_function := rfl
theorem b_check_function : ∀ (kV doc pm : Value) (an : Option Addr) (cdv ct : Value) (us : List Value), us.length = f_check_function.ps.length → bindArgs (PySem.W.fnOf p_check_function.2.name p_check_function.2.qual p_check_function.2.params p_check_function.2.body p_check_function.2.scope .none kV doc pm an cdv ct) ⟨us, []⟩ = pure (f_check_function.ps.zip us) := fun _ _ _ _ _ _ us hl => match us, hl with | [_, _], _ => rfl
theorem c_check_both : cB (ld.tab.at f_check_both) 400 f_check_both.sc f_check_both.x f_check_both.body = true := by decide +kernel
theorem s_check_both : FnScope f_check_both.N f_check_both.ps f_check_both.sc := C8.fnScope_by (by decide +kernel)
theorem e_check_both : fs k_check_both = some f_check_both := rfl
theorem b_check_both : ∀ (kV doc pm : Value) (an : Option Addr) (cdv ct : Value) (us : List Value), us.length = f_check_both.ps.length → bindArgs (PySem.W.fnOf p_check_both.2.name p_check_both.2.qual p_check_both.2.params p_check_both.2.body p_check_both.2.scope .none kV doc pm an cdv ct) ⟨us, []⟩ = pure (f_check_both.ps.zip us) := fun _ _ _ _ _ _ us hl => match us, hl with | [_, _], _ => rfl
theorem c_found_joints : cB (ld.tab.at f_found_joints) 400 f_found_joints.sc f_found_joints.x f_found_joints.body = true := by decide +kernel
theorem s_found_joints : FnScope f_found_joints.N f_found_joints.ps f_found_joints.sc := C8.fnScope_by (by decide +kernel)
theorem e_found_joints : fs k_found_joints = some f_found_joints := rfl
theorem b_found_joints : ∀ (kV doc pm : Value) (an : Option Addr) (cdv ct : Value) (us : List Value), us.length = f_found_joints.ps.length → bindArgs (PySem.W.fnOf p_found_joints.2.name p_found_joints.2.qual p_found_joints.2.params p_found_joints.2.body p_found_joints.2.scope .none kV doc pm an cdv ct) ⟨us, []⟩ = pure (f_found_joints.ps.zip us) := fun _ _ _ _ _ _ us hl => match us, hl with | [_, _], _ => rfl
theorem c_joints_of : cB (ld.tab.at f_joints_of) 400 f_joints_of.sc f_joints_of.x f_joints_of.body = true := by decide +kernel
theorem s_joints_of : FnScope f_joints_of.N f_joints_of.ps f_joints_of.sc := C8.fnScope_by (by decide +kernel)
theorem e_joints_of : fs k_joints_of = some f_joints_of := rfl
theorem b_joints_of : ∀ (kV doc pm : Value) (an : Option Addr) (cdv ct : Value) (us : List Value), us.length = f_joints_of.ps.length → bindArgs (PySem.W.fnOf p_joints_of.2.name p_joints_of.2.qual p_joints_of.2.params p_joints_of.2.body p_joints_of.2.scope .none kV doc pm an cdv ct) ⟨us, []⟩ = pure (f_joints_of.ps.zip us) := fun _ _ _ _ _ _ us hl => match us, hl with | [_, _], _ => rfl
theorem c_found_thinned : cB (ld.tab.at f_found_thinned) 400 f_found_thinned.sc f_found_thinned.x f_found_thinned.body = true := by decide +kernel
theorem s_found_thinned : FnScope f_found_thinned.N f_found_thinned.ps f_found_thinned.sc := C8.fnScope_by (by decide +kernel)
theorem e_found_thinned : fs k_found_thinned = some f_found_thinned := rfl
theorem b_found_thinned : ∀ (kV doc pm : Value) (an : Option Addr) (cdv ct : Value) (us : List Value), us.length = f_found_thinned.ps.length → bindArgs (PySem.W.fnOf p_found_thinned.2.name p_found_thinned.2.qual p_found_thinned.2.params p_found_thinned.2.body p_found_thinned.2.scope .none kV doc pm an cdv ct) ⟨us, []⟩ = pure (f_found_thinned.ps.zip us) := fun _ _ _ _ _ _ us hl => match us, hl with | [_, _], _ => rfl
theorem c_thinned : cB (ld.tab.at f_thinned) 400 f_thinned.sc f_thinned.x f_thinned.body = true := by decide +kernel
theorem s_thinned : FnScope f_thinned.N f_thinned.ps f_thinned.sc := C8.fnScope_by (by decide +kernel)
theorem e_thinned : fs k_thinned = some f_thinned := rfl
theorem b_thinned : ∀ (kV doc pm : Value) (an : Option Addr) (cdv ct : Value) (us : List Value), us.length = f_thinned.ps.length → bindArgs (PySem.W.fnOf p_thinned.2.name p_thinned.2.qual p_thinned.2.params p_thinned.2.body p_thinned.2.scope .none kV doc pm an cdv ct) ⟨us, []⟩ = pure (f_thinned.ps.zip us) := fun _ _ _ _ _ _ us hl => match us, hl with | [_, _], _ => rfl
theorem c_are_same : cB (ld.tab.at f_are_same) 400 f_are_same.sc f_are_same.x f_are_same.body = true := by decide +kernel
theorem s_are_same : FnScope f_are_same.N f_are_same.ps f_are_same.sc := C8.fnScope_by (by decide +kernel)
theorem e_are_same : fs k_are_same = some f_are_same := rfl
theorem b_are_same : ∀ (kV doc pm : Value) (an : Option Addr) (cdv ct : Value) (us : List Value), us.length = f_are_same.ps.length → bindArgs (PySem.W.fnOf p_are_same.2.name p_are_same.2.qual p_are_same.2.params p_are_same.2.body p_are_same.2.scope .none kV doc pm an cdv ct) ⟨us, []⟩ = pure (f_are_same.ps.zip us) := fun _ _ _ _ _ _ us hl => match us, hl with | [_, _, _, _], _ => rfl
theorem c_with_knot : cB (ld.tab.at f_with_knot) 400 f_with_knot.sc f_with_knot.x f_with_knot.body = true := by decide +kernel
theorem s_with_knot : FnScope f_with_knot.N f_with_knot.ps f_with_knot.sc := C8.fnScope_by (by decide +kernel)
theorem e_with_knot : fs k_with_knot = some f_with_knot := rfl
theorem b_with_knot : ∀ (kV doc pm : Value) (an : Option Addr) (cdv ct : Value) (us : List Value), us.length = f_with_knot.ps.length → bindArgs (PySem.W.fnOf p_with_knot.2.name p_with_knot.2.qual p_with_knot.2.params p_with_knot.2.body p_with_knot.2.scope .none kV doc pm an cdv ct) ⟨us, []⟩ = pure (f_with_knot.ps.zip us) := fun _ _ _ _ _ _ us hl => match us, hl with | [_, _, _], _ => rfl
theorem c__law_town : cB (ld.tab.at f__law_town) 400 f__law_town.sc f__law_town.x f__law_town.body = true := by decide +kernel
theorem s__law_town : FnScope f__law_town.N f__law_town.ps f__law_town.sc := C8.fnScope_by (by decide +kernel)
theorem e__law_town : fs k__law_town = some f__law_town := rfl
theorem b__law_town : ∀ (kV doc pm : Value) (an : Option Addr) (cdv ct : Value) (us : List Value), us.length = f__law_town.ps.length → bindArgs (PySem.W.fnOf p__law_town.2.name p__law_town.2.qual p__law_town.2.params p__law_town.2.body p__law_town.2.scope .none kV doc pm an cdv ct) ⟨us, []⟩ = pure (f__law_town.ps.zip us) := fun _ _ _ _ _ _ us hl => match us, hl with | [_], _ => rfl
theorem c__law_draw : cB (ld.tab.at f__law_draw) 400 f__law_draw.sc f__law_draw.x f__law_draw.body = true := by decide +kernel
theorem s__law_draw : FnScope f__law_draw.N f__law_draw.ps f__law_draw.sc := C8.fnScope_by (by decide +kernel)
theorem e__law_draw : fs k__law_draw = some f__law_draw := rfl
theorem b__law_draw : ∀ (kV doc pm : Value) (an : Option Addr) (cdv ct : Value) (us : List Value), us.length = f__law_draw.ps.length → bindArgs (PySem.W.fnOf p__law_draw.2.name p__law_draw.2.qual p__law_draw.2.params p__law_draw.2.body p__law_draw.2.scope .none kV doc pm an cdv ct) ⟨us, []⟩ = pure (f__law_draw.ps.zip us) := fun _ _ _ _ _ _ us hl => match us, hl with | [_, _, _], _ => rfl
theorem c__law_pick : cB (ld.tab.at f__law_pick) 400 f__law_pick.sc f__law_pick.x f__law_pick.body = true := by decide +kernel
theorem s__law_pick : FnScope f__law_pick.N f__law_pick.ps f__law_pick.sc := C8.fnScope_by (by decide +kernel)
theorem e__law_pick : fs k__law_pick = some f__law_pick := rfl
theorem b__law_pick : ∀ (kV doc pm : Value) (an : Option Addr) (cdv ct : Value) (us : List Value), us.length = f__law_pick.ps.length → bindArgs (PySem.W.fnOf p__law_pick.2.name p__law_pick.2.qual p__law_pick.2.params p__law_pick.2.body p__law_pick.2.scope .none kV doc pm an cdv ct) ⟨us, []⟩ = pure (f__law_pick.ps.zip us) := fun _ _ _ _ _ _ us hl => match us, hl with | [_, _, _], _ => rfl
theorem c__law_ratio : cB (ld.tab.at f__law_ratio) 400 f__law_ratio.sc f__law_ratio.x f__law_ratio.body = true := by decide +kernel
theorem s__law_ratio : FnScope f__law_ratio.N f__law_ratio.ps f__law_ratio.sc := C8.fnScope_by (by decide +kernel)
theorem e__law_ratio : fs k__law_ratio = some f__law_ratio := rfl
theorem b__law_ratio : ∀ (kV doc pm : Value) (an : Option Addr) (cdv ct : Value) (us : List Value), us.length = f__law_ratio.ps.length → bindArgs (PySem.W.fnOf p__law_ratio.2.name p__law_ratio.2.qual p__law_ratio.2.params p__law_ratio.2.body p__law_ratio.2.scope .none kV doc pm an cdv ct) ⟨us, []⟩ = pure (f__law_ratio.ps.zip us) := fun _ _ _ _ _ _ us hl => match us, hl with | [_, _], _ => rfl
theorem c__law_plus : cB (ld.tab.at f__law_plus) 400 f__law_plus.sc f__law_plus.x f__law_plus.body = true := by decide +kernel
theorem s__law_plus : FnScope f__law_plus.N f__law_plus.ps f__law_plus.sc := C8.fnScope_by (by decide +kernel)
theorem e__law_plus : fs k__law_plus = some f__law_plus := rfl
theorem b__law_plus : ∀ (kV doc pm : Value) (an : Option Addr) (cdv ct : Value) (us : List Value), us.length = f__law_plus.ps.length → bindArgs (PySem.W.fnOf p__law_plus.2.name p__law_plus.2.qual p__law_plus.2.params p__law_plus.2.body p__law_plus.2.scope .none kV doc pm an cdv ct) ⟨us, []⟩ = pure (f__law_plus.ps.zip us) := fun _ _ _ _ _ _ us hl => match us, hl with | [_, _], _ => rfl
theorem c__law_times : cB (ld.tab.at f__law_times) 400 f__law_times.sc f__law_times.x f__law_times.body = true := by decide +kernel
theorem s__law_times : FnScope f__law_times.N f__law_times.ps f__law_times.sc := C8.fnScope_by (by decide +kernel)
theorem e__law_times : fs k__law_times = some f__law_times := rfl
theorem b__law_times : ∀ (kV doc pm : Value) (an : Option Addr) (cdv ct : Value) (us : List Value), us.length = f__law_times.ps.length → bindArgs (PySem.W.fnOf p__law_times.2.name p__law_times.2.qual p__law_times.2.params p__law_times.2.body p__law_times.2.scope .none kV doc pm an cdv ct) ⟨us, []⟩ = pure (f__law_times.ps.zip us) := fun _ _ _ _ _ _ us hl => match us, hl with | [_, _], _ => rfl
theorem c__law_fraction : cB (ld.tab.at f__law_fraction) 400 f__law_fraction.sc f__law_fraction.x f__law_fraction.body = true := by decide +kernel
theorem s__law_fraction : FnScope f__law_fraction.N f__law_fraction.ps f__law_fraction.sc := C8.fnScope_by (by decide +kernel)
theorem e__law_fraction : fs k__law_fraction = some f__law_fraction := rfl
theorem b__law_fraction : ∀ (kV doc pm : Value) (an : Option Addr) (cdv ct : Value) (us : List Value), us.length = f__law_fraction.ps.length → bindArgs (PySem.W.fnOf p__law_fraction.2.name p__law_fraction.2.qual p__law_fraction.2.params p__law_fraction.2.body p__law_fraction.2.scope .none kV doc pm an cdv ct) ⟨us, []⟩ = pure (f__law_fraction.ps.zip us) := fun _ _ _ _ _ _ us hl => match us, hl with | [_, _, _], _ => rfl
theorem c__law_kind : cB (ld.tab.at f__law_kind) 400 f__law_kind.sc f__law_kind.x f__law_kind.body = true := by decide +kernel
theorem s__law_kind : FnScope f__law_kind.N f__law_kind.ps f__law_kind.sc := C8.fnScope_by (by decide +kernel)
theorem e__law_kind : fs k__law_kind = some f__law_kind := rfl
theorem b__law_kind : ∀ (kV doc pm : Value) (an : Option Addr) (cdv ct : Value) (us : List Value), us.length = f__law_kind.ps.length → bindArgs (PySem.W.fnOf p__law_kind.2.name p__law_kind.2.qual p__law_kind.2.params p__law_kind.2.body p__law_kind.2.scope .none kV doc pm an cdv ct) ⟨us, []⟩ = pure (f__law_kind.ps.zip us) := fun _ _ _ _ _ _ us hl => match us, hl with | [_, _, _], _ => rfl
theorem c__law_cut : cB (ld.tab.at f__law_cut) 400 f__law_cut.sc f__law_cut.x f__law_cut.body = true := by decide +kernel
theorem s__law_cut : FnScope f__law_cut.N f__law_cut.ps f__law_cut.sc := C8.fnScope_by (by decide +kernel)
theorem e__law_cut : fs k__law_cut = some f__law_cut := rfl
theorem b__law_cut : ∀ (kV doc pm : Value) (an : Option Addr) (cdv ct : Value) (us : List Value), us.length = f__law_cut.ps.length → bindArgs (PySem.W.fnOf p__law_cut.2.name p__law_cut.2.qual p__law_cut.2.params p__law_cut.2.body p__law_cut.2.scope .none kV doc pm an cdv ct) ⟨us, []⟩ = pure (f__law_cut.ps.zip us) := fun _ _ _ _ _ _ us hl => match us, hl with | [_, _, _], _ => rfl
theorem c__law_function : cB (ld.tab.at f__law_function) 400 f__law_function.sc f__law_function.x f__law_function.body = true := by decide +kernel
theorem s__law_function : FnScope f__law_function.N f__law_function.ps f__law_function.sc := C8.fnScope_by (by decide +kernel)
theorem e__law_function : fs k__law_function = some f__law_function := rfl
theorem b__law_function : ∀ (kV doc pm : Value) (an : Option Addr) (cdv ct : Value) (us : List Value), us.length = f__law_function.ps.length → bindArgs (PySem.W.fnOf p__law_function.2.name p__law_function.2.qual p__law_function.2.params p__law_function.2.body p__law_function.2.scope .none kV doc pm an cdv ct) ⟨us, []⟩ = pure (f__law_function.ps.zip us) := fun _ _ _ _ _ _ us hl => match us, hl with | [_, _, _, _], _ => rfl
theorem c__law_at : cB (ld.tab.at f__law_at) 400 f__law_at.sc f__law_at.x f__law_at.body = true := by decide +kernel
theorem s__law_at : FnScope f__law_at.N f__law_at.ps f__law_at.sc := C8.fnScope_by (by decide +kernel)
theorem e__law_at : fs k__law_at = some f__law_at := rfl
theorem b__law_at : ∀ (kV doc pm : Value) (an : Option Addr) (cdv ct : Value) (us : List Value), us.length = f__law_at.ps.length → bindArgs (PySem.W.fnOf p__law_at.2.name p__law_at.2.qual p__law_at.2.params p__law_at.2.body p__law_at.2.scope .none kV doc pm an cdv ct) ⟨us, []⟩ = pure (f__law_at.ps.zip us) := fun _ _ _ _ _ _ us hl => match us, hl with | [_, _], _ => rfl
theorem c__law_derived : cB (ld.tab.at f__law_derived) 400 f__law_derived.sc f__law_derived.x f__law_derived.body = true := by decide +kernel
theorem s__law_derived : FnScope f__law_derived.N f__law_derived.ps f__law_derived.sc := C8.fnScope_by (by decide +kernel)
theorem e__law_derived : fs k__law_derived = some f__law_derived := rfl
theorem b__law_derived : ∀ (kV doc pm : Value) (an : Option Addr) (cdv ct : Value) (us : List Value), us.length = f__law_derived.ps.length → bindArgs (PySem.W.fnOf p__law_derived.2.name p__law_derived.2.qual p__law_derived.2.params p__law_derived.2.body p__law_derived.2.scope .none kV doc pm an cdv ct) ⟨us, []⟩ = pure (f__law_derived.ps.zip us) := fun _ _ _ _ _ _ us hl => match us, hl with | [_, _], _ => rfl
theorem c__law_agreeing : cB (ld.tab.at f__law_agreeing) 400 f__law_agreeing.sc f__law_agreeing.x f__law_agreeing.body = true := by decide +kernel
theorem s__law_agreeing : FnScope f__law_agreeing.N f__law_agreeing.ps f__law_agreeing.sc := C8.fnScope_by (by decide +kernel)
theorem e__law_agreeing : fs k__law_agreeing = some f__law_agreeing := rfl
theorem b__law_agreeing : ∀ (kV doc pm : Value) (an : Option Addr) (cdv ct : Value) (us : List Value), us.length = f__law_agreeing.ps.length → bindArgs (PySem.W.fnOf p__law_agreeing.2.name p__law_agreeing.2.qual p__law_agreeing.2.params p__law_agreeing.2.body p__law_agreeing.2.scope .none kV doc pm an cdv ct) ⟨us, []⟩ = pure (f__law_agreeing.ps.zip us) := fun _ _ _ _ _ _ us hl => match us, hl with | [_, _, _], _ => rfl
theorem c__law_thinned : cB (ld.tab.at f__law_thinned) 400 f__law_thinned.sc f__law_thinned.x f__law_thinned.body = true := by decide +kernel
theorem s__law_thinned : FnScope f__law_thinned.N f__law_thinned.ps f__law_thinned.sc := C8.fnScope_by (by decide +kernel)
theorem e__law_thinned : fs k__law_thinned = some f__law_thinned := rfl
theorem b__law_thinned : ∀ (kV doc pm : Value) (an : Option Addr) (cdv ct : Value) (us : List Value), us.length = f__law_thinned.ps.length → bindArgs (PySem.W.fnOf p__law_thinned.2.name p__law_thinned.2.qual p__law_thinned.2.params p__law_thinned.2.body p__law_thinned.2.scope .none kV doc pm an cdv ct) ⟨us, []⟩ = pure (f__law_thinned.ps.zip us) := fun _ _ _ _ _ _ us hl => match us, hl with | [_, _], _ => rfl
theorem c_law : cB (ld.tab.at f_law) 400 f_law.sc f_law.x f_law.body = true := by decide +kernel
theorem s_law : FnScope f_law.N f_law.ps f_law.sc := C8.fnScope_by (by decide +kernel)
theorem e_law : fs k_law = some f_law := rfl
theorem b_law : ∀ (kV doc pm : Value) (an : Option Addr) (cdv ct : Value) (us : List Value), us.length = f_law.ps.length → bindArgs (PySem.W.fnOf p_law.2.name p_law.2.qual p_law.2.params p_law.2.body p_law.2.scope .none kV doc pm an cdv ct) ⟨us, []⟩ = pure (f_law.ps.zip us) := fun _ _ _ _ _ _ us hl => match us, hl with | [_], _ => rfl
def fu : Nat := 2 ^ 20000
abbrev Rn (d : Nat) : Nat → List D → AH → Res D := runF T fs fu d
def Ph (d : Nat) : Phi := ⟨fu, Rn d, Rn (d - 1)⟩
@[simp] theorem Ph_call (d : Nat) : (Ph d).call = Rn d := (Eq.refl _).trans rfl
@[simp] theorem Ph_make (d : Nat) : (Ph d).make = Rn (d - 1) := (Eq.refl _).trans rfl
@[simp] theorem Ph_fuel (d : Nat) : (Ph d).fuel = fu := (Eq.refl _).trans rfl
def t_is_between : Tab := T.at f_is_between
theorem u_is_between (d : Nat) (z0 z1 z2 : D) (h : AH) : Rn (d + 1) k_is_between [z0, z1, z2] h = endF h.length (denB t_is_between (Ph d) x_is_between [some (.val z0), some (.val z1), some (.val z2)] h) := runF_at e_is_between d _ h
def t_divisor_of : Tab := T.at f_divisor_of
theorem u_divisor_of (d : Nat) (z0 z1 : D) (h : AH) : Rn (d + 1) k_divisor_of [z0, z1] h = endF h.length (denB t_divisor_of (Ph d) x_divisor_of [some (.val z0), some (.val z1)] h) := runF_at e_divisor_of d _ h
def t_fraction : Tab := T.at f_fraction
theorem u_fraction (d : Nat) (z0 z1 : D) (h : AH) : Rn (d + 1) k_fraction [z0, z1] h = endF h.length (denB t_fraction (Ph d) x_fraction [some (.val z0), some (.val z1), none] h) := runF_at e_fraction d _ h
def t_plus : Tab := T.at f_plus
theorem u_plus (d : Nat) (z0 z1 : D) (h : AH) : Rn (d + 1) k_plus [z0, z1] h = endF h.length (denB t_plus (Ph d) x_plus [some (.val z0), some (.val z1)] h) := runF_at e_plus d _ h
def t_by_factor : Tab := T.at f_by_factor
theorem u_by_factor (d : Nat) (z0 z1 : D) (h : AH) : Rn (d + 1) k_by_factor [z0, z1] h = endF h.length (denB t_by_factor (Ph d) x_by_factor [some (.val z0), some (.val z1)] h) := runF_at e_by_factor d _ h
def t_is_number : Tab := T.at f_is_number
theorem u_is_number (d : Nat) (z0 : D) (h : AH) : Rn (d + 1) k_is_number [z0] h = endF h.length (denB t_is_number (Ph d) x_is_number [some (.val z0), none] h) := runF_at e_is_number d _ h
def t_is_kind : Tab := T.at f_is_kind
theorem u_is_kind (d : Nat) (z0 : D) (h : AH) : Rn (d + 1) k_is_kind [z0] h = endF h.length (denB t_is_kind (Ph d) x_is_kind [some (.val z0), none, none, none, none, none] h) := runF_at e_is_kind d _ h
def t_check_kind : Tab := T.at f_check_kind
theorem u_check_kind (d : Nat) (z0 : D) (h : AH) : Rn (d + 1) k_check_kind [z0] h = endF h.length (denB t_check_kind (Ph d) x_check_kind [some (.val z0)] h) := runF_at e_check_kind d _ h
def t_piece_at : Tab := T.at f_piece_at
theorem u_piece_at (d : Nat) (z0 z1 : D) (h : AH) : Rn (d + 1) k_piece_at [z0, z1] h = endF h.length (denB t_piece_at (Ph d) x_piece_at [some (.val z0), some (.val z1), none] h) := runF_at e_piece_at d _ h
def t_at_place : Tab := T.at f_at_place
theorem u_at_place (d : Nat) (z0 z1 : D) (h : AH) : Rn (d + 1) k_at_place [z0, z1] h = endF h.length (denB t_at_place (Ph d) x_at_place [some (.val z0), some (.val z1), none, none] h) := runF_at e_at_place d _ h
def t_derivative : Tab := T.at f_derivative
theorem u_derivative (d : Nat) (z0 : D) (h : AH) : Rn (d + 1) k_derivative [z0] h = endF h.length (denB t_derivative (Ph d) x_derivative [some (.val z0), none, none] h) := runF_at e_derivative d _ h
def t_derivatives : Tab := T.at f_derivatives
theorem u_derivatives (d : Nat) (z0 z1 : D) (h : AH) : Rn (d + 1) k_derivatives [z0, z1] h = endF h.length (denB t_derivatives (Ph d) x_derivatives [some (.val z0), some (.val z1), none, none] h) := runF_at e_derivatives d _ h
def t_agreeing : Tab := T.at f_agreeing
theorem u_agreeing (d : Nat) (z0 z1 z2 : D) (h : AH) : Rn (d + 1) k_agreeing [z0, z1, z2] h = endF h.length (denB t_agreeing (Ph d) x_agreeing [some (.val z0), some (.val z1), some (.val z2), none, none, none, none] h) := runF_at e_agreeing d _ h
def t_is_rows : Tab := T.at f_is_rows
theorem u_is_rows (d : Nat) (z0 z1 : D) (h : AH) : Rn (d + 1) k_is_rows [z0, z1] h = endF h.length (denB t_is_rows (Ph d) x_is_rows [some (.val z0), some (.val z1), none, none] h) := runF_at e_is_rows d _ h
def t_does_join : Tab := T.at f_does_join
theorem u_does_join (d : Nat) (z0 z1 : D) (h : AH) : Rn (d + 1) k_does_join [z0, z1] h = endF h.length (denB t_does_join (Ph d) x_does_join [some (.val z0), some (.val z1), none, none, none, none, none] h) := runF_at e_does_join d _ h
def t_is_function : Tab := T.at f_is_function
theorem u_is_function (d : Nat) (z0 z1 : D) (h : AH) : Rn (d + 1) k_is_function [z0, z1] h = endF h.length (denB t_is_function (Ph d) x_is_function [some (.val z0), some (.val z1)] h) := runF_at e_is_function d _ h
def t_check_function : Tab := T.at f_check_function
theorem u_check_function (d : Nat) (z0 z1 : D) (h : AH) : Rn (d + 1) k_check_function [z0, z1] h = endF h.length (denB t_check_function (Ph d) x_check_function [some (.val z0), some (.val z1)] h) := runF_at e_check_function d _ h
def t_check_both : Tab := T.at f_check_both
theorem u_check_both (d : Nat) (z0 z1 : D) (h : AH) : Rn (d + 1) k_check_both [z0, z1] h = endF h.length (denB t_check_both (Ph d) x_check_both [some (.val z0), some (.val z1)] h) := runF_at e_check_both d _ h
def t_found_joints : Tab := T.at f_found_joints
theorem u_found_joints (d : Nat) (z0 z1 : D) (h : AH) : Rn (d + 1) k_found_joints [z0, z1] h = endF h.length (denB t_found_joints (Ph d) x_found_joints [some (.val z0), some (.val z1), none, none] h) := runF_at e_found_joints d _ h
def t_joints_of : Tab := T.at f_joints_of
theorem u_joints_of (d : Nat) (z0 z1 : D) (h : AH) : Rn (d + 1) k_joints_of [z0, z1] h = endF h.length (denB t_joints_of (Ph d) x_joints_of [some (.val z0), some (.val z1)] h) := runF_at e_joints_of d _ h
def t_found_thinned : Tab := T.at f_found_thinned
theorem u_found_thinned (d : Nat) (z0 z1 : D) (h : AH) : Rn (d + 1) k_found_thinned [z0, z1] h = endF h.length (denB t_found_thinned (Ph d) x_found_thinned [some (.val z0), some (.val z1), none, none, none, none, none, none, none, none, none, none] h) := runF_at e_found_thinned d _ h
def t_thinned : Tab := T.at f_thinned
theorem u_thinned (d : Nat) (z0 z1 : D) (h : AH) : Rn (d + 1) k_thinned [z0, z1] h = endF h.length (denB t_thinned (Ph d) x_thinned [some (.val z0), some (.val z1)] h) := runF_at e_thinned d _ h
def t_are_same : Tab := T.at f_are_same
theorem u_are_same (d : Nat) (z0 z1 z2 z3 : D) (h : AH) : Rn (d + 1) k_are_same [z0, z1, z2, z3] h = endF h.length (denB t_are_same (Ph d) x_are_same [some (.val z0), some (.val z1), some (.val z2), some (.val z3)] h) := runF_at e_are_same d _ h
def t_with_knot : Tab := T.at f_with_knot
theorem u_with_knot (d : Nat) (z0 z1 z2 : D) (h : AH) : Rn (d + 1) k_with_knot [z0, z1, z2] h = endF h.length (denB t_with_knot (Ph d) x_with_knot [some (.val z0), some (.val z1), some (.val z2), none, none, none, none, none] h) := runF_at e_with_knot d _ h
def t__law_town : Tab := T.at f__law_town
theorem u__law_town (d : Nat) (z0 : D) (h : AH) : Rn (d + 1) k__law_town [z0] h = endF h.length (denB t__law_town (Ph d) x__law_town [some (.val z0)] h) := runF_at e__law_town d _ h
def t__law_draw : Tab := T.at f__law_draw
theorem u__law_draw (d : Nat) (z0 z1 z2 : D) (h : AH) : Rn (d + 1) k__law_draw [z0, z1, z2] h = endF h.length (denB t__law_draw (Ph d) x__law_draw [some (.val z0), some (.val z1), some (.val z2), none, none, none] h) := runF_at e__law_draw d _ h
def t__law_pick : Tab := T.at f__law_pick
theorem u__law_pick (d : Nat) (z0 z1 z2 : D) (h : AH) : Rn (d + 1) k__law_pick [z0, z1, z2] h = endF h.length (denB t__law_pick (Ph d) x__law_pick [some (.val z0), some (.val z1), some (.val z2)] h) := runF_at e__law_pick d _ h
def t__law_ratio : Tab := T.at f__law_ratio
theorem u__law_ratio (d : Nat) (z0 z1 : D) (h : AH) : Rn (d + 1) k__law_ratio [z0, z1] h = endF h.length (denB t__law_ratio (Ph d) x__law_ratio [some (.val z0), some (.val z1), none, none] h) := runF_at e__law_ratio d _ h
def t__law_plus : Tab := T.at f__law_plus
theorem u__law_plus (d : Nat) (z0 z1 : D) (h : AH) : Rn (d + 1) k__law_plus [z0, z1] h = endF h.length (denB t__law_plus (Ph d) x__law_plus [some (.val z0), some (.val z1)] h) := runF_at e__law_plus d _ h
def t__law_times : Tab := T.at f__law_times
theorem u__law_times (d : Nat) (z0 z1 : D) (h : AH) : Rn (d + 1) k__law_times [z0, z1] h = endF h.length (denB t__law_times (Ph d) x__law_times [some (.val z0), some (.val z1)] h) := runF_at e__law_times d _ h
def t__law_fraction : Tab := T.at f__law_fraction
theorem u__law_fraction (d : Nat) (z0 z1 z2 : D) (h : AH) : Rn (d + 1) k__law_fraction [z0, z1, z2] h = endF h.length (denB t__law_fraction (Ph d) x__law_fraction [some (.val z0), some (.val z1), some (.val z2)] h) := runF_at e__law_fraction d _ h
def t__law_kind : Tab := T.at f__law_kind
theorem u__law_kind (d : Nat) (z0 z1 z2 : D) (h : AH) : Rn (d + 1) k__law_kind [z0, z1, z2] h = endF h.length (denB t__law_kind (Ph d) x__law_kind [some (.val z0), some (.val z1), some (.val z2), none, none, none] h) := runF_at e__law_kind d _ h
def t__law_cut : Tab := T.at f__law_cut
theorem u__law_cut (d : Nat) (z0 z1 z2 : D) (h : AH) : Rn (d + 1) k__law_cut [z0, z1, z2] h = endF h.length (denB t__law_cut (Ph d) x__law_cut [some (.val z0), some (.val z1), some (.val z2), none, none, none] h) := runF_at e__law_cut d _ h
def t__law_function : Tab := T.at f__law_function
theorem u__law_function (d : Nat) (z0 z1 z2 z3 : D) (h : AH) : Rn (d + 1) k__law_function [z0, z1, z2, z3] h = endF h.length (denB t__law_function (Ph d) x__law_function [some (.val z0), some (.val z1), some (.val z2), some (.val z3), none, none, none, none, none, none, none, none, none, none, none] h) := runF_at e__law_function d _ h
def t__law_at : Tab := T.at f__law_at
theorem u__law_at (d : Nat) (z0 z1 : D) (h : AH) : Rn (d + 1) k__law_at [z0, z1] h = endF h.length (denB t__law_at (Ph d) x__law_at [some (.val z0), some (.val z1), none, none] h) := runF_at e__law_at d _ h
def t__law_derived : Tab := T.at f__law_derived
theorem u__law_derived (d : Nat) (z0 z1 : D) (h : AH) : Rn (d + 1) k__law_derived [z0, z1] h = endF h.length (denB t__law_derived (Ph d) x__law_derived [some (.val z0), some (.val z1), none, none] h) := runF_at e__law_derived d _ h
def t__law_agreeing : Tab := T.at f__law_agreeing
theorem u__law_agreeing (d : Nat) (z0 z1 z2 : D) (h : AH) : Rn (d + 1) k__law_agreeing [z0, z1, z2] h = endF h.length (denB t__law_agreeing (Ph d) x__law_agreeing [some (.val z0), some (.val z1), some (.val z2), none, none] h) := runF_at e__law_agreeing d _ h
def t__law_thinned : Tab := T.at f__law_thinned
theorem u__law_thinned (d : Nat) (z0 z1 : D) (h : AH) : Rn (d + 1) k__law_thinned [z0, z1] h = endF h.length (denB t__law_thinned (Ph d) x__law_thinned [some (.val z0), some (.val z1), none, none, none, none, none, none, none, none] h) := runF_at e__law_thinned d _ h
def t_law : Tab := T.at f_law
theorem u_law (d : Nat) (z0 : D) (h : AH) : Rn (d + 1) k_law [z0] h = endF h.length (denB t_law (Ph d) x_law [some (.val z0), none, none, none, none, none, none, none, none, none, none, none, none, none, none, none, none, none, none] h) := runF_at e_law d _ h
def HF (f n : Nat) : Prop := ∃ F p, (ld.fs[f]?).getD none = some F ∧ ld.hd.fn[f]? = some p ∧ F.ps.length = n ∧ p.2.body = F.body ∧ p.2.scope = F.sc ∧ FnScope F.N F.ps F.sc ∧ (∀ (kV doc pm : Value) (an : Option Addr) (cdv ct : Value) (us : List Value), us.length = F.ps.length → bindArgs (PySem.W.fnOf p.2.name p.2.qual p.2.params p.2.body p.2.scope .none kV doc pm an cdv ct) ⟨us, []⟩ = pure (F.ps.zip us)) ∧ cB (ld.tab.at F) 400 F.sc F.x F.body = true
theorem h_is_between : HF 0 3 := ⟨f_is_between, p_is_between, rfl, rfl, rfl, rfl, rfl, s_is_between, b_is_between, c_is_between⟩
theorem h_divisor_of : HF 1 2 := ⟨f_divisor_of, p_divisor_of, rfl, rfl, rfl, rfl, rfl, s_divisor_of, b_divisor_of, c_divisor_of⟩
theorem h_fraction : HF 2 2 := ⟨f_fraction, p_fraction, rfl, rfl, rfl, rfl, rfl, s_fraction, b_fraction, c_fraction⟩
theorem h_plus : HF 3 2 := ⟨f_plus, p_plus, rfl, rfl, rfl, rfl, rfl, s_plus, b_plus, c_plus⟩
theorem h_by_factor : HF 4 2 := ⟨f_by_factor, p_by_factor, rfl, rfl, rfl, rfl, rfl, s_by_factor, b_by_factor, c_by_factor⟩
theorem h_is_number : HF 5 1 := ⟨f_is_number, p_is_number, rfl, rfl, rfl, rfl, rfl, s_is_number, b_is_number, c_is_number⟩
theorem h_is_kind : HF 6 1 := ⟨f_is_kind, p_is_kind, rfl, rfl, rfl, rfl, rfl, s_is_kind, b_is_kind, c_is_kind⟩
theorem h_check_kind : HF 7 1 := ⟨f_check_kind, p_check_kind, rfl, rfl, rfl, rfl, rfl, s_check_kind, b_check_kind, c_check_kind⟩
theorem h_piece_at : HF 8 2 := ⟨f_piece_at, p_piece_at, rfl, rfl, rfl, rfl, rfl, s_piece_at, b_piece_at, c_piece_at⟩
theorem h_at_place : HF 9 2 := ⟨f_at_place, p_at_place, rfl, rfl, rfl, rfl, rfl, s_at_place, b_at_place, c_at_place⟩
theorem h_derivative : HF 10 1 := ⟨f_derivative, p_derivative, rfl, rfl, rfl, rfl, rfl, s_derivative, b_derivative, c_derivative⟩
theorem h_derivatives : HF 11 2 := ⟨f_derivatives, p_derivatives, rfl, rfl, rfl, rfl, rfl, s_derivatives, b_derivatives, c_derivatives⟩
theorem h_agreeing : HF 12 3 := ⟨f_agreeing, p_agreeing, rfl, rfl, rfl, rfl, rfl, s_agreeing, b_agreeing, c_agreeing⟩
theorem h_is_rows : HF 13 2 := ⟨f_is_rows, p_is_rows, rfl, rfl, rfl, rfl, rfl, s_is_rows, b_is_rows, c_is_rows⟩
theorem h_does_join : HF 14 2 := ⟨f_does_join, p_does_join, rfl, rfl, rfl, rfl, rfl, s_does_join, b_does_join, c_does_join⟩
theorem h_is_function : HF 15 2 := ⟨f_is_function, p_is_function, rfl, rfl, rfl, rfl, rfl, s_is_function, b_is_function, c_is_function⟩
theorem h_check_function : HF 16 2 := ⟨f_check_function, p_check_function, rfl, rfl, rfl, rfl, rfl, s_check_function, b_check_function, c_check_function⟩
theorem h_check_both : HF 17 2 := ⟨f_check_both, p_check_both, rfl, rfl, rfl, rfl, rfl, s_check_both, b_check_both, c_check_both⟩
theorem h_found_joints : HF 18 2 := ⟨f_found_joints, p_found_joints, rfl, rfl, rfl, rfl, rfl, s_found_joints, b_found_joints, c_found_joints⟩
theorem h_joints_of : HF 19 2 := ⟨f_joints_of, p_joints_of, rfl, rfl, rfl, rfl, rfl, s_joints_of, b_joints_of, c_joints_of⟩
theorem h_found_thinned : HF 20 2 := ⟨f_found_thinned, p_found_thinned, rfl, rfl, rfl, rfl, rfl, s_found_thinned, b_found_thinned, c_found_thinned⟩
theorem h_thinned : HF 21 2 := ⟨f_thinned, p_thinned, rfl, rfl, rfl, rfl, rfl, s_thinned, b_thinned, c_thinned⟩
theorem h_are_same : HF 22 4 := ⟨f_are_same, p_are_same, rfl, rfl, rfl, rfl, rfl, s_are_same, b_are_same, c_are_same⟩
theorem h_with_knot : HF 23 3 := ⟨f_with_knot, p_with_knot, rfl, rfl, rfl, rfl, rfl, s_with_knot, b_with_knot, c_with_knot⟩
theorem h__law_town : HF 24 1 := ⟨f__law_town, p__law_town, rfl, rfl, rfl, rfl, rfl, s__law_town, b__law_town, c__law_town⟩
theorem h__law_draw : HF 25 3 := ⟨f__law_draw, p__law_draw, rfl, rfl, rfl, rfl, rfl, s__law_draw, b__law_draw, c__law_draw⟩
theorem h__law_pick : HF 26 3 := ⟨f__law_pick, p__law_pick, rfl, rfl, rfl, rfl, rfl, s__law_pick, b__law_pick, c__law_pick⟩
theorem h__law_ratio : HF 27 2 := ⟨f__law_ratio, p__law_ratio, rfl, rfl, rfl, rfl, rfl, s__law_ratio, b__law_ratio, c__law_ratio⟩
theorem h__law_plus : HF 28 2 := ⟨f__law_plus, p__law_plus, rfl, rfl, rfl, rfl, rfl, s__law_plus, b__law_plus, c__law_plus⟩
theorem h__law_times : HF 29 2 := ⟨f__law_times, p__law_times, rfl, rfl, rfl, rfl, rfl, s__law_times, b__law_times, c__law_times⟩
theorem h__law_fraction : HF 30 3 := ⟨f__law_fraction, p__law_fraction, rfl, rfl, rfl, rfl, rfl, s__law_fraction, b__law_fraction, c__law_fraction⟩
theorem h__law_kind : HF 31 3 := ⟨f__law_kind, p__law_kind, rfl, rfl, rfl, rfl, rfl, s__law_kind, b__law_kind, c__law_kind⟩
theorem h__law_cut : HF 32 3 := ⟨f__law_cut, p__law_cut, rfl, rfl, rfl, rfl, rfl, s__law_cut, b__law_cut, c__law_cut⟩
theorem h__law_function : HF 33 4 := ⟨f__law_function, p__law_function, rfl, rfl, rfl, rfl, rfl, s__law_function, b__law_function, c__law_function⟩
theorem h__law_at : HF 34 2 := ⟨f__law_at, p__law_at, rfl, rfl, rfl, rfl, rfl, s__law_at, b__law_at, c__law_at⟩
theorem h__law_derived : HF 35 2 := ⟨f__law_derived, p__law_derived, rfl, rfl, rfl, rfl, rfl, s__law_derived, b__law_derived, c__law_derived⟩
theorem h__law_agreeing : HF 36 3 := ⟨f__law_agreeing, p__law_agreeing, rfl, rfl, rfl, rfl, rfl, s__law_agreeing, b__law_agreeing, c__law_agreeing⟩
theorem h__law_thinned : HF 37 2 := ⟨f__law_thinned, p__law_thinned, rfl, rfl, rfl, rfl, rfl, s__law_thinned, b__law_thinned, c__law_thinned⟩
theorem h_law : HF 38 1 := ⟨f_law, p_law, rfl, rfl, rfl, rfl, rfl, s_law, b_law, c_law⟩
theorem hfn : ∀ f n, ld.tab.ar f = some n → HF f n
  | 0, n, h => by cases h; exact h_is_between
  | 1, n, h => by cases h; exact h_divisor_of
  | 2, n, h => by cases h; exact h_fraction
  | 3, n, h => by cases h; exact h_plus
  | 4, n, h => by cases h; exact h_by_factor
  | 5, n, h => by cases h; exact h_is_number
  | 6, n, h => by cases h; exact h_is_kind
  | 7, n, h => by cases h; exact h_check_kind
  | 8, n, h => by cases h; exact h_piece_at
  | 9, n, h => by cases h; exact h_at_place
  | 10, n, h => by cases h; exact h_derivative
  | 11, n, h => by cases h; exact h_derivatives
  | 12, n, h => by cases h; exact h_agreeing
  | 13, n, h => by cases h; exact h_is_rows
  | 14, n, h => by cases h; exact h_does_join
  | 15, n, h => by cases h; exact h_is_function
  | 16, n, h => by cases h; exact h_check_function
  | 17, n, h => by cases h; exact h_check_both
  | 18, n, h => by cases h; exact h_found_joints
  | 19, n, h => by cases h; exact h_joints_of
  | 20, n, h => by cases h; exact h_found_thinned
  | 21, n, h => by cases h; exact h_thinned
  | 22, n, h => by cases h; exact h_are_same
  | 23, n, h => by cases h; exact h_with_knot
  | 24, n, h => by cases h; exact h__law_town
  | 25, n, h => by cases h; exact h__law_draw
  | 26, n, h => by cases h; exact h__law_pick
  | 27, n, h => by cases h; exact h__law_ratio
  | 28, n, h => by cases h; exact h__law_plus
  | 29, n, h => by cases h; exact h__law_times
  | 30, n, h => by cases h; exact h__law_fraction
  | 31, n, h => by cases h; exact h__law_kind
  | 32, n, h => by cases h; exact h__law_cut
  | 33, n, h => by cases h; exact h__law_function
  | 34, n, h => by cases h; exact h__law_at
  | 35, n, h => by cases h; exact h__law_derived
  | 36, n, h => by cases h; exact h__law_agreeing
  | 37, n, h => by cases h; exact h__law_thinned
  | 38, n, h => by cases h; exact h_law
  | k + 39, n, h => by cases h
def loose0 : List (PySem.Str) := ["JointError", "InvalidKind", "InvalidFunction", "InvalidKnot", "TooMany", "is_between", "divisor_of", "fraction", "plus", "by_factor", "is_number", "is_kind", "check_kind", "piece_at", "at_place", "derivative", "derivatives", "agreeing", "is_rows", "does_join"]
def loose20 : List (PySem.Str) := ["is_function", "check_function", "check_both", "found_joints", "joints_of", "found_thinned", "thinned", "are_same", "with_knot", "_law_town", "_law_draw", "_law_pick", "_law_ratio", "_law_plus", "_law_times", "_law_fraction", "_law_kind", "_law_cut", "_law_function", "_law_at"]
def loose40 : List (PySem.Str) := ["_law_derived", "_law_agreeing", "_law_thinned"]
def loose : List (PySem.Str) := loose0 ++ loose20 ++ loose40
abbrev R : PySem.W.OpenRow := PySem.W.OpenLaw.row PySem.Challenge.rw_jointcurves_k13_whole_joints
def lawAt : Nat := 49
end Lw

set_option exponentiation.threshold 256
/-! fractions: what the calls come to -/
namespace Lw
open PySem PySem.Spec PyProof.Rows L2 J
abbrev frD (q : Rat) : D := .tup [.int q.num, .int (q.den : Int)]
/-- ints: equality -/
theorem eqv_int (a b : Int) : eqvD (.int a) (.int b) = decide (a = b) := by
  simp [eqvD, toPy, PyData.eqv]
  rfl
theorem eqK_ii (n : Bool) (h : AH) (a b : Int) : eqK n h (.v (.int a)) (.v (.int b)) = some (.v (.bl (if n then !decide (a = b) else decide (a = b)))) := by
  simp [eqK, evD, plainD, eqv_int]
@[simp] theorem ne_ii (h : AH) (a b : Int) : eqK true h (.v (.int a)) (.v (.int b)) = some (.v (.bl (!decide (a = b)))) := by simp [eqK_ii]
@[simp] theorem eq_ii (h : AH) (a b : Int) : eqK false h (.v (.int a)) (.v (.int b)) = some (.v (.bl (decide (a = b)))) := by simp [eqK_ii]
@[simp] theorem at0 (a : D) (l : List D) : atI (a :: l) 0 = some a := by simp [atI, ixN]
@[simp] theorem at1 (a b : D) (l : List D) : atI (a :: b :: l) 1 = some b := by
  have : (1 : Int) < (l.length : Int) + 1 + 1 := by omega
  simp [atI, ixN, this]
@[simp] theorem at2 (a b c : D) (l : List D) : atI (a :: b :: c :: l) 2 = some c := by
  have : (2 : Int) < (l.length : Int) + 1 + 1 + 1 := by omega
  simp [atI, ixN, this]
theorem at_nat (l : List D) (k : Nat) : atI l (k : Int) = l[k]? := by
  unfold atI ixN
  rw [if_pos (by omega)]
  by_cases h : k < l.length
  · rw [if_pos (by omega)]; simp
  · rw [if_neg (by omega)]; simp; omega
theorem at_last (l : List D) (a : D) : atI (l ++ [a]) (-1) = some a := by
  simp [atI, ixN]
  rw [if_pos (by omega)]
  simp
  have : (-1 + ((l.length : Int) + 1)).toNat = l.length := by omega
  rw [this]; simp
def gcdT : XT := .cmp .ne (.slot 1) (.cst (.int 0))
def gcdB : XB := .cons (.par [0, 1] [false, false] (.cons (.slot 1) (.cons (.bin .mod (.slot 0) (.slot 1)) .nil))) .nil
theorem wh_gcd (T' : Tab) (Φ : Phi) (h : AH) : ∀ (b a n : Nat), b < n → whN (denT T' Φ gcdT) (denB T' Φ gcdB) n [some (.val (.int a)), some (.val (.int b))] h = .nx [some (.val (.int (Nat.gcd a b : Nat))), some (.val (.int 0))] h := by
  intro b
  induction b using Nat.strongRecOn with
  | _ b ih =>
    intro a n hn
    cases n with
    | zero => omega
    | succ n =>
      by_cases hb : b = 0
      · subst hb
        rw [whN_false (h1 := h) (by simp [gcdT])]
        simp
      · have hb' : (b : Int) ≠ 0 := by omega
        rw [whN_true (h1 := h) (env' := [some (.val (.int b)), some (.val (.int (a % b : Nat)))]) (h' := h) (by simp [gcdT, hb]) (by simp [gcdB, hb, Int.fmod_eq_emod_of_nonneg])]
        rw [ih (a % b) (Nat.mod_lt _ (by omega)) b n (by have := Nat.mod_lt a (show b > 0 by omega); omega)]
        rw [Nat.gcd_comm b, ← Nat.gcd_rec, Nat.gcd_comm b a]
theorem fu_lt {n m : Nat} (h : n < 2 ^ m) (hm : m ≤ 20000) : n < fu := Nat.lt_of_lt_of_le h (Nat.pow_le_pow_right (by decide) hm)
theorem r_divisor_of {d : Nat} (hd : 1 ≤ d) (a b : Int) (h : AH) (hb : b.natAbs < fu) : Rn d k_divisor_of [.int a, .int b] h = .ok (.int (Nat.gcd a.natAbs b.natAbs : Nat)) h := by
  obtain ⟨d, rfl⟩ : ∃ e, d = e + 1 := ⟨d - 1, by omega⟩
  have z := wh_gcd t_divisor_of (Ph d) h b.natAbs a.natAbs fu hb
  simp only [gcdT, gcdB] at z
  rw [u_divisor_of]
  simp [x_divisor_of, z]
theorem divOk_of {n : Nat} (h0 : n ≠ 0) (h : n < 2 ^ 9000) : divOk (n : Int) = true := by
  unfold divOk
  have h1 : Nat.log2 n < 9000 := (Nat.log2_lt h0).mpr h
  simp [h0, h1]
theorem mulOk_of {a b : Int} {m n : Nat} (h1 : a.natAbs < 2 ^ m) (h2 : b.natAbs < 2 ^ n) (h : m + n ≤ 900000) : mulOk a b = true := by
  have lg : ∀ {x k : Nat}, x < 2 ^ k → Nat.log2 x ≤ k := fun {x k} hx => by
    by_cases h0 : x = 0
    · subst h0; rw [Nat.log2_zero]; exact Nat.zero_le _
    · exact Nat.le_of_lt ((Nat.log2_lt h0).mpr hx)
  unfold mulOk
  have := lg h1
  have := lg h2
  exact decide_eq_true (by omega)
theorem r_fraction {d : Nat} (hd : 2 ≤ d) (t : Int) (b : Nat) (h : AH) (hb : b ≠ 0) (h1 : b < 2 ^ 9000) : Rn d k_fraction [.int t, .int b] h = .ok (frD (mkRat t b)) h := by
  obtain ⟨d, rfl⟩ : ∃ e, d = e + 2 := ⟨d - 2, by omega⟩
  have z := r_divisor_of (d := d + 1) (by omega) t b h (fu_lt (m := 9000) (by simpa using h1) (by decide))
  have hg : Nat.gcd t.natAbs b ≠ 0 := by
    intro q; exact hb (Nat.eq_zero_of_gcd_eq_zero_right q)
  have hg2 : Nat.gcd t.natAbs b < 2 ^ 9000 := Nat.lt_of_le_of_lt (Nat.gcd_le_right _ (by omega)) h1
  have hb' : 0 < b := by omega
  simp only [Int.natAbs_natCast] at z
  rw [u_fraction]
  simp [x_fraction, z, hb', divOk_of hg hg2, ratio_num t hb, ratio_den t hb]
theorem r_plus {d : Nat} (hd : 3 ≤ d) (a b : Rat) (h : AH) (ha : Sz 4000 a) (hb : Sz 4000 b) : Rn d k_plus [frD a, frD b] h = .ok (frD (a + b)) h := by
  obtain ⟨d, rfl⟩ : ∃ e, d = e + 3 := ⟨d - 3, by omega⟩
  have z := r_fraction (d := d + 2) (by omega) (a.num * b.den + b.num * a.den) (a.den * b.den) h (Nat.mul_ne_zero a.den_nz b.den_nz) (Nat.lt_of_lt_of_le (mul_lt_pow ha.2 hb.2) (Nat.pow_le_pow_right (by decide) (by decide)))
  rw [add_mk] at z
  rw [u_plus]
  simp [x_plus, mulOk_of (a := a.num) (b := b.den) ha.1 (by simpa using hb.2) (by decide), mulOk_of (a := b.num) (b := a.den) hb.1 (by simpa using ha.2) (by decide), mulOk_of (a := a.den) (b := b.den) (by simpa using ha.2) (by simpa using hb.2) (by decide)]
  simp at z
  simp [z]
theorem r_by_factor {d : Nat} (hd : 3 ≤ d) (a b : Rat) (h : AH) (ha : Sz 4000 a) (hb : Sz 4000 b) : Rn d k_by_factor [frD a, frD b] h = .ok (frD (a * b)) h := by
  obtain ⟨d, rfl⟩ : ∃ e, d = e + 3 := ⟨d - 3, by omega⟩
  have z := r_fraction (d := d + 2) (by omega) (a.num * b.num) (a.den * b.den) h (Nat.mul_ne_zero a.den_nz b.den_nz) (Nat.lt_of_lt_of_le (mul_lt_pow ha.2 hb.2) (Nat.pow_le_pow_right (by decide) (by decide)))
  rw [mul_mk] at z
  rw [u_by_factor]
  simp [x_by_factor, mulOk_of (a := a.num) (b := b.num) ha.1 hb.1 (by decide), mulOk_of (a := a.den) (b := b.den) (by simpa using ha.2) (by simpa using hb.2) (by decide)]
  simp at z
  simp [z]
theorem r_is_between {d : Nat} (hd : 1 ≤ d) (a lo hi : Int) (h : AH) : Rn d k_is_between [.int a, .int lo, .int hi] h = .ok (.bl (decide (lo ≤ a ∧ a ≤ hi))) h := by
  obtain ⟨d, rfl⟩ : ∃ e, d = e + 1 := ⟨d - 1, by omega⟩
  rw [u_is_between]
  by_cases h1 : lo ≤ a <;> simp [x_is_between, h1]
theorem pow40 : powOk 10 40 = true := by decide
theorem blsOf_map {α : Type} (l : List α) (f : α → Bool) : blsOf (l.map fun a => .bl (f a)) = some (l.map f) := by
  induction l with
  | nil => rfl
  | cons a l ih => simp [blsOf, ih]
theorem all_f {α : Type} (h : AH) (l : List α) (f : α → Bool) : allK h (.f (l.map fun a => .bl (f a))) = some (.v (.bl (l.all f))) := by
  simp [allK, blsOf_map, List.all_map]
theorem intsOf_map {α : Type} (l : List α) (f : α → Int) : intsOf (l.map fun a => .int (f a)) = some (l.map f) := by
  induction l with
  | nil => rfl
  | cons a l ih => simp [intsOf, ih]
theorem sum_f {α : Type} (h : AH) (l : List α) (f : α → Int) : sumK h (.f (l.map fun a => .int (f a))) = some (.v (.int (l.map f).sum)) := by
  simp [sumK, intsOf_map]
theorem r_is_number {d : Nat} (hd : 2 ≤ d) (q : Rat) (h : AH) (hq : Sz 19000 q) : Rn d k_is_number [frD q] h = .ok (.bl true) h := by
  obtain ⟨d, rfl⟩ : ∃ e, d = e + 2 := ⟨d - 2, by omega⟩
  have z3 := r_divisor_of (d := d + 1) (by omega) q.num q.den h (fu_lt (m := 19000) (by simpa using hq.2) (by decide))
  rw [Int.natAbs_natCast, q.reduced] at z3
  have h3 := q.den_pos
  have e : ∀ env : Env', env = [some (.val (frD q)), none] → denE t_is_number (Ph (d + 1)) (.lc (.seq (.slot 0)) (.name 1) (.yes) (.andv (.isi .int (.slot 1)) (.notv (.isi .bool (.slot 1)))) [1]) env h = .ok (.f ([q.num, (q.den : Int)].map fun _ => .bl true)) h := fun env he => by
    subst he
    exact dE_lcm (α := Int) (fun i => .int i) (fun _ => .bl true) [q.num, (q.den : Int)] (sr := .one (.fx [.int q.num, .int q.den])) (by simp) rfl (by simp [sizeLine]) fun a _ => ⟨_, .v (.bl true), bindT_n _ _, rfl, by simp [wipeE], rfl⟩
  rw [u_is_number]
  simp at z3
  simp [x_is_number, e _ rfl, allK, blsOf, z3, h3]
end Lw

/-! equality of data, polynomials -/
namespace Lw
open PySem PySem.Spec PyProof.Rows L2 J
theorem eqv_list {α : Type} [DecidableEq α] (f : α → D) (hf : ∀ a b, eqvD (f a) (f b) = decide (a = b)) : ∀ l m : List α, PyData.eqvAll (toPys (l.map f)) (toPys (m.map f)) = decide (l = m)
  | [], [] => by simp [toPys, PyData.eqvAll]
  | [], b :: m => by simp [toPys, PyData.eqvAll]
  | a :: l, [] => by simp [toPys, PyData.eqvAll]
  | a :: l, b :: m => by
    have z := hf a b
    unfold eqvD at z
    simp only [List.map_cons, toPys, PyData.eqvAll, z, eqv_list f hf l m]
    by_cases h1 : a = b <;> by_cases h2 : l = m <;> simp [h1, h2]
theorem eqv_tup {α : Type} [DecidableEq α] (f : α → D) (hf : ∀ a b, eqvD (f a) (f b) = decide (a = b)) (l m : List α) : eqvD (.tup (l.map f)) (.tup (m.map f)) = decide (l = m) := by
  rw [eqvD, toPy, toPy, PyData.eqv, eqv_list f hf]
theorem eqv_lst {α : Type} [DecidableEq α] (f : α → D) (hf : ∀ a b, eqvD (f a) (f b) = decide (a = b)) (l m : List α) : eqvD (.lst (l.map f)) (.lst (m.map f)) = decide (l = m) := by
  rw [eqvD, toPy, toPy, PyData.eqv, eqv_list f hf]
theorem eqv_fr (a b : Rat) : eqvD (frD a) (frD b) = decide (a = b) := by
  have z := eqv_tup (fun i : Int => D.int i) eqv_int [a.num, (a.den : Int)] [b.num, (b.den : Int)]
  simp only [List.map_cons, List.map_nil] at z
  unfold frD
  rw [z]
  congr 1
  apply propext
  constructor
  · intro h
    simp only [List.cons.injEq, and_true] at h
    exact Rat.ext h.1 (by omega)
  · intro h; rw [h]
theorem pl_list {α : Type} (f : α → D) (n : Nat) (hf : ∀ a, plainD n (f a) = true) : ∀ l : List α, plainDs n (l.map f) = true
  | [] => by simp [plainDs]
  | a :: l => by simp [plainDs, hf a, pl_list f n hf l]
theorem pl_fr (n : Nat) (q : Rat) : plainD (n + 1) (frD q) = true := by simp [plainD, plainDs]
theorem pl_tup {α : Type} (f : α → D) (n : Nat) (hf : ∀ a, plainD n (f a) = true) (l : List α) : plainD (n + 1) (.tup (l.map f)) = true := by
  rw [plainD]; exact pl_list f n hf l
theorem pl_lst {α : Type} (f : α → D) (n : Nat) (hf : ∀ a, plainD n (f a) = true) (l : List α) : plainD (n + 1) (.lst (l.map f)) = true := by
  rw [plainD]; exact pl_list f n hf l
theorem eqK_t (n : Bool) (h : AH) (xs ys : List D) (hx : plainD 60 (.tup xs) = true) (hy : plainD 60 (.tup ys) = true) : eqK n h (.v (.tup xs)) (.v (.tup ys)) = some (.v (.bl (if n then !eqvD (.tup xs) (.tup ys) else eqvD (.tup xs) (.tup ys)))) := by
  simp [eqK, evD, hx, hy]
@[simp] theorem ne_fr (h : AH) (a b : Rat) : eqK true h (.v (frD a)) (.v (frD b)) = some (.v (.bl (!decide (a = b)))) := by
  rw [eqK_t true h _ _ (pl_fr 59 a) (pl_fr 59 b), eqv_fr]; rfl
@[simp] theorem eq_fr (h : AH) (a b : Rat) : eqK false h (.v (frD a)) (.v (frD b)) = some (.v (.bl (decide (a = b)))) := by
  rw [eqK_t false h _ _ (pl_fr 59 a) (pl_fr 59 b), eqv_fr]; rfl
theorem ne_nil {α : Type} (h : AH) (f : α → D) (hf : ∀ a, plainD 59 (f a) = true) (l : List α) : eqK true h (.v (.lst (l.map f))) (.f []) = some (.v (.bl (!l.isEmpty))) := by
  have e : evD h (.v (.lst (l.map f))) = some (.lst (l.map f)) := rfl
  have e2 : evD h (.f []) = some (.lst []) := rfl
  have e3 : plainD 60 (.lst []) = true := by simp [plainD, plainDs]
  have e4 : eqvD (.lst (l.map f)) (.lst []) = l.isEmpty := by
    cases l with
    | nil => simp [eqvD, toPy, toPys, PyData.eqv, PyData.eqvAll]
    | cons a l => simp [eqvD, toPy, toPys, PyData.eqv, PyData.eqvAll]
  simp [eqK, e, e2, e3, e4, pl_lst f 59 hf l]
/-! ### polynomials -/
/-- a sequence, as a tuple or as a list -/
def IsSq (r : D) (ds : List D) : Prop := r = .tup ds ∨ r = .lst ds
def ev (p : List Rat) (x : Rat) : Rat := p.reverse.foldl (fun f c => f * x + c) 0
@[simp] theorem ev_nil (x : Rat) : ev [] x = 0 := rfl
@[simp] theorem ev_cons (a : Rat) (p : List Rat) (x : Rat) : ev (a :: p) x = ev p x * x + a := by simp [ev]
def dv (p : List Rat) : List Rat := (List.range (p.length - 1)).map fun i => ((i + 1 : Nat) : Rat) * p.getD (i + 1) 0
abbrev rowD (p : List Rat) : D := .tup (p.map frD)
abbrev SzL (n : Nat) (p : List Rat) : Prop := ∀ c ∈ p, Sz n c
theorem lp_at (t : Tab) (d : Nat) (hd : 3 ≤ d) (r : Option Slot) (x : Rat) (k n : Nat) (hx : Sz k x) (h : AH) (body : XB) (hbody : body = (.cons (.set 2 false (.call k_plus (.cons (.call k_by_factor (.cons (.slot 2) (.cons (.slot 1) (.nil)))) (.cons (.slot 3) (.nil))))) (.nil))) :
    ∀ (l : List Rat) (acc : Rat) (m : Nat) (o : Option Slot), Sz m acc → SzL n l → m + l.length * (k + n + 1) ≤ 4000 → k ≤ 4000 → n ≤ 4000 → ∃ o', loopL (.name 3) (denB t (Ph d) body) (l.map frD) [r, some (.val (frD x)), some (.val (frD acc)), o] h = .nx [r, some (.val (frD x)), some (.val (frD (l.foldl (fun f c => f * x + c) acc))), o'] h
  | [], acc, m, o, ha, hl, hm, _, _ => ⟨o, rfl⟩
  | c :: l, acc, m, o, ha, hl, hm, hk, hn => by
    rw [List.length_cons, Nat.add_mul] at hm
    have hc := hl c List.mem_cons_self
    have z1 := r_by_factor hd acc x h (ha.mono (by omega)) (hx.mono hk)
    have hm1 := ha.mul hx
    have z2 := r_plus hd (acc * x) c h (hm1.mono (by omega)) (hc.mono hn)
    obtain ⟨o', z⟩ := lp_at t d hd r x k n hx h body hbody l (acc * x + c) (m + k + n + 1) (some (.val (frD c))) (hm1.add hc) (fun b hb => hl b (List.mem_cons_of_mem _ hb)) (by omega) hk hn
    refine ⟨o', ?_⟩
    rw [List.map_cons, loopL_cons (env' := [r, some (.val (frD x)), some (.val (frD acc)), some (.val (frD c))]) (by simp)]
    subst hbody
    simp only [frD] at z1 z2
    simp [z1, z2]
    exact z
theorem r_at_place {d : Nat} (hd : 4 ≤ d) {r : D} {p : List Rat} {x : Rat} (h : AH) (hr : IsSq r (p.map frD)) {n k : Nat} (hp : SzL n p) (hx : Sz k x) (hm : 1 + p.length * (k + n + 1) ≤ 4000) (hk : k ≤ 4000) (hn : n ≤ 4000) : Rn d k_at_place [r, frD x] h = .ok (frD (ev p x)) h := by
  obtain ⟨d, rfl⟩ : ∃ e, d = e + 4 := ⟨d - 4, by omega⟩
  obtain ⟨o', z⟩ := lp_at t_at_place (d + 3) (by omega) (some (.val r)) x k n hx h _ rfl p.reverse 0 1 none (Sz.zero (by decide)) (fun c hc => hp c (List.mem_reverse.mp hc)) (by rw [List.length_reverse]; exact hm) hk hn
  rw [u_at_place]
  have e0 : (frD 0) = .tup [.int 0, .int 1] := rfl
  rw [e0] at z
  rcases hr with rfl | rfl
  · simp only [x_at_place, dB_cons, dS_set, dE_tup]
    simp
    rw [dS_for (sr := .one (.fx ((p.reverse).map frD))) (ds := (p.reverse).map frD) (h1 := h) (by simp) rfl rfl, z]
    simp [ev]
  · simp only [x_at_place, dB_cons, dS_set, dE_tup]
    simp
    rw [dS_for (sr := .one (.fx ((p.reverse).map frD))) (ds := (p.reverse).map frD) (h1 := h) (by simp) rfl rfl, z]
    simp [ev]
end Lw

/-! rows -/
namespace Lw
open PySem PySem.Spec PyProof.Rows L2 J
theorem rg_nat {n : Nat} (h : n ≤ 1000) : rgOk (n : Int) = true := by
  unfold rgOk
  simp
  omega
theorem rg_int {i : Int} (h1 : -1000 ≤ i) (h2 : i ≤ 1000) : rgOk i = true := by
  unfold rgOk
  simp
  omega
theorem rg_one : rgOk 1 = true := by simp [rgOk]
theorem dI_r1 {T : Tab} {Φ : Phi} {env : Env'} {h : AH} {a : XE} {i : Int} (ha : denE T Φ a env h = .ok (.v (.int i)) h) (hi : rgOk i = true) : denI T Φ (.rng (.cons a .nil)) env h = .ok (.one (.fx (J.upTo 0 i.toNat))) h := by
  rw [dI_rng, dL_cons, ha, bind_ok, kL1_eq, toD_v, lift_some, bind_ok, kL2_eq, dL_nil, bind_ok, kL3_eq, bind_ok, kRg_eq, rng1 hi, lift_some]
theorem dI_r2 {T : Tab} {Φ : Phi} {env : Env'} {h : AH} {a b : XE} {i j : Int} (ha : denE T Φ a env h = .ok (.v (.int i)) h) (hb : denE T Φ b env h = .ok (.v (.int j)) h) (hi : rgOk i = true) (hj : rgOk j = true) : denI T Φ (.rng (.cons a (.cons b .nil))) env h = .ok (.one (.fx (J.upTo i (j - i).toNat))) h := by
  rw [dI_rng, dL_cons, ha, bind_ok, kL1_eq, toD_v, lift_some, bind_ok, kL2_eq, dL_cons, hb, bind_ok, kL1_eq, toD_v, lift_some, bind_ok, kL2_eq, dL_nil, bind_ok, kL3_eq, bind_ok, kL3_eq, bind_ok, kRg_eq, rng2 hi hj, lift_some]
theorem size_le {n : Nat} (h : n ≤ 1000) : n ≤ sizeLine := Nat.le_trans h (by decide)
theorem get_fr {p : List Rat} {i : Nat} (h : i < p.length) : (p.map frD)[i]? = some (frD (p.getD i 0)) := by
  rw [List.getElem?_map, List.getElem?_eq_getElem h]
  simp [h]
theorem Sz.getD {n : Nat} (hn : 0 < n) {p : List Rat} (h : SzL n p) (i : Nat) : Sz n (p.getD i 0) := by
  by_cases hi : i < p.length
  · have : p.getD i 0 = p[i] := by simp [hi]
    rw [this]; exact h _ (List.getElem_mem hi)
  · have : p.getD i 0 = 0 := by simp [hi]
    rw [this]; exact Sz.zero hn
theorem Sz.nat {n m : Nat} (h : m < 2 ^ n) (h1 : 0 < n) : Sz n ((m : Nat) : Rat) := Sz.int (i := (m : Int)) (by simpa using h) h1
theorem nat_fr (m : Nat) : frD ((m : Nat) : Rat) = .tup [.int (m : Nat), .int 1] := by
  show D.tup [.int ((m : Int) : Rat).num, .int (((m : Int) : Rat).den : Int)] = _
  rw [Rat.num_intCast, Rat.den_intCast]; rfl
theorem int_fr (m : Int) : frD (m : Rat) = .tup [.int m, .int 1] := by
  show D.tup [.int (m : Rat).num, .int ((m : Rat).den : Int)] = _
  rw [Rat.num_intCast, Rat.den_intCast]; rfl
theorem SzL.dv {n : Nat} {p : List Rat} (h : SzL n p) (hn : 0 < n) (hl : p.length ≤ 1000) : SzL (n + 10) (dv p) := fun c hc => by
  unfold Lw.dv at hc
  obtain ⟨i, hi, rfl⟩ := List.mem_map.mp hc
  have hi := List.mem_range.mp hi
  have z := (Sz.nat (n := 10) (m := i + 1) (by have : (2:Nat)^10 = 1024 := rfl; omega) (by decide)).mul (Sz.getD hn h (i + 1))
  rw [Nat.add_comm] at z
  exact z
@[simp] theorem dv_len (p : List Rat) : (dv p).length = p.length - 1 := by simp [dv]
theorem r_derivative {d : Nat} (hd : 4 ≤ d) {r : D} {p : List Rat} (h : AH) (hr : IsSq r (p.map frD)) {n : Nat} (hp : SzL n p) (hn : 0 < n) (hn2 : n ≤ 3900) (h2 : 2 ≤ p.length) (hl : p.length ≤ 1000) : Rn d k_derivative [r] h = .ok (.lst ((dv p).map frD)) h := by
  obtain ⟨d, rfl⟩ : ∃ e, d = e + 4 := ⟨d - 4, by omega⟩
  have key : ∀ o : Option Slot, denE t_derivative (Ph (d + 3)) (.lc (.rng (.cons (.cst (.int 1)) (.cons (.b1 .len (.slot 0)) (.nil)))) (.name 2) (.yes) (.call k_by_factor (.cons (.tup (.cons (.slot 2) (.cons (.cst (.int 1)) (.nil)))) (.cons (.ix (.slot 0) (.slot 2)) (.nil)))) [2]) [some (.val r), o, none] h = .ok (.f ((dv p).map frD)) h := by
    intro o
    have e : (dv p).map frD = (List.range (p.length - 1)).map fun i => frD (((i + 1 : Nat) : Rat) * p.getD (i + 1) 0) := by simp [dv]
    rw [e]
    refine dE_lcm (fun i : Nat => D.int (1 + (i : Nat))) (fun i => frD (((i + 1 : Nat) : Rat) * p.getD (i + 1) 0)) (List.range (p.length - 1)) (sr := .one (.fx (upTo 1 (p.length - 1)))) ?_ rfl (size_le (by simp; omega)) fun i hi => ?_
    · have e2 : ((p.length : Int) - 1).toNat = p.length - 1 := by omega
      rw [← e2]
      exact dI_r2 (by simp) (by rcases hr with rfl | rfl <;> simp) rg_one (rg_nat hl)
    · have hi := List.mem_range.mp hi
      have z := r_by_factor (d := d + 3) (by omega) ((i + 1 : Nat) : Rat) (p.getD (i + 1) 0) h ((Sz.nat (n := 10) (by have : (2:Nat)^10 = 1024 := rfl; omega) (by decide)).mono (by decide)) ((Sz.getD hn hp (i + 1)).mono (by omega))
      rw [nat_fr] at z
      obtain ⟨j, hj⟩ : ∃ j : Nat, j = i + 1 := ⟨_, rfl⟩
      rw [← hj] at z ⊢
      have e3 : (1 + (i : Int)) = (j : Int) := by omega
      refine ⟨[some (.val r), o, some (.val (.int (j : Int)))], .v (frD ((j : Rat) * p.getD j 0)), by simp [wipeE, e3], rfl, ?_, rfl⟩
      have g := get_fr (show j < p.length by omega)
      rcases hr with rfl | rfl <;> simp only [dE_call, dL_cons, dE_tup, dE_ix, dE_slot, dE_cst, List.getElem?_cons_succ, List.getElem?_cons_zero, slotR_v, bind_ok, kL1_eq, kL2_eq, kL3_eq, dL_nil, toD_v, lift_some, kTup_eq, kB1_eq, kB2_eq, ix_t, ix_l, at_nat, g, Option.map_some, kCall_eq, Ph_call, z, kV_eq]
  have hne : (dv p).isEmpty = false := by
    cases e : dv p with
    | nil => have := congrArg List.length e; simp at this; omega
    | cons _ _ => rfl
  rw [u_derivative]
  simp only [x_derivative, dB_cons, dS_set, key]
  simp [ne_nil h frD (pl_fr 58) (dv p), hne]
theorem k1_app : O1.k1 .app = appK := rfl
/-- a polynomial and its derivatives -/
def dvs : Nat → List Rat → List (List Rat)
  | 0, p => [p]
  | n + 1, p => p :: dvs n (dv p)
abbrev lstD (p : List Rat) : D := .lst (p.map frD)
theorem lp_ders (t : Tab) (d : Nat) (hd : 4 ≤ d) (h : AH) (a b : Option Slot) : ∀ (m i : Nat) (pre : List (List Rat)) (p : List Rat) (n : Nat) (o : Option Slot), SzL n p → 0 < n → n + 10 * m ≤ 3900 → m + 1 ≤ p.length → p.length ≤ 900 → pre.length + m ≤ 900 →
    ∃ o', loopL (.name 3) (denB t (Ph d) (.cons (.m1 2 .app (.call k_derivative (.cons (.ix (.slot 2) (.neg (.cst (.int 1)))) (.nil)))) (.nil))) ((List.range' i m).map fun i => .int (0 + (i : Nat))) [a, b, some (.own ((pre ++ [p]).map lstD)), o] h = .nx [a, b, some (.own ((pre ++ dvs m p).map lstD)), o'] h
  | 0, i, pre, p, n, o, _, _, _, _, _, _ => ⟨o, rfl⟩
  | m + 1, i, pre, p, n, o, hp, hn, hs, hl, hl2, hpre => by
    have z := r_derivative (d := d) hd h (.inr rfl : IsSq (lstD p) _) hp hn (by omega) (by omega) (by omega)
    obtain ⟨o', y⟩ := lp_ders t d hd h a b m (i + 1) (pre ++ [p]) (dv p) (n + 10) (some (.val (.int (0 + (i : Nat))))) (hp.dv hn (by omega)) (by omega) (by omega) (by simp; omega) (by simp; omega) (by simp; omega)
    refine ⟨o', ?_⟩
    rw [List.range'_succ, List.map_cons, loopL_cons (env' := [a, b, some (.own ((pre ++ [p]).map lstD)), some (.val (.int (0 + (i : Nat))))]) (by simp), dB_cons]
    rw [dS_m1 (ds := (pre ++ [p]).map lstD) (ds' := (pre ++ [p] ++ [dv p]).map lstD) (ev := .v (lstD (dv p))) (h1 := h) (by simp [getL]) (by
      have e : atI ((pre ++ [p]).map lstD) (-1) = some (lstD p) := by rw [List.map_append]; exact at_last _ _
      simp only [dE_call, dL_cons, dE_ix, dE_slot, dE_neg, dE_cst]
      simp only [List.getElem?_cons_succ, List.getElem?_cons_zero, slotR_o, bind_ok, kB1_eq, kU_eq, neg_i, lift_some, kB2_eq, ix_b, e, Option.map_some, kL1_eq, toD_v, kL2_eq, dL_nil, kL3_eq, kCall_eq, Ph_call, dE_neg, dE_cst, z, kV_eq]) (by simp [getL]) (by
      rw [k1_app]
      have : (pre ++ [p]).length < sizeLine := Nat.lt_of_lt_of_le (show (pre ++ [p]).length < 1000 by simp; omega) (by decide)
      unfold appK
      simp only [toD_v, List.length_map, if_pos this]
      simp)]
    simp only [seqR_nx, dB_nil]
    have e2 : putE 2 ((pre ++ [p] ++ [dv p]).map lstD) [a, b, some (.own ((pre ++ [p]).map lstD)), some (.val (.int (0 + (i : Nat))))] = [a, b, some (.own ((pre ++ [p] ++ [dv p]).map lstD)), some (.val (.int (0 + (i : Nat))))] := rfl
    have e3 : putH 2 ((pre ++ [p] ++ [dv p]).map lstD) [a, b, some (.own ((pre ++ [p]).map lstD)), some (.val (.int (0 + (i : Nat))))] h = h := rfl
    rw [e2, e3, y]
    simp [dvs]
theorem ders_a (d : Nat) {r : D} {p : List Rat} (h : AH) (hr : IsSq r (p.map frD)) (m : Nat) : denS t_derivatives (Ph d) (.set 2 true (.lst (.cons (.b1 .list (.slot 0)) (.nil)))) [some (.val r), some (.val (.int (m : Nat))), none, none] h = .nx [some (.val r), some (.val (.int (m : Nat))), some (.own [lstD p]), none] h := by
  rcases hr with rfl | rfl <;> simp
theorem ders_b (d : Nat) (h : AH) (a b o : Option Slot) (ds : List D) : denB t_derivatives (Ph d) (.cons (.frz [2] (.ret (.slot 2))) (.nil)) [a, b, some (.own ds), o] h = .ret (.lst ds) h := by
  simp [frzs, frz1]
theorem ders_c (d : Nat) (h : AH) (a o : Option Slot) (m : Nat) (hm : m ≤ 1000) (ds : List D) (env' : Env') (b : XB)
    (z : loopL (.name 3) (denB t_derivatives (Ph d) b) ((List.range' 0 m).map fun i => .int (0 + (i : Nat))) [a, some (.val (.int (m : Nat))), some (.own ds), o] h = .nx env' h) : denS t_derivatives (Ph d) (.forr (.name 3) (.rng (.cons (.slot 1) (.nil))) b) [a, some (.val (.int (m : Nat))), some (.own ds), o] h = .nx env' h := by
  rw [dS_for (dI_r1 (i := (m : Nat)) (by simp) (rg_nat hm)) rfl (by rw [fx1, J.upTo, List.range_eq_range', Int.toNat_natCast])]
  exact z
theorem r_derivatives {d : Nat} (hd : 5 ≤ d) {r : D} {p : List Rat} (h : AH) (hr : IsSq r (p.map frD)) {n m : Nat} (hp : SzL n p) (hn : 0 < n) (hm : m + 1 ≤ p.length) (hl : p.length ≤ 300) (hs : n + 10 * m ≤ 3900) : Rn d k_derivatives [r, .int (m : Nat)] h = .ok (.lst ((dvs m p).map lstD)) h := by
  obtain ⟨d, rfl⟩ : ∃ e, d = e + 5 := ⟨d - 5, by omega⟩
  obtain ⟨o', z⟩ := lp_ders t_derivatives (d + 4) (by omega) h (some (.val r)) (some (.val (.int (m : Nat)))) m 0 [] p n none hp hn hs hm (by omega) (by simp; omega)
  rw [u_derivatives, x_derivatives, dB_cons, ders_a (d + 4) h hr m, seqR_nx, dB_cons, ders_c (d + 4) h _ _ m (by omega) [lstD p] _ _ z, seqR_nx, ders_b, endF_ret, trim_self]
  rfl
end Lw

/-! kinds -/
namespace Lw
open PySem PySem.Spec PyProof.Rows L2 J
abbrev jD (j : Nat) : D := .int (j : Int)
abbrev kindD (deg : Nat) (kn : List Int) (jo : List Nat) : D := .tup [.int (deg : Int), .tup (kn.map D.int), .tup (jo.map jD)]
structure KOk (deg : Nat) (kn : List Int) (jo : List Nat) : Prop where
  d1 : 1 ≤ deg
  d3 : deg ≤ 3
  l2 : 2 ≤ kn.length
  l6 : kn.length ≤ 6
  rng : ∀ x ∈ kn, -20 ≤ x ∧ x ≤ 20
  asc : ∀ i, i + 1 < kn.length → kn.getD i 0 < kn.getD (i + 1) 0
  jl : jo.length + 2 = kn.length
  jd : ∀ j ∈ jo, j < deg
theorem get_int {l : List Int} {i : Nat} (h : i < l.length) : (l.map D.int)[i]? = some (.int (l.getD i 0)) := by
  rw [List.getElem?_map, List.getElem?_eq_getElem h]
  simp [h]
theorem get_j {l : List Nat} {i : Nat} (h : i < l.length) : (l.map jD)[i]? = some (.int (l.getD i 0 : Nat)) := by
  rw [List.getElem?_map, List.getElem?_eq_getElem h]
  simp [h]
theorem all_rep (h : AH) (n : Nat) : allK h (.f (List.replicate n (.bl true))) = some (.v (.bl true)) := by
  have e : List.replicate n (D.bl true) = (List.replicate n true).map fun b => .bl b := by simp
  rw [e, all_f]
  simp
/-- a comprehension of truths -/
theorem dE_lct {T : Tab} {Φ : Phi} {env : Env'} {h : AH} {α : Type} {it : XI} {t : Tg} {ft : XT} {e : XE} {vs : List Nat} {sr : Sr} (f : α → D) (l : List α) (hi : denI T Φ it env h = .ok sr h) (hf : sr.fx = some (l.map f)) (hl : l.length ≤ 1000)
    (hs : ∀ a ∈ l, ∃ env', bindT t (f a) (wipeE env vs) = some env' ∧ denT T Φ ft env' h = .ok true h ∧ denE T Φ e env' h = .ok (.v (.bl true)) h) :
    denE T Φ (.lc it t ft e vs) env h = .ok (.f (List.replicate l.length (.bl true))) h := by
  rw [dE_lcm f (fun _ => .bl true) l hi hf (size_le hl) fun a ha => by
    obtain ⟨env', e1, e2, e3⟩ := hs a ha
    exact ⟨env', _, e1, e2, e3, rfl⟩]
  rw [List.map_const']
section
variable {deg : Nat} {kn : List Int} {jo : List Nat} (K : KOk deg kn jo) (h : AH)
include K
theorem ik_a (d : Nat) (hd : 1 ≤ d) (a b c : Option Slot) : denE t_is_kind (Ph d) (.lc (.seq (.slot 2)) (.name 4) (.yes) (.call k_is_between (.cons (.slot 4) (.cons (.neg (.cst (.int 20))) (.cons (.cst (.int 20)) (.nil))))) [4]) [a, b, some (.val (.tup (kn.map D.int))), c, none, none] h = .ok (.f (List.replicate kn.length (.bl true))) h :=
  dE_lct D.int kn (sr := .one (.fx (kn.map D.int))) (by simp) rfl (by have := K.l6; omega) fun x hx => by
    have z := r_is_between hd x (-20) 20 h
    rw [decide_eq_true (K.rng x hx)] at z
    exact ⟨[a, b, some (.val (.tup (kn.map D.int))), c, some (.val (.int x)), none], by simp [wipeE], rfl, by simp [z]⟩
theorem ik_b (d : Nat) (a b c : Option Slot) : denE t_is_kind (Ph d) (.lc (.rng (.cons (.bin .sub (.b1 .len (.slot 2)) (.cst (.int 1))) (.nil))) (.name 5) (.yes) (.cmp .lt (.ix (.slot 2) (.slot 5)) (.ix (.slot 2) (.bin .add (.slot 5) (.cst (.int 1))))) [5]) [a, b, some (.val (.tup (kn.map D.int))), c, none, none] h = .ok (.f (List.replicate (kn.length - 1) (.bl true))) h := by
  have e2 : ((kn.length : Int) - 1).toNat = kn.length - 1 := by omega
  have l6 := K.l6
  have l2 := K.l2
  have z := dE_lct (T := t_is_kind) (Φ := Ph d) (env := [a, b, some (.val (.tup (kn.map D.int))), c, none, none]) (h := h) (it := .rng (.cons (.bin .sub (.b1 .len (.slot 2)) (.cst (.int 1))) (.nil))) (t := .name 5) (ft := .yes) (e := .cmp .lt (.ix (.slot 2) (.slot 5)) (.ix (.slot 2) (.bin .add (.slot 5) (.cst (.int 1))))) (vs := [5])
    (fun i : Nat => D.int (0 + (i : Nat))) (List.range (kn.length - 1)) (sr := .one (.fx (J.upTo 0 ((kn.length : Int) - 1).toNat))) (dI_r1 (by simp) (rg_int (by omega) (by omega))) (by rw [fx1, e2, J.upTo]) (by simp; omega) fun i hi => by
      have hi := List.mem_range.mp hi
      obtain ⟨j, hj⟩ : ∃ j : Nat, j = i + 1 := ⟨_, rfl⟩
      have e3 : ((i : Int) + 1) = (j : Int) := by omega
      have hlt : kn.getD i 0 < kn.getD j 0 := by rw [hj]; exact K.asc i (by omega)
      refine ⟨[a, b, some (.val (.tup (kn.map D.int))), c, none, some (.val (.int (i : Int)))], by simp [wipeE], rfl, ?_⟩
      simp only [dE_cmp, dE_ix, dE_slot, dE_bin, dE_cst, List.getElem?_cons_succ, List.getElem?_cons_zero, slotR_v, bind_ok, kB1_eq, kB2_eq, ix_t, at_nat, get_int (show i < kn.length by omega), Option.map_some, lift_some, k_add, add_ii, e3, get_int (show j < kn.length by omega), lt_ii, decide_eq_true hlt]
  rw [List.length_range] at z
  exact z
theorem ik_c (d : Nat) (hd : 1 ≤ d) (a c : Option Slot) : denE t_is_kind (Ph d) (.lc (.seq (.slot 3)) (.name 4) (.yes) (.call k_is_between (.cons (.slot 4) (.cons (.cst (.int 0)) (.cons (.bin .sub (.slot 1) (.cst (.int 1))) (.nil))))) [4]) [a, some (.val (.int (deg : Int))), c, some (.val (.tup (jo.map jD))), none, none] h = .ok (.f (List.replicate jo.length (.bl true))) h :=
  dE_lct jD jo (sr := .one (.fx (jo.map jD))) (by simp) rfl (by have := K.l6; have := K.jl; omega) fun x hx => by
    have z := r_is_between hd (x : Int) 0 ((deg : Int) - 1) h
    rw [decide_eq_true (by have := K.jd x hx; omega)] at z
    refine ⟨[a, some (.val (.int (deg : Int))), c, some (.val (.tup (jo.map jD))), some (.val (.int (x : Int))), none], by simp [wipeE], rfl, ?_⟩
    simp only [dE_call, dL_cons, dE_slot, dE_bin, dE_cst, List.getElem?_cons_succ, List.getElem?_cons_zero, slotR_v, bind_ok, kB1_eq, kB2_eq, lift_some, k_sub, sub_ii, kL1_eq, toD_v, kL2_eq, dL_nil, kL3_eq, kCall_eq, Ph_call, z, kV_eq]
theorem r_is_kind {d : Nat} (hd : 2 ≤ d) : Rn d k_is_kind [kindD deg kn jo] h = .ok (.bl true) h := by
  obtain ⟨d, rfl⟩ : ∃ e, d = e + 2 := ⟨d - 2, by omega⟩
  have z0 := r_is_between (d := d + 1) (by omega) (deg : Int) 1 3 h
  have d1 := K.d1
  have d3 := K.d3
  have l2 := K.l2
  have l6 := K.l6
  have jl := K.jl
  rw [decide_eq_true (by omega)] at z0
  have s1 : (2 : Int) ≤ (kn.length : Int) := by omega
  have s2 : (kn.length : Int) ≤ 6 := by omega
  have s3 : (jo.length : Int) = (kn.length : Int) - 2 := by omega
  rw [u_is_kind]
  simp [x_is_kind, z0, s1, s2, s3, l2, l6, ik_a K h (d + 1) (by omega), ik_b K h (d + 1), ik_c K h (d + 1) (by omega), all_rep]
theorem r_check_kind {d : Nat} (hd : 3 ≤ d) : Rn d k_check_kind [kindD deg kn jo] h = .ok .non h := by
  obtain ⟨d, rfl⟩ : ∃ e, d = e + 3 := ⟨d - 3, by omega⟩
  have z := r_is_kind K h (d := d + 2) (by omega)
  rw [u_check_kind, x_check_kind]
  simp only [dB_cons, dS_ife, dT_not, dT_tr, dE_call, dL_cons, dE_slot, List.getElem?_cons_zero, slotR_v, bind_ok, kL1_eq, toD_v, lift_some, kL2_eq, dL_nil, kL3_eq, kCall_eq, Ph_call, z, kV_eq, kTr_eq, truth_b, kNotT_eq, Bool.not_true, exS_ok, kIfS_f, dB_nil, seqR_nx, endF_nx, trim_self]
end
end Lw

/-! functions of a kind -/
namespace Lw
open PySem PySem.Spec PyProof.Rows L2 J
theorem zipD_map {α β : Type} (f : α → D) (g : β → D) : ∀ (p : List α) (q : List β), zipD (p.map f) (q.map g) = (p.zip q).map fun z => .wt [f z.1, g z.2]
  | [], q => by cases q <;> rfl
  | a :: p, [] => rfl
  | a :: p, b :: q => by simp only [List.map_cons, zipD, List.zip_cons_cons, zipD_map f g p q]
theorem enumF_map {α : Type} (f : α → D) : ∀ (l : List α) (k : Nat), enumF k (l.map f) = (l.zipIdx k).map fun z => .wt [.int (z.2 : Nat), f z.1]
  | [], k => rfl
  | a :: l, k => by simp only [List.map_cons, enumF, List.zipIdx_cons, enumF_map f l (k + 1)]
def agrN (x : Rat) : List (List Rat × List Rat) → Int → Int
  | [], f => f
  | z :: l, f => if ev z.1 x = ev z.2 x then agrN x l (f + 1) else f
def agr (p q : List Rat) (x : Rat) : Int := agrN x ((dvs (p.length - 1) p).zip (dvs (p.length - 1) q)) (-1)
def agrB : XB := .cons (.ife (.cmp .ne (.call k_at_place (.cons (.slot 5) (.cons (.slot 4) (.nil)))) (.call k_at_place (.cons (.slot 6) (.cons (.slot 4) (.nil))))) (.cons (.ret (.slot 3)) (.nil)) (.nil)) (.cons (.set 3 false (.bin .add (.slot 3) (.cst (.int 1)))) (.nil))
theorem lp_agr (d : Nat) (hd : 4 ≤ d) (h : AH) (a b c : Option Slot) (x : Rat) {k n : Nat} (hx : Sz k x) (hk : k ≤ 4000) (hn : n ≤ 4000) : ∀ (L : List (List Rat × List Rat)) (f : Int) (o5 o6 : Option Slot), (∀ z ∈ L, SzL n z.1 ∧ SzL n z.2 ∧ 1 + z.1.length * (k + n + 1) ≤ 4000 ∧ 1 + z.2.length * (k + n + 1) ≤ 4000) →
    seqR (loopL (.tup [.name 5, .name 6]) (denB t_agreeing (Ph d) agrB) (L.map fun z => .wt [lstD z.1, lstD z.2]) [a, b, c, some (.val (.int f)), some (.val (frD x)), o5, o6] h) (denB t_agreeing (Ph d) (.cons (.ret (.slot 3)) .nil)) = .ret (.int (agrN x L f)) h
  | [], f, o5, o6, _ => by simp [agrN]
  | z :: L, f, o5, o6, hz => by
    obtain ⟨h1, h2, h3, h4⟩ := hz z List.mem_cons_self
    have y1 := r_at_place hd h (.inr rfl : IsSq (lstD z.1) _) h1 hx h3 hk hn
    have y2 := r_at_place hd h (.inr rfl : IsSq (lstD z.2) _) h2 hx h4 hk hn
    have ih := lp_agr d hd h a b c x hx hk hn L (f + 1) (some (.val (lstD z.1))) (some (.val (lstD z.2))) fun w hw => hz w (List.mem_cons_of_mem _ hw)
    rw [List.map_cons, loopL_cons (env' := [a, b, c, some (.val (.int f)), some (.val (frD x)), some (.val (lstD z.1)), some (.val (lstD z.2))]) (by simp)]
    by_cases e : ev z.1 x = ev z.2 x
    · have y3 : denB t_agreeing (Ph d) agrB [a, b, c, some (.val (.int f)), some (.val (frD x)), some (.val (lstD z.1)), some (.val (lstD z.2))] h = .nx [a, b, c, some (.val (.int (f + 1))), some (.val (frD x)), some (.val (lstD z.1)), some (.val (lstD z.2))] h := by
        simp [agrB, y1, y2, e]
      rw [y3, seqR_nx, ih]
      simp [agrN, e]
    · have y3 : denB t_agreeing (Ph d) agrB [a, b, c, some (.val (.int f)), some (.val (frD x)), some (.val (lstD z.1)), some (.val (lstD z.2))] h = .ret (.int f) h := by
        simp [agrB, y1, y2, e]
      rw [y3]
      simp [agrN, e]
theorem dvs_sz {n : Nat} (hn : 0 < n) : ∀ (m : Nat) (p : List Rat), SzL n p → p.length ≤ 4 → ∀ q ∈ dvs m p, SzL (n + 10 * m) q ∧ q.length ≤ 4
  | 0, p, h, hl, q, hq => by
    simp [dvs] at hq; subst hq; exact ⟨h, hl⟩
  | m + 1, p, h, hl, q, hq => by
    rw [dvs, List.mem_cons] at hq
    rcases hq with rfl | hq
    · exact ⟨fun c hc => (h c hc).mono (by omega), hl⟩
    · obtain ⟨y1, y2⟩ := dvs_sz (n := n + 10) (by omega) m (dv p) (h.dv hn (by omega)) (by simp; omega) q hq
      exact ⟨fun c hc => (y1 c hc).mono (by omega), y2⟩
@[simp] theorem dvs_len (m : Nat) (p : List Rat) : (dvs m p).length = m + 1 := by
  induction m generalizing p with
  | zero => rfl
  | succ m ih => simp [dvs, ih]
theorem r_agreeing {d : Nat} (hd : 6 ≤ d) {r s : D} {p q : List Rat} {x : Int} (h : AH) (hr : IsSq r (p.map frD)) (hs : IsSq s (q.map frD)) {n : Nat} (hp : SzL n p) (hq : SzL n q) (hn : 0 < n) (hn2 : n ≤ 900) (h1 : 2 ≤ p.length) (h2 : p.length ≤ 4) (h3 : q.length = p.length) (hx : x.natAbs < 2 ^ 10) : Rn d k_agreeing [r, s, .int x] h = .ok (.int (agr p q (x : Rat))) h := by
  obtain ⟨d, rfl⟩ : ∃ e, d = e + 6 := ⟨d - 6, by omega⟩
  obtain ⟨m, hm⟩ : ∃ m : Nat, m = p.length - 1 := ⟨_, rfl⟩
  have em : (p.length : Int) - 1 = (m : Int) := by omega
  have z1 := r_derivatives (d := d + 5) (by omega) h hr hp hn (show m + 1 ≤ p.length by omega) (by omega) (by omega)
  have z2 := r_derivatives (d := d + 5) (by omega) h hs hq hn (show m + 1 ≤ q.length by omega) (by omega) (by omega)
  have hX : Sz 10 (x : Rat) := Sz.int hx (by decide)
  have y := lp_agr (d + 5) (by omega) h (some (.val r)) (some (.val s)) (some (.val (.int x))) (x : Rat) (n := n + 30) hX (by decide) (by omega) ((dvs m p).zip (dvs m q)) (-1) none none fun z hz => by
    obtain ⟨w1, w2⟩ := dvs_sz hn m p hp h2 z.1 (List.of_mem_zip hz).1
    obtain ⟨w3, w4⟩ := dvs_sz hn m q hq (by omega) z.2 (List.of_mem_zip hz).2
    refine ⟨fun c hc => (w1 c hc).mono (by omega), fun c hc => (w3 c hc).mono (by omega), ?_, ?_⟩
    · have : z.1.length * (10 + (n + 30) + 1) ≤ 4 * (10 + (n + 30) + 1) := Nat.mul_le_mul_right _ w2
      omega
    · have : z.2.length * (10 + (n + 30) + 1) ≤ 4 * (10 + (n + 30) + 1) := Nat.mul_le_mul_right _ w4
      omega
  rw [int_fr] at y
  have ea : agr p q (x : Rat) = agrN (x : Rat) ((dvs m p).zip (dvs m q)) (-1) := by rw [agr, hm]
  have el : denE t_agreeing (Ph (d + 5)) (.b1 .len (.slot 0)) [some (.val r), some (.val s), some (.val (.int x)), some (.val (.int (-1))), some (.val (.tup [.int x, .int 1])), none, none] h = .ok (.v (.int (p.length : Nat))) h := by
    rcases hr with rfl | rfl <;> simp
  have ei : denI t_agreeing (Ph (d + 5)) (.zip (.call k_derivatives (.cons (.slot 0) (.cons (.bin .sub (.b1 .len (.slot 0)) (.cst (.int 1))) (.nil)))) (.call k_derivatives (.cons (.slot 1) (.cons (.bin .sub (.b1 .len (.slot 0)) (.cst (.int 1))) (.nil))))) [some (.val r), some (.val s), some (.val (.int x)), some (.val (.int (-1))), some (.val (.tup [.int x, .int 1])), none, none] h = .ok (.zip (.fx ((dvs m p).map lstD)) (.fx ((dvs m q).map lstD))) h := by
    simp only [dI_zip, dE_call, dL_cons, dE_bin, el, bind_ok, dE_slot, List.getElem?_cons_succ, List.getElem?_cons_zero, slotR_v, kL1_eq, toD_v, lift_some, kL2_eq, dL_nil, kL3_eq, kB1_eq, dE_cst, kB2_eq, k_sub, sub_ii, em, kCall_eq, Ph_call, z1, z2, kV_eq, kZ1_eq, srcOf_l, kZ2_eq, kZ3_eq, Option.bind_some, okI3]
  rw [u_agreeing, x_agreeing, dB_cons]
  have e0 : denS t_agreeing (Ph (d + 5)) (.par [3, 4] [false, false] (.cons (.neg (.cst (.int 1))) (.cons (.tup (.cons (.slot 2) (.cons (.cst (.int 1)) (.nil)))) (.nil)))) [some (.val r), some (.val s), some (.val (.int x)), none, none, none, none] h = .nx [some (.val r), some (.val s), some (.val (.int x)), some (.val (.int (-1))), some (.val (.tup [.int x, .int 1])), none, none] h := by simp
  rw [e0, seqR_nx, dB_cons, dS_for ei rfl (by rw [fx3, zipD_map])]
  have y' : seqR (loopL (.tup [.name 5, .name 6]) (denB t_agreeing (Ph (d + 5)) agrB) (((dvs m p).zip (dvs m q)).map fun z => .wt [lstD z.1, lstD z.2]) [some (.val r), some (.val s), some (.val (.int x)), some (.val (.int (-1))), some (.val (.tup [.int x, .int 1])), none, none] h) (denB t_agreeing (Ph (d + 5)) (.cons (.ret (.slot 3)) .nil)) = .ret (.int (agr p q (x : Rat))) h := by rw [ea]; exact y
  unfold agrB at y'
  rw [y', endF_ret, trim_self]
/-- rows for the pieces of a kind -/
structure ROk (deg : Nat) (kn : List Int) (n : Nat) (f : List (List Rat)) : Prop where
  len : f.length + 1 = kn.length
  row : ∀ p ∈ f, p.length = deg + 1
  sz : ∀ p ∈ f, SzL n p
abbrev fnD (f : List (List Rat)) : D := .tup (f.map rowD)
theorem get_row {f : List (List Rat)} {i : Nat} (h : i < f.length) : (f.map rowD)[i]? = some (rowD (f.getD i [])) := by
  rw [List.getElem?_map, List.getElem?_eq_getElem h]
  simp [h]
theorem getD_mem {α : Type} {l : List α} {i : Nat} {z : α} (h : i < l.length) : l.getD i z ∈ l := by
  have : l.getD i z = l[i] := by simp [h]
  rw [this]; exact List.getElem_mem h
def inner (kn : List Int) : List Int := (kn.drop 1).take (kn.length - 2)
theorem cut_inner {kn : List Int} (h : 2 ≤ kn.length) : J.cutD (kn.map D.int) (some 1) (some (-1)) = (inner kn).map D.int := by
  unfold J.cutD inner HT.sIx
  simp only [List.length_map]
  have e1 : min (1 : Int).toNat kn.length = 1 := by simp; omega
  have e2 : (-1 + (kn.length : Int)).toNat = kn.length - 1 := by omega
  simp [e2]
  rw [Nat.min_eq_left (by omega)]
  simp
  omega
@[simp] theorem inner_len (kn : List Int) : (inner kn).length = kn.length - 2 := by simp [inner]; omega
def agL (kn : List Int) (f : List (List Rat)) : List Int := ((inner kn).zipIdx 0).map fun z => agr (f.getD z.2 []) (f.getD (z.2 + 1) []) (z.1 : Rat)
def joinB (kn : List Int) (jo : List Nat) (f : List (List Rat)) : Bool := ((agL kn f).zip jo).all fun z => decide ((z.2 : Int) ≤ z.1)
section
variable {deg : Nat} {kn : List Int} {jo : List Nat} (K : KOk deg kn jo) {n : Nat} {f : List (List Rat)} (R : ROk deg kn n f) (hn : 0 < n) (hn2 : n ≤ 900) (h : AH)
include K
theorem K_mem {x : Int} (hx : x ∈ kn) : x.natAbs < 2 ^ 10 := by
  have := K.rng x hx
  have e : (2 : Nat) ^ 10 = 1024 := rfl
  omega
theorem inner_mem {x : Int} (hx : x ∈ inner kn) : x ∈ kn := List.mem_of_mem_drop (List.mem_of_mem_take hx)
include R hn hn2
theorem dj_a (d : Nat) (hd : 6 ≤ d) : denE t_does_join (Ph d) (.lc (.enum (.sl (.ix (.slot 0) (.cst (.int 1))) (.so (.cst (.int 1))) (.so (.neg (.cst (.int 1)))))) (.tup [.name 3, .name 4]) (.yes) (.call k_agreeing (.cons (.ix (.slot 1) (.slot 3)) (.cons (.ix (.slot 1) (.bin .add (.slot 3) (.cst (.int 1)))) (.cons (.slot 4) (.nil))))) [3, 4]) [some (.val (kindD deg kn jo)), some (.val (fnD f)), none, none, none, none, none] h = .ok (.f ((agL kn f).map D.int)) h := by
  have l2 := K.l2
  have l6 := K.l6
  have rl := R.len
  have d1 := K.d1
  have d3 := K.d3
  have e : (agL kn f).map D.int = ((inner kn).zipIdx 0).map fun z => .int (agr (f.getD z.2 []) (f.getD (z.2 + 1) []) (z.1 : Rat)) := by simp [agL]
  rw [e]
  refine dE_lcm (fun z : Int × Nat => D.wt [.int (z.2 : Nat), .int z.1]) _ ((inner kn).zipIdx 0) (sr := .enum (.fx ((inner kn).map D.int))) (by simp [cut_inner l2]) (by rw [fx7, enumF_map]) (size_le (by simp; omega)) fun z hz => ?_
  obtain ⟨x, i⟩ := z
  obtain ⟨-, hi, hx⟩ := List.mem_zipIdx hz
  simp at hi hx
  have hxm : x ∈ inner kn := by rw [hx]; exact List.getElem_mem _
  obtain ⟨j, hj⟩ : ∃ j : Nat, j = i + 1 := ⟨_, rfl⟩
  have e3 : ((i : Int) + 1) = (j : Int) := by omega
  have m1 := getD_mem (z := ([] : List Rat)) (show i < f.length by omega)
  have m2 := getD_mem (z := ([] : List Rat)) (show j < f.length by omega)
  have z := r_agreeing hd h (.inl rfl : IsSq (rowD (f.getD i [])) _) (.inl rfl : IsSq (rowD (f.getD j [])) _) (R.sz _ m1) (R.sz _ m2) hn hn2 (by rw [R.row _ m1]; omega) (by rw [R.row _ m1]; omega) (by rw [R.row _ m1, R.row _ m2]) (K_mem K (inner_mem K hxm))
  show ∃ (env' : Env') (evx : EV), bindT _ _ _ = _ ∧ _ ∧ _ ∧ evx.toD = some (D.int (agr (f.getD i []) (f.getD (i + 1) []) (x : Rat)))
  rw [← hj]
  refine ⟨[some (.val (kindD deg kn jo)), some (.val (fnD f)), none, some (.val (.int (i : Int))), some (.val (.int x)), none, none], .v (.int (agr (f.getD i []) (f.getD j []) (x : Rat))), by simp [wipeE], rfl, ?_, rfl⟩
  simp only [dE_call, dL_cons, dE_ix, dE_slot, dE_bin, dE_cst, List.getElem?_cons_succ, List.getElem?_cons_zero, slotR_v, bind_ok, kB1_eq, kB2_eq, ix_t, at_nat, get_row (show i < f.length by omega), get_row (show j < f.length by omega), Option.map_some, lift_some, k_add, add_ii, e3, kL1_eq, toD_v, kL2_eq, dL_nil, kL3_eq, kCall_eq, Ph_call, z, kV_eq]
theorem r_does_join {d : Nat} (hd : 7 ≤ d) : Rn d k_does_join [kindD deg kn jo, fnD f] h = .ok (.bl (joinB kn jo f)) h := by
  obtain ⟨d, rfl⟩ : ∃ e, d = e + 7 := ⟨d - 7, by omega⟩
  have l6 := K.l6
  have jl := K.jl
  have z := dj_a K R hn hn2 h (d + 6) (by omega)
  have y : denE t_does_join (Ph (d + 6)) (.lc (.zip (.slot 2) (.ix (.slot 0) (.cst (.int 2)))) (.tup [.name 5, .name 6]) (.yes) (.cmp .ge (.slot 5) (.slot 6)) [5, 6]) [some (.val (kindD deg kn jo)), some (.val (fnD f)), some (.val (.lst ((agL kn f).map D.int))), none, none, none, none] h = .ok (.f (((agL kn f).zip jo).map fun z => .bl (decide ((z.2 : Int) ≤ z.1)))) h :=
    dE_lcm (fun z : Int × Nat => D.wt [.int z.1, jD z.2]) _ ((agL kn f).zip jo) (sr := .zip (.fx ((agL kn f).map D.int)) (.fx (jo.map jD))) (by simp) (by rw [fx3, zipD_map]) (size_le (by simp; omega)) fun z _ => ⟨[some (.val (kindD deg kn jo)), some (.val (fnD f)), some (.val (.lst ((agL kn f).map D.int))), none, none, some (.val (.int z.1)), some (.val (.int (z.2 : Int)))], .v (.bl (decide ((z.2 : Int) ≤ z.1))), by simp [wipeE], rfl, by simp, rfl⟩
  rw [u_does_join, x_does_join, dB_cons, dS_set, z]
  simp only [exS_ok, kSet_eq, slotOf_ff, lift_some, kSet2_eq, seqR_nx, List.set_cons_succ, List.set_cons_zero, dB_cons, dS_ret, dE_b1, y, bind_ok, kU_eq, b1_all, all_f, kRet_eq, toD_v, kRet2_eq, seqR_ret, endF_ret, trim_self]
  rfl
theorem ir_a (d : Nat) : denE t_is_rows (Ph d) (.lc (.seq (.slot 1)) (.name 2) (.yes) (.andv (.isi .tup (.slot 2)) (.cmp .eq (.b1 .len (.slot 2)) (.bin .add (.ix (.slot 0) (.cst (.int 0))) (.cst (.int 1))))) [2]) [some (.val (kindD deg kn jo)), some (.val (fnD f)), none, none] h = .ok (.f (List.replicate f.length (.bl true))) h :=
  dE_lct rowD f (sr := .one (.fx (f.map rowD))) (by simp) rfl (by have := K.l6; have := R.len; omega) fun p hp => by
    have e : (p.length : Int) = (deg : Int) + 1 := by have := R.row p hp; omega
    exact ⟨[some (.val (kindD deg kn jo)), some (.val (fnD f)), some (.val (rowD p)), none], by simp [wipeE], rfl, by simp [e]⟩
theorem ir_b (d : Nat) (hd : 2 ≤ d) : denE t_is_rows (Ph d) (.lc2 (.seq (.slot 1)) (.name 2) (.yes) (.seq (.slot 2)) (.name 3) (.yes) (.call k_is_number (.cons (.slot 3) (.nil))) [2, 3] [3]) [some (.val (kindD deg kn jo)), some (.val (fnD f)), none, none] h = .ok (.f (List.replicate (f.flatMap id).length (.bl true))) h := by
  have hl : (f.flatMap id).length ≤ 1000 := by
    have l6 := K.l6
    have rl := R.len
    have d3 := K.d3
    have : ∀ g : List (List Rat), (∀ p ∈ g, p.length = deg + 1) → (g.flatMap id).length = g.length * (deg + 1) := by
      intro g
      induction g with
      | nil => intro _; simp
      | cons a g ih => intro q; rw [List.flatMap_cons, List.length_append, ih (fun p hp => q p (List.mem_cons_of_mem _ hp)), id, q a List.mem_cons_self, List.length_cons, Nat.add_mul]; omega
    rw [this f R.row]
    have : f.length * (deg + 1) ≤ 5 * 4 := Nat.mul_le_mul (by omega) (by omega)
    omega
  rw [dE_lcm2 rowD id frD (fun _ => .bl true) f (h1 := h) (sr := .one (.fx (f.map rowD))) (by simp) rfl (size_le hl) fun p hp => ⟨[some (.val (kindD deg kn jo)), some (.val (fnD f)), some (.val (rowD p)), none], .one (.fx (p.map frD)), by simp [wipeE], rfl, by simp, rfl, rfl, fun q hq => by
    have z := r_is_number hd q h ((R.sz p hp q hq).mono (by omega))
    exact ⟨[some (.val (kindD deg kn jo)), some (.val (fnD f)), some (.val (rowD p)), some (.val (frD q))], .v (.bl true), by simp [wipeE], rfl, by simp [z], rfl⟩⟩]
  rw [List.map_const']
theorem r_is_rows {d : Nat} (hd : 3 ≤ d) : Rn d k_is_rows [kindD deg kn jo, fnD f] h = .ok (.bl true) h := by
  obtain ⟨d, rfl⟩ : ∃ e, d = e + 3 := ⟨d - 3, by omega⟩
  have rl := R.len
  have e : (f.length : Int) = (kn.length : Int) - 1 := by omega
  have e2 : ((kn.length : Int) - 1 = (f.length : Int)) := by omega
  rw [u_is_rows]
  simp [x_is_rows, e2, ir_a K R hn hn2 h (d + 2), ir_b K R hn hn2 h (d + 2) (by omega), all_rep, -List.flatMap_id]
theorem r_is_function {d : Nat} (hd : 8 ≤ d) : Rn d k_is_function [kindD deg kn jo, fnD f] h = .ok (.bl (joinB kn jo f)) h := by
  obtain ⟨d, rfl⟩ : ∃ e, d = e + 8 := ⟨d - 8, by omega⟩
  rw [u_is_function]
  simp [x_is_function, r_check_kind K h (d := d + 7) (by omega), r_is_rows K R hn hn2 h (d := d + 7) (by omega), r_does_join K R hn hn2 h (d := d + 7) (by omega)]
theorem r_check_function {d : Nat} (hd : 8 ≤ d) (hj : joinB kn jo f = true) : Rn d k_check_function [kindD deg kn jo, fnD f] h = .ok .non h := by
  obtain ⟨d, rfl⟩ : ∃ e, d = e + 8 := ⟨d - 8, by omega⟩
  rw [u_check_function]
  simp [x_check_function, r_is_rows K R hn hn2 h (d := d + 7) (by omega), r_does_join K R hn hn2 h (d := d + 7) (by omega), hj]
theorem r_check_both {d : Nat} (hd : 9 ≤ d) (hj : joinB kn jo f = true) : Rn d k_check_both [kindD deg kn jo, fnD f] h = .ok .non h := by
  obtain ⟨d, rfl⟩ : ∃ e, d = e + 9 := ⟨d - 9, by omega⟩
  rw [u_check_both]
  simp [x_check_both, r_check_kind K h (d := d + 8) (by omega), r_check_function K R hn hn2 h (d := d + 8) (by omega) hj]
end
end Lw

/-! values, sums, multiples -/
namespace Lw
open PySem PySem.Spec PyProof.Rows L2 J
section
variable {deg : Nat} {kn : List Int} {jo : List Nat} (K : KOk deg kn jo) (h : AH)
include K
theorem K_asc {i j : Nat} (hij : i < j) (hj : j < kn.length) : kn.getD i 0 < kn.getD j 0 := by
  induction j with
  | zero => omega
  | succ j ih =>
    by_cases e : i = j
    · subst e; exact K.asc i hj
    · exact Int.lt_trans (ih (by omega) (by omega)) (K.asc j hj)
end
/-- the number of the first piece with a place, by the knots from the second on -/
def pc : List Int → Rat → Nat
  | [], _ => 0
  | k :: ks, x => if (k : Rat) < x then pc ks x + 1 else 0
theorem lt_int (k : Int) (x : Rat) : decide (k * (x.den : Int) < x.num) = decide ((k : Rat) < x) := by
  congr 1
  apply propext
  rw [Rat.lt_iff, Rat.num_intCast, Rat.den_intCast]
  simp
theorem le_int (k : Int) (x : Rat) : (k * (x.den : Int) ≤ x.num) ↔ ((k : Rat) ≤ x) := by
  rw [Rat.le_iff, Rat.num_intCast, Rat.den_intCast]
  simp
theorem int_le (k : Int) (x : Rat) : (x.num ≤ k * (x.den : Int)) ↔ (x ≤ (k : Rat)) := by
  rw [Rat.le_iff, Rat.num_intCast, Rat.den_intCast]
  simp
section
variable {deg : Nat} {kn : List Int} {jo : List Nat} (K : KOk deg kn jo) {x : Rat} (hx : Sz 90 x) (h : AH)
include K hx
theorem mul_kn {i : Nat} (hi : i < kn.length) : mulOk (kn.getD i 0) (x.den : Int) = true := mulOk_of (m := 10) (n := 90) (K_mem K (getD_mem hi)) (by simpa using hx.2) (by decide)
theorem mul_kn' {a : Int} (ha : a ∈ kn) : mulOk a (x.den : Int) = true := mulOk_of (m := 10) (n := 90) (K_mem K ha) (by simpa using hx.2) (by decide)
theorem wh_piece (t : Tab) (d : Nat) : ∀ (m i fuel : Nat), m + i + 1 = kn.length → m < fuel → x ≤ ((kn.getD (kn.length - 1) 0 : Int) : Rat) → 0 < m →
    whN (denT t (Ph d) (.cmp .lt (.bin .mul (.ix (.ix (.slot 0) (.cst (.int 1))) (.bin .add (.slot 2) (.cst (.int 1)))) (.ix (.slot 1) (.cst (.int 1)))) (.ix (.slot 1) (.cst (.int 0))))) (denB t (Ph d) (.cons (.set 2 false (.bin .add (.slot 2) (.cst (.int 1)))) (.nil))) fuel [some (.val (kindD deg kn jo)), some (.val (frD x)), some (.val (.int (i : Int)))] h
      = .nx [some (.val (kindD deg kn jo)), some (.val (frD x)), some (.val (.int ((i + pc (kn.drop (i + 1)) x : Nat) : Int)))] h
  | 0, i, fuel, hm, hf, hb, h0 => by omega
  | m + 1, i, 0, hm, hf, hb, _ => by omega
  | m + 1, i, fuel + 1, hm, hf, hb, _ => by
    obtain ⟨j, hj⟩ : ∃ j : Nat, j = i + 1 := ⟨_, rfl⟩
    have e3 : ((i : Int) + 1) = (j : Int) := by omega
    have hjl : j < kn.length := by omega
    have ed : kn.drop j = kn.getD j 0 :: kn.drop (j + 1) := by
      rw [List.drop_eq_getElem_cons hjl]; simp [hjl]
    have ht : denT t (Ph d) (.cmp .lt (.bin .mul (.ix (.ix (.slot 0) (.cst (.int 1))) (.bin .add (.slot 2) (.cst (.int 1)))) (.ix (.slot 1) (.cst (.int 1)))) (.ix (.slot 1) (.cst (.int 0)))) [some (.val (kindD deg kn jo)), some (.val (frD x)), some (.val (.int (i : Int)))] h = .ok (decide (((kn.getD j 0 : Int) : Rat) < x)) h := by
      rw [← lt_int]
      simp only [dT_cmp, dE_cmp, dE_ix, dE_slot, dE_bin, dE_cst, List.getElem?_cons_succ, List.getElem?_cons_zero, slotR_v, bind_ok, kB1_eq, kB2_eq, ix_t, at0, at1, Option.map_some, lift_some, k_add, add_ii, e3, at_nat, get_int hjl, k_mul, mul_ii, mul_kn K hx hjl, if_true, lt_ii, kBl_eq, blK_b]
    rw [← hj, ed, pc]
    by_cases c : ((kn.getD j 0 : Int) : Rat) < x
    · rw [if_pos c]
      rw [decide_eq_true c] at ht
      rw [whN_true ht (env' := [some (.val (kindD deg kn jo)), some (.val (frD x)), some (.val (.int (j : Int)))]) (h' := h) (by simp [e3])]
      have hm0 : 0 < m := by
        rcases Nat.eq_zero_or_pos m with q | q
        · exfalso
          have : j = kn.length - 1 := by omega
          rw [this] at c
          exact absurd hb (Rat.not_le.mpr c)
        · exact q
      have e5 : i + (pc (kn.drop (j + 1)) x + 1) = j + pc (kn.drop (j + 1)) x := by omega
      rw [wh_piece t d m j fuel (by omega) (by omega) hb hm0, e5]
    · rw [if_neg c]
      rw [decide_eq_false c] at ht
      rw [whN_false ht]
      simp
theorem r_piece_at {d : Nat} (hd : 1 ≤ d) (hb : x ≤ ((kn.getD (kn.length - 1) 0 : Int) : Rat)) : Rn d k_piece_at [kindD deg kn jo, frD x] h = .ok (.int ((pc (kn.drop 1) x : Nat) : Int)) h := by
  obtain ⟨d, rfl⟩ : ∃ e, d = e + 1 := ⟨d - 1, by omega⟩
  have l2 := K.l2
  have l6 := K.l6
  have z := wh_piece K hx h t_piece_at d (kn.length - 1) 0 fu (by omega) (fu_lt (m := 10) (by have : (2 : Nat) ^ 10 = 1024 := rfl; omega) (by decide)) hb (by omega)
  rw [u_piece_at, x_piece_at, dB_cons]
  have e0 : denS t_piece_at (Ph d) (.set 2 false (.cst (.int 0))) [some (.val (kindD deg kn jo)), some (.val (frD x)), none] h = .nx [some (.val (kindD deg kn jo)), some (.val (frD x)), some (.val (.int ((0 : Nat) : Int)))] h := by simp
  rw [e0, seqR_nx, dB_cons, dS_whl, Ph_fuel, z]
  simp
variable {n : Nat} {f : List (List Rat)} (R : ROk deg kn n f) (hn : 0 < n) (hn2 : n ≤ 800)
include R hn hn2
end
def addP (p q : List Rat) : List Rat := (p.zip q).map fun z => z.1 + z.2
def addF (f g : List (List Rat)) : List (List Rat) := (f.zip g).map fun z => addP z.1 z.2
def mulP (x : Rat) (p : List Rat) : List Rat := p.map fun c => c * x
def mulF (x : Rat) (f : List (List Rat)) : List (List Rat) := f.map (mulP x)
section
variable {deg : Nat} {kn : List Int} {jo : List Nat} (K : KOk deg kn jo) (h : AH) {n : Nat} {f : List (List Rat)} (R : ROk deg kn n f) (hn : 0 < n) (hn2 : n ≤ 800) (hj : joinB kn jo f = true)
include K R hn hn2 hj
end
end Lw

/-! the law's own helpers without draws -/
namespace Lw
open PySem PySem.Spec PyProof.Rows L2 J
theorem wh_gcd2 (T' : Tab) (Φ : Phi) (h : AH) (p q : Option Slot) : ∀ (b a n : Nat), b < n → whN (denT T' Φ (.cmp .ne (.slot 3) (.cst (.int 0)))) (denB T' Φ (.cons (.par [2, 3] [false, false] (.cons (.slot 3) (.cons (.bin .mod (.slot 2) (.slot 3)) (.nil)))) (.nil))) n [p, q, some (.val (.int a)), some (.val (.int b))] h = .nx [p, q, some (.val (.int (Nat.gcd a b : Nat))), some (.val (.int 0))] h := by
  intro b
  induction b using Nat.strongRecOn with
  | _ b ih =>
    intro a n hn
    cases n with
    | zero => omega
    | succ n =>
      by_cases hb : b = 0
      · subst hb
        rw [whN_false (h1 := h) (by simp)]
        simp
      · have hb' : (b : Int) ≠ 0 := by omega
        rw [whN_true (h1 := h) (env' := [p, q, some (.val (.int b)), some (.val (.int (a % b : Nat)))]) (h' := h) (by simp [hb]) (by simp [hb, Int.fmod_eq_emod_of_nonneg])]
        rw [ih (a % b) (Nat.mod_lt _ (by omega)) b n (by have := Nat.mod_lt a (show b > 0 by omega); omega)]
        rw [Nat.gcd_comm b, ← Nat.gcd_rec, Nat.gcd_comm b a]
theorem l_ratio {d : Nat} (hd : 1 ≤ d) (t : Int) (b : Nat) (h : AH) (hb : b ≠ 0) (h1 : b < 2 ^ 9000) : Rn d k__law_ratio [.int t, .int b] h = .ok (frD (mkRat t b)) h := by
  obtain ⟨d, rfl⟩ : ∃ e, d = e + 1 := ⟨d - 1, by omega⟩
  have z := wh_gcd2 t__law_ratio (Ph d) h (some (.val (.int t))) (some (.val (.int b))) b t.natAbs fu (fu_lt h1 (by decide))
  have hg : Nat.gcd t.natAbs b ≠ 0 := by
    intro q; exact hb (Nat.eq_zero_of_gcd_eq_zero_right q)
  have hg2 : Nat.gcd t.natAbs b < 2 ^ 9000 := Nat.lt_of_le_of_lt (Nat.gcd_le_right _ (by omega)) h1
  have hb' : 0 < b := by omega
  rw [u__law_ratio]
  simp [x__law_ratio, z, hb', divOk_of hg hg2, ratio_num t hb, ratio_den t hb]
theorem l_plus {d : Nat} (hd : 2 ≤ d) (a b : Rat) (h : AH) (ha : Sz 4000 a) (hb : Sz 4000 b) : Rn d k__law_plus [frD a, frD b] h = .ok (frD (a + b)) h := by
  obtain ⟨d, rfl⟩ : ∃ e, d = e + 2 := ⟨d - 2, by omega⟩
  have z := l_ratio (d := d + 1) (by omega) (a.num * b.den + b.num * a.den) (a.den * b.den) h (Nat.mul_ne_zero a.den_nz b.den_nz) (Nat.lt_of_lt_of_le (mul_lt_pow ha.2 hb.2) (Nat.pow_le_pow_right (by decide) (by decide)))
  rw [add_mk] at z
  rw [u__law_plus]
  simp [x__law_plus, mulOk_of (a := a.num) (b := b.den) ha.1 (by simpa using hb.2) (by decide), mulOk_of (a := b.num) (b := a.den) hb.1 (by simpa using ha.2) (by decide), mulOk_of (a := a.den) (b := b.den) (by simpa using ha.2) (by simpa using hb.2) (by decide)]
  simp at z
  simp [z]
theorem l_times {d : Nat} (hd : 2 ≤ d) (a b : Rat) (h : AH) (ha : Sz 4000 a) (hb : Sz 4000 b) : Rn d k__law_times [frD a, frD b] h = .ok (frD (a * b)) h := by
  obtain ⟨d, rfl⟩ : ∃ e, d = e + 2 := ⟨d - 2, by omega⟩
  have z := l_ratio (d := d + 1) (by omega) (a.num * b.num) (a.den * b.den) h (Nat.mul_ne_zero a.den_nz b.den_nz) (Nat.lt_of_lt_of_le (mul_lt_pow ha.2 hb.2) (Nat.pow_le_pow_right (by decide) (by decide)))
  rw [mul_mk] at z
  rw [u__law_times]
  simp [x__law_times, mulOk_of (a := a.num) (b := b.num) ha.1 hb.1 (by decide), mulOk_of (a := a.den) (b := b.den) (by simpa using ha.2) (by simpa using hb.2) (by decide)]
  simp at z
  simp [z]
theorem lp_lat (t : Tab) (d : Nat) (hd : 2 ≤ d) (r : Option Slot) (x : Rat) (k n : Nat) (hx : Sz k x) (h : AH) (body : XB) (hbody : body = (.cons (.set 2 false (.call k__law_plus (.cons (.call k__law_times (.cons (.slot 2) (.cons (.slot 1) (.nil)))) (.cons (.slot 3) (.nil))))) (.nil))) :
    ∀ (l : List Rat) (acc : Rat) (m : Nat) (o : Option Slot), Sz m acc → SzL n l → m + l.length * (k + n + 1) ≤ 4000 → k ≤ 4000 → n ≤ 4000 → ∃ o', loopL (.name 3) (denB t (Ph d) body) (l.map frD) [r, some (.val (frD x)), some (.val (frD acc)), o] h = .nx [r, some (.val (frD x)), some (.val (frD (l.foldl (fun f c => f * x + c) acc))), o'] h
  | [], acc, m, o, ha, hl, hm, _, _ => ⟨o, rfl⟩
  | c :: l, acc, m, o, ha, hl, hm, hk, hn => by
    rw [List.length_cons, Nat.add_mul] at hm
    have hc := hl c List.mem_cons_self
    have z1 := l_times hd acc x h (ha.mono (by omega)) (hx.mono hk)
    have hm1 := ha.mul hx
    have z2 := l_plus hd (acc * x) c h (hm1.mono (by omega)) (hc.mono hn)
    obtain ⟨o', z⟩ := lp_lat t d hd r x k n hx h body hbody l (acc * x + c) (m + k + n + 1) (some (.val (frD c))) (hm1.add hc) (fun b hb => hl b (List.mem_cons_of_mem _ hb)) (by omega) hk hn
    refine ⟨o', ?_⟩
    rw [List.map_cons, loopL_cons (env' := [r, some (.val (frD x)), some (.val (frD acc)), some (.val (frD c))]) (by simp)]
    subst hbody
    simp [z1, z2]
    exact z
theorem l_at {d : Nat} (hd : 3 ≤ d) {r : D} {p : List Rat} {x : Rat} (h : AH) (hr : IsSq r (p.map frD)) {n k : Nat} (hp : SzL n p) (hx : Sz k x) (hm : 1 + p.length * (k + n + 1) ≤ 4000) (hk : k ≤ 4000) (hn : n ≤ 4000) : Rn d k__law_at [r, frD x] h = .ok (frD (ev p x)) h := by
  obtain ⟨d, rfl⟩ : ∃ e, d = e + 3 := ⟨d - 3, by omega⟩
  obtain ⟨o', z⟩ := lp_lat t__law_at (d + 2) (by omega) (some (.val r)) x k n hx h _ rfl p.reverse 0 1 none (Sz.zero (by decide)) (fun c hc => hp c (List.mem_reverse.mp hc)) (by rw [List.length_reverse]; exact hm) hk hn
  rw [u__law_at]
  have e0 : (frD 0) = .tup [.int 0, .int 1] := rfl
  rw [e0] at z
  rcases hr with rfl | rfl
  · simp only [x__law_at, dB_cons, dS_set, dE_tup]
    simp
    rw [dS_for (sr := .one (.fx ((p.reverse).map frD))) (ds := (p.reverse).map frD) (h1 := h) (by simp) rfl rfl, z]
    simp [ev]
  · simp only [x__law_at, dB_cons, dS_set, dE_tup]
    simp
    rw [dS_for (sr := .one (.fx ((p.reverse).map frD))) (ds := (p.reverse).map frD) (h1 := h) (by simp) rfl rfl, z]
    simp [ev]
/-- the law's derivative keeps as many numbers -/
def ldv (p : List Rat) : List Rat := dv p ++ [0]
def ldvs : Nat → List Rat → List Rat
  | 0, p => p
  | n + 1, p => ldvs n (ldv p)
theorem SzL.ldv {n : Nat} {p : List Rat} (h : SzL n p) (hn : 0 < n) (hl : p.length ≤ 1000) : SzL (n + 10) (ldv p) := fun c hc => by
  rw [Lw.ldv, List.mem_append] at hc
  rcases hc with hc | hc
  · exact h.dv hn hl c hc
  · simp at hc; subst hc; exact Sz.zero (by omega)
def derB : XB := .cons (.set 0 false (.bin .add (.lc (.rng (.cons (.cst (.int 1)) (.cons (.b1 .len (.slot 0)) (.nil)))) (.name 3) (.yes) (.call k__law_times (.cons (.tup (.cons (.slot 3) (.cons (.cst (.int 1)) (.nil)))) (.cons (.ix (.slot 0) (.slot 3)) (.nil)))) [3]) (.lst (.cons (.tup (.cons (.cst (.int 0)) (.cons (.cst (.int 1)) (.nil)))) (.nil))))) (.nil)
theorem ld_a (d : Nat) (hd : 2 ≤ d) (h : AH) (b o : Option Slot) {p : List Rat} {n : Nat} (hp : SzL n p) (hn : 0 < n) (hn2 : n ≤ 3900) (h1 : 1 ≤ p.length) (hl : p.length ≤ 900) : denB t__law_derived (Ph d) derB [some (.val (lstD p)), b, o, none] h = .nx [some (.val (lstD (ldv p))), b, o, none] h := by
  have e : (dv p).map frD = (List.range (p.length - 1)).map fun i => frD (((i + 1 : Nat) : Rat) * p.getD (i + 1) 0) := by simp [dv]
  have e2 : ((p.length : Int) - 1).toNat = p.length - 1 := by omega
  have key : denE t__law_derived (Ph d) (.lc (.rng (.cons (.cst (.int 1)) (.cons (.b1 .len (.slot 0)) (.nil)))) (.name 3) (.yes) (.call k__law_times (.cons (.tup (.cons (.slot 3) (.cons (.cst (.int 1)) (.nil)))) (.cons (.ix (.slot 0) (.slot 3)) (.nil)))) [3]) [some (.val (lstD p)), b, o, none] h = .ok (.f ((dv p).map frD)) h := by
    rw [e]
    refine dE_lcm (fun i : Nat => D.int (1 + (i : Nat))) (fun i => frD (((i + 1 : Nat) : Rat) * p.getD (i + 1) 0)) (List.range (p.length - 1)) (sr := .one (.fx (J.upTo 1 (p.length - 1)))) ?_ rfl (size_le (by simp; omega)) fun i hi => ?_
    · rw [← e2]
      exact dI_r2 (by simp) (by simp) rg_one (rg_nat (by omega))
    · have hi := List.mem_range.mp hi
      have z := l_times hd ((i + 1 : Nat) : Rat) (p.getD (i + 1) 0) h ((Sz.nat (n := 10) (by have : (2:Nat)^10 = 1024 := rfl; omega) (by decide)).mono (by decide)) ((Sz.getD hn hp (i + 1)).mono (by omega))
      rw [nat_fr] at z
      obtain ⟨j, hj⟩ : ∃ j : Nat, j = i + 1 := ⟨_, rfl⟩
      rw [← hj] at z ⊢
      have e3 : (1 + (i : Int)) = (j : Int) := by omega
      refine ⟨[some (.val (lstD p)), b, o, some (.val (.int (j : Int)))], .v (frD ((j : Rat) * p.getD j 0)), by simp [wipeE, e3], rfl, ?_, rfl⟩
      have g := get_fr (show j < p.length by omega)
      simp only [dE_call, dL_cons, dE_tup, dE_ix, dE_slot, dE_cst, List.getElem?_cons_succ, List.getElem?_cons_zero, slotR_v, bind_ok, kL1_eq, kL2_eq, kL3_eq, dL_nil, toD_v, lift_some, kTup_eq, kB1_eq, kB2_eq, ix_t, ix_l, at_nat, g, Option.map_some, kCall_eq, Ph_call, z, kV_eq]
  have ea : addK h (.f ((dv p).map frD)) (.f [.tup [.int 0, .int 1]]) = some (.f ((ldv p).map frD)) := by
    have hs : ((dv p).map frD).length + 1 ≤ sizeLine := size_le (by simp; omega)
    show (if ((dv p).map frD).length + [D.tup [.int 0, .int 1]].length ≤ sizeLine then some (EV.f ((dv p).map frD ++ [.tup [.int 0, .int 1]])) else none) = _
    rw [if_pos (show ((dv p).map frD).length + [D.tup [.int 0, .int 1]].length ≤ sizeLine from hs)]
    simp only [ldv, List.map_append, List.map_cons, List.map_nil]
    rfl
  simp only [derB, dB_cons, dS_set, dE_bin, key, bind_ok, kB1_eq, dE_lst, dL_cons, dE_tup, dE_cst, kL1_eq, toD_v, lift_some, kL2_eq, dL_nil, kL3_eq, kTup_eq, kLst_eq, kB2_eq, k_add, ea, exS_ok, kSet_eq, slotOf_ff, kSet2_eq, List.set_cons_zero, seqR_nx, dB_nil]
theorem lp_ld (d : Nat) (hd : 2 ≤ d) (h : AH) (b : Option Slot) : ∀ (m i : Nat) (p : List Rat) (n : Nat) (o : Option Slot), SzL n p → 0 < n → n + 10 * m ≤ 3900 → 1 ≤ p.length → p.length ≤ 900 →
    ∃ o', loopL (.name 2) (denB t__law_derived (Ph d) derB) ((List.range' i m).map fun i => .int (0 + (i : Nat))) [some (.val (lstD p)), b, o, none] h = .nx [some (.val (lstD (ldvs m p))), b, o', none] h
  | 0, i, p, n, o, _, _, _, _, _ => ⟨o, rfl⟩
  | m + 1, i, p, n, o, hp, hn, hs, h1, hl => by
    have z := ld_a d hd h b (some (.val (.int (0 + (i : Nat))))) hp hn (by omega) h1 hl
    obtain ⟨o', y⟩ := lp_ld d hd h b m (i + 1) (ldv p) (n + 10) (some (.val (.int (0 + (i : Nat))))) (hp.ldv hn (by omega)) (by omega) (by omega) (by simp [ldv]) (by simp [ldv]; omega)
    refine ⟨o', ?_⟩
    rw [List.range'_succ, List.map_cons, loopL_cons (env' := [some (.val (lstD p)), b, some (.val (.int (0 + (i : Nat)))), none]) (by simp), z, seqR_nx, y]
    rfl
theorem l_derived {d : Nat} (hd : 3 ≤ d) {p : List Rat} (h : AH) {n m : Nat} (hp : SzL n p) (hn : 0 < n) (h1 : 1 ≤ p.length) (hl : p.length ≤ 300) (hs : n + 10 * m ≤ 3900) : Rn d k__law_derived [lstD p, .int (m : Nat)] h = .ok (lstD (ldvs m p)) h := by
  obtain ⟨d, rfl⟩ : ∃ e, d = e + 3 := ⟨d - 3, by omega⟩
  obtain ⟨o', z⟩ := lp_ld (d + 2) (by omega) h (some (.val (.int (m : Nat)))) m 0 p n none hp hn hs h1 (by omega)
  unfold derB at z
  rw [u__law_derived, x__law_derived, dB_cons, dS_for (dI_r1 (i := (m : Nat)) (by simp) (rg_nat (by omega))) rfl (by rw [fx1, J.upTo, List.range_eq_range', Int.toNat_natCast]), z, seqR_nx]
  simp
end Lw

/-! joints, in plain terms -/
namespace Lw
open J
def dvn : Nat → List Rat → List Rat
  | 0, p => p
  | n + 1, p => dvn n (dv p)
/-- derivatives up to j agree at x -/
def Ag (j : Nat) (x : Rat) (p q : List Rat) : Prop := ∀ o, o ≤ j → ev (dvn o p) x = ev (dvn o q) x
def Chn : List (Int × Nat) → List (List Rat) → Prop
  | [], f => f.length = 1
  | z :: ps, p :: q :: f => Ag z.2 (z.1 : Rat) p q ∧ Chn ps (q :: f)
  | _ :: _, _ => False
theorem agrN_ge (x : Rat) : ∀ (L : List (List Rat × List Rat)) (f : Int), f ≤ agrN x L f
  | [], f => by simp [agrN]
  | z :: L, f => by
    rw [agrN]
    split
    · have := agrN_ge x L (f + 1); omega
    · omega
theorem agrN_iff (x : Rat) : ∀ (m j : Nat) (p q : List Rat) (f : Int), j ≤ m → (f + j + 1 ≤ agrN x ((dvs m p).zip (dvs m q)) f ↔ Ag j x p q)
  | 0, j, p, q, f, hj => by
    have : j = 0 := by omega
    subst this
    simp only [dvs, List.zip_cons_cons, List.zip_nil_right, agrN]
    constructor
    · intro h
      split at h
      · rename_i e
        intro o ho
        have : o = 0 := by omega
        subst this; exact e
      · omega
    · intro h
      rw [if_pos (show ev p x = ev q x from h 0 (by omega))]
      omega
  | m + 1, 0, p, q, f, hj => by
    simp only [dvs, List.zip_cons_cons, agrN]
    constructor
    · intro h
      split at h
      · rename_i e
        intro o ho
        have : o = 0 := by omega
        subst this; exact e
      · omega
    · intro h
      rw [if_pos (show ev p x = ev q x from h 0 (by omega))]
      have := agrN_ge x ((dvs m (dv p)).zip (dvs m (dv q))) (f + 1)
      omega
  | m + 1, j + 1, p, q, f, hj => by
    simp only [dvs, List.zip_cons_cons, agrN]
    have ih := agrN_iff x m j (dv p) (dv q) (f + 1) (by omega)
    constructor
    · intro h
      split at h
      · rename_i e
        have h2 := ih.mp (by omega)
        intro o ho
        cases o with
        | zero => exact e
        | succ o => exact h2 o (by omega)
      · omega
    · intro h
      rw [if_pos (show ev p x = ev q x from h 0 (by omega))]
      have := ih.mpr (fun o ho => h (o + 1) (by omega))
      omega
theorem agr_iff {p q : List Rat} {x : Rat} {j : Nat} (hj : j ≤ p.length - 1) : (j : Int) ≤ agr p q x ↔ Ag j x p q := by
  have := agrN_iff x (p.length - 1) j p q (-1) hj
  unfold agr
  rw [← this]
  constructor <;> intro h <;> omega
theorem drop_two {α : Type} {g : List α} {k : Nat} {a : α} (h : k + 1 < g.length) : g.drop k = g.getD k a :: g.drop (k + 1) := by
  rw [List.drop_eq_getElem_cons (by omega)]
  simp [show k < g.length by omega]
theorem join_aux (g : List (List Rat)) (deg : Nat) (hr : ∀ p ∈ g, p.length = deg + 1) : ∀ (xs : List Int) (js : List Nat) (k : Nat), js.length = xs.length → k + xs.length + 1 = g.length → (∀ j ∈ js, j < deg) →
    (((((xs.zipIdx k).map fun z => agr (g.getD z.2 []) (g.getD (z.2 + 1) []) (z.1 : Rat)).zip js).all fun z => decide ((z.2 : Int) ≤ z.1)) = true ↔ Chn (xs.zip js) (g.drop k))
  | [], [], k, _, hl, _ => by
    simp only [List.length_nil, Nat.add_zero] at hl
    simp [Chn]; omega
  | x :: xs, j :: js, k, hjl, hl, hj => by
    simp only [List.length_cons] at hl hjl
    have ih := join_aux g deg hr xs js (k + 1) (by omega) (by omega) fun j hh => hj j (List.mem_cons_of_mem _ hh)
    have e1 := drop_two (a := ([] : List Rat)) (show k + 1 < g.length by omega)
    have e2 : g.drop (k + 1) = g.getD (k + 1) [] :: g.drop (k + 2) := by
      rw [List.drop_eq_getElem_cons (by omega)]
      simp [show k + 1 < g.length by omega]
    have hp := hr _ (getD_mem (z := ([] : List Rat)) (show k < g.length by omega))
    have hjj := hj j List.mem_cons_self
    have ai := agr_iff (p := g.getD k []) (q := g.getD (k + 1) []) (x := (x : Rat)) (j := j) (by omega)
    rw [e1, e2]
    simp only [List.zipIdx_cons, List.map_cons, List.zip_cons_cons, List.all_cons, Bool.and_eq_true, decide_eq_true_eq, Chn]
    rw [ai, ← e2, ih]
theorem joinB_iff {deg : Nat} {kn : List Int} {jo : List Nat} {n : Nat} {f : List (List Rat)} (K : KOk deg kn jo) (R : ROk deg kn n f) : joinB kn jo f = true ↔ Chn ((inner kn).zip jo) f := by
  have := join_aux f deg R.row (inner kn) jo 0 (by have := K.jl; simp; omega) (by have := R.len; have := K.l2; simp; omega) K.jd
  simpa [joinB, agL] using this
/-! ### polynomials of degree 1 to 3 -/
theorem row_cases {p : List Rat} {deg : Nat} (h : p.length = deg + 1) (h1 : 1 ≤ deg) (h3 : deg ≤ 3) : (deg = 1 ∧ ∃ a b, p = [a, b]) ∨ (deg = 2 ∧ ∃ a b c, p = [a, b, c]) ∨ (deg = 3 ∧ ∃ a b c e, p = [a, b, c, e]) := by
  match p, h with
  | [], h => simp at h
  | [a], h => simp at h; omega
  | [a, b], h => exact .inl ⟨by simp at h; omega, a, b, rfl⟩
  | [a, b, c], h => exact .inr (.inl ⟨by simp at h; omega, a, b, c, rfl⟩)
  | [a, b, c, e], h => exact .inr (.inr ⟨by simp at h; omega, a, b, c, e, rfl⟩)
  | _ :: _ :: _ :: _ :: _ :: _, h => simp at h; omega
theorem dv1 (a : Rat) : dv [a] = [] := rfl
theorem dv2 (a b : Rat) : dv [a, b] = [b] := by
  simp [dv, List.range_succ]
  grind
theorem dv3 (a b c : Rat) : dv [a, b, c] = [b, 2 * c] := by
  simp [dv, List.range_succ]
  grind
theorem dv4 (a b c e : Rat) : dv [a, b, c, e] = [b, 2 * c, 3 * e] := by
  simp [dv, List.range_succ]
  grind
theorem dv0 : dv [] = [] := rfl
theorem ldv_ev {p : List Rat} {deg : Nat} (h : p.length = deg + 1) (h1 : 1 ≤ deg) (h3 : deg ≤ 3) {o : Nat} (ho : o < deg) (x : Rat) : ev (ldvs o p) x = ev (dvn o p) x := by
  rcases row_cases h h1 h3 with ⟨rfl, a, b, rfl⟩ | ⟨rfl, a, b, c, rfl⟩ | ⟨rfl, a, b, c, e, rfl⟩
  · obtain rfl : o = 0 := by omega
    rfl
  · rcases (show o = 0 ∨ o = 1 by omega) with rfl | rfl
    · rfl
    · simp [ldvs, dvn, ldv, dv3]
      grind
  · rcases (show o = 0 ∨ o = 1 ∨ o = 2 by omega) with rfl | rfl | rfl
    · rfl
    · simp [ldvs, dvn, ldv, dv4]
      grind
    · simp [ldvs, dvn, ldv, dv4, dv3]
      grind
/-! ### cut powers -/
def stp (x : Int) (l : List Int) : List Int := (List.range l.length).map fun k => (if 0 < k then l.getD (k - 1) 0 else 0) - x * l.getD k 0
def cutI (x : Int) : Nat → List Int → List Int
  | 0, l => l
  | n + 1, l => cutI x n (stp x l)
def cutP (x : Int) (pow deg : Nat) : List Int := cutI x pow (1 :: List.replicate deg 0)
@[simp] theorem stp_len (x : Int) (l : List Int) : (stp x l).length = l.length := by simp [stp]
theorem cutI_len (x : Int) : ∀ (n : Nat) (l : List Int), (cutI x n l).length = l.length
  | 0, l => rfl
  | n + 1, l => by rw [cutI, cutI_len x n]; simp
def updP (p : List Rat) (c : Rat) (cut : List Int) : List Rat := (List.range p.length).map fun k => p.getD k 0 + c * ((cut.getD k 0 : Int) : Rat)
@[simp] theorem updP_len (p : List Rat) (c : Rat) (cut : List Int) : (updP p c cut).length = p.length := by simp [updP]
theorem stp2 (x a b : Int) : stp x [a, b] = [0 - x * a, a - x * b] := by simp [stp, List.range_succ]
theorem stp3 (x a b c : Int) : stp x [a, b, c] = [0 - x * a, a - x * b, b - x * c] := by simp [stp, List.range_succ]
theorem stp4 (x a b c e : Int) : stp x [a, b, c, e] = [0 - x * a, a - x * b, b - x * c, c - x * e] := by simp [stp, List.range_succ]
theorem updP2 (a b c : Rat) (u v : Int) : updP [a, b] c [u, v] = [a + c * (u : Rat), b + c * (v : Rat)] := by simp [updP, List.range_succ]
theorem updP3 (a b e c : Rat) (u v w : Int) : updP [a, b, e] c [u, v, w] = [a + c * (u : Rat), b + c * (v : Rat), e + c * (w : Rat)] := by simp [updP, List.range_succ]
theorem updP4 (a b e f c : Rat) (u v w z : Int) : updP [a, b, e, f] c [u, v, w, z] = [a + c * (u : Rat), b + c * (v : Rat), e + c * (w : Rat), f + c * (z : Rat)] := by simp [updP, List.range_succ]
theorem ev_upd {p : List Rat} {deg : Nat} (h : p.length = deg + 1) (h1 : 1 ≤ deg) (h3 : deg ≤ 3) {pow o : Nat} (hp : pow ≤ deg) (ho : o < pow) (x : Int) (c : Rat) : ev (dvn o (updP p c (cutP x pow deg))) (x : Rat) = ev (dvn o p) (x : Rat) := by
  rcases row_cases h h1 h3 with ⟨rfl, a, b, rfl⟩ | ⟨rfl, a, b, e, rfl⟩ | ⟨rfl, a, b, e, f, rfl⟩
  · obtain ⟨rfl, rfl⟩ : o = 0 ∧ pow = 1 := by omega
    simp [cutP, cutI, stp2, updP2, dvn]
    grind
  · rcases (show (o = 0 ∧ pow = 1) ∨ (o = 0 ∧ pow = 2) ∨ (o = 1 ∧ pow = 2) by omega) with ⟨rfl, rfl⟩ | ⟨rfl, rfl⟩ | ⟨rfl, rfl⟩ <;>
    · simp [cutP, cutI, stp3, updP3, dvn, dv3, List.replicate]
      grind
  · rcases (show (o = 0 ∧ pow = 1) ∨ (o = 0 ∧ pow = 2) ∨ (o = 1 ∧ pow = 2) ∨ (o = 0 ∧ pow = 3) ∨ (o = 1 ∧ pow = 3) ∨ (o = 2 ∧ pow = 3) by omega) with ⟨rfl, rfl⟩ | ⟨rfl, rfl⟩ | ⟨rfl, rfl⟩ | ⟨rfl, rfl⟩ | ⟨rfl, rfl⟩ | ⟨rfl, rfl⟩ <;>
    · simp [cutP, cutI, stp4, updP4, dvn, dv4, dv3, List.replicate]
      grind
theorem Ag_upd {p q : List Rat} {deg : Nat} (h : q.length = deg + 1) (h1 : 1 ≤ deg) (h3 : deg ≤ 3) {pow j : Nat} (hp : pow ≤ deg) (ho : j < pow) (x : Int) (c : Rat) (a : Ag j (x : Rat) p q) : Ag j (x : Rat) p (updP q c (cutP x pow deg)) := fun o hoj => by
  rw [ev_upd h h1 h3 hp (by omega)]
  exact a o hoj
/-! ### sums and multiples -/
theorem ev_add {p q : List Rat} {deg : Nat} (h : p.length = deg + 1) (hq : q.length = deg + 1) (h1 : 1 ≤ deg) (h3 : deg ≤ 3) {o : Nat} (ho : o ≤ deg) (x : Rat) : ev (dvn o (addP p q)) x = ev (dvn o p) x + ev (dvn o q) x := by
  rcases row_cases h h1 h3 with ⟨rfl, a, b, rfl⟩ | ⟨rfl, a, b, e, rfl⟩ | ⟨rfl, a, b, e, f, rfl⟩ <;> rcases row_cases hq h1 h3 with ⟨hd, a', b', rfl⟩ | ⟨hd, a', b', e', rfl⟩ | ⟨hd, a', b', e', f', rfl⟩ <;> first | omega | skip
  · rcases (show o = 0 ∨ o = 1 by omega) with rfl | rfl <;> (simp [addP, dvn, dv2]; grind)
  · rcases (show o = 0 ∨ o = 1 ∨ o = 2 by omega) with rfl | rfl | rfl <;> (simp [addP, dvn, dv2, dv3]; grind)
  · rcases (show o = 0 ∨ o = 1 ∨ o = 2 ∨ o = 3 by omega) with rfl | rfl | rfl | rfl <;> (simp [addP, dvn, dv2, dv3, dv4]; grind)
theorem ev_mul {p : List Rat} {deg : Nat} (h : p.length = deg + 1) (h1 : 1 ≤ deg) (h3 : deg ≤ 3) {o : Nat} (ho : o ≤ deg) (x c : Rat) : ev (dvn o (mulP c p)) x = ev (dvn o p) x * c := by
  rcases row_cases h h1 h3 with ⟨rfl, a, b, rfl⟩ | ⟨rfl, a, b, e, rfl⟩ | ⟨rfl, a, b, e, f, rfl⟩
  · rcases (show o = 0 ∨ o = 1 by omega) with rfl | rfl <;> (simp [mulP, dvn, dv2]; grind)
  · rcases (show o = 0 ∨ o = 1 ∨ o = 2 by omega) with rfl | rfl | rfl <;> (simp [mulP, dvn, dv2, dv3]; grind)
  · rcases (show o = 0 ∨ o = 1 ∨ o = 2 ∨ o = 3 by omega) with rfl | rfl | rfl | rfl <;> (simp [mulP, dvn, dv2, dv3, dv4]; grind)
end Lw

/-! draws -/
namespace Lw
open PySem PySem.Spec PyProof.Rows L2 J
/-- the town: how many draws so far (m more are free), what is left of the cells -/
def Town (ns : List Int) (hs : AH) (m : Nat) (h : AH) : Prop := ∃ (c : Nat) (L : List Int), h = mkL (.int c :: L.map D.int) :: hs ∧ L.length = ns.length ∧ c + m ≤ 1000000
theorem Town.less {ns : List Int} {hs : AH} {m k : Nat} {h : AH} (t : Town ns hs m h) (l : k ≤ m) : Town ns hs k h := by
  obtain ⟨c, L, e1, e2, e3⟩ := t
  exact ⟨c, L, e1, e2, by omega⟩
theorem Town.len {ns : List Int} {hs : AH} {m : Nat} {h : AH} (t : Town ns hs m h) : h.length = hs.length + 1 := by
  obtain ⟨c, L, rfl, _, _⟩ := t
  rfl
theorem l_town {d : Nat} (hd : 1 ≤ d) (ns : List Int) (hl : ns.length ≤ 63) : ∃ h', Rn d k__law_town [.scr ns] [] = .ok (.ref 0) h' ∧ Town ns [] 1000000 h' := by
  obtain ⟨d, rfl⟩ : ∃ e, d = e + 1 := ⟨d - 1, by omega⟩
  have ea : addK ([] : AH) (.f [.int 0]) (.f (ns.map D.int)) = some (.f (.int 0 :: ns.map D.int)) := by
    show (if [D.int 0].length + (ns.map D.int).length ≤ sizeLine then some (EV.f ([D.int 0] ++ ns.map D.int)) else none) = _
    rw [if_pos (show [D.int 0].length + (ns.map D.int).length ≤ sizeLine from size_le (by simp; omega))]
    rfl
  refine ⟨[mkL (.int 0 :: ns.map D.int)], ?_, 0, ns, rfl, rfl, by omega⟩
  rw [u__law_town]
  simp only [x__law_town, dB_cons, dS_retOwn, dE_bin, dE_lst, dL_cons, dE_cst, bind_ok, kL1_eq, toD_v, lift_some, kL2_eq, dL_nil, kL3_eq, kLst_eq, kB1_eq, dE_b1, dE_slot, List.getElem?_cons_zero, slotR_v, kU_eq, b1_list, lst_s, kB2_eq, k_add, ea, exS_ok, kRetO_eq, seqR_ret, endF_ret, List.length_nil, List.nil_append]
  rfl
theorem ix_r (h : AH) (n : Nat) (i : Int) : ixK h (.v (.ref n)) (.v (.int i)) = match seqOf h (.v (.ref n)) with
  | some (_, ds) => (atI ds i).map .v
  | none => none := rfl
theorem ix_town (ds : List D) (hs : AH) (i : Int) : ixK (mkL ds :: hs) (.v (.ref 0)) (.v (.int i)) = (atI ds i).map .v := rfl
theorem eq_scr (h : AH) (ns : List Int) : eqK false h (.v (.scr ns)) (.f []) = some (.v (.bl ns.isEmpty)) := by
  have e : evD h (.v (.scr ns)) = some (.scr ns) := rfl
  have e2 : evD h (.f []) = some (.lst []) := rfl
  have e3 : plainD 60 (.lst []) = true := by simp [plainD, plainDs]
  have e4 : plainD 60 (.scr ns) = true := by simp [plainD]
  have e5 : eqvD (.scr ns) (.lst []) = ns.isEmpty := by
    cases ns with
    | nil => simp [eqvD, toPy, toPys, PyData.eqv, PyData.eqvAll]
    | cons a l => simp [eqvD, toPy, toPys, PyData.eqv, PyData.eqvAll]
  simp [eqK, e, e2, e3, e4, e5]
theorem divOk_nat {n : Nat} (h0 : n ≠ 0) (h : n < 2 ^ 40) : divOk (n : Int) = true := divOk_of h0 (Nat.lt_of_lt_of_le h (Nat.pow_le_pow_right (by decide) (by decide)))
theorem fmod_nat (i : Int) {n : Nat} (h : 0 < n) : ∃ k : Nat, i.fmod n = (k : Int) ∧ k < n := by
  have h1 := Int.fmod_nonneg_of_pos i (show (0 : Int) < n by omega)
  have h2 := Int.fmod_lt_of_pos i (show (0 : Int) < n by omega)
  exact ⟨(i.fmod n).toNat, by omega, by omega⟩
theorem divOk3 : divOk 3 = true := by decide
theorem divOk64 : divOk 64 = true := by decide
theorem divOk8 : divOk 8 = true := by decide
theorem pow18 : powOk 10 18 = true := by decide
section
variable {ns : List Int} {hs : AH}
theorem dr_1 (d : Nat) (c : Nat) (L : List Int) (a z : Option Slot) : denS t__law_draw (Ph d) (.setix 1 (.cst (.int 0)) (.bin .add (.ix (.slot 1) (.cst (.int 0))) (.cst (.int 1)))) [a, some (.val (.ref 0)), z, none, none, none] (mkL (.int c :: L.map D.int) :: hs) = .nx [a, some (.val (.ref 0)), z, none, none, none] (mkL (.int (c + 1 : Nat) :: L.map D.int) :: hs) := by
  rw [dS_setix (ev := .v (.int (c + 1 : Nat))) (d := .int (c + 1 : Nat)) (ds0 := .int c :: L.map D.int) (iv := .v (.int 0)) (ds := .int c :: L.map D.int) (j := 0) (h1 := mkL (.int c :: L.map D.int) :: hs) (h2 := mkL (.int c :: L.map D.int) :: hs) (by simp [ix_town]) rfl rfl rfl rfl (by simp [ixD, ixN])]
  rfl
theorem l_draw {d : Nat} (hd : 1 ≤ d) {m : Nat} {h : AH} (ht : Town ns hs (m + 1) h) {lim : Nat} (h1 : 0 < lim) (h2 : lim < 2 ^ 40) : ∃ (k : Nat) (h' : AH), Rn d k__law_draw [.scr ns, .ref 0, .int (lim : Int)] h = .ok (.int (k : Int)) h' ∧ k < lim ∧ Town ns hs m h' := by
  obtain ⟨d, rfl⟩ : ∃ e, d = e + 1 := ⟨d - 1, by omega⟩
  obtain ⟨c, L, rfl, hL, hc⟩ := ht
  rw [u__law_draw, x__law_draw, dB_cons, dr_1, seqR_nx]
  obtain ⟨c1, hc1⟩ : ∃ c1 : Nat, c1 = c + 1 := ⟨_, rfl⟩
  rw [← hc1]
  have hlen : (mkL (.int c :: L.map D.int) :: hs).length = hs.length + 1 := rfl
  rw [hlen]
  have hlim : (lim : Int) ≠ 0 := by omega
  have dl := divOk_nat (show lim ≠ 0 by omega) h2
  have t0 : ∀ env : Env', env[1]? = some (some (.val (.ref 0))) → denE t__law_draw (Ph d) (.ix (.slot 1) (.cst (.int 0))) env (mkL (.int c1 :: L.map D.int) :: hs) = .ok (.v (.int (c1 : Int))) (mkL (.int c1 :: L.map D.int) :: hs) := fun env he => by
    simp only [dE_ix, dE_slot, he, slotR_v, bind_ok, kB1_eq, dE_cst, kB2_eq, ix_town, at0, Option.map_some, lift_some]
  have b20 : c1 < 2 ^ 20 := by have : (2 : Nat) ^ 20 = 1048576 := rfl; omega
  have tw : Town ns hs m (mkL (.int c1 :: L.map D.int) :: hs) := ⟨c1, L, rfl, hL, by omega⟩
  have tl : ∀ dd, trim (hs.length + 1) dd (mkL (.int c1 :: L.map D.int) :: hs) = mkL (.int c1 :: L.map D.int) :: hs := fun dd => trim_len rfl
  cases hns : ns with
  | nil =>
    subst hns
    obtain ⟨k, e, hk⟩ := fmod_nat (((c1 : Int) * c1 * 7).fdiv 3) h1
    refine ⟨k, mkL (.int c1 :: L.map D.int) :: hs, ?_, hk, tw⟩
    have m1 : mulOk (c1 : Int) (c1 : Int) = true := mulOk_of (m := 20) (n := 20) (by simpa using b20) (by simpa using b20) (by decide)
    have m2 : mulOk ((c1 : Int) * c1) 7 = true := mulOk_of (m := 40) (n := 3) (by rw [Int.natAbs_mul]; simpa using mul_lt_pow (m := 20) (n := 20) b20 b20) (by decide) (by decide)
    simp [t0, eq_scr, m1, m2, divOk3, hlim, show lim ≠ 0 by omega, e, tl]
  | cons s0 sr =>
    rw [← hns]
    have he : ns.isEmpty = false := by rw [hns]; rfl
    have hpos : 0 < ns.length := by rw [hns]; simp
    have hnz : (ns.length : Int) ≠ 0 := by omega
    obtain ⟨at_, ea, hat⟩ := fmod_nat (c1 : Int) hpos
    obtain ⟨j, hj⟩ : ∃ j : Nat, j = 1 + at_ := ⟨_, rfl⟩
    have e3 : (1 + (at_ : Int)) = (j : Int) := by omega
    have gs : (ns.map D.int)[at_]? = some (.int (ns.getD at_ 0)) := get_int hat
    have gt : (D.int (c1 : Int) :: L.map D.int)[j]? = some (.int (L.getD at_ 0)) := by
      rw [hj, Nat.add_comm, List.getElem?_cons_succ]; exact get_int (by omega)
    have s1 : ∀ (E : Env'), E = [some (.val (.scr ns)), some (.val (.ref 0)), some (.val (.int (lim : Int))), some (.val (.int (at_ : Int))), some (.val (.int (L.getD at_ 0))), none] → denT t__law_draw (Ph d) (.and (.cmp .ge (.ix (.slot 0) (.slot 3)) (.bin .pow (.cst (.int 10)) (.cst (.int 18)))) (.cmp .gt (.slot 4) (.cst (.int 0)))) E (mkL (.int c1 :: L.map D.int) :: hs) = .ok (decide (10 ^ 18 ≤ ns.getD at_ 0) && decide (0 < L.getD at_ 0)) (mkL (.int c1 :: L.map D.int) :: hs) := by
      intro E hE
      subst hE
      have p18 : ((10 : Int) ^ (18 : Int).toNat) = 10 ^ 18 := rfl
      simp only [dT_and, dT_cmp, dE_cmp, dE_ix, dE_slot, List.getElem?_cons_succ, List.getElem?_cons_zero, slotR_v, bind_ok, kB1_eq, kB2_eq, ix_s, at_nat, gs, Option.map_some, lift_some, dE_bin, dE_cst, k_pow, pow_ii, pow18, if_true, p18, ge_ii, kBl_eq, blK_b]
      by_cases q : (10 : Int) ^ 18 ≤ ns.getD at_ 0
      · rw [decide_eq_true q]
        simp only [kAndT_t, dT_cmp, dE_cmp, dE_slot, List.getElem?_cons_succ, List.getElem?_cons_zero, slotR_v, bind_ok, kB1_eq, dE_cst, kB2_eq, gt_ii, lift_some, kBl_eq, blK_b, Bool.true_and]
      · rw [decide_eq_false q]
        simp only [kAndT_f, Bool.false_and]
    have first : ∀ b : XB, denB t__law_draw (Ph d) (.cons (.ife (.cmp .eq (.slot 0) (.lst (.nil))) (.cons (.ret (.bin .mod (.bin .fdiv (.bin .mul (.bin .mul (.ix (.slot 1) (.cst (.int 0))) (.ix (.slot 1) (.cst (.int 0)))) (.cst (.int 7))) (.cst (.int 3))) (.slot 2))) (.nil)) (.nil)) (.cons (.set 3 false (.bin .mod (.ix (.slot 1) (.cst (.int 0))) (.b1 .len (.slot 0)))) (.cons (.set 4 false (.ix (.slot 1) (.bin .add (.cst (.int 1)) (.slot 3)))) b))) [some (.val (.scr ns)), some (.val (.ref 0)), some (.val (.int (lim : Int))), none, none, none] (mkL (.int c1 :: L.map D.int) :: hs)
        = denB t__law_draw (Ph d) b [some (.val (.scr ns)), some (.val (.ref 0)), some (.val (.int (lim : Int))), some (.val (.int (at_ : Int))), some (.val (.int (L.getD at_ 0))), none] (mkL (.int c1 :: L.map D.int) :: hs) := by
      intro b
      simp only [dB_cons, dS_ife, dT_cmp, dE_cmp, dE_slot, List.getElem?_cons_succ, List.getElem?_cons_zero, slotR_v, bind_ok, kB1_eq, dE_lst, dL_nil, kLst_eq, kB2_eq, k_eq, eq_scr, he, lift_some, kBl_eq, blK_b, exS_ok, kIfS_f, dB_nil, seqR_nx, dS_set, dE_bin, t0 [some (.val (.scr ns)), some (.val (.ref 0)), some (.val (.int (lim : Int))), none, none, none] rfl, dE_b1, kU_eq, b1_len, len_s, k_mod, mod_ii, bne_iff_ne, ne_eq, hnz, not_false_eq_true, if_true, ea, kSet_eq, slotOf_v, kSet2_eq, List.set_cons_succ, List.set_cons_zero, dE_ix, dE_cst, k_add, add_ii, e3, ix_town, at_nat, gt, Option.map_some]
    rw [first, dB_cons, dS_ife, s1 _ rfl, exS_ok]
    cases hb : (decide (10 ^ 18 ≤ ns.getD at_ 0) && decide (0 < L.getD at_ 0)) with
    | true =>
      obtain ⟨k, e, hk⟩ := fmod_nat (L.getD at_ 0) h1
      have hjl : j < (D.int (c1 : Int) :: L.map D.int).length := by simp; omega
      have st : denS t__law_draw (Ph d) (.setix 1 (.bin .add (.cst (.int 1)) (.slot 3)) (.bin .fdiv (.slot 4) (.slot 2))) [some (.val (.scr ns)), some (.val (.ref 0)), some (.val (.int (lim : Int))), some (.val (.int (at_ : Int))), some (.val (.int (L.getD at_ 0))), none] (mkL (.int c1 :: L.map D.int) :: hs) = .nx [some (.val (.scr ns)), some (.val (.ref 0)), some (.val (.int (lim : Int))), some (.val (.int (at_ : Int))), some (.val (.int (L.getD at_ 0))), none] (mkL (.int c1 :: (L.set at_ ((L.getD at_ 0).fdiv lim)).map D.int) :: hs) := by
        rw [dS_setix (ev := .v (.int ((L.getD at_ 0).fdiv lim))) (d := .int ((L.getD at_ 0).fdiv lim)) (ds0 := .int c1 :: L.map D.int) (iv := .v (.int (j : Int))) (ds := .int c1 :: L.map D.int) (j := j) (h1 := mkL (.int c1 :: L.map D.int) :: hs) (h2 := mkL (.int c1 :: L.map D.int) :: hs) (by simp only [dE_bin, dE_slot, List.getElem?_cons_succ, List.getElem?_cons_zero, slotR_v, bind_ok, kB1_eq, kB2_eq, k_fdiv, fdiv_ii, dl, if_true, lift_some]) rfl rfl (by simp only [dE_bin, dE_cst, dE_slot, List.getElem?_cons_succ, List.getElem?_cons_zero, slotR_v, bind_ok, kB1_eq, kB2_eq, k_add, add_ii, e3, lift_some]) rfl (by
          show ixN _ (j : Int) = some j
          unfold ixN
          rw [if_pos (by omega), if_pos (by omega)]; simp)]
        have e9 : (D.int (c1 : Int) :: L.map D.int).set j (.int ((L.getD at_ 0).fdiv lim)) = .int (c1 : Int) :: (L.set at_ ((L.getD at_ 0).fdiv lim)).map D.int := by
          rw [hj, Nat.add_comm, List.set_cons_succ, List.map_set]
        rw [e9]; rfl
      refine ⟨k, mkL (.int c1 :: (L.set at_ ((L.getD at_ 0).fdiv lim)).map D.int) :: hs, ?_, hk, c1, _, rfl, by simp [hL], by omega⟩
      simp only [kIfS_t, dB_cons, st, seqR_nx, dS_ret, dE_bin, dE_slot, List.getElem?_cons_succ, List.getElem?_cons_zero, slotR_v, bind_ok, kB1_eq, kB2_eq, k_mod, mod_ii, bne_iff_ne, ne_eq, hlim, not_false_eq_true, if_true, e, lift_some, exS_ok, kRet_eq, toD_v, kRet2_eq, seqR_ret, endF_ret]
      rw [trim_len (show (mkL (.int c1 :: (L.set at_ ((L.getD at_ 0).fdiv lim)).map D.int) :: hs).length = hs.length + 1 from rfl)]
    | false =>
      obtain ⟨a1, ea1, ha1⟩ := fmod_nat (ns.getD at_ 0 + 104729 * (c1 : Int)) (n := 4294967291) (by decide)
      obtain ⟨a2, ea2, ha2⟩ := fmod_nat ((a1 : Int) ^ 5) (n := 4294967279) (by decide)
      obtain ⟨k, e, hk⟩ := fmod_nat ((((a2 : Int).fdiv 64 * 69621 + (a2 : Int)).fmod 4294967231).fdiv 8) h1
      refine ⟨k, mkL (.int c1 :: L.map D.int) :: hs, ?_, hk, tw⟩
      have ea1' : (ns.getD at_ 0 + 104729 * (c1 : Int)).fmod 4294967291 = (a1 : Int) := ea1
      have ea2' : ((a1 : Int) ^ (5 : Int).toNat).fmod 4294967279 = (a2 : Int) := ea2
      have m1 : mulOk 104729 (c1 : Int) = true := mulOk_of (m := 20) (n := 20) (by decide) (by simpa using b20) (by decide)
      have p5 : powOk (a1 : Int) 5 = true := by
        unfold powOk
        have : a1 < 2 ^ 64 := Nat.lt_trans ha1 (by decide)
        simpa using this
      have q64 : ((a2 : Int).fdiv 64).natAbs < 2 ^ 40 := by
        rw [Int.fdiv_eq_ediv_of_nonneg _ (by decide)]
        have : (2 : Nat) ^ 40 = 1099511627776 := rfl
        omega
      have m2 : mulOk ((a2 : Int).fdiv 64) 69621 = true := mulOk_of (m := 40) (n := 20) q64 (by decide) (by decide)
      simp only [kIfS_f, dB_nil, seqR_nx, dB_cons, dS_set, dE_bin, dE_ix, dE_slot, List.getElem?_cons_succ, List.getElem?_cons_zero, slotR_v, bind_ok, kB1_eq, kB2_eq, ix_s, at_nat, gs, Option.map_some, lift_some, dE_cst, ix_town, at0, k_mul, mul_ii, m1, if_true, k_add, add_ii, k_mod, mod_ii, show ((4294967291 : Int) != 0) = true from rfl, show ((4294967279 : Int) != 0) = true from rfl, show ((4294967231 : Int) != 0) = true from rfl, ea1', exS_ok, kSet_eq, slotOf_v, kSet2_eq, List.set_cons_succ, List.set_cons_zero, k_pow, pow_ii, p5, ea2', dS_ret, k_fdiv, fdiv_ii, divOk64, divOk8, m2, bne_iff_ne, ne_eq, hlim, not_false_eq_true, e, kRet_eq, toD_v, kRet2_eq, seqR_ret, endF_ret, tl]
theorem l_pick {d : Nat} (hd : 2 ≤ d) {m : Nat} {h : AH} (ht : Town ns hs (m + 1) h) {ds : List D} (h1 : 0 < ds.length) (h2 : ds.length ≤ 1000) : ∃ (x : D) (h' : AH), Rn d k__law_pick [.scr ns, .ref 0, .lst ds] h = .ok x h' ∧ x ∈ ds ∧ Town ns hs m h' := by
  obtain ⟨d, rfl⟩ : ∃ e, d = e + 2 := ⟨d - 2, by omega⟩
  obtain ⟨k, h', e, hk, t'⟩ := l_draw (d := d + 1) (by omega) ht h1 (by have : (2 : Nat) ^ 40 = 1099511627776 := rfl; omega)
  refine ⟨ds[k], h', ?_, List.getElem_mem hk, t'⟩
  rw [u__law_pick, x__law_pick]
  have g : ds[k]? = some ds[k] := List.getElem?_eq_getElem hk
  simp only [dB_cons, dS_ret, dE_ix, dE_slot, dE_call, dL_cons, dE_b1, List.getElem?_cons_succ, List.getElem?_cons_zero, slotR_v, bind_ok, kB1_eq, kL1_eq, toD_v, lift_some, kL2_eq, dL_nil, kL3_eq, kU_eq, b1_len, len_l, kCall_eq, Ph_call, e, kV_eq, kB2_eq, ix_l, at_nat, g, Option.map_some, exS_ok, kRet_eq, kRet2_eq, seqR_ret, endF_ret]
  rw [trim_len (by rw [t'.len, ht.len])]
theorem l_fraction {d : Nat} (hd : 3 ≤ d) {m : Nat} {h : AH} (ht : Town ns hs (m + 2) h) {most : Nat} (h2 : most ≤ 9) : ∃ (q : Rat) (h' : AH), Rn d k__law_fraction [.scr ns, .ref 0, .int (most : Int)] h = .ok (frD q) h' ∧ Sz 5 q ∧ Town ns hs m h' := by
  obtain ⟨d, rfl⟩ : ∃ e, d = e + 3 := ⟨d - 3, by omega⟩
  obtain ⟨k, h1, e1, hk, t1⟩ := l_draw (d := d + 2) (by omega) (lim := 2 * most + 1) ht (by omega) (by have : (2 : Nat) ^ 40 = 1099511627776 := rfl; omega)
  obtain ⟨x, h3, e3, hx, t3⟩ := l_pick (d := d + 2) (by omega) t1 (ds := [.int 1, .int 1, .int 2, .int 3, .int 5]) (by simp) (by simp)
  obtain ⟨b, hb, hb0, hb5⟩ : ∃ b : Nat, x = .int (b : Int) ∧ b ≠ 0 ∧ b ≤ 5 := by
    simp at hx
    rcases hx with rfl | rfl | rfl | rfl
    · exact ⟨1, rfl, by decide, by decide⟩
    · exact ⟨2, rfl, by decide, by decide⟩
    · exact ⟨3, rfl, by decide, by decide⟩
    · exact ⟨5, rfl, by decide, by decide⟩
  subst hb
  have z := l_ratio (d := d + 2) (by omega) ((k : Int) - (most : Int)) b h3 hb0 (Nat.lt_of_lt_of_le (show b < 2 ^ 3 by omega) (Nat.pow_le_pow_right (by decide) (by decide)))
  refine ⟨mkRat ((k : Int) - (most : Int)) b, h3, ?_, Sz.mk (by have : (2 : Nat) ^ 5 = 32 := rfl; omega) (by have : (2 : Nat) ^ 5 = 32 := rfl; omega) hb0, t3⟩
  have em : (2 * (most : Int) + 1) = ((2 * most + 1 : Nat) : Int) := by omega
  have mo : mulOk 2 (most : Int) = true := mulOk_of (m := 2) (n := 4) (by decide) (by have : (2 : Nat) ^ 4 = 16 := rfl; omega) (by decide)
  rw [u__law_fraction, x__law_fraction]
  simp only [dB_cons, dS_ret, dE_call, dL_cons, dE_bin, dE_lst, dE_cst, dE_slot, List.getElem?_cons_succ, List.getElem?_cons_zero, slotR_v, bind_ok, kB1_eq, kB2_eq, kL1_eq, toD_v, toD_f, lift_some, kL2_eq, dL_nil, kL3_eq, kLst_eq, k_mul, mul_ii, mo, if_true, k_add, add_ii, em, kCall_eq, Ph_call, e1, kV_eq, k_sub, sub_ii, e3, z, exS_ok, kRet_eq, kRet2_eq, seqR_ret, endF_ret]
  rw [trim_len (by rw [t3.len, ht.len])]
/-- a comprehension whose items are drawn -/
theorem lcL_ex {α β : Type} {t : Tg} {ft : DB} {fe : DE} {env : Env'} (f : α → D) (g : β → D) (P : Nat → AH → Prop) (Q : β → Prop) (c : Nat) : ∀ (l : List α) (acc : List D) (m : Nat) (h : AH), acc.length + l.length ≤ 1000 → P (m + l.length * c) h →
    (∀ a ∈ l, ∀ m h, P (m + c) h → ∃ env' ev b h', bindT t (f a) env = some env' ∧ ft env' h = .ok true h ∧ fe env' h = .ok ev h' ∧ ev.toD = some (g b) ∧ Q b ∧ P m h') →
    ∃ (bs : List β) (h' : AH), lcL t (turn1 ft fe) env (l.map f) h acc = .ok (acc ++ bs.map g) h' ∧ bs.length = l.length ∧ (∀ b ∈ bs, Q b) ∧ P m h'
  | [], acc, m, h, _, p, _ => ⟨[], h, by simp [lcL], rfl, (by simp), by simpa using p⟩
  | a :: l, acc, m, h, hl, p, hs => by
    rw [List.length_cons] at hl
    have ep : m + (a :: l).length * c = (m + l.length * c) + c := by rw [List.length_cons, Nat.add_mul]; omega
    rw [ep] at p
    obtain ⟨env', ev, b, h1, e1, e2, e3, e4, q, p1⟩ := hs a List.mem_cons_self _ h p
    obtain ⟨bs, h', z1, z2, z3, z4⟩ := lcL_ex f g P Q c l (acc ++ [g b]) m h1 (by rw [List.length_append]; simp; omega) p1 fun b hb => hs b (List.mem_cons_of_mem _ hb)
    refine ⟨b :: bs, h', ?_, by simp [z2], fun y hy => ?_, z4⟩
    · simp only [List.map_cons, lcL, e1, turn1, e2, e3, e4, if_pos (show acc.length < sizeLine from Nat.lt_of_lt_of_le (show acc.length < 1000 by omega) (by decide)), bind_ok, z1]
      simp
    · rcases List.mem_cons.mp hy with rfl | hy
      · exact q
      · exact z3 y hy
theorem dE_lcx {T : Tab} {Φ : Phi} {env : Env'} {h h1 : AH} {α β : Type} {it : XI} {t : Tg} {ft : XT} {e : XE} {vs : List Nat} {sr : Sr} (f : α → D) (g : β → D) (P : Nat → AH → Prop) (Q : β → Prop) (c m : Nat) (l : List α) (hi : denI T Φ it env h = .ok sr h1) (hf : sr.fx = some (l.map f)) (hl : l.length ≤ 1000) (p : P (m + l.length * c) h1)
    (hs : ∀ a ∈ l, ∀ m h, P (m + c) h → ∃ env' ev b h', bindT t (f a) (wipeE env vs) = some env' ∧ denT T Φ ft env' h = .ok true h ∧ denE T Φ e env' h = .ok ev h' ∧ ev.toD = some (g b) ∧ Q b ∧ P m h') :
    ∃ (bs : List β) (h' : AH), denE T Φ (.lc it t ft e vs) env h = .ok (.f (bs.map g)) h' ∧ bs.length = l.length ∧ (∀ b ∈ bs, Q b) ∧ P m h' := by
  obtain ⟨bs, h', z1, z2, z3, z4⟩ := lcL_ex (t := t) (ft := denT T Φ ft) (fe := denE T Φ e) (env := wipeE env vs) f g P Q c l [] m h1 (by simpa using hl) p hs
  exact ⟨bs, h', by rw [dE_lc hi hf, z1]; simp, z2, z3, z4⟩
end
end Lw

/-! drawn kinds -/
namespace Lw
open PySem PySem.Spec PyProof.Rows L2 J
theorem le_mk {a t b : Rat} (hb : 0 < b) (h : a * b ≤ t) : a ≤ t / b := Rat.not_lt.mp fun c => absurd h (Rat.not_le.mpr ((Rat.div_lt_iff hb).mp c))
theorem mk_le {a t b : Rat} (hb : 0 < b) (h : t ≤ a * b) : t / b ≤ a := Rat.not_lt.mp fun c => absurd h (Rat.not_le.mpr ((Rat.lt_div_iff hb).mp c))
theorem eraseIdx_map {α β : Type} (f : α → β) : ∀ (l : List α) (j : Nat), (l.map f).eraseIdx j = (l.eraseIdx j).map f
  | [], j => by simp
  | a :: l, 0 => by simp
  | a :: l, j + 1 => by simp [eraseIdx_map f l j]
def left0 : List Int := [-6, -5, -4, -3, -2, -1, 0, 1, 2, 3, 4, 5, 6]
theorem lr_left (h : AH) : lr2K h (.v (.int (-6))) (.v (.int 7)) = some (.f (left0.map D.int)) := by
  have e : rgOk2 (-6) 7 = true := by simp [rgOk2, rgOk]
  show (if rgOk2 (-6) 7 then some (EV.f (J.upTo (-6) ((7 : Int) - (-6)).toNat)) else none) = _
  rw [if_pos e]
  rfl
structure LOk (l : List Int) : Prop where
  two : 2 ≤ l.length
  top : l.length ≤ 13
  asc : l.Pairwise (· < ·)
  rng : ∀ x ∈ l, -6 ≤ x ∧ x ≤ 6
theorem left0_ok : LOk left0 := ⟨by decide, by decide, by decide, by decide⟩
theorem ixN_nat {n j : Nat} (h : j < n) : ixN n (j : Int) = some j := by
  unfold ixN
  rw [if_pos (by omega), if_pos (by omega)]; simp
section
variable {ns : List Int} {hs : AH}
def kT : XT := .cmp .gt (.b1 .len (.slot 3)) (.bin .add (.cst (.int 2)) (.call k__law_draw (.cons (.slot 0) (.cons (.slot 1) (.cons (.bin .sub (.slot 2) (.cst (.int 1))) (.nil))))))
def kBd : XB := .cons (.m1 3 .pop (.call k__law_draw (.cons (.slot 0) (.cons (.slot 1) (.cons (.b1 .len (.slot 3)) (.nil)))))) (.nil)
theorem k1_pop : O1.k1 .pop = popK := rfl
theorem wh_kind (t : Tab) (d : Nat) (hd : 1 ≤ d) (most : Nat) (hm1 : 2 ≤ most) (hm2 : most ≤ 100) (b : Option Slot) : ∀ (len : Nat) (l : List Int) (m fuel : Nat) (h : AH), l.length = len → LOk l → len < fuel → Town ns hs (m + 2 * len) h →
    ∃ (l' : List Int) (h' : AH), whN (denT t (Ph d) kT) (denB t (Ph d) kBd) fuel [some (.val (.scr ns)), some (.val (.ref 0)), some (.val (.int (most : Int))), some (.own (l.map D.int)), b, none] h = .nx [some (.val (.scr ns)), some (.val (.ref 0)), some (.val (.int (most : Int))), some (.own (l'.map D.int)), b, none] h' ∧ LOk l' ∧ Town ns hs m h' := by
  intro len
  induction len with
  | zero => intro l m fuel h hl lo; have := lo.two; omega
  | succ len ih =>
    intro l m fuel h hl lo hf ht
    cases fuel with
    | zero => omega
    | succ fuel =>
      have em : ((most : Int) - 1) = ((most - 1 : Nat) : Int) := by omega
      have ltop := lo.top
      obtain ⟨k, h1, e1, hk, t1⟩ := l_draw (m := m + 2 * len + 1) hd (ht.less (by omega)) (lim := most - 1) (by omega) (by have : (2 : Nat) ^ 40 = 1099511627776 := rfl; omega)
      have ht' : denT t (Ph d) kT [some (.val (.scr ns)), some (.val (.ref 0)), some (.val (.int (most : Int))), some (.own (l.map D.int)), b, none] h = .ok (decide (2 + (k : Int) < (l.length : Int))) h1 := by
        simp only [kT, dT_cmp, dE_cmp, dE_b1, dE_slot, List.getElem?_cons_succ, List.getElem?_cons_zero, slotR_v, slotR_o, bind_ok, kU_eq, b1_len, len_b, List.length_map, lift_some, kB1_eq, dE_bin, dE_cst, dE_call, dL_cons, kL1_eq, toD_v, kL2_eq, dL_nil, kL3_eq, k_sub, sub_ii, em, kB2_eq, kCall_eq, Ph_call, e1, kV_eq, k_add, add_ii, gt_ii, kBl_eq, blK_b]
      by_cases c : 2 + (k : Int) < (l.length : Int)
      · rw [decide_eq_true c] at ht'
        obtain ⟨j, h2, e2, hj, t2⟩ := l_draw (m := m + 2 * len) hd t1 (lim := l.length) (by omega) (by have : (2 : Nat) ^ 40 = 1099511627776 := rfl; omega)
        have hlj : (l.eraseIdx j).length = len := by rw [List.length_eraseIdx, if_pos hj]; omega
        have lo' : LOk (l.eraseIdx j) := ⟨by rw [hlj]; omega, by rw [hlj]; omega, lo.asc.sublist (List.eraseIdx_sublist l j), fun x hx => lo.rng x (List.mem_of_mem_eraseIdx hx)⟩
        obtain ⟨l', h', z1, z2, z3⟩ := ih (l.eraseIdx j) m fuel h2 hlj lo' (by omega) t2
        refine ⟨l', h', ?_, z2, z3⟩
        have hb : denB t (Ph d) kBd [some (.val (.scr ns)), some (.val (.ref 0)), some (.val (.int (most : Int))), some (.own (l.map D.int)), b, none] h1 = .nx [some (.val (.scr ns)), some (.val (.ref 0)), some (.val (.int (most : Int))), some (.own ((l.eraseIdx j).map D.int)), b, none] h2 := by
          rw [kBd, dB_cons, dS_m1 (ds := l.map D.int) (ds' := (l.eraseIdx j).map D.int) (ev := .v (.int (j : Int))) (h1 := h2) (by simp [getL]) (by
            simp only [dE_call, dL_cons, dE_b1, dE_slot, List.getElem?_cons_succ, List.getElem?_cons_zero, slotR_v, slotR_o, bind_ok, kL1_eq, toD_v, lift_some, kL2_eq, dL_nil, kL3_eq, kU_eq, b1_len, len_b, List.length_map, kCall_eq, Ph_call, e2, kV_eq]) (by simp [getL]) (by
            rw [k1_pop]
            show (match ixN (l.map D.int).length (j : Int) with | some j => some ((l.map D.int).eraseIdx j) | none => none) = _
            rw [ixN_nat (by simpa using hj)]
            simp only [eraseIdx_map])]
          rfl
        rw [whN_true ht' hb, z1]
      · rw [decide_eq_false c] at ht'
        exact ⟨l, h1, whN_false ht', lo, t1.less (by omega)⟩
theorem cut_take (l : List Int) (n : Nat) : J.cutD (l.map D.int) none (some (n : Int)) = (l.take n).map D.int := by
  unfold J.cutD HT.sIx
  simp only [List.length_map]
  rw [if_neg (by omega)]
  simp
theorem asc_get {l : List Int} (h : l.Pairwise (· < ·)) (i : Nat) (hi : i + 1 < l.length) : l.getD i 0 < l.getD (i + 1) 0 := by
  have := List.pairwise_iff_getElem.mp h i (i + 1) (by omega) hi (by omega)
  simpa [hi, show i < l.length by omega] using this
theorem l_kind {d : Nat} (hd : 2 ≤ d) {m : Nat} {h : AH} (ht : Town ns hs (m + 100) h) {most : Nat} (hm1 : 2 ≤ most) (hm2 : most ≤ 6) : ∃ (deg : Nat) (kn : List Int) (jo : List Nat) (h' : AH), Rn d k__law_kind [.scr ns, .ref 0, .int (most : Int)] h = .ok (kindD deg kn jo) h' ∧ KOk deg kn jo ∧ kn.length ≤ most ∧ (∀ x ∈ kn, -6 ≤ x ∧ x ≤ 6) ∧ Town ns hs m h' := by
  obtain ⟨d, rfl⟩ : ∃ e, d = e + 2 := ⟨d - 2, by omega⟩
  obtain ⟨k, h1, e1, hk, t1⟩ := l_draw (d := d + 1) (m := m + 99) (by omega) ht (lim := 3) (by decide) (by decide)
  obtain ⟨deg, hdeg⟩ : ∃ deg : Nat, deg = 1 + k := ⟨_, rfl⟩
  have edeg : (1 + (k : Int)) = (deg : Int) := by omega
  obtain ⟨l, h2, z1, lo, t2⟩ := wh_kind (ns := ns) (hs := hs) t__law_kind (d + 1) (by omega) most hm1 (by omega) (some (.val (.int (deg : Int)))) 13 left0 (m + 70) fu h1 rfl left0_ok (fu_lt (m := 10) (by decide) (by decide)) (t1.less (by omega))
  obtain ⟨kn, hkn⟩ : ∃ kn, kn = l.take most := ⟨_, rfl⟩
  have kl : kn.length = min most l.length := by rw [hkn]; simp
  have ltwo := lo.two
  have ltop := lo.top
  have kasc : kn.Pairwise (· < ·) := by rw [hkn]; exact lo.asc.sublist (List.take_sublist _ _)
  have krng : ∀ x ∈ kn, -6 ≤ x ∧ x ≤ 6 := fun x hx => lo.rng x (by rw [hkn] at hx; exact List.mem_of_mem_take hx)
  have il : (inner kn).length = kn.length - 2 := inner_len kn
  obtain ⟨jo, h3, z2, z3, z4, t3⟩ := dE_lcx (T := t__law_kind) (Φ := Ph (d + 1)) (env := [some (.val (.scr ns)), some (.val (.ref 0)), some (.val (.int (most : Int))), some (.own (kn.map D.int)), some (.val (.int (deg : Int))), none]) (h := h2) (it := .seq (.sl (.slot 3) (.so (.cst (.int 1))) (.so (.neg (.cst (.int 1)))))) (t := .name 5) (ft := .yes) (e := .call k__law_draw (.cons (.slot 0) (.cons (.slot 1) (.cons (.slot 4) (.nil))))) (vs := [5]) (h1 := h2) (sr := .one (.fx ((inner kn).map D.int)))
    D.int jD (fun m h => Town ns hs m h) (fun j => j < deg) 1 m (inner kn) (by simp [cut_inner (show 2 ≤ kn.length by omega)]) rfl (by omega) (t2.less (by omega)) fun a _ m' h' t' => by
      obtain ⟨j, h4, e4, hj, t4⟩ := l_draw (d := d + 1) (by omega) t' (lim := deg) (by omega) (by have : (2 : Nat) ^ 40 = 1099511627776 := rfl; omega)
      refine ⟨[some (.val (.scr ns)), some (.val (.ref 0)), some (.val (.int (most : Int))), some (.own (kn.map D.int)), some (.val (.int (deg : Int))), some (.val (.int a))], .v (.int (j : Int)), j, h4, by simp [wipeE], rfl, ?_, rfl, hj, t4⟩
      simp only [dE_call, dL_cons, dE_slot, List.getElem?_cons_succ, List.getElem?_cons_zero, slotR_v, bind_ok, kL1_eq, toD_v, lift_some, kL2_eq, dL_nil, kL3_eq, kCall_eq, Ph_call, e4, kV_eq]
  refine ⟨deg, kn, jo, h3, ?_, ⟨by omega, by omega, by omega, by omega, fun x hx => by have := krng x hx; omega, fun i hi => asc_get kasc i hi, by omega, z4⟩, by omega, krng, t3⟩
  unfold kT kBd at z1
  rw [u__law_kind, x__law_kind, dB_cons]
  have s1 : denS t__law_kind (Ph (d + 1)) (.par [4, 3] [false, true] (.cons (.bin .add (.cst (.int 1)) (.call k__law_draw (.cons (.slot 0) (.cons (.slot 1) (.cons (.cst (.int 3)) (.nil)))))) (.cons (.lr2 (.neg (.cst (.int 6))) (.cst (.int 7))) (.nil)))) [some (.val (.scr ns)), some (.val (.ref 0)), some (.val (.int (most : Int))), none, none, none] h = .nx [some (.val (.scr ns)), some (.val (.ref 0)), some (.val (.int (most : Int))), some (.own (left0.map D.int)), some (.val (.int (deg : Int))), none] h1 := by
    have e1' : Rn (d + 1) k__law_draw [.scr ns, .ref 0, .int 3] h = .ok (.int (k : Int)) h1 := e1
    simp only [dS_par, dEL_cons, dE_bin, dE_cst, bind_ok, kB1_eq, dE_call, dL_cons, dE_slot, List.getElem?_cons_succ, List.getElem?_cons_zero, slotR_v, kL1_eq, toD_v, lift_some, kL2_eq, dL_nil, kL3_eq, kCall_eq, Ph_call, e1', kV_eq, kB2_eq, k_add, add_ii, edeg, kM1_eq, lone_i, kM2_t, dE_lr2, dE_neg, kU_eq, neg_i, lr_left, lone_f, dEL_nil, kM3_eq, exS_ok, kPar_eq, slotsOf1, slotOf_v, slotOf_ft, Option.bind_some, slotsOf0, Option.map_some, kPar2_eq, setsE1, setsE0, List.set_cons_succ, List.set_cons_zero]
  rw [s1, seqR_nx, dB_cons, dS_whl, Ph_fuel, z1, seqR_nx, dB_cons]
  have s3 : denS t__law_kind (Ph (d + 1)) (.set 3 true (.sl (.slot 3) .no (.so (.slot 2)))) [some (.val (.scr ns)), some (.val (.ref 0)), some (.val (.int (most : Int))), some (.own (l.map D.int)), some (.val (.int (deg : Int))), none] h2 = .nx [some (.val (.scr ns)), some (.val (.ref 0)), some (.val (.int (most : Int))), some (.own (kn.map D.int)), some (.val (.int (deg : Int))), none] h2 := by
    simp only [dS_set, dE_sl, dE_slot, List.getElem?_cons_succ, List.getElem?_cons_zero, slotR_v, slotR_o, bind_ok, kS1_eq, dO_no, kS2_eq, dO_so, kPart_eq, partK_i, lift_some, kS3_eq, cut_b, cut_take, ← hkn, exS_ok, kSet_eq, slotOf_ft, kSet2_eq, List.set_cons_succ, List.set_cons_zero]
  rw [s3, seqR_nx]
  simp only [dB_cons, dS_ret, dE_tup, dL_cons, dE_slot, List.getElem?_cons_succ, List.getElem?_cons_zero, slotR_v, slotR_o, bind_ok, kL1_eq, toD_v, lift_some, kL2_eq, dE_b1, kU_eq, b1_tuple, tup_b, z2, tup_f, dL_nil, kL3_eq, kTup_eq, exS_ok, kRet_eq, kRet2_eq, seqR_ret, endF_ret]
  rw [trim_len (by rw [t3.len, ht.len])]
end
end Lw

/-! drawn functions -/
namespace Lw
open PySem PySem.Spec PyProof.Rows L2 J
abbrev BdL (b : Nat) (l : List Int) : Prop := ∀ c ∈ l, c.natAbs < 2 ^ b
theorem Bd.getD {b : Nat} {l : List Int} (h : BdL b l) (i : Nat) : (l.getD i 0).natAbs < 2 ^ b := by
  by_cases hi : i < l.length
  · exact h _ (getD_mem hi)
  · have : l.getD i 0 = 0 := by simp [hi]
    rw [this]; exact Nat.pow_pos (by decide)
theorem Bd.stp {b : Nat} {l : List Int} (h : BdL b l) {x : Int} (hx : x.natAbs < 2 ^ 5) : BdL (b + 6) (stp x l) := fun c hc => by
  unfold Lw.stp at hc
  obtain ⟨k, _, rfl⟩ := List.mem_map.mp hc
  have h1 := mul_lt_pow hx (Bd.getD h k)
  have h2 : (if 0 < k then l.getD (k - 1) 0 else 0).natAbs < 2 ^ b := by
    split
    · exact Bd.getD h _
    · exact Nat.pow_pos (by decide)
  have h3 := Int.natAbs_sub_le (if 0 < k then l.getD (k - 1) 0 else 0) (x * l.getD k 0)
  rw [Int.natAbs_mul] at h3
  have h4 : 2 ^ (5 + b) + 2 ^ b ≤ 2 ^ (b + 6) := by
    rw [Nat.pow_add, Nat.pow_add]
    have : (2 : Nat) ^ 5 = 32 := rfl
    have : (2 : Nat) ^ 6 = 64 := rfl
    have := Nat.pow_pos (n := b) (show 0 < 2 by decide)
    omega
  omega
theorem Bd.cutI {x : Int} (hx : x.natAbs < 2 ^ 5) : ∀ (n : Nat) {b : Nat} {l : List Int}, BdL b l → BdL (b + 6 * n) (cutI x n l)
  | 0, b, l, h => h
  | n + 1, b, l, h => by
    have := Bd.cutI hx n (Bd.stp h hx)
    have e : b + 6 * (n + 1) = b + 6 + 6 * n := by omega
    rw [e]; exact this
theorem ct_a (d : Nat) (h : AH) (x : Int) (hx : x.natAbs < 2 ^ 5) (deg : Nat) (hd3 : deg ≤ 3) (a o : Option Slot) {l : List Int} (hl : l.length = deg + 1) {b : Nat} (hb : BdL b l) (hb2 : b ≤ 1000) : denE t__law_cut (Ph d) (.lc (.rng (.cons (.bin .add (.slot 2) (.cst (.int 1))) (.nil))) (.name 5) (.yes) (.bin .sub (.ife (.cmp .gt (.slot 5) (.cst (.int 0))) (.ix (.slot 3) (.bin .sub (.slot 5) (.cst (.int 1)))) (.cst (.int 0))) (.bin .mul (.slot 0) (.ix (.slot 3) (.slot 5)))) [5]) [some (.val (.int x)), a, some (.val (.int (deg : Int))), some (.val (.lst (l.map D.int))), o, none] h = .ok (.f ((stp x l).map D.int)) h := by
  have e : (stp x l).map D.int = (List.range l.length).map fun k => .int ((if 0 < k then l.getD (k - 1) 0 else 0) - x * l.getD k 0) := by simp [stp]
  have e1 : ((deg : Int) + 1) = ((deg + 1 : Nat) : Int) := by omega
  rw [e]
  refine dE_lcm (fun i : Nat => D.int (0 + (i : Nat))) _ (List.range l.length) (sr := .one (.fx (J.upTo 0 ((deg + 1 : Nat) : Int).toNat))) (dI_r1 (i := ((deg + 1 : Nat) : Int)) (by simp only [dE_bin, dE_slot, List.getElem?_cons_succ, List.getElem?_cons_zero, slotR_v, bind_ok, kB1_eq, dE_cst, kB2_eq, k_add, add_ii, e1, lift_some]) (rg_nat (by omega))) (by rw [fx1, J.upTo, Int.toNat_natCast, hl]) (size_le (by simp; omega)) fun i hi => ?_
  have hi := List.mem_range.mp hi
  have m1 : mulOk x (l.getD i 0) = true := mulOk_of (m := 5) (n := b) hx (Bd.getD hb i) (by omega)
  have e0 : (0 + (i : Int)) = (i : Int) := by omega
  refine ⟨[some (.val (.int x)), a, some (.val (.int (deg : Int))), some (.val (.lst (l.map D.int))), o, some (.val (.int (i : Int)))], .v (.int ((if 0 < i then l.getD (i - 1) 0 else 0) - x * l.getD i 0)), by simp [wipeE], rfl, ?_, rfl⟩
  have g := get_int hi
  by_cases c : 0 < i
  · obtain ⟨j, hj⟩ : ∃ j : Nat, j = i - 1 := ⟨_, rfl⟩
    have e3 : ((i : Int) - 1) = (j : Int) := by omega
    have c' : (0 : Int) < (i : Int) := by omega
    rw [if_pos c, ← hj]
    simp only [dE_bin, dE_ife, dT_cmp, dE_cmp, dE_slot, List.getElem?_cons_succ, List.getElem?_cons_zero, slotR_v, bind_ok, kB1_eq, dE_cst, kB2_eq, gt_ii, decide_eq_true c', lift_some, kBl_eq, blK_b, kIf_t, dE_ix, k_sub, sub_ii, e3, ix_l, at_nat, get_int (show j < l.length by omega), g, Option.map_some, k_mul, mul_ii, m1, if_true]
  · have c' : ¬ (0 : Int) < (i : Int) := by omega
    rw [if_neg c]
    simp only [dE_bin, dE_ife, dT_cmp, dE_cmp, dE_slot, List.getElem?_cons_succ, List.getElem?_cons_zero, slotR_v, bind_ok, kB1_eq, dE_cst, kB2_eq, gt_ii, decide_eq_false c', lift_some, kBl_eq, blK_b, kIf_f, dE_ix, k_sub, sub_ii, ix_l, at_nat, g, Option.map_some, k_mul, mul_ii, m1, if_true]
theorem lp_cut (d : Nat) (h : AH) (x : Int) (hx : x.natAbs < 2 ^ 5) (deg : Nat) (hd3 : deg ≤ 3) (a : Option Slot) (body : XB) (hb : body = .cons (.set 3 false (.lc (.rng (.cons (.bin .add (.slot 2) (.cst (.int 1))) (.nil))) (.name 5) (.yes) (.bin .sub (.ife (.cmp .gt (.slot 5) (.cst (.int 0))) (.ix (.slot 3) (.bin .sub (.slot 5) (.cst (.int 1)))) (.cst (.int 0))) (.bin .mul (.slot 0) (.ix (.slot 3) (.slot 5)))) [5])) (.nil)) : ∀ (n i : Nat) (l : List Int) (b : Nat) (o : Option Slot), l.length = deg + 1 → BdL b l → b + 6 * n ≤ 900 →
    ∃ o', loopL (.name 4) (denB t__law_cut (Ph d) body) ((List.range' i n).map fun i => .int (0 + (i : Nat))) [some (.val (.int x)), a, some (.val (.int (deg : Int))), some (.val (.lst (l.map D.int))), o, none] h = .nx [some (.val (.int x)), a, some (.val (.int (deg : Int))), some (.val (.lst ((cutI x n l).map D.int))), o', none] h
  | 0, i, l, b, o, _, _, _ => ⟨o, rfl⟩
  | n + 1, i, l, b, o, hl, hbd, hs => by
    have z := ct_a d h x hx deg hd3 a (some (.val (.int (0 + (i : Nat))))) hl hbd (by omega)
    obtain ⟨o', y⟩ := lp_cut d h x hx deg hd3 a body hb n (i + 1) (stp x l) (b + 6) (some (.val (.int (0 + (i : Nat))))) (by simp [hl]) (Bd.stp hbd hx) (by omega)
    refine ⟨o', ?_⟩
    rw [List.range'_succ, List.map_cons, loopL_cons (env' := [some (.val (.int x)), a, some (.val (.int (deg : Int))), some (.val (.lst (l.map D.int))), some (.val (.int (0 + (i : Nat)))), none]) (by simp)]
    subst hb
    rw [dB_cons, dS_set, z]
    simp only [exS_ok, kSet_eq, slotOf_ff, lift_some, kSet2_eq, List.set_cons_succ, List.set_cons_zero, seqR_nx, dB_nil]
    exact y
theorem ones (h : AH) (deg : Nat) (hd3 : deg ≤ 3) : mulK h (.f [.int 0]) (.v (.int (deg : Int))) = some (.f (List.replicate deg (.int 0))) := by
  rcases (show deg = 0 ∨ deg = 1 ∨ deg = 2 ∨ deg = 3 by omega) with rfl | rfl | rfl | rfl <;> rfl
theorem add_ff (h : AH) (xs ys : List D) (hl : xs.length + ys.length ≤ 1000) : addK h (.f xs) (.f ys) = some (.f (xs ++ ys)) := by
  have e := size_le hl
  simp only [addK, seqOf_f, e, if_true]
theorem dE_mul {T : Tab} {Φ : Phi} {env : Env'} {h h1 h2 : AH} {a b : XE} {x y : EV} (ha : denE T Φ a env h = .ok x h1) (hb : denE T Φ b env h1 = .ok y h2) : denE T Φ (.bin .mul a b) env h = .lift (mulK h2 x y) h2 := by
  rw [dE_bin, ha, bind_ok, kB1_eq, hb, bind_ok, kB2_eq, k_mul]
theorem dE_add {T : Tab} {Φ : Phi} {env : Env'} {h h1 h2 : AH} {a b : XE} {x y : EV} (ha : denE T Φ a env h = .ok x h1) (hb : denE T Φ b env h1 = .ok y h2) : denE T Φ (.bin .add a b) env h = .lift (addK h2 x y) h2 := by
  rw [dE_bin, ha, bind_ok, kB1_eq, hb, bind_ok, kB2_eq, k_add]
theorem ct_m (d : Nat) (h : AH) (a b c e o : Option Slot) (deg : Nat) (hd3 : deg ≤ 3) : denE t__law_cut (Ph d) (.bin .mul (.lst (.cons (.cst (.int 0)) (.nil))) (.slot 2)) [a, b, some (.val (.int (deg : Int))), c, e, o] h = .ok (.f (List.replicate deg (.int 0))) h := by
  have l0 : denE t__law_cut (Ph d) (.lst (.cons (.cst (.int 0)) (.nil))) [a, b, some (.val (.int (deg : Int))), c, e, o] h = .ok (.f [.int 0]) h := by
    simp only [dE_lst, dL_cons, dE_cst, bind_ok, kL1_eq, toD_v, lift_some, kL2_eq, dL_nil, kL3_eq, kLst_eq]
  have l1 : denE t__law_cut (Ph d) (.slot 2) [a, b, some (.val (.int (deg : Int))), c, e, o] h = .ok (.v (.int (deg : Int))) h := by
    simp only [dE_slot, List.getElem?_cons_succ, List.getElem?_cons_zero, slotR_v]
  rw [dE_mul l0 l1, ones h deg hd3, lift_some]
theorem ct_s (d : Nat) (h : AH) (x : Int) (a : Option Slot) (deg : Nat) (hd3 : deg ≤ 3) : denS t__law_cut (Ph d) (.set 3 false (.bin .add (.lst (.cons (.cst (.int 1)) (.nil))) (.bin .mul (.lst (.cons (.cst (.int 0)) (.nil))) (.slot 2)))) [some (.val (.int x)), a, some (.val (.int (deg : Int))), none, none, none] h = .nx [some (.val (.int x)), a, some (.val (.int (deg : Int))), some (.val (.lst ((1 :: List.replicate deg 0).map D.int))), none, none] h := by
  have ea : addK h (.f [.int 1]) (.f (List.replicate deg (.int 0))) = some (.f ((1 :: List.replicate deg 0).map D.int)) := by
    rw [add_ff h _ _ (by simp; omega)]
    simp
  have l0 : denE t__law_cut (Ph d) (.lst (.cons (.cst (.int 1)) (.nil))) [some (.val (.int x)), a, some (.val (.int (deg : Int))), none, none, none] h = .ok (.f [.int 1]) h := by
    simp only [dE_lst, dL_cons, dE_cst, bind_ok, kL1_eq, toD_v, lift_some, kL2_eq, dL_nil, kL3_eq, kLst_eq]
  rw [dS_set, dE_add l0 (ct_m d h _ _ _ _ _ deg hd3), ea, lift_some, exS_ok, kSet_eq, slotOf_ff, lift_some, exS_ok, kSet2_eq]
  simp only [List.set_cons_succ, List.set_cons_zero]
theorem ct_r (d : Nat) (h : AH) (a b c e o : Option Slot) (ds : List D) : denB t__law_cut (Ph d) (.cons (.ret (.slot 3)) (.nil)) [a, b, c, some (.val (.lst ds)), e, o] h = .ret (.lst ds) h := by
  simp only [dB_cons, dS_ret, dE_slot, List.getElem?_cons_succ, List.getElem?_cons_zero, slotR_v, exS_ok, kRet_eq, toD_v, lift_some, kRet2_eq, seqR_ret]
theorem bd_one (deg : Nat) : BdL 1 (1 :: List.replicate deg 0) := by
  intro c hc
  rcases List.mem_cons.mp hc with rfl | hc
  · decide
  · have := List.eq_of_mem_replicate hc; subst this; decide
theorem l_cut {d : Nat} (hd : 1 ≤ d) (h : AH) (x : Int) (hx : x.natAbs < 2 ^ 5) (pow deg : Nat) (hd3 : deg ≤ 3) (hp : pow ≤ 3) : Rn d k__law_cut [.int x, .int (pow : Int), .int (deg : Int)] h = .ok (.lst ((cutP x pow deg).map D.int)) h := by
  obtain ⟨d, rfl⟩ : ∃ e, d = e + 1 := ⟨d - 1, by omega⟩
  obtain ⟨o', z⟩ := lp_cut d h x hx deg hd3 (some (.val (.int (pow : Int)))) _ rfl pow 0 (1 :: List.replicate deg 0) 1 none (by simp) (bd_one deg) (by omega)
  rw [u__law_cut, x__law_cut, dB_cons, ct_s d h x _ deg hd3, seqR_nx, dB_cons, dS_for (dI_r1 (i := (pow : Nat)) (by simp only [dE_slot, List.getElem?_cons_succ, List.getElem?_cons_zero, slotR_v]) (rg_nat (by omega))) rfl (by rw [fx1, J.upTo, List.range_eq_range', Int.toNat_natCast]), z, seqR_nx, ct_r, endF_ret, trim_self]
  rfl
section
variable {ns : List Int} {hs : AH}
/-- the inner loop's end: a line with one more cut power -/
theorem fu_a (d : Nat) (hd : 3 ≤ d) (h : AH) (deg : Nat) (hd3 : deg ≤ 3) {p : List Rat} (hp : p.length = deg + 1) {s : Nat} (hs1 : SzL s p) (hs0 : 0 < s) (hs2 : s ≤ 3000) {c : Rat} (hc : Sz 5 c) {cut : List Int} (hcl : cut.length = deg + 1) (hcb : BdL 20 cut) (e0 e1 e2 e3 e5 e7 e8 e9 e10 e11 : Option Slot) : denE t__law_function (Ph d) (.lc (.rng (.cons (.bin .add (.slot 6) (.cst (.int 1))) (.nil))) (.name 12) (.yes) (.call k__law_plus (.cons (.ix (.slot 4) (.slot 12)) (.cons (.call k__law_times (.cons (.slot 13) (.cons (.tup (.cons (.ix (.slot 14) (.slot 12)) (.cons (.cst (.int 1)) (.nil)))) (.nil)))) (.nil)))) [12])
    [e0, e1, e2, e3, some (.val (lstD p)), e5, some (.val (.int (deg : Int))), e7, e8, e9, e10, e11, none, some (.val (frD c)), some (.val (.lst (cut.map D.int)))] h = .ok (.f ((updP p c cut).map frD)) h := by
  have e : (updP p c cut).map frD = (List.range p.length).map fun k => frD (p.getD k 0 + c * ((cut.getD k 0 : Int) : Rat)) := by simp [updP]
  have e1' : ((deg : Int) + 1) = ((deg + 1 : Nat) : Int) := by omega
  rw [e]
  refine dE_lcm (fun i : Nat => D.int (0 + (i : Nat))) _ (List.range p.length) (sr := .one (.fx (J.upTo 0 ((deg + 1 : Nat) : Int).toNat))) (dI_r1 (i := ((deg + 1 : Nat) : Int)) (by simp only [dE_bin, dE_slot, List.getElem?_cons_succ, List.getElem?_cons_zero, slotR_v, bind_ok, kB1_eq, dE_cst, kB2_eq, k_add, add_ii, e1', lift_some]) (rg_nat (by omega))) (by rw [fx1, J.upTo, Int.toNat_natCast, hp]) (size_le (by simp; omega)) fun i hi => ?_
  have hi := List.mem_range.mp hi
  have sc : Sz 21 ((cut.getD i 0 : Int) : Rat) := Sz.int (Nat.lt_of_lt_of_le (Bd.getD hcb i) (Nat.pow_le_pow_right (by decide) (by decide))) (by decide)
  have z1 := l_times (d := d) (by omega) c ((cut.getD i 0 : Int) : Rat) h (hc.mono (by decide)) (sc.mono (by decide))
  have z2 := l_plus (d := d) (by omega) (p.getD i 0) (c * ((cut.getD i 0 : Int) : Rat)) h ((Sz.getD hs0 hs1 i).mono (by omega)) ((hc.mul sc).mono (by decide))
  rw [int_fr] at z1
  refine ⟨[e0, e1, e2, e3, some (.val (lstD p)), e5, some (.val (.int (deg : Int))), e7, e8, e9, e10, e11, some (.val (.int (i : Int))), some (.val (frD c)), some (.val (.lst (cut.map D.int)))], .v (frD (p.getD i 0 + c * ((cut.getD i 0 : Int) : Rat))), by simp [wipeE], rfl, ?_, rfl⟩
  have g1 := get_fr hi
  have g2 := get_int (show i < cut.length by omega)
  simp only [dE_call, dL_cons, dE_ix, dE_tup, dE_cst, dE_slot, List.getElem?_cons_succ, List.getElem?_cons_zero, slotR_v, bind_ok, kB1_eq, kB2_eq, ix_l, at_nat, g1, g2, Option.map_some, lift_some, kL1_eq, toD_v, kL2_eq, dL_nil, kL3_eq, kTup_eq, kCall_eq, Ph_call, z1, z2, kV_eq]
def fB2 : XB := .cons (.set 13 false (.call k__law_fraction (.cons (.slot 0) (.cons (.slot 1) (.cons (.slot 3) (.nil)))))) (.cons (.set 14 false (.call k__law_cut (.cons (.slot 9) (.cons (.slot 11) (.cons (.slot 6) (.nil)))))) (.cons (.set 4 false (.lc (.rng (.cons (.bin .add (.slot 6) (.cst (.int 1))) (.nil))) (.name 12) (.yes) (.call k__law_plus (.cons (.ix (.slot 4) (.slot 12)) (.cons (.call k__law_times (.cons (.slot 13) (.cons (.tup (.cons (.ix (.slot 14) (.slot 12)) (.cons (.cst (.int 1)) (.nil)))) (.nil)))) (.nil)))) [12])) (.nil)))
abbrev fEnv (ns : List Int) (kd : D) (most deg : Nat) (p : List Rat) (e5 e7 e8 e9 e10 e11 e13 e14 : Option Slot) : Env' := [some (.val (.scr ns)), some (.val (.ref 0)), some (.val kd), some (.val (.int (most : Int))), some (.val (lstD p)), e5, some (.val (.int (deg : Int))), e7, e8, e9, e10, e11, none, e13, e14]
theorem Sz.upd {s : Nat} (hs0 : 0 < s) {p : List Rat} (hp : SzL s p) {c : Rat} (hc : Sz 5 c) {cut : List Int} (hcb : BdL 20 cut) : SzL (s + 28) (updP p c cut) := fun a ha => by
  unfold updP at ha
  obtain ⟨k, _, rfl⟩ := List.mem_map.mp ha
  have sc : Sz 21 ((cut.getD k 0 : Int) : Rat) := Sz.int (Nat.lt_of_lt_of_le (Bd.getD hcb k) (Nat.pow_le_pow_right (by decide) (by decide))) (by decide)
  exact ((Sz.getD hs0 hp k).add (hc.mul sc)).mono (by omega)
theorem lp_in (d : Nat) (hd : 3 ≤ d) (kd : D) (most deg : Nat) (hmost : most ≤ 9) (hd1 : 1 ≤ deg) (hd3 : deg ≤ 3) (x : Int) (hx : x.natAbs < 2 ^ 5) (j : Nat) (e5 e7 e8 e10 : Option Slot) (p0 : List Rat) : ∀ (n i : Nat) (p : List Rat) (s m : Nat) (h : AH) (e11 e13 e14 : Option Slot), j + 1 + i + n ≤ deg + 1 → p.length = deg + 1 → SzL s p → 0 < s → s + 28 * n ≤ 2900 → Ag j (x : Rat) p0 p → Town ns hs (m + 2 * n) h →
    ∃ (q : List Rat) (h' : AH) (e11' e13' e14' : Option Slot), loopL (.name 11) (denB t__law_function (Ph d) fB2) ((List.range' i n).map fun i => .int ((j : Int) + 1 + (i : Nat))) (fEnv ns kd most deg p e5 e7 e8 (some (.val (.int x))) e10 e11 e13 e14) h = .nx (fEnv ns kd most deg q e5 e7 e8 (some (.val (.int x))) e10 e11' e13' e14') h' ∧ q.length = deg + 1 ∧ SzL (s + 28 * n) q ∧ Ag j (x : Rat) p0 q ∧ Town ns hs m h'
  := by
  intro n
  induction n with
  | zero => intro i p s m h e11 e13 e14 _ hl hs1 _ _ ha ht; exact ⟨p, h, e11, e13, e14, rfl, hl, hs1, ha, ht⟩
  | succ n ih =>
    intro i p s m h e11 e13 e14 hij hl hs1 hs0 hs2 ha ht
    obtain ⟨pw, hpw⟩ : ∃ pw : Nat, pw = j + 1 + i := ⟨_, rfl⟩
    have epw : ((j : Int) + 1 + (i : Nat)) = (pw : Int) := by omega
    obtain ⟨c, h1, z1, hc, t1⟩ := l_fraction (ns := ns) (hs := hs) (m := m + 2 * n) hd (ht.less (by omega)) hmost
    have z2 := l_cut (d := d) (by omega) h1 x hx pw deg hd3 (by omega)
    have hcl : (cutP x pw deg).length = deg + 1 := by rw [cutP, cutI_len]; simp
    have hcb : BdL 20 (cutP x pw deg) := fun a ha => Nat.lt_of_lt_of_le (Bd.cutI hx pw (bd_one deg) a ha) (Nat.pow_le_pow_right (by decide) (by omega))
    have z3 := fu_a d hd h1 deg hd3 hl hs1 hs0 (by omega) hc hcl hcb (some (.val (.scr ns))) (some (.val (.ref 0))) (some (.val kd)) (some (.val (.int (most : Int)))) e5 e7 e8 (some (.val (.int x))) e10 (some (.val (.int (pw : Int))))
    obtain ⟨q, h', o1, o2, o3, y1, y2, y3, y4, y5⟩ := ih (i + 1) (updP p c (cutP x pw deg)) (s + 28) m h1 (some (.val (.int (pw : Int)))) (some (.val (frD c))) (some (.val (.lst ((cutP x pw deg).map D.int)))) (by omega) (by simp [hl]) (Sz.upd hs0 hs1 hc hcb) (by omega) (by omega) (Ag_upd hl hd1 hd3 (by omega) (by omega) x c ha) t1
    refine ⟨q, h', o1, o2, o3, ?_, y2, fun a ha => (y3 a ha).mono (by omega), y4, y5⟩
    rw [List.range'_succ, List.map_cons, epw, loopL_cons (env' := fEnv ns kd most deg p e5 e7 e8 (some (.val (.int x))) e10 (some (.val (.int (pw : Int)))) e13 e14) (by simp)]
    have hb : denB t__law_function (Ph d) fB2 (fEnv ns kd most deg p e5 e7 e8 (some (.val (.int x))) e10 (some (.val (.int (pw : Int)))) e13 e14) h = .nx (fEnv ns kd most deg (updP p c (cutP x pw deg)) e5 e7 e8 (some (.val (.int x))) e10 (some (.val (.int (pw : Int)))) (some (.val (frD c))) (some (.val (.lst ((cutP x pw deg).map D.int))))) h1 := by
      simp only [fB2, fEnv, dB_cons, dS_set, dE_call, dL_cons, dE_slot, List.getElem?_cons_succ, List.getElem?_cons_zero, slotR_v, bind_ok, kL1_eq, toD_v, lift_some, kL2_eq, dL_nil, kL3_eq, kCall_eq, Ph_call, z1, kV_eq, exS_ok, kSet_eq, slotOf_v, slotOf_ff, kSet2_eq, List.set_cons_succ, List.set_cons_zero, seqR_nx, z2, z3, dB_nil]
    rw [hb, seqR_nx, y1]
end
end Lw

/-! drawn functions, joints by the law -/
namespace Lw
open PySem PySem.Spec PyProof.Rows L2 J
theorem K_mem5 {deg : Nat} {kn : List Int} {jo : List Nat} (K : KOk deg kn jo) {x : Int} (hx : x ∈ kn) : x.natAbs < 2 ^ 5 := by
  have := K.rng x hx
  have e : (2 : Nat) ^ 5 = 32 := rfl
  omega
theorem Ag.refl (j : Nat) (x : Rat) (p : List Rat) : Ag j x p p := fun _ _ => rfl
theorem app_row (h : AH) (F : List (List Rat)) (q : List Rat) (hl : F.length ≤ 900) : O1.k1 .app h (F.map rowD) (.v (rowD q)) = some ((F ++ [q]).map rowD) := by
  have e : (F.map rowD).length < sizeLine := Nat.lt_of_lt_of_le (show (F.map rowD).length < 1000 by simp; omega) (by decide)
  rw [k1_app]
  unfold appK
  simp only [toD_v, e, if_true]
  simp
section
variable {ns : List Int} {hs : AH}
def fB1 : XB := .cons (.forr (.name 11) (.rng (.cons (.bin .add (.slot 10) (.cst (.int 1))) (.cons (.bin .add (.slot 6) (.cst (.int 1))) (.nil)))) fB2) (.cons (.m1 5 .app (.b1 .tuple (.slot 4))) (.nil))
theorem fn_t1 (d : Nat) (kd : D) (most deg : Nat) (hd3 : deg ≤ 3) (j : Nat) (hj : j < deg) (p : List Rat) (e5 e7 e8 e9 e11 e13 e14 : Option Slot) (h : AH) : denI t__law_function (Ph d) (.rng (.cons (.bin .add (.slot 10) (.cst (.int 1))) (.cons (.bin .add (.slot 6) (.cst (.int 1))) (.nil)))) (fEnv ns kd most deg p e5 e7 e8 e9 (some (.val (.int (j : Int)))) e11 e13 e14) h = .ok (.one (.fx (J.upTo ((j : Int) + 1) (((deg : Int) + 1) - ((j : Int) + 1)).toNat))) h := by
  refine dI_r2 ?_ ?_ (rg_int (by omega) (by omega)) (rg_int (by omega) (by omega))
  · simp only [fEnv, dE_bin, dE_slot, List.getElem?_cons_succ, List.getElem?_cons_zero, slotR_v, bind_ok, kB1_eq, dE_cst, kB2_eq, k_add, add_ii, lift_some]
  · simp only [fEnv, dE_bin, dE_slot, List.getElem?_cons_succ, List.getElem?_cons_zero, slotR_v, bind_ok, kB1_eq, dE_cst, kB2_eq, k_add, add_ii, lift_some]
theorem lp_out (d : Nat) (hd : 3 ≤ d) (kd : D) (most deg : Nat) (hmost : most ≤ 9) (hd1 : 1 ≤ deg) (hd3 : deg ≤ 3) (e7 e8 : Option Slot) : ∀ (ps : List (Int × Nat)) (F : List (List Rat)) (p : List Rat) (s m : Nat) (h : AH) (e9 e10 e11 e13 e14 : Option Slot), (∀ z ∈ ps, z.1.natAbs < 2 ^ 5 ∧ z.2 < deg) → p.length = deg + 1 → SzL s p → 0 < s → s + 84 * ps.length ≤ 2900 → F.length + ps.length ≤ 100 → Town ns hs (m + 6 * ps.length) h →
    ∃ (f : List (List Rat)) (q : List Rat) (h' : AH) (e9' e10' e11' e13' e14' : Option Slot), loopL (.tup [.name 9, .name 10]) (denB t__law_function (Ph d) fB1) (ps.map fun z => .wt [.int z.1, jD z.2]) (fEnv ns kd most deg p (some (.own ((F ++ [p]).map rowD))) e7 e8 e9 e10 e11 e13 e14) h = .nx (fEnv ns kd most deg q (some (.own ((F ++ p :: f).map rowD))) e7 e8 e9' e10' e11' e13' e14') h' ∧ Chn ps (p :: f) ∧ (∀ q ∈ p :: f, q.length = deg + 1 ∧ SzL (s + 84 * ps.length) q) ∧ f.length = ps.length ∧ Town ns hs m h' := by
  intro ps
  induction ps with
  | nil =>
    intro F p s m h e9 e10 e11 e13 e14 _ hl hs1 _ _ _ ht
    refine ⟨[], p, h, e9, e10, e11, e13, e14, rfl, by simp [Chn], fun q hq => ?_, rfl, ht⟩
    simp at hq
    subst hq
    exact ⟨hl, hs1⟩
  | cons z ps ih =>
    intro F p s m h e9 e10 e11 e13 e14 hz hl hs1 hs0 hs2 hF ht
    obtain ⟨x, j⟩ := z
    obtain ⟨hx, hj⟩ := hz (x, j) List.mem_cons_self
    simp only at hx hj
    rw [List.length_cons] at hs2 hF ht
    obtain ⟨q, h1, o11, o13, o14, y1, y2, y3, y4, y5⟩ := lp_in (ns := ns) (hs := hs) d hd kd most deg hmost hd1 hd3 x hx j (some (.own ((F ++ [p]).map rowD))) e7 e8 (some (.val (.int (j : Int)))) p (deg - j) 0 p s (m + 6 * ps.length) h e11 e13 e14 (by omega) hl hs1 hs0 (by omega) (Ag.refl j _ p) (ht.less (by omega))
    obtain ⟨f, r, h', w9, w10, w11, w13, w14, u1, u2, u3, u4, u5⟩ := ih (F ++ [p]) q (s + 28 * (deg - j)) m h1 (some (.val (.int x))) (some (.val (.int (j : Int)))) o11 o13 o14 (fun z hz' => hz z (List.mem_cons_of_mem _ hz')) y2 y3 (by omega) (by omega) (by simp; omega) y5
    refine ⟨q :: f, r, h', w9, w10, w11, w13, w14, ?_, ⟨y4, u2⟩, fun a ha => ?_, by simp [u4], u5⟩
    · rw [List.map_cons, loopL_cons (env' := fEnv ns kd most deg p (some (.own ((F ++ [p]).map rowD))) e7 e8 (some (.val (.int x))) (some (.val (.int (j : Int)))) e11 e13 e14) (by simp)]
      have et : (((deg : Int) + 1) - ((j : Int) + 1)).toNat = deg - j := by omega
      have b1 : denB t__law_function (Ph d) fB1 (fEnv ns kd most deg p (some (.own ((F ++ [p]).map rowD))) e7 e8 (some (.val (.int x))) (some (.val (.int (j : Int)))) e11 e13 e14) h = .nx (fEnv ns kd most deg q (some (.own ((F ++ [p] ++ [q]).map rowD))) e7 e8 (some (.val (.int x))) (some (.val (.int (j : Int)))) o11 o13 o14) h1 := by
        rw [fB1, dB_cons, dS_for (fn_t1 d kd most deg hd3 j hj p _ e7 e8 _ e11 e13 e14 h) rfl (by rw [fx1, J.upTo, et, List.range_eq_range']), y1, seqR_nx, dB_cons]
        rw [dS_m1 (ds := (F ++ [p]).map rowD) (ds' := (F ++ [p] ++ [q]).map rowD) (ev := .v (rowD q)) (h1 := h1) (by simp [getL]) (by simp only [fEnv, dE_b1, dE_slot, List.getElem?_cons_succ, List.getElem?_cons_zero, slotR_v, bind_ok, kU_eq, b1_tuple, tup_l, lift_some]) (by simp [getL]) (app_row h1 _ q (by simp; omega))]
        rfl
      rw [b1, seqR_nx, u1]
      simp
    · rcases List.mem_cons.mp ha with rfl | ha
      · exact ⟨hl, fun c hc => (hs1 c hc).mono (by omega)⟩
      · obtain ⟨v1, v2⟩ := u3 a ha
        exact ⟨v1, fun c hc => (v2 c hc).mono (by rw [List.length_cons]; omega)⟩
theorem l_function {d : Nat} (hd : 4 ≤ d) {m : Nat} {h : AH} (ht : Town ns hs (m + 40) h) {deg : Nat} {kn : List Int} {jo : List Nat} (K : KOk deg kn jo) {most : Nat} (hmost : most ≤ 9) : ∃ (f : List (List Rat)) (h' : AH), Rn d k__law_function [.scr ns, .ref 0, kindD deg kn jo, .int (most : Int)] h = .ok (fnD f) h' ∧ ROk deg kn 350 f ∧ Chn ((inner kn).zip jo) f ∧ Town ns hs m h' := by
  obtain ⟨d, rfl⟩ : ∃ e, d = e + 4 := ⟨d - 4, by omega⟩
  have d1 := K.d1
  have d3 := K.d3
  have l2 := K.l2
  have l6 := K.l6
  have jl := K.jl
  have e1 : ((deg : Int) + 1) = ((deg + 1 : Nat) : Int) := by omega
  obtain ⟨line, h1, z1, z2, z3, t1⟩ := dE_lcx (T := t__law_function) (Φ := Ph (d + 3)) (env := [some (.val (.scr ns)), some (.val (.ref 0)), some (.val (kindD deg kn jo)), some (.val (.int (most : Int))), none, none, some (.val (.int (deg : Int))), some (.val (.tup (kn.map D.int))), some (.val (.tup (jo.map jD))), none, none, none, none, none, none]) (h := h) (it := .rng (.cons (.bin .add (.slot 6) (.cst (.int 1))) (.nil))) (t := .name 12) (ft := .yes) (e := .call k__law_fraction (.cons (.slot 0) (.cons (.slot 1) (.cons (.slot 3) (.nil))))) (vs := [12]) (h1 := h) (sr := .one (.fx (J.upTo 0 ((deg + 1 : Nat) : Int).toNat)))
    (fun i : Nat => D.int (0 + (i : Nat))) frD (fun m h => Town ns hs m h) (fun q => Sz 5 q) 2 (m + 30) (List.range (deg + 1)) (dI_r1 (i := ((deg + 1 : Nat) : Int)) (by simp only [dE_bin, dE_slot, List.getElem?_cons_succ, List.getElem?_cons_zero, slotR_v, bind_ok, kB1_eq, dE_cst, kB2_eq, k_add, add_ii, e1, lift_some]) (rg_nat (by omega))) (by rw [fx1, J.upTo, Int.toNat_natCast]) (by simp; omega) (ht.less (by simp; omega)) fun i _ m' h' t' => by
      obtain ⟨q, h4, e4, hq, t4⟩ := l_fraction (d := d + 3) (by omega) t' hmost
      refine ⟨[some (.val (.scr ns)), some (.val (.ref 0)), some (.val (kindD deg kn jo)), some (.val (.int (most : Int))), none, none, some (.val (.int (deg : Int))), some (.val (.tup (kn.map D.int))), some (.val (.tup (jo.map jD))), none, none, none, some (.val (.int (0 + (i : Nat)))), none, none], .v (frD q), q, h4, by simp [wipeE], rfl, ?_, rfl, hq, t4⟩
      simp only [dE_call, dL_cons, dE_slot, List.getElem?_cons_succ, List.getElem?_cons_zero, slotR_v, bind_ok, kL1_eq, toD_v, lift_some, kL2_eq, dL_nil, kL3_eq, kCall_eq, Ph_call, e4, kV_eq]
  rw [List.length_range] at z2
  have il : ((inner kn).zip jo).length ≤ 4 := by simp; omega
  obtain ⟨f, r, h', w9, w10, w11, w13, w14, u1, u2, u3, u4, u5⟩ := lp_out (ns := ns) (hs := hs) (d + 3) (by omega) (kindD deg kn jo) most deg hmost d1 d3 (some (.val (.tup (kn.map D.int)))) (some (.val (.tup (jo.map jD)))) ((inner kn).zip jo) [] line 5 m h1 none none none none none (fun z hz => ⟨K_mem5 K (inner_mem K (List.of_mem_zip hz).1), K.jd _ (List.of_mem_zip hz).2⟩) z2 z3 (by decide) (by omega) (by simp; omega) (t1.less (by omega))
  refine ⟨line :: f, h', ?_, ⟨?_, fun p hp => (u3 p hp).1, fun p hp c hc => ((u3 p hp).2 c hc).mono (by omega)⟩, u2, u5⟩
  · rw [u__law_function, x__law_function, dB_cons]
    have s1 : denS t__law_function (Ph (d + 3)) (.asg (.tup [.name 6, .name 7, .name 8]) (.slot 2)) [some (.val (.scr ns)), some (.val (.ref 0)), some (.val (kindD deg kn jo)), some (.val (.int (most : Int))), none, none, none, none, none, none, none, none, none, none, none] h = .nx [some (.val (.scr ns)), some (.val (.ref 0)), some (.val (kindD deg kn jo)), some (.val (.int (most : Int))), none, none, some (.val (.int (deg : Int))), some (.val (.tup (kn.map D.int))), some (.val (.tup (jo.map jD))), none, none, none, none, none, none] h := by simp
    rw [s1, seqR_nx, dB_cons, dS_set, z1, exS_ok, kSet_eq, slotOf_ff, lift_some, exS_ok, kSet2_eq, seqR_nx, dB_cons]
    simp only [List.set_cons_succ, List.set_cons_zero]
    have s3 : denS t__law_function (Ph (d + 3)) (.set 5 true (.lst (.cons (.b1 .tuple (.slot 4)) (.nil)))) [some (.val (.scr ns)), some (.val (.ref 0)), some (.val (kindD deg kn jo)), some (.val (.int (most : Int))), some (.val (lstD line)), none, some (.val (.int (deg : Int))), some (.val (.tup (kn.map D.int))), some (.val (.tup (jo.map jD))), none, none, none, none, none, none] h1 = .nx (fEnv ns (kindD deg kn jo) most deg line (some (.own (([] ++ [line]).map rowD))) (some (.val (.tup (kn.map D.int)))) (some (.val (.tup (jo.map jD)))) none none none none none) h1 := by
      simp only [dS_set, dE_lst, dL_cons, dE_b1, dE_slot, List.getElem?_cons_succ, List.getElem?_cons_zero, slotR_v, bind_ok, kU_eq, b1_tuple, tup_l, lift_some, kL1_eq, toD_v, kL2_eq, dL_nil, kL3_eq, kLst_eq, exS_ok, kSet_eq, slotOf_ft, kSet2_eq, List.set_cons_succ, List.set_cons_zero, List.nil_append, List.map_cons, List.map_nil]
    rw [s3, seqR_nx, dB_cons]
    have ei : denI t__law_function (Ph (d + 3)) (.zip (.sl (.slot 7) (.so (.cst (.int 1))) (.so (.neg (.cst (.int 1))))) (.slot 8)) (fEnv ns (kindD deg kn jo) most deg line (some (.own (([] ++ [line]).map rowD))) (some (.val (.tup (kn.map D.int)))) (some (.val (.tup (jo.map jD)))) none none none none none) h1 = .ok (.zip (.fx ((inner kn).map D.int)) (.fx (jo.map jD))) h1 := by
      simp [cut_inner l2]
    unfold fB1 fB2 at u1
    rw [dS_for ei rfl (by rw [fx3, zipD_map]), u1, seqR_nx]
    simp only [fEnv, dB_cons, dS_ret, dE_b1, dE_slot, List.getElem?_cons_succ, List.getElem?_cons_zero, slotR_o, bind_ok, kU_eq, b1_tuple, tup_b, lift_some, exS_ok, kRet_eq, toD_v, kRet2_eq, seqR_ret, endF_ret, List.nil_append]
    rw [trim_len (by rw [u5.len, ht.len])]
  · rw [List.length_cons, u4]; simp; omega
end
/-! ### joints by the law -/
def agB (j : Nat) (x : Rat) (p q : List Rat) : Bool := (List.range' 0 (j + 1)).all fun o => decide (ev (ldvs o p) x = ev (ldvs o q) x)
def ljB (kn : List Int) (jo : List Nat) (f : List (List Rat)) : Bool := (List.range' 0 jo.length).all fun k => agB (jo.getD k 0) ((kn.getD (k + 1) 0 : Int) : Rat) (f.getD k []) (f.getD (k + 1) [])
theorem Chn_iff : ∀ (xs : List Int) (js : List Nat) (f : List (List Rat)), js.length = xs.length → f.length = xs.length + 1 → (Chn (xs.zip js) f ↔ ∀ i, i < xs.length → Ag (js.getD i 0) ((xs.getD i 0 : Int) : Rat) (f.getD i []) (f.getD (i + 1) []))
  | [], [], f, _, hl => by
    simp at hl
    simp [Chn, hl]
  | x :: xs, j :: js, p :: q :: f, hj, hl => by
    have ih := Chn_iff xs js (q :: f) (by simpa using hj) (by simpa using hl)
    rw [List.zip_cons_cons, Chn, ih]
    constructor
    · rintro ⟨a, b⟩ i hi
      cases i with
      | zero => exact a
      | succ i => exact b i (by simpa using hi)
    · intro a
      exact ⟨a 0 (by simp), fun i hi => a (i + 1) (by simpa using hi)⟩
  | x :: xs, j :: js, [], _, hl => by simp at hl
  | x :: xs, j :: js, [p], _, hl => by simp at hl
theorem inner_getD (kn : List Int) {i : Nat} (hi : i < kn.length - 2) : (inner kn).getD i 0 = kn.getD (i + 1) 0 := by
  unfold inner
  simp [List.getD_eq_getElem?_getD, List.getElem?_take, hi, List.getElem?_drop, Nat.add_comm]
theorem ljB_iff {deg : Nat} {kn : List Int} {jo : List Nat} {n : Nat} {f : List (List Rat)} (K : KOk deg kn jo) (R : ROk deg kn n f) : ljB kn jo f = true ↔ Chn ((inner kn).zip jo) f := by
  have jl := K.jl
  have rl := R.len
  rw [Chn_iff (inner kn) jo f (by simp; omega) (by simp; omega)]
  simp only [ljB, List.all_eq_true, List.mem_range'_1, inner_len]
  constructor
  · intro h i hi
    rw [inner_getD kn hi]
    have h2 := h i (by omega)
    simp only [agB, List.all_eq_true, List.mem_range'_1, decide_eq_true_eq] at h2
    have jd := K.jd _ (getD_mem (z := 0) (show i < jo.length by omega))
    have r1 := R.row _ (getD_mem (z := ([] : List Rat)) (show i < f.length by omega))
    have r2 := R.row _ (getD_mem (z := ([] : List Rat)) (show i + 1 < f.length by omega))
    intro o ho
    have := h2 o (by omega)
    rw [ldv_ev r1 K.d1 K.d3 (by omega), ldv_ev r2 K.d1 K.d3 (by omega)] at this
    exact this
  · intro h i hi
    have h2 := h i (by omega)
    rw [inner_getD kn (by omega)] at h2
    simp only [agB, List.all_eq_true, List.mem_range'_1, decide_eq_true_eq]
    have jd := K.jd _ (getD_mem (z := 0) (show i < jo.length by omega))
    have r1 := R.row _ (getD_mem (z := ([] : List Rat)) (show i < f.length by omega))
    have r2 := R.row _ (getD_mem (z := ([] : List Rat)) (show i + 1 < f.length by omega))
    intro o ho
    rw [ldv_ev r1 K.d1 K.d3 (by omega), ldv_ev r2 K.d1 K.d3 (by omega)]
    exact h2 o (by omega)
theorem ljB_eq {deg : Nat} {kn : List Int} {jo : List Nat} {n : Nat} {f : List (List Rat)} (K : KOk deg kn jo) (R : ROk deg kn n f) : ljB kn jo f = joinB kn jo f := by
  rw [Bool.eq_iff_iff, ljB_iff K R, joinB_iff K R]
def jB2 : XB := .cons (.par [4, 5] [false, false] (.cons (.call k__law_derived (.cons (.b1 .list (.ix (.slot 1) (.slot 2))) (.cons (.slot 3) (.nil)))) (.cons (.call k__law_derived (.cons (.b1 .list (.ix (.slot 1) (.bin .add (.slot 2) (.cst (.int 1))))) (.cons (.slot 3) (.nil)))) (.nil)))) (.cons (.ife (.cmp .ne (.call k__law_at (.cons (.slot 4) (.cons (.tup (.cons (.ix (.ix (.slot 0) (.cst (.int 1))) (.bin .add (.slot 2) (.cst (.int 1)))) (.cons (.cst (.int 1)) (.nil)))) (.nil)))) (.call k__law_at (.cons (.slot 5) (.cons (.tup (.cons (.ix (.ix (.slot 0) (.cst (.int 1))) (.bin .add (.slot 2) (.cst (.int 1)))) (.cons (.cst (.int 1)) (.nil)))) (.nil))))) (.cons (.ret (.cst (.bl false))) (.nil)) (.nil)) (.nil))
def jB1 : XB := .cons (.forr (.name 3) (.rng (.cons (.bin .add (.ix (.ix (.slot 0) (.cst (.int 2))) (.slot 2)) (.cst (.int 1))) (.nil))) jB2) (.nil)
theorem ldvs_len : ∀ (o : Nat) (p : List Rat), 1 ≤ p.length → (ldvs o p).length = p.length
  | 0, p, _ => rfl
  | o + 1, p, h => by
    have e : (ldv p).length = p.length := by simp [ldv]; omega
    rw [ldvs, ldvs_len o (ldv p) (by omega), e]
theorem ldvs_sz {n : Nat} (hn : 0 < n) : ∀ (o : Nat) (p : List Rat), 1 ≤ p.length → p.length ≤ 4 → SzL n p → SzL (n + 10 * o) (ldvs o p)
  | 0, p, _, _, h => h
  | o + 1, p, h1, h4, h => fun c hc => by
    have e : (ldv p).length = p.length := by simp [ldv]; omega
    have := ldvs_sz (n := n + 10) (by omega) o (ldv p) (by omega) (by omega) (h.ldv hn (by omega)) c hc
    exact this.mono (by omega)
section
variable {deg : Nat} {kn : List Int} {jo : List Nat} (K : KOk deg kn jo) {n : Nat} {f : List (List Rat)} (R : ROk deg kn n f) (hn : 0 < n) (hn2 : n ≤ 850) (h : AH)
include K R hn hn2
end
end Lw

/-! functions in plain terms -/
namespace Lw
open J
theorem cutD_take (l : List D) (n : Nat) : J.cutD l none (some (n : Int)) = l.take n := by
  unfold J.cutD HT.sIx
  dsimp only
  rw [if_neg (by omega)]
  simp
theorem cutD_drop (l : List D) (n : Nat) : J.cutD l (some (n : Int)) none = l.drop n := by
  unfold J.cutD HT.sIx
  dsimp only
  rw [if_neg (by omega)]
  simp
  by_cases h : n ≤ l.length
  · rw [Nat.min_eq_left h, List.take_of_length_le (by simp)]
  · rw [Nat.min_eq_right (by omega), List.drop_of_length_le (Nat.le_refl _)]
    simp [List.drop_of_length_le (show l.length ≤ n by omega)]
theorem take_set {α : Type} {l : List α} {k : Nat} (h : k < l.length) (x : α) : l.take k ++ [x] ++ l.drop (k + 1) = l.set k x := by
  rw [List.set_eq_take_append_cons_drop, if_pos h]
  simp
section
variable {deg : Nat} {kn : List Int} {jo : List Nat} {n : Nat} {f : List (List Rat)}
theorem ROk.set (R : ROk deg kn n f) {k : Nat} {q : List Rat} (hq : q.length = deg + 1) {m : Nat} (hm : n ≤ m) (hs : SzL m q) : ROk deg kn m (f.set k q) where
  len := by rw [List.length_set]; exact R.len
  row := fun p hp => by
    rcases List.mem_or_eq_of_mem_set hp with h | h
    · exact R.row p h
    · rw [h]; exact hq
  sz := fun p hp => by
    rcases List.mem_or_eq_of_mem_set hp with h | h
    · exact fun c hc => (R.sz p h c hc).mono hm
    · rw [h]; exact hs
theorem ROk.mono (R : ROk deg kn n f) {m : Nat} (hm : n ≤ m) : ROk deg kn m f := ⟨R.len, R.row, fun p hp c hc => (R.sz p hp c hc).mono hm⟩
theorem SzL.set {n m : Nat} {p : List Rat} (h : SzL n p) (hm : n ≤ m) {k : Nat} {x : Rat} (hx : Sz m x) : SzL m (p.set k x) := fun c hc => by
  rcases List.mem_or_eq_of_mem_set hc with h1 | h1
  · exact (h c h1).mono hm
  · rw [h1]; exact hx
theorem KOk.loose (K : KOk deg kn jo) : KOk deg kn (List.replicate jo.length 0) := ⟨K.d1, K.d3, K.l2, K.l6, K.rng, K.asc, by rw [List.length_replicate]; exact K.jl, fun j hj => by rw [List.eq_of_mem_replicate hj]; exact K.d1⟩
theorem Chn.loose (K : KOk deg kn jo) (R : ROk deg kn n f) (c : Chn ((inner kn).zip jo) f) : Chn ((inner kn).zip (List.replicate jo.length 0)) f := by
  have jl := K.jl
  have rl := R.len
  rw [Chn_iff _ _ _ (by simp; omega) (by simp; omega)] at c ⊢
  intro i hi o ho
  have e : (List.replicate jo.length 0).getD i 0 = 0 := by
    rw [List.getD_eq_getElem?_getD, List.getElem?_replicate]
    split <;> rfl
  rw [e] at ho
  exact c i hi o (by omega)
theorem getD_zip {f g : List (List Rat)} {φ : List Rat → List Rat → List Rat} (hl : f.length = g.length) {i : Nat} (hi : i < f.length) : ((f.zip g).map fun z => φ z.1 z.2).getD i [] = φ (f.getD i []) (g.getD i []) := by
  have e : ((f.zip g).map fun z => φ z.1 z.2)[i]? = some (φ (f[i]'hi) (g[i]'(by omega))) := by
    rw [List.getElem?_map, List.getElem?_eq_getElem (by simp; omega)]
    simp
  rw [List.getD_eq_getElem?_getD, e]
  simp [hi, show i < g.length by omega]
theorem getD_map {f : List (List Rat)} {φ : List Rat → List Rat} {i : Nat} (hi : i < f.length) : (f.map φ).getD i [] = φ (f.getD i []) := by
  simp [List.getD_eq_getElem?_getD, List.getElem?_map, hi]
theorem addP_len {p q : List Rat} (h : p.length = q.length) : (addP p q).length = p.length := by simp [addP, h]
theorem ROk.add {g : List (List Rat)} {m : Nat} (R : ROk deg kn n f) (G : ROk deg kn m g) : ROk deg kn (n + m + 1) (addF f g) := by
  have rl := R.len
  have gl := G.len
  refine ⟨by simp [addF]; omega, fun p hp => ?_, fun p hp c hc => ?_⟩
  · obtain ⟨z, hz, rfl⟩ := List.mem_map.mp hp
    have h1 := R.row _ (List.of_mem_zip hz).1
    have h2 := G.row _ (List.of_mem_zip hz).2
    rw [addP_len (by omega)]; exact h1
  · obtain ⟨z, hz, rfl⟩ := List.mem_map.mp hp
    obtain ⟨w, hw, rfl⟩ := List.mem_map.mp hc
    exact (R.sz _ (List.of_mem_zip hz).1 _ (List.of_mem_zip hw).1).add (G.sz _ (List.of_mem_zip hz).2 _ (List.of_mem_zip hw).2)
theorem ROk.mul {x : Rat} {m : Nat} (R : ROk deg kn n f) (hx : Sz m x) : ROk deg kn (n + m) (mulF x f) := by
  refine ⟨by simp [mulF]; exact R.len, fun p hp => ?_, fun p hp c hc => ?_⟩
  · obtain ⟨z, hz, rfl⟩ := List.mem_map.mp hp
    simp [mulP, R.row _ hz]
  · obtain ⟨z, hz, rfl⟩ := List.mem_map.mp hp
    obtain ⟨w, hw, rfl⟩ := List.mem_map.mp hc
    exact (R.sz _ hz _ hw).mul hx
theorem Chn.add (K : KOk deg kn jo) {g : List (List Rat)} {m : Nat} (R : ROk deg kn n f) (G : ROk deg kn m g) (c : Chn ((inner kn).zip jo) f) (c2 : Chn ((inner kn).zip jo) g) : Chn ((inner kn).zip jo) (addF f g) := by
  have jl := K.jl
  have rl := R.len
  have gl := G.len
  have al := (R.add G).len
  rw [Chn_iff _ _ _ (by simp; omega) (by simp; omega)] at c c2 ⊢
  intro i hi o ho
  simp at hi
  have jd := K.jd _ (getD_mem (z := 0) (show i < jo.length by omega))
  have r1 := R.row _ (getD_mem (z := ([] : List Rat)) (show i < f.length by omega))
  have r2 := R.row _ (getD_mem (z := ([] : List Rat)) (show i + 1 < f.length by omega))
  have g1 := G.row _ (getD_mem (z := ([] : List Rat)) (show i < g.length by omega))
  have g2 := G.row _ (getD_mem (z := ([] : List Rat)) (show i + 1 < g.length by omega))
  unfold addF
  rw [getD_zip (by omega) (by omega), getD_zip (by omega) (by omega), ev_add r1 g1 K.d1 K.d3 (by omega), ev_add r2 g2 K.d1 K.d3 (by omega), c i (by simp; omega) o ho, c2 i (by simp; omega) o ho]
theorem Chn.mul (K : KOk deg kn jo) {x : Rat} (R : ROk deg kn n f) (c : Chn ((inner kn).zip jo) f) : Chn ((inner kn).zip jo) (mulF x f) := by
  have jl := K.jl
  have rl := R.len
  rw [Chn_iff _ _ _ (by simp; omega) (by simp; omega)] at c
  rw [Chn_iff _ _ _ (by simp; omega) (by simp [mulF]; omega)]
  intro i hi o ho
  simp at hi
  have jd := K.jd _ (getD_mem (z := 0) (show i < jo.length by omega))
  have r1 := R.row _ (getD_mem (z := ([] : List Rat)) (show i < f.length by omega))
  have r2 := R.row _ (getD_mem (z := ([] : List Rat)) (show i + 1 < f.length by omega))
  unfold mulF
  rw [getD_map (by omega), getD_map (by omega), ev_mul r1 K.d1 K.d3 (by omega), ev_mul r2 K.d1 K.d3 (by omega), c i (by simp; omega) o ho]
theorem pc_spec (x : Rat) : ∀ ks : List Int, (∀ t, t < pc ks x → ((ks.getD t 0 : Int) : Rat) < x) ∧ (pc ks x < ks.length → x ≤ ((ks.getD (pc ks x) 0 : Int) : Rat))
  | [] => by simp [pc]
  | k :: ks => by
    obtain ⟨h1, h2⟩ := pc_spec x ks
    by_cases c : (k : Rat) < x
    · rw [pc, if_pos c]
      refine ⟨fun t ht => ?_, fun hl => ?_⟩
      · cases t with
        | zero => exact c
        | succ t => exact h1 t (by omega)
      · exact h2 (by simpa using hl)
    · rw [pc, if_neg c]
      exact ⟨fun t ht => by omega, fun _ => Rat.not_lt.mp c⟩
theorem val_piece (K : KOk deg kn jo) (R : ROk deg kn n f) (c : Chn ((inner kn).zip jo) f) {x : Rat} {i : Nat} (hi : i + 1 < kn.length) (h1 : ((kn.getD i 0 : Int) : Rat) ≤ x) (h2 : x ≤ ((kn.getD (i + 1) 0 : Int) : Rat)) :
    pc (kn.drop 1) x < f.length ∧ ev (f.getD (pc (kn.drop 1) x) []) x = ev (f.getD i []) x := by
  have jl := K.jl
  have rl := R.len
  obtain ⟨p1, p2⟩ := pc_spec x (kn.drop 1)
  have gd : ∀ t, (kn.drop 1).getD t 0 = kn.getD (t + 1) 0 := fun t => by
    simp [List.getD_eq_getElem?_getD, List.getElem?_drop, Nat.add_comm]
  have le : pc (kn.drop 1) x ≤ i := by
    rcases Nat.lt_or_ge i (pc (kn.drop 1) x) with q | q
    · have := p1 i q
      rw [gd] at this
      exact absurd h2 (Rat.not_le.mpr this)
    · exact q
  refine ⟨by omega, ?_⟩
  rcases Nat.lt_or_ge (pc (kn.drop 1) x) i with q | q
  · have h3 := p2 (by rw [List.length_drop]; omega)
    rw [gd] at h3
    have h4 : kn.getD i 0 ≤ kn.getD (pc (kn.drop 1) x + 1) 0 := Rat.intCast_le_intCast.mp (Rat.le_trans h1 h3)
    have e : pc (kn.drop 1) x + 1 = i := by
      rcases Nat.lt_or_ge (pc (kn.drop 1) x + 1) i with r | r
      · have := K_asc K r (by omega)
        omega
      · omega
    rw [e] at h3
    have ex : x = ((kn.getD i 0 : Int) : Rat) := Rat.le_antisymm h3 h1
    rw [Chn_iff _ _ _ (by simp; omega) (by simp; omega)] at c
    have z := c (pc (kn.drop 1) x) (by rw [inner_len]; omega) 0 (by omega)
    rw [inner_getD kn (by omega), e] at z
    rw [ex] at z ⊢
    rw [← ex] at z ⊢
    exact z
  · have e : pc (kn.drop 1) x = i := by omega
    rw [e]
theorem mulF_one : mulF 1 f = f := by
  have : ∀ p : List Rat, mulP 1 p = p := fun p => by
    unfold mulP
    conv => rhs; rw [← List.map_id p]
    apply List.map_congr_left
    intro a _
    simp [Rat.mul_one]
  unfold mulF
  conv => rhs; rw [← List.map_id f]
  apply List.map_congr_left
  intro p _
  exact this p
theorem mulF_zero {g : List (List Rat)} {m : Nat} (K : KOk deg kn jo) (R : ROk deg kn n f) (G : ROk deg kn m g) : addF f (mulF (-1) f) = mulF 0 g := by
  have hz : ∀ p : List Rat, addP p (mulP (-1) p) = List.replicate p.length 0 := fun p => by
    induction p with
    | nil => rfl
    | cons a p ih =>
      have e : addP (a :: p) (mulP (-1) (a :: p)) = (a + a * -1) :: addP p (mulP (-1) p) := rfl
      rw [e, ih, List.length_cons, List.replicate_succ]
      congr 1
      grind
  have hm : ∀ p : List Rat, mulP 0 p = List.replicate p.length 0 := fun p => by
    unfold mulP
    rw [List.eq_replicate_iff]
    refine ⟨by simp, fun b hb => ?_⟩
    obtain ⟨a, _, rfl⟩ := List.mem_map.mp hb
    grind
  have h1 : addF f (mulF (-1) f) = List.replicate f.length (List.replicate (deg + 1) 0) := by
    rw [List.eq_replicate_iff]
    refine ⟨by simp [addF, mulF], fun b hb => ?_⟩
    unfold addF mulF at hb
    obtain ⟨z, hz', rfl⟩ := List.mem_map.mp hb
    have : z.2 = mulP (-1) z.1 := by
      rw [List.zip_map_right] at hz'
      obtain ⟨w, hw, rfl⟩ := List.mem_map.mp hz'
      obtain ⟨a, b⟩ := w
      have e : a = b := by
        have := List.mem_iff_getElem.mp hw
        obtain ⟨i, hi, e⟩ := this
        simp at e
        rw [← e.1, ← e.2]
      simp [Prod.map, e]
    rw [this, hz, R.row _ (List.of_mem_zip hz').1]
  have h2 : mulF 0 g = List.replicate g.length (List.replicate (deg + 1) 0) := by
    rw [List.eq_replicate_iff]
    refine ⟨by simp [mulF], fun b hb => ?_⟩
    unfold mulF at hb
    obtain ⟨z, hz', rfl⟩ := List.mem_map.mp hb
    rw [hm, G.row _ hz']
  have := R.len
  have := G.len
  rw [h1, h2, show f.length = g.length by omega]
end
end Lw

/-! derivatives, joints, outcomes -/
namespace Lw
open PySem PySem.Spec PyProof.Rows L2 J
section
variable {α : Type} {env : Env'} {h : AH}
@[simp] theorem exS_exc (c : Nat) (k : α → AH → RS) : exS (.exc c h : Res α) env k = .exc c env h := (Eq.refl _).trans rfl
theorem tryR_nx (ok : Nat → Option Bool) (i j : Nat) : tryR (.nx env h) ok i j = .nx env h := rfl
theorem tryR_exc {ok : Nat → Option Bool} {c : Nat} (e : ok c = some true) (i j : Nat) : tryR (.exc c env h) ok i j = .nx ((env.set j (some (.val (.exc c)))).set i none) h := by
  show (match ok c with | some true => RS.nx ((env.set j (some (.val (.exc c)))).set i none) h | some false => .exc c env h | none => .err) = _
  rw [e]
end
theorem ne_bb (h : AH) (a b : Bool) : eqK true h (.v (.bl a)) (.v (.bl b)) = some (.v (.bl (!decide (a = b)))) := by
  cases a <;> cases b <;> simp [eqK, evD, plainD, eqvD, toPy, PyData.eqv]
theorem eqv_row (p q : List Rat) : eqvD (rowD p) (rowD q) = decide (p = q) := eqv_tup frD eqv_fr p q
theorem eq_fn (h : AH) (f g : List (List Rat)) : eqK false h (.v (fnD f)) (.v (fnD g)) = some (.v (.bl (decide (f = g)))) := by
  rw [eqK_t false h _ _ (pl_tup rowD 59 (fun p => pl_tup frD 58 (pl_fr 57) p) f) (pl_tup rowD 59 (fun p => pl_tup frD 58 (pl_fr 57) p) g), eqv_tup rowD eqv_row]
  rfl
theorem add_tt (h : AH) (xs ys : List D) (hl : xs.length + ys.length ≤ 1000) : addK h (.v (.tup xs)) (.v (.tup ys)) = some (.v (.tup (xs ++ ys))) := by
  have e := size_le hl
  simp only [addK, seqOf_t, e, if_true]
theorem zeros (h : AH) (n : Nat) (hn : n ≤ 100) : mulK h (.v (.tup [.int 0])) (.v (.int (n : Int))) = some (.v (.tup ((List.replicate n 0).map jD))) := by
  have e : mulK h (.v (.tup [.int 0])) (.v (.int (n : Int))) = if [D.int 0] ≠ [] ∧ -1000 ≤ (n : Int) ∧ (n : Int) ≤ 1000 ∧ [D.int 0].length ≤ 1000 then some (.v (.tup (List.replicate (n : Int).toNat [D.int 0]).flatten)) else none := by
    simp only [mulK, seqOf_t]
  rw [e, if_pos ⟨by simp, by omega, by omega, by simp⟩, Int.toNat_natCast]
  congr 2
  clear e hn
  induction n with
  | zero => rfl
  | succ n ih =>
    rw [List.replicate_succ, List.flatten_cons, List.replicate_succ, List.map_cons]
    injection ih with ih
    rw [ih]; rfl
theorem any_f {α : Type} (h : AH) (l : List α) (f : α → Bool) : anyK h (.f (l.map fun a => .bl (f a))) = some (.v (.bl (l.any f))) := by
  simp [anyK, blsOf_map, List.any_map]
section
variable {deg : Nat} {kn : List Int} {jo : List Nat} (K : KOk deg kn jo) {n : Nat} {f : List (List Rat)} (R : ROk deg kn n f) (hn : 0 < n) (hn2 : n ≤ 900) (h : AH)
include K R hn hn2
theorem r_found_joints {d : Nat} (hd : 7 ≤ d) : Rn d k_found_joints [kindD deg kn jo, fnD f] h = .ok (.lst ((agL kn f).map D.int)) h := by
  obtain ⟨d, rfl⟩ : ∃ e, d = e + 7 := ⟨d - 7, by omega⟩
  have l2 := K.l2
  have l6 := K.l6
  have rl := R.len
  have d1 := K.d1
  have d3 := K.d3
  have e : (agL kn f).map D.int = ((inner kn).zipIdx 0).map fun z => .int (agr (f.getD z.2 []) (f.getD (z.2 + 1) []) (z.1 : Rat)) := by simp [agL]
  rw [u_found_joints, x_found_joints, dB_cons, dS_ret]
  rw [dE_lcm (fun z : Int × Nat => D.wt [.int (z.2 : Nat), .int z.1]) (fun z => .int (agr (f.getD z.2 []) (f.getD (z.2 + 1) []) (z.1 : Rat))) ((inner kn).zipIdx 0) (h1 := h) (sr := .enum (.fx ((inner kn).map D.int))) (by simp [cut_inner l2]) (by rw [fx7, enumF_map]) (size_le (by simp; omega)) (fun z hz => by
    obtain ⟨x, i⟩ := z
    obtain ⟨-, hi, hx⟩ := List.mem_zipIdx hz
    simp at hi hx
    have hxm : x ∈ inner kn := by rw [hx]; exact List.getElem_mem _
    obtain ⟨j, hj⟩ : ∃ j : Nat, j = i + 1 := ⟨_, rfl⟩
    have e3 : ((i : Int) + 1) = (j : Int) := by omega
    have m1 := getD_mem (z := ([] : List Rat)) (show i < f.length by omega)
    have m2 := getD_mem (z := ([] : List Rat)) (show j < f.length by omega)
    have z := r_agreeing (d := d + 6) (by omega) h (.inl rfl : IsSq (rowD (f.getD i [])) _) (.inl rfl : IsSq (rowD (f.getD j [])) _) (R.sz _ m1) (R.sz _ m2) hn hn2 (by rw [R.row _ m1]; omega) (by rw [R.row _ m1]; omega) (by rw [R.row _ m1, R.row _ m2]) (K_mem K (inner_mem K hxm))
    show ∃ (env' : Env') (evx : EV), bindT _ _ _ = _ ∧ _ ∧ _ ∧ evx.toD = some (D.int (agr (f.getD i []) (f.getD (i + 1) []) (x : Rat)))
    rw [← hj]
    refine ⟨[some (.val (kindD deg kn jo)), some (.val (fnD f)), some (.val (.int (i : Int))), some (.val (.int x))], .v (.int (agr (f.getD i []) (f.getD j []) (x : Rat))), by simp [wipeE], rfl, ?_, rfl⟩
    simp only [dE_call, dL_cons, dE_ix, dE_slot, dE_bin, dE_cst, List.getElem?_cons_succ, List.getElem?_cons_zero, slotR_v, bind_ok, kB1_eq, kB2_eq, ix_t, at_nat, get_row (show i < f.length by omega), get_row (show j < f.length by omega), Option.map_some, lift_some, k_add, add_ii, e3, kL1_eq, toD_v, kL2_eq, dL_nil, kL3_eq, kCall_eq, Ph_call, z, kV_eq])]
  rw [← e]
  simp only [exS_ok, kRet_eq, toD_f, lift_some, kRet2_eq, seqR_ret, endF_ret, trim_self]
theorem r_joints_of {d : Nat} (hd : 10 ≤ d) (hj : joinB kn jo f = true) : Rn d k_joints_of [kindD deg kn jo, fnD f] h = .ok (.tup ((agL kn f).map D.int)) h := by
  obtain ⟨d, rfl⟩ : ∃ e, d = e + 10 := ⟨d - 10, by omega⟩
  have z1 := r_check_both K R hn hn2 h (d := d + 9) (by omega) hj
  have z2 := r_found_joints K R hn hn2 h (d := d + 9) (by omega)
  rw [u_joints_of, x_joints_of]
  simp only [dB_cons, dS_drop, dS_ret, dE_b1, dE_call, dL_cons, dE_slot, List.getElem?_cons_succ, List.getElem?_cons_zero, slotR_v, bind_ok, kL1_eq, toD_v, lift_some, kL2_eq, dL_nil, kL3_eq, kCall_eq, Ph_call, z1, kV_eq, exS_ok, kDrop_eq, seqR_nx, z2, kU_eq, b1_tuple, tup_l, kRet_eq, kRet2_eq, seqR_ret, endF_ret, trim_self]
end
end Lw

/-! thinned forms -/
namespace Lw
open PySem PySem.Spec PyProof.Rows L2 J
theorem lcL_flt {α : Type} {t : Tg} {ft : DB} {fe : DE} {env : Env'} {h : AH} (f g : α → D) (c : α → Bool) : ∀ (l : List α) (acc : List D), acc.length + l.length ≤ sizeLine →
    (∀ a ∈ l, ∃ env' ev, bindT t (f a) env = some env' ∧ ft env' h = .ok (c a) h ∧ fe env' h = .ok ev h ∧ ev.toD = some (g a)) → lcL t (turn1 ft fe) env (l.map f) h acc = .ok (acc ++ (l.filter c).map g) h
  | [], acc, _, _ => by simp [lcL]
  | a :: l, acc, hl, hs => by
    obtain ⟨env', ev, e1, e2, e3, e4⟩ := hs a List.mem_cons_self
    rw [List.length_cons] at hl
    cases hc : c a with
    | true =>
      have z := lcL_flt f g c l (acc ++ [g a]) (by rw [List.length_append]; simp; omega) fun b hb => hs b (List.mem_cons_of_mem _ hb)
      rw [hc] at e2
      simp only [List.map_cons, lcL, e1, turn1, e2, e3, e4, if_pos (show acc.length < sizeLine by omega), bind_ok, z, List.filter_cons, hc, if_true]
      simp
    | false =>
      have z := lcL_flt f g c l acc (by omega) fun b hb => hs b (List.mem_cons_of_mem _ hb)
      rw [hc] at e2
      simp only [List.map_cons, lcL, e1, turn1, e2, bind_ok, z, List.filter_cons, hc]
      simp
theorem dE_lcf {T : Tab} {Φ : Phi} {env : Env'} {h h1 : AH} {α : Type} {it : XI} {t : Tg} {ft : XT} {e : XE} {vs : List Nat} {sr : Sr} (f g : α → D) (c : α → Bool) (l : List α) (hi : denI T Φ it env h = .ok sr h1) (hf : sr.fx = some (l.map f)) (hl : l.length ≤ 1000)
    (hs : ∀ a ∈ l, ∃ env' ev, bindT t (f a) (wipeE env vs) = some env' ∧ denT T Φ ft env' h1 = .ok (c a) h1 ∧ denE T Φ e env' h1 = .ok ev h1 ∧ ev.toD = some (g a)) :
    denE T Φ (.lc it t ft e vs) env h = .ok (.f ((l.filter c).map g)) h1 := by
  rw [dE_lc hi hf, lcL_flt f g c l [] (by simpa using size_le hl) hs]
  simp
def keptL (deg : Nat) (L : List Int) : List Nat := ((L.zipIdx 0).filter fun z => decide (z.1 < (deg : Int))).map (·.2)
theorem kept_lt {deg : Nat} {L : List Int} {k : Nat} (h : k ∈ keptL deg L) : k < L.length := by
  unfold keptL at h
  obtain ⟨z, hz, rfl⟩ := List.mem_map.mp h
  have := (List.mem_filter.mp hz).1
  obtain ⟨x, i⟩ := z
  obtain ⟨-, hi, _⟩ := List.mem_zipIdx this
  simpa using hi
theorem kept_len (deg : Nat) (L : List Int) : (keptL deg L).length ≤ L.length := by
  unfold keptL
  rw [List.length_map]
  exact Nat.le_trans (List.length_filter_le _ _) (by simp)
def thK (deg : Nat) (kn : List Int) (f : List (List Rat)) : List Int := kn.take 1 ++ (keptL deg (agL kn f)).map (fun k => kn.getD (k + 1) 0) ++ kn.drop (kn.length - 1)
def thJ (deg : Nat) (kn : List Int) (f : List (List Rat)) : List Int := (keptL deg (agL kn f)).map fun k => (agL kn f).getD k 0
def thF (deg : Nat) (kn : List Int) (f : List (List Rat)) : List (List Rat) := f.getD 0 [] :: (keptL deg (agL kn f)).map fun k => f.getD (k + 1) []
def thinT (deg : Nat) (kn : List Int) (f : List (List Rat)) : D := .tup [.tup [.int (deg : Int), .tup ((thK deg kn f).map D.int), .tup ((thJ deg kn f).map D.int)], fnD (thF deg kn f)]
def lastZ (f : List (List Rat)) : Bool := f.all fun p => decide (p.getLastD 0 = 0)
def thinR : Nat → List Int → List (List Rat) → D
  | 0, kn, f => thinT 0 kn f
  | deg + 1, kn, f => if 1 ≤ deg ∧ lastZ f = true then thinR deg kn (f.map List.dropLast) else thinT (deg + 1) kn f
theorem agL_len (kn : List Int) (f : List (List Rat)) : (agL kn f).length = kn.length - 2 := by simp [agL]
theorem last_fr {p : List Rat} (h : p ≠ []) : atI (p.map frD) (-1) = some (frD (p.getLastD 0)) := by
  have e : p = p.dropLast ++ [p.getLast h] := (List.dropLast_concat_getLast h).symm
  have e2 : p.getLastD 0 = p.getLast h := by rw [List.getLastD_eq_getLast?, List.getLast?_eq_getLast h]; rfl
  have e3 : p.map frD = p.dropLast.map frD ++ [frD (p.getLast h)] := by
    conv => lhs; rw [e]
    simp
  rw [e3, at_last, e2]
theorem cut_dropLast (l : List D) : J.cutD l none (some (-1)) = l.dropLast := by
  unfold J.cutD HT.sIx
  dsimp only
  rw [if_pos (by decide)]
  simp [List.dropLast_eq_take]
  congr 1
  omega
theorem cut_last (l : List D) (h : 1 ≤ l.length) : J.cutD l (some (-1)) none = l.drop (l.length - 1) := by
  unfold J.cutD HT.sIx
  dsimp only
  rw [if_pos (by decide)]
  have e : (-1 + (l.length : Int)).toNat = l.length - 1 := by omega
  rw [e, List.take_of_length_le (by simp)]
section
variable {deg : Nat} {kn : List Int} {jo : List Nat} (K : KOk deg kn jo) {n : Nat} {f : List (List Rat)} (R : ROk deg kn n f) (hn : 0 < n) (hn2 : n ≤ 900) (h : AH)
include K R hn hn2
theorem th_all (d : Nat) (a b c e g i j k : Option Slot) (o : Option Slot) : denE t_found_thinned (Ph d) (.lc (.seq (.slot 1)) (.name 11) (.yes) (.cmp .eq (.ix (.slot 11) (.neg (.cst (.int 1)))) (.tup (.cons (.cst (.int 0)) (.cons (.cst (.int 1)) (.nil))))) [11]) [a, some (.val (fnD f)), b, c, e, g, i, j, k, none, none, o] h = .ok (.f (f.map fun p => .bl (decide (p.getLastD 0 = 0)))) h :=
  dE_lcm rowD _ f (sr := .one (.fx (f.map rowD))) (by simp) rfl (size_le (by have := K.l6; have := R.len; omega)) fun p hp => by
    have hne : p ≠ [] := by
      intro q
      have := R.row p hp
      rw [q] at this; simp at this
    have z := last_fr hne
    have e0 : D.tup [.int 0, .int 1] = frD 0 := rfl
    refine ⟨[a, some (.val (fnD f)), b, c, e, g, i, j, k, none, none, some (.val (rowD p))], .v (.bl (decide (p.getLastD 0 = 0))), by simp [wipeE], rfl, ?_, rfl⟩
    simp only [dE_cmp, dE_ix, dE_slot, List.getElem?_cons_succ, List.getElem?_cons_zero, slotR_v, bind_ok, kB1_eq, dE_neg, dE_cst, kU_eq, neg_i, lift_some, kB2_eq, ix_t, z, Option.map_some, dE_tup, dL_cons, kL1_eq, toD_v, kL2_eq, dL_nil, kL3_eq, kTup_eq, e0, k_eq, eq_fr]
theorem th_rows (d : Nat) (a b c e g i j k : Option Slot) (o : Option Slot) : denE t_found_thinned (Ph d) (.lc (.seq (.slot 1)) (.name 11) (.yes) (.sl (.slot 11) .no (.so (.neg (.cst (.int 1))))) [11]) [a, some (.val (fnD f)), b, c, e, g, i, j, k, none, none, o] h = .ok (.f ((f.map List.dropLast).map rowD)) h := by
  rw [dE_lcm rowD (fun p => rowD p.dropLast) f (h1 := h) (sr := .one (.fx (f.map rowD))) (by simp) rfl (size_le (by have := K.l6; have := R.len; omega)) (fun p hp => by
    have z := cut_dropLast (p.map frD)
    rw [← List.map_dropLast] at z
    refine ⟨[a, some (.val (fnD f)), b, c, e, g, i, j, k, none, none, some (.val (rowD p))], .v (rowD p.dropLast), by simp [wipeE], rfl, ?_, rfl⟩
    simp only [dE_sl, dE_slot, List.getElem?_cons_succ, List.getElem?_cons_zero, slotR_v, bind_ok, kS1_eq, dO_no, kS2_eq, dO_so, dE_neg, dE_cst, kU_eq, neg_i, lift_some, kPart_eq, partK_i, kS3_eq, cut_t, z])]
  rw [List.map_map]; rfl
theorem th_zero (d : Nat) (a b c e g i j o : Option Slot) : denE t_found_thinned (Ph d) (.lc (.seq (.slot 8)) (.name 10) (.yes) (.cst (.int 0)) [10]) [a, o, b, c, e, g, i, j, some (.val (.tup (jo.map jD))), none, none, none] h = .ok (.f ((List.replicate jo.length 0).map jD)) h := by
  rw [dE_lcm jD (fun _ => jD 0) jo (h1 := h) (sr := .one (.fx (jo.map jD))) (by simp) rfl (size_le (by have := K.l6; have := K.jl; omega)) (fun x _ => ⟨[a, o, b, c, e, g, i, j, some (.val (.tup (jo.map jD))), none, some (.val (.int (x : Int))), none], .v (jD 0), by simp [wipeE], rfl, rfl, rfl⟩)]
  rw [List.map_const', List.map_replicate]
theorem th_base (d : Nat) (hd : 7 ≤ d) : denB t_found_thinned (Ph d) (.cons (.set 2 false (.call k_found_joints (.cons (.slot 0) (.cons (.slot 1) (.nil))))) (.cons (.set 3 false (.lc (.enum (.slot 2)) (.tup [.name 9, .name 10]) (.cmp .lt (.slot 10) (.slot 6)) (.slot 9) [9, 10])) (.cons (.set 4 false (.b1 .tuple (.lc (.seq (.slot 3)) (.name 9) (.yes) (.ix (.slot 7) (.bin .add (.slot 9) (.cst (.int 1)))) [9]))) (.cons (.set 5 false (.bin .add (.tup (.cons (.ix (.slot 1) (.cst (.int 0))) (.nil))) (.b1 .tuple (.lc (.seq (.slot 3)) (.name 9) (.yes) (.ix (.slot 1) (.bin .add (.slot 9) (.cst (.int 1)))) [9])))) (.cons (.ret (.tup (.cons (.tup (.cons (.slot 6) (.cons (.bin .add (.bin .add (.sl (.slot 7) .no (.so (.cst (.int 1)))) (.slot 4)) (.sl (.slot 7) (.so (.neg (.cst (.int 1)))) .no)) (.cons (.b1 .tuple (.lc (.seq (.slot 3)) (.name 9) (.yes) (.ix (.slot 2) (.slot 9)) [9])) (.nil))))) (.cons (.slot 5) (.nil))))) (.nil)))))) [some (.val (kindD deg kn jo)), some (.val (fnD f)), none, none, none, none, some (.val (.int (deg : Int))), some (.val (.tup (kn.map D.int))), some (.val (.tup (jo.map jD))), none, none, none] h = .ret (thinT deg kn f) h := by
  have l2 := K.l2
  have l6 := K.l6
  have rl := R.len
  have al := agL_len kn f
  have z1 := r_found_joints K R hn hn2 h (d := d) hd
  obtain ⟨L, hL⟩ : ∃ L, L = agL kn f := ⟨_, rfl⟩
  obtain ⟨kp, hkp⟩ : ∃ kp, kp = keptL deg L := ⟨_, rfl⟩
  have kpl : kp.length ≤ 4 := by rw [hkp]; have := kept_len deg L; rw [hL, al] at this; rw [hL]; omega
  have kplt : ∀ k ∈ kp, k + 2 < kn.length := fun k hk => by rw [hkp] at hk; have := kept_lt hk; rw [hL, al] at this; omega
  rw [← hL] at z1 al
  obtain ⟨E0, hE0⟩ : ∃ E0 : Option Slot, E0 = some (.val (kindD deg kn jo)) := ⟨_, rfl⟩
  have s2 : denE t_found_thinned (Ph d) (.lc (.enum (.slot 2)) (.tup [.name 9, .name 10]) (.cmp .lt (.slot 10) (.slot 6)) (.slot 9) [9, 10]) [some (.val (kindD deg kn jo)), some (.val (fnD f)), some (.val (.lst (L.map D.int))), none, none, none, some (.val (.int (deg : Int))), some (.val (.tup (kn.map D.int))), some (.val (.tup (jo.map jD))), none, none, none] h = .ok (.f (kp.map jD)) h := by
    rw [dE_lcf (fun z : Int × Nat => D.wt [.int (z.2 : Nat), .int z.1]) (fun z => jD z.2) (fun z => decide (z.1 < (deg : Int))) (L.zipIdx 0) (h1 := h) (sr := .enum (.fx (L.map D.int))) (by simp only [dI_enum, dE_slot, List.getElem?_cons_succ, List.getElem?_cons_zero, slotR_v, bind_ok, kEn_eq, srcOf_l, Option.bind_some, okI4, lift_some]) (by rw [fx7, enumF_map]) (by simp; omega) (fun z _ => ⟨[some (.val (kindD deg kn jo)), some (.val (fnD f)), some (.val (.lst (L.map D.int))), none, none, none, some (.val (.int (deg : Int))), some (.val (.tup (kn.map D.int))), some (.val (.tup (jo.map jD))), some (.val (.int (z.2 : Int))), some (.val (.int z.1)), none], .v (jD z.2), by simp [wipeE], by simp only [dT_cmp, dE_cmp, dE_slot, List.getElem?_cons_succ, List.getElem?_cons_zero, slotR_v, bind_ok, kB1_eq, kB2_eq, lt_ii, lift_some, kBl_eq, blK_b], by simp only [dE_slot, List.getElem?_cons_succ, List.getElem?_cons_zero, slotR_v], rfl⟩)]
    rw [hkp, keptL, List.map_map]; rfl
  have s3 : ∀ o4 o5 : Option Slot, denE t_found_thinned (Ph d) (.lc (.seq (.slot 3)) (.name 9) (.yes) (.ix (.slot 7) (.bin .add (.slot 9) (.cst (.int 1)))) [9]) [some (.val (kindD deg kn jo)), some (.val (fnD f)), some (.val (.lst (L.map D.int))), some (.val (.lst (kp.map jD))), o4, o5, some (.val (.int (deg : Int))), some (.val (.tup (kn.map D.int))), some (.val (.tup (jo.map jD))), none, none, none] h = .ok (.f ((kp.map fun k => kn.getD (k + 1) 0).map D.int)) h := fun o4 o5 => by
    rw [dE_lcm jD (fun k => D.int (kn.getD (k + 1) 0)) kp (h1 := h) (sr := .one (.fx (kp.map jD))) (by simp only [dI_seq, dE_slot, List.getElem?_cons_succ, List.getElem?_cons_zero, slotR_v, bind_ok, kSq_eq, srK_l, Option.bind_some, okI1, lift_some]) rfl (size_le (by omega)) (fun k hk => by
      have hk2 := kplt k hk
      have e3 : ((k : Int) + 1) = ((k + 1 : Nat) : Int) := by omega
      exact ⟨[some (.val (kindD deg kn jo)), some (.val (fnD f)), some (.val (.lst (L.map D.int))), some (.val (.lst (kp.map jD))), o4, o5, some (.val (.int (deg : Int))), some (.val (.tup (kn.map D.int))), some (.val (.tup (jo.map jD))), some (.val (.int (k : Int))), none, none], .v (.int (kn.getD (k + 1) 0)), by simp [wipeE], rfl, by simp only [dE_ix, dE_bin, dE_cst, dE_slot, List.getElem?_cons_succ, List.getElem?_cons_zero, slotR_v, bind_ok, kB1_eq, kB2_eq, k_add, add_ii, e3, lift_some, ix_t, at_nat, get_int (show k + 1 < kn.length by omega), Option.map_some], rfl⟩)]
    rw [List.map_map]; rfl
  have s4 : ∀ o4 o5 : Option Slot, denE t_found_thinned (Ph d) (.lc (.seq (.slot 3)) (.name 9) (.yes) (.ix (.slot 1) (.bin .add (.slot 9) (.cst (.int 1)))) [9]) [some (.val (kindD deg kn jo)), some (.val (fnD f)), some (.val (.lst (L.map D.int))), some (.val (.lst (kp.map jD))), o4, o5, some (.val (.int (deg : Int))), some (.val (.tup (kn.map D.int))), some (.val (.tup (jo.map jD))), none, none, none] h = .ok (.f ((kp.map fun k => f.getD (k + 1) []).map rowD)) h := fun o4 o5 => by
    rw [dE_lcm jD (fun k => rowD (f.getD (k + 1) [])) kp (h1 := h) (sr := .one (.fx (kp.map jD))) (by simp only [dI_seq, dE_slot, List.getElem?_cons_succ, List.getElem?_cons_zero, slotR_v, bind_ok, kSq_eq, srK_l, Option.bind_some, okI1, lift_some]) rfl (size_le (by omega)) (fun k hk => by
      have hk2 := kplt k hk
      have e3 : ((k : Int) + 1) = ((k + 1 : Nat) : Int) := by omega
      exact ⟨[some (.val (kindD deg kn jo)), some (.val (fnD f)), some (.val (.lst (L.map D.int))), some (.val (.lst (kp.map jD))), o4, o5, some (.val (.int (deg : Int))), some (.val (.tup (kn.map D.int))), some (.val (.tup (jo.map jD))), some (.val (.int (k : Int))), none, none], .v (rowD (f.getD (k + 1) [])), by simp [wipeE], rfl, by simp only [dE_ix, dE_bin, dE_cst, dE_slot, List.getElem?_cons_succ, List.getElem?_cons_zero, slotR_v, bind_ok, kB1_eq, kB2_eq, k_add, add_ii, e3, lift_some, ix_t, at_nat, get_row (show k + 1 < f.length by omega), Option.map_some], rfl⟩)]
    rw [List.map_map]; rfl
  have s5 : ∀ o4 o5 : Option Slot, denE t_found_thinned (Ph d) (.lc (.seq (.slot 3)) (.name 9) (.yes) (.ix (.slot 2) (.slot 9)) [9]) [some (.val (kindD deg kn jo)), some (.val (fnD f)), some (.val (.lst (L.map D.int))), some (.val (.lst (kp.map jD))), o4, o5, some (.val (.int (deg : Int))), some (.val (.tup (kn.map D.int))), some (.val (.tup (jo.map jD))), none, none, none] h = .ok (.f ((kp.map fun k => L.getD k 0).map D.int)) h := fun o4 o5 => by
    rw [dE_lcm jD (fun k => D.int (L.getD k 0)) kp (h1 := h) (sr := .one (.fx (kp.map jD))) (by simp only [dI_seq, dE_slot, List.getElem?_cons_succ, List.getElem?_cons_zero, slotR_v, bind_ok, kSq_eq, srK_l, Option.bind_some, okI1, lift_some]) rfl (size_le (by omega)) (fun k hk => by
      have hk2 := kplt k hk
      exact ⟨[some (.val (kindD deg kn jo)), some (.val (fnD f)), some (.val (.lst (L.map D.int))), some (.val (.lst (kp.map jD))), o4, o5, some (.val (.int (deg : Int))), some (.val (.tup (kn.map D.int))), some (.val (.tup (jo.map jD))), some (.val (.int (k : Int))), none, none], .v (.int (L.getD k 0)), by simp [wipeE], rfl, by simp only [dE_ix, dE_slot, List.getElem?_cons_succ, List.getElem?_cons_zero, slotR_v, bind_ok, kB1_eq, kB2_eq, lift_some, ix_l, at_nat, get_int (show k < L.length by omega), Option.map_some], rfl⟩)]
    rw [List.map_map]; rfl
  have g0 : atI (f.map rowD) 0 = some (rowD (f.getD 0 [])) := by
    have := at_nat (f.map rowD) 0
    rw [get_row (by omega)] at this
    exact this
  have a1 := add_tt h [rowD (f.getD 0 [])] ((kp.map fun k => f.getD (k + 1) []).map rowD) (by simp; omega)
  have c1 : J.cutD (kn.map D.int) none (some 1) = (kn.map D.int).take 1 := cutD_take (kn.map D.int) 1
  have c2 := cut_last (kn.map D.int) (by simp; omega)
  have a2 := add_tt h ((kn.map D.int).take 1) ((kp.map fun k => kn.getD (k + 1) 0).map D.int) (by simp; omega)
  have a3 := add_tt h ((kn.map D.int).take 1 ++ (kp.map fun k => kn.getD (k + 1) 0).map D.int) ((kn.map D.int).drop ((kn.map D.int).length - 1)) (by simp; omega)
  have ek : (kn.map D.int).take 1 ++ (kp.map fun k => kn.getD (k + 1) 0).map D.int ++ (kn.map D.int).drop ((kn.map D.int).length - 1) = (thK deg kn f).map D.int := by
    rw [thK, ← hL, ← hkp]
    simp only [List.map_append, List.map_take, List.map_drop, List.length_map]
  have ej : (kp.map fun k => L.getD k 0) = thJ deg kn f := by rw [thJ, ← hL, ← hkp]
  have ef : [rowD (f.getD 0 [])] ++ (kp.map fun k => f.getD (k + 1) []).map rowD = (thF deg kn f).map rowD := by rw [thF, ← hL, ← hkp]; simp
  rw [ek] at a3
  rw [ef] at a1
  rw [thinT, ← ej]
  simp only [dB_cons, dS_set, dS_ret, dE_call, dE_b1, dE_bin, dE_tup, dE_ix, dE_sl, dE_neg, dE_cst, dL_cons, dE_slot, List.getElem?_cons_succ, List.getElem?_cons_zero, slotR_v, bind_ok, kL1_eq, toD_v, toD_f, lift_some, kL2_eq, dL_nil, kL3_eq, kTup_eq, kCall_eq, Ph_call, z1, kV_eq, exS_ok, kSet_eq, slotOf_v, slotOf_ff, kSet2_eq, List.set_cons_succ, List.set_cons_zero, seqR_nx, s2, s3, s4, s5, kU_eq, b1_tuple, tup_f, kB1_eq, kB2_eq, ix_t, g0, Option.map_some, k_add, a1, a2, a3, kS1_eq, kS2_eq, kS3_eq, dO_no, dO_so, kPart_eq, partK_i, neg_i, cut_t, c1, c2, kRet_eq, kRet2_eq, seqR_ret]
end
end Lw

/-! thinned forms, derivatives in plain terms -/
namespace Lw
open PySem PySem.Spec PyProof.Rows L2 J
theorem ROk.drop {deg : Nat} {kn : List Int} {n : Nat} {f : List (List Rat)} (R : ROk (deg + 1) kn n f) : ROk deg kn n (f.map List.dropLast) := by
  refine ⟨by rw [List.length_map]; exact R.len, fun p hp => ?_, fun p hp c hc => ?_⟩
  · obtain ⟨q, hq, rfl⟩ := List.mem_map.mp hp
    rw [List.length_dropLast, R.row q hq]; rfl
  · obtain ⟨q, hq, rfl⟩ := List.mem_map.mp hp
    exact R.sz q hq c ((List.dropLast_sublist q).mem hc)
theorem KOk.zero {deg : Nat} {kn : List Int} {jo : List Nat} (K : KOk (deg + 1) kn jo) (h : 1 ≤ deg) : KOk deg kn (List.replicate jo.length 0) := ⟨h, by have := K.d3; omega, K.l2, K.l6, K.rng, K.asc, by rw [List.length_replicate]; exact K.jl, fun j hj => by rw [List.eq_of_mem_replicate hj]; exact h⟩
theorem all_row (h : AH) (f : List (List Rat)) : allK h (.f (f.map fun p => .bl (decide (p.getLastD 0 = 0)))) = some (.v (.bl (lastZ f))) := all_f h f _
theorem r_found_thinned (h : AH) : ∀ (deg : Nat) {kn : List Int} {jo : List Nat} {n : Nat} {f : List (List Rat)} (K : KOk deg kn jo) (R : ROk deg kn n f) (hn : 0 < n) (hn2 : n ≤ 900) {d : Nat} (hd : 8 + deg ≤ d), Rn d k_found_thinned [kindD deg kn jo, fnD f] h = .ok (thinR deg kn f) h := by
  intro deg
  induction deg with
  | zero => intro kn jo n f K; have := K.d1; omega
  | succ deg ih =>
    intro kn jo n f K R hn hn2 d hd
    obtain ⟨d, rfl⟩ : ∃ e, d = e + 1 := ⟨d - 1, by omega⟩
    rw [u_found_thinned, x_found_thinned, dB_cons]
    have s1 : denS t_found_thinned (Ph d) (.asg (.tup [.name 6, .name 7, .name 8]) (.slot 0)) [some (.val (kindD (deg + 1) kn jo)), some (.val (fnD f)), none, none, none, none, none, none, none, none, none, none] h = .nx [some (.val (kindD (deg + 1) kn jo)), some (.val (fnD f)), none, none, none, none, some (.val (.int ((deg + 1 : Nat) : Int))), some (.val (.tup (kn.map D.int))), some (.val (.tup (jo.map jD))), none, none, none] h := by
      simp only [dS_asg, dE_slot, List.getElem?_cons_zero, slotR_v, exS_ok, kAsg_eq, toD_v, lift_some, kAsg2_eq, bindT_t, bindTs_1, bindT_n, Option.bind_some, bindTs_0, nxO_some, List.set_cons_succ, List.set_cons_zero]
    rw [s1, seqR_nx, dB_cons]
    have tz := th_all K R hn hn2 h d (some (.val (kindD (deg + 1) kn jo))) none none none none (some (.val (.int ((deg + 1 : Nat) : Int)))) (some (.val (.tup (kn.map D.int)))) (some (.val (.tup (jo.map jD)))) none
    have tr := th_rows K R hn hn2 h d (some (.val (kindD (deg + 1) kn jo))) none none none none (some (.val (.int ((deg + 1 : Nat) : Int)))) (some (.val (.tup (kn.map D.int)))) (some (.val (.tup (jo.map jD)))) none
    have tb := th_base K R hn hn2 h d (by omega)
    have tst : denT t_found_thinned (Ph d) (.and (.cmp .gt (.slot 6) (.cst (.int 1))) (.tr (.b1 .all (.lc (.seq (.slot 1)) (.name 11) (.yes) (.cmp .eq (.ix (.slot 11) (.neg (.cst (.int 1)))) (.tup (.cons (.cst (.int 0)) (.cons (.cst (.int 1)) (.nil))))) [11])))) [some (.val (kindD (deg + 1) kn jo)), some (.val (fnD f)), none, none, none, none, some (.val (.int ((deg + 1 : Nat) : Int))), some (.val (.tup (kn.map D.int))), some (.val (.tup (jo.map jD))), none, none, none] h = .ok (decide (1 ≤ deg ∧ lastZ f = true)) h := by
      by_cases c : (1 : Int) < ((deg + 1 : Nat) : Int)
      · have e : decide (1 ≤ deg ∧ lastZ f = true) = lastZ f := by
          have : 1 ≤ deg := by omega
          cases lastZ f <;> simp [this]
        rw [e]
        simp only [dT_and, dT_cmp, dE_cmp, dE_slot, List.getElem?_cons_succ, List.getElem?_cons_zero, slotR_v, bind_ok, kB1_eq, dE_cst, kB2_eq, gt_ii, decide_eq_true c, lift_some, kBl_eq, blK_b, kAndT_t, dT_tr, dE_b1, tz, kU_eq, b1_all, all_row, kTr_eq, truth_b]
      · have e : decide (1 ≤ deg ∧ lastZ f = true) = false := decide_eq_false (by intro q; have := q.1; omega)
        rw [e]
        simp only [dT_and, dT_cmp, dE_cmp, dE_slot, List.getElem?_cons_succ, List.getElem?_cons_zero, slotR_v, bind_ok, kB1_eq, dE_cst, kB2_eq, gt_ii, decide_eq_false c, lift_some, kBl_eq, blK_b, kAndT_f]
    rw [dS_ife, tst, exS_ok, thinR]
    by_cases c : 1 ≤ deg ∧ lastZ f = true
    · have K0 := K.zero c.1
      have z0 := th_zero K R hn hn2 h d (some (.val (kindD (deg + 1) kn jo))) none none none (some (.val (.tup ((f.map List.dropLast).map rowD)))) (some (.val (.int ((deg + 1 : Nat) : Int)))) (some (.val (.tup (kn.map D.int)))) (some (.val (fnD f)))
      have rc := ih K0 R.drop hn hn2 (d := d) (by omega)
      have ed : (((deg + 1 : Nat) : Int) - 1) = (deg : Int) := by omega
      rw [if_pos c, decide_eq_true c]
      simp only [kIfS_t, dB_cons, dS_set, dE_b1, tr, bind_ok, kU_eq, b1_tuple, tup_f, lift_some, exS_ok, kSet_eq, slotOf_v, kSet2_eq, List.set_cons_succ, List.set_cons_zero, seqR_nx, dS_ret, dE_call, dL_cons, dE_tup, dE_bin, dE_slot, List.getElem?_cons_succ, List.getElem?_cons_zero, slotR_v, kB1_eq, dE_cst, kB2_eq, k_sub, sub_ii, ed, kL1_eq, toD_v, kL2_eq, z0, dL_nil, kL3_eq, kTup_eq, kCall_eq, Ph_call, rc, kV_eq, kRet_eq, kRet2_eq, seqR_ret, endF_ret, trim_self]
    · rw [if_neg c, decide_eq_false c, kIfS_f, dB_nil, seqR_nx, tb, endF_ret, trim_self]
theorem r_thinned {deg : Nat} {kn : List Int} {jo : List Nat} (K : KOk deg kn jo) {n : Nat} {f : List (List Rat)} (R : ROk deg kn n f) (hn : 0 < n) (hn2 : n ≤ 900) (h : AH) {d : Nat} (hd : 13 ≤ d) (hj : joinB kn jo f = true) : Rn d k_thinned [kindD deg kn jo, fnD f] h = .ok (thinR deg kn f) h := by
  obtain ⟨d, rfl⟩ : ∃ e, d = e + 1 := ⟨d - 1, by omega⟩
  have d3 := K.d3
  have z1 := r_check_both K R hn hn2 h (d := d) (by omega) hj
  have z2 := r_found_thinned h deg K R hn hn2 (d := d) (by omega)
  rw [u_thinned, x_thinned]
  simp only [dB_cons, dS_drop, dS_ret, dE_call, dL_cons, dE_slot, List.getElem?_cons_succ, List.getElem?_cons_zero, slotR_v, bind_ok, kL1_eq, toD_v, lift_some, kL2_eq, dL_nil, kL3_eq, kCall_eq, Ph_call, z1, kV_eq, exS_ok, kDrop_eq, seqR_nx, z2, kRet_eq, kRet2_eq, seqR_ret, endF_ret, trim_self]
/-! ### derivatives -/
theorem KOk.lower {deg : Nat} {kn : List Int} {jo : List Nat} (K : KOk deg kn jo) (h : 2 ≤ deg) (hj : ∀ j ∈ jo, 1 ≤ j) : KOk (deg - 1) kn (jo.map fun j => j - 1) := ⟨by omega, by have := K.d3; omega, K.l2, K.l6, K.rng, K.asc, by rw [List.length_map]; exact K.jl, fun j hj' => by
  obtain ⟨i, hi, rfl⟩ := List.mem_map.mp hj'
  have := K.jd i hi
  have := hj i hi
  show i - 1 < deg - 1
  omega⟩
theorem ROk.dv {deg : Nat} {kn : List Int} {n : Nat} {f : List (List Rat)} (R : ROk deg kn n f) (h : 2 ≤ deg) (hd3 : deg ≤ 3) (hn : 0 < n) : ROk (deg - 1) kn (n + 10) (f.map Lw.dv) := by
  refine ⟨by rw [List.length_map]; exact R.len, fun p hp => ?_, fun p hp => ?_⟩
  · obtain ⟨q, hq, rfl⟩ := List.mem_map.mp hp
    rw [dv_len, R.row q hq]; omega
  · obtain ⟨q, hq, rfl⟩ := List.mem_map.mp hp
    exact SzL.dv (R.sz q hq) hn (by rw [R.row q hq]; omega)
theorem Chn.dv {deg : Nat} {kn : List Int} {jo : List Nat} (K : KOk deg kn jo) {n : Nat} {f : List (List Rat)} (R : ROk deg kn n f) (hj : ∀ j ∈ jo, 1 ≤ j) (c : Chn ((inner kn).zip jo) f) : Chn ((inner kn).zip (jo.map fun j => j - 1)) (f.map Lw.dv) := by
  have jl := K.jl
  have rl := R.len
  rw [Chn_iff _ _ _ (by simp; omega) (by simp; omega)] at c
  rw [Chn_iff _ _ _ (by simp; omega) (by simp; omega)]
  intro i hi o ho
  simp at hi
  have h1 := hj _ (getD_mem (z := 0) (show i < jo.length by omega))
  have e : (jo.map fun j => j - 1).getD i 0 = jo.getD i 0 - 1 := by
    simp [List.getD_eq_getElem?_getD, List.getElem?_map, show i < jo.length by omega]
  rw [e] at ho
  rw [getD_map (by omega), getD_map (by omega)]
  exact c i (by simp; omega) (o + 1) (by omega)
theorem agrN_succ (x : Rat) : ∀ (L : List (List Rat × List Rat)) (f : Int), agrN x L (f + 1) = agrN x L f + 1
  | [], f => rfl
  | z :: L, f => by
    rw [agrN, agrN]
    split
    · exact agrN_succ x L (f + 1)
    · rfl
theorem agr_dv {p q : List Rat} {x : Rat} (h : 2 ≤ p.length) (e : ev p x = ev q x) : agr p q x = agr (dv p) (dv q) x + 1 := by
  unfold agr
  obtain ⟨m, hm⟩ : ∃ m, p.length - 1 = m + 1 := ⟨p.length - 2, by omega⟩
  have hm2 : (dv p).length - 1 = m := by rw [dv_len]; omega
  rw [hm, hm2, dvs, dvs, List.zip_cons_cons, agrN, if_pos e]
  exact agrN_succ x _ (-1)
theorem dv_addP {p q : List Rat} {deg : Nat} (h : p.length = deg + 1) (hq : q.length = deg + 1) (h1 : 1 ≤ deg) (h3 : deg ≤ 3) : dv (addP p q) = addP (dv p) (dv q) := by
  rcases row_cases h h1 h3 with ⟨rfl, a, b, rfl⟩ | ⟨rfl, a, b, e, rfl⟩ | ⟨rfl, a, b, e, f, rfl⟩ <;> rcases row_cases hq h1 h3 with ⟨hd, a', b', rfl⟩ | ⟨hd, a', b', e', rfl⟩ | ⟨hd, a', b', e', f', rfl⟩ <;> first | omega | skip
  · simp [addP, dv2]
  · simp [addP, dv3]; grind
  · simp [addP, dv4]; grind
theorem dv_addF {deg : Nat} {kn : List Int} {n m : Nat} {f g : List (List Rat)} (R : ROk deg kn n f) (G : ROk deg kn m g) (h1 : 1 ≤ deg) (h3 : deg ≤ 3) : (addF f g).map dv = addF (f.map dv) (g.map dv) := by
  unfold addF
  rw [List.map_map, List.zip_map, List.map_map]
  apply List.map_congr_left
  intro z hz
  exact dv_addP (R.row _ (List.of_mem_zip hz).1) (G.row _ (List.of_mem_zip hz).2) h1 h3
end Lw

/-! thinned forms in plain terms -/
namespace Lw
open PySem PySem.Spec PyProof.Rows L2 J
/-! ### data of ints and tuples alone: equality is that of Lean -/
mutual
def iD : D → Bool
  | .int _ => true
  | .tup ds => iDs ds
  | _ => false
def iDs : List D → Bool
  | [] => true
  | d :: ds => iD d && iDs ds
end
mutual
theorem eqv_iD : ∀ (a b : D), iD a = true → iD b = true → (PyData.eqv (toPy a) (toPy b) = true ↔ a = b)
  | .int a, .int b, _, _ => by
    have z := eqv_int a b
    unfold eqvD at z
    rw [z]; simp
  | .int a, .tup b, _, _ => by simp [toPy, PyData.eqv]
  | .tup a, .int b, _, _ => by simp [toPy, PyData.eqv]
  | .tup a, .tup b, h1, h2 => by
    rw [iD] at h1 h2
    rw [toPy, toPy, PyData.eqv, eqv_iDs a b h1 h2]; simp
theorem eqv_iDs : ∀ (a b : List D), iDs a = true → iDs b = true → (PyData.eqvAll (toPys a) (toPys b) = true ↔ a = b)
  | [], [], _, _ => by simp [toPys, PyData.eqvAll]
  | [], b :: m, _, _ => by simp [toPys, PyData.eqvAll]
  | a :: l, [], _, _ => by simp [toPys, PyData.eqvAll]
  | a :: l, b :: m, h1, h2 => by
    rw [iDs, Bool.and_eq_true] at h1 h2
    rw [toPys, toPys, PyData.eqvAll, Bool.and_eq_true, eqv_iD a b h1.1 h2.1, eqv_iDs l m h1.2 h2.2]
    simp
end
theorem iDs_map {α : Type} (f : α → D) (hf : ∀ a, iD (f a) = true) : ∀ l : List α, iDs (l.map f) = true
  | [] => by simp [iDs]
  | a :: l => by rw [List.map_cons, iDs, hf a, iDs_map f hf l]; rfl
theorem iD_tup {α : Type} (f : α → D) (hf : ∀ a, iD (f a) = true) (l : List α) : iD (.tup (l.map f)) = true := by rw [iD]; exact iDs_map f hf l
theorem iD_int (i : Int) : iD (.int i) = true := by simp [iD]
theorem iD_fr (q : Rat) : iD (frD q) = true := by simp [iD, iDs]
theorem iD_row (p : List Rat) : iD (rowD p) = true := iD_tup frD iD_fr p
theorem iD_fn (f : List (List Rat)) : iD (fnD f) = true := iD_tup rowD iD_row f
theorem iD_kind (deg : Nat) (kn : List Int) (jo : List Nat) : iD (kindD deg kn jo) = true := by
  have p1 := iDs_map D.int iD_int kn
  have p2 := iDs_map jD (fun j => iD_int _) jo
  simp [iD, iDs, p1, p2]
theorem eq_iD (h : AH) (xs ys : List D) (px : plainD 60 (.tup xs) = true) (py : plainD 60 (.tup ys) = true) (ix : iD (.tup xs) = true) (iy : iD (.tup ys) = true) (b : Bool) (hb : b = true ↔ D.tup xs = D.tup ys) :
    eqK false h (.v (.tup xs)) (.v (.tup ys)) = some (.v (.bl b)) ∧ eqK true h (.v (.tup xs)) (.v (.tup ys)) = some (.v (.bl (!b))) := by
  have e : eqvD (.tup xs) (.tup ys) = b := by
    rw [Bool.eq_iff_iff, hb]
    exact eqv_iD _ _ ix iy
  rw [eqK_t false h _ _ px py, eqK_t true h _ _ px py, e]
  exact ⟨rfl, rfl⟩
theorem jD_inj {a b : List Nat} (h : a.map jD = b.map jD) : a = b := by
  induction a generalizing b with
  | nil => cases b with
    | nil => rfl
    | cons _ _ => cases h
  | cons x a ih => cases b with
    | nil => cases h
    | cons y b =>
      rw [List.map_cons, List.map_cons] at h
      injection h with h1 h2
      injection h1 with h1
      rw [ih h2, show x = y by omega]
theorem map_inj {α β : Type} {f : α → β} (hf : ∀ a b, f a = f b → a = b) : ∀ {l m : List α}, l.map f = m.map f → l = m
  | [], [], _ => rfl
  | [], _ :: _, h => by cases h
  | _ :: _, [], h => by cases h
  | a :: l, b :: m, h => by
    rw [List.map_cons, List.map_cons] at h
    injection h with h1 h2
    rw [hf _ _ h1, map_inj hf h2]
theorem int_inj (a b : Int) (h : D.int a = D.int b) : a = b := by injection h
theorem fr_inj (a b : Rat) (h : frD a = frD b) : a = b := by
  injection h with h
  injection h with h1 h2
  injection h1 with h1
  injection h2 with h2
  injection h2 with h2
  exact Rat.ext h1 (by omega)
theorem row_inj (a b : List Rat) (h : rowD a = rowD b) : a = b := by injection h with h; exact map_inj fr_inj h
theorem fn_inj (a b : List (List Rat)) (h : fnD a = fnD b) : a = b := by injection h with h; exact map_inj row_inj h
theorem pl_row (n : Nat) (p : List Rat) : plainD (n + 2) (rowD p) = true := pl_tup frD (n + 1) (pl_fr n) p
theorem pl_fn (n : Nat) (f : List (List Rat)) : plainD (n + 3) (fnD f) = true := pl_tup rowD (n + 2) (pl_row n) f
theorem pl_kind (n : Nat) (deg : Nat) (kn : List Int) (jo : List Nat) : plainD (n + 2) (kindD deg kn jo) = true := by
  have p1 := pl_list D.int n (fun _ => by cases n <;> simp [plainD]) kn
  have p2 := pl_list jD n (fun _ => by cases n <;> simp [plainD]) jo
  simp [plainD, plainDs, p1, p2]
/-! ### equal up to the degree: equal -/
theorem agr_le {p q : List Rat} {x : Rat} {deg : Nat} (hp : p.length = deg + 1) (h1 : 1 ≤ deg) (h3 : deg ≤ 3) (hq : q.length = deg + 1) : agr p q x ≤ deg ∧ (agr p q x = deg ↔ p = q) := by
  have le : ∀ (L : List (List Rat × List Rat)) (f : Int), agrN x L f ≤ f + L.length := by
    intro L
    induction L with
    | nil => intro f; simp [agrN]
    | cons z L ih =>
      intro f
      rw [agrN]
      split
      · have := ih (f + 1); rw [List.length_cons]; omega
      · omega
  have dl : ∀ (m : Nat) (p : List Rat), (dvs m p).length = m + 1 := by
    intro m
    induction m with
    | zero => intro p; rfl
    | succ m ih => intro p; rw [dvs, List.length_cons, ih]
  have b := le ((dvs (p.length - 1) p).zip (dvs (p.length - 1) q)) (-1)
  rw [List.length_zip, dl, dl] at b
  have b2 : agr p q x ≤ deg := by unfold agr; omega
  refine ⟨b2, ?_⟩
  have g := agr_iff (p := p) (q := q) (x := x) (j := deg) (by omega)
  have g2 : agr p q x = deg ↔ Ag deg x p q := by rw [← g]; omega
  rw [g2]
  constructor
  · intro a
    rcases row_cases hp h1 h3 with ⟨rfl, a1, b1, rfl⟩ | ⟨rfl, a1, b1, e1, rfl⟩ | ⟨rfl, a1, b1, e1, f1, rfl⟩ <;> rcases row_cases hq h1 h3 with ⟨hd, a', b', rfl⟩ | ⟨hd, a', b', e', rfl⟩ | ⟨hd, a', b', e', f', rfl⟩ <;> first | omega | skip
    · have z0 := a 0 (by decide)
      have z1 := a 1 (by decide)
      simp [dvn, dv2] at z0 z1
      grind
    · have z0 := a 0 (by decide)
      have z1 := a 1 (by decide)
      have z2 := a 2 (by decide)
      simp [dvn, dv3, dv2] at z0 z1 z2
      grind
    · have z0 := a 0 (by decide)
      have z1 := a 1 (by decide)
      have z2 := a 2 (by decide)
      have z3 := a 3 (by decide)
      simp [dvn, dv4, dv3, dv2] at z0 z1 z2 z3
      grind
  · intro e o _
    rw [e]
/-! ### thinned -/
abbrev Pcs := List (Int × List Rat)
def thn (deg : Nat) : List Rat → Pcs → List (Int × Int × List Rat)
  | _, [] => []
  | p, (x, q) :: r => if agr p q (x : Rat) < (deg : Int) then (x, agr p q (x : Rat), q) :: thn deg q r else thn deg q r
def PL (deg : Nat) (p : List Rat) (r : Pcs) : Prop := p.length = deg + 1 ∧ ∀ z ∈ r, z.2.length = deg + 1
theorem PL.tail {deg : Nat} {p q : List Rat} {x : Int} {r : Pcs} (h : PL deg p ((x, q) :: r)) : PL deg q r := ⟨h.2 _ List.mem_cons_self, fun z hz => h.2 z (List.mem_cons_of_mem _ hz)⟩
theorem PL.skip {deg : Nat} {p q : List Rat} {x : Int} {r : Pcs} (h : PL deg p ((x, q) :: r)) : PL deg p r := ⟨h.1, fun z hz => h.2 z (List.mem_cons_of_mem _ hz)⟩
theorem thn_eq {deg : Nat} (h1 : 1 ≤ deg) (h3 : deg ≤ 3) {p q : List Rat} {x : Int} {r : Pcs} (h : PL deg p ((x, q) :: r)) : thn deg p ((x, q) :: r) = if p = q then thn deg p r else (x, agr p q (x : Rat), q) :: thn deg q r := by
  have z := agr_le (x := (x : Rat)) h.1 h1 h3 h.tail.1
  rw [thn]
  by_cases e : p = q
  · rw [if_neg (by have := z.2.mpr e; omega), if_pos e, e]
  · rw [if_pos (by have := z.2; have : agr p q (x : Rat) ≠ deg := fun k => e (z.2.mp k); omega), if_neg e]
def stripT (t : List (Int × Int × List Rat)) : Pcs := t.map fun z => (z.1, z.2.2)
theorem thn_mem {deg : Nat} : ∀ (r : Pcs) (p : List Rat), ∀ z ∈ thn deg p r, (z.1, z.2.2) ∈ r ∧ z.2.1 < deg
  | [], p, z, hz => by simp [thn] at hz
  | (x, q) :: r, p, z, hz => by
    rw [thn] at hz
    split at hz
    · rename_i hlt
      rcases List.mem_cons.mp hz with rfl | hz
      · exact ⟨List.mem_cons_self, hlt⟩
      · exact ⟨List.mem_cons_of_mem _ (thn_mem r q z hz).1, (thn_mem r q z hz).2⟩
    · exact ⟨List.mem_cons_of_mem _ (thn_mem r q z hz).1, (thn_mem r q z hz).2⟩
theorem PL.strip {deg : Nat} {p : List Rat} {r : Pcs} (h : PL deg p r) : PL deg p (stripT (thn deg p r)) := ⟨h.1, fun z hz => by
  obtain ⟨t, ht, rfl⟩ := List.mem_map.mp hz
  exact h.2 _ (thn_mem r p t ht).1⟩
/-- a thinned form is its own -/
theorem thn_idem {deg : Nat} (h1 : 1 ≤ deg) (h3 : deg ≤ 3) : ∀ (r : Pcs) (p : List Rat), PL deg p r → thn deg p (stripT (thn deg p r)) = thn deg p r
  | [], p, _ => rfl
  | (x, q) :: r, p, h => by
    have ih := thn_idem h1 h3 r q h.tail
    rw [thn_eq h1 h3 h]
    by_cases e : p = q
    · rw [if_pos e, e]
      exact ih
    · rw [if_neg e]
      show thn deg p ((x, q) :: stripT (thn deg q r)) = _
      rw [thn_eq h1 h3 ⟨h.1, fun z hz => by
        rcases List.mem_cons.mp hz with rfl | hz
        · exact h.tail.1
        · exact h.tail.strip.2 z hz⟩, if_neg e, ih]
/-- thinned forms tell the pieces -/
theorem thn_inj {deg : Nat} (h1 : 1 ≤ deg) (h3 : deg ≤ 3) : ∀ (r s : Pcs) (p : List Rat), PL deg p r → PL deg p s → r.map (·.1) = s.map (·.1) → (r.map (·.1)).Pairwise (· < ·) → thn deg p r = thn deg p s → r = s
  | [], [], _, _, _, _, _, _ => rfl
  | [], _ :: _, _, _, _, e, _, _ => by cases e
  | _ :: _, [], _, _, _, e, _, _ => by cases e
  | (x, q) :: r, (y, u) :: s, p, hr, hs, e, asc, t => by
    simp only [List.map_cons, List.cons.injEq] at e
    obtain ⟨rfl, e⟩ := e
    simp only [List.map_cons, List.pairwise_cons] at asc
    rw [thn_eq h1 h3 hr, thn_eq h1 h3 hs] at t
    have far : ∀ (w : Pcs) (v : List Rat) (c : Int × Int × List Rat) (l), w.map (·.1) = r.map (·.1) → thn deg v w = c :: l → c.1 = x → False := fun w v c l hw hc hx => by
      have m := (thn_mem w v c (by rw [hc]; exact List.mem_cons_self)).1
      have m2 : c.1 ∈ w.map (·.1) := List.mem_map.mpr ⟨_, m, rfl⟩
      rw [hw, hx] at m2
      have := asc.1 x m2
      omega
    by_cases c1 : p = q <;> by_cases c2 : p = u
    · rw [if_pos c1, if_pos c2] at t
      rw [← c1, ← c2, thn_inj h1 h3 r s p hr.skip hs.skip e asc.2 t]
    · rw [if_pos c1, if_neg c2] at t
      exact (far r p _ _ rfl t rfl).elim
    · rw [if_neg c1, if_pos c2] at t
      exact (far s p _ _ e.symm t.symm rfl).elim
    · rw [if_neg c1, if_neg c2] at t
      simp only [List.cons.injEq, Prod.mk.injEq, true_and] at t
      obtain ⟨⟨_, rfl⟩, t⟩ := t
      rw [thn_inj h1 h3 r s q hr.tail hs.tail e asc.2 t]
/-- a knot put in -/
def lastP (p : List Rat) (r : Pcs) : List Rat := (r.map (·.2)).getLastD p
theorem thn_ins {deg : Nat} (h1 : 1 ≤ deg) (h3 : deg ≤ 3) (y : Int) (s : Pcs) : ∀ (r : Pcs) (p : List Rat), PL deg p (r ++ s) → thn deg p (r ++ (y, lastP p r) :: s) = thn deg p (r ++ s)
  | [], p, h => by
    show thn deg p ((y, p) :: s) = thn deg p s
    rw [thn_eq h1 h3 ⟨h.1, fun z hz => by
      rcases List.mem_cons.mp hz with rfl | hz
      · exact h.1
      · exact h.2 z hz⟩, if_pos rfl]
  | (x, q) :: r, p, h => by
    have e : lastP p ((x, q) :: r) = lastP q r := by unfold lastP; rw [List.map_cons, List.getLastD_cons]
    have ih := thn_ins h1 h3 y s r q (PL.tail (p := p) (x := x) h)
    rw [e, List.cons_append, List.cons_append, thn, thn, ih]
/-- the same pieces -/
theorem thn_all {deg : Nat} (h1 : 1 ≤ deg) (h3 : deg ≤ 3) (P : List Rat → Bool) : ∀ (r : Pcs) (p : List Rat), PL deg p r → P p = true → ((thn deg p r).all fun z => P z.2.2) = r.all fun z => P z.2
  | [], _, _, _ => rfl
  | (x, q) :: r, p, h, hp => by
    rw [thn_eq h1 h3 h, List.all_cons]
    by_cases e : p = q
    · rw [if_pos e, thn_all h1 h3 P r p h.skip hp, ← e, hp]; rfl
    · rw [if_neg e, List.all_cons]
      cases hq : P q with
      | true => rw [thn_all h1 h3 P r q h.tail hq]
      | false => rfl
end Lw

/-! thinned forms: from the program's to the plain ones -/
namespace Lw
open PySem PySem.Spec PyProof.Rows L2 J
structure Cv (kn : List Int) (f : List (List Rat)) (a : Int) (p : List Rat) (r : Pcs) (b : Int) : Prop where
  ek : kn = a :: (r.map (·.1) ++ [b])
  ef : f = p :: r.map (·.2)
theorem zip_map_self (r : Pcs) : (r.map (·.1)).zip (r.map (·.2)) = r := by
  induction r with
  | nil => rfl
  | cons z r ih => simp [ih]
theorem map_zip1 {α β : Type} : ∀ (l : List α) (m : List β), l.length = m.length → (l.zip m).map (·.1) = l
  | [], _, _ => by simp
  | _ :: _, [], h => by simp at h
  | a :: l, b :: m, h => by simp at h; simp [map_zip1 l m h]
theorem map_zip2 {α β : Type} : ∀ (l : List α) (m : List β), l.length = m.length → (l.zip m).map (·.2) = m
  | [], [], _ => by simp
  | [], _ :: _, h => by simp at h
  | _ :: _, [], h => by simp at h
  | a :: l, b :: m, h => by simp at h; simp [map_zip2 l m h]
theorem cv_of {kn : List Int} {f : List (List Rat)} (h2 : 2 ≤ kn.length) (hl : f.length + 1 = kn.length) : ∃ a p r b, Cv kn f a p r b := by
  cases kn with
  | nil => simp at h2
  | cons a ks =>
    cases f with
    | nil => simp at hl; rw [hl] at h2; simp at h2
    | cons p fs =>
      have hne : ks ≠ [] := by intro e; rw [e] at h2; simp at h2
      refine ⟨a, p, (ks.dropLast).zip fs, ks.getLast hne, ?_, ?_⟩
      · rw [map_zip1 _ _ (by simp at hl ⊢; omega), List.dropLast_concat_getLast]
      · rw [map_zip2 _ _ (by simp at hl ⊢; omega)]
section
variable {kn : List Int} {f : List (List Rat)} {a b : Int} {p : List Rat} {r : Pcs}
theorem Cv.inner (c : Cv kn f a p r b) : inner kn = r.map (·.1) := by
  rw [c.ek]
  unfold Lw.inner
  simp
theorem Cv.pl {deg n : Nat} (c : Cv kn f a p r b) (R : ROk deg kn n f) : PL deg p r := ⟨R.row p (by rw [c.ef]; exact List.mem_cons_self), fun z hz => R.row z.2 (by rw [c.ef]; exact List.mem_cons_of_mem _ (List.mem_map.mpr ⟨z, hz, rfl⟩))⟩
end
theorem thn_idx {deg : Nat} (f : List (List Rat)) : ∀ (xs : List Int) (k : Nat), k + xs.length + 1 = f.length →
    ((xs.zipIdx k).filter fun z => decide (agr (f.getD z.2 []) (f.getD (z.2 + 1) []) (z.1 : Rat) < (deg : Int))).map (fun z => (z.1, agr (f.getD z.2 []) (f.getD (z.2 + 1) []) (z.1 : Rat), f.getD (z.2 + 1) [])) = thn deg (f.getD k []) (xs.zip (f.drop (k + 1)))
  | [], k, _ => by simp [thn]
  | x :: xs, k, h => by
    rw [List.length_cons] at h
    have ih := thn_idx (deg := deg) f xs (k + 1) (by omega)
    have e : f.drop (k + 1) = f.getD (k + 1) [] :: f.drop (k + 2) := by
      have hk : k + 1 < f.length := by omega
      rw [List.drop_eq_getElem_cons hk]
      simp [hk]
    rw [List.zipIdx_cons, List.filter_cons, e, List.zip_cons_cons, thn]
    by_cases c : agr (f.getD k []) (f.getD (k + 1) []) (x : Rat) < (deg : Int)
    · rw [if_pos (decide_eq_true c), if_pos c, List.map_cons, ih]
    · rw [if_neg (by simpa using c), if_neg c, ih]
def mkTh (a b : Int) (T : Nat × List Rat × List (Int × Int × List Rat)) : D := .tup [.tup [.int (T.1 : Int), .tup ((a :: (T.2.2.map (·.1) ++ [b])).map D.int), .tup ((T.2.2.map (·.2.1)).map D.int)], fnD (T.2.1 :: T.2.2.map (·.2.2))]
theorem thinT_eq {deg : Nat} {kn : List Int} {f : List (List Rat)} {a b : Int} {p : List Rat} {r : Pcs} (c : Cv kn f a p r b) : thinT deg kn f = mkTh a b (deg, p, thn deg p r) := by
  have hi := c.inner
  have fl : f.length = r.length + 1 := by rw [c.ef]; simp
  have il : (inner kn).length = r.length := by rw [hi]; simp
  have kp : keptL deg (agL kn f) = (((inner kn).zipIdx 0).filter fun z => decide (agr (f.getD z.2 []) (f.getD (z.2 + 1) []) (z.1 : Rat) < (deg : Int))).map (·.2) := by
    unfold keptL
    have e : (agL kn f).zipIdx 0 = ((inner kn).zipIdx 0).map fun z => (agr (f.getD z.2 []) (f.getD (z.2 + 1) []) (z.1 : Rat), z.2) := by
      unfold agL
      apply List.ext_getElem?
      intro i
      simp only [List.getElem?_zipIdx, List.getElem?_map, Option.map_map]
      cases (inner kn)[i]? <;> simp
    rw [e, List.filter_map, List.map_map]
    rfl
  have t := thn_idx (deg := deg) f (inner kn) 0 (by omega)
  have e0 : f.getD 0 [] = p := by rw [c.ef]; rfl
  have e1 : (inner kn).zip (f.drop 1) = r := by rw [hi, c.ef]; exact zip_map_self r
  rw [e0, show f.drop (0 + 1) = f.drop 1 from rfl, e1] at t
  have k1 : (keptL deg (agL kn f)).map (fun k => kn.getD (k + 1) 0) = (thn deg p r).map (·.1) := by
    rw [kp, ← t, List.map_map, List.map_map]
    apply List.map_congr_left
    intro z hz
    have hz := (List.mem_filter.mp hz).1
    obtain ⟨x, i⟩ := z
    obtain ⟨-, hi2, hx⟩ := List.mem_zipIdx hz
    show kn.getD (i + 1) 0 = x
    rw [← inner_getD kn (by rw [inner_len] at hi2; omega), hx]
    have : i < (inner kn).length := by simpa using hi2
    rw [List.getD_eq_getElem?_getD, List.getElem?_eq_getElem this]
    rfl
  have al := agL_len kn f
  have k2 : (keptL deg (agL kn f)).map (fun k => (agL kn f).getD k 0) = (thn deg p r).map (·.2.1) := by
    rw [kp, ← t, List.map_map, List.map_map]
    apply List.map_congr_left
    intro z hz
    have hz := (List.mem_filter.mp hz).1
    obtain ⟨x, i⟩ := z
    obtain ⟨-, hi2, hx⟩ := List.mem_zipIdx hz
    show (agL kn f).getD i 0 = agr (f.getD i []) (f.getD (i + 1) []) (x : Rat)
    have hi3 : i < (inner kn).length := by simpa using hi2
    unfold agL
    simp [List.getD_eq_getElem?_getD, List.getElem?_map, List.getElem?_zipIdx, List.getElem?_eq_getElem hi3, hx]
  have k3 : (keptL deg (agL kn f)).map (fun k => f.getD (k + 1) []) = (thn deg p r).map (·.2.2) := by
    rw [kp, ← t, List.map_map, List.map_map]
    rfl
  unfold thinT mkTh thK thJ thF
  rw [k1, k2, k3, e0]
  have e2 : kn.take 1 = [a] := by rw [c.ek]; rfl
  have e3 : kn.drop (kn.length - 1) = [b] := by
    rw [c.ek]
    have : (a :: (r.map (·.1) ++ [b])).length - 1 = (a :: r.map (·.1)).length := by simp
    rw [this, ← List.cons_append, List.drop_left]
  rw [e2, e3]
  rfl
def lz (p : List Rat) (r : Pcs) : Bool := decide (p.getLastD 0 = 0) && r.all fun z => decide (z.2.getLastD 0 = 0)
def dropP (r : Pcs) : Pcs := r.map fun z => (z.1, z.2.dropLast)
def thR : Nat → List Rat → Pcs → Nat × List Rat × List (Int × Int × List Rat)
  | 0, p, r => (0, p, thn 0 p r)
  | deg + 1, p, r => if 1 ≤ deg ∧ lz p r = true then thR deg p.dropLast (dropP r) else (deg + 1, p, thn (deg + 1) p r)
theorem thinR_eq : ∀ (deg : Nat) {kn : List Int} {f : List (List Rat)} {a b : Int} {p : List Rat} {r : Pcs}, Cv kn f a p r b → thinR deg kn f = mkTh a b (thR deg p r)
  | 0, _, _, _, _, _, _, c => by rw [thinR, thR, thinT_eq c]
  | deg + 1, kn, f, a, b, p, r, c => by
    have e : lastZ f = lz p r := by unfold lastZ lz; rw [c.ef, List.all_cons, List.all_map]; rfl
    have c2 : Cv kn (f.map List.dropLast) a p.dropLast (dropP r) b := ⟨by rw [c.ek]; simp [dropP, List.map_map, Function.comp_def], by rw [c.ef]; simp [dropP, List.map_map, Function.comp_def]⟩
    rw [thinR, thR, e]
    split
    · exact thinR_eq deg c2
    · exact thinT_eq c
theorem PL.drop {deg : Nat} {p : List Rat} {r : Pcs} (h : PL (deg + 1) p r) : PL deg p.dropLast (dropP r) := ⟨by rw [List.length_dropLast, h.1]; rfl, fun z hz => by
  obtain ⟨y, hy, rfl⟩ := List.mem_map.mp hz
  rw [List.length_dropLast, h.2 y hy]; rfl⟩
/-! ### pieces that meet -/
def C0 : List Rat → Pcs → Prop
  | _, [] => True
  | p, (x, q) :: r => ev p (x : Rat) = ev q (x : Rat) ∧ C0 q r
def Ch : List Rat → List (Int × Int × List Rat) → Prop
  | _, [] => True
  | p, (x, j, q) :: t => agr p q (x : Rat) = j ∧ Ch q t
theorem thn_ch {deg : Nat} (h1 : 1 ≤ deg) (h3 : deg ≤ 3) : ∀ (r : Pcs) (p : List Rat), PL deg p r → Ch p (thn deg p r)
  | [], _, _ => trivial
  | (x, q) :: r, p, h => by
    rw [thn_eq h1 h3 h]
    by_cases e : p = q
    · rw [if_pos e]; exact thn_ch h1 h3 r p h.skip
    · rw [if_neg e]; exact ⟨rfl, thn_ch h1 h3 r q h.tail⟩
theorem agr_nn {p q : List Rat} {x : Rat} (e : ev p x = ev q x) : 0 ≤ agr p q x := (agr_iff (j := 0) (Nat.zero_le _)).mpr fun o ho => by
  have : o = 0 := by omega
  subst this
  exact e
theorem thn_nn {deg : Nat} : ∀ (r : Pcs) (p : List Rat), C0 p r → ∀ z ∈ thn deg p r, 0 ≤ z.2.1
  | [], _, _, z, hz => by simp [thn] at hz
  | (x, q) :: r, p, c, z, hz => by
    rw [thn] at hz
    split at hz
    · rcases List.mem_cons.mp hz with rfl | hz
      · exact agr_nn c.1
      · exact thn_nn r q c.2 z hz
    · exact thn_nn r q c.2 z hz
theorem ev_drop : ∀ (p : List Rat) (x : Rat), p.getLastD 0 = 0 → ev p.dropLast x = ev p x
  | [], x, _ => rfl
  | [a], x, h => by
    have h : a = 0 := h
    subst h
    simp
    grind
  | a :: b :: p, x, h => by
    have h : (b :: p).getLastD 0 = 0 := by rw [List.getLastD_cons] at h; exact h
    rw [List.dropLast_cons₂, ev_cons, ev_cons, ev_drop (b :: p) x h]
theorem C0.drop : ∀ (r : Pcs) (p : List Rat), lz p r = true → C0 p r → C0 p.dropLast (dropP r)
  | [], _, _, _ => trivial
  | (x, q) :: r, p, z, c => by
    unfold lz at z
    rw [List.all_cons, Bool.and_eq_true, Bool.and_eq_true] at z
    have zp := of_decide_eq_true z.1
    have zq := of_decide_eq_true z.2.1
    refine ⟨?_, C0.drop r q (by unfold lz; rw [Bool.and_eq_true]; exact z.2) c.2⟩
    show ev p.dropLast (x : Rat) = ev q.dropLast (x : Rat)
    rw [ev_drop p _ zp, ev_drop q _ zq]
    exact c.1
/-- what a thinned form is -/
structure ThOk (deg n : Nat) (ks : List Int) (T : Nat × List Rat × List (Int × Int × List Rat)) : Prop where
  d1 : 1 ≤ T.1
  dl : T.1 ≤ deg
  pl : PL T.1 T.2.1 (stripT T.2.2)
  sz : SzL n T.2.1 ∧ ∀ z ∈ T.2.2, SzL n z.2.2
  sub : (T.2.2.map (·.1)).Sublist ks
  jn : ∀ z ∈ T.2.2, 0 ≤ z.2.1 ∧ z.2.1 < T.1
  ch : Ch T.2.1 T.2.2
  own : thR T.1 T.2.1 (stripT T.2.2) = T
theorem thn_sub {deg : Nat} : ∀ (r : Pcs) (p : List Rat), ((thn deg p r).map (·.1)).Sublist (r.map (·.1))
  | [], _ => by simp [thn]
  | (x, q) :: r, p => by
    rw [thn]
    split
    · rw [List.map_cons, List.map_cons]; exact (thn_sub r q).cons₂ x
    · rw [List.map_cons]; exact (thn_sub r q).cons x
theorem thR_ok : ∀ (deg : Nat) {n : Nat} {p : List Rat} {r : Pcs}, 1 ≤ deg → deg ≤ 3 → PL deg p r → C0 p r → SzL n p → (∀ z ∈ r, SzL n z.2) → ThOk deg n (r.map (·.1)) (thR deg p r)
  | 0, _, _, _, h, _, _, _, _, _ => by omega
  | deg + 1, n, p, r, h1, h3, pl, c, sp, sr => by
    rw [thR]
    split
    · rename_i q
      have z := thR_ok deg (n := n) q.1 (by omega) pl.drop (c.drop r p q.2) (fun x hx => sp x ((List.dropLast_sublist p).mem hx)) (fun z hz => by
        obtain ⟨y, hy, rfl⟩ := List.mem_map.mp hz
        exact fun x hx => sr y hy x ((List.dropLast_sublist y.2).mem hx))
      have e : (dropP r).map (·.1) = r.map (·.1) := by simp [dropP, List.map_map, Function.comp_def]
      rw [e] at z
      exact ⟨z.d1, by have := z.dl; omega, z.pl, z.sz, z.sub, z.jn, z.ch, z.own⟩
    · rename_i q
      refine ⟨h1, Nat.le_refl _, pl.strip, ⟨sp, fun z hz => sr (z.1, z.2.2) (thn_mem r p z hz).1⟩, thn_sub r p, fun z hz => ⟨thn_nn r p c z hz, (thn_mem r p z hz).2⟩, thn_ch h1 h3 r p pl, ?_⟩
      show thR (deg + 1) p (stripT (thn (deg + 1) p r)) = _
      have e : (1 ≤ deg ∧ lz p (stripT (thn (deg + 1) p r)) = true) ↔ (1 ≤ deg ∧ lz p r = true) := by
        unfold lz
        have : ((stripT (thn (deg + 1) p r)).all fun z => decide (z.2.getLastD 0 = 0)) = ((thn (deg + 1) p r).all fun z => decide (z.2.2.getLastD 0 = 0)) := by unfold stripT; rw [List.all_map]; rfl
        rw [this]
        cases hp : decide (p.getLastD 0 = 0) with
        | false => simp
        | true => rw [thn_all h1 h3 (fun p => decide (p.getLastD 0 = 0)) r p pl hp]
      rw [thR, if_neg (fun k => q (e.mp k)), thn_idem h1 h3 r p pl]
theorem thR_le : ∀ (deg : Nat) (p : List Rat) (r : Pcs), (thR deg p r).1 ≤ deg
  | 0, _, _ => Nat.le_refl _
  | deg + 1, p, r => by
    rw [thR]
    split
    · have := thR_le deg p.dropLast (dropP r); omega
    · exact Nat.le_refl _
theorem drop_inj {p q : List Rat} (hl : p.length = q.length) (h1 : p ≠ []) (e : p.dropLast = q.dropLast) (z1 : p.getLastD 0 = 0) (z2 : q.getLastD 0 = 0) : p = q := by
  have h2 : q ≠ [] := by intro k; rw [k] at hl; exact h1 (List.length_eq_zero_iff.mp hl)
  have g : ∀ (u : List Rat) (hu : u ≠ []), u.getLastD 0 = u.getLast hu := fun u hu => by rw [List.getLastD_eq_getLast?, List.getLast?_eq_getLast hu]; rfl
  rw [← List.dropLast_concat_getLast h1, ← List.dropLast_concat_getLast h2, e, ← g p h1, ← g q h2, z1, z2]
theorem lz_mem {p : List Rat} {r : Pcs} (h : lz p r = true) : p.getLastD 0 = 0 ∧ ∀ z ∈ r, z.2.getLastD 0 = 0 := by
  unfold lz at h
  rw [Bool.and_eq_true, List.all_eq_true] at h
  exact ⟨of_decide_eq_true h.1, fun z hz => of_decide_eq_true (h.2 z hz)⟩
theorem dropP_inj {deg : Nat} : ∀ (r s : Pcs), (∀ z ∈ r, z.2.length = deg + 2) → (∀ z ∈ s, z.2.length = deg + 2) → (∀ z ∈ r, z.2.getLastD 0 = 0) → (∀ z ∈ s, z.2.getLastD 0 = 0) → dropP r = dropP s → r = s
  | [], [], _, _, _, _, _ => rfl
  | [], _ :: _, _, _, _, _, e => by cases e
  | _ :: _, [], _, _, _, _, e => by cases e
  | (x, q) :: r, (y, u) :: s, h1, h2, z1, z2, e => by
    unfold dropP at e
    simp only [List.map_cons, List.cons.injEq, Prod.mk.injEq] at e
    obtain ⟨⟨rfl, e1⟩, e2⟩ := e
    have l1 : q.length = deg + 2 := h1 _ List.mem_cons_self
    have l2 : u.length = deg + 2 := h2 _ List.mem_cons_self
    rw [drop_inj (l1.trans l2.symm) (by intro k; rw [k] at l1; simp at l1) e1 (z1 (x, q) List.mem_cons_self) (z2 (x, u) List.mem_cons_self), dropP_inj r s (fun z hz => h1 z (List.mem_cons_of_mem _ hz)) (fun z hz => h2 z (List.mem_cons_of_mem _ hz)) (fun z hz => z1 z (List.mem_cons_of_mem _ hz)) (fun z hz => z2 z (List.mem_cons_of_mem _ hz)) e2]
theorem thR_inj : ∀ (deg : Nat) {p q : List Rat} {r s : Pcs}, 1 ≤ deg → deg ≤ 3 → PL deg p r → PL deg q s → r.map (·.1) = s.map (·.1) → (r.map (·.1)).Pairwise (· < ·) → thR deg p r = thR deg q s → p = q ∧ r = s
  | 0, _, _, _, _, h, _, _, _, _, _, _ => by omega
  | deg + 1, p, q, r, s, h1, h3, pr, ps, ek, asc, e => by
    rw [thR, thR] at e
    by_cases c1 : 1 ≤ deg ∧ lz p r = true <;> by_cases c2 : 1 ≤ deg ∧ lz q s = true
    · rw [if_pos c1, if_pos c2] at e
      have m : ∀ w : Pcs, (dropP w).map (·.1) = w.map (·.1) := fun w => by simp [dropP, List.map_map, Function.comp_def]
      have z := thR_inj deg c1.1 (by omega) pr.drop ps.drop (by rw [m, m, ek]) (by rw [m]; exact asc) e
      have g1 := lz_mem c1.2
      have g2 := lz_mem c2.2
      refine ⟨drop_inj (pr.1.trans ps.1.symm) (by intro k; have := pr.1; rw [k] at this; simp at this) z.1 g1.1 g2.1, dropP_inj r s pr.2 ps.2 g1.2 g2.2 z.2⟩
    · rw [if_pos c1, if_neg c2] at e
      have := thR_le deg p.dropLast (dropP r)
      rw [e] at this
      have this : deg + 1 ≤ deg := this
      omega
    · rw [if_neg c1, if_pos c2] at e
      have := thR_le deg q.dropLast (dropP s)
      rw [← e] at this
      have this : deg + 1 ≤ deg := this
      omega
    · rw [if_neg c1, if_neg c2] at e
      simp only [Prod.mk.injEq, true_and] at e
      obtain ⟨rfl, e⟩ := e
      exact ⟨rfl, thn_inj h1 h3 r s p pr ps ek asc e⟩
theorem lastP_drop : ∀ (r : Pcs) (p : List Rat), lastP p.dropLast (dropP r) = (lastP p r).dropLast
  | [], p => rfl
  | (x, q) :: r, p => by
    have e : ∀ (p q : List Rat) (x : Int) (r : Pcs), lastP p ((x, q) :: r) = lastP q r := fun p q x r => by unfold lastP; rw [List.map_cons, List.getLastD_cons]
    show lastP p.dropLast ((x, q.dropLast) :: dropP r) = _
    rw [e, e, lastP_drop r q]
theorem lastP_mem (r : Pcs) (p : List Rat) : lastP p r = p ∨ ∃ z ∈ r, lastP p r = z.2 := by
  induction r generalizing p with
  | nil => exact .inl rfl
  | cons z r ih =>
    obtain ⟨x, q⟩ := z
    have e : lastP p ((x, q) :: r) = lastP q r := by unfold lastP; rw [List.map_cons, List.getLastD_cons]
    rw [e]
    rcases ih q with h | ⟨z, hz, h⟩
    · exact .inr ⟨(x, q), List.mem_cons_self, h⟩
    · exact .inr ⟨z, List.mem_cons_of_mem _ hz, h⟩
theorem thR_ins : ∀ (deg : Nat) {p : List Rat} {r s : Pcs} (y : Int), 1 ≤ deg → deg ≤ 3 → PL deg p (r ++ s) → thR deg p (r ++ (y, lastP p r) :: s) = thR deg p (r ++ s)
  | 0, _, _, _, _, h, _, _ => by omega
  | deg + 1, p, r, s, y, h1, h3, pl => by
    have e : lz p (r ++ (y, lastP p r) :: s) = lz p (r ++ s) := by
      rw [Bool.eq_iff_iff]
      unfold lz
      simp only [Bool.and_eq_true, List.all_eq_true, decide_eq_true_eq, List.mem_append, List.mem_cons]
      constructor
      · rintro ⟨a, b⟩
        exact ⟨a, fun z hz => b z (by rcases hz with hz | hz <;> simp [hz])⟩
      · rintro ⟨a, b⟩
        refine ⟨a, fun z hz => ?_⟩
        rcases hz with hz | rfl | hz
        · exact b z (.inl hz)
        · show (lastP p r).getLastD 0 = 0
          rcases lastP_mem r p with k | ⟨w, hw, k⟩
          · rw [k]; exact a
          · rw [k]; exact b w (.inl hw)
        · exact b z (.inr hz)
    rw [thR, thR, e]
    split
    · rename_i q
      have z := thR_ins deg (p := p.dropLast) (r := dropP r) (s := dropP s) y q.1 (by omega) (by have := pl.drop; unfold dropP at this ⊢; rw [List.map_append] at this; exact this)
      rw [lastP_drop] at z
      have e1 : dropP (r ++ (y, lastP p r) :: s) = dropP r ++ (y, (lastP p r).dropLast) :: dropP s := by simp [dropP]
      have e2 : dropP (r ++ s) = dropP r ++ dropP s := by simp [dropP]
      rw [e1, e2, z]
    · rw [thn_ins h1 h3 y s r p pl]
end Lw

/-! k13: the law's helpers, sameness, knots put in -/
namespace Lw
open PySem PySem.Spec PyProof.Rows L2 J
local macro_rules
  | `(tactic| simp_arith) => `(tactic| simp only [seqR_nx, seqR_ret, seqR_exc, seqR_err, dB_nil, dB_cons, dS_doc, dS_pass, kSet2_eq, kSet_eq, dS_set, nxO_some, kAsg2_eq, kAsg_eq, dS_asg, kPar2_eq, kPar_eq, dS_par, kDrop_eq, dS_drop, kRet2_eq, kRet_eq, dS_ret, kRetO_eq, dS_retOwn, kIfS_t, kIfS_f, dS_ife, dS_raise, dS_frz, dS_tryy, slotR_v, slotR_o, dE_slot, dE_cst, dE_fnv, kB2_eq, kB1_eq, kU_eq, dE_bin, dE_cmp, kC3_t, kC3_f, kC2_eq, kC1_eq, dE_chain, dE_ix, kS3_eq, kS2_eq, kS1_eq, dE_sl, dE_rev, dE_neg, kNot_eq, dE_notv, kAnd_t, kAnd_f, dE_andv, kOr_t, kOr_f, dE_orv, kIf_t, kIf_f, dE_ife, kTup_eq, kLst_eq, kV_eq, dE_tup, dE_lst, kCall_eq, dE_call, dE_b1, dE_b2, dE_isi, dE_isE, dE_lr1, dE_lr2, dO_no, kPart_eq, dO_so, dL_nil, kL3_eq, kL2_eq, kL1_eq, dL_cons, dEL_nil, kM3_eq, kM2_t, kM1_eq, dEL_cons, dT_yes, kTr_eq, kBl_eq, kNotT_eq, kAndT_t, kAndT_f, kOrT_t, kOrT_f, dT_tr, dT_cmp, dT_chain, dT_not, dT_and, dT_or, kSq_eq, dI_seq, kRg_eq, dI_rng, kZ3_eq, kZ2_eq, kZ1_eq, dI_zip, kEn_eq, dI_enum, k_add, k_sub, k_mul, k_fdiv, k_mod, k_pow, add_ii, sub_ii, mul_ii, fdiv_ii, mod_ii, pow_ii, neg_i, abs_i, k_eq, k_ne, lt_ii, le_ii, gt_ii, ge_ii, k_is, k_isnot, k_inn, k_notin, is_bb, isn_bb, blK_b, truth_b, truth_i, truth_n, toD_v, toD_f, slotOf_v, slotOf_ft, slotOf_ff, seqOf_l, seqOf_t, seqOf_s, seqOf_f, seqOf_b, lone_i, lone_t, lone_l, lone_b, lone_n, lone_s, lone_f, len_t, len_l, len_f, len_b, len_s, b1_len, b1_all, b1_any, b1_sum, b1_max, b1_tuple, b1_list, b1_int, b1_abs, b1_str, tup_l, tup_t, tup_f, tup_b, lst_l, lst_t, lst_f, lst_b, lst_s, isi_i, isi_b, isi_t, isi_s, isi_n, isi_l, isiT1, isiT2, isiT3, isiT4, isiT5, isiT6, isiT7, isiT8, isiT9, ix_t, ix_l, ix_f, ix_b, ix_s, rev_t, rev_l, partK_i, cut_t, cut_l, cut_f, cut_b, srcOf_l, srcOf_t, srcOf_f, srcOf_b, srcOf_r, srK_l, srK_t, srK_f, srK_b, okI1, okI2, okI3, okI3', okI3'', okI4, okI5, setsE0, setsE1, slotsOf0, slotsOf1, bindT_n, bindT_t, bindT_w, bindTs_0, bindTs_1, fx1, fx2, fx3, fx4, fx5, fx6, fx7, fx8, loopL_nil, dS_whl, endF_ret, endF_nx, endF_exc, trim_self, at0, at1, at2, ne_ii, eq_ii, ne_fr, eq_fr, List.getElem?_cons_succ, List.getElem?_cons_zero, List.set_cons_succ, List.set_cons_zero, Option.map_some, Option.bind_some, Bool.not_true, Bool.not_false, if_true, Bool.false_eq_true, if_false, bind_ok, exS_ok, lift_some, decide_true, decide_false, wipeE, Ph_call, Ph_fuel, Ph_make, bind_exc])
  | `(tactic| simp_arith [$xs,*]) => `(tactic| simp only [seqR_nx, seqR_ret, seqR_exc, seqR_err, dB_nil, dB_cons, dS_doc, dS_pass, kSet2_eq, kSet_eq, dS_set, nxO_some, kAsg2_eq, kAsg_eq, dS_asg, kPar2_eq, kPar_eq, dS_par, kDrop_eq, dS_drop, kRet2_eq, kRet_eq, dS_ret, kRetO_eq, dS_retOwn, kIfS_t, kIfS_f, dS_ife, dS_raise, dS_frz, dS_tryy, slotR_v, slotR_o, dE_slot, dE_cst, dE_fnv, kB2_eq, kB1_eq, kU_eq, dE_bin, dE_cmp, kC3_t, kC3_f, kC2_eq, kC1_eq, dE_chain, dE_ix, kS3_eq, kS2_eq, kS1_eq, dE_sl, dE_rev, dE_neg, kNot_eq, dE_notv, kAnd_t, kAnd_f, dE_andv, kOr_t, kOr_f, dE_orv, kIf_t, kIf_f, dE_ife, kTup_eq, kLst_eq, kV_eq, dE_tup, dE_lst, kCall_eq, dE_call, dE_b1, dE_b2, dE_isi, dE_isE, dE_lr1, dE_lr2, dO_no, kPart_eq, dO_so, dL_nil, kL3_eq, kL2_eq, kL1_eq, dL_cons, dEL_nil, kM3_eq, kM2_t, kM1_eq, dEL_cons, dT_yes, kTr_eq, kBl_eq, kNotT_eq, kAndT_t, kAndT_f, kOrT_t, kOrT_f, dT_tr, dT_cmp, dT_chain, dT_not, dT_and, dT_or, kSq_eq, dI_seq, kRg_eq, dI_rng, kZ3_eq, kZ2_eq, kZ1_eq, dI_zip, kEn_eq, dI_enum, k_add, k_sub, k_mul, k_fdiv, k_mod, k_pow, add_ii, sub_ii, mul_ii, fdiv_ii, mod_ii, pow_ii, neg_i, abs_i, k_eq, k_ne, lt_ii, le_ii, gt_ii, ge_ii, k_is, k_isnot, k_inn, k_notin, is_bb, isn_bb, blK_b, truth_b, truth_i, truth_n, toD_v, toD_f, slotOf_v, slotOf_ft, slotOf_ff, seqOf_l, seqOf_t, seqOf_s, seqOf_f, seqOf_b, lone_i, lone_t, lone_l, lone_b, lone_n, lone_s, lone_f, len_t, len_l, len_f, len_b, len_s, b1_len, b1_all, b1_any, b1_sum, b1_max, b1_tuple, b1_list, b1_int, b1_abs, b1_str, tup_l, tup_t, tup_f, tup_b, lst_l, lst_t, lst_f, lst_b, lst_s, isi_i, isi_b, isi_t, isi_s, isi_n, isi_l, isiT1, isiT2, isiT3, isiT4, isiT5, isiT6, isiT7, isiT8, isiT9, ix_t, ix_l, ix_f, ix_b, ix_s, rev_t, rev_l, partK_i, cut_t, cut_l, cut_f, cut_b, srcOf_l, srcOf_t, srcOf_f, srcOf_b, srcOf_r, srK_l, srK_t, srK_f, srK_b, okI1, okI2, okI3, okI3', okI3'', okI4, okI5, setsE0, setsE1, slotsOf0, slotsOf1, bindT_n, bindT_t, bindT_w, bindTs_0, bindTs_1, fx1, fx2, fx3, fx4, fx5, fx6, fx7, fx8, loopL_nil, dS_whl, endF_ret, endF_nx, endF_exc, trim_self, at0, at1, at2, ne_ii, eq_ii, ne_fr, eq_fr, List.getElem?_cons_succ, List.getElem?_cons_zero, List.set_cons_succ, List.set_cons_zero, Option.map_some, Option.bind_some, Bool.not_true, Bool.not_false, if_true, Bool.false_eq_true, if_false, bind_ok, exS_ok, lift_some, decide_true, decide_false, wipeE, Ph_call, Ph_fuel, Ph_make, bind_exc, $xs,*])
  | `(tactic| simp_arith $l:location) => `(tactic| simp only [seqR_nx, seqR_ret, seqR_exc, seqR_err, dB_nil, dB_cons, dS_doc, dS_pass, kSet2_eq, kSet_eq, dS_set, nxO_some, kAsg2_eq, kAsg_eq, dS_asg, kPar2_eq, kPar_eq, dS_par, kDrop_eq, dS_drop, kRet2_eq, kRet_eq, dS_ret, kRetO_eq, dS_retOwn, kIfS_t, kIfS_f, dS_ife, dS_raise, dS_frz, dS_tryy, slotR_v, slotR_o, dE_slot, dE_cst, dE_fnv, kB2_eq, kB1_eq, kU_eq, dE_bin, dE_cmp, kC3_t, kC3_f, kC2_eq, kC1_eq, dE_chain, dE_ix, kS3_eq, kS2_eq, kS1_eq, dE_sl, dE_rev, dE_neg, kNot_eq, dE_notv, kAnd_t, kAnd_f, dE_andv, kOr_t, kOr_f, dE_orv, kIf_t, kIf_f, dE_ife, kTup_eq, kLst_eq, kV_eq, dE_tup, dE_lst, kCall_eq, dE_call, dE_b1, dE_b2, dE_isi, dE_isE, dE_lr1, dE_lr2, dO_no, kPart_eq, dO_so, dL_nil, kL3_eq, kL2_eq, kL1_eq, dL_cons, dEL_nil, kM3_eq, kM2_t, kM1_eq, dEL_cons, dT_yes, kTr_eq, kBl_eq, kNotT_eq, kAndT_t, kAndT_f, kOrT_t, kOrT_f, dT_tr, dT_cmp, dT_chain, dT_not, dT_and, dT_or, kSq_eq, dI_seq, kRg_eq, dI_rng, kZ3_eq, kZ2_eq, kZ1_eq, dI_zip, kEn_eq, dI_enum, k_add, k_sub, k_mul, k_fdiv, k_mod, k_pow, add_ii, sub_ii, mul_ii, fdiv_ii, mod_ii, pow_ii, neg_i, abs_i, k_eq, k_ne, lt_ii, le_ii, gt_ii, ge_ii, k_is, k_isnot, k_inn, k_notin, is_bb, isn_bb, blK_b, truth_b, truth_i, truth_n, toD_v, toD_f, slotOf_v, slotOf_ft, slotOf_ff, seqOf_l, seqOf_t, seqOf_s, seqOf_f, seqOf_b, lone_i, lone_t, lone_l, lone_b, lone_n, lone_s, lone_f, len_t, len_l, len_f, len_b, len_s, b1_len, b1_all, b1_any, b1_sum, b1_max, b1_tuple, b1_list, b1_int, b1_abs, b1_str, tup_l, tup_t, tup_f, tup_b, lst_l, lst_t, lst_f, lst_b, lst_s, isi_i, isi_b, isi_t, isi_s, isi_n, isi_l, isiT1, isiT2, isiT3, isiT4, isiT5, isiT6, isiT7, isiT8, isiT9, ix_t, ix_l, ix_f, ix_b, ix_s, rev_t, rev_l, partK_i, cut_t, cut_l, cut_f, cut_b, srcOf_l, srcOf_t, srcOf_f, srcOf_b, srcOf_r, srK_l, srK_t, srK_f, srK_b, okI1, okI2, okI3, okI3', okI3'', okI4, okI5, setsE0, setsE1, slotsOf0, slotsOf1, bindT_n, bindT_t, bindT_w, bindTs_0, bindTs_1, fx1, fx2, fx3, fx4, fx5, fx6, fx7, fx8, loopL_nil, dS_whl, endF_ret, endF_nx, endF_exc, trim_self, at0, at1, at2, ne_ii, eq_ii, ne_fr, eq_fr, List.getElem?_cons_succ, List.getElem?_cons_zero, List.set_cons_succ, List.set_cons_zero, Option.map_some, Option.bind_some, Bool.not_true, Bool.not_false, if_true, Bool.false_eq_true, if_false, bind_ok, exS_ok, lift_some, decide_true, decide_false, wipeE, Ph_call, Ph_fuel, Ph_make, bind_exc] $l)
  | `(tactic| simp_arith [$xs,*] $l:location) => `(tactic| simp only [seqR_nx, seqR_ret, seqR_exc, seqR_err, dB_nil, dB_cons, dS_doc, dS_pass, kSet2_eq, kSet_eq, dS_set, nxO_some, kAsg2_eq, kAsg_eq, dS_asg, kPar2_eq, kPar_eq, dS_par, kDrop_eq, dS_drop, kRet2_eq, kRet_eq, dS_ret, kRetO_eq, dS_retOwn, kIfS_t, kIfS_f, dS_ife, dS_raise, dS_frz, dS_tryy, slotR_v, slotR_o, dE_slot, dE_cst, dE_fnv, kB2_eq, kB1_eq, kU_eq, dE_bin, dE_cmp, kC3_t, kC3_f, kC2_eq, kC1_eq, dE_chain, dE_ix, kS3_eq, kS2_eq, kS1_eq, dE_sl, dE_rev, dE_neg, kNot_eq, dE_notv, kAnd_t, kAnd_f, dE_andv, kOr_t, kOr_f, dE_orv, kIf_t, kIf_f, dE_ife, kTup_eq, kLst_eq, kV_eq, dE_tup, dE_lst, kCall_eq, dE_call, dE_b1, dE_b2, dE_isi, dE_isE, dE_lr1, dE_lr2, dO_no, kPart_eq, dO_so, dL_nil, kL3_eq, kL2_eq, kL1_eq, dL_cons, dEL_nil, kM3_eq, kM2_t, kM1_eq, dEL_cons, dT_yes, kTr_eq, kBl_eq, kNotT_eq, kAndT_t, kAndT_f, kOrT_t, kOrT_f, dT_tr, dT_cmp, dT_chain, dT_not, dT_and, dT_or, kSq_eq, dI_seq, kRg_eq, dI_rng, kZ3_eq, kZ2_eq, kZ1_eq, dI_zip, kEn_eq, dI_enum, k_add, k_sub, k_mul, k_fdiv, k_mod, k_pow, add_ii, sub_ii, mul_ii, fdiv_ii, mod_ii, pow_ii, neg_i, abs_i, k_eq, k_ne, lt_ii, le_ii, gt_ii, ge_ii, k_is, k_isnot, k_inn, k_notin, is_bb, isn_bb, blK_b, truth_b, truth_i, truth_n, toD_v, toD_f, slotOf_v, slotOf_ft, slotOf_ff, seqOf_l, seqOf_t, seqOf_s, seqOf_f, seqOf_b, lone_i, lone_t, lone_l, lone_b, lone_n, lone_s, lone_f, len_t, len_l, len_f, len_b, len_s, b1_len, b1_all, b1_any, b1_sum, b1_max, b1_tuple, b1_list, b1_int, b1_abs, b1_str, tup_l, tup_t, tup_f, tup_b, lst_l, lst_t, lst_f, lst_b, lst_s, isi_i, isi_b, isi_t, isi_s, isi_n, isi_l, isiT1, isiT2, isiT3, isiT4, isiT5, isiT6, isiT7, isiT8, isiT9, ix_t, ix_l, ix_f, ix_b, ix_s, rev_t, rev_l, partK_i, cut_t, cut_l, cut_f, cut_b, srcOf_l, srcOf_t, srcOf_f, srcOf_b, srcOf_r, srK_l, srK_t, srK_f, srK_b, okI1, okI2, okI3, okI3', okI3'', okI4, okI5, setsE0, setsE1, slotsOf0, slotsOf1, bindT_n, bindT_t, bindT_w, bindTs_0, bindTs_1, fx1, fx2, fx3, fx4, fx5, fx6, fx7, fx8, loopL_nil, dS_whl, endF_ret, endF_nx, endF_exc, trim_self, at0, at1, at2, ne_ii, eq_ii, ne_fr, eq_fr, List.getElem?_cons_succ, List.getElem?_cons_zero, List.set_cons_succ, List.set_cons_zero, Option.map_some, Option.bind_some, Bool.not_true, Bool.not_false, if_true, Bool.false_eq_true, if_false, bind_ok, exS_ok, lift_some, decide_true, decide_false, wipeE, Ph_call, Ph_fuel, Ph_make, bind_exc, $xs,*] $l)
theorem stS {T : Tab} {Φ : Phi} {s : XS} {b : XB} {e e' : Env'} {h h' : AH} {r : RS} (h1 : denS T Φ s e h = .nx e' h') (h2 : denB T Φ b e' h' = r) : denB T Φ (.cons s b) e h = r := by
  rw [dB_cons, h1, seqR_nx, h2]
theorem fin {T : Tab} {Φ : Phi} {s : XS} {b : XB} {e : Env'} {h h' : AH} {d : D} (h1 : denS T Φ s e h = .ret d h') : denB T Φ (.cons s b) e h = .ret d h' := by
  rw [dB_cons, h1, seqR_ret]
/-! ### agreeing by the law -/
theorem dvn_succ : ∀ (n : Nat) (p : List Rat), dvn (n + 1) p = dv (dvn n p)
  | 0, p => rfl
  | n + 1, p => by rw [dvn, dvn_succ n (dv p)]; rfl
def agrM (x : Rat) (p q : List Rat) : Nat → Nat → Int
  | 0, i => (i : Int) - 1
  | n + 1, i => if ev (dvn i p) x = ev (dvn i q) x then agrM x p q n (i + 1) else (i : Int) - 1
theorem agrN_M (x : Rat) (p q : List Rat) : ∀ (m i : Nat), agrN x ((dvs m (dvn i p)).zip (dvs m (dvn i q))) ((i : Int) - 1) = agrM x p q (m + 1) i
  | 0, i => by
    simp only [dvs, List.zip_cons_cons, List.zip_nil_right, agrN, agrM]
    split <;> omega
  | m + 1, i => by
    rw [dvs, dvs, List.zip_cons_cons, agrN, agrM, ← dvn_succ, ← dvn_succ]
    have ih := agrN_M x p q m (i + 1)
    split
    · rw [← ih]; congr 1; omega
    · rfl
theorem agr_M {p q : List Rat} {x : Rat} (h : 1 ≤ p.length) : agr p q x = agrM x p q p.length 0 := by
  have := agrN_M x p q (p.length - 1) 0
  rw [show p.length - 1 + 1 = p.length by omega] at this
  exact this
theorem ldv_ev' {p : List Rat} {deg : Nat} (h : p.length = deg + 1) (h1 : 1 ≤ deg) (h3 : deg ≤ 3) {o : Nat} (ho : o ≤ deg) (x : Rat) : ev (ldvs o p) x = ev (dvn o p) x := by
  by_cases c : o < deg
  · exact ldv_ev h h1 h3 c x
  · have : o = deg := by omega
    subst this
    rcases row_cases h h1 h3 with ⟨rfl, a, b, rfl⟩ | ⟨rfl, a, b, e, rfl⟩ | ⟨rfl, a, b, e, f, rfl⟩
    · simp [ldvs, ldv, dvn, dv2]
      grind
    · simp [ldvs, ldv, dvn, dv3, dv2]
      grind
    · simp [ldvs, ldv, dvn, dv4, dv3, dv2]
      grind
section
variable {deg : Nat} (h1 : 1 ≤ deg) (h3 : deg ≤ 3) {p q : List Rat} (hp : p.length = deg + 1) (hq : q.length = deg + 1) {n : Nat} (sp : SzL n p) (sq : SzL n q) (hn : 0 < n) (hn2 : n ≤ 800) {x : Int} (hx : x.natAbs < 2 ^ 10) (h : AH)
include h1 h3 hp hq sp sq hn hn2 hx
theorem lp_lag (d : Nat) (hd : 3 ≤ d) : ∀ (m i : Nat) (o : Option Slot), i + m = deg + 1 → seqR (loopL (.name 4) (denB t__law_agreeing (Ph d) (.cons (.ife (.cmp .ne (.call k__law_at (.cons (.call k__law_derived (.cons (.b1 .list (.slot 0)) (.cons (.slot 4) (.nil)))) (.cons (.tup (.cons (.slot 2) (.cons (.cst (.int 1)) (.nil)))) (.nil)))) (.call k__law_at (.cons (.call k__law_derived (.cons (.b1 .list (.slot 1)) (.cons (.slot 4) (.nil)))) (.cons (.tup (.cons (.slot 2) (.cons (.cst (.int 1)) (.nil)))) (.nil))))) (.cons (.ret (.slot 3)) (.nil)) (.nil)) (.cons (.set 3 false (.slot 4)) (.nil)))) ((List.range' i m).map fun i => .int (0 + (i : Nat))) [some (.val (rowD p)), some (.val (rowD q)), some (.val (.int x)), some (.val (.int ((i : Int) - 1))), o] h) (denB t__law_agreeing (Ph d) (.cons (.ret (.slot 3)) (.nil))) = .ret (.int (agrM (x : Rat) p q m i)) h := by
  intro m
  induction m with
  | zero => intro i o _; simp_arith [agrM, List.range'_zero, List.map_nil]
  | succ m ih =>
    intro i o hi
    have za := l_derived (d := d) hd h sp hn (by omega) (by omega) (m := i) (by omega)
    have zb := l_derived (d := d) hd h sq hn (by omega) (by omega) (m := i) (by omega)
    have xs : Sz 10 (x : Rat) := Sz.int hx (by decide)
    have sa := ldvs_sz hn i p (by omega) (by omega) sp
    have sb := ldvs_sz hn i q (by omega) (by omega) sq
    have la := ldvs_len i p (by omega)
    have lb := ldvs_len i q (by omega)
    have ya := l_at (d := d) hd h (.inr rfl : IsSq (lstD (ldvs i p)) _) sa xs (by rw [la, hp]; have : (deg + 1) * (10 + (n + 10 * i) + 1) ≤ 4 * (10 + (800 + 10 * 4) + 1) := Nat.mul_le_mul (by omega) (by omega); omega) (by decide) (by omega)
    have yb := l_at (d := d) hd h (.inr rfl : IsSq (lstD (ldvs i q)) _) sb xs (by rw [lb, hq]; have : (deg + 1) * (10 + (n + 10 * i) + 1) ≤ 4 * (10 + (800 + 10 * 4) + 1) := Nat.mul_le_mul (by omega) (by omega); omega) (by decide) (by omega)
    rw [ldv_ev' hp h1 h3 (by omega), int_fr] at ya
    rw [ldv_ev' hq h1 h3 (by omega), int_fr] at yb
    rw [List.range'_succ, List.map_cons, loopL_cons (env' := [some (.val (rowD p)), some (.val (rowD q)), some (.val (.int x)), some (.val (.int ((i : Int) - 1))), some (.val (.int (i : Int)))]) (by simp)]
    rw [agrM]
    by_cases c : ev (dvn i p) (x : Rat) = ev (dvn i q) (x : Rat)
    · rw [if_pos c]
      simp_arith [lst_t, za, zb, ya, yb, c]
      have := ih (i + 1) (some (.val (.int (i : Int)))) (by omega)
      rw [show (((i + 1 : Nat) : Int) - 1) = (i : Int) by omega] at this
      exact this
    · rw [if_neg c]
      simp_arith [lst_t, za, zb, ya, yb, decide_eq_false c]
theorem l_agreeing {d : Nat} (hd : 4 ≤ d) : Rn d k__law_agreeing [rowD p, rowD q, .int x] h = .ok (.int (agr p q (x : Rat))) h := by
  obtain ⟨d, rfl⟩ : ∃ e, d = e + 4 := ⟨d - 4, by omega⟩
  have z := lp_lag h1 h3 hp hq sp sq hn hn2 hx h (d + 3) (by omega) (deg + 1) 0 none (by omega)
  rw [u__law_agreeing, x__law_agreeing, dB_cons]
  have e : (((p.map frD).length : Int)).toNat = deg + 1 := by rw [List.length_map, hp]; omega
  have r : denI t__law_agreeing (Ph (d + 3)) (.rng (.cons (.b1 .len (.slot 0)) (.nil))) [some (.val (rowD p)), some (.val (rowD q)), some (.val (.int x)), some (.val (.int (-1))), none] h = .ok (.one (.fx (J.upTo 0 (((p.map frD).length : Int)).toNat))) h := dI_r1 (by simp_arith) (rg_nat (by rw [List.length_map]; omega))
  simp_arith
  rw [dS_for r rfl rfl, e, J.upTo, List.range_eq_range']
  rw [agr_M (by omega), hp]
  rw [show ((0 : Nat) : Int) - 1 = -1 from rfl] at z
  rw [z]
  simp_arith
end
end Lw

/-! k13: thinned forms by the law, sameness, knots put in -/
namespace Lw
open PySem PySem.Spec PyProof.Rows L2 J
local macro_rules
  | `(tactic| simp_arith) => `(tactic| simp only [seqR_nx, seqR_ret, seqR_exc, seqR_err, dB_nil, dB_cons, dS_doc, dS_pass, kSet2_eq, kSet_eq, dS_set, nxO_some, kAsg2_eq, kAsg_eq, dS_asg, kPar2_eq, kPar_eq, dS_par, kDrop_eq, dS_drop, kRet2_eq, kRet_eq, dS_ret, kRetO_eq, dS_retOwn, kIfS_t, kIfS_f, dS_ife, dS_raise, dS_frz, dS_tryy, slotR_v, slotR_o, dE_slot, dE_cst, dE_fnv, kB2_eq, kB1_eq, kU_eq, dE_bin, dE_cmp, kC3_t, kC3_f, kC2_eq, kC1_eq, dE_chain, dE_ix, kS3_eq, kS2_eq, kS1_eq, dE_sl, dE_rev, dE_neg, kNot_eq, dE_notv, kAnd_t, kAnd_f, dE_andv, kOr_t, kOr_f, dE_orv, kIf_t, kIf_f, dE_ife, kTup_eq, kLst_eq, kV_eq, dE_tup, dE_lst, kCall_eq, dE_call, dE_b1, dE_b2, dE_isi, dE_isE, dE_lr1, dE_lr2, dO_no, kPart_eq, dO_so, dL_nil, kL3_eq, kL2_eq, kL1_eq, dL_cons, dEL_nil, kM3_eq, kM2_t, kM1_eq, dEL_cons, dT_yes, kTr_eq, kBl_eq, kNotT_eq, kAndT_t, kAndT_f, kOrT_t, kOrT_f, dT_tr, dT_cmp, dT_chain, dT_not, dT_and, dT_or, kSq_eq, dI_seq, kRg_eq, dI_rng, kZ3_eq, kZ2_eq, kZ1_eq, dI_zip, kEn_eq, dI_enum, k_add, k_sub, k_mul, k_fdiv, k_mod, k_pow, add_ii, sub_ii, mul_ii, fdiv_ii, mod_ii, pow_ii, neg_i, abs_i, k_eq, k_ne, lt_ii, le_ii, gt_ii, ge_ii, k_is, k_isnot, k_inn, k_notin, is_bb, isn_bb, blK_b, truth_b, truth_i, truth_n, toD_v, toD_f, slotOf_v, slotOf_ft, slotOf_ff, seqOf_l, seqOf_t, seqOf_s, seqOf_f, seqOf_b, lone_i, lone_t, lone_l, lone_b, lone_n, lone_s, lone_f, len_t, len_l, len_f, len_b, len_s, b1_len, b1_all, b1_any, b1_sum, b1_max, b1_tuple, b1_list, b1_int, b1_abs, b1_str, tup_l, tup_t, tup_f, tup_b, lst_l, lst_t, lst_f, lst_b, lst_s, isi_i, isi_b, isi_t, isi_s, isi_n, isi_l, isiT1, isiT2, isiT3, isiT4, isiT5, isiT6, isiT7, isiT8, isiT9, ix_t, ix_l, ix_f, ix_b, ix_s, rev_t, rev_l, partK_i, cut_t, cut_l, cut_f, cut_b, srcOf_l, srcOf_t, srcOf_f, srcOf_b, srcOf_r, srK_l, srK_t, srK_f, srK_b, okI1, okI2, okI3, okI3', okI3'', okI4, okI5, setsE0, setsE1, slotsOf0, slotsOf1, bindT_n, bindT_t, bindT_w, bindTs_0, bindTs_1, fx1, fx2, fx3, fx4, fx5, fx6, fx7, fx8, loopL_nil, dS_whl, endF_ret, endF_nx, endF_exc, trim_self, at0, at1, at2, ne_ii, eq_ii, ne_fr, eq_fr, List.getElem?_cons_succ, List.getElem?_cons_zero, List.set_cons_succ, List.set_cons_zero, Option.map_some, Option.bind_some, Bool.not_true, Bool.not_false, if_true, Bool.false_eq_true, if_false, bind_ok, exS_ok, lift_some, decide_true, decide_false, wipeE, Ph_call, Ph_fuel, Ph_make, bind_exc])
  | `(tactic| simp_arith [$xs,*]) => `(tactic| simp only [seqR_nx, seqR_ret, seqR_exc, seqR_err, dB_nil, dB_cons, dS_doc, dS_pass, kSet2_eq, kSet_eq, dS_set, nxO_some, kAsg2_eq, kAsg_eq, dS_asg, kPar2_eq, kPar_eq, dS_par, kDrop_eq, dS_drop, kRet2_eq, kRet_eq, dS_ret, kRetO_eq, dS_retOwn, kIfS_t, kIfS_f, dS_ife, dS_raise, dS_frz, dS_tryy, slotR_v, slotR_o, dE_slot, dE_cst, dE_fnv, kB2_eq, kB1_eq, kU_eq, dE_bin, dE_cmp, kC3_t, kC3_f, kC2_eq, kC1_eq, dE_chain, dE_ix, kS3_eq, kS2_eq, kS1_eq, dE_sl, dE_rev, dE_neg, kNot_eq, dE_notv, kAnd_t, kAnd_f, dE_andv, kOr_t, kOr_f, dE_orv, kIf_t, kIf_f, dE_ife, kTup_eq, kLst_eq, kV_eq, dE_tup, dE_lst, kCall_eq, dE_call, dE_b1, dE_b2, dE_isi, dE_isE, dE_lr1, dE_lr2, dO_no, kPart_eq, dO_so, dL_nil, kL3_eq, kL2_eq, kL1_eq, dL_cons, dEL_nil, kM3_eq, kM2_t, kM1_eq, dEL_cons, dT_yes, kTr_eq, kBl_eq, kNotT_eq, kAndT_t, kAndT_f, kOrT_t, kOrT_f, dT_tr, dT_cmp, dT_chain, dT_not, dT_and, dT_or, kSq_eq, dI_seq, kRg_eq, dI_rng, kZ3_eq, kZ2_eq, kZ1_eq, dI_zip, kEn_eq, dI_enum, k_add, k_sub, k_mul, k_fdiv, k_mod, k_pow, add_ii, sub_ii, mul_ii, fdiv_ii, mod_ii, pow_ii, neg_i, abs_i, k_eq, k_ne, lt_ii, le_ii, gt_ii, ge_ii, k_is, k_isnot, k_inn, k_notin, is_bb, isn_bb, blK_b, truth_b, truth_i, truth_n, toD_v, toD_f, slotOf_v, slotOf_ft, slotOf_ff, seqOf_l, seqOf_t, seqOf_s, seqOf_f, seqOf_b, lone_i, lone_t, lone_l, lone_b, lone_n, lone_s, lone_f, len_t, len_l, len_f, len_b, len_s, b1_len, b1_all, b1_any, b1_sum, b1_max, b1_tuple, b1_list, b1_int, b1_abs, b1_str, tup_l, tup_t, tup_f, tup_b, lst_l, lst_t, lst_f, lst_b, lst_s, isi_i, isi_b, isi_t, isi_s, isi_n, isi_l, isiT1, isiT2, isiT3, isiT4, isiT5, isiT6, isiT7, isiT8, isiT9, ix_t, ix_l, ix_f, ix_b, ix_s, rev_t, rev_l, partK_i, cut_t, cut_l, cut_f, cut_b, srcOf_l, srcOf_t, srcOf_f, srcOf_b, srcOf_r, srK_l, srK_t, srK_f, srK_b, okI1, okI2, okI3, okI3', okI3'', okI4, okI5, setsE0, setsE1, slotsOf0, slotsOf1, bindT_n, bindT_t, bindT_w, bindTs_0, bindTs_1, fx1, fx2, fx3, fx4, fx5, fx6, fx7, fx8, loopL_nil, dS_whl, endF_ret, endF_nx, endF_exc, trim_self, at0, at1, at2, ne_ii, eq_ii, ne_fr, eq_fr, List.getElem?_cons_succ, List.getElem?_cons_zero, List.set_cons_succ, List.set_cons_zero, Option.map_some, Option.bind_some, Bool.not_true, Bool.not_false, if_true, Bool.false_eq_true, if_false, bind_ok, exS_ok, lift_some, decide_true, decide_false, wipeE, Ph_call, Ph_fuel, Ph_make, bind_exc, $xs,*])
  | `(tactic| simp_arith $l:location) => `(tactic| simp only [seqR_nx, seqR_ret, seqR_exc, seqR_err, dB_nil, dB_cons, dS_doc, dS_pass, kSet2_eq, kSet_eq, dS_set, nxO_some, kAsg2_eq, kAsg_eq, dS_asg, kPar2_eq, kPar_eq, dS_par, kDrop_eq, dS_drop, kRet2_eq, kRet_eq, dS_ret, kRetO_eq, dS_retOwn, kIfS_t, kIfS_f, dS_ife, dS_raise, dS_frz, dS_tryy, slotR_v, slotR_o, dE_slot, dE_cst, dE_fnv, kB2_eq, kB1_eq, kU_eq, dE_bin, dE_cmp, kC3_t, kC3_f, kC2_eq, kC1_eq, dE_chain, dE_ix, kS3_eq, kS2_eq, kS1_eq, dE_sl, dE_rev, dE_neg, kNot_eq, dE_notv, kAnd_t, kAnd_f, dE_andv, kOr_t, kOr_f, dE_orv, kIf_t, kIf_f, dE_ife, kTup_eq, kLst_eq, kV_eq, dE_tup, dE_lst, kCall_eq, dE_call, dE_b1, dE_b2, dE_isi, dE_isE, dE_lr1, dE_lr2, dO_no, kPart_eq, dO_so, dL_nil, kL3_eq, kL2_eq, kL1_eq, dL_cons, dEL_nil, kM3_eq, kM2_t, kM1_eq, dEL_cons, dT_yes, kTr_eq, kBl_eq, kNotT_eq, kAndT_t, kAndT_f, kOrT_t, kOrT_f, dT_tr, dT_cmp, dT_chain, dT_not, dT_and, dT_or, kSq_eq, dI_seq, kRg_eq, dI_rng, kZ3_eq, kZ2_eq, kZ1_eq, dI_zip, kEn_eq, dI_enum, k_add, k_sub, k_mul, k_fdiv, k_mod, k_pow, add_ii, sub_ii, mul_ii, fdiv_ii, mod_ii, pow_ii, neg_i, abs_i, k_eq, k_ne, lt_ii, le_ii, gt_ii, ge_ii, k_is, k_isnot, k_inn, k_notin, is_bb, isn_bb, blK_b, truth_b, truth_i, truth_n, toD_v, toD_f, slotOf_v, slotOf_ft, slotOf_ff, seqOf_l, seqOf_t, seqOf_s, seqOf_f, seqOf_b, lone_i, lone_t, lone_l, lone_b, lone_n, lone_s, lone_f, len_t, len_l, len_f, len_b, len_s, b1_len, b1_all, b1_any, b1_sum, b1_max, b1_tuple, b1_list, b1_int, b1_abs, b1_str, tup_l, tup_t, tup_f, tup_b, lst_l, lst_t, lst_f, lst_b, lst_s, isi_i, isi_b, isi_t, isi_s, isi_n, isi_l, isiT1, isiT2, isiT3, isiT4, isiT5, isiT6, isiT7, isiT8, isiT9, ix_t, ix_l, ix_f, ix_b, ix_s, rev_t, rev_l, partK_i, cut_t, cut_l, cut_f, cut_b, srcOf_l, srcOf_t, srcOf_f, srcOf_b, srcOf_r, srK_l, srK_t, srK_f, srK_b, okI1, okI2, okI3, okI3', okI3'', okI4, okI5, setsE0, setsE1, slotsOf0, slotsOf1, bindT_n, bindT_t, bindT_w, bindTs_0, bindTs_1, fx1, fx2, fx3, fx4, fx5, fx6, fx7, fx8, loopL_nil, dS_whl, endF_ret, endF_nx, endF_exc, trim_self, at0, at1, at2, ne_ii, eq_ii, ne_fr, eq_fr, List.getElem?_cons_succ, List.getElem?_cons_zero, List.set_cons_succ, List.set_cons_zero, Option.map_some, Option.bind_some, Bool.not_true, Bool.not_false, if_true, Bool.false_eq_true, if_false, bind_ok, exS_ok, lift_some, decide_true, decide_false, wipeE, Ph_call, Ph_fuel, Ph_make, bind_exc] $l)
  | `(tactic| simp_arith [$xs,*] $l:location) => `(tactic| simp only [seqR_nx, seqR_ret, seqR_exc, seqR_err, dB_nil, dB_cons, dS_doc, dS_pass, kSet2_eq, kSet_eq, dS_set, nxO_some, kAsg2_eq, kAsg_eq, dS_asg, kPar2_eq, kPar_eq, dS_par, kDrop_eq, dS_drop, kRet2_eq, kRet_eq, dS_ret, kRetO_eq, dS_retOwn, kIfS_t, kIfS_f, dS_ife, dS_raise, dS_frz, dS_tryy, slotR_v, slotR_o, dE_slot, dE_cst, dE_fnv, kB2_eq, kB1_eq, kU_eq, dE_bin, dE_cmp, kC3_t, kC3_f, kC2_eq, kC1_eq, dE_chain, dE_ix, kS3_eq, kS2_eq, kS1_eq, dE_sl, dE_rev, dE_neg, kNot_eq, dE_notv, kAnd_t, kAnd_f, dE_andv, kOr_t, kOr_f, dE_orv, kIf_t, kIf_f, dE_ife, kTup_eq, kLst_eq, kV_eq, dE_tup, dE_lst, kCall_eq, dE_call, dE_b1, dE_b2, dE_isi, dE_isE, dE_lr1, dE_lr2, dO_no, kPart_eq, dO_so, dL_nil, kL3_eq, kL2_eq, kL1_eq, dL_cons, dEL_nil, kM3_eq, kM2_t, kM1_eq, dEL_cons, dT_yes, kTr_eq, kBl_eq, kNotT_eq, kAndT_t, kAndT_f, kOrT_t, kOrT_f, dT_tr, dT_cmp, dT_chain, dT_not, dT_and, dT_or, kSq_eq, dI_seq, kRg_eq, dI_rng, kZ3_eq, kZ2_eq, kZ1_eq, dI_zip, kEn_eq, dI_enum, k_add, k_sub, k_mul, k_fdiv, k_mod, k_pow, add_ii, sub_ii, mul_ii, fdiv_ii, mod_ii, pow_ii, neg_i, abs_i, k_eq, k_ne, lt_ii, le_ii, gt_ii, ge_ii, k_is, k_isnot, k_inn, k_notin, is_bb, isn_bb, blK_b, truth_b, truth_i, truth_n, toD_v, toD_f, slotOf_v, slotOf_ft, slotOf_ff, seqOf_l, seqOf_t, seqOf_s, seqOf_f, seqOf_b, lone_i, lone_t, lone_l, lone_b, lone_n, lone_s, lone_f, len_t, len_l, len_f, len_b, len_s, b1_len, b1_all, b1_any, b1_sum, b1_max, b1_tuple, b1_list, b1_int, b1_abs, b1_str, tup_l, tup_t, tup_f, tup_b, lst_l, lst_t, lst_f, lst_b, lst_s, isi_i, isi_b, isi_t, isi_s, isi_n, isi_l, isiT1, isiT2, isiT3, isiT4, isiT5, isiT6, isiT7, isiT8, isiT9, ix_t, ix_l, ix_f, ix_b, ix_s, rev_t, rev_l, partK_i, cut_t, cut_l, cut_f, cut_b, srcOf_l, srcOf_t, srcOf_f, srcOf_b, srcOf_r, srK_l, srK_t, srK_f, srK_b, okI1, okI2, okI3, okI3', okI3'', okI4, okI5, setsE0, setsE1, slotsOf0, slotsOf1, bindT_n, bindT_t, bindT_w, bindTs_0, bindTs_1, fx1, fx2, fx3, fx4, fx5, fx6, fx7, fx8, loopL_nil, dS_whl, endF_ret, endF_nx, endF_exc, trim_self, at0, at1, at2, ne_ii, eq_ii, ne_fr, eq_fr, List.getElem?_cons_succ, List.getElem?_cons_zero, List.set_cons_succ, List.set_cons_zero, Option.map_some, Option.bind_some, Bool.not_true, Bool.not_false, if_true, Bool.false_eq_true, if_false, bind_ok, exS_ok, lift_some, decide_true, decide_false, wipeE, Ph_call, Ph_fuel, Ph_make, bind_exc, $xs,*] $l)
theorem dS_app_own {T : Tab} {Φ : Phi} {env : Env'} {h h1 : AH} {i : Nat} {e : XE} {ds : List D} {ev : EV} {d : D} (hi : env[i]? = some (some (.own ds))) (he : denE T Φ e env h = .ok ev h1) (hd : ev.toD = some d) (hl : ds.length < 1000) : denS T Φ (.m1 i .app e) env h = .nx (env.set i (some (.own (ds ++ [d])))) h1 := by
  have hl2 : ds.length < sizeLine := Nat.lt_of_lt_of_le hl (by decide)
  have g : ∀ h, getL i env h = some ds := fun h => by unfold getL; rw [hi]
  rw [dS_m1 (ds := ds) (ds' := ds ++ [d]) (by rw [g]; simp) he (g _) (by rw [k1_app]; unfold appK; rw [hd]; simp only [if_pos hl2])]
  unfold putE putH
  rw [hi]
theorem eq_nil_f {α : Type} (h : AH) (f : α → D) (hf : ∀ a, plainD 59 (f a) = true) (l : List α) : eqK false h (.f (l.map f)) (.f []) = some (.v (.bl l.isEmpty)) := by
  have e : evD h (.f (l.map f)) = some (.lst (l.map f)) := rfl
  have e2 : evD h (.f []) = some (.lst []) := rfl
  have e3 : plainD 60 (.lst []) = true := by simp [plainD, plainDs]
  have e4 : eqvD (.lst (l.map f)) (.lst []) = l.isEmpty := by
    cases l with
    | nil => simp [eqvD, toPy, toPys, PyData.eqv, PyData.eqvAll]
    | cons a l => simp [eqvD, toPy, toPys, PyData.eqv, PyData.eqvAll]
  simp [eqK, e, e2, e3, e4, pl_lst f 59 hf l]
theorem pl_mkTh (a b : Int) (T : Nat × List Rat × List (Int × Int × List Rat)) : plainD 60 (mkTh a b T) = true := by
  have p1 := pl_tup D.int 57 (fun _ => by simp [plainD]) (a :: (T.2.2.map (·.1) ++ [b]))
  have p2 := pl_tup D.int 57 (fun _ => by simp [plainD]) (T.2.2.map (·.2.1))
  have p3 := pl_fn 56 (T.2.1 :: T.2.2.map (·.2.2))
  unfold mkTh
  rw [plainD, plainDs, plainD, plainDs, plainDs, plainDs, plainDs, p1, p2, plainDs, plainDs, p3]
  simp [plainD]
theorem iD_mkTh (a b : Int) (T : Nat × List Rat × List (Int × Int × List Rat)) : iD (mkTh a b T) = true := by
  have p1 := iD_tup D.int iD_int (a :: (T.2.2.map (·.1) ++ [b]))
  have p2 := iD_tup D.int iD_int (T.2.2.map (·.2.1))
  have p3 := iD_fn (T.2.1 :: T.2.2.map (·.2.2))
  unfold mkTh
  rw [iD, iDs, iD, iDs, iDs, iDs, p1, p2, iDs, iDs, p3, iDs]
  simp [iD]
theorem eq_mkTh (h : AH) (a b a' b' : Int) (T T' : Nat × List Rat × List (Int × Int × List Rat)) (k : Bool) (hb : k = true ↔ mkTh a b T = mkTh a' b' T') : eqK false h (.v (mkTh a b T)) (.v (mkTh a' b' T')) = some (.v (.bl k)) ∧ eqK true h (.v (mkTh a b T)) (.v (mkTh a' b' T')) = some (.v (.bl (!k))) :=
  eq_iD h _ _ (pl_mkTh a b T) (pl_mkTh a' b' T') (iD_mkTh a b T) (iD_mkTh a' b' T') k hb
theorem mkTh_inj {a b a' b' : Int} {T T' : Nat × List Rat × List (Int × Int × List Rat)} (e : mkTh a b T = mkTh a' b' T') : a = a' ∧ b = b' ∧ T = T' := by
  obtain ⟨d, p, t⟩ := T
  obtain ⟨d', p', t'⟩ := T'
  unfold mkTh at e
  simp only [D.tup.injEq, List.cons.injEq, D.int.injEq, and_true] at e
  obtain ⟨⟨e1, e2, e3⟩, e4⟩ := e
  have e2 := map_inj int_inj e2
  have e3 := map_inj int_inj e3
  have e4 := fn_inj (p :: t.map (·.2.2)) (p' :: t'.map (·.2.2)) (by unfold fnD; rw [e4])
  simp only [List.cons.injEq] at e2 e4
  have e5 := List.append_inj' e2.2 rfl
  have key : ∀ (t t' : List (Int × Int × List Rat)), t.map (·.1) = t'.map (·.1) → t.map (·.2.1) = t'.map (·.2.1) → t.map (·.2.2) = t'.map (·.2.2) → t = t' := by
    intro t
    induction t with
    | nil => intro t' h1 _ _; cases t' with
      | nil => rfl
      | cons _ _ => cases h1
    | cons z t ih => intro t' h1 h2 h3; cases t' with
      | nil => cases h1
      | cons y t' =>
        simp only [List.map_cons, List.cons.injEq] at h1 h2 h3
        obtain ⟨z1, z2, z3⟩ := z
        obtain ⟨y1, y2, y3⟩ := y
        simp only at h1 h2 h3
        rw [ih t' h1.2 h2.2 h3.2, h1.1, h2.1, h3.1]
  refine ⟨e2.1, by simpa using e5.2, ?_⟩
  rw [key t t' e5.1 e3 e4.2, e4.1, show d = d' by omega]
section
variable {deg : Nat} {kn : List Int} {jo : List Nat} (K : KOk deg kn jo) {n : Nat} {f : List (List Rat)} (R : ROk deg kn n f) (hn : 0 < n) (hn2 : n ≤ 800) (h : AH)
include K R hn hn2
theorem r_are_same {deg' : Nat} {kn' : List Int} {jo' : List Nat} (K' : KOk deg' kn' jo') {f' : List (List Rat)} (R' : ROk deg' kn' n f') (hj : joinB kn jo f = true) (hj' : joinB kn' jo' f' = true) (b : Bool) (hb : b = true ↔ thinR deg kn f = thinR deg' kn' f') {d : Nat} (hd : 13 ≤ d) : Rn d k_are_same [kindD deg kn jo, fnD f, kindD deg' kn' jo', fnD f'] h = .ok (.bl b) h := by
  obtain ⟨d, rfl⟩ : ∃ e, d = e + 1 := ⟨d - 1, by omega⟩
  have z1 := r_check_both K R hn (by omega) h (d := d) (by omega) hj
  have z2 := r_check_both K' R' hn (by omega) h (d := d) (by omega) hj'
  have y1 := r_found_thinned h deg K R hn (by omega) (d := d) (by have := K.d3; omega)
  have y2 := r_found_thinned h deg' K' R' hn (by omega) (d := d) (by have := K'.d3; omega)
  obtain ⟨a, p, r, c, cv⟩ := cv_of K.l2 R.len
  obtain ⟨a', p', r', c', cv'⟩ := cv_of K'.l2 R'.len
  rw [thinR_eq deg cv, thinR_eq deg' cv'] at hb
  rw [thinR_eq deg cv] at y1
  rw [thinR_eq deg' cv'] at y2
  have e := (eq_mkTh h a c a' c' _ _ b hb).1
  rw [u_are_same, x_are_same]
  simp_arith [z1, z2, y1, y2, e]
end
/-! ### by the law -/
def redR : Nat → List Rat → Pcs → Nat × List Rat × Pcs
  | 0, p, r => (0, p, r)
  | deg + 1, p, r => if 1 ≤ deg ∧ lz p r = true then redR deg p.dropLast (dropP r) else (deg + 1, p, r)
theorem thR_red : ∀ (deg : Nat) (p : List Rat) (r : Pcs), thR deg p r = ((redR deg p r).1, (redR deg p r).2.1, thn (redR deg p r).1 (redR deg p r).2.1 (redR deg p r).2.2)
  | 0, _, _ => rfl
  | deg + 1, p, r => by
    rw [thR, redR]
    split
    · exact thR_red deg _ _
    · rfl
theorem redR_ok : ∀ (deg : Nat) {n : Nat} {p : List Rat} {r : Pcs}, 1 ≤ deg → PL deg p r → SzL n p → (∀ z ∈ r, SzL n z.2) → 1 ≤ (redR deg p r).1 ∧ (redR deg p r).1 ≤ deg ∧ PL (redR deg p r).1 (redR deg p r).2.1 (redR deg p r).2.2 ∧ SzL n (redR deg p r).2.1 ∧ (∀ z ∈ (redR deg p r).2.2, SzL n z.2) ∧ (redR deg p r).2.2.map (·.1) = r.map (·.1)
  | 0, _, _, _, h, _, _, _ => by omega
  | deg + 1, n, p, r, h1, pl, sp, sr => by
    rw [redR]
    split
    · rename_i q
      have e : (dropP r).map (·.1) = r.map (·.1) := by simp [dropP, List.map_map, Function.comp_def]
      obtain ⟨a1, a2, a3, a4, a5, a6⟩ := redR_ok deg (n := n) q.1 pl.drop (fun x hx => sp x ((List.dropLast_sublist p).mem hx)) (fun z hz => by
        obtain ⟨y, hy, rfl⟩ := List.mem_map.mp hz
        exact fun x hx => sr y hy x ((List.dropLast_sublist y.2).mem hx))
      exact ⟨a1, by omega, a3, a4, a5, a6.trans e⟩
    · exact ⟨h1, Nat.le_refl _, pl, sp, sr, rfl⟩
abbrev pcsF (p : List Rat) (r : Pcs) : List (List Rat) := p :: r.map (·.2)
theorem lt_t (d : Nat) (h : AH) (F : List (List Rat)) (hl : F.length ≤ 100) (hne : ∀ p ∈ F, p ≠ []) (a b c e2 e5 e6 e7 e8 : Option Slot) : denE t__law_thinned (Ph d) (.lc (.seq (.slot 1)) (.name 9) (.cmp .ne (.ix (.slot 9) (.neg (.cst (.int 1)))) (.tup (.cons (.cst (.int 0)) (.cons (.cst (.int 1)) (.nil))))) (.slot 9) [9]) [a, some (.val (fnD F)), e2, b, c, e5, e6, e7, e8, none] h = .ok (.f ((F.filter fun p => !decide (p.getLastD 0 = 0)).map rowD)) h := by
  refine dE_lcf rowD rowD (fun p => !decide (p.getLastD 0 = 0)) F (sr := .one (.fx (F.map rowD))) (by simp_arith) rfl (by omega) fun p hp => ?_
  have l := last_fr (hne p hp)
  have ef : D.tup [.int 0, .int 1] = frD 0 := rfl
  exact ⟨_, _, bindT_n _ _, by simp_arith [l, ef], by simp_arith; rfl, rfl⟩
theorem lt_d (d : Nat) (h : AH) (F : List (List Rat)) (hl : F.length ≤ 100) (a b c e2 e5 e6 e7 e8 : Option Slot) : denE t__law_thinned (Ph d) (.lc (.seq (.slot 1)) (.name 9) (.yes) (.sl (.slot 9) .no (.so (.neg (.cst (.int 1))))) [9]) [a, some (.val (fnD F)), e2, b, c, e5, e6, e7, e8, none] h = .ok (.f ((F.map List.dropLast).map rowD)) h := by
  rw [List.map_map]
  refine dE_lcm rowD (fun p => rowD p.dropLast) F (sr := .one (.fx (F.map rowD))) (by simp_arith) rfl (size_le (by omega)) fun p hp => ?_
  exact ⟨_, _, bindT_n _ _, rfl, by simp_arith [cut_dropLast, ← List.map_dropLast]; rfl, rfl⟩
theorem filter_lz (p : List Rat) (r : Pcs) : ((pcsF p r).filter fun p => !decide (p.getLastD 0 = 0)).isEmpty = lz p r := by
  unfold lz pcsF
  rw [Bool.eq_iff_iff]
  simp [List.filter_eq_nil_iff]
  exact fun _ => ⟨fun k a b => k b a, fun k a b => k b a⟩
theorem wh_th (d : Nat) (h : AH) (a c : Option Slot) : ∀ (deg : Nat) (p : List Rat) (r : Pcs) (fuel : Nat), deg < fuel → r.length ≤ 50 → PL deg p r → 1 ≤ deg →
    whN (denT t__law_thinned (Ph d) (.and (.cmp .gt (.slot 3) (.cst (.int 1))) (.cmp .eq (.lc (.seq (.slot 1)) (.name 9) (.cmp .ne (.ix (.slot 9) (.neg (.cst (.int 1)))) (.tup (.cons (.cst (.int 0)) (.cons (.cst (.int 1)) (.nil))))) (.slot 9) [9]) (.lst (.nil))))) (denB t__law_thinned (Ph d) (.cons (.par [3, 1] [false, false] (.cons (.bin .sub (.slot 3) (.cst (.int 1))) (.cons (.b1 .tuple (.lc (.seq (.slot 1)) (.name 9) (.yes) (.sl (.slot 9) .no (.so (.neg (.cst (.int 1))))) [9])) (.nil)))) (.nil))) fuel [a, some (.val (fnD (pcsF p r))), none, some (.val (.int (deg : Int))), c, none, none, none, none, none] h = .nx [a, some (.val (fnD (pcsF (redR deg p r).2.1 (redR deg p r).2.2))), none, some (.val (.int ((redR deg p r).1 : Int))), c, none, none, none, none, none] h
  | 0, _, _, _, _, _, _, h => by omega
  | deg + 1, p, r, 0, hf, _, _, _ => by omega
  | deg + 1, p, r, fuel + 1, hf, hl, pl, _ => by
    have hne : ∀ q ∈ pcsF p r, q ≠ [] := fun q hq e => by
      have : q.length = deg + 1 + 1 := by
        rcases List.mem_cons.mp hq with rfl | hq
        · exact pl.1
        · obtain ⟨z, hz, rfl⟩ := List.mem_map.mp hq
          exact pl.2 z hz
      rw [e] at this; simp at this
    have z1 := lt_t d h (pcsF p r) (by simp; omega) hne a (some (.val (.int ((deg + 1 : Nat) : Int)))) c none none none none none
    have z2 := lt_d d h (pcsF p r) (by simp; omega) a (some (.val (.int ((deg + 1 : Nat) : Int)))) c none none none none none
    have z3 := eq_nil_f h rowD (pl_row 57) ((pcsF p r).filter fun p => !decide (p.getLastD 0 = 0))
    rw [filter_lz] at z3
    rw [redR]
    by_cases q : 1 ≤ deg ∧ lz p r = true
    · rw [if_pos q]
      have g : (1 : Int) < ((deg + 1 : Nat) : Int) := by omega
      have e : (pcsF p r).map List.dropLast = pcsF p.dropLast (dropP r) := by simp [pcsF, dropP, List.map_map, Function.comp_def]
      rw [e] at z2
      have ed : (((deg + 1 : Nat) : Int) - 1) = (deg : Int) := by omega
      rw [whN_true (h1 := h) (h' := h) (env' := [a, some (.val (fnD (pcsF p.dropLast (dropP r)))), none, some (.val (.int (deg : Int))), c, none, none, none, none, none]) (by simp_arith [decide_eq_true g, z1, z3, q.2]) (by simp_arith [z2, ed])]
      exact wh_th d h a c deg p.dropLast (dropP r) fuel (by omega) (by simp [dropP]; omega) pl.drop q.1
    · rw [if_neg q]
      rw [whN_false (h1 := h) (by
        by_cases g : (1 : Int) < ((deg + 1 : Nat) : Int)
        · have : lz p r = false := by
            cases e : lz p r with
            | false => rfl
            | true => exact absurd ⟨by omega, e⟩ q
          simp_arith [decide_eq_true g, z1, z3, this]
        · simp_arith [decide_eq_false g])]
def thB : XB := (.cons (.set 8 false (.call k__law_agreeing (.cons (.ix (.slot 1) (.bin .sub (.slot 2) (.cst (.int 1)))) (.cons (.ix (.slot 1) (.slot 2)) (.cons (.ix (.slot 4) (.slot 2)) (.nil)))))) (.cons (.ife (.cmp .lt (.slot 8) (.slot 3)) (.cons (.m1 5 .app (.ix (.slot 1) (.slot 2))) (.cons (.m1 6 .app (.ix (.slot 4) (.slot 2))) (.cons (.m1 7 .app (.slot 8)) (.nil)))) (.nil)) (.nil)))
theorem lp_th (d : Nat) (hd : 4 ≤ d) (h : AH) (a : Option Slot) {deg : Nat} (h1 : 1 ≤ deg) (h3 : deg ≤ 3) (kn : List Int) (f : List (List Rat)) {n : Nat} (hf : ∀ p ∈ f, p.length = deg + 1 ∧ SzL n p) (hn : 0 < n) (hn2 : n ≤ 800) (hk : ∀ x ∈ kn, x.natAbs < 2 ^ 10) (hl : f.length + 1 = kn.length) (hl2 : kn.length ≤ 6) : ∀ (m k : Nat) (F : List (List Rat)) (X J : List Int) (o2 o8 : Option Slot), k + m + 1 = f.length → F.length ≤ k + 1 → X.length ≤ k → J.length ≤ k →
    ∃ o2' o8', loopL (.name 2) (denB t__law_thinned (Ph d) thB) ((List.range' k m).map fun i => .int (1 + (i : Nat))) [a, some (.val (fnD f)), o2, some (.val (.int (deg : Int))), some (.val (.tup (kn.map D.int))), some (.own (F.map rowD)), some (.own (X.map D.int)), some (.own (J.map D.int)), o8, none] h
      = .nx [a, some (.val (fnD f)), o2', some (.val (.int (deg : Int))), some (.val (.tup (kn.map D.int))), some (.own ((F ++ (thn deg (f.getD k []) (((inner kn).drop k).zip (f.drop (k + 1)))).map (·.2.2)).map rowD)), some (.own ((X ++ (thn deg (f.getD k []) (((inner kn).drop k).zip (f.drop (k + 1)))).map (·.1)).map D.int)), some (.own ((J ++ (thn deg (f.getD k []) (((inner kn).drop k).zip (f.drop (k + 1)))).map (·.2.1)).map D.int)), o8', none] h := by
  intro m
  induction m with
  | zero =>
    intro k F X J o2 o8 hk' _ _ _
    have e : (inner kn).drop k = [] := List.drop_eq_nil_of_le (by rw [inner_len]; omega)
    refine ⟨o2, o8, ?_⟩
    rw [e, List.zip_nil_left, thn]
    simp
  | succ m ih =>
    intro k F X J o2 o8 hk' lF lX lJ
    have hi : k < (inner kn).length := by rw [inner_len]; omega
    have e1 : (inner kn).drop k = kn.getD (k + 1) 0 :: (inner kn).drop (k + 1) := by
      rw [List.drop_eq_getElem_cons hi, ← inner_getD kn (by rw [inner_len] at hi; omega), List.getD_eq_getElem?_getD, List.getElem?_eq_getElem hi]
      rfl
    have e2 : f.drop (k + 1) = f.getD (k + 1) [] :: f.drop (k + 2) := by
      have hk2 : k + 1 < f.length := by omega
      rw [List.drop_eq_getElem_cons hk2]
      simp [hk2]
    have m1 := getD_mem (z := ([] : List Rat)) (show k < f.length by omega)
    have m2 := getD_mem (z := ([] : List Rat)) (show k + 1 < f.length by omega)
    have m3 := getD_mem (z := (0 : Int)) (show k + 1 < kn.length by omega)
    have z := l_agreeing h1 h3 (hf _ m1).1 (hf _ m2).1 (hf _ m1).2 (hf _ m2).2 hn hn2 (hk _ m3) h (d := d) hd
    have g1 := get_row (show k < f.length by omega)
    have g2 := get_row (show k + 1 < f.length by omega)
    have g3 := get_int (show k + 1 < kn.length by omega)
    have i1 : (1 + (k : Int)) - 1 = (k : Int) := by omega
    have i2 : (1 + (k : Int)) = ((k + 1 : Nat) : Int) := by omega
    rw [List.range'_succ, List.map_cons, loopL_cons (env' := [a, some (.val (fnD f)), some (.val (.int ((k + 1 : Nat) : Int))), some (.val (.int (deg : Int))), some (.val (.tup (kn.map D.int))), some (.own (F.map rowD)), some (.own (X.map D.int)), some (.own (J.map D.int)), o8, none]) (by simp [i2])]
    have i3 : (((k + 1 : Nat) : Int) - 1) = (k : Int) := by omega
    rw [e1, e2, List.zip_cons_cons, thn]
    have st : denS t__law_thinned (Ph d) (.set 8 false (.call k__law_agreeing (.cons (.ix (.slot 1) (.bin .sub (.slot 2) (.cst (.int 1)))) (.cons (.ix (.slot 1) (.slot 2)) (.cons (.ix (.slot 4) (.slot 2)) (.nil)))))) [a, some (.val (fnD f)), some (.val (.int ((k + 1 : Nat) : Int))), some (.val (.int (deg : Int))), some (.val (.tup (kn.map D.int))), some (.own (F.map rowD)), some (.own (X.map D.int)), some (.own (J.map D.int)), o8, none] h = .nx [a, some (.val (fnD f)), some (.val (.int ((k + 1 : Nat) : Int))), some (.val (.int (deg : Int))), some (.val (.tup (kn.map D.int))), some (.own (F.map rowD)), some (.own (X.map D.int)), some (.own (J.map D.int)), some (.val (.int (agr (f.getD k []) (f.getD (k + 1) []) ((kn.getD (k + 1) 0 : Int) : Rat)))), none] h := by
      simp_arith [i3, at_nat, g1, g2, g3, z]
    by_cases c : agr (f.getD k []) (f.getD (k + 1) []) ((kn.getD (k + 1) 0 : Int) : Rat) < (deg : Int)
    · rw [if_pos c]
      obtain ⟨o2', o8', y⟩ := ih (k + 1) (F ++ [f.getD (k + 1) []]) (X ++ [kn.getD (k + 1) 0]) (J ++ [agr (f.getD k []) (f.getD (k + 1) []) ((kn.getD (k + 1) 0 : Int) : Rat)]) (some (.val (.int ((k + 1 : Nat) : Int)))) (some (.val (.int (agr (f.getD k []) (f.getD (k + 1) []) ((kn.getD (k + 1) 0 : Int) : Rat))))) (by omega) (by simp; omega) (by simp; omega) (by simp; omega)
      refine ⟨o2', o8', ?_⟩
      have b : denB t__law_thinned (Ph d) thB [a, some (.val (fnD f)), some (.val (.int ((k + 1 : Nat) : Int))), some (.val (.int (deg : Int))), some (.val (.tup (kn.map D.int))), some (.own (F.map rowD)), some (.own (X.map D.int)), some (.own (J.map D.int)), o8, none] h = .nx [a, some (.val (fnD f)), some (.val (.int ((k + 1 : Nat) : Int))), some (.val (.int (deg : Int))), some (.val (.tup (kn.map D.int))), some (.own ((F ++ [f.getD (k + 1) []]).map rowD)), some (.own ((X ++ [kn.getD (k + 1) 0]).map D.int)), some (.own ((J ++ [agr (f.getD k []) (f.getD (k + 1) []) ((kn.getD (k + 1) 0 : Int) : Rat)]).map D.int)), some (.val (.int (agr (f.getD k []) (f.getD (k + 1) []) ((kn.getD (k + 1) 0 : Int) : Rat)))), none] h := by
        unfold thB
        refine stS st ?_
        simp_arith [decide_eq_true c]
        rw [dS_app_own (ds := F.map rowD) (d := rowD (f.getD (k + 1) [])) (by simp_arith) (by simp_arith [at_nat, g2]; rfl) rfl (by simp; omega), seqR_nx]
        simp_arith
        rw [dS_app_own (ds := X.map D.int) (d := .int (kn.getD (k + 1) 0)) (by simp_arith) (by simp_arith [at_nat, g3]; rfl) rfl (by simp; omega), seqR_nx]
        simp_arith
        rw [dS_app_own (ds := J.map D.int) (d := .int (agr (f.getD k []) (f.getD (k + 1) []) ((kn.getD (k + 1) 0 : Int) : Rat))) (by simp_arith) (by simp_arith; rfl) rfl (by simp; omega), seqR_nx]
        simp_arith [List.map_append, List.map_cons, List.map_nil]
      rw [b, seqR_nx, y]
      simp
    · rw [if_neg c]
      obtain ⟨o2', o8', y⟩ := ih (k + 1) F X J (some (.val (.int ((k + 1 : Nat) : Int)))) (some (.val (.int (agr (f.getD k []) (f.getD (k + 1) []) ((kn.getD (k + 1) 0 : Int) : Rat))))) (by omega) (by omega) (by omega) (by omega)
      refine ⟨o2', o8', ?_⟩
      have b : denB t__law_thinned (Ph d) thB [a, some (.val (fnD f)), some (.val (.int ((k + 1 : Nat) : Int))), some (.val (.int (deg : Int))), some (.val (.tup (kn.map D.int))), some (.own (F.map rowD)), some (.own (X.map D.int)), some (.own (J.map D.int)), o8, none] h = .nx [a, some (.val (fnD f)), some (.val (.int ((k + 1 : Nat) : Int))), some (.val (.int (deg : Int))), some (.val (.tup (kn.map D.int))), some (.own (F.map rowD)), some (.own (X.map D.int)), some (.own (J.map D.int)), some (.val (.int (agr (f.getD k []) (f.getD (k + 1) []) ((kn.getD (k + 1) 0 : Int) : Rat)))), none] h := by
        unfold thB
        refine stS st ?_
        simp_arith [decide_eq_false c]
      rw [b, seqR_nx, y]
end Lw

/-! k13: thinned forms by the law, knots put in -/
namespace Lw
open PySem PySem.Spec PyProof.Rows L2 J
local macro_rules
  | `(tactic| simp_arith) => `(tactic| simp only [seqR_nx, seqR_ret, seqR_exc, seqR_err, dB_nil, dB_cons, dS_doc, dS_pass, kSet2_eq, kSet_eq, dS_set, nxO_some, kAsg2_eq, kAsg_eq, dS_asg, kPar2_eq, kPar_eq, dS_par, kDrop_eq, dS_drop, kRet2_eq, kRet_eq, dS_ret, kRetO_eq, dS_retOwn, kIfS_t, kIfS_f, dS_ife, dS_raise, dS_frz, dS_tryy, slotR_v, slotR_o, dE_slot, dE_cst, dE_fnv, kB2_eq, kB1_eq, kU_eq, dE_bin, dE_cmp, kC3_t, kC3_f, kC2_eq, kC1_eq, dE_chain, dE_ix, kS3_eq, kS2_eq, kS1_eq, dE_sl, dE_rev, dE_neg, kNot_eq, dE_notv, kAnd_t, kAnd_f, dE_andv, kOr_t, kOr_f, dE_orv, kIf_t, kIf_f, dE_ife, kTup_eq, kLst_eq, kV_eq, dE_tup, dE_lst, kCall_eq, dE_call, dE_b1, dE_b2, dE_isi, dE_isE, dE_lr1, dE_lr2, dO_no, kPart_eq, dO_so, dL_nil, kL3_eq, kL2_eq, kL1_eq, dL_cons, dEL_nil, kM3_eq, kM2_t, kM1_eq, dEL_cons, dT_yes, kTr_eq, kBl_eq, kNotT_eq, kAndT_t, kAndT_f, kOrT_t, kOrT_f, dT_tr, dT_cmp, dT_chain, dT_not, dT_and, dT_or, kSq_eq, dI_seq, kRg_eq, dI_rng, kZ3_eq, kZ2_eq, kZ1_eq, dI_zip, kEn_eq, dI_enum, k_add, k_sub, k_mul, k_fdiv, k_mod, k_pow, add_ii, sub_ii, mul_ii, fdiv_ii, mod_ii, pow_ii, neg_i, abs_i, k_eq, k_ne, lt_ii, le_ii, gt_ii, ge_ii, k_is, k_isnot, k_inn, k_notin, is_bb, isn_bb, blK_b, truth_b, truth_i, truth_n, toD_v, toD_f, slotOf_v, slotOf_ft, slotOf_ff, seqOf_l, seqOf_t, seqOf_s, seqOf_f, seqOf_b, lone_i, lone_t, lone_l, lone_b, lone_n, lone_s, lone_f, len_t, len_l, len_f, len_b, len_s, b1_len, b1_all, b1_any, b1_sum, b1_max, b1_tuple, b1_list, b1_int, b1_abs, b1_str, tup_l, tup_t, tup_f, tup_b, lst_l, lst_t, lst_f, lst_b, lst_s, isi_i, isi_b, isi_t, isi_s, isi_n, isi_l, isiT1, isiT2, isiT3, isiT4, isiT5, isiT6, isiT7, isiT8, isiT9, ix_t, ix_l, ix_f, ix_b, ix_s, rev_t, rev_l, partK_i, cut_t, cut_l, cut_f, cut_b, srcOf_l, srcOf_t, srcOf_f, srcOf_b, srcOf_r, srK_l, srK_t, srK_f, srK_b, okI1, okI2, okI3, okI3', okI3'', okI4, okI5, setsE0, setsE1, slotsOf0, slotsOf1, bindT_n, bindT_t, bindT_w, bindTs_0, bindTs_1, fx1, fx2, fx3, fx4, fx5, fx6, fx7, fx8, loopL_nil, dS_whl, endF_ret, endF_nx, endF_exc, trim_self, at0, at1, at2, ne_ii, eq_ii, ne_fr, eq_fr, List.getElem?_cons_succ, List.getElem?_cons_zero, List.set_cons_succ, List.set_cons_zero, Option.map_some, Option.bind_some, Bool.not_true, Bool.not_false, if_true, Bool.false_eq_true, if_false, bind_ok, exS_ok, lift_some, decide_true, decide_false, wipeE, Ph_call, Ph_fuel, Ph_make, bind_exc])
  | `(tactic| simp_arith [$xs,*]) => `(tactic| simp only [seqR_nx, seqR_ret, seqR_exc, seqR_err, dB_nil, dB_cons, dS_doc, dS_pass, kSet2_eq, kSet_eq, dS_set, nxO_some, kAsg2_eq, kAsg_eq, dS_asg, kPar2_eq, kPar_eq, dS_par, kDrop_eq, dS_drop, kRet2_eq, kRet_eq, dS_ret, kRetO_eq, dS_retOwn, kIfS_t, kIfS_f, dS_ife, dS_raise, dS_frz, dS_tryy, slotR_v, slotR_o, dE_slot, dE_cst, dE_fnv, kB2_eq, kB1_eq, kU_eq, dE_bin, dE_cmp, kC3_t, kC3_f, kC2_eq, kC1_eq, dE_chain, dE_ix, kS3_eq, kS2_eq, kS1_eq, dE_sl, dE_rev, dE_neg, kNot_eq, dE_notv, kAnd_t, kAnd_f, dE_andv, kOr_t, kOr_f, dE_orv, kIf_t, kIf_f, dE_ife, kTup_eq, kLst_eq, kV_eq, dE_tup, dE_lst, kCall_eq, dE_call, dE_b1, dE_b2, dE_isi, dE_isE, dE_lr1, dE_lr2, dO_no, kPart_eq, dO_so, dL_nil, kL3_eq, kL2_eq, kL1_eq, dL_cons, dEL_nil, kM3_eq, kM2_t, kM1_eq, dEL_cons, dT_yes, kTr_eq, kBl_eq, kNotT_eq, kAndT_t, kAndT_f, kOrT_t, kOrT_f, dT_tr, dT_cmp, dT_chain, dT_not, dT_and, dT_or, kSq_eq, dI_seq, kRg_eq, dI_rng, kZ3_eq, kZ2_eq, kZ1_eq, dI_zip, kEn_eq, dI_enum, k_add, k_sub, k_mul, k_fdiv, k_mod, k_pow, add_ii, sub_ii, mul_ii, fdiv_ii, mod_ii, pow_ii, neg_i, abs_i, k_eq, k_ne, lt_ii, le_ii, gt_ii, ge_ii, k_is, k_isnot, k_inn, k_notin, is_bb, isn_bb, blK_b, truth_b, truth_i, truth_n, toD_v, toD_f, slotOf_v, slotOf_ft, slotOf_ff, seqOf_l, seqOf_t, seqOf_s, seqOf_f, seqOf_b, lone_i, lone_t, lone_l, lone_b, lone_n, lone_s, lone_f, len_t, len_l, len_f, len_b, len_s, b1_len, b1_all, b1_any, b1_sum, b1_max, b1_tuple, b1_list, b1_int, b1_abs, b1_str, tup_l, tup_t, tup_f, tup_b, lst_l, lst_t, lst_f, lst_b, lst_s, isi_i, isi_b, isi_t, isi_s, isi_n, isi_l, isiT1, isiT2, isiT3, isiT4, isiT5, isiT6, isiT7, isiT8, isiT9, ix_t, ix_l, ix_f, ix_b, ix_s, rev_t, rev_l, partK_i, cut_t, cut_l, cut_f, cut_b, srcOf_l, srcOf_t, srcOf_f, srcOf_b, srcOf_r, srK_l, srK_t, srK_f, srK_b, okI1, okI2, okI3, okI3', okI3'', okI4, okI5, setsE0, setsE1, slotsOf0, slotsOf1, bindT_n, bindT_t, bindT_w, bindTs_0, bindTs_1, fx1, fx2, fx3, fx4, fx5, fx6, fx7, fx8, loopL_nil, dS_whl, endF_ret, endF_nx, endF_exc, trim_self, at0, at1, at2, ne_ii, eq_ii, ne_fr, eq_fr, List.getElem?_cons_succ, List.getElem?_cons_zero, List.set_cons_succ, List.set_cons_zero, Option.map_some, Option.bind_some, Bool.not_true, Bool.not_false, if_true, Bool.false_eq_true, if_false, bind_ok, exS_ok, lift_some, decide_true, decide_false, wipeE, Ph_call, Ph_fuel, Ph_make, bind_exc, $xs,*])
  | `(tactic| simp_arith $l:location) => `(tactic| simp only [seqR_nx, seqR_ret, seqR_exc, seqR_err, dB_nil, dB_cons, dS_doc, dS_pass, kSet2_eq, kSet_eq, dS_set, nxO_some, kAsg2_eq, kAsg_eq, dS_asg, kPar2_eq, kPar_eq, dS_par, kDrop_eq, dS_drop, kRet2_eq, kRet_eq, dS_ret, kRetO_eq, dS_retOwn, kIfS_t, kIfS_f, dS_ife, dS_raise, dS_frz, dS_tryy, slotR_v, slotR_o, dE_slot, dE_cst, dE_fnv, kB2_eq, kB1_eq, kU_eq, dE_bin, dE_cmp, kC3_t, kC3_f, kC2_eq, kC1_eq, dE_chain, dE_ix, kS3_eq, kS2_eq, kS1_eq, dE_sl, dE_rev, dE_neg, kNot_eq, dE_notv, kAnd_t, kAnd_f, dE_andv, kOr_t, kOr_f, dE_orv, kIf_t, kIf_f, dE_ife, kTup_eq, kLst_eq, kV_eq, dE_tup, dE_lst, kCall_eq, dE_call, dE_b1, dE_b2, dE_isi, dE_isE, dE_lr1, dE_lr2, dO_no, kPart_eq, dO_so, dL_nil, kL3_eq, kL2_eq, kL1_eq, dL_cons, dEL_nil, kM3_eq, kM2_t, kM1_eq, dEL_cons, dT_yes, kTr_eq, kBl_eq, kNotT_eq, kAndT_t, kAndT_f, kOrT_t, kOrT_f, dT_tr, dT_cmp, dT_chain, dT_not, dT_and, dT_or, kSq_eq, dI_seq, kRg_eq, dI_rng, kZ3_eq, kZ2_eq, kZ1_eq, dI_zip, kEn_eq, dI_enum, k_add, k_sub, k_mul, k_fdiv, k_mod, k_pow, add_ii, sub_ii, mul_ii, fdiv_ii, mod_ii, pow_ii, neg_i, abs_i, k_eq, k_ne, lt_ii, le_ii, gt_ii, ge_ii, k_is, k_isnot, k_inn, k_notin, is_bb, isn_bb, blK_b, truth_b, truth_i, truth_n, toD_v, toD_f, slotOf_v, slotOf_ft, slotOf_ff, seqOf_l, seqOf_t, seqOf_s, seqOf_f, seqOf_b, lone_i, lone_t, lone_l, lone_b, lone_n, lone_s, lone_f, len_t, len_l, len_f, len_b, len_s, b1_len, b1_all, b1_any, b1_sum, b1_max, b1_tuple, b1_list, b1_int, b1_abs, b1_str, tup_l, tup_t, tup_f, tup_b, lst_l, lst_t, lst_f, lst_b, lst_s, isi_i, isi_b, isi_t, isi_s, isi_n, isi_l, isiT1, isiT2, isiT3, isiT4, isiT5, isiT6, isiT7, isiT8, isiT9, ix_t, ix_l, ix_f, ix_b, ix_s, rev_t, rev_l, partK_i, cut_t, cut_l, cut_f, cut_b, srcOf_l, srcOf_t, srcOf_f, srcOf_b, srcOf_r, srK_l, srK_t, srK_f, srK_b, okI1, okI2, okI3, okI3', okI3'', okI4, okI5, setsE0, setsE1, slotsOf0, slotsOf1, bindT_n, bindT_t, bindT_w, bindTs_0, bindTs_1, fx1, fx2, fx3, fx4, fx5, fx6, fx7, fx8, loopL_nil, dS_whl, endF_ret, endF_nx, endF_exc, trim_self, at0, at1, at2, ne_ii, eq_ii, ne_fr, eq_fr, List.getElem?_cons_succ, List.getElem?_cons_zero, List.set_cons_succ, List.set_cons_zero, Option.map_some, Option.bind_some, Bool.not_true, Bool.not_false, if_true, Bool.false_eq_true, if_false, bind_ok, exS_ok, lift_some, decide_true, decide_false, wipeE, Ph_call, Ph_fuel, Ph_make, bind_exc] $l)
  | `(tactic| simp_arith [$xs,*] $l:location) => `(tactic| simp only [seqR_nx, seqR_ret, seqR_exc, seqR_err, dB_nil, dB_cons, dS_doc, dS_pass, kSet2_eq, kSet_eq, dS_set, nxO_some, kAsg2_eq, kAsg_eq, dS_asg, kPar2_eq, kPar_eq, dS_par, kDrop_eq, dS_drop, kRet2_eq, kRet_eq, dS_ret, kRetO_eq, dS_retOwn, kIfS_t, kIfS_f, dS_ife, dS_raise, dS_frz, dS_tryy, slotR_v, slotR_o, dE_slot, dE_cst, dE_fnv, kB2_eq, kB1_eq, kU_eq, dE_bin, dE_cmp, kC3_t, kC3_f, kC2_eq, kC1_eq, dE_chain, dE_ix, kS3_eq, kS2_eq, kS1_eq, dE_sl, dE_rev, dE_neg, kNot_eq, dE_notv, kAnd_t, kAnd_f, dE_andv, kOr_t, kOr_f, dE_orv, kIf_t, kIf_f, dE_ife, kTup_eq, kLst_eq, kV_eq, dE_tup, dE_lst, kCall_eq, dE_call, dE_b1, dE_b2, dE_isi, dE_isE, dE_lr1, dE_lr2, dO_no, kPart_eq, dO_so, dL_nil, kL3_eq, kL2_eq, kL1_eq, dL_cons, dEL_nil, kM3_eq, kM2_t, kM1_eq, dEL_cons, dT_yes, kTr_eq, kBl_eq, kNotT_eq, kAndT_t, kAndT_f, kOrT_t, kOrT_f, dT_tr, dT_cmp, dT_chain, dT_not, dT_and, dT_or, kSq_eq, dI_seq, kRg_eq, dI_rng, kZ3_eq, kZ2_eq, kZ1_eq, dI_zip, kEn_eq, dI_enum, k_add, k_sub, k_mul, k_fdiv, k_mod, k_pow, add_ii, sub_ii, mul_ii, fdiv_ii, mod_ii, pow_ii, neg_i, abs_i, k_eq, k_ne, lt_ii, le_ii, gt_ii, ge_ii, k_is, k_isnot, k_inn, k_notin, is_bb, isn_bb, blK_b, truth_b, truth_i, truth_n, toD_v, toD_f, slotOf_v, slotOf_ft, slotOf_ff, seqOf_l, seqOf_t, seqOf_s, seqOf_f, seqOf_b, lone_i, lone_t, lone_l, lone_b, lone_n, lone_s, lone_f, len_t, len_l, len_f, len_b, len_s, b1_len, b1_all, b1_any, b1_sum, b1_max, b1_tuple, b1_list, b1_int, b1_abs, b1_str, tup_l, tup_t, tup_f, tup_b, lst_l, lst_t, lst_f, lst_b, lst_s, isi_i, isi_b, isi_t, isi_s, isi_n, isi_l, isiT1, isiT2, isiT3, isiT4, isiT5, isiT6, isiT7, isiT8, isiT9, ix_t, ix_l, ix_f, ix_b, ix_s, rev_t, rev_l, partK_i, cut_t, cut_l, cut_f, cut_b, srcOf_l, srcOf_t, srcOf_f, srcOf_b, srcOf_r, srK_l, srK_t, srK_f, srK_b, okI1, okI2, okI3, okI3', okI3'', okI4, okI5, setsE0, setsE1, slotsOf0, slotsOf1, bindT_n, bindT_t, bindT_w, bindTs_0, bindTs_1, fx1, fx2, fx3, fx4, fx5, fx6, fx7, fx8, loopL_nil, dS_whl, endF_ret, endF_nx, endF_exc, trim_self, at0, at1, at2, ne_ii, eq_ii, ne_fr, eq_fr, List.getElem?_cons_succ, List.getElem?_cons_zero, List.set_cons_succ, List.set_cons_zero, Option.map_some, Option.bind_some, Bool.not_true, Bool.not_false, if_true, Bool.false_eq_true, if_false, bind_ok, exS_ok, lift_some, decide_true, decide_false, wipeE, Ph_call, Ph_fuel, Ph_make, bind_exc, $xs,*] $l)
section
variable {deg : Nat} {kn : List Int} {jo : List Nat} (K : KOk deg kn jo) {n : Nat} {f : List (List Rat)} (R : ROk deg kn n f) (hn : 0 < n) (hn2 : n ≤ 800) (h : AH)
include K R hn hn2
theorem l_thinned {a b : Int} {p : List Rat} {r : Pcs} (c : Cv kn f a p r b) {d : Nat} (hd : 5 ≤ d) : Rn d k__law_thinned [kindD deg kn jo, fnD f] h = .ok (mkTh a b (thR deg p r)) h := by
  obtain ⟨d, rfl⟩ : ∃ e, d = e + 5 := ⟨d - 5, by omega⟩
  have l6 := K.l6
  have l2 := K.l2
  have rl := R.len
  have d3 := K.d3
  have fl : f.length = r.length + 1 := by rw [c.ef]; simp
  have w := wh_th (d + 4) h (some (.val (kindD deg kn jo))) (some (.val (.tup (kn.map D.int)))) deg p r fu (Nat.lt_of_le_of_lt d3 (Nat.lt_of_lt_of_le (by decide : 3 < 2 ^ 10) (Nat.pow_le_pow_right (by decide) (by decide)))) (by omega) (c.pl R) K.d1
  have ef : pcsF p r = f := c.ef.symm
  rw [ef] at w
  obtain ⟨a1, a2, a3, a4, a5, a6⟩ := redR_ok deg (n := n) K.d1 (c.pl R) (R.sz p (by rw [c.ef]; exact List.mem_cons_self)) (fun z hz => R.sz z.2 (by rw [c.ef]; exact List.mem_cons_of_mem _ (List.mem_map.mpr ⟨z, hz, rfl⟩)))
  rw [thR_red]
  obtain ⟨⟨dd, pp, rr⟩, he⟩ : ∃ q, q = redR deg p r := ⟨_, rfl⟩
  rw [← he] at w a1 a2 a3 a4 a5 a6 ⊢
  simp only at w a1 a2 a3 a4 a5 a6 ⊢
  have rlen : rr.length = r.length := by have := congrArg List.length a6; simpa using this
  have hF : ∀ q ∈ pcsF pp rr, q.length = dd + 1 ∧ SzL n q := fun q hq => by
    rcases List.mem_cons.mp hq with rfl | hq
    · exact ⟨a3.1, a4⟩
    · obtain ⟨z, hz, rfl⟩ := List.mem_map.mp hq
      exact ⟨a3.2 z hz, a5 z hz⟩
  have Fl : (pcsF pp rr).length = r.length + 1 := by simp [pcsF, rlen]
  obtain ⟨o2, o8, y⟩ := lp_th (d + 4) (by omega) h (some (.val (kindD deg kn jo))) a1 (by omega) kn (pcsF pp rr) hF hn hn2 (fun x hx => K_mem K hx) (by omega) l6 r.length 0 [pp] [] [] none none (by omega) (by simp) (by simp) (by simp)
  have e1 : ((inner kn).drop 0).zip ((pcsF pp rr).drop (0 + 1)) = rr := by
    rw [c.inner, ← a6]
    exact zip_map_self rr
  rw [e1] at y
  have e2 : (pcsF pp rr).getD 0 [] = pp := rfl
  rw [e2] at y
  obtain ⟨t, ht⟩ : ∃ t, t = thn dd pp rr := ⟨_, rfl⟩
  rw [← ht] at y ⊢
  rw [List.nil_append, List.nil_append] at y
  have tl : t.length ≤ r.length := by rw [ht, ← rlen]; have := (thn_sub (deg := dd) rr pp).length_le; simpa using this
  have g0 : atI ((pcsF pp rr).map rowD) 0 = some (rowD pp) := at0 _ _
  have iz : denI t__law_thinned (Ph (d + 4)) (.rng (.cons (.cst (.int 1)) (.cons (.b1 .len (.slot 1)) (.nil)))) [some (.val (kindD deg kn jo)), some (.val (fnD (pcsF pp rr))), none, some (.val (.int (dd : Int))), some (.val (.tup (kn.map D.int))), some (.own [rowD pp]), some (.own []), some (.own []), none, none] h = .ok (.one (.fx (J.upTo 1 ((((pcsF pp rr).map rowD).length : Int) - 1).toNat))) h := dI_r2 (by simp_arith) (by simp_arith) rg_one (rg_nat (by rw [List.length_map]; omega))
  have e3 : ((((pcsF pp rr).map rowD).length : Int) - 1).toNat = r.length := by rw [List.length_map, Fl]; omega
  rw [e3, J.upTo, List.range_eq_range'] at iz
  have c1 : J.cutD (kn.map D.int) none (some 1) = [D.int a] := by
    have := cutD_take (kn.map D.int) 1
    rw [show (some 1 : Option Int) = some ((1 : Nat) : Int) from rfl, this, c.ek]; rfl
  have c2 : J.cutD (kn.map D.int) (some (-1)) none = [D.int b] := by
    rw [cut_last _ (by simp; omega), c.ek]
    have : ((a :: (r.map (·.1) ++ [b])).map D.int).length - 1 = ((a :: r.map (·.1)).map D.int).length := by simp
    rw [this, ← List.cons_append, List.map_append, List.drop_left]; rfl
  have d1 := add_tt h [D.int a] ((t.map (·.1)).map D.int) (by simp; omega)
  have d2 := add_tt h ([D.int a] ++ (t.map (·.1)).map D.int) [D.int b] (by simp; omega)
  rw [u__law_thinned, x__law_thinned]
  refine Eq.trans (congrArg (endF h.length) (stS (e' := [some (.val (kindD deg kn jo)), some (.val (fnD f)), none, some (.val (.int (deg : Int))), some (.val (.tup (kn.map D.int))), none, none, none, none, none]) (h' := h) (by simp_arith) (stS (by rw [dS_whl]; exact w) (stS (by simp_arith [g0]; rfl) (stS (by rw [dS_for iz rfl rfl]; exact y) (fin (d := mkTh a b (dd, pp, t)) (h' := h) ?_)))))) ?_
  · simp_arith [c1, c2, d1, d2, tup_b]
    simp [mkTh]
  · simp_arith [endF_ret, trim_self]
end
/-! ### a knot put in -/
theorem in_int (h : AH) (y : Int) (l : List Int) (b : Bool) : inK b h (.v (.int y)) (.v (.tup (l.map D.int))) = some (.v (.bl (if b then !decide (y ∈ l) else decide (y ∈ l)))) := by
  have fl : (l.map D.int).all flatD = true := by simp [List.all_map, flatD]
  have e : ((l.map D.int).any fun z => eqvD z (.int y)) = decide (y ∈ l) := by
    rw [List.any_map, Bool.eq_iff_iff]
    simp [eqv_int]
  simp only [inK, seqOf_t, flatD, fl, e]
  simp
section
variable {deg : Nat} {kn : List Int} {jo : List Nat} (K : KOk deg kn jo) {n : Nat} {f : List (List Rat)} (R : ROk deg kn n f) (hn : 0 < n) (hn2 : n ≤ 800) (h : AH)
include K R hn hn2
theorem at_lastI : atI (kn.map D.int) (-1) = some (.int (kn.getD (kn.length - 1) 0)) := by
  have l2 := K.l2
  have e : kn = kn.dropLast ++ [kn.getD (kn.length - 1) 0] := by
    have hne : kn ≠ [] := by intro q; rw [q] at l2; simp at l2
    conv => lhs; rw [← List.dropLast_concat_getLast hne]
    congr 2
    rw [List.getLast_eq_getElem, List.getD_eq_getElem?_getD, List.getElem?_eq_getElem (by omega)]; rfl
  have e2 : kn.map D.int = kn.dropLast.map D.int ++ [.int (kn.getD (kn.length - 1) 0)] := by
    conv => lhs; rw [e]
    rw [List.map_append]; rfl
  rw [e2, at_last]
theorem r_with_knot {y : Int} (ha : kn.getD 0 0 < y) (hb : y < kn.getD (kn.length - 1) 0) (hy : y ∉ kn) (hl : kn.length < 6) (hj : joinB kn jo f = true) {d : Nat} (hd : 10 ≤ d) : Rn d k_with_knot [kindD deg kn jo, fnD f, .int y] h = .ok (.tup [kindD deg (kn.take (pc (kn.drop 1) (y : Rat) + 1) ++ [y] ++ kn.drop (pc (kn.drop 1) (y : Rat) + 1)) (jo.take (pc (kn.drop 1) (y : Rat)) ++ [deg - 1] ++ jo.drop (pc (kn.drop 1) (y : Rat))), fnD (f.take (pc (kn.drop 1) (y : Rat) + 1) ++ f.drop (pc (kn.drop 1) (y : Rat)))]) h := by
  obtain ⟨d, rfl⟩ : ∃ e, d = e + 10 := ⟨d - 10, by omega⟩
  have l2 := K.l2
  have d1 := K.d1
  have jl := K.jl
  have rl := R.len
  have z1 := r_check_both K R hn (by omega) h (d := d + 9) (by omega) hj
  have z2 := r_is_between (d := d + 9) (by omega) y (kn.getD 0 0 + 1) (kn.getD (kn.length - 1) 0 - 1) h
  rw [decide_eq_true (by omega)] at z2
  have yb : y.natAbs < 2 ^ 10 := by
    have q1 := K.rng _ (getD_mem (z := (0 : Int)) (show 0 < kn.length by omega))
    have q2 := K.rng _ (getD_mem (z := (0 : Int)) (show kn.length - 1 < kn.length by omega))
    have : (2 : Nat) ^ 10 = 1024 := rfl
    omega
  have z3 := r_piece_at K (Sz.int (n := 90) (Nat.lt_of_lt_of_le yb (Nat.pow_le_pow_right (by decide) (by decide))) (by decide)) h (d := d + 9) (by omega) (x := (y : Rat)) (by
    have : y ≤ kn.getD (kn.length - 1) 0 := by omega
    exact Rat.intCast_le_intCast.mpr this)
  rw [int_fr] at z3
  obtain ⟨k, hk⟩ : ∃ k, k = pc (kn.drop 1) (y : Rat) := ⟨_, rfl⟩
  rw [← hk] at z3 ⊢
  have g0 : atI (kn.map D.int) 0 = some (.int (kn.getD 0 0)) := by
    have := at_nat (kn.map D.int) 0
    rw [get_int (by omega)] at this
    exact this
  have g1 := at_lastI K R hn hn2
  have i1 := in_int h y kn false
  rw [decide_eq_false hy] at i1
  have c6 : ¬ ((kn.map D.int).length : Int) = 6 := by rw [List.length_map]; omega
  have k1 : ((k : Int) + 1) = ((k + 1 : Nat) : Int) := by omega
  have c1 := cutD_take (kn.map D.int) (k + 1)
  have c2 := cutD_drop (kn.map D.int) (k + 1)
  have c3 := cutD_take (jo.map jD) k
  have c4 := cutD_drop (jo.map jD) k
  have c5 := cutD_take (f.map rowD) (k + 1)
  have c6' := cutD_drop (f.map rowD) k
  have a1 := add_tt h ((kn.map D.int).take (k + 1)) [.int y] (by simp; omega)
  have a2 := add_tt h ((kn.map D.int).take (k + 1) ++ [.int y]) ((kn.map D.int).drop (k + 1)) (by simp; omega)
  have dd : ((deg : Int) - 1) = ((deg - 1 : Nat) : Int) := by omega
  have a3 := add_tt h ((jo.map jD).take k) [.int ((deg - 1 : Nat) : Int)] (by simp; omega)
  have a4 := add_tt h ((jo.map jD).take k ++ [.int ((deg - 1 : Nat) : Int)]) ((jo.map jD).drop k) (by simp; omega)
  have a5 := add_tt h ((f.map rowD).take (k + 1)) ((f.map rowD).drop k) (by simp; have := K.l6; omega)
  rw [u_with_knot, x_with_knot]
  simp_arith [z1, g0, g1, z2, i1, decide_eq_false c6, z3, k1, c1, c2, c3, c4, c5, c6', a1, a2, a3, a4, a5, dd, endF_ret, trim_self]
  simp
end
end Lw

/-! k13: kinds of thinned forms, of knots put in -/
namespace Lw
open PySem PySem.Spec PyProof.Rows L2 J
local macro_rules
  | `(tactic| simp_arith) => `(tactic| simp only [seqR_nx, seqR_ret, seqR_exc, seqR_err, dB_nil, dB_cons, dS_doc, dS_pass, kSet2_eq, kSet_eq, dS_set, nxO_some, kAsg2_eq, kAsg_eq, dS_asg, kPar2_eq, kPar_eq, dS_par, kDrop_eq, dS_drop, kRet2_eq, kRet_eq, dS_ret, kRetO_eq, dS_retOwn, kIfS_t, kIfS_f, dS_ife, dS_raise, dS_frz, dS_tryy, slotR_v, slotR_o, dE_slot, dE_cst, dE_fnv, kB2_eq, kB1_eq, kU_eq, dE_bin, dE_cmp, kC3_t, kC3_f, kC2_eq, kC1_eq, dE_chain, dE_ix, kS3_eq, kS2_eq, kS1_eq, dE_sl, dE_rev, dE_neg, kNot_eq, dE_notv, kAnd_t, kAnd_f, dE_andv, kOr_t, kOr_f, dE_orv, kIf_t, kIf_f, dE_ife, kTup_eq, kLst_eq, kV_eq, dE_tup, dE_lst, kCall_eq, dE_call, dE_b1, dE_b2, dE_isi, dE_isE, dE_lr1, dE_lr2, dO_no, kPart_eq, dO_so, dL_nil, kL3_eq, kL2_eq, kL1_eq, dL_cons, dEL_nil, kM3_eq, kM2_t, kM1_eq, dEL_cons, dT_yes, kTr_eq, kBl_eq, kNotT_eq, kAndT_t, kAndT_f, kOrT_t, kOrT_f, dT_tr, dT_cmp, dT_chain, dT_not, dT_and, dT_or, kSq_eq, dI_seq, kRg_eq, dI_rng, kZ3_eq, kZ2_eq, kZ1_eq, dI_zip, kEn_eq, dI_enum, k_add, k_sub, k_mul, k_fdiv, k_mod, k_pow, add_ii, sub_ii, mul_ii, fdiv_ii, mod_ii, pow_ii, neg_i, abs_i, k_eq, k_ne, lt_ii, le_ii, gt_ii, ge_ii, k_is, k_isnot, k_inn, k_notin, is_bb, isn_bb, blK_b, truth_b, truth_i, truth_n, toD_v, toD_f, slotOf_v, slotOf_ft, slotOf_ff, seqOf_l, seqOf_t, seqOf_s, seqOf_f, seqOf_b, lone_i, lone_t, lone_l, lone_b, lone_n, lone_s, lone_f, len_t, len_l, len_f, len_b, len_s, b1_len, b1_all, b1_any, b1_sum, b1_max, b1_tuple, b1_list, b1_int, b1_abs, b1_str, tup_l, tup_t, tup_f, tup_b, lst_l, lst_t, lst_f, lst_b, lst_s, isi_i, isi_b, isi_t, isi_s, isi_n, isi_l, isiT1, isiT2, isiT3, isiT4, isiT5, isiT6, isiT7, isiT8, isiT9, ix_t, ix_l, ix_f, ix_b, ix_s, rev_t, rev_l, partK_i, cut_t, cut_l, cut_f, cut_b, srcOf_l, srcOf_t, srcOf_f, srcOf_b, srcOf_r, srK_l, srK_t, srK_f, srK_b, okI1, okI2, okI3, okI3', okI3'', okI4, okI5, setsE0, setsE1, slotsOf0, slotsOf1, bindT_n, bindT_t, bindT_w, bindTs_0, bindTs_1, fx1, fx2, fx3, fx4, fx5, fx6, fx7, fx8, loopL_nil, dS_whl, endF_ret, endF_nx, endF_exc, trim_self, at0, at1, at2, ne_ii, eq_ii, ne_fr, eq_fr, List.getElem?_cons_succ, List.getElem?_cons_zero, List.set_cons_succ, List.set_cons_zero, Option.map_some, Option.bind_some, Bool.not_true, Bool.not_false, if_true, Bool.false_eq_true, if_false, bind_ok, exS_ok, lift_some, decide_true, decide_false, wipeE, Ph_call, Ph_fuel, Ph_make, bind_exc])
  | `(tactic| simp_arith [$xs,*]) => `(tactic| simp only [seqR_nx, seqR_ret, seqR_exc, seqR_err, dB_nil, dB_cons, dS_doc, dS_pass, kSet2_eq, kSet_eq, dS_set, nxO_some, kAsg2_eq, kAsg_eq, dS_asg, kPar2_eq, kPar_eq, dS_par, kDrop_eq, dS_drop, kRet2_eq, kRet_eq, dS_ret, kRetO_eq, dS_retOwn, kIfS_t, kIfS_f, dS_ife, dS_raise, dS_frz, dS_tryy, slotR_v, slotR_o, dE_slot, dE_cst, dE_fnv, kB2_eq, kB1_eq, kU_eq, dE_bin, dE_cmp, kC3_t, kC3_f, kC2_eq, kC1_eq, dE_chain, dE_ix, kS3_eq, kS2_eq, kS1_eq, dE_sl, dE_rev, dE_neg, kNot_eq, dE_notv, kAnd_t, kAnd_f, dE_andv, kOr_t, kOr_f, dE_orv, kIf_t, kIf_f, dE_ife, kTup_eq, kLst_eq, kV_eq, dE_tup, dE_lst, kCall_eq, dE_call, dE_b1, dE_b2, dE_isi, dE_isE, dE_lr1, dE_lr2, dO_no, kPart_eq, dO_so, dL_nil, kL3_eq, kL2_eq, kL1_eq, dL_cons, dEL_nil, kM3_eq, kM2_t, kM1_eq, dEL_cons, dT_yes, kTr_eq, kBl_eq, kNotT_eq, kAndT_t, kAndT_f, kOrT_t, kOrT_f, dT_tr, dT_cmp, dT_chain, dT_not, dT_and, dT_or, kSq_eq, dI_seq, kRg_eq, dI_rng, kZ3_eq, kZ2_eq, kZ1_eq, dI_zip, kEn_eq, dI_enum, k_add, k_sub, k_mul, k_fdiv, k_mod, k_pow, add_ii, sub_ii, mul_ii, fdiv_ii, mod_ii, pow_ii, neg_i, abs_i, k_eq, k_ne, lt_ii, le_ii, gt_ii, ge_ii, k_is, k_isnot, k_inn, k_notin, is_bb, isn_bb, blK_b, truth_b, truth_i, truth_n, toD_v, toD_f, slotOf_v, slotOf_ft, slotOf_ff, seqOf_l, seqOf_t, seqOf_s, seqOf_f, seqOf_b, lone_i, lone_t, lone_l, lone_b, lone_n, lone_s, lone_f, len_t, len_l, len_f, len_b, len_s, b1_len, b1_all, b1_any, b1_sum, b1_max, b1_tuple, b1_list, b1_int, b1_abs, b1_str, tup_l, tup_t, tup_f, tup_b, lst_l, lst_t, lst_f, lst_b, lst_s, isi_i, isi_b, isi_t, isi_s, isi_n, isi_l, isiT1, isiT2, isiT3, isiT4, isiT5, isiT6, isiT7, isiT8, isiT9, ix_t, ix_l, ix_f, ix_b, ix_s, rev_t, rev_l, partK_i, cut_t, cut_l, cut_f, cut_b, srcOf_l, srcOf_t, srcOf_f, srcOf_b, srcOf_r, srK_l, srK_t, srK_f, srK_b, okI1, okI2, okI3, okI3', okI3'', okI4, okI5, setsE0, setsE1, slotsOf0, slotsOf1, bindT_n, bindT_t, bindT_w, bindTs_0, bindTs_1, fx1, fx2, fx3, fx4, fx5, fx6, fx7, fx8, loopL_nil, dS_whl, endF_ret, endF_nx, endF_exc, trim_self, at0, at1, at2, ne_ii, eq_ii, ne_fr, eq_fr, List.getElem?_cons_succ, List.getElem?_cons_zero, List.set_cons_succ, List.set_cons_zero, Option.map_some, Option.bind_some, Bool.not_true, Bool.not_false, if_true, Bool.false_eq_true, if_false, bind_ok, exS_ok, lift_some, decide_true, decide_false, wipeE, Ph_call, Ph_fuel, Ph_make, bind_exc, $xs,*])
  | `(tactic| simp_arith $l:location) => `(tactic| simp only [seqR_nx, seqR_ret, seqR_exc, seqR_err, dB_nil, dB_cons, dS_doc, dS_pass, kSet2_eq, kSet_eq, dS_set, nxO_some, kAsg2_eq, kAsg_eq, dS_asg, kPar2_eq, kPar_eq, dS_par, kDrop_eq, dS_drop, kRet2_eq, kRet_eq, dS_ret, kRetO_eq, dS_retOwn, kIfS_t, kIfS_f, dS_ife, dS_raise, dS_frz, dS_tryy, slotR_v, slotR_o, dE_slot, dE_cst, dE_fnv, kB2_eq, kB1_eq, kU_eq, dE_bin, dE_cmp, kC3_t, kC3_f, kC2_eq, kC1_eq, dE_chain, dE_ix, kS3_eq, kS2_eq, kS1_eq, dE_sl, dE_rev, dE_neg, kNot_eq, dE_notv, kAnd_t, kAnd_f, dE_andv, kOr_t, kOr_f, dE_orv, kIf_t, kIf_f, dE_ife, kTup_eq, kLst_eq, kV_eq, dE_tup, dE_lst, kCall_eq, dE_call, dE_b1, dE_b2, dE_isi, dE_isE, dE_lr1, dE_lr2, dO_no, kPart_eq, dO_so, dL_nil, kL3_eq, kL2_eq, kL1_eq, dL_cons, dEL_nil, kM3_eq, kM2_t, kM1_eq, dEL_cons, dT_yes, kTr_eq, kBl_eq, kNotT_eq, kAndT_t, kAndT_f, kOrT_t, kOrT_f, dT_tr, dT_cmp, dT_chain, dT_not, dT_and, dT_or, kSq_eq, dI_seq, kRg_eq, dI_rng, kZ3_eq, kZ2_eq, kZ1_eq, dI_zip, kEn_eq, dI_enum, k_add, k_sub, k_mul, k_fdiv, k_mod, k_pow, add_ii, sub_ii, mul_ii, fdiv_ii, mod_ii, pow_ii, neg_i, abs_i, k_eq, k_ne, lt_ii, le_ii, gt_ii, ge_ii, k_is, k_isnot, k_inn, k_notin, is_bb, isn_bb, blK_b, truth_b, truth_i, truth_n, toD_v, toD_f, slotOf_v, slotOf_ft, slotOf_ff, seqOf_l, seqOf_t, seqOf_s, seqOf_f, seqOf_b, lone_i, lone_t, lone_l, lone_b, lone_n, lone_s, lone_f, len_t, len_l, len_f, len_b, len_s, b1_len, b1_all, b1_any, b1_sum, b1_max, b1_tuple, b1_list, b1_int, b1_abs, b1_str, tup_l, tup_t, tup_f, tup_b, lst_l, lst_t, lst_f, lst_b, lst_s, isi_i, isi_b, isi_t, isi_s, isi_n, isi_l, isiT1, isiT2, isiT3, isiT4, isiT5, isiT6, isiT7, isiT8, isiT9, ix_t, ix_l, ix_f, ix_b, ix_s, rev_t, rev_l, partK_i, cut_t, cut_l, cut_f, cut_b, srcOf_l, srcOf_t, srcOf_f, srcOf_b, srcOf_r, srK_l, srK_t, srK_f, srK_b, okI1, okI2, okI3, okI3', okI3'', okI4, okI5, setsE0, setsE1, slotsOf0, slotsOf1, bindT_n, bindT_t, bindT_w, bindTs_0, bindTs_1, fx1, fx2, fx3, fx4, fx5, fx6, fx7, fx8, loopL_nil, dS_whl, endF_ret, endF_nx, endF_exc, trim_self, at0, at1, at2, ne_ii, eq_ii, ne_fr, eq_fr, List.getElem?_cons_succ, List.getElem?_cons_zero, List.set_cons_succ, List.set_cons_zero, Option.map_some, Option.bind_some, Bool.not_true, Bool.not_false, if_true, Bool.false_eq_true, if_false, bind_ok, exS_ok, lift_some, decide_true, decide_false, wipeE, Ph_call, Ph_fuel, Ph_make, bind_exc] $l)
  | `(tactic| simp_arith [$xs,*] $l:location) => `(tactic| simp only [seqR_nx, seqR_ret, seqR_exc, seqR_err, dB_nil, dB_cons, dS_doc, dS_pass, kSet2_eq, kSet_eq, dS_set, nxO_some, kAsg2_eq, kAsg_eq, dS_asg, kPar2_eq, kPar_eq, dS_par, kDrop_eq, dS_drop, kRet2_eq, kRet_eq, dS_ret, kRetO_eq, dS_retOwn, kIfS_t, kIfS_f, dS_ife, dS_raise, dS_frz, dS_tryy, slotR_v, slotR_o, dE_slot, dE_cst, dE_fnv, kB2_eq, kB1_eq, kU_eq, dE_bin, dE_cmp, kC3_t, kC3_f, kC2_eq, kC1_eq, dE_chain, dE_ix, kS3_eq, kS2_eq, kS1_eq, dE_sl, dE_rev, dE_neg, kNot_eq, dE_notv, kAnd_t, kAnd_f, dE_andv, kOr_t, kOr_f, dE_orv, kIf_t, kIf_f, dE_ife, kTup_eq, kLst_eq, kV_eq, dE_tup, dE_lst, kCall_eq, dE_call, dE_b1, dE_b2, dE_isi, dE_isE, dE_lr1, dE_lr2, dO_no, kPart_eq, dO_so, dL_nil, kL3_eq, kL2_eq, kL1_eq, dL_cons, dEL_nil, kM3_eq, kM2_t, kM1_eq, dEL_cons, dT_yes, kTr_eq, kBl_eq, kNotT_eq, kAndT_t, kAndT_f, kOrT_t, kOrT_f, dT_tr, dT_cmp, dT_chain, dT_not, dT_and, dT_or, kSq_eq, dI_seq, kRg_eq, dI_rng, kZ3_eq, kZ2_eq, kZ1_eq, dI_zip, kEn_eq, dI_enum, k_add, k_sub, k_mul, k_fdiv, k_mod, k_pow, add_ii, sub_ii, mul_ii, fdiv_ii, mod_ii, pow_ii, neg_i, abs_i, k_eq, k_ne, lt_ii, le_ii, gt_ii, ge_ii, k_is, k_isnot, k_inn, k_notin, is_bb, isn_bb, blK_b, truth_b, truth_i, truth_n, toD_v, toD_f, slotOf_v, slotOf_ft, slotOf_ff, seqOf_l, seqOf_t, seqOf_s, seqOf_f, seqOf_b, lone_i, lone_t, lone_l, lone_b, lone_n, lone_s, lone_f, len_t, len_l, len_f, len_b, len_s, b1_len, b1_all, b1_any, b1_sum, b1_max, b1_tuple, b1_list, b1_int, b1_abs, b1_str, tup_l, tup_t, tup_f, tup_b, lst_l, lst_t, lst_f, lst_b, lst_s, isi_i, isi_b, isi_t, isi_s, isi_n, isi_l, isiT1, isiT2, isiT3, isiT4, isiT5, isiT6, isiT7, isiT8, isiT9, ix_t, ix_l, ix_f, ix_b, ix_s, rev_t, rev_l, partK_i, cut_t, cut_l, cut_f, cut_b, srcOf_l, srcOf_t, srcOf_f, srcOf_b, srcOf_r, srK_l, srK_t, srK_f, srK_b, okI1, okI2, okI3, okI3', okI3'', okI4, okI5, setsE0, setsE1, slotsOf0, slotsOf1, bindT_n, bindT_t, bindT_w, bindTs_0, bindTs_1, fx1, fx2, fx3, fx4, fx5, fx6, fx7, fx8, loopL_nil, dS_whl, endF_ret, endF_nx, endF_exc, trim_self, at0, at1, at2, ne_ii, eq_ii, ne_fr, eq_fr, List.getElem?_cons_succ, List.getElem?_cons_zero, List.set_cons_succ, List.set_cons_zero, Option.map_some, Option.bind_some, Bool.not_true, Bool.not_false, if_true, Bool.false_eq_true, if_false, bind_ok, exS_ok, lift_some, decide_true, decide_false, wipeE, Ph_call, Ph_fuel, Ph_make, bind_exc, $xs,*] $l)
theorem KOk.pw {deg : Nat} {kn : List Int} {jo : List Nat} (K : KOk deg kn jo) : kn.Pairwise (· < ·) := by
  rw [List.pairwise_iff_getElem]
  intro i j hi hj hij
  have := K_asc K hij hj
  rw [List.getD_eq_getElem?_getD, List.getD_eq_getElem?_getD, List.getElem?_eq_getElem hi, List.getElem?_eq_getElem hj] at this
  exact this
theorem KOk.mk' {deg : Nat} {kn : List Int} {jo : List Nat} (d1 : 1 ≤ deg) (d3 : deg ≤ 3) (l2 : 2 ≤ kn.length) (l6 : kn.length ≤ 6) (rng : ∀ x ∈ kn, -20 ≤ x ∧ x ≤ 20) (asc : kn.Pairwise (· < ·)) (jl : jo.length + 2 = kn.length) (jd : ∀ j ∈ jo, j < deg) : KOk deg kn jo := ⟨d1, d3, l2, l6, rng, fun i hi => asc_get asc i hi, jl, jd⟩
/-- a chain in the pieces' own form -/
def Chp : List Rat → List (Int × Nat × List Rat) → Prop
  | _, [] => True
  | p, (x, j, q) :: t => Ag j (x : Rat) p q ∧ Chp q t
theorem Chp_iff : ∀ (t : List (Int × Nat × List Rat)) (p : List Rat), Chn ((t.map (·.1)).zip (t.map (·.2.1))) (p :: t.map (·.2.2)) ↔ Chp p t
  | [], p => by simp [Chn, Chp]
  | (x, j, q) :: t, p => by
    show (Ag j (x : Rat) p q ∧ Chn ((t.map (·.1)).zip (t.map (·.2.1))) (q :: t.map (·.2.2))) ↔ _
    rw [Chp_iff t q]; rfl
theorem Ch.chp {deg : Nat} : ∀ (t : List (Int × Int × List Rat)) (p : List Rat), p.length = deg + 1 → (∀ z ∈ t, z.2.2.length = deg + 1 ∧ 0 ≤ z.2.1 ∧ z.2.1 < deg) → Ch p t → Chp p (t.map fun z => (z.1, z.2.1.toNat, z.2.2))
  | [], _, _, _, _ => trivial
  | (x, j, q) :: t, p, hp, hz, c => by
    have h := hz _ List.mem_cons_self
    have hj : 0 ≤ j ∧ j < deg := h.2
    have c1 : agr p q (x : Rat) = j := c.1
    show Ag j.toNat (x : Rat) p q ∧ _
    refine ⟨(agr_iff (by omega)).mp (by omega), Ch.chp t q h.1 (fun z hz' => hz z (List.mem_cons_of_mem _ hz')) c.2⟩
theorem C0_of {deg n : Nat} {kn : List Int} {f : List (List Rat)} : ∀ (r : Pcs) (js : List Nat) (p : List Rat), js.length = r.length → Chn ((r.map (·.1)).zip js) (p :: r.map (·.2)) → C0 p r
  | [], _, _, _, _ => trivial
  | (x, q) :: r, [], _, h, _ => by simp at h
  | (x, q) :: r, j :: js, p, h, c => by
    have c : Ag j (x : Rat) p q ∧ Chn ((r.map (·.1)).zip js) (q :: r.map (·.2)) := c
    exact ⟨c.1 0 (Nat.zero_le _), C0_of (deg := deg) (n := n) (kn := kn) (f := f) r js q (by simpa using h) c.2⟩
section
variable {deg : Nat} {kn : List Int} {jo : List Nat} (K : KOk deg kn jo) {n : Nat} {f : List (List Rat)} (R : ROk deg kn n f) (C : Chn ((inner kn).zip jo) f) {a b : Int} {p : List Rat} {r : Pcs} (c : Cv kn f a p r b)
include K R C c
theorem cv_c0 : C0 p r := by
  have C' := C
  rw [c.inner] at C'
  have e : f = p :: r.map (·.2) := c.ef
  rw [e] at C'
  have jl := K.jl
  have ek := congrArg List.length c.ek
  exact C0_of (deg := deg) (n := n) (kn := kn) (f := f) r jo p (by simp at ek; omega) C'
/-- the thinned form as a kind and a function -/
theorem th_kind : ∃ (deg' : Nat) (kn' : List Int) (jo' : List Nat) (f' : List (List Rat)), thinR deg kn f = .tup [kindD deg' kn' jo', fnD f'] ∧ thinR deg kn f = mkTh a b (thR deg p r) ∧ KOk deg' kn' jo' ∧ ROk deg' kn' n f' ∧ Chn ((inner kn').zip jo') f' ∧ thinR deg' kn' f' = thinR deg kn f := by
  have T := thR_ok deg K.d1 K.d3 (c.pl R) (cv_c0 K R C c) (R.sz p (by rw [c.ef]; exact List.mem_cons_self)) (fun z hz => R.sz z.2 (by rw [c.ef]; exact List.mem_cons_of_mem _ (List.mem_map.mpr ⟨z, hz, rfl⟩)))
  have e0 := thinR_eq deg c
  obtain ⟨⟨d', p', t⟩, ht⟩ : ∃ T, T = thR deg p r := ⟨_, rfl⟩
  rw [← ht] at T e0 ⊢
  have cv2 : Cv (a :: (t.map (·.1) ++ [b])) (p' :: t.map (·.2.2)) a p' (stripT t) b := ⟨by simp [stripT, List.map_map, Function.comp_def], by simp [stripT, List.map_map, Function.comp_def]⟩
  have subl : (a :: (t.map (·.1) ++ [b])).Sublist kn := by
    rw [c.ek]
    exact (T.sub.append (List.Sublist.refl [b])).cons₂ a
  have jn := T.jn
  have pl := T.pl
  simp only at jn pl
  have zl : ∀ z ∈ t, z.2.2.length = d' + 1 := fun z hz => pl.2 (z.1, z.2.2) (List.mem_map.mpr ⟨z, hz, rfl⟩)
  refine ⟨d', a :: (t.map (·.1) ++ [b]), t.map (fun z => z.2.1.toNat), p' :: t.map (·.2.2), ?_, e0, ?_, ?_, ?_, ?_⟩
  · rw [e0]
    unfold mkTh kindD
    have : (t.map (·.2.1)).map D.int = (t.map (fun z => z.2.1.toNat)).map jD := by
      rw [List.map_map, List.map_map]
      apply List.map_congr_left
      intro z hz
      have := (jn z hz).1
      show D.int z.2.1 = D.int (z.2.1.toNat : Int)
      congr 1; omega
    rw [this]
  · refine KOk.mk' T.d1 (Nat.le_trans T.dl K.d3) (by simp) (Nat.le_trans subl.length_le K.l6) (fun x hx => K.rng x (subl.mem hx)) (K.pw.sublist subl) (by simp) (fun j hj => ?_)
    obtain ⟨z, hz, rfl⟩ := List.mem_map.mp hj
    have := jn z hz
    omega
  · refine ⟨by simp, fun q hq => ?_, fun q hq => ?_⟩
    · rcases List.mem_cons.mp hq with rfl | hq
      · exact pl.1
      · obtain ⟨z, hz, rfl⟩ := List.mem_map.mp hq
        exact zl z hz
    · rcases List.mem_cons.mp hq with rfl | hq
      · exact T.sz.1
      · obtain ⟨z, hz, rfl⟩ := List.mem_map.mp hq
        exact T.sz.2 z hz
  · rw [cv2.inner]
    have h1 := Ch.chp t p' pl.1 (fun z hz => ⟨zl z hz, jn z hz⟩) T.ch
    have h2 := (Chp_iff (t.map fun z => (z.1, z.2.1.toNat, z.2.2)) p').mpr h1
    simp only [List.map_map, Function.comp_def] at h2
    simp only [stripT, List.map_map, Function.comp_def]
    exact h2
  · rw [thinR_eq d' cv2, e0]
    exact congrArg (mkTh a b) T.own
end
/-- looser joints -/
theorem Chn.mono {deg n : Nat} {kn : List Int} {jo jo' : List Nat} {f : List (List Rat)} (K : KOk deg kn jo) (K' : KOk deg kn jo') (R : ROk deg kn n f) (le : ∀ i, i < jo.length → jo'.getD i 0 ≤ jo.getD i 0) (C : Chn ((inner kn).zip jo) f) : Chn ((inner kn).zip jo') f := by
  have jl := K.jl
  have jl' := K'.jl
  have rl := R.len
  rw [Chn_iff _ _ _ (by simp; omega) (by simp; omega)] at C ⊢
  intro i hi o ho
  exact C i hi o (Nat.le_trans ho (le i (by rw [inner_len] at hi; omega)))
/-- equal pieces -/
theorem Chn.rep {deg n : Nat} {kn : List Int} {jo : List Nat} {f : List (List Rat)} (K : KOk deg kn jo) {q : List Rat} (R : ROk deg kn n f) (e : ∀ p ∈ f, p = q) : Chn ((inner kn).zip jo) f := by
  have jl := K.jl
  have rl := R.len
  rw [Chn_iff _ _ _ (by simp; omega) (by simp; omega)]
  intro i hi o ho
  rw [inner_len] at hi
  rw [e _ (getD_mem (show i < f.length by omega)), e _ (getD_mem (show i + 1 < f.length by omega))]
/-! ### a knot put in -/
theorem pc_app (y : Rat) : ∀ (xs ys : List Int), (∀ x ∈ xs, (x : Rat) < y) → (∀ x ∈ ys, ¬ (x : Rat) < y) → pc (xs ++ ys) y = xs.length
  | [], [], _, _ => rfl
  | [], z :: ys, _, h => by rw [List.nil_append, pc, if_neg (h z List.mem_cons_self)]; rfl
  | x :: xs, ys, h1, h2 => by rw [List.cons_append, pc, if_pos (h1 x List.mem_cons_self), pc_app y xs ys (fun z hz => h1 z (List.mem_cons_of_mem _ hz)) h2]; rfl
theorem split_asc (y : Int) : ∀ (r : Pcs), (r.map (·.1)).Pairwise (· < ·) → y ∉ r.map (·.1) → ∃ r1 r2, r = r1 ++ r2 ∧ (∀ z ∈ r1, z.1 < y) ∧ ∀ z ∈ r2, y < z.1
  | [], _, _ => ⟨[], [], rfl, by simp, by simp⟩
  | (x, q) :: r, h, hy => by
    simp only [List.map_cons, List.pairwise_cons, List.mem_cons, not_or] at h hy
    by_cases c : x < y
    · obtain ⟨r1, r2, e, h1, h2⟩ := split_asc y r h.2 hy.2
      refine ⟨(x, q) :: r1, r2, by rw [e]; rfl, fun z hz => ?_, h2⟩
      rcases List.mem_cons.mp hz with rfl | hz
      · exact c
      · exact h1 z hz
    · refine ⟨[], (x, q) :: r, rfl, by simp, fun z hz => ?_⟩
      have : y ≠ x := hy.1
      rcases List.mem_cons.mp hz with rfl | hz
      · show y < x; omega
      · have := h.1 z.1 (List.mem_map.mpr ⟨z, hz, rfl⟩); omega
theorem Chn.ins (y : Int) (j : Nat) : ∀ (r1 : Pcs) (js1 : List Nat) (ps2 : List (Int × Nat)) (F2 : List (List Rat)) (p : List Rat), js1.length = r1.length → Chn ((r1.map (·.1)).zip js1 ++ ps2) (p :: r1.map (·.2) ++ F2) → Chn ((r1.map (·.1)).zip js1 ++ (y, j) :: ps2) (p :: r1.map (·.2) ++ lastP p r1 :: F2)
  | [], [], ps2, F2, p, _, c => ⟨Ag.refl j _ p, c⟩
  | [], _ :: _, _, _, _, h, _ => by simp at h
  | _ :: _, [], _, _, _, h, _ => by simp at h
  | (x, q) :: r1, k :: js1, ps2, F2, p, h, c => by
    have e : lastP p ((x, q) :: r1) = lastP q r1 := by unfold lastP; rw [List.map_cons, List.getLastD_cons]
    rw [e]
    exact ⟨c.1, Chn.ins y j r1 js1 ps2 F2 q (by simpa using h) c.2⟩
theorem last_get (r1 : Pcs) (p : List Rat) (G : List (List Rat)) : (p :: r1.map (·.2) ++ G).drop r1.length = lastP p r1 :: G := by
  induction r1 generalizing p with
  | nil => rfl
  | cons z r1 ih =>
    obtain ⟨x, q⟩ := z
    have e : lastP p ((x, q) :: r1) = lastP q r1 := by unfold lastP; rw [List.map_cons, List.getLastD_cons]
    rw [e, ← ih q]; rfl
theorem ins_kind {deg : Nat} {kn : List Int} {jo : List Nat} (K : KOk deg kn jo) {n : Nat} {f : List (List Rat)} (R : ROk deg kn n f) (C : Chn ((inner kn).zip jo) f) {y : Int} (ha : kn.getD 0 0 < y) (hb : y < kn.getD (kn.length - 1) 0) (hy : y ∉ kn) (hl : kn.length < 6) :
    ∃ k, k = pc (kn.drop 1) (y : Rat) ∧ (∀ i, i < kn.length → (kn.getD i 0 < y ↔ i ≤ k)) ∧ k + 1 < kn.length ∧ KOk deg (kn.take (k + 1) ++ [y] ++ kn.drop (k + 1)) (jo.take k ++ [deg - 1] ++ jo.drop k) ∧ ROk deg (kn.take (k + 1) ++ [y] ++ kn.drop (k + 1)) n (f.take (k + 1) ++ f.drop k)
      ∧ Chn ((inner (kn.take (k + 1) ++ [y] ++ kn.drop (k + 1))).zip (jo.take k ++ [deg - 1] ++ jo.drop k)) (f.take (k + 1) ++ f.drop k) ∧ thinR deg (kn.take (k + 1) ++ [y] ++ kn.drop (k + 1)) (f.take (k + 1) ++ f.drop k) = thinR deg kn f := by
  obtain ⟨a, p, r, b, c⟩ := cv_of K.l2 R.len
  have pw := K.pw
  rw [c.ek] at pw
  have e0 : kn.getD 0 0 = a := by rw [c.ek]; rfl
  have e1 : kn.getD (kn.length - 1) 0 = b := by rw [c.ek]; simp
  rw [e0] at ha
  rw [e1] at hb
  have hy' := hy
  rw [c.ek] at hy'
  simp only [List.mem_cons, List.mem_append, not_or] at hy'
  have pwr : (r.map (·.1)).Pairwise (· < ·) := (List.pairwise_append.mp (List.pairwise_cons.mp pw).2).1
  obtain ⟨r1, r2, er, h1, h2⟩ := split_asc y r pwr hy'.2.1
  have ekn : kn = a :: (r1.map (·.1) ++ (r2.map (·.1) ++ [b])) := by rw [c.ek, er]; simp
  have ef : f = p :: r1.map (·.2) ++ r2.map (·.2) := by rw [c.ef, er]; simp
  have hpc : pc (kn.drop 1) (y : Rat) = r1.length := by
    rw [ekn]
    show pc (r1.map (·.1) ++ (r2.map (·.1) ++ [b])) (y : Rat) = _
    rw [pc_app]
    · simp
    · intro x hx
      obtain ⟨z, hz, rfl⟩ := List.mem_map.mp hx
      exact Rat.intCast_lt_intCast.mpr (h1 z hz)
    · intro x hx q
      have q := Rat.intCast_lt_intCast.mp q
      rcases List.mem_append.mp hx with hx | hx
      · obtain ⟨z, hz, rfl⟩ := List.mem_map.mp hx
        have := h2 z hz
        omega
      · simp at hx
        omega
  have jl := K.jl
  have kl : kn.length = r1.length + r2.length + 2 := by rw [ekn]; simp; omega
  have K1 : kn.take (r1.length + 1) = a :: r1.map (·.1) := by
    rw [ekn, List.take_succ_cons]
    congr 1
    have : r1.length = (r1.map (·.1)).length := by simp
    rw [this, List.take_left]
  have K2 : kn.drop (r1.length + 1) = r2.map (·.1) ++ [b] := by
    rw [ekn, List.drop_succ_cons]
    have : r1.length = (r1.map (·.1)).length := by simp
    rw [this, List.drop_left]
  have F1 : f.take (r1.length + 1) = p :: r1.map (·.2) := by
    rw [ef, List.cons_append, List.take_succ_cons]
    congr 1
    have : r1.length = (r1.map (·.2)).length := by simp
    rw [this, List.take_left]
  have F2 : f.drop r1.length = lastP p r1 :: r2.map (·.2) := by rw [ef]; exact last_get r1 p _
  have cv2 : Cv (kn.take (r1.length + 1) ++ [y] ++ kn.drop (r1.length + 1)) (f.take (r1.length + 1) ++ f.drop r1.length) a p (r1 ++ (y, lastP p r1) :: r2) b := ⟨by rw [K1, K2]; simp, by rw [F1, F2]; simp⟩
  refine ⟨r1.length, hpc.symm, fun i hi => ?_, by omega, ?_, ?_, ?_, ?_⟩
  · constructor
    · intro q
      by_cases z : i ≤ r1.length
      · exact z
      · exfalso
        have g : kn.getD i 0 ∈ kn.drop (r1.length + 1) := by
          rw [List.getD_eq_getElem?_getD, List.getElem?_eq_getElem hi]
          show kn[i] ∈ _
          rw [List.mem_drop_iff_getElem]
          exact ⟨i - (r1.length + 1), by omega, by congr 1; omega⟩
        rw [K2] at g
        rcases List.mem_append.mp g with g | g
        · obtain ⟨z, hz, e⟩ := List.mem_map.mp g
          have := h2 z hz
          omega
        · have g := List.mem_singleton.mp g; omega
    · intro q
      have g : kn.getD i 0 ∈ kn.take (r1.length + 1) := by
        rw [List.getD_eq_getElem?_getD, List.getElem?_eq_getElem hi]
        show kn[i] ∈ _
        rw [List.mem_take_iff_getElem]
        exact ⟨i, by omega, rfl⟩
      rw [K1] at g
      rcases List.mem_cons.mp g with g | g
      · omega
      · obtain ⟨z, hz, e⟩ := List.mem_map.mp g
        have := h1 z hz
        omega
  · refine KOk.mk' K.d1 K.d3 (by rw [K1, K2]; simp; omega) (by rw [K1, K2]; simp; omega) (fun x hx => ?_) ?_ (by simp; omega) (fun j hj => ?_)
    · rcases List.mem_append.mp hx with hx | hx
      · rcases List.mem_append.mp hx with hx | hx
        · exact K.rng x (List.mem_of_mem_take hx)
        · have q1 := K.rng a (by rw [c.ek]; exact List.mem_cons_self)
          have q2 := K.rng b (by rw [c.ek]; simp)
          simp at hx
          omega
      · exact K.rng x (List.mem_of_mem_drop hx)
    · have pk := K.pw
      rw [← List.take_append_drop (r1.length + 1) kn, List.pairwise_append] at pk
      rw [List.pairwise_append, List.pairwise_append]
      have lo : ∀ x ∈ kn.take (r1.length + 1), x < y := fun x hx => by
        rw [K1] at hx
        rcases List.mem_cons.mp hx with rfl | hx
        · exact ha
        · obtain ⟨z, hz, rfl⟩ := List.mem_map.mp hx
          exact h1 z hz
      have hi : ∀ x ∈ kn.drop (r1.length + 1), y < x := fun x hx => by
        rw [K2] at hx
        rcases List.mem_append.mp hx with hx | hx
        · obtain ⟨z, hz, rfl⟩ := List.mem_map.mp hx
          exact h2 z hz
        · simp at hx; omega
      refine ⟨⟨pk.1, by simp, fun x hx z hz => ?_⟩, pk.2.1, fun x hx z hz => ?_⟩
      · simp at hz; rw [hz]; exact lo x hx
      · rcases List.mem_append.mp hx with hx | hx
        · exact pk.2.2 x hx z hz
        · simp at hx; rw [hx]; exact hi z hz
    · have d1 := K.d1
      rcases List.mem_append.mp hj with hj | hj
      · rcases List.mem_append.mp hj with hj | hj
        · exact K.jd j (List.mem_of_mem_take hj)
        · simp at hj; omega
      · exact K.jd j (List.mem_of_mem_drop hj)
  · refine ⟨by rw [K1, K2, F1, F2]; simp; omega, fun q hq => ?_, fun q hq => ?_⟩
    · rcases List.mem_append.mp hq with hq | hq
      · exact R.row q (List.mem_of_mem_take hq)
      · exact R.row q (List.mem_of_mem_drop hq)
    · rcases List.mem_append.mp hq with hq | hq
      · exact R.sz q (List.mem_of_mem_take hq)
      · exact R.sz q (List.mem_of_mem_drop hq)
  · rw [cv2.inner, F1, F2]
    have C' := C
    rw [c.inner, er, List.map_append] at C'
    have js : jo = jo.take r1.length ++ jo.drop r1.length := (List.take_append_drop _ _).symm
    have jt : (jo.take r1.length).length = r1.length := by rw [List.length_take]; omega
    rw [js, List.zip_append (by rw [jt]; simp), ef] at C'
    have z := Chn.ins y (deg - 1) r1 (jo.take r1.length) _ _ p jt C'
    rw [List.map_append, List.map_cons, List.append_assoc, List.zip_append (by rw [jt]; simp)]
    exact z
  · rw [thinR_eq deg cv2, thinR_eq deg c, er, thR_ins deg y K.d1 K.d3 (by rw [← er]; exact c.pl R)]
end Lw

/-! k13: the law -/
namespace Lw
open PySem PySem.Spec PyProof.Rows L2 J
local macro_rules
  | `(tactic| simp_arith) => `(tactic| simp only [seqR_nx, seqR_ret, seqR_exc, seqR_err, dB_nil, dB_cons, dS_doc, dS_pass, kSet2_eq, kSet_eq, dS_set, nxO_some, kAsg2_eq, kAsg_eq, dS_asg, kPar2_eq, kPar_eq, dS_par, kDrop_eq, dS_drop, kRet2_eq, kRet_eq, dS_ret, kRetO_eq, dS_retOwn, kIfS_t, kIfS_f, dS_ife, dS_raise, dS_frz, dS_tryy, slotR_v, slotR_o, dE_slot, dE_cst, dE_fnv, kB2_eq, kB1_eq, kU_eq, dE_bin, dE_cmp, kC3_t, kC3_f, kC2_eq, kC1_eq, dE_chain, dE_ix, kS3_eq, kS2_eq, kS1_eq, dE_sl, dE_rev, dE_neg, kNot_eq, dE_notv, kAnd_t, kAnd_f, dE_andv, kOr_t, kOr_f, dE_orv, kIf_t, kIf_f, dE_ife, kTup_eq, kLst_eq, kV_eq, dE_tup, dE_lst, kCall_eq, dE_call, dE_b1, dE_b2, dE_isi, dE_isE, dE_lr1, dE_lr2, dO_no, kPart_eq, dO_so, dL_nil, kL3_eq, kL2_eq, kL1_eq, dL_cons, dEL_nil, kM3_eq, kM2_t, kM1_eq, dEL_cons, dT_yes, kTr_eq, kBl_eq, kNotT_eq, kAndT_t, kAndT_f, kOrT_t, kOrT_f, dT_tr, dT_cmp, dT_chain, dT_not, dT_and, dT_or, kSq_eq, dI_seq, kRg_eq, dI_rng, kZ3_eq, kZ2_eq, kZ1_eq, dI_zip, kEn_eq, dI_enum, k_add, k_sub, k_mul, k_fdiv, k_mod, k_pow, add_ii, sub_ii, mul_ii, fdiv_ii, mod_ii, pow_ii, neg_i, abs_i, k_eq, k_ne, lt_ii, le_ii, gt_ii, ge_ii, k_is, k_isnot, k_inn, k_notin, is_bb, isn_bb, blK_b, truth_b, truth_i, truth_n, toD_v, toD_f, slotOf_v, slotOf_ft, slotOf_ff, seqOf_l, seqOf_t, seqOf_s, seqOf_f, seqOf_b, lone_i, lone_t, lone_l, lone_b, lone_n, lone_s, lone_f, len_t, len_l, len_f, len_b, len_s, b1_len, b1_all, b1_any, b1_sum, b1_max, b1_tuple, b1_list, b1_int, b1_abs, b1_str, tup_l, tup_t, tup_f, tup_b, lst_l, lst_t, lst_f, lst_b, lst_s, isi_i, isi_b, isi_t, isi_s, isi_n, isi_l, isiT1, isiT2, isiT3, isiT4, isiT5, isiT6, isiT7, isiT8, isiT9, ix_t, ix_l, ix_f, ix_b, ix_s, rev_t, rev_l, partK_i, cut_t, cut_l, cut_f, cut_b, srcOf_l, srcOf_t, srcOf_f, srcOf_b, srcOf_r, srK_l, srK_t, srK_f, srK_b, okI1, okI2, okI3, okI3', okI3'', okI4, okI5, setsE0, setsE1, slotsOf0, slotsOf1, bindT_n, bindT_t, bindT_w, bindTs_0, bindTs_1, fx1, fx2, fx3, fx4, fx5, fx6, fx7, fx8, loopL_nil, dS_whl, endF_ret, endF_nx, endF_exc, trim_self, at0, at1, at2, ne_ii, eq_ii, ne_fr, eq_fr, List.getElem?_cons_succ, List.getElem?_cons_zero, List.set_cons_succ, List.set_cons_zero, Option.map_some, Option.bind_some, Bool.not_true, Bool.not_false, if_true, Bool.false_eq_true, if_false, bind_ok, exS_ok, lift_some, decide_true, decide_false, wipeE, Ph_call, Ph_fuel, Ph_make, bind_exc])
  | `(tactic| simp_arith [$xs,*]) => `(tactic| simp only [seqR_nx, seqR_ret, seqR_exc, seqR_err, dB_nil, dB_cons, dS_doc, dS_pass, kSet2_eq, kSet_eq, dS_set, nxO_some, kAsg2_eq, kAsg_eq, dS_asg, kPar2_eq, kPar_eq, dS_par, kDrop_eq, dS_drop, kRet2_eq, kRet_eq, dS_ret, kRetO_eq, dS_retOwn, kIfS_t, kIfS_f, dS_ife, dS_raise, dS_frz, dS_tryy, slotR_v, slotR_o, dE_slot, dE_cst, dE_fnv, kB2_eq, kB1_eq, kU_eq, dE_bin, dE_cmp, kC3_t, kC3_f, kC2_eq, kC1_eq, dE_chain, dE_ix, kS3_eq, kS2_eq, kS1_eq, dE_sl, dE_rev, dE_neg, kNot_eq, dE_notv, kAnd_t, kAnd_f, dE_andv, kOr_t, kOr_f, dE_orv, kIf_t, kIf_f, dE_ife, kTup_eq, kLst_eq, kV_eq, dE_tup, dE_lst, kCall_eq, dE_call, dE_b1, dE_b2, dE_isi, dE_isE, dE_lr1, dE_lr2, dO_no, kPart_eq, dO_so, dL_nil, kL3_eq, kL2_eq, kL1_eq, dL_cons, dEL_nil, kM3_eq, kM2_t, kM1_eq, dEL_cons, dT_yes, kTr_eq, kBl_eq, kNotT_eq, kAndT_t, kAndT_f, kOrT_t, kOrT_f, dT_tr, dT_cmp, dT_chain, dT_not, dT_and, dT_or, kSq_eq, dI_seq, kRg_eq, dI_rng, kZ3_eq, kZ2_eq, kZ1_eq, dI_zip, kEn_eq, dI_enum, k_add, k_sub, k_mul, k_fdiv, k_mod, k_pow, add_ii, sub_ii, mul_ii, fdiv_ii, mod_ii, pow_ii, neg_i, abs_i, k_eq, k_ne, lt_ii, le_ii, gt_ii, ge_ii, k_is, k_isnot, k_inn, k_notin, is_bb, isn_bb, blK_b, truth_b, truth_i, truth_n, toD_v, toD_f, slotOf_v, slotOf_ft, slotOf_ff, seqOf_l, seqOf_t, seqOf_s, seqOf_f, seqOf_b, lone_i, lone_t, lone_l, lone_b, lone_n, lone_s, lone_f, len_t, len_l, len_f, len_b, len_s, b1_len, b1_all, b1_any, b1_sum, b1_max, b1_tuple, b1_list, b1_int, b1_abs, b1_str, tup_l, tup_t, tup_f, tup_b, lst_l, lst_t, lst_f, lst_b, lst_s, isi_i, isi_b, isi_t, isi_s, isi_n, isi_l, isiT1, isiT2, isiT3, isiT4, isiT5, isiT6, isiT7, isiT8, isiT9, ix_t, ix_l, ix_f, ix_b, ix_s, rev_t, rev_l, partK_i, cut_t, cut_l, cut_f, cut_b, srcOf_l, srcOf_t, srcOf_f, srcOf_b, srcOf_r, srK_l, srK_t, srK_f, srK_b, okI1, okI2, okI3, okI3', okI3'', okI4, okI5, setsE0, setsE1, slotsOf0, slotsOf1, bindT_n, bindT_t, bindT_w, bindTs_0, bindTs_1, fx1, fx2, fx3, fx4, fx5, fx6, fx7, fx8, loopL_nil, dS_whl, endF_ret, endF_nx, endF_exc, trim_self, at0, at1, at2, ne_ii, eq_ii, ne_fr, eq_fr, List.getElem?_cons_succ, List.getElem?_cons_zero, List.set_cons_succ, List.set_cons_zero, Option.map_some, Option.bind_some, Bool.not_true, Bool.not_false, if_true, Bool.false_eq_true, if_false, bind_ok, exS_ok, lift_some, decide_true, decide_false, wipeE, Ph_call, Ph_fuel, Ph_make, bind_exc, $xs,*])
  | `(tactic| simp_arith $l:location) => `(tactic| simp only [seqR_nx, seqR_ret, seqR_exc, seqR_err, dB_nil, dB_cons, dS_doc, dS_pass, kSet2_eq, kSet_eq, dS_set, nxO_some, kAsg2_eq, kAsg_eq, dS_asg, kPar2_eq, kPar_eq, dS_par, kDrop_eq, dS_drop, kRet2_eq, kRet_eq, dS_ret, kRetO_eq, dS_retOwn, kIfS_t, kIfS_f, dS_ife, dS_raise, dS_frz, dS_tryy, slotR_v, slotR_o, dE_slot, dE_cst, dE_fnv, kB2_eq, kB1_eq, kU_eq, dE_bin, dE_cmp, kC3_t, kC3_f, kC2_eq, kC1_eq, dE_chain, dE_ix, kS3_eq, kS2_eq, kS1_eq, dE_sl, dE_rev, dE_neg, kNot_eq, dE_notv, kAnd_t, kAnd_f, dE_andv, kOr_t, kOr_f, dE_orv, kIf_t, kIf_f, dE_ife, kTup_eq, kLst_eq, kV_eq, dE_tup, dE_lst, kCall_eq, dE_call, dE_b1, dE_b2, dE_isi, dE_isE, dE_lr1, dE_lr2, dO_no, kPart_eq, dO_so, dL_nil, kL3_eq, kL2_eq, kL1_eq, dL_cons, dEL_nil, kM3_eq, kM2_t, kM1_eq, dEL_cons, dT_yes, kTr_eq, kBl_eq, kNotT_eq, kAndT_t, kAndT_f, kOrT_t, kOrT_f, dT_tr, dT_cmp, dT_chain, dT_not, dT_and, dT_or, kSq_eq, dI_seq, kRg_eq, dI_rng, kZ3_eq, kZ2_eq, kZ1_eq, dI_zip, kEn_eq, dI_enum, k_add, k_sub, k_mul, k_fdiv, k_mod, k_pow, add_ii, sub_ii, mul_ii, fdiv_ii, mod_ii, pow_ii, neg_i, abs_i, k_eq, k_ne, lt_ii, le_ii, gt_ii, ge_ii, k_is, k_isnot, k_inn, k_notin, is_bb, isn_bb, blK_b, truth_b, truth_i, truth_n, toD_v, toD_f, slotOf_v, slotOf_ft, slotOf_ff, seqOf_l, seqOf_t, seqOf_s, seqOf_f, seqOf_b, lone_i, lone_t, lone_l, lone_b, lone_n, lone_s, lone_f, len_t, len_l, len_f, len_b, len_s, b1_len, b1_all, b1_any, b1_sum, b1_max, b1_tuple, b1_list, b1_int, b1_abs, b1_str, tup_l, tup_t, tup_f, tup_b, lst_l, lst_t, lst_f, lst_b, lst_s, isi_i, isi_b, isi_t, isi_s, isi_n, isi_l, isiT1, isiT2, isiT3, isiT4, isiT5, isiT6, isiT7, isiT8, isiT9, ix_t, ix_l, ix_f, ix_b, ix_s, rev_t, rev_l, partK_i, cut_t, cut_l, cut_f, cut_b, srcOf_l, srcOf_t, srcOf_f, srcOf_b, srcOf_r, srK_l, srK_t, srK_f, srK_b, okI1, okI2, okI3, okI3', okI3'', okI4, okI5, setsE0, setsE1, slotsOf0, slotsOf1, bindT_n, bindT_t, bindT_w, bindTs_0, bindTs_1, fx1, fx2, fx3, fx4, fx5, fx6, fx7, fx8, loopL_nil, dS_whl, endF_ret, endF_nx, endF_exc, trim_self, at0, at1, at2, ne_ii, eq_ii, ne_fr, eq_fr, List.getElem?_cons_succ, List.getElem?_cons_zero, List.set_cons_succ, List.set_cons_zero, Option.map_some, Option.bind_some, Bool.not_true, Bool.not_false, if_true, Bool.false_eq_true, if_false, bind_ok, exS_ok, lift_some, decide_true, decide_false, wipeE, Ph_call, Ph_fuel, Ph_make, bind_exc] $l)
  | `(tactic| simp_arith [$xs,*] $l:location) => `(tactic| simp only [seqR_nx, seqR_ret, seqR_exc, seqR_err, dB_nil, dB_cons, dS_doc, dS_pass, kSet2_eq, kSet_eq, dS_set, nxO_some, kAsg2_eq, kAsg_eq, dS_asg, kPar2_eq, kPar_eq, dS_par, kDrop_eq, dS_drop, kRet2_eq, kRet_eq, dS_ret, kRetO_eq, dS_retOwn, kIfS_t, kIfS_f, dS_ife, dS_raise, dS_frz, dS_tryy, slotR_v, slotR_o, dE_slot, dE_cst, dE_fnv, kB2_eq, kB1_eq, kU_eq, dE_bin, dE_cmp, kC3_t, kC3_f, kC2_eq, kC1_eq, dE_chain, dE_ix, kS3_eq, kS2_eq, kS1_eq, dE_sl, dE_rev, dE_neg, kNot_eq, dE_notv, kAnd_t, kAnd_f, dE_andv, kOr_t, kOr_f, dE_orv, kIf_t, kIf_f, dE_ife, kTup_eq, kLst_eq, kV_eq, dE_tup, dE_lst, kCall_eq, dE_call, dE_b1, dE_b2, dE_isi, dE_isE, dE_lr1, dE_lr2, dO_no, kPart_eq, dO_so, dL_nil, kL3_eq, kL2_eq, kL1_eq, dL_cons, dEL_nil, kM3_eq, kM2_t, kM1_eq, dEL_cons, dT_yes, kTr_eq, kBl_eq, kNotT_eq, kAndT_t, kAndT_f, kOrT_t, kOrT_f, dT_tr, dT_cmp, dT_chain, dT_not, dT_and, dT_or, kSq_eq, dI_seq, kRg_eq, dI_rng, kZ3_eq, kZ2_eq, kZ1_eq, dI_zip, kEn_eq, dI_enum, k_add, k_sub, k_mul, k_fdiv, k_mod, k_pow, add_ii, sub_ii, mul_ii, fdiv_ii, mod_ii, pow_ii, neg_i, abs_i, k_eq, k_ne, lt_ii, le_ii, gt_ii, ge_ii, k_is, k_isnot, k_inn, k_notin, is_bb, isn_bb, blK_b, truth_b, truth_i, truth_n, toD_v, toD_f, slotOf_v, slotOf_ft, slotOf_ff, seqOf_l, seqOf_t, seqOf_s, seqOf_f, seqOf_b, lone_i, lone_t, lone_l, lone_b, lone_n, lone_s, lone_f, len_t, len_l, len_f, len_b, len_s, b1_len, b1_all, b1_any, b1_sum, b1_max, b1_tuple, b1_list, b1_int, b1_abs, b1_str, tup_l, tup_t, tup_f, tup_b, lst_l, lst_t, lst_f, lst_b, lst_s, isi_i, isi_b, isi_t, isi_s, isi_n, isi_l, isiT1, isiT2, isiT3, isiT4, isiT5, isiT6, isiT7, isiT8, isiT9, ix_t, ix_l, ix_f, ix_b, ix_s, rev_t, rev_l, partK_i, cut_t, cut_l, cut_f, cut_b, srcOf_l, srcOf_t, srcOf_f, srcOf_b, srcOf_r, srK_l, srK_t, srK_f, srK_b, okI1, okI2, okI3, okI3', okI3'', okI4, okI5, setsE0, setsE1, slotsOf0, slotsOf1, bindT_n, bindT_t, bindT_w, bindTs_0, bindTs_1, fx1, fx2, fx3, fx4, fx5, fx6, fx7, fx8, loopL_nil, dS_whl, endF_ret, endF_nx, endF_exc, trim_self, at0, at1, at2, ne_ii, eq_ii, ne_fr, eq_fr, List.getElem?_cons_succ, List.getElem?_cons_zero, List.set_cons_succ, List.set_cons_zero, Option.map_some, Option.bind_some, Bool.not_true, Bool.not_false, if_true, Bool.false_eq_true, if_false, bind_ok, exS_ok, lift_some, decide_true, decide_false, wipeE, Ph_call, Ph_fuel, Ph_make, bind_exc, $xs,*] $l)
theorem mul_one (h : AH) (x : D) (n : Nat) (hn : n ≤ 100) : mulK h (.v (.tup [x])) (.v (.int (n : Int))) = some (.v (.tup (List.replicate n x))) := by
  have e : mulK h (.v (.tup [x])) (.v (.int (n : Int))) = if [x] ≠ [] ∧ -1000 ≤ (n : Int) ∧ (n : Int) ≤ 1000 ∧ [x].length ≤ 1000 then some (.v (.tup (List.replicate (n : Int).toNat [x]).flatten)) else none := by
    simp only [mulK, seqOf_t]
  have e2 : ∀ n : Nat, (List.replicate n [x]).flatten = List.replicate n x := fun n => by
    induction n with
    | zero => rfl
    | succ n ih => rw [List.replicate_succ, List.flatten_cons, ih, List.replicate_succ]; rfl
  rw [e, if_pos ⟨by simp, by omega, by omega, by simp⟩, Int.toNat_natCast, e2]
theorem eq_self_t (h : AH) (xs : List D) (p : plainD 60 (.tup xs) = true) (i : iD (.tup xs) = true) : eqK false h (.v (.tup xs)) (.v (.tup xs)) = some (.v (.bl true)) := (eq_iD h xs xs p p i i true (by simp)).1
theorem ne_self_t (h : AH) (xs : List D) (p : plainD 60 (.tup xs) = true) (i : iD (.tup xs) = true) : eqK true h (.v (.tup xs)) (.v (.tup xs)) = some (.v (.bl false)) := (eq_iD h xs xs p p i i true (by simp)).2
section
variable {ns : List Int} {hs : AH}
theorem lw_smooth (d : Nat) (hd : 2 ≤ d) {deg : Nat} {kn : List Int} {jo : List Nat} (K : KOk deg kn jo) {m : Nat} {h : AH} (ht : Town ns hs (m + jo.length * 1) h) (e2 e3 e4 e5 e6 e7 e8 e9 e11 e13 e14 e15 e16 e18 : Option Slot) : ∃ (sm : List Nat) (h' : AH), denE t_law (Ph d) (.lc (.seq (.slot 12)) (.name 17) (.yes) (.call k__law_pick (.cons (.slot 0) (.cons (.slot 1) (.cons (.lst (.cons (.slot 17) (.cons (.bin .sub (.slot 10) (.cst (.int 1))) (.nil)))) (.nil))))) [17]) [some (.val (.scr ns)), some (.val (.ref 0)), e2, e3, e4, e5, e6, e7, e8, e9, some (.val (.int (deg : Int))), e11, some (.val (.tup (jo.map jD))), e13, e14, e15, e16, none, e18] h = .ok (.f (sm.map jD)) h' ∧ KOk deg kn sm ∧ (∀ i, i < sm.length → jo.getD i 0 ≤ sm.getD i 0) ∧ Town ns hs m h' := by
  have d1 := K.d1
  have key : ∀ (l : List Nat) (acc : List D) (m : Nat) (h : AH), (∀ j ∈ l, j < deg) → acc.length + l.length ≤ 1000 → Town ns hs (m + l.length * 1) h → ∃ (sm : List Nat) (h' : AH), lcL (.name 17) (turn1 (denT t_law (Ph d) .yes) (denE t_law (Ph d) (.call k__law_pick (.cons (.slot 0) (.cons (.slot 1) (.cons (.lst (.cons (.slot 17) (.cons (.bin .sub (.slot 10) (.cst (.int 1))) (.nil)))) (.nil))))))) [some (.val (.scr ns)), some (.val (.ref 0)), e2, e3, e4, e5, e6, e7, e8, e9, some (.val (.int (deg : Int))), e11, some (.val (.tup (jo.map jD))), e13, e14, e15, e16, none, e18] (l.map jD) h acc = .ok (acc ++ sm.map jD) h' ∧ sm.length = l.length ∧ (∀ j ∈ sm, j < deg) ∧ (∀ i, i < sm.length → l.getD i 0 ≤ sm.getD i 0) ∧ Town ns hs m h' := by
    intro l
    induction l with
    | nil => intro acc m h _ _ ht; exact ⟨[], h, by simp [lcL], rfl, by simp, by simp, by simpa using ht⟩
    | cons j l ih =>
      intro acc m h hj hl ht
      rw [List.length_cons] at hl
      have ed : ((deg : Int) - 1) = ((deg - 1 : Nat) : Int) := by omega
      obtain ⟨x, h1, z, hx, t1⟩ := l_pick (d := d) hd (m := m + l.length * 1) (by simpa [Nat.add_assoc] using ht) (ds := [D.int (j : Int), .int ((deg - 1 : Nat) : Int)]) (by simp) (by simp)
      have hjd := hj j List.mem_cons_self
      obtain ⟨k, hk, hk1, hk2⟩ : ∃ k : Nat, x = jD k ∧ k < deg ∧ j ≤ k := by
        simp at hx
        rcases hx with rfl | rfl
        · exact ⟨j, rfl, hjd, Nat.le_refl _⟩
        · exact ⟨deg - 1, rfl, by omega, by omega⟩
      subst hk
      obtain ⟨sm, h2, y, s1, s2, s3, t2⟩ := ih (acc ++ [jD k]) m h1 (fun i hi => hj i (List.mem_cons_of_mem _ hi)) (by simp; omega) t1
      refine ⟨k :: sm, h2, ?_, by simp [s1], fun i hi => ?_, fun i hi => ?_, t2⟩
      · simp only [List.map_cons, lcL, bindT_n]
        simp_arith [turn1, ed, z, if_pos (show acc.length < sizeLine from Nat.lt_of_lt_of_le (show acc.length < 1000 by omega) (by decide)), y]
        simp
      · rcases List.mem_cons.mp hi with rfl | hi
        · exact hk1
        · exact s2 i hi
      · cases i with
        | zero => exact hk2
        | succ i => exact s3 i (by simpa using hi)
  have jl := K.jl
  have l6 := K.l6
  obtain ⟨sm, h', y, s1, s2, s3, t2⟩ := key jo [] m h K.jd (by simp; omega) ht
  refine ⟨sm, h', ?_, ⟨K.d1, K.d3, K.l2, K.l6, K.rng, K.asc, by omega, s2⟩, s3, t2⟩
  rw [dE_lc (ds := jo.map jD) (sr := .one (.fx (jo.map jD))) (h1 := h) (by simp_arith) rfl]
  simp_arith
  rw [y]
  simp_arith [List.nil_append]
theorem lw_flat (d : Nat) (h : AH) {f : List (List Rat)} (hf : f ≠ []) (hl : (f.getD 0 []).length ≤ 900) (e0 e1 e2 e3 e5 e6 e7 e8 e9 e10 e11 e12 e13 e14 e15 e16 e17 : Option Slot) : denE t_law (Ph d) (.lc (.seq (.sl (.slot 4) .no (.so (.cst (.int 1))))) (.name 18) (.yes) (.bin .add (.sl (.slot 18) .no (.so (.neg (.cst (.int 1))))) (.tup (.cons (.tup (.cons (.cst (.int 0)) (.cons (.cst (.int 1)) (.nil)))) (.nil)))) [18]) [e0, e1, e2, e3, some (.val (fnD f)), e5, e6, e7, e8, e9, e10, e11, e12, e13, e14, e15, e16, e17, none] h = .ok (.f [rowD ((f.getD 0 []).dropLast ++ [0])]) h := by
  have c := cutD_take (f.map rowD) 1
  have e : (f.map rowD).take 1 = [rowD (f.getD 0 [])] := by
    cases f with
    | nil => exact absurd rfl hf
    | cons p f => rfl
  rw [e] at c
  rw [show (((1 : Nat) : Int)) = 1 from rfl] at c
  rw [dE_lcm rowD (fun p => rowD (p.dropLast ++ [0])) [f.getD 0 []] (h1 := h) (sr := .one (.fx [rowD (f.getD 0 [])])) (by simp_arith [c]) rfl (size_le (by simp)) (fun p hp => ⟨_, .v (rowD (p.dropLast ++ [0])), bindT_n _ _, rfl, by
      rw [List.mem_singleton.mp hp]
      have a := add_tt h (((f.getD 0 []).map frD).dropLast) [frD 0] (by rw [List.length_dropLast, List.length_map]; simp only [List.length_cons, List.length_nil]; omega)
      have ef : D.tup [.int 0, .int 1] = frD 0 := rfl
      simp_arith [cut_dropLast, ef, a]
      rw [← List.map_dropLast]
      simp [rowD], rfl⟩)]
  rfl
theorem lw_told (d : Nat) (hd : 4 ≤ d) (h : AH) {deg : Nat} {kn : List Int} {jo : List Nat} (K : KOk deg kn jo) {n : Nat} {f : List (List Rat)} (R : ROk deg kn n f) (hn : 0 < n) (hn2 : n ≤ 800) (e0 e1 e2 e3 e5 e6 e7 e8 e9 e10 e13 e15 e16 e17 e18 : Option Slot) : denE t_law (Ph d) (.lc (.rng (.cons (.b1 .len (.slot 12)) (.nil))) (.name 14) (.yes) (.call k__law_agreeing (.cons (.ix (.slot 4) (.slot 14)) (.cons (.ix (.slot 4) (.bin .add (.slot 14) (.cst (.int 1)))) (.cons (.ix (.slot 11) (.bin .add (.slot 14) (.cst (.int 1)))) (.nil))))) [14]) [e0, e1, e2, e3, some (.val (fnD f)), e5, e6, e7, e8, e9, e10, some (.val (.tup (kn.map D.int))), some (.val (.tup (jo.map jD))), e13, none, e15, e16, e17, e18] h = .ok (.f ((agL kn f).map D.int)) h := by
  have jl := K.jl
  have l6 := K.l6
  have rl := R.len
  have e : (agL kn f).map D.int = (List.range jo.length).map fun i => .int (agr (f.getD i []) (f.getD (i + 1) []) ((kn.getD (i + 1) 0 : Int) : Rat)) := by
    apply List.ext_getElem?
    intro i
    unfold agL
    simp only [List.getElem?_map, List.getElem?_zipIdx, List.getElem?_range]
    by_cases hi : i < jo.length
    · have h2 : i < (inner kn).length := by rw [inner_len]; omega
      have g := inner_getD kn (i := i) (by omega)
      rw [List.getD_eq_getElem?_getD, List.getElem?_eq_getElem h2] at g
      have g : (inner kn)[i] = kn.getD (i + 1) 0 := g
      rw [List.getElem?_eq_getElem h2, g]
      simp [hi]
    · have h2 : (inner kn)[i]? = none := by rw [List.getElem?_eq_none_iff, inner_len]; omega
      rw [h2]
      simp [hi]
  have el : ((jo.map jD).length : Int).toNat = jo.length := by rw [List.length_map]; omega
  rw [e]
  refine dE_lcm (fun i : Nat => D.int (0 + (i : Nat))) (fun i => .int (agr (f.getD i []) (f.getD (i + 1) []) ((kn.getD (i + 1) 0 : Int) : Rat))) (List.range jo.length) (sr := .one (.fx (J.upTo 0 ((jo.map jD).length : Int).toNat))) (dI_r1 (by simp_arith) (rg_nat (by rw [List.length_map]; omega))) (by rw [fx1, el, J.upTo]) (size_le (by simp; omega)) (fun i hi => ?_)
  have hi := List.mem_range.mp hi
  have m1 := getD_mem (z := ([] : List Rat)) (show i < f.length by omega)
  have m2 := getD_mem (z := ([] : List Rat)) (show i + 1 < f.length by omega)
  have m3 := getD_mem (z := (0 : Int)) (show i + 1 < kn.length by omega)
  have z := l_agreeing K.d1 K.d3 (R.row _ m1) (R.row _ m2) (R.sz _ m1) (R.sz _ m2) hn hn2 (K_mem K m3) h (d := d) hd
  have g1 := get_row (show i < f.length by omega)
  have g2 := get_row (show i + 1 < f.length by omega)
  have g3 := get_int (show i + 1 < kn.length by omega)
  have i2 : ((i : Int) + 1) = ((i + 1 : Nat) : Int) := by omega
  exact ⟨_, _, by rw [Int.zero_add]; exact bindT_n _ _, rfl, by simp_arith [i2, at_nat, g1, g2, g3, z]; rfl, rfl⟩
theorem lw_at (d : Nat) (h : AH) {kn : List Int} (hl : kn.length ≤ 100) {y : Int} {k : Nat} (hk : ∀ i, i < kn.length → (kn.getD i 0 < y ↔ i ≤ k)) (hk2 : k < kn.length) (e0 e1 e2 e3 e4 e5 e6 e7 e9 e10 e12 e13 e15 e16 e17 e18 : Option Slot) : denE t_law (Ph d) (.lc (.rng (.cons (.b1 .len (.slot 11)) (.nil))) (.name 14) (.cmp .lt (.ix (.slot 11) (.slot 14)) (.slot 8)) (.slot 14) [14]) [e0, e1, e2, e3, e4, e5, e6, e7, some (.val (.int y)), e9, e10, some (.val (.tup (kn.map D.int))), e12, e13, none, e15, e16, e17, e18] h = .ok (.f ((List.range (k + 1)).map jD)) h := by
  have e : List.range (k + 1) = (List.range kn.length).filter fun i => decide (kn.getD i 0 < y) := by
    obtain ⟨m, hm⟩ : ∃ m, kn.length = (k + 1) + m := ⟨kn.length - (k + 1), by omega⟩
    have q : List.range' 0 (k + 1 + m) = List.range' 0 (k + 1) ++ List.range' (0 + (k + 1)) m := List.range'_append_1.symm
    rw [hm, List.range_eq_range', List.range_eq_range', q, List.filter_append]
    have f1 : (List.range' 0 (k + 1)).filter (fun i => decide (kn.getD i 0 < y)) = List.range' 0 (k + 1) := by
      rw [List.filter_eq_self]
      intro i hi
      have := List.mem_range'_1.mp hi
      exact decide_eq_true ((hk i (by omega)).mpr (by omega))
    have f2 : (List.range' (0 + (k + 1)) m).filter (fun i => decide (kn.getD i 0 < y)) = [] := by
      rw [List.filter_eq_nil_iff]
      intro i hi q
      have := List.mem_range'_1.mp hi
      have := (hk i (by omega)).mp (of_decide_eq_true q)
      omega
    rw [f1, f2, List.append_nil]
  have el : ((kn.map D.int).length : Int).toNat = kn.length := by rw [List.length_map]; omega
  rw [e]
  refine dE_lcf (fun i : Nat => D.int (0 + (i : Nat))) jD (fun i => decide (kn.getD i 0 < y)) (List.range kn.length) (sr := .one (.fx (J.upTo 0 ((kn.map D.int).length : Int).toNat))) (dI_r1 (by simp_arith) (rg_nat (by rw [List.length_map]; omega))) (by rw [fx1, el, J.upTo]) (by simp; omega) (fun i hi => ?_)
  have hi := List.mem_range.mp hi
  have g3 := get_int (show i < kn.length by omega)
  exact ⟨_, _, by rw [Int.zero_add]; exact bindT_n _ _, by simp_arith [at_nat, g3], by simp_arith; rfl, rfl⟩
end
end Lw

/-! k13: the law -/
namespace Lw
open PySem PySem.Spec PyProof.Rows L2 J
local macro_rules
  | `(tactic| simp_arith) => `(tactic| simp only [seqR_nx, seqR_ret, seqR_exc, seqR_err, dB_nil, dB_cons, dS_doc, dS_pass, kSet2_eq, kSet_eq, dS_set, nxO_some, kAsg2_eq, kAsg_eq, dS_asg, kPar2_eq, kPar_eq, dS_par, kDrop_eq, dS_drop, kRet2_eq, kRet_eq, dS_ret, kRetO_eq, dS_retOwn, kIfS_t, kIfS_f, dS_ife, dS_raise, dS_frz, dS_tryy, slotR_v, slotR_o, dE_slot, dE_cst, dE_fnv, kB2_eq, kB1_eq, kU_eq, dE_bin, dE_cmp, kC3_t, kC3_f, kC2_eq, kC1_eq, dE_chain, dE_ix, kS3_eq, kS2_eq, kS1_eq, dE_sl, dE_rev, dE_neg, kNot_eq, dE_notv, kAnd_t, kAnd_f, dE_andv, kOr_t, kOr_f, dE_orv, kIf_t, kIf_f, dE_ife, kTup_eq, kLst_eq, kV_eq, dE_tup, dE_lst, kCall_eq, dE_call, dE_b1, dE_b2, dE_isi, dE_isE, dE_lr1, dE_lr2, dO_no, kPart_eq, dO_so, dL_nil, kL3_eq, kL2_eq, kL1_eq, dL_cons, dEL_nil, kM3_eq, kM2_t, kM1_eq, dEL_cons, dT_yes, kTr_eq, kBl_eq, kNotT_eq, kAndT_t, kAndT_f, kOrT_t, kOrT_f, dT_tr, dT_cmp, dT_chain, dT_not, dT_and, dT_or, kSq_eq, dI_seq, kRg_eq, dI_rng, kZ3_eq, kZ2_eq, kZ1_eq, dI_zip, kEn_eq, dI_enum, k_add, k_sub, k_mul, k_fdiv, k_mod, k_pow, add_ii, sub_ii, mul_ii, fdiv_ii, mod_ii, pow_ii, neg_i, abs_i, k_eq, k_ne, lt_ii, le_ii, gt_ii, ge_ii, k_is, k_isnot, k_inn, k_notin, is_bb, isn_bb, blK_b, truth_b, truth_i, truth_n, toD_v, toD_f, slotOf_v, slotOf_ft, slotOf_ff, seqOf_l, seqOf_t, seqOf_s, seqOf_f, seqOf_b, lone_i, lone_t, lone_l, lone_b, lone_n, lone_s, lone_f, len_t, len_l, len_f, len_b, len_s, b1_len, b1_all, b1_any, b1_sum, b1_max, b1_tuple, b1_list, b1_int, b1_abs, b1_str, tup_l, tup_t, tup_f, tup_b, lst_l, lst_t, lst_f, lst_b, lst_s, isi_i, isi_b, isi_t, isi_s, isi_n, isi_l, isiT1, isiT2, isiT3, isiT4, isiT5, isiT6, isiT7, isiT8, isiT9, ix_t, ix_l, ix_f, ix_b, ix_s, rev_t, rev_l, partK_i, cut_t, cut_l, cut_f, cut_b, srcOf_l, srcOf_t, srcOf_f, srcOf_b, srcOf_r, srK_l, srK_t, srK_f, srK_b, okI1, okI2, okI3, okI3', okI3'', okI4, okI5, setsE0, setsE1, slotsOf0, slotsOf1, bindT_n, bindT_t, bindT_w, bindTs_0, bindTs_1, fx1, fx2, fx3, fx4, fx5, fx6, fx7, fx8, loopL_nil, dS_whl, endF_ret, endF_nx, endF_exc, trim_self, at0, at1, at2, ne_ii, eq_ii, ne_fr, eq_fr, List.getElem?_cons_succ, List.getElem?_cons_zero, List.set_cons_succ, List.set_cons_zero, Option.map_some, Option.bind_some, Bool.not_true, Bool.not_false, if_true, Bool.false_eq_true, if_false, bind_ok, exS_ok, lift_some, decide_true, decide_false, wipeE, Ph_call, Ph_fuel, Ph_make, bind_exc])
  | `(tactic| simp_arith [$xs,*]) => `(tactic| simp only [seqR_nx, seqR_ret, seqR_exc, seqR_err, dB_nil, dB_cons, dS_doc, dS_pass, kSet2_eq, kSet_eq, dS_set, nxO_some, kAsg2_eq, kAsg_eq, dS_asg, kPar2_eq, kPar_eq, dS_par, kDrop_eq, dS_drop, kRet2_eq, kRet_eq, dS_ret, kRetO_eq, dS_retOwn, kIfS_t, kIfS_f, dS_ife, dS_raise, dS_frz, dS_tryy, slotR_v, slotR_o, dE_slot, dE_cst, dE_fnv, kB2_eq, kB1_eq, kU_eq, dE_bin, dE_cmp, kC3_t, kC3_f, kC2_eq, kC1_eq, dE_chain, dE_ix, kS3_eq, kS2_eq, kS1_eq, dE_sl, dE_rev, dE_neg, kNot_eq, dE_notv, kAnd_t, kAnd_f, dE_andv, kOr_t, kOr_f, dE_orv, kIf_t, kIf_f, dE_ife, kTup_eq, kLst_eq, kV_eq, dE_tup, dE_lst, kCall_eq, dE_call, dE_b1, dE_b2, dE_isi, dE_isE, dE_lr1, dE_lr2, dO_no, kPart_eq, dO_so, dL_nil, kL3_eq, kL2_eq, kL1_eq, dL_cons, dEL_nil, kM3_eq, kM2_t, kM1_eq, dEL_cons, dT_yes, kTr_eq, kBl_eq, kNotT_eq, kAndT_t, kAndT_f, kOrT_t, kOrT_f, dT_tr, dT_cmp, dT_chain, dT_not, dT_and, dT_or, kSq_eq, dI_seq, kRg_eq, dI_rng, kZ3_eq, kZ2_eq, kZ1_eq, dI_zip, kEn_eq, dI_enum, k_add, k_sub, k_mul, k_fdiv, k_mod, k_pow, add_ii, sub_ii, mul_ii, fdiv_ii, mod_ii, pow_ii, neg_i, abs_i, k_eq, k_ne, lt_ii, le_ii, gt_ii, ge_ii, k_is, k_isnot, k_inn, k_notin, is_bb, isn_bb, blK_b, truth_b, truth_i, truth_n, toD_v, toD_f, slotOf_v, slotOf_ft, slotOf_ff, seqOf_l, seqOf_t, seqOf_s, seqOf_f, seqOf_b, lone_i, lone_t, lone_l, lone_b, lone_n, lone_s, lone_f, len_t, len_l, len_f, len_b, len_s, b1_len, b1_all, b1_any, b1_sum, b1_max, b1_tuple, b1_list, b1_int, b1_abs, b1_str, tup_l, tup_t, tup_f, tup_b, lst_l, lst_t, lst_f, lst_b, lst_s, isi_i, isi_b, isi_t, isi_s, isi_n, isi_l, isiT1, isiT2, isiT3, isiT4, isiT5, isiT6, isiT7, isiT8, isiT9, ix_t, ix_l, ix_f, ix_b, ix_s, rev_t, rev_l, partK_i, cut_t, cut_l, cut_f, cut_b, srcOf_l, srcOf_t, srcOf_f, srcOf_b, srcOf_r, srK_l, srK_t, srK_f, srK_b, okI1, okI2, okI3, okI3', okI3'', okI4, okI5, setsE0, setsE1, slotsOf0, slotsOf1, bindT_n, bindT_t, bindT_w, bindTs_0, bindTs_1, fx1, fx2, fx3, fx4, fx5, fx6, fx7, fx8, loopL_nil, dS_whl, endF_ret, endF_nx, endF_exc, trim_self, at0, at1, at2, ne_ii, eq_ii, ne_fr, eq_fr, List.getElem?_cons_succ, List.getElem?_cons_zero, List.set_cons_succ, List.set_cons_zero, Option.map_some, Option.bind_some, Bool.not_true, Bool.not_false, if_true, Bool.false_eq_true, if_false, bind_ok, exS_ok, lift_some, decide_true, decide_false, wipeE, Ph_call, Ph_fuel, Ph_make, bind_exc, $xs,*])
  | `(tactic| simp_arith $l:location) => `(tactic| simp only [seqR_nx, seqR_ret, seqR_exc, seqR_err, dB_nil, dB_cons, dS_doc, dS_pass, kSet2_eq, kSet_eq, dS_set, nxO_some, kAsg2_eq, kAsg_eq, dS_asg, kPar2_eq, kPar_eq, dS_par, kDrop_eq, dS_drop, kRet2_eq, kRet_eq, dS_ret, kRetO_eq, dS_retOwn, kIfS_t, kIfS_f, dS_ife, dS_raise, dS_frz, dS_tryy, slotR_v, slotR_o, dE_slot, dE_cst, dE_fnv, kB2_eq, kB1_eq, kU_eq, dE_bin, dE_cmp, kC3_t, kC3_f, kC2_eq, kC1_eq, dE_chain, dE_ix, kS3_eq, kS2_eq, kS1_eq, dE_sl, dE_rev, dE_neg, kNot_eq, dE_notv, kAnd_t, kAnd_f, dE_andv, kOr_t, kOr_f, dE_orv, kIf_t, kIf_f, dE_ife, kTup_eq, kLst_eq, kV_eq, dE_tup, dE_lst, kCall_eq, dE_call, dE_b1, dE_b2, dE_isi, dE_isE, dE_lr1, dE_lr2, dO_no, kPart_eq, dO_so, dL_nil, kL3_eq, kL2_eq, kL1_eq, dL_cons, dEL_nil, kM3_eq, kM2_t, kM1_eq, dEL_cons, dT_yes, kTr_eq, kBl_eq, kNotT_eq, kAndT_t, kAndT_f, kOrT_t, kOrT_f, dT_tr, dT_cmp, dT_chain, dT_not, dT_and, dT_or, kSq_eq, dI_seq, kRg_eq, dI_rng, kZ3_eq, kZ2_eq, kZ1_eq, dI_zip, kEn_eq, dI_enum, k_add, k_sub, k_mul, k_fdiv, k_mod, k_pow, add_ii, sub_ii, mul_ii, fdiv_ii, mod_ii, pow_ii, neg_i, abs_i, k_eq, k_ne, lt_ii, le_ii, gt_ii, ge_ii, k_is, k_isnot, k_inn, k_notin, is_bb, isn_bb, blK_b, truth_b, truth_i, truth_n, toD_v, toD_f, slotOf_v, slotOf_ft, slotOf_ff, seqOf_l, seqOf_t, seqOf_s, seqOf_f, seqOf_b, lone_i, lone_t, lone_l, lone_b, lone_n, lone_s, lone_f, len_t, len_l, len_f, len_b, len_s, b1_len, b1_all, b1_any, b1_sum, b1_max, b1_tuple, b1_list, b1_int, b1_abs, b1_str, tup_l, tup_t, tup_f, tup_b, lst_l, lst_t, lst_f, lst_b, lst_s, isi_i, isi_b, isi_t, isi_s, isi_n, isi_l, isiT1, isiT2, isiT3, isiT4, isiT5, isiT6, isiT7, isiT8, isiT9, ix_t, ix_l, ix_f, ix_b, ix_s, rev_t, rev_l, partK_i, cut_t, cut_l, cut_f, cut_b, srcOf_l, srcOf_t, srcOf_f, srcOf_b, srcOf_r, srK_l, srK_t, srK_f, srK_b, okI1, okI2, okI3, okI3', okI3'', okI4, okI5, setsE0, setsE1, slotsOf0, slotsOf1, bindT_n, bindT_t, bindT_w, bindTs_0, bindTs_1, fx1, fx2, fx3, fx4, fx5, fx6, fx7, fx8, loopL_nil, dS_whl, endF_ret, endF_nx, endF_exc, trim_self, at0, at1, at2, ne_ii, eq_ii, ne_fr, eq_fr, List.getElem?_cons_succ, List.getElem?_cons_zero, List.set_cons_succ, List.set_cons_zero, Option.map_some, Option.bind_some, Bool.not_true, Bool.not_false, if_true, Bool.false_eq_true, if_false, bind_ok, exS_ok, lift_some, decide_true, decide_false, wipeE, Ph_call, Ph_fuel, Ph_make, bind_exc] $l)
  | `(tactic| simp_arith [$xs,*] $l:location) => `(tactic| simp only [seqR_nx, seqR_ret, seqR_exc, seqR_err, dB_nil, dB_cons, dS_doc, dS_pass, kSet2_eq, kSet_eq, dS_set, nxO_some, kAsg2_eq, kAsg_eq, dS_asg, kPar2_eq, kPar_eq, dS_par, kDrop_eq, dS_drop, kRet2_eq, kRet_eq, dS_ret, kRetO_eq, dS_retOwn, kIfS_t, kIfS_f, dS_ife, dS_raise, dS_frz, dS_tryy, slotR_v, slotR_o, dE_slot, dE_cst, dE_fnv, kB2_eq, kB1_eq, kU_eq, dE_bin, dE_cmp, kC3_t, kC3_f, kC2_eq, kC1_eq, dE_chain, dE_ix, kS3_eq, kS2_eq, kS1_eq, dE_sl, dE_rev, dE_neg, kNot_eq, dE_notv, kAnd_t, kAnd_f, dE_andv, kOr_t, kOr_f, dE_orv, kIf_t, kIf_f, dE_ife, kTup_eq, kLst_eq, kV_eq, dE_tup, dE_lst, kCall_eq, dE_call, dE_b1, dE_b2, dE_isi, dE_isE, dE_lr1, dE_lr2, dO_no, kPart_eq, dO_so, dL_nil, kL3_eq, kL2_eq, kL1_eq, dL_cons, dEL_nil, kM3_eq, kM2_t, kM1_eq, dEL_cons, dT_yes, kTr_eq, kBl_eq, kNotT_eq, kAndT_t, kAndT_f, kOrT_t, kOrT_f, dT_tr, dT_cmp, dT_chain, dT_not, dT_and, dT_or, kSq_eq, dI_seq, kRg_eq, dI_rng, kZ3_eq, kZ2_eq, kZ1_eq, dI_zip, kEn_eq, dI_enum, k_add, k_sub, k_mul, k_fdiv, k_mod, k_pow, add_ii, sub_ii, mul_ii, fdiv_ii, mod_ii, pow_ii, neg_i, abs_i, k_eq, k_ne, lt_ii, le_ii, gt_ii, ge_ii, k_is, k_isnot, k_inn, k_notin, is_bb, isn_bb, blK_b, truth_b, truth_i, truth_n, toD_v, toD_f, slotOf_v, slotOf_ft, slotOf_ff, seqOf_l, seqOf_t, seqOf_s, seqOf_f, seqOf_b, lone_i, lone_t, lone_l, lone_b, lone_n, lone_s, lone_f, len_t, len_l, len_f, len_b, len_s, b1_len, b1_all, b1_any, b1_sum, b1_max, b1_tuple, b1_list, b1_int, b1_abs, b1_str, tup_l, tup_t, tup_f, tup_b, lst_l, lst_t, lst_f, lst_b, lst_s, isi_i, isi_b, isi_t, isi_s, isi_n, isi_l, isiT1, isiT2, isiT3, isiT4, isiT5, isiT6, isiT7, isiT8, isiT9, ix_t, ix_l, ix_f, ix_b, ix_s, rev_t, rev_l, partK_i, cut_t, cut_l, cut_f, cut_b, srcOf_l, srcOf_t, srcOf_f, srcOf_b, srcOf_r, srK_l, srK_t, srK_f, srK_b, okI1, okI2, okI3, okI3', okI3'', okI4, okI5, setsE0, setsE1, slotsOf0, slotsOf1, bindT_n, bindT_t, bindT_w, bindTs_0, bindTs_1, fx1, fx2, fx3, fx4, fx5, fx6, fx7, fx8, loopL_nil, dS_whl, endF_ret, endF_nx, endF_exc, trim_self, at0, at1, at2, ne_ii, eq_ii, ne_fr, eq_fr, List.getElem?_cons_succ, List.getElem?_cons_zero, List.set_cons_succ, List.set_cons_zero, Option.map_some, Option.bind_some, Bool.not_true, Bool.not_false, if_true, Bool.false_eq_true, if_false, bind_ok, exS_ok, lift_some, decide_true, decide_false, wipeE, Ph_call, Ph_fuel, Ph_make, bind_exc, $xs,*] $l)
theorem bl_iff {P : Prop} [Decidable P] {Q : Prop} (h : P ↔ Q) : decide P = true ↔ Q := by rw [decide_eq_true_iff]; exact h
theorem isn_t (h : AH) : isK true h (.v (.bl true)) (.v (.bl true)) = some (.v (.bl false)) := rfl
theorem law_go (d : Nat) (hd : 30 ≤ d) (ns : List Int) (hl : ns.length ≤ 63) : ∃ h', Rn (d + 1) k_law [.scr ns] [] = .ok (.bl true) h' := by
  obtain ⟨h1, z1, t1⟩ := l_town (d := d) (by omega) ns hl
  obtain ⟨deg, kn, jo, h2, z2, K, lk, rk, t2⟩ := l_kind (d := d) (by omega) (m := 900000) (t1.less (by omega)) (most := 6) (by decide) (by decide)
  have z2' : Rn d k__law_kind [.scr ns, .ref 0, .int 6] h1 = .ok (kindD deg kn jo) h2 := z2
  have jl := K.jl
  have l6 := K.l6
  have l2 := K.l2
  have d1 := K.d1
  obtain ⟨sm, h3, z3, Ks, sle, t3⟩ := lw_smooth d (by omega) K (m := 800000) (t2.less (by omega)) (some (.val (kindD deg kn jo))) none none none none none none none (some (.val (.tup (kn.map D.int)))) none none none none none
  obtain ⟨mo, h4, z4, hmo, t4⟩ := l_pick (d := d) (by omega) (m := 700000) (t3.less (by omega)) (ds := [.int 1, .int 1, .int 4]) (by simp) (by simp)
  obtain ⟨most, rfl, hmost⟩ : ∃ most : Nat, mo = .int (most : Int) ∧ most ≤ 9 := by
    simp at hmo
    rcases hmo with rfl | rfl
    · exact ⟨1, rfl, by decide⟩
    · exact ⟨4, rfl, by decide⟩
  obtain ⟨f0, h5, z5, R0, C0', t5⟩ := l_function (d := d) (by omega) (m := 600000) (t4.less (by omega)) Ks hmost
  obtain ⟨k6, h6, z6, hk6, t6⟩ := l_draw (d := d) (by omega) (m := 500000) (t5.less (by omega)) (lim := 3) (by decide) (by decide)
  have z6' : Rn d k__law_draw [.scr ns, .ref 0, .int 3] h5 = .ok (.int (k6 : Int)) h6 := z6
  have Cs : Chn ((inner kn).zip jo) f0 := Chn.mono Ks K R0 (fun i hi => sle i hi) C0'
  have f0n : f0 ≠ [] := by intro q; have := R0.len; rw [q] at this; simp at this; omega
  have f00 := R0.row _ (getD_mem (z := ([] : List Rat)) (show 0 < f0.length by have := R0.len; omega))
  have d3 := K.d3
  obtain ⟨f, R, C, z7⟩ : ∃ f, ROk deg kn 350 f ∧ Chn ((inner kn).zip jo) f ∧ ∀ (e3 e5 e6 e7 e8 e9 e10 e11 e12 e13 e14 e15 e16 e17 : Option Slot), denS t_law (Ph d) (.ife (.cmp .eq (.call k__law_draw (.cons (.slot 0) (.cons (.slot 1) (.cons (.cst (.int 3)) (.nil))))) (.cst (.int 0))) (.cons (.set 4 false (.bin .mul (.b1 .tuple (.lc (.seq (.sl (.slot 4) .no (.so (.cst (.int 1))))) (.name 18) (.yes) (.bin .add (.sl (.slot 18) .no (.so (.neg (.cst (.int 1))))) (.tup (.cons (.tup (.cons (.cst (.int 0)) (.cons (.cst (.int 1)) (.nil)))) (.nil)))) [18])) (.b1 .len (.slot 4)))) (.nil)) (.nil)) [some (.val (.scr ns)), some (.val (.ref 0)), some (.val (kindD deg kn jo)), e3, some (.val (fnD f0)), e5, e6, e7, e8, e9, e10, e11, e12, e13, e14, e15, e16, e17, none] h5 = .nx [some (.val (.scr ns)), some (.val (.ref 0)), some (.val (kindD deg kn jo)), e3, some (.val (fnD f)), e5, e6, e7, e8, e9, e10, e11, e12, e13, e14, e15, e16, e17, none] h6 := by
    by_cases c : (k6 : Int) = 0
    · obtain ⟨q, hq⟩ : ∃ q, q = (f0.getD 0 []).dropLast ++ [0] := ⟨_, rfl⟩
      have ql : q.length = deg + 1 := by rw [hq, List.length_append, List.length_dropLast, f00]; rfl
      have R' : ROk deg kn 350 (List.replicate f0.length q) := ⟨by rw [List.length_replicate]; exact R0.len, fun p hp => by rw [List.eq_of_mem_replicate hp]; exact ql, fun p hp => by
        rw [List.eq_of_mem_replicate hp, hq]
        intro x hx
        rcases List.mem_append.mp hx with hx | hx
        · exact R0.sz _ (getD_mem (z := ([] : List Rat)) (show 0 < f0.length by have := R0.len; omega)) x ((List.dropLast_sublist _).mem hx)
        · rw [List.mem_singleton.mp hx]; exact Sz.zero (by decide)⟩
      refine ⟨List.replicate f0.length q, R', Chn.rep K (q := q) R' (fun p hp => List.eq_of_mem_replicate hp), fun e3 e5 e6 e7 e8 e9 e10 e11 e12 e13 e14 e15 e16 e17 => ?_⟩
      have lf := lw_flat d h6 f0n (by omega) (some (.val (.scr ns))) (some (.val (.ref 0))) (some (.val (kindD deg kn jo))) e3 e5 e6 e7 e8 e9 e10 e11 e12 e13 e14 e15 e16 e17
      rw [← hq] at lf
      have mu := mul_one h6 (rowD q) ((f0.map rowD).length) (by rw [List.length_map]; have := R0.len; omega)
      simp_arith [z6', decide_eq_true c, lf, mu]
      simp [List.map_replicate]
    · exact ⟨f0, R0, Cs, fun e3 e5 e6 e7 e8 e9 e10 e11 e12 e13 e14 e15 e16 e17 => by simp_arith [z6', decide_eq_false c]⟩
  have hj := (joinB_iff K R).mpr C
  have zt := fun e5 => lw_told d (by omega) h6 K R (by decide) (by decide) (some (.val (.scr ns))) (some (.val (.ref 0))) (some (.val (kindD deg kn jo))) (some (.val (kindD deg kn sm))) e5 none none none none (some (.val (.int (deg : Int)))) none none none none none
  have zj := r_joints_of K R (by decide) (by decide) h6 (d := d) (by omega) hj
  have nj := ne_self_t h6 ((agL kn f).map D.int) (pl_tup D.int 59 (fun _ => by simp [plainD]) _) (iD_tup D.int iD_int _)
  obtain ⟨a, p, r, b, cv⟩ := cv_of l2 R.len
  obtain ⟨dg, kk, jj, ff, e1, e2, K2, R2, C2, e3⟩ := th_kind K R C cv
  have hj2 := (joinB_iff K2 R2).mpr C2
  have zd := l_thinned K R (by decide) (by decide) h6 cv (d := d) (by omega)
  have zh := r_thinned K R (by decide) (by decide) h6 (d := d) (by omega) hj
  have zi := r_is_function K2 R2 (by decide) (by decide) h6 (d := d) (by omega)
  rw [hj2] at zi
  have zs := r_are_same K R (by decide) (by decide) h6 K2 R2 hj hj2 true (by rw [e3]; simp) (d := d) (by omega)
  have zk := r_thinned K2 R2 (by decide) (by decide) h6 (d := d) (by omega) hj2
  rw [← e2, e1] at zd
  rw [e1] at zh
  rw [e3, e1] at zk
  have nd : eqK true h6 (.v (.tup [kindD dg kk jj, fnD ff])) (.v (.tup [kindD dg kk jj, fnD ff])) = some (.v (.bl false)) := by
    have := (eq_mkTh h6 a b a b (thR deg p r) (thR deg p r) true (by simp)).2
    rw [← e2, e1] at this
    exact this
  obtain ⟨g, h7, z9, Rg, Cg, t7⟩ := l_function (d := d) (by omega) (m := 400000) (t6.less (by omega)) K (most := 1) (by decide)
  have z9' : Rn d k__law_function [.scr ns, .ref 0, kindD deg kn jo, .int 1] h6 = .ok (fnD g) h7 := z9
  have hjg := (joinB_iff K Rg).mpr Cg
  have zo := r_are_same K R (by decide) (by decide) h7 K Rg hj hjg (decide (f = g)) (bl_iff (by
    constructor
    · intro e; rw [e]
    · intro e
      obtain ⟨a', p', r', b', cv'⟩ := cv_of l2 Rg.len
      rw [thinR_eq deg cv, thinR_eq deg cv'] at e
      have ek := cv.inner.symm.trans cv'.inner
      have pw := K.pw
      rw [cv.ek] at pw
      have := thR_inj deg d1 d3 (cv.pl R) (cv'.pl Rg) ek (List.pairwise_append.mp (List.pairwise_cons.mp pw).2).1 (mkTh_inj e).2.2
      rw [cv.ef, cv'.ef, this.1, this.2])) (d := d) (by omega)
  have eo := eq_fn h7 f g
  have no : eqK true h7 (.v (.bl (decide (f = g)))) (.v (.bl (decide (f = g)))) = some (.v (.bl false)) := by rw [ne_bb]; simp
  obtain ⟨lim, hlim⟩ : ∃ lim : Nat, kn.getD (kn.length - 1) 0 - kn.getD 0 0 = (lim : Int) ∧ 0 < lim ∧ lim ≤ 40 := by
    have := K_asc K (show 0 < kn.length - 1 by omega) (by omega)
    have q1 := K.rng _ (getD_mem (z := (0 : Int)) (show 0 < kn.length by omega))
    have q2 := K.rng _ (getD_mem (z := (0 : Int)) (show kn.length - 1 < kn.length by omega))
    exact ⟨(kn.getD (kn.length - 1) 0 - kn.getD 0 0).toNat, by omega, by omega, by omega⟩
  obtain ⟨ky, h8, zy, hky, t8⟩ := l_draw (d := d) (by omega) (m := 300000) (t7.less (by omega)) (lim := lim) hlim.2.1 (by have : (2 : Nat) ^ 40 = 1099511627776 := rfl; omega)
  have g0 : atI (kn.map D.int) 0 = some (.int (kn.getD 0 0)) := by
    have := at_nat (kn.map D.int) 0
    rw [get_int (by omega)] at this
    exact this
  have gl := at_lastI K R (by decide) (by decide)
  obtain ⟨y, hy⟩ : ∃ y : Int, y = kn.getD 0 0 + 1 + (ky : Int) := ⟨_, rfl⟩
  have z10 : ∀ (env : Env') (hh : AH), env = [some (.val (.scr ns)), some (.val (.ref 0)), some (.val (kindD deg kn jo)), some (.val (kindD deg kn sm)), some (.val (fnD f)), some (.val (.lst ((agL kn f).map D.int))), some (.val (.tup [kindD dg kk jj, fnD ff])), some (.val (fnD g)), some (.val (.int y)), none, some (.val (.int (deg : Int))), some (.val (.tup (kn.map D.int))), some (.val (.tup (jo.map jD))), none, none, none, none, none, none] → ∃ (s13 s15 s16 : Option Slot), denS t_law (Ph d) (.ife (.and (.cmp .lt (.slot 8) (.ix (.slot 11) (.neg (.cst (.int 1))))) (.and (.cmp .notin (.slot 8) (.slot 11)) (.cmp .lt (.b1 .len (.slot 11)) (.cst (.int 6))))) (.cons (.asg (.tup [.name 15, .name 16]) (.call k_with_knot (.cons (.slot 2) (.cons (.slot 4) (.cons (.slot 8) (.nil)))))) (.cons (.set 13 false (.ix (.lc (.rng (.cons (.b1 .len (.slot 11)) (.nil))) (.name 14) (.cmp .lt (.ix (.slot 11) (.slot 14)) (.slot 8)) (.slot 14) [14]) (.neg (.cst (.int 1))))) (.cons (.ife (.cmp .ne (.slot 15) (.tup (.cons (.slot 10) (.cons (.bin .add (.bin .add (.sl (.slot 11) .no (.so (.bin .add (.slot 13) (.cst (.int 1))))) (.tup (.cons (.slot 8) (.nil)))) (.sl (.slot 11) (.so (.bin .add (.slot 13) (.cst (.int 1)))) .no)) (.cons (.bin .add (.bin .add (.sl (.slot 12) .no (.so (.slot 13))) (.tup (.cons (.bin .sub (.slot 10) (.cst (.int 1))) (.nil)))) (.sl (.slot 12) (.so (.slot 13)) .no)) (.nil)))))) (.cons (.ret (.cst (.bl false))) (.nil)) (.nil)) (.cons (.ife (.or (.cmp .ne (.slot 16) (.bin .add (.sl (.slot 4) .no (.so (.bin .add (.slot 13) (.cst (.int 1))))) (.sl (.slot 4) (.so (.slot 13)) .no))) (.cmp .isnot (.call k_are_same (.cons (.slot 2) (.cons (.slot 4) (.cons (.slot 15) (.cons (.slot 16) (.nil)))))) (.cst (.bl true)))) (.cons (.ret (.cst (.bl false))) (.nil)) (.nil)) (.nil))))) (.nil)) env hh = .nx [some (.val (.scr ns)), some (.val (.ref 0)), some (.val (kindD deg kn jo)), some (.val (kindD deg kn sm)), some (.val (fnD f)), some (.val (.lst ((agL kn f).map D.int))), some (.val (.tup [kindD dg kk jj, fnD ff])), some (.val (fnD g)), some (.val (.int y)), none, some (.val (.int (deg : Int))), some (.val (.tup (kn.map D.int))), some (.val (.tup (jo.map jD))), s13, none, s15, s16, none, none] hh := by
    intro env hh he
    subst he
    have ci := in_int hh y kn true
    by_cases c1 : y < kn.getD (kn.length - 1) 0
    · by_cases c2 : y ∈ kn
      · exact ⟨none, none, none, by simp_arith [gl, decide_eq_true c1, ci, decide_eq_true c2]⟩
      · by_cases c3 : ((kn.map D.int).length : Int) < 6
        · have c3' : kn.length < 6 := by rw [List.length_map] at c3; omega
          have ha : kn.getD 0 0 < y := by omega
          obtain ⟨k, hk, hk2, hk3, K4, R4, C4, e4⟩ := ins_kind K R C ha c1 c2 c3'
          have zw := r_with_knot K R (by decide) (by decide) hh ha c1 c2 c3' hj (d := d) (by omega)
          rw [← hk] at zw
          have la := lw_at d hh (by omega) hk2 (by omega) (some (.val (.scr ns))) (some (.val (.ref 0))) (some (.val (kindD deg kn jo))) (some (.val (kindD deg kn sm))) (some (.val (fnD f))) (some (.val (.lst ((agL kn f).map D.int)))) (some (.val (.tup [kindD dg kk jj, fnD ff]))) (some (.val (fnD g))) none (some (.val (.int (deg : Int)))) (some (.val (.tup (jo.map jD)))) none (some (.val (kindD deg (kn.take (k + 1) ++ [y] ++ kn.drop (k + 1)) (jo.take k ++ [deg - 1] ++ jo.drop k)))) (some (.val (fnD (f.take (k + 1) ++ f.drop k)))) none none
          have ll : atI ((List.range (k + 1)).map jD) (-1) = some (.int (k : Int)) := by rw [List.range_succ, List.map_append]; exact at_last _ _
          have k1 : ((k : Int) + 1) = ((k + 1 : Nat) : Int) := by omega
          have rl := R.len
          have cc1 := cutD_take (kn.map D.int) (k + 1)
          have cc2 := cutD_drop (kn.map D.int) (k + 1)
          have cc3 := cutD_take (jo.map jD) k
          have cc4 := cutD_drop (jo.map jD) k
          have cc5 := cutD_take (f.map rowD) (k + 1)
          have cc6 := cutD_drop (f.map rowD) k
          have a1 := add_tt hh ((kn.map D.int).take (k + 1)) [.int y] (by simp; omega)
          have a2 := add_tt hh ((kn.map D.int).take (k + 1) ++ [.int y]) ((kn.map D.int).drop (k + 1)) (by simp; omega)
          have dd : ((deg : Int) - 1) = ((deg - 1 : Nat) : Int) := by omega
          have a3 := add_tt hh ((jo.map jD).take k) [.int ((deg - 1 : Nat) : Int)] (by simp; omega)
          have a4 := add_tt hh ((jo.map jD).take k ++ [.int ((deg - 1 : Nat) : Int)]) ((jo.map jD).drop k) (by simp; omega)
          have a5 := add_tt hh ((f.map rowD).take (k + 1)) ((f.map rowD).drop k) (by simp; omega)
          have hj4 := (joinB_iff K4 R4).mpr C4
          have z4 := r_are_same K R (by decide) (by decide) hh K4 R4 hj hj4 true (by rw [e4]; simp) (d := d) (by omega)
          obtain ⟨k4, hk4⟩ : ∃ k4, k4 = kn.take (k + 1) ++ [y] ++ kn.drop (k + 1) := ⟨_, rfl⟩
          obtain ⟨j4, hj4'⟩ : ∃ j4, j4 = jo.take k ++ [deg - 1] ++ jo.drop k := ⟨_, rfl⟩
          obtain ⟨f4, hf4⟩ : ∃ f4, f4 = f.take (k + 1) ++ f.drop k := ⟨_, rfl⟩
          have m1 : (kn.map D.int).take (k + 1) ++ [.int y] ++ (kn.map D.int).drop (k + 1) = k4.map D.int := by rw [hk4]; simp
          have m2 : (jo.map jD).take k ++ [.int ((deg - 1 : Nat) : Int)] ++ (jo.map jD).drop k = j4.map jD := by rw [hj4']; simp
          have m3 : (f.map rowD).take (k + 1) ++ (f.map rowD).drop k = f4.map rowD := by rw [hf4]; simp
          rw [← hk4, ← hj4', ← hf4] at zw z4 la
          rw [m1] at a2
          rw [m2] at a4
          rw [m3] at a5
          have n1 := ne_self_t hh [.int (deg : Int), .tup (k4.map D.int), .tup (j4.map jD)] (pl_kind 58 deg k4 j4) (iD_kind deg k4 j4)
          have n2 := ne_self_t hh (f4.map rowD) (pl_fn 57 f4) (iD_fn f4)
          exact ⟨_, _, _, by simp_arith [gl, decide_eq_true c1, ci, decide_eq_false c2, decide_eq_true c3, zw, la, ll, k1, cc1, cc2, cc3, cc4, cc5, cc6, a1, a2, a3, a4, a5, dd, n1, n2, z4, isn_t, len_t]; rfl⟩
        · exact ⟨none, none, none, by simp_arith [gl, decide_eq_true c1, ci, decide_eq_false c2, decide_eq_false c3, len_t]⟩
    · exact ⟨none, none, none, by simp_arith [gl, decide_eq_false c1]⟩
  obtain ⟨s13, s15, s16, z10'⟩ := z10 _ h8 rfl
  obtain ⟨kw, hkw⟩ : ∃ kw, kw = kn.dropLast ++ [kn.getD (kn.length - 1) 0 + 1] := ⟨_, rfl⟩
  have kl := rk _ (getD_mem (z := (0 : Int)) (show kn.length - 1 < kn.length by omega))
  have cvw : Cv kw f a p r (b + 1) := by
    have eb : kn.getD (kn.length - 1) 0 = b := by rw [cv.ek]; simp
    refine ⟨?_, cv.ef⟩
    rw [hkw, eb, cv.ek]
    have : a :: (r.map (·.1) ++ [b]) = (a :: r.map (·.1)) ++ [b] := rfl
    rw [this, List.dropLast_concat]; rfl
  have iw : inner kw = inner kn := by rw [cvw.inner, cv.inner]
  have Kw : KOk deg kw jo := by
    have pw := K.pw
    rw [cv.ek] at pw
    have eb : kn.getD (kn.length - 1) 0 = b := by rw [cv.ek]; simp
    rw [eb] at kl
    refine KOk.mk' d1 d3 (by rw [cvw.ek]; simp) (by rw [cvw.ek]; have := l6; rw [cv.ek] at this; simpa using this) (fun x hx => ?_) ?_ (by rw [cvw.ek]; have := jl; rw [cv.ek] at this; simpa using this) K.jd
    · rw [cvw.ek] at hx
      simp only [List.mem_cons, List.mem_append, List.mem_nil_iff, or_false] at hx
      rcases hx with rfl | hx | rfl
      · exact K.rng _ (by rw [cv.ek]; simp)
      · exact K.rng _ (by rw [cv.ek]; simp only [List.mem_cons, List.mem_append]; exact .inr (.inl hx))
      · omega
    · rw [cvw.ek]
      rw [List.pairwise_cons, List.pairwise_append] at pw ⊢
      refine ⟨fun x hx => ?_, pw.2.1, by simp, fun x hx z hz => ?_⟩
      · rcases List.mem_append.mp hx with hx | hx
        · exact pw.1 x (List.mem_append_left _ hx)
        · have := pw.1 b (by simp)
          rw [List.mem_singleton.mp hx]; omega
      · have := pw.2.2.2 x hx b (by simp)
        rw [List.mem_singleton.mp hz]; omega
  have Rw' : ROk deg kw 350 f := ⟨by rw [cvw.ek]; have := R.len; rw [cv.ek] at this; simpa using this, R.row, R.sz⟩
  have hjw : joinB kw jo f = true := (joinB_iff Kw Rw').mpr (by rw [iw]; exact C)
  have zw := r_are_same K R (by decide) (by decide) h8 Kw Rw' hj hjw false (by
    constructor
    · intro q; cases q
    · intro q
      rw [thinR_eq deg cv, thinR_eq deg cvw] at q
      have := (mkTh_inj q).2.1
      omega) (d := d) (by omega)
  have aw := add_tt h8 ((kn.map D.int).dropLast) [.int (kn.getD (kn.length - 1) 0 + 1)] (by simp; omega)
  have ew : (kn.map D.int).dropLast ++ [.int (kn.getD (kn.length - 1) 0 + 1)] = kw.map D.int := by rw [hkw, ← List.map_dropLast]; simp
  rw [ew] at aw
  refine ⟨trim 0 (.bl true) h8, ?_⟩
  rw [u_law, x_law]
  refine Eq.trans (congrArg (endF 0) (stS (by simp_arith [z1]; rfl) (stS (by simp_arith [z2']; rfl) (stS (by simp_arith; rfl) (stS (by simp_arith [z3]; rfl) (stS (by simp_arith [z4, z5]; rfl) (stS (z7 _ _ _ _ _ _ _ _ _ _ _ _ _ _) (stS (by simp_arith [zt]; rfl) (stS (by simp_arith [zj, nj]; rfl) (stS (by simp_arith [zd]; rfl) (stS (by simp_arith [zh, nd, zi, isn_t]; rfl) (stS (by simp_arith [zs, isn_t, zk, nd]; rfl) (stS (by simp_arith [z9']; rfl) (stS (by simp_arith [zo, eo, no]; rfl) (stS (e' := [some (.val (.scr ns)), some (.val (.ref 0)), some (.val (kindD deg kn jo)), some (.val (kindD deg kn sm)), some (.val (fnD f)), some (.val (.lst ((agL kn f).map D.int))), some (.val (.tup [kindD dg kk jj, fnD ff])), some (.val (fnD g)), some (.val (.int y)), none, some (.val (.int (deg : Int))), some (.val (.tup (kn.map D.int))), some (.val (.tup (jo.map jD))), none, none, none, none, none, none]) (h' := h8) (by simp_arith [g0, gl, hlim.1, zy, hy]) (stS z10' (stS (by simp_arith [cut_dropLast, gl, aw]; rfl) (fin (d := .bl true) (h' := h8) (by simp_arith [zw]))))))))))))))))))) ?_
  rw [endF_ret]
end Lw

namespace Lw
open PySem PySem.Spec PyProof.Rows L2 J
theorem run (w : World) : HandSHeadRun.RunEq R (PySem.W.view R.prog [49]) (hookJ hd) (fun s => obJ hd (HandSHeadRun.getT s)) 60000 loose w := by
  intro os
  kernel_rfl
end Lw
open PySem PySem.W PySem.Calls PyProof.Rows
theorem Lw.holds (fuel D : Nat) (hD : L2.Room (D + 1) callerA) (go : ∀ ns : List Int, ns.length ≤ 63 → ∃ h', J.runF Lw.T Lw.fs fuel D Lw.k_law [.scr ns] [] = .ok (.bl true) h') : PySem.Challenge.rw_jointcurves_k13_whole_joints.Holds := by
  w_on; o_law
  refine HandSHeadRun.head_any (r := OpenLaw.row PySem.Challenge.rw_jointcurves_k13_whole_joints) (q := view (OpenLaw.row PySem.Challenge.rw_jointcurves_k13_whole_joints).prog [49]) (H := J.hookJ Lw.hd) (ob := fun s => J.obJ Lw.hd (HandSHeadRun.getT s)) (M := 60000) (loose := Lw.loose) (d := HandSHeadRun.topDef (OpenLaw.row PySem.Challenge.rw_jointcurves_k13_whole_joints).prog 49) (kwd := []) (fun s => congrArg (J.obJ Lw.hd) (funext (HandSHeadRun.getT_eq s)))
    (by kernel_rfl) (fun s => by kernel_rfl) Lw.run (by kernel_rfl) (by kernel_rfl) (by kernel_rfl) (by rfl) (by first | assumption | decide +kernel) (by decide +kernel) ⟨rfl, rfl, rfl, rfl, rfl, by decide +kernel⟩ ?hw ?hc
  case hw => w_witness2
  case hc =>
    refine L2.walk_ofE (l := PySem.Challenge.rw_jointcurves_k13_whole_joints) (n := 63) (k := D + 1) (x := "script") (CX := J.CXe (PySem.Challenge.rw_jointcurves_k13_whole_joints).prog) rfl (by decide) (by kernel_rfl) hD ?F J.cx_false
    intro w mg fa h Y G hmg0
    obtain ⟨K, KX, c⟩ := Y
    have hmg : mg ("law" : PySem.Str) = some (.ref fa) := by
      have e : (HandSHeadRun.topDef (OpenLaw.row PySem.Challenge.rw_jointcurves_k13_whole_joints).prog 49).name = ("law" : PySem.Str) := by kernel_rfl
      rw [← e]
      exact hmg0
    obtain ⟨fd, hb, hF⟩ := J.law_of (l := Lw.ld) (P := (PySem.Challenge.rw_jointcurves_k13_whole_joints).prog) (w := w) (x := "script") KX G hmg c Lw.fit Lw.hfn rfl rfl rfl rfl go
    exact ⟨K, fd, J.spLaw K, KX, hb, fun H a ns hl ho hS => ⟨a, ns, rfl, hl, ho, hS, fun _ => rfl⟩, fun base _ _ => hF base⟩

open PySem PySem.W PySem.Calls PyProof.Rows
theorem PySem.Challenge.cw_jointcurves_k13_whole_joints_holds : PySem.Challenge.rw_jointcurves_k13_whole_joints.Holds :=
  Lw.holds Lw.fu (30 + 1) ⟨rfl, by decide, by decide⟩ (Lw.law_go 30 (by decide))
