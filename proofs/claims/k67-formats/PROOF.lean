import PyProof.Rows.All
import Wide.All
import OpenK.AllK
import Wide.FinOn
import HandS.ForMost
import HandS.Walk
import HandS.Lambda
import HandS.Zip
import KE.SortData
import HandS.Text
import HandS.Conv
import PyProof.ListStr
import PyProof.StrOps2
import HandS.TupAny
import HandS.TupMul
import HandS.Wide
import HandS.Deep
import HandS.Style
import HandS.IsInst
import KE.DataMinMax
import HandS.SortInts
import HandS.More
import KE.SortCalls
import KE.KSortTup
import HandS.ForExc
import HandS.WordsExc
import KE.KDictDisplayH
import KE.GoesMore
import KE.GoesEnum
import HandS.SetFor
import HandS.TupSets
import HandS.TupLen
import KE.KDictCopyH
import HandS.Strs
import HandS.ExcIs
import HandS.ExcOwn
import HandS.HotCalls
import HandS.Defaults
import HandS.HeadHook1
import HandS.HeadHook2
import HandS.HeadEnd
import HandS.Head0
import HandS.Head1
import HandS.Head2
import HandS.HeadWalk
import HandS.HeadHook4
import PyProof.StrLawsIn
import PySem.Challenge.RW_openleague_k67_formats
section
set_option Elab.async false
set_option linter.all false
set_option maxRecDepth 100000
set_option maxHeartbeats 4000000
namespace OL
open PySem PySem.Spec PyProof.Rows L2

abbrev D := PyData
def keyD : Key → D
  | .inl i => .int i
  | .inr x => .str x
def keyT (k : List Key) : D := .tuple (k.map keyD)

/-- a value as a datum, by name -/
def encV : V → D
  | .non => .none
  | .bl b => .bool b
  | .int i => .int i
  | .str x => .str x
  | .ref a => .list [.int (a : Nat)]
  | _ => .dict []
/-- the datum of a function at f: its code object at c of the name q, the captured values e and what they are worth -/
def cloD (f c : Addr) (q : Str) (e ds : List D) : D := .dict [(.none, .tuple [.int (f : Nat), .int (c : Nat), .str q, .list e, .list ds])]
mutual
/-- the value v, in the heap H, is the datum d -/
inductive RD (K : PySem.W.Frag) (H : Hp) : V → D → Prop
  | non : RD K H .non .none
  | bl (b : Bool) : RD K H (.bl b) (.bool b)
  | int (i : Int) : RD K H (.int i) (.int i)
  | str (x : Str) : RD K H (.str x) (.str x)
  | lst {a : Addr} {xs : List V} {ds : List D} : SqL K H a xs → RDL K H xs ds → RD K H (.ref a) (.list ds)
  | tup {a : Addr} {xs : List V} {ds : List D} : H a = some (.tup xs) → RDL K H xs ds → RD K H (.ref a) (.tuple ds)
  | dT {a : Addr} {o : Obj} {kvs : List (List Key × V)} {ds : List (D × D)} : H a = some (.frz o (.dT kvs)) → RDT K H kvs ds → RD K H (.ref a) (.dict ds)
  | dK {a : Addr} {o : Obj} {kvs : List (Key × V)} {ds : List (D × D)} : H a = some (.frz o (.dK kvs)) → RDK K H kvs ds → RD K H (.ref a) (.dict ds)
  | clo {f c : Addr} {q : Str} {e : List D} {vs : List V} {ds : List D} : e = vs.map encV → H c = some (LamX.CodeO c q) → RDL K H vs ds → RD K H (.ref f) (.dict [(.none, .tuple [.int (f : Nat), .int (c : Nat), .str q, .list e, .list ds])])
inductive RDL (K : PySem.W.Frag) (H : Hp) : List V → List D → Prop
  | nil : RDL K H [] []
  | cons {v : V} {vs : List V} {d : D} {ds : List D} : RD K H v d → RDL K H vs ds → RDL K H (v :: vs) (d :: ds)
inductive RDT (K : PySem.W.Frag) (H : Hp) : List (List Key × V) → List (D × D) → Prop
  | nil : RDT K H [] []
  | cons {k : List Key} {v : V} {vs : List (List Key × V)} {d : D} {ds : List (D × D)} : RD K H v d → RDT K H vs ds → RDT K H ((k, v) :: vs) ((keyT k, d) :: ds)
inductive RDK (K : PySem.W.Frag) (H : Hp) : List (Key × V) → List (D × D) → Prop
  | nil : RDK K H [] []
  | cons {k : Key} {v : V} {vs : List (Key × V)} {d : D} {ds : List (D × D)} : RD K H v d → RDK K H vs ds → RDK K H ((k, v) :: vs) ((keyD k, d) :: ds)
end

section
variable {K : PySem.W.Frag} {H H' : Hp}
mutual
theorem RD.mono (s : Same H H') : ∀ {v : V} {d : D}, RD K H v d → RD K H' v d
  | _, _, .non => .non
  | _, _, .bl b => .bl b
  | _, _, .int i => .int i
  | _, _, .str x => .str x
  | _, _, .lst h t => .lst (s.seq h) (RDL.mono s t)
  | _, _, .tup h t => .tup (s _ _ h) (RDL.mono s t)
  | _, _, .dT h t => .dT (s _ _ h) (RDT.mono s t)
  | _, _, .dK h t => .dK (s _ _ h) (RDK.mono s t)
  | _, _, .clo e h t => .clo e (s _ _ h) (RDL.mono s t)
theorem RDL.mono (s : Same H H') : ∀ {v : List V} {d : List D}, RDL K H v d → RDL K H' v d
  | _, _, .nil => .nil
  | _, _, .cons h t => .cons (RD.mono s h) (RDL.mono s t)
theorem RDT.mono (s : Same H H') : ∀ {v : List (List Key × V)} {d : List (D × D)}, RDT K H v d → RDT K H' v d
  | _, _, .nil => .nil
  | _, _, .cons h t => .cons (RD.mono s h) (RDT.mono s t)
theorem RDK.mono (s : Same H H') : ∀ {v : List (Key × V)} {d : List (D × D)}, RDK K H v d → RDK K H' v d
  | _, _, .nil => .nil
  | _, _, .cons h t => .cons (RD.mono s h) (RDK.mono s t)
end
theorem RDL.length : ∀ {vs : List V} {ds : List D}, RDL K H vs ds → vs.length = ds.length
  | _, _, .nil => rfl
  | _, _, .cons _ t => by simp [RDL.length t]
theorem RDL.get : ∀ {vs : List V} {ds : List D}, RDL K H vs ds → ∀ {i : Nat} {d : D}, ds[i]? = some d → ∃ v, vs[i]? = some v ∧ RD K H v d
  | _, _, .nil, _, _, e => by simp at e
  | _, _, .cons h t, 0, d, e => by simp at e; subst e; exact ⟨_, rfl, h⟩
  | _, _, .cons h t, i + 1, d, e => by
    obtain ⟨v, e1, r⟩ := RDL.get t (i := i) (d := d) (by simpa using e)
    exact ⟨v, by simpa using e1, r⟩
theorem RDL.get' : ∀ {vs : List V} {ds : List D}, RDL K H vs ds → ∀ {i : Nat} {v : V}, vs[i]? = some v → ∃ d, ds[i]? = some d ∧ RD K H v d
  | _, _, .nil, _, _, e => by simp at e
  | _, _, .cons h t, 0, d, e => by simp at e; subst e; exact ⟨_, rfl, h⟩
  | _, _, .cons h t, i + 1, d, e => by
    obtain ⟨v, e1, r⟩ := RDL.get' t (i := i) (v := d) (by simpa using e)
    exact ⟨v, by simpa using e1, r⟩
theorem RDL.append : ∀ {vs : List V} {ds : List D} {ws : List V} {es : List D}, RDL K H vs ds → RDL K H ws es → RDL K H (vs ++ ws) (ds ++ es)
  | _, _, _, _, .nil, s => s
  | _, _, _, _, .cons h t, s => .cons h (RDL.append t s)
theorem RDL.take : ∀ {vs : List V} {ds : List D} (n : Nat), RDL K H vs ds → RDL K H (vs.take n) (ds.take n)
  | _, _, 0, _ => .nil
  | _, _, _ + 1, .nil => .nil
  | _, _, n + 1, .cons h t => .cons h (RDL.take n t)
theorem RDL.drop : ∀ {vs : List V} {ds : List D} (n : Nat), RDL K H vs ds → RDL K H (vs.drop n) (ds.drop n)
  | _, _, 0, t => t
  | _, _, _ + 1, .nil => .nil
  | _, _, n + 1, .cons _ t => RDL.drop n t
theorem RDL.set {v : V} {d : D} (r : RD K H v d) : ∀ {vs : List V} {ds : List D} (n : Nat), RDL K H vs ds → RDL K H (vs.set n v) (ds.set n d)
  | _, _, _, .nil => .nil
  | _, _, 0, .cons _ t => .cons r t
  | _, _, n + 1, .cons h t => .cons h (RDL.set r n t)
theorem RDL.rep {vs : List V} {ds : List D} (h : RDL K H vs ds) : ∀ k : Nat, RDL K H (List.replicate k vs).flatten (List.replicate k ds).flatten
  | 0 => .nil
  | k + 1 => by
    simp only [List.replicate_succ, List.flatten_cons]
    exact h.append (RDL.rep h k)
theorem RDL.ints : ∀ (ns : List Int), RDL K H (ns.map V.int) (ns.map PyData.int)
  | [] => .nil
  | n :: ns => .cons (.int n) (RDL.ints ns)
theorem RDL.ints' : ∀ {ns : List Int} {vs : List V}, RDL K H vs (ns.map PyData.int) → vs = ns.map V.int
  | [], _, .nil => rfl
  | n :: ns, _, .cons h t => by
    cases h
    rw [RDL.ints' t]
    rfl
theorem RDL.strs : ∀ (ns : List Str), RDL K H (ns.map V.str) (ns.map PyData.str)
  | [] => .nil
  | n :: ns => .cons (.str n) (RDL.strs ns)
theorem RDL.strs' : ∀ {ns : List Str} {vs : List V}, RDL K H vs (ns.map PyData.str) → vs = ns.map V.str
  | [], _, .nil => rfl
  | n :: ns, _, .cons h t => by
    cases h
    rw [RDL.strs' t]
    rfl
theorem RDL.bls' : ∀ {ns : List Bool} {vs : List V}, RDL K H vs (ns.map PyData.bool) → vs = ns.map V.bl
  | [], _, .nil => rfl
  | n :: ns, _, .cons h t => by
    cases h
    rw [RDL.bls' t]
    rfl
/-- keys -/
theorem RD.key {k : Key} : RD K H (kV k) (keyD k) := by
  cases k with
  | inl i => exact .int i
  | inr x => exact .str x
theorem RD.key' {k : Key} {v : V} (h : RD K H v (keyD k)) : v = kV k := by
  cases k with
  | inl i => cases h; rfl
  | inr x => cases h; rfl
theorem RDL.keys : ∀ (k : List Key), RDL K H (k.map kV) (k.map keyD)
  | [] => .nil
  | a :: k => .cons RD.key (RDL.keys k)
theorem RDL.keys' : ∀ {k : List Key} {vs : List V}, RDL K H vs (k.map keyD) → vs = k.map kV
  | [], _, .nil => rfl
  | a :: k, _, .cons h t => by rw [h.key', RDL.keys' t]; rfl
end

/-! ### no dict within: Dp -/
mutual
def plain : D → Bool
  | .none | .bool _ | .int _ | .str _ => true
  | .list xs | .tuple xs => plainAll xs
  | .dict _ => false
def plainAll : List D → Bool
  | [] => true
  | x :: xs => plain x && plainAll xs
end
section
variable {K : PySem.W.Frag} {H : Hp}
mutual
theorem RD.dp : ∀ {v : V} {d : D}, RD K H v d → plain d = true → Dp K H v d
  | _, _, .non, _ => .non
  | _, _, .bl b, _ => .bl b
  | _, _, .int i, _ => .int i
  | _, _, .str x, _ => .str x
  | _, _, .lst h t, p => .lst h (RDL.dp t (by simpa [plain] using p))
  | _, _, .tup h t, p => .tup (SqT.of h) (RDL.dp t (by simpa [plain] using p))
  | _, _, .dT h t, p => by simp [plain] at p
  | _, _, .dK h t, p => by simp [plain] at p
  | _, _, .clo e h t, p => by simp [plain] at p
theorem RDL.dp : ∀ {v : List V} {d : List D}, RDL K H v d → plainAll d = true → DpAll K H v d
  | _, _, .nil, _ => .nil
  | _, _, .cons h t, p => by
    simp only [plainAll, Bool.and_eq_true] at p
    exact .cons (RD.dp h p.1) (RDL.dp t p.2)
end
end
mutual
theorem plain_of : ∀ (d : D), d.canLay0 = true → plain d = true
  | .none, _ => by simp [plain]
  | .bool _, _ => by simp [plain]
  | .int _, _ => by simp [plain]
  | .str _, _ => by simp [plain]
  | .list xs, h => by
    have := plainAll_of xs (by simpa [PyData.canLay0] using h)
    simpa [plain] using this
  | .tuple xs, h => by
    have := plainAll_of xs (by simpa [PyData.canLay0] using h)
    simpa [plain] using this
  | .dict _, h => by simp [PyData.canLay0] at h
theorem plainAll_of : ∀ (d : List D), PyData.canLayAll0 d = true → plainAll d = true
  | [], _ => by simp [plainAll]
  | x :: xs, h => by
    have h' : x.canLay0 = true ∧ PyData.canLayAll0 xs = true := by simpa [PyData.canLayAll0] using h
    simp [plainAll, plain_of x h'.1, plainAll_of xs h'.2]
end
theorem plain_shaped {d : D} (h : SeqAt.shaped d = true) : plain d = true := plain_of d (SeqAt.canLay_of_shaped h)

/-! ### heaps -/
def mutO : HO → Bool
  | .lst _ | .dT _ | .dK _ => true
  | _ => false

/-- not a table of code objects -/
def nT : HO → Bool
  | .tbl _ => false
  | _ => true
/-- the name that a lambda of law bears -/
def lamQ : Str := ("law" ++ ".<locals>.") ++ "<lambda>"
/-- a table whose code objects bear it -/
def TabQ (H : Hp) (P : Addr) (q : Str) : Prop := q = lamQ ∧ LamX.TabS H P q
theorem TabQ.ext {H H' : Hp} {P : Addr} {q : Str} (t : TabQ H P q) (e : ∀ b o, H b = some o → H' b = some o) : TabQ H' P q := ⟨t.1, t.2.ext e⟩
/-- what is tracked stays, but tables may grow -/
structure Ext (H H' : Hp) : Prop where
  sm : ∀ b o, H b = some o → nT o = true → H' b = some o
  fr : ∀ b, H' b = none → H b = none
  tb : ∀ P q, TabQ H P q → TabQ H' P q
theorem Ext.at {H H' : Hp} (e : Ext H H') {b : Addr} {o : HO} (h : H b = some o) (n : nT o = true := by rfl) : H' b = some o := e.sm b o h n
theorem Ext.free {H H' : Hp} (e : Ext H H') {b : Addr} (h : H' b = none) : H b = none := e.fr b h
theorem Ext.of {H H' : Hp} (s : Same H H') : Ext H H' := ⟨fun b o h _ => s b o h, fun b h => s.free h, fun P q t => t.ext fun b o h => s b o h⟩
theorem Ext.refl (H : Hp) : Ext H H := ⟨fun _ _ h _ => h, fun _ h => h, fun _ _ t => t⟩
theorem Ext.trans {H H1 H2 : Hp} (a : Ext H H1) (b : Ext H1 H2) : Ext H H2 := ⟨fun c o h n => b.sm c o (a.sm c o h n) n, fun c h => a.fr c (b.fr c h), fun P q t => b.tb P q (a.tb P q t)⟩
def Mu (H : Hp) (p : Addr) : Prop := ∃ o, H p = some o ∧ mutO o = true
theorem mut_nT {o : HO} (h : mutO o = true) : nT o = true := by cases o <;> first | rfl | (cases h; done)
theorem Mu.mono {H H' : Hp} {p : Addr} (h : Mu H p) (s : Ext H H') : Mu H' p := let ⟨o, e, m⟩ := h; ⟨o, s.sm _ _ e (mut_nT m), m⟩
theorem Mu.keep {H H' : Hp} {p : Addr} (h : Mu H p) (s : Ext H H') {o : HO} (e : H p = some o) : H' p = some o := by
  obtain ⟨o', e', m⟩ := h
  rw [e] at e'
  cases e'
  exact s.sm _ _ e (mut_nT m)
theorem Mu.ne {H : Hp} {p : Addr} (h : Mu H p) (e : H p = none) : False := by
  obtain ⟨o, e', _⟩ := h
  rw [e] at e'; cases e'
/-- .. or a table -/
def MuT (H : Hp) (p : Addr) : Prop := Mu H p ∨ ∃ q, TabQ H p q
theorem MuT.mono {H H' : Hp} {p : Addr} (h : MuT H p) (s : Ext H H') : MuT H' p := h.elim (fun m => .inl (m.mono s)) fun ⟨q, t⟩ => .inr ⟨q, s.tb p q t⟩
theorem MuT.ne {H : Hp} {p : Addr} (h : MuT H p) (e : H p = none) : False := by
  rcases h with h | ⟨q, _, ps, t, _⟩
  · exact h.ne e
  · rw [e] at t; cases t
theorem tab_keep {H H' : Hp} (k : ∀ a o, H a = some o → mutO o = false → H' a = some o) {P : Addr} {q : Str} (t : TabQ H P q) : TabQ H' P q := by
  obtain ⟨e, ps, h1, h2, h3⟩ := t
  refine ⟨e, ps, k _ _ h1 rfl, h2, fun pos cv hc => ?_⟩
  obtain ⟨c, e1, e2⟩ := h3 pos cv hc
  exact ⟨c, e1, k _ _ e2 rfl⟩
theorem Ext.put {H H1 : Hp} (e : Ext H H1) {a : Addr} {o : HO} (n : H a = none) (m : H1 a = none ∨ Mu H1 a) : Ext H (upd H1 a o) := by
  refine ⟨fun b u h t => ?_, fun b h => ?_, fun P q t => tab_keep (fun b u h hm => ?_) (e.tb P q t)⟩
  · rw [upd_ne (ne_of_none h n)]; exact e.sm b u h t
  · by_cases hb : b = a
    · rw [hb, upd_same] at h; cases h
    · rw [upd_ne hb] at h; exact e.fr b h
  · have hb : b ≠ a := fun z => by
      rw [z] at h
      rcases m with m | ⟨u', m, mm⟩
      · rw [m] at h; cases h
      · rw [m] at h; cases h; rw [hm] at mm; cases mm
    rw [upd_ne hb]; exact h
/-- an expression's steps: what was tracked stays, the frozen part grows by new objects -/
structure Post (H0 H H0' H' : Hp) : Prop where
  a : Same H0 H0'
  b : Ext H H'
  c : Same H0' H'
  d : ∀ p, MuT H p → H0 p = none → H0' p = none
section
variable {H0 H H0' H' H0'' H'' : Hp}
theorem same_upd {H : Hp} {p : Addr} {o : HO} (h : H p = none) : Same H (upd H p o) := fun b x e => by
  rw [upd_ne (ne_of_none e h)]
  exact e
theorem Post.refl (h : Same H0 H) : Post H0 H H0 H := ⟨Same.refl _, Ext.refl _, h, fun _ _ e => e⟩
theorem Post.trans (x : Post H0 H H0' H') (y : Post H0' H' H0'' H'') : Post H0 H H0'' H'' :=
  ⟨x.a.trans y.a, x.b.trans y.b, y.c, fun p h e => y.d p (h.mono x.b) (x.d p h e)⟩
theorem same_both {A B : Hp} {p : Addr} {o : HO} (h : Same A B) : Same (upd A p o) (upd B p o) := fun b x e => by
  by_cases hb : b = p
  · subst hb
    rw [upd_same] at e ⊢
    exact e
  · rw [upd_ne hb] at e ⊢
    exact h _ _ e
theorem Post.new (h : Same H0 H) {p : Addr} {o : HO} (np : H p = none) : Post H0 H (upd H0 p o) (upd H p o) :=
  ⟨same_upd (h.free np), .of (same_upd np), same_both h, fun q hq e => by
    have : q ≠ p := fun z => hq.ne (by rw [z]; exact np)
    rw [upd_ne this]; exact e⟩
theorem Post.own (h : Same H0 H) {p : Addr} {o : HO} (np : H p = none) : Post H0 H H0 (upd H p o) :=
  ⟨Same.refl _, .of (same_upd np), h.trans (same_upd np), fun _ _ e => e⟩
end
end OL

end
section
set_option Elab.async false
set_option linter.all false
set_option maxRecDepth 100000
set_option maxHeartbeats 2000000
/-! zip of a tuple and a list -/
namespace OL
open PySem PySem.Spec PyProof.Rows L2
open PySem.Sem (wp)
section
variable {prog : Program} {w : World} {A : Around} {E : Value → Shared → Prop} {s : Shared}
theorem zM_item {z TI TO i1 i2 l1 l2 : Addr} {k1 k2 : Nat} {us vs : Array Value} {x y a b : Value} {Q : Value → Shared → Prop} (D : ZipApart z TI TO i1 i2 l1 l2) (a1 : IsZip s.heap z TI TO .none) (a2 : IsPair s.heap TI (.ref i1) (.ref i2)) (a3 : IsPair s.heap TO a b)
    (b1 : s.heap.IsTupleIter i1 l1 k1) (b2 : s.heap.IsListIter i2 l2 k2) (c1 : s.heap.IsTuple l1 us) (c2 : s.heap.IsList l2 vs) (e1 : us[k1]? = some x) (e2 : vs[k2]? = some y)
    (fin : ∀ h', IsZip h' z TI TO (rawInt s.heap.objs.size) → IsPair h' TO x y → h'.IsTupleIter i1 l1 (k1 + 1) → h'.IsListIter i2 l2 (k2 + 1) → IsPair h' s.heap.objs.size x y → h'.objs.size = s.heap.objs.size + 1 →
      (∀ c o, c ≠ z → c ≠ TO → c ≠ i1 → c ≠ i2 → s.heap.get? c = some o → h'.get? c = some o) → Q (.ref s.heap.objs.size) { s with heap := h' }) :
    wpAny (model prog w) A (Builtin.«zip.__next__» ⟨[.ref z], []⟩) (fun fin s' => ∃ v, fin = .done (.ret v) ∧ Q v s') E s := by
  show wpAny (model prog w) A (field (.ref z) 2 >>= _) _ E s
  refine wpAny_bind (wpAny_field a1 rfl (x := .bool false) rfl ?_)
  show wpAny (model prog w) A (field (.ref z) 3 >>= _) _ E s
  refine wpAny_bind (wpAny_field a1 rfl (x := .ref TI) rfl (wpAny_bind (wpAny_seqItems a2 rfl ?_)))
  show wpAny (model prog w) A (Builtin.SmallTypes.ownedTupleIsFree (.ref z) >>= _) _ E s
  refine wpAny_bind ?_
  unfold Builtin.SmallTypes.ownedTupleIsFree
  refine wpAny_bind (wpAny_field a1 rfl (x := .none) rfl (wpAny_pure ?_))
  simp only [if_true]
  refine wpAny_bind (wpAny_rule (wpAny_bind (wpAny_field a1 rfl (x := .ref TO) rfl ?_)))
  refine wpAny_bind (wpAny_setField_rec a1 (by simp) fun m1 z1 t1 => ?_)
  replace z1 : IsZip m1 z TI TO .ellipsis := z1
  refine wpAny_bind ?_
  simp only [List.forIn_cons, List.forIn_nil, List.zipIdx_cons, List.zipIdx_nil]
  refine wpAny_bind (wpAny_bind (wpAny_onRaise ?_))
  show wpAny (model prog w) A (Builtin.SmallTypes.nextOf (.ref i1) >>= _) _ _ _
  refine wpAny_bind (RZ.nextOf_tuple_item (b1.extBut t1.extBut D.i1z) (c1.extBut t1.extBut D.l1z) e1 fun m2 n1 t2 => wpAny_pure ?_)
  have p2 : IsPair m2 TO a b := t2.extBut _ _ D.TOi1 (t1.extBut _ _ D.TOz a3)
  refine wpAny_bind (wpAny_seqItems p2 rfl (wpAny_bind (wpAny_updateSeq_pair p2 fun m3 p3 t3 => ?_)))
  replace p3 : IsPair m3 TO x b := p3
  refine wpAny_bind (wpAny_letGo (wpAny_pure (wpAny_bind (wpAny_bind (wpAny_onRaise ?_)))))
  show wpAny (model prog w) A (Builtin.SmallTypes.nextOf (.ref i2) >>= _) _ _ _
  refine wpAny_bind (wpAny_nextOf_list_item (((b2.extBut t1.extBut D.i2z).extBut t2.extBut D.i12.symm).extBut t3.extBut D.TOi2.symm) (((c2.extBut t1.extBut D.l2z).extBut t2.extBut D.l2i1).extBut t3.extBut D.l2TO) e2 fun m4 n2 t4 => wpAny_pure ?_)
  have p4 : IsPair m4 TO x b := t4.extBut _ _ D.TOi2 p3
  refine wpAny_bind (wpAny_seqItems p4 rfl (wpAny_bind (wpAny_updateSeq_pair p4 fun m5 p5 t5 => ?_)))
  replace p5 : IsPair m5 TO x y := p5
  refine wpAny_bind (wpAny_letGo (wpAny_pure (wpAny_pure (wpAny_bind (wpAny_seqItems p5 rfl (wpAny_bind (wpAny_newTuple ?_)))))))
  have sz : m5.objs.size = s.heap.objs.size := by rw [t5.1, t4.1, t3.1, t2.1, t1.1]
  have z5 : IsZip m5 z TI TO .ellipsis := t5.extBut _ _ D.TOz.symm (t4.extBut _ _ D.i2z.symm (t3.extBut _ _ D.TOz.symm (t2.extBut _ _ D.i1z.symm z1)))
  have k5 : ∀ c o, c ≠ z → c ≠ TO → c ≠ i1 → c ≠ i2 → s.heap.get? c = some o → m5.get? c = some o := fun c o q1 q2 q3 q4 e => t5.extBut _ _ q2 (t4.extBut _ _ q4 (t3.extBut _ _ q2 (t2.extBut _ _ q3 (t1.extBut _ _ q1 e))))
  have r1 : m5.IsTupleIter i1 l1 (k1 + 1) := ((n1.extBut t3.extBut D.TOi1.symm).extBut t4.extBut D.i12).extBut t5.extBut D.TOi1.symm
  have r2 : m5.IsListIter i2 l2 (k2 + 1) := n2.extBut t5.extBut D.TOi2.symm
  have lz : z < m5.objs.size := Heap.lt_size z5
  show wpAny (model prog w) A (Builtin.SmallTypes.ownedTupleHandOut (.ref z) (.ref m5.objs.size) >>= _) _ _ _
  refine wpAny_bind ?_
  unfold Builtin.SmallTypes.ownedTupleHandOut
  have z6 : IsZip (m5.push { cls := .type "tuple", data := .seq #[x, y] }) z TI TO .ellipsis := Heap.get?_push_of_some _ z5
  refine wpAny_bind (wpAny_setField_rec z6 (by simp) fun m7 z7 t7 => ?_)
  replace z7 : IsZip m7 z TI TO (rawInt m5.objs.size) := z7
  refine wpAny_setField_rec z7 (by simp) fun m8 z8 t8 => ?_
  replace z8 : IsZip m8 z TI TO (rawInt m5.objs.size) := z8
  have up : ∀ c o, c ≠ z → m5.get? c = some o → m8.get? c = some o := fun c o q e => t8.extBut _ _ q (t7.extBut _ _ q (Heap.get?_push_of_some _ e))
  have p8 : IsPair m8 m5.objs.size x y := t8.extBut _ _ (Nat.ne_of_gt lz) (t7.extBut _ _ (Nat.ne_of_gt lz) (Heap.get?_push_size _ rfl))
  have s8 : m8.objs.size = m5.objs.size + 1 := by rw [t8.1, t7.1, Heap.size_push]
  rw [sz] at z8 p8 s8
  refine wpAny_pure ⟨_, rfl, ?_⟩
  show Q (.ref m5.objs.size) { s with heap := m8 }
  rw [sz]
  exact fin m8 z8 (up _ _ D.TOz p5) (r1.at fun o e => up _ o D.i1z e) (r2.at fun o e => up _ o D.i2z e) p8 s8 fun c o q1 q2 q3 q4 e => up c o q1 (k5 c o q1 q2 q3 q4 e)
theorem zM_end {z TI TO i1 i2 l1 l2 : Addr} {k1 k2 : Nat} {us vs : Array Value} {a b : Value} {Q : Fin → Shared → Prop} (hh : A.handled = none) (D : ZipApart z TI TO i1 i2 l1 l2) (a1 : IsZip s.heap z TI TO .none) (a2 : IsPair s.heap TI (.ref i1) (.ref i2)) (a3 : IsPair s.heap TO a b)
    (b1 : s.heap.IsTupleIter i1 l1 k1) (b2 : s.heap.IsListIter i2 l2 k2) (c1 : s.heap.IsTuple l1 us) (c2 : s.heap.IsList l2 vs) (no : us[k1]? = none ∨ vs[k2]? = none)
    (fin : ∀ h' e, (∀ c o, c ≠ z → c ≠ TO → c ≠ i1 → c ≠ i2 → s.heap.get? c = some o → h'.get? c = some o) → (∃ o, h'.get? e = some o ∧ o.cls = .type "StopIteration") → E (.ref e) { s with heap := h' }) :
    wpAny (model prog w) A (Builtin.«zip.__next__» ⟨[.ref z], []⟩) Q E s := by
  show wpAny (model prog w) A (field (.ref z) 2 >>= _) _ E s
  refine wpAny_bind (wpAny_field a1 rfl (x := .bool false) rfl ?_)
  show wpAny (model prog w) A (field (.ref z) 3 >>= _) _ E s
  refine wpAny_bind (wpAny_field a1 rfl (x := .ref TI) rfl (wpAny_bind (wpAny_seqItems a2 rfl ?_)))
  show wpAny (model prog w) A (Builtin.SmallTypes.ownedTupleIsFree (.ref z) >>= _) _ E s
  refine wpAny_bind ?_
  unfold Builtin.SmallTypes.ownedTupleIsFree
  refine wpAny_bind (wpAny_field a1 rfl (x := .none) rfl (wpAny_pure ?_))
  simp only [if_true]
  refine wpAny_bind (wpAny_rule (wpAny_bind (wpAny_field a1 rfl (x := .ref TO) rfl ?_)))
  refine wpAny_bind (wpAny_setField_rec a1 (by simp) fun m1 z1 t1 => ?_)
  replace z1 : IsZip m1 z TI TO .ellipsis := z1
  refine wpAny_bind ?_
  simp only [List.forIn_cons, List.forIn_nil, List.zipIdx_cons, List.zipIdx_nil]
  refine wpAny_bind (wpAny_bind (wpAny_onRaise ?_))
  show wpAny (model prog w) A (Builtin.SmallTypes.nextOf (.ref i1) >>= _) _ _ _
  cases hx : us[k1]? with
  | none =>
    refine wpAny_bind (RZ.nextOf_tuple_end hh (b1.extBut t1.extBut D.i1z) (c1.extBut t1.extBut D.l1z) hx fun m2 e t2 he => ?_)
    obtain ⟨oe, g1, g2⟩ := he
    have z2 : IsZip m2 z TI TO .ellipsis := t2 _ _ D.i1z.symm z1
    have nz : e ≠ z := fun x => by subst x; rw [z2] at g1; cases g1; simp at g2
    exact wpAny_setField_rec z2 (by simp) fun m3 _ t3 => fin m3 e (fun c o q1 _ q3 _ x => t3.extBut _ _ q1 (t2 _ _ q3 (t1.extBut _ _ q1 x))) ⟨oe, t3.extBut _ _ nz g1, g2⟩
  | some x =>
    have hy : vs[k2]? = none := by rcases no with h | h; rw [hx] at h; cases h; exact h
    refine wpAny_bind (RZ.nextOf_tuple_item (b1.extBut t1.extBut D.i1z) (c1.extBut t1.extBut D.l1z) hx fun m2 n1 t2 => wpAny_pure ?_)
    have p2 : IsPair m2 TO a b := t2.extBut _ _ D.TOi1 (t1.extBut _ _ D.TOz a3)
    refine wpAny_bind (wpAny_seqItems p2 rfl (wpAny_bind (wpAny_updateSeq_pair p2 fun m3 p3 t3 => ?_)))
    refine wpAny_bind (wpAny_letGo (wpAny_pure (wpAny_bind (wpAny_bind (wpAny_onRaise ?_)))))
    show wpAny (model prog w) A (Builtin.SmallTypes.nextOf (.ref i2) >>= _) _ _ _
    refine wpAny_bind (wpAny_nextOf_list_end hh (((b2.extBut t1.extBut D.i2z).extBut t2.extBut D.i12.symm).extBut t3.extBut D.TOi2.symm) (((c2.extBut t1.extBut D.l2z).extBut t2.extBut D.l2i1).extBut t3.extBut D.l2TO) hy fun m4 e t4 he => ?_)
    obtain ⟨oe, g1, g2⟩ := he
    have z4 : IsZip m4 z TI TO .ellipsis := t4 _ _ D.i2z.symm (t3.extBut _ _ D.TOz.symm (t2.extBut _ _ D.i1z.symm z1))
    have nz : e ≠ z := fun x => by subst x; rw [z4] at g1; cases g1; simp at g2
    exact wpAny_setField_rec z4 (by simp) fun m5 _ t5 => fin m5 e (fun c o q1 q2 q3 q4 x => t5.extBut _ _ q1 (t4 _ _ q4 (t3.extBut _ _ q2 (t2.extBut _ _ q3 (t1.extBut _ _ q1 x))))) ⟨oe, t5.extBut _ _ nz g1, g2⟩
theorem nM_item {z TI TO i1 i2 l1 l2 : Addr} {k1 k2 : Nat} {us vs : Array Value} {x y a b : Value} {Q : Option Value → Shared → Prop} (D : ZipApart z TI TO i1 i2 l1 l2) (a1 : IsZip s.heap z TI TO .none) (a2 : IsPair s.heap TI (.ref i1) (.ref i2)) (a3 : IsPair s.heap TO a b)
    (b1 : s.heap.IsTupleIter i1 l1 k1) (b2 : s.heap.IsListIter i2 l2 k2) (c1 : s.heap.IsTuple l1 us) (c2 : s.heap.IsList l2 vs) (e1 : us[k1]? = some x) (e2 : vs[k2]? = some y)
    (fin : ∀ h', IsZip h' z TI TO (rawInt s.heap.objs.size) → IsPair h' TO x y → h'.IsTupleIter i1 l1 (k1 + 1) → h'.IsListIter i2 l2 (k2 + 1) → IsPair h' s.heap.objs.size x y → h'.objs.size = s.heap.objs.size + 1 →
      (∀ c o, c ≠ z → c ≠ TO → c ≠ i1 → c ≠ i2 → s.heap.get? c = some o → h'.get? c = some o) → Q (some (.ref s.heap.objs.size)) { s with heap := h' }) :
    wpAny (model prog w) A (pyNext (.ref z)) Q E s := by
  have ty : s.TypeIs (.ref z) "zip" := ⟨_, a1, rfl⟩
  unfold pyNext
  exact wpAny_bind (wpAny_attempt (wpAny_callSpecial?_slot (name := Str.ofString "__next__") ty F.slot_zip_next (wpAny_call_entry F.slot_zip_next ty F.entry_zip_next (zM_item D a1 a2 a3 b1 b2 c1 c2 e1 e2 fun h' q1 q2 q3 q4 q5 q6 q7 => wpAny_pure (fin h' q1 q2 q3 q4 q5 q6 q7)) (F.args_zip_next_1 _))))
theorem nM_end {z TI TO i1 i2 l1 l2 : Addr} {k1 k2 : Nat} {us vs : Array Value} {a b : Value} {Q : Option Value → Shared → Prop} (hh : A.handled = none) (D : ZipApart z TI TO i1 i2 l1 l2) (a1 : IsZip s.heap z TI TO .none) (a2 : IsPair s.heap TI (.ref i1) (.ref i2)) (a3 : IsPair s.heap TO a b)
    (b1 : s.heap.IsTupleIter i1 l1 k1) (b2 : s.heap.IsListIter i2 l2 k2) (c1 : s.heap.IsTuple l1 us) (c2 : s.heap.IsList l2 vs) (no : us[k1]? = none ∨ vs[k2]? = none)
    (fin : ∀ h', (∀ c o, c ≠ z → c ≠ TO → c ≠ i1 → c ≠ i2 → s.heap.get? c = some o → h'.get? c = some o) → Q none { s with heap := h' }) : wpAny (model prog w) A (pyNext (.ref z)) Q E s := by
  have ty : s.TypeIs (.ref z) "zip" := ⟨_, a1, rfl⟩
  unfold pyNext
  refine wpAny_bind (wpAny_attempt (wpAny_callSpecial?_slot (name := Str.ofString "__next__") ty F.slot_zip_next (wpAny_call_entry F.slot_zip_next ty F.entry_zip_next (zM_end hh D a1 a2 a3 b1 b2 c1 c2 no fun h' e hk ⟨o, ho, hc⟩ => ?_) (F.args_zip_next_1 _))))
  exact wpAny_bind (wpAny_isInstance (T := "StopIteration") (b := true) ⟨o, ho, hc⟩ isSubtype_stop (wpAny_pure (fin _ hk)))
end
abbrev mH1 (h : Heap) (l1 : Addr) : Heap := h.push { cls := .type "tuple_iterator", data := .fields #[.ref l1, .int 0 0] }
abbrev mH2 (h : Heap) (l1 l2 : Addr) : Heap := (mH1 h l1).push { cls := .type "list_iterator", data := .fields #[.ref l2, .int 0 0] }
abbrev mH3 (h : Heap) (l1 l2 : Addr) : Heap := (mH2 h l1 l2).push { cls := .type "tuple", data := .seq #[.ref h.objs.size, .ref (mH1 h l1).objs.size] }
abbrev mH4 (h : Heap) (l1 l2 : Addr) : Heap := (mH3 h l1 l2).push { cls := .type "tuple", data := .seq #[.none, .none] }
abbrev mH5 (h : Heap) (l1 l2 : Addr) : Heap := (mH4 h l1 l2).push { cls := .type "zip", data := .fields #[.none, .bool false, .bool false, .ref (mH2 h l1 l2).objs.size, .ref (mH3 h l1 l2).objs.size] }
theorem meets_zipM (l1 l2 : Addr) (us vs : Array Value) : Meets (Builtin.«zip.__new__» ⟨[.type "zip", .ref l1, .ref l2], []⟩) (fun _ R s => s.heap.IsTuple l1 us ∧ s.heap.IsList l2 vs ∧ R (.ok (.ret (.ref (mH4 s.heap l1 l2).objs.size))) { s with heap := mH5 s.heap l1 l2 }) :=
  .of_wp fun prog w A R s h => by
    obtain ⟨hp, g, d, tk, os⟩ := s
    obtain ⟨t1, t2, h⟩ := h
    have hsub := sub_zip
    have u1 : Heap.IsTuple (Shared.heap ⟨hp, g, d, tk, os⟩) l1 us := t1
    have u2 : Heap.IsList (Shared.heap ⟨hp.push { cls := .type "tuple_iterator", data := .fields #[.ref l1, .int 0 0] }, g, d, tk, os⟩) l2 vs := Heap.IsList.push t2 _
    wp_walk using wpAny_pyIter_tuple u1, wpAny_pyIter_list u2
    exact ⟨_, rfl, h⟩
theorem call_zipM {prog : Program} {w : World} {A : Around} {E : Value → Shared → Prop} {s : Shared} {l1 l2 : Addr} {us vs : Array Value} {Q : Value → Shared → Prop} (t1 : s.heap.IsTuple l1 us) (t2 : s.heap.IsList l2 vs)
    (k : ∀ h', IsZip h' (s.heap.objs.size + 4) (s.heap.objs.size + 2) (s.heap.objs.size + 3) .none → IsPair h' (s.heap.objs.size + 2) (.ref s.heap.objs.size) (.ref (s.heap.objs.size + 1)) → IsPair h' (s.heap.objs.size + 3) .none .none → h'.IsTupleIter s.heap.objs.size l1 0 → h'.IsListIter (s.heap.objs.size + 1) l2 0 →
      (∀ c o, s.heap.get? c = some o → h'.get? c = some o) → Q (.ref (s.heap.objs.size + 4)) { s with heap := h' }) : wpAny (model prog w) A (call (.type "zip") [.ref l1, .ref l2]) Q E s := by
  refine callType_new F.called_zip (by decide) (F.typeCall_zip_2 _ _) (F.newCall_zip_2 _ _) (fun obj => F.args_object_init_3 obj _ _) F.entry_zip_new (meets_zipM l1 l2 us vs) ⟨t1, t2, ?_⟩
  have n1 : (mH1 s.heap l1).objs.size = s.heap.objs.size + 1 := Heap.size_push ..
  have n2 : (mH2 s.heap l1 l2).objs.size = s.heap.objs.size + 2 := by rw [Heap.size_push, n1]
  have n3 : (mH3 s.heap l1 l2).objs.size = s.heap.objs.size + 3 := by rw [Heap.size_push, n2]
  have n4 : (mH4 s.heap l1 l2).objs.size = s.heap.objs.size + 4 := by rw [Heap.size_push, n3]
  have up : ∀ {h : Heap} {c : Addr} {o o' : Obj}, h.get? c = some o → (h.push o').get? c = some o := fun e => Heap.get?_push_of_some _ e
  have q5 : (mH5 s.heap l1 l2).get? (mH4 s.heap l1 l2).objs.size = some _ := Heap.get?_push_size _ rfl
  have q4 : (mH5 s.heap l1 l2).get? (mH3 s.heap l1 l2).objs.size = some _ := up (Heap.get?_push_size _ rfl)
  have q3 : (mH5 s.heap l1 l2).get? (mH2 s.heap l1 l2).objs.size = some _ := up (up (Heap.get?_push_size _ rfl))
  have q2 : (mH5 s.heap l1 l2).get? (mH1 s.heap l1).objs.size = some _ := up (up (up (Heap.get?_push_size _ rfl)))
  have q1 : (mH5 s.heap l1 l2).get? s.heap.objs.size = some _ := up (up (up (up (Heap.get?_push_size _ rfl))))
  show _ ∧ _
  rw [n2, n3, n4] at q5
  rw [n1, n2] at q3
  rw [n3] at q4
  rw [n1] at q2
  rw [n4]
  exact ⟨⟨_, q5, rfl⟩, k _ q5 q3 q4 ⟨_, q1, rfl, rfl⟩ ⟨_, q2, rfl, rfl⟩ fun c o x => up (up (up (up (up x))))⟩
/-- the tuple at a and the list at b, the items in new pairs -/
def ItzM (K : PySem.W.Frag) (a b : Addr) : It :=
  ⟨fun i H => ∃ (xs ys : List V) (x y : V), SqT K H a xs ∧ SqL K H b ys ∧ xs[i]? = some x ∧ ys[i]? = some y,
    fun i H v H' => ∃ T x y, v = .ref T ∧ H T = none ∧ H' = upd H T (.tup [x, y]) ∧ (∀ xs, SqT K H a xs → xs[i]? = some x) ∧ ∀ ys, SqL K H b ys → ys[i]? = some y,
    fun i H => ∃ xs ys : List V, SqT K H a xs ∧ SqL K H b ys ∧ (xs.length ≤ i ∨ ys.length ≤ i)⟩
theorem turn_zipM {P : Program} {w : World} {K : PySem.W.Frag} {elts : List Expr} {kk : Nat} {tpos : Pos} {a b z TI TO i1 i2 : Addr} (D : ZipApart z TI TO i1 i2 a b) :
    Turn P w K (.Tuple elts kk tpos) (ItzM K a b) [z, TI, TO, i1, i2] z (fun i h => IsZip h z TI TO .none ∧ IsPair h TI (.ref i1) (.ref i2) ∧ (∃ x y, IsPair h TO x y) ∧ h.IsTupleIter i1 a i ∧ h.IsListIter i2 b i) where
  mem := by simp
  obj := fun i h st c hc => by
    obtain ⟨g1, g2, ⟨x, y, g3⟩, ⟨o1, e1, _, d1⟩, ⟨o2, e2, _, d2⟩⟩ := st
    have e' : c = z ∨ c = TI ∨ c = TO ∨ c = i1 ∨ c = i2 := by simpa using hc
    rcases e' with rfl | rfl | rfl | rfl | rfl
    · exact ⟨_, g1, fun v q => nomatch q⟩
    · exact ⟨_, g2, fun v q => nomatch q⟩
    · exact ⟨_, g3, fun v q => nomatch q⟩
    · exact ⟨o1, e1, fun v q => by rw [d1] at q; cases q⟩
    · exact ⟨o2, e2, fun v q => by rw [d2] at q; cases q⟩
  keep := fun i h h' st k => by
    obtain ⟨g1, g2, ⟨x, y, g3⟩, b1, b2⟩ := st
    exact ⟨k z (by simp) _ g1, k TI (by simp) _ g2, ⟨x, y, k TO (by simp) _ g3⟩, b1.at fun o q => k i1 (by simp) o q, b2.at fun o q => k i2 (by simp) o q⟩
  item := by
    intro X hP hw hK hc i pins s σ H E I hf st hg
    subst hP hw hK
    obtain ⟨g1, g2, ⟨x0, y0, g3⟩, b1, b2⟩ := st
    obtain ⟨xs, ys, x, y, qx, qy, hx, hy⟩ := hg
    obtain ⟨its, rv, p, _⟩ := I.tuple qx
    obtain ⟨its2, rv2, p2, _⟩ := I.list qy
    obtain ⟨u, hu, ru⟩ := rv.get hx
    obtain ⟨u2, hu2, ru2⟩ := rv2.get hy
    have lz : z < s.heap.objs.size := Heap.lt_size g1
    refine nM_item D g1 g2 g3 b1 b2 p p2.isList (x := u) (y := u2) (by simpa using hu) (by simpa using hu2) fun h' w1 w2 w3 w4 w5 w6 hk => ?_
    refine ⟨_, rfl, wpAny_letOwnedTupleGo_zip (s := { s with heap := h' }) w1 fun h'' w1' sb => ?_⟩
    have nT : h''.get? s.heap.objs.size = some { cls := .type "tuple", data := .seq #[u, u2] } := (sb.2 _ (Nat.ne_of_gt lz)).trans w5
    have new : ObjOk X.prog X.w (upd H s.heap.objs.size (.tup [x, y])) h'' s.heap.objs.size (.tup [x, y]) := ⟨by show 2 ≤ sizeLine; decide, [u, u2], .cons ru (.cons ru2 .nil), ⟨_, nT, rfl, _, rfl⟩⟩
    have nin : ∀ {c : Addr}, c ∉ [z, TI, TO, i1, i2] → c ≠ z ∧ c ≠ TO ∧ c ≠ i1 ∧ c ≠ i2 := fun hb => ⟨fun q => hb (by simp [q]), fun q => hb (by simp [q]), fun q => hb (by simp [q]), fun q => hb (by simp [q])⟩
    have I1 : Inv X pins σ (upd H s.heap.objs.size (.tup [x, y])) { s with heap := h'' } := I.turnedNew (t' := s.toks) (ch := [z, TI, TO, i1, i2]) (fun c o hb q => (sb.2 c (nin hb).1).trans (hk c o (nin hb).1 (nin hb).2.1 (nin hb).2.2.1 (nin hb).2.2.2 q)) hf (Nat.le_refl _) new
    refine ⟨.ref s.heap.objs.size, _, I1, rfl, ⟨_, x, y, rfl, I.hok.fresh (Nat.le_refl _), rfl, fun l hl => by rw [I.tuple_inj hl qx]; exact hx, fun l hl => by rw [I.list_inj hl qy]; exact hy⟩, ⟨w1', (sb.2 _ D.TIz).trans (hk _ _ D.TIz D.TITO D.TIi1 D.TIi2 g2), ⟨u, u2, (sb.2 _ D.TOz).trans w2⟩, w3.at fun o q => (sb.2 _ D.i1z).trans q, w4.at fun o q => (sb.2 _ D.i2z).trans q⟩, fun c hcm => ?_⟩
    have hlt : c < s.heap.objs.size := by
      have e' : c = z ∨ c = TI ∨ c = TO ∨ c = i1 ∨ c = i2 := by simpa using hcm
      rcases e' with rfl | rfl | rfl | rfl | rfl
      · exact lz
      · exact Heap.lt_size g2
      · exact Heap.lt_size g3
      · obtain ⟨_, e1, _⟩ := b1; exact Heap.lt_size e1
      · obtain ⟨_, e2, _⟩ := b2; exact Heap.lt_size e2
    rw [upd_ne (Nat.ne_of_lt hlt)]
    exact (hf c hcm).1
  done := by
    intro X hP hw hK hc i pins s σ H E I hf st hg
    subst hP hw hK
    obtain ⟨g1, g2, ⟨x0, y0, g3⟩, b1, b2⟩ := st
    obtain ⟨xs, ys, qx, qy, no⟩ := hg
    obtain ⟨its, rv, p, _⟩ := I.tuple qx
    obtain ⟨its2, rv2, p2, _⟩ := I.list qy
    have l1 := rv.length
    have l2 := rv2.length
    have he : its.toArray[i]? = none ∨ its2.toArray[i]? = none := no.imp (fun q => by simp; omega) (fun q => by simp; omega)
    exact nM_end (I.ok.hd hc) D g1 g2 g3 b1 b2 p p2.isList he fun h' hk => ⟨rfl, I.turnedL (t' := s.toks) (ch := [z, TI, TO, i1, i2]) (fun c o hb q => hk c o (fun z => hb (by simp [z])) (fun z => hb (by simp [z])) (fun z => hb (by simp [z])) (fun z => hb (by simp [z])) q) hf⟩
  self := fun A i s Q E st h => wpAny_pyIter_zip st.1 h
def iZipM (K : PySem.W.Frag) (ta : TA) : TI := fun σ H R => ta σ H fun vs H1 => ∃ a b xs ys, vs = [.ref a, .ref b] ∧ SqT K H1 a xs ∧ SqL K H1 b ys ∧ R (ItzM K a b) H1
theorem pi_zipM {X : Cx} {e e2 : Expr} {ta : TA} {p pos tpos : Pos} {elts : List Expr} {kk : Nat} (hg : Gl X "zip") (hm : X.mg "zip" = none) (ha : PA X [e, e2] ta) (hs : starEach [e, e2] X.env = (false, eval e X.env) :: starEach [e2] X.env) (hpl : (backTo pos (starEach [e2] X.env)).any (·.1) = false) :
    PI X (.Tuple elts kk tpos) (.Call (.Name "zip" p) [e, e2] [] pos) (iZipM X.K ta) := by
  refine ⟨fun pins s σ H R I h => ?_⟩
  refine Call_ (ld_blt I hg hm PyProof.Rows.boot_zip (PyProof.Rows.callWith_type1 (thn (ha.run pos pins s σ H _ I h) fun us s1 ⟨vs, H1, I1, r1, ⟨a, b, xs, ys, ex, qx, qy, q⟩⟩ => ?_) hs hpl))
  subst ex
  cases r1 with
  | cons r rr => cases rr with
    | cons r' rr =>
      cases rr; cases r; cases r'
      obtain ⟨its, rv, p1, _⟩ := I1.tuple qx
      obtain ⟨its2, rv2, p2, _⟩ := I1.list qy
      obtain ⟨o1, ho1, _⟩ := id p1
      refine call_zipM (us := its.toArray) (vs := its2.toArray) p1 p2.isList fun h' hz hTI hTO h1 h2 hk => wpAny_pyIter_zip hz ?_
      have I2 : Inv X pins σ H1 { s1 with heap := h' } := I1.kept (t' := s1.toks) hk
      refine ⟨s1.heap.objs.size + 4, [s1.heap.objs.size + 4, s1.heap.objs.size + 2, s1.heap.objs.size + 3, s1.heap.objs.size, s1.heap.objs.size + 1], _, _, H1, rfl, I2, turn_zipM (PySem.W.ktu_apart s1.heap.objs.size a b (Heap.lt_size ho1) p2.lt), ⟨hz, hTI, ⟨_, _, hTO⟩, h1, h2⟩, fun c hcm => ?_, q⟩
      have hle : s1.heap.objs.size ≤ c := by
        have e' : c = s1.heap.objs.size + 4 ∨ c = s1.heap.objs.size + 2 ∨ c = s1.heap.objs.size + 3 ∨ c = s1.heap.objs.size ∨ c = s1.heap.objs.size + 1 := by simpa using hcm
        rcases e' with z | z | z | z | z <;> rw [z] <;> first | exact Nat.le_refl _ | exact Nat.le_add_right _ _
      exact I1.fpOk hle (I1.hok.fresh hle)
end OL

end
section
set_option Elab.async false
set_option linter.all false
set_option maxRecDepth 100000
set_option maxHeartbeats 4000000
namespace OL
open PySem PySem.Spec PyProof.Rows L2

/-! ### the syntax -/
inductive T where
  | n (i : Nat) | p (a b : T) | q (a b c : T)
mutual
inductive E where
  | c (d : D)
  | v (i : Nat)
  | g (x : Str) (k : Key)
  | bin (op : Operator) (a b : E)
  | neg (a : E)
  | cmp (op : CmpOp) (a b : E)
  | cmp2 (o1 o2 : CmpOp) (a b c : E)
  | no (a : E)
  | and (as : Es)
  | or (as : Es)
  | ife (c a b : E)
  | tup (es : Es)
  | lst (es : Es)
  | ix (a b : E)
  | sl (a : E) (lo hi : Eo)
  | call (f : Str) (es : Es)
  | bi (f : Str) (es : Es)
  | isi (a : E) (ty : String)
  | lrg (a : E)
  | lrg2 (a b : E)
  | lset (a : E)
  | sset (a : E)
  | me1 (m : Str) (o a : E)
  | me2 (m : Str) (o a b : E)
  | cmp3 (o1 o2 o3 : CmpOp) (a b c d : E)
  | svals (a : E)
  | onin (neg : Bool) (i : Nat) (k a : E)
  | lrep (es : Es) (k : E)
  | lc (elt : E) (t : T) (it : I) (cs : Eo)
  | lc2 (elt : E) (t : T) (it : I) (t2 : T) (it2 : I) (cs : Eo)
  | dn
  | d1 (k v : E)
  | oix (i : Nat) (a : E)
  | olen (i : Nat)
  | oget (i : Nat) (a b : E)
  | oin (neg : Bool) (i : Nat) (a : E)
inductive Es where
  | nil | cons (e : E) (es : Es)
inductive Eo where
  | no | so (e : E)
inductive I where
  | e (a : E) | r1 (a : E) | r2 (a b : E) | zip (a b : E) | enum (a : E)
end
/-- an except clause's suite: lists of isinstance(e, c), kept in names, and at last l.index(True) -/
inductive HE where
  | d (cs : List Str) | v (k : Nat) | a (x y : HE)
structure Hd where
  known : List Str
  sets : List (Nat × HE)
  last : HE
/-- how a stored value is held: shared, owned, a list of owned lists -/
inductive M where
  | s | o | n | k
mutual
inductive S where
  | set (i : Nat) (m : M) (e : E)
  | unp (t : T) (e : E)
  | par (is : List (Nat × M)) (es : Es)
  | app (i : Nat) (e : E)
  | ext (i : Nat) (e : E)
  | put (i : Nat) (k e : E)
  | appx (i : Nat) (k e : E)
  | callS (f : Str) (es : Es)
  | callX (fs : List Str) (ix : E) (es : Es)
  | tryX (b : Ss) (i : Nat) (h : Hd)
  | ifs (c : E) (a b : Ss)
  | fors (t : T) (it : I) (b : Ss)
  | whl (n : Nat) (c : E) (b : Ss)
  | ret (e : E)
  | brk
  | raise (x : Str)
  | fr (i : Nat)
  | ifl (f : Str) (es : Es) (nm : Str) (a b : Ss)
  | ifr (f : Str) (es : Es) (e : E) (a b : Ss)
  | any
inductive Ss where
  | nil | cons (s : S) (ss : Ss)
end

/-! ### the environment -/
inductive B where
  | un | sh (d : D) | ow (d : D) | on (d : D) | dk (kvs : List (D × D)) | er (a : Addr)
abbrev Env := List B
abbrev Fn := List D → Option (Except Str D)
abbrev Tab := Str → Option Fn

def T.slots : T → List Nat
  | .n i => [i]
  | .p a b => a.slots ++ b.slots
  | .q a b c => a.slots ++ b.slots ++ c.slots
def wipeB (ρ : Env) : List Nat → Env
  | [] => ρ
  | v :: vs => (wipeB ρ vs).set v .un
def bindT : T → D → Env → Option Env
  | .n i, d, ρ => if i < ρ.length then some (ρ.set i (.sh d)) else none
  | .p a b, .tuple [x, y], ρ => (bindT a x ρ).bind fun ρ1 => bindT b y ρ1
  | .q a b c, .tuple [x, y, z], ρ => (bindT a x ρ).bind fun ρ1 => (bindT b y ρ1).bind fun ρ2 => bindT c z ρ2
  | _, _, _ => none
def getB (ρ : Env) (i : Nat) : Option D := match ρ[i]? with
  | some (.sh d) => some d
  | _ => none

/-! ### operations on data -/
/-- the text x, n times -/
def strRep (x : Str) (n : Nat) : Str := ⟨(List.replicate n x.cps).foldl (· ++ ·) #[]⟩
def binD : Operator → D → D → Option D
  | .Add, .int i, .int j => some (.int (i + j))
  | .Add, .tuple a, .tuple b => if a.length + b.length ≤ 16777216 then some (.tuple (a ++ b)) else none
  | .Add, .list a, .list b => if a.length + b.length ≤ 16777216 then some (.list (a ++ b)) else none
  | .Add, .str a, .str b => if a.length + b.length ≤ 16777216 then some (.str (a ++ b)) else none
  | .Sub, .int i, .int j => some (.int (i - j))
  | .Mult, .int i, .int j => if (-(2 ^ 64) < i ∧ i < 2 ^ 64) ∨ (-(2 ^ 64) < j ∧ j < 2 ^ 64) then some (.int (i * j)) else none
  | .Mult, .tuple a, .int k => if a ≠ [] ∧ 2 ≤ k ∧ k ≤ 1000 ∧ a.length ≤ 1000 then some (.tuple (List.replicate k.toNat a).flatten) else none
  | .Mult, .list _, .int _ => none
  | .Mult, .str a, .int k => if 0 ≤ k ∧ k ≤ 1000 ∧ a.length ≤ 1000 then some (.str (strRep a k.toNat)) else none
  | .FloorDiv, .int i, .int j => if 0 < j ∧ j < 2 ^ 64 then some (.int (i / j)) else none
  | .Mod, .int i, .int j => if 0 < j then some (.int (i % j)) else none
  | .Pow, .int i, .int j => if 0 ≤ j ∧ j ≤ 1000 ∧ i.natAbs < 2 ^ 64 then some (.int (i ^ j.toNat)) else none
  | _, _, _ => none

def shp (d : D) : Bool := SeqAt.shaped d
def eqD (a b : D) : Option Bool := if shp a = true ∧ shp b = true then some (PyData.eqv a b) else none
def flatD : D → Bool
  | .none | .bool _ | .int _ | .str _ => true
  | _ => false
def seqD : D → Option (List D)
  | .list xs => some xs
  | .tuple xs => some xs
  | _ => none
def lookD (kvs : List (D × D)) (k : D) : Option D := (kvs.find? fun kv => PyData.eqv kv.1 k).map (·.2)
def putD (kvs : List (D × D)) (k v : D) : List (D × D) :=
  if kvs.any fun kv => PyData.eqv kv.1 k then kvs.map fun kv => if PyData.eqv kv.1 k then (kv.1, v) else kv else kvs ++ [(k, v)]
def toK : D → Option Key
  | .int i => some (.inl i)
  | .str x => some (.inr x)
  | _ => none
def toKs : List D → Option (List Key)
  | [] => some []
  | d :: r => (toK d).bind fun k => (toKs r).map fun ks => k :: ks
def toKT : D → Option (List Key)
  | .tuple xs => toKs xs
  | _ => none
/-- a look-up in a shared dict: it is not empty, its keys are of the key's kind -/
def lookS (kvs : List (D × D)) (k : D) : Option (Option D) :=
  if kvs = [] then none
  else if (toKT k).isSome = true ∧ (kvs.all fun kv => (toKT kv.1).isSome) = true then some (lookD kvs k)
  else if (toK k).isSome = true ∧ (kvs.all fun kv => (toK kv.1).isSome) = true then some (lookD kvs k)
  else none
def inD (a : D) : D → Option Bool
  | .list xs => if shp a = true ∧ shp (.list xs) = true then some (xs.any fun z => PyData.eqv z a) else none
  | .tuple xs => if shp a = true ∧ shp (.tuple xs) = true then some (xs.any fun z => PyData.eqv z a) else none
  | .dict kvs => (lookS kvs a).map (·.isSome)
  | .str z => (match a with
    | .str y => (match y.cps.toList with
      | [c] => some (decide (c ∈ z.cps.toList))
      | _ => none)
    | _ => none)
  | _ => none
def ltD : D → D → Option Bool
  | .int i, .int j => some (decide (i < j))
  | .tuple xs, .tuple ys => (ints? xs).bind fun is => (ints? ys).bind fun js => some (HT.lexLt is js)
  | _, _ => none
where
  ints? : List D → Option (List Int)
    | [] => some []
    | .int i :: r => (ints? r).map (i :: ·)
    | _ => none
def isNon : D → Bool
  | .none => true
  | _ => false
def isD (a b : D) : Option Bool := match b with
  | .none => some (isNon a)
  | .bool c => match a with
    | .bool k => some (decide (k = c))
    | _ => none
  | _ => none
def cmpD : CmpOp → D → D → Option Bool
  | .Eq, a, b => eqD a b
  | .NotEq, a, b => (eqD a b).map (!·)
  | .Lt, a, b => ltD a b
  | .LtE, .int i, .int j => some (decide (i ≤ j))
  | .Gt, .int i, .int j => some (decide (j < i))
  | .GtE, .int i, .int j => some (decide (j ≤ i))
  | .In, a, b => inD a b
  | .NotIn, a, b => (inD a b).map (!·)
  | .Is, a, b => isD a b
  | .IsNot, a, b => (isD a b).map (!·)
  | _, _, _ => none
def ixD : D → D → Option D
  | .list xs, .int i => atI xs i
  | .tuple xs, .int i => atI xs i
  | .str x, .int i => if x.length ≤ 16777216 then (atI x.cps.toList i).map fun c => .str ⟨#[c]⟩ else none
  | .dict kvs, k => (lookS kvs k).bind id
  | _, _ => none
def cutD (xs : List D) (lo hi : Option Int) : List D := (xs.drop (HT.sIx xs.length 0 lo)).take (HT.sIx xs.length xs.length hi - HT.sIx xs.length 0 lo)
def slD : D → Option Int → Option Int → Option D
  | .list xs, lo, hi => some (.list (cutD xs lo hi))
  | .tuple xs, lo, hi => some (.tuple (cutD xs lo hi))
  | _, _, _ => none
def bools? : List D → Option (List Bool)
  | [] => some []
  | .bool i :: r => (bools? r).map (i :: ·)
  | _ => none
def maxL : List Int → Option Int
  | [] => none
  | x :: r => some (r.foldl max x)
def minL : List Int → Option Int
  | [] => none
  | x :: r => some (r.foldl min x)
def sortOk (ds : List D) : Bool := (ds.all fun d => ds.all fun e => PySem.W.alike d e) && (ds.all fun d => decide (d.depth ≤ 64)) &&
  ((ds.all fun d => match d with | .tuple (_ :: _) => true | _ => false) || (ds.all fun d => match d with | .none => false | .tuple _ => false | _ => true))
def isE1 : List D → Bool
  | [.tuple []] => true
  | _ => false
def sortD (ds : List D) : List D := ds.mergeSort (PySem.W.dataLe false fun d => d)
/-- the members of a list, each once, at their first places -/
def firsts (l : List Int) : List Int := l.foldl step_dedup []
/-- sorted(set(l)) -/
def sortU (l : List Int) : List Int := (firsts l).mergeSort fun a b => decide (a ≤ b)
def sortI (l : List Int) : List Int := l.mergeSort fun a b => decide (a ≤ b)
def keyInts : List (D × D) → Option (List Int)
  | [] => some []
  | (.int i, _) :: r => (keyInts r).map (i :: ·)
  | _ => none
/-- the values, if the keys are tuples -/
def tupVals : List (D × D) → Option (List Int)
  | [] => some []
  | (.tuple _, .int i) :: r => (tupVals r).map (i :: ·)
  | _ => none
def biD2 (f : Str) (as : List D) : Option D :=
  if f = "str" then match as with
    | [.int i] => if i.natAbs < 2 ^ 64 then some (.str (toString i)) else none
    | _ => none
  else if f = "int" then match as with
    | [.str a] => if a.length ≤ 640 then (PySem.intText? a).map .int else none
    | _ => none
  else none
def biD (f : Str) (as : List D) : Option D :=
  if f = "len" then match as with
    | [.list xs] => some (.int xs.length)
    | [.tuple xs] => some (.int xs.length)
    | [.str x] => if x.length ≤ 16777216 then some (.int x.length) else none
    | _ => none
  else if f = "sum" then match as with
    | [.list xs] => (ltD.ints? xs).map fun is => .int is.sum
    | _ => none
  else if f = "max" then match as with
    | [.list xs] => (ltD.ints? xs).bind fun is => (maxL is).map .int
    | [.tuple xs] => (ltD.ints? xs).bind fun is => (maxL is).map .int
    | [.int i, .int j] => some (.int (if j > i then j else i))
    | _ => none
  else if f = "min" then match as with
    | [.list xs] => (ltD.ints? xs).bind fun is => (minL is).map .int
    | _ => none
  else if f = "all" then match as with
    | [.list xs] => (bools? xs).map fun bs => .bool (bs.all id)
    | _ => none
  else if f = "any" then match as with
    | [.list xs] => (bools? xs).map fun bs => .bool (bs.any id)
    | _ => none
  else if f = "sorted" then match as with
    | [.list xs] => if sortOk xs = true then some (.list (sortD xs)) else if isE1 xs = true then some (.list xs) else none
    | [.dict kvs] => if kvs = [] then none else (keyInts kvs).bind fun is => if is.length < 64 then some (.list ((sortI is).map .int)) else none
    | _ => none
  else if f = "list" then match as with
    | [.list xs] => some (.list xs)
    | [.tuple xs] => some (.list xs)
    | [.dict kvs] => if kvs = [] then none else (keyInts kvs).map fun is => .list (is.map .int)
    | [.str x] => if x.cps.size ≤ 16777216 then some (.list (x.cps.toList.map fun c => .str ⟨#[c]⟩)) else none
    | _ => none
  else if f = "tuple" then match as with
    | [.list xs] => some (.tuple xs)
    | [.tuple xs] => some (.tuple xs)
    | _ => none
  else biD2 f as
def rgD (lo hi : Int) : List D := (List.range (hi - lo).toNat).map fun i => .int (lo + (i : Nat))
def rgOk (lo hi : Int) : Bool := decide (-16777216 ≤ lo ∧ lo ≤ 16777216 ∧ hi ≤ 16777216 ∧ hi - lo ≤ 16777216 ∧ -16777216 ≤ hi)
def isIntD : D → Bool
  | .int _ | .bool _ => true
  | _ => false
def isBoolD : D → Bool
  | .bool _ => true
  | _ => false
def isStrD : D → Bool
  | .str _ => true
  | _ => false
def isTupD : D → Bool
  | .tuple _ => true
  | _ => false
def isDictD : D → Bool
  | .dict _ => true
  | _ => false
def isTy (ty : String) (d : D) : Option Bool :=
  if isDictD d = true then none
  else if ty = "int" then some (isIntD d)
  else if ty = "bool" then some (isBoolD d)
  else if ty = "str" then some (isStrD d)
  else if ty = "tuple" then some (isTupD d)
  else none
def strs? : List D → Option (List Str)
  | [] => some []
  | .str x :: r => (strs? r).map fun l => x :: l
  | _ :: _ => none
def me1D (m : Str) (o a : D) : Option D :=
  if m = "get" then match o with
    | .dict kvs => (lookS kvs a).map fun o => o.getD .none
    | _ => none
  else if m = "index" then match o with
    | .list xs => if shp a = true ∧ shp (.list xs) = true then (xs.findIdx? fun z => PyData.eqv z a).map fun (j : Nat) => .int j else none
    | _ => none
  else if m = "count" then match o, a with
    | .list xs, .int n => (ltD.ints? xs).map fun is => .int (is.count n : Nat)
    | _, _ => none
  else if m = "join" then match o with
    | .str s => (match a with
      | .list xs => (strs? xs).bind fun ys => if (ys.map (·.length)).sum + ys.length * s.length ≤ 16777216 then some (.str (Txt.join s ys)) else none
      | .tuple xs => (strs? xs).bind fun ys => if (ys.map (·.length)).sum + ys.length * s.length ≤ 16777216 then some (.str (Txt.join s ys)) else none
      | _ => none)
    | _ => none
  else if m = "split" then match o, a with
    | .str x, .str b => if b.length ≠ 0 ∧ x.length + 2 ≤ 16777216 then some (.list ((Txt.split x b).map .str)) else none
    | _, _ => none
  else none
def me2D (m : Str) (o a b : D) : Option D :=
  if m = "get" then match o with
    | .dict kvs => (lookS kvs a).map fun o => o.getD b
    | _ => none
  else none

/-! ### evaluation -/
def consO : Option D → List D → List D
  | some x, l => x :: l
  | none, l => l
def lcGo (f : D → Option (Option D)) : List D → Option (List D)
  | [] => some []
  | d :: ds => (f d).bind fun r => (lcGo f ds).map fun rest => consO r rest
def lcGo2 (f : D → Option (List D)) : List D → Option (List D)
  | [] => some []
  | d :: ds => (f d).bind fun r => (lcGo2 f ds).map fun rest => r ++ rest
def bool? : D → Option Bool
  | .bool b => some b
  | _ => none
def int? : D → Option Int
  | .int b => some b
  | _ => none
def constD : D → Bool
  | .none | .bool _ | .int _ | .str _ => true
  | _ => false
/-- the datum of a function -/
def cloB : List (D × D) → Bool
  | [(.none, _)] => true
  | _ => false
def items? : D → Option (List D)
  | .list xs => some xs
  | .tuple xs => some xs
  | .dict kvs => if cloB kvs = true then none else some (kvs.map (·.1))
  | .str x => if x.cps.size ≤ 16777216 then some (x.cps.toList.map fun c => .str ⟨#[c]⟩) else none
  | _ => none
def zipD : List D → List D → List D
  | x :: xs, y :: ys => .tuple [x, y] :: zipD xs ys
  | _, _ => []
def enumD (n : Nat) : List D → List D
  | [] => []
  | x :: xs => .tuple [.int n, x] :: enumD (n + 1) xs
/-- a look-up in an owned dict -/
def lookO (b : Option B) (k : D) : Option (Option D) := match b with
  | some (.ow (.dict kvs)) => if (toKT k).isSome then some (lookD kvs k) else none
  | some (.dk kvs) => if (toK k).isSome then some (lookD kvs k) else none
  | _ => none
def inO (b : Option B) (a : D) : Option Bool := match b with
  | some (.ow (.list xs)) => if flatD a = true ∧ xs.all flatD = true then some (xs.any fun z => PyData.eqv z a) else none
  | _ => (lookO b a).map (·.isSome)
mutual
def evE (Φ : Tab) : E → Env → Option D
  | .c d, _ => if constD d = true then some d else none
  | .v i, ρ => getB ρ i
  | .g _ k, _ => some (keyD k)
  | .bin op a b, ρ => (evE Φ a ρ).bind fun x => (evE Φ b ρ).bind fun y => binD op x y
  | .neg a, ρ => (evE Φ a ρ).bind fun x => match x with
    | .int i => some (.int (-i))
    | _ => none
  | .cmp op a b, ρ => (evE Φ a ρ).bind fun x => (evE Φ b ρ).bind fun y => (cmpD op x y).map .bool
  | .cmp2 o1 o2 a b c, ρ => (evE Φ a ρ).bind fun x => (evE Φ b ρ).bind fun y => (cmpD o1 x y).bind fun k =>
      if k = true then (evE Φ c ρ).bind fun z => (cmpD o2 y z).map .bool else some (.bool false)
  | .no a, ρ => (evE Φ a ρ).bind fun x => (bool? x).map fun b => .bool (!b)
  | .and as, ρ => (evAnd Φ as ρ).map .bool
  | .or as, ρ => (evOr Φ as ρ).map .bool
  | .ife c a b, ρ => (evE Φ c ρ).bind fun x => (bool? x).bind fun k => if k = true then evE Φ a ρ else evE Φ b ρ
  | .tup es, ρ => (evL Φ es ρ).bind fun xs => if xs.length ≤ 16777216 then some (.tuple xs) else none
  | .lst es, ρ => (evL Φ es ρ).bind fun xs => if xs.length ≤ 16777216 then some (.list xs) else none
  | .ix a b, ρ => (evE Φ a ρ).bind fun x => (evE Φ b ρ).bind fun y => ixD x y
  | .sl a lo hi, ρ => (evE Φ a ρ).bind fun x => (evO Φ lo ρ).bind fun l => (evO Φ hi ρ).bind fun h => slD x l h
  | .call f es, ρ => (Φ f).bind fun F => (evL Φ es ρ).bind fun xs => (F xs).bind fun r => match r with
    | .ok d => some d
    | .error _ => none
  | .bi f es, ρ => (evL Φ es ρ).bind fun xs => biD f xs
  | .isi a ty, ρ => (evE Φ a ρ).bind fun x => (isTy ty x).map .bool
  | .lrg a, ρ => (evE Φ a ρ).bind fun x => (int? x).bind fun n => if 0 ≤ n ∧ n ≤ 16777216 then some (.list (rgD 0 n)) else none
  | .lrg2 a b, ρ => (evE Φ a ρ).bind fun x => (evE Φ b ρ).bind fun y => (int? x).bind fun m => (int? y).bind fun n => if 0 ≤ m ∧ m ≤ 16777216 ∧ 0 ≤ n ∧ n ≤ 16777216 then some (.list (rgD m n)) else none
  | .lset a, ρ => (evE Φ a ρ).bind fun x => match x with
    | .list xs => (ltD.ints? xs).bind fun is => if is.length < 1000 then some (.int (firsts is).length) else none
    | _ => none
  | .sset a, ρ => (evE Φ a ρ).bind fun x => match x with
    | .list xs => (ltD.ints? xs).bind fun is => if is.length < 4000 ∧ (firsts is).length < 64 then some (.list ((sortU is).map .int)) else none
    | _ => none
  | .me1 m o a, ρ => (evE Φ o ρ).bind fun x => (evE Φ a ρ).bind fun y => me1D m x y
  | .me2 m o a b, ρ => (evE Φ o ρ).bind fun x => (evE Φ a ρ).bind fun y => (evE Φ b ρ).bind fun z => me2D m x y z
  | .cmp3 o1 o2 o3 a b c d, ρ => (evE Φ a ρ).bind fun x => (evE Φ b ρ).bind fun y => (cmpD o1 x y).bind fun k =>
      if k = true then (evE Φ c ρ).bind fun z => (cmpD o2 y z).bind fun k' => if k' = true then (evE Φ d ρ).bind fun t => (cmpD o3 z t).map .bool else some (.bool false) else some (.bool false)
  | .svals a, ρ => (evE Φ a ρ).bind fun x => (match x with
    | .dict kvs => if kvs = [] then none else (tupVals kvs).map fun is => .int is.sum
    | _ => none)
  | .onin neg i k a, ρ => (evE Φ a ρ).bind fun x => (evE Φ k ρ).bind fun y => (match ρ[i]? with
    | some (.on (.list xs)) => (int? y).bind fun n => (ixN xs.length n).bind fun j => (match xs[j]? with
      | some (.list ys) => if shp x = true ∧ shp (.list ys) = true then some (.bool (if neg then !(ys.any fun z => PyData.eqv z x) else ys.any fun z => PyData.eqv z x)) else none
      | _ => none)
    | _ => none)
  | .lrep es k, ρ => (evL Φ es ρ).bind fun xs => (evE Φ k ρ).bind fun y => (int? y).bind fun n => if 0 ≤ n ∧ n ≤ 1000 ∧ xs.length ≤ 1000 then some (.list (List.replicate n.toNat xs).flatten) else none
  | .lc elt t it cs, ρ => (evI Φ it ρ).bind fun ds => (lcGo (fun d => (bindT t d (wipeB ρ t.slots)).bind fun ρ1 =>
      (evC Φ cs ρ1).bind fun k => if k = true then (evE Φ elt ρ1).map some else some none) ds).map .list
  | .lc2 elt t it t2 it2 cs, ρ => (evI Φ it ρ).bind fun ds => (lcGo2 (fun d => (bindT t d (wipeB ρ (t.slots ++ t2.slots))).bind fun ρ1 =>
      (evI Φ it2 ρ1).bind fun ds2 => lcGo (fun d2 => (bindT t2 d2 (wipeB ρ1 t2.slots)).bind fun ρ2 =>
        (evC Φ cs ρ2).bind fun k => if k = true then (evE Φ elt ρ2).map some else some none) ds2) ds).bind fun xs => if xs.length ≤ 16777216 then some (.list xs) else none
  | .dn, _ => some (.dict [])
  | .d1 k v, ρ => (evE Φ k ρ).bind fun x => (evE Φ v ρ).bind fun y => if (toKT x).isSome then some (.dict [(x, y)]) else none
  | .oix i a, ρ => (evE Φ a ρ).bind fun x => (match ρ[i]? with
    | some (.ow (.list xs)) => (int? x).bind fun n => atI xs n
    | _ => none)
  | .olen i, ρ => (match ρ[i]? with
    | some (.ow (.list xs)) => some (.int xs.length)
    | _ => none)
  | .oget i a b, ρ => (evE Φ a ρ).bind fun k => (evE Φ b ρ).bind fun d => (lookO ρ[i]? k).map fun o => o.getD d
  | .oin neg i a, ρ => (evE Φ a ρ).bind fun x => (inO ρ[i]? x).map fun b => .bool (if neg then !b else b)
def evL (Φ : Tab) : Es → Env → Option (List D)
  | .nil, _ => some []
  | .cons e es, ρ => (evE Φ e ρ).bind fun x => (evL Φ es ρ).map fun xs => x :: xs
def evAnd (Φ : Tab) : Es → Env → Option Bool
  | .nil, _ => some true
  | .cons e es, ρ => (evE Φ e ρ).bind fun x => (bool? x).bind fun b => if b = true then evAnd Φ es ρ else some false
def evOr (Φ : Tab) : Es → Env → Option Bool
  | .nil, _ => some false
  | .cons e es, ρ => (evE Φ e ρ).bind fun x => (bool? x).bind fun b => if b = true then some true else evOr Φ es ρ
def evO (Φ : Tab) : Eo → Env → Option (Option Int)
  | .no, _ => some none
  | .so e, ρ => (evE Φ e ρ).bind fun x => (int? x).map some
def evC (Φ : Tab) : Eo → Env → Option Bool
  | .no, _ => some true
  | .so e, ρ => (evE Φ e ρ).bind bool?
def evI (Φ : Tab) : I → Env → Option (List D)
  | .e a, ρ => (evE Φ a ρ).bind items?
  | .r1 a, ρ => (evE Φ a ρ).bind fun x => (int? x).bind fun n => if rgOk 0 n = true then some (rgD 0 n) else none
  | .r2 a b, ρ => (evE Φ a ρ).bind fun x => (evE Φ b ρ).bind fun y => (int? x).bind fun m => (int? y).bind fun n => if rgOk m n = true then some (rgD m n) else none
  | .zip a b, ρ => (evE Φ a ρ).bind fun x => (evE Φ b ρ).bind fun y => match x, y with
    | .list xs, .list ys => some (zipD xs ys)
    | .tuple xs, .tuple ys => some (zipD xs ys)
    | .tuple xs, .list ys => some (zipD xs ys)
    | _, _ => none
  | .enum a, ρ => (evE Φ a ρ).bind fun x => match x with
    | .list xs => some (enumD 0 xs)
    | .tuple xs => some (enumD 0 xs)
    | _ => none
end

/-- the class of an error and what the suite makes of it -/
def heV (y : Str) (ρ : List (Nat × List Bool)) : HE → Option (List Bool)
  | .d cs => if cs.length ≤ 1000 then some (cs.map fun c => decide (c = y) || decide (c = "LeagueError")) else none
  | .v k => ρ.lookup k
  | .a p q => (heV y ρ p).bind fun a => (heV y ρ q).bind fun b => if a.length + b.length ≤ 1000 then some (a ++ b) else none
def hdV (y : Str) (last : HE) : List (Nat × HE) → List (Nat × List Bool) → Option D
  | [], ρ => (heV y ρ last).bind fun bs => if shp (.list (bs.map .bool)) = true then (bs.findIdx? id).map fun (j : Nat) => .int j else none
  | (k, he) :: r, ρ => (heV y ρ he).bind fun bs => hdV y last r ((k, bs) :: ρ)
/-! ### running -/
inductive O where
  | nx (ρ : Env) | rt (d : D) | bk (ρ : Env) | ex (x : Str)
def forGo (t : T) (body : Env → Option O) : List D → Env → Option O
  | [], ρ => some (.nx ρ)
  | d :: ds, ρ => (bindT t d ρ).bind fun ρ1 => (body ρ1).bind fun o => match o with
    | .nx ρ2 => forGo t body ds ρ2
    | .bk ρ2 => some (.nx ρ2)
    | .rt d => some (.rt d)
    | .ex x => some (.ex x)
def whileGo (c : Env → Option Bool) (body : Env → Option O) : Nat → Env → Option O
  | 0, _ => none
  | n + 1, ρ => (c ρ).bind fun b => if b = true then (body ρ).bind fun o => (match o with
      | .nx ρ2 => whileGo c body n ρ2
      | .bk ρ2 => some (.nx ρ2)
      | .rt d => some (.rt d)
      | .ex x => some (.ex x)) else some (.nx ρ)
/-- what a stored value becomes -/
def hold : M → D → Option B
  | .s, d => some (.sh d)
  | .o, .list xs => some (.ow (.list xs))
  | .o, .dict xs => some (.ow (.dict xs))
  | .k, .dict xs => some (.dk xs)
  | .n, .list xs => if xs.all (fun x => match x with | .list [] => true | _ => false) then some (.on (.list xs)) else none
  | _, _ => none
def setAll : List (Nat × M) → List D → Env → Option Env
  | [], [], ρ => some ρ
  | (i, m) :: r, d :: ds, ρ => if i < ρ.length then (hold m d).bind fun b => setAll r ds (ρ.set i b) else none
  | _, _, _ => none
def frz : B → B
  | .ow d => .sh d
  | .on d => .sh d
  | .dk kvs => .sh (.dict kvs)
  | b => b
/-! what a lambda may see; what is made of its end -/
def shB : B → B
  | .sh d => .sh d
  | _ => .un
def shO (ρ : Env) : Env := ρ.map shB
def resD : Except Str D → D
  | .ok d => d
  | .error y => .tuple [.str "error", .str y]
def clsL : List (List Str) := [["InvalidLeague", "InvalidResults"], ["InvalidTeam", "InvalidGame"], ["InvalidResult", "TooLarge"], ["UnfairRule", "InvalidNumber"], ["InvalidTable", "Unexplained"], ["InvalidRounds", "AlreadyThere"], ["NotThere", "NothingToUndo"], ["ParseError"]]
def clsA : List Str := clsL.flatten
def errOk : Except Str D → Bool
  | .ok _ => true
  | .error y => decide (y ∈ clsA)
mutual
def exS (Φ : Tab) : S → Env → Option O
  | .set i m e, ρ => (evE Φ e ρ).bind fun d => (setAll [(i, m)] [d] ρ).map .nx
  | .unp t e, ρ => (evE Φ e ρ).bind fun d => (bindT t d ρ).map .nx
  | .par is es, ρ => (evL Φ es ρ).bind fun ds => (setAll is ds ρ).map .nx
  | .app i e, ρ => (evE Φ e ρ).bind fun d => match ρ[i]? with
    | some (.ow (.list xs)) => if xs.length < 16777216 then some (.nx (ρ.set i (.ow (.list (xs ++ [d]))))) else none
    | _ => none
  | .ext i e, ρ => (evE Φ e ρ).bind fun d => (seqD d).bind fun ys => match ρ[i]? with
    | some (.ow (.list xs)) => if xs.length + ys.length ≤ 16777216 then some (.nx (ρ.set i (.ow (.list (xs ++ ys))))) else none
    | _ => none
  | .put i k e, ρ => (evE Φ e ρ).bind fun d => (evE Φ k ρ).bind fun x => match ρ[i]? with
    | some (.ow (.list xs)) => (int? x).bind fun n => (ixN xs.length n).bind fun j => some (.nx (ρ.set i (.ow (.list (xs.set j d)))))
    | some (.ow (.dict kvs)) => if (toKT x).isSome = true ∧ kvs.length < 16777216 then some (.nx (ρ.set i (.ow (.dict (putD kvs x d))))) else none
    | some (.dk kvs) => if (toK x).isSome = true ∧ kvs.length < 16777216 then some (.nx (ρ.set i (.dk (putD kvs x d)))) else none
    | _ => none
  | .appx i k e, ρ => (evE Φ k ρ).bind fun x => (evE Φ e ρ).bind fun d => match ρ[i]? with
    | some (.on (.list xs)) => (int? x).bind fun n => (ixN xs.length n).bind fun j => (match xs[j]? with
      | some (.list ys) => if ys.length < 16777216 then some (.nx (ρ.set i (.on (.list (xs.set j (.list (ys ++ [d]))))))) else none
      | _ => none)
    | _ => none
  | .callS f es, ρ => (Φ f).bind fun F => (evL Φ es ρ).bind fun xs => (F xs).map fun r => match r with
    | .ok _ => .nx ρ
    | .error x => .ex x
  | .callX fs ix es, ρ => if (fs.all fun f => (Φ f).isSome) = true then (evE Φ ix ρ).bind fun x => (int? x).bind fun n => (L2.atI fs n).bind fun f => (Φ f).bind fun F => (evL Φ es ρ).bind fun xs => (F xs).map fun r => (match r with
    | .ok _ => .nx ρ
    | .error x => .ex x) else none
  | .tryX b _ h, ρ => (exL Φ b ρ).bind fun o => (match o with
    | .ex y => if y ∈ h.known then (hdV y h.last h.sets []).map .rt else none
    | o => some o)
  | .ifs c a b, ρ => (evE Φ c ρ).bind fun x => (bool? x).bind fun k => if k = true then exL Φ a ρ else exL Φ b ρ
  | .fors t it b, ρ => (evI Φ it ρ).bind fun ds => forGo t (exL Φ b) ds ρ
  | .whl n c b, ρ => whileGo (fun ρ => (evE Φ c ρ).bind bool?) (exL Φ b) n ρ
  | .ret e, ρ => (evE Φ e ρ).map .rt
  | .brk, ρ => some (.bk ρ)
  | .raise x, _ => some (.ex x)
  | .fr i, ρ => (ρ[i]?).map fun b => .nx (ρ.set i (frz b))
  | .ifl f es nm a b, ρ => if (Φ "_law_class").isSome = true ∧ (Φ "_law_all").isSome = true then (Φ f).bind fun G => (evL Φ es (shO ρ)).bind fun ds => (G ds).bind fun r => if errOk r = true then (eqD (resD r) (.tuple [.str "error", .str nm])).bind fun t => if t = true then exL Φ b ρ else exL Φ a ρ else none else none
  | .ifr f es e a b, ρ => if (Φ "_law_class").isSome = true then (Φ f).bind fun G => (evL Φ es (shO ρ)).bind fun ds => (G ds).bind fun r => if errOk r = true then (evE Φ e ρ).bind fun d => (cmpD .NotEq (resD r) d).bind fun t => if t = true then exL Φ a ρ else exL Φ b ρ else none else none
  | .any, _ => none
def exL (Φ : Tab) : Ss → Env → Option O
  | .nil, ρ => some (.nx ρ)
  | .cons s ss, ρ => (exS Φ s ρ).bind fun o => match o with
    | .nx ρ1 => exL Φ ss ρ1
    | .rt d => some (.rt d)
    | .bk ρ1 => some (.bk ρ1)
    | .ex x => some (.ex x)
end
def startB (n : Nat) (ds : List D) : Env := ds.map .sh ++ List.replicate (n - ds.length) .un
/-- a def: so many parameters, so many names -/
structure Df where
  name : Str
  np : Nat
  names : List Str
  body : Ss
def runFn (Φ : Tab) (f : Df) : Fn := fun ds => if ds.length = f.np then (exL Φ f.body (startB f.names.length ds)).bind fun o => match o with
    | .nx _ => some (.ok .none)
    | .rt d => some (.ok d)
    | .bk _ => none
    | .ex x => some (.error x)
  else none
/-- the table of the defs, the last one first -/
def tab : List Df → Tab
  | [], _ => none
  | f :: r, x => if x = f.name then some (runFn (tab r) f) else tab r x
end OL

end
section
set_option Elab.async false
set_option linter.all false
set_option maxRecDepth 100000
set_option maxHeartbeats 4000000
/-! texts: repeated, as a list of their signs -/
namespace OL
open PySem PySem.Spec PyProof.Rows L2
section
variable {X : Cx}
theorem rep0 (x : Str) : strRep x 0 = Str.empty := rfl
theorem rep1 (x : Str) : strRep x 1 = x := by
  obtain ⟨c⟩ := x
  unfold strRep
  simp
theorem repE (x : Str) (h : x.length = 0) (n : Nat) : strRep x n = x := by
  obtain ⟨c⟩ := x
  have e : c = #[] := Array.eq_empty_of_size_eq_zero h
  subst e
  unfold strRep
  congr 1
  induction n with
  | zero => rfl
  | succ n ih => rw [List.replicate_succ, List.foldl_cons]; simpa using ih
theorem fold_size (c : Array Nat) : ∀ (n : Nat) (acc : Array Nat), ((List.replicate n c).foldl (· ++ ·) acc).size = acc.size + n * c.size
  | 0, acc => by simp
  | n + 1, acc => by
    rw [List.replicate_succ, List.foldl_cons, fold_size c n, Array.size_append, Nat.succ_mul]
    omega
theorem rep_len (x : Str) (n : Nat) : (strRep x n).length = n * x.length := by
  show ((List.replicate n x.cps).foldl (· ++ ·) #[]).size = n * x.cps.size
  rw [fold_size]; simp
theorem op_mul_str : OpR X (binaryOp .Mult) (fun x y H Q => ∃ a k, x = .str a ∧ y = .int k ∧ 0 ≤ k ∧ k ≤ 1000 ∧ a.length ≤ 1000 ∧ Q (.str (strRep a k.toNat)) H) := by
  intro pins s σ H x y v u Q I rx ry h
  obtain ⟨a, k, rfl, rfl, h0, h1, hl, q⟩ := h
  obtain ⟨t, rfl⟩ := rx
  obtain ⟨t', rfl⟩ := ry
  have hm : a.length * k.toNat ≤ 1000000 := Nat.le_trans (Nat.mul_le_mul hl (show k.toNat ≤ 1000 by omega)) (by decide)
  refine PySem.P.mul_str ?_ (fun hk _ => ?_) (fun _ _ => ?_) ?_
  · rw [decide_eq_false (by omega), decide_eq_false (by omega)]; rfl
  · have h2 : (a.length : Int) ≤ (2 ^ 63 - 1) / k := by
      refine Int.le_ediv_of_mul_le (by omega) ?_
      have : (a.length : Int) * k ≤ 1000 * 1000 := Int.mul_le_mul (by omega) h1 h0 (by decide)
      omega
    omega
  · show decide (a.length * k.toNat > sizeLine) = false
    rw [sizeLine_eq]
    exact decide_eq_false (by omega)
  · have fin : ∀ (b : Str) (tk : Nat) (u : Tok), b = strRep a k.toNat → EP X pins σ Q (.str b u) { s with toks := tk } := fun b tk u e => ⟨.str b, H, I.tok _, ⟨_, rfl⟩, by rw [e]; exact q⟩
    by_cases hk : k < 1
    · rw [if_pos hk]
      have : k = 0 := by omega
      subst this
      exact ⟨by decide, fin _ _ _ (rep0 a).symm⟩
    · rw [if_neg hk]
      by_cases hs : (k == 1 || a.length == 0) = true
      · rw [if_pos hs]
        have e : strRep a k.toNat = a := by
          rcases Bool.or_eq_true_iff.mp hs with z | z
          · have : k = 1 := by simpa using z
            subst this; exact rep1 a
          · exact repE a (by simpa using z) _
        exact fin a s.toks t e.symm
      · rw [if_neg hs]
        refine ⟨?_, fin _ _ _ rfl⟩
        show (strRep a k.toNat).length ≤ sizeLine
        rw [rep_len, sizeLine_eq, Nat.mul_comm]
        omega
theorem call_listS (hc : X.calm = true) : CallR X (.type "list") (fun xs H Q => ∃ a, xs = [.str a] ∧ a.cps.size ≤ 16777216 ∧ ∀ p, H p = none → Q (.ref p) (upd H p (.lst (a.cps.toList.map fun c => V.str ⟨#[c]⟩)))) := by
  intro pins s σ H xs us Q I r h
  obtain ⟨a, rfl, hz, q⟩ := h
  obtain ⟨u, rfl, t, rfl⟩ := vals1 r
  refine PySem.call_list_str (hn := by rw [sizeLine_eq]; exact hz) (I.ok.hd hc) a t fun h' tk acc c' hk hS hacc => ?_
  refine ⟨.ref s.heap.objs.size, upd H s.heap.objs.size (.lst (a.cps.toList.map fun c => V.str ⟨#[c]⟩)), I.laid hk (Nat.le_refl _) (show ObjOk X.prog X.w _ _ _ (.lst (a.cps.toList.map fun c => V.str ⟨#[c]⟩)) from ⟨?_, acc.toList, c', ?_, ?_⟩), rfl, q _ (I.hok.fresh (Nat.le_refl _))⟩
  · rw [List.length_map, Array.length_toList, sizeLine_eq]; exact hz
  · refine vals_of_at (by rw [List.length_map, Array.length_toList, Array.length_toList, hacc.1]) fun j x w h1 h2 => ?_
    obtain ⟨c, u, hcj, rfl⟩ := hacc.2 j w (by rw [← Array.getElem?_toList]; exact h2)
    rw [List.getElem?_map, Array.getElem?_toList, hcj] at h1
    cases h1
    exact ⟨u, rfl⟩
  · rw [Array.toArray_toList]; exact hS
end
end OL

end
section
set_option Elab.async false
set_option linter.all false
set_option maxRecDepth 100000
set_option maxHeartbeats 4000000
namespace OL
open PySem PySem.Spec PyProof.Rows L2

/-! ### what is owned -/
/-- lists that are owned, one by one -/
inductive OwnLs (K : PySem.W.Frag) (H0 H : Hp) : List Addr → List D → Prop
  | nil : OwnLs K H0 H [] []
  | cons {p : Addr} {ps : List Addr} {vs : List V} {ds : List D} {dss : List D} : H p = some (.lst vs) → RDL K H0 vs ds → OwnLs K H0 H ps dss → OwnLs K H0 H (p :: ps) (.list ds :: dss)
/-- the value v is what b says, over the addresses fp -/
inductive Own (K : PySem.W.Frag) (H0 H : Hp) : V → B → List Addr → Prop
  | lst {p : Addr} {vs : List V} {ds : List D} : H p = some (.lst vs) → RDL K H0 vs ds → Own K H0 H (.ref p) (.ow (.list ds)) [p]
  | dT {p : Addr} {vs : List (List Key × V)} {ds : List (D × D)} : H p = some (.dT vs) → RDT K H0 vs ds → Own K H0 H (.ref p) (.ow (.dict ds)) [p]
  | dK {p : Addr} {vs : List (Key × V)} {ds : List (D × D)} : H p = some (.dK vs) → RDK K H0 vs ds → Own K H0 H (.ref p) (.dk ds) [p]
  | nest {p : Addr} {ps : List Addr} {ds : List D} : H p = some (.lst (ps.map V.ref)) → OwnLs K H0 H ps ds → (p :: ps).Nodup → Own K H0 H (.ref p) (.on (.list ds)) (p :: ps)

/-- a slot -/
def SlotOk (K : PySem.W.Frag) (H0 H : Hp) (v : Option V) (b : B) (fp : List Addr) : Prop := match b with
  | .un => fp = []
  | .sh d => fp = [] ∧ ∃ u, v = some u ∧ RD K H0 u d
  | .ow d => ∃ u, v = some u ∧ Own K H0 H u (.ow d) fp
  | .on d => ∃ u, v = some u ∧ Own K H0 H u (.on d) fp
  | .dk d => ∃ u, v = some u ∧ Own K H0 H u (.dk d) fp
  | .er a => fp = [] ∧ v = some (.ref a)

/-- the heaps at a def's entry: all that is tracked, what is frozen -/
structure Fx where
  He : Hp
  H0e : Hp
structure Fps (F : Fx) (H0 H : Hp) (fp : Nat → List Addr) : Prop where
  dj : ∀ i j a, i ≠ j → a ∈ fp i → a ∉ fp j
  at_ : ∀ i a, a ∈ fp i → F.He a = none ∧ H0 a = none ∧ Mu H a
structure EnvOk (K : PySem.W.Frag) (F : Fx) (H0 H : Hp) (σ : L2.St) (ρ : Env) : Prop where
  len : σ.length = ρ.length
  s : Same H0 H
  ke : Ext F.He H
  k0 : Same F.H0e H0
  kn : ∀ p, MuT F.He p → F.H0e p = none → H0 p = none
  sl : ∃ fp : Nat → List Addr, (∀ (i : Nat) (v : Option V) (b : B), σ[i]? = some v → ρ[i]? = some b → SlotOk K H0 H v b (fp i)) ∧ Fps F H0 H fp

section
variable {K : PySem.W.Frag} {F : Fx} {H0 H H0' H' : Hp} {σ : L2.St} {ρ : Env}
theorem OwnLs.mono (a : Same H0 H0') (b : ∀ p ∈ ps, ∀ o, H p = some o → H' p = some o) : ∀ {ds : List D}, OwnLs K H0 H ps ds → OwnLs K H0' H' ps ds := by
  induction ps with
  | nil => intro ds h; cases h; exact .nil
  | cons p ps ih =>
    intro ds h
    cases h with
    | cons h r t => exact .cons (b p (by simp) _ h) (r.mono a) (ih (fun q hq => b q (by simp [hq])) t)
/-- what is owned stays, if its own addresses stay -/
theorem Own.mono (a : Same H0 H0') {v : V} {x : B} {fp : List Addr} (b : ∀ p ∈ fp, ∀ o, H p = some o → H' p = some o) (h : Own K H0 H v x fp) : Own K H0' H' v x fp := by
  cases h with
  | lst h r => exact .lst (b _ (by simp) _ h) (r.mono a)
  | dT h r => exact .dT (b _ (by simp) _ h) (r.mono a)
  | dK h r => exact .dK (b _ (by simp) _ h) (r.mono a)
  | nest h r n => exact .nest (b _ (by simp) _ h) (r.mono a fun p hp => b p (by simp [hp])) n
theorem SlotOk.mono (a : Same H0 H0') {v : Option V} {x : B} {fp : List Addr} (b : ∀ p ∈ fp, ∀ o, H p = some o → H' p = some o) (h : SlotOk K H0 H v x fp) : SlotOk K H0' H' v x fp := by
  cases x with
  | un => exact h
  | sh d => obtain ⟨e, u, eu, r⟩ := h; exact ⟨e, u, eu, r.mono a⟩
  | ow d => obtain ⟨u, eu, r⟩ := h; exact ⟨u, eu, r.mono a b⟩
  | on d => obtain ⟨u, eu, r⟩ := h; exact ⟨u, eu, r.mono a b⟩
  | dk d => obtain ⟨u, eu, r⟩ := h; exact ⟨u, eu, r.mono a b⟩
  | er _ => exact h
theorem EnvOk.post (e : EnvOk K F H0 H σ ρ) (p : Post H0 H H0' H') : EnvOk K F H0' H' σ ρ := by
  obtain ⟨fp, h1, h2⟩ := e.sl
  refine ⟨e.len, p.c, e.ke.trans p.b, e.k0.trans p.a, fun q hq hn => p.d q ?_ (e.kn q hq hn), fp, fun i v b hv hb => (h1 i v b hv hb).mono p.a fun q hq o z => (h2.at_ i q hq).2.2.keep p.b z, h2.dj, fun i a ha => ?_⟩
  · exact hq.mono e.ke
  · obtain ⟨x, y, z⟩ := h2.at_ i a ha
    exact ⟨x, p.d a (.inl z) y, z.mono p.b⟩
theorem EnvOk.get (e : EnvOk K F H0 H σ ρ) {i : Nat} {d : D} (h : getB ρ i = some d) : ∃ v, σ[i]? = some (some v) ∧ RD K H0 v d := by
  obtain ⟨fp, h1, _⟩ := e.sl
  unfold getB at h
  split at h
  · rename_i d' hb
    cases h
    have hi : i < σ.length := by rw [e.len]; exact (List.getElem?_eq_some_iff.mp hb).1
    obtain ⟨_, u, eu, r⟩ := h1 i σ[i] _ (by simp [hi]) hb
    exact ⟨u, by rw [← eu]; simp [hi], r⟩
  · cases h
theorem EnvOk.getOw (e : EnvOk K F H0 H σ ρ) {i : Nat} {d : D} (h : ρ[i]? = some (.ow d)) : ∃ v fp, σ[i]? = some (some v) ∧ Own K H0 H v (.ow d) fp := by
  obtain ⟨fp, h1, _⟩ := e.sl
  have hi : i < σ.length := by rw [e.len]; exact (List.getElem?_eq_some_iff.mp h).1
  obtain ⟨u, eu, r⟩ := h1 i σ[i] _ (by simp [hi]) h
  exact ⟨u, fp i, by rw [← eu]; simp [hi], r⟩
theorem EnvOk.getEr (e : EnvOk K F H0 H σ ρ) {i : Nat} {a : Addr} (h : ρ[i]? = some (.er a)) : σ[i]? = some (some (.ref a)) := by
  obtain ⟨fp, h1, _⟩ := e.sl
  have hi : i < σ.length := by rw [e.len]; exact (List.getElem?_eq_some_iff.mp h).1
  obtain ⟨_, eu⟩ := h1 i σ[i] _ (by simp [hi]) h
  rw [← eu]; simp [hi]
def upF (fp : Nat → List Addr) (i : Nat) (l : List Addr) : Nat → List Addr := fun j => if j = i then l else fp j
/-- a slot is stored anew; the heaps may have changed at the slot's own new addresses -/
theorem EnvOk.put (e : EnvOk K F H0 H σ ρ) {i : Nat} {v : V} {b : B} {l : List Addr} (h : SlotOk K H0 H (some v) b l) (hl : ∀ a ∈ l, F.He a = none ∧ H0 a = none ∧ Mu H a)
    (hd : ∀ fp : Nat → List Addr, Fps F H0 H fp → (∀ (i : Nat) (v : Option V) (b : B), σ[i]? = some v → ρ[i]? = some b → SlotOk K H0 H v b (fp i)) → ∀ j a, j ≠ i → a ∈ l → a ∉ fp j) : EnvOk K F H0 H (σ.set i (some v)) (ρ.set i b) := by
  obtain ⟨fp, h1, h2⟩ := e.sl
  refine ⟨by simp [e.len], e.s, e.ke, e.k0, e.kn, upF fp i l, fun j w c hw hc => ?_, ⟨fun j k a hjk ha hb => ?_, fun j a ha => ?_⟩⟩
  · by_cases hj : j = i
    · subst hj
      have hs : j < σ.length := by
        have := (List.getElem?_eq_some_iff.mp hw).1
        simpa using this
      rw [List.getElem?_set_self hs] at hw
      rw [List.getElem?_set_self (by rw [← e.len]; exact hs)] at hc
      cases hw
      cases hc
      simp only [upF, if_true]
      exact h
    · rw [List.getElem?_set_ne (Ne.symm hj)] at hw hc
      simp only [upF, if_neg hj]
      exact h1 j w c hw hc
  · unfold upF at ha hb
    by_cases hj : j = i
    · rw [if_pos hj] at ha
      rw [if_neg (by intro z; exact hjk (hj.trans z.symm))] at hb
      exact hd fp h2 h1 k a (fun z => hjk (hj.trans z.symm)) ha hb
    · rw [if_neg hj] at ha
      by_cases hk : k = i
      · rw [if_pos hk] at hb
        exact hd fp h2 h1 j a hj hb ha
      · rw [if_neg hk] at hb
        exact h2.dj j k a hjk ha hb
  · unfold upF at ha
    by_cases hj : j = i
    · rw [if_pos hj] at ha
      exact hl a ha
    · rw [if_neg hj] at ha
      exact h2.at_ j a ha
theorem EnvOk.setSh (e : EnvOk K F H0 H σ ρ) {i : Nat} {v : V} {d : D} (h : RD K H0 v d) : EnvOk K F H0 H (σ.set i (some v)) (ρ.set i (.sh d)) :=
  e.put (l := []) ⟨rfl, v, rfl, h⟩ (fun a ha => by cases ha) fun _ _ _ j a _ ha => by cases ha
theorem EnvOk.setEr (e : EnvOk K F H0 H σ ρ) {i : Nat} {a : Addr} : EnvOk K F H0 H (σ.set i (some (.ref a))) (ρ.set i (.er a)) :=
  e.put (l := []) ⟨rfl, rfl⟩ (fun a ha => by cases ha) fun _ _ _ j a _ ha => by cases ha
/-- the slot is forgotten (its value may stay) -/
theorem EnvOk.forget (e : EnvOk K F H0 H σ ρ) {i : Nat} {v : Option V} : EnvOk K F H0 H (σ.set i v) (ρ.set i .un) := by
  obtain ⟨fp, h1, h2⟩ := e.sl
  refine ⟨by simp [e.len], e.s, e.ke, e.k0, e.kn, upF fp i [], fun j w c hw hc => ?_, ⟨fun j k a hjk ha hb => ?_, fun j a ha => ?_⟩⟩
  · by_cases hj : j = i
    · subst hj
      have hs : j < σ.length := by
        have := (List.getElem?_eq_some_iff.mp hw).1
        simpa using this
      rw [List.getElem?_set_self (by rw [← e.len]; exact hs)] at hc
      cases hc
      simp only [upF, if_true]
      rfl
    · rw [List.getElem?_set_ne (Ne.symm hj)] at hw hc
      simp only [upF, if_neg hj]
      exact h1 j w c hw hc
  · unfold upF at ha hb
    by_cases hj : j = i
    · rw [if_pos hj] at ha; cases ha
    · rw [if_neg hj] at ha
      by_cases hk : k = i
      · rw [if_pos hk] at hb; cases hb
      · rw [if_neg hk] at hb
        exact h2.dj j k a hjk ha hb
  · unfold upF at ha
    by_cases hj : j = i
    · rw [if_pos hj] at ha; cases ha
    · rw [if_neg hj] at ha
      exact h2.at_ j a ha
theorem wipeB_length (ρ : Env) : ∀ vs : List Nat, (wipeB ρ vs).length = ρ.length
  | [] => rfl
  | v :: vs => by unfold wipeB; rw [List.length_set, wipeB_length ρ vs]
theorem EnvOk.wipe (e : EnvOk K F H0 H σ ρ) : ∀ vs : List Nat, EnvOk K F H0 H (wipe σ vs) (wipeB ρ vs)
  | [] => e
  | v :: vs => (EnvOk.wipe e vs).forget
/-- an owned slot's content changes: H' is H but at the slot's own addresses -/
theorem EnvOk.mut (e : EnvOk K F H0 H σ ρ) {i : Nat} {v : V} {b b' : B} (hv : σ[i]? = some (some v)) (hb : ρ[i]? = some b)
    (h : ∀ fp : List Addr, SlotOk K H0 H (some v) b fp → (∀ a ∈ fp, H0 a = none) → SlotOk K H0 H' (some v) b' fp ∧ (∀ a, a ∉ fp → H' a = H a) ∧ ∀ a ∈ fp, Mu H' a) : EnvOk K F H0 H' σ (ρ.set i b') := by
  obtain ⟨fp, h1, h2⟩ := e.sl
  obtain ⟨k1, k2, k3⟩ := h (fp i) (h1 i _ _ hv hb) fun a ha => (h2.at_ i a ha).2.1
  have hi : i < ρ.length := (List.getElem?_eq_some_iff.mp hb).1
  have keep : ∀ (F : Hp), (∀ a, a ∈ fp i → F a = none) → Same F H → Same F H' := fun F hF hS a o ho => by
    have : a ∉ fp i := fun z => by rw [hF a z] at ho; cases ho
    rw [k2 a this]; exact hS a o ho
  have keepE : Ext F.He H' := by
    refine ⟨fun a o ho n => ?_, fun a ha => ?_, fun P q t => tab_keep (fun a o ho hm => ?_) (e.ke.tb P q t)⟩
    · have : a ∉ fp i := fun z => by rw [(h2.at_ i a z).1] at ho; cases ho
      rw [k2 a this]; exact e.ke.sm a o ho n
    · by_cases hm : a ∈ fp i
      · exact (h2.at_ i a hm).1
      · rw [k2 a hm] at ha; exact e.ke.fr a ha
    · have : a ∉ fp i := fun z => by
        obtain ⟨o', e', m⟩ := (h2.at_ i a z).2.2
        rw [ho] at e'
        cases e'
        rw [hm] at m
        cases m
      rw [k2 a this]; exact ho
  refine ⟨by simp [e.len], keep H0 (fun a ha => (h2.at_ i a ha).2.1) e.s, keepE, e.k0, e.kn, fp, fun j w c hw hc => ?_, ⟨h2.dj, fun j a ha => ?_⟩⟩
  · by_cases hj : j = i
    · subst hj
      rw [hv] at hw
      cases hw
      rw [List.getElem?_set_self hi] at hc
      cases hc
      exact k1
    · rw [List.getElem?_set_ne (Ne.symm hj)] at hc
      refine (h1 j w c hw hc).mono (Same.refl _) fun a ha o ho => ?_
      rw [k2 a (h2.dj j i a hj ha)]; exact ho
  · obtain ⟨x, y, z⟩ := h2.at_ j a ha
    refine ⟨x, y, ?_⟩
    by_cases hm : a ∈ fp i
    · exact k3 a hm
    · obtain ⟨o, e', m⟩ := z; exact ⟨o, by rw [k2 a hm]; exact e', m⟩
end
end OL

end
section
set_option Elab.async false
set_option linter.all false
set_option maxRecDepth 100000
set_option maxHeartbeats 4000000
namespace OL
open PySem PySem.Spec PyProof.Rows L2

/-! ### the strongest readings -/
section
variable (X : Cx)
def tOf (x : Expr) : TE := fun σ H Q => ∀ (pins : List (Addr × Obj)) (s : Shared), Inv X pins σ H s → wpAny (model X.prog X.w) X.A (eval x X.env) (EP X pins σ Q) X.xe s
def tOfT (x : Expr) : TT := fun σ H Q => ∀ (pins : List (Addr × Obj)) (s : Shared), Inv X pins σ H s → wpAny (model X.prog X.w) X.A (isTrue x X.env (eval x X.env)) (TP X pins σ Q) X.xe s
def tOfA (x : List Expr) : TA := fun σ H Q => ∀ (pos : Pos) (pins : List (Addr × Obj)) (s : Shared), Inv X pins σ H s → wpAny (model X.prog X.w) X.A (spliced (backTo pos (starEach x X.env))) (AP X pins σ Q) X.xe s
def tOfS (x : Stmt) : TS := fun D σ H => ∀ (pins : List (Addr × Obj)) (s : Shared), Inv X pins σ H s → wpAny (model X.prog X.w) X.A (exec x X.env) (SP X pins D) X.xe s
def tOfSs (x : List Stmt) : TS := fun D σ H => ∀ (pins : List (Addr × Obj)) (s : Shared), Inv X pins σ H s → wpAny (model X.prog X.w) X.A (execs x X.env) (SP X pins D) X.xe s
def tOfG (x : Expr) : TG := fun v σ H Q => ∀ (pins : List (Addr × Obj)) (s : Shared) (u : Value), Inv X pins σ H s → RelV v u → wpAny (model X.prog X.w) X.A (assign x X.env u) (fun _ s' => ∃ σ' H', Inv X pins σ' H' s' ∧ Q σ' H') X.xe s
def tOfI (tg iter : Expr) : TI := fun σ H R => ∀ (pins : List (Addr × Obj)) (s : Shared), Inv X pins σ H s → wpAny (model X.prog X.w) X.A (eval iter X.env) (fun v s1 => wpAny (model X.prog X.w) X.A (pyIter v) (PIE X pins σ tg R) X.xe s1) X.xe s
end
section
variable {X : Cx}
theorem pe_of {x : Expr} : PE X x (tOf X x) := ⟨fun pins s _ _ _ I h => h pins s I⟩
theorem pt_of {x : Expr} : PT X x (tOfT X x) := ⟨fun pins s _ _ _ I h => h pins s I⟩
theorem pa_of {x : List Expr} : PA X x (tOfA X x) := ⟨fun pos pins s _ _ _ I h => h pos pins s I⟩
theorem ps_of {x : Stmt} : PS X x (tOfS X x) := ⟨fun pins s _ _ _ I h => h pins s I⟩
theorem pss_of {x : List Stmt} : PSs X x (tOfSs X x) := ⟨fun pins s _ _ _ I h => h pins s I⟩
theorem pg_of {x : Expr} : PG X x (tOfG X x) := ⟨fun pins s _ _ _ u _ I r h => h pins s u I r⟩
theorem pi_of {tg x : Expr} : PI X tg x (tOfI X tg x) := ⟨fun pins s _ _ _ I h => h pins s I⟩
theorem tOf_of {x : Expr} {t : TE} (h : PE X x t) {σ : L2.St} {H : Hp} {Q : VK} (q : t σ H Q) : tOf X x σ H Q := fun pins s I => h.run pins s σ H Q I q
theorem tOfT_of {x : Expr} {t : TT} (h : PT X x t) {σ : L2.St} {H : Hp} {Q : Bool → Hp → Prop} (q : t σ H Q) : tOfT X x σ H Q := fun pins s I => h.run pins s σ H Q I q
theorem tOfA_of {x : List Expr} {t : TA} (h : PA X x t) {σ : L2.St} {H : Hp} {Q : List V → Hp → Prop} (q : t σ H Q) : tOfA X x σ H Q := fun pos pins s I => h.run pos pins s σ H Q I q
theorem tOfS_of {x : Stmt} {t : TS} (h : PS X x t) {σ : L2.St} {H : Hp} {D : Ends} (q : t D σ H) : tOfS X x D σ H := fun pins s I => h.run pins s σ H D I q
theorem tOfSs_of {x : List Stmt} {t : TS} (h : PSs X x t) {σ : L2.St} {H : Hp} {D : Ends} (q : t D σ H) : tOfSs X x D σ H := fun pins s I => h.run pins s σ H D I q
theorem tOfG_of {x : Expr} {t : TG} (h : PG X x t) {v : V} {σ : L2.St} {H : Hp} {Q : L2.St → Hp → Prop} (q : t v σ H Q) : tOfG X x v σ H Q := fun pins s u I r => h.run pins s σ H v u Q I r q
theorem tOfI_of {tg x : Expr} {t : TI} (h : PI X tg x t) {σ : L2.St} {H : Hp} {R : It → Hp → Prop} (q : t σ H R) : tOfI X tg x σ H R := fun pins s I => h.run pins s σ H R I q
end

/-! ### the judgements -/
section
variable (X : Cx) (F : Fx)
abbrev KE (H0 H : Hp) (d : D) (Q : VK) : Prop := ∀ (v : V) (H' H0' : Hp), Post H0 H H0' H' → RD X.K H0' v d → Q v H'
/-- the expression x is worth d -/
def DE (x : Expr) (ρ : Env) (d : D) : Prop := ∀ (σ : L2.St) (H H0 : Hp) (Q : VK), EnvOk X.K F H0 H σ ρ → KE X H0 H d Q → tOf X x σ H Q
def DA (x : List Expr) (ρ : Env) (ds : List D) : Prop := ∀ (σ : L2.St) (H H0 : Hp) (Q : List V → Hp → Prop), EnvOk X.K F H0 H σ ρ → (∀ (vs : List V) (H' H0' : Hp), Post H0 H H0' H' → RDL X.K H0' vs ds → Q vs H') → tOfA X x σ H Q
def DT (x : Expr) (ρ : Env) (b : Bool) : Prop := ∀ (σ : L2.St) (H H0 : Hp) (Q : Bool → Hp → Prop), EnvOk X.K F H0 H σ ρ → (∀ (H' H0' : Hp), Post H0 H H0' H' → Q b H') → tOfT X x σ H Q
end
section
variable {X : Cx} {F : Fx} {ρ : Env} {H0 H : Hp} {d : D} {Q : VK}
theorem KE.same (k : KE X H0 H d Q) (s : Same H0 H) {v : V} (r : RD X.K H0 v d) : Q v H := k v H H0 (Post.refl s) r
theorem KE.new (k : KE X H0 H d Q) (s : Same H0 H) {p : Addr} {o : HO} (np : H p = none) (r : RD X.K (upd H0 p o) (.ref p) d) : Q (.ref p) (upd H p o) := k _ _ _ (Post.new s np) r
theorem RDL.up {K : PySem.W.Frag} {H0 H : Hp} {p : Addr} {o : HO} {vs : List V} {ds : List D} (s : Same H0 H) (np : H p = none) (r : RDL K H0 vs ds) : RDL K (upd H0 p o) vs ds := r.mono (same_upd (s.free np))
theorem rd_lst {K : PySem.W.Frag} {H0 H : Hp} {p : Addr} {vs : List V} {ds : List D} (s : Same H0 H) (np : H p = none) (r : RDL K H0 vs ds) : RD K (upd H0 p (.lst vs)) (.ref p) (.list ds) := .lst (SqL.of upd_same) (r.up s np)
theorem rd_tup {K : PySem.W.Frag} {H0 H : Hp} {p : Addr} {vs : List V} {ds : List D} (s : Same H0 H) (np : H p = none) (r : RDL K H0 vs ds) : RD K (upd H0 p (.tup vs)) (.ref p) (.tuple ds) := .tup upd_same (r.up s np)
theorem KE.lst {ds : List D} (k : KE X H0 H (.list ds) Q) (s : Same H0 H) {p : Addr} {vs : List V} (np : H p = none) (r : RDL X.K H0 vs ds) : Q (.ref p) (upd H p (.lst vs)) := k.new s np (rd_lst s np r)
theorem KE.tup {ds : List D} (k : KE X H0 H (.tuple ds) Q) (s : Same H0 H) {p : Addr} {vs : List V} (np : H p = none) (r : RDL X.K H0 vs ds) : Q (.ref p) (upd H p (.tup vs)) := k.new s np (rd_tup s np r)

/-! ### binary operations -/
/-- list + list, whatever the lists are -/
def rCatL (K : PySem.W.Frag) : R2 := fun x y H Q => ∃ l b xs zs, x = .ref l ∧ y = .ref b ∧ SqL K H l xs ∧ SqL K H b zs ∧ xs.length + zs.length ≤ sizeLine ∧ ∀ p, H p = none → Q (.ref p) (upd H p (.lst (xs ++ zs)))
theorem op_catL : OpR X (binaryOp .Add) (rCatL X.K) := by
  intro pins s σ H x y v u Q I rx ry h
  obtain ⟨l, b, xs, zs, rfl, rfl, hH, hB, hz, q⟩ := h
  cases rx
  cases ry
  obtain ⟨its, r, ⟨⟨cls, dd, data, sl⟩, n, ho, hc, hdd, hd⟩, z⟩ := I.list hH
  obtain ⟨its2, r2, ⟨⟨cls2, dd2, data2, sl2⟩, n2, ho2, hc2, hdd2, hd2⟩, z2⟩ := I.list hB
  simp only at hc hd hc2 hd2
  subst hc hd hc2 hd2
  have e : its.toArray ++ its2.toArray = (its ++ its2).toArray := by simp
  have hl := r.length
  have hl2 := r2.length
  refine concat_meets ⟨_, ho, rfl⟩ ⟨_, ho2, rfl⟩ noFill_list_add seq_list_add PySem.F.slot_list_add PySem.F.entry_list_add (PySem.F.args_list_add_2 _ _) (list_addW l b its.toArray its2.toArray n n2 dd dd2 sl sl2 (by rw [List.size_toArray, List.size_toArray]; omega)) ⟨ho, ho2, ?_⟩
  rw [e]
  exact ⟨.ref _, _, I.lnew (t' := s.toks) (r.append r2) (by rw [List.length_append]; omega), rfl, q _ I.fresh⟩

theorem sz : (16777216 : Nat) = sizeLine := sizeLine_eq.symm
theorem binR {op : Operator} {x y z : D} (h : binD op x y = some z) (k : KE X H0 H z Q) (s : Same H0 H) {v w : V} (rx : RD X.K H0 v x) (ry : RD X.K H0 w y) :
    ∃ r, OpR X (binaryOp op) r ∧ r v w H Q := by
  unfold binD at h
  split at h
  · cases h; cases rx; cases ry
    exact ⟨_, op_add, _, _, rfl, rfl, k.same s (.int _)⟩
  · split at h
    · rename_i hl
      cases h
      cases rx with | tup h1 r1 => cases ry with | tup h2 r2 =>
      refine ⟨_, op_catA, _, _, _, _, rfl, rfl, SqT.of (s _ _ h1), SqT.of (s _ _ h2), ?_, fun e => ?_, fun _ e => ?_, fun _ _ p np => k.tup s np (r1.append r2)⟩
      · rw [r1.length, r2.length, ← sz]; exact hl
      · subst e; cases r1; exact k.same s (.tup h2 r2)
      · subst e; cases r2
        refine k.same s (.tup h1 ?_)
        simpa using r1
    · cases h
  · split at h
    · rename_i hl
      cases h
      cases rx with | lst h1 r1 => cases ry with | lst h2 r2 =>
      exact ⟨_, op_catL, _, _, _, _, rfl, rfl, s.seq h1, s.seq h2, by rw [r1.length, r2.length, ← sz]; exact hl, fun p np => k.lst s np (r1.append r2)⟩
    · cases h
  · split at h
    · rename_i hl
      cases h; cases rx; cases ry
      exact ⟨_, op_add_str, _, _, rfl, rfl, by rw [← sz]; exact hl, k.same s (.str _)⟩
    · cases h
  · cases h; cases rx; cases ry
    exact ⟨_, op_sub, _, _, rfl, rfl, k.same s (.int _)⟩
  · split at h
    · rename_i hl
      cases h; cases rx; cases ry
      exact ⟨_, op_mul, _, _, rfl, rfl, hl, k.same s (.int _)⟩
    · cases h
  · split at h
    · rename_i hl
      cases h
      cases ry
      cases rx with | tup h1 r1 =>
      refine ⟨_, op_repT, _, _, _, rfl, rfl, SqT.of (s _ _ h1), fun e => ?_, hl.2.1, hl.2.2.1, ?_, fun p np => k.tup s np (r1.rep _)⟩
      · subst e; cases r1; exact hl.1 rfl
      · rw [r1.length]; exact hl.2.2.2
    · cases h
  · cases h
  · split at h
    · rename_i hl
      cases h; cases rx; cases ry
      exact ⟨_, op_mul_str, _, _, rfl, rfl, hl.1, hl.2.1, hl.2.2, k.same s (.str _)⟩
    · cases h
  · split at h
    · rename_i hl
      cases h; cases rx; cases ry
      refine ⟨_, op_fdivW, _, _, rfl, rfl, wide_div (b := 64) hl.1 ?_ (by decide) (by decide), k.same s (.int _)⟩
      have := hl.1
      have := hl.2
      omega
    · cases h
  · split at h
    · rename_i hl
      cases h; cases rx; cases ry
      exact ⟨_, op_mod, _, _, rfl, rfl, hl, k.same s (.int _)⟩
    · cases h
  · split at h
    · rename_i hl
      cases h; cases rx; cases ry
      exact ⟨_, op_pow, _, _, rfl, rfl, ⟨hl.1, by have := hl.2.1; omega, hl.2.2⟩, k.same s (.int _)⟩
    · cases h
  · cases h
end
end OL

end
section
set_option Elab.async false
set_option linter.all false
set_option maxRecDepth 100000
set_option maxHeartbeats 4000000
namespace OL
open PySem PySem.Spec PyProof.Rows L2

/-! ### keys -/
theorem eqv_keyD (a b : Key) : PyData.eqv (keyD a) (keyD b) = decide (a = b) := by
  cases a with
  | inl i => cases b with
    | inl j =>
      simp only [keyD, PyData.eqv]
      rw [key_ll]
    | inr y => simp [keyD, PyData.eqv]
  | inr x => cases b with
    | inl j => simp [keyD, PyData.eqv]
    | inr y =>
      simp only [keyD, PyData.eqv]
      by_cases h : x = y
      · subst h; simp
      · simp [h]
theorem eqvAll_keyD : ∀ a b : List Key, PyData.eqvAll (a.map keyD) (b.map keyD) = decide (a = b)
  | [], [] => by simp [PyData.eqvAll]
  | [], _ :: _ => by simp [PyData.eqvAll]
  | _ :: _, [] => by simp [PyData.eqvAll]
  | a :: as, b :: bs => by
    simp only [List.map_cons, PyData.eqvAll, eqv_keyD, eqvAll_keyD as bs]
    by_cases h : a = b
    · subst h; simp
    · simp [h]
theorem eqv_keyT (a b : List Key) : PyData.eqv (keyT a) (keyT b) = decide (a = b) := by
  unfold keyT
  rw [PyData.eqv]
  exact eqvAll_keyD a b
theorem toK_is : ∀ {d : D} {k : Key}, toK d = some k → d = keyD k
  | .int i, k, h => by cases h; rfl
  | .str i, k, h => by cases h; rfl
  | .none, k, h => by cases h
  | .bool _, k, h => by cases h
  | .list _, k, h => by cases h
  | .tuple _, k, h => by cases h
  | .dict _, k, h => by cases h
theorem toKs_is : ∀ {d : List D} {k : List Key}, toKs d = some k → d = k.map keyD
  | [], k, h => by cases h; rfl
  | d :: r, k, h => by
    unfold toKs at h
    cases h1 : toK d with
    | none => rw [h1] at h; cases h
    | some a =>
      rw [h1] at h
      cases h2 : toKs r with
      | none => rw [h2] at h; cases h
      | some b =>
        rw [h2] at h
        cases h
        rw [toK_is h1, toKs_is h2]
        rfl
theorem toKT_is : ∀ {d : D} {k : List Key}, toKT d = some k → d = keyT k
  | .tuple xs, k, h => by rw [keyT, ← toKs_is h]
  | .int i, k, h => by cases h
  | .str i, k, h => by cases h
  | .none, k, h => by cases h
  | .bool _, k, h => by cases h
  | .list _, k, h => by cases h
  | .dict _, k, h => by cases h
theorem toK_keyT (k : List Key) : toK (keyT k) = none := rfl
theorem toKT_keyD (k : Key) : toKT (keyD k) = none := by cases k <;> rfl

/-- a look-up's two answers -/
def Ans (K : PySem.W.Frag) (H : Hp) (a : Option V) (b : Option D) : Prop := (a = none ∧ b = none) ∨ ∃ v d, a = some v ∧ b = some d ∧ RD K H v d
section
variable {K : PySem.W.Frag} {H0 H : Hp}
theorem RDT.look {k : List Key} : ∀ {kvs : List (List Key × V)} {ds : List (D × D)}, RDT K H0 kvs ds → Ans K H0 (valV kvs k) (lookD ds (keyT k))
  | _, _, .nil => .inl ⟨rfl, rfl⟩
  | _, _, .cons (k := a) (v := v) (d := d) (ds := r) h t => by
    by_cases e : a = k
    · subst e
      refine .inr ⟨v, d, valV_pos rfl, ?_, h⟩
      simp [lookD, List.find?_cons, eqv_keyT]
    · have e2 : lookD ((keyT a, d) :: r) (keyT k) = lookD r (keyT k) := by
        simp only [lookD, List.find?_cons, eqv_keyT, e, decide_false]
      rw [e2, valV_neg (by exact e)]
      exact RDT.look t
theorem RDK.look {k : Key} : ∀ {kvs : List (Key × V)} {ds : List (D × D)}, RDK K H0 kvs ds → Ans K H0 (valV kvs k) (lookD ds (keyD k))
  | _, _, .nil => .inl ⟨rfl, rfl⟩
  | _, _, .cons (k := a) (v := v) (d := d) (ds := r) h t => by
    by_cases e : a = k
    · subst e
      refine .inr ⟨v, d, valV_pos rfl, ?_, h⟩
      simp [lookD, List.find?_cons, eqv_keyD]
    · have e2 : lookD ((keyD a, d) :: r) (keyD k) = lookD r (keyD k) := by
        simp only [lookD, List.find?_cons, eqv_keyD, e, decide_false]
      rw [e2, valV_neg (by exact e)]
      exact RDK.look t
theorem RD.keyT' {k : List Key} {v : V} (h : RD K H0 v (keyT k)) : ∃ b, v = .ref b ∧ H0 b = some (.tup (k.map kV)) := by
  unfold keyT at h
  cases h with
  | tup h r => rw [r.keys'] at h; exact ⟨_, rfl, h⟩
theorem look_sound {a : Addr} {kvs : List (D × D)} {kd : D} {y : V} {o : Option D} (h : RD K H0 (.ref a) (.dict kvs)) (hk : RD K H0 y kd) (s : Same H0 H) (e : lookS kvs kd = some o) :
    ∃ ov, DGet H a y ov ∧ Ans K H0 ov o := by
  unfold lookS at e
  split at e
  · cases e
  · rename_i hne
    split at e
    · rename_i hc
      cases e
      obtain ⟨k, ek⟩ := Option.isSome_iff_exists.mp hc.1
      have := toKT_is ek
      subst this
      obtain ⟨b, rfl, hb⟩ := hk.keyT'
      cases h with
      | dT h r => exact ⟨_, .inr ⟨_, _, _, .inr ⟨_, s _ _ h⟩, rfl, s _ _ hb, rfl⟩, r.look⟩
      | dK h r =>
        cases r with
        | nil => exact absurd rfl hne
        | cons h r =>
          simp only [List.all_cons, toKT_keyD, Option.isSome_none, Bool.false_and] at hc
          exact absurd hc.2 (by decide)
      | clo f => exact absurd hc.2 (by simp [toKT])
    · split at e
      · rename_i hc
        cases e
        obtain ⟨k, ek⟩ := Option.isSome_iff_exists.mp hc.1
        have := toK_is ek
        subst this
        have hy := hk.key'
        subst hy
        cases h with
        | dK h r => exact ⟨_, .inl ⟨_, _, .inr ⟨_, s _ _ h⟩, rfl, rfl⟩, r.look⟩
        | dT h r =>
          cases r with
          | nil => exact absurd rfl hne
          | cons h r =>
            simp only [List.all_cons, toK_keyT, Option.isSome_none, Bool.false_and] at hc
            exact absurd hc.2 (by decide)
        | clo f => exact absurd hc.2 (by simp [toK])
      · cases e
/-- .. in an owned one -/
theorem lookO_sound {b : B} {v : V} {fp : List Addr} {kd : D} {y : V} {o : Option D} (h : Own K H0 H v b fp) (hk : RD K H0 y kd) (s : Same H0 H) (e : lookO (some b) kd = some o) :
    ∃ a ov, v = .ref a ∧ IsD H a ∧ DGet H a y ov ∧ Ans K H0 ov o := by
  unfold lookO at e
  split at e
  · rename_i kvs hb
    cases hb
    split at e
    · rename_i hc
      cases e
      obtain ⟨k, ek⟩ := Option.isSome_iff_exists.mp hc
      have := toKT_is ek
      subst this
      obtain ⟨b, rfl, hb⟩ := hk.keyT'
      cases h with
      | dT h r => exact ⟨_, _, rfl, .inr ⟨_, .inl h⟩, .inr ⟨_, _, _, .inl h, rfl, s _ _ hb, rfl⟩, r.look⟩
    · cases e
  · rename_i kvs hb
    cases hb
    split at e
    · rename_i hc
      cases e
      obtain ⟨k, ek⟩ := Option.isSome_iff_exists.mp hc
      have := toK_is ek
      subst this
      have hy := hk.key'
      subst hy
      cases h with
      | dK h r => exact ⟨_, _, rfl, .inl ⟨_, .inl h⟩, .inl ⟨_, _, .inl h, rfl, rfl⟩, r.look⟩
    · cases e
  · cases e
end

/-! ### comparisons -/
section
variable {X : Cx} {F : Fx} {ρ : Env} {H0 H : Hp} {Q : VK}
def rInT (K : PySem.W.Frag) (neg : Bool) : R2 := fun x y H Q => ∃ d ds, Dp K H x d ∧ Dp K H y (.tuple ds) ∧ SeqAt.shaped d = true ∧ SeqAt.shaped (.tuple ds) = true ∧ Q (.bl (if neg then !(ds.any fun z => PyData.eqv z d) else ds.any fun z => PyData.eqv z d)) H
theorem op_inT (hu : X.A.units + 65 < cLine) : OpR X (compareOp .In) (rInT X.K false) := by
  intro pins s σ H x y v u Q I rx ry h
  obtain ⟨d, ds, hd, he, sd, se, q⟩ := h
  obtain ⟨as, r1⟩ := Dp.reads I d x v hd rx
  obtain ⟨bs, r2⟩ := Dp.reads I (.tuple ds) y u he ry
  exact SeqAt.in_tuple_reads r2 r1 (SeqAt.canLay_of_shaped se) (SeqAt.canLay_of_shaped sd) (room_in_shaped sd hu) ⟨.bl _, H, I, rfl, q⟩
theorem op_notInT (hu : X.A.units + 65 < cLine) : OpR X (compareOp .NotIn) (rInT X.K true) := by
  intro pins s σ H x y v u Q I rx ry h
  obtain ⟨d, ds, hd, he, sd, se, q⟩ := h
  obtain ⟨as, r1⟩ := Dp.reads I d x v hd rx
  obtain ⟨bs, r2⟩ := Dp.reads I (.tuple ds) y u he ry
  exact SeqAt.notIn_tuple_reads r2 r1 (SeqAt.canLay_of_shaped se) (SeqAt.canLay_of_shaped sd) (room_in_shaped sd hu) ⟨.bl _, H, I, rfl, q⟩
def rInDict : R2 := fun x y H Q => ∃ a o, y = .ref a ∧ DGet H a x o ∧ Q (.bl o.isSome) H
def rNotInDict : R2 := fun x y H Q => ∃ a o, y = .ref a ∧ DGet H a x o ∧ Q (.bl (!o.isSome)) H
theorem op_inDict (hu : X.A.units + 1 < cLine) : OpR X (compareOp .In) rInDict := by
  intro pins s σ H x y v u Q I rx ry h
  obtain ⟨a, o, rfl, g, q⟩ := h
  cases ry
  exact d_in hu I g rx fun s' I' => ⟨.bl _, H, I', rfl, q⟩
theorem op_notInDict (hu : X.A.units + 1 < cLine) : OpR X (compareOp .NotIn) rNotInDict := by
  intro pins s σ H x y v u Q I rx ry h
  obtain ⟨a, o, rfl, g, q⟩ := h
  cases ry
  exact d_notIn hu I g rx fun s' I' => ⟨.bl _, H, I', rfl, q⟩
theorem Ans.isSome {K : PySem.W.Frag} {H : Hp} {a : Option V} {b : Option D} (h : Ans K H a b) : a.isSome = b.isSome := by
  rcases h with ⟨rfl, rfl⟩ | ⟨_, _, rfl, rfl, _⟩ <;> rfl
theorem RD.dpIn {K : PySem.W.Frag} {H0 H : Hp} {v : V} {d : D} (s : Same H0 H) (r : RD K H0 v d) (h : shp d = true) : Dp K H v d := (r.mono s).dp (plain_shaped h)
theorem isNone_iff {K : PySem.W.Frag} {H0 : Hp} {v : V} {x : D} (rx : RD K H0 v x) : decide (v = V.non) = isNon x := by
  cases rx <;> simp [isNon]
theorem ints_is : ∀ {xs : List D} {is : List Int}, ltD.ints? xs = some is → xs = is.map PyData.int
  | [], is, h => by cases h; rfl
  | .int i :: r, is, h => by
    unfold ltD.ints? at h
    cases h2 : ltD.ints? r with
    | none => rw [h2] at h; cases h
    | some b => rw [h2] at h; cases h; rw [ints_is h2]; rfl
  | .none :: r, is, h => by cases h
  | .bool _ :: r, is, h => by cases h
  | .str _ :: r, is, h => by cases h
  | .list _ :: r, is, h => by cases h
  | .tuple _ :: r, is, h => by cases h
  | .dict _ :: r, is, h => by cases h
theorem ints_of : ∀ (is : List Int), ltD.ints? (is.map PyData.int) = some is
  | [] => rfl
  | i :: r => by
    show (ltD.ints? (r.map PyData.int)).map (i :: ·) = _
    rw [ints_of r]; rfl
theorem cmpR (hu : X.A.units + 65 < cLine) {op : CmpOp} {x y : D} {b : Bool} (h : cmpD op x y = some b) (s : Same H0 H) {v w : V} (rx : RD X.K H0 v x) (ry : RD X.K H0 w y) (q : Q (.bl b) H) :
    ∃ r, OpR X (compareOp op) r ∧ r v w H Q := by
  have hu1 : X.A.units + 1 < cLine := by omega
  have hu0 : X.A.units < cLine := by omega
  have hu64 : X.A.units + 64 < cLine := by omega
  have inn : ∀ (neg : Bool) (c : Bool), inD x y = some c → b = (if neg then !c else c) → ∃ r, OpR X (compareOp (if neg then .NotIn else .In)) r ∧ r v w H Q := by
    intro neg c hc hb
    unfold inD at hc
    split at hc
    · split at hc
      · rename_i hl
        cases hc
        cases neg with
        | false => exact ⟨_, op_inD hu, _, _, rx.dpIn s hl.1, ry.dpIn s hl.2, hl.1, hl.2, by rw [hb] at q; exact q⟩
        | true => exact ⟨_, op_notInD hu, _, _, rx.dpIn s hl.1, ry.dpIn s hl.2, hl.1, hl.2, by rw [hb] at q; exact q⟩
      · cases hc
    · split at hc
      · rename_i hl
        cases hc
        cases neg with
        | false => exact ⟨_, op_inT hu, _, _, rx.dpIn s hl.1, ry.dpIn s hl.2, hl.1, hl.2, by rw [hb] at q; exact q⟩
        | true => exact ⟨_, op_notInT hu, _, _, rx.dpIn s hl.1, ry.dpIn s hl.2, hl.1, hl.2, by rw [hb] at q; exact q⟩
      · cases hc
    · rename_i kvs
      cases hl : lookS kvs x with
      | none => rw [hl] at hc; cases hc
      | some o =>
        rw [hl] at hc
        cases hc
        obtain ⟨a, rfl⟩ : ∃ a, w = V.ref a := by cases ry <;> exact ⟨_, rfl⟩
        obtain ⟨ov, g, an⟩ := look_sound ry rx s hl
        cases neg with
        | false => exact ⟨_, op_inDict hu1, _, _, rfl, g, by rw [hb] at q; rw [an.isSome]; exact q⟩
        | true => exact ⟨_, op_notInDict hu1, _, _, rfl, g, by rw [hb] at q; rw [an.isSome]; exact q⟩
    · rename_i z
      split at hc
      · rename_i y0
        split at hc
        · rename_i c0 hy
          cases hc
          have ey : y0 = ⟨#[c0]⟩ := by
            obtain ⟨cp⟩ := y0
            have : cp = #[c0] := Array.toList_inj.mp hy
            rw [this]
          subst ey
          cases rx
          cases ry
          cases neg with
          | false => exact ⟨_, op_in_sign, c0, z, rfl, rfl, by rw [hb] at q; exact q⟩
          | true => exact ⟨_, op_notIn_sign, c0, z, rfl, rfl, by rw [hb] at q; exact q⟩
        · cases hc
      · cases hc
    · cases hc
  have iss : ∀ (neg : Bool) (c : Bool), isD x y = some c → b = (if neg then !c else c) → ∃ r, OpR X (compareOp (if neg then .IsNot else .Is)) r ∧ r v w H Q := by
    intro neg c hc hb
    unfold isD at hc
    split at hc
    · cases hc
      cases ry
      have e := isNone_iff rx
      cases neg with
      | false => exact ⟨_, op_isN, rfl, by rw [hb] at q; rw [e]; exact q⟩
      | true => exact ⟨_, op_notN, rfl, by rw [hb] at q; rw [e]; exact q⟩
    · split at hc
      · cases hc
        cases rx
        cases ry
        cases neg with
        | false => exact ⟨_, op_isBl, _, _, rfl, rfl, by rw [hb] at q; exact q⟩
        | true => exact ⟨_, op_notBl, _, _, rfl, rfl, by rw [hb] at q; exact q⟩
      · cases hc
    · cases hc
  unfold cmpD at h
  split at h
  · unfold eqD at h
    split at h
    · rename_i hl
      cases h
      exact ⟨_, op_eqD hu64, _, _, rx.dpIn s hl.1, ry.dpIn s hl.2, hl.1, hl.2, q⟩
    · cases h
  · unfold eqD at h
    split at h
    · rename_i hl
      cases h
      exact ⟨_, op_neD hu64, _, _, rx.dpIn s hl.1, ry.dpIn s hl.2, hl.1, hl.2, q⟩
    · cases h
  · unfold ltD at h
    split at h
    · cases h; cases rx; cases ry
      exact ⟨_, op_lt, _, _, rfl, rfl, q⟩
    · rename_i xs ys
      cases h1 : ltD.ints? xs with
      | none => rw [h1] at h; cases h
      | some is =>
        rw [h1] at h
        cases h2 : ltD.ints? ys with
        | none => rw [h2] at h; cases h
        | some js =>
          rw [h2] at h
          cases h
          rw [ints_is h1] at rx
          rw [ints_is h2] at ry
          cases rx with | tup g1 r1 => cases ry with | tup g2 r2 =>
          rw [r1.ints'] at g1
          rw [r2.ints'] at g2
          exact ⟨_, op_ltT hu0, _, _, _, _, rfl, rfl, SqT.of (s _ _ g1), SqT.of (s _ _ g2), q⟩
    · cases h
  · cases h; cases rx; cases ry
    exact ⟨_, op_le, _, _, rfl, rfl, q⟩
  · cases h; cases rx; cases ry
    exact ⟨_, op_gt, _, _, rfl, rfl, q⟩
  · cases h; cases rx; cases ry
    exact ⟨_, op_ge, _, _, rfl, rfl, q⟩
  · exact inn false _ h rfl
  · cases hc : inD x y with
    | none => rw [hc] at h; cases h
    | some c => rw [hc] at h; cases h; exact inn true c hc rfl
  · exact iss false _ h rfl
  · cases hc : isD x y with
    | none => rw [hc] at h; cases h
    | some c => rw [hc] at h; cases h; exact iss true c hc rfl
  · cases h
end
end OL

end
section
set_option Elab.async false
set_option linter.all false
set_option maxRecDepth 100000
set_option maxHeartbeats 4000000
namespace OL
open PySem PySem.Spec PyProof.Rows L2

/-! ### any rule -/
section
variable {X : Cx}
def opAny (X : Cx) (f : Value → Value → Sem Value) : R2 := fun x y H Q => ∃ r, OpR X f r ∧ r x y H Q
theorem op_any {f : Value → Value → Sem Value} : OpR X f (opAny X f) := fun pins s σ H x y v u Q I rx ry ⟨_, hr, h⟩ => hr pins s σ H x y v u Q I rx ry h
def ixAny (X : Cx) : R2 := fun x y H Q => ∃ r, IxR X r ∧ r x y H Q
theorem ix_any : IxR X (ixAny X) := fun a b pins s σ H x y v u Q I rx ry ⟨_, hr, h⟩ hs => hr a b pins s σ H x y v u Q I rx ry h hs
def slAny (X : Cx) : V → Option Int → Option Int → Hp → VK → Prop := fun x lo hi H Q => ∃ r, SlR X r ∧ r x lo hi H Q
theorem sl_any : SlR X (slAny X) := fun pins s σ H x v vl vu lo hi sl Q I rx hs pl pu ⟨_, hr, h⟩ => hr pins s σ H x v vl vu lo hi sl Q I rx hs pl pu h
def callAnyR (X : Cx) (f : Value) : List V → Hp → VK → Prop := fun xs H Q => ∃ r, CallR X f r ∧ r xs H Q
theorem call_any {f : Value} : CallR X f (callAnyR X f) := fun pins s σ H xs us Q I r ⟨_, hr, h⟩ => hr pins s σ H xs us Q I r h
def mtAny (X : Cx) (id : String) : V → List V → Hp → VK → Prop := fun x xs H Q => ∃ r, MtR X id r ∧ r x xs H Q
theorem mt_any {id : String} : MtR X id (mtAny X id) := fun pins s σ H x xs v us Q I rx rxs ⟨_, hr, h⟩ => hr pins s σ H x xs v us Q I rx rxs h
end

section
variable {X : Cx} {F : Fx} {ρ : Env}
/-- a later end, from an earlier start -/
theorem KE.after {H0 H H1 H01 : Hp} {d : D} {Q : VK} (k : KE X H0 H d Q) (p : Post H0 H H01 H1) : KE X H01 H1 d Q := fun v H' H0' p2 r => k v H' H0' (p.trans p2) r
/-! ### constants and names -/
theorem de_int {i : Int} {j : Nat} {pos : Pos} : DE X F (.Constant (.int i) j pos) ρ (.int i) := fun σ H H0 Q env k => tOf_of pe_int (k.same env.s (.int i))
theorem de_str {i : Str} {j : Nat} {pos : Pos} : DE X F (.Constant (.str i) j pos) ρ (.str i) := fun σ H H0 Q env k => tOf_of pe_str (k.same env.s (.str i))
theorem de_bl {i : Bool} {j : Nat} {pos : Pos} : DE X F (.Constant (.bool i) j pos) ρ (.bool i) := fun σ H H0 Q env k => tOf_of pe_bl (k.same env.s (.bl i))
theorem de_non {j : Nat} {pos : Pos} : DE X F (.Constant .none j pos) ρ .none := fun σ H H0 Q env k => tOf_of pe_non (k.same env.s .non)
theorem de_var {i : Nat} {x : Str} {d : D} {pos : Pos} (hN : X.N[i]? = some x) (hv : Vis X.env.scope x) (h1 : (x == ("__debug__" : Str)) = false) (h2 : (x == ("__classdict__" : Str)) = false) (h : getB ρ i = some d) : DE X F (.Name x pos) ρ d := by
  intro σ H H0 Q env k
  obtain ⟨v, e, r⟩ := env.get h
  exact tOf_of (pe_var hN hv h1 h2) ⟨v, e, k.same env.s r⟩
theorem de_glob {x : Str} {k : Key} {u : Value} {pos : Pos} (hg : Gl X x) (hm : X.mg x = some u) (hr : RelV (kV k) u) (h1 : (x == ("__debug__" : Str)) = false) : DE X F (.Name x pos) ρ (keyD k) :=
  fun σ H H0 Q env kk => tOf_of (pe_glob hg hm hr h1) (kk.same env.s RD.key)
/-! ### operations -/
theorem de_bin {op : Operator} {a b : Expr} {x y z : D} {pos : Pos} (ha : DE X F a ρ x) (hb : DE X F b ρ y) (h : binD op x y = some z) : DE X F (.BinOp a op b pos) ρ z := by
  intro σ H H0 Q env k
  refine tOf_of (pe_op op_any pe_of pe_of) ?_
  refine ha σ H H0 _ env fun v H1 H01 p1 r1 => ?_
  refine hb σ H1 H01 _ (env.post p1) fun w H2 H02 p2 r2 => ?_
  exact binR h (k.after (p1.trans p2)) p2.c (r1.mono p2.a) r2
theorem de_neg {a : Expr} {i : Int} {pos : Pos} (ha : DE X F a ρ (.int i)) : DE X F (.UnaryOp .USub a pos) ρ (.int (-i)) := by
  intro σ H H0 Q env k
  refine tOf_of (pe_un un_neg pe_of) ?_
  refine ha σ H H0 _ env fun v H1 H01 p1 r1 => ?_
  cases r1
  exact ⟨i, rfl, (k.after p1).same p1.c (.int _)⟩
theorem de_cmp (hu : X.A.units + 65 < cLine) {op : CmpOp} {a b : Expr} {x y : D} {c : Bool} {pos : Pos} (ha : DE X F a ρ x) (hb : DE X F b ρ y) (h : cmpD op x y = some c) (hm : behindInMarks op b = false) : DE X F (.Compare a [op] [b] pos) ρ (.bool c) := by
  intro σ H H0 Q env k
  refine tOf_of (pe_cmpR op_any pe_of pe_of hm) ?_
  refine ha σ H H0 _ env fun v H1 H01 p1 r1 => ?_
  refine hb σ H1 H01 _ (env.post p1) fun w H2 H02 p2 r2 => ?_
  exact cmpR hu h p2.c (r1.mono p2.a) r2 ((k.after (p1.trans p2)).same p2.c (.bl c))
theorem dt_cmp (hu : X.A.units + 65 < cLine) {op : CmpOp} {a b : Expr} {x y : D} {c : Bool} {pos : Pos} (ha : DE X F a ρ x) (hb : DE X F b ρ y) (h : cmpD op x y = some c) (hm : behindInMarks op b = false) : DT X F (.Compare a [op] [b] pos) ρ c := by
  intro σ H H0 Q env k
  refine tOfT_of (pt_cmpR op_any pe_of pe_of hm) ?_
  refine ha σ H H0 _ env fun v H1 H01 p1 r1 => ?_
  refine hb σ H1 H01 _ (env.post p1) fun w H2 H02 p2 r2 => ?_
  exact cmpR hu h p2.c (r1.mono p2.a) r2 ⟨c, rfl, k _ _ (p1.trans p2)⟩
/-- a value that is a bool, as a test -/
theorem dt_val {x : Expr} {b : Bool} (h : DE X F x ρ (.bool b)) (he : ∀ whole, isTrue x X.env whole = (do let v ← whole; standAt x.pos; holding [v] (truthy v))) : DT X F x ρ b := by
  intro σ H H0 Q env k
  refine tOfT_of (pt_val pe_of he) ?_
  refine h σ H H0 _ env fun v H1 H01 p1 r1 => ?_
  cases r1
  exact ⟨b, rfl, k _ _ p1⟩
theorem de_no {a : Expr} {b : Bool} {pos : Pos} (ha : DE X F a ρ (.bool b)) : DE X F (.UnaryOp .Not a pos) ρ (.bool (!b)) := by
  intro σ H H0 Q env k
  refine tOf_of (pe_not pe_of) ?_
  refine ha σ H H0 _ env fun v H1 H01 p1 r1 => ?_
  cases r1
  exact ⟨b, rfl, (k.after p1).same p1.c (.bl _)⟩
theorem dt_no {a : Expr} {b : Bool} {pos : Pos} (ha : DT X F a ρ b) : DT X F (.UnaryOp .Not a pos) ρ (!b) := by
  intro σ H H0 Q env k
  exact tOfT_of (pt_not pt_of) (ha σ H H0 _ env fun H1 H01 p1 => k _ _ p1)
theorem de_ife {c a b : Expr} {k : Bool} {d : D} {pos : Pos} (hc : DT X F c ρ k) (ha : k = true → DE X F a ρ d) (hb : k = false → DE X F b ρ d) : DE X F (.IfExp c a b pos) ρ d := by
  intro σ H H0 Q env kk
  refine tOf_of (pe_ifExp pt_of pe_of pe_of) ?_
  refine hc σ H H0 _ env fun H1 H01 p1 => ?_
  cases k with
  | true => rw [if_pos rfl]; exact ha rfl σ H1 H01 _ (env.post p1) (kk.after p1)
  | false => rw [if_neg (by decide)]; exact hb rfl σ H1 H01 _ (env.post p1) (kk.after p1)
/-! ### argument lists, displays -/
theorem da_nil : DA X F [] ρ [] := fun σ H H0 Q env k => tOfA_of pa_nil (k [] H H0 (Post.refl env.s) .nil)
theorem da_cons {e : Expr} {es : List Expr} {d : D} {ds : List D} (he : DE X F e ρ d) (hes : DA X F es ρ ds) (hs : starEach (e :: es) X.env = (false, eval e X.env) :: starEach es X.env) : DA X F (e :: es) ρ (d :: ds) := by
  intro σ H H0 Q env k
  refine tOfA_of (pa_cons pe_of pa_of hs) ?_
  refine he σ H H0 _ env fun v H1 H01 p1 r1 => ?_
  refine hes σ H1 H01 _ (env.post p1) fun vs H2 H02 p2 r2 => ?_
  exact k _ _ _ (p1.trans p2) (.cons (r1.mono p2.a) r2)
theorem de_tup {es : List Expr} {ds : List D} {j : Nat} {pos : Pos} (h : DA X F es ρ ds) (hl : ds.length ≤ 16777216) : DE X F (.Tuple es j pos) ρ (.tuple ds) := by
  intro σ H H0 Q env k
  refine tOf_of (pe_tup pa_of) ?_
  refine h σ H H0 _ env fun vs H1 H01 p1 r1 => ?_
  exact ⟨by rw [r1.length, ← sz]; exact hl, fun p np => (k.after p1).tup p1.c np r1⟩
/-! ### subscripts, slices -/
theorem RDL.atI {K : PySem.W.Frag} {H : Hp} {vs : List V} {ds : List D} (r : RDL K H vs ds) {i : Int} {d : D} (h : L2.atI ds i = some d) : ∃ v, L2.atI vs i = some v ∧ RD K H v d := by
  unfold L2.atI at h ⊢
  rw [r.length]
  cases hj : ixN ds.length i with
  | none => rw [hj] at h; cases h
  | some j =>
    rw [hj] at h
    exact r.get h
theorem ixR {H0 H : Hp} {Q : VK} {x y z : D} (h : ixD x y = some z) (hnd : ∀ kvs, x ≠ .dict kvs) (k : KE X H0 H z Q) (s : Same H0 H) {v w : V} (rx : RD X.K H0 v x) (ry : RD X.K H0 w y) : ixAny X v w H Q := by
  unfold ixD at h
  split at h
  · cases ry
    cases rx with | lst h1 r1 =>
    obtain ⟨u, e, ru⟩ := r1.atI h
    exact ⟨_, ix_list, _, _, _, _, rfl, rfl, s.seq h1, e, k.same s ru⟩
  · cases ry
    cases rx with | tup h1 r1 =>
    obtain ⟨u, e, ru⟩ := r1.atI h
    exact ⟨_, ix_tup, _, _, _, _, rfl, rfl, SqT.of (s _ _ h1), e, k.same s ru⟩
  · split at h
    · rename_i x i hl
      cases ry
      cases rx
      cases e : L2.atI x.cps.toList i with
      | none => rw [e] at h; cases h
      | some c =>
        rw [e] at h
        cases h
        exact ⟨_, ix_str, _, _, _, rfl, rfl, by rw [← sz]; exact hl, e, k.same s (.str _)⟩
    · cases h
  · exact absurd rfl (hnd _)
  · cases h
theorem de_ix (hu : X.A.units + 65 < cLine) {a b : Expr} {x y z : D} {pos : Pos} (ha : DE X F a ρ x) (hb : DE X F b ρ y) (h : ixD x y = some z) (hp : PlainIx b) : DE X F (.Subscript a b pos) ρ z := by
  intro σ H H0 Q env k
  by_cases hd : ∃ kvs, x = .dict kvs
  · obtain ⟨kvs, rfl⟩ := hd
    refine tOf_of (pe_dget (by omega) pe_of pe_of hp) ?_
    refine ha σ H H0 _ env fun v H1 H01 p1 r1 => ?_
    refine hb σ H1 H01 _ (env.post p1) fun w H2 H02 p2 r2 => ?_
    have h' : (lookS kvs y).bind id = some z := by
      rw [← h]
      cases y <;> rfl
    cases hl : lookS kvs y with
    | none => rw [hl] at h'; cases h'
    | some o =>
      rw [hl] at h'
      have ho : o = some z := h'
      subst ho
      obtain ⟨a', rfl⟩ : ∃ a, v = V.ref a := by cases r1 <;> exact ⟨_, rfl⟩
      obtain ⟨ov, g, an⟩ := look_sound (r1.mono p2.a) r2 p2.c hl
      rcases an with ⟨_, e⟩ | ⟨u, d, rfl, e, ru⟩
      · cases e
      · cases e
        exact ⟨a', u, rfl, g, k _ _ _ (p1.trans p2) ru⟩
  · refine tOf_of (pe_ix ix_any pe_of pe_of hp) ?_
    refine ha σ H H0 _ env fun v H1 H01 p1 r1 => ?_
    refine hb σ H1 H01 _ (env.post p1) fun w H2 H02 p2 r2 => ?_
    exact ixR h (fun kvs e => hd ⟨kvs, e⟩) (k.after (p1.trans p2)) p2.c (r1.mono p2.a) r2
/-- a part of a slice -/
def DO (X : Cx) (F : Fx) (x : Option Expr) (ρ : Env) (o : Option Int) : Prop := ∃ t, PO X x t ∧ ∀ (σ : L2.St) (H H0 : Hp) (Q : Option Int → Hp → Prop), EnvOk X.K F H0 H σ ρ → (∀ H' H0', Post H0 H H0' H' → Q o H') → t σ H Q
theorem do_none : DO X F none ρ none := ⟨_, po_none, fun σ H H0 Q env k => k H H0 (Post.refl env.s)⟩
theorem do_some {e : Expr} {i : Int} (h : DE X F e ρ (.int i)) : DO X F (some e) ρ (some i) := ⟨_, po_some pe_of, fun σ H H0 Q env k => h σ H H0 _ env fun v H1 H01 p1 r1 => by
  cases r1
  exact ⟨i, rfl, k _ _ p1⟩⟩
theorem de_sl {a : Expr} {lo hi : Option Expr} {x z : D} {l h : Option Int} {p2 pos : Pos} (ha : DE X F a ρ x) (hl : DO X F lo ρ l) (hh : DO X F hi ρ h) (hz : slD x l h = some z) : DE X F (.Subscript a (.Slice lo hi none p2) pos) ρ z := by
  intro σ H H0 Q env k
  obtain ⟨tl, pl, ql⟩ := hl
  obtain ⟨th, ph, qh⟩ := hh
  refine tOf_of (pe_slice sl_any pe_of pl ph) ?_
  refine ha σ H H0 _ env fun v H1 H01 p1 r1 => ?_
  refine ql σ H1 H01 _ (env.post p1) fun H2 H02 p2 => ?_
  refine qh σ H2 H02 _ ((env.post p1).post p2) fun H3 H03 p3 => ?_
  have pp := (p1.trans p2).trans p3
  have r := r1.mono (p2.a.trans p3.a)
  have cut : ∀ {K : PySem.W.Frag} {H : Hp} {vs : List V} {ds : List D}, RDL K H vs ds → RDL K H (cutV vs l h) (cutD ds l h) := fun r => by
    unfold cutV cutD
    rw [r.length]
    exact (r.drop _).take _
  unfold slD at hz
  split at hz
  · cases hz
    cases r with | lst g r =>
    exact ⟨_, sl_list, _, _, rfl, p3.c.seq g, fun p np => (k.after pp).lst p3.c np (cut r)⟩
  · cases hz
    cases r with | tup g r =>
    refine ⟨_, sl_tupA, _, _, rfl, SqT.of (p3.c _ _ g), fun hw => ?_, fun _ p np => (k.after pp).tup p3.c np (cut r)⟩
    refine (k.after pp).same p3.c (.tup g ?_)
    have q := cut r
    unfold cutV at q
    rw [hw.1, hw.2] at q
    simpa using q
  · cases hz
end
end OL

end
section
set_option Elab.async false
set_option linter.all false
set_option maxRecDepth 100000
set_option maxHeartbeats 4000000
namespace OL
open PySem PySem.Spec PyProof.Rows L2

def notStar : Expr → Bool
  | .Starred .. => false
  | _ => true
theorem star_cons {e : Expr} {es : List Expr} {env : PySem.Env} (h : notStar e = true) : starEach (e :: es) env = (false, eval e env) :: starEach es env := by
  cases e <;> first | rfl | simp [notStar] at h
theorem star_any {pos : Pos} {env : PySem.Env} : ∀ {es : List Expr}, es.all notStar = true → (backTo pos (starEach es env)).any (·.1) = false
  | [], _ => rfl
  | e :: es, h => by
    simp only [List.all_cons, Bool.and_eq_true] at h
    rw [star_cons h.1]
    have ih := star_any (pos := pos) (env := env) h.2
    simpa [backTo] using ih

section
variable {X : Cx} {F : Fx} {ρ : Env}
/-! ### built-in functions -/
def bltn : List Str := ["len", "sum", "max", "min", "all", "any", "sorted", "list", "tuple", "isinstance", "range", "set", "zip", "enumerate", "str", "int", "bool", "ValueError"]
theorem bools_is : ∀ {xs : List D} {is : List Bool}, bools? xs = some is → xs = is.map PyData.bool
  | [], is, h => by cases h; rfl
  | .bool i :: r, is, h => by
    unfold bools? at h
    cases h2 : bools? r with
    | none => rw [h2] at h; cases h
    | some b => rw [h2] at h; cases h; rw [bools_is h2]; rfl
  | .none :: r, is, h => by cases h
  | .int _ :: r, is, h => by cases h
  | .str _ :: r, is, h => by cases h
  | .list _ :: r, is, h => by cases h
  | .tuple _ :: r, is, h => by cases h
  | .dict _ :: r, is, h => by cases h
theorem RDL.one {K : PySem.W.Frag} {H : Hp} {vs : List V} {d : D} (r : RDL K H vs [d]) : ∃ v, vs = [v] ∧ RD K H v d := by
  cases r with | cons h t => cases t; exact ⟨_, rfl, h⟩
theorem RDL.two {K : PySem.W.Frag} {H : Hp} {vs : List V} {d e : D} (r : RDL K H vs [d, e]) : ∃ v w, vs = [v, w] ∧ RD K H v d ∧ RD K H w e := by
  cases r with | cons h t => cases t with | cons h2 t => cases t; exact ⟨_, _, rfl, h, h2⟩
/-- max of a tuple of ints -/
def rMaxT : List V → Hp → VK → Prop := fun vs H Q => ∃ (a : Addr) (n : Int) (ns : List Int), vs = [V.ref a] ∧ H a = some (.tup ((n :: ns).map V.int)) ∧ Q (.int (ns.foldl max n)) H
theorem readsInts {h : Heap} : ∀ {us : List Value} {ns : List Int}, IntsAre us ns → ∃ as, ReadsAll h us (ns.map PyData.int) as
  | _, _, .nil => ⟨[], .nil⟩
  | _, _, .cons n t r => by
    obtain ⟨as, q⟩ := readsInts (h := h) r
    exact ⟨[] ++ as, .cons (.int n t) q⟩
theorem depthAll_ints (ns : List Int) : PyData.depthAll (ns.map PyData.int) = 0 := PySem.W.depth_ints ns
theorem alike_ints (ns : List Int) : PySem.W.AlikeAll (ns.map PyData.int) := by
  refine ⟨fun x hx y hy => ?_, fun x hx => ?_⟩
  · obtain ⟨i, _, rfl⟩ := List.mem_map.mp hx
    obtain ⟨j, _, rfl⟩ := List.mem_map.mp hy
    simp [PySem.W.alike]
  · obtain ⟨i, _, rfl⟩ := List.mem_map.mp hx
    simp
theorem cr_maxT (hu : X.A.units + 65 < cLine) (hc : X.calm = true) : CallR X (.builtin "max") rMaxT := by
  intro pins s σ H vs us Q I r h
  obtain ⟨a, n, ns, rfl, ha, q⟩ := h
  rw [Vals.ref1 r]
  obtain ⟨its, rv, ht, hz⟩ := I.tuple (SqT.of (K := X.K) ha)
  have hi : IntsAre its (n :: ns) := intsAre_of rv
  obtain ⟨as, hr⟩ := readsInts (h := s.heap) hi
  refine PySem.W.max_tuple_data (I.ok.hd hc) (l := a) (vs := its.toArray) (x := .int n) (xs := ns.map PyData.int) (as := as) ht ?_ ?_ ?_ fun i v h' tk bs hv hrd kp => ?_
  · simpa using hr
  · exact alike_ints (n :: ns)
  · have e : PyData.depthAll (PyData.int n :: ns.map PyData.int) = 0 := depthAll_ints (n :: ns)
    rw [e]; omega
  · rw [PySem.W.maxD_ints] at hrd
    cases hrd
    exact ⟨.int _, H, I.kept (t' := tk) kp, ⟨_, rfl⟩, q⟩
/-- sorted of data -/
def rSortedD (K : PySem.W.Frag) : List V → Hp → VK → Prop := fun vs H Q => ∃ (H0 : Hp) (a : Addr) (xs : List V) (ds : List D), vs = [V.ref a] ∧ Same H0 H ∧ SqL K H a xs ∧ RDL K H0 xs ds ∧ sortOk ds = true ∧
  ∀ p ys, H p = none → RDL K H0 ys (sortD ds) → Q (.ref p) (upd H p (.lst ys))
theorem each_of {K : PySem.W.Frag} {H0 H : Hp} : ∀ {xs : List V} {us : List Value} {ds : List D}, RDL K H0 xs ds → Vals xs us → PySem.W.EachIs (fun u d => ∃ x, RelV x u ∧ RD K H0 x d) us ds
  | _, _, _, .nil, .nil => .nil
  | _, _, _, .cons h t, .cons r q => .cons ⟨_, r, h⟩ (each_of (H := H) t q)
theorem of_each {K : PySem.W.Frag} {H0 : Hp} : ∀ {us : List Value} {ds : List D}, PySem.W.EachIs (fun u d => ∃ x, RelV x u ∧ RD K H0 x d) us ds → ∃ xs, Vals xs us ∧ RDL K H0 xs ds
  | _, _, .nil => ⟨[], .nil, .nil⟩
  | _, _, .cons ⟨x, r, h⟩ t => by
    obtain ⟨xs, a, b⟩ := of_each t
    exact ⟨x :: xs, .cons r a, .cons h b⟩
theorem plain_alike {d e : D} (h : PySem.W.alike d e = true) : plain d = true ∨ True := .inr trivial
mutual
theorem plain_of_alike : ∀ (d : D), PySem.W.alike d d = true → plain d = true
  | .none, _ => by simp [plain]
  | .bool _, _ => by simp [plain]
  | .int _, _ => by simp [plain]
  | .str _, _ => by simp [plain]
  | .list xs, h => by
    simp only [plain]
    exact plainAll_of_alike xs (by simpa [PySem.W.alike] using h)
  | .tuple xs, h => by
    simp only [plain]
    exact plainAll_of_alike xs (by simpa [PySem.W.alike] using h)
  | .dict _, h => by simp [PySem.W.alike] at h
theorem plainAll_of_alike : ∀ (d : List D), PySem.W.alikeAll d d = true → plainAll d = true
  | [], _ => by simp [plainAll]
  | x :: xs, h => by
    simp only [PySem.W.alikeAll, Bool.and_eq_true] at h
    simp [plainAll, plain_of_alike x h.1, plainAll_of_alike xs h.2]
end
theorem cr_sortedD (hu : X.A.units + 70 < cLine) : CallR X (.builtin "sorted") (rSortedD X.K) := by
  intro pins s σ H vs us Q I r h
  obtain ⟨H0, a, xs, ds, rfl, hs, ha, hd, hok, q⟩ := h
  rw [Vals.ref1 r]
  obtain ⟨its, rv, hl, hz⟩ := I.list ha
  unfold sortOk at hok
  simp only [Bool.and_eq_true, Bool.or_eq_true, List.all_eq_true, decide_eq_true_eq] at hok
  obtain ⟨⟨h1, h2⟩, h3⟩ := hok
  have er : PySem.W.EachIs (fun v (b : D) => ∃ as, Reads s.heap v b as) its ds := by
    have all : ∀ {xs : List V} {us : List Value} {ds : List D}, (∀ d ∈ ds, PySem.W.alike d d = true) → RDL X.K H0 xs ds → Vals xs us → PySem.W.EachIs (fun v (b : D) => ∃ as, Reads s.heap v b as) us ds := by
      intro xs us ds
      induction ds generalizing xs us with
      | nil => intro _ r v; cases r; cases v; exact .nil
      | cons d ds ih =>
        intro hp r v
        cases r with | cons h t => cases v with | cons v1 v2 =>
        refine .cons (Dp.reads I d _ _ ((h.mono hs).dp (plain_of_alike d (hp d (by simp)))) v1) (ih (fun d hd => hp d (by simp [hd])) t v2)
    exact all (fun d hd => h1 d hd d hd) hd rv
  have hlen : ds.length ≤ sizeLine := by rw [← hd.length]; exact hz
  refine PySem.W.sorted_data (bs := ds) (enc := fun d => d) (R := fun u d => ∃ x, RelV x u ∧ RD X.K H0 x d) hl.isList (each_of (H := H) hd rv) er ?_ ?_ hlen ?_ fun out ho he => ?_
  · intro d hd d' hd'
    rw [List.map_id'] at hd hd'
    exact h1 d hd d' hd'
  · rw [List.map_id']
    rcases h3 with h3 | h3
    · refine .inl fun d hd => ?_
      have q := h3 d hd
      split at q
      · exact ⟨_, _, rfl⟩
      · cases q
    · refine .inr fun d hd => ?_
      have q := h3 d hd
      refine ⟨fun e => ?_, fun xs e => ?_⟩
      · subst e; cases q
      · subst e; cases q
  · intro b hb
    have := h2 b hb
    omega
  · obtain ⟨ys, v1, v2⟩ := of_each he
    obtain ⟨ep, he'⟩ := PyProof.Rows.sortedAll_at s.heap its out.toArray
    have hl2 : ys.length ≤ sizeLine := by
      rw [v1.length, ho]; exact hlen
    exact ⟨.ref _, upd H (s.heap.objs.size + 1) (.lst ys), I.laid (t' := s.toks) (fun _ _ => PyProof.Rows.sortedAll_old) (Nat.le_succ _) ⟨hl2, out, ep, v1, he'⟩, rfl, q _ _ (I.hok.fresh (Nat.le_succ _)) v2⟩

theorem maxL_mem : ∀ {ns : List Int} {m : Int}, maxL ns = some m → ∀ m', m' ∈ ns → (∀ y ∈ ns, y ≤ m') → m' = m
  | n :: ns, m, h, m', hm, hle => by
    cases h
    have key : ∀ (ns : List Int) (a : Int), a ≤ ns.foldl max a ∧ (∀ y ∈ ns, y ≤ ns.foldl max a) ∧ (ns.foldl max a = a ∨ ns.foldl max a ∈ ns) := by
      intro ns
      induction ns with
      | nil => intro a; simp
      | cons x r ih =>
        intro a
        obtain ⟨h1, h2, h3⟩ := ih (max a x)
        simp only [List.foldl_cons, List.mem_cons]
        refine ⟨by omega, fun y hy => ?_, ?_⟩
        · rcases hy with rfl | hy
          · omega
          · exact h2 y hy
        · rcases h3 with h3 | h3
          · rw [h3]
            rcases Int.le_total a x with h | h
            · right; left; omega
            · left; omega
          · right; right; exact h3
    obtain ⟨h1, h2, h3⟩ := key ns n
    have b1 : m' ≤ ns.foldl max n := by
      rcases List.mem_cons.mp hm with rfl | hm
      · exact h1
      · exact h2 m' hm
    have b2 : ns.foldl max n ≤ m' := by
      rcases h3 with h3 | h3
      · rw [h3]; exact hle n (by simp)
      · exact hle _ (by simp [h3])
    omega
theorem minL_mem : ∀ {ns : List Int} {m : Int}, minL ns = some m → ∀ m', m' ∈ ns → (∀ y ∈ ns, m' ≤ y) → m' = m
  | n :: ns, m, h, m', hm, hle => by
    cases h
    have key : ∀ (ns : List Int) (a : Int), ns.foldl min a ≤ a ∧ (∀ y ∈ ns, ns.foldl min a ≤ y) ∧ (ns.foldl min a = a ∨ ns.foldl min a ∈ ns) := by
      intro ns
      induction ns with
      | nil => intro a; simp
      | cons x r ih =>
        intro a
        obtain ⟨h1, h2, h3⟩ := ih (min a x)
        simp only [List.foldl_cons, List.mem_cons]
        refine ⟨by omega, fun y hy => ?_, ?_⟩
        · rcases hy with rfl | hy
          · omega
          · exact h2 y hy
        · rcases h3 with h3 | h3
          · rw [h3]
            rcases Int.le_total a x with h | h
            · left; omega
            · right; left; omega
          · right; right; exact h3
    obtain ⟨h1, h2, h3⟩ := key ns n
    have b1 : ns.foldl min n ≤ m' := by
      rcases List.mem_cons.mp hm with rfl | hm
      · exact h1
      · exact h2 m' hm
    have b2 : m' ≤ ns.foldl min n := by
      rcases h3 with h3 | h3
      · rw [h3]; exact hle n (by simp)
      · exact hle _ (by simp [h3])
    omega
def tyN : D → String
  | .none => "NoneType"
  | .bool _ => "bool"
  | .int _ => "int"
  | .str _ => "str"
  | .list _ => "list"
  | .tuple _ => "tuple"
  | .dict _ => "dict"
theorem RD.tyX {K : PySem.W.Frag} {H0 H : Hp} {v : V} {d : D} (s : Same H0 H) (r : RD K H0 v d) (hd : isDictD d = false) : TyX K H v (.type (tyN d)) := by
  cases r with
  | non => exact .base .non
  | bl b => exact .base (.bl b)
  | int i => exact .base (.int i)
  | str i => exact .base (.str i)
  | lst h t =>
    rcases h with (h | ⟨o, h⟩) | ⟨o, its, n, h1, h2, h3, h4⟩
    · exact .base (.lst (s _ _ h))
    · exact .base (.frz (s _ _ h))
    · exact .kList h1 h2
  | tup h t => exact .base (.tup (s _ _ h))
  | dT h t => cases hd
  | dK h t => cases hd
  | clo f => cases hd
theorem kit_int : ∀ (d : D), isDictD d = false → kitB (tyN d) "int" = some (isIntD d)
  | .none, _ => by show kitB "NoneType" "int" = some false; decide +kernel
  | .bool _, _ => by show kitB "bool" "int" = some true; decide +kernel
  | .int _, _ => by show kitB "int" "int" = some true; decide +kernel
  | .str _, _ => by show kitB "str" "int" = some false; decide +kernel
  | .list _, _ => by show kitB "list" "int" = some false; decide +kernel
  | .tuple _, _ => by show kitB "tuple" "int" = some false; decide +kernel
theorem kit_bool : ∀ (d : D), isDictD d = false → kitB (tyN d) "bool" = some (isBoolD d)
  | .none, _ => by show kitB "NoneType" "bool" = some false; decide +kernel
  | .bool _, _ => by show kitB "bool" "bool" = some true; decide +kernel
  | .int _, _ => by show kitB "int" "bool" = some false; decide +kernel
  | .str _, _ => by show kitB "str" "bool" = some false; decide +kernel
  | .list _, _ => by show kitB "list" "bool" = some false; decide +kernel
  | .tuple _, _ => by show kitB "tuple" "bool" = some false; decide +kernel
theorem kit_str : ∀ (d : D), isDictD d = false → kitB (tyN d) "str" = some (isStrD d)
  | .none, _ => by show kitB "NoneType" "str" = some false; decide +kernel
  | .bool _, _ => by show kitB "bool" "str" = some false; decide +kernel
  | .int _, _ => by show kitB "int" "str" = some false; decide +kernel
  | .str _, _ => by show kitB "str" "str" = some true; decide +kernel
  | .list _, _ => by show kitB "list" "str" = some false; decide +kernel
  | .tuple _, _ => by show kitB "tuple" "str" = some false; decide +kernel
theorem kit_tup : ∀ (d : D), isDictD d = false → kitB (tyN d) "tuple" = some (isTupD d)
  | .none, _ => by show kitB "NoneType" "tuple" = some false; decide +kernel
  | .bool _, _ => by show kitB "bool" "tuple" = some false; decide +kernel
  | .int _, _ => by show kitB "int" "tuple" = some false; decide +kernel
  | .str _, _ => by show kitB "str" "tuple" = some false; decide +kernel
  | .list _, _ => by show kitB "list" "tuple" = some false; decide +kernel
  | .tuple _, _ => by show kitB "tuple" "tuple" = some true; decide +kernel
theorem isiR {H0 H : Hp} {Q : VK} {ty : String} {d : D} {b : Bool} (h : isTy ty d = some b) (s : Same H0 H) {v : V} (r : RD X.K H0 v d) (q : Q (.bl b) H) : callAnyR X (.builtin "isinstance") [v, .ty ty] H Q := by
  unfold isTy at h
  split at h
  · cases h
  · rename_i hd
    have hd' : isDictD d = false := by simpa using hd
    have hT := r.tyX s hd'
    have go : kitB (tyN d) ty = some b → callAnyR X (.builtin "isinstance") [v, .ty ty] H Q := fun e => ⟨_, call_isi, v, .ty ty, _, .type ty, b, rfl, .ty ty, hT, kit_ty e, q⟩
    apply go
    split at h
    · rename_i e; subst e; cases h; exact kit_int d hd'
    · split at h
      · rename_i e; subst e; cases h; exact kit_bool d hd'
      · split at h
        · rename_i e; subst e; cases h; exact kit_str d hd'
        · split at h
          · rename_i e; subst e; cases h; exact kit_tup d hd'
          · cases h
/-! ### sorted(d), list(d) -/
theorem keyInts_is : ∀ {kvs : List (D × D)} {is : List Int}, keyInts kvs = some is → kvs.map (·.1) = is.map PyData.int
  | [], is, h => by cases h; rfl
  | (.int i, v) :: r, is, h => by
    unfold keyInts at h
    cases h2 : keyInts r with
    | none => rw [h2] at h; cases h
    | some b => rw [h2] at h; cases h; simp [keyInts_is h2]
  | (.none, _) :: r, is, h => by cases h
  | (.bool _, _) :: r, is, h => by cases h
  | (.str _, _) :: r, is, h => by cases h
  | (.list _, _) :: r, is, h => by cases h
  | (.tuple _, _) :: r, is, h => by cases h
  | (.dict _, _) :: r, is, h => by cases h
theorem rdk_keys {K : PySem.W.Frag} {H : Hp} : ∀ {kvs : List (Key × V)} {ds : List (D × D)}, RDK K H kvs ds → ds.map (·.1) = kvs.map fun kv => keyD kv.1
  | _, _, .nil => rfl
  | _, _, .cons h t => by simp [rdk_keys t]
theorem rd_intKeys {K : PySem.W.Frag} {H : Hp} {v : V} {kvs : List (D × D)} {is : List Int} (r : RD K H v (.dict kvs)) (hne : kvs ≠ []) (h : keyInts kvs = some is) : ∃ a o vs, v = .ref a ∧ H a = some (.frz o (.dK vs)) ∧ vs.map (·.1) = is.map Sum.inl := by
  cases r with
  | dT g r =>
    cases r with
    | nil => exact absurd rfl hne
    | cons h1 t =>
      have e := keyInts_is h
      cases is with
      | nil => cases e
      | cons i is => simp [keyT] at e
  | clo f => cases h
  | @dK a o vs _ g r =>
    refine ⟨a, o, vs, rfl, g, ?_⟩
    have e := (rdk_keys r).symm.trans (keyInts_is h)
    clear g hne h
    induction vs generalizing is kvs with
    | nil => cases is with
      | nil => rfl
      | cons _ _ => cases e
    | cons x vs ih =>
      cases is with
      | nil => cases e
      | cons i is =>
        simp only [List.map_cons, List.cons.injEq] at e ⊢
        cases r with | @cons k v _ _ _ h1 t =>
        refine ⟨?_, ih t e.2⟩
        cases k with
        | inl j => have := e.1; simp [keyD] at this; simp [this]
        | inr j => have := e.1; simp [keyD] at this
theorem sortI_perm (l : List Int) : (sortI l).Perm l := List.mergeSort_perm _ _
theorem sortI_le (l : List Int) : (sortI l).Pairwise (· ≤ ·) := by
  have h := List.pairwise_mergeSort (le := fun a b : Int => decide (a ≤ b)) (fun a b c h1 h2 => by simp at *; omega) (fun a b => by simp; omega) l
  exact h.imp fun h => by simpa using h
theorem sortI_eq {l m : List Int} (h1 : m.Perm l) (h2 : m.Pairwise (· ≤ ·)) : m = sortI l :=
  List.Perm.eq_of_pairwise (le := (· ≤ ·)) (fun a b _ _ h1 h2 => by omega) h2 (sortI_le l) (h1.trans (sortI_perm l).symm)
theorem sortedDR (hc : X.calm = true) {H0 H : Hp} {Q : VK} {v : V} {kvs : List (D × D)} {is : List Int} (s : Same H0 H) (r : RD X.K H0 v (.dict kvs)) (hne : kvs ≠ []) (h : keyInts kvs = some is) (hl : is.length < 64) (k : KE X H0 H (.list ((sortI is).map PyData.int)) Q) : callAnyR X (.builtin "sorted") [v] H Q := by
  obtain ⟨a, o, vs, rfl, g, e⟩ := rd_intKeys r hne h
  refine ⟨_, call_sortedDI hc, a, vs, is, rfl, .inr ⟨o, s _ _ g⟩, e, hl, fun ys p hp hw np => ?_⟩
  rw [sortI_eq hp hw]
  exact k.lst s np (RDL.ints _)
theorem listDR (hc : X.calm = true) {H0 H : Hp} {Q : VK} {v : V} {kvs : List (D × D)} {is : List Int} (s : Same H0 H) (r : RD X.K H0 v (.dict kvs)) (hne : kvs ≠ []) (h : keyInts kvs = some is) (k : KE X H0 H (.list (is.map PyData.int)) Q) : callAnyR X (.type "list") [v] H Q := by
  obtain ⟨a, o, vs, rfl, g, e⟩ := rd_intKeys r hne h
  refine ⟨_, call_listD hc, a, vs, rfl, .inr ⟨o, s _ _ g⟩, fun p np => ?_⟩
  have e2 : (vs.map fun kv => kV kv.1) = is.map V.int := by
    have e3 : (vs.map fun kv => kV kv.1) = (vs.map (·.1)).map kV := by rw [List.map_map]; rfl
    rw [e3, e, List.map_map]; rfl
  rw [e2]
  exact k.lst s np (RDL.ints _)
end
end OL

end
section
set_option Elab.async false
set_option linter.all false
set_option maxRecDepth 100000
set_option maxHeartbeats 8000000
namespace OL
open PySem PySem.Spec PyProof.Rows L2 RZ
/-! ### sorted([()]) -/
/-- one value alone is in order -/
def oneKind (u : Value) : PyProof.Rows.KeyKind where
  α := Unit
  blt := fun _ _ => false
  irrefl := fun _ => rfl
  trans := fun _ _ _ h => by cases h
  negTrans := fun _ _ _ h => by cases h
  total := fun _ _ _ _ => rfl
  keyOf v := open Classical in if v = u then some () else none
  dflt := ()
theorem sorts_one {prog : Program} {w : World} {A : Around} {s : Shared} {t : Addr} (ht : IsTup s.heap t #[]) (hu : A.units < cLine) : PySem.W.SortsAt prog w A s (oneKind (.ref t)) [.ref t] := by
  refine ⟨fun v hv => ⟨(), ?_⟩, general', fun E x y a b Q hx hy q => ?_, fun h => absurd h (by simp)⟩
  · simp at hv
    subst hv
    simp [oneKind]
  · have ex : x = .ref t := by
      by_cases e : x = .ref t
      · exact e
      · simp [oneKind, e] at hx
    have ey : y = .ref t := by
      by_cases e : y = .ref t
      · exact e
      · simp [oneKind, e] at hy
    subst ex ey
    show wpAny _ _ (oneLt' false (.ref t) (.ref t)) _ _ _
    exact PySem.W.kat_one _ _ (HT.lt_tupInts (ns := []) (ms := []) ht ht .nil .nil hu q)
theorem sortVals_one (κ : PyProof.Rows.KeyKind) (v : Value) : PySem.W.sortVals κ false [v] [v] = [v] := by
  unfold PySem.W.sortVals
  simp
section
variable {X : Cx}
def rSort1 (K : PySem.W.Frag) : List V → Hp → VK → Prop := fun vs H Q => ∃ (a t : Addr), vs = [V.ref a] ∧ SqL K H a [V.ref t] ∧ H t = some (.tup []) ∧ ∀ p, H p = none → Q (.ref p) (upd H p (.lst [V.ref t]))
theorem cr_sort1 (hu : X.A.units + 70 < cLine) : CallR X (.builtin "sorted") (rSort1 X.K) := by
  intro pins s σ H vs us Q I r h
  obtain ⟨a, t, rfl, ha, ht, q⟩ := h
  rw [Vals.ref1 r]
  obtain ⟨its, rv, hl, hz⟩ := I.list ha
  cases rv with | cons r1 r2 =>
  cases r2
  cases r1
  obtain ⟨tits, tv, htup, _⟩ := I.tuple (SqT.of (K := X.K) ht)
  cases tv
  have hI : IsTup (PySem.W.sortingHeap (PySem.W.copyHeap s.heap [Value.ref t]) (s.heap.objs.size + 1) [Value.ref t]) t #[] := by
    obtain ⟨o, ho, rest⟩ := htup
    exact ⟨o, PySem.W.sorting_copy_old ho, rest⟩
  refine PySem.W.sorted_vals (κ := oneKind (.ref t)) hl.isList (sorts_one (s := { s with heap := PySem.W.sortingHeap (PySem.W.copyHeap s.heap [Value.ref t]) (s.heap.objs.size + 1) [Value.ref t] }) hI (by show X.A.in1.in1.units < cLine; simp; omega)) (by show 1 ≤ sizeLine; decide) ?_
  rw [sortVals_one]
  obtain ⟨ep, he'⟩ := PyProof.Rows.sortedAll_at s.heap [Value.ref t] [Value.ref t].toArray
  exact ⟨.ref _, upd H (s.heap.objs.size + 1) (.lst [V.ref t]), I.laid (t' := s.toks) (fun _ _ => PyProof.Rows.sortedAll_old) (Nat.le_succ _) ⟨by show 1 ≤ sizeLine; decide, _, ep, .cons rfl .nil, he'⟩, rfl, q _ (I.hok.fresh (Nat.le_succ _))⟩
theorem isE1_is {xs : List D} (h : isE1 xs = true) : xs = [.tuple []] := by
  unfold isE1 at h
  split at h
  · rfl
  · cases h
theorem sort1R (hu : X.A.units + 70 < cLine) {H0 H : Hp} {Q : VK} {v : V} (s : Same H0 H) (r : RD X.K H0 v (.list [.tuple []])) (k : KE X H0 H (.list [.tuple []]) Q) : callAnyR X (.builtin "sorted") [v] H Q := by
  cases r with | lst g r1 =>
  cases r1 with | cons h t =>
  cases t
  cases h with | tup g2 r2 =>
  cases r2
  exact ⟨_, cr_sort1 hu, _, _, rfl, s.seq g, s _ _ g2, fun p np => k.lst s np (.cons (.tup g2 .nil) .nil)⟩
end
end OL

end
section
set_option Elab.async false
set_option linter.all false
set_option maxRecDepth 100000
set_option maxHeartbeats 4000000
namespace OL
open PySem PySem.Spec PyProof.Rows L2

/-- the promise of a def that is worth G -/
def spD (K : PySem.W.Frag) (mg : Str → Option Value) (G : Fn) : Sp := fun vs H Q E => ∃ (H0 : Hp) (ds : List D), Same H0 H ∧ RDL K H0 vs ds ∧ match G ds with
  | some (.ok d) => ∀ (v : V) (H' H0' : Hp), Post H0 H H0' H' → RD K H0' v d → Q v H'
  | some (.error x) => ∀ (C : Addr) (H' H0' : Hp), mg x = some (.ref C) → Post H0 H H0' H' → E (.ref C) none H'
  | none => False
def FOk (X : Cx) (f : Str) (G : Fn) : Prop := ∃ (a : Addr) (fd : FuncData) (ps : List Str) (k : Nat), FnOk X.prog X.w X.K X.mg X.base (L2.CX X.prog X.w) k a fd ps (spD X.K X.mg G) ∧ Room k X.A ∧ X.mg f = some (.ref a) ∧ PySem.W.keepIn X.K (.ref a) = true ∧ Binds X.K fd ps []
structure Ctx (X : Cx) (N : List Str) (sc : Scope) (fs : Str → Bool) (cs : List (Str × Key)) (Φ : Tab) : Prop where
  hfs : X.fn = fs
  hN : X.N = N
  nd : N.Nodup
  hsc : X.env.scope = sc
  calm : X.calm = true
  blt : ∀ x ∈ bltn, X.mg x = none
  con : ∀ p ∈ cs, ∃ u, X.mg p.1 = some u ∧ RelV (kV p.2) u
  room : X.A.units + 70 < cLine
  fns : ∀ f G, Φ f = some G → FOk X f G

section
variable {X : Cx} {F : Fx} {ρ : Env} {N : List Str} {sc : Scope} {fs : Str → Bool} {cs : List (Str × Key)} {Φ : Tab}
theorem callB (h0 : ∀ x ∈ bltn, X.mg x = none) {f : Str} (hf : f ∈ bltn) {id : String} (hv : bootBuiltins f = some (.builtin id)) (hg : Gl X f) {e : Expr} {es : List Expr} {ds : List D} {z : D} {p pos : Pos} (ha : DA X F (e :: es) ρ ds) (hs : (e :: es).all notStar = true)
    (h : ∀ (H H0 : Hp) (Q : VK) (vs : List V), Same H0 H → RDL X.K H0 vs ds → KE X H0 H z Q → callAnyR X (.builtin id) vs H Q) (hn : f ≠ "__name__") (hd : (f == ("__debug__" : Str)) = false) : DE X F (.Call (.Name f p) (e :: es) [] pos) ρ z := by
  intro σ H H0 Q env k
  simp only [List.all_cons, Bool.and_eq_true] at hs
  refine tOf_of (pe_callB call_any hg (h0 f hf) hv pa_of hn hd (star_cons hs.1) (star_any hs.2)) ?_
  refine ha σ H H0 _ env fun vs H1 H01 p1 r1 => ?_
  exact h H1 H01 Q vs p1.c r1 (k.after p1)
theorem callTy (h0 : ∀ x ∈ bltn, X.mg x = none) {f : Str} (hf : f ∈ bltn) {id : String} (hv : bootBuiltins f = some (.type id)) (hg : Gl X f) {e : Expr} {es : List Expr} {ds : List D} {z : D} {p pos : Pos} (ha : DA X F (e :: es) ρ ds) (hs : (e :: es).all notStar = true)
    (h : ∀ (H H0 : Hp) (Q : VK) (vs : List V), Same H0 H → RDL X.K H0 vs ds → KE X H0 H z Q → callAnyR X (.type id) vs H Q) (hn : f ≠ "__name__") (hd : (f == ("__debug__" : Str)) = false) : DE X F (.Call (.Name f p) (e :: es) [] pos) ρ z := by
  intro σ H H0 Q env k
  simp only [List.all_cons, Bool.and_eq_true] at hs
  refine tOf_of (pe_callTy call_any hg (h0 f hf) hv pa_of hn hd (star_cons hs.1) (star_any hs.2)) ?_
  refine ha σ H H0 _ env fun vs H1 H01 p1 r1 => ?_
  exact h H1 H01 Q vs p1.c r1 (k.after p1)
theorem max_two (i j : Int) : (if j > i then j else i) = (if j > i then j else i) := rfl
theorem de_bi2 (C : Ctx X N sc fs cs Φ) {f : Str} {e : Expr} {es : List Expr} {ds : List D} {z : D} {p pos : Pos} (hg : Gl X f) (ha : DA X F (e :: es) ρ ds) (hs : (e :: es).all notStar = true) (h : biD2 f ds = some z) : DE X F (.Call (.Name f p) (e :: es) [] pos) ρ z := by
  unfold biD2 at h
  split at h
  · rename_i ef; subst ef
    refine callTy C.blt (by decide) PySem.Pv.boot_str hg ha hs (fun H H0 Q vs s r k => ?_) (by decide) (by decide)
    split at h
    · split at h
      · rename_i i hl
        cases h
        obtain ⟨v, rfl, r9⟩ := r.one
        cases r9
        refine ⟨_, call_str_int, i, rfl, ?_, k.same s (.str _)⟩
        by_cases hz : i.natAbs = 0
        · rw [hz]; decide
        · exact Nat.lt_of_lt_of_le ((Nat.log2_lt hz).mpr hl) (by decide)
      · cases h
    · cases h
  · split at h
    · rename_i ef; subst ef
      refine callTy C.blt (by decide) PySem.Pv.boot_int hg ha hs (fun H H0 Q vs s r k => ?_) (by decide) (by decide)
      split at h
      · split at h
        · rename_i a hl
          cases h1 : PySem.intText? a with
          | none => rw [h1] at h; cases h
          | some n =>
            rw [h1] at h
            cases h
            obtain ⟨v, rfl, r9⟩ := r.one
            cases r9
            exact ⟨_, call_int_str, a, n, rfl, h1, hl, k.same s (.int _)⟩
        · cases h
      · cases h
    · cases h
theorem de_bi (C : Ctx X N sc fs cs Φ) {f : Str} {e : Expr} {es : List Expr} {ds : List D} {z : D} {p pos : Pos} (hg : Gl X f) (ha : DA X F (e :: es) ρ ds) (hs : (e :: es).all notStar = true) (h : biD f ds = some z) : DE X F (.Call (.Name f p) (e :: es) [] pos) ρ z := by
  have hu := C.room
  have hc := C.calm
  unfold biD at h
  split at h
  · rename_i ef; subst ef
    refine callB C.blt (by decide) boot_len hg ha hs (fun H H0 Q vs s r k => ?_) (by decide) (by decide)
    split at h
    · cases h
      obtain ⟨v, rfl, r9⟩ := r.one
      cases r9 with | lst g r9 =>
      exact ⟨_, call_len_seq, _, _, rfl, .inl (s.seq g), by rw [r9.length]; exact k.same s (.int _)⟩
    · cases h
      obtain ⟨v, rfl, r9⟩ := r.one
      cases r9 with | tup g r9 =>
      exact ⟨_, call_len_seq, _, _, rfl, .inr (SqT.of (s _ _ g)), by rw [r9.length]; exact k.same s (.int _)⟩
    · split at h
      · rename_i hl
        cases h
        obtain ⟨v, rfl, r9⟩ := r.one
        cases r9
        exact ⟨_, call_len_str, _, rfl, by rw [← sz]; exact hl, k.same s (.int _)⟩
      · cases h
    · cases h
  · split at h
    · rename_i ef; subst ef
      refine callB C.blt (by decide) boot_sum hg ha hs (fun H H0 Q vs s r k => ?_) (by decide) (by decide)
      split at h
      · rename_i xs
        cases h1 : ltD.ints? xs with
        | none => rw [h1] at h; cases h
        | some is =>
          rw [h1] at h
          cases h
          rw [ints_is h1] at r
          obtain ⟨v, rfl, r9⟩ := r.one
          cases r9 with | lst g r9 =>
          rw [r9.ints'] at g
          exact ⟨_, cr_sum hc, _, _, rfl, s.seq g, k.same s (.int _)⟩
      · cases h
    · split at h
      · rename_i ef; subst ef
        refine callB C.blt (by decide) boot_max hg ha hs (fun H H0 Q vs s r k => ?_) (by decide) (by decide)
        split at h
        · rename_i xs
          cases h1 : ltD.ints? xs with
          | none => rw [h1] at h; cases h
          | some is =>
            rw [h1, Option.bind_some] at h
            cases h2 : maxL is with
            | none => rw [h2] at h; cases h
            | some m =>
              rw [h2] at h
              cases h
              rw [ints_is h1] at r
              obtain ⟨v, rfl, r9⟩ := r.one
              cases r9 with | lst g r9 =>
              rw [r9.ints'] at g
              refine ⟨_, cr_max hc, _, _, rfl, s.seq g, ?_, fun m' hm hle => ?_⟩
              · cases is with
                | nil => cases h2
                | cons a b => simp
              · rw [maxL_mem h2 m' hm hle]
                exact k.same s (.int _)
        · rename_i xs
          cases h1 : ltD.ints? xs with
          | none => rw [h1] at h; cases h
          | some is =>
            rw [h1] at h
            cases is with
            | nil => cases h
            | cons n ns =>
              cases h
              rw [ints_is h1] at r
              obtain ⟨v, rfl, r9⟩ := r.one
              cases r9 with | tup g r9 =>
              rw [r9.ints'] at g
              exact ⟨_, cr_maxT (by omega) hc, _, _, _, rfl, s _ _ g, k.same s (.int _)⟩
        · cases h
          obtain ⟨v, w, rfl, r1, r2⟩ := r.two
          cases r1
          cases r2
          exact ⟨_, call_max2 hc, _, _, rfl, k.same s (.int _)⟩
        · cases h
      · split at h
        · rename_i ef; subst ef
          refine callB C.blt (by decide) boot_min hg ha hs (fun H H0 Q vs s r k => ?_) (by decide) (by decide)
          split at h
          · rename_i xs
            cases h1 : ltD.ints? xs with
            | none => rw [h1] at h; cases h
            | some is =>
              rw [h1, Option.bind_some] at h
              cases h2 : minL is with
              | none => rw [h2] at h; cases h
              | some m =>
                rw [h2] at h
                cases h
                rw [ints_is h1] at r
                obtain ⟨v, rfl, r9⟩ := r.one
                cases r9 with | lst g r9 =>
                rw [r9.ints'] at g
                refine ⟨_, cr_min hc, _, _, rfl, s.seq g, ?_, fun m' hm hle => ?_⟩
                · cases is with
                  | nil => cases h2
                  | cons a b => simp
                · rw [minL_mem h2 m' hm hle]
                  exact k.same s (.int _)
          · cases h
        · split at h
          · rename_i ef; subst ef
            refine callB C.blt (by decide) boot_all hg ha hs (fun H H0 Q vs s r k => ?_) (by decide) (by decide)
            split at h
            · rename_i xs
              cases h1 : bools? xs with
              | none => rw [h1] at h; cases h
              | some is =>
                rw [h1] at h
                cases h
                rw [bools_is h1] at r
                obtain ⟨v, rfl, r9⟩ := r.one
                cases r9 with | lst g r9 =>
                rw [r9.bls'] at g
                exact ⟨_, cr_all hc, _, _, rfl, s.seq g, k.same s (.bl _)⟩
            · cases h
          · split at h
            · rename_i ef; subst ef
              refine callB C.blt (by decide) boot_any hg ha hs (fun H H0 Q vs s r k => ?_) (by decide) (by decide)
              split at h
              · rename_i xs
                cases h1 : bools? xs with
                | none => rw [h1] at h; cases h
                | some is =>
                  rw [h1] at h
                  cases h
                  rw [bools_is h1] at r
                  obtain ⟨v, rfl, r9⟩ := r.one
                  cases r9 with | lst g r9 =>
                  rw [r9.bls'] at g
                  exact ⟨_, cr_any hc, _, _, rfl, s.seq g, k.same s (.bl _)⟩
              · cases h
            · split at h
              · rename_i ef; subst ef
                refine callB C.blt (by decide) boot_sorted hg ha hs (fun H H0 Q vs s r k => ?_) (by decide) (by decide)
                split at h
                · split at h
                  · rename_i hok
                    cases h
                    obtain ⟨v, rfl, r9⟩ := r.one
                    cases r9 with | lst g r9 =>
                    exact ⟨_, cr_sortedD hu, H0, _, _, _, rfl, s, s.seq g, r9, hok, fun p ys np ry => k.lst s np ry⟩
                  · split at h
                    · rename_i h1
                      cases h
                      have e1 := isE1_is h1
                      subst e1
                      obtain ⟨v, rfl, r9⟩ := r.one
                      exact sort1R hu s r9 k
                    · cases h
                · rename_i kvs
                  split at h
                  · cases h
                  · rename_i hne
                    cases h1 : keyInts kvs with
                    | none => rw [h1] at h; cases h
                    | some is =>
                      rw [h1, Option.bind_some] at h
                      split at h
                      · rename_i hl
                        cases h
                        obtain ⟨v, rfl, r9⟩ := r.one
                        exact sortedDR hc s r9 hne h1 hl k
                      · cases h
                · cases h
              · split at h
                · rename_i ef; subst ef
                  refine callTy C.blt (by decide) PyProof.Rows.boot_list hg ha hs (fun H H0 Q vs s r k => ?_) (by decide) (by decide)
                  split at h
                  · cases h
                    obtain ⟨v, rfl, r9⟩ := r.one
                    cases r9 with | lst g r9 =>
                    exact ⟨_, call_list_of, _, _, rfl, .inl (s.seq g), fun p np => k.lst s np r9⟩
                  · cases h
                    obtain ⟨v, rfl, r9⟩ := r.one
                    cases r9 with | tup g r9 =>
                    exact ⟨_, call_list_of, _, _, rfl, .inr (SqT.of (s _ _ g)), fun p np => k.lst s np r9⟩
                  · rename_i kvs
                    split at h
                    · cases h
                    · rename_i hne
                      cases h1 : keyInts kvs with
                      | none => rw [h1] at h; cases h
                      | some is =>
                        rw [h1] at h
                        cases h
                        obtain ⟨v, rfl, r9⟩ := r.one
                        exact listDR hc s r9 hne h1 k
                  · rename_i x
                    split at h
                    · rename_i hl
                      cases h
                      obtain ⟨v, rfl, r9⟩ := r.one
                      cases r9
                      refine ⟨_, call_listS hc, _, rfl, hl, fun p np => k.lst s np ?_⟩
                      have q := RDL.strs (K := X.K) (H := H0) (x.cps.toList.map fun c => (⟨#[c]⟩ : Str))
                      rw [List.map_map, List.map_map] at q
                      exact q
                    · cases h
                  · cases h
                · split at h
                  · rename_i ef; subst ef
                    refine callTy C.blt (by decide) PyProof.Rows.boot_tuple hg ha hs (fun H H0 Q vs s r k => ?_) (by decide) (by decide)
                    split at h
                    · cases h
                      obtain ⟨v, rfl, r9⟩ := r.one
                      cases r9 with | lst g r9 =>
                      exact ⟨_, call_tuple_of, _, _, rfl, .inl ⟨s.seq g, fun p np => k.tup s np r9⟩⟩
                    · cases h
                      obtain ⟨v, rfl, r9⟩ := r.one
                      cases r9 with | tup g r9 =>
                      exact ⟨_, call_tuple_of, _, _, rfl, .inr ⟨SqT.of (s _ _ g), k.same s (.tup g r9)⟩⟩
                    · cases h
                  · exact de_bi2 C hg ha hs h
end
end OL

end
section
set_option Elab.async false
set_option linter.all false
set_option maxRecDepth 100000
set_option maxHeartbeats 4000000
namespace OL
open PySem PySem.Spec PyProof.Rows L2

section
variable {X : Cx} {F : Fx} {ρ : Env} {N : List Str} {sc : Scope} {fs : Str → Bool} {cs : List (Str × Key)} {Φ : Tab}
/-! ### isinstance -/
theorem isTy_in {ty : String} {d : D} {b : Bool} (h : isTy ty d = some b) : ty = "int" ∨ ty = "bool" ∨ ty = "str" ∨ ty = "tuple" := by
  unfold isTy at h
  split at h
  · cases h
  · split at h
    · exact .inl ‹_›
    · split at h
      · exact .inr (.inl ‹_›)
      · split at h
        · exact .inr (.inr (.inl ‹_›))
        · split at h
          · exact .inr (.inr (.inr ‹_›))
          · cases h
theorem de_isi (C : Ctx X N sc fs cs Φ) {a : Expr} {ty : String} {d : D} {b : Bool} {p p2 pos : Pos} (hg : Gl X "isinstance") (hg2 : Gl X (Str.ofString ty)) (ha : DE X F a ρ d) (hs : notStar a = true) (h : isTy ty d = some b) :
    DE X F (.Call (.Name "isinstance" p) [a, .Name (Str.ofString ty) p2] [] pos) ρ (.bool b) := by
  intro σ H H0 Q env k
  have hb : bootBuiltins (Str.ofString ty) = some (.type ty) ∧ X.mg (Str.ofString ty) = none ∧ (Str.ofString ty) ≠ "__name__" ∧ ((Str.ofString ty) == ("__debug__" : Str)) = false := by
    rcases isTy_in h with rfl | rfl | rfl | rfl
    · exact ⟨by decide +kernel, C.blt _ (by decide), by decide, by decide⟩
    · exact ⟨by decide +kernel, C.blt _ (by decide), by decide, by decide⟩
    · exact ⟨by decide +kernel, C.blt _ (by decide), by decide, by decide⟩
    · exact ⟨by decide +kernel, C.blt _ (by decide), by decide, by decide⟩
  refine tOf_of (pe_callB call_any hg (C.blt _ (by decide)) boot_isinstance (pa_cons pe_of (pa_cons (pe_bltn (v := .ty ty) hg2 hb.2.1 hb.1 rfl hb.2.2.1 hb.2.2.2) pa_nil rfl) (star_cons hs)) (by decide) (by decide) (star_cons hs) rfl) ?_
  refine ha σ H H0 _ env fun v H1 H01 p1 r1 => ?_
  exact isiR h p1.c r1 ((k.after p1).same p1.c (.bl b))
/-! ### list(range(n)) -/
theorem rdl_range {K : PySem.W.Frag} {H : Hp} (lo hi : Int) : RDL K H (rgV lo hi) (rgD lo hi) := by
  unfold rgV rgD
  generalize List.range (hi - lo).toNat = l
  induction l with
  | nil => exact .nil
  | cons a r ih => exact .cons (.int _) ih
theorem de_lrg (C : Ctx X N sc fs cs Φ) {a : Expr} {n : Int} {p p2 pos pos2 : Pos} (hg : Gl X "list") (hg2 : Gl X "range") (ha : DE X F a ρ (.int n)) (hs : notStar a = true) (h : 0 ≤ n ∧ n ≤ 16777216) :
    DE X F (.Call (.Name "list" p) [.Call (.Name "range" p2) [a] [] pos2] [] pos) ρ (.list (rgD 0 n)) := by
  intro σ H H0 Q env k
  refine tOf_of (pe_listRg C.calm hg (C.blt _ (by decide)) (prg_1 hg2 (C.blt _ (by decide)) pe_of (star_cons hs)) rfl) ?_
  refine ha σ H H0 _ env fun v H1 H01 p1 r1 => ?_
  cases r1
  exact ⟨n, rfl, RgOk.of_le (by omega) (by omega) (by omega) (by omega), fun q nq => (k.after p1).lst p1.c nq (rdl_range 0 n)⟩
theorem de_lrg2 (C : Ctx X N sc fs cs Φ) {a b : Expr} {m n : Int} {p p2 pos pos2 : Pos} (hg : Gl X "list") (hg2 : Gl X "range") (ha : DE X F a ρ (.int m)) (hb : DE X F b ρ (.int n)) (hs : notStar a = true) (hs2 : notStar b = true) (h : 0 ≤ m ∧ m ≤ 16777216 ∧ 0 ≤ n ∧ n ≤ 16777216) :
    DE X F (.Call (.Name "list" p) [.Call (.Name "range" p2) [a, b] [] pos2] [] pos) ρ (.list (rgD m n)) := by
  intro σ H H0 Q env k
  have hst : (backTo pos2 (starEach [b] X.env)).any (·.1) = false := by rw [star_cons hs2]; rfl
  refine tOf_of (pe_listRg C.calm hg (C.blt _ (by decide)) (prg_2 hg2 (C.blt _ (by decide)) pe_of pe_of (star_cons hs) (star_cons hs2) hst) rfl) ?_
  refine ha σ H H0 _ env fun v H1 H01 p1 r1 => ?_
  refine hb σ H1 H01 _ (env.post p1) fun w H2 H02 p2 r2 => ?_
  cases r1
  cases r2
  exact ⟨m, n, rfl, rfl, RgOk.of_le (by omega) (by omega) (by omega) (by omega), fun q nq => (k.after (p1.trans p2)).lst p2.c nq (rdl_range m n)⟩
/-! ### len(set(xs)) -/
theorem firstMet_firsts (ns : List Int) : firstMet (fun i => ns.getD i 0) ns.length = firsts ns := by
  unfold firstMet firsts
  congr 1
  apply List.ext_getElem
  · simp
  · intro i h1 h2
    simp
    simp at h1
    simp [h1]
theorem firsts_length (ns : List Int) : (firsts ns).length ≤ ns.length := by
  rw [← firstMet_firsts]
  exact firstMet_length_le _ _
def tLenSetA (K : PySem.W.Frag) (ta : TE) : TE := fun σ H Q => ta σ H fun x H1 => ∃ (l : Addr) (ns : List Int), x = .ref l ∧ SqL K H1 l (ns.map V.int) ∧ ns.length ≤ 4000 ∧ Q (.int ((firsts ns).length : Nat)) H1
theorem pe_lenSetA {a : Expr} {ta : TE} {p p2 q pos : Pos} (hg : Gl X "len") (hm : X.mg "len" = none) (hg2 : Gl X "set") (hm2 : X.mg "set" = none) (ha : PE X a ta) (hc : X.calm = true)
    (na : starEach [a] X.env = (false, eval a X.env) :: starEach [] X.env) : PE X (.Call (.Name "len" p) [.Call (.Name "set" p2) [a] [] q] [] pos) (tLenSetA X.K ta) := by
  refine ⟨fun pins s σ H Q I h => ?_⟩
  refine Call_ (ld_blt I hg hm boot_len ?_)
  refine PyProof.Rows.callWith_builtin1 (PyProof.Rows.args_cons ?_ rfl) rfl rfl
  refine Call_ (ld_blt I hg2 hm2 PyProof.Rows.boot_set ?_)
  refine PyProof.Rows.callWith_type1 (PyProof.Rows.args_cons (thn (ha.run pins s σ H _ I h) fun v s1 ⟨x, H1, I1, r1, q1⟩ => PyProof.Rows.args_nil ?_) na) na rfl
  obtain ⟨l, ns, rfl, hq, hl, q1⟩ := q1
  cases r1
  obtain ⟨its, r, pl, hz⟩ := I1.list hq
  have hlen : its.toArray.size = ns.length := by rw [List.size_toArray, ← r.length, List.length_map]
  refine call_set_list (I1.ok.hd hc) pl.isList (by simpa using intsAre_of r) (by rw [hlen]; unfold scanBound; omega) fun h' tk hS hk => ?_
  refine PyProof.Rows.args_nil ?_
  rw [hlen, firstMet_firsts] at hS
  obtain ⟨o, es, ep, t, ho, hex, hd, _, _, _, hf, hn⟩ := hS
  have I2 : Inv X pins σ H1 { s1 with heap := h', toks := tk } := I1.kept fun b o e => hk b o (Heap.lt_size e) e
  have hle := firsts_length ns
  exact call_len_set ho hex hd hf (by rw [hn] <;> omega) ⟨.int (firsts ns).length, H1, I2.tok _, ⟨_, by rw [hn]⟩, q1⟩
theorem de_lset (C : Ctx X N sc fs cs Φ) {a : Expr} {is : List Int} {p p2 pos pos2 : Pos} (hg : Gl X "len") (hg2 : Gl X "set") (ha : DE X F a ρ (.list (is.map PyData.int))) (hs : notStar a = true) (h : is.length < 1000) :
    DE X F (.Call (.Name "len" p) [.Call (.Name "set" p2) [a] [] pos2] [] pos) ρ (.int (firsts is).length) := by
  intro σ H H0 Q env k
  refine tOf_of (pe_lenSetA hg (C.blt _ (by decide)) hg2 (C.blt _ (by decide)) pe_of C.calm (star_cons hs)) ?_
  refine ha σ H H0 _ env fun v H1 H01 p1 r1 => ?_
  cases r1 with | lst g r =>
  rw [r.ints'] at g
  exact ⟨_, is, rfl, p1.c.seq g, by omega, (k.after p1).same p1.c (.int _)⟩
/-! ### the call of a def -/
theorem de_call (C : Ctx X N sc fs cs Φ) {f : Str} {G : Fn} {e : Expr} {es : List Expr} {ds : List D} {z : D} {p pos : Pos} (hg : Gl X f) (hG : Φ f = some G) (ha : DA X F (e :: es) ρ ds) (hs : (e :: es).all notStar = true) (h : G ds = some (.ok z)) (hd : (f == ("__debug__" : Str)) = false) :
    DE X F (.Call (.Name f p) (e :: es) [] pos) ρ z := by
  intro σ H H0 Q env k
  obtain ⟨a, fd, ps, n, hF, hr, hm, hk, hb⟩ := C.fns f G hG
  simp only [List.all_cons, Bool.and_eq_true] at hs
  refine tOf_of (pe_call hF hr hg hm hk hb .nil passL pa_of hd (star_cons hs.1) (star_any hs.2)) ?_
  refine ha σ H H0 _ env fun vs H1 H01 p1 r1 => ?_
  rw [List.append_nil]
  refine ⟨H01, ds, p1.c, r1, ?_⟩
  rw [h]
  exact k.after p1
theorem de_call0 (C : Ctx X N sc fs cs Φ) {f : Str} {G : Fn} {z : D} {p pos : Pos} (hg : Gl X f) (hG : Φ f = some G) (h : G [] = some (.ok z)) (hd : (f == ("__debug__" : Str)) = false) :
    DE X F (.Call (.Name f p) [] [] pos) ρ z := by
  intro σ H H0 Q env k
  obtain ⟨a, fd, ps, n, hF, hr, hm, hk, hb⟩ := C.fns f G hG
  refine tOf_of (pe_call0 hF hr hg hm hk hb .nil passL hd) ?_
  refine ⟨H0, [], env.s, .nil, ?_⟩
  rw [h]
  exact k
/-! ### and, or -/
theorem de_one {op : BoolOp} {e : Expr} {d : D} {pos : Pos} (h : DE X F e ρ d) : DE X F (.BoolOp op [e] pos) ρ d := fun σ H H0 Q env k => tOf_of (pe_one pe_of) (h σ H H0 Q env k)
theorem de_and {e e2 : Expr} {r : List Expr} {b c : Bool} {pos : Pos} (h : DE X F e ρ (.bool b)) (h2 : b = true → DE X F (.BoolOp .And (e2 :: r) pos) ρ (.bool c)) (h3 : b = false → c = false) : DE X F (.BoolOp .And (e :: e2 :: r) pos) ρ (.bool c) := by
  intro σ H H0 Q env k
  refine tOf_of (pe_and pe_of pe_of) ?_
  refine h σ H H0 _ env fun v H1 H01 p1 r1 => ?_
  cases r1
  refine ⟨b, rfl, ?_⟩
  cases b with
  | true => rw [if_pos rfl]; exact h2 rfl σ H1 H01 Q (env.post p1) (k.after p1)
  | false => rw [if_neg (by decide)]; rw [h3 rfl] at k; exact (k.after p1).same p1.c (.bl false)
theorem de_or {e e2 : Expr} {r : List Expr} {b c : Bool} {pos : Pos} (h : DE X F e ρ (.bool b)) (h2 : b = false → DE X F (.BoolOp .Or (e2 :: r) pos) ρ (.bool c)) (h3 : b = true → c = true) : DE X F (.BoolOp .Or (e :: e2 :: r) pos) ρ (.bool c) := by
  intro σ H H0 Q env k
  refine tOf_of (pe_or pe_of pe_of) ?_
  refine h σ H H0 _ env fun v H1 H01 p1 r1 => ?_
  cases r1
  refine ⟨b, rfl, ?_⟩
  cases b with
  | false => rw [if_neg (by decide)]; exact h2 rfl σ H1 H01 Q (env.post p1) (k.after p1)
  | true => rw [if_pos rfl]; rw [h3 rfl] at k; exact (k.after p1).same p1.c (.bl true)
def tOfW (X : Cx) (x : Expr) : TT := fun σ H Q => ∀ (whole : Sem Value) (pins : List (Addr × Obj)) (s : Shared), Inv X pins σ H s → wpAny (model X.prog X.w) X.A (isTrue x X.env whole) (TP X pins σ Q) X.xe s
theorem pw_of {x : Expr} : PW X x (tOfW X x) := ⟨fun wh pins s _ _ _ I h => h wh pins s I⟩
theorem tOfW_of {x : Expr} {t : TT} (h : PW X x t) {σ : L2.St} {H : Hp} {Q : Bool → Hp → Prop} (q : t σ H Q) : tOfW X x σ H Q := fun wh pins s I => h.run wh pins s σ H Q I q
def DW (X : Cx) (F : Fx) (x : Expr) (ρ : Env) (b : Bool) : Prop := ∀ (σ : L2.St) (H H0 : Hp) (Q : Bool → Hp → Prop), EnvOk X.K F H0 H σ ρ → (∀ (H' H0' : Hp), Post H0 H H0' H' → Q b H') → tOfW X x σ H Q
theorem dt_dw {x : Expr} {b : Bool} (h : DW X F x ρ b) : DT X F x ρ b := fun σ H H0 Q env k => tOfT_of pw_of.pt (h σ H H0 Q env k)
theorem dw_and1 {e : Expr} {b : Bool} {pos : Pos} (h : DT X F e ρ b) : DW X F (.BoolOp .And [e] pos) ρ b := fun σ H H0 Q env k => tOfW_of (pw_and1 pt_of) (h σ H H0 Q env k)
theorem dw_or1 {e : Expr} {b : Bool} {pos : Pos} (h : DT X F e ρ b) : DW X F (.BoolOp .Or [e] pos) ρ b := fun σ H H0 Q env k => tOfW_of (pw_or1 pt_of) (h σ H H0 Q env k)
theorem dw_and {e e2 : Expr} {r : List Expr} {b c : Bool} {pos : Pos} (h : DT X F e ρ b) (h2 : b = true → DW X F (.BoolOp .And (e2 :: r) pos) ρ c) (h3 : b = false → c = false) : DW X F (.BoolOp .And (e :: e2 :: r) pos) ρ c := by
  intro σ H H0 Q env k
  refine tOfW_of (pw_and pt_of pw_of) ?_
  refine h σ H H0 _ env fun H1 H01 p1 => ?_
  cases b with
  | true => rw [if_pos rfl]; exact h2 rfl σ H1 H01 Q (env.post p1) fun H' H0' p2 => k _ _ (p1.trans p2)
  | false => rw [if_neg (by decide)]; rw [h3 rfl] at k; exact k _ _ p1
theorem dw_or {e e2 : Expr} {r : List Expr} {b c : Bool} {pos : Pos} (h : DT X F e ρ b) (h2 : b = false → DW X F (.BoolOp .Or (e2 :: r) pos) ρ c) (h3 : b = true → c = true) : DW X F (.BoolOp .Or (e :: e2 :: r) pos) ρ c := by
  intro σ H H0 Q env k
  refine tOfW_of (pw_or pt_of pw_of) ?_
  refine h σ H H0 _ env fun H1 H01 p1 => ?_
  cases b with
  | false => rw [if_neg (by decide)]; exact h2 rfl σ H1 H01 Q (env.post p1) fun H' H0' p2 => k _ _ (p1.trans p2)
  | true => rw [if_pos rfl]; rw [h3 rfl] at k; exact k _ _ p1
/-! ### chains -/
theorem de_chain (hu : X.A.units + 65 < cLine) {o1 o2 : CmpOp} {a b c : Expr} {x y : D} {k r : Bool} {pos : Pos} (ha : DE X F a ρ x) (hb : DE X F b ρ y) (h1 : cmpD o1 x y = some k) (hc : k = true → ∃ z, DE X F c ρ z ∧ cmpD o2 y z = some r) (hf : k = false → r = false)
    (hm : lastMarks [o1, o2] [b, c] = false) : DE X F (.Compare a [o1, o2] [b, c] pos) ρ (.bool r) := by
  intro σ H H0 Q env kk
  refine tOf_of (pe_chain op_any op_any pe_of pe_of pe_of hm) ?_
  refine ha σ H H0 _ env fun v H1 H01 p1 r1 => ?_
  refine hb σ H1 H01 _ (env.post p1) fun w H2 H02 p2 r2 => ?_
  refine cmpR hu h1 p2.c (r1.mono p2.a) r2 ?_
  refine ⟨k, rfl, ?_⟩
  cases k with
  | true =>
    obtain ⟨z, hz, h2⟩ := hc rfl
    rw [if_pos rfl]
    refine hz σ H2 H02 _ ((env.post p1).post p2) fun u H3 H03 p3 r3 => ?_
    exact cmpR hu h2 p3.c (r2.mono p3.a) r3 ((kk.after ((p1.trans p2).trans p3)).same p3.c (.bl r))
  | false =>
    rw [if_neg (by decide)]
    have e := hf rfl
    subst e
    exact (kk.after (p1.trans p2)).same p2.c (.bl false)
theorem dt_chain (hu : X.A.units + 65 < cLine) {o1 o2 : CmpOp} {a b c : Expr} {x y : D} {k r : Bool} {pos : Pos} (ha : DE X F a ρ x) (hb : DE X F b ρ y) (h1 : cmpD o1 x y = some k) (hc : k = true → ∃ z, DE X F c ρ z ∧ cmpD o2 y z = some r) (hf : k = false → r = false)
    (hm : lastMarks [o1, o2] [b, c] = false) : DT X F (.Compare a [o1, o2] [b, c] pos) ρ r := by
  intro σ H H0 Q env kk
  refine tOfT_of (pt_chain op_any op_any pe_of pe_of pe_of hm) ?_
  refine ha σ H H0 _ env fun v H1 H01 p1 r1 => ?_
  refine hb σ H1 H01 _ (env.post p1) fun w H2 H02 p2 r2 => ?_
  refine cmpR hu h1 p2.c (r1.mono p2.a) r2 ?_
  refine ⟨k, rfl, ?_⟩
  cases k with
  | true =>
    obtain ⟨z, hz, h2⟩ := hc rfl
    rw [if_pos rfl]
    refine hz σ H2 H02 _ ((env.post p1).post p2) fun u H3 H03 p3 r3 => ?_
    exact cmpR hu h2 p3.c (r2.mono p3.a) r3 ⟨r, rfl, kk _ _ ((p1.trans p2).trans p3)⟩
  | false =>
    rw [if_neg (by decide)]
    have e := hf rfl
    subst e
    exact ⟨false, rfl, kk _ _ (p1.trans p2)⟩
end
end OL

end
section
set_option Elab.async false
set_option linter.all false
set_option maxRecDepth 100000
set_option maxHeartbeats 4000000
namespace OL
open PySem PySem.Spec PyProof.Rows L2

/-! ### wiping -/
theorem wipe_get (σ : L2.St) : ∀ (vs : List Nat) (j : Nat), (wipe σ vs)[j]? = if j ∈ vs then (σ[j]?).map fun _ => none else σ[j]?
  | [], j => by simp [wipe]
  | v :: vs, j => by
    unfold wipe
    rw [List.getElem?_set, wipe_get σ vs j, wipe_length]
    by_cases h : v = j
    · subst h
      by_cases hl : v < σ.length
      · simp [hl]
      · simp [hl]
    · rw [if_neg h]
      have : (j ∈ v :: vs) ↔ j ∈ vs := by
        simp only [List.mem_cons]
        exact ⟨fun q => q.elim (fun e => absurd e.symm h) id, .inr⟩
      simp only [this]
theorem wipe_set {σ : L2.St} {vs : List Nat} {i : Nat} {x : Option V} (h : i ∈ vs) : wipe (σ.set i x) vs = wipe σ vs := by
  apply List.ext_getElem?
  intro j
  rw [wipe_get, wipe_get, List.getElem?_set]
  by_cases hj : j ∈ vs
  · rw [if_pos hj, if_pos hj]
    by_cases e : i = j
    · subst e
      by_cases hl : i < σ.length
      · simp [hl]
      · simp [hl]
    · rw [if_neg e]
  · rw [if_neg hj, if_neg hj, if_neg]
    intro e
    exact hj (e ▸ h)
theorem wipe_wipe {σ : L2.St} {vs : List Nat} : wipe (wipe σ vs) vs = wipe σ vs := by
  apply List.ext_getElem?
  intro j
  rw [wipe_get, wipe_get]
  by_cases hj : j ∈ vs
  · simp only [hj, if_true]
    cases σ[j]? <;> rfl
  · simp [hj]
theorem wipe_sub {σ τ : L2.St} {vs ws : List Nat} (h : wipe σ vs = wipe τ vs) (hs : ∀ i ∈ vs, i ∈ ws) : wipe σ ws = wipe τ ws := by
  apply List.ext_getElem?
  intro j
  have hj := congrArg (·[j]?) h
  simp only [wipe_get] at hj
  rw [wipe_get, wipe_get]
  by_cases hw : j ∈ ws
  · rw [if_pos hw, if_pos hw]
    by_cases hv : j ∈ vs
    · rw [if_pos hv, if_pos hv] at hj
      exact hj
    · rw [if_neg hv, if_neg hv] at hj
      rw [hj]
  · rw [if_neg hw, if_neg hw]
    have hv : j ∉ vs := fun z => hw (hs j z)
    rw [if_neg hv, if_neg hv] at hj
    exact hj

/-! ### targets -/
def locB (sc : Scope) (fs : Str → Bool) (x : Str) : Bool := match sc.names.lookup x with
  | some .local => true
  | some .cell => fs x
  | _ => false
def nameOf : Expr → Option Str
  | .Name x _ => some x
  | _ => none
theorem nameOf_is {x : Expr} {y : Str} (h : nameOf x = some y) : ∃ p, x = .Name y p := by
  cases x <;> first | (cases h; done) | (cases h; exact ⟨_, rfl⟩)
def tupOf : Expr → Option (List Expr)
  | .Tuple es _ _ => some es
  | _ => none
theorem tupOf_is {x : Expr} {es : List Expr} (h : tupOf x = some es) : ∃ n p, x = .Tuple es n p := by
  cases x <;> first | (cases h; done) | (cases h; exact ⟨_, _, rfl⟩)
def isT (N : List Str) (sc : Scope) (fs : Str → Bool) : T → Expr → Bool
  | .n i, e => match nameOf e with
    | some x => decide (N[i]? = some x) && locB sc fs x
    | none => false
  | .p a b, e => match tupOf e with
    | some [x, y] => isT N sc fs a x && isT N sc fs b y && notStar x && notStar y
    | _ => false
  | .q a b c, e => match tupOf e with
    | some [x, y, z] => isT N sc fs a x && isT N sc fs b y && isT N sc fs c z && notStar x && notStar y && notStar z
    | _ => false
theorem asg_cons {e : Expr} {es : List Expr} {env : PySem.Env} (h : notStar e = true) : (assignEach (e :: es) env).map (·.2) = assign e env :: (assignEach es env).map (·.2) := by
  cases e <;> first | rfl | simp [notStar] at h
theorem asg_len {env : PySem.Env} : ∀ es : List Expr, (assignEach es env).length = es.length
  | [] => rfl
  | e :: es => by cases e <;> (simp only [assignEach, List.length_cons, asg_len es])
theorem asg_star {env : PySem.Env} : ∀ {es : List Expr}, es.all notStar = true → (assignEach es env).findIdx? (·.1) = none
  | [], _ => rfl
  | e :: es, h => by
    simp only [List.all_cons, Bool.and_eq_true] at h
    have ih := asg_star (env := env) h.2
    have e1 : assignEach (e :: es) env = (false, assign e env) :: assignEach es env := by
      cases e <;> first | rfl | (simp [notStar] at h)
    rw [e1, List.findIdx?_cons, ih]
    rfl
theorem bindT_p {a b : T} {d : D} {ρ ρ' : Env} (h : bindT (.p a b) d ρ = some ρ') : ∃ x y ρ1, d = .tuple [x, y] ∧ bindT a x ρ = some ρ1 ∧ bindT b y ρ1 = some ρ' := by
  match d, h with
  | .tuple [x, y], h =>
    simp only [bindT] at h
    cases e : bindT a x ρ with
    | none => rw [e] at h; cases h
    | some ρ1 => rw [e] at h; exact ⟨x, y, ρ1, rfl, e, h⟩
  | .tuple [], h => simp [bindT] at h
  | .tuple [_], h => simp [bindT] at h
  | .tuple (_ :: _ :: _ :: _), h => simp [bindT] at h
  | .none, h => simp [bindT] at h
  | .bool _, h => simp [bindT] at h
  | .int _, h => simp [bindT] at h
  | .str _, h => simp [bindT] at h
  | .list _, h => simp [bindT] at h
  | .dict _, h => simp [bindT] at h
theorem bindT_q {a b c : T} {d : D} {ρ ρ' : Env} (h : bindT (.q a b c) d ρ = some ρ') : ∃ x y z ρ1 ρ2, d = .tuple [x, y, z] ∧ bindT a x ρ = some ρ1 ∧ bindT b y ρ1 = some ρ2 ∧ bindT c z ρ2 = some ρ' := by
  match d, h with
  | .tuple [x, y, z], h =>
    simp only [bindT] at h
    cases e : bindT a x ρ with
    | none => rw [e] at h; cases h
    | some ρ1 =>
      rw [e, Option.bind_some] at h
      cases e2 : bindT b y ρ1 with
      | none => rw [e2] at h; cases h
      | some ρ2 => rw [e2] at h; exact ⟨x, y, z, ρ1, ρ2, rfl, e, e2, h⟩
  | .tuple [], h => simp [bindT] at h
  | .tuple [_], h => simp [bindT] at h
  | .tuple [_, _], h => simp [bindT] at h
  | .tuple (_ :: _ :: _ :: _ :: _), h => simp [bindT] at h
  | .none, h => simp [bindT] at h
  | .bool _, h => simp [bindT] at h
  | .int _, h => simp [bindT] at h
  | .str _, h => simp [bindT] at h
  | .list _, h => simp [bindT] at h
  | .dict _, h => simp [bindT] at h
section
variable {X : Cx} {F : Fx} {N : List Str} {sc : Scope} {fs : Str → Bool} {cs : List (Str × Key)} {Φ : Tab}
theorem locB_ok {x : Str} (hsc : X.env.scope = sc) (hfs : X.fn = fs) (h : locB sc fs x = true) : Loc X.env.scope x ∧ (X.fn x = true ∨ X.env.scope.names.lookup x = some .local) := by
  unfold locB at h
  rw [hsc]
  split at h
  · rename_i e; exact ⟨.inl e, .inr e⟩
  · rename_i e; exact ⟨.inr e, .inl (by rw [hfs]; exact h)⟩
  · cases h
/-- several targets -/
def tOfGs (X : Cx) (xs : List Expr) : TGs := fun vs σ H Q => ∀ (pins : List (Addr × Obj)) (s : Shared) (us : List Value), Inv X pins σ H s → Vals vs us → wpAny (model X.prog X.w) X.A (assignInOrder ((assignEach xs X.env).map (·.2)) us) (fun _ s' => ∃ σ' H', Inv X pins σ' H' s' ∧ Q σ' H') X.xe s
theorem dg : ∀ {t : T} {tg : Expr} {d : D} {ρ ρ' : Env} {H0 H : Hp} {σ : L2.St} {v : V} {Q : L2.St → Hp → Prop}, X.N = N → N.Nodup → X.env.scope = sc → X.fn = fs → X.calm = true → isT N sc fs t tg = true → bindT t d ρ = some ρ' → RD X.K H0 v d → EnvOk X.K F H0 H σ ρ →
    (∀ σ', (∀ H', EnvOk X.K F H0 H' σ ρ → EnvOk X.K F H0 H' σ' ρ') → (∀ vs, (∀ i ∈ t.slots, i ∈ vs) → wipe σ' vs = wipe σ vs) → Q σ' H) → tOfG X tg v σ H Q
  | .n i, tg, d, ρ, ρ', H0, H, σ, v, Q, hN, nd, hsc, hfs, hc, ht, hb, hr, env, k => by
    unfold isT at ht
    split at ht
    case h_2 => cases ht
    rename_i x hx
    obtain ⟨pos, rfl⟩ := nameOf_is hx
    simp only [Bool.and_eq_true, decide_eq_true_eq] at ht
    obtain ⟨l1, l2⟩ := locB_ok hsc hfs ht.2
    unfold bindT at hb
    split at hb
    · cases hb
      refine tOfG_of (pg_name (i := i) (by rw [hN]; exact nd) (by rw [hN]; exact ht.1) l1 l2) ?_
      exact k _ (fun H' env => env.setSh hr) fun vs hv => wipe_set (hv i (by simp [T.slots]))
    · cases hb
  | .p a b, tg, d, ρ, ρ', H0, H, σ, v, Q, hN, nd, hsc, hfs, hc, ht, hb, hr, env, k => by
    unfold isT at ht
    split at ht
    case h_2 => cases ht
    rename_i x y hx
    obtain ⟨n, pos, rfl⟩ := tupOf_is hx
    simp only [Bool.and_eq_true] at ht
    obtain ⟨⟨⟨h1, h2⟩, n1⟩, n2⟩ := ht
    obtain ⟨d1, d2, ρ1, rfl, e1, e2⟩ := bindT_p hb
    cases hr with | tup g r =>
    obtain ⟨u, w, rfl, ru, rw'⟩ := r.two
    refine tOfG_of (pg_tup hc (pgs_cons pg_of (pgs_cons pg_of pgs_nil (asg_cons n2)) (asg_cons n1)) (asg_len _) (asg_star (by simp [n1, n2]))) ?_
    refine ⟨_, _, rfl, SqT.of (env.s _ _ g), rfl, u, [w], rfl, ?_⟩
    refine dg hN nd hsc hfs hc h1 e1 ru env fun σ1 env1 w1 => ?_
    refine ⟨w, [], rfl, ?_⟩
    refine dg hN nd hsc hfs hc h2 e2 rw' (env1 _ env) fun σ2 env2 w2 => ?_
    refine ⟨rfl, k σ2 (fun H' e => env2 _ (env1 _ e)) fun vs hv => ?_⟩
    rw [w2 vs fun i hi => hv i (by simp [T.slots, hi]), w1 vs fun i hi => hv i (by simp [T.slots, hi])]
  | .q a b c, tg, d, ρ, ρ', H0, H, σ, v, Q, hN, nd, hsc, hfs, hc, ht, hb, hr, env, k => by
    unfold isT at ht
    split at ht
    case h_2 => cases ht
    rename_i x y z hx
    obtain ⟨n, pos, rfl⟩ := tupOf_is hx
    simp only [Bool.and_eq_true] at ht
    obtain ⟨⟨⟨⟨⟨h1, h2⟩, h3⟩, n1⟩, n2⟩, n3⟩ := ht
    obtain ⟨d1, d2, d3, ρ1, ρ2, rfl, e1, e2, e3⟩ := bindT_q hb
    cases hr with | tup g r =>
    cases r with | cons ru r => cases r with | cons rw' r => cases r with | cons rz r =>
    cases r
    refine tOfG_of (pg_tup hc (pgs_cons pg_of (pgs_cons pg_of (pgs_cons pg_of pgs_nil (asg_cons n3)) (asg_cons n2)) (asg_cons n1)) (asg_len _) (asg_star (by simp [n1, n2, n3]))) ?_
    refine ⟨_, _, rfl, SqT.of (env.s _ _ g), rfl, _, _, rfl, ?_⟩
    refine dg hN nd hsc hfs hc h1 e1 ru env fun σ1 env1 w1 => ?_
    refine ⟨_, _, rfl, ?_⟩
    refine dg hN nd hsc hfs hc h2 e2 rw' (env1 _ env) fun σ2 env2 w2 => ?_
    refine ⟨_, _, rfl, ?_⟩
    refine dg hN nd hsc hfs hc h3 e3 rz (env2 _ (env1 _ env)) fun σ3 env3 w3 => ?_
    refine ⟨rfl, k σ3 (fun H' e => env3 _ (env2 _ (env1 _ e))) fun vs hv => ?_⟩
    rw [w3 vs fun i hi => hv i (by simp [T.slots, hi]), w2 vs fun i hi => hv i (by simp [T.slots, hi]), w1 vs fun i hi => hv i (by simp [T.slots, hi])]
end
end OL

end
section
set_option Elab.async false
set_option linter.all false
set_option maxRecDepth 100000
set_option maxHeartbeats 4000000
namespace OL
open PySem PySem.Spec PyProof.Rows L2 RZ

/-! ### what is walked -/
structure WalkD (K : PySem.W.Frag) (J : It) (ds : List D) (H0 : Hp) : Prop where
  go : ∀ i H H1, i < ds.length → Same H0 H1 → Same H1 H → J.go i H
  stop : ∀ H H1, Same H0 H1 → Same H1 H → J.stop ds.length H
  yld : ∀ i H H1 x H', i < ds.length → Same H0 H1 → Same H1 H → J.yld i H x H' → ∃ H1' d, ds[i]? = some d ∧ Post H1 H H1' H' ∧ RD K H1' x d
def DI (X : Cx) (F : Fx) (tg x : Expr) (ρ : Env) (ds : List D) : Prop := ∀ (σ : L2.St) (H H0 : Hp) (R : It → Hp → Prop), EnvOk X.K F H0 H σ ρ →
  (∀ (J : It) (H' H0' : Hp), Post H0 H H0' H' → WalkD X.K J ds H0' → ds.length ≤ 16777216 → R J H') → tOfI X tg x σ H R
section
variable {X : Cx} {F : Fx} {ρ : Env} {N : List Str} {sc : Scope} {fs : Str → Bool} {cs : List (Str × Key)} {Φ : Tab}
theorem WalkD.of {K : PySem.W.Frag} {J : It} {ds : List D} {H0 : Hp} {n : Nat} {G : Hp → Prop} {Y : Nat → Hp → V → Hp → Prop} (w : Walk J n G Y) (hn : n = ds.length) (hG : ∀ H, Same H0 H → G H)
    (hy : ∀ i H H1 x H', i < n → Same H0 H1 → Same H1 H → Y i H x H' → ∃ H1' d, ds[i]? = some d ∧ Post H1 H H1' H' ∧ RD K H1' x d) : WalkD K J ds H0 := by
  subst hn
  exact ⟨fun i H H1 hi a b => w.goes i H hi (hG H (a.trans b)), fun H H1 a b => w.stops H (hG H (a.trans b)), fun i H H1 x H' hi a b y => hy i H H1 x H' hi a b (w.yields i H x H' hi (hG H (a.trans b)) y)⟩
/-- an item that stands already -/
theorem yAt_ok {K : PySem.W.Frag} {H0 : Hp} {vs : List V} {ds : List D} (r : RDL K H0 vs ds) : ∀ i H H1 x H', i < vs.length → Same H0 H1 → Same H1 H → YAt vs i H x H' → ∃ H1' d, ds[i]? = some d ∧ Post H1 H H1' H' ∧ RD K H1' x d := by
  intro i H H1 x H' hi a b y
  obtain ⟨rfl, e⟩ := y
  obtain ⟨d, ed, rd⟩ := r.get' e
  exact ⟨H1, d, ed, Post.refl b, rd.mono a⟩
/-- .. with the length that every list has -/
theorem pe_len {x : Expr} {t : TE} (h : PE X x t) : PE X x (fun σ H Q => t σ H fun v H1 => (∀ a xs, v = .ref a → SqL X.K H1 a xs ∨ SqT X.K H1 a xs → xs.length ≤ sizeLine) → Q v H1) := by
  refine ⟨fun pins s σ H Q I hw => ?_⟩
  refine thn (h.run pins s σ H _ I hw) fun u s1 ⟨v, H1, I1, r, q⟩ => ⟨v, H1, I1, r, q fun a xs e hq => ?_⟩
  rcases hq with hq | hq
  · obtain ⟨_, _, _, z⟩ := I1.list hq; exact z
  · obtain ⟨_, _, _, z⟩ := I1.tuple hq; exact z
theorem di_list {tg x : Expr} {ds : List D} (h : DE X F x ρ (.list ds)) : DI X F tg x ρ ds := by
  intro σ H H0 R env k
  refine tOfI_of (pi_list (pe_len pe_of)) ?_
  refine h σ H H0 _ env fun v H1 H01 p1 r1 => ?_
  intro hlen
  cases r1 with | lst g r =>
  have gl := hlen _ _ rfl (.inl (p1.c.seq g))
  exact ⟨_, rfl, ⟨_, p1.c.seq g⟩, k _ _ _ p1 (WalkD.of walk_list r.length (fun H a => a.seq g) (yAt_ok r)) (by rw [← r.length, sz]; exact gl)⟩
theorem di_tup {tg x : Expr} {ds : List D} (h : DE X F x ρ (.tuple ds)) : DI X F tg x ρ ds := by
  intro σ H H0 R env k
  refine tOfI_of (pi_tup (pe_len pe_of)) ?_
  refine h σ H H0 _ env fun v H1 H01 p1 r1 => ?_
  intro hlen
  cases r1 with | tup g r =>
  have gl := hlen _ _ rfl (.inr (SqT.of (p1.c _ _ g)))
  exact ⟨_, rfl, ⟨_, SqT.of (p1.c _ _ g)⟩, k _ _ _ p1 (WalkD.of walk_tup r.length (fun H a => SqT.of (a _ _ g)) (yAt_ok r)) (by rw [← r.length, sz]; exact gl)⟩
theorem di_str {tg x : Expr} {z : Str} (h : DE X F x ρ (.str z)) (hl : z.cps.size ≤ 16777216) : DI X F tg x ρ (z.cps.toList.map fun c => .str ⟨#[c]⟩) := by
  intro σ H H0 R env k
  refine tOfI_of (pi_str pe_of) ?_
  refine h σ H H0 _ env fun v H1 H01 p1 r1 => ?_
  cases r1
  refine ⟨z, rfl, k _ _ _ p1 (WalkD.of walk_str (by simp) (fun _ _ => trivial) fun i H H1 x H' hi a b y => ?_) (by simpa using hl)⟩
  obtain ⟨rfl, c, e, rfl⟩ := y
  exact ⟨H1, _, by simp [e], Post.refl b, .str _⟩
theorem di_range {tg : Expr} {lo hi : Int} (h : rgOk lo hi = true) {σ : L2.St} {H H0 : Hp} {R : It → Hp → Prop} (s : Same H0 H) (k : ∀ (J : It) (H' H0' : Hp), Post H0 H H0' H' → WalkD X.K J (rgD lo hi) H0' → (rgD lo hi).length ≤ 16777216 → R J H') : R (Itr lo (hi - lo).toNat) H := by
  have hl : (rgD lo hi).length = (hi - lo).toNat := by simp [rgD]
  simp only [rgOk, decide_eq_true_eq] at h
  refine k _ _ _ (Post.refl s) (WalkD.of walk_range hl.symm (fun _ _ => trivial) fun i H H1 x H' hi' a b y => ?_) (by rw [hl]; omega)
  obtain ⟨rfl, rfl⟩ := y
  refine ⟨H1, .int (lo + i), ?_, Post.refl b, .int _⟩
  simp [rgD, hi']
theorem di_r1 (C : Ctx X N sc fs cs Φ) {tg a : Expr} {n : Int} {p pos : Pos} (hg : Gl X "range") (ha : DE X F a ρ (.int n)) (hs : notStar a = true) (h : rgOk 0 n = true) : DI X F tg (.Call (.Name "range" p) [a] [] pos) ρ (rgD 0 n) := by
  intro σ H H0 R env k
  refine tOfI_of (pi_range1 hg (C.blt _ (by decide)) (pa_cons pe_of pa_nil (star_cons hs)) (star_cons hs)) ?_
  refine ha σ H H0 _ env fun v H1 H01 p1 r1 => ?_
  cases r1
  have h' := h
  simp only [rgOk, decide_eq_true_eq] at h'
  have q := di_range (X := X) (tg := tg) (σ := σ) (R := R) h p1.c fun J H' H0' p2 w l => k J H' H0' (p1.trans p2) w l
  rw [show n - 0 = n from Int.sub_zero n] at q
  exact ⟨n, rfl, by omega, by omega, q⟩
theorem di_r2 (C : Ctx X N sc fs cs Φ) {tg a b : Expr} {m n : Int} {p pos : Pos} (hg : Gl X "range") (ha : DE X F a ρ (.int m)) (hb : DE X F b ρ (.int n)) (hs : notStar a = true) (hs2 : notStar b = true) (h : rgOk m n = true) : DI X F tg (.Call (.Name "range" p) [a, b] [] pos) ρ (rgD m n) := by
  intro σ H H0 R env k
  have hst : starEach [a, b] X.env = [(false, eval a X.env), (false, eval b X.env)] := by rw [star_cons hs, star_cons hs2]; rfl
  refine tOfI_of (pi_range2 hg (C.blt _ (by decide)) (pa_cons pe_of (pa_cons pe_of pa_nil (star_cons hs2)) (star_cons hs)) hst (star_cons hs2)) ?_
  refine ha σ H H0 _ env fun v H1 H01 p1 r1 => ?_
  refine hb σ H1 H01 _ (env.post p1) fun w H2 H02 p2 r2 => ?_
  cases r1
  cases r2
  have h' := h
  simp only [rgOk, decide_eq_true_eq] at h'
  exact ⟨m, n, rfl, ⟨by omega, by omega, by omega, by omega⟩, di_range (X := X) (tg := tg) (σ := σ) h p2.c fun J H' H0' p3 w l => k J H' H0' ((p1.trans p2).trans p3) w l⟩
/-- the pairs of a zip -/
theorem zipD_length : ∀ xs ys : List D, (zipD xs ys).length = min xs.length ys.length
  | [], ys => by simp [zipD]
  | x :: xs, [] => by simp [zipD]
  | x :: xs, y :: ys => by simp only [zipD, List.length_cons, zipD_length xs ys]; omega
theorem zipD_get : ∀ (xs ys : List D) (i : Nat) (x y : D), xs[i]? = some x → ys[i]? = some y → (zipD xs ys)[i]? = some (.tuple [x, y])
  | [], ys, i, x, y, h, _ => by simp at h
  | a :: xs, [], i, x, y, _, h => by simp at h
  | a :: xs, b :: ys, 0, x, y, h1, h2 => by
    simp at h1 h2
    subst h1 h2
    rfl
  | a :: xs, b :: ys, i + 1, x, y, h1, h2 => zipD_get xs ys i x y (by simpa using h1) (by simpa using h2)
theorem pair_ok {K : PySem.W.Frag} {H0 : Hp} {ds : List D} {xs ys : Nat → Option V} (hd : ∀ i x y, xs i = some x → ys i = some y → ∃ a b, ds[i]? = some (.tuple [a, b]) ∧ RD K H0 x a ∧ RD K H0 y b) {n : Nat} :
    ∀ i H H1 x H', i < n → Same H0 H1 → Same H1 H → YPair xs ys i H x H' → ∃ H1' d, ds[i]? = some d ∧ Post H1 H H1' H' ∧ RD K H1' x d := by
  intro i H H1 x H' hi a b y
  obtain ⟨T, u, w, rfl, nT, rfl, e1, e2⟩ := y
  obtain ⟨c, d, ed, r1, r2⟩ := hd i u w e1 e2
  exact ⟨_, _, ed, Post.new b nT, rd_tup b nT (.cons (r1.mono a) (.cons (r2.mono a) .nil))⟩
theorem walk_zipT {K : PySem.W.Frag} {a b : Addr} {xs ys : List V} {n : Nat} (hn : n = min xs.length ys.length) : Walk (ItzT K a b) n (fun H => SqT K H a xs ∧ SqT K H b ys) (YPair (fun i => xs[i]?) (fun i => ys[i]?)) := by
  subst hn
  refine ⟨fun i _ hi q => ?_, fun _ q => ⟨xs, ys, q.1, q.2, by omega⟩, fun i H v H' _ q y => ?_⟩
  · have h1 : i < xs.length := by omega
    have h2 : i < ys.length := by omega
    exact ⟨xs, ys, xs[i], ys[i], q.1, q.2, by simp [h1], by simp [h2]⟩
  · obtain ⟨T, x, z, h1, h2, h3, h4, h5⟩ := y
    exact ⟨T, x, z, h1, h2, h3, h4 xs q.1, h5 ys q.2⟩
theorem di_zipT (C : Ctx X N sc fs cs Φ) {es : List Expr} {j : Nat} {tp : Pos} {a b : Expr} {ds es' : List D} {p pos : Pos} (hg : Gl X "zip") (ha : DE X F a ρ (.tuple ds)) (hb : DE X F b ρ (.tuple es')) (hs : notStar a = true) (hs2 : notStar b = true) :
    DI X F (.Tuple es j tp) (.Call (.Name "zip" p) [a, b] [] pos) ρ (zipD ds es') := by
  intro σ H H0 R env k
  refine tOfI_of (pi_zipA hg (C.blt _ (by decide)) (pa_cons (pe_len pe_of) (pa_cons pe_of pa_nil (star_cons hs2)) (star_cons hs)) (star_cons hs) (star_any (by simp [hs2]))) ?_
  refine ha σ H H0 _ env fun v H1 H01 p1 r1 => ?_
  intro hlen
  refine hb σ H1 H01 _ (env.post p1) fun w H2 H02 p2 r2 => ?_
  cases r1 with | tup g1 r1 => cases r2 with | tup g2 r2 =>
  have gl := hlen _ _ rfl (.inr (SqT.of (p1.c _ _ g1)))
  refine ⟨_, _, _, _, rfl, .inr ⟨SqT.of (p2.c _ _ (p2.a _ _ g1)), SqT.of (p2.c _ _ g2), k _ _ _ (p1.trans p2) (WalkD.of (walk_zipT rfl) ?_ (fun H s => ⟨SqT.of (s _ _ (p2.a _ _ g1)), SqT.of (s _ _ g2)⟩) (pair_ok fun i x y e1 e2 => ?_)) ?_⟩⟩
  · rw [zipD_length, r1.length, r2.length]
  · obtain ⟨d1, f1, q1⟩ := (r1.mono p2.a).get' e1
    obtain ⟨d2, f2, q2⟩ := r2.get' e2
    exact ⟨d1, d2, zipD_get _ _ _ _ _ f1 f2, q1, q2⟩
  · rw [zipD_length, ← r1.length]
    rw [← sz] at gl
    omega
theorem di_zipL (C : Ctx X N sc fs cs Φ) {es : List Expr} {j : Nat} {tp : Pos} {a b : Expr} {ds es' : List D} {p pos : Pos} (hg : Gl X "zip") (ha : DE X F a ρ (.list ds)) (hb : DE X F b ρ (.list es')) (hs : notStar a = true) (hs2 : notStar b = true) :
    DI X F (.Tuple es j tp) (.Call (.Name "zip" p) [a, b] [] pos) ρ (zipD ds es') := by
  intro σ H H0 R env k
  refine tOfI_of (pi_zipA hg (C.blt _ (by decide)) (pa_cons (pe_len pe_of) (pa_cons pe_of pa_nil (star_cons hs2)) (star_cons hs)) (star_cons hs) (star_any (by simp [hs2]))) ?_
  refine ha σ H H0 _ env fun v H1 H01 p1 r1 => ?_
  intro hlen
  refine hb σ H1 H01 _ (env.post p1) fun w H2 H02 p2 r2 => ?_
  cases r1 with | lst g1 r1 => cases r2 with | lst g2 r2 =>
  have gl := hlen _ _ rfl (.inl (p1.c.seq g1))
  refine ⟨_, _, _, _, rfl, .inl ⟨p2.c.seq (p2.a.seq g1), p2.c.seq g2, k _ _ _ (p1.trans p2) (WalkD.of (walk_zip rfl) ?_ (fun H s => ⟨s.seq (p2.a.seq g1), s.seq g2⟩) (pair_ok fun i x y e1 e2 => ?_)) ?_⟩⟩
  · rw [zipD_length, r1.length, r2.length]
  · obtain ⟨d1, f1, q1⟩ := (r1.mono p2.a).get' e1
    obtain ⟨d2, f2, q2⟩ := r2.get' e2
    exact ⟨d1, d2, zipD_get _ _ _ _ _ f1 f2, q1, q2⟩
  · rw [zipD_length, ← r1.length]
    rw [← sz] at gl
    omega
theorem walk_zipM {K : PySem.W.Frag} {a b : Addr} {xs ys : List V} {n : Nat} (hn : n = min xs.length ys.length) : Walk (ItzM K a b) n (fun H => SqT K H a xs ∧ SqL K H b ys) (YPair (fun i => xs[i]?) (fun i => ys[i]?)) := by
  subst hn
  refine ⟨fun i _ hi q => ?_, fun _ q => ⟨xs, ys, q.1, q.2, by omega⟩, fun i H v H' _ q y => ?_⟩
  · have h1 : i < xs.length := by omega
    have h2 : i < ys.length := by omega
    exact ⟨xs, ys, xs[i], ys[i], q.1, q.2, by simp [h1], by simp [h2]⟩
  · obtain ⟨T, x, z, h1, h2, h3, h4, h5⟩ := y
    exact ⟨T, x, z, h1, h2, h3, h4 xs q.1, h5 ys q.2⟩
theorem di_zipM (C : Ctx X N sc fs cs Φ) {es : List Expr} {j : Nat} {tp : Pos} {a b : Expr} {ds es' : List D} {p pos : Pos} (hg : Gl X "zip") (ha : DE X F a ρ (.tuple ds)) (hb : DE X F b ρ (.list es')) (hs : notStar a = true) (hs2 : notStar b = true) :
    DI X F (.Tuple es j tp) (.Call (.Name "zip" p) [a, b] [] pos) ρ (zipD ds es') := by
  intro σ H H0 R env k
  refine tOfI_of (pi_zipM hg (C.blt _ (by decide)) (pa_cons (pe_len pe_of) (pa_cons pe_of pa_nil (star_cons hs2)) (star_cons hs)) (star_cons hs) (star_any (by simp [hs2]))) ?_
  refine ha σ H H0 _ env fun v H1 H01 p1 r1 => ?_
  intro hlen
  refine hb σ H1 H01 _ (env.post p1) fun w H2 H02 p2 r2 => ?_
  cases r1 with | tup g1 r1 => cases r2 with | lst g2 r2 =>
  have gl := hlen _ _ rfl (.inr (SqT.of (p1.c _ _ g1)))
  refine ⟨_, _, _, _, rfl, SqT.of (p2.c _ _ (p2.a _ _ g1)), p2.c.seq g2, k _ _ _ (p1.trans p2) (WalkD.of (walk_zipM rfl) ?_ (fun H s => ⟨SqT.of (s _ _ (p2.a _ _ g1)), s.seq g2⟩) (pair_ok fun i x y e1 e2 => ?_)) ?_⟩
  · rw [zipD_length, r1.length, r2.length]
  · obtain ⟨d1, f1, q1⟩ := (r1.mono p2.a).get' e1
    obtain ⟨d2, f2, q2⟩ := r2.get' e2
    exact ⟨d1, d2, zipD_get _ _ _ _ _ f1 f2, q1, q2⟩
  · rw [zipD_length, ← r1.length]
    rw [← sz] at gl
    omega
end

/-! ### fresh things -/
/-- the expression x makes a new thing that is held as b -/
def DF (X : Cx) (F : Fx) (x : Expr) (ρ : Env) (b : B) : Prop := ∀ (σ : L2.St) (H H0 : Hp) (Q : VK), EnvOk X.K F H0 H σ ρ →
  (∀ (v : V) (H' H0' : Hp) (fp : List Addr), Post H0 H H0' H' → Own X.K H0' H' v b fp → (∀ a ∈ fp, H a = none ∧ H0' a = none) → Q v H') → tOf X x σ H Q
section
variable {X : Cx} {F : Fx} {ρ : Env} {N : List Str} {sc : Scope} {fs : Str → Bool} {cs : List (Str × Key)} {Φ : Tab}
theorem de_of_df {x : Expr} {ds : List D} (h : DF X F x ρ (.ow (.list ds))) : DE X F x ρ (.list ds) := by
  intro σ H H0 Q env k
  refine h σ H H0 Q env fun v H' H0' fp p o hf => ?_
  cases o with | @lst a vs _ g r =>
  obtain ⟨n1, n2⟩ := hf a (by simp)
  refine k _ H' (upd H0' a (.lst vs)) ⟨p.a.trans (same_upd n2), p.b, fun b u e => ?_, fun q hq e => ?_⟩ (.lst (SqL.of upd_same) (r.mono (same_upd n2)))
  · by_cases hb : b = a
    · subst hb; rw [upd_same] at e; rw [← e]; exact g
    · rw [upd_ne hb] at e; exact p.c _ _ e
  · have : q ≠ a := fun z => hq.ne (by rw [z]; exact n1)
    rw [upd_ne this]; exact p.d q hq e
theorem df_lst {es : List Expr} {ds : List D} {pos : Pos} (h : DA X F es ρ ds) (hl : ds.length ≤ 16777216) : DF X F (.List es pos) ρ (.ow (.list ds)) := by
  intro σ H H0 Q env k
  refine tOf_of (pe_lst pa_of) ?_
  refine h σ H H0 _ env fun vs H1 H01 p1 r1 => ?_
  refine ⟨by rw [r1.length, ← sz]; exact hl, fun p np => ?_⟩
  exact k _ _ H01 [p] (p1.trans (Post.own p1.c np)) (.lst upd_same r1) fun a ha => by
    simp at ha; subst ha
    exact ⟨p1.b.free np, p1.c.free np⟩
theorem df_listOf (C : Ctx X N sc fs cs Φ) {e : Expr} {d : D} {ds : List D} {p pos : Pos} (hg : Gl X "list") (h : DE X F e ρ d) (hd : d = .list ds ∨ d = .tuple ds) (hs : notStar e = true) : DF X F (.Call (.Name "list" p) [e] [] pos) ρ (.ow (.list ds)) := by
  intro σ H H0 Q env k
  refine tOf_of (pe_callTy call_list_of hg (C.blt _ (by decide)) PyProof.Rows.boot_list (pa_cons pe_of pa_nil (star_cons hs)) (by decide) (by decide) (star_cons hs) rfl) ?_
  refine h σ H H0 _ env fun v H1 H01 p1 r1 => ?_
  have fin : ∀ {vs : List V}, RDL X.K H01 vs ds → ∀ p, H1 p = none → Q (.ref p) (upd H1 p (.lst vs)) := fun {vs} r p np =>
    k _ _ H01 [p] (p1.trans (Post.own p1.c np)) (.lst upd_same r) fun a ha => by
      simp at ha; subst ha
      exact ⟨p1.b.free np, p1.c.free np⟩
  rcases hd with rfl | rfl
  · cases r1 with | lst g r => exact ⟨_, _, rfl, .inl (p1.c.seq g), fin r⟩
  · cases r1 with | tup g r => exact ⟨_, _, rfl, .inr (SqT.of (p1.c _ _ g)), fin r⟩
/-! ### comprehensions -/
def era (H : Hp) (D : Addr) : Hp := fun a => if a = D then none else H a
theorem era_upd {H : Hp} {D : Addr} {o : HO} : era (upd H D o) D = era H D := by
  funext a; unfold era upd; split <;> simp_all
theorem upd_era {H : Hp} {D : Addr} {o : HO} (h : H D = some o) : upd (era H D) D o = H := by
  funext a; unfold era upd; split <;> simp_all
theorem era_none {H : Hp} {D : Addr} (h : H D = none) : era H D = H := by
  funext a; unfold era; split <;> simp_all
theorem era_self {H : Hp} {D : Addr} : era H D D = none := by simp [era]
/-- over the erased heap, a step in the whole one -/
theorem Post.era {H0 H H0' H' : Hp} {D : Addr} {o : List V} (hD : H D = some (.lst o)) (h0 : H0 D = none) (p : Post H0 H H0' H') : Post H0 (era H D) H0' (era H' D) := by
  have hD' := p.b.at hD
  refine ⟨p.a, ⟨fun b u e n => ?_, fun b e => ?_, fun P q t => ?_⟩, fun b u e => ?_, fun q hq e => ?_⟩
  · unfold OL.era at e ⊢
    split at e
    · cases e
    · rename_i hb; rw [if_neg hb]; exact p.b.sm _ _ e n
  · unfold OL.era at e ⊢
    split at e
    · rename_i hb; rw [if_pos hb]
    · rename_i hb; rw [if_neg hb]; exact p.b.fr _ e
  · refine tab_keep (fun a o ho hm => ?_) (p.b.tb P q (t.ext fun b o e => ?_))
    · have hb : a ≠ D := fun z => by
        rw [z, hD'] at ho
        cases ho
        cases hm
      unfold OL.era
      rw [if_neg hb]; exact ho
    · unfold OL.era at e
      split at e
      · cases e
      · exact e
  · have hb : b ≠ D := fun z => by
      rw [z, p.d D (.inl ⟨_, hD, rfl⟩) h0] at e; cases e
    unfold OL.era
    rw [if_neg hb]; exact p.c _ _ e
  · refine p.d q ?_ e
    have un : ∀ b o, OL.era H D b = some o → H b = some o := fun b o e1 => by
      unfold OL.era at e1
      split at e1
      · cases e1
      · exact e1
    rcases hq with ⟨o, e1, m⟩ | ⟨q', t⟩
    · exact .inl ⟨o, un _ _ e1, m⟩
    · exact .inr ⟨q', t.ext un⟩
def blkX (X : Cx) (scope : Scope) (s : Shared) (H : Hp) (C : Addr) (cl : List (Str × Addr)) (fp : List Addr) : Cx := X.blk s H scope (compEnvC scope cl C X.env) fp
abbrev ownOf (N : List Str) (vs : List Nat) : List (Str × Nat) := vs.map fun i => (N.getD i "", i)
theorem ownOf_slots (N : List Str) (vs : List Nat) : (ownOf N vs).map (·.2) = vs := by
  simp [ownOf, Function.comp_def]
/-- the readings in the block, whatever the block's entry is -/
def tB_ (X : Cx) (scope : Scope) (x : Expr) : TE := fun σ H Q => ∀ s H' C cl fp, tOf (blkX X scope s H' C cl fp) x σ H Q
def tBT (X : Cx) (scope : Scope) (x : Expr) : TT := fun σ H Q => ∀ s H' C cl fp, tOfT (blkX X scope s H' C cl fp) x σ H Q
def tBG (X : Cx) (scope : Scope) (x : Expr) : TG := fun v σ H Q => ∀ s H' C cl fp, tOfG (blkX X scope s H' C cl fp) x v σ H Q
def tBI (X : Cx) (scope : Scope) (tg x : Expr) : TI := fun σ H R => ∀ s H' C cl fp, tOfI (blkX X scope s H' C cl fp) tg x σ H R
def tBTs (X : Cx) (scope : Scope) : List Expr → TT
  | [] => tYes
  | [c] => tBT X scope c
  | _ => fun _ _ _ => False
theorem ptsB {scope : Scope} (s : Shared) (H : Hp) (C : Addr) (cl : List (Str × Addr)) (fp : List Addr) : ∀ ifs : List Expr, PTs (X.blk s H scope (compEnvC scope cl C X.env) fp) ifs (tBTs X scope ifs)
  | [] => pts_nil
  | [c] => pts_one ⟨fun pins s' σ H' Q I h => h s H C cl fp pins s' I⟩
  | _ :: _ :: _ => ⟨fun _ _ _ _ _ _ h => h.elim⟩
theorem lcGo_cons {f : D → Option (Option D)} {d : D} {ds out : List D} (h : lcGo f (d :: ds) = some out) : ∃ r rest, f d = some r ∧ lcGo f ds = some rest ∧ out = consO r rest := by
  unfold lcGo at h
  cases h1 : f d with
  | none => rw [h1] at h; cases h
  | some r =>
    rw [h1, Option.bind_some] at h
    cases h2 : lcGo f ds with
    | none => rw [h2] at h; cases h
    | some rest => rw [h2] at h; cases h; exact ⟨r, rest, rfl, rfl, rfl⟩
def RDo (K : PySem.W.Frag) (H : Hp) : Option V → Option D → Prop
  | some v, some d => RD K H v d
  | none, none => True
  | _, _ => False
/-- one turn: the target, the test, the element -/
def Step (X : Cx) (F : Fx) (g : TG) (tt : TT) (te : TE) (vs : List Nat) (ρw : Env) (d : D) (r : Option D) : Prop :=
  ∀ (σ : L2.St) (H H0 : Hp) (v : V) (P : Option V → Hp → Prop), EnvOk X.K F H0 H σ ρw → RD X.K H0 v d → wipe σ vs = σ → (∀ (y : Option V) (H' H0' : Hp), Post H0 H H0' H' → RDo X.K H0' y r → P y H') →
    g v σ H fun σ2 H2 => wipe σ2 vs = σ ∧ tt σ2 H2 fun b H3 => if b = true then te σ2 H3 fun y H4 => P (some y) H4 else P none H3
/-- the list at L holds done; all else is as at the base -/
structure LInv (K : PySem.W.Frag) (H0b Hb : Hp) (L : Addr) (H : Hp) (done : List D) : Prop where
  ex : ∃ H0 vs, H L = some (.lst vs) ∧ RDL K H0 vs done ∧ Post H0b Hb H0 (era H L)
theorem loop_lc {J : It} {ds out : List D} {f : D → Option (Option D)} {g : TG} {tt : TT} {te : TE} {vs : List Nat} {ρw : Env} {σw : L2.St} {H0s H0b Hb H1 : Hp} {L : Addr} {done : List D} {Fin : Hp → Prop}
    (w : WalkD X.K J ds H0s) (hsb : Same H0s H0b) (ho : lcGo f ds = some out) (hst : ∀ d ∈ ds, ∀ r, f d = some r → Step X F g tt te vs ρw d r) (hw : wipe σw vs = σw) (env : EnvOk X.K F H0b Hb σw ρw)
    (hL : Hb L = none) (hlen : (done ++ out).length ≤ 16777216) (i1 : LInv X.K H0b Hb L H1 done) (hend : ∀ H, LInv X.K H0b Hb L H (done ++ out) → Fin H) :
    ∃ W : Nat → Nat → Hp → Prop, (∃ m, W 0 m H1) ∧ ∀ i m H, W i m H →
      (J.stop i H ∧ Fin H) ∨ (J.go i H ∧ ∃ Nx : Hp → Prop, (∀ H', Nx H' → ∃ m', m' < m ∧ W (i + 1) m' H') ∧ ∀ x H', J.yld i H x H' → g x σw H' fun σ2 H2 => wipe σ2 vs = σw ∧ tt σ2 H2 fun b H3 =>
        if b = true then te σ2 H3 fun y H4 => ∃ acc, H4 L = some (.lst acc) ∧ acc.length < sizeLine ∧ Nx (upd H4 L (.lst (acc ++ [y]))) else Nx H3) := by
  let Inv1 : Nat → Hp → Prop := fun i H => ∃ dn rest, done ++ out = dn ++ rest ∧ lcGo f (ds.drop i) = some rest ∧ LInv X.K H0b Hb L H dn
  refine ⟨fun i m H => m = ds.length - i ∧ i ≤ ds.length ∧ Inv1 i H, ⟨_, rfl, Nat.zero_le _, done, out, rfl, ho, i1⟩, ?_⟩
  rintro i m H ⟨rfl, hi, dn, rest, eq, hr, ⟨H0, us, hLs, rv, pst⟩⟩
  have sH : Same H0 H := fun b o e => by
    have := pst.c _ _ e
    unfold era at this
    split at this
    · cases this
    · exact this
  have h0L : H0 L = none := by
    cases q : H0 L with
    | none => rfl
    | some o => have := pst.c _ _ q; rw [era_self] at this; cases this
  by_cases hlt : i < ds.length
  · refine .inr ⟨w.go i H H0 hlt (hsb.trans pst.a) sH, fun H' => Inv1 (i + 1) H', fun H' h' => ⟨_, by omega, rfl, hlt, h'⟩, fun x H' hy => ?_⟩
    obtain ⟨H0', d, ed, p1, rd⟩ := w.yld i H H0 x H' hlt (hsb.trans pst.a) sH hy
    have ed' : ds.drop i = d :: ds.drop (i + 1) := by
      rw [List.drop_eq_getElem_cons hlt]
      rw [List.getElem?_eq_getElem hlt] at ed
      cases ed; rfl
    rw [ed'] at hr
    obtain ⟨r, rest', hf, hr', rfl⟩ := lcGo_cons hr
    have p1e := p1.era hLs h0L
    have hLs' : H' L = some (.lst us) := p1.b.at hLs
    have h0L' : H0' L = none := p1.d L (.inl ⟨_, hLs, rfl⟩) h0L
    have env1 : EnvOk X.K F H0' H' σw ρw := by
      have e1 := (env.post pst).post p1e
      have e2 := e1.post (Post.own (p := L) (o := .lst us) e1.s era_self)
      rw [upd_era hLs'] at e2
      exact e2
    have hmem : d ∈ ds := List.mem_of_getElem? ed
    refine hst d hmem r hf σw H' H0' x (fun y H4 => match y with
      | some y => ∃ acc, H4 L = some (.lst acc) ∧ acc.length < sizeLine ∧ Inv1 (i + 1) (upd H4 L (.lst (acc ++ [y])))
      | none => Inv1 (i + 1) H4) env1 rd hw fun y H4 H04 p2 ry => ?_
    have hLs4 : H4 L = some (.lst us) := p2.b.at hLs'
    have p2e := p2.era hLs' h0L'
    have pall : Post H0b Hb H04 (era H4 L) := (pst.trans p1e).trans p2e
    have rv4 : RDL X.K H04 us dn := (rv.mono p1.a).mono p2.a
    cases y with
    | none =>
      cases r with
      | some _ => exact ry.elim
      | none => exact ⟨dn, rest', eq, hr', ⟨H04, us, hLs4, rv4, pall⟩⟩
    | some y =>
      cases r with
      | none => exact ry.elim
      | some z =>
        refine ⟨us, hLs4, ?_, dn ++ [z], rest', ?_, hr', ⟨H04, us ++ [y], upd_same, rv4.append (.cons ry .nil), by rw [era_upd]; exact pall⟩⟩
        · have e3 := congrArg List.length eq
          simp only [List.length_append, consO, List.length_cons] at e3
          rw [List.length_append] at hlen
          rw [rv4.length, ← sz]
          omega
        · rw [eq]; simp [consO]
  · have e : i = ds.length := by omega
    subst e
    refine .inl ⟨w.stop H H0 (hsb.trans pst.a) sH, hend H ?_⟩
    rw [List.drop_length] at hr
    cases hr
    rw [eq, List.append_nil]
    exact ⟨H0, us, hLs, rv, pst⟩
theorem lcGo_length {f : D → Option (Option D)} : ∀ {ds out : List D}, lcGo f ds = some out → out.length ≤ ds.length
  | [], out, h => by cases h; simp
  | d :: ds, out, h => by
    obtain ⟨r, rest, _, h2, rfl⟩ := lcGo_cons h
    have := lcGo_length h2
    cases r <;> simp [consO] <;> omega
/-- [elt for tg in iter if ..] -/
theorem lc_read {tg iter elt : Expr} {ifs : List Expr} {scope : Scope} {vs : List Nat} {ds out : List D} {f : D → Option (Option D)} (hi : DI X F tg iter ρ ds) (ho : lcGo f ds = some out)
    (hst : ∀ d ∈ ds, ∀ r, f d = some r → Step X F (tBG X scope tg) (tBTs X scope ifs) (tB_ X scope elt) vs (wipeB ρ vs) d r) {σ : L2.St} {H H0 : Hp} {Q : VK} (env : EnvOk X.K F H0 H σ ρ)
    (k : ∀ (v : V) (H' H0' : Hp) (fp : List Addr), Post H0 H H0' H' → Own X.K H0' H' v (.ow (.list out)) fp → (∀ a ∈ fp, H a = none ∧ H0' a = none) → Q v H') :
    tLc (tOfI X tg iter) (tBG X scope tg) (tBTs X scope ifs) (tB_ X scope elt) vs σ H Q := by
  refine hi σ H H0 _ env fun J H1 H01 p1 w hl => ?_
  intro L nL
  have hlo := lcGo_length ho
  refine loop_lc (done := []) (Fin := fun H => Q (.ref L) H) w (Same.refl _) ho hst wipe_wipe ((env.post p1).wipe vs) nL (by simp; omega) ⟨H01, [], upd_same, .nil, ?_⟩ fun H' ⟨H0', us, h1, h2, h3⟩ => ?_
  · rw [era_upd, era_none nL]; exact Post.refl p1.c
  · have p3 : Post H0' (era H' L) H0' H' := by
      have q := Post.own (H0 := H0') (H := era H' L) (p := L) (o := .lst us) h3.c era_self
      rw [upd_era h1] at q
      exact q
    refine k _ _ H0' [L] ((p1.trans h3).trans p3) (.lst h1 h2) fun a ha => ?_
    simp at ha; subst ha
    refine ⟨p1.b.free nL, ?_⟩
    cases q : H0' a with
    | none => rfl
    | some o => have := h3.c _ _ q; rw [era_self] at this; cases this
theorem pgB {scope : Scope} {tg : Expr} (s : Shared) (H : Hp) (C : Addr) (cl : List (Str × Addr)) (fp : List Addr) : PG (X.blk s H scope (compEnvC scope cl C X.env) fp) tg (tBG X scope tg) := ⟨fun pins s' σ H' v u Q I r h => h s H C cl fp pins s' u I r⟩
theorem peB {scope : Scope} {e : Expr} (s : Shared) (H : Hp) (C : Addr) (cl : List (Str × Addr)) (fp : List Addr) : PE (X.blk s H scope (compEnvC scope cl C X.env) fp) e (tB_ X scope e) := ⟨fun pins s' σ H' Q I h => h s H C cl fp pins s' I⟩
theorem piB {scope : Scope} {tg e : Expr} (s : Shared) (H : Hp) (C : Addr) (cl : List (Str × Addr)) (fp : List Addr) : PI (X.blk s H scope (compEnvC scope cl C X.env) fp) tg e (tBI X scope tg e) := ⟨fun pins s' σ H' R I h => h s H C cl fp pins s' I⟩
theorem df_lc {tg iter elt : Expr} {ifs : List Expr} {scope : Scope} {pos : Pos} {vs : List Nat} {ds out : List D} {f : D → Option (Option D)} (C : Ctx X N sc fs cs Φ) (hi : DI X F tg iter ρ ds) (ho : lcGo f ds = some out)
    (hst : ∀ d ∈ ds, ∀ r, f d = some r → Step X F (tBG X scope tg) (tBTs X scope ifs) (tB_ X scope elt) vs (wipeB ρ vs) d r) (ok : blkC N sc scope (ownOf N vs) = true) (hs : ∀ x, foldedSetIterable iter X.env x = pure x) :
    DF X F (.ListComp elt [⟨tg, iter, ifs, 0⟩] scope pos) ρ (.ow (.list out)) := by
  intro σ H H0 Q env k
  have okb : BlkOk X.N X.env.scope scope (ownOf N vs) := by rw [C.hN, C.hsc]; exact blkOk_by ok
  refine tOf_of (pe_lc C.calm (by rw [C.hN]; exact C.nd) pi_of okb pgB (fun s H D cl fp => ptsB s H D cl fp ifs) peB hs) ?_
  rw [ownOf_slots]
  exact lc_read hi ho hst env k
end
end OL

end
section
set_option Elab.async false
set_option linter.all false
set_option maxRecDepth 100000
set_option maxHeartbeats 4000000
namespace OL
open PySem PySem.Spec PyProof.Rows L2 RZ

section
variable {X : Cx} {F : Fx} {ρ : Env} {N : List Str} {sc : Scope} {fs : Str → Bool} {cs : List (Str × Key)} {Φ : Tab}
/-! ### two fors -/
theorem lcGo2_cons {f : D → Option (List D)} {d : D} {ds out : List D} (h : lcGo2 f (d :: ds) = some out) : ∃ r rest, f d = some r ∧ lcGo2 f ds = some rest ∧ out = r ++ rest := by
  unfold lcGo2 at h
  cases h1 : f d with
  | none => rw [h1] at h; cases h
  | some r =>
    rw [h1, Option.bind_some] at h
    cases h2 : lcGo2 f ds with
    | none => rw [h2] at h; cases h
    | some rest => rw [h2] at h; cases h; exact ⟨r, rest, rfl, rfl, rfl⟩
structure Turn2 (X : Cx) (F : Fx) (scope : Scope) (tg tg2 iter2 elt : Expr) (ifs2 : List Expr) (vs vs1 : List Nat) (ρw : Env) (d : D) (o : List D) : Prop where
  ex : ∃ ρ1 ds2 f, lcGo f ds2 = some o ∧
    (∀ (σ : L2.St) (H H0 : Hp) (v : V) (Q : L2.St → Hp → Prop), EnvOk X.K F H0 H σ ρw → RD X.K H0 v d → (∀ σ2, (∀ H', EnvOk X.K F H0 H' σ ρw → EnvOk X.K F H0 H' σ2 ρ1) → wipe σ2 vs = wipe σ vs → Q σ2 H) → tBG X scope tg v σ H Q) ∧
    (∀ (σ : L2.St) (H H0 : Hp) (R : It → Hp → Prop), EnvOk X.K F H0 H σ ρ1 → (∀ (J : It) (H' H0' : Hp), Post H0 H H0' H' → WalkD X.K J ds2 H0' → ds2.length ≤ 16777216 → R J H') → tBI X scope tg2 iter2 σ H R) ∧
    (∀ d2 ∈ ds2, ∀ r, f d2 = some r → Step X F (tBG X scope tg2) (tBTs X scope ifs2) (tB_ X scope elt) vs1 (wipeB ρ1 vs1) d2 r)
theorem lc2_read {tg iter tg2 iter2 elt : Expr} {ifs2 : List Expr} {scope : Scope} {vs vs1 : List Nat} {ds out : List D} {f : D → Option (List D)} (hi : DI X F tg iter ρ ds) (ho : lcGo2 f ds = some out) (hlen : out.length ≤ 16777216)
    (hst : ∀ d ∈ ds, ∀ o, f d = some o → Turn2 X F scope tg tg2 iter2 elt ifs2 vs vs1 (wipeB ρ vs) d o) {σ : L2.St} {H H0 : Hp} {Q : VK} (env : EnvOk X.K F H0 H σ ρ)
    (k : ∀ (v : V) (H' H0' : Hp) (fp : List Addr), Post H0 H H0' H' → Own X.K H0' H' v (.ow (.list out)) fp → (∀ a ∈ fp, H a = none ∧ H0' a = none) → Q v H') :
    tLc2 (tOfI X tg iter) (tBG X scope tg) (tBTs X scope []) (tBI X scope tg2 iter2) (tBG X scope tg2) (tBTs X scope ifs2) (tB_ X scope elt) vs vs1 σ H Q := by
  refine hi σ H H0 _ env fun J H1 H01 p1 w hl => ?_
  intro L nL
  let Inv1 : Nat → Hp → Prop := fun i H => ∃ dn rest, out = dn ++ rest ∧ lcGo2 f (ds.drop i) = some rest ∧ LInv X.K H01 H1 L H dn
  refine ⟨fun i m H => m = ds.length - i ∧ i ≤ ds.length ∧ Inv1 i H, ⟨_, rfl, Nat.zero_le _, [], out, rfl, ho, H01, [], upd_same, .nil, ?_⟩, ?_⟩
  · rw [era_upd, era_none nL]; exact Post.refl p1.c
  rintro i m H2 ⟨rfl, hi', dn, rest, eq, hr, ⟨H02, us, hLs, rv, pst⟩⟩
  have sH : Same H02 H2 := fun b o e => by
    have := pst.c _ _ e
    unfold era at this
    split at this
    · cases this
    · exact this
  have h0L : H02 L = none := by
    cases q : H02 L with
    | none => rfl
    | some o => have := pst.c _ _ q; rw [era_self] at this; cases this
  by_cases hlt : i < ds.length
  · refine .inr ⟨w.go i H2 H02 hlt pst.a sH, fun H' => Inv1 (i + 1) H', fun H' h' => ⟨_, by omega, rfl, hlt, h'⟩, fun x H3 hy => ?_⟩
    obtain ⟨H03, d, ed, p3, rd⟩ := w.yld i H2 H02 x H3 hlt pst.a sH hy
    have ed' : ds.drop i = d :: ds.drop (i + 1) := by
      rw [List.drop_eq_getElem_cons hlt]
      rw [List.getElem?_eq_getElem hlt] at ed
      cases ed; rfl
    rw [ed'] at hr
    obtain ⟨o, rest', hf, hr', rfl⟩ := lcGo2_cons hr
    obtain ⟨ρ1, ds2, f2, hg2, hG, hI, hS⟩ := (hst d (List.mem_of_getElem? ed) o hf).ex
    have p3e := p3.era hLs h0L
    have hLs3 : H3 L = some (.lst us) := p3.b.at hLs
    have h0L3 : H03 L = none := p3.d L (.inl ⟨_, hLs, rfl⟩) h0L
    have env1 : EnvOk X.K F H03 H3 (wipe σ vs) (wipeB ρ vs) := by
      have e1 := (((env.post p1).wipe vs).post pst).post p3e
      have e2 := e1.post (Post.own (p := L) (o := .lst us) e1.s era_self)
      rw [upd_era hLs3] at e2
      exact e2
    refine hG (wipe σ vs) H3 H03 x _ env1 rd fun σ2 env2 hw2 => ?_
    refine ⟨by rw [hw2, wipe_wipe], ?_⟩
    dsimp only [tBTs, tYes]
    rw [if_pos rfl]
    refine hI σ2 H3 H03 _ (env2 _ env1) fun J1 H4 H04 p4 w1 hl2 => ?_
    have hLs4 : H4 L = some (.lst us) := p4.b.at hLs3
    have h0L4 : H04 L = none := p4.d L (.inl ⟨_, hLs3, rfl⟩) h0L3
    have p4e := p4.era hLs3 h0L3
    have pall : Post H01 H1 H04 (era H4 L) := (pst.trans p3e).trans p4e
    have env3 : EnvOk X.K F H04 (era H4 L) σ2 ρ1 := by
      have e0 := (((env.post p1).wipe vs).post pst).post p3e
      exact (env2 _ e0).post p4e
    refine loop_lc (X := X) (F := F) (done := dn) (H0b := H04) (Hb := era H4 L) (Fin := fun H' => Inv1 (i + 1) H') w1 (Same.refl _) hg2 hS wipe_wipe (env3.wipe vs1) era_self ?_ ⟨H04, us, hLs4, (rv.mono p3.a).mono p4.a, ?_⟩ fun H' ⟨H0', us', h1, h2, h3⟩ => ?_
    · have e3 := congrArg List.length eq
      simp only [List.length_append] at e3 ⊢
      omega
    · exact Post.refl (p4e.c)
    · exact ⟨dn ++ o, rest', by rw [eq]; simp, hr', H0', us', h1, h2, pall.trans h3⟩
  · have e : i = ds.length := by omega
    subst e
    refine .inl ⟨w.stop H2 H02 pst.a sH, ?_⟩
    rw [List.drop_length] at hr
    cases hr
    rw [List.append_nil] at eq
    subst eq
    have p3 : Post H02 (era H2 L) H02 H2 := by
      have q := Post.own (H0 := H02) (H := era H2 L) (p := L) (o := .lst us) pst.c era_self
      rw [upd_era hLs] at q
      exact q
    refine k _ _ H02 [L] ((p1.trans pst).trans p3) (.lst hLs rv) fun a ha => ?_
    simp at ha; subst ha
    exact ⟨p1.b.free nL, h0L⟩
theorem df_lc2 {tg iter tg2 iter2 elt : Expr} {ifs2 : List Expr} {scope : Scope} {pos : Pos} {vs vs1 : List Nat} {ds out : List D} {f : D → Option (List D)} (C : Ctx X N sc fs cs Φ) (hi : DI X F tg iter ρ ds) (ho : lcGo2 f ds = some out) (hlen : out.length ≤ 16777216)
    (hst : ∀ d ∈ ds, ∀ o, f d = some o → Turn2 X F scope tg tg2 iter2 elt ifs2 vs vs1 (wipeB ρ vs) d o) (ok : blkC N sc scope (ownOf N vs) = true) (hv : ∀ i ∈ vs1, i ∈ vs) (hs : ∀ x, foldedSetIterable iter X.env x = pure x) (hs1 : ∀ env x, foldedSetIterable iter2 env x = pure x) :
    DF X F (.ListComp elt [⟨tg, iter, [], 0⟩, ⟨tg2, iter2, ifs2, 0⟩] scope pos) ρ (.ow (.list out)) := by
  intro σ H H0 Q env k
  have okb : BlkOk X.N X.env.scope scope (ownOf N vs) := by rw [C.hN, C.hsc]; exact blkOk_by ok
  refine tOf_of (pe_lc2 (vs1 := vs1) C.calm (by rw [C.hN]; exact C.nd) pi_of okb (by rw [ownOf_slots]; exact hv) pgB (fun s H D cl fp => ptsB s H D cl fp []) piB pgB (fun s H D cl fp => ptsB s H D cl fp ifs2) peB hs hs1) ?_
  rw [ownOf_slots]
  exact lc2_read hi ho hlen hst env k
/-! ### the block's context -/
theorem Ctx.blk (C : Ctx X N sc fs cs Φ) {scope : Scope} (s : Shared) (H : Hp) (D : Addr) (cl : List (Str × Addr)) (fp : List Addr) : Ctx (blkX X scope s H D cl fp) N (relS scope sc) (fun x => scope.names.lookup x == some .cell) cs Φ :=
  ⟨rfl, C.hN, C.nd, by rw [← C.hsc]; rfl, C.calm, C.blt, C.con, C.room, C.fns⟩
/-! ### owned things, read -/
theorem de_oix {i : Nat} {x : Str} {b : Expr} {xs : List D} {n : Int} {z : D} {p pos : Pos} (hN : X.N[i]? = some x) (hv : Vis X.env.scope x) (h1 : (x == ("__debug__" : Str)) = false) (h2 : (x == ("__classdict__" : Str)) = false)
    (hb : DE X F b ρ (.int n)) (ho : ρ[i]? = some (.ow (.list xs))) (h : L2.atI xs n = some z) (hp : PlainIx b) : DE X F (.Subscript (.Name x p) b pos) ρ z := by
  intro σ H H0 Q env k
  obtain ⟨v, fp, e, o⟩ := env.getOw ho
  cases o with | lst g r =>
  refine tOf_of (pe_ix ix_list (pe_var hN hv h1 h2) pe_of hp) ?_
  refine ⟨_, e, ?_⟩
  refine hb σ H H0 _ env fun w H2 H02 p2 r2 => ?_
  cases r2
  obtain ⟨u, eu, ru⟩ := (r.mono p2.a).atI h
  exact ⟨_, _, _, _, rfl, rfl, SqL.of (p2.b.at g), eu, (k.after p2).same p2.c ru⟩
theorem de_olen (C : Ctx X N sc fs cs Φ) {i : Nat} {x : Str} {xs : List D} {p p2 pos : Pos} (hg : Gl X "len") (hN : X.N[i]? = some x) (hv : Vis X.env.scope x) (h1 : (x == ("__debug__" : Str)) = false) (h2 : (x == ("__classdict__" : Str)) = false)
    (ho : ρ[i]? = some (.ow (.list xs))) : DE X F (.Call (.Name "len" p) [.Name x p2] [] pos) ρ (.int xs.length) := by
  intro σ H H0 Q env k
  obtain ⟨v, fp, e, o⟩ := env.getOw ho
  cases o with | lst g r =>
  refine tOf_of (pe_callB call_len_seq hg (C.blt _ (by decide)) boot_len (pa_cons (pe_var hN hv h1 h2) pa_nil rfl) (by decide) (by decide) rfl rfl) ?_
  refine ⟨_, e, ?_⟩
  refine ⟨_, _, rfl, .inl (SqL.of g), ?_⟩
  rw [r.length]
  exact k.same env.s (.int _)
theorem rdl_flat {K : PySem.W.Frag} {H : Hp} : ∀ {vs : List V} {ds : List D}, RDL K H vs ds → ds.all flatD = true → vs.all flatV = true
  | _, _, .nil, _ => rfl
  | _, _, .cons h t, e => by
    simp only [List.all_cons, Bool.and_eq_true] at e ⊢
    refine ⟨?_, rdl_flat t e.2⟩
    cases h <;> first | rfl | (cases e.1)
theorem eqV_eqv {K : PySem.W.Frag} {H : Hp} {v w : V} {x y : D} (r1 : RD K H v x) (r2 : RD K H w y) (h1 : flatD x = true) (h2 : flatD y = true) : eqV v w = PyData.eqv x y := by
  cases r1 <;> cases h1 <;> cases r2 <;> cases h2 <;> simp [eqV, PyData.eqv]
theorem inV_any {K : PySem.W.Frag} {H : Hp} {v : V} {x : D} (rx : RD K H v x) (hx : flatD x = true) : ∀ {vs : List V} {ds : List D}, RDL K H vs ds → ds.all flatD = true → inV v vs = ds.any fun z => PyData.eqv z x
  | _, _, .nil, _ => rfl
  | _, _, .cons h t, e => by
    simp only [List.all_cons, Bool.and_eq_true] at e
    have ih := inV_any rx hx t e.2
    unfold inV at ih ⊢
    simp only [List.any_cons, ih, eqV_eqv h rx e.1 hx]
theorem de_oin (C : Ctx X N sc fs cs Φ) {neg : Bool} {i : Nat} {x : Str} {a : Expr} {d : D} {b : Bool} {p pos : Pos} (hN : X.N[i]? = some x) (hv : Vis X.env.scope x) (h1 : (x == ("__debug__" : Str)) = false) (h2 : (x == ("__classdict__" : Str)) = false)
    (ha : DE X F a ρ d) (h : inO ρ[i]? d = some b) :
    (∀ (σ : L2.St) (H H0 : Hp) (Q : VK), EnvOk X.K F H0 H σ ρ → KE X H0 H (.bool (if neg then !b else b)) Q → tOp (opAny X (compareOp (if neg then .NotIn else .In))) (tOf X a) (tVar i) σ H Q) := by
  intro σ H H0 Q env k
  refine ha σ H H0 _ env fun v H1 H01 p1 r1 => ?_
  have env1 := env.post p1
  have hu := C.room
  cases hb : ρ[i]? with
  | none => rw [hb] at h; cases h
  | some bb =>
    rw [hb] at h
    unfold inO at h
    split at h
    · rename_i xs e
      cases e
      split at h
      · rename_i hf
        cases h
        obtain ⟨w, fp, e, o⟩ := env1.getOw hb
        cases o with | lst g r =>
        refine ⟨_, e, ?_⟩
        have e3 := inV_any r1 hf.1 r hf.2
        have hfv : flatV v = true := by
          have := rdl_flat (K := X.K) (H := H01) (vs := [v]) (ds := [d]) (.cons r1 .nil) (by simp [hf.1])
          simpa using this
        have kk := (k.after p1).same p1.c (.bl _)
        cases neg with
        | false => exact ⟨_, op_in_seq, _, _, rfl, .inl (SqL.of g), hfv, rdl_flat r hf.2, by simpa [e3] using kk⟩
        | true => exact ⟨_, op_notIn_seq, _, _, rfl, .inl (SqL.of g), hfv, rdl_flat r hf.2, by simpa [e3] using kk⟩
      · cases h
    · cases hl : lookO (some bb) d with
      | none => rw [hl] at h; cases h
      | some o =>
        rw [hl] at h
        cases h
        obtain ⟨fp, hs, hf⟩ := env1.sl
        have hi : i < σ.length := by rw [env1.len]; exact (List.getElem?_eq_some_iff.mp hb).1
        have q := hs i σ[i] bb (by simp [hi]) hb
        have own : ∃ w fp, σ[i]? = some (some w) ∧ Own X.K H01 H1 w bb fp := by
          cases bb with
          | un => cases hl
          | sh _ => cases hl
          | ow _ => obtain ⟨w, e, o⟩ := q; exact ⟨w, _, by rw [← e]; simp [hi], o⟩
          | on _ => obtain ⟨w, e, o⟩ := q; exact ⟨w, _, by rw [← e]; simp [hi], o⟩
          | er _ => cases hl
          | dk _ => obtain ⟨w, e, o⟩ := q; exact ⟨w, _, by rw [← e]; simp [hi], o⟩
        obtain ⟨w, fp', ew, ow⟩ := own
        obtain ⟨a', ov, rfl, isd, g, an⟩ := lookO_sound ow r1 p1.c hl
        refine ⟨_, ew, ?_⟩
        have kk := (k.after p1).same p1.c (.bl _)
        cases neg with
        | false => exact ⟨_, op_inDict (by omega), _, _, rfl, g, by rw [an.isSome]; exact kk⟩
        | true => exact ⟨_, op_notInDict (by omega), _, _, rfl, g, by rw [an.isSome]; exact kk⟩
end
end OL

end
section
set_option Elab.async false
set_option linter.all false
set_option maxRecDepth 100000
set_option maxHeartbeats 4000000
namespace OL
open PySem PySem.Spec PyProof.Rows L2 RZ

/-! ### statements -/
def WXof (X : Cx) (W : Str → L2.St → Hp → Prop) : WX := fun cls d σ H => ∃ x C, cls = .ref C ∧ d = none ∧ X.mg x = some (.ref C) ∧ W x σ H
def EndsOk (X : Cx) (F : Fx) (D : Ends) (W : Str → L2.St → Hp → Prop) : O → Prop
  | .nx ρ => ∀ σ H H0, EnvOk X.K F H0 H σ ρ → D.nx σ H
  | .rt d => ∀ v H H0, Post F.H0e F.He H0 H → RD X.K H0 v d → D.rt v H
  | .bk ρ => ∀ σ H H0, EnvOk X.K F H0 H σ ρ → D.bk σ H
  | .ex x => ∀ σ H H0 ρ, EnvOk X.K F H0 H σ ρ → W x σ H
def DS (X : Cx) (F : Fx) (st : Stmt) (ρ : Env) (o : O) : Prop := ∀ (σ : L2.St) (H H0 : Hp) (D : Ends) (W : Str → L2.St → Hp → Prop), Takes X (WXof X W) → EnvOk X.K F H0 H σ ρ → EndsOk X F D W o → tOfS X st D σ H
def DSs (X : Cx) (F : Fx) (st : List Stmt) (ρ : Env) (o : O) : Prop := ∀ (σ : L2.St) (H H0 : Hp) (D : Ends) (W : Str → L2.St → Hp → Prop), Takes X (WXof X W) → EnvOk X.K F H0 H σ ρ → EndsOk X F D W o → tOfSs X st D σ H
theorem EnvOk.fin {K : PySem.W.Frag} {F : Fx} {H0 H : Hp} {σ : L2.St} {ρ : Env} (e : EnvOk K F H0 H σ ρ) : Post F.H0e F.He H0 H := ⟨e.k0, e.ke, e.s, e.kn⟩

/-- the entry moved on: what is frozen now -/
theorem EnvOk.rebase {K : PySem.W.Frag} {F : Fx} {H0 H : Hp} {σ : L2.St} {ρ : Env} (e : EnvOk K F H0 H σ ρ) : EnvOk K ⟨F.He, H0⟩ H0 H σ ρ := by
  obtain ⟨fp, h1, h2⟩ := e.sl
  exact ⟨e.len, e.s, e.ke, Same.refl _, fun _ _ h => h, fp, h1, h2.dj, h2.at_⟩
theorem EnvOk.unbase {K : PySem.W.Frag} {F : Fx} {H1 H0 H : Hp} {σ : L2.St} {ρ : Env} (k0 : Same F.H0e H1) (kn : ∀ p, MuT F.He p → F.H0e p = none → H1 p = none) (e : EnvOk K ⟨F.He, H1⟩ H0 H σ ρ) : EnvOk K F H0 H σ ρ := by
  obtain ⟨fp, h1, h2⟩ := e.sl
  exact ⟨e.len, e.s, e.ke, k0.trans e.k0, fun p a b => e.kn p a (kn p a b), fp, h1, h2.dj, h2.at_⟩
theorem ends_rebase {X : Cx} {F : Fx} {H1 : Hp} {D : Ends} {W : Str → L2.St → Hp → Prop} {o : O} (k0 : Same F.H0e H1) (kn : ∀ p, MuT F.He p → F.H0e p = none → H1 p = none) (h : EndsOk X F D W o) : EndsOk X ⟨F.He, H1⟩ D W o := by
  cases o with
  | nx ρ => exact fun σ H H0 e => h σ H H0 (e.unbase k0 kn)
  | bk ρ => exact fun σ H H0 e => h σ H H0 (e.unbase k0 kn)
  | rt d => exact fun v H H0 p r => h v H H0 ⟨k0.trans p.a, p.b, p.c, fun q a b => p.d q a (kn q a b)⟩ r
  | ex x => exact fun σ H H0 ρ e => h σ H H0 ρ (e.unbase k0 kn)
theorem swaps_no {x : Expr} {t : Option Expr} {l : Nat} {env : PySem.Env} (h : ∀ a b c d, x ≠ .ListComp a b c d) (h2 : ∀ a b c d, x ≠ .SetComp a b c d) (h3 : ∀ a b c d e, x ≠ .DictComp a b c d e) : swapsWith x t l env = pure false := by
  cases x <;> first | rfl | exact absurd rfl (h _ _ _ _) | exact absurd rfl (h2 _ _ _ _) | exact absurd rfl (h3 _ _ _ _ _)
def isComp : Expr → Bool
  | .ListComp .. | .SetComp .. | .DictComp .. => true
  | _ => false
theorem swaps_no' {x : Expr} {t : Option Expr} {l : Nat} {env : PySem.Env} (h : isComp x = false) : swapsWith x t l env = pure false := by
  cases x <;> first | rfl | cases h
def isSet : Expr → Bool
  | .Set .. => true
  | _ => false
theorem folded_no {x : Expr} {env : PySem.Env} (h : isSet x = false) (v : Value) : foldedSetIterable x env v = pure v := by
  cases x <;> first | rfl | cases h
def isSlice : Expr → Bool
  | .Slice .. => true
  | _ => false
theorem plainIx_of {x : Expr} (h : isSlice x = false) : PlainIx x := by
  intro o i
  cases x <;> first | rfl | cases h
def isTup : Expr → Bool
  | .Tuple .. => true
  | _ => false
theorem swapped_no {tg x : Expr} {env : PySem.Env} (h : isTup x = false) : swappedStores [tg] x env = pure none := by
  cases x <;> first | (cases tg <;> rfl) | cases h
theorem marks_no {op : CmpOp} {x : Expr} (h : isSet x = false) : behindInMarks op x = false := by
  cases x <;> first | rfl | cases h
theorem last_no {o1 o2 : CmpOp} {b c : Expr} (h : isSet c = false) : lastMarks [o1, o2] [b, c] = false := marks_no h

section
variable {X : Cx} {F : Fx} {ρ : Env} {N : List Str} {sc : Scope} {fs : Str → Bool} {cs : List (Str × Key)} {Φ : Tab}
theorem dss_nil : DSs X F [] ρ (.nx ρ) := fun σ H H0 D W tk env k => tOfSs_of pss_nil (k σ H H0 env)
theorem dss_cons {st : Stmt} {r : List Stmt} {o1 o : O} (h1 : DS X F st ρ o1) (h2 : ∀ ρ1, o1 = .nx ρ1 → DSs X F r ρ1 o) (h3 : (∀ ρ1, o1 ≠ .nx ρ1) → o = o1) : DSs X F (st :: r) ρ o := by
  intro σ H H0 D W tk env k
  refine tOfSs_of (pss_cons ps_of pss_of) ?_
  refine h1 σ H H0 { D with nx := tOfSs X r D } W tk env ?_
  cases o1 with
  | nx ρ1 => exact fun σ' H' H0' env' => h2 ρ1 rfl σ' H' H0' D W tk env' k
  | rt d => rw [h3 (fun _ e => by cases e)] at k; exact k
  | bk ρ1 => rw [h3 (fun _ e => by cases e)] at k; exact k
  | ex x => rw [h3 (fun _ e => by cases e)] at k; exact k
theorem ds_ret {e : Expr} {d : D} {pos : Pos} (h : DE X F e ρ d) : DS X F (.Return (some e) pos) ρ (.rt d) := by
  intro σ H H0 D W tk env k
  refine tOfS_of (ps_ret pe_of) ?_
  exact h σ H H0 _ env fun v H1 H01 p1 r1 => k v H1 H01 (env.post p1).fin r1
theorem ds_brk {pos : Pos} : DS X F (.Break pos) ρ (.bk ρ) := fun σ H H0 D W tk env k => tOfS_of ps_break (k σ H H0 env)
theorem ds_if {c : Expr} {a b : List Stmt} {t : Bool} {o : O} {pos : Pos} (hc : DT X F c ρ t) (ha : t = true → DSs X F a ρ o) (hb : t = false → DSs X F b ρ o) : DS X F (.If c a b pos) ρ o := by
  intro σ H H0 D W tk env k
  refine tOfS_of (ps_if pt_of pss_of pss_of) ?_
  refine hc σ H H0 _ env fun H1 H01 p1 => ?_
  cases t with
  | true => rw [if_pos rfl]; exact ha rfl σ H1 H01 D W tk (env.post p1) k
  | false => rw [if_neg (by decide)]; exact hb rfl σ H1 H01 D W tk (env.post p1) k
theorem ds_for (po : PassesOwn (model X.prog X.w) X.A X.env X.xe) (hc : X.calm = true) {t : T} {tg iter : Expr} {body : List Stmt} {ds : List D} {f : Env → Option O} {o : O} {pos : Pos} (hi : DI X F tg iter ρ ds) (hset : isSet iter = false)
    (hg : ∀ {d : D} {ρ ρ' : Env} {H0 H : Hp} {σ : L2.St} {v : V} {Q : L2.St → Hp → Prop}, bindT t d ρ = some ρ' → RD X.K H0 v d → EnvOk X.K F H0 H σ ρ → (∀ σ', EnvOk X.K F H0 H σ' ρ' → Q σ' H) → tOfG X tg v σ H Q)
    (hb : ∀ (F' : Fx) ρ1 o1, F'.He = F.He → (∀ p, MuT F.He p → F.H0e p = none → F'.H0e p = none) → f ρ1 = some o1 → DSs X F' body ρ1 o1) (h : forGo t f ds ρ = some o) : DS X F (.For tg iter body [] pos) ρ o := by
  intro σ H H0 D W tk env k
  refine tOfS_of (ps_for po hc pi_of pg_of pss_of (folded_no hset)) ?_
  refine hi σ H H0 _ env fun J H1 H01 p1 w hl => ?_
  refine ⟨fun i m σ H => m = ds.length - i ∧ i ≤ ds.length ∧ ∃ H0 ρ, EnvOk X.K F H0 H σ ρ ∧ Same H01 H0 ∧ forGo t f (ds.drop i) ρ = some o, ⟨_, rfl, Nat.zero_le _, H01, ρ, env.post p1, Same.refl _, h⟩, ?_⟩
  rintro i m σ2 H2 ⟨rfl, hi', H02, ρ2, env2, sm, hf⟩
  by_cases hlt : i < ds.length
  · refine .inr ⟨w.go i H2 H02 hlt sm env2.s, fun σ' H' => ∃ H0 ρ, EnvOk X.K F H0 H' σ' ρ ∧ Same H01 H0 ∧ forGo t f (ds.drop (i + 1)) ρ = some o, fun σ' H' ⟨a, b, c⟩ => ⟨_, by omega, rfl, hlt, a, b, c⟩, fun x H3 hy => ?_⟩
    obtain ⟨H03, d, ed, p3, rd⟩ := w.yld i H2 H02 x H3 hlt sm env2.s hy
    have ed' : ds.drop i = d :: ds.drop (i + 1) := by
      rw [List.drop_eq_getElem_cons hlt]
      rw [List.getElem?_eq_getElem hlt] at ed
      cases ed; rfl
    rw [ed'] at hf
    unfold forGo at hf
    cases hb1 : bindT t d ρ2 with
    | none => rw [hb1] at hf; cases hf
    | some ρ3 =>
      rw [hb1, Option.bind_some] at hf
      cases hb2 : f ρ3 with
      | none => rw [hb2] at hf; cases hf
      | some o1 =>
        rw [hb2, Option.bind_some] at hf
        refine hg hb1 rd (env2.post p3) fun σ3 env3 => ?_
        have k0 : Same F.H0e H03 := env3.k0
        refine hb ⟨F.He, H03⟩ ρ3 o1 rfl env3.kn hb2 σ3 H3 H03 _ W tk env3.rebase ?_
        cases o1 with
        | nx ρ4 => exact fun σ' H' H0' env' => ⟨H0', ρ4, env'.unbase env3.k0 env3.kn, (sm.trans p3.a).trans env'.k0, hf⟩
        | bk ρ4 => cases hf; exact ends_rebase (o := .nx ρ4) env3.k0 env3.kn k
        | rt d => cases hf; exact ends_rebase (o := .rt d) env3.k0 env3.kn k
        | ex x => cases hf; exact ends_rebase (o := .ex x) env3.k0 env3.kn k
  · have e : i = ds.length := by omega
    subst e
    rw [List.drop_length] at hf
    cases hf
    exact .inl ⟨w.stop H2 H02 sm env2.s, k σ2 H2 H02 env2⟩
theorem ds_while (po : PassesOwn (model X.prog X.w) X.A X.env X.xe) {c : Expr} {body : List Stmt} {g : Env → Option Bool} {f : Env → Option O} {o : O} {n : Nat} {pos : Pos} (hc : ∀ ρ1 b, g ρ1 = some b → DT X F c ρ1 b)
    (hb : ∀ ρ1 o1, f ρ1 = some o1 → DSs X F body ρ1 o1) (h : whileGo g f n ρ = some o) : DS X F (.While c body [] pos) ρ o := by
  intro σ H H0 D W tk env k
  refine tOfS_of (ps_while po pt_of pss_of) ?_
  refine ⟨fun m σ H => ∃ H0 ρ, EnvOk X.K F H0 H σ ρ ∧ whileGo g f m ρ = some o, ⟨n, H0, ρ, env, h⟩, ?_⟩
  rintro m σ2 H2 ⟨H02, ρ2, env2, hw⟩
  cases m with
  | zero => cases hw
  | succ m =>
    unfold whileGo at hw
    cases h1 : g ρ2 with
    | none => rw [h1] at hw; cases hw
    | some b =>
      rw [h1, Option.bind_some] at hw
      refine hc ρ2 b h1 σ2 H2 H02 _ env2 fun H3 H03 p3 => ?_
      cases b with
      | false =>
        rw [if_neg (by decide)] at hw ⊢
        cases hw
        exact k σ2 H3 H03 (env2.post p3)
      | true =>
        rw [if_pos rfl] at hw ⊢
        cases h2 : f ρ2 with
        | none => rw [h2] at hw; cases hw
        | some o1 =>
          rw [h2, Option.bind_some] at hw
          refine ⟨fun σ' H' => ∃ H0 ρ, EnvOk X.K F H0 H' σ' ρ ∧ whileGo g f m ρ = some o, fun σ' H' q => ⟨m, by omega, q⟩, ?_⟩
          refine hb ρ2 o1 h2 σ2 H3 H03 _ W tk (env2.post p3) ?_
          cases o1 with
          | nx ρ4 => exact fun σ' H' H0' env' => ⟨H0', ρ4, env', hw⟩
          | bk ρ4 => cases hw; exact k
          | rt d => cases hw; exact k
          | ex x => cases hw; exact k
/-! ### assignments -/
theorem ds_set {i : Nat} {y : Str} {e : Expr} {d : D} {p pos : Pos} (hN : X.N.Nodup) (hi : X.N[i]? = some y) (hx : Loc X.env.scope y) (hf : X.fn y = true ∨ X.env.scope.names.lookup y = some .local) (h : DE X F e ρ d)
    (hs : swapsWith e (some (.Name y p)) pos.line X.env = pure false) : DS X F (.Assign [.Name y p] e pos) ρ (.nx (ρ.set i (.sh d))) := by
  intro σ H H0 D W tk env k
  refine tOfS_of (ps_set hN hi hx pe_of hs hf) ?_
  exact h σ H H0 _ env fun v H1 H01 p1 r1 => k _ _ H01 ((env.post p1).setSh r1)
def isOwn : B → Bool
  | .un | .sh _ | .er _ => false
  | _ => true
theorem EnvOk.setOwn {K : PySem.W.Frag} {H0 H H0' H' : Hp} {σ : L2.St} (env : EnvOk K F H0 H σ ρ) (p1 : Post H0 H H0' H') {i : Nat} {v : V} {b : B} {fp : List Addr} (hb : isOwn b = true) (o : Own K H0' H' v b fp) (hf : ∀ a ∈ fp, H a = none ∧ H0' a = none) : EnvOk K F H0' H' (σ.set i (some v)) (ρ.set i b) := by
  have th : ∀ a ∈ fp, Mu H' a := by
    cases o with
    | lst h r => intro p hp; simp at hp; subst hp; exact ⟨_, h, rfl⟩
    | dT h r => intro p hp; simp at hp; subst hp; exact ⟨_, h, rfl⟩
    | dK h r => intro p hp; simp at hp; subst hp; exact ⟨_, h, rfl⟩
    | nest h r n =>
      intro p hp
      rcases List.mem_cons.mp hp with rfl | hp
      · exact ⟨_, h, rfl⟩
      · have all : ∀ {ps : List Addr} {ds : List D}, OwnLs K H0' H' ps ds → ∀ p ∈ ps, Mu H' p := by
          intro ps ds o
          induction o with
          | nil => intro p hp; cases hp
          | cons h r t ih =>
            intro p hp
            rcases List.mem_cons.mp hp with rfl | hp
            · exact ⟨_, h, rfl⟩
            · exact ih p hp
        exact all r p hp
  have heF : ∀ a ∈ fp, F.He a = none := fun a ha => env.ke.free (hf a ha).1
  have hnew : SlotOk K H0' H' (some v) b fp := by
    cases b with
    | un => cases hb
    | sh _ => cases hb
    | ow d => exact ⟨v, rfl, o⟩
    | on d => exact ⟨v, rfl, o⟩
    | er _ => cases hb
    | dk d => exact ⟨v, rfl, o⟩
  obtain ⟨fp0, h1, h2⟩ := env.sl
  have e := env.post p1
  refine ⟨by simp [env.len], e.s, e.ke, e.k0, e.kn, upF fp0 i fp, fun j w c hw hc => ?_, ⟨fun j k a hjk ha hb => ?_, fun j a ha => ?_⟩⟩
  · by_cases hj : j = i
    · subst hj
      have hs : j < σ.length := by
        have := (List.getElem?_eq_some_iff.mp hw).1
        simpa using this
      rw [List.getElem?_set_self hs] at hw
      rw [List.getElem?_set_self (by rw [← env.len]; exact hs)] at hc
      cases hw
      cases hc
      simp only [upF, if_true]
      exact hnew
    · rw [List.getElem?_set_ne (Ne.symm hj)] at hw hc
      simp only [upF, if_neg hj]
      exact (h1 j w c hw hc).mono p1.a fun q hq o z => (h2.at_ j q hq).2.2.keep p1.b z
  · unfold upF at ha hb
    by_cases hj : j = i
    · rw [if_pos hj] at ha
      rw [if_neg (by intro z; exact hjk (hj.trans z.symm))] at hb
      exact (h2.at_ k a hb).2.2.ne (hf a ha).1
    · rw [if_neg hj] at ha
      by_cases hk : k = i
      · rw [if_pos hk] at hb
        exact (h2.at_ j a ha).2.2.ne (hf a hb).1
      · rw [if_neg hk] at hb
        exact h2.dj j k a hjk ha hb
  · unfold upF at ha
    by_cases hj : j = i
    · rw [if_pos hj] at ha
      exact ⟨heF a ha, (hf a ha).2, th a ha⟩
    · rw [if_neg hj] at ha
      obtain ⟨x, y, z⟩ := h2.at_ j a ha
      exact ⟨x, p1.d a (.inl z) y, z.mono p1.b⟩
theorem ds_setO {i : Nat} {y : Str} {e : Expr} {b : B} {p pos : Pos} (hN : X.N.Nodup) (hi : X.N[i]? = some y) (hx : Loc X.env.scope y) (hf : X.fn y = true ∨ X.env.scope.names.lookup y = some .local) (h : DF X F e ρ b) (hb : isOwn b = true)
    (hs : swapsWith e (some (.Name y p)) pos.line X.env = pure false) : DS X F (.Assign [.Name y p] e pos) ρ (.nx (ρ.set i b)) := by
  intro σ H H0 D W tk env k
  refine tOfS_of (ps_set hN hi hx pe_of hs hf) ?_
  exact h σ H H0 _ env fun v H1 H01 fp p1 o hf => k _ _ H01 (env.setOwn p1 hb o hf)
/-- name = [..] on one line -/
theorem ds_lc (C : Ctx X N sc fs cs Φ) {i : Nat} {y : Str} {tg iter elt : Expr} {ifs : List Expr} {scope : Scope} {p pos spos : Pos} {vs : List Nat} {ds out : List D} {f : D → Option (Option D)} {m : M} {b : B} (hi : DI X F tg iter ρ ds) (ho : lcGo f ds = some out)
    (hst : ∀ d ∈ ds, ∀ r, f d = some r → Step X F (tBG X scope tg) (tBTs X scope ifs) (tB_ X scope elt) vs (wipeB ρ vs) d r) (ok : blkC N sc scope (ownOf N vs) = true) (hset : isSet iter = false)
    (hy : N[i]? = some y) (hl : locB sc fs y = true) (hb : b = .sh (.list out) ∨ b = .ow (.list out)) : DS X F (.Assign [.Name y p] (.ListComp elt [⟨tg, iter, ifs, 0⟩] scope pos) spos) ρ (.nx (ρ.set i b)) := by
  have hN : X.N.Nodup := by rw [C.hN]; exact C.nd
  have hy' : X.N[i]? = some y := by rw [C.hN]; exact hy
  obtain ⟨l1, l2⟩ := locB_ok C.hsc C.hfs hl
  have okb : BlkOk X.N X.env.scope scope (ownOf N vs) := by rw [C.hN, C.hsc]; exact blkOk_by ok
  have hdf := df_lc C (pos := pos) hi ho hst ok (folded_no hset)
  cases hsw : (X.env.blockKind == .function && X.env.kindOf y == some .local && p.line == (Expr.ListComp elt [⟨tg, iter, ifs, 0⟩] scope pos).pos.line && !(scope.names.any fun (n, k) => n == y && (k == .local || k == .cell))) with
  | false =>
    have hs : swapsWith (.ListComp elt [⟨tg, iter, ifs, 0⟩] scope pos) (some (.Name y p)) spos.line X.env = pure false := by
      unfold swapsWith
      exact congrArg pure hsw
    rcases hb with rfl | rfl
    · exact ds_set hN hy' l1 l2 (de_of_df hdf) hs
    · exact ds_setO hN hy' l1 l2 hdf rfl hs
  | true =>
    have hs : swapsWith (.ListComp elt [⟨tg, iter, ifs, 0⟩] scope pos) (some (.Name y p)) spos.line X.env = pure true := by
      unfold swapsWith
      exact congrArg pure hsw
    have hyl : X.env.scope.names.lookup y = some .local := by
      simp only [Bool.and_eq_true] at hsw
      have := hsw.1.1.2
      cases q : X.env.scope.names.lookup y with
      | none =>
        have e : X.env.kindOf y = none := q
        rw [e] at this; cases this
      | some kk =>
        have e : X.env.kindOf y = some kk := q
        rw [e] at this
        cases kk <;> first | rfl | cases this
    intro σ H H0 D W tk env k
    refine tOfS_of (ps_setLc C.calm hN hy' hyl hs pi_of okb pgB (fun s H D cl fp => ptsB s H D cl fp ifs) peB (folded_no hset)) ?_
    rw [ownOf_slots]
    refine lc_read hi ho hst env fun v H' H0' fp p1 o hf => ?_
    rcases hb with rfl | rfl
    · cases o with | @lst a vs' _ g r =>
      obtain ⟨n1, n2⟩ := hf a (by simp)
      have p2 : Post H0 H (upd H0' a (.lst vs')) H' := ⟨p1.a.trans (same_upd n2), p1.b, fun b u e => by
        by_cases hb : b = a
        · subst hb; rw [upd_same] at e; rw [← e]; exact g
        · rw [upd_ne hb] at e; exact p1.c _ _ e, fun q hq e => by
        have : q ≠ a := fun z => hq.ne (by rw [z]; exact n1)
        rw [upd_ne this]; exact p1.d q hq e⟩
      exact k _ _ _ ((env.post p2).setSh (.lst (SqL.of upd_same) (r.mono (same_upd n2))))
    · exact k _ _ _ (env.setOwn p1 rfl o hf)
end
end OL

end
section
set_option Elab.async false
set_option linter.all false
set_option maxRecDepth 100000
set_option maxHeartbeats 4000000
namespace OL
open PySem PySem.Spec PyProof.Rows L2 RZ

section
variable {X : Cx} {F : Fx} {ρ : Env} {N : List Str} {sc : Scope} {fs : Str → Bool} {cs : List (Str × Key)} {Φ : Tab}
/-! ### name = [.. for .. for ..] -/
theorem ds_lc2 (C : Ctx X N sc fs cs Φ) {i : Nat} {y : Str} {tg iter tg2 iter2 elt : Expr} {ifs2 : List Expr} {scope : Scope} {p pos spos : Pos} {vs vs1 : List Nat} {ds out : List D} {f : D → Option (List D)} {b : B} (hi : DI X F tg iter ρ ds) (ho : lcGo2 f ds = some out) (hlen : out.length ≤ 16777216)
    (hst : ∀ d ∈ ds, ∀ o, f d = some o → Turn2 X F scope tg tg2 iter2 elt ifs2 vs vs1 (wipeB ρ vs) d o) (ok : blkC N sc scope (ownOf N vs) = true) (hv : ∀ i ∈ vs1, i ∈ vs) (hset : isSet iter = false) (hset2 : isSet iter2 = false)
    (hy : N[i]? = some y) (hl : locB sc fs y = true) (hb : b = .sh (.list out) ∨ b = .ow (.list out)) : DS X F (.Assign [.Name y p] (.ListComp elt [⟨tg, iter, [], 0⟩, ⟨tg2, iter2, ifs2, 0⟩] scope pos) spos) ρ (.nx (ρ.set i b)) := by
  have hN : X.N.Nodup := by rw [C.hN]; exact C.nd
  have hy' : X.N[i]? = some y := by rw [C.hN]; exact hy
  obtain ⟨l1, l2⟩ := locB_ok C.hsc C.hfs hl
  have okb : BlkOk X.N X.env.scope scope (ownOf N vs) := by rw [C.hN, C.hsc]; exact blkOk_by ok
  have hdf := df_lc2 C (pos := pos) hi ho hlen hst ok hv (folded_no hset) (fun env x => folded_no hset2 x)
  cases hsw : (X.env.blockKind == .function && X.env.kindOf y == some .local && p.line == (Expr.ListComp elt [⟨tg, iter, [], 0⟩, ⟨tg2, iter2, ifs2, 0⟩] scope pos).pos.line && !(scope.names.any fun (n, k) => n == y && (k == .local || k == .cell))) with
  | false =>
    have hs : swapsWith (.ListComp elt [⟨tg, iter, [], 0⟩, ⟨tg2, iter2, ifs2, 0⟩] scope pos) (some (.Name y p)) spos.line X.env = pure false := by
      unfold swapsWith
      exact congrArg pure hsw
    rcases hb with rfl | rfl
    · exact ds_set hN hy' l1 l2 (de_of_df hdf) hs
    · exact ds_setO hN hy' l1 l2 hdf rfl hs
  | true =>
    have hs : swapsWith (.ListComp elt [⟨tg, iter, [], 0⟩, ⟨tg2, iter2, ifs2, 0⟩] scope pos) (some (.Name y p)) spos.line X.env = pure true := by
      unfold swapsWith
      exact congrArg pure hsw
    have hyl : X.env.scope.names.lookup y = some .local := by
      simp only [Bool.and_eq_true] at hsw
      have := hsw.1.1.2
      cases q : X.env.scope.names.lookup y with
      | none =>
        have e : X.env.kindOf y = none := q
        rw [e] at this; cases this
      | some kk =>
        have e : X.env.kindOf y = some kk := q
        rw [e] at this
        cases kk <;> first | rfl | cases this
    intro σ H H0 D W tk env k
    refine tOfS_of (ps_setLc2 (vs1 := vs1) C.calm hN hy' hyl hs pi_of okb (by rw [ownOf_slots]; exact hv) pgB (fun s H D cl fp => ptsB s H D cl fp []) piB pgB (fun s H D cl fp => ptsB s H D cl fp ifs2) peB (folded_no hset) (fun env x => folded_no hset2 x)) ?_
    rw [ownOf_slots]
    refine lc2_read hi ho hlen hst env fun v H' H0' fp p1 o hf => ?_
    rcases hb with rfl | rfl
    · cases o with | @lst a vs' _ g r =>
      obtain ⟨n1, n2⟩ := hf a (by simp)
      have p2 : Post H0 H (upd H0' a (.lst vs')) H' := ⟨p1.a.trans (same_upd n2), p1.b, fun b u e => by
        by_cases hb : b = a
        · subst hb; rw [upd_same] at e; rw [← e]; exact g
        · rw [upd_ne hb] at e; exact p1.c _ _ e, fun q hq e => by
        have : q ≠ a := fun z => hq.ne (by rw [z]; exact n1)
        rw [upd_ne this]; exact p1.d q hq e⟩
      exact k _ _ _ ((env.post p2).setSh (.lst (SqL.of upd_same) (r.mono (same_upd n2))))
    · exact k _ _ _ (env.setOwn p1 rfl o hf)
theorem sole_no {tg x : Expr} {l : Nat} {env : PySem.Env} (h : isComp x = false) : swapsWithSole [tg] x l env = pure false := swaps_no' h
/-! ### (a, b) = e -/
theorem ds_unp (C : Ctx X N sc fs cs Φ) {t : T} {tg e : Expr} {d : D} {ρ' : Env} {pos : Pos} (ht : isT N sc fs t tg = true) (hs0 : notStar tg = true) (h : DE X F e ρ d) (hb : bindT t d ρ = some ρ') (hc : isComp e = false) (htp : isTup e = false) : DS X F (.Assign [tg] e pos) ρ (.nx ρ') := by
  intro σ H H0 D W tk env k
  refine tOfS_of (ps_asg pe_of pg_of (swaps_no' hc) (swapped_no htp) (by rw [asg_cons hs0]; rfl)) ?_
  refine h σ H H0 _ env fun v H1 H01 p1 r1 => ?_
  exact dg C.hN C.nd C.hsc C.hfs C.calm ht hb r1 (env.post p1) fun σ' env' _ => k _ _ H01 (env' _ (env.post p1))
/-! ### owned lists, changed -/
theorem EnvOk.mutL {K : PySem.W.Frag} {H0 H : Hp} {σ : L2.St} (env : EnvOk K F H0 H σ ρ) {i : Nat} {a : Addr} {xs ys : List D} {us ws : List V} (hv : σ[i]? = some (some (.ref a))) (hb : ρ[i]? = some (.ow (.list xs))) (hH : H a = some (.lst us)) (r : RDL K H0 ws ys) :
    EnvOk K F H0 (upd H a (.lst ws)) σ (ρ.set i (.ow (.list ys))) := by
  refine env.mut hv hb fun fp q _ => ?_
  obtain ⟨u, e, o⟩ := q
  cases e
  cases o with | lst g r0 =>
  refine ⟨⟨_, rfl, .lst upd_same r⟩, fun c hc => upd_ne (by simpa using hc), fun c hc => ?_⟩
  simp at hc; subst hc
  exact ⟨_, upd_same, rfl⟩
theorem few1 {e : Expr} {pos : Pos} {env : PySem.Env} (hs : notStar e = true) : ((backTo pos (starEach [e] env)).all (fun x => !x.1) && (backToKw pos (keywordEach [] env)).all (fun x => x.1.isSome)
      && decide (([e] : List Expr).length + ([] : List Keyword).length + (if ([] : List Keyword).isEmpty then 0 else 1) < 30)) = true := by
  rw [star_cons hs]; rfl
theorem ds_app (C : Ctx X N sc fs cs Φ) {i : Nat} {x : Str} {e : Expr} {xs : List D} {d : D} {p apos cpos pos : Pos} (hN : X.N[i]? = some x) (hv : Vis X.env.scope x) (h1 : (x == ("__debug__" : Str)) = false) (h2 : (x == ("__classdict__" : Str)) = false)
    (he : DE X F e ρ d) (hs : notStar e = true) (ho : ρ[i]? = some (.ow (.list xs))) (hl : xs.length < 16777216) (hline : (apos.endLine == cpos.line) = true) :
    DS X F (.Expr (.Call (.Attribute (.Name x p) "append" apos) [e] [] cpos) pos) ρ (.nx (ρ.set i (.ow (.list (xs ++ [d]))))) := by
  intro σ H H0 D W tk env k
  refine tOfS_of (ps_expr (pe_bm PySem.F.plainAttrs_list PySem.F.slot_list_append PySem.F.type_list_append mt_append (pe_var hN hv h1 h2) (pa_cons pe_of pa_nil (star_cons hs)) rfl (few1 hs) hline (star_cons hs) rfl) rfl) ?_
  obtain ⟨v, fp, ev, o⟩ := env.getOw ho
  cases o with | lst g r =>
  refine ⟨_, ev, .inl ⟨rfl, _, SqL.of g⟩, ?_⟩
  refine he σ H H0 _ env fun w H1 H01 p1 r1 => ?_
  refine ⟨_, _, _, rfl, rfl, p1.b.at g, by rw [r.length, ← sz]; exact hl, ?_⟩
  exact k _ _ H01 ((env.post p1).mutL ev ho (p1.b.at g) ((r.mono p1.a).append (.cons r1 .nil)))
/-- list.extend of a list or tuple -/
theorem list_extendW (l : Addr) (items : Array Value) (n : Nat) (b : Addr) (items2 : Array Value) (n2 : Nat) (dd2 : Option Addr) (sl2 : Array (Option Value)) (hc0 : ¬(!items.isEmpty && Builtin.List.listTooLong (items.size + items2.size)) = true) (hc1 : items.size ≤ sizeLine) (hs2 : items.size + items2.size ≤ sizeLine + 1) :
    Meets (Builtin.«list.extend» ⟨[.ref l, .ref b], []⟩) (fun _ R s => s.heap.get? l = some { cls := .type "list", dict := none, data := .seq items n, slots := #[] } ∧ s.heap.get? b = some { cls := .type "list", dict := dd2, data := .seq items2 n2, slots := sl2 } ∧ R (.ok (.ret Value.none)) { s with heap := s.heap.update l (Obj.mapSeq fun x => x ++ items2), toks := s.toks }) :=
  .of_wp fun prog w A R s h => by
    obtain ⟨hp, g, d, tk, os⟩ := s; obtain ⟨hl, hb, h⟩ := h; have f1 := AutoSeq1.idx_int; have f2 := AutoSeq1.sub_tuple_tuple; have f3 := AutoSeq1.sub_list_list; have f4 := AutoSeq1.sub_tuple_list; have f5 := AutoSeq1.sub_list_tuple;
    have hz' : (items ++ items2).size ≤ sizeLine + 1 := by rw [Array.size_append]; exact hs2
    wp_walk using (wpAny_updateSeq hl rfl (hz := hc1) (_hz' := hz')), wpAny_loadPart' hl, wpAny_loadPart' hb; exact ⟨_, rfl, h⟩
theorem list_extendWT (l : Addr) (items : Array Value) (n : Nat) (b : Addr) (items2 : Array Value) (n2 : Nat) (dd2 : Option Addr) (sl2 : Array (Option Value)) (hc0 : ¬(!items.isEmpty && Builtin.List.listTooLong (items.size + items2.size)) = true) (hc1 : items.size ≤ sizeLine) (hs2 : items.size + items2.size ≤ sizeLine + 1) :
    Meets (Builtin.«list.extend» ⟨[.ref l, .ref b], []⟩) (fun _ R s => s.heap.get? l = some { cls := .type "list", dict := none, data := .seq items n, slots := #[] } ∧ s.heap.get? b = some { cls := .type "tuple", dict := dd2, data := .seq items2 n2, slots := sl2 } ∧ R (.ok (.ret Value.none)) { s with heap := s.heap.update l (Obj.mapSeq fun x => x ++ items2), toks := s.toks }) :=
  .of_wp fun prog w A R s h => by
    obtain ⟨hp, g, d, tk, os⟩ := s; obtain ⟨hl, hb, h⟩ := h; have f1 := AutoSeq1.idx_int; have f2 := AutoSeq1.sub_tuple_tuple; have f3 := AutoSeq1.sub_list_list; have f4 := AutoSeq1.sub_tuple_list; have f5 := AutoSeq1.sub_list_tuple;
    have hz' : (items ++ items2).size ≤ sizeLine + 1 := by rw [Array.size_append]; exact hs2
    wp_walk using (wpAny_updateSeq hl rfl (hz := hc1) (_hz' := hz')), wpAny_loadPart' hl, wpAny_loadPart' hb; exact ⟨_, rfl, h⟩
def rExtA (K : PySem.W.Frag) : V → List V → Hp → VK → Prop := fun x vs H Q => ∃ l b xs zs, x = .ref l ∧ vs = [.ref b] ∧ H l = some (.lst xs) ∧ (SqL K H b zs ∨ SqT K H b zs) ∧ xs.length + zs.length ≤ sizeLine ∧ Q .non (upd H l (.lst (xs ++ zs)))
theorem mt_extA : MtM X "list.extend" (rExtA X.K) := by
  intro pins s σ H x vs v us Q I rx rv h
  obtain ⟨l, b, xs, zs, rfl, rfl, hH, hB, hz, q⟩ := h
  cases rx
  obtain ⟨u, rfl, ru⟩ := rv.one
  cases ru
  obtain ⟨z, its, n, r, hl, e⟩ := I.lstM hH
  have fin : ∀ {its2 : List Value}, Vals zs its2 → ∃ (V : V) (H' : Hp), Inv X pins σ H' { s with heap := s.heap.update l (Obj.mapSeq fun x => x ++ its2.toArray), toks := s.toks } ∧ RelV V Value.none ∧ Q V H' := fun {its2} r2 => by
    refine ⟨.non, _, I.lset (its' := its ++ its2) hH e (by simp) (r.append r2) ?_, rfl, q⟩
    rw [List.length_append]
    omega
  rcases hB with hB | hB
  · obtain ⟨its2, r2, ⟨⟨cls2, dd2, data2, sl2⟩, n2, ho2, hc2, hdd2, hd2⟩, z2⟩ := I.list hB
    simp only at hc2 hd2
    subst hc2 hd2
    have hl2 := r2.length
    have hsz : its.toArray.size + its2.toArray.size ≤ sizeLine := by rw [List.size_toArray, List.size_toArray]; omega
    have hlong : ¬ (!its.toArray.isEmpty && Builtin.List.listTooLong (its.toArray.size + its2.toArray.size)) = true := by
      rw [notLongL hsz, Bool.and_false]
      exact Bool.false_ne_true
    refine call_meets PySem.F.slot_list_extend ⟨_, e, rfl⟩ PySem.F.entry_list_extend (PySem.F.args_list_extend_2 _ _)
      (list_extendW l its.toArray n b its2.toArray n2 dd2 sl2 hlong (by rw [List.size_toArray]; omega) (by omega)) ⟨e, ho2, ?_⟩
    exact fin r2
  · obtain ⟨its2, r2, ⟨⟨cls2, dd2, data2, sl2⟩, ho2, hc2, n2, hd2⟩, z2⟩ := I.tuple hB
    simp only at hc2 hd2
    subst hc2 hd2
    have hl2 := r2.length
    have hsz : its.toArray.size + its2.toArray.size ≤ sizeLine := by rw [List.size_toArray, List.size_toArray]; omega
    have hlong : ¬ (!its.toArray.isEmpty && Builtin.List.listTooLong (its.toArray.size + its2.toArray.size)) = true := by
      rw [notLongL hsz, Bool.and_false]
      exact Bool.false_ne_true
    refine call_meets PySem.F.slot_list_extend ⟨_, e, rfl⟩ PySem.F.entry_list_extend (PySem.F.args_list_extend_2 _ _)
      (list_extendWT l its.toArray n b its2.toArray n2 dd2 sl2 hlong (by rw [List.size_toArray]; omega) (by omega)) ⟨e, ho2, ?_⟩
    exact fin r2
theorem ds_ext (C : Ctx X N sc fs cs Φ) {i : Nat} {x : Str} {e : Expr} {xs ys : List D} {d : D} {p apos cpos pos : Pos} (hN : X.N[i]? = some x) (hv : Vis X.env.scope x) (h1 : (x == ("__debug__" : Str)) = false) (h2 : (x == ("__classdict__" : Str)) = false)
    (he : DE X F e ρ d) (hd : seqD d = some ys) (hs : notStar e = true) (ho : ρ[i]? = some (.ow (.list xs))) (hl : xs.length + ys.length ≤ 16777216) (hline : (apos.endLine == cpos.line) = true) :
    DS X F (.Expr (.Call (.Attribute (.Name x p) "extend" apos) [e] [] cpos) pos) ρ (.nx (ρ.set i (.ow (.list (xs ++ ys))))) := by
  intro σ H H0 D W tk env k
  refine tOfS_of (ps_expr (pe_bm PySem.F.plainAttrs_list PySem.F.slot_list_extend PySem.F.type_list_extend mt_extA (pe_var hN hv h1 h2) (pa_cons pe_of pa_nil (star_cons hs)) rfl (few1 hs) hline (star_cons hs) rfl) rfl) ?_
  obtain ⟨v, fp, ev, o⟩ := env.getOw ho
  cases o with | lst g r =>
  refine ⟨_, ev, .inl ⟨rfl, _, SqL.of g⟩, ?_⟩
  refine he σ H H0 _ env fun w H1 H01 p1 r1 => ?_
  have fin : ∀ {zs : List V}, RDL X.K H01 zs ys → D.nx σ (upd H1 _ (.lst (_ ++ zs))) := fun rz => k _ _ H01 ((env.post p1).mutL ev ho (p1.b.at g) ((r.mono p1.a).append rz))
  cases r1 with
  | lst g1 rz =>
    cases hd
    exact ⟨_, _, _, _, rfl, rfl, p1.b.at g, .inl (p1.c.seq g1), by rw [r.length, rz.length, ← sz]; exact hl, fin rz⟩
  | tup g1 rz =>
    cases hd
    exact ⟨_, _, _, _, rfl, rfl, p1.b.at g, .inr (SqT.of (p1.c _ _ g1)), by rw [r.length, rz.length, ← sz]; exact hl, fin rz⟩
  | _ => cases hd
/-- x[k] = e -/
theorem asg_sub {o i : Expr} {pos : Pos} {env : PySem.Env} (h : isSlice i = false) (v : Value) : assign (.Subscript o i pos) env v = (do
      let ov ← holding [v] (eval o env)
      let iv ← holding [v, ov] (eval i env)
      standAt pos
      holding [v, ov, iv] (setItem ov iv v)
      release [v, ov, iv] []) := by
  cases i <;> first | rfl | cases h
theorem swapped_sub {o i e : Expr} {p : Pos} {env : PySem.Env} : swappedStores [.Subscript o i p] e env = pure none := by
  cases e <;> rfl
theorem ds_put {i : Nat} {x : Str} {e b : Expr} {xs : List D} {d : D} {n : Int} {j : Nat} {p q pos : Pos} (hN : X.N[i]? = some x) (hv : Vis X.env.scope x) (h1 : (x == ("__debug__" : Str)) = false) (h2 : (x == ("__classdict__" : Str)) = false)
    (he : DE X F e ρ d) (hb : DE X F b ρ (.int n)) (ho : ρ[i]? = some (.ow (.list xs))) (hj : ixN xs.length n = some j) (hc : isComp e = false) (hsl : isSlice b = false) :
    DS X F (.Assign [.Subscript (.Name x p) b q] e pos) ρ (.nx (ρ.set i (.ow (.list (xs.set j d))))) := by
  intro σ H H0 D W tk env k
  refine tOfS_of (ps_asg pe_of (pg_sub (pe_var hN hv h1 h2) pe_of set_list (asg_sub hsl)) (sole_no hc) swapped_sub rfl) ?_
  refine he σ H H0 _ env fun w H1 H01 p1 r1 => ?_
  obtain ⟨v, fp, ev, o⟩ := (env.post p1).getOw ho
  cases o with | lst g r =>
  refine ⟨_, ev, ?_⟩
  refine hb σ H1 H01 _ (env.post p1) fun u H2 H02 p2 r2 => ?_
  cases r2
  refine ⟨_, _, _, _, rfl, rfl, p2.b.at g, by rw [r.length]; exact hj, ?_⟩
  exact k _ _ H02 (((env.post p1).post p2).mutL ev ho (p2.b.at g) (RDL.set (r1.mono p2.a) j (r.mono p2.a)))
end
end OL

end
section
set_option Elab.async false
set_option linter.all false
set_option maxRecDepth 100000
set_option maxHeartbeats 4000000
namespace OL
open PySem PySem.Spec PyProof.Rows L2 RZ

section
variable {X : Cx} {F : Fx} {ρ : Env} {N : List Str} {sc : Scope} {fs : Str → Bool} {cs : List (Str × Key)} {Φ : Tab}
variable {K : PySem.W.Frag} {H0 H H0' H' : Hp} {σ : L2.St}
/-! ### freezing -/
theorem EnvOk.freeze (env : EnvOk K F H0 H σ ρ) {i : Nat} {v : V} {b : B} {d : D} (hv : σ[i]? = some (some v)) (hb : ρ[i]? = some b)
    (h : ∀ fp : List Addr, SlotOk K H0 H (some v) b fp → (∀ a ∈ fp, H0 a = none ∧ Mu H a) → RD K H0' v d ∧ (∀ a, a ∉ fp → H' a = H a ∧ H0' a = H0 a) ∧ (∀ a ∈ fp, ∀ o, H0' a = some o → H' a = some o)) : EnvOk K F H0' H' σ (ρ.set i (.sh d)) := by
  obtain ⟨fp, h1, h2⟩ := env.sl
  have hi : i < ρ.length := (List.getElem?_eq_some_iff.mp hb).1
  obtain ⟨k1, k2, k3⟩ := h (fp i) (h1 i _ _ hv hb) fun a ha => (h2.at_ i a ha).2
  have n0 : ∀ a ∈ fp i, H0 a = none := fun a ha => (h2.at_ i a ha).2.1
  have ne : ∀ a ∈ fp i, F.He a = none := fun a ha => (h2.at_ i a ha).1
  have s00 : Same H0 H0' := fun a o e => by
    have : a ∉ fp i := fun z => by rw [n0 a z] at e; cases e
    rw [(k2 a this).2]; exact e
  have keepE : Ext F.He H' := by
    refine ⟨fun a o ho n => ?_, fun a ha => ?_, fun P q t => tab_keep (fun a o ho hm => ?_) (env.ke.tb P q t)⟩
    · have : a ∉ fp i := fun z => by rw [ne a z] at ho; cases ho
      rw [(k2 a this).1]; exact env.ke.sm a o ho n
    · by_cases hm : a ∈ fp i
      · exact ne a hm
      · rw [(k2 a hm).1] at ha; exact env.ke.fr a ha
    · have : a ∉ fp i := fun z => by
        obtain ⟨o', e', m⟩ := (h2.at_ i a z).2.2
        rw [ho] at e'
        cases e'
        rw [hm] at m
        cases m
      rw [(k2 a this).1]; exact ho
  refine ⟨by simp [env.len], fun a o e => ?_, keepE, env.k0.trans s00, fun p a c => ?_, upF fp i [], fun j w c hw hc => ?_, ⟨fun j k a hjk ha hb' => ?_, fun j a ha => ?_⟩⟩
  · by_cases hm : a ∈ fp i
    · exact k3 a hm o e
    · rw [(k2 a hm).1]; rw [(k2 a hm).2] at e; exact env.s _ _ e
  · have : p ∉ fp i := fun z => a.ne (ne p z)
    rw [(k2 p this).2]; exact env.kn p a c
  · by_cases hj : j = i
    · subst hj
      rw [hv] at hw; cases hw
      rw [List.getElem?_set_self hi] at hc; cases hc
      simp only [upF, if_true]
      exact ⟨rfl, v, rfl, k1⟩
    · rw [List.getElem?_set_ne (Ne.symm hj)] at hc
      simp only [upF, if_neg hj]
      refine (h1 j w c hw hc).mono s00 fun a ha o ho => ?_
      rw [(k2 a (h2.dj j i a hj ha)).1]; exact ho
  · unfold upF at ha hb'
    by_cases hj : j = i
    · rw [if_pos hj] at ha; cases ha
    · rw [if_neg hj] at ha
      by_cases hk : k = i
      · rw [if_pos hk] at hb'; cases hb'
      · rw [if_neg hk] at hb'
        exact h2.dj j k a hjk ha hb'
  · unfold upF at ha
    by_cases hj : j = i
    · rw [if_pos hj] at ha; cases ha
    · rw [if_neg hj] at ha
      obtain ⟨x, y, z⟩ := h2.at_ j a ha
      have hm := h2.dj j i a hj ha
      obtain ⟨o, e', m⟩ := z
      exact ⟨x, by rw [(k2 a hm).2]; exact y, o, by rw [(k2 a hm).1]; exact e', m⟩
theorem lockSs {st : List Stmt} {D : Ends} {d : Addr} {u : HO} (h : H d = some u) (mu : Mut (some u)) (k : ∀ od, tOfSs X st D σ (upd H d (.frz od u))) : tOfSs X st D σ H := fun pins s I => by
  obtain ⟨od, I2⟩ := I.lock h mu
  exact k od pins s I2
/-- nested lists, all frozen -/
def addLs (H0 H : Hp) (ps : List Addr) : Hp := fun a => if a ∈ ps then H a else H0 a
theorem own_frozen : ∀ {ps : List Addr} {ds : List D}, OwnLs K H0 H ps ds → Same H0 H0' → (∀ p ∈ ps, ∀ o, H p = some o → H0' p = some o) → RDL K H0' (ps.map V.ref) ds
  | _, _, .nil, _, _ => .nil
  | _, _, .cons h r t, s, hp => .cons (.lst (SqL.of (hp _ (by simp) _ h)) (r.mono s)) (own_frozen t s fun p q => hp p (by simp [q]))
theorem same_refl_set {i : Nat} {b : B} (h : ρ[i]? = some b) : ρ.set i b = ρ := by
  apply List.ext_getElem?
  intro j
  rw [List.getElem?_set]
  by_cases e : i = j
  · subst e
    have hi : i < ρ.length := (List.getElem?_eq_some_iff.mp h).1
    simp [hi]
    rw [List.getElem?_eq_getElem hi] at h
    exact (Option.some.inj h).symm
  · rw [if_neg e]
theorem dss_fr {st : List Stmt} {i : Nat} {b : B} {o : O} (hb : ρ[i]? = some b) (h : DSs X F st (ρ.set i (frz b)) o) : DSs X F st ρ o := by
  intro σ H H0 D W tk env k
  have hi : i < σ.length := by rw [env.len]; exact (List.getElem?_eq_some_iff.mp hb).1
  have own : ∀ {bb : B}, ρ[i]? = some bb → isOwn bb = true → ∃ w, σ[i]? = some (some w) ∧ ∃ fp, Own X.K H0 H w bb fp := fun {bb} hbb hw => by
    obtain ⟨fp, h1, _⟩ := env.sl
    have q := h1 i σ[i] bb (by simp [hi]) hbb
    cases bb with
    | un => cases hw
    | sh _ => cases hw
    | ow _ => obtain ⟨w, e, o⟩ := q; exact ⟨w, by rw [← e]; simp [hi], _, o⟩
    | on _ => obtain ⟨w, e, o⟩ := q; exact ⟨w, by rw [← e]; simp [hi], _, o⟩
    | er _ => cases hw
    | dk _ => obtain ⟨w, e, o⟩ := q; exact ⟨w, by rw [← e]; simp [hi], _, o⟩
  cases b with
  | un => rw [show frz .un = .un from rfl, same_refl_set hb] at h; exact h σ H H0 D W tk env k
  | sh d => rw [show frz (.sh d) = .sh d from rfl, same_refl_set hb] at h; exact h σ H H0 D W tk env k
  | er d => rw [show frz (.er d) = .er d from rfl, same_refl_set hb] at h; exact h σ H H0 D W tk env k
  | ow d =>
    obtain ⟨w, ew, fp, ow⟩ := own hb rfl
    cases ow with
    | @lst p vs ds g r =>
      refine h σ H (upd H0 p (.lst vs)) D W tk (env.freeze ew hb fun fp q hn => ?_) k
      obtain ⟨u, e, o⟩ := q
      cases e
      cases o with | lst g' r' =>
      have n0 := (hn p (by simp)).1
      refine ⟨.lst (SqL.of upd_same) (r.mono (same_upd n0)), fun a ha => ⟨rfl, upd_ne (by simpa using ha)⟩, fun a ha o ho => ?_⟩
      simp at ha; subst ha
      rw [upd_same] at ho; rw [← ho]; exact g
    | @dT p vs ds g r =>
      refine lockSs g trivial fun od => ?_
      refine h σ _ (upd H0 p (.frz od (.dT vs))) D W tk (env.freeze ew hb fun fp q hn => ?_) k
      obtain ⟨u, e, o⟩ := q
      cases e
      cases o with | dT g' r' =>
      have n0 := (hn p (by simp)).1
      refine ⟨.dT upd_same (r.mono (same_upd n0)), fun a ha => ⟨upd_ne (by simpa using ha), upd_ne (by simpa using ha)⟩, fun a ha o ho => ?_⟩
      simp at ha; subst ha
      rw [upd_same] at ho ⊢; exact ho
  | dk kvs =>
    obtain ⟨w, ew, fp, ow⟩ := own hb rfl
    cases ow with
    | @dK p vs ds g r =>
      refine lockSs g trivial fun od => ?_
      refine h σ _ (upd H0 p (.frz od (.dK vs))) D W tk (env.freeze ew hb fun fp q hn => ?_) k
      obtain ⟨u, e, o⟩ := q
      cases e
      cases o with | dK g' r' =>
      have n0 := (hn p (by simp)).1
      refine ⟨.dK upd_same (r.mono (same_upd n0)), fun a ha => ⟨upd_ne (by simpa using ha), upd_ne (by simpa using ha)⟩, fun a ha o ho => ?_⟩
      simp at ha; subst ha
      rw [upd_same] at ho ⊢; exact ho
  | on d =>
    obtain ⟨w, ew, fp, ow⟩ := own hb rfl
    cases ow with
    | @nest p ps ds g r nd =>
      refine h σ H (addLs H0 H (p :: ps)) D W tk (env.freeze ew hb fun fp q hn => ?_) k
      obtain ⟨u, e, o⟩ := q
      cases e
      cases o with | nest g' r' nd' =>
      have eps : ps.map V.ref = _ := HO.lst.inj (Option.some.inj (g.symm.trans g'))
      have eps2 := (List.map_inj_right (fun a b e => V.ref.inj e)).mp eps
      subst eps2
      have s0 : Same H0 (addLs H0 H (p :: ps)) := fun a o e => by
        unfold addLs
        by_cases hm : a ∈ p :: ps
        · rw [(hn a hm).1] at e; cases e
        · rw [if_neg hm]; exact e
      have hin : ∀ a ∈ p :: ps, addLs H0 H (p :: ps) a = H a := fun a ha => if_pos ha
      refine ⟨.lst (SqL.of (by rw [hin p (by simp)]; exact g)) (own_frozen r s0 fun q hq o ho => by rw [hin q (by simp [hq])]; exact ho), fun a ha => ⟨rfl, if_neg ha⟩, fun a ha o ho => by rw [hin a ha] at ho; exact ho⟩
end
end OL

end
section
set_option Elab.async false
set_option linter.all false
set_option maxRecDepth 100000
set_option maxHeartbeats 4000000
namespace OL
open PySem PySem.Spec PyProof.Rows L2 RZ

section
variable {X : Cx} {F : Fx} {ρ : Env} {N : List Str} {sc : Scope} {fs : Str → Bool} {cs : List (Str × Key)} {Φ : Tab}
variable {K : PySem.W.Frag} {H0 H H0' H' : Hp} {σ : L2.St}
/-! ### values that wait for their names: slots behind the last -/
theorem EnvOk.cut {σx : L2.St} {ρx : Env} (hl : σ.length = ρ.length) (e : EnvOk K F H0 H (σ ++ σx) (ρ ++ ρx)) : EnvOk K F H0 H σ ρ := by
  obtain ⟨fp, h1, h2⟩ := e.sl
  refine ⟨hl, e.s, e.ke, e.k0, e.kn, fp, fun i v b hv hb => h1 i v b ?_ ?_, h2⟩
  · rw [List.getElem?_append_left (List.getElem?_eq_some_iff.mp hv).1]; exact hv
  · rw [List.getElem?_append_left (List.getElem?_eq_some_iff.mp hb).1]; exact hb
/-- one more, new -/
theorem EnvOk.pushN (env : EnvOk K F H0 H σ ρ) (p1 : Post H0 H H0' H') {v : V} {b : B} {fp : List Addr} (h : SlotOk K H0' H' (some v) b fp) (hf : ∀ a ∈ fp, H a = none ∧ H0' a = none ∧ Mu H' a) : EnvOk K F H0' H' (σ ++ [some v]) (ρ ++ [b]) := by
  obtain ⟨fp0, h1, h2⟩ := env.sl
  have e := env.post p1
  have hl := env.len
  refine ⟨by simp [hl], e.s, e.ke, e.k0, e.kn, fun j => if j < σ.length then fp0 j else if j = σ.length then fp else [], fun j w c hw hc => ?_, ⟨fun j k a hjk ha hb => ?_, fun j a ha => ?_⟩⟩
  · by_cases hj : j < σ.length
    · rw [List.getElem?_append_left hj] at hw
      rw [List.getElem?_append_left (by rw [← hl]; exact hj)] at hc
      dsimp only
      rw [if_pos hj]
      exact (h1 j w c hw hc).mono p1.a fun q hq o z => (h2.at_ j q hq).2.2.keep p1.b z
    · have e2 : j = σ.length := by
        have := (List.getElem?_eq_some_iff.mp hw).1
        simp at this; omega
      subst e2
      rw [List.getElem?_append_right (Nat.le_refl _)] at hw
      rw [List.getElem?_append_right (by rw [hl]; exact Nat.le_refl _)] at hc
      simp at hw
      simp [hl] at hc
      subst hw hc
      dsimp only
      rw [if_neg hj, if_pos rfl]
      exact h
  · try dsimp only at ha hb
    by_cases hj : j < σ.length
    · rw [if_pos hj] at ha
      by_cases hk : k < σ.length
      · rw [if_pos hk] at hb; exact h2.dj j k a hjk ha hb
      · rw [if_neg hk] at hb
        by_cases hk2 : k = σ.length
        · rw [if_pos hk2] at hb; exact (h2.at_ j a ha).2.2.ne (hf a hb).1
        · rw [if_neg hk2] at hb; cases hb
    · rw [if_neg hj] at ha
      by_cases hj2 : j = σ.length
      · rw [if_pos hj2] at ha
        by_cases hk : k < σ.length
        · rw [if_pos hk] at hb; exact (h2.at_ k a hb).2.2.ne (hf a ha).1
        · rw [if_neg hk] at hb
          by_cases hk2 : k = σ.length
          · exact hjk (hj2.trans hk2.symm)
          · rw [if_neg hk2] at hb; cases hb
      · rw [if_neg hj2] at ha; cases ha
  · try dsimp only at ha
    by_cases hj : j < σ.length
    · rw [if_pos hj] at ha
      obtain ⟨x, y, z⟩ := h2.at_ j a ha
      exact ⟨x, p1.d a (.inl z) y, z.mono p1.b⟩
    · rw [if_neg hj] at ha
      by_cases hj2 : j = σ.length
      · rw [if_pos hj2] at ha
        exact ⟨env.ke.free (hf a ha).1, (hf a ha).2.1, (hf a ha).2.2⟩
      · rw [if_neg hj2] at ha; cases ha
/-- the last one goes to its name -/
theorem EnvOk.popTo {v : V} {b : B} {i : Nat} (hl : σ.length = ρ.length) (e : EnvOk K F H0 H (σ ++ [some v]) (ρ ++ [b])) (hi : i < σ.length) : EnvOk K F H0 H (σ.set i (some v)) (ρ.set i b) := by
  obtain ⟨fp, h1, h2⟩ := e.sl
  have hlast := h1 σ.length (some v) b (by simp) (by rw [hl]; simp)
  refine ⟨by simp [hl], e.s, e.ke, e.k0, e.kn, fun j => if j = i then fp σ.length else if j < σ.length then fp j else [], fun j w c hw hc => ?_, ⟨fun j k a hjk ha hb => ?_, fun j a ha => ?_⟩⟩
  · by_cases hj : j = i
    · subst hj
      rw [List.getElem?_set_self hi] at hw
      rw [List.getElem?_set_self (by rw [← hl]; exact hi)] at hc
      cases hw; cases hc
      simp only [if_true]
      exact hlast
    · rw [List.getElem?_set_ne (Ne.symm hj)] at hw hc
      have hjl : j < σ.length := (List.getElem?_eq_some_iff.mp hw).1
      simp only [if_neg hj, if_pos hjl]
      exact h1 j w c (by rw [List.getElem?_append_left hjl]; exact hw) (by rw [List.getElem?_append_left (by rw [← hl]; exact hjl)]; exact hc)
  · try dsimp only at ha hb
    by_cases hj : j = i
    · rw [if_pos hj] at ha
      rw [if_neg (fun z => hjk (hj.trans z.symm))] at hb
      by_cases hk : k < σ.length
      · rw [if_pos hk] at hb; exact h2.dj _ k a (by omega) ha hb
      · rw [if_neg hk] at hb; cases hb
    · rw [if_neg hj] at ha
      by_cases hjl : j < σ.length
      · rw [if_pos hjl] at ha
        by_cases hk : k = i
        · rw [if_pos hk] at hb; exact h2.dj j _ a (by omega) ha hb
        · rw [if_neg hk] at hb
          by_cases hkl : k < σ.length
          · rw [if_pos hkl] at hb; exact h2.dj j k a hjk ha hb
          · rw [if_neg hkl] at hb; cases hb
      · rw [if_neg hjl] at ha; cases ha
  · try dsimp only at ha
    by_cases hj : j = i
    · rw [if_pos hj] at ha; exact h2.at_ _ a ha
    · rw [if_neg hj] at ha
      by_cases hjl : j < σ.length
      · rw [if_pos hjl] at ha; exact h2.at_ _ a ha
      · rw [if_neg hjl] at ha; cases ha
/-- several values, each shared or new -/
def DM (X : Cx) (F : Fx) (es : List Expr) (ρ : Env) (bs : List B) : Prop := ∀ (σ : L2.St) (H H0 : Hp) (Q : List V → Hp → Prop) (σx : L2.St) (ρx : Env), σ.length = ρ.length → EnvOk X.K F H0 H (σ ++ σx) (ρ ++ ρx) →
  (∀ (vs : List V) (H' H0' : Hp), vs.length = bs.length → Post H0 H H0' H' → EnvOk X.K F H0' H' ((σ ++ σx) ++ vs.map some) ((ρ ++ ρx) ++ bs) → Q vs H') → tOfA X es σ H Q
theorem dm_nil : DM X F [] ρ [] := fun σ H H0 Q σx ρx hl env k => tOfA_of pa_nil (k [] H H0 rfl (Post.refl env.s) (by simpa using env))
theorem dm_cons {e : Expr} {es : List Expr} {b : B} {bs : List B} (h : (∃ d, b = .sh d ∧ DE X F e ρ d) ∨ (isOwn b = true ∧ DF X F e ρ b)) (hes : DM X F es ρ bs) (hs : notStar e = true) : DM X F (e :: es) ρ (b :: bs) := by
  intro σ H H0 Q σx ρx hl env k
  refine tOfA_of (pa_cons pe_of pa_of (star_cons hs)) ?_
  have fin : ∀ {v : V} {H1 H01 : Hp} {fp : List Addr}, Post H0 H H01 H1 → SlotOk X.K H01 H1 (some v) b fp → (∀ a ∈ fp, H a = none ∧ H01 a = none ∧ Mu H1 a) → tOfA X es σ H1 (fun xs H2 => Q (v :: xs) H2) := fun {v H1 H01 fp} p1 hsl hf => by
    have env1 := env.pushN p1 hsl hf
    rw [List.append_assoc, List.append_assoc] at env1
    refine hes σ H1 H01 _ (σx ++ [some v]) (ρx ++ [b]) hl env1 fun vs H2 H02 hlen p2 env2 => ?_
    refine k _ _ H02 (by simp [hlen]) (p1.trans p2) ?_
    simpa using env2
  rcases h with ⟨d, rfl, hd⟩ | ⟨hb, hd⟩
  · refine hd σ H H0 _ (env.cut hl) fun v H1 H01 p1 r1 => ?_
    exact fin (fp := []) p1 ⟨rfl, v, rfl, r1⟩ fun a ha => by cases ha
  · refine hd σ H H0 _ (env.cut hl) fun v H1 H01 fp p1 o hf => ?_
    have th : ∀ a ∈ fp, Mu H1 a := by
      cases o with
      | lst h r => intro p hp; simp at hp; subst hp; exact ⟨_, h, rfl⟩
      | dT h r => intro p hp; simp at hp; subst hp; exact ⟨_, h, rfl⟩
      | dK h r => intro p hp; simp at hp; subst hp; exact ⟨_, h, rfl⟩
      | nest h r n =>
        intro p hp
        rcases List.mem_cons.mp hp with rfl | hp
        · exact ⟨_, h, rfl⟩
        · have all : ∀ {ps : List Addr} {ds : List D}, OwnLs X.K H01 H1 ps ds → ∀ p ∈ ps, Mu H1 p := by
            intro ps ds o
            induction o with
            | nil => intro p hp; cases hp
            | cons h r t ih =>
              intro p hp
              rcases List.mem_cons.mp hp with rfl | hp
              · exact ⟨_, h, rfl⟩
              · exact ih p hp
          exact all r p hp
    refine fin (fp := fp) p1 ?_ fun a ha => ⟨(hf a ha).1, (hf a ha).2, th a ha⟩
    cases b with
    | un => cases hb
    | sh _ => cases hb
    | ow d => exact ⟨v, rfl, o⟩
    | on d => exact ⟨v, rfl, o⟩
    | er _ => cases hb
    | dk d => exact ⟨v, rfl, o⟩
/-! ### a, b = x, y -/
def locOnly (sc : Scope) (x : Str) : Bool := match sc.names.lookup x with
  | some .local => true
  | _ => false
theorem locOnly_is {x : Str} (h : locOnly sc x = true) : sc.names.lookup x = some .local := by
  unfold locOnly at h
  split at h
  · assumption
  · cases h
def isFn (sc : Scope) : Bool := match sc.kind with
  | .function => true
  | _ => false
theorem isFn_is (h : isFn sc = true) : sc.kind = .function := by
  unfold isFn at h
  split at h
  · assumption
  · cases h
theorem set2 {i j : Nat} {u v : V} {b c : B} (hl : σ.length = ρ.length) (hi : i < σ.length) (hj : j < σ.length) (hij : i ≠ j) (e : EnvOk K F H0 H (σ ++ [some u, some v]) (ρ ++ [b, c])) : EnvOk K F H0 H ((σ.set i (some u)).set j (some v)) ((ρ.set i b).set j c) := by
  have e1 : EnvOk K F H0 H ((σ ++ [some u]) ++ [some v]) ((ρ ++ [b]) ++ [c]) := by simpa using e
  have e2 := e1.popTo (i := j) (by simp [hl]) (by simp; omega)
  rw [List.set_append_left _ _ hj, List.set_append_left _ _ (by rw [← hl]; exact hj)] at e2
  have e3 := e2.popTo (i := i) (by simp [hl]) (by simpa using hi)
  rw [List.set_comm _ _ hij, List.set_comm _ _ hij]
  exact e3
theorem set3 {i j l : Nat} {u v w : V} {b c d : B} (hl : σ.length = ρ.length) (hi : i < σ.length) (hj : j < σ.length) (hk : l < σ.length) (hij : i ≠ j) (hil : i ≠ l) (hjl : j ≠ l) (e : EnvOk K F H0 H (σ ++ [some u, some v, some w]) (ρ ++ [b, c, d])) :
    EnvOk K F H0 H (((σ.set i (some u)).set j (some v)).set l (some w)) (((ρ.set i b).set j c).set l d) := by
  have e1 : EnvOk K F H0 H ((σ ++ [some u, some v]) ++ [some w]) ((ρ ++ [b, c]) ++ [d]) := by simpa using e
  have e2 := e1.popTo (i := l) (by simp [hl]) (by simp; omega)
  rw [List.set_append_left _ _ hk, List.set_append_left _ _ (by rw [← hl]; exact hk)] at e2
  have e3 := set2 (σ := σ.set l (some w)) (ρ := ρ.set l d) (by simp [hl]) (by simpa using hi) (by simpa using hj) hij e2
  rw [List.set_comm (some v) (some w) hjl, List.set_comm (some u) (some w) hil, List.set_comm c d hjl, List.set_comm b d hil]
  exact e3
theorem sw2 {x y : Str} {px py pt pt2 : Pos} {kt k2 : Nat} {a b : Expr} {env : PySem.Env} (hk : env.scope.kind = .function) (hx : env.scope.names.lookup x = some .local) (hy : env.scope.names.lookup y = some .local) (hl : (py.line == px.line) = true) (hxy : x ≠ y)
    (hs : notStar a = true) (hs2 : notStar b = true) (hf : ([a, b].all (foldedForSure 8)) = false) (hc : ([a, b].all (constantsAlone 8)) = false) :
    swappedStores [.Tuple [.Name x px, .Name y py] kt pt] (.Tuple [a, b] k2 pt2) env = pure (some [x, y]) := by
  have kx : env.kindOf x = some .local := hx
  have ky : env.kindOf y = some .local := hy
  have hb : env.blockKind = .function := by unfold PySem.Env.blockKind; rw [hk]; rfl
  have n1 : ∀ {e : Expr}, notStar e = true → (match e with | .Starred .. => true | _ => false) = false := fun {e} h => by cases e <;> first | rfl | cases h
  have hst : ([a, b].any fun | .Starred .. => true | _ => false) = false := by
    simp only [List.any_cons, List.any_nil, Bool.or_false]
    rw [n1 hs, n1 hs2]; rfl
  have hxy' : (y == x) = false := by simpa using fun e => hxy e.symm
  have hxy2 : (x == y) = false := by simpa using hxy
  unfold swappedStores
  simp only [List.length_cons, List.length_nil, hb, hst, kx, ky, hl, hf, hc, Expr.pos, List.head?_cons, Option.map_some, Option.getD_some, List.filterMap_cons, List.filterMap_nil]
  simp [List.eraseDups_cons, hxy, hxy', hxy2, Ne.symm hxy]
  intro h
  rcases h with h | h
  · cases a <;> first | exact Bool.noConfusion h | exact Bool.noConfusion hs
  · cases b <;> first | exact Bool.noConfusion h | exact Bool.noConfusion hs2
theorem sw3 {x y z : Str} {px py pz pt pt2 : Pos} {kt k2 : Nat} {a b c : Expr} {env : PySem.Env} (hk : env.scope.kind = .function) (hx : env.scope.names.lookup x = some .local) (hy : env.scope.names.lookup y = some .local) (hz : env.scope.names.lookup z = some .local) (hl : (py.line == px.line) = true) (hl2 : (pz.line == px.line) = true) (hxy : x ≠ y) (hxz : x ≠ z) (hyz : y ≠ z)
    (hs : notStar a = true) (hs2 : notStar b = true) (hs3 : notStar c = true) (hf : ([a, b, c].all (foldedForSure 8)) = false) (hc : ([a, b, c].all (constantsAlone 8)) = false) :
    swappedStores [.Tuple [.Name x px, .Name y py, .Name z pz] kt pt] (.Tuple [a, b, c] k2 pt2) env = pure (some [x, y, z]) := by
  have kx : env.kindOf x = some .local := hx
  have ky : env.kindOf y = some .local := hy
  have kz : env.kindOf z = some .local := hz
  have hb : env.blockKind = .function := by unfold PySem.Env.blockKind; rw [hk]; rfl
  unfold swappedStores
  simp only [List.length_cons, List.length_nil, hb, kx, ky, kz, hl, hl2, hf, hc, Expr.pos, List.head?_cons, Option.map_some, Option.getD_some, List.filterMap_cons, List.filterMap_nil]
  simp [List.eraseDups_cons, hxy, hxz, hyz, Ne.symm hxy, Ne.symm hxz, Ne.symm hyz]
  intro h
  rcases h with h | h | h
  · cases a <;> first | exact Bool.noConfusion h | exact Bool.noConfusion hs
  · cases b <;> first | exact Bool.noConfusion h | exact Bool.noConfusion hs2
  · cases c <;> first | exact Bool.noConfusion h | exact Bool.noConfusion hs3
theorem ds_par2 (C : Ctx X N sc fs cs Φ) {i j : Nat} {x y : Str} {px py pt pt2 pos : Pos} {kt k2 : Nat} {a b : Expr} {b1 b2 : B} (hk : isFn sc = true) (hi : N[i]? = some x) (hj : N[j]? = some y) (hx : locOnly sc x = true) (hy : locOnly sc y = true) (hl : (py.line == px.line) = true) (hij : i ≠ j)
    (hs : notStar a = true) (hs2 : notStar b = true) (hf : ([a, b].all (foldedForSure 8)) = false) (hc : ([a, b].all (constantsAlone 8)) = false) (h : DM X F [a, b] ρ [b1, b2]) (hlr : i < ρ.length ∧ j < ρ.length) :
    DS X F (.Assign [.Tuple [.Name x px, .Name y py] kt pt] (.Tuple [a, b] k2 pt2) pos) ρ (.nx ((ρ.set i b1).set j b2)) := by
  intro σ H H0 D W tk env k
  have hN : X.N.Nodup := by rw [C.hN]; exact C.nd
  have hxy : x ≠ y := fun e => hij (nodup_ix C.nd hi (by rw [e]; exact hj))
  have lx := locOnly_is hx
  have ly := locOnly_is hy
  refine tOfS_of (ps_par C.calm hN (by rw [C.hN]; exact hi) (by rw [C.hN]; exact hj) hij (by rw [C.hsc]; exact lx) (by rw [C.hsc]; exact ly) pa_of (sw2 (by rw [C.hsc]; exact isFn_is hk) (by rw [C.hsc]; exact lx) (by rw [C.hsc]; exact ly) hl hxy hs hs2 hf hc) rfl) ?_
  refine h σ H H0 _ [] [] env.len (by simpa using env) fun vs H' H0' hlen p1 env1 => ?_
  match vs, hlen with
  | [u, v], _ => exact ⟨u, v, rfl, k _ _ H0' (set2 env.len (by rw [env.len]; exact hlr.1) (by rw [env.len]; exact hlr.2) hij (by simpa using env1))⟩
theorem ds_par3 (C : Ctx X N sc fs cs Φ) {i j l : Nat} {x y z : Str} {px py pz pt pt2 pos : Pos} {kt k2 : Nat} {a b c : Expr} {b1 b2 b3 : B} (hk : isFn sc = true) (hi : N[i]? = some x) (hj : N[j]? = some y) (hz : N[l]? = some z) (hx : locOnly sc x = true) (hy : locOnly sc y = true) (hzl : locOnly sc z = true) (hl : (py.line == px.line) = true) (hl2 : (pz.line == px.line) = true) (hij : i ≠ j) (hil : i ≠ l) (hjl : j ≠ l)
    (hs : notStar a = true) (hs2 : notStar b = true) (hs3 : notStar c = true) (hf : ([a, b, c].all (foldedForSure 8)) = false) (hc : ([a, b, c].all (constantsAlone 8)) = false) (h : DM X F [a, b, c] ρ [b1, b2, b3]) (hlr : i < ρ.length ∧ j < ρ.length ∧ l < ρ.length) :
    DS X F (.Assign [.Tuple [.Name x px, .Name y py, .Name z pz] kt pt] (.Tuple [a, b, c] k2 pt2) pos) ρ (.nx (((ρ.set i b1).set j b2).set l b3)) := by
  intro σ H H0 D W tk env k
  have hN : X.N.Nodup := by rw [C.hN]; exact C.nd
  have hxy : x ≠ y := fun e => hij (nodup_ix C.nd hi (by rw [e]; exact hj))
  have hxz : x ≠ z := fun e => hil (nodup_ix C.nd hi (by rw [e]; exact hz))
  have hyz : y ≠ z := fun e => hjl (nodup_ix C.nd hj (by rw [e]; exact hz))
  have lx := locOnly_is hx
  have ly := locOnly_is hy
  have lz := locOnly_is hzl
  refine tOfS_of (ps_par3 C.calm hN (by rw [C.hN]; exact hi) (by rw [C.hN]; exact hj) (by rw [C.hN]; exact hz) hij hil hjl (by rw [C.hsc]; exact lx) (by rw [C.hsc]; exact ly) (by rw [C.hsc]; exact lz) pa_of (sw3 (by rw [C.hsc]; exact isFn_is hk) (by rw [C.hsc]; exact lx) (by rw [C.hsc]; exact ly) (by rw [C.hsc]; exact lz) hl hl2 hxy hxz hyz hs hs2 hs3 hf hc) rfl) ?_
  refine h σ H H0 _ [] [] env.len (by simpa using env) fun vs H' H0' hlen p1 env1 => ?_
  match vs, hlen with
  | [u, v, w], _ => exact ⟨u, v, w, rfl, k _ _ H0' (set3 env.len (by rw [env.len]; exact hlr.1) (by rw [env.len]; exact hlr.2.1) (by rw [env.len]; exact hlr.2.2) hij hil hjl (by simpa using env1))⟩
/-! ### x[k].append(e), x a list of owned lists -/
theorem OwnLs.get : ∀ {ps : List Addr} {ds : List D}, OwnLs K H0 H ps ds → ∀ {j : Nat} {ys : List D}, ds[j]? = some (.list ys) → ∃ q vs, ps[j]? = some q ∧ H q = some (.lst vs) ∧ RDL K H0 vs ys
  | _, _, .nil, j, ys, e => by simp at e
  | _, _, .cons h r t, 0, ys, e => by simp at e; subst e; exact ⟨_, _, rfl, h, r⟩
  | _, _, .cons h r t, j + 1, ys, e => by
    obtain ⟨q, vs, a, b, c⟩ := OwnLs.get t (j := j) (ys := ys) (by simpa using e)
    exact ⟨q, vs, by simpa using a, b, c⟩
theorem OwnLs.length : ∀ {ps : List Addr} {ds : List D}, OwnLs K H0 H ps ds → ps.length = ds.length
  | _, _, .nil => rfl
  | _, _, .cons _ _ t => by simp [OwnLs.length t]
theorem OwnLs.upd : ∀ {ps : List Addr} {ds : List D}, OwnLs K H0 H ps ds → ps.Nodup → ∀ {j : Nat} {q : Addr} {ws : List V} {zs : List D}, ps[j]? = some q → RDL K H0 ws zs → OwnLs K H0 (L2.upd H q (.lst ws)) ps (ds.set j (.list zs))
  | _, _, .nil, _, j, q, ws, zs, e, _ => by simp at e
  | _, _, .cons (p := p0) h r t, nd, 0, q, ws, zs, e, rw' => by
    simp at e; subst e
    have n2 := List.nodup_cons.mp nd
    refine .cons upd_same rw' (t.mono (Same.refl _) fun p hp o ho => ?_)
    have : p ≠ p0 := fun z => n2.1 (by rw [← z]; exact hp)
    rw [upd_ne this]; exact ho
  | _, _, .cons (p := p0) (ps := ps0) h r t, nd, j + 1, q, ws, zs, e, rw' => by
    have n2 := List.nodup_cons.mp nd
    have e' : ps0[j]? = some q := by simpa using e
    have hne : p0 ≠ q := fun z => n2.1 (z ▸ List.mem_of_getElem? e')
    refine .cons (by rw [upd_ne hne]; exact h) r (OwnLs.upd t n2.2 e' rw')
theorem ds_appx (C : Ctx X N sc fs cs Φ) {i : Nat} {x : Str} {e b : Expr} {xs ys : List D} {d : D} {n : Int} {j : Nat} {p q apos cpos pos : Pos} (hN : X.N[i]? = some x) (hv : Vis X.env.scope x) (h1 : (x == ("__debug__" : Str)) = false) (h2 : (x == ("__classdict__" : Str)) = false)
    (hb : DE X F b ρ (.int n)) (he : DE X F e ρ d) (hs : notStar e = true) (hsl : isSlice b = false) (ho : ρ[i]? = some (.on (.list xs))) (hj : ixN xs.length n = some j) (hys : xs[j]? = some (.list ys)) (hl : ys.length < 16777216) (hline : (apos.endLine == cpos.line) = true) :
    DS X F (.Expr (.Call (.Attribute (.Subscript (.Name x p) b q) "append" apos) [e] [] cpos) pos) ρ (.nx (ρ.set i (.on (.list (xs.set j (.list (ys ++ [d]))))))) := by
  intro σ H H0 D W tk env k
  refine tOfS_of (ps_expr (pe_bm PySem.F.plainAttrs_list PySem.F.slot_list_append PySem.F.type_list_append mt_append (pe_ix ix_list (pe_var hN hv h1 h2) pe_of (plainIx_of hsl)) (pa_cons pe_of pa_nil (star_cons hs)) rfl (few1 hs) hline (star_cons hs) rfl) rfl) ?_
  have hi : i < σ.length := by rw [env.len]; exact (List.getElem?_eq_some_iff.mp ho).1
  obtain ⟨fp0, hsl0, _⟩ := env.sl
  obtain ⟨w, ew, ow⟩ := hsl0 i σ[i] _ (by simp [hi]) ho
  have ew' : σ[i]? = some (some w) := by rw [← ew]; simp [hi]
  generalize hfp : fp0 i = fpi at ow
  cases ow with | @nest a ps _ g r nd =>
  refine ⟨_, ew', ?_⟩
  refine hb σ H H0 _ env fun u H1 H01 p1 r1 => ?_
  cases r1
  obtain ⟨c, vs, ec, hc, rc⟩ := r.get hys
  have hat : L2.atI (ps.map V.ref) n = some (.ref c) := by
    unfold L2.atI
    rw [List.length_map, r.length, hj]
    show (ps.map V.ref)[j]? = _
    rw [List.getElem?_map, ec]; rfl
  refine ⟨_, _, _, _, rfl, rfl, SqL.of (p1.b.at g), hat, ?_⟩
  refine ⟨.inl ⟨rfl, _, SqL.of (p1.b.at hc)⟩, ?_⟩
  refine he σ H1 H01 _ (env.post p1) fun y H2 H02 p2 r2 => ?_
  have pp := p1.trans p2
  have hc2 : H2 c = some (.lst vs) := pp.b.at hc
  have rc2 := (rc.mono pp.a)
  refine ⟨_, _, _, rfl, rfl, hc2, by rw [rc.length, ← sz]; exact hl, ?_⟩
  refine k _ _ H02 ((env.post pp).mut ew' ho fun fp qq hn => ?_)
  obtain ⟨u', e', o'⟩ := qq
  cases e'
  cases o' with | nest g' r' nd' =>
  have eps : ps.map V.ref = _ := HO.lst.inj (Option.some.inj ((pp.b.at g).symm.trans g'))
  have eps2 := (List.map_inj_right (fun a b e => V.ref.inj e)).mp eps
  subst eps2
  have hcm : c ∈ ps := List.mem_of_getElem? ec
  have hac : a ≠ c := fun z => (List.nodup_cons.mp nd).1 (z ▸ hcm)
  refine ⟨⟨_, rfl, .nest (by rw [upd_ne hac]; exact g') (OwnLs.upd r' (List.nodup_cons.mp nd).2 ec (rc2.append (.cons r2 .nil))) nd⟩, fun z hz => upd_ne (fun q => hz (by rw [q]; simp [hcm])), fun z hz => ?_⟩
  by_cases hzc : z = c
  · subst hzc; exact ⟨_, upd_same, rfl⟩
  · suffices hm : Mu H2 z by
      obtain ⟨o, e', m⟩ := hm
      exact ⟨o, by rw [upd_ne hzc]; exact e', m⟩
    rcases List.mem_cons.mp hz with rfl | hz
    · exact ⟨_, g', rfl⟩
    · have all : ∀ {ps : List Addr} {ds : List PyData}, OwnLs X.K H02 H2 ps ds → ∀ p ∈ ps, Mu H2 p := by
        intro ps ds o
        induction o with
        | nil => intro p hp; cases hp
        | cons h r t ih =>
          intro p hp
          rcases List.mem_cons.mp hp with rfl | hp
          · exact ⟨_, h, rfl⟩
          · exact ih p hp
      exact all r' z hz
/-- [[] for ..]: a list of new lists -/
theorem nest_read {tg iter : Expr} {scope : Scope} {vs : List Nat} {ds : List D} (hi : DI X F tg iter ρ ds)
    (hg : ∀ d ∈ ds, ∀ (σ : L2.St) (H H0 : Hp) (v : V) (Q : L2.St → Hp → Prop), EnvOk X.K F H0 H σ (wipeB ρ vs) → RD X.K H0 v d → (∀ σ2, wipe σ2 vs = wipe σ vs → Q σ2 H) → tBG X scope tg v σ H Q)
    {σ : L2.St} {H H0 : Hp} {Q : VK} (env : EnvOk X.K F H0 H σ ρ) (k : ∀ (v : V) (H' H0' : Hp) (fp : List Addr), Post H0 H H0' H' → Own X.K H0' H' v (.on (.list (ds.map fun _ => .list []))) fp → (∀ a ∈ fp, H a = none ∧ H0' a = none) → Q v H') :
    tLc (tOfI X tg iter) (tBG X scope tg) (tBTs X scope []) (tLst tNil) vs σ H Q := by
  refine hi σ H H0 _ env fun J H1 H01 p1 w hl => ?_
  intro L nL
  have env1 := (env.post p1).wipe vs
  let Inv1 : Nat → Hp → Prop := fun i H2 => ∃ ps : List Addr, H2 L = some (.lst (ps.map V.ref)) ∧ ps.length = i ∧ (L :: ps).Nodup ∧ (∀ p ∈ ps, H2 p = some (.lst []) ∧ H1 p = none) ∧ Ext H1 H2 ∧ Same H01 H2
  refine ⟨fun i m H2 => m = ds.length - i ∧ i ≤ ds.length ∧ Inv1 i H2, ⟨_, rfl, Nat.zero_le _, [], upd_same, rfl, by simp, fun p hp => (by cases hp), .of (same_upd nL), p1.c.trans (same_upd nL)⟩, ?_⟩
  rintro i m H2 ⟨rfl, hi', ps, hL, hpl, nd, hps, kp, s2⟩
  by_cases hlt : i < ds.length
  · refine .inr ⟨w.go i H2 H01 hlt (Same.refl _) s2, fun H' => Inv1 (i + 1) H', fun H' h' => ⟨_, by omega, rfl, hlt, h'⟩, fun x H3 hy => ?_⟩
    obtain ⟨H03, d, ed, p3, rd⟩ := w.yld i H2 H01 x H3 hlt (Same.refl _) s2 hy
    have pe : Post H01 H1 H01 H2 := ⟨Same.refl _, kp, s2, fun _ _ e => e⟩
    refine hg d (List.mem_of_getElem? ed) (wipe σ vs) H3 H03 x _ ((env1.post pe).post p3) rd fun σ2 hw => ?_
    refine ⟨by rw [hw, wipe_wipe], ?_⟩
    dsimp only [tBTs, tYes]
    rw [if_pos rfl]
    refine ⟨Nat.zero_le _, fun q nq => ?_⟩
    have hqL : L ≠ q := ne_of_none (p3.b.at hL) nq
    refine ⟨ps.map V.ref, by rw [upd_ne hqL]; exact p3.b.at hL, ?_, ps ++ [q], ?_, by simp [hpl], ?_, fun p hp => ?_, ?_, ?_⟩
    · rw [List.length_map, hpl, ← sz]; omega
    · rw [upd_same]; simp
    · have hq : q ∉ ps := fun z => by
        have := p3.b.at (hps q z).1
        rw [nq] at this; cases this
      rw [← List.cons_append, List.nodup_append]
      refine ⟨nd, by simp, fun a ha b hb e => ?_⟩
      simp at hb
      subst hb
      rcases List.mem_cons.mp ha with z | z
      · exact hqL (z ▸ e).symm.symm
      · exact hq (e ▸ z)
    · rcases List.mem_append.mp hp with hp | hp
      · have hpL : p ≠ L := fun z => (List.nodup_cons.mp nd).1 (z ▸ hp)
        have hpq : p ≠ q := ne_of_none (p3.b.at (hps p hp).1) nq
        exact ⟨by rw [upd_ne hpL, upd_ne hpq]; exact p3.b.at (hps p hp).1, (hps p hp).2⟩
      · simp at hp; subst hp
        refine ⟨by rw [upd_ne hqL.symm]; exact upd_same, ?_⟩
        exact kp.fr p (p3.b.fr p nq)
    · refine ⟨fun a o e n => ?_, fun a e => ?_, fun P q' t => tab_keep (fun a o ho hm => ?_) (p3.b.tb P q' (kp.tb P q' t))⟩
      · have haL : a ≠ L := ne_of_none e nL
        have e3 := p3.b.sm _ _ (kp.sm _ _ e n) n
        rw [upd_ne haL, upd_ne (ne_of_none e3 nq)]
        exact e3
      · have haL : a ≠ L := fun z => by rw [z, upd_same] at e; cases e
        rw [upd_ne haL] at e
        have haq : a ≠ q := fun z => by rw [z, upd_same] at e; cases e
        rw [upd_ne haq] at e
        exact kp.fr a (p3.b.fr a e)
      · have haL : a ≠ L := fun z => by rw [z, p3.b.at hL] at ho; cases ho; cases hm
        rw [upd_ne haL, upd_ne (ne_of_none ho nq)]
        exact ho
    · intro a o e
      have e3 := p3.c _ _ (p3.a _ _ e)
      rw [upd_ne (ne_of_none (p1.c _ _ e) nL), upd_ne (ne_of_none e3 nq)]
      exact e3
  · have e : i = ds.length := by omega
    subst e
    refine .inl ⟨w.stop H2 H01 (Same.refl _) s2, ?_⟩
    refine k _ H2 H01 (L :: ps) (p1.trans ⟨Same.refl _, kp, s2, fun _ _ e => e⟩) (.nest hL ?_ nd) fun a ha => ?_
    · have all : ∀ (ps : List Addr) (ds : List D), ps.length = ds.length → (∀ p ∈ ps, H2 p = some (.lst [])) → OwnLs X.K H01 H2 ps (ds.map fun _ => .list []) := by
        intro ps
        induction ps with
        | nil => intro ds e _; cases ds with | nil => exact .nil | cons _ _ => cases e
        | cons p ps ih =>
          intro ds e hp
          cases ds with
          | nil => cases e
          | cons d ds => exact .cons (hp p (by simp)) .nil (ih ds (by simpa using e) fun q hq => hp q (by simp [hq]))
      exact all ps ds hpl fun p hp => (hps p hp).1
    · rcases List.mem_cons.mp ha with rfl | ha
      · exact ⟨p1.b.free nL, p1.c.free nL⟩
      · exact ⟨p1.b.free (hps a ha).2, p1.c.free (hps a ha).2⟩
theorem df_nest (C : Ctx X N sc fs cs Φ) {tg iter : Expr} {scope : Scope} {lp pos : Pos} {vs : List Nat} {ds : List D} (hi : DI X F tg iter ρ ds)
    (hg : ∀ d ∈ ds, ∀ (σ : L2.St) (H H0 : Hp) (v : V) (Q : L2.St → Hp → Prop), EnvOk X.K F H0 H σ (wipeB ρ vs) → RD X.K H0 v d → (∀ σ2, wipe σ2 vs = wipe σ vs → Q σ2 H) → tBG X scope tg v σ H Q)
    (ok : blkC N sc scope (ownOf N vs) = true) (hset : isSet iter = false) : DF X F (.ListComp (.List [] lp) [⟨tg, iter, [], 0⟩] scope pos) ρ (.on (.list (ds.map fun _ => .list []))) := by
  intro σ H H0 Q env k
  have okb : BlkOk X.N X.env.scope scope (ownOf N vs) := by rw [C.hN, C.hsc]; exact blkOk_by ok
  refine tOf_of (pe_lc (te := tLst tNil) C.calm (by rw [C.hN]; exact C.nd) pi_of okb pgB (fun s H D cl fp => ptsB s H D cl fp []) (fun s H D cl fp => pe_lst pa_nil) (folded_no hset)) ?_
  rw [ownOf_slots]
  exact nest_read hi hg env k
theorem ds_nest (C : Ctx X N sc fs cs Φ) {i : Nat} {y : Str} {tg iter : Expr} {scope : Scope} {lp p pos spos : Pos} {vs : List Nat} {ds : List D} (hi : DI X F tg iter ρ ds)
    (hg : ∀ d ∈ ds, ∀ (σ : L2.St) (H H0 : Hp) (v : V) (Q : L2.St → Hp → Prop), EnvOk X.K F H0 H σ (wipeB ρ vs) → RD X.K H0 v d → (∀ σ2, wipe σ2 vs = wipe σ vs → Q σ2 H) → tBG X scope tg v σ H Q)
    (ok : blkC N sc scope (ownOf N vs) = true) (hset : isSet iter = false) (hy : N[i]? = some y) (hl : locB sc fs y = true) :
    DS X F (.Assign [.Name y p] (.ListComp (.List [] lp) [⟨tg, iter, [], 0⟩] scope pos) spos) ρ (.nx (ρ.set i (.on (.list (ds.map fun _ => .list []))))) := by
  have hN : X.N.Nodup := by rw [C.hN]; exact C.nd
  have hy' : X.N[i]? = some y := by rw [C.hN]; exact hy
  obtain ⟨l1, l2⟩ := locB_ok C.hsc C.hfs hl
  have okb : BlkOk X.N X.env.scope scope (ownOf N vs) := by rw [C.hN, C.hsc]; exact blkOk_by ok
  have hdf := df_nest C (pos := pos) (lp := lp) hi hg ok hset
  cases hsw : (X.env.blockKind == .function && X.env.kindOf y == some .local && p.line == (Expr.ListComp (.List [] lp) [⟨tg, iter, [], 0⟩] scope pos).pos.line && !(scope.names.any fun (n, k) => n == y && (k == .local || k == .cell))) with
  | false =>
    have hs : swapsWith (.ListComp (.List [] lp) [⟨tg, iter, [], 0⟩] scope pos) (some (.Name y p)) spos.line X.env = pure false := by
      unfold swapsWith
      exact congrArg pure hsw
    exact ds_setO hN hy' l1 l2 hdf rfl hs
  | true =>
    have hs : swapsWith (.ListComp (.List [] lp) [⟨tg, iter, [], 0⟩] scope pos) (some (.Name y p)) spos.line X.env = pure true := by
      unfold swapsWith
      exact congrArg pure hsw
    have hyl : X.env.scope.names.lookup y = some .local := by
      simp only [Bool.and_eq_true] at hsw
      have := hsw.1.1.2
      cases q : X.env.scope.names.lookup y with
      | none =>
        have e : X.env.kindOf y = none := q
        rw [e] at this; cases this
      | some kk =>
        have e : X.env.kindOf y = some kk := q
        rw [e] at this
        cases kk <;> first | rfl | cases this
    intro σ H H0 D W tk env k
    refine tOfS_of (ps_setLc (te := tLst tNil) C.calm hN hy' hyl hs pi_of okb pgB (fun s H D cl fp => ptsB s H D cl fp []) (fun s H D cl fp => pe_lst pa_nil) (folded_no hset)) ?_
    rw [ownOf_slots]
    exact nest_read hi hg env fun v H' H0' fp p1 o hf => k _ _ _ (env.setOwn p1 rfl o hf)
end
end OL

end
section
set_option Elab.async false
set_option linter.all false
set_option maxRecDepth 100000
set_option maxHeartbeats 4000000
namespace OL
open PySem PySem.Spec PyProof.Rows L2 RZ

section
variable {X : Cx} {F : Fx} {ρ : Env} {N : List Str} {sc : Scope} {fs : Str → Bool} {cs : List (Str × Key)} {Φ : Tab}
variable {K : PySem.W.Frag} {H0 H H0' H' : Hp} {σ : L2.St}
/-! ### new dicts -/
theorem df_dnT {pos : Pos} : DF X F (.Dict [] [] pos) ρ (.ow (.dict [])) := by
  intro σ H H0 Q env k
  refine tOf_of pe_dnewT fun p np => ?_
  exact k _ _ H0 [p] (Post.own env.s np) (.dT upd_same .nil) fun a ha => by
    simp at ha; subst ha
    exact ⟨np, env.s.free np⟩
theorem df_dnK {pos : Pos} : DF X F (.Dict [] [] pos) ρ (.dk []) := by
  intro σ H H0 Q env k
  refine tOf_of pe_dnewK fun p np => ?_
  exact k _ _ H0 [p] (Post.own env.s np) (.dK upd_same .nil) fun a ha => by
    simp at ha; subst ha
    exact ⟨np, env.s.free np⟩
/-- {k: v}, k a tuple -/
def tOne (tk tv : TE) : TE := fun σ H Q => ∀ p, H p = none → tPairs [(tk, tv)] σ (upd H p (.dT [])) fun ps H2 => ∃ b kk y, ps = [(.ref b, y)] ∧ H2 b = some (.tup (kk.map kV)) ∧ H2 p = some (.dT []) ∧ Q (.ref p) (upd H2 p (.dT [(kk, y)]))
theorem pe_oneT (hu : X.A.units + 1 < cLine) {k v : Expr} {tk tv : TE} {pos : Pos} (hk : PE X k tk) (hv : PE X v tv) : PE X (.Dict [some k] [v] pos) (tOne tk tv) := by
  refine ⟨fun pins s σ H Q I q => ?_⟩
  have hn := I.hok.fresh (Nat.le_refl s.heap.objs.size)
  have J1 := I.laid (a := s.heap.objs.size) (o := .dT []) (h' := s.heap.push { cls := .type "dict", data := .dict #[] }) (t' := s.toks) (fun _ _ z => Heap.get?_push_of_some _ z) (Nat.le_refl _) (dt_empty s.heap I.big)
  have hP := (pps_cons (X := X) (pos := pos) hk hv pps_nil).run pins _ σ _ _ J1 (q _ hn)
  rw [arm_eval_Dict]
  have hshape : (evalEachOpt [some k] X.env).zip ((evalEach [v] X.env).map fun v => do let x ← v; standAt pos; pure x) = [((eval k X.env), (do let x ← eval v X.env; standAt pos; pure x))].map fun p => (some p.1, p.2) := rfl
  rw [hshape, dictDisplay_pairs _ (by simp) (by simp)]
  refine wpAny_bind (wpAny_standAt (wpAny_bind (wpAny_subDictH (knd := tupleKind (mixKind X.prog X.w)) (show X.A.units < cLine by omega) (by simp) ?_)))
  refine thn hP fun ws s2 ⟨ps, H2, I2, rel, b, kk, y, e, hb, hp, q2⟩ => ?_
  subst e
  cases rel with | @cons _ w2 _ _ r1 r2 =>
  cases r2
  obtain ⟨kv, vv⟩ := w2
  have e1 : kv = Value.ref b := r1.1
  subst e1
  obtain ⟨z, hd, xs, r0, dd⟩ := dt_of I2.hok hp
  cases r0
  refine ⟨[(kk, b, vv)], ⟨rfl, rfl, key_of I2.hok hb, trivial⟩, dd, fun h' tk hD hs => wpAny_pure ⟨.ref s.heap.objs.size, _, ?_, rfl, q2⟩⟩
  obtain ⟨o, es, ep, g1, g2, g3, g4, g5, g6⟩ := hD
  have hne : b ≠ s.heap.objs.size := fun e => by rw [e, hp] at hb; cases hb
  refine d_write I2 (by rw [hp]; exact True.intro) hs ⟨_, g1⟩ ?_
  refine (show ObjOk X.prog X.w _ _ _ (.dT [(kk, y)]) from ⟨by simp [sizeLine_eq], hd, [(kk, b, vv)], .cons ⟨rfl, by rw [upd_ne hne]; exact hb, r1.2⟩ .nil, o, es, ep, g1, g2, g3, g4, g6⟩)
/-- a new dict, to be shared -/
theorem de_lock {x : Expr} {b : B} {ds : List (D × D)} (hb : b = .ow (.dict ds) ∨ b = .dk ds) (h : DF X F x ρ b) : DE X F x ρ (.dict ds) := by
  intro σ H H0 Q env k pins s I
  refine thn (h σ H H0 (fun v H1 => ∃ H01 fp, Post H0 H H01 H1 ∧ Own X.K H01 H1 v b fp ∧ ∀ a ∈ fp, H a = none ∧ H01 a = none) env (fun v H1 H01 fp p o f => ⟨H01, fp, p, o, f⟩) pins s I) fun u s1 ⟨v, H1, I1, r, H01, fp, p, o, hf⟩ => ?_
  have fin : ∀ (a : Addr) (oo : HO), H1 a = some oo → Mut (some oo) → mutO oo = true → a ∈ fp → (∀ od, RD X.K (upd H01 a (.frz od oo)) (.ref a) (.dict ds)) → v = .ref a → EP X pins σ Q u s1 := fun a oo g mu hm ha hr ev => by
    obtain ⟨n1, n2⟩ := hf a ha
    obtain ⟨od, I2⟩ := I1.lock g mu
    refine ⟨v, _, I2, r, ?_⟩
    subst ev
    refine k _ _ (upd H01 a (.frz od oo)) ⟨p.a.trans (same_upd n2), p.b.put n1 (.inr ⟨_, g, hm⟩), same_both p.c, fun c hc e => ?_⟩ (hr od)
    · have : c ≠ a := fun y => hc.ne (by rw [y]; exact n1)
      rw [upd_ne this]; exact p.d c hc e
  rcases hb with rfl | rfl
  · cases o with | dT g rr => exact fin _ _ g trivial rfl (by simp) (fun od => .dT upd_same (rr.mono (same_upd (hf _ (by simp)).2))) rfl
  · cases o with | dK g rr => exact fin _ _ g trivial rfl (by simp) (fun od => .dK upd_same (rr.mono (same_upd (hf _ (by simp)).2))) rfl
theorem df_one (hu : X.A.units + 70 < cLine) {k v : Expr} {x y : D} {pos : Pos} (hk : DE X F k ρ x) (hv : DE X F v ρ y) (hx : (toKT x).isSome = true) : DF X F (.Dict [some k] [v] pos) ρ (.ow (.dict [(x, y)])) := by
  intro σ H H0 Q env kk
  obtain ⟨ks, ek⟩ := Option.isSome_iff_exists.mp hx
  have := toKT_is ek
  subst this
  refine tOf_of (pe_oneT (by omega) pe_of pe_of) fun p np => ?_
  have env1 := env.post (Post.own (o := .dT []) env.s np)
  refine hk σ _ H0 _ env1 fun u H1 H01 p1 r1 => ?_
  refine hv σ H1 H01 _ (env1.post p1) fun w H2 H02 p2 r2 => ?_
  obtain ⟨b, rfl, hb⟩ := r1.keyT'
  have pp := p1.trans p2
  have hp2 : H2 p = some (.dT []) := pp.b.at upd_same
  have h0p : H02 p = none := pp.d p (.inl ⟨_, upd_same, rfl⟩) (env.s.free np)
  refine ⟨b, ks, w, rfl, p2.b.at (p1.c _ _ hb), hp2, ?_⟩
  refine kk _ _ H02 [p] ⟨pp.a, ((Ext.of (same_upd np)).trans pp.b).put np (.inr ⟨_, hp2, rfl⟩), fun c z e => ?_, fun c hc e => ?_⟩ (.dT upd_same (.cons r2 .nil)) fun a ha => by
    simp at ha; subst ha
    exact ⟨np, h0p⟩
  · have hc : c ≠ p := ne_of_none e h0p
    rw [upd_ne hc]; exact pp.c _ _ e
  · exact pp.d c (hc.mono (.of (same_upd np))) e
/-! ### an owned dict is changed -/
theorem RDT.put {k : List Key} {v : V} {d : D} (r : RD K H v d) : ∀ {vs : List (List Key × V)} {ds : List (D × D)}, RDT K H vs ds → RDT K H (putK vs k v) (putD ds (keyT k) d) := by
  have any : ∀ {vs : List (List Key × V)} {ds : List (D × D)}, RDT K H vs ds → (ds.any fun kv => PyData.eqv kv.1 (keyT k)) = vs.any fun kv => decide (kv.1 = k) := by
    intro vs ds h
    induction vs generalizing ds with
    | nil => cases h; rfl
    | cons a vs ih => cases h with | cons h t => simp only [List.any_cons, eqv_keyT, ih t]
  have mp : ∀ {vs : List (List Key × V)} {ds : List (D × D)}, RDT K H vs ds → RDT K H (vs.map fun kv => if kv.1 = k then (kv.1, v) else kv) (ds.map fun kv => if PyData.eqv kv.1 (keyT k) = true then (kv.1, d) else kv) := by
    intro vs ds h
    induction vs generalizing ds with
    | nil => cases h; exact .nil
    | cons a vs ih =>
      cases h with | @cons k0 v0 _ d0 _ h t =>
      simp only [List.map_cons, eqv_keyT, decide_eq_true_eq]
      by_cases e : k0 = k
      · rw [if_pos e, if_pos e]; exact .cons r (by simpa only [eqv_keyT, decide_eq_true_eq] using ih t)
      · rw [if_neg e, if_neg e]; exact .cons h (by simpa only [eqv_keyT, decide_eq_true_eq] using ih t)
  have ap : ∀ {vs : List (List Key × V)} {ds : List (D × D)}, RDT K H vs ds → RDT K H (vs ++ [(k, v)]) (ds ++ [(keyT k, d)]) := by
    intro vs ds h
    induction vs generalizing ds with
    | nil => cases h; exact .cons r .nil
    | cons a vs ih => cases h with | cons h t => exact .cons h (ih t)
  intro vs ds h
  unfold putK putD
  rw [any h]
  split
  · exact mp h
  · exact ap h
theorem RDK.put {k : Key} {v : V} {d : D} (r : RD K H v d) : ∀ {vs : List (Key × V)} {ds : List (D × D)}, RDK K H vs ds → RDK K H (putK vs k v) (putD ds (keyD k) d) := by
  have any : ∀ {vs : List (Key × V)} {ds : List (D × D)}, RDK K H vs ds → (ds.any fun kv => PyData.eqv kv.1 (keyD k)) = vs.any fun kv => decide (kv.1 = k) := by
    intro vs ds h
    induction vs generalizing ds with
    | nil => cases h; rfl
    | cons a vs ih => cases h with | cons h t => simp only [List.any_cons, eqv_keyD, ih t]
  have mp : ∀ {vs : List (Key × V)} {ds : List (D × D)}, RDK K H vs ds → RDK K H (vs.map fun kv => if kv.1 = k then (kv.1, v) else kv) (ds.map fun kv => if PyData.eqv kv.1 (keyD k) = true then (kv.1, d) else kv) := by
    intro vs ds h
    induction vs generalizing ds with
    | nil => cases h; exact .nil
    | cons a vs ih =>
      cases h with | @cons k0 v0 _ d0 _ h t =>
      simp only [List.map_cons, eqv_keyD, decide_eq_true_eq]
      by_cases e : k0 = k
      · rw [if_pos e, if_pos e]; exact .cons r (by simpa only [eqv_keyD, decide_eq_true_eq] using ih t)
      · rw [if_neg e, if_neg e]; exact .cons h (by simpa only [eqv_keyD, decide_eq_true_eq] using ih t)
  have ap : ∀ {vs : List (Key × V)} {ds : List (D × D)}, RDK K H vs ds → RDK K H (vs ++ [(k, v)]) (ds ++ [(keyD k, d)]) := by
    intro vs ds h
    induction vs generalizing ds with
    | nil => cases h; exact .cons r .nil
    | cons a vs ih => cases h with | cons h t => exact .cons h (ih t)
  intro vs ds h
  unfold putK putD
  rw [any h]
  split
  · exact mp h
  · exact ap h
theorem RDT.length : ∀ {vs : List (List Key × V)} {ds : List (D × D)}, RDT K H vs ds → vs.length = ds.length
  | _, _, .nil => rfl
  | _, _, .cons _ t => by simp [RDT.length t]
theorem RDK.length : ∀ {vs : List (Key × V)} {ds : List (D × D)}, RDK K H vs ds → vs.length = ds.length
  | _, _, .nil => rfl
  | _, _, .cons _ t => by simp [RDK.length t]
theorem ds_dput (hu : X.A.units + 70 < cLine) {i : Nat} {x : Str} {e b : Expr} {d z : D} {bb bb' : B} {p q pos : Pos} (hN : X.N[i]? = some x) (hv : Vis X.env.scope x) (h1 : (x == ("__debug__" : Str)) = false) (h2 : (x == ("__classdict__" : Str)) = false)
    (he : DE X F e ρ d) (hb : DE X F b ρ z) (ho : ρ[i]? = some bb)
    (hc : (∃ kvs, bb = .ow (.dict kvs) ∧ bb' = .ow (.dict (putD kvs z d)) ∧ (toKT z).isSome = true ∧ kvs.length < 16777216) ∨ ∃ kvs, bb = .dk kvs ∧ bb' = .dk (putD kvs z d) ∧ (toK z).isSome = true ∧ kvs.length < 16777216) (hcm : isComp e = false) :
    DS X F (.Assign [.Subscript (.Name x p) b q] e pos) ρ (.nx (ρ.set i bb')) := by
  intro σ H H0 D W tk env k
  refine tOfS_of (ps_dput (by omega) (pe_var hN hv h1 h2) pe_of pe_of (swaps_no' hcm)) ?_
  refine he σ H H0 _ env fun w H1 H01 p1 r1 => ?_
  have env1 := env.post p1
  have hi : i < σ.length := by rw [env1.len]; exact (List.getElem?_eq_some_iff.mp ho).1
  obtain ⟨fp0, hs0, _⟩ := env1.sl
  have q0 := hs0 i σ[i] bb (by simp [hi]) ho
  rcases hc with ⟨kvs, rfl, rfl, hk, hl⟩ | ⟨kvs, rfl, rfl, hk, hl⟩
  · obtain ⟨v, ev, o⟩ := q0
    have ev' : σ[i]? = some (some v) := by rw [← ev]; simp [hi]
    obtain ⟨kk, ek⟩ := Option.isSome_iff_exists.mp hk
    have := toKT_is ek
    subst this
    generalize fp0 i = fpi at o
    cases o with | @dT a vs _ g r =>
    refine ⟨_, ev', ?_⟩
    refine hb σ H1 H01 _ env1 fun u H2 H02 p2 r2 => ?_
    obtain ⟨b', rfl, hb'⟩ := r2.keyT'
    have g2 := p2.b.at g
    refine ⟨a, _, rfl, DPut.t g2 (p2.c _ _ hb') (by rw [r.length, ← sz]; exact hl), ?_⟩
    refine k _ _ H02 ((env1.post p2).mut ev' ho fun fp qq hn => ?_)
    obtain ⟨u', e', o'⟩ := qq
    cases e'
    cases o' with | dT g' r' =>
    have ee := HO.dT.inj (Option.some.inj (g2.symm.trans g'))
    subst ee
    refine ⟨⟨_, rfl, .dT upd_same (RDT.put (r1.mono p2.a) r')⟩, fun c hc => upd_ne (by simpa using hc), fun c hc => ?_⟩
    simp at hc; subst hc
    exact ⟨_, upd_same, rfl⟩
  · obtain ⟨v, ev, o⟩ := q0
    have ev' : σ[i]? = some (some v) := by rw [← ev]; simp [hi]
    obtain ⟨kk, ek⟩ := Option.isSome_iff_exists.mp hk
    have := toK_is ek
    subst this
    generalize fp0 i = fpi at o
    cases o with | @dK a vs _ g r =>
    refine ⟨_, ev', ?_⟩
    refine hb σ H1 H01 _ env1 fun u H2 H02 p2 r2 => ?_
    have hy := r2.key'
    subst hy
    have g2 := p2.b.at g
    refine ⟨a, _, rfl, DPut.k g2 (by rw [r.length, ← sz]; exact hl), ?_⟩
    refine k _ _ H02 ((env1.post p2).mut ev' ho fun fp qq hn => ?_)
    obtain ⟨u', e', o'⟩ := qq
    cases e'
    cases o' with | dK g' r' =>
    have ee := HO.dK.inj (Option.some.inj (g2.symm.trans g'))
    subst ee
    refine ⟨⟨_, rfl, .dK upd_same (RDK.put (r1.mono p2.a) r')⟩, fun c hc => upd_ne (by simpa using hc), fun c hc => ?_⟩
    simp at hc; subst hc
    exact ⟨_, upd_same, rfl⟩
/-! ### look-ups by get -/
theorem m1_of {o e : Expr} {m : Str} {ap cp : Pos} (hb : attributeBase o m X.env (eval o X.env) = eval o X.env) (hs : notStar e = true) (hl : (ap.endLine == cp.line) = true) : M1 X o m ap e cp :=
  ⟨hb, few1 hs, hl, by rw [star_cons hs]; rfl⟩
theorem few2 {e f : Expr} {pos : Pos} {env : PySem.Env} (hs : notStar e = true) (hs2 : notStar f = true) : ((backTo pos (starEach [e, f] env)).all (fun x => !x.1) && (backToKw pos (keywordEach [] env)).all (fun x => x.1.isSome)
      && decide (([e, f] : List Expr).length + ([] : List Keyword).length + (if ([] : List Keyword).isEmpty then 0 else 1) < 30)) = true := by
  rw [star_cons hs, star_cons hs2]; rfl
theorem m2_of {o e f : Expr} {m : Str} {ap cp : Pos} (hb : attributeBase o m X.env (eval o X.env) = eval o X.env) (hs : notStar e = true) (hs2 : notStar f = true) (hl : (ap.endLine == cp.line) = true) : M2 X o m ap e f cp :=
  ⟨hb, few2 hs hs2, hl, by rw [star_cons hs, star_cons hs2]; rfl⟩
theorem ans_getD {z : V} {dz : D} {a : Option V} {b : Option D} (h : Ans K H a b) (hz : RD K H z dz) : RD K H (a.getD z) (b.getD dz) := by
  rcases h with ⟨rfl, rfl⟩ | ⟨v, d, rfl, rfl, r⟩
  · exact hz
  · exact r
theorem own_of {bb : B} {i : Nat} (env : EnvOk K F H0 H σ ρ) (hb : ρ[i]? = some bb) (hw : isOwn bb = true) : ∃ w fp, σ[i]? = some (some w) ∧ Own K H0 H w bb fp := by
  have hi : i < σ.length := by rw [env.len]; exact (List.getElem?_eq_some_iff.mp hb).1
  obtain ⟨fp, h1, _⟩ := env.sl
  have q := h1 i σ[i] bb (by simp [hi]) hb
  cases bb with
  | un => cases hw
  | sh _ => cases hw
  | ow _ => obtain ⟨w, e, o⟩ := q; exact ⟨w, _, by rw [← e]; simp [hi], o⟩
  | on _ => obtain ⟨w, e, o⟩ := q; exact ⟨w, _, by rw [← e]; simp [hi], o⟩
  | er _ => cases hw
  | dk _ => obtain ⟨w, e, o⟩ := q; exact ⟨w, _, by rw [← e]; simp [hi], o⟩
theorem lookO_own {bb : B} {k : D} {o : Option D} (h : lookO (some bb) k = some o) : isOwn bb = true := by
  cases bb <;> first | rfl | cases h
theorem de_oget (hu : X.A.units + 70 < cLine) {i : Nat} {x : Str} {e f : Expr} {bb : B} {z dz : D} {o : Option D} {p ap cp : Pos} (hN : X.N[i]? = some x) (hv : Vis X.env.scope x) (h1 : (x == ("__debug__" : Str)) = false) (h2 : (x == ("__classdict__" : Str)) = false)
    (he : DE X F e ρ z) (hf : DE X F f ρ dz) (hb : ρ[i]? = some bb) (hl : lookO (some bb) z = some o) (hs : notStar e = true) (hs2 : notStar f = true) (hline : (ap.endLine == cp.line) = true) :
    DE X F (.Call (.Attribute (.Name x p) "get" ap) [e, f] [] cp) ρ (o.getD dz) := by
  intro σ H H0 Q env k
  refine tOf_of (pe_dget2 (by omega) (pe_var hN hv h1 h2) pe_of pe_of (m2_of rfl hs hs2 hline)) ?_
  obtain ⟨w, fp, ew, ow⟩ := own_of env hb (lookO_own hl)
  refine ⟨w, ew, ?_⟩
  have isd : ∃ a, w = .ref a ∧ IsD H a := by
    cases ow with
    | lst g r => cases hl
    | dT g r => exact ⟨_, rfl, .inr ⟨_, .inl g⟩⟩
    | dK g r => exact ⟨_, rfl, .inl ⟨_, .inl g⟩⟩
    | nest g r n => cases hl
  obtain ⟨a, rfl, isd⟩ := isd
  refine ⟨a, rfl, isd, ?_⟩
  refine he σ H H0 _ env fun y H1 H01 p1 r1 => ?_
  refine hf σ H1 H01 _ (env.post p1) fun u H2 H02 p2 r2 => ?_
  obtain ⟨w2, fp2, ew2, ow2⟩ := own_of ((env.post p1).post p2) hb (lookO_own hl)
  rw [ew] at ew2
  cases ew2
  obtain ⟨a', ov, e', _, g, an⟩ := lookO_sound ow2 (r1.mono p2.a) p2.c hl
  cases e'
  exact ⟨ov, g, k _ _ _ (p1.trans p2) (ans_getD an r2)⟩
/-- .. in a shared one -/
theorem isD_of {a : Addr} {kvs : List (D × D)} {z : D} {o : Option D} (s : Same H0 H) (r : RD K H0 (.ref a) (.dict kvs)) (hl : lookS kvs z = some o) : IsD H a := by
  cases r with
  | clo f =>
    unfold lookS at hl
    simp [toKT, toK] at hl
  | dT g r => exact .inr ⟨_, .inr ⟨_, s _ _ g⟩⟩
  | dK g r => exact .inl ⟨_, .inr ⟨_, s _ _ g⟩⟩
theorem de_get2 (hu : X.A.units + 70 < cLine) {oe e f : Expr} {kvs : List (D × D)} {z dz : D} {o : Option D} {ap cp : Pos} (ho : DE X F oe ρ (.dict kvs)) (he : DE X F e ρ z) (hf : DE X F f ρ dz) (hl : lookS kvs z = some o) (hs : notStar e = true) (hs2 : notStar f = true) (hline : (ap.endLine == cp.line) = true)
    (hab : attributeBase oe "get" X.env (eval oe X.env) = eval oe X.env) : DE X F (.Call (.Attribute oe "get" ap) [e, f] [] cp) ρ (o.getD dz) := by
  intro σ H H0 Q env k
  refine tOf_of (pe_dget2 (by omega) pe_of pe_of pe_of (m2_of hab hs hs2 hline)) ?_
  refine ho σ H H0 _ env fun v H1 H01 p1 r1 => ?_
  obtain ⟨a, rfl⟩ : ∃ a, v = V.ref a := by cases r1 <;> exact ⟨_, rfl⟩
  refine ⟨a, rfl, isD_of p1.c r1 hl, ?_⟩
  refine he σ H1 H01 _ (env.post p1) fun y H2 H02 p2 r2 => ?_
  refine hf σ H2 H02 _ ((env.post p1).post p2) fun u H3 H03 p3 r3 => ?_
  obtain ⟨ov, g, an⟩ := look_sound ((r1.mono p2.a).mono p3.a) (r2.mono p3.a) p3.c hl
  exact ⟨ov, g, k _ _ _ ((p1.trans p2).trans p3) (ans_getD an r3)⟩
theorem de_get1 (hu : X.A.units + 70 < cLine) {oe e : Expr} {kvs : List (D × D)} {z : D} {o : Option D} {ap cp : Pos} (ho : DE X F oe ρ (.dict kvs)) (he : DE X F e ρ z) (hl : lookS kvs z = some o) (hs : notStar e = true) (hline : (ap.endLine == cp.line) = true)
    (hab : attributeBase oe "get" X.env (eval oe X.env) = eval oe X.env) : DE X F (.Call (.Attribute oe "get" ap) [e] [] cp) ρ (o.getD .none) := by
  intro σ H H0 Q env k
  refine tOf_of (pe_dget1 (by omega) pe_of pe_of (m1_of hab hs hline)) ?_
  refine ho σ H H0 _ env fun v H1 H01 p1 r1 => ?_
  obtain ⟨a, rfl⟩ : ∃ a, v = V.ref a := by cases r1 <;> exact ⟨_, rfl⟩
  refine ⟨a, rfl, isD_of p1.c r1 hl, ?_⟩
  refine he σ H1 H01 _ (env.post p1) fun y H2 H02 p2 r2 => ?_
  obtain ⟨ov, g, an⟩ := look_sound (r1.mono p2.a) r2 p2.c hl
  exact ⟨ov, g, k _ _ _ (p1.trans p2) (ans_getD an .non)⟩
end
end OL

end
section
set_option Elab.async false
set_option linter.all false
set_option maxRecDepth 100000
set_option maxHeartbeats 4000000
namespace OL
open PySem PySem.Spec PyProof.Rows L2 RZ

/-! ### enumerate over a tuple -/
theorem meets_enumT (l : Addr) (items : Array Value) (n : Nat) (dd : Option Addr) (sl : Array (Option Value)) :
    Meets (Builtin.«enumerate.__new__» ⟨[.type "enumerate", .ref l], []⟩) (fun _ R s => s.heap.get? l = some { cls := .type "tuple", dict := dd, data := .seq items n, slots := sl } ∧
      R (.ok (.ret (.ref (s.heap.push { cls := .type "tuple_iterator", data := .fields #[.ref l, .int 0 0] }).objs.size)))
        { s with heap := (s.heap.push { cls := .type "tuple_iterator", data := .fields #[.ref l, .int 0 0] }).push { cls := .type "enumerate", data := .fields #[.none, .bool false, .ref s.heap.objs.size, rawInt 0, .none, .none] } }) :=
  .of_wp fun prog w A R s h => by
    obtain ⟨hp, g, dw, tk, os⟩ := s
    obtain ⟨hl, h⟩ := h
    have hsubE := sub_enumerate
    have hTu : Heap.IsTuple (Shared.heap ⟨hp, g, dw, tk, os⟩) l items := ⟨_, hl, rfl, n, rfl⟩
    wp_walk using wpAny_loadPart' hl
    refine wpAny_stack_any fun st => wpAny_pure ?_
    split
    · rename_i c _ _ _ _ _
      cases (c == Value.type "enumerate")
      · wp_walk using wpAny_loadPart' hl, wpAny_pyIter_tuple hTu
        exact ⟨_, rfl, h⟩
      · wp_walk using wpAny_loadPart' hl, wpAny_pyIter_tuple hTu
        exact ⟨_, rfl, h⟩
    · wp_walk using wpAny_loadPart' hl, wpAny_pyIter_tuple hTu
      exact ⟨_, rfl, h⟩
theorem call_enumT {prog : Program} {w : World} {A : Around} {E : Value → Shared → Prop} {s : Shared} {l : Addr} {items : Array Value} {Q : Value → Shared → Prop} (hT : s.heap.IsTuple l items)
    (h : ∀ h', IsEnum h' (s.heap.objs.size + 1) s.heap.objs.size 0 .none → h'.IsTupleIter s.heap.objs.size l 0 → h'.objs.size = s.heap.objs.size + 2 →
      (∀ b o, s.heap.get? b = some o → h'.get? b = some o) → Q (.ref (s.heap.objs.size + 1)) { s with heap := h' }) : wpAny (model prog w) A (call (.type "enumerate") [.ref l]) Q E s := by
  obtain ⟨⟨c, dct, dt, sl⟩, hl, hc, n, hd⟩ := hT
  have hc' : c = .type "tuple" := hc
  have hd' : dt = .seq items n := hd
  subst hc' hd'
  refine callType_new F.called_enumerate (by decide) (F.typeCall_enumerate_1 _) (F.newCall_enumerate_1 _) (fun obj => F.args_object_init_2 obj _) F.entry_enumerate_new (meets_enumT l items n dct sl) ⟨hl, ?_⟩
  have hz : (s.heap.push { cls := .type "tuple_iterator", data := .fields #[.ref l, .int 0 0] }).objs.size = s.heap.objs.size + 1 := Heap.size_push ..
  show _ ∧ _
  rw [hz]
  have he : IsEnum ((s.heap.push { cls := .type "tuple_iterator", data := .fields #[.ref l, .int 0 0] }).push { cls := .type "enumerate", data := .fields #[.none, .bool false, .ref s.heap.objs.size, rawInt 0, .none, .none] }) (s.heap.objs.size + 1) s.heap.objs.size 0 .none := by
    have q := Heap.get?_push_size (s.heap.push { cls := .type "tuple_iterator", data := .fields #[.ref l, .int 0 0] }) (o := { cls := .type "enumerate", data := .fields #[.none, .bool false, .ref s.heap.objs.size, rawInt 0, .none, .none] }) rfl
    rw [hz] at q; exact q
  refine ⟨⟨_, he, rfl⟩, h _ he ⟨_, Heap.get?_push_of_some _ (Heap.get?_push_size _ rfl), rfl, rfl⟩ (by rw [Heap.size_push, hz]) fun b o x => Heap.get?_push_of_some _ (Heap.get?_push_of_some _ x)⟩
/-- the items of the tuple at a, each in a new pair -/
def IteT (K : PySem.W.Frag) (a : Addr) : It :=
  ⟨fun i H => ∃ (xs : List V) (x : V), SqT K H a xs ∧ xs[i]? = some x, fun i H v H' => ∃ T x, v = .ref T ∧ H T = none ∧ H' = upd H T (.tup [.int (i : Nat), x]) ∧ ∀ xs, SqT K H a xs → xs[i]? = some x, fun i H => ∃ xs : List V, SqT K H a xs ∧ xs.length ≤ i⟩
theorem next_enumT_end {prog : Program} {w : World} {A : Around} {E : Value → Shared → Prop} {s : Shared} {e it l : Addr} {i : Nat} {items : Array Value} {old : Value} {Q : Option Value → Shared → Prop} (hh : A.handled = none)
    (he : IsEnum s.heap e it i old) (hit : s.heap.IsTupleIter it l i) (hl : s.heap.IsTuple l items) (hx : items[i]? = none) (hQ : ∀ h', Heap.ExtBut it s.heap h' → Q none { s with heap := h' }) : wpAny (model prog w) A (pyNext (.ref e)) Q E s := by
  have hT : s.TypeIs (.ref e) "enumerate" := ⟨_, he, rfl⟩
  unfold pyNext
  refine wpAny_bind (wpAny_attempt (wpAny_callSpecial?_slot (name := Str.ofString "__next__") hT F.slot_enumerate_next (wpAny_call_entry F.slot_enumerate_next hT F.entry_enumerate_next ?_ (F.args_enumerate_next_1 _))))
  show wpAny _ _ (field (.ref e) 2 >>= _) _ _ _
  refine wpAny_bind (wpAny_field he rfl (x := .ref it) rfl (wpAny_bind (wpAny_nextOf_tuple_end hh hit hl hx fun h' x he' hx' => ?_)))
  obtain ⟨o, ho, hc⟩ := hx'
  exact wpAny_bind (wpAny_isInstance (T := "StopIteration") (b := true) ⟨o, ho, hc⟩ isSubtype_stop (wpAny_pure (hQ _ he')))
theorem turn_enumT {P : Program} {w : World} {K : PySem.W.Frag} {elts : List Expr} {kk : Nat} {tpos : Pos} (a e it : Addr) (items : Array Value) (hai : a ≠ it) (hae : a ≠ e) :
    Turn P w K (.Tuple elts kk tpos) (IteT K a) [e, it] e (fun i h => (∃ old, IsEnum h e it ((i : Nat) : Int) old) ∧ h.IsTupleIter it a i ∧ e ≠ it) where
  mem := by simp
  obj := fun i h st b hb => by
    obtain ⟨⟨old, he⟩, ⟨o, ho, hc, hd⟩, _⟩ := st
    have e' : b = e ∨ b = it := by simpa using hb
    rcases e' with z | z
    · subst z; exact ⟨_, he, fun v q => nomatch q⟩
    · subst z; exact ⟨o, ho, fun v q => by rw [hd] at q; cases q⟩
  keep := fun i h h' st k => ⟨⟨st.1.choose, k e (by simp) _ st.1.choose_spec⟩, st.2.1.at fun o q => k it (by simp) o q, st.2.2⟩
  item := by
    intro X hP hw hK hc i pins s σ H E I hf st hg
    subst hP hw hK
    obtain ⟨⟨old, he⟩, hit, hne⟩ := st
    obtain ⟨xs, x, hq, hx⟩ := hg
    obtain ⟨its, rv, p, hz⟩ := I.tuple hq
    obtain ⟨u, hu, ru⟩ := rv.get hx
    have hel : e < s.heap.objs.size := Heap.lt_size he
    have hil : it < s.heap.objs.size := by obtain ⟨_, q, _⟩ := hit; exact Heap.lt_size q
    have hlt : i < its.toArray.size := by
      have := (List.getElem?_eq_some_iff.mp hu).1
      simpa using this
    refine wpAny_pyNext_enum_itemD (Draws.tuple (A := X.A.in1) (I.ok.hd hc) it a hai its.toArray) he ⟨hit, p⟩ hlt hne (by simp [hne, Ne.symm hae]) fun y h' tk hy ho hst' hT hsz hk => ?_
    have ey : y = u := by
      have h1 : its.toArray[i]? = some u := by simpa using hu
      rw [h1] at hy
      exact (Option.some.inj hy).symm
    subst ey
    refine ⟨_, rfl, wpAny_letOwnedTupleGo_enum (s := { s with heap := h', toks := tk + 1 }) ho fun h'' he' sb => ?_⟩
    have hT2 : h''.get? s.heap.objs.size = some { cls := .type "tuple", data := .seq #[.int i tk, y] } := (sb.2 _ (Nat.ne_of_gt hel)).trans hT
    have new : ObjOk X.prog X.w (upd H s.heap.objs.size (.tup [.int (i : Nat), x])) h'' s.heap.objs.size (.tup [.int (i : Nat), x]) :=
      ⟨by show 2 ≤ sizeLine; decide, [.int i tk, y], .cons ⟨_, rfl⟩ (.cons ru .nil), ⟨_, hT2, rfl, _, rfl⟩⟩
    have I1 : L2.Inv X pins σ (upd H s.heap.objs.size (.tup [.int (i : Nat), x])) { s with heap := h'', toks := tk + 1 } :=
      I.turnedNew (ch := [e, it]) (fun b ob hb q => (sb.2 b (fun z => hb (by simp [z]))).trans (hk b ob (fun z => hb (by simp [z])) (fun z => hb (by simp [z])) q)) hf (Nat.le_refl _) new
    refine ⟨.ref s.heap.objs.size, _, I1, rfl, ⟨_, x, rfl, I.hok.fresh (Nat.le_refl _), rfl, fun ys hy => by rw [I.tuple_inj hy hq]; exact hx⟩, ⟨⟨y, ?_⟩, hst'.1.at fun o q => (sb.2 it (Ne.symm hne)).trans q, hne⟩, fun b hb => ?_⟩
    · have e1 : ((i + 1 : Nat) : Int) = (i : Int) + 1 := by omega
      rw [e1]; exact he'
    · have hb' : b < s.heap.objs.size := by
        have e' : b = e ∨ b = it := by simpa using hb
        rcases e' with z | z
        · subst z; exact hel
        · subst z; exact hil
      rw [upd_ne (Nat.ne_of_lt hb')]
      exact (hf b hb).1
  done := by
    intro X hP hw hK hc i pins s σ H E I hf st hg
    subst hP hw hK
    obtain ⟨⟨old, he⟩, hit, hne⟩ := st
    obtain ⟨xs, hq, hx⟩ := hg
    obtain ⟨its, rv, p, hz⟩ := I.tuple hq
    obtain ⟨f0, f1, f2, f3, f4, f5⟩ := hf it (by simp)
    have hl := rv.length
    exact next_enumT_end (I.ok.hd hc) he hit p (by simp; omega) fun h' eb => ⟨rfl, I.turned (t' := s.toks) (fun b o hb q => eb b o hb q) f0 f1 f3 f4 f5⟩
  self := fun A i s Q E st h => wpAny_pyIter_enum st.1.choose_spec h
def iEnumT (K : PySem.W.Frag) (ta : TA) : TI := fun σ H R => ta σ H fun vs H1 => ∃ a xs, vs = [.ref a] ∧ SqT K H1 a xs ∧ R (IteT K a) H1
theorem pi_enumT {X : Cx} {e : Expr} {ta : TA} {p pos tpos : Pos} {elts : List Expr} {kk : Nat} (hg : Gl X "enumerate") (hm : X.mg "enumerate" = none) (ha : PA X [e] ta) (hs : starEach [e] X.env = [(false, eval e X.env)]) :
    PI X (.Tuple elts kk tpos) (.Call (.Name "enumerate" p) [e] [] pos) (iEnumT X.K ta) := by
  refine ⟨fun pins s σ H R I h => ?_⟩
  refine Call_ (ld_blt I hg hm boot_enumerate (PyProof.Rows.callWith_type1 (thn (ha.run pos pins s σ H _ I h) fun us s1 ⟨vs, H1, I1, r1, q1⟩ => ?_) hs rfl))
  obtain ⟨a, xs, rfl, hq, q⟩ := q1
  cases r1 with | cons r rr =>
  cases rr
  cases r
  obtain ⟨its, rv, p', hz⟩ := I1.tuple hq
  have hal : a < s1.heap.objs.size := by obtain ⟨_, e, _⟩ := p'; exact Heap.lt_size e
  refine call_enumT p' fun h' he hit hsz hk => wpAny_pyIter_enum he ?_
  have I2 : L2.Inv X pins σ H1 { s1 with heap := h' } := I1.kept (t' := s1.toks) hk
  refine ⟨s1.heap.objs.size + 1, [s1.heap.objs.size + 1, s1.heap.objs.size], _, _, H1, rfl, I2, turn_enumT a (s1.heap.objs.size + 1) s1.heap.objs.size its.toArray (Nat.ne_of_lt hal) (Nat.ne_of_lt (Nat.lt_succ_of_lt hal)), ⟨⟨.none, he⟩, hit, Nat.succ_ne_self _⟩, fun b hb => ?_, q⟩
  have hle : s1.heap.objs.size ≤ b := by
    have e' : b = s1.heap.objs.size + 1 ∨ b = s1.heap.objs.size := by simpa using hb
    rcases e' with z | z
    · subst z; exact Nat.le_succ _
    · subst z; exact Nat.le_refl _
  exact I1.fpOk hle (I1.hok.fresh hle)
section
variable {X : Cx} {F : Fx} {ρ : Env} {N : List Str} {sc : Scope} {fs : Str → Bool} {cs : List (Str × Key)} {Φ : Tab}
theorem enumD_get : ∀ (n : Nat) (xs : List D) (i : Nat) (x : D), xs[i]? = some x → (enumD n xs)[i]? = some (.tuple [.int ((n + i : Nat)), x])
  | n, [], i, x, h => by simp at h
  | n, y :: xs, 0, x, h => by simp at h; subst h; rfl
  | n, y :: xs, i + 1, x, h => by
    have := enumD_get (n + 1) xs i x (by simpa using h)
    rw [show n + (i + 1) = n + 1 + i by omega]
    simpa [enumD] using this
theorem enumD_length : ∀ (n : Nat) (xs : List D), (enumD n xs).length = xs.length
  | n, [] => rfl
  | n, y :: xs => by simp [enumD, enumD_length (n + 1) xs]
theorem walk_enumT {K : PySem.W.Frag} {a : Addr} {xs : List V} : Walk (IteT K a) xs.length (fun H => SqT K H a xs) (YPair (fun i => some (.int (i : Nat))) (fun i => xs[i]?)) := by
  refine ⟨fun i _ hi q => ⟨xs, xs[i], q, by simp [hi]⟩, fun _ q => ⟨xs, q, Nat.le_refl _⟩, fun i H v H' _ q y => ?_⟩
  obtain ⟨T, x, h1, h2, h3, h4⟩ := y
  exact ⟨T, _, x, h1, h2, h3, rfl, h4 xs q⟩
theorem walk_enumL {K : PySem.W.Frag} {a : Addr} {xs : List V} : Walk (Ite K a) xs.length (fun H => SqL K H a xs) (YPair (fun i => some (.int (i : Nat))) (fun i => xs[i]?)) := by
  refine ⟨fun i _ hi q => ⟨xs, xs[i], q, by simp [hi]⟩, fun _ q => ⟨xs, q, Nat.le_refl _⟩, fun i H v H' _ q y => ?_⟩
  obtain ⟨T, x, h1, h2, h3, h4⟩ := y
  exact ⟨T, _, x, h1, h2, h3, rfl, h4 xs q⟩
theorem di_enumT (C : Ctx X N sc fs cs Φ) {es : List Expr} {j : Nat} {tp : Pos} {a : Expr} {ds : List D} {p pos : Pos} (hg : Gl X "enumerate") (ha : DE X F a ρ (.tuple ds)) (hs : notStar a = true) : DI X F (.Tuple es j tp) (.Call (.Name "enumerate" p) [a] [] pos) ρ (enumD 0 ds) := by
  intro σ H H0 R env k
  refine tOfI_of (pi_enumT hg (C.blt _ (by decide)) (pa_cons (pe_len pe_of) pa_nil (star_cons hs)) (star_cons hs)) ?_
  refine ha σ H H0 _ env fun v H1 H01 p1 r1 => ?_
  intro hlen
  cases r1 with | tup g r =>
  have gl := hlen _ _ rfl (.inr (SqT.of (p1.c _ _ g)))
  refine ⟨_, _, rfl, SqT.of (p1.c _ _ g), k _ _ _ p1 (WalkD.of walk_enumT (by rw [enumD_length, r.length]) (fun H s => SqT.of (s _ _ g)) (pair_ok fun i x y e1 e2 => ?_)) (by rw [enumD_length, ← r.length, sz]; exact gl)⟩
  obtain ⟨d2, f2, q2⟩ := r.get' e2
  cases e1
  exact ⟨_, d2, enumD_get 0 _ _ _ f2, by rw [Nat.zero_add]; exact .int _, q2⟩
theorem di_enumL (C : Ctx X N sc fs cs Φ) {es : List Expr} {j : Nat} {tp : Pos} {a : Expr} {ds : List D} {p pos : Pos} (hg : Gl X "enumerate") (ha : DE X F a ρ (.list ds)) (hs : notStar a = true) : DI X F (.Tuple es j tp) (.Call (.Name "enumerate" p) [a] [] pos) ρ (enumD 0 ds) := by
  intro σ H H0 R env k
  refine tOfI_of (pi_enum hg (C.blt _ (by decide)) (pa_cons (pe_len pe_of) pa_nil (star_cons hs)) (star_cons hs)) ?_
  refine ha σ H H0 _ env fun v H1 H01 p1 r1 => ?_
  intro hlen
  cases r1 with | lst g r =>
  have gl := hlen _ _ rfl (.inl (p1.c.seq g))
  refine ⟨_, _, rfl, p1.c.seq g, k _ _ _ p1 (WalkD.of walk_enumL (by rw [enumD_length, r.length]) (fun H s => s.seq g) (pair_ok fun i x y e1 e2 => ?_)) (by rw [enumD_length, ← r.length, sz]; exact gl)⟩
  obtain ⟨d2, f2, q2⟩ := r.get' e2
  cases e1
  exact ⟨_, d2, enumD_get 0 _ _ _ f2, by rw [Nat.zero_add]; exact .int _, q2⟩
end
end OL

end
section
set_option Elab.async false
set_option linter.all false
set_option maxRecDepth 100000
set_option maxHeartbeats 4000000
namespace OL
open PySem PySem.Spec PyProof.Rows L2 RZ

section
variable {X : Cx} {F : Fx} {ρ : Env} {N : List Str} {sc : Scope} {fs : Str → Bool} {cs : List (Str × Key)} {Φ : Tab}
variable {K : PySem.W.Frag} {H0 H H0' H' : Hp} {σ : L2.St}
/-! ### several names at once, one of them captured -/
theorem kind_not {env : PySem.Env} {x : Str} (h : locOnly env.scope x = false) : (env.kindOf x == some .local) = false := by
  have e : env.kindOf x = env.scope.names.lookup x := rfl
  rw [e]
  unfold locOnly at h
  split at h
  · cases h
  · rename_i hh
    cases q : env.scope.names.lookup x with
    | none => rfl
    | some k => cases k <;> first | rfl | exact absurd q hh
theorem sw2n {x y : Str} {px py pt pt2 : Pos} {kt k2 : Nat} {a b : Expr} {env : PySem.Env} (h : locOnly env.scope x = false ∨ locOnly env.scope y = false) :
    swappedStores [.Tuple [.Name x px, .Name y py] kt pt] (.Tuple [a, b] k2 pt2) env = pure none := by
  unfold swappedStores
  simp only [List.length_cons, List.length_nil, Expr.pos, List.head?_cons, Option.map_some, Option.getD_some, List.filterMap_cons, List.filterMap_nil]
  rcases h with h | h
  · simp only [kind_not h, Bool.false_and, Bool.false_eq_true, if_false]
    rcases Bool.eq_false_or_eq_true (env.kindOf y == some NameKind.local && py.line == px.line) with e1 | e1 <;> simp only [e1, Bool.false_eq_true, if_false, if_true] <;> simp
  · simp only [kind_not h, Bool.false_and, Bool.false_eq_true, if_false]
    rcases Bool.eq_false_or_eq_true (env.kindOf x == some NameKind.local && px.line == px.line) with e1 | e1 <;> simp only [e1, Bool.false_eq_true, if_false, if_true] <;> simp
theorem sw3n {x y z : Str} {px py pz pt pt2 : Pos} {kt k2 : Nat} {a b c : Expr} {env : PySem.Env} (h : locOnly env.scope x = false ∨ locOnly env.scope y = false ∨ locOnly env.scope z = false) :
    swappedStores [.Tuple [.Name x px, .Name y py, .Name z pz] kt pt] (.Tuple [a, b, c] k2 pt2) env = pure none := by
  unfold swappedStores
  simp only [List.length_cons, List.length_nil, Expr.pos, List.head?_cons, Option.map_some, Option.getD_some, List.filterMap_cons, List.filterMap_nil]
  rcases h with h | h | h
  · simp only [kind_not h, Bool.false_and, Bool.false_eq_true, if_false]
    rcases Bool.eq_false_or_eq_true (env.kindOf y == some NameKind.local && py.line == px.line) with e1 | e1 <;> rcases Bool.eq_false_or_eq_true (env.kindOf z == some NameKind.local && pz.line == px.line) with e2 | e2 <;> simp only [e1, e2, Bool.false_eq_true, if_false, if_true] <;> simp
  · simp only [kind_not h, Bool.false_and, Bool.false_eq_true, if_false]
    rcases Bool.eq_false_or_eq_true (env.kindOf x == some NameKind.local && px.line == px.line) with e1 | e1 <;> rcases Bool.eq_false_or_eq_true (env.kindOf z == some NameKind.local && pz.line == px.line) with e2 | e2 <;> simp only [e1, e2, Bool.false_eq_true, if_false, if_true] <;> simp
  · simp only [kind_not h, Bool.false_and, Bool.false_eq_true, if_false]
    rcases Bool.eq_false_or_eq_true (env.kindOf x == some NameKind.local && px.line == px.line) with e1 | e1 <;> rcases Bool.eq_false_or_eq_true (env.kindOf y == some NameKind.local && py.line == px.line) with e2 | e2 <;> simp only [e1, e2, Bool.false_eq_true, if_false, if_true] <;> simp
theorem ds_par2g (C : Ctx X N sc fs cs Φ) {i j : Nat} {x y : Str} {px py pt pt2 pos : Pos} {kt k2 : Nat} {a b : Expr} {b1 b2 : B} (hi : N[i]? = some x) (hj : N[j]? = some y) (hx : locB sc fs x = true) (hy : locB sc fs y = true) (hij : i ≠ j)
    (hn : locOnly sc x = false ∨ locOnly sc y = false) (h : DM X F [a, b] ρ [b1, b2]) (hlr : i < ρ.length ∧ j < ρ.length) :
    DS X F (.Assign [.Tuple [.Name x px, .Name y py] kt pt] (.Tuple [a, b] k2 pt2) pos) ρ (.nx ((ρ.set i b1).set j b2)) := by
  intro σ H H0 D W tk env k
  have hN : X.N.Nodup := by rw [C.hN]; exact C.nd
  obtain ⟨lx, fx⟩ := locB_ok C.hsc C.hfs hx
  obtain ⟨ly, fy⟩ := locB_ok C.hsc C.hfs hy
  refine tOfS_of (ps_asg (pe_tup pa_of) (pg_tup C.calm (pgs_cons (pg_name hN (by rw [C.hN]; exact hi) lx fx) (pgs_cons (pg_name hN (by rw [C.hN]; exact hj) ly fy) pgs_nil))) rfl (sw2n (by rw [C.hsc]; exact hn)) rfl) ?_
  refine h σ H H0 _ [] [] env.len (by simpa using env) fun vs H' H0' hlen p1 env1 => ?_
  match vs, hlen with
  | [u, v], _ =>
    refine ⟨by show 2 ≤ sizeLine; decide, fun p np => ⟨p, [u, v], rfl, SqT.of upd_same, rfl, u, [v], rfl, v, [], rfl, rfl, ?_⟩⟩
    have e2 : EnvOk X.K F H0' (upd H' p (.tup [u, v])) (σ ++ [some u, some v]) (ρ ++ [b1, b2]) := by
      have := env1.post (Post.own (o := .tup [u, v]) env1.s np)
      simpa using this
    exact k _ _ H0' (set2 env.len (by rw [env.len]; exact hlr.1) (by rw [env.len]; exact hlr.2) hij e2)
theorem ds_par3g (C : Ctx X N sc fs cs Φ) {i j l : Nat} {x y z : Str} {px py pz pt pt2 pos : Pos} {kt k2 : Nat} {a b c : Expr} {b1 b2 b3 : B} (hi : N[i]? = some x) (hj : N[j]? = some y) (hl : N[l]? = some z) (hx : locB sc fs x = true) (hy : locB sc fs y = true) (hz : locB sc fs z = true) (hij : i ≠ j) (hil : i ≠ l) (hjl : j ≠ l)
    (hn : locOnly sc x = false ∨ locOnly sc y = false ∨ locOnly sc z = false) (h : DM X F [a, b, c] ρ [b1, b2, b3]) (hlr : i < ρ.length ∧ j < ρ.length ∧ l < ρ.length) :
    DS X F (.Assign [.Tuple [.Name x px, .Name y py, .Name z pz] kt pt] (.Tuple [a, b, c] k2 pt2) pos) ρ (.nx (((ρ.set i b1).set j b2).set l b3)) := by
  intro σ H H0 D W tk env k
  have hN : X.N.Nodup := by rw [C.hN]; exact C.nd
  obtain ⟨lx, fx⟩ := locB_ok C.hsc C.hfs hx
  obtain ⟨ly, fy⟩ := locB_ok C.hsc C.hfs hy
  obtain ⟨lz, fz⟩ := locB_ok C.hsc C.hfs hz
  refine tOfS_of (ps_asg (pe_tup pa_of) (pg_tup C.calm (pgs_cons (pg_name hN (by rw [C.hN]; exact hi) lx fx) (pgs_cons (pg_name hN (by rw [C.hN]; exact hj) ly fy) (pgs_cons (pg_name hN (by rw [C.hN]; exact hl) lz fz) pgs_nil)))) rfl (sw3n (by rw [C.hsc]; exact hn)) rfl) ?_
  refine h σ H H0 _ [] [] env.len (by simpa using env) fun vs H' H0' hlen p1 env1 => ?_
  match vs, hlen with
  | [u, v, w], _ =>
    refine ⟨by show 3 ≤ sizeLine; decide, fun p np => ⟨p, [u, v, w], rfl, SqT.of upd_same, rfl, u, _, rfl, v, _, rfl, w, _, rfl, rfl, ?_⟩⟩
    have e2 : EnvOk X.K F H0' (upd H' p (.tup [u, v, w])) (σ ++ [some u, some v, some w]) (ρ ++ [b1, b2, b3]) := by
      have := env1.post (Post.own (o := .tup [u, v, w]) env1.s np)
      simpa using this
    exact k _ _ H0' (set3 env.len (by rw [env.len]; exact hlr.1) (by rw [env.len]; exact hlr.2.1) (by rw [env.len]; exact hlr.2.2) hij hil hjl e2)
/-! ### a op b op c op d -/
def tChain3 (X : Cx) (o1 o2 o3 : CmpOp) (ta tb tc td : TE) : TE := fun σ H Q => ta σ H fun x H1 => tb σ H1 fun y H2 => opAny X (compareOp o1) x y H2 fun z H3 => ∃ k, z = .bl k ∧
  (if k = true then tc σ H3 fun w H4 => opAny X (compareOp o2) y w H4 fun z' H5 => ∃ k', z' = .bl k' ∧ (if k' = true then td σ H5 fun u H6 => opAny X (compareOp o3) w u H6 Q else Q (.bl false) H5) else Q (.bl false) H3)
theorem pe_chain3 {o1 o2 o3 : CmpOp} {a b c d : Expr} {ta tb tc td : TE} {pos : Pos} (ha : PE X a ta) (hb : PE X b tb) (hc : PE X c tc) (hd : PE X d td) (hm : lastMarks [o1, o2, o3] [b, c, d] = false) : PE X (.Compare a [o1, o2, o3] [b, c, d] pos) (tChain3 X o1 o2 o3 ta tb tc td) := by
  refine ⟨fun pins s σ H Q I h => ?_⟩
  refine Compare_chain (thn (ha.run pins s σ H _ I h) fun v s1 ⟨x, H1, I1, r1, q1⟩ => chain_link (thn (hb.run pins s1 σ H1 _ I1 q1) fun u s2 ⟨y, H2, I2, r2, q2⟩ => thn (op_any pins s2 σ H2 x y v u _ I2 r1 r2 q2) fun e s3 ⟨z, H3, I3, r3, k, ek, q3⟩ => ?_)) hm
  subst ek
  cases r3
  refine wpAny_truthy_bool ?_
  cases k with
  | false => exact ite_ff ⟨.bl false, H3, I3, rfl, q3⟩
  | true =>
    refine ite_tt (chain_link (thn (hc.run pins s3 σ H3 _ I3 q3) fun w' s4 ⟨w, H4, I4, r4, q4⟩ => thn (op_any pins s4 σ H4 y w u w' _ I4 r2 r4 q4) fun e' s5 ⟨z', H5, I5, r5, k', ek', q5⟩ => ?_))
    subst ek'
    cases r5
    refine wpAny_truthy_bool ?_
    cases k' with
    | false => exact ite_ff ⟨.bl false, H5, I5, rfl, q5⟩
    | true => exact ite_tt (chain_last (thn (hd.run pins s5 σ H5 _ I5 q5) fun u' s6 ⟨t, H6, I6, r6, q6⟩ => op_any pins s6 σ H6 w t w' u' Q I6 r4 r6 q6))
theorem pt_chain3 {o1 o2 o3 : CmpOp} {a b c d : Expr} {ta tb tc td : TE} {pos : Pos} (ha : PE X a ta) (hb : PE X b tb) (hc : PE X c tc) (hd : PE X d td) (hm : lastMarks [o1, o2, o3] [b, c, d] = false) : PT X (.Compare a [o1, o2, o3] [b, c, d] pos) (tTest (tChain3 X o1 o2 o3 ta tb tc td)) := by
  refine ⟨fun pins s σ H Q I h => ?_⟩
  refine isTrue_chain (thn (ha.run pins s σ H _ I h) fun v s1 ⟨x, H1, I1, r1, q1⟩ => test_link (thn (hb.run pins s1 σ H1 _ I1 q1) fun u s2 ⟨y, H2, I2, r2, q2⟩ => thn (op_any pins s2 σ H2 x y v u _ I2 r1 r2 q2) fun e s3 ⟨z, H3, I3, r3, k, ek, q3⟩ => ?_)) hm
  subst ek
  cases r3
  refine wpAny_truthy_bool ?_
  cases k with
  | false => obtain ⟨k', e', q'⟩ := q3; cases e'; exact ite_ff ⟨H3, I3, q'⟩
  | true =>
    refine ite_tt (test_link (thn (hc.run pins s3 σ H3 _ I3 q3) fun w' s4 ⟨w, H4, I4, r4, q4⟩ => thn (op_any pins s4 σ H4 y w u w' _ I4 r2 r4 q4) fun e' s5 ⟨z', H5, I5, r5, k', ek', q5⟩ => ?_))
    subst ek'
    cases r5
    refine wpAny_truthy_bool ?_
    cases k' with
    | false => obtain ⟨k', e', q'⟩ := q5; cases e'; exact ite_ff ⟨H5, I5, q'⟩
    | true =>
      refine ite_tt (test_last (thn (hd.run pins s5 σ H5 _ I5 q5) fun u' s6 ⟨t, H6, I6, r6, q6⟩ => thn (op_any pins s6 σ H6 w t w' u' _ I6 r4 r6 q6) fun e s7 ⟨z, H7, I7, r7, k, ek, q7⟩ => ?_))
      subst ek
      cases r7
      exact wpAny_truthy_bool ⟨H7, I7, q7⟩
theorem chain3_read (hu : X.A.units + 65 < cLine) {o1 o2 o3 : CmpOp} {a b c d : Expr} {x y : D} {k r : Bool} (ha : DE X F a ρ x) (hb : DE X F b ρ y) (h1 : cmpD o1 x y = some k)
    (hc : k = true → ∃ z k', DE X F c ρ z ∧ cmpD o2 y z = some k' ∧ (k' = true → ∃ t, DE X F d ρ t ∧ cmpD o3 z t = some r) ∧ (k' = false → r = false)) (hf : k = false → r = false) {σ : L2.St} {H H0 : Hp} {Q : VK} (env : EnvOk X.K F H0 H σ ρ) (kk : KE X H0 H (.bool r) Q) :
    tChain3 X o1 o2 o3 (tOf X a) (tOf X b) (tOf X c) (tOf X d) σ H Q := by
  refine ha σ H H0 _ env fun v H1 H01 p1 r1 => ?_
  refine hb σ H1 H01 _ (env.post p1) fun w H2 H02 p2 r2 => ?_
  refine cmpR hu h1 p2.c (r1.mono p2.a) r2 ⟨k, rfl, ?_⟩
  cases k with
  | false =>
    rw [if_neg (by decide)]
    have e := hf rfl
    subst e
    exact (kk.after (p1.trans p2)).same p2.c (.bl false)
  | true =>
    obtain ⟨z, k', hz, h2, h3, h4⟩ := hc rfl
    rw [if_pos rfl]
    refine hz σ H2 H02 _ ((env.post p1).post p2) fun u H3 H03 p3 r3 => ?_
    refine cmpR hu h2 p3.c (r2.mono p3.a) r3 ⟨k', rfl, ?_⟩
    cases k' with
    | false =>
      rw [if_neg (by decide)]
      have e := h4 rfl
      subst e
      exact (kk.after ((p1.trans p2).trans p3)).same p3.c (.bl false)
    | true =>
      obtain ⟨t, ht, h5⟩ := h3 rfl
      rw [if_pos rfl]
      refine ht σ H3 H03 _ (((env.post p1).post p2).post p3) fun y' H4 H04 p4 r4 => ?_
      exact cmpR hu h5 p4.c (r3.mono p4.a) r4 ((kk.after (((p1.trans p2).trans p3).trans p4)).same p4.c (.bl r))
/-! ### a in x[k], x a list of owned lists -/
theorem de_onin (hu : X.A.units + 65 < cLine) {neg : Bool} {i : Nat} {x : Str} {a b : Expr} {d : D} {xs ys : List D} {n : Int} {j : Nat} {p q : Pos} (hN : X.N[i]? = some x) (hv : Vis X.env.scope x) (h1 : (x == ("__debug__" : Str)) = false) (h2 : (x == ("__classdict__" : Str)) = false)
    (ha : DE X F a ρ d) (hb : DE X F b ρ (.int n)) (ho : ρ[i]? = some (.on (.list xs))) (hj : ixN xs.length n = some j) (hys : xs[j]? = some (.list ys)) (sd : shp d = true) (sl : shp (.list ys) = true) :
    ∀ (σ : L2.St) (H H0 : Hp) (Q : VK), EnvOk X.K F H0 H σ ρ → KE X H0 H (.bool (if neg then !(ys.any fun z => PyData.eqv z d) else ys.any fun z => PyData.eqv z d)) Q →
      tOp (opAny X (compareOp (if neg then .NotIn else .In))) (tOf X a) (tOp (rIxL X.K) (tVar i) (tOf X b)) σ H Q := by
  intro σ H H0 Q env k
  refine ha σ H H0 _ env fun v H1 H01 p1 r1 => ?_
  obtain ⟨w, fp, ew, ow⟩ := own_of (env.post p1) ho rfl
  cases ow with | @nest a' ps _ g r nd =>
  refine ⟨_, ew, ?_⟩
  refine hb σ H1 H01 _ (env.post p1) fun u H2 H02 p2 r2 => ?_
  cases r2
  obtain ⟨c, vs, ec, hc, rc⟩ := r.get hys
  have hat : L2.atI (ps.map V.ref) n = some (.ref c) := by
    unfold L2.atI
    rw [List.length_map, r.length, hj]
    show (ps.map V.ref)[j]? = _
    rw [List.getElem?_map, ec]; rfl
  have dl : Dp X.K H2 (.ref c) (.list ys) := .lst (SqL.of (p2.b.at hc)) ((rc.mono (p2.a.trans p2.c)).dp (by have := plain_shaped sl; simpa [plain] using this))
  refine ⟨_, _, _, _, rfl, rfl, SqL.of (p2.b.at g), hat, ?_⟩
  have kk := (k.after (p1.trans p2)).same p2.c (.bl _)
  cases neg with
  | false => exact ⟨_, op_inD hu, _, _, (r1.mono p2.a).dpIn p2.c sd, dl, sd, sl, kk⟩
  | true => exact ⟨_, op_notInD hu, _, _, (r1.mono p2.a).dpIn p2.c sd, dl, sd, sl, kk⟩
end
end OL

end
section
set_option Elab.async false
set_option linter.all false
set_option maxRecDepth 100000
set_option maxHeartbeats 8000000
namespace OL
open PySem PySem.Spec PyProof.Rows L2 RZ
/-! ### set(xs), xs a list of ints -/
abbrev newS (w : World) : Obj := { cls := .type "set", dict := none, data := .set #[] 0 (.fresh 0 0 (!w.params.followText "set-order")) }
section
variable {P : Program} {w : World} {A : Around} {E : Value → Shared → Prop} {s : Shared} {l : Addr} {xs : Array Value} {ks : List Int}
/-- the new set takes in the list's items -/
theorem fill_list {o : Addr} {R : Shared → Prop} (hh : A.handled = none) (hl : s.heap.IsList l xs) (hk : IntsAre xs.toList ks) (hb : ks.length + 1 < scanBound) (hlo : l < o) (ho : s.heap.get? o = some (newS w)) (hos : s.heap.objs.size = o + 1)
    (h : ∀ (h' : Heap) (tk n : Nat), SetR w h' o (fun j => decide (j ∈ ks)) n → n ≤ ks.length → (∀ b q, b ≠ o → s.heap.get? b = some q → h'.get? b = some q) → R { s with heap := h', toks := tk }) :
    wpAny (model P w) A (Builtin.«set.__init__» ⟨[.ref o, .ref l], []⟩) (fun fin s' => match fin with | .done f => f = .ret .none ∧ R s' | .again _ => False) E s := by
  obtain ⟨⟨oc, od, odt, osl⟩, gl, hc, m, hd⟩ := id hl
  have hc' : oc = .type "list" := hc
  have hd' : odt = .seq xs m := hd
  subst hc' hd'
  have n1 := F.sub_list_set
  have n2 := F.sub_list_frozenset
  have n3 : (Value.type "list" == Value.type "dict") = false := by decide
  have zk : xs.size = ks.length := by
    have q := IntsAre.length hk
    rw [Array.length_toList] at q
    exact q
  unfold Builtin.«set.__init__» noKeywords Builtin.Frozenset.updateFrom
  generalize eI : pyIter = PI
  wp_walk
  subst eI
  refine wpAny_pyIter_list hl ?_
  refine wpAny_bind (wpAny_runValue ?_)
  have lz : l ≠ s.heap.objs.size := by rw [hos]; exact Nat.ne_of_lt (Nat.lt_succ_of_lt hlo)
  have oz : o ∉ [s.heap.objs.size, l] := by
    rw [hos]
    intro hm
    rcases List.mem_cons.mp hm with e | e
    · exact Nat.lt_irrefl _ (Nat.lt_of_lt_of_le (Nat.lt_succ_self o) (Nat.le_of_eq e.symm))
    · exact Nat.lt_irrefl _ (Nat.lt_of_lt_of_le hlo (Nat.le_of_eq (List.mem_singleton.mp e)))
  have vv : ∀ (i : Nat) (v : Value), xs[i]? = some v → ∃ k t, ks[i]? = some k ∧ v = .int k t := fun i v e => by
    have hi : i < ks.length := by rw [← zk]; exact (Array.getElem?_eq_some_iff.mp e).1
    obtain ⟨t, q⟩ := PyProof.Rows.IntsAre.int_at hk i v (by rw [Array.getElem?_toList]; exact e)
    exact ⟨ks[i], t, List.getElem?_eq_getElem hi, by rw [q, List.getD_eq_getElem?_getD, List.getElem?_eq_getElem hi]; rfl⟩
  have hh3 : A.in1.handled = none := by simp [hh]
  refine set_update_ints ((Walks.list hh3 _ l lz xs).toS) o oz ks zk hb vv xs.size 0 _ rfl (Nat.zero_le _) ?zs ?z0 ?z1
  case zs => exact ⟨⟨_, Heap.get?_push_size _ rfl, rfl, rfl⟩, hl.push _⟩
  case z0 => exact ⟨0, Nat.le_refl 0, setR_new_at (w := w) (Heap.get?_push_of_some _ ho)⟩
  intro s' n mv hn hR
  obtain ⟨h', g2, d', tk', os'⟩ := s'
  have eg : g2 = s.gens := mv.gens
  have ed : d' = s.drawn := mv.drawn
  have eo : os' = s.os := mv.os
  subst eg ed eo
  show wpAny _ _ _ _ _ _
  refine wpAny_pure ?_
  show wpAny _ _ (ret Value.none) _ _ _
  rw [zk] at hn
  refine wpAny_pure ⟨rfl, h h' tk' n hR hn fun b q hb e => mv.heap b q ?_ (Heap.get?_push_of_some _ e)⟩
  intro hm
  rcases List.mem_cons.mp hm with z | z
  · exact hb z
  · have := Heap.lt_size e
    rw [List.mem_singleton.mp z] at this
    exact Nat.lt_irrefl _ this
theorem set_list {Q : Value → Shared → Prop} (hh : A.handled = none) (hl : s.heap.IsList l xs) (hk : IntsAre xs.toList ks) (hb : ks.length + 1 < scanBound)
    (h : ∀ (h' : Heap) (tk n : Nat), SetR w h' s.heap.objs.size (fun j => decide (j ∈ ks)) n → n ≤ ks.length → (∀ b q, s.heap.get? b = some q → h'.get? b = some q) → Q (.ref s.heap.objs.size) { s with heap := h', toks := tk }) :
    wpAny (model P w) A (call (.type "set") [.ref l]) Q E s := by
  have a1 := F.called_set.mro
  have a2 := F.called_set.made
  have a3 := F.called_set.sub
  have a4 := F.called_set.notType
  have a5 := F.called_set.canCreate
  have a6 := F.typeCall_set_1 (.ref l)
  have a7 := F.called_set.init.lookup
  have a8 := F.called_set.init.bind (.ref s.heap.objs.size)
  obtain ⟨_, _, a9⟩ := a1
  have hll : l < s.heap.objs.size := by obtain ⟨_, e, _⟩ := hl; exact Heap.lt_size e
  refine wpAny_call (codeAny_of_tree ?_)
  show wpAny _ _ (callAny (.type "set") _) _ _ _
  refine wpAny_pure ⟨Code.quiet_builtin _ (by decide +kernel), codeAny_builtin F.entry_type_call ?_⟩
  rw [Around.under_plain (weight_type_call_type "set" [.ref l] []) rfl]
  repeat (any_goals (first | assumption | wp_step))
  refine codeAny_mono (code_set_led1 (.ref l) (E := E) (Q₁ := fun v s1 => v = .ref s.heap.objs.size ∧ s1 = { s with heap := s.heap.push (newS w) }) ⟨rfl, rfl⟩) fun r s1 hr => ?_
  cases r with
  | error e => exact hr
  | ok fl =>
    cases fl with
    | ret v =>
      obtain ⟨rfl, rfl⟩ := hr
      have gs : (s.heap.push (newS w)).get? s.heap.objs.size = some (newS w) := Heap.get?_push_size _ rfl
      have ty : Shared.TypeIs { s with heap := s.heap.push (newS w) } (.ref s.heap.objs.size) "set" := ⟨_, gs, rfl⟩
      repeat (any_goals (first | assumption | wp_step))
      refine codeAny_mono (codeAny_call_builtin (R := wants (fun r s2 => r = .none ∧ ∃ h' tk n, s2 = { s with heap := h', toks := tk } ∧ SetR w h' s.heap.objs.size (fun j => decide (j ∈ ks)) n ∧ n ≤ ks.length ∧ ∀ b q, s.heap.get? b = some q → h'.get? b = some q) E)
        F.called_set.init.plain F.entry_set_init (check_set_init_1 ty ?_)) fun r2 s2 hr2 => ?_
      · refine wpAny_mono (fill_list (R := fun s2 => ∃ h' tk n, s2 = { s with heap := h', toks := tk } ∧ SetR w h' s.heap.objs.size (fun j => decide (j ∈ ks)) n ∧ n ≤ ks.length ∧ ∀ b q, s.heap.get? b = some q → h'.get? b = some q) (by simp [hh]) (hl.push _) hk hb hll gs (Heap.size_push ..) fun h' tk n q1 q2 q3 => ⟨h', tk, n, rfl, q1, q2, fun b q e => q3 b q (Nat.ne_of_lt (Heap.lt_size e)) (Heap.get?_push_of_some _ e)⟩) (fun fin s' x => ?_) fun _ _ e => e
        cases fin with
        | done f => obtain ⟨rfl, x⟩ := x; exact ⟨rfl, x⟩
        | again _ => exact x.elim
      · cases r2 with
        | error e => exact hr2
        | ok f2 =>
          cases f2 with
          | ret v =>
            obtain ⟨rfl, h', tk, n, rfl, q1, q2, q3⟩ := hr2
            repeat (any_goals (first | assumption | wp_step))
            exact h _ _ _ q1 q2 q3
          | _ => exact hr2.elim
    | _ => exact hr.elim
end
end OL

end
section
set_option Elab.async false
set_option linter.all false
set_option maxRecDepth 100000
set_option maxHeartbeats 8000000
namespace OL
open PySem PySem.Spec PyProof.Rows L2 RZ
/-! ### rows in strict order -/
theorem sorted_uniq : ∀ {l m : List Int}, l.Pairwise (· < ·) → m.Pairwise (· < ·) → (∀ x, x ∈ l ↔ x ∈ m) → l = m
  | [], [], _, _, _ => rfl
  | [], b :: m, _, _, h => by have := (h b).2 (by simp); cases this
  | a :: l, [], _, _, h => by have := (h a).1 (by simp); cases this
  | a :: l, b :: m, h1, h2, h => by
    obtain ⟨p1, q1⟩ := List.pairwise_cons.mp h1
    obtain ⟨p2, q2⟩ := List.pairwise_cons.mp h2
    have hab : a = b := by
      rcases List.mem_cons.mp ((h a).1 (by simp)) with e | e
      · exact e
      · rcases List.mem_cons.mp ((h b).2 (by simp)) with e' | e'
        · exact e'.symm
        · have := p2 a e; have := p1 b e'; omega
    subst hab
    rw [sorted_uniq q1 q2 fun x => ?_]
    constructor
    · intro hx
      rcases List.mem_cons.mp ((h x).1 (by simp [hx])) with e | e
      · have := p1 x hx; omega
      · exact e
    · intro hx
      rcases List.mem_cons.mp ((h x).2 (by simp [hx])) with e | e
      · have := p2 x hx; omega
      · exact e
theorem dedup_fold : ∀ (l acc : List Int), acc.Nodup → (l.foldl step_dedup acc).Nodup ∧ ∀ x, x ∈ l.foldl step_dedup acc ↔ x ∈ acc ∨ x ∈ l
  | [], acc, h => ⟨h, fun x => by simp⟩
  | a :: l, acc, h => by
    have hs : (step_dedup acc a).Nodup ∧ ∀ x, x ∈ step_dedup acc a ↔ x ∈ acc ∨ x = a := by
      unfold step_dedup
      split
      · rename_i hc
        refine ⟨h, fun x => ⟨.inl, fun q => q.elim id fun e => ?_⟩⟩
        subst e
        simpa using hc
      · rename_i hc
        have hc' : a ∉ acc := by simpa using hc
        refine ⟨?_, fun x => by simp⟩
        rw [List.nodup_append]
        exact ⟨h, by simp, fun x hx y hy e => by simp at hy; subst hy; exact hc' (e ▸ hx)⟩
    obtain ⟨h1, h2⟩ := dedup_fold l (step_dedup acc a) hs.1
    refine ⟨h1, fun x => ?_⟩
    rw [List.foldl_cons, h2, hs.2, List.mem_cons]
    constructor
    · rintro ((h | h) | h)
      · exact .inl h
      · exact .inr (.inl h)
      · exact .inr (.inr h)
    · rintro (h | h | h)
      · exact .inl (.inl h)
      · exact .inl (.inr h)
      · exact .inr h
theorem firsts_nodup (l : List Int) : (firsts l).Nodup := (dedup_fold l [] List.nodup_nil).1
theorem mem_firsts (l : List Int) (x : Int) : x ∈ firsts l ↔ x ∈ l := by
  rw [firsts, (dedup_fold l [] List.nodup_nil).2]; simp
theorem sortU_lt (l : List Int) : (sortU l).Pairwise (· < ·) := by
  have h := List.pairwise_mergeSort (le := fun a b : Int => decide (a ≤ b)) (fun a b c h1 h2 => by simp at *; omega) (fun a b => by simp; omega) (firsts l)
  refine lt_of_le_nodup _ (h.imp fun h => by simpa using h) ?_
  exact (List.mergeSort_perm _ _).nodup_iff.mpr (firsts_nodup l)
theorem mem_sortU (l : List Int) (x : Int) : x ∈ sortU l ↔ x ∈ l := by
  rw [sortU, (List.mergeSort_perm _ _).mem_iff, mem_firsts]
theorem sortU_length (l : List Int) : (sortU l).length = (firsts l).length := (List.mergeSort_perm _ _).length_eq
theorem sortU_eq {l m : List Int} (h1 : m.Pairwise (· < ·)) (h2 : ∀ x, x ∈ m ↔ x ∈ l) : sortU l = m := sorted_uniq (sortU_lt l) h1 fun x => by rw [mem_sortU, h2]
theorem sortU_congr {l m : List Int} (h : ∀ x, x ∈ l ↔ x ∈ m) : sortU l = sortU m := sortU_eq (sortU_lt m) fun x => by rw [mem_sortU, h]
section
variable {X : Cx} {F : Fx} {ρ : Env} {N : List Str} {sc : Scope} {fs : Str → Bool} {cs : List (Str × Key)} {Φ : Tab}
def tSset (X : Cx) (ta : TE) : TE := fun σ H Q => ta σ H fun x H1 => ∃ (l : Addr) (ns : List Int), x = .ref l ∧ SqL X.K H1 l (ns.map V.int) ∧ ns.length < 4000 ∧ (firsts ns).length < 64 ∧
  ∀ a p o, H1 a = none → upd H1 a o p = none → mutO o = false → Q (.ref p) (upd (upd H1 a o) p (.lst ((sortU ns).map V.int)))
theorem pe_sset {a : Expr} {ta : TE} {p p2 q pos : Pos} (hg : Gl X "sorted") (hm : X.mg "sorted" = none) (hg2 : Gl X "set") (hm2 : X.mg "set" = none) (ha : PE X a ta) (hc : X.calm = true) (hs : notStar a = true) : PE X (.Call (.Name "sorted" p) [.Call (.Name "set" p2) [a] [] q] [] pos) (tSset X ta) := by
  refine ⟨fun pins s σ H Q I h => ?_⟩
  refine Call_ (ld_blt I hg hm boot_sorted ?_)
  refine PyProof.Rows.callWith_builtin1 (PyProof.Rows.args_cons ?_ rfl) rfl rfl
  refine Call_ (ld_blt I hg2 hm2 PyProof.Rows.boot_set ?_)
  refine PyProof.Rows.callWith_type1 (PyProof.Rows.args_cons (thn (ha.run pins s σ H _ I h) fun v s1 ⟨x, H1, I1, r1, q1⟩ => PyProof.Rows.args_nil ?_) (star_cons hs)) (star_cons hs) rfl
  obtain ⟨l, ns, rfl, hq, hl, h64, q1⟩ := q1
  cases r1
  obtain ⟨its, r, pl, hz⟩ := I1.list hq
  refine set_list (I1.ok.hd hc) pl.isList (by simpa using intsAre_of r) (by unfold scanBound; omega) fun h' tk n hR hn hk => ?_
  refine PyProof.Rows.args_nil ?_
  have hnl : n = (firsts ns).length := by
    obtain ⟨o, es, ep, t, _, _, _, _, nd, hm, _, _, hn', _⟩ := hR
    have pm : (es.toList.map keyOf).Perm (firsts ns) := by
      rw [List.perm_ext_iff_of_nodup nd (firsts_nodup ns)]
      intro k
      rw [← hm k, mem_firsts]
      simp
    rw [← pm.length_eq, List.length_map, Array.length_toList, hn']
  have I2 := I1.laid (a := s1.heap.objs.size) (o := SetO X.w s1.heap.objs.size (fun j => decide (j ∈ ns)) n) (t' := tk) hk (Nat.le_refl _) (setO_new hR)
  refine cr_sortedSet hc pins _ σ _ [.ref s1.heap.objs.size] [.ref s1.heap.objs.size] Q I2 (.cons rfl .nil) ⟨_, _, n, rfl, upd_same, by omega, fun ms p hlt hmem hlen np => ?_⟩
  have e : ms = sortU ns := (sortU_eq hlt fun x => by rw [hmem]; simp).symm
  subst e
  exact q1 _ p _ (I1.hok.fresh (Nat.le_refl _)) np rfl
theorem de_sset (C : Ctx X N sc fs cs Φ) {a : Expr} {is : List Int} {p p2 pos pos2 : Pos} (hg : Gl X "sorted") (hg2 : Gl X "set") (ha : DE X F a ρ (.list (is.map PyData.int))) (hs : notStar a = true) (h : is.length < 4000) (h64 : (firsts is).length < 64) :
    DE X F (.Call (.Name "sorted" p) [.Call (.Name "set" p2) [a] [] pos2] [] pos) ρ (.list ((sortU is).map PyData.int)) := by
  intro σ H H0 Q env k
  refine tOf_of (pe_sset hg (C.blt _ (by decide)) hg2 (C.blt _ (by decide)) pe_of C.calm hs) ?_
  refine ha σ H H0 _ env fun v H1 H01 p1 r1 => ?_
  cases r1 with | lst g r =>
  rw [r.ints'] at g
  refine ⟨_, is, rfl, p1.c.seq g, h, h64, fun a p o na np _ => ?_⟩
  have p2 := p1.trans (Post.own (o := o) p1.c na)
  exact (k.after p2).lst p2.c np (RDL.ints _)
theorem df_listD (C : Ctx X N sc fs cs Φ) {e : Expr} {kvs : List (D × D)} {is : List Int} {p pos : Pos} (hg : Gl X "list") (h : DE X F e ρ (.dict kvs)) (hne : kvs ≠ []) (hk : keyInts kvs = some is) (hs : notStar e = true) : DF X F (.Call (.Name "list" p) [e] [] pos) ρ (.ow (.list (is.map .int))) := by
  intro σ H H0 Q env k
  refine tOf_of (pe_callTy (call_listD C.calm) hg (C.blt _ (by decide)) PyProof.Rows.boot_list (pa_cons pe_of pa_nil (star_cons hs)) (by decide) (by decide) (star_cons hs) rfl) ?_
  refine h σ H H0 _ env fun v H1 H01 p1 r1 => ?_
  obtain ⟨a, o, vs, rfl, g, e⟩ := rd_intKeys r1 hne hk
  refine ⟨a, vs, rfl, .inr ⟨o, p1.c _ _ g⟩, fun q nq => ?_⟩
  have e2 : (vs.map fun kv => kV kv.1) = is.map V.int := by
    have e3 : (vs.map fun kv => kV kv.1) = (vs.map (·.1)).map kV := by rw [List.map_map]; rfl
    rw [e3, e, List.map_map]; rfl
  rw [e2]
  exact k _ _ H01 [q] (p1.trans (Post.own p1.c nq)) (.lst upd_same (RDL.ints _)) fun b hb => by
    simp at hb; subst hb
    exact ⟨p1.b.free nq, p1.c.free nq⟩
/-! ### l.index(x), l.count(k) -/
theorem de_index (hu : X.A.units + 70 < cLine) {oe e : Expr} {xs : List D} {d : D} {j : Nat} {ap cp : Pos} (ho : DE X F oe ρ (.list xs)) (he : DE X F e ρ d) (hj : (xs.findIdx? fun z => PyData.eqv z d) = some j) (sd : shp d = true) (sl : shp (.list xs) = true) (hs : notStar e = true) (hline : (ap.endLine == cp.line) = true)
    (hab : attributeBase oe "index" X.env (eval oe X.env) = eval oe X.env) : DE X F (.Call (.Attribute oe "index" ap) [e] [] cp) ρ (.int j) := by
  intro σ H H0 Q env k
  refine tOf_of (pe_bm PySem.F.plainAttrs_list PySem.F.slot_list_index PySem.F.type_list_index (mt_indexD (by omega)) pe_of (pa_cons pe_of pa_nil (star_cons hs)) hab (few1 hs) hline (star_cons hs) rfl) ?_
  refine ho σ H H0 _ env fun v H1 H01 p1 r1 => ?_
  have hl : ∃ a vs, v = .ref a ∧ SqL X.K H01 a vs := by cases r1 with | lst g r => exact ⟨_, _, rfl, g⟩
  obtain ⟨a, vs, rfl, gl⟩ := hl
  refine ⟨.inl ⟨rfl, _, p1.c.seq gl⟩, ?_⟩
  refine he σ H1 H01 _ (env.post p1) fun y H2 H02 p2 r2 => ?_
  obtain ⟨h1, h2, h3⟩ := List.findIdx?_eq_some_iff_getElem.mp hj
  refine ⟨a, y, d, xs, j, xs[j], rfl, rfl, (r1.mono p2.a).dpIn p2.c sl, r2.dpIn p2.c sd, sl, sd, by simp [h1], h2, fun m z hm hz => ?_, (k.after (p1.trans p2)).same p2.c (.int _)⟩
  have := h3 m hm
  rw [List.getElem?_eq_getElem (by omega)] at hz
  cases hz
  simpa using this
theorem strs_is : ∀ {xs : List D} {ys : List Str}, strs? xs = some ys → xs = ys.map PyData.str
  | [], ys, h => by cases h; rfl
  | .str x :: r, ys, h => by
    cases h1 : strs? r with
    | none => simp [strs?, h1] at h
    | some l =>
      simp only [strs?, h1, Option.map_some, Option.some.injEq] at h
      subst h
      rw [strs_is h1]; rfl
  | .none :: _, _, h => by cases h
  | .bool _ :: _, _, h => by cases h
  | .int _ :: _, _, h => by cases h
  | .list _ :: _, _, h => by cases h
  | .tuple _ :: _, _, h => by cases h
  | .dict _ :: _, _, h => by cases h
/-- s.join(l) -/
theorem de_join {oe e : Expr} {s : Str} {xs : List D} {d : D} {ys : List Str} {ap cp : Pos} (ho : DE X F oe ρ (.str s)) (he : DE X F e ρ d) (hd : d = .list xs ∨ d = .tuple xs) (hy : strs? xs = some ys) (hl : (ys.map (·.length)).sum + ys.length * s.length ≤ 16777216) (hs : notStar e = true) (hline : (ap.endLine == cp.line) = true)
    (hab : attributeBase oe "join" X.env (eval oe X.env) = eval oe X.env) : DE X F (.Call (.Attribute oe "join" ap) [e] [] cp) ρ (.str (Txt.join s ys)) := by
  intro σ H H0 Q env k
  refine tOf_of (pe_join pe_of pe_of (star_cons hs) hab hline) ?_
  refine ho σ H H0 _ env fun v H1 H01 p1 r1 => ?_
  cases r1
  refine ⟨⟨s, rfl⟩, ?_⟩
  refine he σ H1 H01 _ (env.post p1) fun y H2 H02 p2 r2 => ?_
  rw [strs_is hy] at hd
  have kk := (k.after (p1.trans p2)).same p2.c (.str (Txt.join s ys))
  rcases hd with rfl | rfl
  · cases r2 with | lst g r =>
    rw [r.strs'] at g
    exact ⟨s, _, ys, rfl, rfl, .inl (p2.c.seq g), hl, kk⟩
  · cases r2 with | tup g r =>
    rw [r.strs'] at g
    exact ⟨s, _, ys, rfl, rfl, .inr (SqT.of (p2.c _ _ g)), hl, kk⟩
/-- x.split(b) -/
theorem de_split {oe e : Expr} {x b : Str} {ap cp : Pos} (ho : DE X F oe ρ (.str x)) (he : DE X F e ρ (.str b)) (hb : b.length ≠ 0) (hl : x.length + 2 ≤ 16777216) (hs : notStar e = true) (hline : (ap.endLine == cp.line) = true)
    (hab : attributeBase oe "split" X.env (eval oe X.env) = eval oe X.env) : DE X F (.Call (.Attribute oe "split" ap) [e] [] cp) ρ (.list ((Txt.split x b).map .str)) := by
  intro σ H H0 Q env k
  refine tOf_of (pe_split pe_of pe_of (star_cons hs) hab hline) ?_
  refine ho σ H H0 _ env fun v H1 H01 p1 r1 => ?_
  cases r1
  refine ⟨⟨x, rfl⟩, ?_⟩
  refine he σ H1 H01 _ (env.post p1) fun y H2 H02 p2 r2 => ?_
  cases r2
  exact ⟨x, b, rfl, rfl, by simpa using hb, by rw [← sz]; exact hl, fun p np => (k.after (p1.trans p2)).lst p2.c np (RDL.strs _)⟩
theorem de_countI {oe e : Expr} {is : List Int} {n : Int} {ap cp : Pos} (ho : DE X F oe ρ (.list (is.map PyData.int))) (he : DE X F e ρ (.int n)) (hs : notStar e = true) (hline : (ap.endLine == cp.line) = true)
    (hab : attributeBase oe "count" X.env (eval oe X.env) = eval oe X.env) : DE X F (.Call (.Attribute oe "count" ap) [e] [] cp) ρ (.int (is.count n : Nat)) := by
  intro σ H H0 Q env k
  refine tOf_of (pe_bm PySem.F.plainAttrs_list PySem.F.slot_list_count PySem.F.type_list_count mt_lcount pe_of (pa_cons pe_of pa_nil (star_cons hs)) hab (few1 hs) hline (star_cons hs) rfl) ?_
  refine ho σ H H0 _ env fun v H1 H01 p1 r1 => ?_
  cases r1 with | lst g r =>
  rw [r.ints'] at g
  refine ⟨.inl ⟨rfl, _, p1.c.seq g⟩, ?_⟩
  refine he σ H1 H01 _ (env.post p1) fun y H2 H02 p2 r2 => ?_
  cases r2
  exact ⟨_, is, n, rfl, rfl, p2.c.seq (p2.a.seq g), (k.after (p1.trans p2)).same p2.c (.int _)⟩
end
end OL

end
section
set_option Elab.async false
set_option linter.all false
set_option maxRecDepth 100000
set_option maxHeartbeats 8000000
namespace OL
open PySem PySem.Spec PyProof.Rows L2 RZ
/-! ### sum(d.values()) -/
theorem meets_values {prog : Program} {w : World} {d : Addr} {es : Array DictEntry} {ep : Nat} (hd : (d == sysModules) = false) :
    MeetsIn prog w (Builtin.«dict.values» ⟨[.ref d], []⟩) (fun _ R s => s.heap.DictRaw d es ep ∧ R (.ok (.ret (.ref s.heap.objs.size))) { s with heap := s.heap.push { cls := .type "dict_values", data := .fields #[.ref d] } }) :=
  .of_wp fun A R s ⟨hm, h⟩ => by
    refine wpAny_bind ?_
    unfold Builtin.Dict.noArgs
    refine (wpAny_bind (wpAny_notOrdered_dict hm.typeIs (show wpAny _ _ (pure d) _ _ s from wpAny_pure ?_)))
    show wpAny _ _ (Builtin.Dict.showsAll d >>= _) _ _ s
    unfold Builtin.Dict.showsAll
    rw [if_neg (by simp [hd])]
    exact wpAny_bind (wpAny_pure (wpAny_bind (wpAny_newObj_type (wpAny_pure ⟨_, rfl, h⟩))))
theorem sum_src {prog : Program} {w : World} {A : Around} {E : Value → Shared → Prop} {s : Shared} {T : String} {r d : Addr} {n : Nat} {P : Nat → Value → Prop} {OK : Heap → Prop} {Q : Value → Shared → Prop} (K : PySem.W.KdlSrc prog w T r d n P OK) (hh : A.handled = none) (hok : OK s.heap) (val : Nat → Int) (hval : ∀ (i : Nat) (v : Value), P i v → ∃ t : Tok, v = Value.int (val i) t)
    (h : ∀ (h' : Heap) (tk : Nat) (t' : Tok), (∀ b o, s.heap.get? b = some o → h'.get? b = some o) → Q (.int (preSum val n) t') { s with heap := h', toks := tk }) : wpAny (model prog w) A (call (.builtin "sum") [.ref r]) Q E s := by
  refine call_sum_walkAnyS ?_
  obtain ⟨oI, St, hit, W, st⟩ := K.iter A.in1 s hh hok
  have hlt := (K.there _ hok).2
  refine hit _ _ ⟨s.heap.objs.size, _, _, _, n, P, _, val, rfl, W.toS, st, fun b hb => ?_, hval, fun s' t' mv => ?_⟩
  · have e : (s.heap.push oI).objs.size = s.heap.objs.size + 1 := Heap.size_push ..
    show b < (s.heap.push oI).objs.size
    rw [e]
    rcases List.mem_cons.mp hb with z | z
    · subst z; exact Nat.lt_succ_self _
    · have := List.mem_singleton.mp z; subst this; exact Nat.lt_succ_of_lt hlt
  · rw [Moved.eq_with mv]
    refine h s'.heap s'.toks t' fun b o e => mv.heap b o (fun hI => ?_) (Heap.get?_push_of_some _ e)
    have q := Heap.lt_size e
    rw [List.mem_singleton.mp hI] at q
    exact Nat.lt_irrefl _ q
theorem preSum_list : ∀ (l : List Int), preSum (fun i => l.getD i 0) l.length = l.sum := by
  intro l
  have key : ∀ n, n ≤ l.length → preSum (fun i => l.getD i 0) n = (l.take n).sum := by
    intro n
    induction n with
    | zero => intro _; rfl
    | succ n ih =>
      intro hn
      show preSum _ n + _ = _
      rw [ih (by omega), List.take_add_one, List.getElem?_eq_getElem (by omega), List.sum_append]
      simp [List.getD_eq_getElem?_getD, List.getElem?_eq_getElem (show n < l.length by omega)]
  have := key l.length (Nat.le_refl _)
  rwa [List.take_length] at this
theorem paired_at {α β : Type} {R : α → β → Prop} {l : List α} {m : List β} (h : Paired R l m) : ∀ {j : Nat} {x : β}, m[j]? = some x → ∃ y, l[j]? = some y ∧ R y x := by
  induction h with
  | nil => intro j x e; simp at e
  | cons h t ih =>
    intro j x e
    cases j with
    | zero => simp at e; subst e; exact ⟨_, rfl, h⟩
    | succ j => simpa using ih (j := j) (by simpa using e)
section
variable {X : Cx} {F : Fx} {ρ : Env} {N : List Str} {sc : Scope} {fs : Str → Bool} {cs : List (Str × Key)} {Φ : Tab}
def tSvals (td : TE) : TE := fun σ H Q => td σ H fun x H1 => ∃ (d : Addr) (kvs : List (List Key × V)) (is : List Int), x = .ref d ∧ Rd H1 d (.dT kvs) ∧ kvs.map (·.2) = is.map V.int ∧ Q (.int is.sum) H1
theorem pe_svals {e : Expr} {td : TE} {p ap cp pos : Pos} (hg : Gl X "sum") (hm : X.mg "sum" = none) (he : PE X e td) (hc : X.calm = true) (hbase : attributeBase e "values" X.env (eval e X.env) = eval e X.env) (hline : (ap.endLine == cp.line) = true) :
    PE X (.Call (.Name "sum" p) [.Call (.Attribute e "values" ap) [] [] cp] [] pos) (tSvals td) := by
  refine ⟨fun pins s σ H Q I h => ?_⟩
  refine Call_ (ld_blt I hg hm boot_sum ?_)
  refine PyProof.Rows.callWith_builtin1 (PyProof.Rows.args_cons ?_ rfl) rfl rfl
  refine wpAny_Call_method (T := "dict") (id := "dict.values") hbase rfl hline PySem.F.plainAttrs_dict PySem.F.slot_dict_values PySem.F.type_dict_values (thn (he.run pins s σ H _ I h) fun u s1 ⟨x, H1, I1, rx, d, kvs, is, ex, hd, hv, q⟩ => ?_)
  subst ex
  obtain rfl : u = Value.ref d := rx
  obtain ⟨z, hs, ks, pr, o, es, ep, ho, hx, hdt, hes, hn⟩ := (show ObjOk X.prog X.w H1 s1.heap d (.dT kvs) from hd.ok I1.hok)
  have raw : s1.heap.DictRaw d es ep := ⟨o, ho, hx, hdt⟩
  refine ⟨raw.typeIs, fun b e => by cases e; exact ⟨o, ho, hx.2.1⟩, ?_⟩
  have l1 : es.size = ks.length := size_of_entries hes
  have l2 : kvs.length = ks.length := Paired.length pr
  have l3 : kvs.length = is.length := by have := congrArg List.length hv; simpa using this
  refine method_meetsIn PySem.F.slot_dict_values PySem.F.entry_dict_values rfl (PySem.evalArgs_none ⟨rfl, raw.typeIs, PySem.F.args_dict_values_1 _, _, meets_values (es := es) (ep := ep) hs, raw, ?_⟩)
  refine PyProof.Rows.args_nil ?_
  refine sum_src (PySem.KdlSrc.rawValues (r := s1.heap.objs.size) (d := d) (es := es) (ep := ep)) (I1.ok.hd hc) ⟨⟨_, Heap.get?_push_size _ rfl, rfl, rfl⟩, raw.push _⟩ (fun i => is.getD i 0) (fun i v hv' => ?_) fun h' tk t' hk => ?_
  · obtain ⟨hi, rfl⟩ := hv'
    have e1 : es.toList[i]? = some es[i] := by simp [hi]
    rw [hes, List.getElem?_map] at e1
    cases hk : ks[i]? with
    | none => rw [hk] at e1; cases e1
    | some kk =>
      rw [hk] at e1
      have e2 := Option.some.inj e1
      obtain ⟨y, hy, _, _, rv⟩ := paired_at pr hk
      have e3 : (kvs.map (·.2))[i]? = some y.2 := by rw [List.getElem?_map, hy]; rfl
      rw [hv, List.getElem?_map] at e3
      cases hi2 : is[i]? with
      | none => rw [hi2] at e3; cases e3
      | some m =>
        rw [hi2] at e3
        have e4 : V.int m = y.2 := Option.some.inj e3
        rw [← e4] at rv
        obtain ⟨t, et⟩ := rv
        refine ⟨t, ?_⟩
        rw [← e2]
        show kk.2.2 = _
        rw [et]
        simp [List.getD_eq_getElem?_getD, hi2]
  · rw [show es.size = is.length by omega, preSum_list]
    exact ⟨.int is.sum, H1, I1.kept (t' := tk) fun b o e => hk b o (Heap.get?_push_of_some _ e), ⟨_, rfl⟩, q⟩
theorem rdt_vals {K : PySem.W.Frag} {H : Hp} : ∀ {vs : List (List Key × V)} {ds : List (D × D)} {is : List Int}, RDT K H vs ds → ds.map (·.2) = is.map PyData.int → vs.map (·.2) = is.map V.int
  | _, _, [], .nil, _ => rfl
  | _, _, _ :: _, .nil, e => by cases e
  | _, _, [], .cons _ _, e => by cases e
  | _, _, i :: is, .cons h t, e => by
    simp only [List.map_cons, List.cons.injEq] at e ⊢
    have h' := h
    rw [e.1] at h'
    cases h'
    exact ⟨rfl, rdt_vals t e.2⟩
theorem tupVals_is : ∀ {kvs : List (D × D)} {is : List Int}, tupVals kvs = some is → kvs.map (·.2) = is.map PyData.int
  | [], is, h => by cases h; rfl
  | (k, v) :: r, is, h => by
    unfold tupVals at h
    split at h
    · rename_i heq; cases heq
    · rename_i heq
      cases heq
      cases h2 : tupVals r with
      | none => rw [h2] at h; cases h
      | some b => rw [h2] at h; cases h; simp [tupVals_is h2]
    · cases h
theorem de_svals (C : Ctx X N sc fs cs Φ) {e : Expr} {kvs : List (D × D)} {is : List Int} {p ap cp pos : Pos} (hg : Gl X "sum") (he : DE X F e ρ (.dict kvs)) (hne : kvs ≠ []) (h : tupVals kvs = some is) (hbase : attributeBase e "values" X.env (eval e X.env) = eval e X.env) (hline : (ap.endLine == cp.line) = true) :
    DE X F (.Call (.Name "sum" p) [.Call (.Attribute e "values" ap) [] [] cp] [] pos) ρ (.int is.sum) := by
  intro σ H H0 Q env k
  refine tOf_of (pe_svals hg (C.blt _ (by decide)) pe_of C.calm hbase hline) ?_
  refine he σ H H0 _ env fun v H1 H01 p1 r1 => ?_
  cases r1 with
  | dT g r => exact ⟨_, _, is, rfl, .inr ⟨_, p1.c _ _ g⟩, rdt_vals r (tupVals_is h), (k.after p1).same p1.c (.int _)⟩
  | dK g r =>
    cases r with
    | nil => exact absurd rfl hne
    | @cons k0 _ _ _ _ h1 t =>
      exfalso
      cases k0 <;> (simp only [keyD] at h; unfold tupVals at h; cases h)
  | clo f => exfalso; unfold tupVals at h; cases h
/-! ### [..] * k -/
theorem de_lrep {es : List Expr} {k : Expr} {ds : List D} {n : Int} {p pos : Pos} (he : DA X F es ρ ds) (hk : DE X F k ρ (.int n)) (h0 : 0 ≤ n) (h1 : n ≤ 1000) (hl : ds.length ≤ 1000) : DE X F (.BinOp (.List es p) .Mult k pos) ρ (.list (List.replicate n.toNat ds).flatten) := by
  intro σ H H0 Q env kk
  refine tOf_of (pe_op op_rep (pe_lst pa_of) pe_of) ?_
  refine he σ H H0 _ env fun vs H1 H01 p1 r1 => ?_
  refine ⟨by rw [r1.length, sizeLine_eq]; omega, fun q nq => ?_⟩
  have p2 := p1.trans (Post.own (o := .lst vs) p1.c nq)
  refine hk σ _ H01 _ (env.post p2) fun w H2 H02 p3 r2 => ?_
  cases r2
  have pp := p2.trans p3
  refine ⟨q, n, vs, rfl, rfl, p3.b.at upd_same, by omega, by omega, ?_, fun p np => (kk.after pp).lst pp.c np ((r1.mono p3.a).rep _)⟩
  rw [r1.length, sizeLine_eq]
  have a1 : ds.length * n.toNat ≤ 1000 * 1000 := Nat.mul_le_mul hl (by omega)
  omega
/-! ### what an attribute is taken of -/
def noC0 : Expr → Bool
  | .Call (.Name _ _) [] [] _ => false
  | _ => true
theorem base_no {o : Expr} {m : Str} {env : PySem.Env} {w : Sem Value} (h : noC0 o = true) : attributeBase o m env w = w := by
  cases o with
  | Call f as ks p =>
    cases f with
    | Name x q =>
      cases as with
      | nil => cases ks with
        | nil => cases h
        | cons _ _ => rfl
      | cons _ _ => rfl
    | _ => rfl
  | _ => rfl
end
end OL

end
section
set_option Elab.async false
set_option linter.all false
set_option maxRecDepth 100000
set_option maxHeartbeats 4000000
namespace OL
open PySem PySem.Spec PyProof.Rows L2 RZ

section
variable {X : Cx} {F : Fx} {ρ : Env} {N : List Str} {sc : Scope} {fs : Str → Bool} {cs : List (Str × Key)} {Φ : Tab}
/-! ### a dict's keys -/
theorem post_tup {H1 H : Hp} {q : Addr} {xs : List V} (s : Same H1 H) (h : H q = some (.tup xs)) : Post H1 H (upd H1 q (.tup xs)) H := by
  have e : ∀ o, H1 q = some o → o = .tup xs := fun o e => by
    have := s _ _ e
    rw [h] at this
    exact (Option.some.inj this).symm
  refine ⟨fun a o ea => ?_, Ext.refl _, fun a o ea => ?_, fun p hm hn => ?_⟩
  · by_cases ha : a = q
    · subst ha; rw [upd_same, e o ea]
    · rw [upd_ne ha]; exact ea
  · by_cases ha : a = q
    · subst ha; rw [upd_same] at ea; rw [← ea]; exact h
    · rw [upd_ne ha] at ea; exact s _ _ ea
  · have : p ≠ q := fun z => by
      rcases hm with ⟨o, eo, m⟩ | ⟨_, _, ps, eo, _⟩
      · rw [z, h] at eo
        cases eo
        cases m
      · rw [z, h] at eo
        cases eo
    rw [upd_ne this]; exact hn
theorem RDT.keys {K : PySem.W.Frag} {H : Hp} : ∀ {kvs : List (List Key × V)} {ds : List (D × D)}, RDT K H kvs ds → ds.map (·.1) = kvs.map fun kv => keyT kv.1
  | _, _, .nil => rfl
  | _, _, .cons h t => by simp [RDT.keys t]
theorem RDK.keys {K : PySem.W.Frag} {H : Hp} : ∀ {kvs : List (Key × V)} {ds : List (D × D)}, RDK K H kvs ds → ds.map (·.1) = kvs.map fun kv => keyD kv.1
  | _, _, .nil => rfl
  | _, _, .cons h t => by simp [RDK.keys t]
theorem pe_lenD {x : Expr} {t : TE} (h : PE X x t) : PE X x (fun σ H Q => t σ H fun v H1 => (∀ a o, v = .ref a → (∀ kvs, H1 a = some (.frz o (.dT kvs)) → kvs.length ≤ sizeLine) ∧ (∀ kvs, H1 a = some (.frz o (.dK kvs)) → kvs.length ≤ sizeLine)) → Q v H1) := by
  refine ⟨fun pins s σ H Q I hw => ?_⟩
  refine thn (h.run pins s σ H _ I hw) fun u s1 ⟨v, H1, I1, r, q⟩ => ⟨v, H1, I1, r, q fun a o e => ⟨fun kvs hk => ?_, fun kvs hk => ?_⟩⟩
  · exact (dt_rd I1.hok (.inr ⟨o, hk⟩)).1
  · exact (dk_rd I1.hok (.inr ⟨o, hk⟩)).1
theorem di_dict {tg x : Expr} {ds : List (D × D)} (hc : cloB ds ≠ true) (h : DE X F x ρ (.dict ds)) : DI X F tg x ρ (ds.map (·.1)) := by
  intro σ H H0 R env k
  refine tOfI_of (pi_keys (pe_lenD pe_of)) ?_
  refine h σ H H0 _ env fun v H1 H01 p1 r1 => ?_
  intro hlen
  cases r1 with
  | clo f => exact absurd rfl hc
  | @dT a o kvs _ g r =>
    have gl := (hlen a o rfl).1 kvs (p1.c _ _ g)
    have hk := r.keys
    refine ⟨_, o, rfl, .inr ⟨kvs, p1.c _ _ g, k _ _ _ p1 (WalkD.of walk_keysT ?_ (fun H s => s _ _ g) fun i H2 H3 x H' hi a b y => ?_) ?_⟩⟩
    · rw [hk, List.length_map]
    · obtain ⟨rfl, kk, v, q, e, rfl, hq⟩ := y
      refine ⟨_, keyT kk, ?_, post_tup b hq, .tup upd_same (RDL.keys kk)⟩
      rw [hk, List.getElem?_map, e]; rfl
    · rw [hk, List.length_map, sz]; exact gl
  | @dK a o kvs _ g r =>
    have gl := (hlen a o rfl).2 kvs (p1.c _ _ g)
    have hk := r.keys
    refine ⟨_, o, rfl, .inl ⟨kvs, p1.c _ _ g, k _ _ _ p1 (WalkD.of walk_keys ?_ (fun H s => s _ _ g) fun i H2 H3 x H' hi a b y => ?_) ?_⟩⟩
    · rw [hk, List.length_map]
    · obtain ⟨rfl, kk, v, e, rfl⟩ := y
      refine ⟨H3, keyD kk, ?_, Post.refl b, RD.key⟩
      rw [hk, List.getElem?_map, e]; rfl
    · rw [hk, List.length_map, sz]; exact gl
end

/-! ### our syntax against the text's -/
def cOf : Expr → Option Const
  | .Constant c _ _ => some c
  | _ => none
theorem cOf_is {x : Expr} {c : Const} (h : cOf x = some c) : ∃ j p, x = .Constant c j p := by
  cases x <;> first | (cases h; done) | (cases h; exact ⟨_, _, rfl⟩)
def binOf : Expr → Option (Expr × Operator × Expr)
  | .BinOp a o b _ => some (a, o, b)
  | _ => none
theorem binOf_is {x a b : Expr} {o : Operator} (h : binOf x = some (a, o, b)) : ∃ p, x = .BinOp a o b p := by
  cases x <;> first | (cases h; done) | (cases h; exact ⟨_, rfl⟩)
def unOf : Expr → Option (UnaryOp × Expr)
  | .UnaryOp o a _ => some (o, a)
  | _ => none
theorem unOf_is {x a : Expr} {o : UnaryOp} (h : unOf x = some (o, a)) : ∃ p, x = .UnaryOp o a p := by
  cases x <;> first | (cases h; done) | (cases h; exact ⟨_, rfl⟩)
def cmpOf : Expr → Option (Expr × List CmpOp × List Expr)
  | .Compare a o b _ => some (a, o, b)
  | _ => none
theorem cmpOf_is {x a : Expr} {o : List CmpOp} {b : List Expr} (h : cmpOf x = some (a, o, b)) : ∃ p, x = .Compare a o b p := by
  cases x <;> first | (cases h; done) | (cases h; exact ⟨_, rfl⟩)
def boolOf : Expr → Option (BoolOp × List Expr)
  | .BoolOp o a _ => some (o, a)
  | _ => none
theorem boolOf_is {x : Expr} {o : BoolOp} {a : List Expr} (h : boolOf x = some (o, a)) : ∃ p, x = .BoolOp o a p := by
  cases x <;> first | (cases h; done) | (cases h; exact ⟨_, rfl⟩)
def ifOf : Expr → Option (Expr × Expr × Expr)
  | .IfExp a b c _ => some (a, b, c)
  | _ => none
theorem ifOf_is {x a b c : Expr} (h : ifOf x = some (a, b, c)) : ∃ p, x = .IfExp a b c p := by
  cases x <;> first | (cases h; done) | (cases h; exact ⟨_, rfl⟩)
def lstOf : Expr → Option (List Expr)
  | .List es _ => some es
  | _ => none
theorem lstOf_is {x : Expr} {es : List Expr} (h : lstOf x = some es) : ∃ p, x = .List es p := by
  cases x <;> first | (cases h; done) | (cases h; exact ⟨_, rfl⟩)
def subOf : Expr → Option (Expr × Expr)
  | .Subscript a b _ => some (a, b)
  | _ => none
theorem subOf_is {x a b : Expr} (h : subOf x = some (a, b)) : ∃ p, x = .Subscript a b p := by
  cases x <;> first | (cases h; done) | (cases h; exact ⟨_, rfl⟩)
def slcOf : Expr → Option (Option Expr × Option Expr)
  | .Slice a b none _ => some (a, b)
  | _ => none
theorem slcOf_is {x : Expr} {a b : Option Expr} (h : slcOf x = some (a, b)) : ∃ p, x = .Slice a b none p := by
  cases x with
  | Slice l u s p => cases s with
    | none => cases h; exact ⟨_, rfl⟩
    | some _ => cases h
  | _ => cases h
def callOf : Expr → Option (Expr × List Expr)
  | .Call f as [] _ => some (f, as)
  | _ => none
theorem callOf_is {x f : Expr} {as : List Expr} (h : callOf x = some (f, as)) : ∃ p, x = .Call f as [] p := by
  cases x with
  | Call g bs ks p => cases ks with
    | nil => cases h; exact ⟨_, rfl⟩
    | cons _ _ => cases h
  | _ => cases h
def callN (x : Expr) : Option (Str × List Expr) := (callOf x).bind fun p => (nameOf p.1).map fun f => (f, p.2)
theorem callN_is {x : Expr} {f : Str} {as : List Expr} (h : callN x = some (f, as)) : ∃ p q, x = .Call (.Name f p) as [] q := by
  unfold callN at h
  cases h1 : callOf x with
  | none => rw [h1] at h; cases h
  | some p =>
    obtain ⟨g, bs⟩ := p
    rw [h1, Option.bind_some] at h
    cases h2 : nameOf g with
    | none => dsimp only at h; rw [h2] at h; cases h
    | some y =>
      dsimp only at h
      rw [h2] at h
      cases h
      obtain ⟨q, rfl⟩ := callOf_is h1
      obtain ⟨p, rfl⟩ := nameOf_is h2
      exact ⟨p, q, rfl⟩
def lcOf : Expr → Option (Expr × List Comprehension × Scope)
  | .ListComp e gs sc _ => some (e, gs, sc)
  | _ => none
theorem lcOf_is {x e : Expr} {gs : List Comprehension} {scp : Scope} (h : lcOf x = some (e, gs, scp)) : ∃ p, x = .ListComp e gs scp p := by
  cases x <;> first | (cases h; done) | (cases h; exact ⟨_, rfl⟩)
def attrOf : Expr → Option (Expr × Str × Pos)
  | .Attribute o m p => some (o, m, p)
  | _ => none
theorem attrOf_is {x o : Expr} {m : Str} {p : Pos} (h : attrOf x = some (o, m, p)) : x = .Attribute o m p := by
  cases x <;> first | (cases h; done) | (cases h; rfl)
def callP : Expr → Option (Expr × List Expr × Pos)
  | .Call f as [] p => some (f, as, p)
  | _ => none
theorem callP_is {x f : Expr} {as : List Expr} {p : Pos} (h : callP x = some (f, as, p)) : x = .Call f as [] p := by
  cases x with
  | Call g bs ks p => cases ks with
    | nil => cases h; rfl
    | cons _ _ => cases h
  | _ => cases h
/-- o.m(..), on one line -/
def methA (x : Expr) : Option (Expr × Str × List Expr) := (callP x).bind fun c => (attrOf c.1).bind fun a => if (a.2.2.endLine == c.2.2.line) = true then some (a.1, a.2.1, c.2.1) else none
theorem methA_is {x o : Expr} {m : Str} {es : List Expr} (h : methA x = some (o, m, es)) : ∃ ap cp, x = .Call (.Attribute o m ap) es [] cp ∧ (ap.endLine == cp.line) = true := by
  unfold methA at h
  cases h1 : callP x with
  | none => rw [h1] at h; cases h
  | some c =>
    obtain ⟨f, as, cp⟩ := c
    rw [h1, Option.bind_some] at h
    have h1' := callP_is h1
    subst h1'
    cases h2 : attrOf f with
    | none => dsimp only at h; rw [h2] at h; cases h
    | some a =>
      obtain ⟨o', m', ap⟩ := a
      dsimp only at h
      rw [h2, Option.bind_some] at h
      have h2' := attrOf_is h2
      subst h2'
      split at h
      · rename_i hl
        cases h
        exact ⟨ap, cp, rfl, hl⟩
      · cases h
def meth0Of (x : Expr) : Option (Expr × Str) := match methA x with
  | some (o, m, []) => some (o, m)
  | _ => none
def meth1Of (x : Expr) : Option (Expr × Str × Expr) := match methA x with
  | some (o, m, [e]) => some (o, m, e)
  | _ => none
def meth2Of (x : Expr) : Option (Expr × Str × Expr × Expr) := match methA x with
  | some (o, m, [e, f]) => some (o, m, e, f)
  | _ => none
theorem meth0Of_is {x o : Expr} {m : Str} (h : meth0Of x = some (o, m)) : ∃ ap cp, x = .Call (.Attribute o m ap) [] [] cp ∧ (ap.endLine == cp.line) = true := by
  unfold meth0Of at h
  split at h
  · rename_i hh; cases h; exact methA_is hh
  · cases h
theorem meth1Of_is {x o e : Expr} {m : Str} (h : meth1Of x = some (o, m, e)) : ∃ ap cp, x = .Call (.Attribute o m ap) [e] [] cp ∧ (ap.endLine == cp.line) = true := by
  unfold meth1Of at h
  split at h
  · rename_i hh; cases h; exact methA_is hh
  · cases h
theorem meth2Of_is {x o e f : Expr} {m : Str} (h : meth2Of x = some (o, m, e, f)) : ∃ ap cp, x = .Call (.Attribute o m ap) [e, f] [] cp ∧ (ap.endLine == cp.line) = true := by
  unfold meth2Of at h
  split at h
  · rename_i hh; cases h; exact methA_is hh
  · cases h
def dictOf : Expr → Option (List (Option Expr) × List Expr)
  | .Dict ks vs _ => some (ks, vs)
  | _ => none
theorem dictOf_is {x : Expr} {ks : List (Option Expr)} {vs : List Expr} (h : dictOf x = some (ks, vs)) : ∃ p, x = .Dict ks vs p := by
  cases x <;> first | (cases h; done) | (cases h; exact ⟨_, rfl⟩)
def isD0 (x : Expr) : Bool := match dictOf x with
  | some ([], []) => true
  | _ => false
theorem isD0_is {x : Expr} (h : isD0 x = true) : ∃ p, x = .Dict [] [] p := by
  unfold isD0 at h
  split at h
  · rename_i hh; exact dictOf_is hh
  · cases h
def d1Of (x : Expr) : Option (Expr × Expr) := match dictOf x with
  | some ([some k], [v]) => some (k, v)
  | _ => none
theorem d1Of_is {x k v : Expr} (h : d1Of x = some (k, v)) : ∃ p, x = .Dict [some k] [v] p := by
  unfold d1Of at h
  split at h
  · rename_i hh; cases h; exact dictOf_is hh
  · cases h
def visB (sc : Scope) (x : Str) : Bool := match sc.names.lookup x with
  | some .local | some .cell | some .free => true
  | _ => false
theorem visB_is {sc : Scope} {x : Str} (h : visB sc x = true) : Vis sc x := by
  unfold visB at h
  unfold Vis
  split at h
  · rename_i e; exact .inl e
  · rename_i e; exact .inr (.inl e)
  · rename_i e; exact .inr (.inr e)
  · cases h
def glB (sc : Scope) (x : Str) : Bool := match sc.names.lookup x with
  | some .globalImplicit => true
  | _ => false
theorem glB_is {X : Cx} {sc : Scope} {x : Str} (hs : X.env.scope = sc) (h : glB sc x = true) : Gl X x := by
  unfold glB at h
  split at h
  · rename_i e
    show X.env.scope.names.lookup x = _
    rw [hs]; exact e
  · cases h
def nmB (x : Str) : Bool := !(x == ("__debug__" : Str)) && !(x == ("__classdict__" : Str))
theorem nmB_is {x : Str} (h : nmB x = true) : (x == ("__debug__" : Str)) = false ∧ (x == ("__classdict__" : Str)) = false := by
  unfold nmB at h
  simp only [Bool.and_eq_true, Bool.not_eq_true'] at h
  exact h
def constIs : D → Const → Bool
  | .none, .none => true
  | .bool a, .bool b => a == b
  | .int a, .int b => decide (a = b)
  | .str a, .str b => decide (a = b)
  | _, _ => false
/-- the name in slot i -/
def isV (N : List Str) (sc : Scope) (i : Nat) (x : Expr) : Bool := match nameOf x with
  | some y => decide (N[i]? = some y) && visB sc y && nmB y
  | none => false
def cellFs (scope : Scope) : Str → Bool := fun x => scope.names.lookup x == some .cell
section
variable (N : List Str) (cs : List (Str × Key))
mutual
def isE : E → Scope → Expr → Bool
  | .c d, _, x => match cOf x with
    | some c => constIs d c
    | none => false
  | .v i, sc, x => isV N sc i x
  | .g y k, sc, x => match nameOf x with
    | some z => decide (z = y) && glB sc y && nmB y && (cs.any fun p => decide (p.1 = y) && decide (p.2 = k))
    | none => false
  | .bin op a b, sc, x => match binOf x with
    | some (l, o, r) => decide (o = op) && isE a sc l && isE b sc r
    | none => false
  | .neg a, sc, x => match unOf x with
    | some (.USub, y) => isE a sc y
    | _ => false
  | .cmp op a b, sc, x => match cmpOf x with
    | some (l, [o], [r]) => decide (o = op) && isE a sc l && isE b sc r && !isSet r
    | _ => false
  | .cmp2 o1 o2 a b c, sc, x => match cmpOf x with
    | some (l, [p, q], [r, s]) => decide (p = o1) && decide (q = o2) && isE a sc l && isE b sc r && isE c sc s && !isSet s
    | _ => false
  | .no a, sc, x => match unOf x with
    | some (.Not, y) => isE a sc y
    | _ => false
  | .and as, sc, x => match boolOf x with
    | some (.And, e :: es) => isEs as sc (e :: es)
    | _ => false
  | .or as, sc, x => match boolOf x with
    | some (.Or, e :: es) => isEs as sc (e :: es)
    | _ => false
  | .ife c a b, sc, x => match ifOf x with
    | some (u, v, w) => isE c sc u && isE a sc v && isE b sc w
    | none => false
  | .tup es, sc, x => match tupOf x with
    | some xs => isEs es sc xs
    | none => false
  | .lst es, sc, x => match lstOf x with
    | some xs => isEs es sc xs
    | none => false
  | .ix a b, sc, x => match subOf x with
    | some (l, r) => isE a sc l && isE b sc r && !isSlice r
    | none => false
  | .sl a lo hi, sc, x => match subOf x with
    | some (l, s) => isE a sc l && (match slcOf s with
      | some (u, v) => isEo lo sc u && isEo hi sc v
      | none => false)
    | none => false
  | .call f es, sc, x => match callN x with
    | some (g, xs) => decide (g = f) && glB sc f && nmB f && isEs es sc xs
    | none => false
  | .bi f es, sc, x => match callN x with
    | some (g, y :: ys) => decide (g = f) && glB sc f && isEs es sc (y :: ys)
    | _ => false
  | .isi a ty, sc, x => match callN x with
    | some (g, [y, z]) => decide (g = "isinstance") && glB sc "isinstance" && isE a sc y && notStar y && (match nameOf z with
      | some t => decide (t = Str.ofString ty) && glB sc t
      | none => false)
    | _ => false
  | .lrg a, sc, x => match callN x with
    | some (g, [y]) => decide (g = "list") && glB sc "list" && (match callN y with
      | some (h, [z]) => decide (h = "range") && glB sc "range" && isE a sc z && notStar z
      | _ => false)
    | _ => false
  | .lrg2 a b, sc, x => match callN x with
    | some (g, [y]) => decide (g = "list") && glB sc "list" && (match callN y with
      | some (h, [z, u]) => decide (h = "range") && glB sc "range" && isE a sc z && notStar z && isE b sc u && notStar u
      | _ => false)
    | _ => false
  | .lset a, sc, x => match callN x with
    | some (g, [y]) => decide (g = "len") && glB sc "len" && (match callN y with
      | some (h, [z]) => decide (h = "set") && glB sc "set" && isE a sc z && notStar z
      | _ => false)
    | _ => false
  | .sset a, sc, x => match callN x with
    | some (g, [y]) => decide (g = "sorted") && glB sc "sorted" && (match callN y with
      | some (h, [z]) => decide (h = "set") && glB sc "set" && isE a sc z && notStar z
      | _ => false)
    | _ => false
  | .me1 m o a, sc, x => match meth1Of x with
    | some (l, n, r) => decide (n = m) && isE o sc l && isE a sc r && notStar r && noC0 l
    | none => false
  | .me2 m o a b, sc, x => match meth2Of x with
    | some (l, n, r, t) => decide (n = m) && isE o sc l && isE a sc r && notStar r && isE b sc t && notStar t && noC0 l
    | none => false
  | .cmp3 o1 o2 o3 a b c d, sc, x => match cmpOf x with
    | some (l, [p, q, u], [r, s, t]) => decide (p = o1) && decide (q = o2) && decide (u = o3) && isE a sc l && isE b sc r && isE c sc s && isE d sc t && !isSet t
    | _ => false
  | .svals a, sc, x => match callN x with
    | some (g, [y]) => decide (g = "sum") && glB sc "sum" && (match meth0Of y with
      | some (o, n) => decide (n = "values") && isE a sc o && noC0 o
      | none => false)
    | _ => false
  | .onin neg i k a, sc, x => match cmpOf x with
    | some (l, [o], [r]) => decide (o = if neg then .NotIn else .In) && isE a sc l && (match subOf r with
      | some (u, v) => isV N sc i u && isE k sc v && !isSlice v
      | none => false)
    | _ => false
  | .lrep es k, sc, x => match binOf x with
    | some (l, o, r) => decide (o = .Mult) && isE k sc r && (match lstOf l with
      | some xs => isEs es sc xs
      | none => false)
    | none => false
  | .lc elt t it c, sc, x => match lcOf x with
    | some (e, [⟨tg, iter, ifs, as⟩], scope) => decide (as = 0) && isI it sc tg iter && isT N (relS scope sc) (cellFs scope) t tg && isE elt (relS scope sc) e && isC c (relS scope sc) ifs && blkC N sc scope (ownOf N t.slots) && !isSet iter
    | _ => false
  | .lc2 elt t it t2 it2 c, sc, x => match lcOf x with
    | some (e, [⟨tg, iter, [], as⟩, ⟨tg2, iter2, ifs2, as2⟩], scope) => decide (as = 0) && decide (as2 = 0) && isI it sc tg iter && isT N (relS scope sc) (cellFs scope) t tg && isI it2 (relS scope sc) tg2 iter2 && isT N (relS scope sc) (cellFs scope) t2 tg2 &&
        isE elt (relS scope sc) e && isC c (relS scope sc) ifs2 && blkC N sc scope (ownOf N (t.slots ++ t2.slots)) && !isSet iter && !isSet iter2
    | _ => false
  | .dn, _, x => isD0 x
  | .d1 k v, sc, x => match d1Of x with
    | some (l, r) => isE k sc l && isE v sc r
    | none => false
  | .oix i b, sc, x => match subOf x with
    | some (l, r) => isV N sc i l && isE b sc r && !isSlice r
    | none => false
  | .olen i, sc, x => match callN x with
    | some (g, [y]) => decide (g = "len") && glB sc "len" && isV N sc i y
    | _ => false
  | .oget i a b, sc, x => match meth2Of x with
    | some (l, n, r, t) => decide (n = "get") && isV N sc i l && isE a sc r && notStar r && isE b sc t && notStar t
    | none => false
  | .oin neg i a, sc, x => match cmpOf x with
    | some (l, [o], [r]) => decide (o = if neg then .NotIn else .In) && isE a sc l && isV N sc i r
    | _ => false
def isEs : Es → Scope → List Expr → Bool
  | .nil, _, [] => true
  | .cons e es, sc, x :: xs => isE e sc x && notStar x && isEs es sc xs
  | _, _, _ => false
def isEo : Eo → Scope → Option Expr → Bool
  | .no, _, none => true
  | .so e, sc, some x => isE e sc x
  | _, _, _ => false
def isC : Eo → Scope → List Expr → Bool
  | .no, _, [] => true
  | .so e, sc, [x] => isE e sc x
  | _, _, _ => false
def isI : I → Scope → Expr → Expr → Bool
  | .e a, sc, _, x => isE a sc x
  | .r1 a, sc, _, x => match callN x with
    | some (g, [y]) => decide (g = "range") && glB sc "range" && isE a sc y && notStar y
    | _ => false
  | .r2 a b, sc, _, x => match callN x with
    | some (g, [y, z]) => decide (g = "range") && glB sc "range" && isE a sc y && notStar y && isE b sc z && notStar z
    | _ => false
  | .zip a b, sc, tg, x => match callN x with
    | some (g, [y, z]) => decide (g = "zip") && glB sc "zip" && isE a sc y && notStar y && isE b sc z && notStar z && (tupOf tg).isSome
    | _ => false
  | .enum a, sc, tg, x => match callN x with
    | some (g, [y]) => decide (g = "enumerate") && glB sc "enumerate" && isE a sc y && notStar y && (tupOf tg).isSome
    | _ => false
end
end
end OL

end
section
set_option Elab.async false
set_option linter.all false
set_option maxRecDepth 100000
set_option maxHeartbeats 8000000
namespace OL
open PySem PySem.Spec PyProof.Rows L2 RZ

theorem obind {α β : Type} {o : Option α} {f : α → Option β} {b : β} (h : o.bind f = some b) : ∃ a, o = some a ∧ f a = some b := by
  cases o with
  | none => cases h
  | some a => exact ⟨a, rfl, h⟩
theorem omap {α β : Type} {o : Option α} {f : α → β} {b : β} (h : o.map f = some b) : ∃ a, o = some a ∧ f a = b := by
  cases o with
  | none => cases h
  | some a => exact ⟨a, rfl, Option.some.inj h⟩
theorem boolq {d : D} {b : Bool} (h : bool? d = some b) : d = .bool b := by
  cases d <;> first | (cases h; rfl) | cases h
theorem intq {d : D} {b : Int} (h : int? d = some b) : d = .int b := by
  cases d <;> first | (cases h; rfl) | cases h

section
variable {X : Cx} {F : Fx} {ρ : Env} {N : List Str} {sc : Scope} {fs : Str → Bool} {cs : List (Str × Key)} {Φ : Tab}
theorem dt_ife {c a b : Expr} {k r : Bool} {pos : Pos} (hc : DT X F c ρ k) (ha : k = true → DT X F a ρ r) (hb : k = false → DT X F b ρ r) : DT X F (.IfExp c a b pos) ρ r := by
  intro σ H H0 Q env kk pins s I
  have e : isTrue (.IfExp c a b pos) X.env (eval (.IfExp c a b pos) X.env) = (do if ← isTrue c X.env (eval c X.env) then isTrue a X.env (eval a X.env) else isTrue b X.env (eval b X.env)) := rfl
  rw [e]
  have q := hc σ H H0 (fun d H1 => if d = true then tOfT X a σ H1 Q else tOfT X b σ H1 Q) env (fun H1 H01 p1 => by
    cases k with
    | true => rw [if_pos rfl]; exact ha rfl σ H1 H01 Q (env.post p1) fun H' H0' p2 => kk _ _ (p1.trans p2)
    | false => rw [if_neg (by decide)]; exact hb rfl σ H1 H01 Q (env.post p1) fun H' H0' p2 => kk _ _ (p1.trans p2)) pins s I
  refine wpAny_bind (thn q fun d s1 ⟨H1, I1, q1⟩ => ?_)
  cases d with
  | true => rw [if_pos rfl] at q1; exact q1 pins s1 I1
  | false => rw [if_neg (by decide)] at q1; exact q1 pins s1 I1
/-- what is shown of an expression -/
def OkE (X : Cx) (F : Fx) (x : Expr) (ρ : Env) (d : D) : Prop := DE X F x ρ d ∧ ∀ b, d = .bool b → DT X F x ρ b
theorem okE_plain {x : Expr} {d : D} (h : DE X F x ρ d) (he : ∀ whole, isTrue x X.env whole = (do let v ← whole; standAt x.pos; holding [v] (truthy v))) : OkE X F x ρ d :=
  ⟨h, fun b e => by subst e; exact dt_val h he⟩
theorem isV_ok (C : Ctx X N sc fs cs Φ) {i : Nat} {x : Expr} (h : isV N sc i x = true) : ∃ y p, x = .Name y p ∧ X.N[i]? = some y ∧ Vis X.env.scope y ∧ (y == ("__debug__" : Str)) = false ∧ (y == ("__classdict__" : Str)) = false := by
  unfold isV at h
  split at h
  · rename_i y hy
    obtain ⟨p, rfl⟩ := nameOf_is hy
    simp only [Bool.and_eq_true, decide_eq_true_eq] at h
    obtain ⟨n1, n2⟩ := nmB_is h.2
    exact ⟨y, p, rfl, by rw [C.hN]; exact h.1.1, by rw [C.hsc]; exact visB_is h.1.2, n1, n2⟩
  · cases h
/-- one turn of a comprehension -/
theorem step_ok (C : Ctx X N sc fs cs Φ) {scope : Scope} {t : T} {tg elt : Expr} {ifs : List Expr} {vs : List Nat} {d : D} {r : Option D} {ρw ρ1 : Env} {k : Bool} (ht : isT N (relS scope sc) (cellFs scope) t tg = true) (hv : ∀ i ∈ t.slots, i ∈ vs) (hb : bindT t d ρw = some ρ1)
    (hc : ∀ s H D cl fp, (ifs = [] ∧ k = true) ∨ ∃ c, ifs = [c] ∧ DT (blkX X scope s H D cl fp) F c ρ1 k)
    (he : k = true → ∃ z, r = some z ∧ ∀ s H D cl fp, DE (blkX X scope s H D cl fp) F elt ρ1 z) (hn : k = false → r = none) :
    Step X F (tBG X scope tg) (tBTs X scope ifs) (tB_ X scope elt) vs ρw d r := by
  intro σ H H0 v P env rd hw kk
  intro s Hs Cc cl fp
  have CB := C.blk (scope := scope) s Hs Cc cl fp
  refine dg (X := blkX X scope s Hs Cc cl fp) CB.hN CB.nd CB.hsc CB.hfs CB.calm ht hb rd env fun σ2 env2 w2 => ?_
  have env3 := env2 _ env
  refine ⟨by rw [w2 vs hv]; exact hw, ?_⟩
  have fin : ∀ (H3 H03 : Hp), Post H0 H H03 H3 → (if k = true then tB_ X scope elt σ2 H3 fun y H4 => P (some y) H4 else P none H3) := fun H3 H03 p3 => by
    cases k with
    | true =>
      rw [if_pos rfl]
      obtain ⟨z, rfl, hz⟩ := he rfl
      intro s' Hs' Cc' cl' fp'
      exact hz s' Hs' Cc' cl' fp' σ2 H3 H03 _ (env3.post p3) fun y H4 H04 p4 r4 => kk (some y) H4 H04 (p3.trans p4) r4
    | false =>
      rw [if_neg (by decide)]
      have e := hn rfl
      subst e
      exact kk none H3 H03 p3 trivial
  rcases hc s Hs Cc cl fp with ⟨rfl, rfl⟩ | ⟨c, rfl, _⟩
  · exact fin H H0 (Post.refl env.s)
  · intro s' Hs' Cc' cl' fp'
    rcases hc s' Hs' Cc' cl' fp' with ⟨e, _⟩ | ⟨c', e, hdt⟩
    · cases e
    · cases e
      exact hdt σ2 H H0 _ env3 fun H3 H03 p3 => fin H3 H03 p3
end

mutual
theorem soundE : ∀ (e : E) {X : Cx} {F : Fx} {N : List Str} {sc : Scope} {fs : Str → Bool} {cs : List (Str × Key)} {Φ : Tab} {ρ : Env} {x : Expr} {d : D}, Ctx X N sc fs cs Φ → isE N cs e sc x = true → evE Φ e ρ = some d → OkE X F x ρ d
  | .c d0, X, F, N, sc, fs, cs, Φ, ρ, x, d, C, h, he => by
    unfold isE at h
    split at h
    case h_2 => cases h
    rename_i c hc
    obtain ⟨j, p, rfl⟩ := cOf_is hc
    unfold evE at he
    split at he
    case isFalse => cases he
    cases he
    refine okE_plain ?_ (fun _ => rfl)
    unfold constIs at h
    split at h
    · exact de_non
    · have e := eq_of_beq h; subst e; exact de_bl
    · have e := of_decide_eq_true h; subst e; exact de_int
    · have e := of_decide_eq_true h; subst e; exact de_str
    · cases h
  | .v i, X, F, N, sc, fs, cs, Φ, ρ, x, d, C, h, he => by
    unfold isE at h
    obtain ⟨y, p, rfl, h1, h2, h3, h4⟩ := isV_ok C h
    exact okE_plain (de_var h1 h2 h3 h4 he) (fun _ => rfl)
  | .g y k, X, F, N, sc, fs, cs, Φ, ρ, x, d, C, h, he => by
    unfold isE at h
    split at h
    case h_2 => cases h
    rename_i z hz
    obtain ⟨p, rfl⟩ := nameOf_is hz
    simp only [Bool.and_eq_true, decide_eq_true_eq, List.any_eq_true] at h
    obtain ⟨⟨⟨rfl, h1⟩, h2⟩, q, hq, e1, e2⟩ := h
    obtain ⟨u, hu, hr⟩ := C.con q hq
    cases he
    rw [e1] at hu
    rw [e2] at hr
    exact okE_plain (de_glob (glB_is C.hsc h1) hu hr (nmB_is h2).1) (fun _ => rfl)
  | .bin op a b, X, F, N, sc, fs, cs, Φ, ρ, x, d, C, h, he => by
    unfold isE at h
    split at h
    case h_2 => cases h
    rename_i l o r hx
    obtain ⟨p, rfl⟩ := binOf_is hx
    simp only [Bool.and_eq_true, decide_eq_true_eq] at h
    obtain ⟨⟨rfl, h1⟩, h2⟩ := h
    unfold evE at he
    obtain ⟨u, e1, hq⟩ := obind he
    clear he
    have he := hq
    clear hq
    obtain ⟨v, e2, hq⟩ := obind he
    clear he
    have he := hq
    clear hq
    exact okE_plain (de_bin (soundE a C h1 e1).1 (soundE b C h2 e2).1 he) (fun _ => rfl)
  | .neg a, X, F, N, sc, fs, cs, Φ, ρ, x, d, C, h, he => by
    unfold isE at h
    split at h
    case h_2 => cases h
    rename_i y hx
    obtain ⟨p, rfl⟩ := unOf_is hx
    unfold evE at he
    obtain ⟨u, e1, hq⟩ := obind he
    clear he
    have he := hq
    clear hq
    split at he
    case h_2 => cases he
    cases he
    exact okE_plain (de_neg (soundE a C h e1).1) (fun _ => rfl)
  | .cmp op a b, X, F, N, sc, fs, cs, Φ, ρ, x, d, C, h, he => by
    unfold isE at h
    split at h
    case h_2 => cases h
    rename_i l o r hx
    obtain ⟨p, rfl⟩ := cmpOf_is hx
    simp only [Bool.and_eq_true, decide_eq_true_eq, Bool.not_eq_true'] at h
    obtain ⟨⟨⟨rfl, h1⟩, h2⟩, h3⟩ := h
    unfold evE at he
    obtain ⟨u, e1, hq⟩ := obind he
    clear he
    have he := hq
    clear hq
    obtain ⟨v, e2, hq⟩ := obind he
    clear he
    have he := hq
    clear hq
    obtain ⟨k, e3, rfl⟩ := omap he
    have hu : X.A.units + 65 < cLine := by have := C.room; omega
    refine ⟨de_cmp hu (soundE a C h1 e1).1 (soundE b C h2 e2).1 e3 (marks_no h3), fun b' eb => ?_⟩
    cases eb
    exact dt_cmp hu (soundE a C h1 e1).1 (soundE b C h2 e2).1 e3 (marks_no h3)
  | .cmp2 o1 o2 a b c, X, F, N, sc, fs, cs, Φ, ρ, x, d, C, h, he => by
    unfold isE at h
    split at h
    case h_2 => cases h
    rename_i l p q r s hx
    obtain ⟨pos, rfl⟩ := cmpOf_is hx
    simp only [Bool.and_eq_true, decide_eq_true_eq, Bool.not_eq_true'] at h
    obtain ⟨⟨⟨⟨⟨rfl, rfl⟩, h1⟩, h2⟩, h3⟩, h4⟩ := h
    unfold evE at he
    obtain ⟨u, e1, hq⟩ := obind he
    clear he
    have he := hq
    clear hq
    obtain ⟨v, e2, hq⟩ := obind he
    clear he
    have he := hq
    clear hq
    obtain ⟨k, e3, hq⟩ := obind he
    clear he
    have he := hq
    clear hq
    have hu : X.A.units + 65 < cLine := by have := C.room; omega
    have key : ∃ r', d = .bool r' ∧ (k = true → ∃ z, DE X F s ρ z ∧ cmpD q v z = some r') ∧ (k = false → r' = false) := by
      cases k with
      | true =>
        rw [if_pos rfl] at he
        obtain ⟨z, e4, hq⟩ := obind he
        clear he
        have he := hq
        clear hq
        obtain ⟨r', e5, rfl⟩ := omap he
        exact ⟨r', rfl, fun _ => ⟨z, (soundE c C h3 e4).1, e5⟩, fun e => by cases e⟩
      | false =>
        rw [if_neg (by decide)] at he
        cases he
        exact ⟨false, rfl, fun e => (by cases e), fun _ => rfl⟩
    obtain ⟨r', rfl, k1, k2⟩ := key
    refine ⟨de_chain hu (soundE a C h1 e1).1 (soundE b C h2 e2).1 e3 k1 k2 (last_no h4), fun b' eb => ?_⟩
    cases eb
    exact dt_chain hu (soundE a C h1 e1).1 (soundE b C h2 e2).1 e3 k1 k2 (last_no h4)
  | .no a, X, F, N, sc, fs, cs, Φ, ρ, x, d, C, h, he => by
    unfold isE at h
    split at h
    case h_2 => cases h
    rename_i y hx
    obtain ⟨p, rfl⟩ := unOf_is hx
    unfold evE at he
    obtain ⟨u, e1, hq⟩ := obind he
    clear he
    have he := hq
    clear hq
    obtain ⟨b, e2, rfl⟩ := omap he
    have e3 := boolq e2
    subst e3
    have ih := soundE (F := F) a C h e1
    refine ⟨de_no ih.1, fun b' eb => ?_⟩
    cases eb
    exact dt_no (ih.2 _ rfl)
  | .and as, X, F, N, sc, fs, cs, Φ, ρ, x, d, C, h, he => by
    unfold isE at h
    split at h
    case h_2 => cases h
    rename_i e es hx
    obtain ⟨p, rfl⟩ := boolOf_is hx
    unfold evE at he
    obtain ⟨b, e1, rfl⟩ := omap he
    have ih := soundAnd (F := F) as C h e1 p
    refine ⟨ih.1, fun b' eb => ?_⟩
    cases eb
    exact dt_dw ih.2
  | .or as, X, F, N, sc, fs, cs, Φ, ρ, x, d, C, h, he => by
    unfold isE at h
    split at h
    case h_2 => cases h
    rename_i e es hx
    obtain ⟨p, rfl⟩ := boolOf_is hx
    unfold evE at he
    obtain ⟨b, e1, rfl⟩ := omap he
    have ih := soundOr (F := F) as C h e1 p
    refine ⟨ih.1, fun b' eb => ?_⟩
    cases eb
    exact dt_dw ih.2
  | .ife c a b, X, F, N, sc, fs, cs, Φ, ρ, x, d, C, h, he => by
    unfold isE at h
    split at h
    case h_2 => cases h
    rename_i u v w hx
    obtain ⟨p, rfl⟩ := ifOf_is hx
    simp only [Bool.and_eq_true] at h
    obtain ⟨⟨h1, h2⟩, h3⟩ := h
    unfold evE at he
    obtain ⟨y, e1, hq⟩ := obind he
    clear he
    have he := hq
    clear hq
    obtain ⟨k, e2, hq⟩ := obind he
    clear he
    have he := hq
    clear hq
    have e3 := boolq e2
    subst e3
    have ih := soundE (F := F) c C h1 e1
    have ha : k = true → OkE X F v ρ d := fun e => by
      subst e
      rw [if_pos rfl] at he
      exact soundE a C h2 he
    have hb : k = false → OkE X F w ρ d := fun e => by
      subst e
      rw [if_neg (by decide)] at he
      exact soundE b C h3 he
    exact ⟨de_ife (ih.2 k rfl) (fun e => (ha e).1) (fun e => (hb e).1), fun b' eb => dt_ife (ih.2 k rfl) (fun e => (ha e).2 b' eb) (fun e => (hb e).2 b' eb)⟩
  | .tup es, X, F, N, sc, fs, cs, Φ, ρ, x, d, C, h, he => by
    unfold isE at h
    split at h
    case h_2 => cases h
    rename_i xs hx
    obtain ⟨j, p, rfl⟩ := tupOf_is hx
    unfold evE at he
    obtain ⟨ds, e1, hq⟩ := obind he
    clear he
    have he := hq
    clear hq
    split at he
    case isFalse => cases he
    rename_i hl
    cases he
    exact okE_plain (de_tup (soundL es C h e1).1 hl) (fun _ => rfl)
  | .lst es, X, F, N, sc, fs, cs, Φ, ρ, x, d, C, h, he => by
    unfold isE at h
    split at h
    case h_2 => cases h
    rename_i xs hx
    obtain ⟨p, rfl⟩ := lstOf_is hx
    unfold evE at he
    obtain ⟨ds, e1, hq⟩ := obind he
    clear he
    have he := hq
    clear hq
    split at he
    case isFalse => cases he
    rename_i hl
    cases he
    exact okE_plain (de_of_df (df_lst (soundL es C h e1).1 hl)) (fun _ => rfl)
  | .ix a b, X, F, N, sc, fs, cs, Φ, ρ, x, d, C, h, he => by
    unfold isE at h
    split at h
    case h_2 => cases h
    rename_i l r hx
    obtain ⟨p, rfl⟩ := subOf_is hx
    simp only [Bool.and_eq_true, Bool.not_eq_true'] at h
    obtain ⟨⟨h1, h2⟩, h3⟩ := h
    unfold evE at he
    obtain ⟨u, e1, hq⟩ := obind he
    clear he
    have he := hq
    clear hq
    obtain ⟨v, e2, hq⟩ := obind he
    clear he
    have he := hq
    clear hq
    have hu : X.A.units + 65 < cLine := by have := C.room; omega
    exact okE_plain (de_ix hu (soundE a C h1 e1).1 (soundE b C h2 e2).1 he (plainIx_of h3)) (fun _ => rfl)
  | .sl a lo hi, X, F, N, sc, fs, cs, Φ, ρ, x, d, C, h, he => by
    unfold isE at h
    split at h
    case h_2 => cases h
    rename_i l s hx
    obtain ⟨p, rfl⟩ := subOf_is hx
    simp only [Bool.and_eq_true] at h
    obtain ⟨h1, h⟩ := h
    split at h
    case h_2 => cases h
    rename_i u v hs
    obtain ⟨p2, rfl⟩ := slcOf_is hs
    simp only [Bool.and_eq_true] at h
    unfold evE at he
    obtain ⟨w, e1, hq⟩ := obind he
    clear he
    have he := hq
    clear hq
    obtain ⟨lo', e2, he⟩ := obind he
    obtain ⟨hi', e3, he⟩ := obind he
    exact okE_plain (de_sl (soundE a C h1 e1).1 (soundO lo C h.1 e2) (soundO hi C h.2 e3) he) (fun _ => rfl)
  | .call f es, X, F, N, sc, fs, cs, Φ, ρ, x, d, C, h, he => by
    unfold isE at h
    split at h
    case h_2 => cases h
    rename_i g xs hx
    obtain ⟨p, q, rfl⟩ := callN_is hx
    simp only [Bool.and_eq_true, decide_eq_true_eq] at h
    obtain ⟨⟨⟨rfl, h1⟩, h2⟩, h3⟩ := h
    unfold evE at he
    obtain ⟨G, e1, hq⟩ := obind he
    clear he
    have he := hq
    clear hq
    obtain ⟨ds, e2, hq⟩ := obind he
    clear he
    have he := hq
    clear hq
    obtain ⟨r, e3, hq⟩ := obind he
    clear he
    have he := hq
    clear hq
    split at he
    case h_2 => cases he
    cases he
    have ih := soundL (F := F) es C h3 e2
    cases xs with
    | nil =>
      have e4 : ds = [] := by
        cases es with
        | nil => cases e2; rfl
        | cons _ _ => cases h3
      subst e4
      exact okE_plain (de_call0 C (glB_is C.hsc h1) e1 e3 (nmB_is h2).1) (fun _ => rfl)
    | cons y ys => exact okE_plain (de_call C (glB_is C.hsc h1) e1 ih.1 ih.2 e3 (nmB_is h2).1) (fun _ => rfl)
  | .bi f es, X, F, N, sc, fs, cs, Φ, ρ, x, d, C, h, he => by
    unfold isE at h
    split at h
    case h_2 => cases h
    rename_i g y ys hx
    obtain ⟨p, q, rfl⟩ := callN_is hx
    simp only [Bool.and_eq_true, decide_eq_true_eq] at h
    obtain ⟨⟨rfl, h1⟩, h3⟩ := h
    unfold evE at he
    obtain ⟨ds, e2, hq⟩ := obind he
    clear he
    have he := hq
    clear hq
    have ih := soundL (F := F) es C h3 e2
    exact okE_plain (de_bi C (glB_is C.hsc h1) ih.1 ih.2 he) (fun _ => rfl)
  | .isi a ty, X, F, N, sc, fs, cs, Φ, ρ, x, d, C, h, he => by
    unfold isE at h
    split at h
    case h_2 => cases h
    rename_i g y z hx
    obtain ⟨p, q, rfl⟩ := callN_is hx
    simp only [Bool.and_eq_true, decide_eq_true_eq] at h
    obtain ⟨⟨⟨⟨rfl, h1⟩, h2⟩, h3⟩, h4⟩ := h
    split at h4
    case h_2 => cases h4
    rename_i t ht
    obtain ⟨p2, rfl⟩ := nameOf_is ht
    simp only [Bool.and_eq_true, decide_eq_true_eq] at h4
    obtain ⟨rfl, h5⟩ := h4
    unfold evE at he
    obtain ⟨u, e1, hq⟩ := obind he
    clear he
    have he := hq
    clear hq
    obtain ⟨b, e2, rfl⟩ := omap he
    exact okE_plain (de_isi C (glB_is C.hsc h1) (glB_is C.hsc h5) (soundE a C h2 e1).1 h3 e2) (fun _ => rfl)
  | .lrg a, X, F, N, sc, fs, cs, Φ, ρ, x, d, C, h, he => by
    unfold isE at h
    split at h
    case h_2 => cases h
    rename_i g y hx
    obtain ⟨p, q, rfl⟩ := callN_is hx
    simp only [Bool.and_eq_true, decide_eq_true_eq] at h
    obtain ⟨⟨rfl, h1⟩, h⟩ := h
    split at h
    case h_2 => cases h
    rename_i g2 z hy
    obtain ⟨p2, q2, rfl⟩ := callN_is hy
    simp only [Bool.and_eq_true, decide_eq_true_eq] at h
    obtain ⟨⟨⟨rfl, h2⟩, h3⟩, h4⟩ := h
    unfold evE at he
    obtain ⟨u, e1, hq⟩ := obind he
    clear he
    have he := hq
    clear hq
    obtain ⟨n, e2, hq⟩ := obind he
    clear he
    have he := hq
    clear hq
    have e3 := intq e2
    subst e3
    split at he
    case isFalse => cases he
    rename_i hn
    cases he
    exact okE_plain (de_lrg C (glB_is C.hsc h1) (glB_is C.hsc h2) (soundE a C h3 e1).1 h4 hn) (fun _ => rfl)
  | .lrg2 a b, X, F, N, sc, fs, cs, Φ, ρ, x, d, C, h, he => by
    unfold isE at h
    split at h
    case h_2 => cases h
    rename_i g y hx
    obtain ⟨p, q, rfl⟩ := callN_is hx
    simp only [Bool.and_eq_true, decide_eq_true_eq] at h
    obtain ⟨⟨rfl, h1⟩, h⟩ := h
    split at h
    case h_2 => cases h
    rename_i g2 z z2 hy
    obtain ⟨p2, q2, rfl⟩ := callN_is hy
    simp only [Bool.and_eq_true, decide_eq_true_eq] at h
    obtain ⟨⟨⟨⟨⟨rfl, h2⟩, h3⟩, h4⟩, h5⟩, h6⟩ := h
    unfold evE at he
    obtain ⟨u, e1, hq⟩ := obind he
    clear he
    have he := hq
    clear hq
    obtain ⟨u2, e12, hq⟩ := obind he
    clear he
    have he := hq
    clear hq
    obtain ⟨m, e2, hq⟩ := obind he
    clear he
    have he := hq
    clear hq
    obtain ⟨n, e22, hq⟩ := obind he
    clear he
    have he := hq
    clear hq
    have e3 := intq e2
    subst e3
    have e4 := intq e22
    subst e4
    split at he
    case isFalse => cases he
    rename_i hn
    cases he
    exact okE_plain (de_lrg2 C (glB_is C.hsc h1) (glB_is C.hsc h2) (soundE a C h3 e1).1 (soundE b C h5 e12).1 h4 h6 hn) (fun _ => rfl)
  | .lset a, X, F, N, sc, fs, cs, Φ, ρ, x, d, C, h, he => by
    unfold isE at h
    split at h
    case h_2 => cases h
    rename_i g y hx
    obtain ⟨p, q, rfl⟩ := callN_is hx
    simp only [Bool.and_eq_true, decide_eq_true_eq] at h
    obtain ⟨⟨rfl, h1⟩, h⟩ := h
    split at h
    case h_2 => cases h
    rename_i g2 z hy
    obtain ⟨p2, q2, rfl⟩ := callN_is hy
    simp only [Bool.and_eq_true, decide_eq_true_eq] at h
    obtain ⟨⟨⟨rfl, h2⟩, h3⟩, h4⟩ := h
    unfold evE at he
    obtain ⟨u, e1, hq⟩ := obind he
    clear he
    have he := hq
    clear hq
    split at he
    case h_2 => cases he
    rename_i xs
    obtain ⟨is, e2, hq⟩ := obind he
    clear he
    have he := hq
    clear hq
    split at he
    case isFalse => cases he
    rename_i hl
    cases he
    have ih := (soundE (F := F) a C h3 e1).1
    rw [ints_is e2] at ih
    exact okE_plain (de_lset C (glB_is C.hsc h1) (glB_is C.hsc h2) ih h4 hl) (fun _ => rfl)
  | .sset a, X, F, N, sc, fs, cs, Φ, ρ, x, d, C, h, he => by
    unfold isE at h
    split at h
    case h_2 => cases h
    rename_i g y hx
    obtain ⟨p, q, rfl⟩ := callN_is hx
    simp only [Bool.and_eq_true, decide_eq_true_eq] at h
    obtain ⟨⟨rfl, h1⟩, h⟩ := h
    split at h
    case h_2 => cases h
    rename_i g2 z hy
    obtain ⟨p2, q2, rfl⟩ := callN_is hy
    simp only [Bool.and_eq_true, decide_eq_true_eq] at h
    obtain ⟨⟨⟨rfl, h2⟩, h3⟩, h4⟩ := h
    unfold evE at he
    obtain ⟨u, e1, hq⟩ := obind he
    split at hq
    case h_2 => cases hq
    rename_i xs
    obtain ⟨is, e2, hq2⟩ := obind hq
    split at hq2
    case isFalse => cases hq2
    rename_i hl
    cases hq2
    have ih := (soundE (F := F) a C h3 e1).1
    rw [ints_is e2] at ih
    exact okE_plain (de_sset C (glB_is C.hsc h1) (glB_is C.hsc h2) ih h4 hl.1 hl.2) (fun _ => rfl)
  | .me1 m o a, X, F, N, sc, fs, cs, Φ, ρ, x, d, C, h, he => by
    unfold isE at h
    split at h
    case h_2 => cases h
    rename_i l n r hx
    obtain ⟨ap, cp, rfl, hline⟩ := meth1Of_is hx
    simp only [Bool.and_eq_true, decide_eq_true_eq] at h
    obtain ⟨⟨⟨⟨rfl, h1⟩, h2⟩, h3⟩, h4⟩ := h
    unfold evE at he
    obtain ⟨u, e1, hq⟩ := obind he
    obtain ⟨v, e2, hq2⟩ := obind hq
    have i1 := (soundE (F := F) o C h1 e1).1
    have i2 := (soundE (F := F) a C h2 e2).1
    have hu := C.room
    unfold me1D at hq2
    split at hq2
    · rename_i em
      subst em
      split at hq2
      case h_2 => cases hq2
      obtain ⟨o', e3, rfl⟩ := omap hq2
      exact okE_plain (de_get1 hu i1 i2 e3 h3 hline (base_no h4)) (fun _ => rfl)
    · split at hq2
      · rename_i em
        subst em
        split at hq2
        case h_2 => cases hq2
        split at hq2
        case isFalse => cases hq2
        rename_i hsh
        obtain ⟨j, e3, rfl⟩ := omap hq2
        exact okE_plain (de_index hu i1 i2 e3 hsh.1 hsh.2 h3 hline (base_no h4)) (fun _ => rfl)
      · split at hq2
        · rename_i em
          subst em
          split at hq2
          case h_2 => cases hq2
          obtain ⟨is, e3, rfl⟩ := omap hq2
          rw [ints_is e3] at i1
          exact okE_plain (de_countI i1 i2 h3 hline (base_no h4)) (fun _ => rfl)
        · split at hq2
          · rename_i em
            subst em
            split at hq2
            case h_2 => cases hq2
            split at hq2
            case h_3 => cases hq2
            · obtain ⟨ys, e3, hq3⟩ := obind hq2
              split at hq3
              case isFalse => cases hq3
              rename_i hl
              cases hq3
              exact okE_plain (de_join i1 i2 (.inl rfl) e3 hl h3 hline (base_no h4)) (fun _ => rfl)
            · obtain ⟨ys, e3, hq3⟩ := obind hq2
              split at hq3
              case isFalse => cases hq3
              rename_i hl
              cases hq3
              exact okE_plain (de_join i1 i2 (.inr rfl) e3 hl h3 hline (base_no h4)) (fun _ => rfl)
          · split at hq2
            · rename_i em
              subst em
              split at hq2
              case h_2 => cases hq2
              split at hq2
              case isFalse => cases hq2
              rename_i hl
              cases hq2
              exact okE_plain (de_split i1 i2 hl.1 hl.2 h3 hline (base_no h4)) (fun _ => rfl)
            · cases hq2
  | .me2 m o a b, X, F, N, sc, fs, cs, Φ, ρ, x, d, C, h, he => by
    unfold isE at h
    split at h
    case h_2 => cases h
    rename_i l n r t hx
    obtain ⟨ap, cp, rfl, hline⟩ := meth2Of_is hx
    simp only [Bool.and_eq_true, decide_eq_true_eq] at h
    obtain ⟨⟨⟨⟨⟨⟨rfl, h1⟩, h2⟩, h3⟩, h4⟩, h5⟩, h6⟩ := h
    unfold evE at he
    obtain ⟨u, e1, hq⟩ := obind he
    obtain ⟨v, e2, hq2⟩ := obind hq
    obtain ⟨w, e3, hq3⟩ := obind hq2
    have i1 := (soundE (F := F) o C h1 e1).1
    have i2 := (soundE (F := F) a C h2 e2).1
    have i3 := (soundE (F := F) b C h4 e3).1
    unfold me2D at hq3
    split at hq3
    · rename_i em
      subst em
      split at hq3
      case h_2 => cases hq3
      obtain ⟨o', e4, rfl⟩ := omap hq3
      exact okE_plain (de_get2 C.room i1 i2 i3 e4 h3 h5 hline (base_no h6)) (fun _ => rfl)
    · cases hq3
  | .cmp3 o1 o2 o3 a b c d0, X, F, N, sc, fs, cs, Φ, ρ, x, d, C, h, he => by
    unfold isE at h
    split at h
    case h_2 => cases h
    rename_i l p q u r s t hx
    obtain ⟨pos, rfl⟩ := cmpOf_is hx
    simp only [Bool.and_eq_true, decide_eq_true_eq, Bool.not_eq_true'] at h
    obtain ⟨⟨⟨⟨⟨⟨⟨rfl, rfl⟩, rfl⟩, h1⟩, h2⟩, h3⟩, h4⟩, h5⟩ := h
    unfold evE at he
    obtain ⟨x1, e1, hq⟩ := obind he
    obtain ⟨y1, e2, hq2⟩ := obind hq
    obtain ⟨k, e3, hq3⟩ := obind hq2
    have hu : X.A.units + 65 < cLine := by have := C.room; omega
    have key : ∃ r', d = .bool r' ∧ (k = true → ∃ z k', DE X F s ρ z ∧ cmpD q y1 z = some k' ∧ (k' = true → ∃ t', DE X F t ρ t' ∧ cmpD u z t' = some r') ∧ (k' = false → r' = false)) ∧ (k = false → r' = false) := by
      cases k with
      | false =>
        rw [if_neg (by decide)] at hq3
        cases hq3
        exact ⟨false, rfl, fun e => (by cases e), fun _ => rfl⟩
      | true =>
        rw [if_pos rfl] at hq3
        obtain ⟨z, e4, hq4⟩ := obind hq3
        obtain ⟨k', e5, hq5⟩ := obind hq4
        cases k' with
        | false =>
          rw [if_neg (by decide)] at hq5
          cases hq5
          exact ⟨false, rfl, fun _ => ⟨z, false, (soundE c C h3 e4).1, e5, fun e => (by cases e), fun _ => rfl⟩, fun e => by cases e⟩
        | true =>
          rw [if_pos rfl] at hq5
          obtain ⟨t', e6, hq6⟩ := obind hq5
          obtain ⟨r', e7, rfl⟩ := omap hq6
          exact ⟨r', rfl, fun _ => ⟨z, true, (soundE c C h3 e4).1, e5, fun _ => ⟨t', (soundE d0 C h4 e6).1, e7⟩, fun e => by cases e⟩, fun e => by cases e⟩
    obtain ⟨r', rfl, k1, k2⟩ := key
    have hm : lastMarks [p, q, u] [r, s, t] = false := marks_no h5
    refine ⟨fun σ H H0 Q env kk => tOf_of (pe_chain3 pe_of pe_of pe_of pe_of hm) (chain3_read hu (soundE a C h1 e1).1 (soundE b C h2 e2).1 e3 k1 k2 env kk), fun b' eb => ?_⟩
    cases eb
    intro σ H H0 Q env kk
    refine tOfT_of (pt_chain3 pe_of pe_of pe_of pe_of hm) ?_
    refine chain3_read hu (soundE a C h1 e1).1 (soundE b C h2 e2).1 e3 k1 k2 env fun v H' H0' p1 r1 => ?_
    cases r1
    exact ⟨_, rfl, kk _ _ p1⟩
  | .svals a, X, F, N, sc, fs, cs, Φ, ρ, x, d, C, h, he => by
    unfold isE at h
    split at h
    case h_2 => cases h
    rename_i g y hx
    obtain ⟨p, q, rfl⟩ := callN_is hx
    simp only [Bool.and_eq_true, decide_eq_true_eq] at h
    obtain ⟨⟨rfl, h1⟩, h⟩ := h
    split at h
    case h_2 => cases h
    rename_i o n hy
    obtain ⟨ap, cp, rfl, hline⟩ := meth0Of_is hy
    simp only [Bool.and_eq_true, decide_eq_true_eq] at h
    obtain ⟨⟨rfl, h2⟩, h3⟩ := h
    unfold evE at he
    obtain ⟨u, e1, hq⟩ := obind he
    split at hq
    case h_2 => cases hq
    split at hq
    · cases hq
    · rename_i hne
      obtain ⟨is, e2, rfl⟩ := omap hq
      exact okE_plain (de_svals C (glB_is C.hsc h1) (soundE (F := F) a C h2 e1).1 hne e2 (base_no h3) hline) (fun _ => rfl)
  | .onin neg i k a, X, F, N, sc, fs, cs, Φ, ρ, x, d, C, h, he => by
    unfold isE at h
    split at h
    case h_2 => cases h
    rename_i l o r hx
    obtain ⟨p, rfl⟩ := cmpOf_is hx
    simp only [Bool.and_eq_true, decide_eq_true_eq] at h
    obtain ⟨⟨rfl, h1⟩, h⟩ := h
    split at h
    case h_2 => cases h
    rename_i u v hs
    obtain ⟨p2, rfl⟩ := subOf_is hs
    simp only [Bool.and_eq_true, Bool.not_eq_true'] at h
    obtain ⟨⟨h2, h3⟩, h4⟩ := h
    obtain ⟨y, p3, rfl, v1, v2, v3, v4⟩ := isV_ok C h2
    unfold evE at he
    obtain ⟨x1, e1, hq⟩ := obind he
    obtain ⟨y1, e2, hq2⟩ := obind hq
    split at hq2
    case h_2 => cases hq2
    rename_i xs hb
    obtain ⟨n, e3, hq3⟩ := obind hq2
    have e4 := intq e3
    subst e4
    obtain ⟨j, e5, hq4⟩ := obind hq3
    split at hq4
    case h_2 => cases hq4
    rename_i ys hys
    split at hq4
    case isFalse => cases hq4
    rename_i hsh
    cases hq4
    have hu : X.A.units + 65 < cLine := by have := C.room; omega
    have q := de_onin (neg := neg) (p := p3) (q := p2) hu v1 v2 v3 v4 (soundE (F := F) a C h1 e1).1 (soundE (F := F) k C h3 e2).1 hb e5 hys hsh.1 hsh.2
    refine ⟨fun σ H H0 Q env k => tOf_of (pe_cmpR op_any pe_of (pe_ix ix_list (pe_var v1 v2 v3 v4) pe_of (plainIx_of h4)) rfl) (q σ H H0 Q env k), fun b' eb => ?_⟩
    intro σ H H0 Q env k
    refine tOfT_of (pt_cmpR op_any pe_of (pe_ix ix_list (pe_var v1 v2 v3 v4) pe_of (plainIx_of h4)) rfl) ?_
    refine q σ H H0 _ env fun v H' H0' p1 r1 => ?_
    rw [eb] at r1
    cases r1
    exact ⟨b', rfl, k _ _ p1⟩
  | .lrep es k, X, F, N, sc, fs, cs, Φ, ρ, x, d, C, h, he => by
    unfold isE at h
    split at h
    case h_2 => cases h
    rename_i l o r hx
    obtain ⟨p, rfl⟩ := binOf_is hx
    simp only [Bool.and_eq_true, decide_eq_true_eq] at h
    obtain ⟨⟨rfl, h1⟩, h⟩ := h
    split at h
    case h_2 => cases h
    rename_i xs hl
    obtain ⟨p2, rfl⟩ := lstOf_is hl
    unfold evE at he
    obtain ⟨ds, e1, hq⟩ := obind he
    obtain ⟨y, e2, hq2⟩ := obind hq
    obtain ⟨n, e3, hq3⟩ := obind hq2
    have e4 := intq e3
    subst e4
    split at hq3
    case isFalse => cases hq3
    rename_i hn
    cases hq3
    exact okE_plain (de_lrep (soundL es C h e1).1 (soundE k C h1 e2).1 hn.1 hn.2.1 hn.2.2) (fun _ => rfl)
  | .lc elt t it c, X, F, N, sc, fs, cs, Φ, ρ, x, d, C, h, he => by
    unfold isE at h
    split at h
    case h_2 => cases h
    rename_i e tg iter ifs as scope hx
    obtain ⟨p, rfl⟩ := lcOf_is hx
    simp only [Bool.and_eq_true, decide_eq_true_eq, Bool.not_eq_true'] at h
    obtain ⟨⟨⟨⟨⟨⟨rfl, h1⟩, h2⟩, h3⟩, h4⟩, h5⟩, h6⟩ := h
    unfold evE at he
    obtain ⟨ds, e1, hq⟩ := obind he
    clear he
    have he := hq
    clear hq
    obtain ⟨out, e2, rfl⟩ := omap he
    refine okE_plain (de_of_df (df_lc C (soundI it C h1 e1) e2 (fun d hd r hr => ?_) h5 (folded_no h6))) (fun _ => rfl)
    obtain ⟨ρ1, f1, hr⟩ := obind hr
    obtain ⟨k, f2, hr⟩ := obind hr
    refine step_ok (k := k) C h2 (fun i hi => hi) f1 (fun s H D cl fp => soundC c (C.blk s H D cl fp) h4 f2) (fun ek => ?_) (fun ek => ?_)
    · subst ek
      rw [if_pos rfl] at hr
      obtain ⟨z, f3, rfl⟩ := omap hr
      exact ⟨z, rfl, fun s H D cl fp => (soundE elt (C.blk s H D cl fp) h3 f3).1⟩
    · subst ek
      rw [if_neg (by decide)] at hr
      cases hr; rfl
  | .lc2 elt t it t2 it2 c, X, F, N, sc, fs, cs, Φ, ρ, x, d, C, h, he => by
    unfold isE at h
    split at h
    case h_2 => cases h
    rename_i e tg iter as tg2 iter2 ifs2 as2 scope hx
    obtain ⟨p, rfl⟩ := lcOf_is hx
    simp only [Bool.and_eq_true, decide_eq_true_eq, Bool.not_eq_true'] at h
    obtain ⟨⟨⟨⟨⟨⟨⟨⟨⟨⟨rfl, rfl⟩, h1⟩, h2⟩, h3⟩, h4⟩, h5⟩, h6⟩, h7⟩, h8⟩, h9⟩ := h
    unfold evE at he
    obtain ⟨ds, e1, hq⟩ := obind he
    clear he
    have he := hq
    clear hq
    obtain ⟨out, e2, hq⟩ := obind he
    clear he
    have he := hq
    clear hq
    split at he
    case isFalse => cases he
    rename_i hl
    cases he
    refine okE_plain (de_of_df (df_lc2 C (vs1 := t2.slots) (soundI it C h1 e1) e2 hl (fun d hd o ho => ?_) h7 (fun i hi => by simp [hi]) (folded_no h8) (fun env x => folded_no h9 x))) (fun _ => rfl)
    obtain ⟨ρ1, f1, ho⟩ := obind ho
    obtain ⟨ds2, f2, ho⟩ := obind ho
    refine ⟨ρ1, ds2, _, ho, fun σ H H0 v Q env rd kk => ?_, fun σ H H0 R env kk => ?_, fun d2 hd2 r hr => ?_⟩
    · intro s Hs Cc cl fp
      have CB := C.blk (scope := scope) s Hs Cc cl fp
      exact dg (X := blkX X scope s Hs Cc cl fp) CB.hN CB.nd CB.hsc CB.hfs CB.calm h2 f1 rd env fun σ2 env2 w2 => kk σ2 env2 (w2 _ fun i hi => by simp [hi])
    · intro s Hs Cc cl fp
      exact soundI it2 (C.blk s Hs Cc cl fp) h3 f2 σ H H0 R env kk
    · obtain ⟨ρ2, g1, hr⟩ := obind hr
      obtain ⟨k, g2, hr⟩ := obind hr
      refine step_ok (k := k) C h4 (fun i hi => hi) g1 (fun s H D cl fp => soundC c (C.blk s H D cl fp) h6 g2) (fun ek => ?_) (fun ek => ?_)
      · subst ek
        rw [if_pos rfl] at hr
        obtain ⟨z, f3, rfl⟩ := omap hr
        exact ⟨z, rfl, fun s H D cl fp => (soundE elt (C.blk s H D cl fp) h5 f3).1⟩
      · subst ek
        rw [if_neg (by decide)] at hr
        cases hr; rfl
  | .dn, X, F, N, sc, fs, cs, Φ, ρ, x, d, C, h, he => by
    obtain ⟨p, rfl⟩ := isD0_is h
    unfold evE at he
    cases he
    exact okE_plain (de_lock (.inl rfl) df_dnT) (fun _ => rfl)
  | .d1 k v, X, F, N, sc, fs, cs, Φ, ρ, x, d, C, h, he => by
    unfold isE at h
    split at h
    case h_2 => cases h
    rename_i l r hx
    obtain ⟨p, rfl⟩ := d1Of_is hx
    simp only [Bool.and_eq_true] at h
    unfold evE at he
    obtain ⟨u, e1, hq⟩ := obind he
    obtain ⟨w, e2, hq2⟩ := obind hq
    split at hq2
    case isFalse => cases hq2
    rename_i hk
    cases hq2
    exact okE_plain (de_lock (.inl rfl) (df_one C.room (soundE k C h.1 e1).1 (soundE v C h.2 e2).1 hk)) (fun _ => rfl)
  | .oix i b, X, F, N, sc, fs, cs, Φ, ρ, x, d, C, h, he => by
    unfold isE at h
    split at h
    case h_2 => cases h
    rename_i l r hx
    obtain ⟨p, rfl⟩ := subOf_is hx
    simp only [Bool.and_eq_true, Bool.not_eq_true'] at h
    obtain ⟨⟨h1, h2⟩, h3⟩ := h
    obtain ⟨y, p2, rfl, v1, v2, v3, v4⟩ := isV_ok C h1
    unfold evE at he
    obtain ⟨u, e1, hq⟩ := obind he
    clear he
    have he := hq
    clear hq
    split at he
    case h_2 => cases he
    rename_i xs hb
    obtain ⟨n, e2, hq⟩ := obind he
    clear he
    have he := hq
    clear hq
    have e3 := intq e2
    subst e3
    exact okE_plain (de_oix v1 v2 v3 v4 (soundE b C h2 e1).1 hb he (plainIx_of h3)) (fun _ => rfl)
  | .olen i, X, F, N, sc, fs, cs, Φ, ρ, x, d, C, h, he => by
    unfold isE at h
    split at h
    case h_2 => cases h
    rename_i g y hx
    obtain ⟨p, q, rfl⟩ := callN_is hx
    simp only [Bool.and_eq_true, decide_eq_true_eq] at h
    obtain ⟨⟨rfl, h1⟩, h2⟩ := h
    obtain ⟨y, p2, rfl, v1, v2, v3, v4⟩ := isV_ok C h2
    unfold evE at he
    split at he
    case h_2 => cases he
    rename_i xs hb
    cases he
    exact okE_plain (de_olen C (glB_is C.hsc h1) v1 v2 v3 v4 hb) (fun _ => rfl)
  | .oget i a b, X, F, N, sc, fs, cs, Φ, ρ, x, d, C, h, he => by
    unfold isE at h
    split at h
    case h_2 => cases h
    rename_i l n r t hx
    obtain ⟨ap, cp, rfl, hline⟩ := meth2Of_is hx
    simp only [Bool.and_eq_true, decide_eq_true_eq] at h
    obtain ⟨⟨⟨⟨⟨rfl, h1⟩, h2⟩, h3⟩, h4⟩, h5⟩ := h
    obtain ⟨y, p2, rfl, v1, v2, v3, v4⟩ := isV_ok C h1
    unfold evE at he
    obtain ⟨u, e1, hq⟩ := obind he
    obtain ⟨w, e2, hq2⟩ := obind hq
    obtain ⟨o, e3, rfl⟩ := omap hq2
    cases hb : ρ[i]? with
    | none => rw [hb] at e3; cases e3
    | some bb =>
      rw [hb] at e3
      exact okE_plain (de_oget C.room v1 v2 v3 v4 (soundE a C h2 e1).1 (soundE b C h4 e2).1 hb e3 h3 h5 hline) (fun _ => rfl)
  | .oin neg i a, X, F, N, sc, fs, cs, Φ, ρ, x, d, C, h, he => by
    unfold isE at h
    split at h
    case h_2 => cases h
    rename_i l o r hx
    obtain ⟨p, rfl⟩ := cmpOf_is hx
    simp only [Bool.and_eq_true, decide_eq_true_eq] at h
    obtain ⟨⟨rfl, h1⟩, h2⟩ := h
    obtain ⟨y, p2, rfl, v1, v2, v3, v4⟩ := isV_ok C h2
    unfold evE at he
    obtain ⟨u, e1, hq⟩ := obind he
    clear he
    have he := hq
    clear hq
    obtain ⟨b, e2, rfl⟩ := omap he
    have q := de_oin (neg := neg) (p := p2) (pos := p2) C v1 v2 v3 v4 (soundE (F := F) a C h1 e1).1 e2
    refine ⟨fun σ H H0 Q env k => tOf_of (pe_cmpR op_any pe_of (pe_var v1 v2 v3 v4) rfl) (q σ H H0 Q env k), fun b' eb => ?_⟩
    intro σ H H0 Q env k
    refine tOfT_of (pt_cmpR op_any pe_of (pe_var v1 v2 v3 v4) rfl) ?_
    refine q σ H H0 _ env fun v H' H0' p1 r1 => ?_
    rw [eb] at r1
    cases r1
    exact ⟨b', rfl, k _ _ p1⟩
theorem soundL : ∀ (es : Es) {X : Cx} {F : Fx} {N : List Str} {sc : Scope} {fs : Str → Bool} {cs : List (Str × Key)} {Φ : Tab} {ρ : Env} {xs : List Expr} {ds : List D}, Ctx X N sc fs cs Φ → isEs N cs es sc xs = true → evL Φ es ρ = some ds → DA X F xs ρ ds ∧ xs.all notStar = true
  | .nil, X, F, N, sc, fs, cs, Φ, ρ, [], ds, C, h, he => by
    cases he
    exact ⟨da_nil, rfl⟩
  | .nil, X, F, N, sc, fs, cs, Φ, ρ, _ :: _, ds, C, h, he => by cases h
  | .cons e es, X, F, N, sc, fs, cs, Φ, ρ, [], ds, C, h, he => by cases h
  | .cons e es, X, F, N, sc, fs, cs, Φ, ρ, x :: xs, ds, C, h, he => by
    unfold isEs at h
    simp only [Bool.and_eq_true] at h
    obtain ⟨⟨h1, h2⟩, h3⟩ := h
    unfold evL at he
    obtain ⟨u, e1, hq⟩ := obind he
    clear he
    have he := hq
    clear hq
    obtain ⟨us, e2, rfl⟩ := omap he
    have ih := soundL (F := F) es C h3 e2
    exact ⟨da_cons (soundE e C h1 e1).1 ih.1 (star_cons h2), by simp [h2, ih.2]⟩
theorem soundAnd : ∀ (es : Es) {X : Cx} {F : Fx} {N : List Str} {sc : Scope} {fs : Str → Bool} {cs : List (Str × Key)} {Φ : Tab} {ρ : Env} {y : Expr} {ys : List Expr} {b : Bool}, Ctx X N sc fs cs Φ → isEs N cs es sc (y :: ys) = true → evAnd Φ es ρ = some b → ∀ pos, DE X F (.BoolOp .And (y :: ys) pos) ρ (.bool b) ∧ DW X F (.BoolOp .And (y :: ys) pos) ρ b
  | .nil, X, F, N, sc, fs, cs, Φ, ρ, y, ys, b, C, h, he => by cases h
  | .cons e es, X, F, N, sc, fs, cs, Φ, ρ, y, ys, b, C, h, he => by
    intro pos
    unfold isEs at h
    simp only [Bool.and_eq_true] at h
    obtain ⟨⟨h1, h2⟩, h3⟩ := h
    unfold evAnd at he
    obtain ⟨u, e1, hq⟩ := obind he
    clear he
    have he := hq
    clear hq
    obtain ⟨k, e2, hq⟩ := obind he
    clear he
    have he := hq
    clear hq
    have e3 := boolq e2
    subst e3
    have ih := soundE (F := F) e C h1 e1
    cases ys with
    | nil =>
      have e4 : b = k := by
        cases es with
        | nil => cases k <;> (cases he; rfl)
        | cons _ _ => cases h3
      subst e4
      exact ⟨de_one ih.1, dw_and1 (ih.2 _ rfl)⟩
    | cons z zs =>
      have hr : k = true → DE X F (.BoolOp .And (z :: zs) pos) ρ (.bool b) ∧ DW X F (.BoolOp .And (z :: zs) pos) ρ b := fun ek => by
        subst ek
        rw [if_pos rfl] at he
        exact soundAnd es C h3 he pos
      have hf : k = false → b = false := fun ek => by
        subst ek
        rw [if_neg (by decide)] at he
        cases he; rfl
      exact ⟨de_and ih.1 (fun ek => (hr ek).1) hf, dw_and (ih.2 _ rfl) (fun ek => (hr ek).2) hf⟩
theorem soundOr : ∀ (es : Es) {X : Cx} {F : Fx} {N : List Str} {sc : Scope} {fs : Str → Bool} {cs : List (Str × Key)} {Φ : Tab} {ρ : Env} {y : Expr} {ys : List Expr} {b : Bool}, Ctx X N sc fs cs Φ → isEs N cs es sc (y :: ys) = true → evOr Φ es ρ = some b → ∀ pos, DE X F (.BoolOp .Or (y :: ys) pos) ρ (.bool b) ∧ DW X F (.BoolOp .Or (y :: ys) pos) ρ b
  | .nil, X, F, N, sc, fs, cs, Φ, ρ, y, ys, b, C, h, he => by cases h
  | .cons e es, X, F, N, sc, fs, cs, Φ, ρ, y, ys, b, C, h, he => by
    intro pos
    unfold isEs at h
    simp only [Bool.and_eq_true] at h
    obtain ⟨⟨h1, h2⟩, h3⟩ := h
    unfold evOr at he
    obtain ⟨u, e1, hq⟩ := obind he
    clear he
    have he := hq
    clear hq
    obtain ⟨k, e2, hq⟩ := obind he
    clear he
    have he := hq
    clear hq
    have e3 := boolq e2
    subst e3
    have ih := soundE (F := F) e C h1 e1
    cases ys with
    | nil =>
      have e4 : b = k := by
        cases es with
        | nil => cases k <;> (cases he; rfl)
        | cons _ _ => cases h3
      subst e4
      exact ⟨de_one ih.1, dw_or1 (ih.2 _ rfl)⟩
    | cons z zs =>
      have hr : k = false → DE X F (.BoolOp .Or (z :: zs) pos) ρ (.bool b) ∧ DW X F (.BoolOp .Or (z :: zs) pos) ρ b := fun ek => by
        subst ek
        rw [if_neg (by decide)] at he
        exact soundOr es C h3 he pos
      have hf : k = true → b = true := fun ek => by
        subst ek
        rw [if_pos rfl] at he
        cases he; rfl
      exact ⟨de_or ih.1 (fun ek => (hr ek).1) hf, dw_or (ih.2 _ rfl) (fun ek => (hr ek).2) hf⟩
theorem soundO : ∀ (o : Eo) {X : Cx} {F : Fx} {N : List Str} {sc : Scope} {fs : Str → Bool} {cs : List (Str × Key)} {Φ : Tab} {ρ : Env} {x : Option Expr} {r : Option Int}, Ctx X N sc fs cs Φ → isEo N cs o sc x = true → evO Φ o ρ = some r → DO X F x ρ r
  | .no, X, F, N, sc, fs, cs, Φ, ρ, none, r, C, h, he => by cases he; exact do_none
  | .no, X, F, N, sc, fs, cs, Φ, ρ, some _, r, C, h, he => by cases h
  | .so e, X, F, N, sc, fs, cs, Φ, ρ, none, r, C, h, he => by cases h
  | .so e, X, F, N, sc, fs, cs, Φ, ρ, some x, r, C, h, he => by
    unfold evO at he
    obtain ⟨u, e1, hq⟩ := obind he
    clear he
    have he := hq
    clear hq
    obtain ⟨i, e2, rfl⟩ := omap he
    have e3 := intq e2
    subst e3
    exact do_some (soundE e C h e1).1
theorem soundC : ∀ (o : Eo) {X : Cx} {F : Fx} {N : List Str} {sc : Scope} {fs : Str → Bool} {cs : List (Str × Key)} {Φ : Tab} {ρ : Env} {xs : List Expr} {b : Bool}, Ctx X N sc fs cs Φ → isC N cs o sc xs = true → evC Φ o ρ = some b → (xs = [] ∧ b = true) ∨ ∃ c, xs = [c] ∧ DT X F c ρ b
  | .no, X, F, N, sc, fs, cs, Φ, ρ, [], b, C, h, he => by cases he; exact .inl ⟨rfl, rfl⟩
  | .no, X, F, N, sc, fs, cs, Φ, ρ, _ :: _, b, C, h, he => by cases h
  | .so e, X, F, N, sc, fs, cs, Φ, ρ, [], b, C, h, he => by cases h
  | .so e, X, F, N, sc, fs, cs, Φ, ρ, [x], b, C, h, he => by
    unfold evC at he
    obtain ⟨u, e1, hq⟩ := obind he
    clear he
    have he := hq
    clear hq
    have e3 := boolq he
    subst e3
    exact .inr ⟨x, rfl, (soundE e C h e1).2 b rfl⟩
  | .so e, X, F, N, sc, fs, cs, Φ, ρ, _ :: _ :: _, b, C, h, he => by cases h
theorem soundI : ∀ (it : I) {X : Cx} {F : Fx} {N : List Str} {sc : Scope} {fs : Str → Bool} {cs : List (Str × Key)} {Φ : Tab} {ρ : Env} {tg x : Expr} {ds : List D}, Ctx X N sc fs cs Φ → isI N cs it sc tg x = true → evI Φ it ρ = some ds → DI X F tg x ρ ds
  | .e a, X, F, N, sc, fs, cs, Φ, ρ, tg, x, ds, C, h, he => by
    unfold evI at he
    obtain ⟨u, e1, hq⟩ := obind he
    clear he
    have he := hq
    clear hq
    have ih := (soundE (F := F) a C h e1).1
    unfold items? at he
    split at he
    · cases he; exact di_list ih
    · cases he; exact di_tup ih
    · split at he
      · cases he
      · rename_i hcl; cases he; exact di_dict hcl ih
    · split at he
      · rename_i hl; cases he; exact di_str ih hl
      · cases he
    · cases he
  | .r1 a, X, F, N, sc, fs, cs, Φ, ρ, tg, x, ds, C, h, he => by
    unfold isI at h
    split at h
    case h_2 => cases h
    rename_i g y hx
    obtain ⟨p, q, rfl⟩ := callN_is hx
    simp only [Bool.and_eq_true, decide_eq_true_eq] at h
    obtain ⟨⟨⟨rfl, h1⟩, h2⟩, h3⟩ := h
    unfold evI at he
    obtain ⟨u, e1, hq⟩ := obind he
    clear he
    have he := hq
    clear hq
    obtain ⟨n, e2, hq⟩ := obind he
    clear he
    have he := hq
    clear hq
    have e3 := intq e2
    subst e3
    split at he
    case isFalse => cases he
    rename_i hn
    cases he
    exact di_r1 C (glB_is C.hsc h1) (soundE a C h2 e1).1 h3 hn
  | .r2 a b, X, F, N, sc, fs, cs, Φ, ρ, tg, x, ds, C, h, he => by
    unfold isI at h
    split at h
    case h_2 => cases h
    rename_i g y z hx
    obtain ⟨p, q, rfl⟩ := callN_is hx
    simp only [Bool.and_eq_true, decide_eq_true_eq] at h
    obtain ⟨⟨⟨⟨⟨rfl, h1⟩, h2⟩, h3⟩, h4⟩, h5⟩ := h
    unfold evI at he
    obtain ⟨u, e1, hq⟩ := obind he
    clear he
    have he := hq
    clear hq
    obtain ⟨v, e2, hq⟩ := obind he
    clear he
    have he := hq
    clear hq
    obtain ⟨m, e3, hq⟩ := obind he
    clear he
    have he := hq
    clear hq
    obtain ⟨n, e4, hq⟩ := obind he
    clear he
    have he := hq
    clear hq
    have e5 := intq e3
    have e6 := intq e4
    subst e5 e6
    split at he
    case isFalse => cases he
    rename_i hn
    cases he
    exact di_r2 C (glB_is C.hsc h1) (soundE a C h2 e1).1 (soundE b C h4 e2).1 h3 h5 hn
  | .zip a b, X, F, N, sc, fs, cs, Φ, ρ, tg, x, ds, C, h, he => by
    unfold isI at h
    split at h
    case h_2 => cases h
    rename_i g y z hx
    obtain ⟨p, q, rfl⟩ := callN_is hx
    simp only [Bool.and_eq_true, decide_eq_true_eq] at h
    obtain ⟨⟨⟨⟨⟨⟨rfl, h1⟩, h2⟩, h3⟩, h4⟩, h5⟩, h6⟩ := h
    obtain ⟨es, h7⟩ := Option.isSome_iff_exists.mp h6
    obtain ⟨j, tp, rfl⟩ := tupOf_is h7
    unfold evI at he
    obtain ⟨u, e1, hq⟩ := obind he
    clear he
    have he := hq
    clear hq
    obtain ⟨v, e2, hq⟩ := obind he
    clear he
    have he := hq
    clear hq
    have i1 := (soundE (F := F) a C h2 e1).1
    have i2 := (soundE (F := F) b C h4 e2).1
    split at he
    · cases he; exact di_zipL C (glB_is C.hsc h1) i1 i2 h3 h5
    · cases he; exact di_zipT C (glB_is C.hsc h1) i1 i2 h3 h5
    · cases he; exact di_zipM C (glB_is C.hsc h1) i1 i2 h3 h5
    · cases he
  | .enum a, X, F, N, sc, fs, cs, Φ, ρ, tg, x, ds, C, h, he => by
    unfold isI at h
    split at h
    case h_2 => cases h
    rename_i g y hx
    obtain ⟨p, q, rfl⟩ := callN_is hx
    simp only [Bool.and_eq_true, decide_eq_true_eq] at h
    obtain ⟨⟨⟨⟨rfl, h1⟩, h2⟩, h3⟩, h4⟩ := h
    obtain ⟨es, h5⟩ := Option.isSome_iff_exists.mp h4
    obtain ⟨j, tp, rfl⟩ := tupOf_is h5
    unfold evI at he
    obtain ⟨u, e1, hq⟩ := obind he
    have i1 := (soundE (F := F) a C h2 e1).1
    split at hq
    · cases hq; exact di_enumL C (glB_is C.hsc h1) i1 h3
    · cases hq; exact di_enumT C (glB_is C.hsc h1) i1 h3
    · cases hq
end
end OL

end
section
set_option Elab.async false
set_option linter.all false
set_option maxRecDepth 100000
set_option maxHeartbeats 8000000
namespace OL
open PySem PySem.Spec PyProof.Rows L2 RZ

/-! ### [f, g, ..][i](..) -/
section
variable {X : Cx} {F : Fx} {ρ : Env} {N : List Str} {sc : Scope} {fs : Str → Bool} {cs : List (Str × Key)} {Φ : Tab}
def tCallF (f : Addr) (sp : Sp) (E : L2.St → XK) (tf : TE) (t : TA) : TE := fun σ H Q => tf σ H fun y H1 => y = V.ref f ∧ t σ H1 fun vs H2 => sp vs H2 Q (E σ)
theorem pe_callF {CC : CXT} {k : Nat} {f : Addr} {fd : FuncData} {ps : List Str} {sp : Sp} {E : L2.St → XK} {fe e : Expr} {es : List Expr} {tf : TE} {t : TA} {pos : Pos} (hf : PE X fe tf) (G : FnOk X.prog X.w X.K X.mg X.base CC k f fd ps sp) (hr : Room k X.A) (hk : PySem.W.keepIn X.K (.ref f) = true) (hb : Binds X.K fd ps []) (hx : ∀ σ, PassesAt CC X σ (E σ)) (ha : PA X (e :: es) t)
    (ht : eval (.Call fe (e :: es) [] pos) X.env = (do callWith pos (← eval fe X.env) [] (backTo pos (starEach (e :: es) X.env)) (backToKw pos (keywordEach [] X.env)))) (he : starEach (e :: es) X.env = (false, eval e X.env) :: starEach es X.env) (hpl : (backTo pos (starEach es X.env)).any (·.1) = false) :
    PE X (.Call fe (e :: es) [] pos) (tCallF f sp E tf t) := by
  refine ⟨fun pins s σ H Q I h => ?_⟩
  refine Call_ (thn (hf.run pins s σ H _ I h) fun u s1 ⟨y, H1, I1, ry, ey, q⟩ => ?_) ht
  subst ey
  obtain rfl : u = Value.ref f := ry
  exact PySem.W.callWith_K (h₀ := X.base) I.ok.mod.kin hk (thn (ha.run pos pins s1 σ H1 _ I1 q) fun us s2 ⟨vs, H2, I2, r, q2⟩ => ⟨I2.kIn, run_fnS G hr hb (hx σ) I2 r q2⟩) he hpl
def isFs (sc : Scope) : List Str → List Expr → Bool
  | [], [] => true
  | f :: r, x :: xs => (match nameOf x with
    | some y => decide (y = f) && glB sc f && nmB f
    | none => false) && isFs sc r xs
  | _, _ => false
theorem da_fns (C : Ctx X N sc fs cs Φ) : ∀ (l : List Str) (xs : List Expr), isFs sc l xs = true → (l.all fun f => (Φ f).isSome) = true → ∃ as : List Addr, as.length = l.length ∧ (∀ (j : Nat) (f : Str), l[j]? = some f → ∃ a, as[j]? = some a ∧ X.mg f = some (.ref a)) ∧ ∀ (σ : L2.St) (H : Hp) (Q : List V → Hp → Prop), Q (as.map V.ref) H → tOfA X xs σ H Q
  | [], [], _, _ => ⟨[], rfl, fun j f h => by simp at h, fun σ H Q q => tOfA_of pa_nil q⟩
  | [], _ :: _, h, _ => by cases h
  | _ :: _, [], h, _ => by cases h
  | f :: l, x :: xs, h, hp => by
    unfold isFs at h
    simp only [Bool.and_eq_true] at h
    obtain ⟨h1, h2⟩ := h
    simp only [List.all_cons, Bool.and_eq_true] at hp
    obtain ⟨as, e1, e2, e3⟩ := da_fns C l xs h2 hp.2
    split at h1
    case h_2 => cases h1
    rename_i y hy
    obtain ⟨p, rfl⟩ := nameOf_is hy
    simp only [Bool.and_eq_true, decide_eq_true_eq] at h1
    obtain ⟨⟨rfl, g1⟩, g2⟩ := h1
    obtain ⟨G, hG⟩ := Option.isSome_iff_exists.mp hp.1
    obtain ⟨a, fd, ps, n, hF, hr, hm, hk, hb⟩ := C.fns _ G hG
    refine ⟨a :: as, by simp [e1], fun j g hj => ?_, fun σ H Q q => ?_⟩
    · cases j with
      | zero => simp at hj; subst hj; exact ⟨a, rfl, hm⟩
      | succ j => simpa using e2 j g (by simpa using hj)
    · refine tOfA_of (pa_cons (pe_glob (v := V.ref a) (glB_is C.hsc g1) hm rfl (nmB_is g2).1) pa_of rfl) ?_
      exact e3 σ H _ q
theorem ds_callX (C : Ctx X N sc (fun _ => true) cs Φ) {l : List Str} {f : Str} {G : Fn} {xs : List Expr} {ie e : Expr} {es : List Expr} {n : Int} {ds : List D} {r : Except Str D} {lp sp pos spos : Pos} (hl : isFs sc l xs = true) (hlen : l.length ≤ 1000) (hall : (l.all fun f => (Φ f).isSome) = true) (hix : DE X F ie ρ (.int n)) (hpx : PlainIx ie)
    (hn : L2.atI l n = some f) (hG : Φ f = some G) (ha : DA X F (e :: es) ρ ds) (hs : (e :: es).all notStar = true) (h : G ds = some r) :
    DS X F (.Expr (.Call (.Subscript (.List xs lp) ie sp) (e :: es) [] pos) spos) ρ (match r with | .ok _ => .nx ρ | .error x => .ex x) := by
  intro σ H H0 D W tk env k
  obtain ⟨a, fd, ps, m, hF, hr, hm, hk, hb⟩ := C.fns f G hG
  obtain ⟨as, e1, e2, e3⟩ := da_fns C l xs hl hall
  simp only [List.all_cons, Bool.and_eq_true] at hs
  refine tOfS_of (ps_expr (pe_callF (E := WE (WXof X W)) (pe_ix ix_list (pe_lst pa_of) pe_of hpx) hF hr hk hb (fun σ => passAt tk σ) pa_of rfl (star_cons hs.1) (star_any hs.2)) rfl) ?_
  refine e3 σ H _ ⟨by rw [List.length_map, e1, ← sz]; omega, fun p np => ?_⟩
  have pp := Post.own env.s (o := .lst (as.map V.ref)) np
  refine hix σ _ H0 _ (env.post pp) fun v H2 H02 p2 r2 => ?_
  cases r2
  have hat : L2.atI (as.map V.ref) n = some (V.ref a) := by
    unfold L2.atI at hn ⊢
    rw [List.length_map, e1]
    cases hj : ixN l.length n with
    | none => rw [hj] at hn; cases hn
    | some j =>
      rw [hj] at hn
      obtain ⟨a', q1, q2⟩ := e2 j f hn
      rw [hm] at q2
      cases q2
      show (as.map V.ref)[j]? = _
      rw [List.getElem?_map, q1]; rfl
  refine ⟨p, _, n, V.ref a, rfl, rfl, SqL.of (p2.b.at upd_same), hat, rfl, ?_⟩
  refine ha σ H2 H02 _ ((env.post pp).post p2) fun vs H3 H03 p3 r3 => ?_
  refine ⟨H03, ds, p3.c, r3, ?_⟩
  rw [h]
  have env3 := ((env.post pp).post p2).post p3
  cases r with
  | ok d => exact fun v H' H0' p4 _ => k σ H' H0' (env3.post p4)
  | error x => exact fun C' H' H0' hx p4 => ⟨x, C', rfl, rfl, hx, k σ H' H0' ρ (env3.post p4)⟩
end
end OL

end
section
set_option Elab.async false
set_option linter.all false
set_option maxRecDepth 100000
set_option maxHeartbeats 8000000
namespace OL
open PySem PySem.Spec PyProof.Rows L2 RZ

abbrev allT : Str → Bool := fun _ => true
/-! ### statements of the text -/
def asgOf : Stmt → Option (Expr × Expr)
  | .Assign [t] e _ => some (t, e)
  | _ => none
theorem asgOf_is {x : Stmt} {t e : Expr} (h : asgOf x = some (t, e)) : ∃ p, x = .Assign [t] e p := by
  cases x with
  | Assign ts v p =>
    match ts, h with
    | [t'], h => cases h; exact ⟨_, rfl⟩
    | [], h => cases h
    | _ :: _ :: _, h => cases h
  | _ => cases h
def retOf : Stmt → Option Expr
  | .Return (some e) _ => some e
  | _ => none
theorem retOf_is {x : Stmt} {e : Expr} (h : retOf x = some e) : ∃ p, x = .Return (some e) p := by
  cases x with
  | Return v p => cases v with
    | none => cases h
    | some _ => cases h; exact ⟨_, rfl⟩
  | _ => cases h
def exprOf : Stmt → Option Expr
  | .Expr e _ => some e
  | _ => none
theorem exprOf_is {x : Stmt} {e : Expr} (h : exprOf x = some e) : ∃ p, x = .Expr e p := by
  cases x <;> first | (cases h; done) | (cases h; exact ⟨_, rfl⟩)
def ifSOf : Stmt → Option (Expr × List Stmt × List Stmt)
  | .If c a b _ => some (c, a, b)
  | _ => none
theorem ifSOf_is {x : Stmt} {c : Expr} {a b : List Stmt} (h : ifSOf x = some (c, a, b)) : ∃ p, x = .If c a b p := by
  cases x <;> first | (cases h; done) | (cases h; exact ⟨_, rfl⟩)
def forOf : Stmt → Option (Expr × Expr × List Stmt)
  | .For t i b [] _ => some (t, i, b)
  | _ => none
theorem forOf_is {x : Stmt} {t i : Expr} {b : List Stmt} (h : forOf x = some (t, i, b)) : ∃ p, x = .For t i b [] p := by
  cases x with
  | For t i b o p => cases o with
    | nil => cases h; exact ⟨_, rfl⟩
    | cons _ _ => cases h
  | _ => cases h
def whlOf : Stmt → Option (Expr × List Stmt)
  | .While c b [] _ => some (c, b)
  | _ => none
theorem whlOf_is {x : Stmt} {c : Expr} {b : List Stmt} (h : whlOf x = some (c, b)) : ∃ p, x = .While c b [] p := by
  cases x with
  | While c b o p => cases o with
    | nil => cases h; exact ⟨_, rfl⟩
    | cons _ _ => cases h
  | _ => cases h
def isBrk : Stmt → Bool
  | .Break _ => true
  | _ => false
theorem isBrk_is {x : Stmt} (h : isBrk x = true) : ∃ p, x = .Break p := by
  cases x <;> first | (cases h; done) | exact ⟨_, rfl⟩
def raiseOf : Stmt → Option Expr
  | .Raise (some e) none _ => some e
  | _ => none
theorem raiseOf_is {x : Stmt} {e : Expr} (h : raiseOf x = some e) : ∃ p, x = .Raise (some e) none p := by
  cases x with
  | Raise v c p => cases v with
    | none => cases h
    | some _ => cases c with
      | none => cases h; exact ⟨_, rfl⟩
      | some _ => cases h
  | _ => cases h
def strOf (x : Expr) : Option Str := match cOf x with
  | some (.str s) => some s
  | _ => none
theorem strOf_is {x : Expr} {s : Str} (h : strOf x = some s) : ∃ j p, x = .Constant (.str s) j p := by
  unfold strOf at h
  split at h
  · rename_i z hz
    cases h
    exact cOf_is hz
  · cases h
/-- o.m(e): its parts, and that it stands on one line -/
def meth1 : Expr → Option (Expr × Str × Expr × Bool)
  | .Call (.Attribute o m ap) [e] [] cp => some (o, m, e, ap.endLine == cp.line)
  | _ => none
def nameP : Expr → Option (Str × Pos)
  | .Name x p => some (x, p)
  | _ => none
theorem nameP_is {x : Expr} {y : Str} {p : Pos} (h : nameP x = some (y, p)) : x = .Name y p := by
  cases x <;> first | (cases h; done) | (cases h; rfl)
/-- the object of a method call with one argument -/
def methOf (x : Expr) : Option (Expr × Str × Expr) := (callP x).bind fun c => match c with
  | (f, [e], cp) => (attrOf f).bind fun a => if (a.2.2.endLine == cp.line) = true then some (a.1, a.2.1, e) else none
  | _ => none
theorem methOf_is {x o e : Expr} {m : Str} (h : methOf x = some (o, m, e)) : ∃ ap cp, x = .Call (.Attribute o m ap) [e] [] cp ∧ (ap.endLine == cp.line) = true := by
  unfold methOf at h
  obtain ⟨⟨f, as, cp⟩, h1, hq⟩ := obind h
  clear h
  have h1' := callP_is h1
  subst h1'
  split at hq
  · rename_i g e' cp' heq
    cases heq
    obtain ⟨⟨o', m', ap⟩, h2, hr⟩ := obind hq
    clear hq
    have h2' := attrOf_is h2
    subst h2'
    split at hr
    · rename_i hl
      cases hr
      exact ⟨ap, _, rfl, hl⟩
    · cases hr
  · cases hq

/-! ### an except clause's suite -/
def isIs (sc : Scope) (exs : List Str) (n : Str) : List Str → List Expr → Bool
  | [], [] => true
  | c :: r, x :: xs => (match callN x with
    | some (g, [y, z]) => decide (g = "isinstance") && glB sc "isinstance" && decide (nameOf y = some n) && decide (nameOf z = some c) && decide (c ∈ exs) && glB sc c && nmB c
    | _ => false) && isIs sc exs n r xs
  | _, _ => false
def isHE (N : List Str) (sc : Scope) (exs : List Str) (n : Str) : HE → Expr → Bool
  | .d cl, x => (match lstOf x with
    | some xs => isIs sc exs n cl xs
    | none => false)
  | .v k, x => isV N sc k x
  | .a p q, x => (match binOf x with
    | some (l, o, r) => decide (o = .Add) && isHE N sc exs n p l && isHE N sc exs n q r
    | none => false)
def isTru (y : Expr) : Bool := match cOf y with
  | some (.bool b) => b
  | _ => false
theorem isTru_is {y : Expr} (h : isTru y = true) : ∃ j p, y = .Constant (.bool true) j p := by
  unfold isTru at h
  split at h
  · rename_i b hb
    subst h
    exact cOf_is hb
  · cases h
def isHd (N : List Str) (sc : Scope) (exs : List Str) (i : Nat) (n : Str) (last : HE) : List (Nat × HE) → List Stmt → Bool
  | [], [st] => (match retOf st with
    | some x => (match meth1Of x with
      | some (o, m, y) => decide (m = "index") && isHE N sc exs n last o && noC0 o && isTru y
      | none => false)
    | none => false)
  | (k, he) :: r, st :: sts => (match asgOf st with
    | some (t, x) => (match nameOf t with
      | some y => decide (N[k]? = some y) && locB sc allT y && isHE N sc exs n he x && !isComp x && decide (k ≠ i)
      | none => false)
    | none => false) && isHd N sc exs i n last r sts
  | _, _ => false
structure HX (X : Cx) (N : List Str) (sc : Scope) (exs : List Str) (i : Nat) (n : Str) (Dd : Addr) (y : Str) : Prop where
  hN : X.N = N
  nd : N.Nodup
  hsc : X.env.scope = sc
  hfs : X.fn = allT
  hi : N[i]? = some n
  vis : Vis X.env.scope n
  n1 : (n == ("__debug__" : Str)) = false
  n2 : (n == ("__classdict__" : Str)) = false
  room : X.A.units + 70 < cLine
  ism : X.mg "isinstance" = none
  ec : ExcC X.K Dd
  kit : ∀ c ∈ exs, ∃ Cc, X.mg c = some (.ref Cc) ∧ PySem.W.kitOne X.K (.ref Dd) (.ref Cc) = some (decide (c = y) || decide (c = "LeagueError"))
section
variable {X : Cx} {F : Fx} {ρ : Env} {N : List Str} {sc : Scope} {exs : List Str} {i : Nat} {n y : Str} {Dd a : Addr} {oe : Obj} {pn : List (Addr × Obj)}
theorem de_ise (h : HX X N sc exs i n Dd y) (hz : Zc (.ref Dd) none oe) (hf : ∃ vs, oe.data = .fields vs) (her : ρ[i]? = some (.er a)) {c : Str} {p p2 p3 pos : Pos} (hg : Gl X "isinstance") (hc : c ∈ exs) (hgc : Gl X c) (c1 : (c == ("__debug__" : Str)) = false) :
    DE (X.suite a ((a, oe) :: pn)) F (.Call (.Name "isinstance" p) [.Name n p2, .Name c p3] [] pos) ρ (.bool (decide (c = y) || decide (c = "LeagueError"))) := by
  intro σ H H0 Q env k
  obtain ⟨Cc, hm, hk⟩ := h.kit c hc
  have hN : (X.suite a ((a, oe) :: pn)).N[i]? = some n := by
    show X.N[i]? = _
    rw [h.hN]; exact h.hi
  refine tOf_of (pe_callB (X := X.suite a ((a, oe) :: pn)) (call_isE (X := X) h.ec hz hf) hg h.ism boot_isinstance (pa_cons (pe_var hN h.vis h.n1 h.n2) (pa_cons (pe_glob (v := V.ref Cc) hgc hm rfl c1) pa_nil rfl) rfl) (by decide) (by decide) rfl rfl) ?_
  exact ⟨V.ref a, env.getEr her, V.ref Cc, .ref Cc, _, rfl, fun u hu => hu, hk, k.same env.s (.bl _)⟩
theorem da_is (h : HX X N sc exs i n Dd y) (hz : Zc (.ref Dd) none oe) (hf : ∃ vs, oe.data = .fields vs) (her : ρ[i]? = some (.er a)) : ∀ (cl : List Str) (xs : List Expr), isIs sc exs n cl xs = true → DA (X.suite a ((a, oe) :: pn)) F xs ρ (cl.map fun c => .bool (decide (c = y) || decide (c = "LeagueError")))
  | [], [], _ => da_nil
  | [], _ :: _, q => by cases q
  | _ :: _, [], q => by cases q
  | c :: cl, x :: xs, q => by
    unfold isIs at q
    simp only [Bool.and_eq_true] at q
    obtain ⟨q1, q2⟩ := q
    split at q1
    case h_2 => cases q1
    rename_i g u v hx
    obtain ⟨p, pos, rfl⟩ := callN_is hx
    simp only [Bool.and_eq_true, decide_eq_true_eq] at q1
    obtain ⟨⟨⟨⟨⟨⟨rfl, g1⟩, g2⟩, g3⟩, g4⟩, g5⟩, g6⟩ := q1
    obtain ⟨p2, rfl⟩ := nameOf_is g2
    obtain ⟨p3, rfl⟩ := nameOf_is g3
    exact da_cons (de_ise h hz hf her (glB_is h.hsc g1) g4 (glB_is h.hsc g5) (nmB_is g6).1) (da_is h hz hf her cl xs q2) rfl
theorem he_ok (h : HX X N sc exs i n Dd y) (hz : Zc (.ref Dd) none oe) (hf : ∃ vs, oe.data = .fields vs) (her : ρ[i]? = some (.er a)) {ρm : List (Nat × List Bool)} (hm : ∀ k bs, ρm.lookup k = some bs → ρ[k]? = some (.sh (.list (bs.map PyData.bool)))) :
    ∀ (he : HE) {x : Expr} {bs : List Bool}, isHE N sc exs n he x = true → heV y ρm he = some bs → DE (X.suite a ((a, oe) :: pn)) F x ρ (.list (bs.map PyData.bool))
  | .d cl, x, bs, q, e => by
    unfold isHE at q
    split at q
    case h_2 => cases q
    rename_i xs hx
    obtain ⟨p, rfl⟩ := lstOf_is hx
    unfold heV at e
    split at e
    case isFalse => cases e
    rename_i hl
    cases e
    intro σ H H0 Q env k
    refine tOf_of (pe_lst pa_of) ?_
    refine da_is h hz hf her cl xs q σ H H0 _ env fun vs H1 H01 p1 r1 => ?_
    refine ⟨by rw [r1.length, ← sz, List.length_map]; omega, fun p np => (k.after p1).lst p1.c np ?_⟩
    rw [List.map_map]
    exact r1
  | .v k, x, bs, q, e => by
    unfold isHE isV at q
    split at q
    case h_2 => cases q
    rename_i z hz'
    obtain ⟨p, rfl⟩ := nameOf_is hz'
    simp only [Bool.and_eq_true, decide_eq_true_eq] at q
    obtain ⟨n1, n2⟩ := nmB_is q.2
    refine de_var (X := X.suite a ((a, oe) :: pn)) (i := k) (by show X.N[k]? = _; rw [h.hN]; exact q.1.1) (by show Vis X.env.scope _; rw [h.hsc]; exact visB_is q.1.2) n1 n2 ?_
    unfold getB
    rw [hm k bs e]
  | .a l r, x, bs, q, e => by
    unfold isHE at q
    split at q
    case h_2 => cases q
    rename_i u o v hx
    obtain ⟨p, rfl⟩ := binOf_is hx
    simp only [Bool.and_eq_true, decide_eq_true_eq] at q
    obtain ⟨⟨rfl, q1⟩, q2⟩ := q
    unfold heV at e
    obtain ⟨b1, e1, e⟩ := obind e
    obtain ⟨b2, e2, e⟩ := obind e
    split at e
    case isFalse => cases e
    rename_i hl
    cases e
    refine de_bin (he_ok h hz hf her hm l q1 e1) (he_ok h hz hf her hm r q2 e2) ?_
    simp only [binD]
    rw [if_pos (by simp only [List.length_map]; omega), List.map_append]
theorem hd_ok (h : HX X N sc exs i n Dd y) (hz : Zc (.ref Dd) none oe) (hf : ∃ vs, oe.data = .fields vs) {last : HE} : ∀ (sets : List (Nat × HE)) (sts : List Stmt) {ρ : Env} {ρm : List (Nat × List Bool)} {d : D}, isHd N sc exs i n last sets sts = true → hdV y last sets ρm = some d → ρ[i]? = some (.er a) →
    ρ.length = N.length → (∀ k bs, ρm.lookup k = some bs → ρ[k]? = some (.sh (.list (bs.map PyData.bool)))) → DSs (X.suite a ((a, oe) :: pn)) F sts ρ (.rt d)
  | [], [], ρ, ρm, d, q, _, _, _, _ => by cases q
  | [], _ :: _ :: _, ρ, ρm, d, q, _, _, _, _ => by cases q
  | _ :: _, [], ρ, ρm, d, q, _, _, _, _ => by cases q
  | [], [st], ρ, ρm, d, q, e, her, hl, hm => by
    unfold isHd at q
    split at q
    case h_2 => cases q
    rename_i x hx
    obtain ⟨p, rfl⟩ := retOf_is hx
    split at q
    case h_2 => cases q
    rename_i o m u hu
    obtain ⟨ap, cp, rfl, hline⟩ := meth1Of_is hu
    simp only [Bool.and_eq_true, decide_eq_true_eq] at q
    obtain ⟨⟨⟨rfl, q1⟩, q2⟩, q3⟩ := q
    obtain ⟨j, p2, rfl⟩ := isTru_is q3
    unfold hdV at e
    obtain ⟨bs, e1, e⟩ := obind e
    split at e
    case isFalse => cases e
    rename_i hs
    obtain ⟨jj, e2, rfl⟩ := omap e
    have hj : ((bs.map PyData.bool).findIdx? fun z => PyData.eqv z (.bool true)) = some jj := by
      rw [List.findIdx?_map]
      rw [← e2]
      congr 1
      funext b
      cases b <;> rfl
    refine dss_cons (ds_ret (de_index (X := X.suite a ((a, oe) :: pn)) h.room (he_ok h hz hf her hm last q1 e1) de_bl hj rfl hs rfl hline (base_no q2))) (fun ρ1 e => by cases e) (fun _ => rfl)
  | (k, he) :: r, st :: sts, ρ, ρm, d, q, e, her, hl, hm => by
    unfold isHd at q
    simp only [Bool.and_eq_true] at q
    obtain ⟨q, qr⟩ := q
    split at q
    case h_2 => cases q
    rename_i t x hx
    obtain ⟨p, rfl⟩ := asgOf_is hx
    split at q
    case h_2 => cases q
    rename_i z hz'
    obtain ⟨p2, rfl⟩ := nameOf_is hz'
    simp only [Bool.and_eq_true, decide_eq_true_eq, Bool.not_eq_true'] at q
    obtain ⟨⟨⟨⟨q1, q2⟩, q3⟩, q4⟩, q5⟩ := q
    unfold hdV at e
    obtain ⟨bs, e1, e⟩ := obind e
    obtain ⟨l1, l2⟩ := locB_ok h.hsc h.hfs q2
    have hk : k < ρ.length := by rw [hl]; exact (List.getElem?_eq_some_iff.mp q1).1
    refine dss_cons (ds_set (X := X.suite a ((a, oe) :: pn)) (i := k) (by show X.N.Nodup; rw [h.hN]; exact h.nd) (by show X.N[k]? = _; rw [h.hN]; exact q1) l1 l2 (he_ok h hz hf her hm he q3 e1) (swaps_no' q4)) (fun ρ1 e0 => ?_) (fun hn => absurd rfl (hn _))
    cases e0
    refine hd_ok h hz hf r sts qr e ?_ (by simpa using hl) fun k' bs' hb => ?_
    · rw [List.getElem?_set_ne q5]; exact her
    · rw [List.lookup_cons] at hb
      by_cases ek : k' = k
      · subst ek
        simp at hb
        subst hb
        rw [List.getElem?_set_self hk]
      · have e2 : (k' == k) = false := by simpa using ek
        rw [e2] at hb
        rw [List.getElem?_set_ne (Ne.symm ek)]
        exact hm k' bs' hb
end
end OL

end
section
set_option Elab.async false
set_option linter.all false
set_option maxRecDepth 100000
set_option maxHeartbeats 8000000
/-! the def that names an error's class, called in an except suite -/
namespace OL
open PySem PySem.Spec PyProof.Rows L2 RZ

/-! ### list.count of data -/
def rCountD (K : PySem.W.Frag) : V → List V → Hp → VK → Prop := fun x xs H Q => ∃ (a : Addr) (y : V) (d : PyData) (ds : List PyData), x = V.ref a ∧ xs = [y] ∧ Dp K H (V.ref a) (.list ds) ∧ Dp K H y d ∧ SeqAt.shaped (.list ds) = true ∧ SeqAt.shaped d = true ∧ Q (.int (ds.countP fun z => PyData.eqv z d : Nat)) H
theorem mt_countD {X : Cx} (hu : X.A.units + 65 < cLine) : MtR X "list.count" (rCountD X.K) := by
  intro pins s σ H x xs v us Q I rx rxs h
  obtain ⟨a, y, d, ds, rfl, rfl, hl, hy, sl, sd, q⟩ := h
  cases rx
  cases rxs with
  | cons ry rt =>
    rename_i uy ut
    cases rt
    obtain ⟨bs, r1⟩ := Dp.reads I d y uy hy ry
    have hxs : PyData.canLayAll0 ds = true := SeqAt.canLay_of_shaped sl
    cases hl with
    | lst hs ha =>
      obtain ⟨its, rv, ⟨⟨cls, dd, data, sls⟩, n, ho, hc, hdn, hdt⟩, hlen⟩ := I.list hs
      simp only at hc hdt
      subst hc hdt
      obtain ⟨as, h4⟩ := Dp.readsAll I ds _ its ha rv
      have hmap : its.map (SeqAt.readOf s.heap) = ds := SeqAt.readsAll_map ds its as hxs h4
      refine call_meets PySem.F.slot_list_count ⟨_, ho, rfl⟩ PySem.F.entry_list_count (PySem.F.args_list_count_2 _ _)
        (SeqAt.list_countAt a its.toArray n dd sls uy fun u => PyData.eqv (SeqAt.readOf s.heap u) d) ⟨ho, SeqAt.items_eqAt (vs := its.toArray) (show ReadsAll s.heap its.toArray.toList ds as from h4) r1 hxs (SeqAt.canLay_of_shaped sd) (room_in_shaped sd hu), ?_⟩
      refine ⟨.int (ds.countP fun z => PyData.eqv z d : Nat), H, I.tok _, ⟨s.toks, ?_⟩, q⟩
      show Value.int ((its.toArray.toList.countP fun u => PyData.eqv (SeqAt.readOf s.heap u) d : Nat) : Int) s.toks = _
      rw [← hmap, List.countP_map]; rfl
theorem de_countD {X : Cx} {F : Fx} {ρ : Env} (hu : X.A.units + 70 < cLine) {oe e : Expr} {xs : List D} {d : D} {ap cp : Pos} (ho : DE X F oe ρ (.list xs)) (he : DE X F e ρ d) (sd : shp d = true) (sl : shp (.list xs) = true) (hs : notStar e = true) (hline : (ap.endLine == cp.line) = true)
    (hab : attributeBase oe "count" X.env (eval oe X.env) = eval oe X.env) : DE X F (.Call (.Attribute oe "count" ap) [e] [] cp) ρ (.int (xs.countP fun z => PyData.eqv z d : Nat)) := by
  intro σ H H0 Q env k
  refine tOf_of (pe_bm PySem.F.plainAttrs_list PySem.F.slot_list_count PySem.F.type_list_count (mt_countD (by omega)) pe_of (pa_cons pe_of pa_nil (star_cons hs)) hab (few1 hs) hline (star_cons hs) rfl) ?_
  refine ho σ H H0 _ env fun v H1 H01 p1 r1 => ?_
  cases r1 with | @lst a0 vs _ g r =>
  refine ⟨.inl ⟨rfl, _, p1.c.seq g⟩, ?_⟩
  refine he σ H1 H01 _ (env.post p1) fun y H2 H02 p2 r2 => ?_
  have rl : RD X.K H02 (.ref a0) (.list xs) := .lst (p2.a.seq g) (r.mono p2.a)
  exact ⟨_, y, d, xs, rfl, rfl, rl.dpIn p2.c sl, r2.dpIn p2.c sd, sl, sd, (k.after (p1.trans p2)).same p2.c (.int _)⟩
/-! ### an error that the context bears -/
section
variable {X : Cx} {F : Fx} {ρ : Env} {N : List Str} {sc : Scope} {exs : List Str} {i : Nat} {n y : Str} {Dd a : Addr} {oe : Obj}
theorem call_isP (hp : (a, oe) ∈ X.pn) (C : ExcC X.K Dd) (hz : Zc (.ref Dd) none oe) (hf : ∃ vs, oe.data = .fields vs) : CallR X (.builtin "isinstance") (rIsE X.K Dd a) := by
  intro pins s σ H xs us Q I r h
  obtain ⟨c, cv, b, rfl, hcv, e, q⟩ := h
  cases r with
  | cons rx rr => cases rr with
    | cons rt rr =>
      cases rr; cases rx
      have ec := hcv _ rt
      subst ec
      obtain ⟨hget, _⟩ := I.pin (a, oe) (List.mem_append.mpr (.inl hp))
      obtain ⟨vs, hv⟩ := hf
      have J : PySem.W.InstAt s.heap a oe Dd none := by
        obtain ⟨oc, od, oda, osl⟩ := oe
        obtain ⟨g1, g2⟩ := hz
        dsimp only at g1 g2 hv
        subst g1 g2 hv
        exact ⟨hget, rfl, rfl, trivial⟩
      exact PySem.W.kia_one (PySem.W.handS_kitx_exc C.hg C.hk C.hs C.hd C.ha C.hn C.ht C.hm) I.kIn J e (fun z => nomatch z) fun tk => ⟨.bl b, H, I.kept (t' := tk) fun _ _ z => z, rfl, q⟩
/-- what is known where the class is named -/
structure CX0 (X : Cx) (N : List Str) (sc : Scope) (exs : List Str) (i : Nat) (n : Str) (Dd : Addr) (y : Str) : Prop where
  h : HX X N sc exs i n Dd y
  ve : X.mg "ValueError" = none
  kv : PySem.W.kitOne X.K (.ref Dd) (.type "ValueError") = some true
theorem de_isQ (h : HX X N sc exs i n Dd y) (hp : (a, oe) ∈ X.pn) (hz : Zc (.ref Dd) none oe) (hf : ∃ vs, oe.data = .fields vs) (her : ρ[i]? = some (.er a)) {c : Str} {p p2 p3 pos : Pos} (hg : Gl X "isinstance") (hc : c ∈ exs) (hgc : Gl X c) (c1 : (c == ("__debug__" : Str)) = false) :
    DE X F (.Call (.Name "isinstance" p) [.Name n p2, .Name c p3] [] pos) ρ (.bool (decide (c = y) || decide (c = "LeagueError"))) := by
  intro σ H H0 Q env k
  obtain ⟨Cc, hm, hk⟩ := h.kit c hc
  refine tOf_of (pe_callB (call_isP hp h.ec hz hf) hg h.ism boot_isinstance (pa_cons (pe_var (by rw [h.hN]; exact h.hi) h.vis h.n1 h.n2) (pa_cons (pe_glob (v := V.ref Cc) hgc hm rfl c1) pa_nil rfl) rfl) (by decide) (by decide) rfl rfl) ?_
  exact ⟨V.ref a, env.getEr her, V.ref Cc, .ref Cc, _, rfl, fun u hu => hu, hk, k.same env.s (.bl _)⟩
theorem de_isV (h : CX0 X N sc exs i n Dd y) (hp : (a, oe) ∈ X.pn) (hz : Zc (.ref Dd) none oe) (hf : ∃ vs, oe.data = .fields vs) (her : ρ[i]? = some (.er a)) {p p2 p3 pos : Pos} (hg : Gl X "isinstance") (hgc : Gl X "ValueError") :
    DE X F (.Call (.Name "isinstance" p) [.Name n p2, .Name "ValueError" p3] [] pos) ρ (.bool true) := by
  intro σ H H0 Q env k
  refine tOf_of (pe_callB (call_isP hp h.h.ec hz hf) hg h.h.ism boot_isinstance (pa_cons (pe_var (by rw [h.h.hN]; exact h.h.hi) h.h.vis h.h.n1 h.h.n2) (pa_cons (pe_bltn (v := .ty "ValueError") hgc h.ve (by decide +kernel) rfl) pa_nil rfl) rfl) (by decide) (by decide) rfl rfl) ?_
  exact ⟨V.ref a, env.getEr her, V.ty "ValueError", .type "ValueError", true, rfl, fun u hu => hu, h.kv, k.same env.s (.bl _)⟩
theorem da_isQ (h : HX X N sc exs i n Dd y) (hp : (a, oe) ∈ X.pn) (hz : Zc (.ref Dd) none oe) (hf : ∃ vs, oe.data = .fields vs) (her : ρ[i]? = some (.er a)) : ∀ (cl : List Str) (xs : List Expr), isIs sc exs n cl xs = true → DA X F xs ρ (cl.map fun c => .bool (decide (c = y) || decide (c = "LeagueError")))
  | [], [], _ => da_nil
  | [], _ :: _, q => by cases q
  | _ :: _, [], q => by cases q
  | c :: cl, x :: xs, q => by
    unfold isIs at q
    simp only [Bool.and_eq_true] at q
    obtain ⟨q1, q2⟩ := q
    split at q1
    case h_2 => cases q1
    rename_i g u v hx
    obtain ⟨p, pos, rfl⟩ := callN_is hx
    simp only [Bool.and_eq_true, decide_eq_true_eq] at q1
    obtain ⟨⟨⟨⟨⟨⟨rfl, g1⟩, g2⟩, g3⟩, g4⟩, g5⟩, g6⟩ := q1
    obtain ⟨p2, rfl⟩ := nameOf_is g2
    obtain ⟨p3, rfl⟩ := nameOf_is g3
    exact da_cons (de_isQ h hp hz hf her (glB_is h.hsc g1) g4 (glB_is h.hsc g5) (nmB_is g6).1) (da_isQ h hp hz hf her cl xs q2) rfl
end
/-! ### its text -/
def asgL (N : List Str) (sc : Scope) (k : Nat) (st : Stmt) : Option (List Expr) := match asgOf st with
  | some (t, x) => (match nameOf t with
    | some z => if (decide (N[k]? = some z) && locB sc allT z) = true then lstOf x else none
    | none => none)
  | none => none
def extL (N : List Str) (sc : Scope) (k : Nat) (st : Stmt) : Option (List Expr) := match exprOf st with
  | some x => (match methOf x with
    | some (o, m, z) => if (decide (m = "extend") && isV N sc k o) = true then lstOf z else none
    | none => none)
  | none => none
theorem asgL_is {N : List Str} {sc : Scope} {k : Nat} {st : Stmt} {xs : List Expr} (h : asgL N sc k st = some xs) : ∃ z p lp pos, st = .Assign [.Name z p] (.List xs lp) pos ∧ N[k]? = some z ∧ locB sc allT z = true := by
  unfold asgL at h
  split at h
  case h_2 => cases h
  rename_i t x hx
  obtain ⟨pos, rfl⟩ := asgOf_is hx
  split at h
  case h_2 => cases h
  rename_i z hz
  obtain ⟨p, rfl⟩ := nameOf_is hz
  split at h
  case isFalse => cases h
  rename_i hc
  simp only [Bool.and_eq_true, decide_eq_true_eq] at hc
  obtain ⟨lp, rfl⟩ := lstOf_is h
  exact ⟨z, p, lp, pos, rfl, hc.1, hc.2⟩
theorem extL_is {N : List Str} {sc : Scope} {k : Nat} {st : Stmt} {xs : List Expr} (h : extL N sc k st = some xs) : ∃ z p ap cp lp pos, st = .Expr (.Call (.Attribute (.Name z p) "extend" ap) [.List xs lp] [] cp) pos ∧ N[k]? = some z ∧ visB sc z = true ∧ nmB z = true ∧ (ap.endLine == cp.line) = true := by
  unfold extL at h
  split at h
  case h_2 => cases h
  rename_i x hx
  obtain ⟨pos, rfl⟩ := exprOf_is hx
  split at h
  case h_2 => cases h
  rename_i o m z hz
  obtain ⟨ap, cp, rfl, hl⟩ := methOf_is hz
  split at h
  case isFalse => cases h
  rename_i hc
  simp only [Bool.and_eq_true, decide_eq_true_eq] at hc
  obtain ⟨rfl, hv⟩ := hc
  obtain ⟨lp, rfl⟩ := lstOf_is h
  unfold isV at hv
  split at hv
  case h_2 => cases hv
  rename_i w hw
  obtain ⟨p, rfl⟩ := nameOf_is hw
  simp only [Bool.and_eq_true, decide_eq_true_eq] at hv
  exact ⟨w, p, ap, cp, lp, pos, rfl, hv.1.1, hv.1.2, hv.2, hl⟩
section
variable {X : Cx} {F : Fx} {ρ : Env} {N : List Str} {sc : Scope}
theorem ds_asgL (hN : X.N = N) (nd : N.Nodup) (hsc : X.env.scope = sc) (hfs : X.fn = allT) {k : Nat} {st : Stmt} {xs : List Expr} {ds : List D} (h : asgL N sc k st = some xs) (ha : DA X F xs ρ ds) (hl : ds.length ≤ 1000) : DS X F st ρ (.nx (ρ.set k (.ow (.list ds)))) := by
  obtain ⟨z, p, lp, pos, rfl, h1, h2⟩ := asgL_is h
  obtain ⟨l1, l2⟩ := locB_ok hsc hfs h2
  exact ds_setO (by rw [hN]; exact nd) (by rw [hN]; exact h1) l1 l2 (df_lst ha (by omega)) rfl (swaps_no' rfl)
theorem ds_extL (hN : X.N = N) (hsc : X.env.scope = sc) {k : Nat} {st : Stmt} {xs : List Expr} {ds es : List D} (h : extL N sc k st = some xs) (ha : DA X F xs ρ es) (ho : ρ[k]? = some (.ow (.list ds))) (hl : ds.length + es.length ≤ 1000) : DS X F st ρ (.nx (ρ.set k (.ow (.list (ds ++ es))))) := by
  obtain ⟨z, p, ap, cp, lp, pos, rfl, h1, h2, h3, h4⟩ := extL_is h
  obtain ⟨n1, n2⟩ := nmB_is h3
  intro σ H H0 D W tk env kk
  refine tOfS_of (ps_expr (pe_bm PySem.F.plainAttrs_list PySem.F.slot_list_extend PySem.F.type_list_extend mt_extA (pe_var (i := k) (by rw [hN]; exact h1) (by rw [hsc]; exact visB_is h2) n1 n2) (pa_cons (pe_lst pa_of) pa_nil (star_cons rfl)) rfl (few1 rfl) h4 (star_cons rfl) rfl) rfl) ?_
  obtain ⟨v, fp, ev, o⟩ := env.getOw ho
  cases o with | lst g r =>
  refine ⟨_, ev, .inl ⟨rfl, _, SqL.of g⟩, ?_⟩
  refine ha σ H H0 _ env fun vs H1 H01 p1 r1 => ?_
  refine ⟨by rw [r1.length, ← sz]; omega, fun q nq => ?_⟩
  have pp := p1.trans (Post.own p1.c (o := .lst vs) nq)
  exact ⟨_, _, _, _, rfl, rfl, pp.b.at g, .inl (SqL.of upd_same), by rw [r.length, r1.length, ← sz]; omega, kk _ _ H01 ((env.post pp).mutL ev ho (pp.b.at g) ((r.mono p1.a).append r1))⟩
end
def isStrs : List Str → List Expr → Bool
  | [], [] => true
  | s :: r, x :: xs => decide (strOf x = some s) && isStrs r xs
  | _, _ => false
theorem da_strs {X : Cx} {F : Fx} {ρ : Env} : ∀ (l : List Str) (xs : List Expr), isStrs l xs = true → DA X F xs ρ (l.map .str)
  | [], [], _ => da_nil
  | [], _ :: _, h => by cases h
  | _ :: _, [], h => by cases h
  | s :: l, x :: xs, h => by
    unfold isStrs at h
    simp only [Bool.and_eq_true, decide_eq_true_eq] at h
    obtain ⟨j, p, rfl⟩ := strOf_is h.1
    exact da_cons de_str (da_strs l xs h.2) rfl
def isExts (N : List Str) (sc : Scope) (exs : List Str) (n : Str) : List (List Str) → List Stmt → Bool
  | [], [] => true
  | cl :: r, st :: sts => (match extL N sc 1 st with
    | some xs => isIs sc exs n cl xs && decide (cl.length ≤ 10)
    | none => false) && isExts N sc exs n r sts
  | _, _ => false
def bv (y : Str) (cl : List Str) : List D := cl.map fun c => .bool (decide (c = y) || decide (c = "LeagueError"))
section
variable {X : Cx} {F : Fx} {N : List Str} {sc : Scope} {exs : List Str} {n y : Str} {Dd a : Addr} {oe : Obj}
theorem exts_ok (h : HX X N sc exs 0 n Dd y) (hp : (a, oe) ∈ X.pn) (hz : Zc (.ref Dd) none oe) (hf : ∃ vs, oe.data = .fields vs) {tail : List Stmt} {o : O} : ∀ (cls : List (List Str)) (sts : List Stmt) (ρ : Env) (ds : List D), isExts N sc exs n cls sts = true → ρ[0]? = some (.er a) → ρ[1]? = some (.ow (.list ds)) → ds.length + 10 * cls.length ≤ 900 →
    DSs X F tail (ρ.set 1 (.ow (.list (ds ++ bv y cls.flatten)))) o → DSs X F (sts ++ tail) ρ o
  | [], [], ρ, ds, _, _, h1, _, k => by
    have e : ρ.set 1 (.ow (.list (ds ++ bv y ([] : List (List Str)).flatten))) = ρ := by
      rw [show ds ++ bv y ([] : List (List Str)).flatten = ds by simp [bv]]
      exact same_refl_set h1
    rw [e] at k
    exact k
  | [], _ :: _, ρ, ds, q, _, _, _, _ => by cases q
  | _ :: _, [], ρ, ds, q, _, _, _, _ => by cases q
  | cl :: cls, st :: sts, ρ, ds, q, h0, h1, hl, k => by
    unfold isExts at q
    simp only [Bool.and_eq_true] at q
    obtain ⟨q1, q2⟩ := q
    split at q1
    case h_2 => cases q1
    rename_i xs hx
    simp only [Bool.and_eq_true, decide_eq_true_eq] at q1
    have hlt : 1 < ρ.length := (List.getElem?_eq_some_iff.mp h1).1
    simp only [List.length_cons] at hl
    refine dss_cons (ds_extL h.hN h.hsc hx (da_isQ h hp hz hf h0 cl xs q1.1) h1 (by rw [List.length_map]; omega)) (fun ρ1 e => ?_) (fun hn => absurd rfl (hn _))
    cases e
    refine exts_ok h hp hz hf cls sts _ (ds ++ bv y cl) q2 (by rw [List.getElem?_set_ne (by decide)]; exact h0) (by rw [List.getElem?_set_self hlt]; rfl) (by simp only [bv, List.length_append, List.length_map]; omega) ?_
    rw [List.set_set]
    have e : ds ++ bv y cl ++ bv y cls.flatten = ds ++ bv y (cl :: cls).flatten := by
      unfold bv; rw [List.flatten_cons, List.map_append, List.append_assoc]
    rw [e]
    exact k
/-- kinds.count(True) != 1 or not isinstance(error, ValueError) -/
def isOne (x : Expr) : Bool := match cOf x with
  | some (.int i) => decide (i = 1)
  | _ => false
def isMt (N : List Str) (sc : Scope) (m : Str) (x : Expr) : Bool := match meth1Of x with
  | some (k, g, t) => decide (g = m) && isV N sc 1 k && noC0 k && isTru t
  | none => false
def isCnt (N : List Str) (sc : Scope) (u : Expr) : Bool := match cmpOf u with
  | some (l, [.NotEq], [r]) => isMt N sc "count" l && isOne r
  | _ => false
def isNoV (sc : Scope) (n : Str) (v : Expr) : Bool := match unOf v with
  | some (.Not, w) => (match callN w with
    | some (g, [p, q]) => decide (g = "isinstance") && glB sc "isinstance" && decide (nameOf p = some n) && decide (nameOf q = some ("ValueError" : Str)) && glB sc "ValueError"
    | _ => false)
  | _ => false
def isTst (N : List Str) (sc : Scope) (n : Str) (x : Expr) : Bool := match boolOf x with
  | some (.Or, [u, v]) => isCnt N sc u && isNoV sc n v
  | _ => false
def isIf (N : List Str) (sc : Scope) (n : Str) (st : Stmt) : Bool := match ifSOf st with
  | some (c, _, []) => isTst N sc n c
  | _ => false
def isLst (N : List Str) (sc : Scope) (st : Stmt) : Bool := match retOf st with
  | some x => (match subOf x with
    | some (o, r) => isV N sc 2 o && isMt N sc "index" r && !isSlice r
    | none => false)
  | none => false
def nmL : List Str := ["InvalidLeague", "InvalidResults", "InvalidTeam", "InvalidGame", "InvalidResult"]
def nmM : List Str := ["TooLarge", "UnfairRule", "InvalidNumber", "InvalidTable", "Unexplained"]
def nmR : List Str := ["InvalidRounds", "AlreadyThere", "NotThere", "NothingToUndo", "ParseError"]
def isCls (N : List Str) (sc : Scope) (exs : List Str) (n : Str) (body : List Stmt) : Bool := match body with
  | [s0, s1, s2, s3, s4, s5, s6, s7, s8, s9, s10, s11, s12] => (match asgL N sc 1 s0 with
    | some xs => isIs sc exs n ["InvalidLeague", "InvalidResults"] xs
    | none => false) && isExts N sc exs n clsL.tail [s1, s2, s3, s4, s5, s6, s7] && isIf N sc n s8 && (match asgL N sc 2 s9 with
    | some xs => isStrs nmL xs
    | none => false) && (match extL N sc 2 s10 with
    | some xs => isStrs nmM xs
    | none => false) && (match extL N sc 2 s11 with
    | some xs => isStrs nmR xs
    | none => false) && isLst N sc s12
  | _ => false
theorem de_v (hN : X.N = N) (hsc : X.env.scope = sc) {ρ : Env} {k : Nat} {x : Expr} {d : D} (h : isV N sc k x = true) (hd : ρ[k]? = some (.sh d)) : DE X F x ρ d := by
  unfold isV at h
  split at h
  case h_2 => cases h
  rename_i w hw
  obtain ⟨p, rfl⟩ := nameOf_is hw
  simp only [Bool.and_eq_true, decide_eq_true_eq] at h
  obtain ⟨n1, n2⟩ := nmB_is h.2
  refine de_var (i := k) (by rw [hN]; exact h.1.1) (by rw [hsc]; exact visB_is h.1.2) n1 n2 ?_
  unfold getB; rw [hd]
theorem shp_bs (l : List Str) : shp (.list (bv y l)) = true := by
  have h : ∀ l : List Str, PyData.canLayAll0 (bv y l) = true ∧ PyData.depthAll (bv y l) = 0 := fun l => by
    induction l with
    | nil => simp [bv, PyData.canLayAll0, PyData.depthAll]
    | cons b l ih =>
      unfold bv at ih ⊢
      simp only [List.map_cons, PyData.canLayAll0, PyData.depthAll, PyData.canLay0, PyData.depth, ih.1, ih.2]
      simp
  unfold shp SeqAt.shaped
  have h2 : PyData.depth (.list (bv y l)) ≤ 64 := by rw [PyData.depth, (h l).2]; omega
  rw [PyData.canLay0, (h l).1, decide_eq_true h2]; rfl
def clsChk (y : Str) : Bool := decide ((bv y clsA).countP (fun z => PyData.eqv z (.bool true)) = 1) && (match (bv y clsA).findIdx? fun z => PyData.eqv z (.bool true) with
  | some j => decide (L2.atI clsA (j : Nat) = some y)
  | none => false)
theorem cls_all : (clsA.all clsChk) = true := by decide +kernel
theorem cls_ok (h : CX0 X N sc exs 0 n Dd y) (hp : (a, oe) ∈ X.pn) (hz : Zc (.ref Dd) none oe) (hf : ∃ vs, oe.data = .fields vs) (hy : y ∈ clsA) {body : List Stmt} (hb : isCls N sc exs n body = true) : DSs X F body [.er a, .un, .un] (.rt (.str y)) := by
  have hu := h.h.room
  have hc := List.all_eq_true.mp cls_all y hy
  unfold clsChk at hc
  simp only [Bool.and_eq_true, decide_eq_true_eq] at hc
  obtain ⟨hc1, hc2⟩ := hc
  split at hc2
  case h_2 => cases hc2
  rename_i j hj
  have hc2 := of_decide_eq_true hc2
  unfold isCls at hb
  split at hb
  case h_2 => cases hb
  rename_i s0 s1 s2 s3 s4 s5 s6 s7 s8 s9 s10 s11 s12
  simp only [Bool.and_eq_true] at hb
  obtain ⟨⟨⟨⟨⟨⟨b0, b1⟩, b8⟩, b9⟩, b10⟩, b11⟩, b12⟩ := hb
  split at b0
  case h_2 => cases b0
  rename_i x0 hx0
  split at b9
  case h_2 => cases b9
  rename_i x9 hx9
  split at b10
  case h_2 => cases b10
  rename_i x10 hx10
  split at b11
  case h_2 => cases b11
  rename_i x11 hx11
  refine dss_cons (ds_asgL h.h.hN h.h.nd h.h.hsc h.h.hfs hx0 (da_isQ h.h hp hz hf rfl _ x0 b0) (by simp)) (fun ρ1 e => ?_) (fun hn => absurd rfl (hn _))
  cases e
  refine exts_ok (tail := [s8, s9, s10, s11, s12]) h.h hp hz hf clsL.tail [s1, s2, s3, s4, s5, s6, s7] _ (bv y ["InvalidLeague", "InvalidResults"]) b1 rfl rfl (by show 2 + 10 * 7 ≤ 900; omega) ?_
  have e0 : bv y ["InvalidLeague", "InvalidResults"] ++ bv y clsL.tail.flatten = bv y clsA := by unfold bv; rw [← List.map_append]; rfl
  rw [e0]
  refine dss_fr (i := 1) (b := .ow (.list (bv y clsA))) rfl ?_
  show DSs X F [s8, s9, s10, s11, s12] [.er a, .sh (.list (bv y clsA)), .un] (.rt (.str y))
  have mt : ∀ {m : Str} {x : Expr} {ρ : Env}, isMt N sc m x = true → ρ[1]? = some (.sh (.list (bv y clsA))) → ∃ o t ap cp, x = .Call (.Attribute o m ap) [t] [] cp ∧ (ap.endLine == cp.line) = true ∧ DE X F o ρ (.list (bv y clsA)) ∧ DE X F t ρ (.bool true) ∧ notStar t = true ∧ attributeBase o m X.env (eval o X.env) = eval o X.env := by
    intro m x ρ hm h1
    unfold isMt at hm
    split at hm
    case h_2 => cases hm
    rename_i o g t hx
    obtain ⟨ap, cp, rfl, hline⟩ := meth1Of_is hx
    simp only [Bool.and_eq_true, decide_eq_true_eq] at hm
    obtain ⟨⟨⟨rfl, m1⟩, m2⟩, m3⟩ := hm
    obtain ⟨jj, p2, rfl⟩ := isTru_is m3
    exact ⟨o, _, ap, cp, rfl, hline, de_v h.h.hN h.h.hsc m1 h1, de_bl, rfl, base_no m2⟩
  -- the test
  have d8 : DS X F s8 [.er a, .sh (.list (bv y clsA)), .un] (.nx [.er a, .sh (.list (bv y clsA)), .un]) := by
    unfold isIf at b8
    split at b8
    case h_2 => cases b8
    rename_i c th hx
    obtain ⟨pos, rfl⟩ := ifSOf_is hx
    refine ds_if (t := false) ?_ (fun e => by cases e) (fun _ => dss_nil)
    unfold isTst at b8
    split at b8
    case h_2 => cases b8
    rename_i u v hu8
    obtain ⟨bp, rfl⟩ := boolOf_is hu8
    simp only [Bool.and_eq_true] at b8
    obtain ⟨t1, t2⟩ := b8
    refine dt_dw (dw_or (b := false) (c := false) ?_ (fun _ => dw_or1 ?_) (fun e => by cases e))
    · unfold isCnt at t1
      split at t1
      case h_2 => cases t1
      rename_i l r hl
      obtain ⟨cp0, rfl⟩ := cmpOf_is hl
      simp only [Bool.and_eq_true] at t1
      obtain ⟨o, t, ap, cp, rfl, hline, ho, ht, hs, hab⟩ := mt (ρ := [.er a, .sh (.list (bv y clsA)), .un]) t1.1 rfl
      have hone : ∃ jj pp, r = .Constant (.int 1) jj pp := by
        have := t1.2
        unfold isOne at this
        split at this
        case h_2 => cases this
        rename_i i hi
        have e := of_decide_eq_true this
        subst e
        exact cOf_is hi
      obtain ⟨jj, pp, rfl⟩ := hone
      have q := dt_cmp (op := .NotEq) (pos := cp0) (by omega) (de_countD (X := X) (F := F) hu ho ht rfl (shp_bs _) hs hline hab) (de_int (i := 1) (j := jj) (pos := pp)) (c := false) (by rw [hc1]; decide +kernel) rfl
      exact q
    · unfold isNoV at t2
      split at t2
      case h_2 => cases t2
      rename_i w hw
      obtain ⟨up, rfl⟩ := unOf_is hw
      split at t2
      case h_2 => cases t2
      rename_i g p q hg
      obtain ⟨cp, cpos, rfl⟩ := callN_is hg
      simp only [Bool.and_eq_true, decide_eq_true_eq] at t2
      obtain ⟨⟨⟨⟨rfl, g1⟩, g2⟩, g3⟩, g4⟩ := t2
      obtain ⟨p2, rfl⟩ := nameOf_is g2
      obtain ⟨p3, rfl⟩ := nameOf_is g3
      have q := dt_no (pos := up) (dt_val (de_isV (F := F) (ρ := [.er a, .sh (.list (bv y clsA)), .un]) h hp hz hf rfl (p := cp) (p2 := p2) (p3 := p3) (pos := cpos) (glB_is h.h.hsc g1) (glB_is h.h.hsc g4)) (fun whole => rfl))
      exact q
  refine dss_cons d8 (fun ρ1 e => ?_) (fun hn => absurd rfl (hn _))
  cases e
  refine dss_cons (ds_asgL h.h.hN h.h.nd h.h.hsc h.h.hfs hx9 (da_strs nmL x9 b9) (by decide)) (fun ρ1 e => ?_) (fun hn => absurd rfl (hn _))
  cases e
  refine dss_cons (ds_extL h.h.hN h.h.hsc (ds := nmL.map .str) hx10 (da_strs nmM x10 b10) rfl (by decide)) (fun ρ1 e => ?_) (fun hn => absurd rfl (hn _))
  cases e
  refine dss_cons (ds_extL h.h.hN h.h.hsc (ds := nmL.map .str ++ nmM.map .str) hx11 (da_strs nmR x11 b11) rfl (by decide)) (fun ρ1 e => ?_) (fun hn => absurd rfl (hn _))
  cases e
  refine dss_fr (i := 2) (b := .ow (.list ((nmL.map .str ++ nmM.map .str) ++ nmR.map .str))) rfl ?_
  show DSs X F [s12] [.er a, .sh (.list (bv y clsA)), .sh (.list (clsA.map .str))] (.rt (.str y))
  unfold isLst at b12
  split at b12
  case h_2 => cases b12
  rename_i x hx
  obtain ⟨pos, rfl⟩ := retOf_is hx
  split at b12
  case h_2 => cases b12
  rename_i o r hor
  obtain ⟨sp, rfl⟩ := subOf_is hor
  simp only [Bool.and_eq_true, Bool.not_eq_true'] at b12
  obtain ⟨⟨c1, c2⟩, c3⟩ := b12
  obtain ⟨ko, t, ap, cp, rfl, hline, ho, ht, hs, hab⟩ := mt (ρ := [.er a, .sh (.list (bv y clsA)), .sh (.list (clsA.map .str))]) c2 rfl
  refine dss_cons (ds_ret (de_ix (by omega) (de_v h.h.hN h.h.hsc c1 rfl) (de_index hu ho ht hj rfl (shp_bs _) hs hline hab) ?_ (plainIx_of c3))) (fun ρ1 e => by cases e) (fun _ => rfl)
  show L2.atI (clsA.map PyData.str) ((j : Nat) : Int) = some (.str y)
  unfold L2.atI at hc2 ⊢
  rw [List.length_map]
  cases hjx : ixN clsA.length ((j : Nat) : Int) with
  | none => rw [hjx] at hc2; cases hc2
  | some j' =>
    rw [hjx] at hc2
    show (clsA.map PyData.str)[j']? = _
    rw [List.getElem?_map, show clsA[j']? = some y from hc2]; rfl
end
end OL

end
section
set_option Elab.async false
set_option linter.all false
set_option maxRecDepth 100000
set_option maxHeartbeats 8000000
/-! defs of the law's text that are not data: the class named, an error caught -/
namespace OL
open PySem PySem.Spec PyProof.Rows L2 RZ
/-- a def called in an except suite, its body told at the very state -/
theorem run_hot {CX : CXT} {P : Program} {w : World} {K : PySem.W.Frag} {mg : Str → Option Value} {base : Heap} {k : Nat} {f : Addr} {name qual : Str} {params : Arguments} {body : List Stmt} {scope : Scope} {dV kV doc pm cdv ct oc : Value} {an od : Option Addr} {osl : Array (Option Value)} {N ps : List Str}
    (lk : K.lookup f = some ⟨oc, od, .func (PySem.W.fnOf name qual params body scope dV kV doc pm an cdv ct), osl⟩) (hcd : PySem.W.codeIn K cdv qual = true) (S : FnScope N ps scope) {A : Around} {outer : List PySem.Env} {s : Shared} {H : Hp} {args : Args} {us : List Value} {vs : List V} {Q : VK} {E : XK} {p : Addr × Obj}
    (hr : L2H.RoomH (k + 1) A) (pin : L2H.PinOk outer H s p) (e0 : Env0 P w K mg base A outer s H) (hb : BindsTo s (PySem.W.fnOf name qual params body scope dV kV doc pm an cdv ct) args (ps.zip us)) (r : Vals vs us) (hl : vs.length = ps.length)
    (hbody : L2H.RoomH k (A.deeper (envOfC qual scope s.heap.objs.size f cdv)) → ∃ t, PSs (L2H.cxH CX P w K mg base N qual scope f cdv A outer s H E p) body t ∧ t { nx := fun _ H' => Q .non H', rt := Q } (L2.start N vs) H) :
    codeAny (model P w) A (.call (.ref f) args) (CR CX outer P w H s Q E) s := by
  have kin : K.In s.heap := e0.mod.kin.keeps fun b o e => (e0.bs b o e).1
  have par : ∀ y ∈ ps.zip us, scope.names.lookup y.1 = some .local ∨ (scope.names.lookup y.1 = some .cell ∧ ((cellsFrom (s.heap.objs.size + 1) scope.names []).lookup y.1).isSome = true) := fun y hy =>
    (S.par y.1 (List.of_mem_zip (a := y.1) (b := y.2) hy).1).imp id fun q => ⟨q, PySem.W.cellsFrom_some _ _ _ (.inl q)⟩
  refine codeAny_call_function hr.depth (kin _ _ lk) rfl S.co S.gen rfl (PySem.W.codeRec_of kin hcd) (hb _ _ _ _ (wpAny_newFunctionEnv_cells S.kind par fun env he s1 x => ?_))
  subst he
  refine ⟨(e0.mod.nolimit.keeps fun b o e => (e0.bs b o e).1).keeps x.toInCall.keep, codeAny_func ?_⟩
  obtain ⟨t, ht, hq⟩ := hbody (hr.deeper _)
  refine wpAny_mono (ht.run [] s1 (L2.start N vs) H _ (L2H.inv_startH S pin e0 hl r x) hq) (fun fl s' hs => ?_) fun e s' hs => hs
  cases fl with
  | ret u => obtain ⟨v, σ', H', J, rv, q⟩ := hs; exact ⟨v, H', J.os, J.bare, J.base, J.hok, rv, q⟩
  | next => obtain ⟨σ', H', J, q⟩ := hs; exact ⟨V.non, H', J.os, J.bare, J.base, J.hok, rfl, q⟩
  | brk => obtain ⟨_, _, _, q⟩ := hs; exact q.elim
  | cont => obtain ⟨_, _, _, q⟩ := hs; exact q.elim
/-- a def of the text: where it stands, its names -/
structure DefAt (K : PySem.W.Frag) (mg : Str → Option Value) (x : Str) (N ps : List Str) (body : List Stmt) (scope : Scope) : Prop where
  ex : ∃ (params : Arguments) (f : Addr) (fd : FuncData), FunD K x x params body scope [] [] f fd ∧ mg x = some (.ref f) ∧ Binds K fd ps []
  sc : FnScope N ps scope
abbrev clsN : List Str := ["error", "kinds", "names"]
/-- all that is known of the exceptions and of the def that names them -/
structure ClsF (K : PySem.W.Frag) (mg : Str → Option Value) (exs : List Str) (body : List Stmt) (scope : Scope) : Prop where
  at_ : DefAt K mg "_law_class" clsN ["error"] body scope
  chk : isCls clsN scope exs "error" body = true
  ism : mg "isinstance" = none
  ve : mg "ValueError" = none
  kit : ∀ y ∈ clsA, ∃ Dd, mg y = some (.ref Dd) ∧ ExcC K Dd ∧ PySem.W.kitOne K (.ref Dd) (.type "ValueError") = some true ∧ ∀ c ∈ exs, ∃ Cc, mg c = some (.ref Cc) ∧ PySem.W.kitOne K (.ref Dd) (.ref Cc) = some (decide (c = y) || decide (c = "LeagueError"))
theorem env_er {K : PySem.W.Frag} {H0 H : Hp} (s : Same H0 H) (a : Addr) : EnvOk K ⟨H, H0⟩ H0 H [some (.ref a), none, none] [.er a, .un, .un] := by
  refine ⟨rfl, s, Ext.refl _, Same.refl _, fun _ _ h => h, fun _ => [], fun i v b hv hb => ?_, ⟨fun _ _ _ _ h => by simp at h, fun _ _ h => by simp at h⟩⟩
  match i, hv, hb with
  | 0, hv, hb => cases hv; cases hb; exact ⟨rfl, rfl⟩
  | 1, hv, hb => cases hv; cases hb; rfl
  | 2, hv, hb => cases hv; cases hb; rfl
  | _ + 3, hv, hb => simp at hv
section
variable {X : Cx} {F : Fx} {ρ : Env} {exs : List Str} {body : List Stmt} {scope : Scope} {i : Nat} {n y : Str} {a Dd : Addr} {oe : Obj} {pn : List (Addr × Obj)}
/-- _law_class(e), e the exception that the suite holds -/
theorem de_cls (C : ClsF X.K X.mg exs body scope) (hstk : X.stack = X.env :: X.outer) (hfrm : X.env.frame = some X.env.locals) {k : Nat} (hr : L2H.RoomH (k + 1) X.A) (hk : 70 ≤ 16 * k + 200) (hy : y ∈ clsA) (hD : X.mg y = some (.ref Dd)) (hz : Zc (.ref Dd) none oe) (hf : ∃ vs, oe.data = .fields vs) (her : ρ[i]? = some (.er a))
    (hN : X.N[i]? = some n) (hv : Vis X.env.scope n) (n1 : (n == ("__debug__" : Str)) = false) (n2 : (n == ("__classdict__" : Str)) = false) (hg : Gl X "_law_class") {p p2 pos : Pos} :
    DE (X.suite a ((a, oe) :: pn)) F (.Call (.Name "_law_class" p) [.Name n p2] [] pos) ρ (.str y) := by
  intro σ H H0 Q env kk pins s I
  obtain ⟨params, f, fd, FD, hm, hb⟩ := C.at_.ex
  have kp := FD.kp
  obtain ⟨oc, od, dV, kV, doc, pm, an, cdv, ct, osl, rfl, lk, hcd, _, _⟩ := FD.ex
  obtain ⟨Dd', hD', ec, kv, kit⟩ := C.kit y hy
  rw [hD] at hD'
  cases hD'
  have ev := env.getEr her
  refine wpAny_Call_Name_kw (ld_glob I hg hm ?_)
  refine PySem.W.callWith_K (h₀ := X.base) I.ok.mod.kin kp (thn ((pa_cons (X := X.suite a ((a, oe) :: pn)) (pe_var (i := i) (pos := p2) hN hv n1 n2) pa_nil rfl).run pos pins s σ H (fun vs H1 => vs = [.ref a] ∧ H1 = H) I ⟨.ref a, ev, rfl, rfl⟩) fun us s1 ⟨vs, H1, I1, r, e1, e2⟩ => ?_) rfl rfl
  subst e1 e2
  obtain ⟨u0, rfl, ru0⟩ := vals1 r
  obtain ⟨g1, g2, g3, g4, g5⟩ := I1.pin (a, oe) (List.mem_append.mpr (.inl List.mem_cons_self))
  have pin : L2H.PinOk X.stack H1 s1 (a, oe) := ⟨g1, g2, fun z => by
    rw [hstk] at z
    unfold frs at z
    rw [List.filterMap_cons, hfrm] at z
    rcases List.mem_cons.mp z with z | z
    · exact g3 z
    · exact g4 z, g5⟩
  refine ⟨I1.kIn, ?_⟩
  have hr' : L2H.RoomH (k + 1) (X.suite a ((a, oe) :: pn)).A := ⟨hr.dp, hr.un⟩
  have rc : codeAny (model X.prog X.w) (X.suite a ((a, oe) :: pn)).A (.call (.ref f) ⟨[u0], []⟩) (CR C8.CX0 X.stack X.prog X.w H1 s1 Q C8.E0) s1 := by
    refine run_hot (N := clsN) (ps := ["error"]) (us := [u0]) (vs := [.ref a]) lk hcd C.at_.sc hr' pin I1.env0 (hb s1 [u0] I1.kIn rfl) r rfl fun hr2 => ⟨_, pss_of, ?_⟩
    have h : CX0 (L2H.cxH C8.CX0 X.prog X.w X.K X.mg X.base clsN "_law_class" scope f cdv (X.suite a ((a, oe) :: pn)).A X.stack s1 H1 C8.E0 (a, oe)) clsN scope exs 0 "error" Dd y := by
      refine ⟨⟨rfl, by decide, rfl, rfl, rfl, ?_, by decide, by decide, ?_, C.ism, ec, kit⟩, C.ve, kv⟩
      · rcases C.at_.sc.par "error" (by simp) with q | q
        · exact .inl q
        · exact .inr (.inl q)
      · have := hr2.un
        show ((X.suite a ((a, oe) :: pn)).A.deeper (envOfC "_law_class" scope s1.heap.objs.size f cdv)).units + 70 < cLine
        omega
    refine cls_ok h (List.mem_singleton.mpr rfl) hz hf hy C.chk (L2.start clsN [.ref a]) H1 H0 _ (fun _ _ _ => False) ?_ (env_er env.s a) fun v H' H0' pp rv => kk v H' H0' pp rv
    exact Takes.imp LamX.takes0 fun c d σ H' hW => by obtain ⟨_, _, _, _, _, z⟩ := hW; exact z
  refine wpAny_call (codeAny_mono rc fun r s2 hq => ?_)
  cases r with
  | error e => exact (show False from hq).elim
  | ok fl => cases fl with
    | ret u => exact I1.after hq
    | next => exact False.elim hq
    | brk => exact False.elim hq
    | cont => exact False.elim hq
end
end OL

end
section
set_option Elab.async false
set_option linter.all false
set_option maxRecDepth 100000
set_option maxHeartbeats 8000000
namespace OL
open PySem PySem.Spec PyProof.Rows L2 RZ

/-- an own exception class -/
def ExcOk (X : Cx) (x : Str) : Prop := ∃ C, X.mg x = some (.ref C) ∧ PySem.W.excIn X.K C He.veBase "ValueError.__new__" = true ∧ PySem.W.keepIn X.K (.ref C) = true ∧ PySem.W.subIn X.K (.ref C) (.type "BaseException") = some true ∧ PySem.W.typeIn X.K (.ref C) = some (.type "type")
/-- what the head says of the classes that an except clause looks at -/
def TryOk (K : PySem.W.Frag) (mg : Str → Option Value) (exs : List Str) : Prop := ("LeagueError" : Str) ∈ exs → ∀ x ∈ exs, ∀ C, mg x = some (.ref C) → ExcC K C ∧ (∃ B, mg "LeagueError" = some (.ref B) ∧ PySem.W.exmOne K (.ref C) (.ref B) = some true) ∧
  ∀ c ∈ exs, ∃ Cc, mg c = some (.ref Cc) ∧ PySem.W.kitOne K (.ref C) (.ref Cc) = some (decide (c = x) || decide (c = "LeagueError"))
structure CtxS (X : Cx) (N : List Str) (sc : Scope) (cs : List (Str × Key)) (Φ : Tab) (exs : List Str) : Prop where
  c : Ctx X N sc allT cs Φ
  po : PassesOwn (model X.prog X.w) X.A X.env X.xe
  exc : ∀ x ∈ exs, ExcOk X x
  try_ : TryOk X.K X.mg exs
  stk : X.stack = X.env :: X.outer
  frm : X.env.frame = some X.env.locals
theorem CtxS.tr {X : Cx} {N : List Str} {sc : Scope} {cs : List (Str × Key)} {Φ : Tab} {exs : List Str} (C : CtxS X N sc cs Φ exs) (pn : List (Addr × Obj)) (xe : Value → Shared → Prop) (po : PassesOwn (model X.prog X.w) X.A X.env xe) : CtxS (X.tr pn xe) N sc cs Φ exs :=
  ⟨⟨C.c.hfs, C.c.hN, C.c.nd, C.c.hsc, C.c.calm, C.c.blt, C.c.con, C.c.room, C.c.fns⟩, po, C.exc, C.try_, C.stk, C.frm⟩
def tryP : Stmt → Option (List Stmt × List ExceptHandler × List Stmt × List Stmt)
  | .Try a b c d _ => some (a, b, c, d)
  | _ => none
theorem tryP_is {x : Stmt} {a : List Stmt} {b : List ExceptHandler} {c d : List Stmt} (h : tryP x = some (a, b, c, d)) : ∃ p, x = .Try a b c d p := by
  cases x <;> first | (cases h; done) | (cases h; exact ⟨_, rfl⟩)
def excP : ExceptHandler → Option Expr × Option Str × List Stmt
  | .ExceptHandler t n b _ => (t, n, b)
theorem excP_is {x : ExceptHandler} {t : Option Expr} {n : Option Str} {b : List Stmt} (h : excP x = (t, n, b)) : ∃ p, x = .ExceptHandler t n b p := by
  cases x with
  | ExceptHandler t' n' b' p => cases h; exact ⟨_, rfl⟩
def tryH (h : ExceptHandler) : Option (Str × Str × Stmt × List Stmt) := match excP h with
  | (some t, some n, b :: s) => (nameOf t).map fun x => (x, n, b, s)
  | _ => none
theorem tryH_is {h : ExceptHandler} {x n : Str} {b : Stmt} {s : List Stmt} (e : tryH h = some (x, n, b, s)) : ∃ np p, h = .ExceptHandler (some (.Name x np)) (some n) (b :: s) p := by
  unfold tryH at e
  split at e
  · rename_i t n' b' s' he
    obtain ⟨p, rfl⟩ := excP_is he
    cases hx : nameOf t with
    | none => rw [hx] at e; cases e
    | some y =>
      rw [hx] at e
      cases e
      obtain ⟨np, rfl⟩ := nameOf_is hx
      exact ⟨np, p, rfl⟩
  · cases e
def tryOf (st : Stmt) : Option (List Stmt × Str × Str × Stmt × List Stmt) := match tryP st with
  | some (body, [h], [], []) => (tryH h).map fun q => (body, q)
  | _ => none
theorem tryOf_is {st : Stmt} {body : List Stmt} {x n : Str} {b : Stmt} {s : List Stmt} (e : tryOf st = some (body, x, n, b, s)) : ∃ np p' p, st = .Try body [.ExceptHandler (some (.Name x np)) (some n) (b :: s) p'] [] [] p := by
  unfold tryOf at e
  split at e
  · rename_i body' h he
    obtain ⟨p, rfl⟩ := tryP_is he
    cases hx : tryH h with
    | none => rw [hx] at e; cases e
    | some q =>
      rw [hx] at e
      cases e
      obtain ⟨np, p', rfl⟩ := tryH_is hx
      exact ⟨np, p', p, rfl⟩
  · cases e

def isLcE : E → Bool
  | .lc .. | .lc2 .. => true
  | _ => false
/-- is it new, held as m? -/
def freshB : M → E → Bool
  | .o, .lst _ => true
  | .o, .bi f (.cons _ .nil) => decide (f = "list")
  | .o, .lc .. => true
  | .o, .lc2 .. => true
  | .n, .lc (.lst .nil) _ _ .no => true
  | .o, .dn => true
  | .k, .dn => true
  | .o, .d1 _ _ => true
  | .s, _ => true
  | _, _ => false
def lamOf : Expr → Option (Arguments × Expr × Scope)
  | .Lambda a b c _ => some (a, b, c)
  | _ => none
theorem lamOf_is {x b : Expr} {a : Arguments} {c : Scope} (h : lamOf x = some (a, b, c)) : ∃ p, x = .Lambda a b c p := by
  cases x <;> first | (cases h; done) | (cases h; exact ⟨_, rfl⟩)
/-- no parameters -/
def args0 : Arguments → Bool
  | ⟨[], [], none, [], [], none, []⟩ => true
  | _ => false
theorem args0_is {a : Arguments} (h : args0 a = true) : a = ⟨[], [], none, [], [], none, []⟩ := by
  obtain ⟨a1, a2, a3, a4, a5, a6, a7⟩ := a
  unfold args0 at h
  split at h
  · rename_i e; cases e; rfl
  · cases h
section
variable (N : List Str) (cs : List (Str × Key)) (exs : List Str)
/-- lambda: f(..) -/
def isLam (f : Str) (es : Es) (sc : Scope) (z : Expr) : Bool := match lamOf z with
  | some (params, body, scope) => args0 params && LamX.lamSB sc scope && (match callN body with
    | some (g, x :: xs) => decide (g = f) && glB scope f && nmB f && isEs N cs es scope (x :: xs)
    | _ => false)
  | none => false
def isMs (sc : Scope) : List (Nat × M) → Es → Bool
  | [], .nil => true
  | (_, m) :: r, .cons e es => freshB m e && isMs sc r es
  | _, _ => false
mutual
def isS : S → Scope → Stmt → Bool
  | .set i m e, sc, st => match asgOf st with
    | some (t, x) => (match nameOf t with
      | some y => decide (N[i]? = some y) && locB sc allT y && isE N cs e sc x && freshB m e && (isLcE e || !isComp x)
      | none => false)
    | none => false
  | .unp t e, sc, st => match asgOf st with
    | some (tg, x) => isT N sc allT t tg && notStar tg && isE N cs e sc x && !isComp x && !isTup x
    | none => false
  | .par is es, sc, st => match asgOf st with
    | some (tg, x) => (match is, tupOf tg, tupOf x with
      | [(i, _), (j, _)], some [a, b], some [u, v] => (match nameP a, nameP b with
        | some (y, py), some (z, pz) => decide (N[i]? = some y) && decide (N[j]? = some z) && decide (i ≠ j) && isEs N cs es sc [u, v] && isMs sc is es && ((isFn sc && locOnly sc y && locOnly sc z && (pz.line == py.line) && !([u, v].all (foldedForSure 8)) && !([u, v].all (constantsAlone 8))) || (locB sc allT y && locB sc allT z && (!locOnly sc y || !locOnly sc z)))
        | _, _ => false)
      | [(i, _), (j, _), (l, _)], some [a, b, c], some [u, v, w] => (match nameP a, nameP b, nameP c with
        | some (y, py), some (z, pz), some (q, pq) => decide (N[i]? = some y) && decide (N[j]? = some z) && decide (N[l]? = some q) && decide (i ≠ j) && decide (i ≠ l) && decide (j ≠ l) && isEs N cs es sc [u, v, w] && isMs sc is es &&
            ((isFn sc && locOnly sc y && locOnly sc z && locOnly sc q && (pz.line == py.line) && (pq.line == py.line) && !([u, v, w].all (foldedForSure 8)) && !([u, v, w].all (constantsAlone 8))) || (locB sc allT y && locB sc allT z && locB sc allT q && (!locOnly sc y || !locOnly sc z || !locOnly sc q)))
        | _, _, _ => false)
      | _, _, _ => false)
    | none => false
  | .app i e, sc, st => match exprOf st with
    | some x => (match methOf x with
      | some (o, m, y) => decide (m = "append") && isV N sc i o && isE N cs e sc y && notStar y
      | none => false)
    | none => false
  | .ext i e, sc, st => match exprOf st with
    | some x => (match methOf x with
      | some (o, m, y) => decide (m = "extend") && isV N sc i o && isE N cs e sc y && notStar y
      | none => false)
    | none => false
  | .put i k e, sc, st => match asgOf st with
    | some (t, x) => (match subOf t with
      | some (o, r) => isV N sc i o && isE N cs k sc r && isE N cs e sc x && !isComp x && !isSlice r
      | none => false)
    | none => false
  | .appx i k e, sc, st => match exprOf st with
    | some x => (match methOf x with
      | some (o, m, y) => decide (m = "append") && isE N cs e sc y && notStar y && (match subOf o with
        | some (l, r) => isV N sc i l && isE N cs k sc r && !isSlice r
        | none => false)
      | none => false)
    | none => false
  | .callS f es, sc, st => match exprOf st with
    | some x => (match callN x with
      | some (g, y :: ys) => decide (g = f) && glB sc f && nmB f && isEs N cs es sc (y :: ys)
      | _ => false)
    | none => false
  | .callX fs ix es, sc, st => match exprOf st with
    | some x => (match callP x with
      | some (f, y :: ys, _) => (match subOf f with
        | some (o, r) => (match lstOf o with
          | some xs => isFs sc fs xs && decide (fs.length ≤ 1000) && isE N cs ix sc r && !isSlice r && isEs N cs es sc (y :: ys)
          | none => false)
        | none => false)
      | _ => false)
    | none => false
  | .tryX b i h, sc, st => match tryOf st with
    | some (body, x, n, s, ss) => isSs b sc body && decide (x = "LeagueError") && glB sc x && nmB x && decide (("LeagueError" : Str) ∈ exs) && decide (N[i]? = some n) && locOnly sc n && visB sc n && nmB n && isHd N sc exs i n h.last h.sets (s :: ss) && (h.known.all fun y => decide (y ∈ exs))
    | none => false
  | .ifs c a b, sc, st => match ifSOf st with
    | some (u, v, w) => isE N cs c sc u && isSs a sc v && isSs b sc w
    | none => false
  | .fors t it b, sc, st => match forOf st with
    | some (tg, x, body) => isI N cs it sc tg x && isT N sc allT t tg && !isSet x && isSs b sc body
    | none => false
  | .whl _ c b, sc, st => match whlOf st with
    | some (u, body) => isE N cs c sc u && isSs b sc body
    | none => false
  | .ret e, sc, st => match retOf st with
    | some x => isE N cs e sc x
    | none => false
  | .brk, _, st => isBrk st
  | .raise x, sc, st => match raiseOf st with
    | some y => (match callN y with
      | some (g, [z]) => decide (g = x) && glB sc x && nmB x && decide (x ∈ exs) && (strOf z).isSome
      | _ => false)
    | none => false
  | .fr _, _, _ => false
  | .ifl f es nm a b, sc, st => match ifSOf st with
    | some (u, v, w) => (match unOf u with
      | some (.Not, u1) => (match callN u1 with
        | some (g, [x, y]) => decide (g = "_law_all") && glB sc "_law_all" && decide (strOf y = some nm) && (match lstOf x with
          | some [z] => isLam N cs f es sc z
          | _ => false) && isSs a sc v && isSs b sc w
        | _ => false)
      | _ => false)
    | none => false
  | .ifr f es e a b, sc, st => match ifSOf st with
    | some (u, v, w) => (match cmpOf u with
      | some (l, [.NotEq], [r]) => (match callN l with
        | some (g, [z]) => decide (g = "_law_result") && glB sc "_law_result" && isLam N cs f es sc z && isE N cs e sc r && !isSet r && isSs a sc v && isSs b sc w
        | _ => false)
      | _ => false)
    | none => false
  | .any, _, _ => false
def isSs : Ss → Scope → List Stmt → Bool
  | .nil, _, [] => true
  | .cons (.fr _) ss, sc, sts => isSs ss sc sts
  | .cons .any _, _, _ => true
  | .cons s ss, sc, st :: sts => isS s sc st && isSs ss sc sts
  | _, _, _ => false
end
end

section
variable {X : Cx} {F : Fx} {ρ : Env} {N : List Str} {sc : Scope} {fs : Str → Bool} {cs : List (Str × Key)} {Φ : Tab} {exs : List Str}
theorem df_listS (C : Ctx X N sc fs cs Φ) {e : Expr} {x : Str} {p pos : Pos} (hg : Gl X "list") (h : DE X F e ρ (.str x)) (hl : x.cps.size ≤ 16777216) (hs : notStar e = true) : DF X F (.Call (.Name "list" p) [e] [] pos) ρ (.ow (.list (x.cps.toList.map fun c => .str ⟨#[c]⟩))) := by
  intro σ H H0 Q env k
  refine tOf_of (pe_callTy (call_listS C.calm) hg (C.blt _ (by decide)) PyProof.Rows.boot_list (pa_cons pe_of pa_nil (star_cons hs)) (by decide) (by decide) (star_cons hs) rfl) ?_
  refine h σ H H0 _ env fun v H1 H01 p1 r1 => ?_
  cases r1
  refine ⟨x, rfl, hl, fun p np => k _ _ H01 [p] (p1.trans (Post.own p1.c np)) (.lst upd_same ?_) fun a ha => by
      simp at ha; subst ha
      exact ⟨p1.b.free np, p1.c.free np⟩⟩
  have q := RDL.strs (K := X.K) (H := H01) (x.cps.toList.map fun c => (⟨#[c]⟩ : Str))
  rw [List.map_map, List.map_map] at q
  exact q
/-! ### new things -/
theorem hold_o {d : D} {b : B} (h : hold .o d = some b) (xs : List D) (e : d = .list xs) : b = .ow (.list xs) := by subst e; cases h; rfl
theorem lc_parts (C : Ctx X N sc fs cs Φ) {elt : E} {t : T} {it : I} {c : Eo} {x : Expr} {d : D} (h : isE N cs (.lc elt t it c) sc x = true) (he : evE Φ (.lc elt t it c) ρ = some d) :
    ∃ e tg iter ifs scope p ds out f, x = .ListComp e [⟨tg, iter, ifs, 0⟩] scope p ∧ d = .list out ∧ DI X F tg iter ρ ds ∧ lcGo f ds = some out ∧ (∀ d ∈ ds, ∀ r, f d = some r → Step X F (tBG X scope tg) (tBTs X scope ifs) (tB_ X scope e) t.slots (wipeB ρ t.slots) d r) ∧ blkC N sc scope (ownOf N t.slots) = true ∧ isSet iter = false := by
  unfold isE at h
  split at h
  case h_2 => cases h
  rename_i e tg iter ifs as scope hx
  obtain ⟨p, rfl⟩ := lcOf_is hx
  simp only [Bool.and_eq_true, decide_eq_true_eq, Bool.not_eq_true'] at h
  obtain ⟨⟨⟨⟨⟨⟨rfl, h1⟩, h2⟩, h3⟩, h4⟩, h5⟩, h6⟩ := h
  unfold evE at he
  obtain ⟨ds, e1, hq⟩ := obind he
  obtain ⟨out, e2, rfl⟩ := omap hq
  refine ⟨e, tg, iter, ifs, scope, p, ds, out, _, rfl, rfl, soundI it C h1 e1, e2, fun d hd r hr => ?_, h5, h6⟩
  obtain ⟨ρ1, f1, hr⟩ := obind hr
  obtain ⟨k, f2, hr⟩ := obind hr
  refine step_ok (k := k) C h2 (fun i hi => hi) f1 (fun s H D cl fp => soundC c (C.blk s H D cl fp) h4 f2) (fun ek => ?_) (fun ek => ?_)
  · subst ek
    rw [if_pos rfl] at hr
    obtain ⟨z, f3, rfl⟩ := omap hr
    exact ⟨z, rfl, fun s H D cl fp => (soundE elt (C.blk s H D cl fp) h3 f3).1⟩
  · subst ek
    rw [if_neg (by decide)] at hr
    cases hr; rfl
theorem lc2_parts (C : Ctx X N sc fs cs Φ) {elt : E} {t t2 : T} {it it2 : I} {c : Eo} {x : Expr} {d : D} (h : isE N cs (.lc2 elt t it t2 it2 c) sc x = true) (he : evE Φ (.lc2 elt t it t2 it2 c) ρ = some d) :
    ∃ e tg iter tg2 iter2 ifs2 scope p ds out f, x = .ListComp e [⟨tg, iter, [], 0⟩, ⟨tg2, iter2, ifs2, 0⟩] scope p ∧ d = .list out ∧ DI X F tg iter ρ ds ∧ lcGo2 f ds = some out ∧ out.length ≤ 16777216 ∧ (∀ d ∈ ds, ∀ o, f d = some o → Turn2 X F scope tg tg2 iter2 e ifs2 (t.slots ++ t2.slots) t2.slots (wipeB ρ (t.slots ++ t2.slots)) d o) ∧ blkC N sc scope (ownOf N (t.slots ++ t2.slots)) = true ∧ isSet iter = false ∧ isSet iter2 = false := by
  unfold isE at h
  split at h
  case h_2 => cases h
  rename_i e tg iter as tg2 iter2 ifs2 as2 scope hx
  obtain ⟨p, rfl⟩ := lcOf_is hx
  simp only [Bool.and_eq_true, decide_eq_true_eq, Bool.not_eq_true'] at h
  obtain ⟨⟨⟨⟨⟨⟨⟨⟨⟨⟨rfl, rfl⟩, h1⟩, h2⟩, h3⟩, h4⟩, h5⟩, h6⟩, h7⟩, h8⟩, h9⟩ := h
  unfold evE at he
  obtain ⟨ds, e1, hq⟩ := obind he
  obtain ⟨out, e2, hq2⟩ := obind hq
  split at hq2
  case isFalse => cases hq2
  rename_i hl
  cases hq2
  refine ⟨e, tg, iter, tg2, iter2, ifs2, scope, p, ds, out, _, rfl, rfl, soundI it C h1 e1, e2, hl, fun d hd o ho => ?_, h7, h8, h9⟩
  obtain ⟨ρ1, f1, ho⟩ := obind ho
  obtain ⟨ds2, f2, ho⟩ := obind ho
  refine ⟨ρ1, ds2, _, ho, fun σ H H0 v Q env rd kk => ?_, fun σ H H0 R env kk => ?_, fun d2 hd2 r hr => ?_⟩
  · intro s Hs Cc cl fp
    have CB := C.blk (scope := scope) s Hs Cc cl fp
    exact dg (X := blkX X scope s Hs Cc cl fp) CB.hN CB.nd CB.hsc CB.hfs CB.calm h2 f1 rd env fun σ2 env2 w2 => kk σ2 env2 (w2 _ fun i hi => by simp [hi])
  · intro s Hs Cc cl fp
    exact soundI it2 (C.blk s Hs Cc cl fp) h3 f2 σ H H0 R env kk
  · obtain ⟨ρ2, g1, hr⟩ := obind hr
    obtain ⟨k, g2, hr⟩ := obind hr
    refine step_ok (k := k) C h4 (fun i hi => hi) g1 (fun s H D cl fp => soundC c (C.blk s H D cl fp) h6 g2) (fun ek => ?_) (fun ek => ?_)
    · subst ek
      rw [if_pos rfl] at hr
      obtain ⟨z, f3, rfl⟩ := omap hr
      exact ⟨z, rfl, fun s H D cl fp => (soundE elt (C.blk s H D cl fp) h5 f3).1⟩
    · subst ek
      rw [if_neg (by decide)] at hr
      cases hr; rfl
/-- [[] for t in it] -/
theorem nest_parts (C : Ctx X N sc fs cs Φ) {t : T} {it : I} {x : Expr} {d : D} (h : isE N cs (.lc (.lst .nil) t it .no) sc x = true) (he : evE Φ (.lc (.lst .nil) t it .no) ρ = some d) :
    ∃ lp tg iter scope p ds, x = .ListComp (.List [] lp) [⟨tg, iter, [], 0⟩] scope p ∧ d = .list (ds.map fun _ => .list []) ∧ DI X F tg iter ρ ds ∧ blkC N sc scope (ownOf N t.slots) = true ∧ isSet iter = false ∧
      (∀ d ∈ ds, ∀ (σ : L2.St) (H H0 : Hp) (v : V) (Q : L2.St → Hp → Prop), EnvOk X.K F H0 H σ (wipeB ρ t.slots) → RD X.K H0 v d → (∀ σ2, wipe σ2 t.slots = wipe σ t.slots → Q σ2 H) → tBG X scope tg v σ H Q) := by
  unfold isE at h
  split at h
  case h_2 => cases h
  rename_i e tg iter ifs as scope hx
  obtain ⟨p, rfl⟩ := lcOf_is hx
  simp only [Bool.and_eq_true, decide_eq_true_eq, Bool.not_eq_true'] at h
  obtain ⟨⟨⟨⟨⟨⟨rfl, h1⟩, h2⟩, h3⟩, h4⟩, h5⟩, h6⟩ := h
  have hifs : ifs = [] := by cases ifs with | nil => rfl | cons _ _ => cases h4
  subst hifs
  unfold isE at h3
  split at h3
  case h_2 => cases h3
  rename_i xs hx3
  obtain ⟨lp, rfl⟩ := lstOf_is hx3
  have hxs : xs = [] := by cases xs with | nil => rfl | cons _ _ => cases h3
  subst hxs
  unfold evE at he
  obtain ⟨ds, e1, hq⟩ := obind he
  obtain ⟨out, e2, rfl⟩ := omap hq
  have key : ∀ (ds out : List D), lcGo (fun d => (bindT t d (wipeB ρ t.slots)).bind fun ρ1 => (evC Φ .no ρ1).bind fun k => if k = true then (evE Φ (.lst .nil) ρ1).map some else some none) ds = some out → out = (ds.map fun _ => PyData.list []) ∧ ∀ d ∈ ds, ∃ ρ1, bindT t d (wipeB ρ t.slots) = some ρ1 := by
    intro ds
    induction ds with
    | nil => intro out h; cases h; exact ⟨rfl, fun d hd => by cases hd⟩
    | cons d ds ih =>
      intro out h
      obtain ⟨r, rest, g1, g2, rfl⟩ := lcGo_cons h
      obtain ⟨ρ1, b1, g1⟩ := obind g1
      obtain ⟨a1, a2⟩ := ih rest g2
      have hr : r = some (.list []) := by
        have : evC Φ .no ρ1 = some true := rfl
        rw [this, Option.bind_some, if_pos rfl] at g1
        have e : evE Φ (.lst .nil) ρ1 = some (.list []) := by
          unfold evE evL
          rfl
        rw [e] at g1
        cases g1; rfl
      subst hr
      refine ⟨by simp [consO, a1], fun d' hd' => ?_⟩
      rcases List.mem_cons.mp hd' with rfl | hd'
      · exact ⟨ρ1, b1⟩
      · exact a2 d' hd'
  obtain ⟨a1, a2⟩ := key ds out e2
  refine ⟨lp, tg, iter, scope, p, ds, rfl, by rw [a1], soundI it C h1 e1, h5, h6, fun d hd σ H H0 v Q env rd kk => ?_⟩
  obtain ⟨ρ1, b1⟩ := a2 d hd
  intro s Hs Cc cl fp
  have CB := C.blk (scope := scope) s Hs Cc cl fp
  exact dg (X := blkX X scope s Hs Cc cl fp) CB.hN CB.nd CB.hsc CB.hfs CB.calm h2 b1 rd env fun σ2 env2 w2 => kk σ2 (w2 _ fun i hi => hi)
theorem soundF (C : Ctx X N sc fs cs Φ) {m : M} {e : E} {x : Expr} {d : D} {b : B} (hm : m ≠ .s) (h : isE N cs e sc x = true) (he : evE Φ e ρ = some d) (hf : freshB m e = true) (hb : hold m d = some b) : isOwn b = true ∧ DF X F x ρ b := by
  unfold freshB at hf
  split at hf
  · rename_i es
    unfold isE at h
    split at h
    case h_2 => cases h
    rename_i xs hx
    obtain ⟨p, rfl⟩ := lstOf_is hx
    unfold evE at he
    obtain ⟨ds, e1, hq⟩ := obind he
    split at hq
    case isFalse => cases hq
    rename_i hl
    cases hq
    cases hb
    exact ⟨rfl, df_lst (soundL es C h e1).1 hl⟩
  · rename_i f e1
    have ef := of_decide_eq_true hf
    subst ef
    unfold isE at h
    split at h
    case h_2 => cases h
    rename_i g y ys hx
    obtain ⟨p, q, rfl⟩ := callN_is hx
    simp only [Bool.and_eq_true, decide_eq_true_eq] at h
    obtain ⟨⟨rfl, h1⟩, h3⟩ := h
    unfold isEs at h3
    simp only [Bool.and_eq_true] at h3
    obtain ⟨⟨h4, h5⟩, h6⟩ := h3
    have hys : ys = [] := by cases ys with | nil => rfl | cons _ _ => cases h6
    subst hys
    unfold evE at he
    obtain ⟨ds, e2, hq⟩ := obind he
    unfold evL at e2
    obtain ⟨u, e3, e4⟩ := obind e2
    obtain ⟨us, e5, rfl⟩ := omap e4
    cases e5
    have ih := (soundE (F := F) e1 C h4 e3).1
    by_cases hdu : ∃ kvs, u = .dict kvs
    · obtain ⟨kvs, rfl⟩ := hdu
      have hq' : (if kvs = [] then none else (keyInts kvs).map fun is => PyData.list (is.map .int)) = some d := hq
      split at hq'
      · cases hq'
      · rename_i hne
        obtain ⟨is, e6, rfl⟩ := omap hq'
        cases hb
        exact ⟨rfl, df_listD C (glB_is C.hsc h1) ih hne e6 h5⟩
    by_cases hsu : ∃ x, u = .str x
    · obtain ⟨x, rfl⟩ := hsu
      have hq' : (if x.cps.size ≤ 16777216 then some (PyData.list (x.cps.toList.map fun c => .str ⟨#[c]⟩)) else none) = some d := hq
      split at hq'
      · rename_i hl
        cases hq'
        cases hb
        exact ⟨rfl, df_listS C (glB_is C.hsc h1) ih hl h5⟩
      · cases hq'
    have key : ∃ xs, (u = .list xs ∨ u = .tuple xs) ∧ d = .list xs := by
      cases u with
      | list xs => cases hq; exact ⟨_, .inl rfl, rfl⟩
      | tuple xs => cases hq; exact ⟨_, .inr rfl, rfl⟩
      | dict kvs => exact absurd ⟨kvs, rfl⟩ hdu
      | str x => exact absurd ⟨x, rfl⟩ hsu
      | _ => cases hq
    obtain ⟨xs, hu, rfl⟩ := key
    cases hb
    exact ⟨rfl, df_listOf C (glB_is C.hsc h1) ih hu h5⟩
  · obtain ⟨e, tg, iter, ifs, scope, p, ds, out, f, rfl, rfl, hi, ho, hst, ok, hs⟩ := lc_parts (F := F) C h he
    cases hb
    exact ⟨rfl, df_lc C hi ho hst ok (folded_no hs)⟩
  · obtain ⟨e, tg, iter, tg2, iter2, ifs2, scope, p, ds, out, f, rfl, rfl, hi, ho, hl, hst, ok, hs, hs2⟩ := lc2_parts (F := F) C h he
    cases hb
    exact ⟨rfl, df_lc2 C hi ho hl hst ok (fun i hi => by simp [hi]) (folded_no hs) (fun env x => folded_no hs2 x)⟩
  · obtain ⟨lp, tg, iter, scope, p, ds, rfl, rfl, hi, ok, hs, hg⟩ := nest_parts (F := F) C h he
    unfold hold at hb
    simp only at hb
    split at hb
    · cases hb
      exact ⟨rfl, df_nest C hi hg ok hs⟩
    · cases hb
  · obtain ⟨p, rfl⟩ := isD0_is h
    unfold evE at he
    cases he
    cases hb
    exact ⟨rfl, df_dnT⟩
  · obtain ⟨p, rfl⟩ := isD0_is h
    unfold evE at he
    cases he
    cases hb
    exact ⟨rfl, df_dnK⟩
  · unfold isE at h
    split at h
    case h_2 => cases h
    rename_i l r hx
    obtain ⟨p, rfl⟩ := d1Of_is hx
    simp only [Bool.and_eq_true] at h
    unfold evE at he
    obtain ⟨u, e1, hq⟩ := obind he
    obtain ⟨w, e2, hq2⟩ := obind hq
    split at hq2
    case isFalse => cases hq2
    rename_i hk
    cases hq2
    cases hb
    exact ⟨rfl, df_one C.room (soundE _ C h.1 e1).1 (soundE _ C h.2 e2).1 hk⟩
  · exact absurd rfl hm
  · cases hf
end
end OL

end
section
set_option Elab.async false
set_option linter.all false
set_option maxRecDepth 100000
set_option maxHeartbeats 8000000
/-! a lambda as a value, and its call -/
namespace OL
open PySem PySem.Spec PyProof.Rows L2 RZ
/-- the text of a lambda without parameters, and the cells that it got -/
structure Lam where
  q : Str
  params : Arguments
  body : Expr
  scope : Scope
  cl : List (Str × Addr)
  pm : Value
  c : Addr
  ct : Value
abbrev Lam.obj (l : Lam) : Obj := PySem.W.kla_obj "<lambda>" l.q l.params l.body l.scope l.cl l.pm l.c l.ct
/-- it stands at f, the names N that it got hold σ -/
structure CloAt (l : Lam) (f : Addr) (N : List Str) (σ : L2.St) (H : Hp) (h : Heap) : Prop where
  get : h.get? f = some l.obj
  out : H f = none
  code : H l.c = some (LamX.CodeO l.c l.q)
  cell : ∀ x c, l.cl.lookup x = some c → H c = none ∧ ∃ v, h.IsCell c v
  val : ∀ (i : Nat) (x : Str) (v : V), N[i]? = some x → σ[i]? = some (some v) → l.scope.names.lookup x = some .free → ∃ u c, RelV v u ∧ l.cl.lookup x = some c ∧ h.IsCell c (some u)
/-- .. what the text says -/
structure Lam.Ok (l : Lam) : Prop where
  kind : l.scope.kind = .function
  co : l.scope.isCoroutine = false
  gen : l.scope.isGenerator = false
  own : ∀ y ∈ l.scope.names, y.2 ≠ .local ∧ y.2 ≠ .cell
  inj : ∀ y z c, l.cl.lookup y = some c → l.cl.lookup z = some c → y = z
  has : ∀ y, l.scope.names.lookup y = some .free → ∃ c, l.cl.lookup y = some c
  bind : bindArgs (PySem.W.kla_fn "<lambda>" l.q l.params l.body l.scope l.cl l.pm (.ref l.c) l.ct) ⟨[], []⟩ = pure []
theorem CloAt.un {l : Lam} {f : Addr} {N : List Str} {σ : L2.St} {H H' : Hp} {h h' : Heap} {fs : List Addr} (C : CloAt l f N σ H h) (u : Un fs [] H H' h h') (hf : f ∉ fs) (hc : H' l.c = some (LamX.CodeO l.c l.q)) : CloAt l f N σ H' h' := by
  have cellK : ∀ {c : Addr} {v : Option Value}, H c = none → h.IsCell c v → h'.IsCell c v := fun {c v} n ⟨o, ho, hd⟩ => by
    obtain ⟨sl, q⟩ := u.any ho n (by simp)
    exact ⟨_, q, hd⟩
  refine ⟨u.keep f _ C.get C.out hf (by simp), u.free f _ C.get C.out (by simp), hc, fun x c e => ?_, fun i x v h1 h2 h3 => ?_⟩
  · obtain ⟨n, v, o, ho, hd⟩ := C.cell x c e
    exact ⟨u.free c o ho n (by simp), v, cellK n ⟨o, ho, hd⟩⟩
  · obtain ⟨w, c, r, e, z⟩ := C.val i x v h1 h2 h3
    exact ⟨w, c, r, e, cellK (C.cell x c e).1 z⟩
theorem CloAt.step {l : Lam} {f : Addr} {N : List Str} {σ : L2.St} {H : Hp} {h h' : Heap} (C : CloAt l f N σ H h) (k : ∀ b o, h.get? b = some o → h'.get? b = some o) : CloAt l f N σ H h' :=
  ⟨k _ _ C.get, C.out, C.code, fun x c e => let ⟨n, v, o, ho, hd⟩ := C.cell x c e; ⟨n, v, o, k _ _ ho, hd⟩, fun i x v h1 h2 h3 => let ⟨w, c, r, e, o, ho, hd⟩ := C.val i x v h1 h2 h3; ⟨w, c, r, e, o, k _ _ ho, hd⟩⟩
abbrev lmEnv (l : Lam) (L f : Addr) : PySem.Env := PySem.W.envX l.q l.scope L f (.ref l.c) l.cl
/-- the context of its body -/
def lmCx (l : Lam) (P : Program) (w : World) (K : PySem.W.Frag) (mg : Str → Option Value) (base : Heap) (N : List Str) (A : Around) (outer : List PySem.Env) (s : Shared) (H : Hp) (E : XK) (f : Addr) : Cx where
  prog := P
  w := w
  K := K
  mg := mg
  base := base
  A := A.deeper (lmEnv l s.heap.objs.size f)
  N := N
  s_0 := s
  H_0 := H
  env := lmEnv l s.heap.objs.size f
  outer := outer
  stack := lmEnv l s.heap.objs.size f :: outer
  ex := []
  fn := fun _ => false
  calm := true
  pn := []
  xe := fun e s' => wpAny (model P w) (A.deeper (lmEnv l s.heap.objs.size f)) (leaving (lmEnv l s.heap.objs.size f) e) (fun _ z => L2.CX P w outer H s E e z) (fun e' z => L2.CX P w outer H s E e' z) s'
theorem lm_start {l : Lam} (O : l.Ok) {P : Program} {w : World} {K : PySem.W.Frag} {mg : Str → Option Value} {base : Heap} {N : List Str} {σ : L2.St} (hl : σ.length = N.length) {A : Around} {outer : List PySem.Env} {s : Shared} {H : Hp} {E : XK} {f : Addr} {h1 : Heap} {tk : Nat} (C : CloAt l f N σ H s.heap) (e0 : Env0 P w K mg base A outer s H) (hd : A.handled = none)
    (hns : h1.Ns s.heap.objs.size fun y => ([] : List (Str × Value)).reverse.lookup y) (kp : ∀ b o, s.heap.get? b = some o → h1.get? b = some o) : Inv (lmCx l P w K mg base N A outer s H E f) [] σ H { s with heap := h1, toks := tk } := by
  have D := C.step kp
  have no : ∀ b : Addr, b ∉ (lmCx l P w K mg base N A outer s H E f).ex := fun b z => by cases z
  have vis : ∀ {y : Str}, Vis l.scope y → l.scope.names.lookup y = some .free := fun {y} z => by
    rcases z with k | k | k
    · exact absurd rfl (O.own _ (PySem.mem_of_lookup k)).1
    · exact absurd rfl (O.own _ (PySem.mem_of_lookup k)).2
    · exact k
  constructor
  case ok =>
    constructor
    case mod => exact e0.mod
    case kind => exact O.kind
    case glob => rfl
    case blt => rfl
    case above => exact Nat.le_refl _
    case inj => exact fun y z c a b => O.inj y z c a b
    case has => exact fun y hy => O.has y (vis (hy.elim (fun z => .inr (.inl z)) fun z => .inr (.inr z)))
    case cab => exact fun y c z _ => by cases z
    case hd => exact fun _ => hd
    case frames => exact Around.frames_deeper e0.frames
    case stk => exact .inr ⟨rfl, rfl⟩
    case exf => exact fun b z => absurd z (no b)
    case bs => exact e0.bs
    case bsz => exact e0.bsz
    case noex => exact fun b _ _ => no b
    case exfs => exact fun b z => absurd z (no b)
    case funs => exact e0.funs
    case frf => exact e0.frf
  case os => rfl
  case bare => exact e0.bare
  case base => exact Un.kept kp
  case loc =>
    refine ⟨_, hns, fun i y v e1 e2 e3 => ?_⟩
    have fr := vis e3
    obtain ⟨u, c, r, e, z⟩ := D.val i y v e1 e2 fr
    exact ⟨u, r, .inr ⟨.inr fr, c, e, z⟩⟩
  case cell => exact fun y c e => (D.cell y c e).2
  case free => exact e0.hok.fresh (Nat.le_refl _)
  case freeC => exact fun y c e => (D.cell y c e).1
  case pin => exact fun q hq => by cases hq
  case hok => exact e0.hok.kept kp
  case len => exact hl
/-- it is called -/
theorem lm_run {l : Lam} (O : l.Ok) {P : Program} {w : World} {K : PySem.W.Frag} {mg : Str → Option Value} {base : Heap} {N : List Str} {σ : L2.St} (hl : σ.length = N.length) {A : Around} {outer : List PySem.Env} {s : Shared} {H : Hp} {Q : VK} {E : XK} {f : Addr} {k : Nat} {tb : TE} (C : CloAt l f N σ H s.heap) (e0 : Env0 P w K mg base A outer s H) (hr : Room (k + 1) A)
    (hbody : Room k (A.deeper (lmEnv l s.heap.objs.size f)) → PE (lmCx l P w K mg base N A outer s H E f) l.body tb) (ht : tb σ H Q) : codeAny (model P w) A (.call (.ref f) ⟨[], []⟩) (CR (L2.CX P w) outer P w H s Q E) s := by
  obtain ⟨⟨oc, vs, t, hoc, hdc, hvc⟩, _, _⟩ := e0.hok l.c _ C.code
  refine PySem.W.kla_callFunE hr.depth C.get rfl O.co O.gen rfl ⟨l.c, oc, vs, t, rfl, hoc, hdc, hvc⟩ ?_
  rw [O.bind]
  refine wpAny_pure (wpAny_newFunctionEnv (fun y hy => (O.own y hy).2) (fun y hy => absurd hy (by simp)) (fun h1 hns hsb => ⟨(e0.mod.nolimit.keeps fun b o e => (e0.bs b o e).1).fresh _ hsb, ?_⟩) O.kind)
  show codeAny _ _ (.expr l.body (lmEnv l s.heap.objs.size f)) _ _
  have kp : ∀ b o, s.heap.get? b = some o → h1.get? b = some o := fun b o e => hsb.extBut b o (Nat.ne_of_lt (Heap.lt_size e)) (Heap.get?_push_of_some _ e)
  refine PySem.W.kla_codeExpr (wpAny_mono ((hbody (hr.deeper _)).run [] _ _ H Q (lm_start (tk := s.toks + ([] : List (Str × Value)).length) O hl C e0 hr.hd hns kp) ht) (fun v s' ⟨w', H', J, rv, q⟩ => ⟨w', H', J.os, J.bare, J.base, J.hok, rv, q⟩) fun e s' hq => hq)
/-- x(), x a name that holds it -/
theorem pe_clo {X : Cx} {l : Lam} (O : l.Ok) {N : List Str} {σ : L2.St} (hl : σ.length = N.length) {f : Addr} {k i : Nat} {a : Str} {W : WX} {E : XK} {tb : TE} {p1 p2 : Pos} (hC : ∀ pins σ' H s, Inv X pins σ' H s → H l.c = some (LamX.CodeO l.c l.q) → CloAt l f N σ H s.heap) (tk : Takes X W) (hW : ∀ cls d σ' H', E cls d H' → W cls d σ' H') (hr : Room (k + 1) X.A)
    (hbody : ∀ (s : Shared) (H : Hp), Room k (X.A.deeper (lmEnv l s.heap.objs.size f)) → PE (lmCx l X.prog X.w X.K X.mg X.base N X.A X.stack s H E f) l.body tb)
    (hN : X.N[i]? = some a) (hv : Vis X.env.scope a) (hd : (a == ("__debug__" : Str)) = false) (hcd : (a == ("__classdict__" : Str)) = false) :
    PE X (.Call (.Name a p1) [] [] p2) (fun σ' H Q => σ'[i]? = some (some (.ref f)) ∧ H l.c = some (LamX.CodeO l.c l.q) ∧ tb σ H Q) := by
  refine ⟨fun pins s σ' H Q I ⟨hs, hc, ht⟩ => ?_⟩
  refine wpAny_Call_Name_kw (thn ((pe_var (pos := p1) (i := i) hN hv hd hcd).run pins s σ' H (fun v H1 => v = .ref f ∧ H1 = H) I ⟨.ref f, hs, rfl, rfl⟩) fun u s1 ⟨v, H1, I1, r1, ev, eH⟩ => ?_)
  subst ev eH
  obtain rfl : u = Value.ref f := r1
  have C := hC pins σ' H1 s1 I1 hc
  refine PySem.W.callWith_F0 ⟨_, _, _, _, C.get⟩ ?_
  have hx : Passes (L2.CX X.prog X.w) X E := passes_call tk hW
  refine wpAny_call (codeAny_mono (lm_run O hl C I1.env0 hr (hbody s1 H1) ht) fun r s' hq => ?_)
  cases r with
  | error e => exact hx pins σ' H1 s1 e s' I1 hq
  | ok fl => cases fl with
    | ret u => exact I1.after hq
    | next => exact False.elim hq
    | brk => exact False.elim hq
    | cont => exact False.elim hq
end OL

end
section
set_option Elab.async false
set_option linter.all false
set_option maxRecDepth 100000
set_option maxHeartbeats 8000000
/-! the def that calls what it got, and catches -/
namespace OL
open PySem PySem.Spec PyProof.Rows L2 RZ
/-- what a call's end makes of the heaps -/
def Outc (K : PySem.W.Frag) (mg : Str → Option Value) (r : Except Str D) (H0 H : Hp) (Q : VK) (E : XK) : Prop := match r with
  | .ok d => ∀ (v : V) (H' H0' : Hp), Post H0 H H0' H' → RD K H0' v d → Q v H'
  | .error x => ∀ (C : Addr) (H' H0' : Hp), mg x = some (.ref C) → Post H0 H H0' H' → E (.ref C) none H'
def lamT (l : Lam) (P : Program) (w : World) (K : PySem.W.Frag) (mg : Str → Option Value) (base : Heap) (N : List Str) (f : Addr) (k : Nat) (E : XK) : TE := fun σ H1 Q => ∀ (A : Around) (outer : List PySem.Env) (s : Shared) (H : Hp), Room k (A.deeper (lmEnv l s.heap.objs.size f)) → tOf (lmCx l P w K mg base N A outer s H E f) l.body σ H1 Q
/-- the lambda's outcome is r, wherever the captured values vs are worth ds -/
def LamR (l : Lam) (P : Program) (w : World) (K : PySem.W.Frag) (mg : Str → Option Value) (base : Heap) (N : List Str) (σ : L2.St) (f : Addr) (k : Nat) (vs : List V) (ds : List D) (r : Except Str D) : Prop :=
  ∀ (E : XK) (H1 H01 : Hp) (Q : VK), RDL K H01 vs ds → Same H01 H1 → Outc K mg r H01 H1 Q E → lamT l P w K mg base N f k E σ H1 Q
/-- the closure stands in the ground -/
structure CloB (l : Lam) (f : Addr) (N : List Str) (σ : L2.St) (base : Heap) : Prop where
  get : base.get? f = some l.obj
  cell : ∀ x c, l.cl.lookup x = some c → ∃ v, base.IsCell c v
  val : ∀ (i : Nat) (x : Str) (v : V), N[i]? = some x → σ[i]? = some (some v) → l.scope.names.lookup x = some .free → ∃ u c, RelV v u ∧ l.cl.lookup x = some c ∧ base.IsCell c (some u)
theorem CloB.at {l : Lam} {f : Addr} {N : List Str} {σ : L2.St} {base : Heap} (C : CloB l f N σ base) {X : Cx} {pins : List (Addr × Obj)} {σ' : L2.St} {H : Hp} {s : Shared} (I : Inv X pins σ' H s) (hX : X.base = base) (hc : H l.c = some (LamX.CodeO l.c l.q)) : CloAt l f N σ H s.heap := by
  subst hX
  refine ⟨(I.bs _ _ C.get).1, (I.bs _ _ C.get).2, hc, fun x c e => ?_, fun i x v h1 h2 h3 => ?_⟩
  · obtain ⟨v, o, ho, hd⟩ := C.cell x c e
    exact ⟨(I.bs _ _ ho).2, v, o, (I.bs _ _ ho).1, hd⟩
  · obtain ⟨u, c, r, e, o, ho, hd⟩ := C.val i x v h1 h2 h3
    exact ⟨u, c, r, e, o, (I.bs _ _ ho).1, hd⟩
/-! ### the text of _law_result -/
abbrev resN : List Str := ["call", "error"]
def call0 : Expr → Option Str
  | .Call f [] [] _ => nameOf f
  | _ => none
theorem call0_is {x : Expr} {y : Str} (h : call0 x = some y) : ∃ p q, x = .Call (.Name y p) [] [] q := by
  cases x with
  | Call f as ks p =>
    cases as with
    | nil => cases ks with
      | nil => obtain ⟨q, rfl⟩ := nameOf_is h; exact ⟨q, p, rfl⟩
      | cons _ _ => cases h
    | cons _ _ => cases h
  | _ => cases h
def isRes (sc : Scope) (body : List Stmt) : Bool := match body with
  | [st] => (match tryOf st with
    | some ([b], x, n, u, []) => (match retOf b, retOf u with
      | some c, some t => decide (call0 c = some ("call" : Str)) && decide (x = "LeagueError") && decide (n = "error") && glB sc "LeagueError" && glB sc "_law_class" && visB sc "call" && locOnly sc "error" && visB sc "error" && (match tupOf t with
        | some [e1, e2] => decide (strOf e1 = some ("error" : Str)) && (match callN e2 with
          | some (g, [z]) => decide (g = "_law_class") && decide (nameOf z = some ("error" : Str))
          | _ => false)
        | _ => false)
      | _, _ => false)
    | _ => false)
  | _ => false
structure ResF (K : PySem.W.Frag) (mg : Str → Option Value) (exs : List Str) (body : List Stmt) (scope : Scope) : Prop where
  at_ : DefAt K mg "_law_result" resN ["call"] body scope
  chk : isRes scope body = true
  cls : ∃ b2 sc2, ClsF K mg exs b2 sc2
  le : ∃ B, mg "LeagueError" = some (.ref B) ∧ ∀ y ∈ clsA, ∀ C, mg y = some (.ref C) → PySem.W.exmOne K (.ref C) (.ref B) = some true
section
variable {P : Program} {w : World} {K : PySem.W.Frag} {mg : Str → Option Value} {base : Heap} {exs : List Str} {body : List Stmt} {scope : Scope}
theorem res_reads (R : ResF K mg exs body scope) {l : Lam} (O : l.Ok) {f : Addr} {N : List Str} {σ : L2.St} (hl : σ.length = N.length) {k : Nat} {H0 : Hp} {r : Except Str D} (hr : ∀ y, r = .error y → y ∈ clsA) {g : Addr} {cdv : Value} {A : Around} {outer : List PySem.Env} {s : Shared} {H : Hp} (C : CloB l f N σ base) (hcode : H l.c = some (LamX.CodeO l.c l.q)) (sm : Same H0 H) {vs : List V} {ds : List D} (rv : RDL K H0 vs ds)
    (L : LamR l P w K mg base N σ f k vs ds r) (rm : Room (k + 2) (A.deeper (envOfC "_law_result" scope s.heap.objs.size g cdv))) {Q : VK} (q : ∀ (v : V) (H' H0' : Hp), Post H0 H H0' H' → RD K H0' v (resD r) → Q v H') :
    tOfSs (cxOf C8.CX0 P w K mg base resN "_law_result" scope g cdv A outer s H C8.E0) body { nx := fun _ H' => Q .non H', rt := Q } (L2.start resN [.ref f]) H := by
  obtain ⟨b2, sc2, F2⟩ := R.cls
  obtain ⟨B, hB, hex⟩ := R.le
  have hchk := R.chk
  unfold isRes at hchk
  split at hchk
  case h_2 => cases hchk
  rename_i st
  split at hchk
  case h_2 => cases hchk
  rename_i b x n u ht
  obtain ⟨np, p', pos, rfl⟩ := tryOf_is ht
  split at hchk
  case h_2 => cases hchk
  rename_i c t hc ht2
  obtain ⟨rp, rfl⟩ := retOf_is hc
  obtain ⟨rp2, rfl⟩ := retOf_is ht2
  simp only [Bool.and_eq_true, decide_eq_true_eq] at hchk
  obtain ⟨⟨⟨⟨⟨⟨⟨⟨c1, rfl⟩, rfl⟩, c4⟩, c5⟩, c6⟩, c7⟩, c8⟩, c9⟩ := hchk
  obtain ⟨p1, p2, rfl⟩ := call0_is c1
  split at c9
  case h_2 => cases c9
  rename_i e1 e2 htp
  obtain ⟨tj, tp, rfl⟩ := tupOf_is htp
  simp only [Bool.and_eq_true, decide_eq_true_eq] at c9
  obtain ⟨c9, c10⟩ := c9
  obtain ⟨sj, sp, rfl⟩ := strOf_is c9
  split at c10
  case h_2 => cases c10
  rename_i gn z hcn
  obtain ⟨gp, gpos, rfl⟩ := callN_is hcn
  simp only [Bool.and_eq_true, decide_eq_true_eq] at c10
  obtain ⟨rfl, c11⟩ := c10
  obtain ⟨zp, rfl⟩ := nameOf_is c11
  have hln : scope.names.lookup ("error" : Str) = some .local := locOnly_is c7
  have act : ∀ (W : WX) (pn : List (Addr × Obj)) (xe : Value → Shared → Prop) (E : XK), Takes ((cxOf C8.CX0 P w K mg base resN "_law_result" scope g cdv A outer s H C8.E0).tr pn xe) W → (∀ cls d σ' H', E cls d H' → W cls d σ' H') →
      PE ((cxOf C8.CX0 P w K mg base resN "_law_result" scope g cdv A outer s H C8.E0).tr pn xe) (.Call (.Name "call" p1) [] [] p2) (fun σ' H' Q' => σ'[0]? = some (some (.ref f)) ∧ H' l.c = some (LamX.CodeO l.c l.q) ∧ lamT l P w K mg base N f k E σ H' Q') := fun W pn xe E tk hW =>
    pe_clo (i := 0) (k := k) O hl (fun pins σ' H' s' I hcode => C.at I rfl hcode) tk hW (rm.mono (by omega)) (fun s' H' hr' => ⟨fun pins s2 σ2 H2 Q2 I2 h2 => h2 _ _ s' H' hr' pins s2 I2⟩) rfl (visB_is c6) (by decide) (by decide)
  refine tOfSs_of (pss_one (ps_try_as (X := cxOf C8.CX0 P w K mg base resN "_law_result" scope g cdv A outer s H C8.E0) (i := 1) (c := .ref B)
    (tb := fun W D σ' H' => ∃ E : XK, (∀ cls d σ'' H'', E cls d H'' → W cls d σ'' H'') ∧ σ'[0]? = some (some (.ref f)) ∧ H' l.c = some (LamX.CodeO l.c l.q) ∧ lamT l P w K mg base N f k E σ H' D.rt)
    (ts := fun a cls d D σ H' => ∀ oe pn, Zc cls d oe → (∃ vs, oe.data = .fields vs) → tOfSs ((cxOf C8.CX0 P w K mg base resN "_law_result" scope g cdv A outer s H C8.E0).suite a ((a, oe) :: pn)) [.Return (some (.Tuple [.Constant (.str "error") sj sp, .Call (.Name "_law_class" gp) [.Name "error" zp] [] gpos] tj tp)) rp2] D σ H')
    (Wout := fun _ _ _ _ => False) rfl rfl (by show resN.Nodup; decide) rfl hln ⟨glB_is rfl c4, by decide, .inl hB⟩ LamX.takes0
    (fun W pn xe tk po => ⟨fun pins s' σ' H' D I ⟨E, hW, h1, h2, h3⟩ => (pss_one (ps_ret (pos := rp) (act W pn xe E tk hW))).run pins s' σ' H' D I ⟨h1, h2, h3⟩⟩)
    (fun a oe cls d pn hz hf => ⟨fun pins s' σ' H' D I h => h oe pn hz hf pins s' I⟩))) ?_
  refine ⟨fun cls d H' => ∃ y Dd, r = .error y ∧ cls = .ref Dd ∧ d = none ∧ mg y = some (.ref Dd) ∧ ∃ H0', Post H0 H H0' H', ?_, rfl, hcode, ?_⟩
  · rintro cls d σ' H' ⟨y, Dd, hry, rfl, rfl, hD, H0', pp⟩
    have hy := hr y hry
    refine ⟨true, hex y hy Dd hD, fun _ a na oe pn hz hfl => ?_, fun h => by cases h⟩
    intro pins s1 I
    have hlen : (σ'.set 1 (some (V.ref a))).length = 2 := I.len
    have env1 : EnvOk K ⟨H', H0'⟩ H0' H' (σ'.set 1 (some (.ref a))) [.un, .er a] := by
      refine ⟨hlen, pp.c, Ext.refl _, Same.refl _, fun _ _ h => h, fun _ => [], fun i v b hv hb => ?_, ⟨fun _ _ _ _ h => by simp at h, fun _ _ h => by simp at h⟩⟩
      match i, hv, hb with
      | 0, hv, hb => cases hb; rfl
      | 1, hv, hb =>
        have h2 : 1 < σ'.length := by rw [List.length_set] at hlen; omega
        rw [List.getElem?_set_self h2] at hv
        cases hv; cases hb
        exact ⟨rfl, rfl⟩
      | _ + 2, hv, hb => simp at hb
    have dc : DE ((cxOf C8.CX0 P w K mg base resN "_law_result" scope g cdv A outer s H C8.E0).suite a ((a, oe) :: pn)) ⟨H', H0'⟩ (.Call (.Name "_law_class" gp) [.Name "error" zp] [] gpos) [.un, .er a] (.str y) :=
      de_cls (X := cxOf C8.CX0 P w K mg base resN "_law_result" scope g cdv A outer s H C8.E0) (i := 1) (n := "error") (k := 1) F2 rfl rfl (L2H.roomH_of (rm.mono (by omega))) (by omega) hy hD hz hfl rfl rfl (visB_is c8) (by decide) (by decide) (glB_is rfl c5)
    refine (dss_cons (ds_ret (de_tup (da_cons de_str (da_cons dc da_nil rfl) rfl) (by show 2 ≤ 16777216; omega))) (fun ρ1 e => by cases e) (fun _ => rfl) : DSs _ _ _ _ (.rt (.tuple [.str "error", .str y]))) _ H' H0' _ (fun _ _ _ => False) ?_ env1 (fun v H2 H02 p2 rv => q v H2 H02 (pp.trans p2) (by rw [hry]; exact rv)) pins s1 I
    exact Takes.imp LamX.takes0 fun c d σ H' hW => by obtain ⟨_, _, _, _, _, z⟩ := hW; exact z
  · refine L _ H H0 Q rv sm ?_
    cases r with
    | ok d => exact q
    | error y => exact fun Dd H' H0' hD pp => ⟨y, Dd, rfl, rfl, rfl, hD, H0', pp⟩
/-- a closure whose outcome is known -/
structure CloF (P : Program) (w : World) (K : PySem.W.Frag) (mg : Str → Option Value) (base : Heap) (k : Nat) (d : D) (r : Except Str D) : Prop where
  ex : ∃ (l : Lam) (f : Addr) (N : List Str) (σ : L2.St) (vs : List V) (ds : List D), l.Ok ∧ σ.length = N.length ∧ d = cloD f l.c l.q (vs.map encV) ds ∧ (∃ H2, RDL K H2 vs ds) ∧ CloB l f N σ base ∧ LamR l P w K mg base N σ f k vs ds r
  err : ∀ y, r = .error y → y ∈ clsA
def resG (T : D → Option (Except Str D)) : Fn := fun ds => match ds with
  | [d] => (T d).map fun r => .ok (resD r)
  | _ => none
theorem enc_inj {K : PySem.W.Frag} {H H' : Hp} {v v' : V} {d d' : D} (r : RD K H v d) (r' : RD K H' v' d') (e : encV v = encV v') : v = v' := by
  have rr : ∀ a b : Addr, encV (.ref a) = encV (.ref b) → V.ref a = .ref b := fun a b e => by
    have e1 : PyData.list [.int (a : Nat)] = .list [.int (b : Nat)] := e
    injection e1 with e1
    injection e1 with e1 _
    injection e1 with e1
    rw [show a = b from Int.ofNat.inj e1]
  cases r <;> cases r' <;> first | exact rr _ _ e | (simp only [encV] at e; cases e; rfl) | (simp [encV] at e; done) | rfl
theorem encs_inj {K : PySem.W.Frag} {H H' : Hp} : ∀ {vs vs' : List V} {ds ds' : List D}, RDL K H vs ds → RDL K H' vs' ds' → vs.map encV = vs'.map encV → vs = vs'
  | _, _, _, _, .nil, .nil, _ => rfl
  | _, _, _, _, .nil, .cons _ _, e => by cases e
  | _, _, _, _, .cons _ _, .nil, e => by cases e
  | _, _, _, _, .cons h t, .cons h' t', e => by
    rw [List.map_cons, List.map_cons] at e
    injection e with e1 e2
    rw [enc_inj h h' e1, encs_inj t t' e2]
theorem RD.clo_inv {K : PySem.W.Frag} {H H2 : Hp} {v : V} {f c : Addr} {q : Str} {vs : List V} {ds ds2 : List D} (r : RD K H v (cloD f c q (vs.map encV) ds)) (rv : RDL K H2 vs ds2) : v = .ref f ∧ H c = some (LamX.CodeO c q) ∧ RDL K H vs ds := by
  unfold cloD at r
  generalize he : vs.map encV = e at r
  generalize hf : ((f : Nat) : Int) = fi at r
  generalize hc : ((c : Nat) : Int) = ci at r
  cases r with
  | dT g t => cases t
  | dK g t =>
    generalize hk : (PyData.none) = z at t
    cases t with
    | @cons k0 _ _ _ _ h1 t => cases k0 <;> cases hk
  | @clo f' c' q' _ vs' _ e1 h t =>
    have ef : f = f' := by exact Int.ofNat.inj hf
    have ec : c = c' := by exact Int.ofNat.inj hc
    have ev := encs_inj rv t (he.trans e1)
    subst ef ec ev
    exact ⟨rfl, h, t⟩
/-- the def's name is bound to a function that keeps G -/
def Kept (P : Program) (w : World) (K : PySem.W.Frag) (mg : Str → Option Value) (base : Heap) (k : Nat) (f : Str) (G : Fn) : Prop := ∃ (a : Addr) (fd : FuncData) (ps : List Str), FnOk P w K mg base (L2.CX P w) k a fd ps (spD K mg G) ∧ mg f = some (.ref a) ∧ PySem.W.keepIn K (.ref a) = true ∧ Binds K fd ps []
theorem Kept.mono {k j : Nat} {f : Str} {G : Fn} (h : Kept P w K mg base k f G) (hj : k ≤ j) : Kept P w K mg base j f G := by
  obtain ⟨a, fd, ps, h1, h2⟩ := h
  exact ⟨a, fd, ps, h1.mono hj, h2⟩
/-- it keeps the promise that it tells the outcomes -/
theorem res_kept (R : ResF K mg exs body scope) {k : Nat} {T : D → Option (Except Str D)} (hT : ∀ d r, T d = some r → CloF P w K mg base k d r) : Kept P w K mg base (k + 3) "_law_result" (resG T) := by
  obtain ⟨params, g, fd, FD, hm, hb⟩ := R.at_.ex
  refine ⟨g, fd, ["call"], ⟨fun vs H Q E q => ?_, fun A outer s H args us vs Q E hr e0 hbi rv q => ?_⟩, hm, FD.kp, hb⟩
  · obtain ⟨H0, ds, _, r, q⟩ := q
    unfold resG at q
    split at q
    all_goals rename_i hq
    · split at hq
      · rw [r.length]; rfl
      · cases hq
    · split at hq
      · rw [r.length]; rfl
      · cases hq
    · exact q.elim
  · obtain ⟨H0, ds, sm, rd, q⟩ := q
    match ds, rd, q with
    | [], rd, q => exact (show False from q).elim
    | _ :: _ :: _, rd, q => exact (show False from q).elim
    | [d], rd, q =>
      cases hTd : T d with
      | none =>
        have e : resG T [d] = none := by show (T d).map _ = none; rw [hTd]; rfl
        rw [e] at q
        exact (show False from q).elim
      | some r =>
        have e : resG T [d] = some (.ok (resD r)) := by show (T d).map _ = _; rw [hTd]; rfl
        rw [e] at q
        have F := hT d r hTd
        obtain ⟨l, f, N, σ, vs2, ds2, O, hl, rfl, ⟨H2, rv2⟩, C, L⟩ := F.ex
        cases rd with | cons rd1 rd2 =>
        cases rd2
        obtain ⟨rfl, hc, rv3⟩ := rd1.clo_inv rv2
        obtain ⟨oc, od, dV, kV, doc, pm, an, cdv, ct, osl, rfl, lk, hcd, _, _⟩ := FD.ex
        refine codeAny_mono (LamX.run_ofS (CX := C8.CX0) (E := C8.E0) (Q := Q) (N := resN) (ps := ["call"]) lk hcd R.at_.sc hr e0 hbi rv rfl fun hr' => ⟨_, pss_of, res_reads R O hl F.err C (sm _ _ hc) sm rv3 L hr' q⟩) fun r s' hq => ?_
        cases r with
        | error e => exact (show False from hq).elim
        | ok fl => cases fl <;> exact hq
end
end OL

end
section
set_option Elab.async false
set_option linter.all false
set_option maxRecDepth 100000
set_option maxHeartbeats 8000000
/-! a lambda made and handed on -/
namespace OL
open PySem PySem.Spec PyProof.Rows L2 RZ
/-! ### the ground at a call: all that is neither tracked nor a frame -/
def big (h : Heap) (H : Hp) (fs : List Addr) : Heap := PySem.W.hideAll (hidT h H) fs
theorem big_get {h : Heap} {H : Hp} {fs : List Addr} {b : Addr} {o : Obj} (e : h.get? b = some o) (n : H b = none) (nf : b ∉ fs) : (big h H fs).get? b = some o := PySem.W.hideAll_get _ (hidT_get e n) nf
theorem of_big {h : Heap} {H : Hp} {fs : List Addr} {b : Addr} {o : Obj} (e : (big h H fs).get? b = some o) : h.get? b = some o ∧ H b = none := of_hidT (PySem.W.of_hideAll fs e)
theorem big_none {h : Heap} {H : Hp} {fs : List Addr} {b : Addr} (e : b ∈ fs) : (big h H fs).get? b = none := PySem.W.hideAll_none fs e
theorem big_size {h : Heap} {H : Hp} {fs : List Addr} : (big h H fs).objs.size = h.objs.size := (PySem.W.hideAll_size _ _).trans (hidT_size _ _)
theorem fun_hid {h base B : Heap} : ∀ {l : List PySem.Env}, h.FunFrames base l → (∀ b ∈ frs l, B.get? b = none) → h.FunFrames B l
  | [], _, _ => trivial
  | env :: l, ⟨hk, ⟨L, o, hf, hn, ho, hd⟩, hr⟩, z => by
    have e : frs (env :: l) = L :: frs l := by
      show (env :: l).filterMap (·.frame) = _
      rw [List.filterMap_cons, hf]
      rfl
    refine ⟨hk, ⟨L, o, hf, z L (by rw [e]; exact List.mem_cons_self), ho, hd⟩, fun_hid hr fun b hb => z b (by rw [e]; exact List.mem_cons_of_mem _ hb)⟩
theorem env0_big {P : Program} {w : World} {K : PySem.W.Frag} {mg : Str → Option Value} {base : Heap} {A : Around} {outer : List PySem.Env} {s : Shared} {H : Hp} (e : Env0 P w K mg base A outer s H) : Env0 P w K mg (big s.heap H (frs outer)) A outer s H := by
  have kp : ∀ b o, base.get? b = some o → (big s.heap H (frs outer)).get? b = some o := fun b o q => big_get (e.bs b o q).1 (e.bs b o q).2 fun z => by
    have := (e.funs.mem z).1
    rw [q] at this
    cases this
  obtain ⟨mb, h1, h2⟩ := e.mod.blt
  exact ⟨e.frames, ⟨e.mod.kin.keeps kp, e.mod.glob.keeps kp, ⟨mb, h1.keeps kp, h2⟩, e.mod.nolimit.keeps kp⟩, fun b o q => of_big q, by rw [big_size]; exact Nat.le_refl _, fun_hid e.funs fun b hb => big_none hb, e.frf, e.hok, e.bare⟩
section
variable {X : Cx} {pins : List (Addr × Obj)} {σ : L2.St} {H : Hp} {s : Shared}
/-- a def called whose promise is told at that ground -/
theorem run_big {k : Nat} {f : Addr} {fd : FuncData} {ps : List Str} {sp : Sp} {E : XK} {Q : VK} {us : List Value} {vs : List V} (I : Inv X pins σ H s) (F : FnOk X.prog X.w X.K X.mg (big s.heap H (frs X.stack)) (L2.CX X.prog X.w) k f fd ps sp) (hr : Room k X.A) (hb : Binds X.K fd ps []) (hx : Passes (L2.CX X.prog X.w) X E)
    (r : Vals vs us) (h : sp vs H Q E) : wpAny (model X.prog X.w) X.A (call (.ref f) us) (EP X pins σ Q) X.xe s := by
  have hl : (us ++ []).length = ps.length := by rw [List.append_nil, ← r.length]; exact F.len _ _ _ _ h
  have hb' := hb s us I.kIn hl
  rw [List.append_nil] at hb'
  refine wpAny_call (codeAny_mono (F.run X.A X.stack s H ⟨us, []⟩ us vs Q E hr (env0_big I.env0) hb' r h) fun r s' hq => ?_)
  cases r with
  | error e => exact hx pins σ H s e s' I hq
  | ok fl =>
    cases fl with
    | ret u => exact I.after hq
    | next => exact False.elim hq
    | brk => exact False.elim hq
    | cont => exact False.elim hq
theorem pin_add {p : Addr × Obj} (I : Inv X pins σ H s) (h : s.heap.get? p.1 = some p.2 ∧ H p.1 = none ∧ p.1 ≠ X.env.locals ∧ p.1 ∉ X.fs ∧ ∀ v, p.2.data ≠ .cell v) : Inv X (p :: pins) σ H s :=
  ⟨I.ok, I.os, I.bare, I.base, I.loc, I.cell, I.free, I.freeC, fun q hq => by
    rcases List.mem_append.mp hq with z | z
    · exact I.pin q (List.mem_append.mpr (.inl z))
    · rcases List.mem_cons.mp z with z | z
      · subst z; exact h
      · exact I.pin q (List.mem_append.mpr (.inr z)), I.hok, I.len⟩
theorem pin_off {p : Addr × Obj} (I : Inv X (p :: pins) σ H s) : Inv X pins σ H s :=
  ⟨I.ok, I.os, I.bare, I.base, I.loc, I.cell, I.free, I.freeC, fun q hq => by
    rcases List.mem_append.mp hq with z | z
    · exact I.pin q (List.mem_append.mpr (.inl z))
    · exact I.pin q (List.mem_append.mpr (.inr (List.mem_cons_of_mem _ z))), I.hok, I.len⟩
/-- a lambda is made: what is tracked stays, its table may have grown -/
theorem lam_new {c P : Addr} {params : Arguments} {body : Expr} {scope : Scope} {pos : Pos} {E : Value → Shared → Prop} {Q : Value → Shared → Prop} (I : Inv X pins σ H s) (TB : LamX.TabB X.base X.mg c P) (hcode : X.env.code = .ref c) (hq : X.env.qual ++ "<lambda>" = lamQ) (hT : TabQ H P lamQ)
    (hdef : defaultsOf params X.env = ([], [])) (hfree : ∀ y ∈ scope.names, y.2 = .free → ∃ c, X.env.cells.lookup y.1 = some c)
    (h : ∀ (f c' : Addr) (pm ctv : Value) (H1 : Hp) (s' : Shared), Inv X pins σ H1 s' → Ext H H1 → (∀ b o, H b = some o → b ≠ P → H1 b = some o) → s'.heap.get? f = some (PySem.W.kla_obj "<lambda>" lamQ params body scope (cloFrom X.env.cells scope.names []) pm c' ctv) → H1 f = none → f ∉ frs X.stack → f ≠ X.env.locals → f ∉ X.fs → H1 c' = some (LamX.CodeO c' lamQ) → Q (.ref f) s') :
    wpAny (model X.prog X.w) X.A (eval (.Lambda params body scope pos) X.env) Q E s := by
  obtain ⟨_, ps, hP, tr, am⟩ := hT
  refine PySem.W.kla_eval hdef ?_
  rw [hq]
  have bP : s.heap.BuiltinsAt X.mg P := TB.bm.keeps I.bk
  have hPo : s.heap.get? P = some { cls := .none, data := .fields ps } := I.hok P _ hP
  have far : ∀ f, s.heap.objs.size ≤ f → f ∉ frs X.stack ∧ f ≠ X.env.locals ∧ f ∉ X.fs := fun f hf => by
    have n1 : f ≠ X.env.locals := fun z => by
      have := I.lt
      rw [← z] at this
      exact Nat.lt_irrefl _ (Nat.lt_of_lt_of_le this hf)
    refine ⟨fun z => ?_, n1, I.nofs hf⟩
    rcases List.mem_cons.mp (I.stkSub _ z) with e | e
    · exact n1 e
    · exact I.nofs hf e
  cases hc : codeAmong pos ps.toList with
  | some cv =>
    obtain ⟨c', rfl, hco⟩ := am pos cv hc
    refine PySem.W.kla_makeFunctionHit (mg := X.mg) (c := c) (P := P) (ps := ps) (closure_ok hfree) I.ok.glob (I.mod.glob.keeps I.bk) hcode (TB.code.keeps I.bk) hPo tr hc bP fun ctv h' tk hx hsz => ?_
    obtain ⟨f1, f2, f3⟩ := far h'.objs.size hsz
    exact h h'.objs.size c' ((X.mg "__name__").getD .none) ctv H _ (I.kept fun b o e => Heap.get?_push_of_some _ (hx b o e)) (Ext.refl H) (fun _ _ e _ => e) (Heap.get?_push_size _ rfl) (I.hok.fresh hsz) f1 f2 f3 hco
  | none =>
    refine PySem.W.kla_makeFunction (mg := X.mg) (c := c) (P := P) (ps := ps) (closure_ok hfree) I.ok.glob (I.mod.glob.keeps I.bk) hcode (TB.code.keeps I.bk) hPo tr hc TB.gP bP fun c' ctv h' tk hx hge hlt hrec htb => ?_
    obtain ⟨c2, oc, vs, t, e2, hoc, hd, hv⟩ := hrec
    cases e2
    have hsz : s.heap.objs.size ≤ h'.objs.size := Nat.le_trans hge (Nat.le_of_lt hlt)
    have nC : H c' = none := I.hok.fresh hge
    have nPc : P ≠ c' := ne_of_none hP nC
    have eL : (ps ++ #[rawInt pos.line, rawInt pos.col, Value.ref c']).toList = ps.toList ++ [rawInt pos.line, rawInt pos.col, .ref c'] := by simp
    have I1 := LamX.inv_table (t' := tk) (q := lamQ) (more := #[rawInt pos.line, rawInt pos.col, .ref c']) (h' := h'.push (PySem.W.kla_obj "<lambda>" lamQ params body scope (cloFrom X.env.cells scope.names []) ((X.mg "__name__").getD .none) c' ctv)) I hP
      (fun b o hb e => Heap.get?_push_of_some _ (hx b o hb e)) (Heap.get?_push_of_some _ htb) hge ⟨oc, vs, t, Heap.get?_push_of_some _ hoc, hd, hv⟩
    have keepN : ∀ b o, H b = some o → nT o = true → upd (upd H P (.tbl (ps ++ #[rawInt pos.line, rawInt pos.col, .ref c']))) c' (LamX.CodeO c' lamQ) b = some o := fun b o e n => by
      rw [upd_ne (ne_of_none e nC), upd_ne (fun z => by rw [z, hP] at e; cases e; cases n)]
      exact e
    have codeK : ∀ c0, H c0 = some (LamX.CodeO c0 lamQ) → upd (upd H P (.tbl (ps ++ #[rawInt pos.line, rawInt pos.col, .ref c']))) c' (LamX.CodeO c' lamQ) c0 = some (LamX.CodeO c0 lamQ) := fun c0 e => keepN c0 _ e rfl
    have ext : Ext H (upd (upd H P (.tbl (ps ++ #[rawInt pos.line, rawInt pos.col, .ref c']))) c' (LamX.CodeO c' lamQ)) := by
      refine ⟨keepN, fun b e => ?_, fun P' q t => ?_⟩
      · by_cases h1 : b = c'
        · rw [h1]; exact nC
        · rw [upd_ne h1] at e
          by_cases h2 : b = P
          · rw [h2, upd_same] at e; cases e
          · rw [upd_ne h2] at e; exact e
      · obtain ⟨rfl, ps', a1, a2, a3⟩ := t
        by_cases hb : P' = P
        · subst hb
          rw [hP] at a1
          cases a1
          refine ⟨rfl, _, by rw [upd_ne nPc, upd_same], by rw [eL]; exact PySem.TriplesOk_snoc _ _ _ _ tr, fun p' cv hcv => ?_⟩
          rw [eL] at hcv
          rcases LamX.among_app _ tr hcv with z | z
          · obtain ⟨c0, e1, e2⟩ := am p' cv z
            exact ⟨c0, e1, codeK c0 e2⟩
          · exact ⟨c', z, upd_same⟩
        · refine ⟨rfl, ps', by rw [upd_ne (ne_of_none a1 nC), upd_ne hb]; exact a1, a2, fun p' cv hcv => ?_⟩
          obtain ⟨c0, e1, e2⟩ := a3 p' cv hcv
          exact ⟨c0, e1, codeK c0 e2⟩
    obtain ⟨f1, f2, f3⟩ := far h'.objs.size hsz
    refine h h'.objs.size c' ((X.mg "__name__").getD .none) ctv _ _ I1 ext (fun b o e n => by rw [upd_ne (ne_of_none e nC), upd_ne n]; exact e) (Heap.get?_push_size _ rfl) ?_ f1 f2 f3 upd_same
    rw [upd_ne (Nat.ne_of_gt hlt), upd_ne (Nat.ne_of_gt (Nat.lt_of_lt_of_le (Heap.lt_size hPo) hsz))]
    exact I.hok.fresh hsz
end
end OL

end
section
set_option Elab.async false
set_option linter.all false
set_option maxRecDepth 100000
set_option maxHeartbeats 8000000
/-! what a lambda sees, and its outcome -/
namespace OL
open PySem PySem.Spec PyProof.Rows L2 RZ
/-! ### the values that stand frozen in the names -/
def capV : L2.St → Env → List V
  | [], _ => []
  | _, [] => []
  | v :: σ, b :: ρ => match v, b with
    | some u, .sh _ => u :: capV σ ρ
    | _, _ => capV σ ρ
def capD : Env → List D
  | [] => []
  | b :: ρ => match b with
    | .sh d => d :: capD ρ
    | _ => capD ρ
/-- a frozen name holds something -/
def ShOk (σ : L2.St) (ρ : Env) : Prop := ∀ (i : Nat) (v : Option V) (d : D), σ[i]? = some v → ρ[i]? = some (.sh d) → ∃ u, v = some u
theorem ShOk.tail {v : Option V} {σ : L2.St} {b : B} {ρ : Env} (h : ShOk (v :: σ) (b :: ρ)) : ShOk σ ρ := fun i v d h1 h2 => h (i + 1) v d (by simpa using h1) (by simpa using h2)
theorem cap_of {K : PySem.W.Frag} {H0 : Hp} : ∀ {ρ : Env} {σ : L2.St}, σ.length = ρ.length → (∀ (i : Nat) (v : Option V) (d : D), σ[i]? = some v → ρ[i]? = some (.sh d) → ∃ u, v = some u ∧ RD K H0 u d) → RDL K H0 (capV σ ρ) (capD ρ)
  | [], [], _, _ => .nil
  | [], _ :: _, h, _ => by cases h
  | _ :: _, [], h, _ => by cases h
  | b :: ρ, v :: σ, hl, h => by
    have ih := cap_of (ρ := ρ) (σ := σ) (by simpa using hl) fun i v d h1 h2 => h (i + 1) v d (by simpa using h1) (by simpa using h2)
    cases b with
    | sh d =>
      obtain ⟨u, rfl, r⟩ := h 0 v d rfl rfl
      exact .cons r ih
    | _ => cases v <;> exact ih
theorem cap_to {K : PySem.W.Frag} {H0 : Hp} : ∀ {ρ : Env} {σ : L2.St}, ShOk σ ρ → RDL K H0 (capV σ ρ) (capD ρ) → ∀ (i : Nat) (v : Option V) (d : D), σ[i]? = some v → ρ[i]? = some (.sh d) → ∃ u, v = some u ∧ RD K H0 u d
  | [], _, _, _, i, v, d, _, h2 => by simp at h2
  | _ :: _, [], _, _, i, v, d, h1, _ => by simp at h1
  | b :: ρ, w :: σ, sh, r, i, v, d, h1, h2 => by
    have ih := cap_to (K := K) (H0 := H0) (ρ := ρ) (σ := σ) sh.tail
    cases b with
    | sh d0 =>
      obtain ⟨u, rfl⟩ := sh 0 w d0 rfl rfl
      have r' : RDL K H0 (u :: capV σ ρ) (d0 :: capD ρ) := r
      cases r' with | cons r1 r2 =>
      cases i with
      | zero => simp at h1 h2; subst h1 h2; exact ⟨u, rfl, r1⟩
      | succ i => exact ih r2 i v d (by simpa using h1) (by simpa using h2)
    | _ =>
      have r' : RDL K H0 (capV σ ρ) (capD ρ) := by cases w <;> exact r
      cases i with
      | zero => simp at h2
      | succ i => exact ih r' i v d (by simpa using h1) (by simpa using h2)
section
variable {K : PySem.W.Frag} {F : Fx} {H0 H : Hp} {σ : L2.St} {ρ : Env}
theorem EnvOk.shs (e : EnvOk K F H0 H σ ρ) : ∀ (i : Nat) (v : Option V) (d : D), σ[i]? = some v → ρ[i]? = some (.sh d) → ∃ u, v = some u ∧ RD K H0 u d := fun i v d h1 h2 => by
  obtain ⟨fp, h, _⟩ := e.sl
  exact (h i v _ h1 h2).2
theorem EnvOk.shOk (e : EnvOk K F H0 H σ ρ) : ShOk σ ρ := fun i v d h1 h2 => by
  obtain ⟨u, e1, _⟩ := e.shs i v d h1 h2
  exact ⟨u, e1⟩
/-- the lambda's names -/
theorem env_cap (hl : σ.length = ρ.length) (sh : ShOk σ ρ) (r : RDL K H0 (capV σ ρ) (capD ρ)) (sm : Same H0 H) : EnvOk K ⟨H, H0⟩ H0 H σ (shO ρ) := by
  refine ⟨by rw [hl]; simp [shO], sm, Ext.refl _, Same.refl _, fun _ _ h => h, fun _ => [], fun i v b hv hb => ?_, ⟨fun _ _ _ _ h => by simp at h, fun _ _ h => by simp at h⟩⟩
  unfold shO at hb
  rw [List.getElem?_map] at hb
  cases hr : ρ[i]? with
  | none => rw [hr] at hb; cases hb
  | some b0 =>
    rw [hr] at hb
    cases hb
    cases b0 with
    | sh d => exact ⟨rfl, cap_to sh r i v d hv hr⟩
    | _ => exact rfl
end
/-! ### its outcome -/
section
variable {P : Program} {w : World} {K : PySem.W.Frag} {mg : Str → Option Value} {base : Heap} {N : List Str} {cs : List (Str × Key)} {Φ : Tab}
theorem lam_R (l : Lam) {f : Addr} {k : Nat} {σ : L2.St} {ρ : Env} {g : Str} {es : Es} {x : Expr} {xs : List Expr} {p pos : Pos} {G : Fn} {ds : List D} {r : Except Str D} (nd : N.Nodup) (blt : ∀ x ∈ bltn, mg x = none) (con : ∀ p ∈ cs, ∃ u, mg p.1 = some u ∧ RelV (kV p.2) u)
    (fns : ∀ y G, Φ y = some G → Kept P w K mg base k y G) (hb : l.body = .Call (.Name g p) (x :: xs) [] pos) (hgl : glB l.scope g = true) (hnm : nmB g = true) (hes : isEs N cs es l.scope (x :: xs) = true) (hG : Φ g = some G) (hev : evL Φ es (shO ρ) = some ds) (hr : G ds = some r)
    (hl : σ.length = ρ.length) (sh : ShOk σ ρ) : LamR l P w K mg base N σ f k (capV σ ρ) (capD ρ) r := by
  intro E H1 H01 Q rv sm q A outer s H rm
  rw [hb]
  have C : Ctx (lmCx l P w K mg base N A outer s H E f) N l.scope (fun _ => false) cs Φ := by
    refine ⟨rfl, rfl, nd, rfl, rfl, blt, con, ?_, fun y G hy => ?_⟩
    · have := rm.un
      show (A.deeper (lmEnv l s.heap.objs.size f)).units + 70 < cLine
      omega
    · obtain ⟨a, fd, ps, h1, h2, h3, h4⟩ := fns y G hy
      exact ⟨a, fd, ps, k, h1, rm, h2, h3, h4⟩
  obtain ⟨a, fd, ps, n, hF, hro, hm, hk, hbd⟩ := C.fns g G hG
  have ih := soundL (F := ⟨H1, H01⟩) es C hes hev
  have hs := ih.2
  simp only [List.all_cons, Bool.and_eq_true] at hs
  have tk : Takes (lmCx l P w K mg base N A outer s H E f) (fun cls d _ H => E cls d H) := takes_of (E := E) rfl rfl rfl rfl
  refine tOf_of (pe_call (E := E) hF hro (glB_is rfl hgl) hm hk hbd .nil (passes_call tk fun _ _ _ _ h => h) pa_of (nmB_is hnm).1 (star_cons hs.1) (star_any hs.2)) ?_
  refine ih.1 σ H1 H01 _ (env_cap hl sh rv sm) fun vs H2 H02 p2 r2 => ?_
  rw [List.append_nil]
  refine ⟨H02, ds, p2.c, r2, ?_⟩
  rw [hr]
  cases r with
  | ok d => exact fun v H' H0' p3 rd => q v H' H0' (p2.trans p3) rd
  | error y => exact fun C' H' H0' hm p3 => q C' H' H0' hm (p2.trans p3)
end
/-! ### the closure stands in the ground -/
section
variable {X : Cx} {pins : List (Addr × Obj)} {σ : L2.St} {H : Hp} {s : Shared} {params : Arguments} {body : Expr} {scope : Scope}
def lamL (X : Cx) (params : Arguments) (body : Expr) (scope : Scope) (pm : Value) (c : Addr) (ct : Value) : Lam := ⟨lamQ, params, body, scope, cloFrom X.env.cells scope.names [], pm, c, ct⟩
theorem cm_of {cells : List (Str × Addr)} (hfree : ∀ y ∈ scope.names, y.2 = .free → ∃ c, cells.lookup y.1 = some c) {y : Str} {c : Addr} (e : (cloFrom cells scope.names []).lookup y = some c) : cells.lookup y = some c := by
  rcases cloFrom_mem (PySem.mem_of_lookup e) with hm | ⟨h1, h2⟩
  · cases hm
  · obtain ⟨c1, hc⟩ := hfree _ h1 rfl
    have hc : cells.lookup y = some c1 := hc
    have e2 : c = c1 := by rw [h2, hc] <;> rfl
    rw [e2]
    exact hc
theorem lamL_ok (ok : X.Ok) (L : LamX.LamS X.env.scope scope) (ha : args0 params = true) {pm : Value} {c : Addr} {ct : Value} : (lamL X params body scope pm c ct).Ok := by
  have hfree := L.has ok
  refine ⟨L.kind, L.co, L.gen, L.own, fun y z c a b => ok.inj y z c (cm_of hfree a) (cm_of hfree b), fun y hy => ?_, ?_⟩
  · have hm : (y, NameKind.free) ∈ scope.names := PySem.mem_of_lookup hy
    exact mem_lookup (cloFrom_has (cells := X.env.cells) (acc := []) hm)
  · have e := args0_is ha
    subst e
    rfl
theorem clo_big (I : Inv X pins σ H s) (hfn : X.fn = allT) (L : LamX.LamS X.env.scope scope) {f c : Addr} {pm ct : Value} (hf : s.heap.get? f = some (lamL X params body scope pm c ct).obj) (hn : H f = none) (hfr : f ∉ frs X.stack) :
    CloB (lamL X params body scope pm c ct) f X.N σ (big s.heap H (frs X.stack)) := by
  have hfree := L.has I.ok
  have nf : ∀ y c, X.env.cells.lookup y = some c → c ∉ frs X.stack := fun y c e z => by
    rcases List.mem_cons.mp (I.stkSub _ z) with q | q
    · exact I.cne y c e q
    · have h1 := I.ok.cab y c (by rw [hfn]) e
      obtain ⟨_, o, ho, _⟩ := I.ok.funs.mem q
      exact Nat.lt_irrefl _ (Nat.lt_of_lt_of_le (Heap.lt_size ho) h1)
  refine ⟨big_get hf hn hfr, fun y c e => ?_, fun i y v h1 h2 h3 => ?_⟩
  · have e' := cm_of hfree e
    obtain ⟨v, o, ho, hd⟩ := I.cell y c e'
    exact ⟨v, o, big_get ho (I.freeC y c e') (nf y c e'), hd⟩
  · obtain ⟨m, hns, hl⟩ := I.loc
    have k : scope.names.lookup y = some .free := h3
    have hvis : Vis X.env.scope y := (L.free _ (PySem.mem_of_lookup k) rfl).elim (fun k => .inr (.inl k)) (fun k => .inr (.inr k))
    obtain ⟨u, r, q⟩ := hl i y v h1 h2 hvis
    have hm : (y, NameKind.free) ∈ scope.names := PySem.mem_of_lookup k
    obtain ⟨c2, hc2⟩ := mem_lookup (cloFrom_has (cells := X.env.cells) (acc := []) hm)
    have c1 := cm_of hfree hc2
    rcases q with ⟨k', _⟩ | ⟨_, c3, e', o, ho, hd⟩
    · have k' : X.env.scope.names.lookup y = some .local := k'
      rcases L.free _ (PySem.mem_of_lookup k) rfl with k2 | k2 <;> rw [show X.env.scope.names.lookup y = _ from k2] at k' <;> cases k'
    · rw [c1] at e'
      cases e'
      exact ⟨u, c2, r, hc2, o, big_get ho (I.freeC y _ c1) (nf y _ c1), hd⟩
end
end OL

end
section
set_option Elab.async false
set_option linter.all false
set_option maxRecDepth 100000
set_option maxHeartbeats 8000000
/-! _law_result(lambda: f(..)), _law_all([lambda: f(..)], name) -/
namespace OL
open PySem PySem.Spec PyProof.Rows L2 RZ
def tab1 (G : Fn) : Tab := fun x => if x = "_law_result" then some G else none
/-- the def that asks it of each call -/
def allDf : Df := ⟨"_law_all", 2, ["calls", "name", "call"], .cons (.ret (.bi "all" (.cons (.lc (.cmp .Eq (.call "_law_result" (.cons (.v 2) .nil)) (.tup (.cons (.c (.str "error")) (.cons (.v 1) .nil)))) (.n 2) (.e (.v 0)) .no) .nil))) .nil⟩
theorem all_one {G : Fn} {d z : D} {nm : Str} {b : Bool} (h : G [d] = some (.ok z)) (hz : eqD z (.tuple [.str "error", .str nm]) = some b) : runFn (tab1 G) allDf [.list [d], .str nm] = some (.ok (.bool b)) := by
  have hc : cmpD .Eq z (.tuple [.str "error", .str nm]) = some b := by
    show (eqD z (.tuple [.str "error", .str nm])) = some b
    exact hz
  have hb : biD "all" [.list [.bool b]] = some (.bool b) := by cases b <;> rfl
  simp [runFn, allDf, exL, exS, evE, evL, evI, startB, getB, items?, lcGo, T.slots, wipeB, bindT, tab1, h, hc, consO, constD, hb, evC]
/-- what is known where a lambda is made -/
structure LamC (P : Program) (w : World) (K : PySem.W.Frag) (mg : Str → Option Value) (base : Heap) (env : PySem.Env) (A : Around) (Φ : Tab) (exs : List Str) (He H0e : Hp) : Prop where
  tab : ∃ c Pt, LamX.TabB base mg c Pt ∧ env.code = .ref c ∧ TabQ He Pt lamQ ∧ H0e Pt = none
  qual : env.qual ++ "<lambda>" = lamQ
  res : ∃ body scope, ResF K mg exs body scope
  fns : ∃ k, (∀ base y G, Φ y = some G → Kept P w K mg base k y G) ∧ Room (k + 5) A
  all : (Φ "_law_all").isSome = true → ∀ base k G, Kept P w K mg base k "_law_result" G → Kept P w K mg base (k + 1) "_law_all" (runFn (tab1 G) allDf)
section
variable {X : Cx} {F : Fx} {ρ : Env} {N : List Str} {sc : Scope} {cs : List (Str × Key)} {Φ : Tab} {exs : List Str}
/-- the heaps behind the making -/
theorem post_lam {H0 H H1 : Hp} {c' Pt : Addr} (s : Same H0 H) (x : Ext H H1) (kp : ∀ b o, H b = some o → b ≠ Pt → H1 b = some o) (h0 : H0 Pt = none) (hc : H1 c' = some (LamX.CodeO c' lamQ)) : Post H0 H (upd H0 c' (LamX.CodeO c' lamQ)) H1 := by
  have sm : Same H0 H1 := fun b o e => kp b o (s _ _ e) (ne_of_none e h0)
  refine ⟨fun b o e => ?_, x, fun b o e => ?_, fun p hm hn => ?_⟩
  · by_cases hb : b = c'
    · subst hb
      have := sm _ _ e
      rw [hc] at this
      rw [upd_same]; exact this
    · rw [upd_ne hb]; exact e
  · by_cases hb : b = c'
    · subst hb; rw [upd_same] at e; rw [← e]; exact hc
    · rw [upd_ne hb] at e; exact sm _ _ e
  · by_cases hb : p = c'
    · subst hb
      exfalso
      rcases hm with ⟨o, e, m⟩ | ⟨q, t⟩
      · have := x.sm _ _ e (mut_nT m)
        rw [hc] at this
        cases this
        cases m
      · obtain ⟨_, ps, e, _⟩ := x.tb _ _ t
        rw [hc] at e
        cases e
    · rw [upd_ne hb]; exact hn
/-- what the making of the lambda z leaves behind -/
structure Made (X : Cx) (H0 H : Hp) (σ : L2.St) (ρ : Env) (r : Except Str D) (k : Nat) (f : Addr) (d : D) (H1 : Hp) (o : Obj) : Prop where
  cell : ∀ v, o.data ≠ .cell v
  out : H1 f = none
  nL : f ≠ X.env.locals
  nF : f ∉ X.fs
  post : ∃ H01, Post H0 H H01 H1 ∧ RD X.K H01 (.ref f) d
  clo : ∀ (pins : List (Addr × Obj)) (H2 : Hp) (s : Shared), Inv X pins σ H2 s → s.heap.get? f = some o → H2 f = none → CloF X.prog X.w X.K X.mg (big s.heap H2 (frs X.stack)) k d r
theorem lam_made (C : Ctx X N sc allT cs Φ) (L : LamC X.prog X.w X.K X.mg X.base X.env X.A Φ exs F.He F.H0e) {k : Nat} (hk : ∀ base y G, Φ y = some G → Kept X.prog X.w X.K X.mg base k y G) {z : Expr} {f : Str} {es : Es} {G : Fn} {ds : List D} {r : Except Str D} (hz : isLam N cs f es sc z = true) (hG : Φ f = some G) (hev : evL Φ es (shO ρ) = some ds) (hr : G ds = some r) (herr : errOk r = true)
    {σ : L2.St} {H H0 : Hp} (env : EnvOk X.K F H0 H σ ρ) {pins : List (Addr × Obj)} {s : Shared} (I : Inv X pins σ H s) {Q : Value → Shared → Prop} {E : Value → Shared → Prop}
    (h : ∀ (a : Addr) (d : D) (H1 : Hp) (o : Obj) (s1 : Shared), Inv X pins σ H1 s1 → s1.heap.get? a = some o → a ∉ frs X.stack → Made X H0 H σ ρ r k a d H1 o → Q (.ref a) s1) : wpAny (model X.prog X.w) X.A (eval z X.env) Q E s := by
  unfold isLam at hz
  split at hz
  case h_2 => cases hz
  rename_i params body scope hzl
  obtain ⟨lp, rfl⟩ := lamOf_is hzl
  simp only [Bool.and_eq_true] at hz
  obtain ⟨⟨h1, h2⟩, h3⟩ := hz
  split at h3
  case h_2 => cases h3
  rename_i g x xs hc
  obtain ⟨p1, p2, rfl⟩ := callN_is hc
  simp only [Bool.and_eq_true, decide_eq_true_eq] at h3
  obtain ⟨⟨⟨rfl, h4⟩, h5⟩, h6⟩ := h3
  have LS : LamX.LamS X.env.scope scope := by rw [C.hsc]; exact LamX.lamS_by h2
  obtain ⟨c, Pt, TB, hcode, hT, h0⟩ := L.tab
  have hTH := env.ke.tb _ _ hT
  have h0P : H0 Pt = none := env.kn Pt (.inr ⟨_, hT⟩) h0
  have hl : σ.length = N.length := by rw [← C.hN]; exact I.len
  refine lam_new I TB hcode L.qual hTH ?_ (LS.has I.ok) fun a c' pm ctv H1 s1 I1 ex kp hf hn hfr n1 n2 hco => ?_
  · have e := args0_is h1
    subst e
    rfl
  · have pp := post_lam env.s ex kp h0P hco
    refine h a (cloD a c' lamQ ((capV σ ρ).map encV) (capD ρ)) H1 _ s1 I1 hf hfr ⟨fun v z => (by cases z), hn, n1, n2, ⟨_, pp, .clo rfl upd_same ((cap_of env.len env.shs).mono pp.a)⟩, fun pins2 H2 s2 I2 hf2 hn2 => ?_⟩
    refine ⟨⟨lamL X params (.Call (.Name g p1) (x :: xs) [] p2) scope pm c' ctv, a, X.N, σ, capV σ ρ, capD ρ, lamL_ok I2.ok LS h1, I2.len, rfl, ⟨_, cap_of env.len env.shs⟩, clo_big I2 C.hfs LS hf2 hn2 hfr, ?_⟩, fun y hy => ?_⟩
    · refine lam_R (N := X.N) (cs := cs) (Φ := Φ) _ (by rw [C.hN]; exact C.nd) C.blt C.con (hk _) rfl h4 h5 (by rw [C.hN]; exact h6) hG hev hr env.len env.shOk
    · subst hy
      exact of_decide_eq_true herr
open Classical in
theorem de_res (C : Ctx X N sc allT cs Φ) (L : LamC X.prog X.w X.K X.mg X.base X.env X.A Φ exs F.He F.H0e) {z : Expr} {f : Str} {es : Es} {G : Fn} {ds : List D} {r : Except Str D} {p pos : Pos} (hg : Gl X "_law_result") (hz : isLam N cs f es sc z = true) (hG : Φ f = some G) (hev : evL Φ es (shO ρ) = some ds) (hr : G ds = some r) (herr : errOk r = true) :
    DE X F (.Call (.Name "_law_result" p) [z] [] pos) ρ (resD r) := by
  intro σ H H0 Q env k pins s I
  obtain ⟨kf, hkf, hroom⟩ := L.fns
  obtain ⟨rb, rs, R⟩ := L.res
  obtain ⟨params, g, fd, FD, hm, _⟩ := R.at_.ex
  have hzs : notStar z = true := by
    unfold isLam at hz
    split at hz
    · rename_i e; obtain ⟨lp, rfl⟩ := lamOf_is e; rfl
    · cases hz
  refine wpAny_Call_Name_kw (ld_glob I hg hm ?_)
  refine PySem.W.callWith_K (h₀ := X.base) I.ok.mod.kin FD.kp ?_ (star_cons hzs) rfl
  rw [star_cons hzs]
  show wpAny _ _ (spliced ((false, eval z X.env) :: backTo pos (starEach [] X.env))) _ _ s
  refine Calls.spliced_cons (lam_made C L hkf hz hG hev hr herr env I fun a d H1 o s1 I1 hf hfr M => ?_)
  refine Calls.spliced_nil ⟨I1.kIn, ?_⟩
  obtain ⟨H01, p1, rd⟩ := M.post
  have K1 := res_kept (P := X.prog) (w := X.w) (base := big s1.heap H1 (frs X.stack)) (k := kf) R (T := fun d' => if d' = d then some r else none) fun d' r' h' => by
    split at h'
    · rename_i e; subst e; cases h'; exact M.clo pins H1 s1 I1 hf M.out
    · cases h'
  obtain ⟨g', fd', ps', FO, hm', _, hb⟩ := K1
  rw [hm] at hm'
  cases hm'
  refine run_big (us := [.ref a]) (vs := [.ref a]) (E := fun _ _ _ => False) I1 FO (hroom.mono (by omega)) hb passL (.cons rfl .nil) ⟨H01, [d], p1.c, .cons rd .nil, ?_⟩
  have e : resG (fun d' => if d' = d then some r else none) [d] = some (.ok (resD r)) := by
    show (if d = d then some r else none).map _ = _
    rw [if_pos rfl]
    rfl
  rw [e]
  exact fun v H' H0' p2 r2 => k v H' H0' (p1.trans p2) r2
open Classical in
theorem de_all (C : Ctx X N sc allT cs Φ) (L : LamC X.prog X.w X.K X.mg X.base X.env X.A Φ exs F.He F.H0e) {z : Expr} {f nm : Str} {es : Es} {G : Fn} {ds : List D} {r : Except Str D} {b : Bool} {j : Nat} {p pos lp sp : Pos} (hg : Gl X "_law_all") (hA : (Φ "_law_all").isSome = true) (hz : isLam N cs f es sc z = true) (hG : Φ f = some G) (hev : evL Φ es (shO ρ) = some ds) (hr : G ds = some r) (herr : errOk r = true)
    (hb : eqD (resD r) (.tuple [.str "error", .str nm]) = some b) : DE X F (.Call (.Name "_law_all" p) [.List [z] lp, .Constant (.str nm) j sp] [] pos) ρ (.bool b) := by
  intro σ H H0 Q env k pins s I
  obtain ⟨kf, hkf, hroom⟩ := L.fns
  obtain ⟨rb, rs, R⟩ := L.res
  obtain ⟨G0, hG0⟩ := Option.isSome_iff_exists.mp hA
  obtain ⟨g, fd, ps, _, hm, hkeep, _⟩ := hkf X.base _ _ hG0
  have hzs : notStar z = true := by
    unfold isLam at hz
    split at hz
    · rename_i e; obtain ⟨lp, rfl⟩ := lamOf_is e; rfl
    · cases hz
  refine wpAny_Call_Name_kw (ld_glob I hg hm ?_)
  refine PySem.W.callWith_K (h₀ := X.base) I.ok.mod.kin hkeep ?_ (star_cons rfl) rfl
  show wpAny _ _ (spliced ((false, eval (.List [z] lp) X.env) :: backTo pos (starEach [.Constant (.str nm) j sp] X.env))) _ _ s
  refine Calls.spliced_cons (wpAny_List_spliced ?_)
  rw [star_cons hzs]
  show wpAny _ _ (spliced ((false, eval z X.env) :: backTo lp (starEach [] X.env))) _ _ s
  refine Calls.spliced_cons (lam_made C L hkf hz hG hev hr herr env I fun a d H1 o s1 I1 hf hfr M => ?_)
  refine Calls.spliced_nil ⟨by show 1 ≤ 16777216; omega, ?_⟩
  obtain ⟨H01, p1, rd⟩ := M.post
  have IP := pin_add (p := (a, o)) I1 ⟨hf, M.out, M.nL, M.nF, M.cell⟩
  have hfz : H1 s1.heap.objs.size = none := I1.hok.fresh (Nat.le_refl _)
  have I2 := IP.laid (o := .lst [.ref a]) (t' := s1.toks) (fun b u e => Heap.get?_push_of_some { cls := .type "list", data := .seq #[.ref a] } e) (Nat.le_refl _) ⟨by show 1 ≤ 16777216; omega, [.ref a], 0, .cons rfl .nil, Heap.get?_push_size _ rfl⟩
  refine thn ((pa_cons (X := X) (pe_str (x := nm) (j := j) (pos := sp)) pa_nil (star_cons rfl)).run pos _ _ σ _ (fun vs H3 => vs = [.str nm] ∧ H3 = upd H1 s1.heap.objs.size (.lst [.ref a])) I2 ⟨rfl, rfl⟩) fun us s3 ⟨vs, H3, I3, rv, e1, e2⟩ => ?_
  subst e1 e2
  obtain ⟨u0, rfl, ru0⟩ := vals1 rv
  refine ⟨I3.kIn, ?_⟩
  have hpin := I3.pin (a, o) (List.mem_append.mpr (.inr List.mem_cons_self))
  have K1 := L.all hA _ _ _ (res_kept (P := X.prog) (w := X.w) (base := big s3.heap (upd H1 s1.heap.objs.size (.lst [.ref a])) (frs X.stack)) (k := kf) R (T := fun d' => if d' = d then some r else none) fun d' r' h' => by
    split at h'
    · rename_i e; subst e; cases h'; exact M.clo _ _ s3 I3 hpin.1 hpin.2.1
    · cases h')
  obtain ⟨g', fd', ps', FO, hm', _, hbd⟩ := K1
  rw [hm] at hm'
  cases hm'
  have pn : Post H01 H1 (upd H01 s1.heap.objs.size (.lst [.ref a])) (upd H1 s1.heap.objs.size (.lst [.ref a])) := Post.new p1.c hfz
  have e : resG (fun d' => if d' = d then some r else none) [d] = some (.ok (resD r)) := by
    show (if d = d then some r else none).map _ = _
    rw [if_pos rfl]
    rfl
  refine run_big (us := [.ref s1.heap.objs.size, u0]) (vs := [.ref s1.heap.objs.size, .str nm]) (E := fun _ _ _ => False) (pin_off I3) FO (hroom.mono (by omega)) hbd passL (.cons rfl rv) ⟨_, [.list [d], .str nm], pn.c, .cons (.lst (SqL.of upd_same) (.cons (rd.mono pn.a) .nil)) (.cons (.str nm) .nil), ?_⟩
  rw [all_one e hb]
  exact fun v H' H0' p2 r2 => k v H' H0' ((p1.trans pn).trans p2) r2
end
end OL

end
section
set_option Elab.async false
set_option linter.all false
set_option maxRecDepth 100000
set_option maxHeartbeats 8000000
namespace OL
open PySem PySem.Spec PyProof.Rows L2 RZ

section
variable {X : Cx} {F : Fx} {ρ : Env} {N : List Str} {sc : Scope} {cs : List (Str × Key)} {Φ : Tab} {exs : List Str}
theorem setAll1 {i : Nat} {m : M} {d : D} {ρ' : Env} (h : setAll [(i, m)] [d] ρ = some ρ') : i < ρ.length ∧ ∃ b, hold m d = some b ∧ ρ' = ρ.set i b := by
  unfold setAll at h
  split at h
  · rename_i hi
    obtain ⟨b, e, h⟩ := obind h
    cases h
    exact ⟨hi, b, e, rfl⟩
  · cases h
theorem hold_s {d : D} {b : B} (h : hold .s d = some b) : b = .sh d := by cases h; rfl
/-- values for several names -/
theorem soundM (C : Ctx X N sc allT cs Φ) : ∀ (is : List (Nat × M)) (es : Es) {xs : List Expr} {ds : List D} {bs : List B}, isEs N cs es sc xs = true → isMs sc is es = true → evL Φ es ρ = some ds → is.length = bs.length → (∀ (k : Nat) i m d b, is[k]? = some (i, m) → ds[k]? = some d → bs[k]? = some b → hold m d = some b) → DM X F xs ρ bs ∧ xs.all notStar = true
  | [], .nil, [], ds, [], h, hm, he, hl, hh => ⟨dm_nil, rfl⟩
  | [], .nil, [], ds, _ :: _, h, hm, he, hl, hh => by cases hl
  | [], .nil, _ :: _, ds, bs, h, hm, he, hl, hh => by cases h
  | [], .cons _ _, xs, ds, bs, h, hm, he, hl, hh => by cases hm
  | _ :: _, .nil, xs, ds, bs, h, hm, he, hl, hh => by cases hm
  | (i, m) :: is, .cons e es, [], ds, bs, h, hm, he, hl, hh => by cases h
  | (i, m) :: is, .cons e es, x :: xs, ds, [], h, hm, he, hl, hh => by cases hl
  | (i, m) :: is, .cons e es, x :: xs, ds, b :: bs, h, hm, he, hl, hh => by
    unfold isEs at h
    simp only [Bool.and_eq_true] at h
    obtain ⟨⟨h1, h2⟩, h3⟩ := h
    unfold isMs at hm
    simp only [Bool.and_eq_true] at hm
    unfold evL at he
    obtain ⟨u, e1, he⟩ := obind he
    obtain ⟨us, e2, rfl⟩ := omap he
    have ih := soundM C is es (bs := bs) h3 hm.2 e2 (by simpa using hl) (fun k i m d b a1 a2 a3 => hh (k + 1) i m d b (by simpa using a1) (by simpa using a2) (by simpa using a3))
    have hb := hh 0 i m u b rfl rfl rfl
    refine ⟨dm_cons ?_ ih.1 h2, by simp [h2, ih.2]⟩
    by_cases ems : m = .s
    · subst ems
      cases hb
      exact .inl ⟨u, rfl, (soundE e C h1 e1).1⟩
    · exact .inr (soundF C ems h1 e1 hm.1 hb)
theorem setAll2 {i j : Nat} {m n : M} {ds : List D} {ρ' : Env} (h : setAll [(i, m), (j, n)] ds ρ = some ρ') : ∃ d e b c, ds = [d, e] ∧ i < ρ.length ∧ j < ρ.length ∧ hold m d = some b ∧ hold n e = some c ∧ ρ' = (ρ.set i b).set j c := by
  match ds, h with
  | [d, e], h =>
    unfold setAll at h
    split at h
    case isFalse => cases h
    rename_i hi
    obtain ⟨b, e1, h⟩ := obind h
    obtain ⟨hj, c, e2, rfl⟩ := setAll1 h
    exact ⟨d, e, b, c, rfl, hi, by simpa using hj, e1, e2, rfl⟩
  | [], h => cases h
  | [d], h =>
    unfold setAll at h
    split at h
    case isFalse => cases h
    obtain ⟨b, e1, h⟩ := obind h
    cases h
  | _ :: _ :: _ :: _, h =>
    unfold setAll at h
    split at h
    case isFalse => cases h
    obtain ⟨b, e1, h⟩ := obind h
    unfold setAll at h
    split at h
    case isFalse => cases h
    obtain ⟨b, e1, h⟩ := obind h
    cases h
theorem setAll3 {i j l : Nat} {m n o : M} {ds : List D} {ρ' : Env} (h : setAll [(i, m), (j, n), (l, o)] ds ρ = some ρ') : ∃ d e f b c g, ds = [d, e, f] ∧ i < ρ.length ∧ j < ρ.length ∧ l < ρ.length ∧ hold m d = some b ∧ hold n e = some c ∧ hold o f = some g ∧ ρ' = ((ρ.set i b).set j c).set l g := by
  match ds, h with
  | d :: ds, h =>
    unfold setAll at h
    split at h
    case isFalse => cases h
    rename_i hi
    obtain ⟨b, e1, h⟩ := obind h
    obtain ⟨e, f, c, g, rfl, hj, hk, e2, e3, rfl⟩ := setAll2 h
    exact ⟨d, e, f, b, c, g, rfl, hi, by simpa using hj, by simpa using hk, e1, e2, e3, rfl⟩
  | [], h => cases h
theorem fresh_n {elt : E} {t : T} {it : I} {c : Eo} (h : freshB .n (.lc elt t it c) = true) : elt = .lst .nil ∧ c = .no := by
  cases elt with
  | lst es => cases es with
    | nil => cases c with
      | no => exact ⟨rfl, rfl⟩
      | so _ => cases h
    | cons _ _ => cases h
  | _ => cases h
theorem ds_set_any (C : Ctx X N sc allT cs Φ) {i : Nat} {m : M} {e : E} {y : Str} {p spos : Pos} {x : Expr} {d : D} {b : B} (hy : N[i]? = some y) (hl : locB sc allT y = true) (h : isE N cs e sc x = true) (he : evE Φ e ρ = some d) (hf : freshB m e = true) (hc : (isLcE e || !isComp x) = true) (hb : hold m d = some b) :
    DS X F (.Assign [.Name y p] x spos) ρ (.nx (ρ.set i b)) := by
  have hN : X.N.Nodup := by rw [C.hN]; exact C.nd
  have hy' : X.N[i]? = some y := by rw [C.hN]; exact hy
  obtain ⟨l1, l2⟩ := locB_ok C.hsc C.hfs hl
  by_cases hx : isComp x = false
  · by_cases ems : m = .s
    · subst ems
      cases hb
      exact ds_set hN hy' l1 l2 (soundE e C h he).1 (swaps_no' hx)
    · obtain ⟨o, hd⟩ := soundF (F := F) C ems h he hf hb
      exact ds_setO hN hy' l1 l2 hd o (swaps_no' hx)
  · have hlc : isLcE e = true := by
      cases q : isLcE e with
      | true => rfl
      | false => rw [q] at hc; simp at hc; exact absurd hc hx
    unfold isLcE at hlc
    split at hlc
    · rename_i elt t it c
      by_cases emn : m = .n
      · subst emn
        obtain ⟨rfl, rfl⟩ := fresh_n hf
        obtain ⟨lp, tg, iter, scope, p, ds, rfl, rfl, hi, ok, hs, hg⟩ := nest_parts (F := F) C h he
        unfold hold at hb
        simp only at hb
        split at hb
        · cases hb
          exact ds_nest C hi hg ok hs hy hl
        · cases hb
      · obtain ⟨e, tg, iter, ifs, scope, p, ds, out, f, rfl, rfl, hi, ho, hst, ok, hs⟩ := lc_parts (F := F) C h he
        have hb' : b = .sh (.list out) ∨ b = .ow (.list out) := by
          cases m with
          | s => cases hb; exact .inl rfl
          | o => cases hb; exact .inr rfl
          | n => exact absurd rfl emn
          | k => cases hb
        exact ds_lc (m := m) C hi ho hst ok hs hy hl hb'
    · obtain ⟨e, tg, iter, tg2, iter2, ifs2, scope, p, ds, out, f, rfl, rfl, hi, ho, hl', hst, ok, hs, hs2⟩ := lc2_parts (F := F) C h he
      have hb' : b = .sh (.list out) ∨ b = .ow (.list out) := by
        cases m with
        | s => cases hb; exact .inl rfl
        | o => cases hb; exact .inr rfl
        | n => unfold freshB at hf; cases hf
        | k => cases hb
      exact ds_lc2 C hi ho hl' hst ok (fun i hi => by simp [hi]) hs hs2 hy hl hb'
    · cases hlc
theorem ds_callS (C : Ctx X N sc allT cs Φ) {f : Str} {G : Fn} {e : Expr} {es : List Expr} {ds : List D} {r : Except Str D} {p pos spos : Pos} (hg : Gl X f) (hG : Φ f = some G) (ha : DA X F (e :: es) ρ ds) (hs : (e :: es).all notStar = true) (h : G ds = some r) (hd : (f == ("__debug__" : Str)) = false) :
    DS X F (.Expr (.Call (.Name f p) (e :: es) [] pos) spos) ρ (match r with | .ok _ => .nx ρ | .error x => .ex x) := by
  intro σ H H0 D W tk env k
  obtain ⟨a, fd, ps, n, hF, hr, hm, hk, hb⟩ := C.fns f G hG
  simp only [List.all_cons, Bool.and_eq_true] at hs
  refine tOfS_of (ps_expr (pe_callS (E := WE (WXof X W)) hF hr hg hm hk hb (fun σ => passAt tk σ) pa_of hd (star_cons hs.1) (star_any hs.2)) rfl) ?_
  refine ha σ H H0 _ env fun vs H1 H01 p1 r1 => ?_
  refine ⟨H01, ds, p1.c, r1, ?_⟩
  rw [h]
  cases r with
  | ok d => exact fun v H' H0' p2 _ => k σ H' H0' ((env.post p1).post p2)
  | error x => exact fun C' H' H0' hx p2 => ⟨x, C', rfl, rfl, hx, k σ H' H0' ρ ((env.post p1).post p2)⟩
theorem ds_raise (C : CtxS X N sc cs Φ exs) {x m : Str} {j : Nat} {p p2 pos spos : Pos} (hx : x ∈ exs) (hg : Gl X x) (hd : (x == ("__debug__" : Str)) = false) :
    DS X F (.Raise (some (.Call (.Name x p) [.Constant (.str m) j p2] [] pos)) none spos) ρ (.ex x) := by
  intro σ H H0 D W tk env k
  obtain ⟨Cc, gC, q, kC, h1, h2⟩ := C.exc x hx
  refine tOfS_of (ps_raise C.c.calm tk (pmk_own PySem.F.excBase_ValueError q gC kC (raises_own h1 h2) hg hd)) ?_
  exact ⟨x, Cc, rfl, rfl, gC, k σ H H0 ρ env⟩
theorem ds_try (C : CtxS X N sc cs Φ exs) {body ss : List Stmt} {s : Stmt} {n : Str} {i : Nat} {hd : Hd} {o o' : O} {np p' pos : Pos} (hg : Gl X "LeagueError") (hnm : nmB "LeagueError" = true) (hin : ("LeagueError" : Str) ∈ exs) (hi : N[i]? = some n) (hl : locOnly sc n = true) (hv : visB sc n = true) (hn : nmB n = true)
    (hh : isHd N sc exs i n hd.last hd.sets (s :: ss) = true) (hk : ∀ y ∈ hd.known, y ∈ exs) (ho : (match o with | .ex y => if y ∈ hd.known then (hdV y hd.last hd.sets []).map .rt else none | o => some o) = some o')
    (hb : ∀ pn xe, PassesOwn (model X.prog X.w) X.A X.env xe → DSs (X.tr pn xe) F body ρ o) :
    DS X F (.Try body [.ExceptHandler (some (.Name "LeagueError" np)) (some n) (s :: ss) p'] [] [] pos) ρ o' := by
  intro σ H H0 D W tk env k
  obtain ⟨B, hB, _⟩ := C.exc _ hin
  have hln : X.env.kindOf n = some .local := by
    show X.env.scope.names.lookup n = _
    rw [C.c.hsc]
    exact locOnly_is hl
  refine tOfS_of (ps_try_as (i := i) (c := .ref B) (tb := fun W D σ H => ∀ pn xe, Takes (X.tr pn xe) W → PassesOwn (model X.prog X.w) X.A X.env xe → tOfSs (X.tr pn xe) body D σ H)
    (ts := fun a cls d D σ H => ∀ oe pn, Zc cls d oe → (∃ vs, oe.data = .fields vs) → tOfSs (X.suite a ((a, oe) :: pn)) (s :: ss) D σ H) (Wout := WXof X W) C.stk C.frm (by rw [C.c.hN]; exact C.c.nd) (by rw [C.c.hN]; exact hi) hln ⟨hg, (nmB_is hnm).1, .inl hB⟩ tk
    (fun W pn xe tk po => ⟨fun pins s σ H D I h => h pn xe tk po pins s I⟩) (fun a oe cls d pn hz hf => ⟨fun pins s σ H D I h => h oe pn hz hf pins s I⟩)) ?_
  intro pn xe tk' po
  refine hb pn xe po σ H H0 D (fun y σ H => ∀ C', X.mg y = some (.ref C') → wAs X.K (.ref B) i (fun a cls d D σ H => ∀ oe pn, Zc cls d oe → (∃ vs, oe.data = .fields vs) → tOfSs (X.suite a ((a, oe) :: pn)) (s :: ss) D σ H) (WXof X W) D (.ref C') none σ H) (tk'.imp fun c d σ H hW => ?_) env ?_
  · obtain ⟨x, C', rfl, rfl, hm, hW⟩ := hW
    exact hW C' hm
  cases o with
  | nx ρ1 => cases ho; exact k
  | rt d => cases ho; exact k
  | bk ρ1 => cases ho; exact k
  | ex y =>
    simp only at ho
    split at ho
    case isFalse => cases ho
    rename_i hy
    obtain ⟨d, hd', rfl⟩ := omap ho
    intro σ1 H1 H01 ρ1 env1 C' hC'
    obtain ⟨t1, ⟨B', hB', t2⟩, t3⟩ := C.try_ hin y (hk y hy) C' hC'
    rw [hB] at hB'
    cases hB'
    refine ⟨true, t2, fun _ a na oe pn2 hz hf => ?_, fun h => by cases h⟩
    intro pins s1 I
    have len : ρ1.length = N.length := by
      have l1 := I.len
      rw [List.length_set, env1.len] at l1
      rw [l1]
      show X.N.length = _
      rw [C.c.hN]
    obtain ⟨v1, v2⟩ := nmB_is hn
    have hx : HX X N sc exs i n C' y := ⟨C.c.hN, C.c.nd, C.c.hsc, C.c.hfs, hi, by rw [C.c.hsc]; exact visB_is hv, v1, v2, C.c.room, C.c.blt _ (by decide), t1, t3⟩
    have hil : i < ρ1.length := by rw [len]; exact (List.getElem?_eq_some_iff.mp hi).1
    refine hd_ok (F := F) (ρ := ρ1.set i (.er a)) hx hz hf hd.sets (s :: ss) hh hd' (List.getElem?_set_self hil) (by simpa using len) (fun k' bs hb => by cases hb) _ H1 H01 _ (fun _ _ _ => False) ?_ env1.setEr ?_ pins s1 I
    · intro u s' z
      obtain ⟨_, _, _, _, _, _, _, _, _, _, _, _, _, _, _, _, z⟩ := z
      obtain ⟨_, _, _, _, _, z⟩ := z
      exact z.elim
    · exact k
theorem LamC.at {P : Program} {w : World} {K : PySem.W.Frag} {mg : Str → Option Value} {base : Heap} {env : PySem.Env} {A : Around} {He H0e He' H0e' : Hp} (L : LamC P w K mg base env A Φ exs He H0e) (e : He' = He) (kn : ∀ p, MuT He p → H0e p = none → H0e' p = none) : LamC P w K mg base env A Φ exs He' H0e' := by
  obtain ⟨⟨c, Pt, h1, h2, h3, h4⟩, hq, hr, hf, ha⟩ := L
  exact ⟨⟨c, Pt, h1, h2, by rw [e]; exact h3, kn Pt (.inr ⟨_, h3⟩) h4⟩, hq, hr, hf, ha⟩
/-- if the text has the def that calls what it got: all that a lambda wants -/
def LamH (X : Cx) (F : Fx) (Φ : Tab) (exs : List Str) : Prop := (Φ "_law_class").isSome = true → LamC X.prog X.w X.K X.mg X.base X.env X.A Φ exs F.He F.H0e
mutual
theorem soundS : ∀ (s : S) {X : Cx} {F : Fx} {ρ : Env} {st : Stmt} {o : O}, CtxS X N sc cs Φ exs → LamH X F Φ exs → isS N cs exs s sc st = true → exS Φ s ρ = some o → DS X F st ρ o
  | .set i m e, X, F, ρ, st, o, C, L, h, he => by
    unfold isS at h
    split at h
    case h_2 => cases h
    rename_i t x hx
    obtain ⟨p, rfl⟩ := asgOf_is hx
    split at h
    case h_2 => cases h
    rename_i y hy
    obtain ⟨p2, rfl⟩ := nameOf_is hy
    simp only [Bool.and_eq_true, decide_eq_true_eq] at h
    obtain ⟨⟨⟨⟨h1, h2⟩, h3⟩, h4⟩, h5⟩ := h
    unfold exS at he
    obtain ⟨d, e1, hq⟩ := obind he
    obtain ⟨ρ', e2, rfl⟩ := omap hq
    obtain ⟨_, b, hb, rfl⟩ := setAll1 e2
    exact ds_set_any C.c h1 h2 h3 e1 h4 h5 hb
  | .unp t e, X, F, ρ, st, o, C, L, h, he => by
    unfold isS at h
    split at h
    case h_2 => cases h
    rename_i tg x hx
    obtain ⟨p, rfl⟩ := asgOf_is hx
    simp only [Bool.and_eq_true, Bool.not_eq_true'] at h
    obtain ⟨⟨⟨⟨h1, h2⟩, h3⟩, h4⟩, h5⟩ := h
    unfold exS at he
    obtain ⟨d, e1, hq⟩ := obind he
    obtain ⟨ρ', e2, rfl⟩ := omap hq
    exact ds_unp C.c h1 h2 (soundE e C.c h3 e1).1 e2 h4 h5
  | .par is es, X, F, ρ, st, o, C, L, h, he => by
    unfold isS at h
    split at h
    case h_2 => cases h
    rename_i tg x hx
    obtain ⟨p, rfl⟩ := asgOf_is hx
    unfold exS at he
    obtain ⟨ds, e1, hq⟩ := obind he
    obtain ⟨ρ', e2, rfl⟩ := omap hq
    split at h
    · rename_i i mi j mj a b u v ht hv
      obtain ⟨kt, pt, rfl⟩ := tupOf_is ht
      obtain ⟨k2, pt2, rfl⟩ := tupOf_is hv
      split at h
      case h_2 => cases h
      rename_i y py z pz ha hb
      have ea := nameP_is ha
      have eb := nameP_is hb
      subst ea eb
      simp only [Bool.and_eq_true, decide_eq_true_eq, Bool.not_eq_true'] at h
      simp only [Bool.or_eq_true, Bool.and_eq_true, Bool.not_eq_true'] at h
      obtain ⟨⟨⟨⟨⟨g2, g3⟩, g7⟩, g10⟩, g11⟩, hor⟩ := h
      obtain ⟨d, e, b1, b2, rfl, hi, hj, hd, he', rfl⟩ := setAll2 e2
      obtain ⟨q1, q2⟩ := soundM (F := F) C.c _ es (bs := [b1, b2]) g10 g11 e1 rfl (fun k i' m' d' b' a1 a2 a3 => by
        match k, a1, a2, a3 with
        | 0, a1, a2, a3 => cases a1; cases a2; cases a3; exact hd
        | 1, a1, a2, a3 => cases a1; cases a2; cases a3; exact he'
        | k + 2, a1, a2, a3 => simp at a1)
      simp only [List.all_cons, List.all_nil, Bool.and_true, Bool.and_eq_true] at q2
      rcases hor with ⟨⟨⟨⟨⟨g1, g4⟩, g5⟩, g6⟩, g8⟩, g9⟩ | ⟨⟨c1, c2⟩, c3⟩
      · exact ds_par2 C.c g1 g2 g3 g4 g5 g6 g7 q2.1 q2.2 g8 g9 q1 ⟨hi, hj⟩
      · exact ds_par2g C.c g2 g3 c1 c2 g7 c3 q1 ⟨hi, hj⟩
    · rename_i i mi j mj l ml a b c u v w ht hv
      obtain ⟨kt, pt, rfl⟩ := tupOf_is ht
      obtain ⟨k2, pt2, rfl⟩ := tupOf_is hv
      split at h
      case h_2 => cases h
      rename_i y py z pz q pq ha hb hc
      have ea := nameP_is ha
      have eb := nameP_is hb
      have ec := nameP_is hc
      subst ea eb ec
      simp only [Bool.and_eq_true, decide_eq_true_eq, Bool.not_eq_true'] at h
      simp only [Bool.or_eq_true, Bool.and_eq_true, Bool.not_eq_true'] at h
      obtain ⟨⟨⟨⟨⟨⟨⟨⟨g2, g3⟩, g4⟩, g10⟩, g11⟩, g12⟩, g15⟩, g16⟩, hor⟩ := h
      obtain ⟨d, e, f, b1, b2, b3, rfl, hi, hj, hl, hd, he', hf, rfl⟩ := setAll3 e2
      obtain ⟨q1, q2⟩ := soundM (F := F) C.c _ es (bs := [b1, b2, b3]) g15 g16 e1 rfl (fun k i' m' d' b' a1 a2 a3 => by
        match k, a1, a2, a3 with
        | 0, a1, a2, a3 => cases a1; cases a2; cases a3; exact hd
        | 1, a1, a2, a3 => cases a1; cases a2; cases a3; exact he'
        | 2, a1, a2, a3 => cases a1; cases a2; cases a3; exact hf
        | k + 3, a1, a2, a3 => simp at a1)
      simp only [List.all_cons, List.all_nil, Bool.and_true, Bool.and_eq_true] at q2
      rcases hor with ⟨⟨⟨⟨⟨⟨⟨g1, g5⟩, g6⟩, g7⟩, g8⟩, g9⟩, g13⟩, g14⟩ | ⟨⟨⟨c1, c2⟩, c3⟩, c4⟩
      · exact ds_par3 C.c g1 g2 g3 g4 g5 g6 g7 g8 g9 g10 g11 g12 q2.1 q2.2.1 q2.2.2 g13 g14 q1 ⟨hi, hj, hl⟩
      · exact ds_par3g C.c g2 g3 g4 c1 c2 c3 g10 g11 g12 (c4.elim (fun q => q.elim .inl fun q => .inr (.inl q)) fun q => .inr (.inr q)) q1 ⟨hi, hj, hl⟩
    · cases h
  | .app i e, X, F, ρ, st, o, C, L, h, he => by
    unfold isS at h
    split at h
    case h_2 => cases h
    rename_i x hx
    obtain ⟨p, rfl⟩ := exprOf_is hx
    split at h
    case h_2 => cases h
    rename_i oo m y hm
    obtain ⟨ap, cp, rfl, hline⟩ := methOf_is hm
    simp only [Bool.and_eq_true, decide_eq_true_eq] at h
    obtain ⟨⟨⟨rfl, h1⟩, h2⟩, h3⟩ := h
    obtain ⟨z, pz, rfl, v1, v2, v3, v4⟩ := isV_ok C.c h1
    unfold exS at he
    obtain ⟨d, e1, hq⟩ := obind he
    split at hq
    case h_2 => cases hq
    rename_i xs hb
    split at hq
    case isFalse => cases hq
    rename_i hl
    cases hq
    exact ds_app C.c v1 v2 v3 v4 (soundE e C.c h2 e1).1 h3 hb hl hline
  | .ext i e, X, F, ρ, st, o, C, L, h, he => by
    unfold isS at h
    split at h
    case h_2 => cases h
    rename_i x hx
    obtain ⟨p, rfl⟩ := exprOf_is hx
    split at h
    case h_2 => cases h
    rename_i oo m y hm
    obtain ⟨ap, cp, rfl, hline⟩ := methOf_is hm
    simp only [Bool.and_eq_true, decide_eq_true_eq] at h
    obtain ⟨⟨⟨rfl, h1⟩, h2⟩, h3⟩ := h
    obtain ⟨z, pz, rfl, v1, v2, v3, v4⟩ := isV_ok C.c h1
    unfold exS at he
    obtain ⟨d, e1, hq⟩ := obind he
    obtain ⟨ys, e2, hq2⟩ := obind hq
    split at hq2
    case h_2 => cases hq2
    rename_i xs hb
    split at hq2
    case isFalse => cases hq2
    rename_i hl
    cases hq2
    exact ds_ext C.c v1 v2 v3 v4 (soundE e C.c h2 e1).1 e2 h3 hb hl hline
  | .put i k e, X, F, ρ, st, o, C, L, h, he => by
    unfold isS at h
    split at h
    case h_2 => cases h
    rename_i t x hx
    obtain ⟨p, rfl⟩ := asgOf_is hx
    split at h
    case h_2 => cases h
    rename_i oo r hs
    obtain ⟨p2, rfl⟩ := subOf_is hs
    simp only [Bool.and_eq_true, Bool.not_eq_true'] at h
    obtain ⟨⟨⟨⟨h1, h2⟩, h3⟩, h4⟩, h6⟩ := h
    obtain ⟨z, pz, rfl, v1, v2, v3, v4⟩ := isV_ok C.c h1
    unfold exS at he
    obtain ⟨d, e1, hq⟩ := obind he
    obtain ⟨u, e2, hq2⟩ := obind hq
    split at hq2
    · rename_i xs hb
      obtain ⟨n, e3, hq3⟩ := obind hq2
      obtain ⟨j, e4, hq4⟩ := obind hq3
      have e5 := intq e3
      subst e5
      cases hq4
      exact ds_put v1 v2 v3 v4 (soundE e C.c h3 e1).1 (soundE k C.c h2 e2).1 hb e4 h4 h6
    · rename_i kvs hb
      split at hq2
      case isFalse => cases hq2
      rename_i hk
      cases hq2
      exact ds_dput C.c.room v1 v2 v3 v4 (soundE e C.c h3 e1).1 (soundE k C.c h2 e2).1 hb (.inl ⟨kvs, rfl, rfl, hk.1, hk.2⟩) h4
    · rename_i kvs hb
      split at hq2
      case isFalse => cases hq2
      rename_i hk
      cases hq2
      exact ds_dput C.c.room v1 v2 v3 v4 (soundE e C.c h3 e1).1 (soundE k C.c h2 e2).1 hb (.inr ⟨kvs, rfl, rfl, hk.1, hk.2⟩) h4
    · cases hq2
  | .appx i k e, X, F, ρ, st, o, C, L, h, he => by
    unfold isS at h
    split at h
    case h_2 => cases h
    rename_i x hx
    obtain ⟨p, rfl⟩ := exprOf_is hx
    split at h
    case h_2 => cases h
    rename_i oo m y hm
    obtain ⟨ap, cp, rfl, hline⟩ := methOf_is hm
    simp only [Bool.and_eq_true, decide_eq_true_eq] at h
    obtain ⟨⟨⟨rfl, h1⟩, h2⟩, h⟩ := h
    split at h
    case h_2 => cases h
    rename_i l r hs
    obtain ⟨p2, rfl⟩ := subOf_is hs
    simp only [Bool.and_eq_true, Bool.not_eq_true'] at h
    obtain ⟨⟨h3, h4⟩, h5⟩ := h
    obtain ⟨z, pz, rfl, v1, v2, v3, v4⟩ := isV_ok C.c h3
    unfold exS at he
    obtain ⟨u, e1, hq⟩ := obind he
    obtain ⟨d, e2, hq2⟩ := obind hq
    split at hq2
    case h_2 => cases hq2
    rename_i xs hb
    obtain ⟨n, e3, hq3⟩ := obind hq2
    obtain ⟨j, e4, hq4⟩ := obind hq3
    have e5 := intq e3
    subst e5
    split at hq4
    case h_2 => cases hq4
    rename_i ys hys
    split at hq4
    case isFalse => cases hq4
    rename_i hl
    cases hq4
    exact ds_appx C.c v1 v2 v3 v4 (soundE k C.c h4 e1).1 (soundE e C.c h1 e2).1 h2 h5 hb e4 hys hl hline
  | .callS f es, X, F, ρ, st, o, C, L, h, he => by
    unfold isS at h
    split at h
    case h_2 => cases h
    rename_i x hx
    obtain ⟨p, rfl⟩ := exprOf_is hx
    split at h
    case h_2 => cases h
    rename_i g y ys hc
    obtain ⟨p2, q, rfl⟩ := callN_is hc
    simp only [Bool.and_eq_true, decide_eq_true_eq] at h
    obtain ⟨⟨⟨rfl, h1⟩, h2⟩, h3⟩ := h
    unfold exS at he
    obtain ⟨G, e1, hq⟩ := obind he
    obtain ⟨ds, e2, hq2⟩ := obind hq
    obtain ⟨r, e3, hq3⟩ := omap hq2
    have ih := soundL (F := F) es C.c h3 e2
    have q := ds_callS (p := p2) (pos := q) (spos := p) C.c (glB_is C.c.hsc h1) e1 ih.1 ih.2 e3 (nmB_is h2).1
    subst hq3
    cases r with
    | ok _ => exact q
    | error _ => exact q
  | .callX fs ix es, X, F, ρ, st, o, C, L, h, he => by
    unfold isS at h
    split at h
    case h_2 => cases h
    rename_i x hx
    obtain ⟨p, rfl⟩ := exprOf_is hx
    split at h
    case h_2 => cases h
    rename_i f y ys cp hc
    have hc' := callP_is hc
    subst hc'
    split at h
    case h_2 => cases h
    rename_i oo r hs
    obtain ⟨p2, rfl⟩ := subOf_is hs
    split at h
    case h_2 => cases h
    rename_i xs hl
    obtain ⟨p3, rfl⟩ := lstOf_is hl
    simp only [Bool.and_eq_true, decide_eq_true_eq, Bool.not_eq_true'] at h
    obtain ⟨⟨⟨⟨h1, h2⟩, h3⟩, h4⟩, h5⟩ := h
    unfold exS at he
    split at he
    case isFalse => cases he
    rename_i hall
    obtain ⟨v, e1, hq0⟩ := obind he
    obtain ⟨n, e2, hq1⟩ := obind hq0
    have e2' := intq e2
    subst e2'
    obtain ⟨f, e3, hq2⟩ := obind hq1
    obtain ⟨G, e4, hq3⟩ := obind hq2
    obtain ⟨ds, e5, hq4⟩ := obind hq3
    obtain ⟨r', e6, hq⟩ := omap hq4
    have ih := soundL (F := F) es C.c h5 e5
    have q := ds_callX (lp := p3) (sp := p2) (pos := cp) (spos := p) C.c h1 h2 hall (soundE ix C.c h3 e1).1 (plainIx_of h4) e3 e4 ih.1 ih.2 e6
    subst hq
    cases r' with
    | ok _ => exact q
    | error _ => exact q
  | .tryX b i hd, X, F, ρ, st, o, C, L, h, he => by
    unfold isS at h
    split at h
    case h_2 => cases h
    rename_i body x n s ss hx
    obtain ⟨np, p', p, rfl⟩ := tryOf_is hx
    simp only [Bool.and_eq_true, decide_eq_true_eq] at h
    obtain ⟨⟨⟨⟨⟨⟨⟨⟨⟨⟨h1, h2⟩, h3⟩, h4⟩, h5⟩, h6⟩, h7⟩, h8⟩, h9⟩, h10⟩, h11⟩ := h
    subst h2
    unfold exS at he
    obtain ⟨o1, e1, hq⟩ := obind he
    exact ds_try C (glB_is C.c.hsc h3) h4 h5 h6 h7 h8 h9 h10 (fun y hy => of_decide_eq_true (List.all_eq_true.mp h11 y hy)) hq (fun pn xe po => soundSs b (C.tr pn xe po) L h1 e1)
  | .ifs c a b, X, F, ρ, st, o, C, L, h, he => by
    unfold isS at h
    split at h
    case h_2 => cases h
    rename_i u v w hx
    obtain ⟨p, rfl⟩ := ifSOf_is hx
    simp only [Bool.and_eq_true] at h
    obtain ⟨⟨h1, h2⟩, h3⟩ := h
    unfold exS at he
    obtain ⟨x, e1, hq⟩ := obind he
    obtain ⟨k, e2, hq2⟩ := obind hq
    have e3 := boolq e2
    subst e3
    refine ds_if ((soundE c C.c h1 e1).2 k rfl) (fun ek => ?_) (fun ek => ?_)
    · subst ek
      rw [if_pos rfl] at hq2
      exact soundSs a C L h2 hq2
    · subst ek
      rw [if_neg (by decide)] at hq2
      exact soundSs b C L h3 hq2
  | .fors t it b, X, F, ρ, st, o, C, L, h, he => by
    unfold isS at h
    split at h
    case h_2 => cases h
    rename_i tg x body hx
    obtain ⟨p, rfl⟩ := forOf_is hx
    simp only [Bool.and_eq_true, Bool.not_eq_true'] at h
    obtain ⟨⟨⟨h1, h2⟩, h3⟩, h4⟩ := h
    unfold exS at he
    obtain ⟨ds, e1, hq⟩ := obind he
    exact ds_for C.po C.c.calm (soundI it C.c h1 e1) h3 (fun hb rd env k => dg C.c.hN C.c.nd C.c.hsc C.c.hfs C.c.calm h2 hb rd env fun σ' env' _ => k σ' (env' _ env)) (fun F' ρ1 o1 e kn h => soundSs b C (fun hs => (L hs).at e kn) h4 h) hq
  | .whl n c b, X, F, ρ, st, o, C, L, h, he => by
    unfold isS at h
    split at h
    case h_2 => cases h
    rename_i u body hx
    obtain ⟨p, rfl⟩ := whlOf_is hx
    simp only [Bool.and_eq_true] at h
    unfold exS at he
    refine ds_while C.po (fun ρ1 k hk => ?_) (fun ρ1 o1 ho => soundSs b C L h.2 ho) he
    obtain ⟨v, e1, hq⟩ := obind hk
    have e3 := boolq hq
    subst e3
    exact (soundE c C.c h.1 e1).2 k rfl
  | .ret e, X, F, ρ, st, o, C, L, h, he => by
    unfold isS at h
    split at h
    case h_2 => cases h
    rename_i x hx
    obtain ⟨p, rfl⟩ := retOf_is hx
    unfold exS at he
    obtain ⟨d, e1, rfl⟩ := omap he
    exact ds_ret (soundE e C.c h e1).1
  | .brk, X, F, ρ, st, o, C, L, h, he => by
    obtain ⟨p, rfl⟩ := isBrk_is h
    cases he
    exact ds_brk
  | .raise x, X, F, ρ, st, o, C, L, h, he => by
    unfold isS at h
    split at h
    case h_2 => cases h
    rename_i y hy
    obtain ⟨p, rfl⟩ := raiseOf_is hy
    split at h
    case h_2 => cases h
    rename_i g z hc
    obtain ⟨p2, q, rfl⟩ := callN_is hc
    simp only [Bool.and_eq_true, decide_eq_true_eq] at h
    obtain ⟨⟨⟨⟨rfl, h1⟩, h2⟩, h3⟩, h4⟩ := h
    obtain ⟨s, hs⟩ := Option.isSome_iff_exists.mp h4
    obtain ⟨j, p3, rfl⟩ := strOf_is hs
    cases he
    exact ds_raise C h3 (glB_is C.c.hsc h1) (nmB_is h2).1
  | .fr _, X, F, ρ, st, o, C, L, h, he => by cases h
  | .any, X, F, ρ, st, o, C, L, h, he => by cases h
  | .ifl f es nm a b, X, F, ρ, st, o, C, L, h, he => by
    unfold isS at h
    split at h
    case h_2 => cases h
    rename_i u v w hx
    obtain ⟨p, rfl⟩ := ifSOf_is hx
    split at h
    case h_2 => cases h
    rename_i u1 hu
    obtain ⟨up, rfl⟩ := unOf_is hu
    split at h
    case h_2 => cases h
    rename_i g x y hc
    obtain ⟨gp, gq, rfl⟩ := callN_is hc
    simp only [Bool.and_eq_true, decide_eq_true_eq] at h
    obtain ⟨⟨⟨⟨⟨rfl, h1⟩, h2⟩, h3⟩, h4⟩, h5⟩ := h
    split at h3
    case h_2 => cases h3
    rename_i z hl
    obtain ⟨lp, rfl⟩ := lstOf_is hl
    obtain ⟨j, sp, rfl⟩ := strOf_is h2
    unfold exS at he
    split at he
    case isFalse => cases he
    rename_i hsm
    obtain ⟨G, e1, hq⟩ := obind he
    obtain ⟨ds, e2, hq2⟩ := obind hq
    obtain ⟨r, e3, hq3⟩ := obind hq2
    split at hq3
    case isFalse => cases hq3
    rename_i herr
    obtain ⟨t, e4, hq4⟩ := obind hq3
    have d := de_all (F := F) (p := gp) (pos := gq) (lp := lp) (sp := sp) (j := j) C.c (L hsm.1) (glB_is C.c.hsc h1) hsm.2 h3 e1 e2 e3 herr e4
    refine ds_if (dt_no (dt_val d fun _ => rfl)) (fun ek => ?_) (fun ek => ?_)
    · cases t with
      | true => cases ek
      | false => rw [if_neg (by decide)] at hq4; exact soundSs a C L h4 hq4
    · cases t with
      | true => rw [if_pos rfl] at hq4; exact soundSs b C L h5 hq4
      | false => cases ek
  | .ifr f es e a b, X, F, ρ, st, o, C, L, h, he => by
    unfold isS at h
    split at h
    case h_2 => cases h
    rename_i u v w hx
    obtain ⟨p, rfl⟩ := ifSOf_is hx
    split at h
    case h_2 => cases h
    rename_i l rr hu
    obtain ⟨up, rfl⟩ := cmpOf_is hu
    split at h
    case h_2 => cases h
    rename_i g z hc
    obtain ⟨gp, gq, rfl⟩ := callN_is hc
    simp only [Bool.and_eq_true, decide_eq_true_eq, Bool.not_eq_true'] at h
    obtain ⟨⟨⟨⟨⟨⟨rfl, h1⟩, h2⟩, h3⟩, h4⟩, h5⟩, h6⟩ := h
    unfold exS at he
    split at he
    case isFalse => cases he
    rename_i hsm
    obtain ⟨G, e1, hq⟩ := obind he
    obtain ⟨ds, e2, hq2⟩ := obind hq
    obtain ⟨r, e3, hq3⟩ := obind hq2
    split at hq3
    case isFalse => cases hq3
    rename_i herr
    obtain ⟨d2, e4, hq4⟩ := obind hq3
    obtain ⟨t, e5, hq5⟩ := obind hq4
    have d := de_res (F := F) (p := gp) (pos := gq) C.c (L hsm) (glB_is C.c.hsc h1) h2 e1 e2 e3 herr
    have hu : X.A.units + 65 < cLine := by have := C.c.room; omega
    refine ds_if (dt_cmp hu d (soundE e C.c h3 e4).1 e5 (marks_no h4)) (fun ek => ?_) (fun ek => ?_)
    · subst ek; rw [if_pos rfl] at hq5; exact soundSs a C L h5 hq5
    · subst ek; rw [if_neg (by decide)] at hq5; exact soundSs b C L h6 hq5
theorem soundSs : ∀ (ss : Ss) {X : Cx} {F : Fx} {ρ : Env} {sts : List Stmt} {o : O}, CtxS X N sc cs Φ exs → LamH X F Φ exs → isSs N cs exs ss sc sts = true → exL Φ ss ρ = some o → DSs X F sts ρ o
  | .nil, X, F, ρ, [], o, C, L, h, he => by cases he; exact dss_nil
  | .nil, X, F, ρ, _ :: _, o, C, L, h, he => by cases h
  | .cons s ss, X, F, ρ, sts, o, C, L, h, he => by
    by_cases hany : s = .any
    · subst hany; unfold exL exS at he; cases he
    by_cases hfr : ∃ i, s = .fr i
    · obtain ⟨i, rfl⟩ := hfr
      have h' : isSs N cs exs ss sc sts = true := by
        cases sts <;> exact h
      unfold exL exS at he
      obtain ⟨o1, e1, hq⟩ := obind he
      obtain ⟨b, e2, rfl⟩ := omap e1
      exact dss_fr e2 (soundSs ss C L h' hq)
    · cases sts with
      | nil =>
        exfalso
        cases s <;> first | exact hfr ⟨_, rfl⟩ | exact hany rfl | cases h
      | cons st sts =>
        have h' : isS N cs exs s sc st = true ∧ isSs N cs exs ss sc sts = true := by
          cases s <;> first | exact absurd ⟨_, rfl⟩ hfr | exact absurd rfl hany | (simpa only [isSs, Bool.and_eq_true] using h)
        unfold exL at he
        obtain ⟨o1, e1, hq⟩ := obind he
        refine dss_cons (soundS s C L h'.1 e1) (fun ρ1 ho => ?_) (fun hn => ?_)
        · subst ho
          exact soundSs ss C L h'.2 hq
        · cases o1 with
          | nx ρ1 => exact absurd rfl (hn ρ1)
          | rt d => cases hq; rfl
          | bk ρ1 => cases hq; rfl
          | ex x => cases hq; rfl
end
end
end OL

end
section
set_option Elab.async false
set_option linter.all false
set_option maxRecDepth 100000
set_option maxHeartbeats 8000000
namespace OL
open PySem PySem.Spec PyProof.Rows L2 RZ

theorem RDL.at {K : PySem.W.Frag} {H : Hp} {vs : List V} {ds : List PyData} (r : RDL K H vs ds) : ∀ (i : Nat) (d : PyData), ds[i]? = some d → ∃ v, vs[i]? = some v ∧ RD K H v d := by
  induction ds generalizing vs with
  | nil => intro i d h; simp at h
  | cons e ds ih =>
    intro i d h
    cases r with | cons r1 r2 =>
    cases i with
    | zero => simp at h; subst h; exact ⟨_, rfl, r1⟩
    | succ i => simpa using ih r2 i d (by simpa using h)
/-- a def's entry -/
theorem env_start {K : PySem.W.Frag} {H0 H : Hp} {N : List Str} {vs : List V} {ds : List PyData} (s : Same H0 H) (r : RDL K H0 vs ds) : EnvOk K ⟨H, H0⟩ H0 H (start N vs) (startB N.length ds) := by
  have hl := r.length
  refine ⟨by simp [L2.start, startB, hl], s, Ext.refl _, Same.refl _, fun _ _ h => h, fun _ => [], fun i v b hv hb => ?_, ⟨fun _ _ _ _ h => by simp at h, fun _ _ h => by simp at h⟩⟩
  unfold startB at hb
  unfold L2.start at hv
  by_cases hi : i < ds.length
  · rw [List.getElem?_append_left (by simpa using hi)] at hb
    rw [List.getElem?_append_left (by simp [hl]; exact hi)] at hv
    rw [List.getElem?_map] at hb hv
    have h1 : ds[i]? = some ds[i] := List.getElem?_eq_getElem hi
    obtain ⟨u, h2, r2⟩ := r.at i _ h1
    rw [h1] at hb
    rw [h2] at hv
    cases hb
    cases hv
    exact ⟨rfl, u, rfl, r2⟩
  · rw [List.getElem?_append_right (by simpa using Nat.le_of_not_lt hi)] at hb
    rw [List.getElem?_replicate] at hb
    split at hb
    · cases hb; rfl
    · cases hb
structure Glob (K : PySem.W.Frag) (mg : Str → Option Value) (cs : List (Str × Key)) (exs : List Str) : Prop where
  blt : ∀ x ∈ bltn, mg x = none
  con : ∀ p ∈ cs, ∃ u, mg p.1 = some u ∧ RelV (kV p.2) u
  exc : ∀ x ∈ exs, ∃ C, mg x = some (.ref C) ∧ PySem.W.excIn K C He.veBase "ValueError.__new__" = true ∧ PySem.W.keepIn K (.ref C) = true ∧ PySem.W.subIn K (.ref C) (.type "BaseException") = some true ∧ PySem.W.typeIn K (.ref C) = some (.type "type")
  try_ : TryOk K mg exs
section
variable {P : Program} {w : World} {K : PySem.W.Frag} {mg : Str → Option Value} {base : Heap} {cs : List (Str × Key)} {exs : List Str}
theorem fn_ok {x qual : Str} {params : Arguments} {body : List Stmt} {scope : Scope} {f : Addr} {fd : FuncData} {d : Df} {k : Nat} {Φ : Tab} (g : Glob K mg cs exs) (F : FunD K x qual params body scope [] [] f fd) (S : FnScope d.names (d.names.take d.np) scope) (hn : d.np ≤ d.names.length)
    (h : isSs d.names cs exs d.body scope body = true) (fns : ∀ y G, Φ y = some G → Kept P w K mg base k y G) (hno : Φ "_law_class" = none) : FnOk P w K mg base (L2.CX P w) (k + 1) f fd (d.names.take d.np) (spD K mg (runFn Φ d)) := by
  refine F.ok S (fun vs H Q E q => ?_) (fun cdv A outer s H vs Q E hr q => ⟨_, pss_of, ?_⟩)
  · obtain ⟨H0, ds, _, r, q⟩ := q
    unfold runFn at q
    by_cases hl : ds.length = d.np
    · rw [r.length, hl, List.length_take]; omega
    · rw [if_neg hl] at q; exact q.elim
  · obtain ⟨H0, ds, sm, r, q⟩ := q
    unfold runFn at q
    by_cases hl : ds.length = d.np
    case neg => rw [if_neg hl] at q; exact q.elim
    rw [if_pos hl] at q
    cases hx : exL Φ d.body (startB d.names.length ds) with
    | none => rw [hx] at q; exact q.elim
    | some o =>
      rw [hx] at q
      simp only [Option.bind_some] at q
      have C : CtxS (cxOf (L2.CX P w) P w K mg base d.names qual scope f cdv A outer s H E) d.names scope cs Φ exs := by
        refine ⟨⟨rfl, rfl, S.nd, rfl, rfl, g.blt, g.con, ?_, fun y G hy => ?_⟩, passes_of rfl, g.exc, g.try_, rfl, rfl⟩
        · have := hr.un
          show (A.deeper (envOfC qual scope s.heap.objs.size f cdv)).units + 70 < cLine
          omega
        · obtain ⟨a, fd, ps, h1, h2, h3, h4⟩ := fns y G hy
          exact ⟨a, fd, ps, k, h1, hr, h2, h3, h4⟩
      refine soundSs d.body (F := ⟨H, H0⟩) C (fun hs => by rw [hno] at hs; cases hs) h hx (start d.names vs) H H0 _ (fun x σ H' => ∀ C, mg x = some (.ref C) → E (.ref C) none H') ?_ (env_start sm r) ?_
      · refine Takes.imp (takes_of (E := E) rfl rfl rfl rfl) fun c d σ H' hW => ?_
        obtain ⟨x, C', rfl, rfl, hm, hW⟩ := hW
        exact hW C' hm
      · cases o with
        | nx ρ => exact fun σ H' H0' e => q .non H' H0' e.fin .non
        | rt d => exact fun v H' H0' p r => q v H' H0' p r
        | bk ρ => exact q.elim
        | ex x => exact fun σ H' H0' ρ e C' hm => q C' H' H0' hm e.fin
/-- the promise of a def that makes lambdas: its table stands apart -/
def spL (K : PySem.W.Frag) (mg : Str → Option Value) (Pt : Addr) (G : Fn) : Sp := fun vs H Q E => ∃ (H0 : Hp) (ds : List D), Same H0 H ∧ RDL K H0 vs ds ∧ TabQ H Pt lamQ ∧ H0 Pt = none ∧ match G ds with
  | some (.ok d) => ∀ (v : V) (H' H0' : Hp), Post H0 H H0' H' → RD K H0' v d → Q v H'
  | some (.error x) => ∀ (C : Addr) (H' H0' : Hp), mg x = some (.ref C) → Post H0 H H0' H' → E (.ref C) none H'
  | none => False
theorem fn_okL {x qual : Str} {params : Arguments} {body : List Stmt} {scope : Scope} {f c Pt : Addr} {fd : FuncData} {d : Df} {k : Nat} {Φ : Tab} (g : Glob K mg cs exs) (F : FunD K x qual params body scope [] [] f fd) (S : FnScope d.names (d.names.take d.np) scope) (hn : d.np ≤ d.names.length)
    (h : isSs d.names cs exs d.body scope body = true) (fns : ∀ base y G, Φ y = some G → Kept P w K mg base k y G) (hq : (qual ++ ".<locals>.") ++ "<lambda>" = lamQ) (res : ∃ body scope, ResF K mg exs body scope)
    (all : (Φ "_law_all").isSome = true → ∀ base k G, Kept P w K mg base k "_law_result" G → Kept P w K mg base (k + 1) "_law_all" (runFn (tab1 G) allDf)) (hcode : fd.code = .ref c) (TB : LamX.TabB base mg c Pt) :
    FnOk P w K mg base (L2.CX P w) (k + 6) f fd (d.names.take d.np) (spL K mg Pt (runFn Φ d)) := by
  obtain ⟨oc, od, dV, kV, doc, pm, an, cdv, ct, osl, rfl, lk, hcd, _, _⟩ := F.ex
  refine fn_of lk hcd S (fun vs H Q E q => ?_) fun A outer s H vs Q E hr q => ⟨_, pss_of, ?_⟩
  · obtain ⟨H0, ds, _, r, _, _, q⟩ := q
    unfold runFn at q
    by_cases hl : ds.length = d.np
    · rw [r.length, hl, List.length_take]; omega
    · rw [if_neg hl] at q; exact q.elim
  · obtain ⟨H0, ds, sm, r, hT, h0, q⟩ := q
    unfold runFn at q
    by_cases hl : ds.length = d.np
    case neg => rw [if_neg hl] at q; exact q.elim
    rw [if_pos hl] at q
    cases hx : exL Φ d.body (startB d.names.length ds) with
    | none => rw [hx] at q; exact q.elim
    | some o =>
      rw [hx] at q
      simp only [Option.bind_some] at q
      have C : CtxS (cxOf (L2.CX P w) P w K mg base d.names qual scope f cdv A outer s H E) d.names scope cs Φ exs := by
        refine ⟨⟨rfl, rfl, S.nd, rfl, rfl, g.blt, g.con, ?_, fun y G hy => ?_⟩, passes_of rfl, g.exc, g.try_, rfl, rfl⟩
        · have := hr.un
          show (A.deeper (envOfC qual scope s.heap.objs.size f cdv)).units + 70 < cLine
          omega
        · obtain ⟨a, fd, ps, h1, h2, h3, h4⟩ := fns base y G hy
          exact ⟨a, fd, ps, k, h1, hr.mono (by omega), h2, h3, h4⟩
      refine soundSs d.body (F := ⟨H, H0⟩) C (fun _ => ⟨⟨c, Pt, TB, hcode, hT, h0⟩, hq, res, ⟨k, fns, hr⟩, all⟩) h hx (start d.names vs) H H0 _ (fun x σ H' => ∀ C, mg x = some (.ref C) → E (.ref C) none H') ?_ (env_start sm r) ?_
      · refine Takes.imp (takes_of (E := E) rfl rfl rfl rfl) fun c d σ H' hW => ?_
        obtain ⟨x, C', rfl, rfl, hm, hW⟩ := hW
        exact hW C' hm
      · cases o with
        | nx ρ => exact fun σ H' H0' e => q .non H' H0' e.fin .non
        | rt d => exact fun v H' H0' p r => q v H' H0' p r
        | bk ρ => exact q.elim
        | ex x => exact fun σ H' H0' ρ e C' hm => q C' H' H0' hm e.fin
end
end OL

end
section
set_option Elab.async false
set_option linter.all false
set_option maxRecDepth 100000
set_option maxHeartbeats 8000000
namespace OL
open PySem PySem.Spec PyProof.Rows L2 RZ

/-- a def of our syntax and its place in the text -/
structure Item where
  d : Df
  i : Nat
section
variable (top : Nat → Stmt)
def Item.dd (x : Item) : He.DefD := ⟨(x.d.name, none), x.d.name, x.d.name, defArgs (top x.i), defBody (top x.i), defScope (top x.i), [], []⟩
structure ItemOk (cs : List (Str × Key)) (exs : List Str) (x : Item) : Prop where
  chk : isSs x.d.names cs exs x.d.body (defScope (top x.i)) (defBody (top x.i)) = true
  sc : FnScope x.d.names (x.d.names.take x.d.np) (defScope (top x.i))
  np : x.d.np ≤ x.d.names.length
  bind : ∀ (kV doc pm : Value) (an : Option Addr) (cdv ct : Value) (us : List Value), us.length = (x.d.names.take x.d.np).length → bindArgs (PySem.W.fnOf x.d.name x.d.name (defArgs (top x.i)) (defBody (top x.i)) (defScope (top x.i)) .none kV doc pm an cdv ct) ⟨us, []⟩ = pure ((x.d.names.take x.d.np).zip us)
end
section
variable {top : Nat → Stmt} {P : Program} {w : World} {K : PySem.W.Frag} {mg : Str → Option Value} {base : Heap} {cs : List (Str × Key)} {exs : List Str}
theorem tab_none : ∀ {l : List Item} {y : Str}, (∀ z ∈ l, z.d.name ≠ y) → tab (l.map (·.d)) y = none
  | [], y, h => rfl
  | x :: l, y, h => by
    show (if y = x.d.name then some (runFn (tab (l.map (·.d))) x.d) else tab (l.map (·.d)) y) = none
    rw [if_neg fun e => h x (by simp) e.symm]
    exact tab_none fun z hz => h z (by simp [hz])
theorem tab_some : ∀ {l : List Item} {y : Str}, (tab (l.map (·.d)) y).isSome = true → ∃ z ∈ l, z.d.name = y
  | [], y, h => by cases h
  | x :: l, y, h => by
    by_cases e : x.d.name = y
    · exact ⟨x, by simp, e⟩
    · have h' : (if y = x.d.name then some (runFn (tab (l.map (·.d))) x.d) else tab (l.map (·.d)) y).isSome = true := h
      rw [if_neg fun q => e q.symm] at h'
      obtain ⟨z, hz, ez⟩ := tab_some h'
      exact ⟨z, by simp [hz], ez⟩
theorem tab_ok (g : Glob K mg cs exs) : ∀ (l : List Item), (∀ x ∈ l, ItemOk top cs exs x) → (∀ x ∈ l.tail, x.d.name ≠ "_law_class") → (∀ x ∈ l, mg x.d.name = some (.ref (He.fAd K (x.dd top).at_)) ∧ ∃ fd, FunD K (x.dd top).name (x.dd top).qual (x.dd top).params (x.dd top).body (x.dd top).scope [] [] (He.fAd K (x.dd top).at_) fd) →
    ∀ y G, tab (l.map (·.d)) y = some G → Kept P w K mg base l.length y G
  | [], _, _, _, y, G, h => by cases h
  | x :: l, ok, no, fu, y, G, h => by
    have ih := tab_ok g l (fun z hz => ok z (by simp [hz])) (fun z hz => no z (List.mem_of_mem_tail hz)) (fun z hz => fu z (by simp [hz]))
    have h' : (if y = x.d.name then some (runFn (tab (l.map (·.d))) x.d) else tab (l.map (·.d)) y) = some G := h
    split at h'
    · rename_i e
      subst e
      cases h'
      have o := ok x (by simp)
      obtain ⟨hm, fd, F⟩ := fu x (by simp)
      exact ⟨_, fd, _, fn_ok g F o.sc o.np o.chk ih (tab_none no), hm, F.kp, F.bindsN o.bind⟩
    · exact (ih y G h').mono (by simp)
/-- .. of the classes that an except clause looks at -/
def excCB (K : PySem.W.Frag) (C : Addr) : Bool := He.eqO (PySem.W.findIn K (.ref C) "__getattribute__") (some (some (.builtin "BaseException.__getattribute__"))) && (He.eqO (PySem.W.findIn K (.ref C) "__getattr__") (some none) && (decide (PySem.W.subIn K (.ref C) (.type "BaseException") = some true) && (PySem.W.hasDictIn K C &&
  (He.eqO (PySem.W.findIn K (.ref C) "__class__") (some (some (.builtin "object.__class__"))) && (He.eqO (PySem.W.specialIn K (.builtin "object.__class__") "__get__") (some (some (.builtin "getset_descriptor.__get__"))) && (decide (PySem.W.takesIn K (.builtin "object.__class__") = some true) && decide (PySem.W.mroIn K C (.type "object") = some true)))))))
theorem excCB_is {C : Addr} (h : excCB K C = true) : ExcC K C := by
  obtain ⟨h1, h⟩ := He.ba h
  obtain ⟨h2, h⟩ := He.ba h
  obtain ⟨h3, h⟩ := He.ba h
  obtain ⟨h4, h⟩ := He.ba h
  obtain ⟨h5, h⟩ := He.ba h
  obtain ⟨h6, h⟩ := He.ba h
  obtain ⟨h7, h8⟩ := He.ba h
  exact ⟨He.eqO_ok h1, He.eqO_ok h2, of_decide_eq_true h3, h4, He.eqO_ok h5, He.eqO_ok h6, of_decide_eq_true h7, of_decide_eq_true h8⟩
def tryB (exs : List Str) (K : PySem.W.Frag) : Bool := !decide (("LeagueError" : Str) ∈ exs) || exs.all fun x => excCB K (He.ga K x) && (decide (PySem.W.exmOne K (.ref (He.ga K x)) (.ref (He.ga K "LeagueError")) = some true) &&
  exs.all fun c => decide (PySem.W.kitOne K (.ref (He.ga K x)) (.ref (He.ga K c)) = some (decide (c = x) || decide (c = "LeagueError"))))
def obsE (n : Nat) (fa : List He.Fa) (fn : List He.DefD) (exs : List Str) (g : Addr → Option Obj) : He.AlD × Bool := (He.obsDG n fa fn g, tryB exs (He.frG g (He.asD g n)))
def hookE (n : Nat) (fa : List He.Fa) (fn : List He.DefD) (exs : List Str) : PySem.W.Hook where
  α := He.AlD × Bool
  obs := fun st => obsE n fa fn exs st.heap.get?
  val := fun _ => (He.valD fn, true)
  says := fun _ hp => ∃ K : PySem.W.Frag, K.In hp ∧ He.SaysD fa fn K ∧ tryB exs K = true
  of := fun _ _ e => ⟨_, He.frG_in, congrArg Prod.fst e, congrArg Prod.snd e⟩
  keeps := fun _ _ _ ⟨K, hK, c, t⟩ k => ⟨K, PySem.W.Frag.In.keeps hK k, c, t⟩
theorem obsE_eq {n : Nat} {fa : List He.Fa} {fn : List He.DefD} {exs : List Str} {g : Addr → Option Obj} {s : Shared} (h : ∀ a, g a = s.heap.get? a) : obsE n fa fn exs g = (hookE n fa fn exs).obs s := by
  have e : g = s.heap.get? := funext h
  rw [e]; rfl
/-- the facts of the head -/
def facts (l : List Item) (cs : List (Str × Key)) (exs : List Str) : List He.Fa := l.map (fun x => .glo x.d.name) ++ (exs.map .glo ++ (exs.map .exc ++ (bltn.map .free ++ cs.map fun p => match p.2 with
  | .inl i => .int p.1 i
  | .inr z => .str p.1 z)))
theorem fact_of {fa : List He.Fa} {fn : List He.DefD} (c : He.SaysD fa fn K) {f : He.Fa} (h : f ∈ fa) : f.ok K = true := by
  obtain ⟨i, hi⟩ := List.getElem?_of_mem h
  exact c.fact i hi
theorem def_of {fa : List He.Fa} {fn : List He.DefD} (c : He.SaysD fa fn K) {d : He.DefD} (h : d ∈ fn) : ∃ fd, FunD K d.name d.qual d.params d.body d.scope (d.dvs K) (d.kws K) (He.fAd K d.at_) fd := by
  obtain ⟨i, hi⟩ := List.getElem?_of_mem h
  exact c.def_ i hi
theorem glob_of {h : Heap} {l : List Item} {fn : List He.DefD} (X : K.In h) (G : h.Ns mainGlobals mg) (c : He.SaysD (facts l cs exs) fn K) (tb : tryB exs K = true) : Glob K mg cs exs := by
  have glo : ∀ x ∈ exs, mg x = some (.ref (He.ga K x)) := fun x hx => He.glo_ok X G (fact_of c (f := .glo x) (by
      unfold facts; simp only [List.mem_append, List.mem_map]; exact .inr (.inl ⟨x, hx, rfl⟩)))
  refine ⟨fun x hx => He.free_ok X G (fact_of c (f := .free x) ?_), fun p hp => ?_, fun x hx => ?_, fun hin x hx C hC => ?_⟩
  · unfold facts; simp only [List.mem_append, List.mem_map]; exact .inr (.inr (.inr (.inl ⟨x, hx, rfl⟩)))
  · have hm : (match p.2 with | .inl i => He.Fa.int p.1 i | .inr z => .str p.1 z) ∈ facts l cs exs := by
      unfold facts; simp only [List.mem_append, List.mem_map]; exact .inr (.inr (.inr (.inr ⟨p, hp, rfl⟩)))
    obtain ⟨x, k⟩ := p
    cases k with
    | inl i =>
      obtain ⟨t, ht⟩ := He.int_ok X G (fact_of c hm)
      exact ⟨_, ht, t, rfl⟩
    | inr z =>
      obtain ⟨t, ht⟩ := He.str_ok X G (fact_of c hm)
      exact ⟨_, ht, t, rfl⟩
  · have h1 : He.Fa.glo x ∈ facts l cs exs := by
      unfold facts; simp only [List.mem_append, List.mem_map]; exact .inr (.inl ⟨x, hx, rfl⟩)
    have h2 : He.Fa.exc x ∈ facts l cs exs := by
      unfold facts; simp only [List.mem_append, List.mem_map]; exact .inr (.inr (.inl ⟨x, hx, rfl⟩))
    have q := fact_of c h2
    obtain ⟨q1, q⟩ := He.ba q
    obtain ⟨q2, q⟩ := He.ba q
    obtain ⟨q3, q4⟩ := He.ba q
    exact ⟨_, He.glo_ok X G (fact_of c h1), q1, q2, of_decide_eq_true q3, of_decide_eq_true q4⟩
  · unfold tryB at tb
    rw [decide_eq_true hin] at tb
    have tb' := List.all_eq_true.mp (show (exs.all _) = true from tb) x hx
    obtain ⟨t1, t2⟩ := He.ba tb'
    obtain ⟨t2, t3⟩ := He.ba t2
    have e := (glo x hx).symm.trans hC
    cases e
    exact ⟨excCB_is t1, ⟨_, glo _ hin, of_decide_eq_true t2⟩, fun c' hc => ⟨_, glo c' hc, of_decide_eq_true (List.all_eq_true.mp t3 c' hc)⟩⟩
/-- the classes are ValueErrors -/
def veB (exs : List Str) (K : PySem.W.Frag) : Bool := exs.all fun x => decide (PySem.W.kitOne K (.ref (He.ga K x)) (.type "ValueError") = some true)
def lamB (exs : List Str) (K : PySem.W.Frag) : Bool := tryB exs K && veB exs K
/-- the defs of the text that have to do with lambdas -/
structure LamI (top : Nat → Stmt) (cs : List (Str × Key)) (exs : List Str) (l : List Item) : Prop where
  le : ("LeagueError" : Str) ∈ exs
  sub : ∀ y ∈ clsA, y ∈ exs
  cls : ∃ z ∈ l, z.d.name = "_law_class" ∧ z.d.names = clsN ∧ z.d.np = 1 ∧ isCls clsN (defScope (top z.i)) exs "error" (defBody (top z.i)) = true
  res : ∃ z ∈ l, z.d.name = "_law_result" ∧ z.d.names = resN ∧ z.d.np = 1 ∧ isRes (defScope (top z.i)) (defBody (top z.i)) = true
  all : ∀ z ∈ l, z.d.name = "_law_all" → ItemOk top cs exs ⟨allDf, z.i⟩
section
variable {l : List Item}
theorem glo_of {h : Heap} {fn : List He.DefD} (X : K.In h) (G : h.Ns mainGlobals mg) (c : He.SaysD (facts l cs exs) fn K) : ∀ x ∈ exs, mg x = some (.ref (He.ga K x)) := fun x hx => He.glo_ok X G (fact_of c (f := .glo x) (by
      unfold facts; simp only [List.mem_append, List.mem_map]; exact .inr (.inl ⟨x, hx, rfl⟩)))
theorem defAt_of {z : Item} {nm : Str} {N ps : List Str} (ok : ItemOk top cs exs z) (fu : mg z.d.name = some (.ref (He.fAd K (z.dd top).at_)) ∧ ∃ fd, FunD K (z.dd top).name (z.dd top).qual (z.dd top).params (z.dd top).body (z.dd top).scope [] [] (He.fAd K (z.dd top).at_) fd)
    (hn : z.d.name = nm) (hN : z.d.names = N) (hp : z.d.names.take z.d.np = ps) : DefAt K mg nm N ps (defBody (top z.i)) (defScope (top z.i)) := by
  subst hn hN hp
  obtain ⟨hm, fd, F⟩ := fu
  exact ⟨⟨_, _, fd, F, hm, F.bindsN ok.bind⟩, ok.sc⟩
theorem res_of (g : Glob K mg cs exs) (glo : ∀ x ∈ exs, mg x = some (.ref (He.ga K x))) (ve : veB exs K = true) (ok : ∀ z ∈ l, ItemOk top cs exs z) (fu : ∀ z ∈ l, mg z.d.name = some (.ref (He.fAd K (z.dd top).at_)) ∧ ∃ fd, FunD K (z.dd top).name (z.dd top).qual (z.dd top).params (z.dd top).body (z.dd top).scope [] [] (He.fAd K (z.dd top).at_) fd)
    (L : LamI top cs exs l) : ∃ body scope, ResF K mg exs body scope := by
  obtain ⟨z, hz, z1, z2, z3, z4⟩ := L.res
  obtain ⟨y, hy, y1, y2, y3, y4⟩ := L.cls
  refine ⟨_, _, defAt_of (ok z hz) (fu z hz) z1 z2 (by rw [z2, z3]; rfl), z4, ⟨_, _, defAt_of (ok y hy) (fu y hy) y1 y2 (by rw [y2, y3]; rfl), y4, g.blt _ (by decide), g.blt _ (by decide), fun x hx => ?_⟩, ?_⟩
  · have hx' := L.sub x hx
    obtain ⟨t1, t2, t3⟩ := g.try_ L.le x hx' _ (glo x hx')
    exact ⟨_, glo x hx', t1, of_decide_eq_true (List.all_eq_true.mp ve x hx'), t3⟩
  · refine ⟨_, glo _ L.le, fun x hx C hC => ?_⟩
    obtain ⟨t1, ⟨B, hB, t2⟩, t3⟩ := g.try_ L.le x (L.sub x hx) C hC
    rw [glo _ L.le] at hB
    cases hB
    exact t2
theorem all_of (g : Glob K mg cs exs) (fu : ∀ z ∈ l, mg z.d.name = some (.ref (He.fAd K (z.dd top).at_)) ∧ ∃ fd, FunD K (z.dd top).name (z.dd top).qual (z.dd top).params (z.dd top).body (z.dd top).scope [] [] (He.fAd K (z.dd top).at_) fd)
    (L : LamI top cs exs l) (hs : (tab (l.map (·.d)) "_law_all").isSome = true) : ∀ base k G, Kept P w K mg base k "_law_result" G → Kept P w K mg base (k + 1) "_law_all" (runFn (tab1 G) allDf) := by
  intro base k G hG
  obtain ⟨z, hz, e⟩ := tab_some hs
  have o := L.all z hz e
  obtain ⟨hm, fd, F⟩ := fu z hz
  have e1 : z.dd top = (⟨allDf, z.i⟩ : Item).dd top := by
    show (⟨(z.d.name, none), z.d.name, z.d.name, _, _, _, _, _⟩ : He.DefD) = _
    rw [e]
    rfl
  rw [e1] at F hm
  rw [e] at hm
  refine ⟨_, fd, _, fn_ok g F o.sc o.np o.chk (fun y G' hy => ?_) rfl, hm, F.kp, F.bindsN o.bind⟩
  unfold tab1 at hy
  split at hy
  · rename_i ey; subst ey; cases hy; exact hG
  · cases hy
end
/-- the walk of a law's call, from what our evaluator says -/
theorem law_walkL {l : PySem.W.OpenLaw} {q : Program} {loose : List Str} {XP : (Str → Option Value) → Heap → Prop} {YP : World → Heap → Prop} {dr : DefRec} {its : List Item} {x : Item} {s : Str} {n : Nat} (hn : l.most = some n) (hz : n ≤ sizeLine) (hd0 : dr.params.defaults = [])
    (rm : Room (its.length + 6) callerA) (hY : ∀ (w : World) (h : Heap), YP w h → ∃ K : PySem.W.Frag, K.In h ∧ He.SaysX (facts (x :: its) cs exs) ((x :: its).map (Item.dd top)) [] [("law", none)] (lamB exs) w h K) (hnm : dr.name = x.d.name) (hxn : x.d.name = "law") (ok : ∀ z ∈ x :: its, ItemOk top cs exs z) (hp : x.d.names.take x.d.np = [s])
    (hno : ∀ z ∈ its.tail, z.d.name ≠ "_law_class") (LI : LamI top cs exs its) (hv : ∀ ns : List Int, ns.length ≤ n → runFn (tab (its.map (·.d))) x.d [.list (ns.map .int)] = some (.ok (.bool true))) : PySem.W.WalkO q loose XP YP l.row.toRowW dr [] (fun f vs => PySem.call f vs) := by
  refine LamX.walk_ofTsE (CX := fun w => L2.CX l.prog w) (x := s) hn hz hd0 rm (fun w mg fa h Y G hmg => ?_) fun w H s e s' z => ?_
  · obtain ⟨K, KX, c⟩ := hY w h Y
    have cd : He.SaysD (facts (x :: its) cs exs) ((x :: its).map (Item.dd top)) K := congrArg Prod.fst c.t
    obtain ⟨tb, ve⟩ := He.ba (show (tryB exs K && veB exs K) = true from c.more)
    have g := glob_of KX G cd tb
    have fu : ∀ z ∈ x :: its, mg z.d.name = some (.ref (He.fAd K (z.dd top).at_)) ∧ ∃ fd, FunD K (z.dd top).name (z.dd top).qual (z.dd top).params (z.dd top).body (z.dd top).scope [] [] (He.fAd K (z.dd top).at_) fd := by
      intro z hz
      refine ⟨He.glo_ok KX G (fact_of cd (f := .glo z.d.name) ?_), def_of cd (List.mem_map.mpr ⟨z, hz, rfl⟩)⟩
      unfold facts; simp only [List.mem_append, List.mem_map]; exact .inl ⟨z, hz, rfl⟩
    have fuI : ∀ z ∈ its, mg z.d.name = some (.ref (He.fAd K (z.dd top).at_)) ∧ ∃ fd, FunD K (z.dd top).name (z.dd top).qual (z.dd top).params (z.dd top).body (z.dd top).scope [] [] (He.fAd K (z.dd top).at_) fd := fun z hz => fu z (by simp [hz])
    obtain ⟨hm, fd, F⟩ := fu x (by simp)
    rw [hnm, hm] at hmg
    cases hmg
    have o := ok x (by simp)
    have hcode : fd.code = .ref (He.cT K ("law", none)).1 := by
      obtain ⟨oc, od, dV, kV, doc, pm, an, cdv, ct, osl, e, lk, hcd, _, _⟩ := F.ex
      obtain ⟨c0, e0⟩ := He.codeIn_ref hcd
      have ec : fd.code = .ref c0 := by rw [e]; exact e0
      have e2 : (x.dd top).at_ = (("law", none) : He.Defn) := by show ((x.d.name, none) : He.Defn) = _; rw [hxn]
      rw [e2] at lk
      rw [ec]
      show Value.ref c0 = .ref (He.codeOf K ("law", none))
      rw [He.codeOf_eq lk ec]
    have hm1 : (("law", none) : He.Defn) ∈ [(("law", none) : He.Defn)] := by simp
    refine ⟨K, KX, fd, [He.cT K ("law", none)], spL K mg (He.cT K ("law", none)).2 (runFn (tab (its.map (·.d))) x.d), fun p hp => ?_, fun p hp => ?_, fun p hp => ?_, fun s' u => ?_, fun H a ns hl _ hT hS => ?_, fun base _ _ TB => ?_⟩
    · rw [List.mem_singleton] at hp; subst hp; exact c.empty _ hm1
    · rw [List.mem_singleton] at hp; subst hp; exact c.out _ hm1
    · rw [List.mem_singleton] at hp; subst hp; exact PySem.W.codeHd_of_K KX (c.hd _ hm1)
    · have b := F.bindsA o.bind s' [u] (by rw [hp]; rfl)
      rw [hp] at b
      exact b
    · have hTP := hT _ (List.mem_singleton.mpr rfl)
      refine ⟨fun b => if b = (He.cT K ("law", none)).2 then none else H b, [.list (ns.map .int)], fun b u e => ?_, .cons (.lst ?_ (RDL.ints ns)) .nil, ⟨rfl, LamX.TabS.nil hTP⟩, if_pos rfl, ?_⟩
      · have e' : (if b = (He.cT K ("law", none)).2 then none else H b) = some u := e
        by_cases hb : b = (He.cT K ("law", none)).2
        · rw [if_pos hb] at e'; cases e'
        · rw [if_neg hb] at e'; exact e'
      · have ne : ∀ u, H a = some u → (∀ ps, u ≠ .tbl ps) → (if a = (He.cT K ("law", none)).2 then none else H a) = some u := fun u e n => by
          rw [if_neg fun z => by rw [z, hTP] at e; exact n _ (Option.some.inj e).symm]
          exact e
        rcases hS with (e | ⟨o', e⟩) | k
        · exact .inl (.inl (ne _ e fun _ z => by cases z))
        · exact .inl (.inr ⟨o', ne _ e fun _ z => by cases z⟩)
        · exact .inr k
      · rw [hv ns hl]
        intro v H' H0' _ r
        cases r
        rfl
    · have q := fn_okL (P := l.prog) (w := w) (base := base) g F o.sc o.np o.chk (fun base' => tab_ok (base := base') g its (fun z hz => ok z (by simp [hz])) hno fuI) (by show (x.d.name ++ ".<locals>.") ++ "<lambda>" = lamQ; rw [hxn]; rfl) (res_of g (glo_of KX G cd) ve (fun z hz => ok z (by simp [hz])) fuI LI) (all_of g fuI LI) hcode (TB _ (List.mem_singleton.mpr rfl))
      rw [hp] at q
      exact q
  · obtain ⟨_, _, _, _, _, _, _, _, _, _, _, _, z⟩ := z
    exact z
end
end OL

end
section
set_option Elab.async false
set_option linter.all false
set_option maxRecDepth 100000
set_option maxHeartbeats 1000000
/-! plain laws of the evaluator's operations -/
namespace OL
open PySem PySem.Spec PyProof.Rows L2
abbrev iL (ns : List Int) : List PyData := ns.map PyData.int
theorem eqv_int (a b : Int) : PyData.eqv (.int a) (.int b) = decide (a = b) := by
  simp only [PyData.eqv]; exact Bool.beq_eq_decide_eq a b
theorem eqv_bool (a b : Bool) : PyData.eqv (.bool a) (.bool b) = (a == b) := by simp only [PyData.eqv]
theorem eqvAll_ints : ∀ a b : List Int, PyData.eqvAll (iL a) (iL b) = decide (a = b)
  | [], [] => rfl
  | [], _ :: _ => rfl
  | _ :: _, [] => rfl
  | x :: a, y :: b => by
    show PyData.eqvAll (.int x :: iL a) (.int y :: iL b) = _
    simp only [PyData.eqvAll, eqvAll_ints a b, eqv_int]
    simp
theorem canLayAll_ints : ∀ ns : List Int, PyData.canLayAll0 (iL ns) = true
  | [] => rfl
  | n :: ns => by
    show PyData.canLayAll0 (.int n :: iL ns) = true
    simp only [PyData.canLayAll0, canLayAll_ints ns, Bool.and_true]
    rfl
theorem shp_int (a : Int) : shp (.int a) = true := rfl
theorem shp_bool (a : Bool) : shp (.bool a) = true := rfl
theorem eqD_int (a b : Int) : eqD (.int a) (.int b) = some (decide (a = b)) := by
  simp [eqD, shp_int, eqv_int]
theorem eqD_bool (a b : Bool) : eqD (.bool a) (.bool b) = some (a == b) := by
  simp [eqD, shp_bool, eqv_bool]
theorem shp_list (ns : List Int) : shp (.list (iL ns)) = true := by
  unfold shp SeqAt.shaped
  have h := depthAll_ints ns
  have h2 := canLayAll_ints ns
  simp only [PyData.canLay0, PyData.depth, h, h2]
  decide
theorem shp_tuple (ns : List Int) : shp (.tuple (iL ns)) = true := by
  unfold shp SeqAt.shaped
  have h := depthAll_ints ns
  have h2 := canLayAll_ints ns
  simp only [PyData.canLay0, PyData.depth, h, h2]
  decide
theorem eqD_list (a b : List Int) : eqD (.list (iL a)) (.list (iL b)) = some (decide (a = b)) := by
  unfold eqD
  rw [if_pos ⟨shp_list a, shp_list b⟩, PyData.eqv, eqvAll_ints]
theorem eqD_tuple (a b : List Int) : eqD (.tuple (iL a)) (.tuple (iL b)) = some (decide (a = b)) := by
  unfold eqD
  rw [if_pos ⟨shp_tuple a, shp_tuple b⟩, PyData.eqv, eqvAll_ints]
theorem ints_q (ns : List Int) : ltD.ints? (iL ns) = some ns := by
  induction ns with
  | nil => rfl
  | cons n ns ih =>
    show (ltD.ints? (iL ns)).map (n :: ·) = _
    rw [ih]; rfl
theorem bools_q (bs : List Bool) : bools? (bs.map PyData.bool) = some bs := by
  induction bs with
  | nil => rfl
  | cons n ns ih =>
    show (bools? (ns.map PyData.bool)).map (n :: ·) = _
    rw [ih]; rfl
theorem lcGo_of {f : PyData → Option (Option PyData)} {g : PyData → Option PyData} : ∀ {ds : List PyData}, (∀ d ∈ ds, f d = some (g d)) → lcGo f ds = some (ds.filterMap g)
  | [], _ => rfl
  | d :: ds, h => by
    unfold lcGo
    rw [h d (by simp), Option.bind_some, lcGo_of (fun e he => h e (by simp [he])), Option.map_some, List.filterMap_cons]
    cases g d <;> rfl
theorem lcGo_map {f : PyData → Option (Option PyData)} {g : PyData → PyData} {ds : List PyData} (h : ∀ d ∈ ds, f d = some (some (g d))) : lcGo f ds = some (ds.map g) := by
  rw [lcGo_of (g := fun d => some (g d)) h, List.filterMap_eq_map']
/-- over the image of a list -/
theorem lcGo_at {α : Type} {f : PyData → Option (Option PyData)} {e : α → PyData} {g : α → PyData} {l : List α} (h : ∀ a ∈ l, f (e a) = some (some (g a))) : lcGo f (l.map e) = some (l.map g) := by
  induction l with
  | nil => rfl
  | cons a l ih =>
    rw [List.map_cons]
    unfold lcGo
    rw [h a (by simp), Option.bind_some, ih (fun b hb => h b (by simp [hb]))]
    rfl
theorem lcGo_filt {α : Type} {f : PyData → Option (Option PyData)} {e : α → PyData} {g : α → PyData} {p : α → Bool} {l : List α} (h : ∀ a ∈ l, f (e a) = some (if p a = true then some (g a) else none)) : lcGo f (l.map e) = some ((l.filter p).map g) := by
  induction l with
  | nil => rfl
  | cons a l ih =>
    rw [List.map_cons]
    unfold lcGo
    rw [h a (by simp), Option.bind_some, ih (fun b hb => h b (by simp [hb]))]
    cases hp : p a <;> simp [hp, List.filter_cons, consO]
theorem lcGo2_at {α : Type} {f : PyData → Option (List PyData)} {e : α → PyData} {g : α → List PyData} {l : List α} (h : ∀ a ∈ l, f (e a) = some (g a)) : lcGo2 f (l.map e) = some (l.flatMap g) := by
  induction l with
  | nil => rfl
  | cons a l ih =>
    rw [List.map_cons]
    unfold lcGo2
    rw [h a (by simp), Option.bind_some, ih (fun b hb => h b (by simp [hb]))]
    rfl
/-- a loop with an invariant -/
theorem forGo_inv {t : T} {body : Env → Option O} (I : Nat → Env → Prop) {ds : List PyData} : ∀ (k : Nat) (ρ : Env), (∀ j ρ d, ds[j]? = some d → I (k + j) ρ → ∃ ρ1 ρ2, bindT t d ρ = some ρ1 ∧ body ρ1 = some (.nx ρ2) ∧ I (k + j + 1) ρ2) → I k ρ → ∃ ρ', forGo t body ds ρ = some (.nx ρ') ∧ I (k + ds.length) ρ' := by
  induction ds with
  | nil => intro k ρ _ h; exact ⟨ρ, rfl, h⟩
  | cons d ds ih =>
    intro k ρ st h
    obtain ⟨ρ1, ρ2, e1, e2, h2⟩ := st 0 ρ d rfl h
    obtain ⟨ρ', e3, h3⟩ := ih (k + 1) ρ2 (fun j ρ d hd hI => by
      have q := st (j + 1) ρ d (by simpa using hd) (by rw [show k + (j + 1) = k + 1 + j by omega]; exact hI)
      rw [show k + (j + 1) = k + 1 + j by omega] at q
      exact q) h2
    refine ⟨ρ', ?_, by rw [List.length_cons, show k + (ds.length + 1) = k + 1 + ds.length by omega]; exact h3⟩
    unfold forGo
    rw [e1, Option.bind_some, e2, Option.bind_some]
    exact e3
/-- over range(n) -/
theorem forGo_range {t : T} {body : Env → Option O} (I : Nat → Env → Prop) {n : Int} (ρ : Env) (st : ∀ (j : Nat) ρ, (j : Int) < n → I j ρ → ∃ ρ1 ρ2, bindT t (.int j) ρ = some ρ1 ∧ body ρ1 = some (.nx ρ2) ∧ I (j + 1) ρ2) (h : I 0 ρ) : ∃ ρ', forGo t body (rgD 0 n) ρ = some (.nx ρ') ∧ I n.toNat ρ' := by
  obtain ⟨ρ', h1, h2⟩ := forGo_inv (t := t) (body := body) I (ds := rgD 0 n) 0 ρ (fun j ρ d hd hI => by
    unfold rgD at hd
    rw [List.getElem?_map] at hd
    by_cases hj : j < (n - 0).toNat
    · rw [List.getElem?_range hj] at hd
      cases hd
      rw [Nat.zero_add] at hI ⊢
      have q := st j ρ (by omega) hI
      simpa using q
    · rw [List.getElem?_eq_none (by simpa using Nat.le_of_not_lt hj)] at hd
      cases hd) h
  refine ⟨ρ', h1, ?_⟩
  have e : 0 + (rgD 0 n).length = n.toNat := by simp [rgD]
  rw [e] at h2
  exact h2
theorem sortD_ints (ns : List Int) : sortD (iL ns) = iL (ns.mergeSort (fun a b => decide (a ≤ b))) := by
  unfold sortD
  refine (List.map_mergeSort fun a _ b _ => ?_).symm
  exact (congrFun (congrFun (PySem.W.dataLe_int (fun i : Int => i)) a) b).symm
theorem sorted_list {xs : List PyData} (h : sortOk xs = true) : biD "sorted" [.list xs] = some (.list (sortD xs)) := by
  show (if sortOk xs = true then some (PyData.list (sortD xs)) else if isE1 xs = true then some (PyData.list xs) else none) = _
  rw [if_pos h]
theorem sortOk_ints (ns : List Int) : sortOk (iL ns) = true := by
  unfold sortOk
  simp only [Bool.and_eq_true, Bool.or_eq_true, List.all_eq_true, List.mem_map, decide_eq_true_eq]
  refine ⟨⟨fun d hd e he => ?_, fun d hd => ?_⟩, .inr fun d hd => ?_⟩
  · obtain ⟨a, _, rfl⟩ := hd; obtain ⟨b, _, rfl⟩ := he; rfl
  · obtain ⟨a, _, rfl⟩ := hd; simp [PyData.depth]
  · obtain ⟨a, _, rfl⟩ := hd; rfl
end OL

end
section
set_option linter.all false
namespace OLd
open PySem PySem.Spec PyProof.Rows L2 OL
def d_is_int : Df := ⟨"is_int", 3, ["value", "least", "most"], (.cons (.ret (.and (.cons (.isi (.v 0) "int") (.cons (.no (.isi (.v 0) "bool")) (.cons (.cmp2 .LtE .LtE (.v 1) (.v 0) (.v 2)) .nil))))) .nil)⟩
def d_is_rule : Df := ⟨"is_rule", 1, ["candidate"], (.cons (.ifs (.or (.cons (.no (.isi (.v 0) "tuple")) (.cons (.cmp .NotEq (.bi "len" (.cons (.v 0) .nil)) (.c (.int 2))) (.cons (.no (.call "is_int" (.cons (.ix (.v 0) (.c (.int 0))) (.cons (.c (.int 1)) (.cons (.g "MAX_WIN" (.inl 9)) .nil))))) .nil)))) (.cons (.ret (.c (.bool false))) .nil) .nil) (.cons (.ret (.or (.cons (.cmp .Is (.ix (.v 0) (.c (.int 1))) (.c .none)) (.cons (.call "is_int" (.cons (.ix (.v 0) (.c (.int 1))) (.cons (.c (.int 0)) (.cons (.ix (.v 0) (.c (.int 0))) .nil)))) .nil)))) .nil))⟩
def d_is_game : Df := ⟨"is_game", 2, ["value", "many", "team"], (.cons (.ifs (.or (.cons (.no (.isi (.v 0) "tuple")) (.cons (.cmp .NotEq (.bi "len" (.cons (.v 0) .nil)) (.c (.int 2))) (.cons (.no (.bi "all" (.cons (.lc (.call "is_int" (.cons (.v 2) (.cons (.c (.int 0)) (.cons (.bin .Sub (.v 1) (.c (.int 1))) .nil)))) (.n 2) (.e (.v 0)) .no) .nil))) .nil)))) (.cons (.ret (.c (.bool false))) .nil) .nil) (.cons (.ret (.cmp .NotEq (.ix (.v 0) (.c (.int 0))) (.ix (.v 0) (.c (.int 1))))) .nil))⟩
def d_is_league : Df := ⟨"is_league", 1, ["candidate", "rule", "points", "games", "point", "game"], (.cons (.ifs (.or (.cons (.no (.isi (.v 0) "tuple")) (.cons (.cmp .NotEq (.bi "len" (.cons (.v 0) .nil)) (.c (.int 3))) (.cons (.no (.call "is_rule" (.cons (.ix (.v 0) (.c (.int 0))) .nil))) .nil)))) (.cons (.ret (.c (.bool false))) .nil) .nil) (.cons (.unp (.q (.n 1) (.n 2) (.n 3)) (.v 0)) (.cons (.ifs (.or (.cons (.no (.isi (.v 2) "tuple")) (.cons (.no (.cmp2 .LtE .LtE (.c (.int 2)) (.bi "len" (.cons (.v 2) .nil)) (.g "MAX_TEAMS" (.inl 6)))) .nil))) (.cons (.ret (.c (.bool false))) .nil) .nil) (.cons (.ifs (.no (.bi "all" (.cons (.lc (.call "is_int" (.cons (.v 4) (.cons (.c (.int 0)) (.cons (.g "MAX_POINTS" (.inl 199)) .nil)))) (.n 4) (.e (.v 2)) .no) .nil))) (.cons (.ret (.c (.bool false))) .nil) .nil) (.cons (.ifs (.or (.cons (.no (.isi (.v 3) "tuple")) (.cons (.cmp .Gt (.bi "len" (.cons (.v 3) .nil)) (.g "MAX_GAMES" (.inl 8))) .nil))) (.cons (.ret (.c (.bool false))) .nil) .nil) (.cons (.ret (.bi "all" (.cons (.lc (.call "is_game" (.cons (.v 5) (.cons (.bi "len" (.cons (.v 2) .nil)) .nil))) (.n 5) (.e (.v 3)) .no) .nil))) .nil))))))⟩
def d_check_league : Df := ⟨"check_league", 1, ["value"], (.cons (.ifs (.no (.call "is_league" (.cons (.v 0) .nil))) (.cons (.raise "InvalidLeague") .nil) .nil) .nil)⟩
def d_check_team : Df := ⟨"check_team", 2, ["league", "value"], (.cons (.ifs (.no (.call "is_int" (.cons (.v 1) (.cons (.c (.int 0)) (.cons (.bin .Sub (.bi "len" (.cons (.ix (.v 0) (.c (.int 1))) .nil)) (.c (.int 1))) .nil))))) (.cons (.raise "InvalidTeam") .nil) .nil) .nil)⟩
def d_check_game : Df := ⟨"check_game", 2, ["league", "value"], (.cons (.ifs (.no (.call "is_int" (.cons (.v 1) (.cons (.c (.int 0)) (.cons (.bin .Sub (.bi "len" (.cons (.ix (.v 0) (.c (.int 2))) .nil)) (.c (.int 1))) .nil))))) (.cons (.raise "InvalidGame") .nil) .nil) .nil)⟩
def d_allowed : Df := ⟨"allowed", 1, ["rule"], (.cons (.ret (.ife (.cmp .Is (.ix (.v 0) (.c (.int 1))) (.c .none)) (.lst (.cons (.g "HOME" (.inr "h")) (.cons (.g "AWAY" (.inr "a")) .nil))) (.lst (.cons (.g "HOME" (.inr "h")) (.cons (.g "AWAY" (.inr "a")) (.cons (.g "DRAW" (.inr "d")) .nil)))))) .nil)⟩
def d_gains : Df := ⟨"gains", 2, ["rule", "result"], (.cons (.ifs (.cmp .Eq (.v 1) (.g "DRAW" (.inr "d"))) (.cons (.ret (.tup (.cons (.ix (.v 0) (.c (.int 1))) (.cons (.ix (.v 0) (.c (.int 1))) .nil)))) .nil) .nil) (.cons (.ret (.ife (.cmp .Eq (.v 1) (.g "HOME" (.inr "h"))) (.tup (.cons (.ix (.v 0) (.c (.int 0))) (.cons (.c (.int 0)) .nil))) (.tup (.cons (.c (.int 0)) (.cons (.ix (.v 0) (.c (.int 0))) .nil))))) .nil))⟩
def d_have_results : Df := ⟨"have_results", 2, ["league", "candidate", "result"], (.cons (.ifs (.or (.cons (.no (.isi (.v 1) "tuple")) (.cons (.cmp .NotEq (.bi "len" (.cons (.v 1) .nil)) (.bi "len" (.cons (.ix (.v 0) (.c (.int 2))) .nil))) .nil))) (.cons (.ret (.c (.bool false))) .nil) .nil) (.cons (.ret (.bi "all" (.cons (.lc (.and (.cons (.isi (.v 2) "str") (.cons (.cmp .In (.v 2) (.call "allowed" (.cons (.ix (.v 0) (.c (.int 0))) .nil))) .nil))) (.n 2) (.e (.v 1)) .no) .nil))) .nil))⟩
def d_added : Df := ⟨"added", 3, ["points", "game", "gain", "found"], (.cons (.set 3 .o (.bi "list" (.cons (.v 0) .nil))) (.cons (.put 3 (.ix (.v 1) (.c (.int 0))) (.bin .Add (.oix 3 (.ix (.v 1) (.c (.int 0)))) (.ix (.v 2) (.c (.int 0))))) (.cons (.put 3 (.ix (.v 1) (.c (.int 1))) (.bin .Add (.oix 3 (.ix (.v 1) (.c (.int 1)))) (.ix (.v 2) (.c (.int 1))))) (.cons (.fr 3) (.cons (.ret (.bi "tuple" (.cons (.v 3) .nil))) .nil)))))⟩
def d_finals : Df := ⟨"finals", 2, ["league", "results", "rule", "points", "games", "game", "result"], (.cons (.unp (.q (.n 2) (.n 3) (.n 4)) (.v 0)) (.cons (.fors (.p (.n 5) (.n 6)) (.zip (.v 4) (.v 1)) (.cons (.set 3 .s (.call "added" (.cons (.v 3) (.cons (.v 5) (.cons (.call "gains" (.cons (.v 2) (.cons (.v 6) .nil))) .nil))))) .nil)) (.cons (.ret (.v 3)) .nil)))⟩
def d_check_results : Df := ⟨"check_results", 2, ["league", "results"], (.cons (.callS "check_league" (.cons (.v 0) .nil)) (.cons (.ifs (.no (.call "have_results" (.cons (.v 0) (.cons (.v 1) .nil)))) (.cons (.raise "InvalidResults") .nil) .nil) .nil))⟩
def d_final_points : Df := ⟨"final_points", 2, ["league", "results"], (.cons (.callS "check_results" (.cons (.v 0) (.cons (.v 1) .nil))) (.cons (.ret (.call "finals" (.cons (.v 0) (.cons (.v 1) .nil)))) .nil))⟩
def d_place_of : Df := ⟨"place_of", 2, ["points", "team", "other"], (.cons (.ret (.bin .Add (.c (.int 1)) (.bi "len" (.cons (.lc (.v 2) (.n 2) (.e (.v 0)) (.so (.cmp .Gt (.v 2) (.ix (.v 0) (.v 1))))) .nil)))) .nil)⟩
def d_places : Df := ⟨"places", 2, ["league", "results", "found", "team"], (.cons (.callS "check_results" (.cons (.v 0) (.cons (.v 1) .nil))) (.cons (.set 2 .s (.call "finals" (.cons (.v 0) (.cons (.v 1) .nil)))) (.cons (.ret (.bi "tuple" (.cons (.lc (.call "place_of" (.cons (.v 2) (.cons (.v 3) .nil))) (.n 3) (.r1 (.bi "len" (.cons (.v 2) .nil))) .no) .nil))) .nil)))⟩
def d_own_games : Df := ⟨"own_games", 2, ["league", "team", "number", "game"], (.cons (.ret (.lc (.v 2) (.p (.n 2) (.n 3)) (.enum (.ix (.v 0) (.c (.int 2)))) (.so (.cmp .In (.v 1) (.v 3))))) .nil)⟩
def d_games_of : Df := ⟨"games_of", 2, ["league", "team"], (.cons (.callS "check_league" (.cons (.v 0) .nil)) (.cons (.callS "check_team" (.cons (.v 0) (.cons (.v 1) .nil))) (.cons (.ret (.call "own_games" (.cons (.v 0) (.cons (.v 1) .nil)))) .nil)))⟩
def d_following : Df := ⟨"following", 3, ["league", "game", "result", "rule", "points", "games"], (.cons (.unp (.q (.n 3) (.n 4) (.n 5)) (.v 0)) (.cons (.ret (.tup (.cons (.v 3) (.cons (.call "added" (.cons (.v 4) (.cons (.ix (.v 5) (.v 1)) (.cons (.call "gains" (.cons (.v 3) (.cons (.v 2) .nil))) .nil)))) (.cons (.bin .Add (.sl (.v 5) .no (.so (.v 1))) (.sl (.v 5) (.so (.bin .Add (.v 1) (.c (.int 1)))) .no)) .nil))))) .nil))⟩
def d_after : Df := ⟨"after", 3, ["league", "game", "result", "found"], (.cons (.callS "check_league" (.cons (.v 0) .nil)) (.cons (.callS "check_game" (.cons (.v 0) (.cons (.v 1) .nil))) (.cons (.ifs (.or (.cons (.no (.isi (.v 2) "str")) (.cons (.cmp .NotIn (.v 2) (.call "allowed" (.cons (.ix (.v 0) (.c (.int 0))) .nil))) .nil))) (.cons (.raise "InvalidResult") .nil) .nil) (.cons (.set 3 .s (.call "following" (.cons (.v 0) (.cons (.v 1) (.cons (.v 2) .nil))))) (.cons (.ifs (.cmp .Gt (.bi "max" (.cons (.ix (.v 3) (.c (.int 1))) .nil)) (.g "MAX_POINTS" (.inl 199))) (.cons (.raise "TooLarge") .nil) .nil) (.cons (.ret (.v 3)) .nil))))))⟩
def d_all_results : Df := ⟨"all_results", 1, ["league", "found", "game", "some", "result"], (.cons (.set 1 .s (.lst (.cons (.tup .nil) .nil))) (.cons (.fors (.n 2) (.e (.ix (.v 0) (.c (.int 2)))) (.cons (.set 1 .s (.lc2 (.bin .Add (.v 3) (.tup (.cons (.v 4) .nil))) (.n 3) (.e (.v 1)) (.n 4) (.e (.call "allowed" (.cons (.ix (.v 0) (.c (.int 0))) .nil))) .no)) .nil)) (.cons (.ret (.v 1)) .nil)))⟩
def d_count_finals : Df := ⟨"count_finals", 1, ["league", "rule", "points", "games", "found", "game", "more", "some", "result", "one"], (.cons (.unp (.q (.n 1) (.n 2) (.n 3)) (.v 0)) (.cons (.set 4 .s (.d1 (.v 2) (.c (.int 1)))) (.cons (.fors (.n 5) (.e (.v 3)) (.cons (.set 6 .o .dn) (.cons (.fors (.n 7) (.e (.v 4)) (.cons (.fors (.n 8) (.e (.call "allowed" (.cons (.v 1) .nil))) (.cons (.set 9 .s (.call "added" (.cons (.v 7) (.cons (.v 5) (.cons (.call "gains" (.cons (.v 1) (.cons (.v 8) .nil))) .nil))))) (.cons (.put 6 (.v 9) (.bin .Add (.oget 6 (.v 9) (.c (.int 0))) (.ix (.v 4) (.v 7)))) .nil))) .nil)) (.cons (.fr 6) (.cons (.set 4 .s (.v 6)) .nil))))) (.cons (.ret (.v 4)) .nil))))⟩
def d_check_both : Df := ⟨"check_both", 2, ["league", "team"], (.cons (.callS "check_league" (.cons (.v 0) .nil)) (.cons (.callS "check_team" (.cons (.v 0) (.cons (.v 1) .nil))) .nil))⟩
def d_find_places : Df := ⟨"find_places", 2, ["league", "team", "points"], (.cons (.ret (.sset (.lc (.call "place_of" (.cons (.v 2) (.cons (.v 1) .nil))) (.n 2) (.e (.call "count_finals" (.cons (.v 0) .nil))) .no))) .nil)⟩
def d_best_place : Df := ⟨"best_place", 2, ["league", "team"], (.cons (.callS "check_both" (.cons (.v 0) (.cons (.v 1) .nil))) (.cons (.ret (.ix (.call "find_places" (.cons (.v 0) (.cons (.v 1) .nil))) (.c (.int 0)))) .nil))⟩
def d_worst_place : Df := ⟨"worst_place", 2, ["league", "team"], (.cons (.callS "check_both" (.cons (.v 0) (.cons (.v 1) .nil))) (.cons (.ret (.ix (.call "find_places" (.cons (.v 0) (.cons (.v 1) .nil))) (.neg (.c (.int 1))))) .nil))⟩
def d_results_for : Df := ⟨"results_for", 3, ["league", "team", "place", "results"], (.cons (.ret (.ix (.lc (.v 3) (.n 3) (.e (.call "all_results" (.cons (.v 0) .nil))) (.so (.cmp .Eq (.call "place_of" (.cons (.call "finals" (.cons (.v 0) (.cons (.v 3) .nil))) (.cons (.v 1) .nil))) (.v 2)))) (.c (.int 0)))) .nil)⟩
def d_best_results : Df := ⟨"best_results", 2, ["league", "team"], (.cons (.callS "check_both" (.cons (.v 0) (.cons (.v 1) .nil))) (.cons (.ret (.call "results_for" (.cons (.v 0) (.cons (.v 1) (.cons (.ix (.call "find_places" (.cons (.v 0) (.cons (.v 1) .nil))) (.c (.int 0))) .nil))))) .nil))⟩
def d_worst_results : Df := ⟨"worst_results", 2, ["league", "team"], (.cons (.callS "check_both" (.cons (.v 0) (.cons (.v 1) .nil))) (.cons (.ret (.call "results_for" (.cons (.v 0) (.cons (.v 1) (.cons (.ix (.call "find_places" (.cons (.v 0) (.cons (.v 1) .nil))) (.neg (.c (.int 1)))) .nil))))) .nil))⟩
def d_possible_places : Df := ⟨"possible_places", 2, ["league", "team"], (.cons (.callS "check_both" (.cons (.v 0) (.cons (.v 1) .nil))) (.cons (.ret (.call "find_places" (.cons (.v 0) (.cons (.v 1) .nil)))) .nil))⟩
def d_has_fair : Df := ⟨"has_fair", 1, ["rule"], (.cons (.ret (.cmp .In (.v 0) (.tup (.cons (.tup (.cons (.c (.int 1)) (.cons (.c .none) .nil))) (.cons (.tup (.cons (.c (.int 2)) (.cons (.c (.int 1)) .nil))) .nil))))) .nil)⟩
def d_is_fair : Df := ⟨"is_fair", 1, ["rule"], (.cons (.ifs (.no (.call "is_rule" (.cons (.v 0) .nil))) (.cons (.raise "InvalidRule") .nil) .nil) (.cons (.ret (.call "has_fair" (.cons (.v 0) .nil))) .nil))⟩
def d_has_chance : Df := ⟨"has_chance", 2, ["league", "team"], (.cons (.ret (.cmp .Eq (.ix (.call "find_places" (.cons (.v 0) (.cons (.v 1) .nil))) (.c (.int 0))) (.c (.int 1)))) .nil)⟩
def d_is_sure : Df := ⟨"is_sure", 2, ["league", "team"], (.cons (.ret (.cmp .Eq (.ix (.call "find_places" (.cons (.v 0) (.cons (.v 1) .nil))) (.neg (.c (.int 1)))) (.c (.int 1)))) .nil)⟩
def d_can_be_first : Df := ⟨"can_be_first", 2, ["league", "team"], (.cons (.callS "check_both" (.cons (.v 0) (.cons (.v 1) .nil))) (.cons (.ret (.call "has_chance" (.cons (.v 0) (.cons (.v 1) .nil)))) .nil))⟩
def d_is_first_for_sure : Df := ⟨"is_first_for_sure", 2, ["league", "team"], (.cons (.callS "check_both" (.cons (.v 0) (.cons (.v 1) .nil))) (.cons (.ret (.call "is_sure" (.cons (.v 0) (.cons (.v 1) .nil)))) .nil))⟩
def d_find_alive : Df := ⟨"find_alive", 1, ["league", "team"], (.cons (.ret (.lc (.v 1) (.n 1) (.r1 (.bi "len" (.cons (.ix (.v 0) (.c (.int 1))) .nil))) (.so (.call "has_chance" (.cons (.v 0) (.cons (.v 1) .nil)))))) .nil)⟩
def d_alive : Df := ⟨"alive", 1, ["league"], (.cons (.callS "check_league" (.cons (.v 0) .nil)) (.cons (.ret (.call "find_alive" (.cons (.v 0) .nil))) .nil))⟩
def d_alone : Df := ⟨"alone", 1, ["league", "found"], (.cons (.callS "check_league" (.cons (.v 0) .nil)) (.cons (.set 1 .s (.call "find_alive" (.cons (.v 0) .nil))) (.cons (.ret (.ife (.cmp .Eq (.bi "len" (.cons (.v 1) .nil)) (.c (.int 1))) (.ix (.v 1) (.c (.int 0))) (.c .none))) .nil)))⟩
def d_greatest_of : Df := ⟨"greatest_of", 2, ["league", "team"], (.cons (.ret (.bin .Add (.ix (.ix (.v 0) (.c (.int 1))) (.v 1)) (.bin .Mult (.ix (.ix (.v 0) (.c (.int 0))) (.c (.int 0))) (.bi "len" (.cons (.call "own_games" (.cons (.v 0) (.cons (.v 1) .nil))) .nil))))) .nil)⟩
def d_points_of : Df := ⟨"points_of", 2, ["league", "group", "rule", "points", "games", "inner", "game", "team"], (.cons (.unp (.q (.n 2) (.n 3) (.n 4)) (.v 0)) (.cons (.set 5 .s (.lc (.v 6) (.n 6) (.e (.v 4)) (.so (.and (.cons (.cmp .In (.ix (.v 6) (.c (.int 0))) (.v 1)) (.cons (.cmp .In (.ix (.v 6) (.c (.int 1))) (.v 1)) .nil)))))) (.cons (.ret (.bin .Add (.bi "sum" (.cons (.lc (.ix (.v 3) (.v 7)) (.n 7) (.e (.v 1)) .no) .nil)) (.bin .Mult (.ix (.v 2) (.c (.int 0))) (.bi "len" (.cons (.v 5) .nil))))) .nil)))⟩
def d_does_show : Df := ⟨"does_show", 3, ["league", "team", "group"], (.cons (.ret (.cmp .Gt (.call "points_of" (.cons (.v 0) (.cons (.v 2) .nil))) (.bin .Mult (.bi "len" (.cons (.v 2) .nil)) (.call "greatest_of" (.cons (.v 0) (.cons (.v 1) .nil)))))) .nil)⟩
def d_is_group : Df := ⟨"is_group", 3, ["league", "team", "value", "one", "other"], (.cons (.ifs (.or (.cons (.no (.isi (.v 2) "tuple")) (.cons (.cmp .Eq (.v 2) (.tup .nil)) .nil))) (.cons (.ret (.c (.bool false))) .nil) .nil) (.cons (.ifs (.no (.bi "all" (.cons (.lc (.and (.cons (.call "is_int" (.cons (.v 3) (.cons (.c (.int 0)) (.cons (.bin .Sub (.bi "len" (.cons (.ix (.v 0) (.c (.int 1))) .nil)) (.c (.int 1))) .nil)))) (.cons (.cmp .NotEq (.v 3) (.v 1)) .nil))) (.n 3) (.e (.v 2)) .no) .nil))) (.cons (.ret (.c (.bool false))) .nil) .nil) (.cons (.ret (.bi "all" (.cons (.lc (.cmp .Lt (.v 3) (.v 4)) (.p (.n 3) (.n 4)) (.zip (.v 2) (.sl (.v 2) (.so (.c (.int 1))) .no)) .no) .nil))) .nil)))⟩
def d_check_fair : Df := ⟨"check_fair", 2, ["league", "team"], (.cons (.callS "check_league" (.cons (.v 0) .nil)) (.cons (.ifs (.no (.call "has_fair" (.cons (.ix (.v 0) (.c (.int 0))) .nil))) (.cons (.raise "UnfairRule") .nil) .nil) (.cons (.callS "check_team" (.cons (.v 0) (.cons (.v 1) .nil))) .nil)))⟩
def d_shows : Df := ⟨"shows", 3, ["league", "team", "group"], (.cons (.callS "check_fair" (.cons (.v 0) (.cons (.v 1) .nil))) (.cons (.ifs (.no (.call "is_group" (.cons (.v 0) (.cons (.v 1) (.cons (.v 2) .nil))))) (.cons (.raise "InvalidGroup") .nil) .nil) (.cons (.ret (.call "does_show" (.cons (.v 0) (.cons (.v 1) (.cons (.v 2) .nil))))) .nil)))⟩
def d_all_groups : Df := ⟨"all_groups", 1, ["teams", "found", "last", "size", "some", "team"], (.cons (.par [(1, .s), (2, .s)] (.cons (.lst .nil) (.cons (.lst (.cons (.tup .nil) .nil)) .nil))) (.cons (.fors (.n 3) (.r1 (.bi "len" (.cons (.v 0) .nil))) (.cons (.set 2 .s (.lc2 (.bin .Add (.v 4) (.tup (.cons (.v 5) .nil))) (.n 4) (.e (.v 2)) (.n 5) (.e (.v 0)) (.so (.or (.cons (.cmp .Eq (.v 4) (.tup .nil)) (.cons (.cmp .Gt (.v 5) (.ix (.v 4) (.neg (.c (.int 1))))) .nil)))))) (.cons (.set 1 .s (.bin .Add (.v 1) (.v 2))) .nil))) (.cons (.ret (.v 1)) .nil)))⟩
def d_showing_group : Df := ⟨"showing_group", 2, ["league", "team", "others", "group", "other"], (.cons (.callS "check_fair" (.cons (.v 0) (.cons (.v 1) .nil))) (.cons (.set 2 .s (.lc (.v 4) (.n 4) (.r1 (.bi "len" (.cons (.ix (.v 0) (.c (.int 1))) .nil))) (.so (.cmp .NotEq (.v 4) (.v 1))))) (.cons (.fors (.n 3) (.e (.call "all_groups" (.cons (.v 2) .nil))) (.cons (.ifs (.call "does_show" (.cons (.v 0) (.cons (.v 1) (.cons (.v 3) .nil)))) (.cons (.ret (.v 3)) .nil) .nil) .nil)) (.cons (.ret (.c .none)) .nil))))⟩
def d_check_number : Df := ⟨"check_number", 3, ["value", "least", "most"], (.cons (.ifs (.no (.call "is_int" (.cons (.v 0) (.cons (.v 1) (.cons (.v 2) .nil))))) (.cons (.raise "InvalidNumber") .nil) .nil) .nil)⟩
def d_by_own : Df := ⟨"by_own", 2, ["league", "team", "found", "points", "own", "first", "some", "whole"], (.cons (.set 2 .k .dn) (.cons (.fors (.n 3) (.e (.call "count_finals" (.cons (.v 0) .nil))) (.cons (.par [(4, .s), (5, .s)] (.cons (.bin .Sub (.ix (.v 3) (.v 1)) (.ix (.ix (.v 0) (.c (.int 1))) (.v 1))) (.cons (.cmp .Eq (.call "place_of" (.cons (.v 3) (.cons (.v 1) .nil))) (.c (.int 1))) .nil))) (.cons (.unp (.p (.n 6) (.n 7)) (.oget 2 (.v 4) (.tup (.cons (.c (.bool false)) (.cons (.c (.bool true)) .nil))))) (.cons (.put 2 (.v 4) (.tup (.cons (.or (.cons (.v 6) (.cons (.v 5) .nil))) (.cons (.and (.cons (.v 7) (.cons (.v 5) .nil))) .nil)))) .nil)))) (.cons (.fr 2) (.cons (.ret (.v 2)) .nil))))⟩
def d_is_enough : Df := ⟨"is_enough", 3, ["league", "team", "number", "found", "own"], (.cons (.set 3 .s (.call "by_own" (.cons (.v 0) (.cons (.v 1) .nil)))) (.cons (.ret (.bi "all" (.cons (.lc (.ix (.ix (.v 3) (.v 4)) (.c (.int 1))) (.n 4) (.e (.v 3)) (.so (.cmp .GtE (.v 4) (.v 2)))) .nil))) .nil))⟩
def d_in_own_hands : Df := ⟨"in_own_hands", 2, ["league", "team", "rule", "points", "games", "gain", "rest", "game", "found"], (.cons (.callS "check_both" (.cons (.v 0) (.cons (.v 1) .nil))) (.cons (.unp (.q (.n 2) (.n 3) (.n 4)) (.v 0)) (.cons (.set 5 .s (.bin .Mult (.ix (.v 2) (.c (.int 0))) (.bi "len" (.cons (.call "own_games" (.cons (.v 0) (.cons (.v 1) .nil))) .nil)))) (.cons (.set 3 .s (.bin .Add (.bin .Add (.sl (.v 3) .no (.so (.v 1))) (.tup (.cons (.bin .Add (.ix (.v 3) (.v 1)) (.v 5)) .nil))) (.sl (.v 3) (.so (.bin .Add (.v 1) (.c (.int 1)))) .no))) (.cons (.set 6 .s (.tup (.cons (.v 2) (.cons (.v 3) (.cons (.bi "tuple" (.cons (.lc (.v 7) (.n 7) (.e (.v 4)) (.so (.cmp .NotIn (.v 1) (.v 7)))) .nil)) .nil))))) (.cons (.ret (.bi "all" (.cons (.lc (.cmp .Eq (.call "place_of" (.cons (.v 8) (.cons (.v 1) .nil))) (.c (.int 1))) (.n 8) (.e (.call "count_finals" (.cons (.v 6) .nil))) .no) .nil))) .nil))))))⟩
def d_enough : Df := ⟨"enough", 3, ["league", "team", "number"], (.cons (.callS "check_both" (.cons (.v 0) (.cons (.v 1) .nil))) (.cons (.callS "check_number" (.cons (.v 2) (.cons (.c (.int 0)) (.cons (.g "MAX_NUMBER" (.inl 99)) .nil)))) (.cons (.ret (.call "is_enough" (.cons (.v 0) (.cons (.v 1) (.cons (.v 2) .nil))))) .nil)))⟩
def d_needed : Df := ⟨"needed", 2, ["league", "team", "found", "own"], (.cons (.callS "check_both" (.cons (.v 0) (.cons (.v 1) .nil))) (.cons (.set 2 .s (.lc (.v 3) (.n 3) (.e (.bi "sorted" (.cons (.call "by_own" (.cons (.v 0) (.cons (.v 1) .nil))) .nil))) (.so (.call "is_enough" (.cons (.v 0) (.cons (.v 1) (.cons (.v 3) .nil))))))) (.cons (.ret (.ife (.cmp .NotEq (.v 2) (.lst .nil)) (.ix (.v 2) (.c (.int 0))) (.c .none))) .nil)))⟩
def d_least_own : Df := ⟨"least_own", 2, ["league", "team", "known", "found", "own"], (.cons (.callS "check_both" (.cons (.v 0) (.cons (.v 1) .nil))) (.cons (.set 2 .s (.call "by_own" (.cons (.v 0) (.cons (.v 1) .nil)))) (.cons (.set 3 .s (.lc (.v 4) (.n 4) (.e (.bi "sorted" (.cons (.v 2) .nil))) (.so (.ix (.ix (.v 2) (.v 4)) (.c (.int 0)))))) (.cons (.ret (.ife (.cmp .NotEq (.v 3) (.lst .nil)) (.ix (.v 3) (.c (.int 0))) (.c .none))) .nil))))⟩
def d_divisor : Df := ⟨"divisor", 2, ["one", "other"], (.cons (.whl 100000 (.cmp .Gt (.v 1) (.c (.int 0))) (.cons (.par [(0, .s), (1, .s)] (.cons (.v 1) (.cons (.bin .Mod (.v 0) (.v 1)) .nil))) .nil)) (.cons (.ret (.v 0)) .nil))⟩
def d_fraction : Df := ⟨"fraction", 2, ["one", "other", "common"], (.cons (.set 2 .s (.call "divisor" (.cons (.v 0) (.cons (.v 1) .nil)))) (.cons (.ret (.tup (.cons (.bin .FloorDiv (.v 0) (.v 2)) (.cons (.bin .FloorDiv (.v 1) (.v 2)) .nil)))) .nil))⟩
def d_find_number : Df := ⟨"find_number", 1, ["league", "found", "game"], (.cons (.set 1 .s (.c (.int 1))) (.cons (.fors (.n 2) (.e (.ix (.v 0) (.c (.int 2)))) (.cons (.set 1 .s (.bin .Mult (.v 1) (.bi "len" (.cons (.call "allowed" (.cons (.ix (.v 0) (.c (.int 0))) .nil)) .nil)))) .nil)) (.cons (.ret (.v 1)) .nil)))⟩
def d_count_results : Df := ⟨"count_results", 1, ["league"], (.cons (.callS "check_league" (.cons (.v 0) .nil)) (.cons (.ret (.call "find_number" (.cons (.v 0) .nil))) .nil))⟩
def d_count_place : Df := ⟨"count_place", 3, ["league", "team", "place", "found", "points"], (.cons (.set 3 .s (.call "count_finals" (.cons (.v 0) .nil))) (.cons (.ret (.bi "sum" (.cons (.lc (.ix (.v 3) (.v 4)) (.n 4) (.e (.v 3)) (.so (.cmp .Eq (.call "place_of" (.cons (.v 4) (.cons (.v 1) .nil))) (.v 2)))) .nil))) .nil))⟩
def d_count_first : Df := ⟨"count_first", 2, ["league", "team"], (.cons (.callS "check_both" (.cons (.v 0) (.cons (.v 1) .nil))) (.cons (.ret (.call "count_place" (.cons (.v 0) (.cons (.v 1) (.cons (.c (.int 1)) .nil))))) .nil))⟩
def d_shares : Df := ⟨"shares", 2, ["league", "team", "whole", "place"], (.cons (.callS "check_both" (.cons (.v 0) (.cons (.v 1) .nil))) (.cons (.set 2 .s (.call "find_number" (.cons (.v 0) .nil))) (.cons (.ret (.lc (.call "fraction" (.cons (.call "count_place" (.cons (.v 0) (.cons (.v 1) (.cons (.bin .Add (.v 3) (.c (.int 1))) .nil)))) (.cons (.v 2) .nil))) (.n 3) (.r1 (.bi "len" (.cons (.ix (.v 0) (.c (.int 1))) .nil))) .no)) .nil)))⟩
def d_mean_points : Df := ⟨"mean_points", 2, ["league", "team", "found", "points"], (.cons (.callS "check_both" (.cons (.v 0) (.cons (.v 1) .nil))) (.cons (.set 2 .s (.call "count_finals" (.cons (.v 0) .nil))) (.cons (.ret (.call "fraction" (.cons (.bi "sum" (.cons (.lc (.bin .Mult (.ix (.v 2) (.v 3)) (.ix (.v 3) (.v 1))) (.n 3) (.e (.v 2)) .no) .nil)) (.cons (.call "find_number" (.cons (.v 0) .nil)) .nil)))) .nil)))⟩
def d_most_likely : Df := ⟨"most_likely", 1, ["league", "found", "team"], (.cons (.callS "check_league" (.cons (.v 0) .nil)) (.cons (.set 1 .s (.lc (.call "count_place" (.cons (.v 0) (.cons (.v 2) (.cons (.c (.int 1)) .nil)))) (.n 2) (.r1 (.bi "len" (.cons (.ix (.v 0) (.c (.int 1))) .nil))) .no)) (.cons (.ret (.me1 "index" (.v 1) (.bi "max" (.cons (.v 1) .nil)))) .nil)))⟩
def d_are_results : Df := ⟨"are_results", 2, ["league", "candidate"], (.cons (.callS "check_league" (.cons (.v 0) .nil)) (.cons (.ret (.call "have_results" (.cons (.v 0) (.cons (.v 1) .nil)))) .nil))⟩
def d_find_good : Df := ⟨"find_good", 3, ["league", "game", "team", "result"], (.cons (.ret (.lc (.v 3) (.n 3) (.e (.call "allowed" (.cons (.ix (.v 0) (.c (.int 0))) .nil))) (.so (.call "has_chance" (.cons (.call "following" (.cons (.v 0) (.cons (.v 1) (.cons (.v 3) .nil)))) (.cons (.v 2) .nil)))))) .nil)⟩
def d_does_matter : Df := ⟨"does_matter", 3, ["league", "game", "team"], (.cons (.ret (.cmp2 .Lt .Lt (.c (.int 0)) (.bi "len" (.cons (.call "find_good" (.cons (.v 0) (.cons (.v 1) (.cons (.v 2) .nil)))) .nil)) (.bi "len" (.cons (.call "allowed" (.cons (.ix (.v 0) (.c (.int 0))) .nil)) .nil)))) .nil)⟩
def d_check_three : Df := ⟨"check_three", 3, ["league", "game", "team"], (.cons (.callS "check_league" (.cons (.v 0) .nil)) (.cons (.callS "check_game" (.cons (.v 0) (.cons (.v 1) .nil))) (.cons (.callS "check_team" (.cons (.v 0) (.cons (.v 2) .nil))) .nil)))⟩
def d_matters : Df := ⟨"matters", 3, ["league", "game", "team"], (.cons (.callS "check_three" (.cons (.v 0) (.cons (.v 1) (.cons (.v 2) .nil)))) (.cons (.ret (.call "does_matter" (.cons (.v 0) (.cons (.v 1) (.cons (.v 2) .nil))))) .nil))⟩
def d_find_teams : Df := ⟨"find_teams", 2, ["league", "game", "team"], (.cons (.ret (.lc (.v 2) (.n 2) (.r1 (.bi "len" (.cons (.ix (.v 0) (.c (.int 1))) .nil))) (.so (.call "does_matter" (.cons (.v 0) (.cons (.v 1) (.cons (.v 2) .nil))))))) .nil)⟩
def d_matters_for : Df := ⟨"matters_for", 2, ["league", "game"], (.cons (.callS "check_league" (.cons (.v 0) .nil)) (.cons (.callS "check_game" (.cons (.v 0) (.cons (.v 1) .nil))) (.cons (.ret (.call "find_teams" (.cons (.v 0) (.cons (.v 1) .nil)))) .nil)))⟩
def d_mattering : Df := ⟨"mattering", 1, ["league", "game"], (.cons (.callS "check_league" (.cons (.v 0) .nil)) (.cons (.ret (.lc (.v 1) (.n 1) (.r1 (.bi "len" (.cons (.ix (.v 0) (.c (.int 2))) .nil))) (.so (.cmp .NotEq (.call "find_teams" (.cons (.v 0) (.cons (.v 1) .nil))) (.lst .nil))))) .nil))⟩
def d_good_results : Df := ⟨"good_results", 3, ["league", "game", "team"], (.cons (.callS "check_three" (.cons (.v 0) (.cons (.v 1) (.cons (.v 2) .nil)))) (.cons (.ret (.me1 "join" (.c (.str "")) (.call "find_good" (.cons (.v 0) (.cons (.v 1) (.cons (.v 2) .nil)))))) .nil))⟩
def d_direct_of : Df := ⟨"direct_of", 3, ["league", "results", "group", "rule", "points", "games", "found", "game", "result"], (.cons (.unp (.q (.n 3) (.n 4) (.n 5)) (.v 0)) (.cons (.set 6 .s (.bin .Mult (.tup (.cons (.c (.int 0)) .nil)) (.bi "len" (.cons (.v 4) .nil)))) (.cons (.fors (.p (.n 7) (.n 8)) (.zip (.v 5) (.v 1)) (.cons (.ifs (.and (.cons (.cmp .In (.ix (.v 7) (.c (.int 0))) (.v 2)) (.cons (.cmp .In (.ix (.v 7) (.c (.int 1))) (.v 2)) .nil))) (.cons (.set 6 .s (.call "added" (.cons (.v 6) (.cons (.v 7) (.cons (.call "gains" (.cons (.v 3) (.cons (.v 8) .nil))) .nil))))) .nil) .nil) .nil)) (.cons (.ret (.v 6)) .nil))))⟩
def d_tied_with : Df := ⟨"tied_with", 2, ["found", "team", "other"], (.cons (.ret (.lc (.v 2) (.n 2) (.r1 (.bi "len" (.cons (.v 0) .nil))) (.so (.cmp .Eq (.ix (.v 0) (.v 2)) (.ix (.v 0) (.v 1)))))) .nil)⟩
def d_find_ranking : Df := ⟨"find_ranking", 2, ["league", "results", "found", "rows", "team", "direct", "row"], (.cons (.set 2 .s (.call "finals" (.cons (.v 0) (.cons (.v 1) .nil)))) (.cons (.set 3 .o (.lst .nil)) (.cons (.fors (.n 4) (.r1 (.bi "len" (.cons (.v 2) .nil))) (.cons (.set 5 .s (.ix (.call "direct_of" (.cons (.v 0) (.cons (.v 1) (.cons (.call "tied_with" (.cons (.v 2) (.cons (.v 4) .nil))) .nil)))) (.v 4))) (.cons (.app 3 (.tup (.cons (.bin .Sub (.c (.int 0)) (.ix (.v 2) (.v 4))) (.cons (.bin .Sub (.c (.int 0)) (.v 5)) (.cons (.v 4) .nil))))) .nil))) (.cons (.fr 3) (.cons (.ret (.lc (.ix (.v 6) (.c (.int 2))) (.n 6) (.e (.bi "sorted" (.cons (.v 3) .nil))) .no)) .nil)))))⟩
def d_champion : Df := ⟨"champion", 2, ["league", "results"], (.cons (.callS "check_results" (.cons (.v 0) (.cons (.v 1) .nil))) (.cons (.ret (.ix (.call "find_ranking" (.cons (.v 0) (.cons (.v 1) .nil))) (.c (.int 0)))) .nil))⟩
def d_find_champions : Df := ⟨"find_champions", 1, ["league", "found", "results", "team"], (.cons (.set 1 .k .dn) (.cons (.fors (.n 2) (.e (.bi "sorted" (.cons (.call "all_results" (.cons (.v 0) .nil)) .nil))) (.cons (.set 3 .s (.ix (.call "find_ranking" (.cons (.v 0) (.cons (.v 2) .nil))) (.c (.int 0)))) (.cons (.ifs (.oin true 1 (.v 3)) (.cons (.put 1 (.v 3) (.v 2)) .nil) .nil) .nil))) (.cons (.fr 1) (.cons (.ret (.v 1)) .nil))))⟩
def d_check_pair : Df := ⟨"check_pair", 2, ["league", "team"], (.cons (.callS "check_league" (.cons (.v 0) .nil)) (.cons (.callS "check_team" (.cons (.v 0) (.cons (.v 1) .nil))) .nil))⟩
def d_can_be_champion : Df := ⟨"can_be_champion", 2, ["league", "team"], (.cons (.callS "check_pair" (.cons (.v 0) (.cons (.v 1) .nil))) (.cons (.ret (.cmp .In (.v 1) (.call "find_champions" (.cons (.v 0) .nil)))) .nil))⟩
def d_champion_results : Df := ⟨"champion_results", 2, ["league", "team"], (.cons (.callS "check_pair" (.cons (.v 0) (.cons (.v 1) .nil))) (.cons (.ret (.me1 "get" (.call "find_champions" (.cons (.v 0) .nil)) (.v 1))) .nil))⟩
def d_is_champion_for_sure : Df := ⟨"is_champion_for_sure", 2, ["league", "team"], (.cons (.callS "check_pair" (.cons (.v 0) (.cons (.v 1) .nil))) (.cons (.ret (.cmp .Eq (.bi "list" (.cons (.call "find_champions" (.cons (.v 0) .nil)) .nil)) (.lst (.cons (.v 1) .nil)))) .nil))⟩
def d_champions : Df := ⟨"champions", 1, ["league"], (.cons (.callS "check_league" (.cons (.v 0) .nil)) (.cons (.ret (.bi "sorted" (.cons (.call "find_champions" (.cons (.v 0) .nil)) .nil))) .nil))⟩
def d_is_round : Df := ⟨"is_round", 2, ["league", "value", "teams", "game", "team", "one", "other"], (.cons (.ifs (.or (.cons (.no (.isi (.v 1) "tuple")) (.cons (.cmp .Eq (.v 1) (.tup .nil)) .nil))) (.cons (.ret (.c (.bool false))) .nil) .nil) (.cons (.ifs (.no (.bi "all" (.cons (.lc (.call "is_int" (.cons (.v 3) (.cons (.c (.int 0)) (.cons (.bin .Sub (.bi "len" (.cons (.ix (.v 0) (.c (.int 2))) .nil)) (.c (.int 1))) .nil)))) (.n 3) (.e (.v 1)) .no) .nil))) (.cons (.ret (.c (.bool false))) .nil) .nil) (.cons (.set 2 .s (.lc2 (.v 4) (.n 3) (.e (.v 1)) (.n 4) (.e (.ix (.ix (.v 0) (.c (.int 2))) (.v 3))) .no)) (.cons (.ret (.and (.cons (.bi "all" (.cons (.lc (.cmp .Lt (.v 5) (.v 6)) (.p (.n 5) (.n 6)) (.zip (.v 1) (.sl (.v 1) (.so (.c (.int 1))) .no)) .no) .nil)) (.cons (.cmp .Eq (.lset (.v 2)) (.bi "len" (.cons (.v 2) .nil))) .nil)))) .nil))))⟩
def d_have_rounds : Df := ⟨"have_rounds", 2, ["league", "candidate", "part", "game"], (.cons (.ifs (.or (.cons (.no (.isi (.v 1) "tuple")) (.cons (.cmp .Eq (.v 1) (.tup .nil)) (.cons (.no (.bi "all" (.cons (.lc (.call "is_round" (.cons (.v 0) (.cons (.v 2) .nil))) (.n 2) (.e (.v 1)) .no) .nil))) .nil)))) (.cons (.ret (.c (.bool false))) .nil) .nil) (.cons (.ret (.cmp .Eq (.bi "sorted" (.cons (.lc2 (.v 3) (.n 2) (.e (.v 1)) (.n 3) (.e (.v 2)) .no) .nil)) (.lrg (.bi "len" (.cons (.ix (.v 0) (.c (.int 2))) .nil))))) .nil))⟩
def d_are_rounds : Df := ⟨"are_rounds", 2, ["league", "candidate"], (.cons (.callS "check_league" (.cons (.v 0) .nil)) (.cons (.ret (.call "have_rounds" (.cons (.v 0) (.cons (.v 1) .nil)))) .nil))⟩
def d_check_rounds : Df := ⟨"check_rounds", 2, ["league", "rounds"], (.cons (.callS "check_league" (.cons (.v 0) .nil)) (.cons (.ifs (.no (.call "have_rounds" (.cons (.v 0) (.cons (.v 1) .nil)))) (.cons (.raise "InvalidRounds") .nil) .nil) .nil))⟩
def d_games_after : Df := ⟨"games_after", 3, ["league", "rounds", "number", "played", "part", "game", "teams"], (.cons (.set 3 .s (.lc2 (.v 5) (.n 4) (.e (.sl (.v 1) .no (.so (.v 2)))) (.n 5) (.e (.v 4)) .no)) (.cons (.ret (.bi "tuple" (.cons (.lc (.v 6) (.p (.n 5) (.n 6)) (.enum (.ix (.v 0) (.c (.int 2)))) (.so (.cmp .NotIn (.v 5) (.v 3)))) .nil))) .nil))⟩
def d_is_decided : Df := ⟨"is_decided", 3, ["league", "points", "left"], (.cons (.ret (.cmp .Eq (.bi "len" (.cons (.call "find_alive" (.cons (.tup (.cons (.ix (.v 0) (.c (.int 0))) (.cons (.v 1) (.cons (.v 2) .nil)))) .nil)) .nil)) (.c (.int 1)))) .nil)⟩
def d_decided_after : Df := ⟨"decided_after", 3, ["league", "rounds", "results", "points", "number", "game"], (.cons (.callS "check_rounds" (.cons (.v 0) (.cons (.v 1) .nil))) (.cons (.ifs (.no (.call "have_results" (.cons (.v 0) (.cons (.v 2) .nil)))) (.cons (.raise "InvalidResults") .nil) .nil) (.cons (.set 3 .s (.ix (.v 0) (.c (.int 1)))) (.cons (.fors (.n 4) (.r1 (.bin .Add (.bi "len" (.cons (.v 1) .nil)) (.c (.int 1)))) (.cons (.ifs (.call "is_decided" (.cons (.v 0) (.cons (.v 3) (.cons (.call "games_after" (.cons (.v 0) (.cons (.v 1) (.cons (.v 4) .nil)))) .nil)))) (.cons (.ret (.v 4)) .nil) .nil) (.cons (.fors (.n 5) (.e (.ife (.cmp .Lt (.v 4) (.bi "len" (.cons (.v 1) .nil))) (.ix (.v 1) (.v 4)) (.tup .nil))) (.cons (.set 3 .s (.call "added" (.cons (.v 3) (.cons (.ix (.ix (.v 0) (.c (.int 2))) (.v 5)) (.cons (.call "gains" (.cons (.ix (.v 0) (.c (.int 0))) (.cons (.ix (.v 2) (.v 5)) .nil))) .nil))))) .nil)) .nil))) (.cons (.ret (.c .none)) .nil)))))⟩
def d_points_by_rounds : Df := ⟨"points_by_rounds", 2, ["league", "rounds", "found", "part", "last", "game", "more", "points", "result", "one"], (.cons (.set 2 .o (.lst (.cons (.d1 (.ix (.v 0) (.c (.int 1))) (.c (.int 1))) .nil))) (.cons (.fors (.n 3) (.e (.v 1)) (.cons (.set 4 .s (.oix 2 (.neg (.c (.int 1))))) (.cons (.fors (.n 5) (.e (.v 3)) (.cons (.set 6 .o .dn) (.cons (.fors (.n 7) (.e (.v 4)) (.cons (.fors (.n 8) (.e (.call "allowed" (.cons (.ix (.v 0) (.c (.int 0))) .nil))) (.cons (.set 9 .s (.call "added" (.cons (.v 7) (.cons (.ix (.ix (.v 0) (.c (.int 2))) (.v 5)) (.cons (.call "gains" (.cons (.ix (.v 0) (.c (.int 0))) (.cons (.v 8) .nil))) .nil))))) (.cons (.put 6 (.v 9) (.bin .Add (.oget 6 (.v 9) (.c (.int 0))) (.ix (.v 4) (.v 7)))) .nil))) .nil)) (.cons (.fr 6) (.cons (.set 4 .s (.v 6)) .nil))))) (.cons (.app 2 (.v 4)) .nil)))) (.cons (.fr 2) (.cons (.ret (.v 2)) .nil))))⟩
def d_open_counts : Df := ⟨"open_counts", 2, ["league", "rounds", "found", "number", "counts", "left", "some", "points"], (.cons (.set 2 .o (.lst .nil)) (.cons (.fors (.p (.n 3) (.n 4)) (.enum (.call "points_by_rounds" (.cons (.v 0) (.cons (.v 1) .nil)))) (.cons (.set 5 .s (.call "games_after" (.cons (.v 0) (.cons (.v 1) (.cons (.v 3) .nil))))) (.cons (.set 6 .s (.lc (.ix (.v 4) (.v 7)) (.n 7) (.e (.v 4)) (.so (.no (.call "is_decided" (.cons (.v 0) (.cons (.v 7) (.cons (.v 5) .nil)))))))) (.cons (.app 2 (.tup (.cons (.bi "sum" (.cons (.v 6) .nil)) (.cons (.svals (.v 4)) .nil)))) .nil)))) (.cons (.fr 2) (.cons (.ret (.v 2)) .nil))))⟩
def d_earliest_decision : Df := ⟨"earliest_decision", 2, ["league", "rounds", "found", "number", "some", "every"], (.cons (.callS "check_rounds" (.cons (.v 0) (.cons (.v 1) .nil))) (.cons (.set 2 .s (.lc (.v 3) (.p (.n 3) (.p (.n 4) (.n 5))) (.enum (.call "open_counts" (.cons (.v 0) (.cons (.v 1) .nil)))) (.so (.cmp .Lt (.v 4) (.v 5))))) (.cons (.ret (.ife (.cmp .NotEq (.v 2) (.lst .nil)) (.ix (.v 2) (.c (.int 0))) (.c .none))) .nil)))⟩
def d_latest_decision : Df := ⟨"latest_decision", 2, ["league", "rounds", "found", "number", "some", "every"], (.cons (.callS "check_rounds" (.cons (.v 0) (.cons (.v 1) .nil))) (.cons (.set 2 .s (.lc (.v 3) (.p (.n 3) (.p (.n 4) (.n 5))) (.enum (.call "open_counts" (.cons (.v 0) (.cons (.v 1) .nil)))) (.so (.cmp .Eq (.v 4) (.c (.int 0)))))) (.cons (.ret (.ife (.cmp .NotEq (.v 2) (.lst .nil)) (.ix (.v 2) (.c (.int 0))) (.c .none))) .nil)))⟩
def d_still_open : Df := ⟨"still_open", 3, ["league", "rounds", "number"], (.cons (.callS "check_rounds" (.cons (.v 0) (.cons (.v 1) .nil))) (.cons (.callS "check_number" (.cons (.v 2) (.cons (.c (.int 0)) (.cons (.bi "len" (.cons (.v 1) .nil)) .nil)))) (.cons (.ret (.ix (.ix (.call "open_counts" (.cons (.v 0) (.cons (.v 1) .nil))) (.v 2)) (.c (.int 0)))) .nil)))⟩
def d_direct_points : Df := ⟨"direct_points", 3, ["league", "results", "team"], (.cons (.callS "check_results" (.cons (.v 0) (.cons (.v 1) .nil))) (.cons (.callS "check_team" (.cons (.v 0) (.cons (.v 2) .nil))) (.cons (.ret (.ix (.call "direct_of" (.cons (.v 0) (.cons (.v 1) (.cons (.call "tied_with" (.cons (.call "finals" (.cons (.v 0) (.cons (.v 1) .nil))) (.cons (.v 2) .nil))) .nil)))) (.v 2))) .nil)))⟩
def d_ranking : Df := ⟨"ranking", 2, ["league", "results"], (.cons (.callS "check_results" (.cons (.v 0) (.cons (.v 1) .nil))) (.cons (.ret (.call "find_ranking" (.cons (.v 0) (.cons (.v 1) .nil)))) .nil))⟩
def d_check_few : Df := ⟨"check_few", 1, ["league"], (.cons (.ifs (.cmp .Gt (.bi "len" (.cons (.ix (.v 0) (.c (.int 2))) .nil)) (.g "MAX_TRIED" (.inl 6))) (.cons (.raise "TooLarge") .nil) .nil) .nil)⟩
def d_naive_alive : Df := ⟨"naive_alive", 1, ["league", "found", "results", "team", "points"], (.cons (.callS "check_league" (.cons (.v 0) .nil)) (.cons (.callS "check_few" (.cons (.v 0) .nil)) (.cons (.set 1 .s (.lc (.call "finals" (.cons (.v 0) (.cons (.v 2) .nil))) (.n 2) (.e (.call "all_results" (.cons (.v 0) .nil))) .no)) (.cons (.ret (.lc (.v 3) (.n 3) (.r1 (.bi "len" (.cons (.ix (.v 0) (.c (.int 1))) .nil))) (.so (.bi "any" (.cons (.lc (.cmp .Eq (.ix (.v 4) (.v 3)) (.bi "max" (.cons (.v 4) .nil))) (.n 4) (.e (.v 1)) .no) .nil))))) .nil))))⟩
def d_naive_shares : Df := ⟨"naive_shares", 2, ["league", "team", "found", "results", "place"], (.cons (.callS "check_league" (.cons (.v 0) .nil)) (.cons (.callS "check_team" (.cons (.v 0) (.cons (.v 1) .nil))) (.cons (.callS "check_few" (.cons (.v 0) .nil)) (.cons (.set 2 .s (.lc (.call "place_of" (.cons (.call "finals" (.cons (.v 0) (.cons (.v 3) .nil))) (.cons (.v 1) .nil))) (.n 3) (.e (.call "all_results" (.cons (.v 0) .nil))) .no)) (.cons (.ret (.lc (.call "fraction" (.cons (.me1 "count" (.v 2) (.v 4)) (.cons (.bi "len" (.cons (.v 2) .nil)) .nil))) (.n 4) (.r2 (.c (.int 1)) (.bin .Add (.bi "len" (.cons (.ix (.v 0) (.c (.int 1))) .nil)) (.c (.int 1)))) .no)) .nil)))))⟩
def d_some_teams : Df := ⟨"some_teams", 1, ["teams", "found", "team", "some"], (.cons (.set 1 .s (.lst (.cons (.tup .nil) .nil))) (.cons (.fors (.n 2) (.e (.v 0)) (.cons (.set 1 .s (.bin .Add (.v 1) (.lc (.bin .Add (.v 3) (.tup (.cons (.v 2) .nil))) (.n 3) (.e (.v 1)) .no))) .nil)) (.cons (.ret (.v 1)) .nil)))⟩
def d_naive_showing : Df := ⟨"naive_showing", 2, ["league", "team", "rule", "points", "games", "most", "some", "total", "game", "other", "home", "away"], (.cons (.callS "check_league" (.cons (.v 0) .nil)) (.cons (.unp (.q (.n 2) (.n 3) (.n 4)) (.v 0)) (.cons (.ifs (.no (.call "has_fair" (.cons (.v 2) .nil))) (.cons (.raise "UnfairRule") .nil) .nil) (.cons (.callS "check_team" (.cons (.v 0) (.cons (.v 1) .nil))) (.cons (.set 5 .s (.bin .Add (.ix (.v 3) (.v 1)) (.bi "sum" (.cons (.lc (.ix (.v 2) (.c (.int 0))) (.n 8) (.e (.v 4)) (.so (.cmp .In (.v 1) (.v 8)))) .nil)))) (.cons (.fors (.n 6) (.e (.call "some_teams" (.cons (.lc (.v 9) (.n 9) (.r1 (.bi "len" (.cons (.v 3) .nil))) (.so (.cmp .NotEq (.v 9) (.v 1)))) .nil))) (.cons (.set 7 .s (.bi "sum" (.cons (.lc (.ix (.v 3) (.v 9)) (.n 9) (.e (.v 6)) .no) .nil))) (.cons (.set 7 .s (.bin .Add (.v 7) (.bi "sum" (.cons (.lc (.ix (.v 2) (.c (.int 0))) (.p (.n 10) (.n 11)) (.e (.v 4)) (.so (.and (.cons (.cmp .In (.v 10) (.v 6)) (.cons (.cmp .In (.v 11) (.v 6)) .nil))))) .nil)))) (.cons (.ifs (.cmp .Gt (.v 7) (.bin .Mult (.bi "len" (.cons (.v 6) .nil)) (.v 5))) (.cons (.ret (.c (.bool true))) .nil) .nil) .nil)))) (.cons (.ret (.c (.bool false))) .nil)))))))⟩
def d_check_table : Df := ⟨"check_table", 2, ["league", "value", "point"], (.cons (.ifs (.or (.cons (.no (.isi (.v 1) "tuple")) (.cons (.cmp .NotEq (.bi "len" (.cons (.v 1) .nil)) (.bi "len" (.cons (.ix (.v 0) (.c (.int 1))) .nil))) .nil))) (.cons (.raise "InvalidTable") .nil) .nil) (.cons (.ifs (.no (.bi "all" (.cons (.lc (.call "is_int" (.cons (.v 2) (.cons (.c (.int 0)) (.cons (.g "MAX_FINAL" (.inl 999)) .nil)))) (.n 2) (.e (.v 1)) .no) .nil))) (.cons (.raise "InvalidTable") .nil) .nil) .nil))⟩
def d_explains : Df := ⟨"explains", 3, ["league", "results", "table"], (.cons (.callS "check_results" (.cons (.v 0) (.cons (.v 1) .nil))) (.cons (.callS "check_table" (.cons (.v 0) (.cons (.v 2) .nil))) (.cons (.ret (.cmp .Eq (.call "finals" (.cons (.v 0) (.cons (.v 1) .nil))) (.v 2))) .nil)))⟩
def d_count_explaining : Df := ⟨"count_explaining", 2, ["league", "table"], (.cons (.callS "check_both" (.cons (.v 0) (.cons (.v 1) .nil))) (.cons (.ret (.me2 "get" (.call "count_finals" (.cons (.v 0) .nil)) (.v 1) (.c (.int 0)))) .nil))⟩
def d_sure_results : Df := ⟨"sure_results", 2, ["league", "table", "found", "number", "fit", "one"], (.cons (.callS "check_both" (.cons (.v 0) (.cons (.v 1) .nil))) (.cons (.ifs (.cmp .NotIn (.v 1) (.call "count_finals" (.cons (.v 0) .nil))) (.cons (.raise "Unexplained") .nil) .nil) (.cons (.set 2 .o (.lst .nil)) (.cons (.fors (.n 3) (.r1 (.bi "len" (.cons (.ix (.v 0) (.c (.int 2))) .nil))) (.cons (.set 4 .s (.lc (.v 5) (.n 5) (.e (.call "allowed" (.cons (.ix (.v 0) (.c (.int 0))) .nil))) (.so (.cmp .In (.v 1) (.call "count_finals" (.cons (.call "following" (.cons (.v 0) (.cons (.v 3) (.cons (.v 5) .nil)))) .nil)))))) (.cons (.app 2 (.ife (.cmp .Eq (.bi "len" (.cons (.v 4) .nil)) (.c (.int 1))) (.ix (.v 4) (.c (.int 0))) (.g "UNSURE" (.inr "?")))) .nil))) (.cons (.fr 2) (.cons (.ret (.bi "tuple" (.cons (.v 2) .nil))) .nil))))))⟩
def d_tables : Df := ⟨"tables", 1, ["league"], (.cons (.callS "check_league" (.cons (.v 0) .nil)) (.cons (.ifs (.cmp .Gt (.bi "len" (.cons (.ix (.v 0) (.c (.int 2))) .nil)) (.g "MAX_LISTED" (.inl 5))) (.cons (.raise "TooLarge") .nil) .nil) (.cons (.ret (.bi "sorted" (.cons (.call "count_finals" (.cons (.v 0) .nil)) .nil))) .nil)))⟩
def d_format_league : Df := ⟨"format_league", 1, ["league"], (.cons (.callS "check_league" (.cons (.v 0) .nil)) (.cons (.ret (.call "league_text" (.cons (.v 0) .nil))) .nil))⟩
def d_check_text : Df := ⟨"check_text", 1, ["value"], (.cons (.ifs (.no (.isi (.v 0) "str")) (.cons (.raise "ParseError") .nil) .nil) .nil)⟩
def d_format_results : Df := ⟨"format_results", 2, ["league", "results"], (.cons (.callS "check_results" (.cons (.v 0) (.cons (.v 1) .nil))) (.cons (.ret (.me1 "join" (.c (.str "")) (.v 1))) .nil))⟩
def d_parse_results : Df := ⟨"parse_results", 2, ["league", "text", "results"], (.cons (.callS "check_league" (.cons (.v 0) .nil)) (.cons (.callS "check_text" (.cons (.v 1) .nil)) (.cons (.set 2 .s (.bi "tuple" (.cons (.bi "list" (.cons (.v 1) .nil)) .nil))) (.cons (.ifs (.no (.call "have_results" (.cons (.v 0) (.cons (.v 2) .nil)))) (.cons (.raise "ParseError") .nil) .nil) (.cons (.ret (.v 2)) .nil)))))⟩
end OLd

end
section
set_option linter.all false
namespace OLd
open PySem PySem.Spec PyProof.Rows L2 OL
def d__law_pick : Df := ⟨"_law_pick", 3, ["script", "k", "many", "cell", "rest", "again", "drawn"], (.cons (.set 3 .s (.ife (.cmp .NotEq (.v 0) (.lst .nil)) (.ix (.v 0) (.bin .Mod (.v 1) (.bi "len" (.cons (.v 0) .nil)))) (.c (.int 0)))) (.cons (.par [(4, .s), (5, .s)] (.cons (.bin .FloorDiv (.v 3) (.bin .Pow (.c (.int 10)) (.c (.int 18)))) (.cons (.bin .FloorDiv (.v 1) (.bi "max" (.cons (.bi "len" (.cons (.v 0) .nil)) (.cons (.c (.int 1)) .nil)))) .nil))) (.cons (.whl 100000 (.and (.cons (.cmp .Gt (.v 4) (.c (.int 0))) (.cons (.cmp .Gt (.v 5) (.c (.int 0))) .nil))) (.cons (.par [(4, .s), (5, .s)] (.cons (.bin .FloorDiv (.v 4) (.c (.int 840))) (.cons (.bin .Sub (.v 5) (.c (.int 1))) .nil))) .nil)) (.cons (.ifs (.cmp .Gt (.v 4) (.c (.int 0))) (.cons (.ret (.bin .Mod (.bin .Mod (.v 4) (.c (.int 840))) (.v 2))) .nil) .nil) (.cons (.set 6 .s (.bin .Mod (.bin .Mult (.bin .Add (.bin .Mult (.v 3) (.c (.int 31))) (.bin .Mult (.c (.int 6151)) (.bin .Add (.v 1) (.c (.int 1))))) (.c (.int 40692))) (.c (.int 2147483399)))) (.cons (.ret (.bin .Mod (.bin .Mod (.bin .Add (.bin .Mult (.v 6) (.v 6)) (.bin .FloorDiv (.v 6) (.c (.int 31)))) (.c (.int 2147483629))) (.v 2))) .nil))))))⟩
def d__law_league : Df := ⟨"_law_league", 3, ["script", "at", "most", "rule", "teams", "games", "i", "home", "away", "base", "points"], (.cons (.set 3 .s (.ix (.tup (.cons (.tup (.cons (.c (.int 1)) (.cons (.c .none) .nil))) (.cons (.tup (.cons (.c (.int 2)) (.cons (.c (.int 1)) .nil))) (.cons (.tup (.cons (.c (.int 3)) (.cons (.c (.int 1)) .nil))) (.cons (.tup (.cons (.c (.int 3)) (.cons (.c .none) .nil))) (.cons (.tup (.cons (.c (.int 2)) (.cons (.c (.int 0)) .nil))) (.cons (.tup (.cons (.c (.int 2)) (.cons (.c (.int 2)) .nil))) .nil))))))) (.call "_law_pick" (.cons (.v 0) (.cons (.v 1) (.cons (.c (.int 6)) .nil)))))) (.cons (.par [(4, .s), (5, .o)] (.cons (.bin .Add (.c (.int 2)) (.call "_law_pick" (.cons (.v 0) (.cons (.bin .Add (.v 1) (.c (.int 1))) (.cons (.c (.int 4)) .nil))))) (.cons (.lst .nil) .nil))) (.cons (.fors (.n 6) (.r1 (.call "_law_pick" (.cons (.v 0) (.cons (.bin .Add (.v 1) (.c (.int 2))) (.cons (.bin .Add (.v 2) (.c (.int 1))) .nil))))) (.cons (.par [(7, .s), (8, .s)] (.cons (.call "_law_pick" (.cons (.v 0) (.cons (.bin .Add (.bin .Add (.v 1) (.c (.int 3))) (.bin .Mult (.c (.int 2)) (.v 6))) (.cons (.v 4) .nil)))) (.cons (.call "_law_pick" (.cons (.v 0) (.cons (.bin .Add (.bin .Add (.v 1) (.c (.int 4))) (.bin .Mult (.c (.int 2)) (.v 6))) (.cons (.bin .Sub (.v 4) (.c (.int 1))) .nil)))) .nil))) (.cons (.app 5 (.tup (.cons (.v 7) (.cons (.ife (.cmp .GtE (.v 8) (.v 7)) (.bin .Add (.v 8) (.c (.int 1))) (.v 8)) .nil)))) .nil))) (.cons (.set 9 .s (.call "_law_pick" (.cons (.v 0) (.cons (.bin .Add (.v 1) (.c (.int 20))) (.cons (.c (.int 5)) .nil))))) (.cons (.set 10 .s (.lc (.bin .Add (.v 9) (.call "_law_pick" (.cons (.v 0) (.cons (.bin .Add (.bin .Add (.v 1) (.c (.int 21))) (.v 6)) (.cons (.c (.int 4)) .nil))))) (.n 6) (.r1 (.v 4)) .no)) (.cons (.fr 5) (.cons (.ret (.tup (.cons (.v 3) (.cons (.bi "tuple" (.cons (.v 10) .nil)) (.cons (.bi "tuple" (.cons (.v 5) .nil)) .nil))))) .nil)))))))⟩
def d__law_every : Df := ⟨"_law_every", 1, ["league", "found", "signs", "game", "longer", "some", "sign"], (.cons (.par [(1, .s), (2, .s)] (.cons (.lst (.cons (.tup .nil) .nil)) (.cons (.ife (.cmp .Is (.ix (.ix (.v 0) (.c (.int 0))) (.c (.int 1))) (.c .none)) (.c (.str "ah")) (.c (.str "adh"))) .nil))) (.cons (.fors (.n 3) (.e (.ix (.v 0) (.c (.int 2)))) (.cons (.set 4 .o (.lst .nil)) (.cons (.fors (.n 5) (.e (.v 1)) (.cons (.ext 4 (.lc (.bin .Add (.v 5) (.tup (.cons (.v 6) .nil))) (.n 6) (.e (.v 2)) .no)) .nil)) (.cons (.fr 4) (.cons (.set 1 .s (.v 4)) .nil))))) (.cons (.ret (.v 1)) .nil)))⟩
def d__law_first : Df := ⟨"_law_first", 1, ["points", "team"], (.cons (.ret (.lc (.v 1) (.n 1) (.r1 (.bi "len" (.cons (.v 0) .nil))) (.so (.cmp .Eq (.ix (.v 0) (.v 1)) (.bi "max" (.cons (.v 0) .nil)))))) .nil)⟩
def d__law_final : Df := ⟨"_law_final", 2, ["league", "row", "rule", "points", "games", "found", "home", "away", "sign"], (.cons (.unp (.q (.n 2) (.n 3) (.n 4)) (.v 0)) (.cons (.set 5 .o (.bi "list" (.cons (.v 3) .nil))) (.cons (.fors (.p (.p (.n 6) (.n 7)) (.n 8)) (.zip (.v 4) (.v 1)) (.cons (.ifs (.cmp .Eq (.v 8) (.c (.str "h"))) (.cons (.put 5 (.v 6) (.bin .Add (.oix 5 (.v 6)) (.ix (.v 2) (.c (.int 0))))) .nil) (.cons (.ifs (.cmp .Eq (.v 8) (.c (.str "a"))) (.cons (.put 5 (.v 7) (.bin .Add (.oix 5 (.v 7)) (.ix (.v 2) (.c (.int 0))))) .nil) (.cons (.ifs (.cmp .Eq (.v 8) (.c (.str "d"))) (.cons (.put 5 (.v 6) (.bin .Add (.oix 5 (.v 6)) (.ix (.v 2) (.c (.int 1))))) (.cons (.put 5 (.v 7) (.bin .Add (.oix 5 (.v 7)) (.ix (.v 2) (.c (.int 1))))) .nil)) .nil) .nil)) .nil)) .nil)) (.cons (.fr 5) (.cons (.ret (.bi "tuple" (.cons (.v 5) .nil))) .nil)))))⟩
def d__law_class : Df := ⟨"_law_class", 1, ["error", "kinds", "names"], (.cons (.set 1 .o (.lst (.cons (.isi (.v 0) "InvalidLeague") (.cons (.isi (.v 0) "InvalidResults") .nil)))) (.cons (.ext 1 (.lst (.cons (.isi (.v 0) "InvalidTeam") (.cons (.isi (.v 0) "InvalidGame") .nil)))) (.cons (.ext 1 (.lst (.cons (.isi (.v 0) "InvalidResult") (.cons (.isi (.v 0) "TooLarge") .nil)))) (.cons (.ext 1 (.lst (.cons (.isi (.v 0) "UnfairRule") (.cons (.isi (.v 0) "InvalidNumber") .nil)))) (.cons (.ext 1 (.lst (.cons (.isi (.v 0) "InvalidTable") (.cons (.isi (.v 0) "Unexplained") .nil)))) (.cons (.ext 1 (.lst (.cons (.isi (.v 0) "InvalidRounds") (.cons (.isi (.v 0) "AlreadyThere") .nil)))) (.cons (.ext 1 (.lst (.cons (.isi (.v 0) "NotThere") (.cons (.isi (.v 0) "NothingToUndo") .nil)))) (.cons (.ext 1 (.lst (.cons (.isi (.v 0) "ParseError") .nil))) (.cons (.fr 1) (.cons (.ifs (.or (.cons (.cmp .NotEq (.me1 "count" (.v 1) (.c (.bool true))) (.c (.int 1))) (.cons (.no (.isi (.v 0) "ValueError")) .nil))) (.cons (.ret (.c (.str "wrong"))) .nil) .nil) (.cons (.set 2 .o (.lst (.cons (.c (.str "InvalidLeague")) (.cons (.c (.str "InvalidResults")) (.cons (.c (.str "InvalidTeam")) (.cons (.c (.str "InvalidGame")) (.cons (.c (.str "InvalidResult")) .nil))))))) (.cons (.ext 2 (.lst (.cons (.c (.str "TooLarge")) (.cons (.c (.str "UnfairRule")) (.cons (.c (.str "InvalidNumber")) (.cons (.c (.str "InvalidTable")) (.cons (.c (.str "Unexplained")) .nil))))))) (.cons (.ext 2 (.lst (.cons (.c (.str "InvalidRounds")) (.cons (.c (.str "AlreadyThere")) (.cons (.c (.str "NotThere")) (.cons (.c (.str "NothingToUndo")) (.cons (.c (.str "ParseError")) .nil))))))) (.cons (.ret (.oix 2 (.me1 "index" (.v 1) (.c (.bool true))))) .nil))))))))))))))⟩
def d__law_all : Df := ⟨"_law_all", 2, ["calls", "name", "call"], (.cons (.ret (.bi "all" (.cons (.lc (.cmp .Eq (.call "_law_result" (.cons (.v 2) .nil)) (.tup (.cons (.c (.str "error")) (.cons (.v 1) .nil)))) (.n 2) (.e (.v 0)) .no) .nil))) .nil)⟩
end OLd

end
section
set_option Elab.async false
set_option linter.all false
set_option maxRecDepth 100000
set_option maxHeartbeats 0
namespace OLlaw
open PySem PySem.Spec PyProof.Rows L2 OL OLd
def d_league_text : Df := ⟨"league_text", 1, ["league", "rule", "points", "games", "text", "point", "home", "away"], (.cons (.unp (.q (.n 1) (.n 2) (.n 3)) (.v 0)) (.cons (.set 4 .s (.ife (.cmp .Is (.ix (.v 1) (.c (.int 1))) (.c .none)) (.bi "str" (.cons (.ix (.v 1) (.c (.int 0))) .nil)) (.bin .Add (.bin .Add (.bi "str" (.cons (.ix (.v 1) (.c (.int 0))) .nil)) (.c (.str "/"))) (.bi "str" (.cons (.ix (.v 1) (.c (.int 1))) .nil))))) (.cons (.set 4 .s (.bin .Add (.bin .Add (.v 4) (.c (.str ": "))) (.me1 "join" (.c (.str " ")) (.lc (.bi "str" (.cons (.v 5) .nil)) (.n 5) (.e (.v 2)) .no)))) (.cons (.ret (.bin .Add (.v 4) (.me1 "join" (.c (.str "")) (.lc (.bin .Add (.bin .Add (.bin .Add (.c (.str "; ")) (.bi "str" (.cons (.v 6) .nil))) (.c (.str "-"))) (.bi "str" (.cons (.v 7) .nil))) (.p (.n 6) (.n 7)) (.e (.v 3)) .no)))) .nil))))⟩
def d_read_number : Df := ⟨"read_number", 1, ["word", "sign"], (.cons (.ifs (.or (.cons (.no (.cmp2 .LtE .LtE (.c (.int 1)) (.bi "len" (.cons (.v 0) .nil)) (.g "MAX_DIGITS" (.inl 3)))) (.cons (.no (.bi "all" (.cons (.lc (.cmp .In (.v 1) (.g "DIGITS" (.inr "0123456789"))) (.n 1) (.e (.v 0)) .no) .nil))) .nil))) (.cons (.ret (.c .none)) .nil) .nil) (.cons (.ret (.bi "int" (.cons (.v 0) .nil))) .nil))⟩
def d_read_numbers : Df := ⟨"read_numbers", 2, ["text", "mark", "word"], (.cons (.ret (.bi "tuple" (.cons (.lc (.call "read_number" (.cons (.v 2) .nil)) (.n 2) (.e (.me1 "split" (.v 0) (.v 1))) .no) .nil))) .nil)⟩
def d_parse_league : Df := ⟨"parse_league", 1, ["text", "parts", "head", "rule", "league", "part"], (.cons (.callS "check_text" (.cons (.v 0) .nil)) (.cons (.set 1 .s (.me1 "split" (.v 0) (.c (.str "; ")))) (.cons (.set 2 .s (.me1 "split" (.ix (.v 1) (.c (.int 0))) (.c (.str ": ")))) (.cons (.set 3 .s (.call "read_numbers" (.cons (.ix (.v 2) (.c (.int 0))) (.cons (.c (.str "/")) .nil)))) (.cons (.ifs (.cmp .Eq (.bi "len" (.cons (.v 3) .nil)) (.c (.int 1))) (.cons (.set 3 .s (.bin .Add (.v 3) (.tup (.cons (.c .none) .nil)))) .nil) .nil) (.cons (.set 4 .s (.tup (.cons (.v 3) (.cons (.call "read_numbers" (.cons (.ix (.v 2) (.neg (.c (.int 1)))) (.cons (.c (.str " ")) .nil))) (.cons (.bi "tuple" (.cons (.lc (.call "read_numbers" (.cons (.v 5) (.cons (.c (.str "-")) .nil))) (.n 5) (.e (.sl (.v 1) (.so (.c (.int 1))) .no)) .no) .nil)) .nil))))) (.cons (.ifs (.or (.cons (.no (.call "is_league" (.cons (.v 4) .nil))) (.cons (.cmp .NotEq (.call "league_text" (.cons (.v 4) .nil)) (.v 0)) .nil))) (.cons (.raise "ParseError") .nil) .nil) (.cons (.ret (.v 4)) .nil))))))))⟩
def d__law_class : Df := ⟨"_law_class", 1, ["error", "kinds", "names"], (.cons .any .nil)⟩
def d__law_result : Df := ⟨"_law_result", 1, ["call", "error"], (.cons .any .nil)⟩
def d__law_all : Df := ⟨"_law_all", 2, ["calls", "name", "call"], (.cons .any .nil)⟩
def d_law : Df := ⟨"law", 1, ["script", "i", "league", "win", "draw", "points", "games", "text", "home", "away", "signs", "row", "bad", "value", "one", "game"], (.cons (.fors (.n 1) (.r1 (.c (.int 3))) (.cons (.set 2 .s (.call "_law_league" (.cons (.v 0) (.cons (.bin .Mult (.c (.int 60)) (.v 1)) (.cons (.c (.int 8)) .nil))))) (.cons (.unp (.q (.p (.n 3) (.n 4)) (.n 5) (.n 6)) (.v 2)) (.cons (.set 7 .s (.bin .Add (.bi "str" (.cons (.v 3) .nil)) (.ife (.cmp .IsNot (.v 4) (.c .none)) (.bin .Add (.c (.str "/")) (.bi "str" (.cons (.v 4) .nil))) (.c (.str ""))))) (.cons (.set 7 .s (.bin .Add (.bin .Add (.v 7) (.c (.str ": "))) (.me1 "join" (.c (.str " ")) (.lc (.bi "str" (.cons (.v 14) .nil)) (.n 14) (.e (.v 5)) .no)))) (.cons (.fors (.p (.n 8) (.n 9)) (.e (.v 6)) (.cons (.set 7 .s (.bin .Add (.bin .Add (.bin .Add (.bin .Add (.v 7) (.c (.str "; "))) (.bi "str" (.cons (.v 8) .nil))) (.c (.str "-"))) (.bi "str" (.cons (.v 9) .nil)))) .nil)) (.cons (.ifs (.or (.cons (.cmp .NotEq (.call "format_league" (.cons (.v 2) .nil)) (.v 7)) (.cons (.cmp .NotEq (.call "parse_league" (.cons (.v 7) .nil)) (.v 2)) .nil))) (.cons (.ret (.c (.bool false))) .nil) .nil) (.cons (.set 10 .s (.ife (.cmp .Is (.v 4) (.c .none)) (.c (.str "ah")) (.c (.str "adh")))) (.cons (.set 11 .s (.bi "tuple" (.cons (.lc (.ix (.v 10) (.call "_law_pick" (.cons (.v 0) (.cons (.bin .Add (.bin .Add (.bin .Mult (.c (.int 60)) (.v 1)) (.c (.int 40))) (.v 15)) (.cons (.bi "len" (.cons (.v 10) .nil)) .nil))))) (.n 15) (.r1 (.bi "len" (.cons (.v 6) .nil))) .no) .nil))) (.cons (.ifs (.or (.cons (.cmp .NotEq (.call "format_results" (.cons (.v 2) (.cons (.v 11) .nil))) (.me1 "join" (.c (.str "")) (.v 11))) (.cons (.cmp .NotEq (.call "parse_results" (.cons (.v 2) (.cons (.me1 "join" (.c (.str "")) (.v 11)) .nil))) (.v 11)) .nil))) (.cons (.ret (.c (.bool false))) .nil) .nil) (.cons (.set 12 .o (.lst (.cons (.c .none) (.cons (.c (.int 5)) (.cons (.bin .Add (.me1 "join" (.c (.str "")) (.v 11)) (.c (.str "h"))) (.cons (.bin .Add (.bin .Mult (.c (.str "x")) (.bi "len" (.cons (.v 11) .nil))) (.c (.str "x"))) (.cons (.bin .Add (.c (.str " ")) (.me1 "join" (.c (.str "")) (.v 11))) (.cons (.bin .Add (.v 11) (.tup (.cons (.c (.str "h")) .nil))) .nil)))))))) (.cons (.ifs (.and (.cons (.cmp .Is (.v 4) (.c .none)) (.cons (.cmp .NotEq (.v 6) (.tup .nil)) .nil))) (.cons (.app 12 (.bin .Mult (.c (.str "d")) (.bi "len" (.cons (.v 6) .nil)))) .nil) .nil) (.cons (.fr 12) (.cons (.fors (.n 13) (.e (.v 12)) (.cons (.ifl "parse_results" (.cons (.v 2) (.cons (.v 13) .nil)) "ParseError" (.cons (.ret (.c (.bool false))) .nil) .nil) .nil)) .nil)))))))))))))) (.cons (.set 12 .o (.lst (.cons (.c .none) (.cons (.c (.int 5)) (.cons (.c (.str "")) (.cons (.c (.str "1")) (.cons (.c (.str "1:")) (.cons (.c (.str "1: ")) (.cons (.c (.str "1: 3")) (.cons (.c (.str "1: 3 2;")) (.cons (.c (.str "1: 3 2; ")) (.cons (.c (.str "1: 3 2; 0")) (.cons (.c (.str "1: 3 2; 0-0")) .nil))))))))))))) (.cons (.ext 12 (.lst (.cons (.c (.str "1: 3 2; 0-2")) (.cons (.c (.str "1: 3 2; 0-1-1")) (.cons (.c (.str "0: 3 2")) (.cons (.c (.str "10: 3 2")) (.cons (.c (.str "1/2: 3 2")) (.cons (.c (.str "1/: 3 2")) (.cons (.c (.str "/1: 3 2")) .nil))))))))) (.cons (.ext 12 (.lst (.cons (.c (.str "1/1/1: 3 2")) (.cons (.c (.str "01: 3 2")) (.cons (.c (.str "1: 03 2")) (.cons (.c (.str "1: 3  2")) (.cons (.c (.str "1: 200 2")) (.cons (.c (.str "1: -1 2")) (.cons (.c (.str "1: 3 2;0-1")) .nil))))))))) (.cons (.ext 12 (.lst (.cons (.c (.str "1: 3 2; 0-1;")) (.cons (.c (.str " 1: 3 2")) (.cons (.c (.str "1: 3 2 ")) (.cons (.c (.str "1:3 2")) (.cons (.c (.str "a: 3 2")) (.cons (.c (.str "1: 1 1 1 1 1 1 1")) (.cons (.c (.str "1: 3 2\n")) .nil))))))))) (.cons (.app 12 (.bin .Add (.c (.str "1: 3 2")) (.bin .Mult (.c (.str "; 0-1")) (.c (.int 9))))) (.cons (.fr 12) (.cons (.fors (.n 13) (.e (.v 12)) (.cons (.ifl "parse_league" (.cons (.v 13) .nil) "ParseError" (.cons (.ret (.c (.bool false))) .nil) .nil) .nil)) (.cons (.ret (.cmp .Eq (.call "parse_league" (.cons (.c (.str "3/0: 199 0; 1-0")) .nil)) (.tup (.cons (.tup (.cons (.c (.int 3)) (.cons (.c (.int 0)) .nil))) (.cons (.tup (.cons (.c (.int 199)) (.cons (.c (.int 0)) .nil))) (.cons (.tup (.cons (.tup (.cons (.c (.int 1)) (.cons (.c (.int 0)) .nil))) .nil)) .nil)))))) .nil)))))))))⟩
def top (i : Nat) : Stmt := PySem.Challenge.pw_openleague_k67_formats.main.body.getD i (.Pass ⟨0, 0, 0, 0⟩)
def cs : List (Str × Key) := [("MAX_WIN", .inl 9), ("MAX_POINTS", .inl 199), ("MAX_TEAMS", .inl 6), ("MAX_GAMES", .inl 8), ("HOME", .inr "h"), ("AWAY", .inr "a"), ("DRAW", .inr "d"), ("DIGITS", .inr "0123456789"), ("MAX_DIGITS", .inl 3)]
def exs : List Str := ["LeagueError", "InvalidLeague", "InvalidResults", "InvalidTeam", "InvalidGame", "InvalidResult", "TooLarge", "UnfairRule", "InvalidNumber", "InvalidTable", "Unexplained", "InvalidRounds", "AlreadyThere", "NotThere", "NothingToUndo", "ParseError"]
def i_is_int : Item := ⟨d_is_int, 25⟩
theorem ok_is_int : ItemOk top cs exs i_is_int := ⟨by decide +kernel, ⟨rfl, rfl, rfl, by decide +kernel, rfl, by decide +kernel, by decide +kernel⟩, by decide +kernel, fun _ _ _ _ _ _ us hl => match us, hl with | [_, _, _], _ => rfl⟩
def i_is_rule : Item := ⟨d_is_rule, 26⟩
theorem ok_is_rule : ItemOk top cs exs i_is_rule := ⟨by decide +kernel, ⟨rfl, rfl, rfl, by decide +kernel, rfl, by decide +kernel, by decide +kernel⟩, by decide +kernel, fun _ _ _ _ _ _ us hl => match us, hl with | [_], _ => rfl⟩
def i_is_game : Item := ⟨d_is_game, 27⟩
theorem ok_is_game : ItemOk top cs exs i_is_game := ⟨by decide +kernel, ⟨rfl, rfl, rfl, by decide +kernel, rfl, by decide +kernel, by decide +kernel⟩, by decide +kernel, fun _ _ _ _ _ _ us hl => match us, hl with | [_, _], _ => rfl⟩
def i_is_league : Item := ⟨d_is_league, 28⟩
theorem ok_is_league : ItemOk top cs exs i_is_league := ⟨by decide +kernel, ⟨rfl, rfl, rfl, by decide +kernel, rfl, by decide +kernel, by decide +kernel⟩, by decide +kernel, fun _ _ _ _ _ _ us hl => match us, hl with | [_], _ => rfl⟩
def i_check_league : Item := ⟨d_check_league, 29⟩
theorem ok_check_league : ItemOk top cs exs i_check_league := ⟨by decide +kernel, ⟨rfl, rfl, rfl, by decide +kernel, rfl, by decide +kernel, by decide +kernel⟩, by decide +kernel, fun _ _ _ _ _ _ us hl => match us, hl with | [_], _ => rfl⟩
def i_allowed : Item := ⟨d_allowed, 30⟩
theorem ok_allowed : ItemOk top cs exs i_allowed := ⟨by decide +kernel, ⟨rfl, rfl, rfl, by decide +kernel, rfl, by decide +kernel, by decide +kernel⟩, by decide +kernel, fun _ _ _ _ _ _ us hl => match us, hl with | [_], _ => rfl⟩
def i_have_results : Item := ⟨d_have_results, 31⟩
theorem ok_have_results : ItemOk top cs exs i_have_results := ⟨by decide +kernel, ⟨rfl, rfl, rfl, by decide +kernel, rfl, by decide +kernel, by decide +kernel⟩, by decide +kernel, fun _ _ _ _ _ _ us hl => match us, hl with | [_, _], _ => rfl⟩
def i_check_results : Item := ⟨d_check_results, 32⟩
theorem ok_check_results : ItemOk top cs exs i_check_results := ⟨by decide +kernel, ⟨rfl, rfl, rfl, by decide +kernel, rfl, by decide +kernel, by decide +kernel⟩, by decide +kernel, fun _ _ _ _ _ _ us hl => match us, hl with | [_, _], _ => rfl⟩
def i_league_text : Item := ⟨d_league_text, 36⟩
theorem ok_league_text : ItemOk top cs exs i_league_text := ⟨by decide +kernel, ⟨rfl, rfl, rfl, by decide +kernel, rfl, by decide +kernel, by decide +kernel⟩, by decide +kernel, fun _ _ _ _ _ _ us hl => match us, hl with | [_], _ => rfl⟩
def i_format_league : Item := ⟨d_format_league, 37⟩
theorem ok_format_league : ItemOk top cs exs i_format_league := ⟨by decide +kernel, ⟨rfl, rfl, rfl, by decide +kernel, rfl, by decide +kernel, by decide +kernel⟩, by decide +kernel, fun _ _ _ _ _ _ us hl => match us, hl with | [_], _ => rfl⟩
def i_read_number : Item := ⟨d_read_number, 38⟩
theorem ok_read_number : ItemOk top cs exs i_read_number := ⟨by decide +kernel, ⟨rfl, rfl, rfl, by decide +kernel, rfl, by decide +kernel, by decide +kernel⟩, by decide +kernel, fun _ _ _ _ _ _ us hl => match us, hl with | [_], _ => rfl⟩
def i_read_numbers : Item := ⟨d_read_numbers, 39⟩
theorem ok_read_numbers : ItemOk top cs exs i_read_numbers := ⟨by decide +kernel, ⟨rfl, rfl, rfl, by decide +kernel, rfl, by decide +kernel, by decide +kernel⟩, by decide +kernel, fun _ _ _ _ _ _ us hl => match us, hl with | [_, _], _ => rfl⟩
def i_check_text : Item := ⟨d_check_text, 40⟩
theorem ok_check_text : ItemOk top cs exs i_check_text := ⟨by decide +kernel, ⟨rfl, rfl, rfl, by decide +kernel, rfl, by decide +kernel, by decide +kernel⟩, by decide +kernel, fun _ _ _ _ _ _ us hl => match us, hl with | [_], _ => rfl⟩
def i_parse_league : Item := ⟨d_parse_league, 41⟩
theorem ok_parse_league : ItemOk top cs exs i_parse_league := ⟨by decide +kernel, ⟨rfl, rfl, rfl, by decide +kernel, rfl, by decide +kernel, by decide +kernel⟩, by decide +kernel, fun _ _ _ _ _ _ us hl => match us, hl with | [_], _ => rfl⟩
def i_format_results : Item := ⟨d_format_results, 42⟩
theorem ok_format_results : ItemOk top cs exs i_format_results := ⟨by decide +kernel, ⟨rfl, rfl, rfl, by decide +kernel, rfl, by decide +kernel, by decide +kernel⟩, by decide +kernel, fun _ _ _ _ _ _ us hl => match us, hl with | [_, _], _ => rfl⟩
def i_parse_results : Item := ⟨d_parse_results, 43⟩
theorem ok_parse_results : ItemOk top cs exs i_parse_results := ⟨by decide +kernel, ⟨rfl, rfl, rfl, by decide +kernel, rfl, by decide +kernel, by decide +kernel⟩, by decide +kernel, fun _ _ _ _ _ _ us hl => match us, hl with | [_, _], _ => rfl⟩
def i__law_pick : Item := ⟨d__law_pick, 45⟩
theorem ok__law_pick : ItemOk top cs exs i__law_pick := ⟨by decide +kernel, ⟨rfl, rfl, rfl, by decide +kernel, rfl, by decide +kernel, by decide +kernel⟩, by decide +kernel, fun _ _ _ _ _ _ us hl => match us, hl with | [_, _, _], _ => rfl⟩
def i__law_league : Item := ⟨d__law_league, 46⟩
theorem ok__law_league : ItemOk top cs exs i__law_league := ⟨by decide +kernel, ⟨rfl, rfl, rfl, by decide +kernel, rfl, by decide +kernel, by decide +kernel⟩, by decide +kernel, fun _ _ _ _ _ _ us hl => match us, hl with | [_, _, _], _ => rfl⟩
def i__law_class : Item := ⟨d__law_class, 47⟩
theorem ok__law_class : ItemOk top cs exs i__law_class := ⟨by decide +kernel, ⟨rfl, rfl, rfl, by decide +kernel, rfl, by decide +kernel, by decide +kernel⟩, by decide +kernel, fun _ _ _ _ _ _ us hl => match us, hl with | [_], _ => rfl⟩
def i__law_result : Item := ⟨d__law_result, 48⟩
theorem ok__law_result : ItemOk top cs exs i__law_result := ⟨by decide +kernel, ⟨rfl, rfl, rfl, by decide +kernel, rfl, by decide +kernel, by decide +kernel⟩, by decide +kernel, fun _ _ _ _ _ _ us hl => match us, hl with | [_], _ => rfl⟩
def i__law_all : Item := ⟨d__law_all, 49⟩
theorem ok__law_all : ItemOk top cs exs i__law_all := ⟨by decide +kernel, ⟨rfl, rfl, rfl, by decide +kernel, rfl, by decide +kernel, by decide +kernel⟩, by decide +kernel, fun _ _ _ _ _ _ us hl => match us, hl with | [_, _], _ => rfl⟩
def i_law : Item := ⟨d_law, 50⟩
theorem ok_law : ItemOk top cs exs i_law := ⟨by decide +kernel, ⟨rfl, rfl, rfl, by decide +kernel, rfl, by decide +kernel, by decide +kernel⟩, by decide +kernel, fun _ _ _ _ _ _ us hl => match us, hl with | [_], _ => rfl⟩
def rest : List Item := [i__law_class, i__law_all, i__law_result, i__law_league, i__law_pick, i_parse_results, i_format_results, i_parse_league, i_check_text, i_read_numbers, i_read_number, i_format_league, i_league_text, i_check_results, i_have_results, i_allowed, i_check_league, i_is_league, i_is_game, i_is_rule, i_is_int]
abbrev items : List Item := i_law :: rest
theorem oks : ∀ z ∈ items, ItemOk top cs exs z := by
  intro z hz
  simp only [items, rest, List.mem_cons, List.not_mem_nil, or_false] at hz
  rcases hz with rfl | rfl | rfl | rfl | rfl | rfl | rfl | rfl | rfl | rfl | rfl | rfl | rfl | rfl | rfl | rfl | rfl | rfl | rfl | rfl | rfl | rfl
  · exact ok_law
  · exact ok__law_class
  · exact ok__law_all
  · exact ok__law_result
  · exact ok__law_league
  · exact ok__law_pick
  · exact ok_parse_results
  · exact ok_format_results
  · exact ok_parse_league
  · exact ok_check_text
  · exact ok_read_numbers
  · exact ok_read_number
  · exact ok_format_league
  · exact ok_league_text
  · exact ok_check_results
  · exact ok_have_results
  · exact ok_allowed
  · exact ok_check_league
  · exact ok_is_league
  · exact ok_is_game
  · exact ok_is_rule
  · exact ok_is_int
abbrev R : PySem.W.OpenRow := PySem.W.OpenLaw.row PySem.Challenge.rw_openleague_k67_formats
def fa : List He.Fa := facts items cs exs
def fn : List He.DefD := items.map (Item.dd top)
theorem ok_all : ItemOk top cs exs ⟨allDf, 49⟩ := ⟨by decide +kernel, ⟨rfl, rfl, rfl, by decide +kernel, rfl, by decide +kernel, by decide +kernel⟩, by decide +kernel, fun _ _ _ _ _ _ us hl => match us, hl with | [_, _], _ => rfl⟩
theorem lamI : LamI top cs exs rest := by
  refine ⟨by decide +kernel, by decide +kernel, ⟨i__law_class, by simp [rest], rfl, rfl, rfl, by decide +kernel⟩, ⟨i__law_result, by simp [rest], rfl, rfl, rfl, by decide +kernel⟩, fun z hz hn => ?_⟩
  simp only [rest, List.mem_cons, List.not_mem_nil, or_false] at hz
  rcases hz with rfl | rfl | rfl | rfl | rfl | rfl | rfl | rfl | rfl | rfl | rfl | rfl | rfl | rfl | rfl | rfl | rfl | rfl | rfl | rfl | rfl
  · exact absurd hn (by decide +kernel)
  · exact ok_all
  · exact absurd hn (by decide +kernel)
  · exact absurd hn (by decide +kernel)
  · exact absurd hn (by decide +kernel)
  · exact absurd hn (by decide +kernel)
  · exact absurd hn (by decide +kernel)
  · exact absurd hn (by decide +kernel)
  · exact absurd hn (by decide +kernel)
  · exact absurd hn (by decide +kernel)
  · exact absurd hn (by decide +kernel)
  · exact absurd hn (by decide +kernel)
  · exact absurd hn (by decide +kernel)
  · exact absurd hn (by decide +kernel)
  · exact absurd hn (by decide +kernel)
  · exact absurd hn (by decide +kernel)
  · exact absurd hn (by decide +kernel)
  · exact absurd hn (by decide +kernel)
  · exact absurd hn (by decide +kernel)
  · exact absurd hn (by decide +kernel)
  · exact absurd hn (by decide +kernel)
abbrev tf : List He.Defn := [("law", none)]
abbrev hk : PySem.W.Hook := He.hookX 4 fa fn [] tf (OL.lamB exs)
def ob (s : PySem.W.SharedT) : He.AlX := He.obsX 4 fa fn [] tf (OL.lamB exs) (HandSHeadRun.getT s)
theorem ob_eq (s : PySem.W.SharedT) : ob s = hk.obs s.abs := He.obsX_eq (HandSHeadRun.getT_eq s)
def loose : List Str := (["__name__", "LeagueError", "InvalidLeague", "InvalidResults", "InvalidTeam", "InvalidGame", "InvalidResult", "TooLarge", "UnfairRule", "InvalidNumber", "InvalidTable", "Unexplained", "InvalidRounds", "AlreadyThere", "NotThere", "NothingToUndo", "ParseError", "MAX_WIN", "MAX_POINTS", "MAX_TEAMS", "MAX_GAMES", "HOME", "AWAY", "DRAW", "is_int", "is_rule", "is_game", "is_league", "check_league", "allowed"] : List Str) ++ (["have_results", "check_results", "DIGITS", "MAX_DIGITS", "league_text", "format_league", "read_number", "read_numbers", "check_text", "parse_league", "format_results", "parse_results", "_law_pick", "_law_league", "_law_class", "_law_result", "_law_all"] : List Str)
theorem run (w : World) : HandSHeadRun.RunEq R (PySem.W.view R.prog [50]) hk ob 20000 loose w := by
  intro os
  kernel_rfl
end OLlaw
open PySem PySem.W PySem.Calls PyProof.Rows
theorem OLlaw.holds (hv : ∀ ns : List Int, ns.length ≤ 63 → OL.runFn (OL.tab (OLlaw.rest.map (·.d))) OLlaw.d_law [.list (ns.map .int)] = some (.ok (.bool true))) : PySem.Challenge.rw_openleague_k67_formats.Holds := by
  w_on; o_law
  refine HandSHeadRun.head_any (r := OpenLaw.row PySem.Challenge.rw_openleague_k67_formats) (q := view (OpenLaw.row PySem.Challenge.rw_openleague_k67_formats).prog [50]) (H := OLlaw.hk) (ob := OLlaw.ob) (M := 20000) (loose := OLlaw.loose) (d := HandSHeadRun.topDef (OpenLaw.row PySem.Challenge.rw_openleague_k67_formats).prog 50) (kwd := []) OLlaw.ob_eq
    (by kernel_rfl) (fun s => by kernel_rfl) OLlaw.run (by kernel_rfl) (by kernel_rfl) (by kernel_rfl) (by rfl) (by first | assumption | decide +kernel) (by decide +kernel) ⟨rfl, rfl, rfl, rfl, rfl, by decide +kernel⟩ ?hw ?hc
  case hw => w_witness2
  case hc =>
    exact OL.law_walkL (l := PySem.Challenge.rw_openleague_k67_formats) (its := OLlaw.rest) (x := OLlaw.i_law) (s := "script") (n := 63) rfl (by decide) (by kernel_rfl) ⟨rfl, by decide +kernel, by decide +kernel⟩ (fun w h Y => Y) (by kernel_rfl) rfl OLlaw.oks rfl (by decide +kernel) OLlaw.lamI hv

end
section
set_option Elab.async false
set_option linter.all false
set_option maxRecDepth 100000
set_option maxHeartbeats 1000000
namespace OL
open PySem PySem.Spec PyProof.Rows L2 OLd
theorem whileGo_inv {c : Env → Option Bool} {body : Env → Option O} (I : Nat → Env → Prop) (st : ∀ j ρ, I j ρ → c ρ = some false ∨ (c ρ = some true ∧ ∃ j' ρ2, body ρ = some (.nx ρ2) ∧ I j' ρ2 ∧ j' < j)) : ∀ (n j : Nat) (ρ : Env), I j ρ → j < n → ∃ j' ρ', whileGo c body n ρ = some (.nx ρ') ∧ I j' ρ'
  | 0, j, ρ, _, h => absurd h (by omega)
  | n + 1, j, ρ, hI, h => by
    rcases st j ρ hI with h0 | ⟨h0, j', ρ2, h1, h2, h3⟩
    · refine ⟨j, ρ, ?_, hI⟩
      unfold whileGo
      rw [h0]; rfl
    · obtain ⟨j3, ρ3, h4, h5⟩ := whileGo_inv I st n j' ρ2 h2 (by omega)
      refine ⟨j3, ρ3, ?_, h5⟩
      unfold whileGo
      rw [h0, Option.bind_some, if_pos rfl, h1, Option.bind_some]
      exact h4
theorem exL_nx {Φ : Tab} {s : S} {ss : Ss} {ρ ρ1 : Env} (h : exS Φ s ρ = some (.nx ρ1)) : exL Φ (.cons s ss) ρ = exL Φ ss ρ1 := by
  simp only [exL, h, Option.bind_some]
theorem exL_rt {Φ : Tab} {s : S} {ss : Ss} {ρ : Env} {d : PyData} (h : exS Φ s ρ = some (.rt d)) : exL Φ (.cons s ss) ρ = some (.rt d) := by
  simp only [exL, h, Option.bind_some]
theorem runFn_of {Φ : Tab} {f : Df} {ds : List PyData} {d : PyData} (hl : ds.length = f.np) (h : exL Φ f.body (OL.startB f.names.length ds) = some (.rt d)) : runFn Φ f ds = some (.ok d) := by
  unfold runFn; rw [if_pos hl, h]; rfl
theorem atI_ints {ns : List Int} {i : Int} (h0 : 0 ≤ i) (h1 : i < ns.length) : ∃ n, atI (iL ns) i = some (.int n) := by
  unfold atI ixN
  have hl : ((iL ns).length : Int) = ns.length := by simp
  rw [hl, if_pos h0, if_pos h1, Option.bind_some, List.getElem?_map, List.getElem?_eq_getElem (by omega)]
  exact ⟨_, rfl⟩
theorem exS_ifs {Φ : Tab} {c : E} {a b : Ss} {ρ : Env} {k : Bool} (h : evE Φ c ρ = some (.bool k)) : exS Φ (.ifs c a b) ρ = if k = true then exL Φ a ρ else exL Φ b ρ := by
  unfold exS; rw [h]; rfl
end OL

end
section
set_option Elab.async false
set_option linter.all false
set_option maxRecDepth 100000
set_option maxHeartbeats 1000000
namespace OL
open PySem PySem.Spec PyProof.Rows L2 OLd
/-- the law's draw: some number below many -/
theorem r_pick (Φ : Tab) (ns : List Int) (k m : Int) (h0 : 0 ≤ k) (h1 : k < 99999) (hm : 0 < m) (hlen : ns.length < 2 ^ 60) : ∃ r : Int, runFn Φ d__law_pick [.list (iL ns), .int k, .int m] = some (.ok (.int r)) ∧ 0 ≤ r ∧ r < m := by
  have hc : ∃ cell : Int, evE Φ (.ife (.cmp .NotEq (.v 0) (.lst .nil)) (.ix (.v 0) (.bin .Mod (.v 1) (.bi "len" (.cons (.v 0) .nil)))) (.c (.int 0))) [.sh (.list (iL ns)), .sh (.int k), .sh (.int m), .un, .un, .un, .un] = some (.int cell) := by
    have e := eqD_list ns []
    by_cases hn : ns = []
    · subst hn
      exact ⟨0, by simp [evE, evL, getB, cmpD, bool?, constD, show eqD (.list []) (.list []) = some true from rfl]⟩
    · have hl : 0 < ns.length := List.length_pos_iff.mpr hn
      obtain ⟨n, hn'⟩ := atI_ints (ns := ns) (i := k % ns.length) (Int.emod_nonneg _ (by omega)) (Int.emod_lt_of_pos _ (by omega))
      refine ⟨n, ?_⟩
      have e' : eqD (.list (iL ns)) (.list []) = some false := by rw [show ([] : List PyData) = iL [] from rfl, e]; simp [hn]
      have e2 : biD "len" [.list (iL ns)] = some (.int ns.length) := by simp [biD]
      simp only [evE, evL, getB, cmpD, Option.bind_some, Option.map_some, List.length_nil, bool?, List.getElem?_cons_zero, List.getElem?_cons_succ, e', e2, binD, ixD, hn', Bool.not_false, if_true, Nat.zero_le]
      rw [if_pos (by omega), Option.bind_some]
      exact hn'
  obtain ⟨cell, hc⟩ := hc
  have hq : ∃ q : Int, 0 ≤ q ∧ q ≤ k ∧ evL Φ (.cons (.bin .FloorDiv (.v 3) (.bin .Pow (.c (.int 10)) (.c (.int 18)))) (.cons (.bin .FloorDiv (.v 1) (.bi "max" (.cons (.bi "len" (.cons (.v 0) .nil)) (.cons (.c (.int 1)) .nil)))) .nil)) [.sh (.list (iL ns)), .sh (.int k), .sh (.int m), .sh (.int cell), .un, .un, .un] = some [.int (cell / 10 ^ 18), .int q] := by
    refine ⟨k / (if (1 : Int) > (ns.length : Int) then (1 : Int) else (ns.length : Int)), ?_, ?_, ?_⟩
    · exact Int.ediv_nonneg h0 (by split <;> omega)
    · refine Int.ediv_le_self _ h0
    · have e2 : biD "len" [.list (iL ns)] = some (.int ns.length) := by simp [biD]
      have e3 : biD "max" [.int ns.length, .int 1] = some (.int (if (1 : Int) > (ns.length : Int) then (1 : Int) else (ns.length : Int))) := rfl
      have hs : ns.length < 2 ^ 60 := hlen
      simp only [evE, evL, getB, Option.bind_some, Option.map_some, List.getElem?_cons_zero, List.getElem?_cons_succ, e2, e3, binD, constD, if_true]
      rw [if_pos (by decide), Option.bind_some]
      dsimp only [binD]
      rw [if_pos (by decide), if_pos (by split <;> omega)]
      rfl
  obtain ⟨q, q0, q1, hq⟩ := hq
  have hw : ∃ r a : Int, exS Φ (.whl 100000 (.and (.cons (.cmp .Gt (.v 4) (.c (.int 0))) (.cons (.cmp .Gt (.v 5) (.c (.int 0))) .nil))) (.cons (.par [(4, .s), (5, .s)] (.cons (.bin .FloorDiv (.v 4) (.c (.int 840))) (.cons (.bin .Sub (.v 5) (.c (.int 1))) .nil))) .nil)) [.sh (.list (iL ns)), .sh (.int k), .sh (.int m), .sh (.int cell), .sh (.int (cell / 10 ^ 18)), .sh (.int q), .un] =
      some (.nx [.sh (.list (iL ns)), .sh (.int k), .sh (.int m), .sh (.int cell), .sh (.int r), .sh (.int a), .un]) := by
    obtain ⟨j', ρ', e1, r, a, rfl, _⟩ := whileGo_inv (c := fun ρ => (evE Φ (.and (.cons (.cmp .Gt (.v 4) (.c (.int 0))) (.cons (.cmp .Gt (.v 5) (.c (.int 0))) .nil))) ρ).bind bool?) (body := exL Φ (.cons (.par [(4, .s), (5, .s)] (.cons (.bin .FloorDiv (.v 4) (.c (.int 840))) (.cons (.bin .Sub (.v 5) (.c (.int 1))) .nil))) .nil))
      (fun j ρ => ∃ r a : Int, ρ = [.sh (.list (iL ns)), .sh (.int k), .sh (.int m), .sh (.int cell), .sh (.int r), .sh (.int a), .un] ∧ j = a.toNat) (fun j ρ hI => by
        obtain ⟨r, a, rfl, rfl⟩ := hI
        by_cases hr : 0 < r
        · by_cases ha : 0 < a
          · right
            refine ⟨by simp [evE, evAnd, getB, cmpD, constD, bool?, hr, ha], _, _, ?_, ⟨r / 840, a - 1, rfl, rfl⟩, by omega⟩
            simp [exL, exS, evL, evE, getB, constD, binD, setAll, hold]
          · left
            simp [evE, evAnd, getB, cmpD, constD, bool?, hr, ha]
        · left
          simp [evE, evAnd, getB, cmpD, constD, bool?, hr]) 100000 q.toNat _ ⟨_, _, rfl, rfl⟩ (by omega)
    exact ⟨r, a, by simp only [exS]; exact e1⟩
  obtain ⟨r, a, hw⟩ := hw
  by_cases hr : 0 < r
  · refine ⟨r % 840 % m, ?_, Int.emod_nonneg _ (by omega), Int.emod_lt_of_pos _ hm⟩
    refine runFn_of rfl ?_
    unfold d__law_pick
    refine (exL_nx (ρ1 := [.sh (.list (iL ns)), .sh (.int k), .sh (.int m), .sh (.int cell), .un, .un, .un]) ?_).trans ?_
    · simp only [exS]
      refine (congrArg (fun z : Option PyData => z.bind _) hc).trans ?_
      rfl
    refine (exL_nx (ρ1 := [.sh (.list (iL ns)), .sh (.int k), .sh (.int m), .sh (.int cell), .sh (.int (cell / 10 ^ 18)), .sh (.int q), .un]) ?_).trans ?_
    · simp only [exS]
      rw [hq]; rfl
    refine (exL_nx hw).trans ?_
    refine exL_rt ?_
    refine (exS_ifs (k := true) (by simp [evE, getB, cmpD, constD, hr])).trans ?_
    simp [exL, exS, evE, getB, constD, binD, hm]
  · refine ⟨((cell * 31 + 6151 * (k + 1)) * 40692 % 2147483399 * ((cell * 31 + 6151 * (k + 1)) * 40692 % 2147483399) + (cell * 31 + 6151 * (k + 1)) * 40692 % 2147483399 / 31) % 2147483629 % m, ?_, Int.emod_nonneg _ (by omega), Int.emod_lt_of_pos _ hm⟩
    refine runFn_of rfl ?_
    unfold d__law_pick
    refine (exL_nx (ρ1 := [.sh (.list (iL ns)), .sh (.int k), .sh (.int m), .sh (.int cell), .un, .un, .un]) ?_).trans ?_
    · simp only [exS]
      refine (congrArg (fun z : Option PyData => z.bind _) hc).trans ?_
      rfl
    refine (exL_nx (ρ1 := [.sh (.list (iL ns)), .sh (.int k), .sh (.int m), .sh (.int cell), .sh (.int (cell / 10 ^ 18)), .sh (.int q), .un]) ?_).trans ?_
    · simp only [exS]
      rw [hq]; rfl
    refine (exL_nx hw).trans ?_
    refine (exL_nx (ρ1 := [.sh (.list (iL ns)), .sh (.int k), .sh (.int m), .sh (.int cell), .sh (.int r), .sh (.int a), .un]) ?_).trans ?_
    · refine (exS_ifs (k := false) (by simp [evE, getB, cmpD, constD, hr])).trans ?_
      simp [exL]
    have hd : ∀ x : Int, -18446744073709551616 < x % 2147483399 ∧ x % 2147483399 < 18446744073709551616 := fun x => by
      have := Int.emod_nonneg x (show (2147483399 : Int) ≠ 0 by decide)
      have := Int.emod_lt_of_pos x (show (0 : Int) < 2147483399 by decide)
      omega
    simp [exL, exS, evE, evL, getB, constD, binD, setAll, hold, hm]
    rw [if_pos (hd _)]
    simp [hm]
end OL

end
section
set_option Elab.async false
set_option linter.all false
set_option maxRecDepth 100000
set_option maxHeartbeats 2000000
namespace OL
open PySem PySem.Spec PyProof.Rows L2 OLd
theorem binD_add (i j : Int) : binD .Add (.int i) (.int j) = some (.int (i + j)) := rfl
theorem binD_sub (i j : Int) : binD .Sub (.int i) (.int j) = some (.int (i - j)) := rfl
theorem binD_mul (i j : Int) (h : -1000000000000 < i ∧ i < 1000000000000) : binD .Mult (.int i) (.int j) = some (.int (i * j)) := by
  simp only [binD]; rw [if_pos (.inl (by omega))]
theorem binD_mod (i j : Int) (h : 0 < j) : binD .Mod (.int i) (.int j) = some (.int (i % j)) := by
  simp only [binD]; rw [if_pos h]
theorem binD_div (i j : Int) (h : 0 < j) (h2 : j < 1000000000000) : binD .FloorDiv (.int i) (.int j) = some (.int (i / j)) := by
  simp only [binD]; rw [if_pos ⟨h, by omega⟩]
theorem len_list (xs : List PyData) : biD "len" [.list xs] = some (.int xs.length) := rfl
theorem len_tuple (xs : List PyData) : biD "len" [.tuple xs] = some (.int xs.length) := rfl
theorem all_list (bs : List Bool) : biD "all" [.list (bs.map .bool)] = some (.bool (bs.all id)) := by
  show (bools? _).map _ = _
  rw [bools_q]; rfl
theorem any_list (bs : List Bool) : biD "any" [.list (bs.map .bool)] = some (.bool (bs.any id)) := by
  show (bools? _).map _ = _
  rw [bools_q]; rfl
theorem tuple_list (xs : List PyData) : biD "tuple" [.list xs] = some (.tuple xs) := rfl
/-- what a def answers -/
def Says (Φ : Tab) (f : Str) (ds : List PyData) (d : PyData) : Prop := ∃ G, Φ f = some G ∧ G ds = some (.ok d)
theorem Says.here {f : Df} {r : List Df} {x : Str} {ds : List PyData} {d : PyData} (e : x = f.name) (h : runFn (tab r) f ds = some (.ok d)) : Says (tab (f :: r)) x ds d := ⟨_, by unfold tab; rw [if_pos e], h⟩
theorem Says.skip {f : Df} {r : List Df} {x : Str} {ds : List PyData} {d : PyData} (e : x ≠ f.name) (h : Says (tab r) x ds d) : Says (tab (f :: r)) x ds d := by
  obtain ⟨G, h1, h2⟩ := h
  exact ⟨G, by unfold tab; rw [if_neg e]; exact h1, h2⟩
theorem evE_call {Φ : Tab} {f : Str} {es : Es} {ρ : Env} {ds : List PyData} {d : PyData} (h : Says Φ f ds d) (he : evL Φ es ρ = some ds) : evE Φ (.call f es) ρ = some d := by
  obtain ⟨G, h1, h2⟩ := h
  unfold evE
  rw [h1, Option.bind_some, he, Option.bind_some, h2]; rfl
def isIntF (v : PyData) (a b : Int) : Bool := match v with
  | .int i => decide (a ≤ i) && decide (i ≤ b)
  | _ => false
theorem r_is_int (Φ : Tab) (v : PyData) (a b : Int) (hv : isDictD v = false) : runFn Φ d_is_int [v, .int a, .int b] = some (.ok (.bool (isIntF v a b))) := by
  cases v <;> simp [isDictD] at hv <;> simp [runFn, d_is_int, exL, exS, evE, evAnd, OL.startB, getB, isTy, isDictD, isIntD, isBoolD, bool?, cmpD, isIntF]
  rename_i i
  by_cases h1 : a ≤ i <;> by_cases h2 : i ≤ b <;> simp [h1, h2]
def IntOk (Φ : Tab) : Prop := ∀ v a b, isDictD v = false → Says Φ "is_int" [v, .int a, .int b] (.bool (isIntF v a b))
/-- a league's data -/
structure Lg where
  w : Int
  dr : Option Int
  pts : List Int
  gs : List (Int × Int)
def drD : Option Int → PyData
  | none => .none
  | some x => .int x
def gmD (g : Int × Int) : PyData := .tuple [.int g.1, .int g.2]
def Lg.rule (L : Lg) : PyData := .tuple [.int L.w, drD L.dr]
def Lg.d (L : Lg) : PyData := .tuple [L.rule, .tuple (iL L.pts), .tuple (L.gs.map gmD)]
structure Lg.Ok (L : Lg) : Prop where
  w1 : 1 ≤ L.w
  w9 : L.w ≤ 9
  d0 : ∀ x, L.dr = some x → 0 ≤ x ∧ x ≤ L.w
  p2 : 2 ≤ L.pts.length
  p6 : L.pts.length ≤ 6
  pp : ∀ p ∈ L.pts, 0 ≤ p ∧ p ≤ 199
  g8 : L.gs.length ≤ 8
  gg : ∀ g ∈ L.gs, 0 ≤ g.1 ∧ g.1 < L.pts.length ∧ 0 ≤ g.2 ∧ g.2 < L.pts.length ∧ g.1 ≠ g.2
theorem r_is_rule {Φ : Tab} (hi : IntOk Φ) (L : Lg) (ok : L.Ok) : runFn Φ d_is_rule [L.rule] = some (.ok (.bool true)) := by
  have h1 := hi (.int L.w) 1 9 rfl
  have h2 : ∀ x, Says Φ "is_int" [.int x, .int 0, .int L.w] (.bool (isIntF (.int x) 0 L.w)) := fun x => hi (.int x) 0 L.w rfl
  obtain ⟨G, hG, h1⟩ := h1
  have e2 : eqD (.int 2) (.int 2) = some true := rfl
  have hw := ok.w1
  have hw9 := ok.w9
  unfold Lg.rule
  cases hd : L.dr with
  | none =>
    refine runFn_of rfl ?_
    simp [d_is_rule, exL, exS, evE, evL, evOr, OL.startB, getB, isTy, isDictD, isTupD, bool?, cmpD, len_tuple, constD, e2, ixD, atI, ixN, hG, keyD, h1, isIntF, hw, hw9, isD, isNon, drD]
  | some x =>
    obtain ⟨G2, hG2, h2⟩ := h2 x
    have e : G2 = G := Option.some.inj (hG2.symm.trans hG)
    subst e
    have hx := ok.d0 x hd
    refine runFn_of rfl ?_
    simp [d_is_rule, exL, exS, evE, evL, evOr, OL.startB, getB, isTy, isDictD, isTupD, bool?, cmpD, len_tuple, constD, e2, ixD, atI, ixN, hG, keyD, h1, isIntF, hw, hw9, isD, isNon, drD, h2, hx.1, hx.2]
theorem evI_tuple {Φ : Tab} {a : E} {ρ : Env} {xs : List PyData} (h : evE Φ a ρ = some (.tuple xs)) : evI Φ (.e a) ρ = some xs := by
  unfold evI; rw [h]; rfl
theorem evI_list {Φ : Tab} {a : E} {ρ : Env} {xs : List PyData} (h : evE Φ a ρ = some (.list xs)) : evI Φ (.e a) ρ = some xs := by
  unfold evI; rw [h]; rfl
theorem r_is_game {Φ : Tab} (hi : IntOk Φ) (g : Int × Int) (n : Int) (h1 : 0 ≤ g.1) (h2 : g.1 < n) (h3 : 0 ≤ g.2) (h4 : g.2 < n) (h5 : g.1 ≠ g.2) : runFn Φ d_is_game [gmD g, .int n] = some (.ok (.bool true)) := by
  have e2 : eqD (.int 2) (.int 2) = some true := rfl
  obtain ⟨G, hG, q1⟩ := hi (.int g.1) 0 (n - 1) rfl
  obtain ⟨G2, hG2, q2⟩ := hi (.int g.2) 0 (n - 1) rfl
  have e : G2 = G := Option.some.inj (hG2.symm.trans hG)
  subst e
  have ea : biD "all" [.list [.bool true, .bool true]] = some (.bool true) := rfl
  have z1 : g.1 ≤ n - 1 := by omega
  have z2 : g.2 ≤ n - 1 := by omega
  refine runFn_of rfl ?_
  simp [d_is_game, gmD, exL, exS, evE, evL, evOr, evI, evC, items?, lcGo, bindT, wipeB, T.slots, OL.startB, getB, isTy, isDictD, isTupD, bool?, cmpD, len_tuple, constD, e2, ixD, atI, ixN, hG, keyD, q1, q2, isIntF, h1, h3, binD_sub, z1, z2, consO, ea, eqD_int, h5]
theorem lc_map {α : Type} {Φ : Tab} {elt : E} {t : T} {it : I} {ρ : Env} {e g : α → PyData} {l : List α} {r : α → Env} (hi : evI Φ it ρ = some (l.map e)) (hb : ∀ a ∈ l, bindT t (e a) (wipeB ρ t.slots) = some (r a)) (h : ∀ a ∈ l, evE Φ elt (r a) = some (g a)) : evE Φ (.lc elt t it .no) ρ = some (.list (l.map g)) := by
  unfold evE
  rw [hi, Option.bind_some, lcGo_at (g := g) (fun a ha => ?_)]
  · rfl
  · rw [hb a ha, Option.bind_some]
    unfold evC
    rw [Option.bind_some, if_pos rfl, h a ha]; rfl
theorem evE_bi {Φ : Tab} {f : Str} {e : E} {ρ : Env} {x d : PyData} (h : evE Φ e ρ = some x) (hb : biD f [x] = some d) : evE Φ (.bi f (.cons e .nil)) ρ = some d := by
  unfold evE
  simp only [evL, h, Option.bind_some, Option.map_some, hb]
theorem all_true {l : List α} : biD "all" [.list (l.map fun _ => .bool true)] = some (.bool true) := by
  have h := all_list (l.map fun _ => true)
  rw [List.map_map] at h
  refine h.trans ?_
  simp
theorem evE_no {Φ : Tab} {e : E} {ρ : Env} {b : Bool} (h : evE Φ e ρ = some (.bool b)) : evE Φ (.no e) ρ = some (.bool (!b)) := by
  simp only [evE, h, Option.bind_some, bool?, Option.map_some]
theorem runFn_nx {Φ : Tab} {f : Df} {ds : List PyData} {ρ : Env} (hl : ds.length = f.np) (h : exL Φ f.body (OL.startB f.names.length ds) = some (.nx ρ)) : runFn Φ f ds = some (.ok .none) := by
  unfold runFn; rw [if_pos hl, h]; rfl
def RuleOk (Φ : Tab) : Prop := ∀ L : Lg, L.Ok → Says Φ "is_rule" [L.rule] (.bool true)
def GameOk (Φ : Tab) : Prop := ∀ (g : Int × Int) (n : Int), 0 ≤ g.1 → g.1 < n → 0 ≤ g.2 → g.2 < n → g.1 ≠ g.2 → Says Φ "is_game" [gmD g, .int n] (.bool true)
theorem r_is_league {Φ : Tab} (hi : IntOk Φ) (hr : RuleOk Φ) (hg : GameOk Φ) (L : Lg) (ok : L.Ok) : runFn Φ d_is_league [L.d] = some (.ok (.bool true)) := by
  obtain ⟨G, hG, q⟩ := hr L ok
  have e3 : eqD (.int 3) (.int 3) = some true := rfl
  refine runFn_of rfl ?_
  unfold Lg.d
  refine (exL_nx (ρ1 := [.sh (.tuple [L.rule, .tuple (iL L.pts), .tuple (L.gs.map gmD)]), .un, .un, .un, .un, .un]) ?_).trans ?_
  · refine (exS_ifs (k := false) ?_).trans rfl
    simp [evE, evL, evOr, OL.startB, getB, isTy, isDictD, isTupD, bool?, cmpD, len_tuple, constD, e3, ixD, atI, ixN, hG, q]
  refine (exL_nx (ρ1 := [.sh (.tuple [L.rule, .tuple (iL L.pts), .tuple (L.gs.map gmD)]), .sh L.rule, .sh (.tuple (iL L.pts)), .sh (.tuple (L.gs.map gmD)), .un, .un]) rfl).trans ?_
  refine (exL_nx (ρ1 := [.sh (.tuple [L.rule, .tuple (iL L.pts), .tuple (L.gs.map gmD)]), .sh L.rule, .sh (.tuple (iL L.pts)), .sh (.tuple (L.gs.map gmD)), .un, .un]) ?_).trans ?_
  · refine (exS_ifs (k := false) ?_).trans rfl
    have h2 : (2 : Int) ≤ L.pts.length := by have := ok.p2; omega
    have h6 : (L.pts.length : Int) ≤ 6 := by have := ok.p6; omega
    simp [evE, evL, evOr, getB, isTy, isDictD, isTupD, bool?, cmpD, len_tuple, constD, keyD, h2, h6]
  refine (exL_nx (ρ1 := [.sh (.tuple [L.rule, .tuple (iL L.pts), .tuple (L.gs.map gmD)]), .sh L.rule, .sh (.tuple (iL L.pts)), .sh (.tuple (L.gs.map gmD)), .un, .un]) ?_).trans ?_
  · refine (exS_ifs (k := false) ?_).trans rfl
    have h := evE_bi (f := "all") (d := .bool true) (lc_map (Φ := Φ) (elt := .call "is_int" (.cons (.v 4) (.cons (.c (.int 0)) (.cons (.g "MAX_POINTS" (.inl 199)) .nil)))) (t := .n 4) (it := .e (.v 2)) (ρ := [.sh (.tuple [L.rule, .tuple (iL L.pts), .tuple (L.gs.map gmD)]), .sh L.rule, .sh (.tuple (iL L.pts)), .sh (.tuple (L.gs.map gmD)), .un, .un])
      (e := PyData.int) (l := L.pts) (g := fun _ => .bool true) (r := fun p => [.sh (.tuple [L.rule, .tuple (iL L.pts), .tuple (L.gs.map gmD)]), .sh L.rule, .sh (.tuple (iL L.pts)), .sh (.tuple (L.gs.map gmD)), .sh (.int p), .un]) (evI_tuple rfl) (fun _ _ => rfl) (fun p hp => by
        have h := hi (.int p) 0 199 rfl
        have e : isIntF (.int p) 0 199 = true := by simp [isIntF, ok.pp p hp]
        rw [e] at h
        exact evE_call h rfl)) all_true
    exact evE_no h
  refine (exL_nx (ρ1 := [.sh (.tuple [L.rule, .tuple (iL L.pts), .tuple (L.gs.map gmD)]), .sh L.rule, .sh (.tuple (iL L.pts)), .sh (.tuple (L.gs.map gmD)), .un, .un]) ?_).trans ?_
  · refine (exS_ifs (k := false) ?_).trans rfl
    have h8 : ¬ (8 : Int) < L.gs.length := by have := ok.g8; omega
    simp [evE, evL, evOr, getB, isTy, isDictD, isTupD, bool?, cmpD, len_tuple, constD, keyD, h8]
  refine exL_rt ?_
  have h := evE_bi (f := "all") (d := .bool true) (lc_map (Φ := Φ) (elt := .call "is_game" (.cons (.v 5) (.cons (.bi "len" (.cons (.v 2) .nil)) .nil))) (t := .n 5) (it := .e (.v 3)) (ρ := [.sh (.tuple [L.rule, .tuple (iL L.pts), .tuple (L.gs.map gmD)]), .sh L.rule, .sh (.tuple (iL L.pts)), .sh (.tuple (L.gs.map gmD)), .un, .un])
      (e := gmD) (l := L.gs) (g := fun _ => .bool true) (r := fun p => [.sh (.tuple [L.rule, .tuple (iL L.pts), .tuple (L.gs.map gmD)]), .sh L.rule, .sh (.tuple (iL L.pts)), .sh (.tuple (L.gs.map gmD)), .un, .sh (gmD p)]) (evI_tuple rfl) (fun _ _ => rfl) (fun g hg' => by
        obtain ⟨g1, g2, g3, g4, g5⟩ := ok.gg g hg'
        have h := hg g L.pts.length g1 g2 g3 g4 g5
        refine evE_call h ?_
        simp [evL, evE, getB, len_tuple])) all_true
  show exS Φ (.ret _) _ = _
  unfold exS
  exact congrArg (Option.map O.rt) h
def LeagueOk (Φ : Tab) : Prop := ∀ L : Lg, L.Ok → Says Φ "is_league" [L.d] (.bool true)
theorem r_check_league {Φ : Tab} (hl : LeagueOk Φ) (L : Lg) (ok : L.Ok) : runFn Φ d_check_league [L.d] = some (.ok .none) := by
  have h : evE Φ (.call "is_league" (.cons (.v 0) .nil)) [.sh L.d] = some (.bool true) := evE_call (hl L ok) rfl
  refine runFn_nx (ρ := [.sh L.d]) rfl ?_
  refine (exL_nx (ρ1 := [.sh L.d]) ?_).trans rfl
  exact (exS_ifs (k := false) (evE_no h)).trans rfl
end OL

end
section
set_option Elab.async false
set_option linter.all false
set_option maxRecDepth 100000
set_option maxHeartbeats 2000000
namespace OL
open PySem PySem.Spec PyProof.Rows L2 OLd
theorem evI_r1 {Φ : Tab} {a : E} {ρ : Env} {n : Int} (h : evE Φ a ρ = some (.int n)) (h0 : 0 ≤ n) (h1 : n ≤ 16777216) : evI Φ (.r1 a) ρ = some (rgD 0 n) := by
  unfold evI
  rw [h, Option.bind_some]
  show (if rgOk 0 n = true then some (rgD 0 n) else none) = _
  rw [if_pos (by simp [rgOk]; omega)]
theorem exS_for {Φ : Tab} {t : T} {it : I} {b : Ss} {ρ : Env} {ds : List PyData} (h : evI Φ it ρ = some ds) : exS Φ (.fors t it b) ρ = forGo t (exL Φ b) ds ρ := by
  unfold exS; rw [h]; rfl
theorem exS_set {Φ : Tab} {i : Nat} {m : M} {e : E} {ρ : Env} {d : PyData} {b : B} (h : evE Φ e ρ = some d) (hb : hold m d = some b) (hi : i < ρ.length) : exS Φ (.set i m e) ρ = some (.nx (ρ.set i b)) := by
  unfold exS; rw [h, Option.bind_some]
  unfold setAll
  rw [if_pos hi, hb]; rfl
theorem exS_ret {Φ : Tab} {e : E} {ρ : Env} {d : PyData} (h : evE Φ e ρ = some d) : exS Φ (.ret e) ρ = some (.rt d) := by
  unfold exS; rw [h]; rfl
theorem exS_par2 {Φ : Tab} {i j : Nat} {m n : M} {x y : E} {ρ : Env} {d e : PyData} {b c : B} (h1 : evE Φ x ρ = some d) (h2 : evE Φ y ρ = some e) (hb : hold m d = some b) (hc : hold n e = some c) (hi : i < ρ.length) (hj : j < ρ.length) :
    exS Φ (.par [(i, m), (j, n)] (.cons x (.cons y .nil))) ρ = some (.nx ((ρ.set i b).set j c)) := by
  unfold exS
  simp only [evL, h1, h2, Option.bind_some, Option.map_some, setAll, hi, hj, hb, hc, if_true, List.length_set]
theorem evE_add {Φ : Tab} {a b : E} {ρ : Env} {i j : Int} (h1 : evE Φ a ρ = some (.int i)) (h2 : evE Φ b ρ = some (.int j)) : evE Φ (.bin .Add a b) ρ = some (.int (i + j)) := by
  simp only [evE, h1, h2, Option.bind_some, binD_add]
end OL

end
section
set_option Elab.async false
set_option linter.all false
set_option maxRecDepth 100000
set_option maxHeartbeats 2000000
namespace OL
open PySem PySem.Spec PyProof.Rows L2 OLd
/-- the law's draws -/
def PickOk (Φ : Tab) (ns : List Int) (pk : Int → Int → Int) : Prop := ∀ k m : Int, 0 ≤ k → k < 99999 → 0 < m → Says Φ "_law_pick" [.list (iL ns), .int k, .int m] (.int (pk k m)) ∧ 0 ≤ pk k m ∧ pk k m < m
theorem pick_ok {Φ Φ' : Tab} {ns : List Int} (hl : ns.length ≤ 63) (h : Φ "_law_pick" = some (runFn Φ' d__law_pick)) : ∃ pk, PickOk Φ ns pk := by
  refine ⟨fun k m => match runFn Φ' d__law_pick [.list (iL ns), .int k, .int m] with | some (.ok (.int r)) => r | _ => 0, fun k m h0 h1 hm => ?_⟩
  obtain ⟨r, e, r0, r1⟩ := r_pick Φ' ns k m h0 h1 hm (by omega)
  simp only [e]
  exact ⟨⟨_, h, e⟩, r0, r1⟩
/-- a draw written in the text -/
theorem evE_pick {Φ : Tab} {ns : List Int} {pk : Int → Int → Int} (hp : PickOk Φ ns pk) {s a b : E} {ρ : Env} {k m : Int} (hs : evE Φ s ρ = some (.list (iL ns))) (ha : evE Φ a ρ = some (.int k)) (hb : evE Φ b ρ = some (.int m)) (h0 : 0 ≤ k) (h1 : k < 99999) (hm : 0 < m) :
    evE Φ (.call "_law_pick" (.cons s (.cons a (.cons b .nil)))) ρ = some (.int (pk k m)) := by
  refine evE_call (hp k m h0 h1 hm).1 ?_
  simp only [evL, hs, ha, hb, Option.bind_some, Option.map_some]
theorem r_law_league {Φ : Tab} {ns : List Int} {pk : Int → Int → Int} (hp : PickOk Φ ns pk) (a most : Int) (a0 : 0 ≤ a) (a1 : a ≤ 50000) (m0 : 0 ≤ most) (m8 : most ≤ 8) : ∃ L : Lg, L.Ok ∧ (L.gs.length : Int) ≤ most ∧ L.pts.length ≤ 5 ∧ (∀ p ∈ L.pts, p ≤ 7) ∧ runFn Φ d__law_league [.list (iL ns), .int a, .int most] = some (.ok L.d) := by
  obtain ⟨_, p0, p1⟩ := hp a 6 a0 (by omega) (by decide)
  -- the rule
  have hr : ∃ (w : Int) (dr : Option Int), 1 ≤ w ∧ w ≤ 9 ∧ (∀ x, dr = some x → 0 ≤ x ∧ x ≤ w) ∧ evE Φ (.ix (.tup (.cons (.tup (.cons (.c (.int 1)) (.cons (.c .none) .nil))) (.cons (.tup (.cons (.c (.int 2)) (.cons (.c (.int 1)) .nil))) (.cons (.tup (.cons (.c (.int 3)) (.cons (.c (.int 1)) .nil))) (.cons (.tup (.cons (.c (.int 3)) (.cons (.c .none) .nil))) (.cons (.tup (.cons (.c (.int 2)) (.cons (.c (.int 0)) .nil))) (.cons (.tup (.cons (.c (.int 2)) (.cons (.c (.int 2)) .nil))) .nil))))))) (.call "_law_pick" (.cons (.v 0) (.cons (.v 1) (.cons (.c (.int 6)) .nil)))))
      [.sh (.list (iL ns)), .sh (.int a), .sh (.int most), .un, .un, .un, .un, .un, .un, .un, .un] = some (.tuple [.int w, drD dr]) := by
    have e := evE_pick hp (s := .v 0) (a := .v 1) (b := .c (.int 6)) (ρ := [.sh (.list (iL ns)), .sh (.int a), .sh (.int most), .un, .un, .un, .un, .un, .un, .un, .un]) rfl rfl rfl a0 (by omega) (by decide)
    have et : ∀ z, evE Φ (.ix (.tup (.cons (.tup (.cons (.c (.int 1)) (.cons (.c .none) .nil))) (.cons (.tup (.cons (.c (.int 2)) (.cons (.c (.int 1)) .nil))) (.cons (.tup (.cons (.c (.int 3)) (.cons (.c (.int 1)) .nil))) (.cons (.tup (.cons (.c (.int 3)) (.cons (.c .none) .nil))) (.cons (.tup (.cons (.c (.int 2)) (.cons (.c (.int 0)) .nil))) (.cons (.tup (.cons (.c (.int 2)) (.cons (.c (.int 2)) .nil))) .nil))))))) (.call "_law_pick" (.cons (.v 0) (.cons (.v 1) (.cons (.c (.int 6)) .nil)))))
      [.sh (.list (iL ns)), .sh (.int a), .sh (.int most), .un, .un, .un, .un, .un, .un, .un, .un] = some z ↔ atI [PyData.tuple [.int 1, .none], .tuple [.int 2, .int 1], .tuple [.int 3, .int 1], .tuple [.int 3, .none], .tuple [.int 2, .int 0], .tuple [.int 2, .int 2]] (pk a 6) = some z := by
      intro z
      rw [evE, e]
      rfl
    simp only [et]
    have h6 : pk a 6 = 0 ∨ pk a 6 = 1 ∨ pk a 6 = 2 ∨ pk a 6 = 3 ∨ pk a 6 = 4 ∨ pk a 6 = 5 := by omega
    rcases h6 with h | h | h | h | h | h <;> rw [h]
    · exact ⟨1, none, by decide, by decide, by simp, rfl⟩
    · exact ⟨2, some 1, by decide, by decide, by simp, rfl⟩
    · exact ⟨3, some 1, by decide, by decide, by simp, rfl⟩
    · exact ⟨3, none, by decide, by decide, by simp, rfl⟩
    · exact ⟨2, some 0, by decide, by decide, by simp, rfl⟩
    · exact ⟨2, some 2, by decide, by decide, by simp, rfl⟩
  obtain ⟨w, dr, w1, w9, hd, hr⟩ := hr
  obtain ⟨_, t0, t1⟩ := hp (a + 1) 4 (by omega) (by omega) (by decide)
  obtain ⟨_, n0, n1⟩ := hp (a + 2) (most + 1) (by omega) (by omega) (by omega)
  obtain ⟨_, b0, b1⟩ := hp (a + 20) 5 (by omega) (by omega) (by omega)
  -- the games
  obtain ⟨ρ', hf, gs, b6, b7, b8, rfl, hgl, hgs⟩ := forGo_range (t := .n 6) (body := exL Φ (.cons (.par [(7, .s), (8, .s)] (.cons (.call "_law_pick" (.cons (.v 0) (.cons (.bin .Add (.bin .Add (.v 1) (.c (.int 3))) (.bin .Mult (.c (.int 2)) (.v 6))) (.cons (.v 4) .nil)))) (.cons (.call "_law_pick" (.cons (.v 0) (.cons (.bin .Add (.bin .Add (.v 1) (.c (.int 4))) (.bin .Mult (.c (.int 2)) (.v 6))) (.cons (.bin .Sub (.v 4) (.c (.int 1))) .nil)))) .nil))) (.cons (.app 5 (.tup (.cons (.v 7) (.cons (.ife (.cmp .GtE (.v 8) (.v 7)) (.bin .Add (.v 8) (.c (.int 1))) (.v 8)) .nil)))) .nil)))
    (n := pk (a + 2) (most + 1)) (fun j ρ => ∃ (gs : List (Int × Int)) (b6 b7 b8 : B), ρ = [.sh (.list (iL ns)), .sh (.int a), .sh (.int most), .sh (.tuple [.int w, drD dr]), .sh (.int (2 + pk (a + 1) 4)), .ow (.list (gs.map gmD)), b6, b7, b8, .un, .un] ∧ gs.length = j ∧ ∀ g ∈ gs, 0 ≤ g.1 ∧ g.1 < 2 + pk (a + 1) 4 ∧ 0 ≤ g.2 ∧ g.2 < 2 + pk (a + 1) 4 ∧ g.1 ≠ g.2)
    [.sh (.list (iL ns)), .sh (.int a), .sh (.int most), .sh (.tuple [.int w, drD dr]), .sh (.int (2 + pk (a + 1) 4)), .ow (.list []), .un, .un, .un, .un, .un] (fun j ρ hj hI => by
      obtain ⟨gs, b6, b7, b8, rfl, hl, hg⟩ := hI
      obtain ⟨_, x0, x1⟩ := hp (a + 3 + 2 * (j : Int)) (2 + pk (a + 1) 4) (by omega) (by omega) (by omega)
      obtain ⟨_, y0, y1⟩ := hp (a + 4 + 2 * (j : Int)) (2 + pk (a + 1) 4 - 1) (by omega) (by omega) (by omega)
      refine ⟨_, _, rfl, ?_, gs ++ [(pk (a + 3 + 2 * (j : Int)) (2 + pk (a + 1) 4), if pk (a + 3 + 2 * (j : Int)) (2 + pk (a + 1) 4) ≤ pk (a + 4 + 2 * (j : Int)) (2 + pk (a + 1) 4 - 1) then pk (a + 4 + 2 * (j : Int)) (2 + pk (a + 1) 4 - 1) + 1 else pk (a + 4 + 2 * (j : Int)) (2 + pk (a + 1) 4 - 1))], .sh (.int j), .sh (.int (pk (a + 3 + 2 * (j : Int)) (2 + pk (a + 1) 4))), .sh (.int (pk (a + 4 + 2 * (j : Int)) (2 + pk (a + 1) 4 - 1))), rfl, by simp [hl], ?_⟩
      · refine (exL_nx (exS_par2 (evE_pick hp (k := a + 3 + 2 * (j : Int)) (m := 2 + pk (a + 1) 4) rfl rfl rfl (by omega) (by omega) (by omega)) (evE_pick hp (k := a + 4 + 2 * (j : Int)) (m := 2 + pk (a + 1) 4 - 1) rfl rfl rfl (by omega) (by omega) (by omega)) rfl rfl (by simp) (by simp))).trans ?_
        refine (exL_nx (ρ1 := _) ?_).trans rfl
        have hl' : gs.length < 16777216 := by omega
        simp only [exS, evE, evL, getB, List.set_cons_succ, List.set_cons_zero, List.getElem?_cons_zero, List.getElem?_cons_succ, Option.bind_some, Option.map_some, cmpD, bool?, constD, binD_add, if_true, decide_eq_true_eq, List.length_map, hl', List.length_cons, List.length_nil]
        split <;> simp [gmD, *]
      · intro g hg'
        rcases List.mem_append.mp hg' with h | h
        · exact hg g h
        · simp at h
          subst h
          dsimp only
          split <;> omega) ⟨[], .un, .un, .un, rfl, rfl, by simp⟩
  -- the points
  have hpts : evE Φ (.lc (.bin .Add (.v 9) (.call "_law_pick" (.cons (.v 0) (.cons (.bin .Add (.bin .Add (.v 1) (.c (.int 21))) (.v 6)) (.cons (.c (.int 4)) .nil))))) (.n 6) (.r1 (.v 4)) .no) [.sh (.list (iL ns)), .sh (.int a), .sh (.int most), .sh (.tuple [.int w, drD dr]), .sh (.int (2 + pk (a + 1) 4)), .ow (.list (gs.map gmD)), b6, b7, b8, .sh (.int (pk (a + 20) 5)), .un] =
      some (.list ((List.range (2 + pk (a + 1) 4).toNat).map fun i => .int (pk (a + 20) 5 + pk (a + 21 + (i : Nat)) 4))) := by
    refine lc_map (l := List.range (2 + pk (a + 1) 4).toNat) (e := fun i => .int (i : Nat)) (r := fun i => [.sh (.list (iL ns)), .sh (.int a), .sh (.int most), .sh (.tuple [.int w, drD dr]), .sh (.int (2 + pk (a + 1) 4)), .ow (.list (gs.map gmD)), .sh (.int (i : Nat)), b7, b8, .sh (.int (pk (a + 20) 5)), .un]) ?_ (fun _ _ => rfl) (fun i hi => ?_)
    · rw [evI_r1 rfl (by omega) (by omega)]
      unfold rgD
      simp
    · have := List.mem_range.mp hi
      exact evE_add rfl (evE_pick hp (k := a + 21 + (i : Nat)) (m := 4) rfl rfl rfl (by omega) (by omega) (by omega))
  refine ⟨⟨w, dr, (List.range (2 + pk (a + 1) 4).toNat).map fun i => pk (a + 20) 5 + pk (a + 21 + (i : Nat)) 4, gs⟩, ⟨w1, w9, hd, ?_, ?_, ?_, ?_, ?_⟩, ?_, ?_, ?_, ?_⟩
  · simp; omega
  · simp; omega
  · intro p hp'
    obtain ⟨i, hi, rfl⟩ := List.mem_map.mp hp'
    have := List.mem_range.mp hi
    obtain ⟨_, q0, q1⟩ := hp (a + 21 + (i : Nat)) 4 (by omega) (by omega) (by omega)
    omega
  · show gs.length ≤ 8
    omega
  · intro g hg
    obtain ⟨g1, g2, g3, g4, g5⟩ := hgs g hg
    simp
    omega
  · show (gs.length : Int) ≤ most
    omega
  · simp; omega
  · intro p hp'
    obtain ⟨i, hi, rfl⟩ := List.mem_map.mp hp'
    have := List.mem_range.mp hi
    obtain ⟨_, q0, q1⟩ := hp (a + 21 + (i : Nat)) 4 (by omega) (by omega) (by omega)
    omega
  · refine runFn_of rfl ?_
    unfold d__law_league
    refine (exL_nx (exS_set hr rfl (by simp))).trans ?_
    refine (exL_nx (exS_par2 (d := .int (2 + pk (a + 1) 4)) (e := .list []) (evE_add rfl (evE_pick hp (k := a + 1) (m := 4) rfl rfl rfl (by omega) (by omega) (by omega))) rfl rfl rfl (by simp) (by simp))).trans ?_
    refine (exL_nx ((exS_for (evI_r1 (evE_pick hp (k := a + 2) (m := most + 1) rfl rfl rfl (by omega) (by omega) (by omega)) (by omega) (by omega))).trans hf)).trans ?_
    refine (exL_nx (exS_set (evE_pick hp (k := a + 20) (m := 5) rfl rfl rfl (by omega) (by omega) (by omega)) rfl (by simp))).trans ?_
    refine (exL_nx (exS_set hpts rfl (by simp))).trans ?_
    refine (exL_nx (s := .fr 5) rfl).trans ?_
    refine exL_rt (exS_ret ?_)
    simp [evE, evL, getB, tuple_list, frz, Lg.d, Lg.rule]
end OL

end
section
set_option Elab.async false
set_option linter.all false
set_option maxRecDepth 100000
set_option maxHeartbeats 2000000
namespace OL
open PySem PySem.Spec PyProof.Rows L2 OLd
abbrev srt (l : List Int) : List Int := l.mergeSort (fun a b => decide (a ≤ b))
theorem srt_eq {l r : List Int} (hr : r.Pairwise (· ≤ ·)) : srt l = r ↔ l.Perm r := by
  constructor
  · intro h
    rw [← h]
    exact (List.mergeSort_perm _ _).symm
  · intro h
    have hs : (srt l).Pairwise (fun a b : Int => a ≤ b) := by
      have := List.pairwise_mergeSort (le := fun a b : Int => decide (a ≤ b)) (fun a b c h1 h2 => by simp at *; omega) (fun a b => by simp; omega) l
      simpa using this
    exact List.Perm.eq_of_pairwise (le := fun a b : Int => a ≤ b) (fun a b _ _ h1 h2 => by omega) hs hr ((List.mergeSort_perm _ _).trans h)
abbrev rng (n : Nat) : List Int := (List.range n).map fun i : Nat => (i : Int)
theorem rng_sorted (n : Nat) : (rng n).Pairwise (· ≤ ·) := by
  rw [List.pairwise_map]
  exact List.pairwise_lt_range.imp fun h => by omega
theorem rgD_rng (n : Nat) : rgD 0 (n : Int) = iL (rng n) := by
  simp [rgD]
def teamsOf (gs : List (Int × Int)) (row : List Int) : List Int := row.flatMap fun g => match gs[g.toNat]? with
  | some p => [p.1, p.2]
  | none => []
def goodRow (gs : List (Int × Int)) (row : List Int) : Bool := decide ((firsts (teamsOf gs row)).length = (teamsOf gs row).length)
structure RowOk (n : Nat) (row : List Int) : Prop where
  ne : row ≠ []
  mem : ∀ g ∈ row, 0 ≤ g ∧ g < n
  inc : row.Pairwise (· < ·)
  sm : row.length ≤ 100
theorem zipD_ints : ∀ xs ys : List Int, zipD (iL xs) (iL ys) = (xs.zip ys).map gmD
  | [], _ => by simp [zipD]
  | _ :: _, [] => by simp [zipD]
  | x :: xs, y :: ys => by
    show zipD (.int x :: iL xs) (.int y :: iL ys) = _
    unfold zipD
    rw [zipD_ints xs ys]
    rfl
theorem zip_lt {row : List Int} (h : row.Pairwise (· < ·)) : ∀ p ∈ row.zip row.tail, p.1 < p.2 := by
  induction row with
  | nil => simp
  | cons a r ih =>
    cases r with
    | nil => simp
    | cons b r =>
      intro p hp
      simp only [List.tail_cons, List.zip_cons_cons, List.mem_cons] at hp
      rcases hp with rfl | hp
      · exact (List.pairwise_cons.mp h).1 b (by simp)
      · exact ih (List.pairwise_cons.mp h).2 p (by simpa using hp)
theorem cut1 (xs : List PyData) : cutD xs (some 1) none = xs.tail := by
  unfold cutD
  have e : HT.sIx xs.length 0 (some 1) = min 1 xs.length := HT.sIx_nat xs.length 0 1
  rw [e, HT.sIx_none]
  cases xs with
  | nil => rfl
  | cons x xs => simp
theorem atI_nat {α : Type} {xs : List α} {g : Int} {x : α} (h0 : 0 ≤ g) (h : xs[g.toNat]? = some x) : atI xs g = some x := by
  have hl := (List.getElem?_eq_some_iff.mp h).1
  unfold atI ixN
  rw [if_pos h0, if_pos (by omega), Option.bind_some, h]
theorem teams_ev {gs : List (Int × Int)} {row : List Int} (h : ∀ g ∈ row, 0 ≤ g ∧ g < gs.length) : (teamsOf gs row).length = 2 * row.length := by
  unfold teamsOf
  induction row with
  | nil => rfl
  | cons g row ih =>
    obtain ⟨h0, h1⟩ := h g (by simp)
    have e : gs[g.toNat]? = some gs[g.toNat] := List.getElem?_eq_getElem (by omega)
    rw [List.flatMap_cons, List.length_append, ih (fun g hg => h g (by simp [hg])), e]
    simp only [List.length_cons, List.length_nil]
    omega
theorem evE_len {Φ : Tab} {e : E} {ρ : Env} {xs : List PyData} (h : evE Φ e ρ = some (.tuple xs)) : evE Φ (.bi "len" (.cons e .nil)) ρ = some (.int xs.length) := evE_bi h (len_tuple xs)
theorem evE_lenl {Φ : Tab} {e : E} {ρ : Env} {xs : List PyData} (h : evE Φ e ρ = some (.list xs)) : evE Φ (.bi "len" (.cons e .nil)) ρ = some (.int xs.length) := evE_bi h (len_list xs)
theorem evE_cmp {Φ : Tab} {op : CmpOp} {a b : E} {ρ : Env} {x y : PyData} {k : Bool} (h1 : evE Φ a ρ = some x) (h2 : evE Φ b ρ = some y) (h : cmpD op x y = some k) : evE Φ (.cmp op a b) ρ = some (.bool k) := by
  simp only [evE, h1, h2, Option.bind_some, h, Option.map_some]
theorem evE_ix {Φ : Tab} {a b : E} {ρ : Env} {x y z : PyData} (h1 : evE Φ a ρ = some x) (h2 : evE Φ b ρ = some y) (h : ixD x y = some z) : evE Φ (.ix a b) ρ = some z := by
  simp only [evE, h1, h2, Option.bind_some, h]
theorem evE_sub {Φ : Tab} {a b : E} {ρ : Env} {i j : Int} (h1 : evE Φ a ρ = some (.int i)) (h2 : evE Φ b ρ = some (.int j)) : evE Φ (.bin .Sub a b) ρ = some (.int (i - j)) := by
  simp only [evE, h1, h2, Option.bind_some, binD_sub]
theorem evAnd_cons {Φ : Tab} {e : E} {es : Es} {ρ : Env} {b c : Bool} (h : evE Φ e ρ = some (.bool b)) (h2 : b = true → evAnd Φ es ρ = some c) : evAnd Φ (.cons e es) ρ = some (b && c) := by
  simp only [evAnd, h, Option.bind_some, bool?]
  cases b with
  | true => rw [if_pos rfl, h2 rfl]; rfl
  | false => rfl
theorem evOr_cons {Φ : Tab} {e : E} {es : Es} {ρ : Env} {b c : Bool} (h : evE Φ e ρ = some (.bool b)) (h2 : b = false → evOr Φ es ρ = some c) : evOr Φ (.cons e es) ρ = some (b || c) := by
  simp only [evOr, h, Option.bind_some, bool?]
  cases b with
  | false => rw [if_neg (by decide), h2 rfl]; rfl
  | true => rfl
theorem evE_and {Φ : Tab} {es : Es} {ρ : Env} {b : Bool} (h : evAnd Φ es ρ = some b) : evE Φ (.and es) ρ = some (.bool b) := by
  simp only [evE, h, Option.map_some]
theorem evE_or {Φ : Tab} {es : Es} {ρ : Env} {b : Bool} (h : evOr Φ es ρ = some b) : evE Φ (.or es) ρ = some (.bool b) := by
  simp only [evE, h, Option.map_some]
theorem lc2_map {α β : Type} {Φ : Tab} {elt : E} {t t2 : T} {it it2 : I} {ρ : Env} {e : α → PyData} {l : List α} {e2 g : β → PyData} {l2 : α → List β} {r : α → Env} {r2 : α → β → Env} (hi : evI Φ it ρ = some (l.map e)) (hb : ∀ a ∈ l, bindT t (e a) (wipeB ρ (t.slots ++ t2.slots)) = some (r a)) (hi2 : ∀ a ∈ l, evI Φ it2 (r a) = some ((l2 a).map e2))
    (hb2 : ∀ a ∈ l, ∀ b ∈ l2 a, bindT t2 (e2 b) (wipeB (r a) t2.slots) = some (r2 a b)) (h : ∀ a ∈ l, ∀ b ∈ l2 a, evE Φ elt (r2 a b) = some (g b)) (hl : (l.flatMap l2).length ≤ 16777216) : evE Φ (.lc2 elt t it t2 it2 .no) ρ = some (.list ((l.flatMap l2).map g)) := by
  unfold evE
  rw [hi, Option.bind_some, lcGo2_at (g := fun a => (l2 a).map g) (fun a ha => ?_), Option.bind_some]
  · have e3 : l.flatMap (fun a => (l2 a).map g) = (l.flatMap l2).map g := by rw [List.map_flatMap]
    rw [e3, if_pos (by simpa using hl)]
  · rw [hb a ha, Option.bind_some, hi2 a ha, Option.bind_some]
    refine lcGo_at fun b hb' => ?_
    rw [hb2 a ha b hb', Option.bind_some]
    unfold evC
    rw [Option.bind_some, if_pos rfl, h a ha b hb']; rfl
abbrev rowD (r : List Int) : PyData := .tuple (iL r)
theorem r_is_round {Φ : Tab} (hi : IntOk Φ) (L : Lg) {row : List Int} (ok : RowOk L.gs.length row) : runFn Φ d_is_round [L.d, rowD row] = some (.ok (.bool (goodRow L.gs row))) := by
  refine runFn_of rfl ?_
  unfold d_is_round
  have hlg : ∀ ρ : Env, ρ[0]? = some (.sh L.d) → evE Φ (.ix (.v 0) (.c (.int 2))) ρ = some (.tuple (L.gs.map gmD)) := fun ρ hρ => by
    refine evE_ix (x := L.d) (y := .int 2) ?_ rfl rfl
    unfold evE getB; rw [hρ]
  refine (exL_nx (ρ1 := [.sh L.d, .sh (rowD row), .un, .un, .un, .un, .un]) ?_).trans ?_
  · refine (exS_ifs (k := false) (evE_or (evOr_cons (b := false) (c := false) ?_ (fun _ => evOr_cons (b := false) (c := false) ?_ (fun _ => rfl))))).trans rfl
    · exact evE_no (b := true) rfl
    · refine evE_cmp (x := rowD row) (y := .tuple []) rfl rfl ?_
      have h := eqD_tuple row []
      rw [decide_eq_false ok.ne] at h
      exact h
  refine (exL_nx (ρ1 := [.sh L.d, .sh (rowD row), .un, .un, .un, .un, .un]) ?_).trans ?_
  · refine (exS_ifs (k := false) (evE_no (b := true) (evE_bi (lc_map (l := row) (e := PyData.int) (g := fun _ => .bool true) (r := fun g => [.sh L.d, .sh (rowD row), .un, .sh (.int g), .un, .un, .un]) (evI_tuple rfl) (fun _ _ => rfl) (fun g hg => ?_)) all_true))).trans rfl
    have h := hi (.int g) 0 ((L.gs.length : Int) - 1) rfl
    have e : isIntF (.int g) 0 ((L.gs.length : Int) - 1) = true := by
      have := ok.mem g hg
      simp [isIntF]; omega
    rw [e] at h
    refine evE_call h ?_
    have h3 := evE_sub (evE_len (hlg [.sh L.d, .sh (rowD row), .un, .sh (.int g), .un, .un, .un] rfl)) (show evE Φ (.c (.int 1)) [.sh L.d, .sh (rowD row), .un, .sh (.int g), .un, .un, .un] = some (.int 1) from rfl)
    rw [List.length_map] at h3
    simp only [evL, h3, Option.bind_some, Option.map_some]
    rfl
  have ht := teams_ev ok.mem
  have hsm := ok.sm
  refine (exL_nx (exS_set (d := .list (iL (teamsOf L.gs row))) (b := .sh (.list (iL (teamsOf L.gs row)))) ?_ rfl (by simp))).trans ?_
  · refine (lc2_map (l := row) (e := PyData.int) (e2 := PyData.int) (g := PyData.int) (l2 := fun g => match L.gs[g.toNat]? with | some p => [p.1, p.2] | none => []) (r := fun g => [.sh L.d, .sh (rowD row), .un, .sh (.int g), .un, .un, .un]) (r2 := fun g t => [.sh L.d, .sh (rowD row), .un, .sh (.int g), .sh (.int t), .un, .un])
      (evI_tuple rfl) (fun _ _ => rfl) (fun g hg => ?_) (fun _ _ _ _ => rfl) (fun _ _ _ _ => rfl) (by show (teamsOf L.gs row).length ≤ _; omega))
    obtain ⟨h0, h1⟩ := ok.mem g hg
    have e : L.gs[g.toNat]? = some L.gs[g.toNat] := List.getElem?_eq_getElem (by omega)
    rw [e]
    refine evI_tuple (evE_ix (hlg _ rfl) (y := .int g) rfl ?_)
    refine atI_nat h0 ?_
    rw [List.getElem?_map, e]; rfl
  refine exL_rt (exS_ret ?_)
  have h1 : evE Φ (.bi "all" (.cons (.lc (.cmp .Lt (.v 5) (.v 6)) (.p (.n 5) (.n 6)) (.zip (.v 1) (.sl (.v 1) (.so (.c (.int 1))) .no)) .no) .nil)) [.sh L.d, .sh (rowD row), .sh (.list (iL (teamsOf L.gs row))), .un, .un, .un, .un] = some (.bool true) := by
    refine evE_bi (lc_map (l := row.zip row.tail) (e := gmD) (g := fun _ => .bool true) (r := fun p => [.sh L.d, .sh (rowD row), .sh (.list (iL (teamsOf L.gs row))), .un, .un, .sh (.int p.1), .sh (.int p.2)]) ?_ (fun _ _ => rfl) (fun p hp => ?_)) all_true
    · rw [← zipD_ints]
      have e : iL row.tail = cutD (iL row) (some 1) none := by rw [cut1]; simp
      rw [e]
      rfl
    · refine evE_cmp (x := .int p.1) (y := .int p.2) rfl rfl ?_
      show some (decide (p.1 < p.2)) = _
      rw [decide_eq_true (zip_lt ok.inc p hp)]
  have h2 : evE Φ (.cmp .Eq (.lset (.v 2)) (.bi "len" (.cons (.v 2) .nil))) [.sh L.d, .sh (rowD row), .sh (.list (iL (teamsOf L.gs row))), .un, .un, .un, .un] = some (.bool (goodRow L.gs row)) := by
    refine evE_cmp (x := .int (firsts (teamsOf L.gs row)).length) (y := .int (teamsOf L.gs row).length) ?_ ?_ ?_
    · have hq := ints_q (teamsOf L.gs row)
      show (match (PyData.list (iL (teamsOf L.gs row))) with | .list xs => (ltD.ints? xs).bind fun is => if is.length < 1000 then some (PyData.int (firsts is).length) else none | _ => none) = _
      simp only [hq, Option.bind_some]
      rw [if_pos (by omega)]
    · refine (evE_lenl (xs := iL (teamsOf L.gs row)) rfl).trans ?_
      rw [List.length_map]
    · show eqD _ _ = _
      rw [eqD_int]
      unfold goodRow
      simp
      constructor <;> intro h <;> omega
  have h3 := evE_and (evAnd_cons h1 (fun _ => evAnd_cons h2 (fun _ => (rfl : evAnd Φ .nil _ = some true))))
  rw [Bool.true_and, Bool.and_true] at h3
  exact h3
def RoundOk (Φ : Tab) : Prop := ∀ (L : Lg) (row : List Int), RowOk L.gs.length row → Says Φ "is_round" [L.d, rowD row] (.bool (goodRow L.gs row))
theorem canLay_rows : ∀ rows : List (List Int), PyData.canLayAll0 (rows.map rowD) = true
  | [] => rfl
  | r :: rows => by
    have h := canLayAll_ints r
    show PyData.canLayAll0 (.tuple (iL r) :: rows.map rowD) = true
    simp only [PyData.canLayAll0, PyData.canLay0, h, canLay_rows rows, Bool.and_true]
theorem depth_rows : ∀ rows : List (List Int), PyData.depthAll (rows.map rowD) ≤ 1
  | [] => by decide
  | r :: rows => by
    have h := depthAll_ints r
    have h2 := depth_rows rows
    show PyData.depthAll (.tuple (iL r) :: rows.map rowD) ≤ 1
    simp only [PyData.depthAll, PyData.depth, h]
    omega
theorem shp_rows (rows : List (List Int)) : shp (.tuple (rows.map rowD)) = true := by
  unfold shp SeqAt.shaped
  have h := depth_rows rows
  refine Bool.and_eq_true_iff.mpr ⟨by simp only [PyData.canLay0, canLay_rows], decide_eq_true ?_⟩
  simp only [PyData.depth]
  omega
theorem all_by {α : Type} (l : List α) (f : α → Bool) : biD "all" [.list (l.map fun a => .bool (f a))] = some (.bool (l.all f)) := by
  have h := all_list (l.map f)
  rw [List.map_map] at h
  refine h.trans ?_
  simp
theorem any_by {α : Type} (l : List α) (f : α → Bool) : biD "any" [.list (l.map fun a => .bool (f a))] = some (.bool (l.any f)) := by
  have h := any_list (l.map f)
  rw [List.map_map] at h
  refine h.trans ?_
  simp
def haveF (L : Lg) (rows : List (List Int)) : Bool := !rows.isEmpty && (rows.all (goodRow L.gs) && decide (srt rows.flatten = rng L.gs.length))
theorem r_have_rounds {Φ : Tab} (hi : RoundOk Φ) (L : Lg) (hL : L.gs.length ≤ 8) {rows : List (List Int)} (ok : ∀ r ∈ rows, RowOk L.gs.length r) (hlen : rows.length ≤ 1000) : runFn Φ d_have_rounds [L.d, .tuple (rows.map rowD)] = some (.ok (.bool (haveF L rows))) := by
  refine runFn_of rfl ?_
  unfold d_have_rounds
  cases hr : rows with
  | nil => rfl
  | cons r0 rows0 =>
    rw [← hr]
    have hne : rows ≠ [] := by rw [hr]; simp
    have e0 : evE Φ (.cmp .Eq (.v 1) (.tup .nil)) [.sh L.d, .sh (.tuple (rows.map rowD)), .un, .un] = some (.bool false) := by
      refine evE_cmp (x := .tuple (rows.map rowD)) (y := .tuple []) rfl rfl ?_
      show eqD _ _ = _
      unfold eqD
      rw [if_pos ⟨shp_rows rows, rfl⟩, hr]
      rfl
    have e1 : evE Φ (.bi "all" (.cons (.lc (.call "is_round" (.cons (.v 0) (.cons (.v 2) .nil))) (.n 2) (.e (.v 1)) .no) .nil)) [.sh L.d, .sh (.tuple (rows.map rowD)), .un, .un] = some (.bool (rows.all (goodRow L.gs))) := by
      refine evE_bi (lc_map (l := rows) (e := rowD) (g := fun r => .bool (goodRow L.gs r)) (r := fun r => [.sh L.d, .sh (.tuple (rows.map rowD)), .sh (rowD r), .un]) (evI_tuple rfl) (fun _ _ => rfl) (fun r hr' => ?_)) (all_by _ _)
      exact evE_call (hi L r (ok r hr')) rfl
    have e2 := evE_or (evOr_cons (b := false) (evE_no (b := true) (show evE Φ (.isi (.v 1) "tuple") [.sh L.d, .sh (.tuple (rows.map rowD)), .un, .un] = some (.bool true) from rfl)) (fun _ => evOr_cons e0 (fun _ => evOr_cons (evE_no e1) (fun _ => (rfl : evOr Φ .nil _ = some false)))))
    rw [Bool.false_or, Bool.false_or, Bool.or_false] at e2
    have hh : haveF L rows = (rows.all (goodRow L.gs) && decide (srt rows.flatten = rng L.gs.length)) := by
      unfold haveF; rw [hr]; rfl
    rw [hh]
    cases ha : rows.all (goodRow L.gs) with
    | false =>
      rw [ha] at e2
      exact exL_rt ((exS_ifs e2).trans rfl)
    | true =>
      rw [ha] at e2
      refine (exL_nx ((exS_ifs e2).trans rfl)).trans ?_
      refine exL_rt (exS_ret ?_)
      rw [Bool.true_and]
      have hfl : rows.flatten = rows.flatMap (fun r => r) := by rw [List.flatMap_id']
      have hbig : rows.flatten.length ≤ 100 * rows.length := by
        clear hh e2 e1 e0 ha hr hne hlen hfl
        induction rows with
        | nil => simp
        | cons r rows ih =>
          have := (ok r (by simp)).sm
          have := ih (fun r hr => ok r (by simp [hr]))
          simp only [List.flatten_cons, List.length_append, List.length_cons]
          omega
      refine evE_cmp (x := .list (iL (srt rows.flatten))) (y := .list (iL (rng L.gs.length))) ?_ ?_ (eqD_list _ _)
      · refine evE_bi (lc2_map (l := rows) (e := rowD) (e2 := PyData.int) (g := PyData.int) (l2 := fun r => r) (r := fun r => [.sh L.d, .sh (.tuple (rows.map rowD)), .sh (rowD r), .un]) (r2 := fun r g => [.sh L.d, .sh (.tuple (rows.map rowD)), .sh (rowD r), .sh (.int g)]) (evI_tuple rfl) (fun _ _ => rfl) (fun _ _ => evI_tuple rfl) (fun _ _ _ _ => rfl) (fun _ _ _ _ => rfl) (by rw [← hfl]; omega)) ?_
        rw [← hfl]
        refine (sorted_list (sortOk_ints _)).trans ?_
        rw [sortD_ints]
      · have h3 := evE_len (Φ := Φ) (e := .ix (.v 0) (.c (.int 2))) (ρ := [.sh L.d, .sh (.tuple (rows.map rowD)), .un, .un]) (xs := L.gs.map gmD) (evE_ix (x := L.d) (y := .int 2) rfl rfl rfl)
        rw [List.length_map] at h3
        unfold evE
        rw [h3, Option.bind_some]
        show (if (0 : Int) ≤ (L.gs.length : Int) ∧ (L.gs.length : Int) ≤ 16777216 then some (PyData.list (rgD 0 L.gs.length)) else none) = _
        rw [if_pos (by omega), rgD_rng]
def CheckOk (Φ : Tab) : Prop := ∀ L : Lg, L.Ok → Says Φ "check_league" [L.d] .none
def HaveOk (Φ : Tab) : Prop := ∀ (L : Lg) (rows : List (List Int)), L.Ok → (∀ r ∈ rows, RowOk L.gs.length r) → rows.length ≤ 1000 → Says Φ "have_rounds" [L.d, .tuple (rows.map rowD)] (.bool (haveF L rows))
theorem exS_callS {Φ : Tab} {f : Str} {es : Es} {ρ : Env} {ds : List PyData} {d : PyData} (h : Says Φ f ds d) (he : evL Φ es ρ = some ds) : exS Φ (.callS f es) ρ = some (.nx ρ) := by
  obtain ⟨G, h1, h2⟩ := h
  unfold exS
  rw [h1, Option.bind_some, he, Option.bind_some, h2]; rfl
theorem r_are_rounds {Φ : Tab} (hc : CheckOk Φ) (hh : HaveOk Φ) (L : Lg) (hL : L.Ok) {rows : List (List Int)} (ok : ∀ r ∈ rows, RowOk L.gs.length r) (hlen : rows.length ≤ 1000) : runFn Φ d_are_rounds [L.d, .tuple (rows.map rowD)] = some (.ok (.bool (haveF L rows))) := by
  refine runFn_of rfl ?_
  refine (exL_nx (exS_callS (hc L hL) rfl)).trans ?_
  exact exL_rt (exS_ret (evE_call (hh L rows hL ok hlen) rfl))
end OL

end
section
set_option Elab.async false
set_option linter.all false
set_option maxRecDepth 100000
set_option maxHeartbeats 2000000
namespace OL
open PySem PySem.Spec PyProof.Rows L2 OLd
/-! ### results -/
inductive Sg where
  | h | a | d
  deriving DecidableEq
def sgD : Sg → PyData
  | .h => .str "h"
  | .a => .str "a"
  | .d => .str "d"
abbrev rsD (row : List Sg) : PyData := .tuple (row.map sgD)
def gainF (L : Lg) : Sg → Int × Int
  | .h => (L.w, 0)
  | .a => (0, L.w)
  | .d => (L.dr.getD 0, L.dr.getD 0)
def SgOk (L : Lg) (s : Sg) : Prop := s = .d → L.dr.isSome = true
structure RsOk (L : Lg) (row : List Sg) : Prop where
  len : row.length = L.gs.length
  ok : ∀ s ∈ row, SgOk L s
theorem eqD_sg' (s t : Sg) : eqD (sgD s) (sgD t) = some (decide (s = t)) := by
  cases s <;> cases t <;> decide +kernel
theorem cmp_sg (s t : Sg) : cmpD .Eq (sgD s) (sgD t) = some (decide (s = t)) := eqD_sg' s t
theorem r_gains {Φ : Tab} (L : Lg) (s : Sg) (ok : SgOk L s) : runFn Φ d_gains [L.rule, sgD s] = some (.ok (gmD (gainF L s))) := by
  have e1 := cmp_sg s .d
  have e2 := cmp_sg s .h
  have hr : ∀ (ρ : Env), ρ[0]? = some (.sh L.rule) → evE Φ (.ix (.v 0) (.c (.int 0))) ρ = some (.int L.w) ∧ evE Φ (.ix (.v 0) (.c (.int 1))) ρ = some (drD L.dr) := fun ρ hρ => by
    have hv : evE Φ (.v 0) ρ = some L.rule := by unfold evE getB; rw [hρ]
    exact ⟨evE_ix hv rfl rfl, evE_ix hv rfl rfl⟩
  have h0 := hr [.sh L.rule, .sh (sgD s)] rfl
  refine runFn_of rfl ?_
  cases s with
  | d =>
    obtain ⟨x, hx⟩ := Option.isSome_iff_exists.mp (ok rfl)
    refine exL_rt ((exS_ifs (k := true) (evE_cmp (x := sgD .d) (y := sgD .d) rfl rfl e1)).trans ?_)
    rw [if_pos rfl]
    refine exL_rt (exS_ret ?_)
    rw [hx] at h0
    show evE Φ (.tup (.cons (.ix (.v 0) (.c (.int 1))) (.cons (.ix (.v 0) (.c (.int 1))) .nil))) [.sh L.rule, .sh (sgD .d)] = _
    have h1 := h0.2
    rw [evE, evL, evL, h1]
    unfold gainF
    rw [hx]
    rfl
  | h =>
    refine (exL_nx (ρ1 := [.sh L.rule, .sh (sgD .h)]) ((exS_ifs (k := false) (evE_cmp (x := sgD .h) (y := sgD .d) rfl rfl e1)).trans rfl)).trans ?_
    refine exL_rt (exS_ret ?_)
    have hc : evE Φ (.cmp .Eq (.v 1) (.g "HOME" (.inr "h"))) [.sh L.rule, .sh (sgD .h)] = some (.bool true) := evE_cmp (x := sgD .h) (y := sgD .h) rfl rfl e2
    rw [evE, hc]
    simp only [Option.bind_some, bool?, if_true]
    have h1 := h0.1
    rw [evE, evL, h1]
    rfl
  | a =>
    refine (exL_nx (ρ1 := [.sh L.rule, .sh (sgD .a)]) ((exS_ifs (k := false) (evE_cmp (x := sgD .a) (y := sgD .d) rfl rfl e1)).trans rfl)).trans ?_
    refine exL_rt (exS_ret ?_)
    have hc : evE Φ (.cmp .Eq (.v 1) (.g "HOME" (.inr "h"))) [.sh L.rule, .sh (sgD .a)] = some (.bool false) := evE_cmp (x := sgD .a) (y := sgD .h) rfl rfl e2
    rw [evE, hc]
    simp only [Option.bind_some, bool?, if_neg (show ¬ (false = true) by decide)]
    have h1 := h0.1
    rw [evE, evL, evL, h1]
    rfl
def GainOk (Φ : Tab) : Prop := ∀ (L : Lg) (s : Sg), SgOk L s → Says Φ "gains" [L.rule, sgD s] (gmD (gainF L s))
/-! ### vectors -/
abbrev vec (n : Nat) (f : Nat → Int) : List Int := (List.range n).map f
theorem vec_get {n : Nat} {f : Nat → Int} {i : Nat} (h : i < n) : (iL (vec n f))[i]? = some (.int (f i)) := by
  simp [h]
theorem vec_set {n : Nat} {f : Nat → Int} {i : Nat} {x : Int} : (iL (vec n f)).set i (.int x) = iL (vec n fun k => if k = i then x else f k) := by
  apply List.ext_getElem
  · simp
  · intro k h1 h2
    simp [List.getElem_set]
    by_cases h : i = k
    · subst h; simp
    · rw [if_neg h, if_neg (fun e => h e.symm)]
theorem vec_of (l : List Int) : l = vec l.length (fun k => l.getD k 0) := by
  apply List.ext_getElem
  · simp
  · intro k h1 h2
    simp [h1]
theorem vec_congr {n : Nat} {f g : Nat → Int} (h : ∀ k, k < n → f k = g k) : vec n f = vec n g := by
  apply List.map_congr_left
  intro k hk
  exact h k (List.mem_range.mp hk)
theorem ixN_of {n : Nat} {i : Int} (h0 : 0 ≤ i) (h1 : i < n) : ixN n i = some i.toNat := by
  unfold ixN
  rw [if_pos h0, if_pos h1]
theorem vec_at {n : Nat} {f : Nat → Int} {i : Int} (h0 : 0 ≤ i) (h1 : i < n) : atI (iL (vec n f)) i = some (.int (f i.toNat)) := atI_nat h0 (vec_get (by omega))
theorem exS_put {Φ : Tab} {i : Nat} {k e : E} {ρ : Env} {n : Nat} {f : Nat → Int} {j x : Int} (he : evE Φ e ρ = some (.int x)) (hk : evE Φ k ρ = some (.int j)) (hb : ρ[i]? = some (.ow (.list (iL (vec n f))))) (h0 : 0 ≤ j) (h1 : j < n) : exS Φ (.put i k e) ρ = some (.nx (ρ.set i (.ow (.list (iL (vec n fun k => if k = j.toNat then x else f k)))))) := by
  have e1 : ixN (iL (vec n f)).length j = some j.toNat := ixN_of h0 (by simpa using h1)
  unfold exS
  rw [he, Option.bind_some, hk, Option.bind_some, hb]
  simp only [int?, Option.bind_some, e1, vec_set]
theorem evE_oix {Φ : Tab} {i : Nat} {a : E} {ρ : Env} {n : Nat} {f : Nat → Int} {j : Int} (h : evE Φ a ρ = some (.int j)) (hb : ρ[i]? = some (.ow (.list (iL (vec n f))))) (h0 : 0 ≤ j) (h1 : j < n) : evE Φ (.oix i a) ρ = some (.int (f j.toNat)) := by
  unfold evE
  rw [h, Option.bind_some, hb]
  exact vec_at h0 h1
/-- what a game gives the team k -/
def con (g q : Int × Int) (k : Nat) : Int := (if (k : Int) = g.1 then q.1 else 0) + (if (k : Int) = g.2 then q.2 else 0)
theorem r_added {Φ : Tab} {n : Nat} {f : Nat → Int} {g q : Int × Int} (h1 : 0 ≤ g.1) (h2 : g.1 < n) (h3 : 0 ≤ g.2) (h4 : g.2 < n) (h5 : g.1 ≠ g.2) : runFn Φ d_added [.tuple (iL (vec n f)), gmD g, gmD q] = some (.ok (.tuple (iL (vec n fun k => f k + con g q k)))) := by
  refine runFn_of rfl ?_
  unfold d_added
  refine (exL_nx (exS_set (d := .list (iL (vec n f))) (b := .ow (.list (iL (vec n f)))) rfl rfl (by simp [OL.startB]))).trans ?_
  have ei : ∀ (ρ : Env) (p : Int × Int) (s : Nat), ρ[s]? = some (.sh (gmD p)) → evE Φ (.ix (.v s) (.c (.int 0))) ρ = some (.int p.1) ∧ evE Φ (.ix (.v s) (.c (.int 1))) ρ = some (.int p.2) := fun ρ p s hρ => by
    have hv : evE Φ (.v s) ρ = some (gmD p) := by unfold evE getB; rw [hρ]
    exact ⟨evE_ix hv rfl rfl, evE_ix hv rfl rfl⟩
  refine (exL_nx (exS_put (n := n) (f := f) (evE_add (evE_oix (ei _ g 1 rfl).1 rfl h1 h2) (ei _ q 2 rfl).1) (ei _ g 1 rfl).1 rfl h1 h2)).trans ?_
  refine (exL_nx (exS_put (n := n) (f := fun k => if k = g.1.toNat then f g.1.toNat + q.1 else f k) (evE_add (evE_oix (ei _ g 1 rfl).2 rfl h3 h4) (ei _ q 2 rfl).2) (ei _ g 1 rfl).2 rfl h3 h4)).trans ?_
  refine (exL_nx (s := .fr 3) rfl).trans ?_
  refine exL_rt (exS_ret ?_)
  refine (evE_bi (x := .list (iL (vec n fun k => if k = g.2.toNat then (if g.2.toNat = g.1.toNat then f g.1.toNat + q.1 else f g.2.toNat) + q.2 else if k = g.1.toNat then f g.1.toNat + q.1 else f k))) rfl rfl).trans ?_
  congr 2
  congr 1
  refine vec_congr fun k hk => ?_
  unfold con
  by_cases e1 : k = g.1.toNat
  · by_cases e2 : k = g.2.toNat
    · omega
    · rw [if_neg e2, if_pos e1, if_pos (by omega), if_neg (by omega), e1]; omega
  · by_cases e2 : k = g.2.toNat
    · rw [if_pos e2, if_neg (by omega), if_neg (by omega), if_pos (by omega), e2]; omega
    · rw [if_neg e2, if_neg e1, if_neg (by omega), if_neg (by omega)]; omega
def AddOk (Φ : Tab) : Prop := ∀ (n : Nat) (f : Nat → Int) (g q : Int × Int), 0 ≤ g.1 → g.1 < n → 0 ≤ g.2 → g.2 < n → g.1 ≠ g.2 → Says Φ "added" [.tuple (iL (vec n f)), gmD g, gmD q] (.tuple (iL (vec n fun k => f k + con g q k)))
theorem zipD_map {α β : Type} (f : α → PyData) (g : β → PyData) : ∀ (xs : List α) (ys : List β), zipD (xs.map f) (ys.map g) = (xs.zip ys).map fun p => .tuple [f p.1, g p.2]
  | [], _ => by simp [zipD]
  | _ :: _, [] => by simp [zipD]
  | x :: xs, y :: ys => by
    simp only [List.map_cons, List.zip_cons_cons]
    unfold zipD
    rw [zipD_map f g xs ys]
/-- the points after the first games -/
def finF (L : Lg) (l : List ((Int × Int) × Sg)) (k : Nat) : Int := L.pts.getD k 0 + (l.map fun p => con p.1 (gainF L p.2) k).sum
abbrev fin (L : Lg) (row : List Sg) : List Int := vec L.pts.length (finF L (L.gs.zip row))
theorem finF_step (L : Lg) (l : List ((Int × Int) × Sg)) (j : Nat) (p : (Int × Int) × Sg) (h : l[j]? = some p) (k : Nat) : finF L (l.take (j + 1)) k = finF L (l.take j) k + con p.1 (gainF L p.2) k := by
  unfold finF
  rw [List.take_add_one, h]
  simp
  omega
theorem r_finals {Φ : Tab} (hg : GainOk Φ) (ha : AddOk Φ) (L : Lg) (hL : L.Ok) (row : List Sg) (ok : RsOk L row) : runFn Φ d_finals [L.d, rsD row] = some (.ok (.tuple (iL (fin L row)))) := by
  refine runFn_of rfl ?_
  unfold d_finals
  refine (exL_nx (ρ1 := [.sh L.d, .sh (rsD row), .sh L.rule, .sh (.tuple (iL L.pts)), .sh (.tuple (L.gs.map gmD)), .un, .un]) rfl).trans ?_
  obtain ⟨ρ', hf, b5, b6, rfl⟩ := forGo_inv (t := .p (.n 5) (.n 6)) (body := exL Φ (.cons (.set 3 .s (.call "added" (.cons (.v 3) (.cons (.v 5) (.cons (.call "gains" (.cons (.v 2) (.cons (.v 6) .nil))) .nil))))) .nil)) (ds := (L.gs.zip row).map fun p => .tuple [gmD p.1, sgD p.2])
    (fun j ρ => ∃ b5 b6 : B, ρ = [.sh L.d, .sh (rsD row), .sh L.rule, .sh (.tuple (iL (vec L.pts.length (finF L ((L.gs.zip row).take j))))), .sh (.tuple (L.gs.map gmD)), b5, b6]) 0 [.sh L.d, .sh (rsD row), .sh L.rule, .sh (.tuple (iL L.pts)), .sh (.tuple (L.gs.map gmD)), .un, .un] (fun j ρ d hd hI => by
      obtain ⟨b5, b6, rfl⟩ := hI
      rw [Nat.zero_add]
      rw [List.getElem?_map] at hd
      cases hp : (L.gs.zip row)[j]? with
      | none => rw [hp] at hd; cases hd
      | some p =>
        rw [hp] at hd
        cases hd
        have hm := List.mem_of_getElem? hp
        obtain ⟨g1, g2, g3, g4, g5⟩ := hL.gg p.1 (List.of_mem_zip hm).1
        have hs := ok.ok p.2 (List.of_mem_zip hm).2
        have q1 := ha L.pts.length (finF L ((L.gs.zip row).take j)) p.1 (gainF L p.2) g1 g2 g3 g4 g5
        refine ⟨_, _, rfl, (exL_nx (exS_set (evE_call q1 ?_) rfl (by simp))).trans rfl, .sh (gmD p.1), .sh (sgD p.2), ?_⟩
        · have q2 : evE Φ (.call "gains" (.cons (.v 2) (.cons (.v 6) .nil))) [.sh L.d, .sh (rsD row), .sh L.rule, .sh (.tuple (iL (vec L.pts.length (finF L ((L.gs.zip row).take j))))), .sh (.tuple (L.gs.map gmD)), .sh (gmD p.1), .sh (sgD p.2)] = some (gmD (gainF L p.2)) := evE_call (hg L p.2 hs) rfl
          show evL Φ (.cons (.v 3) (.cons (.v 5) (.cons (.call "gains" (.cons (.v 2) (.cons (.v 6) .nil))) .nil))) [.sh L.d, .sh (rsD row), .sh L.rule, .sh (.tuple (iL (vec L.pts.length (finF L ((L.gs.zip row).take j))))), .sh (.tuple (L.gs.map gmD)), .sh (gmD p.1), .sh (sgD p.2)] = _
          simp only [evL, q2, Option.bind_some, Option.map_some]
          rfl
        · rw [vec_congr fun k _ => finF_step L _ j p hp k]
          rfl) ⟨.un, .un, by
            have e : vec L.pts.length (finF L ((L.gs.zip row).take 0)) = L.pts := by
              conv => rhs; rw [vec_of L.pts]
              exact vec_congr fun k _ => by simp [finF]
            rw [e]⟩
  have hz : evI Φ (.zip (.v 4) (.v 1)) [.sh L.d, .sh (rsD row), .sh L.rule, .sh (.tuple (iL L.pts)), .sh (.tuple (L.gs.map gmD)), .un, .un] = some ((L.gs.zip row).map fun p => .tuple [gmD p.1, sgD p.2]) := by
    rw [← zipD_map]; rfl
  refine (exL_nx ((exS_for hz).trans hf)).trans ?_
  refine exL_rt (exS_ret ?_)
  have ht : (L.gs.zip row).take (0 + ((L.gs.zip row).map fun p => PyData.tuple [gmD p.1, sgD p.2]).length) = L.gs.zip row := by rw [Nat.zero_add, List.length_map, List.take_length]
  rw [ht]
  rfl
def FinOk (Φ : Tab) : Prop := ∀ (L : Lg) (row : List Sg), L.Ok → RsOk L row → Says Φ "finals" [L.d, rsD row] (.tuple (iL (fin L row)))
end OL

end
section
set_option Elab.async false
set_option linter.all false
set_option maxRecDepth 100000
set_option maxHeartbeats 2000000
namespace OL
open PySem PySem.Spec PyProof.Rows L2 OLd
theorem lc_filt {α : Type} {Φ : Tab} {elt c : E} {t : T} {it : I} {ρ : Env} {e g : α → PyData} {p : α → Bool} {l : List α} {r : α → Env} (hi : evI Φ it ρ = some (l.map e)) (hb : ∀ a ∈ l, bindT t (e a) (wipeB ρ t.slots) = some (r a)) (hc : ∀ a ∈ l, evE Φ c (r a) = some (.bool (p a))) (h : ∀ a ∈ l, evE Φ elt (r a) = some (g a)) : evE Φ (.lc elt t it (.so c)) ρ = some (.list ((l.filter p).map g)) := by
  unfold evE
  rw [hi, Option.bind_some, lcGo_filt (g := g) (p := p) (fun a ha => ?_)]
  · rfl
  · rw [hb a ha, Option.bind_some]
    unfold evC
    rw [hc a ha, Option.bind_some]
    show (if p a = true then (evE Φ elt (r a)).map some else some none) = _
    rw [h a ha]
    cases p a <;> rfl
theorem exS_if1 {Φ : Tab} {c : E} {a b : Ss} {ρ : Env} {o : O} (h : evE Φ c ρ = some (.bool true)) (ha : exL Φ a ρ = some o) : exS Φ (.ifs c a b) ρ = some o := by
  rw [exS_ifs h, if_pos rfl, ha]
theorem exS_if0 {Φ : Tab} {c : E} {a b : Ss} {ρ : Env} {o : O} (h : evE Φ c ρ = some (.bool false)) (hb : exL Φ b ρ = some o) : exS Φ (.ifs c a b) ρ = some o := by
  rw [exS_ifs h, if_neg (by decide), hb]
theorem cmp_ne {a b : PyData} {k : Bool} (h : eqD a b = some k) : cmpD .NotEq a b = some (!k) := by
  rw [show cmpD .NotEq a b = (eqD a b).map (!·) from by cases a <;> cases b <;> rfl, h]; rfl
theorem cmp_eq {a b : PyData} {k : Bool} (h : eqD a b = some k) : cmpD .Eq a b = some k := by
  rw [show cmpD .Eq a b = eqD a b from by cases a <;> cases b <;> rfl, h]
theorem cmp_in {a b : PyData} {k : Bool} (h : inD a b = some k) : cmpD .In a b = some k := by
  rw [show cmpD .In a b = inD a b from by cases a <;> cases b <;> rfl, h]
def alw (L : Lg) : List Sg := match L.dr with
  | none => [.h, .a]
  | some _ => [.h, .a, .d]
theorem r_allowed {Φ : Tab} (L : Lg) : runFn Φ d_allowed [L.rule] = some (.ok (.list ((alw L).map sgD))) := by
  unfold Lg.rule alw
  cases L.dr <;> rfl
def AlwOk (Φ : Tab) : Prop := ∀ L : Lg, Says Φ "allowed" [L.rule] (.list ((alw L).map sgD))
theorem in_alw {L : Lg} {s : Sg} (ok : SgOk L s) : cmpD .In (sgD s) (.list ((alw L).map sgD)) = some true := by
  unfold alw
  cases hd : L.dr with
  | none =>
    cases s with
    | d => have := ok rfl; rw [hd] at this; cases this
    | h => decide +kernel
    | a => decide +kernel
  | some x =>
    show cmpD .In (sgD s) (.list ([Sg.h, Sg.a, Sg.d].map sgD)) = some true
    clear ok hd
    cases s <;> decide +kernel
theorem r_have_results {Φ : Tab} (ha : AlwOk Φ) (L : Lg) (row : List Sg) (ok : RsOk L row) : runFn Φ d_have_results [L.d, rsD row] = some (.ok (.bool true)) := by
  refine runFn_of rfl ?_
  unfold d_have_results
  have h1 : evE Φ (.bi "len" (.cons (.v 1) .nil)) [.sh L.d, .sh (rsD row), .un] = some (.int L.gs.length) := by
    refine (evE_len (xs := row.map sgD) rfl).trans ?_
    rw [List.length_map, ok.len]
  have h2 : evE Φ (.bi "len" (.cons (.ix (.v 0) (.c (.int 2))) .nil)) [.sh L.d, .sh (rsD row), .un] = some (.int L.gs.length) := by
    refine (evE_len (xs := L.gs.map gmD) (evE_ix (x := L.d) (y := .int 2) rfl rfl rfl)).trans ?_
    rw [List.length_map]
  refine (exL_nx (ρ1 := [.sh L.d, .sh (rsD row), .un]) ((exS_ifs (k := false) (evE_or (evOr_cons (b := false) (c := false) (evE_no (b := true) rfl) (fun _ => evOr_cons (b := false) (c := false) (evE_cmp h1 h2 ?_) (fun _ => rfl))))).trans rfl)).trans ?_
  · exact (cmp_ne (eqD_int _ _)).trans (by simp)
  refine exL_rt (exS_ret ?_)
  refine evE_bi (lc_map (l := row) (e := sgD) (g := fun _ => .bool true) (r := fun s => [.sh L.d, .sh (rsD row), .sh (sgD s)]) (evI_tuple rfl) (fun _ _ => rfl) (fun s hs => ?_)) all_true
  refine evE_and (evAnd_cons (b := true) (c := true) (by cases s <;> rfl) (fun _ => evAnd_cons (b := true) (c := true) (evE_cmp (x := sgD s) (y := .list ((alw L).map sgD)) rfl (evE_call (ha L) ?_) (in_alw (ok.ok s hs))) (fun _ => rfl)))
  have h3 : evE Φ (.ix (.v 0) (.c (.int 0))) [.sh L.d, .sh (rsD row), .sh (sgD s)] = some L.rule := evE_ix (x := L.d) (y := .int 0) rfl rfl rfl
  simp only [evL, h3, Option.bind_some, Option.map_some]
def HaveROk (Φ : Tab) : Prop := ∀ (L : Lg) (row : List Sg), RsOk L row → Says Φ "have_results" [L.d, rsD row] (.bool true)
theorem r_check_results {Φ : Tab} (hc : CheckOk Φ) (hh : HaveROk Φ) (L : Lg) (hL : L.Ok) (row : List Sg) (ok : RsOk L row) : runFn Φ d_check_results [L.d, rsD row] = some (.ok .none) := by
  refine runFn_nx (ρ := [.sh L.d, .sh (rsD row)]) rfl ?_
  refine (exL_nx (exS_callS (hc L hL) rfl)).trans ?_
  exact (exL_nx ((exS_ifs (k := false) (evE_no (b := true) (evE_call (hh L row ok) rfl))).trans rfl)).trans rfl
def CheckROk (Φ : Tab) : Prop := ∀ (L : Lg) (row : List Sg), L.Ok → RsOk L row → Says Φ "check_results" [L.d, rsD row] .none
theorem r_check_team {Φ : Tab} (hi : IntOk Φ) (L : Lg) (t : Int) (h0 : 0 ≤ t) (h1 : t < L.pts.length) : runFn Φ d_check_team [L.d, .int t] = some (.ok .none) := by
  refine runFn_nx (ρ := [.sh L.d, .sh (.int t)]) rfl ?_
  have h := hi (.int t) 0 ((L.pts.length : Int) - 1) rfl
  have e : isIntF (.int t) 0 ((L.pts.length : Int) - 1) = true := by simp [isIntF]; omega
  rw [e] at h
  have h2 : evE Φ (.bi "len" (.cons (.ix (.v 0) (.c (.int 1))) .nil)) [.sh L.d, .sh (.int t)] = some (.int L.pts.length) := by
    refine (evE_len (xs := iL L.pts) (evE_ix (x := L.d) (y := .int 1) rfl rfl rfl)).trans ?_
    rw [List.length_map]
  refine (exL_nx ((exS_ifs (k := false) (evE_no (b := true) (evE_call h ?_))).trans rfl)).trans rfl
  have h3 := evE_sub h2 (show evE Φ (.c (.int 1)) [.sh L.d, .sh (.int t)] = some (.int 1) from rfl)
  show evL Φ (.cons (.v 1) (.cons (.c (.int 0)) (.cons (.bin .Sub (.bi "len" (.cons (.ix (.v 0) (.c (.int 1))) .nil)) (.c (.int 1))) .nil))) [.sh L.d, .sh (.int t)] = _
  simp only [evL, h3, Option.bind_some, Option.map_some]
  rfl
def TeamOk (Φ : Tab) : Prop := ∀ (L : Lg) (t : Int), 0 ≤ t → t < L.pts.length → Says Φ "check_team" [L.d, .int t] .none
/-! ### direct points -/
theorem in_ints (x : Int) (l : List Int) : cmpD .In (.int x) (.list (iL l)) = some (decide (x ∈ l)) := by
  refine cmp_in ?_
  unfold inD
  simp only
  rw [if_pos ⟨rfl, shp_list l⟩]
  congr 1
  induction l with
  | nil => rfl
  | cons y l ih =>
    simp only [List.map_cons, List.any_cons, eqv_int]
    rw [ih]
    by_cases h : y = x
    · simp [h]
    · have h' : ¬ x = y := fun e => h e.symm
      simp [h, h']
def dirF (L : Lg) (grp : List Int) (l : List ((Int × Int) × Sg)) (k : Nat) : Int := (l.map fun p => if p.1.1 ∈ grp ∧ p.1.2 ∈ grp then con p.1 (gainF L p.2) k else 0).sum
theorem dirF_step (L : Lg) (grp : List Int) (l : List ((Int × Int) × Sg)) (j : Nat) (p : (Int × Int) × Sg) (h : l[j]? = some p) (k : Nat) : dirF L grp (l.take (j + 1)) k = dirF L grp (l.take j) k + (if p.1.1 ∈ grp ∧ p.1.2 ∈ grp then con p.1 (gainF L p.2) k else 0) := by
  unfold dirF
  rw [List.take_add_one, h]
  simp
theorem zeros (n : Nat) (h2 : 2 ≤ n) (h6 : n ≤ 6) : binD .Mult (.tuple [.int 0]) (.int n) = some (.tuple (iL (vec n fun _ => 0))) := by
  show (if _ then _ else _) = _
  rw [if_pos ⟨by simp, by omega, by omega, by simp⟩]
  congr 2
  have : ∀ m : Nat, (List.replicate m [PyData.int 0]).flatten = iL (vec m fun _ => 0) := by
    intro m
    apply List.ext_getElem
    · simp
    · intro i h1 h2
      simp
  rw [Int.toNat_natCast]
  exact this n
theorem r_direct_of {Φ : Tab} (hg : GainOk Φ) (ha : AddOk Φ) (L : Lg) (hL : L.Ok) (row : List Sg) (ok : RsOk L row) (grp : List Int) : runFn Φ d_direct_of [L.d, rsD row, .list (iL grp)] = some (.ok (.tuple (iL (vec L.pts.length (dirF L grp (L.gs.zip row)))))) := by
  refine runFn_of rfl ?_
  unfold d_direct_of
  refine (exL_nx (ρ1 := [.sh L.d, .sh (rsD row), .sh (.list (iL grp)), .sh L.rule, .sh (.tuple (iL L.pts)), .sh (.tuple (L.gs.map gmD)), .un, .un, .un]) rfl).trans ?_
  have hz0 : evE Φ (.bin .Mult (.tup (.cons (.c (.int 0)) .nil)) (.bi "len" (.cons (.v 4) .nil))) [.sh L.d, .sh (rsD row), .sh (.list (iL grp)), .sh L.rule, .sh (.tuple (iL L.pts)), .sh (.tuple (L.gs.map gmD)), .un, .un, .un] = some (.tuple (iL (vec L.pts.length fun _ => 0))) := by
    have h := evE_len (Φ := Φ) (e := .v 4) (ρ := [.sh L.d, .sh (rsD row), .sh (.list (iL grp)), .sh L.rule, .sh (.tuple (iL L.pts)), .sh (.tuple (L.gs.map gmD)), .un, .un, .un]) (xs := iL L.pts) rfl
    rw [List.length_map] at h
    rw [evE, h]
    exact zeros _ hL.p2 hL.p6
  refine (exL_nx (exS_set hz0 rfl (by simp))).trans ?_
  obtain ⟨ρ', hf, b7, b8, rfl⟩ := forGo_inv (t := .p (.n 7) (.n 8)) (body := exL Φ (.cons (.ifs (.and (.cons (.cmp .In (.ix (.v 7) (.c (.int 0))) (.v 2)) (.cons (.cmp .In (.ix (.v 7) (.c (.int 1))) (.v 2)) .nil))) (.cons (.set 6 .s (.call "added" (.cons (.v 6) (.cons (.v 7) (.cons (.call "gains" (.cons (.v 3) (.cons (.v 8) .nil))) .nil))))) .nil) .nil) .nil)) (ds := (L.gs.zip row).map fun p => .tuple [gmD p.1, sgD p.2])
    (fun j ρ => ∃ b7 b8 : B, ρ = [.sh L.d, .sh (rsD row), .sh (.list (iL grp)), .sh L.rule, .sh (.tuple (iL L.pts)), .sh (.tuple (L.gs.map gmD)), .sh (.tuple (iL (vec L.pts.length (dirF L grp ((L.gs.zip row).take j))))), b7, b8]) 0 [.sh L.d, .sh (rsD row), .sh (.list (iL grp)), .sh L.rule, .sh (.tuple (iL L.pts)), .sh (.tuple (L.gs.map gmD)), .sh (.tuple (iL (vec L.pts.length fun _ => 0))), .un, .un] (fun j ρ d hd hI => by
      obtain ⟨b7, b8, rfl⟩ := hI
      rw [Nat.zero_add]
      rw [List.getElem?_map] at hd
      cases hp : (L.gs.zip row)[j]? with
      | none => rw [hp] at hd; cases hd
      | some p =>
        rw [hp] at hd
        cases hd
        have hm := List.mem_of_getElem? hp
        obtain ⟨g1, g2, g3, g4, g5⟩ := hL.gg p.1 (List.of_mem_zip hm).1
        have hs := ok.ok p.2 (List.of_mem_zip hm).2
        have q1 := ha L.pts.length (dirF L grp ((L.gs.zip row).take j)) p.1 (gainF L p.2) g1 g2 g3 g4 g5
        have q2 : evE Φ (.call "gains" (.cons (.v 3) (.cons (.v 8) .nil))) [.sh L.d, .sh (rsD row), .sh (.list (iL grp)), .sh L.rule, .sh (.tuple (iL L.pts)), .sh (.tuple (L.gs.map gmD)), .sh (.tuple (iL (vec L.pts.length (dirF L grp ((L.gs.zip row).take j))))), .sh (gmD p.1), .sh (sgD p.2)] = some (gmD (gainF L p.2)) := evE_call (hg L p.2 hs) rfl
        have q3 : evE Φ (.and (.cons (.cmp .In (.ix (.v 7) (.c (.int 0))) (.v 2)) (.cons (.cmp .In (.ix (.v 7) (.c (.int 1))) (.v 2)) .nil))) [.sh L.d, .sh (rsD row), .sh (.list (iL grp)), .sh L.rule, .sh (.tuple (iL L.pts)), .sh (.tuple (L.gs.map gmD)), .sh (.tuple (iL (vec L.pts.length (dirF L grp ((L.gs.zip row).take j))))), .sh (gmD p.1), .sh (sgD p.2)] = some (.bool (decide (p.1.1 ∈ grp) && (decide (p.1.2 ∈ grp) && true))) :=
          evE_and (evAnd_cons (evE_cmp (x := .int p.1.1) (y := .list (iL grp)) (evE_ix (x := gmD p.1) (y := .int 0) rfl rfl rfl) rfl (in_ints _ _)) (fun _ => evAnd_cons (evE_cmp (x := .int p.1.2) (y := .list (iL grp)) (evE_ix (x := gmD p.1) (y := .int 1) rfl rfl rfl) rfl (in_ints _ _)) (fun _ => rfl)))
        have hst := dirF_step L grp _ j p hp
        by_cases hc : p.1.1 ∈ grp ∧ p.1.2 ∈ grp
        · rw [decide_eq_true hc.1, decide_eq_true hc.2] at q3
          refine ⟨_, _, rfl, (exL_nx (exS_if1 q3 ((exL_nx (exS_set (evE_call q1 ?_) rfl (by simp))).trans rfl))).trans rfl, .sh (gmD p.1), .sh (sgD p.2), ?_⟩
          · show evL Φ (.cons (.v 6) (.cons (.v 7) (.cons (.call "gains" (.cons (.v 3) (.cons (.v 8) .nil))) .nil))) [.sh L.d, .sh (rsD row), .sh (.list (iL grp)), .sh L.rule, .sh (.tuple (iL L.pts)), .sh (.tuple (L.gs.map gmD)), .sh (.tuple (iL (vec L.pts.length (dirF L grp ((L.gs.zip row).take j))))), .sh (gmD p.1), .sh (sgD p.2)] = _
            simp only [evL, q2, Option.bind_some, Option.map_some]
            rfl
          · rw [vec_congr fun k _ => (hst k).trans (by rw [if_pos hc])]
            rfl
        · have e : (decide (p.1.1 ∈ grp) && (decide (p.1.2 ∈ grp) && true)) = false := by simpa using hc
          rw [e] at q3
          refine ⟨_, _, rfl, (exL_nx (exS_if0 q3 rfl)).trans rfl, .sh (gmD p.1), .sh (sgD p.2), ?_⟩
          rw [vec_congr fun k _ => (hst k).trans (by rw [if_neg hc, Int.add_zero])]) ⟨.un, .un, rfl⟩
  have hz : evI Φ (.zip (.v 5) (.v 1)) [.sh L.d, .sh (rsD row), .sh (.list (iL grp)), .sh L.rule, .sh (.tuple (iL L.pts)), .sh (.tuple (L.gs.map gmD)), .sh (.tuple (iL (vec L.pts.length fun _ => 0))), .un, .un] = some ((L.gs.zip row).map fun p => .tuple [gmD p.1, sgD p.2]) := by
    rw [← zipD_map]; rfl
  refine (exL_nx ((exS_for hz).trans hf)).trans ?_
  refine exL_rt (exS_ret ?_)
  have ht : (L.gs.zip row).take (0 + ((L.gs.zip row).map fun p => PyData.tuple [gmD p.1, sgD p.2]).length) = L.gs.zip row := by rw [Nat.zero_add, List.length_map, List.take_length]
  rw [ht]
  rfl
def DirOk (Φ : Tab) : Prop := ∀ (L : Lg) (row : List Sg) (grp : List Int), L.Ok → RsOk L row → Says Φ "direct_of" [L.d, rsD row, .list (iL grp)] (.tuple (iL (vec L.pts.length (dirF L grp (L.gs.zip row)))))
def tied (n : Nat) (f : Nat → Int) (t : Nat) : List Int := ((List.range n).filter fun o => decide (f o = f t)).map fun i : Nat => (i : Int)
theorem r_tied_with {Φ : Tab} (n : Nat) (f : Nat → Int) (t : Nat) (hn : n ≤ 16777216) (ht : t < n) : runFn Φ d_tied_with [.tuple (iL (vec n f)), .int t] = some (.ok (.list (iL (tied n f t)))) := by
  refine runFn_of rfl ?_
  unfold d_tied_with
  refine exL_rt (exS_ret ?_)
  unfold tied
  have e : iL (((List.range n).filter fun o => decide (f o = f t)).map fun i : Nat => (i : Int)) = ((List.range n).filter fun o => decide (f o = f t)).map fun i : Nat => PyData.int i := by simp
  rw [e]
  refine lc_filt (l := List.range n) (e := fun i : Nat => .int i) (r := fun i => [.sh (.tuple (iL (vec n f))), .sh (.int t), .sh (.int (i : Nat))]) ?_ (fun _ _ => rfl) (fun o ho => ?_) (fun _ _ => rfl)
  · have h := evE_len (Φ := Φ) (e := .v 0) (ρ := [.sh (.tuple (iL (vec n f))), .sh (.int t), .un]) (xs := iL (vec n f)) rfl
    rw [List.length_map, List.length_map, List.length_range] at h
    refine (evI_r1 h (by omega) (by omega)).trans ?_
    unfold rgD
    simp
  · have ho' := List.mem_range.mp ho
    refine evE_cmp (x := .int (f o)) (y := .int (f t)) (evE_ix (x := .tuple (iL (vec n f))) (y := .int (o : Nat)) rfl rfl ?_) (evE_ix (x := .tuple (iL (vec n f))) (y := .int (t : Nat)) rfl rfl ?_) (eqD_int _ _)
    · exact (vec_at (by omega) (by omega)).trans (by simp)
    · exact (vec_at (by omega) (by omega)).trans (by simp)
def TiedOk (Φ : Tab) : Prop := ∀ (n : Nat) (f : Nat → Int) (t : Nat), n ≤ 16777216 → t < n → Says Φ "tied_with" [.tuple (iL (vec n f)), .int t] (.list (iL (tied n f t)))
/-- the points in the games among the teams with the same points -/
def dF (L : Lg) (row : List Sg) (t : Nat) : Int := dirF L (tied L.pts.length (finF L (L.gs.zip row)) t) (L.gs.zip row) t
theorem r_direct_points {Φ : Tab} (hc : CheckROk Φ) (ht : TeamOk Φ) (hf : FinOk Φ) (hd : DirOk Φ) (hti : TiedOk Φ) (L : Lg) (hL : L.Ok) (row : List Sg) (ok : RsOk L row) (t : Nat) (h : t < L.pts.length) : runFn Φ d_direct_points [L.d, rsD row, .int t] = some (.ok (.int (dF L row t))) := by
  have h6 := hL.p6
  refine runFn_of rfl ?_
  unfold d_direct_points
  refine (exL_nx (exS_callS (hc L row hL ok) rfl)).trans ?_
  refine (exL_nx (exS_callS (ht L t (by omega) (by omega)) rfl)).trans ?_
  refine exL_rt (exS_ret ?_)
  have q1 : evE Φ (.call "finals" (.cons (.v 0) (.cons (.v 1) .nil))) [.sh L.d, .sh (rsD row), .sh (.int t)] = some (.tuple (iL (fin L row))) := evE_call (hf L row hL ok) rfl
  have q2 : evE Φ (.call "tied_with" (.cons (.call "finals" (.cons (.v 0) (.cons (.v 1) .nil))) (.cons (.v 2) .nil))) [.sh L.d, .sh (rsD row), .sh (.int t)] = some (.list (iL (tied L.pts.length (finF L (L.gs.zip row)) t))) := by
    refine evE_call (hti L.pts.length (finF L (L.gs.zip row)) t (by omega) h) ?_
    simp only [evL, q1, Option.bind_some, Option.map_some]
    rfl
  refine evE_ix (x := .tuple (iL (vec L.pts.length (dirF L (tied L.pts.length (finF L (L.gs.zip row)) t) (L.gs.zip row))))) (y := .int t) (evE_call (hd L row (tied L.pts.length (finF L (L.gs.zip row)) t) hL ok) ?_) rfl ?_
  · show evL Φ (.cons (.v 0) (.cons (.v 1) (.cons (.call "tied_with" (.cons (.call "finals" (.cons (.v 0) (.cons (.v 1) .nil))) (.cons (.v 2) .nil))) .nil))) [.sh L.d, .sh (rsD row), .sh (.int t)] = _
    simp only [evL, q2, Option.bind_some, Option.map_some]
    rfl
  · exact (vec_at (by omega) (by omega)).trans (by simp [dF])
end OL

end
section
set_option Elab.async false
set_option linter.all false
set_option maxRecDepth 100000
set_option maxHeartbeats 2000000
namespace OL
open PySem PySem.Spec PyProof.Rows L2 OLd
/-! ### rows of whole numbers in order -/
abbrev leR (a b : List Int) : Bool := !decide (b < a)
theorem dataLe_rowD (a b : List Int) : PySem.W.dataLe false (fun d => d) (rowD a) (rowD b) = leR a b := by
  show (!PySem.W.dataLt (rowD b) (rowD a)) = _
  rw [PySem.W.dataLt_tuple]
  exact congrArg (! ·) (PySem.W.dataLt_ints b a)
theorem sortD_rows (rs : List (List Int)) : sortD (rs.map rowD) = (rs.mergeSort leR).map rowD := by
  unfold sortD
  exact (List.map_mergeSort fun a _ b _ => (dataLe_rowD a b).symm).symm
theorem alike_rowD : ∀ a b : List Int, PySem.W.alikeAll (iL a) (iL b) = true
  | [], b => by cases b <;> rfl
  | _ :: _, [] => rfl
  | x :: a, y :: b => by
    show PySem.W.alikeAll (.int x :: iL a) (.int y :: iL b) = true
    rw [PySem.W.alikeAll, alike_rowD a b]
    rfl
theorem sortOk_rows (rs : List (List Int)) (h : ∀ r ∈ rs, r ≠ []) : sortOk (rs.map rowD) = true := by
  unfold sortOk
  simp only [Bool.and_eq_true, Bool.or_eq_true, List.all_eq_true, List.mem_map, decide_eq_true_eq]
  refine ⟨⟨fun d hd e he => ?_, fun d hd => ?_⟩, .inl fun d hd => ?_⟩
  · obtain ⟨a, _, rfl⟩ := hd
    obtain ⟨b, _, rfl⟩ := he
    rw [PySem.W.alike]
    exact alike_rowD a b
  · obtain ⟨a, _, rfl⟩ := hd
    have := depthAll_ints a
    simp only [PyData.depth, this]
    decide
  · obtain ⟨a, ha, rfl⟩ := hd
    cases a with
    | nil => exact absurd rfl (h _ ha)
    | cons _ _ => rfl
theorem exS_app {Φ : Tab} {i : Nat} {e : E} {ρ : Env} {d : PyData} {xs : List PyData} (h : evE Φ e ρ = some d) (hb : ρ[i]? = some (.ow (.list xs))) (hl : xs.length < 16777216) : exS Φ (.app i e) ρ = some (.nx (ρ.set i (.ow (.list (xs ++ [d]))))) := by
  unfold exS
  rw [h, Option.bind_some, hb]
  simp only
  rw [if_pos hl]
/-! ### the ranking -/
def kt (L : Lg) (row : List Sg) (t : Nat) : List Int := [0 - finF L (L.gs.zip row) t, 0 - dF L row t, (t : Int)]
def rankF (L : Lg) (row : List Sg) : List Nat := (List.range L.pts.length).mergeSort fun s t => leR (kt L row s) (kt L row t)
theorem r_find_ranking {Φ : Tab} (hf : FinOk Φ) (hd : DirOk Φ) (hti : TiedOk Φ) (L : Lg) (hL : L.Ok) (row : List Sg) (ok : RsOk L row) : runFn Φ d_find_ranking [L.d, rsD row] = some (.ok (.list ((rankF L row).map fun t => .int (t : Nat)))) := by
  have h6 := hL.p6
  refine runFn_of rfl ?_
  unfold d_find_ranking
  refine (exL_nx (exS_set (evE_call (hf L row hL ok) rfl) rfl (by simp [OL.startB]))).trans ?_
  refine (exL_nx (exS_set (d := .list []) (b := .ow (.list [])) rfl rfl (by simp [OL.startB]))).trans ?_
  obtain ⟨ρ', hfo, b4, b5, rfl⟩ := forGo_range (t := .n 4) (body := exL Φ (.cons (.set 5 .s (.ix (.call "direct_of" (.cons (.v 0) (.cons (.v 1) (.cons (.call "tied_with" (.cons (.v 2) (.cons (.v 4) .nil))) .nil)))) (.v 4))) (.cons (.app 3 (.tup (.cons (.bin .Sub (.c (.int 0)) (.ix (.v 2) (.v 4))) (.cons (.bin .Sub (.c (.int 0)) (.v 5)) (.cons (.v 4) .nil))))) .nil))) (n := (L.pts.length : Int))
    (fun j ρ => ∃ b4 b5 : B, ρ = [.sh L.d, .sh (rsD row), .sh (.tuple (iL (fin L row))), .ow (.list (((List.range j).map (kt L row)).map rowD)), b4, b5, .un]) [.sh L.d, .sh (rsD row), .sh (.tuple (iL (fin L row))), .ow (.list []), .un, .un, .un] (fun j ρ hj hI => by
      obtain ⟨b4, b5, rfl⟩ := hI
      have q2 : evE Φ (.call "tied_with" (.cons (.v 2) (.cons (.v 4) .nil))) [.sh L.d, .sh (rsD row), .sh (.tuple (iL (fin L row))), .ow (.list (((List.range j).map (kt L row)).map rowD)), .sh (.int j), b5, .un] = some (.list (iL (tied L.pts.length (finF L (L.gs.zip row)) j))) := evE_call (hti L.pts.length (finF L (L.gs.zip row)) j (by omega) (by omega)) rfl
      have q3 : evE Φ (.ix (.call "direct_of" (.cons (.v 0) (.cons (.v 1) (.cons (.call "tied_with" (.cons (.v 2) (.cons (.v 4) .nil))) .nil)))) (.v 4)) [.sh L.d, .sh (rsD row), .sh (.tuple (iL (fin L row))), .ow (.list (((List.range j).map (kt L row)).map rowD)), .sh (.int j), b5, .un] = some (.int (dF L row j)) := by
        refine evE_ix (x := .tuple (iL (vec L.pts.length (dirF L (tied L.pts.length (finF L (L.gs.zip row)) j) (L.gs.zip row))))) (y := .int j) (evE_call (hd L row (tied L.pts.length (finF L (L.gs.zip row)) j) hL ok) ?_) rfl ?_
        · simp only [evL, q2, Option.bind_some, Option.map_some]
          rfl
        · exact (vec_at (by omega) (by omega)).trans (by simp [dF])
      have q4 : evE Φ (.ix (.v 2) (.v 4)) [.sh L.d, .sh (rsD row), .sh (.tuple (iL (fin L row))), .ow (.list (((List.range j).map (kt L row)).map rowD)), .sh (.int j), .sh (.int (dF L row j)), .un] = some (.int (finF L (L.gs.zip row) j)) := by
        refine evE_ix (x := .tuple (iL (fin L row))) (y := .int j) rfl rfl ?_
        exact (vec_at (by omega) (by omega)).trans (by simp)
      have q5 : evE Φ (.tup (.cons (.bin .Sub (.c (.int 0)) (.ix (.v 2) (.v 4))) (.cons (.bin .Sub (.c (.int 0)) (.v 5)) (.cons (.v 4) .nil)))) [.sh L.d, .sh (rsD row), .sh (.tuple (iL (fin L row))), .ow (.list (((List.range j).map (kt L row)).map rowD)), .sh (.int j), .sh (.int (dF L row j)), .un] = some (rowD (kt L row j)) := by
        have q6 := evE_sub (a := .c (.int 0)) (i := 0) rfl q4
        have q7 := evE_sub (Φ := Φ) (a := .c (.int 0)) (b := .v 5) (i := 0) (j := dF L row j) (ρ := [.sh L.d, .sh (rsD row), .sh (.tuple (iL (fin L row))), .ow (.list (((List.range j).map (kt L row)).map rowD)), .sh (.int j), .sh (.int (dF L row j)), .un]) rfl rfl
        rw [evE, evL, q6, evL, q7]
        rfl
      refine ⟨_, _, rfl, (exL_nx (exS_set q3 rfl (by simp))).trans ((exL_nx (exS_app q5 rfl (by simp; omega))).trans rfl), .sh (.int j), .sh (.int (dF L row j)), ?_⟩
      rw [List.range_succ]
      simp) ⟨.un, .un, rfl⟩
  have hlen : evE Φ (.bi "len" (.cons (.v 2) .nil)) [.sh L.d, .sh (rsD row), .sh (.tuple (iL (fin L row))), .ow (.list []), .un, .un, .un] = some (.int L.pts.length) := by
    refine (evE_len (xs := iL (fin L row)) rfl).trans ?_
    simp
  refine (exL_nx ((exS_for (evI_r1 hlen (by omega) (by omega))).trans hfo)).trans ?_
  refine (exL_nx (s := .fr 3) rfl).trans ?_
  refine exL_rt (exS_ret ?_)
  have hn : ((L.pts.length : Int)).toNat = L.pts.length := by simp
  rw [hn]
  have hs : evE Φ (.bi "sorted" (.cons (.v 3) .nil)) [.sh L.d, .sh (rsD row), .sh (.tuple (iL (fin L row))), .sh (.list (((List.range L.pts.length).map (kt L row)).map rowD)), b4, b5, .un] = some (.list ((rankF L row).map fun t => rowD (kt L row t))) := by
    refine evE_bi (x := .list (((List.range L.pts.length).map (kt L row)).map rowD)) rfl ?_
    rw [sorted_list (sortOk_rows _ fun r hr => ?_), sortD_rows]
    · unfold rankF
      rw [← List.map_mergeSort (r := fun s t => leR (kt L row s) (kt L row t)) (s := leR) (f := kt L row) (l := List.range L.pts.length) (fun _ _ _ _ => rfl)]
      simp
    · obtain ⟨t, _, rfl⟩ := List.mem_map.mp hr
      simp [kt]
  exact lc_map (l := rankF L row) (e := fun t => rowD (kt L row t)) (r := fun t => [.sh L.d, .sh (rsD row), .sh (.tuple (iL (fin L row))), .sh (.list (((List.range L.pts.length).map (kt L row)).map rowD)), b4, b5, .sh (rowD (kt L row t))]) (evI_list hs) (fun _ _ => rfl) (fun t _ => evE_ix (x := rowD (kt L row t)) (y := .int 2) rfl rfl rfl)
def RankOk (Φ : Tab) : Prop := ∀ (L : Lg) (row : List Sg), L.Ok → RsOk L row → Says Φ "find_ranking" [L.d, rsD row] (.list ((rankF L row).map fun t => .int (t : Nat)))
theorem r_ranking {Φ : Tab} (hc : CheckROk Φ) (hr : RankOk Φ) (L : Lg) (hL : L.Ok) (row : List Sg) (ok : RsOk L row) : runFn Φ d_ranking [L.d, rsD row] = some (.ok (.list ((rankF L row).map fun t => .int (t : Nat)))) := by
  refine runFn_of rfl ?_
  refine (exL_nx (exS_callS (hc L row hL ok) rfl)).trans ?_
  exact exL_rt (exS_ret (evE_call (hr L row hL ok) rfl))
theorem rank_perm (L : Lg) (row : List Sg) : (rankF L row).Perm (List.range L.pts.length) := List.mergeSort_perm _ _
theorem rank_len (L : Lg) (row : List Sg) : (rankF L row).length = L.pts.length := by rw [(rank_perm L row).length_eq, List.length_range]
theorem r_champion {Φ : Tab} (hc : CheckROk Φ) (hr : RankOk Φ) (L : Lg) (hL : L.Ok) (row : List Sg) (ok : RsOk L row) {c : Nat} (h : (rankF L row)[0]? = some c) : runFn Φ d_champion [L.d, rsD row] = some (.ok (.int c)) := by
  refine runFn_of rfl ?_
  refine (exL_nx (exS_callS (hc L row hL ok) rfl)).trans ?_
  refine exL_rt (exS_ret (evE_ix (y := .int 0) (evE_call (hr L row hL ok) rfl) rfl ?_))
  refine atI_nat (by decide) ?_
  rw [List.getElem?_map]
  rw [show ((0 : Int).toNat) = 0 from rfl, h]; rfl
theorem rank_sorted (L : Lg) (row : List Sg) : (rankF L row).Pairwise fun s t => ¬ kt L row t < kt L row s := by
  have := List.pairwise_mergeSort (le := fun s t => leR (kt L row s) (kt L row t)) (fun a b c h1 h2 => ?_) (fun a b => ?_) (List.range L.pts.length)
  · unfold rankF
    refine this.imp fun h => ?_
    simpa using h
  · simp only [Bool.not_eq_true', decide_eq_false_iff_not] at h1 h2 ⊢
    exact List.le_trans h1 h2
  · simp only [Bool.or_eq_true, Bool.not_eq_true', decide_eq_false_iff_not]
    exact List.le_total _ _
end OL

end
section
set_option Elab.async false
set_option linter.all false
set_option maxRecDepth 100000
set_option maxHeartbeats 2000000
namespace OL
open PySem PySem.Spec PyProof.Rows L2 OLd
theorem in_tup (x : Int) (l : List Int) : cmpD .In (.int x) (.tuple (iL l)) = some (decide (x ∈ l)) := by
  have h := in_ints x l
  refine cmp_in ?_
  unfold inD
  simp only
  rw [if_pos ⟨rfl, shp_tuple l⟩]
  rw [show cmpD .In (.int x) (.list (iL l)) = inD (.int x) (.list (iL l)) from rfl] at h
  unfold inD at h
  simp only at h
  rw [if_pos ⟨rfl, shp_list l⟩] at h
  exact h
theorem ix_rule {Φ : Tab} {L : Lg} {s : Nat} {ρ : Env} (h : ρ[s]? = some (.sh L.rule)) : evE Φ (.ix (.v s) (.c (.int 0))) ρ = some (.int L.w) ∧ ∀ x, L.dr = some x → evE Φ (.ix (.v s) (.c (.int 1))) ρ = some (.int x) := by
  have hv : evE Φ (.v s) ρ = some L.rule := by unfold evE getB; rw [h]
  refine ⟨evE_ix hv rfl rfl, fun x hx => ?_⟩
  refine evE_ix (z := drD L.dr) hv (y := .int 1) rfl rfl |>.trans ?_
  rw [hx]; rfl
end OL

end
section
set_option Elab.async false
set_option linter.all false
set_option maxRecDepth 100000
set_option maxHeartbeats 2000000
namespace OL
open PySem PySem.Spec PyProof.Rows L2 OLd
theorem r_law_final {Φ : Tab} (L : Lg) (hL : L.Ok) (row : List Sg) (ok : RsOk L row) : runFn Φ d__law_final [L.d, rsD row] = some (.ok (.tuple (iL (fin L row)))) := by
  refine runFn_of rfl ?_
  unfold d__law_final
  refine (exL_nx (ρ1 := [.sh L.d, .sh (rsD row), .sh L.rule, .sh (.tuple (iL L.pts)), .sh (.tuple (L.gs.map gmD)), .un, .un, .un, .un]) rfl).trans ?_
  refine (exL_nx (exS_set (d := .list (iL L.pts)) (b := .ow (.list (iL L.pts))) rfl rfl (by simp))).trans ?_
  obtain ⟨ρ', hf, b6, b7, b8, rfl⟩ := forGo_inv (t := .p (.p (.n 6) (.n 7)) (.n 8)) (body := exL Φ (.cons (.ifs (.cmp .Eq (.v 8) (.c (.str "h"))) (.cons (.put 5 (.v 6) (.bin .Add (.oix 5 (.v 6)) (.ix (.v 2) (.c (.int 0))))) .nil) (.cons (.ifs (.cmp .Eq (.v 8) (.c (.str "a"))) (.cons (.put 5 (.v 7) (.bin .Add (.oix 5 (.v 7)) (.ix (.v 2) (.c (.int 0))))) .nil) (.cons (.ifs (.cmp .Eq (.v 8) (.c (.str "d"))) (.cons (.put 5 (.v 6) (.bin .Add (.oix 5 (.v 6)) (.ix (.v 2) (.c (.int 1))))) (.cons (.put 5 (.v 7) (.bin .Add (.oix 5 (.v 7)) (.ix (.v 2) (.c (.int 1))))) .nil)) .nil) .nil)) .nil)) .nil)) (ds := (L.gs.zip row).map fun p => .tuple [gmD p.1, sgD p.2])
    (fun j ρ => ∃ b6 b7 b8 : B, ρ = [.sh L.d, .sh (rsD row), .sh L.rule, .sh (.tuple (iL L.pts)), .sh (.tuple (L.gs.map gmD)), .ow (.list (iL (vec L.pts.length (finF L ((L.gs.zip row).take j))))), b6, b7, b8]) 0 [.sh L.d, .sh (rsD row), .sh L.rule, .sh (.tuple (iL L.pts)), .sh (.tuple (L.gs.map gmD)), .ow (.list (iL L.pts)), .un, .un, .un] (fun j ρ d hd hI => by
      obtain ⟨b6, b7, b8, rfl⟩ := hI
      rw [Nat.zero_add]
      rw [List.getElem?_map] at hd
      cases hp : (L.gs.zip row)[j]? with
      | none => rw [hp] at hd; cases hd
      | some p =>
        rw [hp] at hd
        cases hd
        have hm := List.mem_of_getElem? hp
        obtain ⟨g1, g2, g3, g4, g5⟩ := hL.gg p.1 (List.of_mem_zip hm).1
        have hs := ok.ok p.2 (List.of_mem_zip hm).2
        have hst := finF_step L _ j p hp
        obtain ⟨g, s⟩ := p
        dsimp only at g1 g2 g3 g4 g5 hst
        cases s with
        | h =>
          refine ⟨_, _, rfl, (exL_nx (exS_if1 (evE_cmp (x := sgD .h) (y := sgD .h) rfl rfl (cmp_sg _ _)) ((exL_nx (exS_put (n := L.pts.length) (f := finF L ((L.gs.zip row).take j)) (evE_add (evE_oix (j := g.1) rfl rfl g1 g2) (ix_rule rfl).1) (j := g.1) rfl rfl g1 g2)).trans rfl))).trans rfl, .sh (.int g.1), .sh (.int g.2), .sh (sgD .h), ?_⟩
          rw [vec_congr fun k _ => hst k]
          simp only [List.set_cons_succ, List.set_cons_zero]
          congr 6
          refine congrArg _ (congrArg _ (congrArg iL (vec_congr fun k hk => ?_)))
          show _ = _ + con g (L.w, 0) k
          unfold con
          by_cases e : k = g.1.toNat
          · rw [if_pos e, if_pos (by omega), if_neg (by omega), e]; omega
          · rw [if_neg e, if_neg (by omega)]; simp
        | a =>
          refine ⟨_, _, rfl, (exL_nx (exS_if0 (evE_cmp (x := sgD .a) (y := sgD .h) rfl rfl (cmp_sg _ _)) ((exL_nx (exS_if1 (evE_cmp (x := sgD .a) (y := sgD .a) rfl rfl (cmp_sg _ _)) ((exL_nx (exS_put (n := L.pts.length) (f := finF L ((L.gs.zip row).take j)) (evE_add (evE_oix (j := g.2) rfl rfl g3 g4) (ix_rule rfl).1) (j := g.2) rfl rfl g3 g4)).trans rfl))).trans rfl))).trans rfl, .sh (.int g.1), .sh (.int g.2), .sh (sgD .a), ?_⟩
          rw [vec_congr fun k _ => hst k]
          simp only [List.set_cons_succ, List.set_cons_zero]
          congr 6
          refine congrArg _ (congrArg _ (congrArg iL (vec_congr fun k hk => ?_)))
          show _ = _ + con g (0, L.w) k
          unfold con
          by_cases e : k = g.2.toNat
          · rw [if_pos e, if_neg (by omega), if_pos (by omega), e]; omega
          · rw [if_neg e, if_neg (c := (k : Int) = g.2) (by omega)]; simp
        | d =>
          obtain ⟨x, hx⟩ := Option.isSome_iff_exists.mp (hs rfl)
          refine ⟨_, _, rfl, (exL_nx (exS_if0 (evE_cmp (x := sgD .d) (y := sgD .h) rfl rfl (cmp_sg _ _)) ((exL_nx (exS_if0 (evE_cmp (x := sgD .d) (y := sgD .a) rfl rfl (cmp_sg _ _)) ((exL_nx (exS_if1 (evE_cmp (x := sgD .d) (y := sgD .d) rfl rfl (cmp_sg _ _)) ((exL_nx (exS_put (n := L.pts.length) (f := finF L ((L.gs.zip row).take j)) (evE_add (evE_oix (j := g.1) rfl rfl g1 g2) ((ix_rule rfl).2 x hx)) (j := g.1) rfl rfl g1 g2)).trans
            ((exL_nx (exS_put (n := L.pts.length) (f := fun k => if k = g.1.toNat then finF L ((L.gs.zip row).take j) g.1.toNat + x else finF L ((L.gs.zip row).take j) k) (evE_add (evE_oix (j := g.2) rfl rfl g3 g4) ((ix_rule rfl).2 x hx)) (j := g.2) rfl rfl g3 g4)).trans rfl)))).trans rfl))).trans rfl))).trans rfl, .sh (.int g.1), .sh (.int g.2), .sh (sgD .d), ?_⟩
          rw [vec_congr fun k _ => hst k]
          simp only [List.set_cons_succ, List.set_cons_zero]
          congr 6
          refine congrArg _ (congrArg _ (congrArg iL (vec_congr fun k hk => ?_)))
          show _ = _ + con g (L.dr.getD 0, L.dr.getD 0) k
          rw [hx]
          unfold con
          simp only [Option.getD_some]
          by_cases e1 : k = g.1.toNat
          · by_cases e2 : k = g.2.toNat
            · omega
            · rw [if_neg e2, if_pos e1, if_pos (by omega), if_neg (by omega), e1]; omega
          · by_cases e2 : k = g.2.toNat
            · rw [if_pos e2, if_neg (by omega), if_neg (by omega), if_pos (by omega), e2]; omega
            · rw [if_neg e2, if_neg e1, if_neg (by omega), if_neg (by omega)]; omega) ⟨.un, .un, .un, by
            have e : vec L.pts.length (finF L ((L.gs.zip row).take 0)) = L.pts := by
              conv => rhs; rw [vec_of L.pts]
              exact vec_congr fun k _ => by simp [finF]
            rw [e]⟩
  have hz : evI Φ (.zip (.v 4) (.v 1)) [.sh L.d, .sh (rsD row), .sh L.rule, .sh (.tuple (iL L.pts)), .sh (.tuple (L.gs.map gmD)), .ow (.list (iL L.pts)), .un, .un, .un] = some ((L.gs.zip row).map fun p => .tuple [gmD p.1, sgD p.2]) := by
    rw [← zipD_map]; rfl
  refine (exL_nx ((exS_for hz).trans hf)).trans ?_
  have ht : (L.gs.zip row).take (0 + ((L.gs.zip row).map fun p => PyData.tuple [gmD p.1, sgD p.2]).length) = L.gs.zip row := by rw [Nat.zero_add, List.length_map, List.take_length]
  rw [ht]
  refine (exL_nx (s := .fr 5) rfl).trans ?_
  exact exL_rt (exS_ret (evE_bi (x := .list (iL (fin L row))) rfl rfl))
end OL

end
section
set_option Elab.async false
set_option linter.all false
set_option maxRecDepth 100000
set_option maxHeartbeats 2000000
namespace OL
open PySem PySem.Spec PyProof.Rows L2 OLd
/-! ### all rows of results -/
def prodS (s : List Sg) : Nat → List (List Sg)
  | 0 => [[]]
  | n + 1 => (prodS s n).flatMap fun r => s.map fun x => r ++ [x]
theorem mem_prodS {s : List Sg} : ∀ {n : Nat} {r : List Sg}, r ∈ prodS s n ↔ r.length = n ∧ ∀ x ∈ r, x ∈ s
  | 0, r => by
    simp only [prodS, List.mem_singleton]
    constructor
    · rintro rfl; exact ⟨rfl, by simp⟩
    · rintro ⟨h, _⟩; exact List.eq_nil_of_length_eq_zero h
  | n + 1, r => by
    simp only [prodS, List.mem_flatMap, List.mem_map]
    constructor
    · rintro ⟨q, hq, x, hx, rfl⟩
      obtain ⟨h1, h2⟩ := mem_prodS.mp hq
      refine ⟨by simp [h1], fun y hy => ?_⟩
      rcases List.mem_append.mp hy with h | h
      · exact h2 y h
      · simp at h; subst h; exact hx
    · rintro ⟨h1, h2⟩
      have hne : r ≠ [] := fun e => by rw [e] at h1; cases h1
      refine ⟨r.dropLast, mem_prodS.mpr ⟨by simp [h1], fun x hx => h2 x (List.dropLast_subset _ hx)⟩, r.getLast hne, h2 _ (List.getLast_mem hne), List.dropLast_concat_getLast hne⟩
theorem prodS_length (s : List Sg) : ∀ n, (prodS s n).length = s.length ^ n
  | 0 => rfl
  | n + 1 => by
    have h : ∀ l : List (List Sg), (l.map fun r => (s.map fun x => r ++ [x]).length).sum = l.length * s.length := by
      intro l
      induction l with
      | nil => simp
      | cons a l ih => rw [List.map_cons, List.sum_cons, ih, List.length_cons, List.length_map, Nat.succ_mul]; omega
    rw [prodS, List.length_flatMap, h, prodS_length s n, Nat.pow_succ]
theorem prodS_perm {s t : List Sg} (h : s.Perm t) : ∀ n, (prodS s n).Perm (prodS t n)
  | 0 => List.Perm.refl _
  | n + 1 => by
    have h1 := (prodS_perm h n).flatMap_right fun r => s.map fun x => r ++ [x]
    refine h1.trans ?_
    show ((prodS t n).flatMap _).Perm ((prodS t n).flatMap _)
    generalize prodS t n = l
    induction l with
    | nil => exact List.Perm.refl _
    | cons a l ih =>
      simp only [List.flatMap_cons]
      exact (h.map _).append ih
/-! ### rows in order -/
def code : Sg → Nat
  | .a => 0
  | .d => 1
  | .h => 2
theorem code_inj {x y : Sg} (h : code x = code y) : x = y := by cases x <;> cases y <;> first | rfl | cases h
def ltS : List Sg → List Sg → Bool
  | [], [] => false
  | [], _ :: _ => true
  | _ :: _, [] => false
  | x :: xs, y :: ys => if x = y then ltS xs ys else decide (code x < code y)
theorem eqv_sg (x y : Sg) : PyData.eqv (sgD x) (sgD y) = decide (x = y) := by
  cases x <;> cases y <;> decide +kernel
theorem alike_sg (x y : Sg) : PySem.W.alike (sgD x) (sgD y) = true := by
  cases x <;> cases y <;> rfl
theorem lt_sg (x y : Sg) : PySem.W.dataLt (sgD x) (sgD y) = decide (code x < code y) := by
  cases x <;> cases y <;> (refine (PySem.W.dataLt_str _ _).trans ?_; decide +kernel)
theorem dataLt_rs : ∀ a b : List Sg, PySem.W.dataLt (rsD a) (rsD b) = ltS a b
  | [], [] => by rw [PySem.W.dataLt_tuple]; rfl
  | [], y :: ys => by
    rw [PySem.W.dataLt_tuple]
    show PyProof.Rows.lexLt PyProof.Rows.itemOrd (PySem.W.keyToksAll []) (PySem.W.keyToksAll (sgD y :: ys.map sgD)) = true
    rw [PySem.W.toks_all_cons]
    rfl
  | x :: xs, [] => by
    rw [PySem.W.dataLt_tuple]
    show PyProof.Rows.lexLt PyProof.Rows.itemOrd (PySem.W.keyToksAll (sgD x :: xs.map sgD)) (PySem.W.keyToksAll []) = false
    rw [PySem.W.toks_all_cons]
    rfl
  | x :: xs, y :: ys => by
    have ih := dataLt_rs xs ys
    rw [PySem.W.dataLt_tuple] at ih ⊢
    show PyProof.Rows.lexLt PyProof.Rows.itemOrd (PySem.W.keyToksAll (sgD x :: xs.map sgD)) (PySem.W.keyToksAll (sgD y :: ys.map sgD)) = _
    rw [PySem.W.dataLt_cons (alike_sg x y), ih, eqv_sg, lt_sg]
    rw [show ltS (x :: xs) (y :: ys) = if x = y then ltS xs ys else decide (code x < code y) from rfl]
    by_cases h : x = y
    · rw [if_pos h, if_pos (decide_eq_true h)]
    · rw [if_neg h, if_neg (by simpa using h)]
theorem ltS_app : ∀ {a b : List Sg} (x y : Sg), a.length = b.length → ltS a b = true → ltS (a ++ [x]) (b ++ [y]) = true
  | [], [], _, _, _, h => by cases h
  | [], _ :: _, _, _, e, _ => by cases e
  | _ :: _, [], _, _, e, _ => by cases e
  | u :: a, v :: b, x, y, e, h => by
    simp only [List.cons_append, ltS] at h ⊢
    by_cases q : u = v
    · rw [if_pos q] at h ⊢; exact ltS_app x y (by simpa using e) h
    · rw [if_neg q] at h ⊢; exact h
theorem ltS_last : ∀ (r : List Sg) {x y : Sg}, code x < code y → ltS (r ++ [x]) (r ++ [y]) = true
  | [], x, y, h => by
    have hne : x ≠ y := fun e => by subst e; omega
    simp [ltS, hne, h]
  | u :: r, x, y, h => by simp only [List.cons_append, ltS, if_true]; exact ltS_last r h
theorem ltS_irr : ∀ a : List Sg, ltS a a = false
  | [] => rfl
  | x :: a => by simp [ltS, ltS_irr a]
theorem ltS_asym : ∀ {a b : List Sg}, ltS a b = true → ltS b a = false
  | [], [], h => by cases h
  | [], _ :: _, _ => rfl
  | _ :: _, [], h => by cases h
  | x :: a, y :: b, h => by
    unfold ltS at h ⊢
    by_cases e : x = y
    · rw [if_pos e] at h; rw [if_pos e.symm]; exact ltS_asym h
    · rw [if_neg e] at h; rw [if_neg (fun z => e z.symm)]
      simp at h ⊢; omega
theorem ltS_tri : ∀ {a b : List Sg}, ltS a b = false → ltS b a = false → a = b
  | [], [], _, _ => rfl
  | [], _ :: _, h, _ => by cases h
  | _ :: _, [], _, h => by cases h
  | x :: a, y :: b, h1, h2 => by
    unfold ltS at h1 h2
    by_cases e : x = y
    · rw [if_pos e] at h1; rw [if_pos e.symm] at h2; rw [e, ltS_tri h1 h2]
    · rw [if_neg e] at h1; rw [if_neg (fun z => e z.symm)] at h2
      simp at h1 h2
      exact absurd (code_inj (by omega)) e
theorem ltS_trans : ∀ {a b c : List Sg}, ltS a b = true → ltS b c = true → ltS a c = true
  | [], [], _, h, _ => by cases h
  | [], _ :: _, [], _, h => by cases h
  | [], _ :: _, _ :: _, _, _ => rfl
  | _ :: _, [], _, h, _ => by cases h
  | _ :: _, _ :: _, [], _, h => by cases h
  | x :: a, y :: b, z :: c, h1, h2 => by
    unfold ltS at h1 h2 ⊢
    by_cases e : x = y
    · rw [if_pos e] at h1
      by_cases f : y = z
      · rw [if_pos f] at h2; rw [if_pos (e.trans f)]; exact ltS_trans h1 h2
      · rw [if_neg f] at h2; rw [if_neg (fun q => f (e.symm.trans q)), e]; exact h2
    · rw [if_neg e] at h1
      by_cases f : y = z
      · subst f; rw [if_neg e]; exact h1
      · rw [if_neg f] at h2
        simp at h1 h2
        have : x ≠ z := fun q => by subst q; omega
        rw [if_neg this]
        simp; omega
theorem prodS_sorted {s : List Sg} (h : s.Pairwise fun x y => code x < code y) : ∀ n, (prodS s n).Pairwise fun a b => ltS a b = true
  | 0 => by simp [prodS]
  | n + 1 => by
    rw [prodS, List.pairwise_flatMap]
    refine ⟨fun r _ => ?_, ?_⟩
    · rw [List.pairwise_map]
      exact h.imp fun hxy => ltS_last r hxy
    · have hl : ∀ r ∈ prodS s n, r.length = n := fun r hr => (mem_prodS.mp hr).1
      refine (prodS_sorted h n).imp_of_mem fun {a b} ha hb hab => ?_
      intro u hu v hv
      obtain ⟨x, _, rfl⟩ := List.mem_map.mp hu
      obtain ⟨y, _, rfl⟩ := List.mem_map.mp hv
      exact ltS_app x y (by rw [hl a ha, hl b hb]) hab
/-- the results of a league in Python's order -/
def srs (L : Lg) : List Sg := match L.dr with
  | none => [.a, .h]
  | some _ => [.a, .d, .h]
theorem srs_lt (L : Lg) : (srs L).Pairwise fun x y => code x < code y := by
  unfold srs
  cases L.dr with
  | none => exact (by decide : [Sg.a, Sg.h].Pairwise fun x y => code x < code y)
  | some _ => exact (by decide : [Sg.a, Sg.d, Sg.h].Pairwise fun x y => code x < code y)
theorem srs_perm (L : Lg) : (alw L).Perm (srs L) := by
  unfold srs alw
  cases L.dr with
  | none => exact (by decide : [Sg.h, Sg.a].Perm [Sg.a, Sg.h])
  | some _ => exact (by decide : [Sg.h, Sg.a, Sg.d].Perm [Sg.a, Sg.d, Sg.h])
theorem mem_alw {L : Lg} {s : Sg} : s ∈ alw L ↔ SgOk L s := by
  unfold alw SgOk
  cases L.dr with
  | none => cases s <;> simp
  | some x => cases s <;> simp
abbrev allR (L : Lg) : List (List Sg) := prodS (alw L) L.gs.length
abbrev evR (L : Lg) : List (List Sg) := prodS (srs L) L.gs.length
theorem mem_allR {L : Lg} {r : List Sg} : r ∈ allR L ↔ RsOk L r := by
  rw [mem_prodS]
  constructor
  · rintro ⟨h1, h2⟩; exact ⟨h1, fun s hs => mem_alw.mp (h2 s hs)⟩
  · rintro ⟨h1, h2⟩; exact ⟨h1, fun s hs => mem_alw.mpr (h2 s hs)⟩
theorem evR_perm (L : Lg) : (allR L).Perm (evR L) := prodS_perm (srs_perm L) _
theorem mem_evR {L : Lg} {r : List Sg} : r ∈ evR L ↔ RsOk L r := by rw [← (evR_perm L).mem_iff, mem_allR]
theorem alike_rs : ∀ a b : List Sg, PySem.W.alikeAll (a.map sgD) (b.map sgD) = true
  | [], b => by cases b <;> rfl
  | _ :: _, [] => rfl
  | x :: a, y :: b => by
    show PySem.W.alikeAll (sgD x :: a.map sgD) (sgD y :: b.map sgD) = true
    rw [PySem.W.alikeAll, alike_rs a b, alike_sg]; rfl
theorem depth_rs (a : List Sg) : (rsD a).depth ≤ 64 := by
  have : ∀ a : List Sg, PyData.depthAll (a.map sgD) = 0 := by
    intro a
    induction a with
    | nil => rfl
    | cons x a ih =>
      show PyData.depthAll (sgD x :: a.map sgD) = 0
      rw [PyData.depthAll, ih]
      cases x <;> rfl
  simp only [PyData.depth, this]
  decide
theorem sorted_allR (L : Lg) : biD "sorted" [.list ((allR L).map rsD)] = some (.list ((evR L).map rsD)) := by
  by_cases h0 : L.gs.length = 0
  · have e1 : allR L = [[]] := by unfold allR; rw [h0]; rfl
    have e2 : evR L = [[]] := by unfold evR; rw [h0]; rfl
    rw [e1, e2]; rfl
  · have hok : sortOk ((allR L).map rsD) = true := by
      unfold sortOk
      simp only [Bool.and_eq_true, Bool.or_eq_true, List.all_eq_true, List.mem_map, decide_eq_true_eq]
      refine ⟨⟨fun d hd e he => ?_, fun d hd => ?_⟩, .inl fun d hd => ?_⟩
      · obtain ⟨a, _, rfl⟩ := hd
        obtain ⟨b, _, rfl⟩ := he
        rw [PySem.W.alike]
        exact alike_rs a b
      · obtain ⟨a, _, rfl⟩ := hd
        exact depth_rs a
      · obtain ⟨a, ha, rfl⟩ := hd
        have := (mem_allR.mp ha).len
        cases a with
        | nil => simp at this; omega
        | cons x a => rfl
    rw [sorted_list hok]
    congr 2
    unfold sortD
    rw [show (allR L).map rsD = (allR L).map fun r => rsD r from rfl, ← List.map_mergeSort (r := fun a b => !ltS b a) (f := fun r => rsD r) (fun a _ b _ => ?_)]
    · congr 1
      have hp := (List.mergeSort_perm (allR L) (fun a b => !ltS b a)).trans (evR_perm L)
      refine List.Perm.eq_of_pairwise (le := fun a b => ltS b a = false) (fun a b _ _ h1 h2 => ltS_tri h2 h1) ?_ ?_ hp
      · have := List.pairwise_mergeSort (le := fun a b : List Sg => !ltS b a) (fun a b c h1 h2 => ?_) (fun a b => ?_) (allR L)
        · exact this.imp fun h => by simpa using h
        · simp only [Bool.not_eq_true'] at h1 h2 ⊢
          cases hc : ltS c a with
          | false => rfl
          | true =>
            exfalso
            cases hab : ltS a b with
            | true => rw [ltS_trans hc hab] at h2; cases h2
            | false => rw [ltS_tri hab h1] at hc; rw [hc] at h2; cases h2
        · cases h : ltS a b with
          | false => simp
          | true => simp [ltS_asym h]
      · exact (prodS_sorted (srs_lt L) _).imp fun h => ltS_asym h
    · show (!ltS b a) = (!PySem.W.dataLt (rsD b) (rsD a))
      rw [dataLt_rs]
end OL

end
section
set_option Elab.async false
set_option linter.all false
set_option maxRecDepth 100000
set_option maxHeartbeats 2000000
namespace OL
open PySem PySem.Spec PyProof.Rows L2 OLd
/-! ### how often each row comes -/
abbrev KV := List (List Int × Nat)
def expd (kvs : KV) : List (List Int) := kvs.flatMap fun p => List.replicate p.2 p.1
def getH (kvs : KV) (k : List Int) : Nat := ((kvs.find? fun p => decide (p.1 = k)).map (·.2)).getD 0
def putH (kvs : KV) (k : List Int) (n : Nat) : KV := if (kvs.any fun p => decide (p.1 = k)) = true then kvs.map (fun p => if p.1 = k then (p.1, n) else p) else kvs ++ [(k, n)]
structure Hist (kvs : KV) (l : List (List Int)) : Prop where
  nd : (kvs.map (·.1)).Nodup
  pos : ∀ p ∈ kvs, 1 ≤ p.2
  pm : (expd kvs).Perm l
theorem getH_cons (p : List Int × Nat) (kvs : KV) (k : List Int) : getH (p :: kvs) k = if p.1 = k then p.2 else getH kvs k := by
  unfold getH
  rw [List.find?_cons]
  by_cases h : p.1 = k <;> simp [h]
theorem getH_none {kvs : KV} {k : List Int} (h : k ∉ kvs.map (·.1)) : getH kvs k = 0 := by
  induction kvs with
  | nil => rfl
  | cons p kvs ih =>
    simp only [List.map_cons, List.mem_cons, not_or] at h
    rw [getH_cons, if_neg (fun e => h.1 e.symm), ih h.2]
theorem count_expd {kvs : KV} (nd : (kvs.map (·.1)).Nodup) (k : List Int) : (expd kvs).count k = getH kvs k := by
  induction kvs with
  | nil => rfl
  | cons p kvs ih =>
    simp only [List.map_cons, List.nodup_cons] at nd
    have h2 := ih nd.2
    unfold expd at h2 ⊢
    rw [List.flatMap_cons, List.count_append, h2, List.count_replicate, getH_cons]
    by_cases h : p.1 = k
    · subst h
      rw [if_pos rfl, getH_none nd.1]; simp
    · rw [if_neg h]; simp [h]
theorem keys_putH (kvs : KV) (k : List Int) (n : Nat) : (putH kvs k n).map (·.1) = if k ∈ kvs.map (·.1) then kvs.map (·.1) else kvs.map (·.1) ++ [k] := by
  unfold putH
  have e : (kvs.any fun p => decide (p.1 = k)) = true ↔ k ∈ kvs.map (·.1) := by
    simp only [List.any_eq_true, decide_eq_true_eq, List.mem_map]
  by_cases h : k ∈ kvs.map (·.1)
  · rw [if_pos h, if_pos (e.mpr h), List.map_map]
    apply List.map_congr_left
    intro p _
    show (if p.1 = k then (p.1, n) else p).1 = p.1
    split <;> rfl
  · rw [if_neg h, if_neg (fun q => h (e.mp q))]; simp
theorem getH_putH {kvs : KV} (k : List Int) (n : Nat) (v : List Int) : getH (putH kvs k n) v = if k = v then n else getH kvs v := by
  unfold putH
  split
  · rename_i h
    have key : ∀ kvs : KV, k ∈ kvs.map (·.1) → getH (kvs.map fun p => if p.1 = k then (p.1, n) else p) v = if k = v then n else getH kvs v := by
      intro kvs
      induction kvs with
      | nil => intro h; cases h
      | cons p kvs ih =>
        intro h
        rw [List.map_cons, getH_cons, getH_cons]
        by_cases hp : p.1 = k
        · subst hp
          simp only [if_true]
          by_cases hv : p.1 = v
          · simp [hv]
          · simp only [hv, if_false]
            by_cases hm : p.1 ∈ kvs.map (·.1)
            · rw [ih hm, if_neg hv]
            · have : (kvs.map fun q => if q.1 = p.1 then (q.1, n) else q) = kvs := by
                rw [List.map_congr_left (g := id)]
                · simp
                · intro q hq
                  have : ¬ q.1 = p.1 := fun e => hm (by rw [← e]; exact List.mem_map.mpr ⟨q, hq, rfl⟩)
                  rw [if_neg this]; rfl
              rw [this]
        · rw [if_neg hp]
          have hm : k ∈ kvs.map (·.1) := by
            simp only [List.map_cons, List.mem_cons] at h
            exact h.resolve_left (fun e => hp e.symm)
          by_cases hv : p.1 = v
          · have : k ≠ v := fun e => hp (hv.trans e.symm)
            simp [hv, this]
          · simp only [hv, if_false]; exact ih hm
    refine key kvs ?_
    simpa [List.any_eq_true, List.mem_map] using h
  · rename_i h
    have hn : k ∉ kvs.map (·.1) := fun q => h (by simpa [List.any_eq_true, List.mem_map] using q)
    have key : ∀ kvs : KV, k ∉ kvs.map (·.1) → getH (kvs ++ [(k, n)]) v = if k = v then n else getH kvs v := by
      intro kvs
      induction kvs with
      | nil => intro _; rw [List.nil_append, getH_cons]
      | cons p kvs ih =>
        intro hn
        simp only [List.map_cons, List.mem_cons, not_or] at hn
        rw [List.cons_append, getH_cons, getH_cons, ih hn.2]
        by_cases hv : p.1 = v
        · have : k ≠ v := fun e => hn.1 (e.trans hv.symm)
          simp [hv, this]
        · simp [hv]
    exact key kvs hn
theorem mem_putH {kvs : KV} {k : List Int} {n : Nat} {p : List Int × Nat} (h : p ∈ putH kvs k n) : p ∈ kvs ∨ p.2 = n := by
  unfold putH at h
  split at h
  · obtain ⟨q, hq, rfl⟩ := List.mem_map.mp h
    by_cases e : q.1 = k
    · rw [if_pos e]; exact .inr rfl
    · rw [if_neg e]; exact .inl hq
  · rcases List.mem_append.mp h with h | h
    · exact .inl h
    · simp at h; subst h; exact .inr rfl
theorem Hist.add {kvs : KV} {l : List (List Int)} (h : Hist kvs l) (k : List Int) {n : Nat} (hn : 1 ≤ n) : Hist (putH kvs k (getH kvs k + n)) (l ++ List.replicate n k) := by
  have nd : ((putH kvs k (getH kvs k + n)).map (·.1)).Nodup := by
    rw [keys_putH]
    split
    · exact h.nd
    · rename_i hk
      rw [List.nodup_append]
      exact ⟨h.nd, by simp, fun a ha b hb e => by simp at hb; subst hb; exact hk (e ▸ ha)⟩
  refine ⟨nd, fun p hp => ?_, ?_⟩
  · rcases mem_putH hp with q | q
    · exact h.pos p q
    · omega
  · rw [List.perm_iff_count]
    intro v
    rw [count_expd nd, getH_putH, List.count_append, ← (List.perm_iff_count.mp h.pm v), count_expd h.nd, List.count_replicate]
    by_cases e : k = v
    · subst e; simp
    · simp [e]
theorem Hist.mem {kvs : KV} {l : List (List Int)} (h : Hist kvs l) (v : List Int) : v ∈ kvs.map (·.1) ↔ v ∈ l := by
  rw [← h.pm.mem_iff]
  unfold expd
  simp only [List.mem_map, List.mem_flatMap, List.mem_replicate]
  constructor
  · rintro ⟨p, hp, rfl⟩
    have := h.pos p hp
    exact ⟨p, hp, by omega, rfl⟩
  · rintro ⟨p, hp, _, rfl⟩
    exact ⟨p, hp, rfl⟩
theorem getH_mem {kvs : KV} (nd : (kvs.map (·.1)).Nodup) {p : List Int × Nat} (hp : p ∈ kvs) : getH kvs p.1 = p.2 := by
  induction kvs with
  | nil => cases hp
  | cons q kvs ih =>
    simp only [List.map_cons, List.nodup_cons] at nd
    rw [getH_cons]
    rcases List.mem_cons.mp hp with e | e
    · subst e; rw [if_pos rfl]
    · have : ¬ q.1 = p.1 := fun z => nd.1 (by rw [z]; exact List.mem_map.mpr ⟨p, e, rfl⟩)
      rw [if_neg this, ih nd.2 e]
theorem Hist.val {kvs : KV} {l : List (List Int)} (h : Hist kvs l) {p : List Int × Nat} (hp : p ∈ kvs) : p.2 = l.count p.1 := by
  rw [← (List.perm_iff_count.mp h.pm p.1), count_expd h.nd, getH_mem h.nd hp]
theorem Hist.perm {kvs : KV} {l m : List (List Int)} (h : Hist kvs l) (p : l.Perm m) : Hist kvs m := ⟨h.nd, h.pos, h.pm.trans p⟩
theorem Hist.len {kvs : KV} {l : List (List Int)} (h : Hist kvs l) : kvs.length ≤ l.length := by
  rw [← h.pm.length_eq]
  unfold expd
  rw [List.length_flatMap]
  have : ∀ kvs : KV, (∀ p ∈ kvs, 1 ≤ p.2) → kvs.length ≤ (kvs.map fun p => (List.replicate p.2 p.1).length).sum := by
    intro kvs
    induction kvs with
    | nil => intro _; simp
    | cons p kvs ih =>
      intro hp
      have h1 := hp p (by simp)
      have h2 := ih (fun q hq => hp q (by simp [hq]))
      simp only [List.map_cons, List.sum_cons, List.length_cons, List.length_replicate] at h2 ⊢
      omega
  exact this kvs h.pos
/-- each of a row of things with multiplicity, spread -/
theorem spread_perm {α : Type} [BEq α] [LawfulBEq α] {β : Type} (s : List β) (f : β → α) (n : Nat) : (s.flatMap fun x => List.replicate n (f x)).Perm ((List.replicate n ()).flatMap fun _ => s.map f) := by
  rw [List.perm_iff_count]
  intro a
  have h1 : ((List.replicate n ()).flatMap fun _ => s.map f).count a = n * (s.map f).count a := by
    induction n with
    | zero => simp
    | succ n ih => rw [List.replicate_succ, List.flatMap_cons, List.count_append, ih, Nat.succ_mul]; omega
  rw [h1]
  clear h1
  induction s with
  | nil => simp
  | cons x s ih =>
    rw [List.flatMap_cons, List.count_append, ih, List.count_replicate, List.map_cons, List.count_cons, Nat.mul_add]
    by_cases e : f x = a <;> simp [e] <;> omega
theorem expd_flat (kvs : KV) {β : Type} (s : List β) (f : List Int → β → List Int) : (kvs.flatMap fun p => s.flatMap fun x => List.replicate p.2 (f p.1 x)).Perm ((expd kvs).flatMap fun v => s.map (f v)) := by
  unfold expd
  rw [List.flatMap_assoc]
  induction kvs with
  | nil => exact List.Perm.refl _
  | cons p kvs ih =>
    rw [List.flatMap_cons, List.flatMap_cons]
    refine List.Perm.append ?_ ih
    refine (spread_perm s (f p.1) p.2).trans ?_
    rw [show List.replicate p.2 p.1 = (List.replicate p.2 ()).map fun _ => p.1 by simp, List.flatMap_map]
/-! ### as data -/
abbrev dcD (kvs : KV) : List (PyData × PyData) := kvs.map fun p => (rowD p.1, .int (p.2 : Nat))
theorem eqv_rowD (a b : List Int) : PyData.eqv (rowD a) (rowD b) = decide (a = b) := by
  rw [PyData.eqv, eqvAll_ints]
theorem toKs_ints : ∀ l : List Int, toKs (iL l) = some (l.map Sum.inl)
  | [] => rfl
  | i :: l => by
    show (toK (.int i)).bind (fun k => (toKs (iL l)).map fun ks => k :: ks) = _
    rw [toKs_ints l]; rfl
theorem toKT_rowD (l : List Int) : (toKT (rowD l)).isSome = true := by
  show (toKs (iL l)).isSome = true
  rw [toKs_ints]; rfl
theorem look_dcD (kvs : KV) (k : List Int) : lookD (dcD kvs) (rowD k) = if k ∈ kvs.map (·.1) then some (.int (getH kvs k)) else none := by
  induction kvs with
  | nil => rfl
  | cons p kvs ih =>
    unfold lookD at ih ⊢
    rw [show dcD (p :: kvs) = (rowD p.1, PyData.int (p.2 : Nat)) :: dcD kvs from rfl, List.find?_cons, eqv_rowD, getH_cons]
    by_cases h : p.1 = k
    · subst h; simp
    · have h' : ¬ k = p.1 := fun e => h e.symm
      rw [decide_eq_false h, if_neg h]
      refine ih.trans ?_
      by_cases hm : k ∈ kvs.map (·.1)
      · rw [if_pos hm, if_pos (by rw [List.map_cons]; exact List.mem_cons_of_mem _ hm)]
      · rw [if_neg hm, if_neg (by rw [List.map_cons, List.mem_cons]; exact fun q => q.elim h' hm)]
theorem put_dcD (kvs : KV) (k : List Int) (n : Nat) : putD (dcD kvs) (rowD k) (.int n) = dcD (putH kvs k n) := by
  unfold putD putH
  have e : ((dcD kvs).any fun kv => PyData.eqv kv.1 (rowD k)) = kvs.any fun p => decide (p.1 = k) := by
    rw [List.any_map]
    congr 1
    funext p
    exact eqv_rowD _ _
  rw [e]
  split
  · show _ = List.map _ (List.map _ kvs)
    rw [List.map_map, List.map_map]
    apply List.map_congr_left
    intro p _
    show (if PyData.eqv (rowD p.1) (rowD k) = true then (rowD p.1, PyData.int n) else (rowD p.1, PyData.int p.2)) = _
    rw [eqv_rowD]
    by_cases h : p.1 = k <;> simp [h]
  · simp
theorem lookS_dcD {kvs : KV} (hne : kvs ≠ []) (k : List Int) : lookS (dcD kvs) (rowD k) = some (lookD (dcD kvs) (rowD k)) := by
  unfold lookS
  have h2 : ((dcD kvs).all fun kv => (toKT kv.1).isSome) = true := by
    simp only [List.all_eq_true, List.mem_map]
    rintro kv ⟨p, _, rfl⟩
    exact toKT_rowD p.1
  rw [if_neg (by simpa using hne), if_pos ⟨toKT_rowD k, h2⟩]
end OL

end
section
set_option Elab.async false
set_option linter.all false
set_option maxRecDepth 100000
set_option maxHeartbeats 2000000
namespace OL
open PySem PySem.Spec PyProof.Rows L2 OLd
/-- a loop over the image of a row: the invariant tells what is behind -/
theorem forGo_each {α : Type} {t : T} {body : Env → Option O} {e : α → PyData} (I : List α → Env → Prop) : ∀ (l pre : List α) (ρ : Env), (∀ pre' a post ρ, pre ++ l = pre' ++ a :: post → I pre' ρ → ∃ ρ1 ρ2, bindT t (e a) ρ = some ρ1 ∧ body ρ1 = some (.nx ρ2) ∧ I (pre' ++ [a]) ρ2) → I pre ρ → ∃ ρ', forGo t body (l.map e) ρ = some (.nx ρ') ∧ I (pre ++ l) ρ'
  | [], pre, ρ, _, h => ⟨ρ, rfl, by simpa using h⟩
  | a :: l, pre, ρ, st, h => by
    obtain ⟨ρ1, ρ2, e1, e2, h2⟩ := st pre a l ρ rfl h
    obtain ⟨ρ', e3, h3⟩ := forGo_each (t := t) (body := body) (e := e) I l (pre ++ [a]) ρ2 (fun pre' b post ρ he hI => st pre' b post ρ (by rw [← he]; simp) hI) h2
    refine ⟨ρ', ?_, by simpa using h3⟩
    rw [List.map_cons]
    unfold forGo
    rw [e1, Option.bind_some, e2, Option.bind_some]
    exact e3
theorem cloB_dc : ∀ kvs, cloB (dcD kvs) = false
  | [] => rfl
  | [_] => rfl
  | _ :: _ :: _ => rfl
theorem evI_dict {Φ : Tab} {a : E} {ρ : Env} {kvs : List (PyData × PyData)} (h : evE Φ a ρ = some (.dict kvs)) (hc : cloB kvs = false := by first | exact cloB_dc _ | rfl) : evI Φ (.e a) ρ = some (kvs.map (·.1)) := by
  unfold evI; rw [h]
  show (if cloB kvs = true then none else some (kvs.map (·.1))) = _
  rw [hc]; rfl
theorem lc2_mapG {α β : Type} {Φ : Tab} {elt : E} {t t2 : T} {it it2 : I} {ρ : Env} {e : α → PyData} {l : List α} {e2 : β → PyData} {g : α → β → PyData} {l2 : α → List β} {r : α → Env} {r2 : α → β → Env} (hi : evI Φ it ρ = some (l.map e)) (hb : ∀ a ∈ l, bindT t (e a) (wipeB ρ (t.slots ++ t2.slots)) = some (r a)) (hi2 : ∀ a ∈ l, evI Φ it2 (r a) = some ((l2 a).map e2))
    (hb2 : ∀ a ∈ l, ∀ b ∈ l2 a, bindT t2 (e2 b) (wipeB (r a) t2.slots) = some (r2 a b)) (h : ∀ a ∈ l, ∀ b ∈ l2 a, evE Φ elt (r2 a b) = some (g a b)) (hl : (l.flatMap fun a => (l2 a).map (g a)).length ≤ 16777216) : evE Φ (.lc2 elt t it t2 it2 .no) ρ = some (.list (l.flatMap fun a => (l2 a).map (g a))) := by
  unfold evE
  rw [hi, Option.bind_some, lcGo2_at (g := fun a => (l2 a).map (g a)) (fun a ha => ?_), Option.bind_some, if_pos hl]
  rw [hb a ha, Option.bind_some, hi2 a ha, Option.bind_some]
  refine lcGo_at fun b hb' => ?_
  rw [hb2 a ha b hb', Option.bind_some]
  unfold evC
  rw [Option.bind_some, if_pos rfl, h a ha b hb']; rfl
theorem evE_addT {Φ : Tab} {a b : E} {ρ : Env} {xs ys : List PyData} (h1 : evE Φ a ρ = some (.tuple xs)) (h2 : evE Φ b ρ = some (.tuple ys)) (hl : xs.length + ys.length ≤ 16777216) : evE Φ (.bin .Add a b) ρ = some (.tuple (xs ++ ys)) := by
  simp only [evE, h1, h2, Option.bind_some, binD]
  rw [if_pos hl]
theorem alw_len (L : Lg) : (alw L).length ≤ 3 := by unfold alw; cases L.dr <;> simp
theorem alw_ne (L : Lg) : alw L ≠ [] := by unfold alw; cases L.dr <;> simp
theorem pow_le {a n : Nat} (ha : a ≤ 3) (hn : n ≤ 8) : a ^ n ≤ 6561 := by
  have h1 : a ^ n ≤ 3 ^ n := Nat.pow_le_pow_left ha n
  have h2 : 3 ^ n ≤ 3 ^ 8 := Nat.pow_le_pow_right (by decide) hn
  have : (3 : Nat) ^ 8 = 6561 := by decide
  omega
theorem pow_le7 {a n : Nat} (ha : a ≤ 3) (hn : n ≤ 7) : a ^ n ≤ 2187 := by
  have h1 : a ^ n ≤ 3 ^ n := Nat.pow_le_pow_left ha n
  have h2 : 3 ^ n ≤ 3 ^ 7 := Nat.pow_le_pow_right (by decide) hn
  have : (3 : Nat) ^ 7 = 2187 := by decide
  omega
theorem ix_d0 {Φ : Tab} {L : Lg} {s : Nat} {ρ : Env} (h : ρ[s]? = some (.sh L.d)) : evE Φ (.ix (.v s) (.c (.int 0))) ρ = some L.rule ∧ evE Φ (.ix (.v s) (.c (.int 1))) ρ = some (.tuple (iL L.pts)) ∧ evE Φ (.ix (.v s) (.c (.int 2))) ρ = some (.tuple (L.gs.map gmD)) := by
  have hv : evE Φ (.v s) ρ = some L.d := by unfold evE getB; rw [h]
  exact ⟨evE_ix hv rfl rfl, evE_ix hv rfl rfl, evE_ix hv rfl rfl⟩
theorem evL1 {Φ : Tab} {a : E} {ρ : Env} {x : PyData} (h : evE Φ a ρ = some x) : evL Φ (.cons a .nil) ρ = some [x] := by
  simp only [evL, h, Option.bind_some, Option.map_some]
theorem evL2 {Φ : Tab} {a b : E} {ρ : Env} {x y : PyData} (h : evE Φ a ρ = some x) (h2 : evE Φ b ρ = some y) : evL Φ (.cons a (.cons b .nil)) ρ = some [x, y] := by
  simp only [evL, h, h2, Option.bind_some, Option.map_some]
theorem evL3 {Φ : Tab} {a b c : E} {ρ : Env} {x y z : PyData} (h : evE Φ a ρ = some x) (h2 : evE Φ b ρ = some y) (h3 : evE Φ c ρ = some z) : evL Φ (.cons a (.cons b (.cons c .nil))) ρ = some [x, y, z] := by
  simp only [evL, h, h2, h3, Option.bind_some, Option.map_some]
theorem r_all_results {Φ : Tab} (ha : AlwOk Φ) (L : Lg) (h8 : L.gs.length ≤ 8) : runFn Φ d_all_results [L.d] = some (.ok (.list ((allR L).map rsD))) := by
  refine runFn_of rfl ?_
  unfold d_all_results
  refine (exL_nx (exS_set (d := .list [.tuple []]) (b := .sh (.list [.tuple []])) rfl rfl (by simp [OL.startB]))).trans ?_
  obtain ⟨ρ', hf, b2, rfl⟩ := forGo_each (t := .n 2) (e := gmD) (body := exL Φ (.cons (.set 1 .s (.lc2 (.bin .Add (.v 3) (.tup (.cons (.v 4) .nil))) (.n 3) (.e (.v 1)) (.n 4) (.e (.call "allowed" (.cons (.ix (.v 0) (.c (.int 0))) .nil))) .no)) .nil))
    (fun pre ρ => ∃ b2 : B, ρ = [.sh L.d, .sh (.list ((prodS (alw L) pre.length).map rsD)), b2, .un, .un]) L.gs [] [.sh L.d, .sh (.list [.tuple []]), .un, .un, .un] (fun pre a post ρ hp hI => by
      obtain ⟨b2, rfl⟩ := hI
      have hlen : pre.length + 1 ≤ L.gs.length := by
        have := congrArg List.length hp
        simp at this; omega
      refine ⟨_, _, rfl, (exL_nx (exS_set (d := .list ((prodS (alw L) (pre.length + 1)).map rsD)) ?_ rfl (by simp))).trans rfl, .sh (gmD a), by simp⟩
      have e3 : ((prodS (alw L) (pre.length + 1)).map rsD) = (prodS (alw L) pre.length).flatMap fun r => (alw L).map fun x => rsD (r ++ [x]) := by
        rw [prodS, List.map_flatMap]
        congr 1
        funext r
        simp [List.map_map, Function.comp_def]
      have hb : (prodS (alw L) (pre.length + 1)).length ≤ 6561 := by
        rw [prodS_length]; exact pow_le (alw_len L) (by omega)
      rw [e3]
      refine lc2_mapG (l := prodS (alw L) pre.length) (e := rsD) (l2 := fun _ => alw L) (e2 := sgD) (g := fun r x => rsD (r ++ [x])) (r := fun r => [.sh L.d, .sh (.list ((prodS (alw L) pre.length).map rsD)), .sh (gmD a), .sh (rsD r), .un]) (r2 := fun r x => [.sh L.d, .sh (.list ((prodS (alw L) pre.length).map rsD)), .sh (gmD a), .sh (rsD r), .sh (sgD x)]) (evI_list rfl) (fun _ _ => rfl) (fun r _ => ?_) (fun _ _ _ _ => rfl) (fun r hr x _ => ?_) ?_
      · exact evI_list (evE_call (ha L) (evL1 (ix_d0 rfl).1))
      · have hrl := (mem_prodS.mp hr).1
        refine (evE_addT (xs := r.map sgD) (ys := [sgD x]) rfl rfl (by simp; omega)).trans ?_
        simp
      · rw [← e3, List.length_map]; omega) ⟨.un, rfl⟩
  refine (exL_nx ((exS_for (evI_tuple (ix_d0 rfl).2.2)).trans hf)).trans ?_
  exact exL_rt (exS_ret rfl)
def AllOk (Φ : Tab) : Prop := ∀ L : Lg, L.gs.length ≤ 8 → Says Φ "all_results" [L.d] (.list ((allR L).map rsD))
/-! ### the final points, step by step -/
def addV (v : List Int) (g q : Int × Int) : List Int := vec v.length fun i => v.getD i 0 + con g q i
theorem addV_length (v : List Int) (g q : Int × Int) : (addV v g q).length = v.length := by simp [addV]
def finL (L : Lg) (l : List ((Int × Int) × Sg)) : List Int := l.foldl (fun v p => addV v p.1 (gainF L p.2)) L.pts
theorem finL_eq (L : Lg) (l : List ((Int × Int) × Sg)) : finL L l = vec L.pts.length (finF L l) := by
  have key : ∀ (l : List ((Int × Int) × Sg)) (n : Nat) (f : Nat → Int), l.foldl (fun v p => addV v p.1 (gainF L p.2)) (vec n f) = vec n fun k => f k + (l.map fun p => con p.1 (gainF L p.2) k).sum := by
    intro l
    induction l with
    | nil => intro n f; simp
    | cons p l ih =>
      intro n f
      rw [List.foldl_cons]
      have e : addV (vec n f) p.1 (gainF L p.2) = vec n fun k => f k + con p.1 (gainF L p.2) k := by
        unfold addV
        rw [show (vec n f).length = n by simp]
        refine vec_congr fun k hk => ?_
        simp [hk]
      rw [e, ih]
      refine vec_congr fun k _ => ?_
      simp only [List.map_cons, List.sum_cons]
      omega
  unfold finL
  conv => lhs; rw [vec_of L.pts]
  rw [key]
  rfl
theorem fin_eq (L : Lg) (row : List Sg) : fin L row = finL L (L.gs.zip row) := (finL_eq L _).symm
theorem finL_snoc (L : Lg) (l : List ((Int × Int) × Sg)) (p : (Int × Int) × Sg) : finL L (l ++ [p]) = addV (finL L l) p.1 (gainF L p.2) := by
  unfold finL; rw [List.foldl_append]; rfl
theorem finL_length (L : Lg) (l : List ((Int × Int) × Sg)) : (finL L l).length = L.pts.length := by rw [finL_eq]; simp
/-- the points after the games pre, for all results of them -/
def ptsAfter (L : Lg) (pre : List (Int × Int)) : List (List Int) := (prodS (alw L) pre.length).map fun r => finL L (pre.zip r)
theorem ptsAfter_snoc (L : Lg) (pre : List (Int × Int)) (g : Int × Int) : ptsAfter L (pre ++ [g]) = (ptsAfter L pre).flatMap fun v => (alw L).map fun s => addV v g (gainF L s) := by
  unfold ptsAfter
  rw [List.length_append, List.length_singleton, prodS, List.map_flatMap, List.flatMap_map]
  have : ∀ l : List (List Sg), (∀ r ∈ l, r.length = pre.length) → l.flatMap (fun r => ((alw L).map fun x => r ++ [x]).map fun r => finL L ((pre ++ [g]).zip r)) = l.flatMap fun r => (alw L).map fun s => addV (finL L (pre.zip r)) g (gainF L s) := by
    intro l
    induction l with
    | nil => intro _; rfl
    | cons r l ih =>
      intro h
      rw [List.flatMap_cons, List.flatMap_cons, ih fun q hq => h q (by simp [hq])]
      congr 1
      rw [List.map_map]
      apply List.map_congr_left
      intro s _
      show finL L ((pre ++ [g]).zip (r ++ [s])) = _
      rw [List.zip_append (by rw [h r (by simp)])]
      exact finL_snoc L _ _
  exact this _ fun r hr => (mem_prodS.mp hr).1
theorem ptsAfter_all (L : Lg) : ptsAfter L L.gs = (allR L).map (fin L) := by
  unfold ptsAfter
  apply List.map_congr_left
  intro r _
  rw [fin_eq]
theorem ptsAfter_length (L : Lg) (pre : List (Int × Int)) : (ptsAfter L pre).length = (alw L).length ^ pre.length := by
  unfold ptsAfter; rw [List.length_map, prodS_length]
theorem added_V {Φ : Tab} (ha : AddOk Φ) {v : List Int} {g q : Int × Int} (h1 : 0 ≤ g.1) (h2 : g.1 < v.length) (h3 : 0 ≤ g.2) (h4 : g.2 < v.length) (h5 : g.1 ≠ g.2) : Says Φ "added" [rowD v, gmD g, gmD q] (rowD (addV v g q)) := by
  have h := ha v.length (fun i => v.getD i 0) g q h1 h2 h3 h4 h5
  rw [← vec_of v] at h
  exact h
/-- what count_finals needs of a league -/
structure Lg.Gd (L : Lg) : Prop where
  g7 : L.gs.length ≤ 7
  p6 : L.pts.length ≤ 6
  gg : ∀ g ∈ L.gs, 0 ≤ g.1 ∧ g.1 < L.pts.length ∧ 0 ≤ g.2 ∧ g.2 < L.pts.length ∧ g.1 ≠ g.2
theorem Lg.Ok.gd {L : Lg} (h : L.Ok) (h7 : L.gs.length ≤ 7) : L.Gd := ⟨h7, h.p6, h.gg⟩
theorem exS_dput {Φ : Tab} {i : Nat} {k e : E} {ρ : Env} {kvs : List (PyData × PyData)} {x d : PyData} (he : evE Φ e ρ = some d) (hk : evE Φ k ρ = some x) (hb : ρ[i]? = some (.ow (.dict kvs))) (h1 : (toKT x).isSome = true) (h2 : kvs.length < 16777216) : exS Φ (.put i k e) ρ = some (.nx (ρ.set i (.ow (.dict (putD kvs x d))))) := by
  unfold exS
  rw [he, Option.bind_some, hk, Option.bind_some, hb]
  simp only
  rw [if_pos ⟨h1, h2⟩]
theorem r_count_finals {Φ : Tab} (hal : AlwOk Φ) (hg : GainOk Φ) (ha : AddOk Φ) (L : Lg) (hL : L.Gd) : ∃ kvs : KV, Hist kvs ((allR L).map (fin L)) ∧ runFn Φ d_count_finals [L.d] = some (.ok (.dict (dcD kvs))) := by
  have key : ∃ kvs : KV, Hist kvs (ptsAfter L L.gs) ∧ ∃ b5 b6 b7 b8 b9 : B, forGo (.n 5) (exL Φ (.cons (.set 6 .o .dn) (.cons (.fors (.n 7) (.e (.v 4)) (.cons (.fors (.n 8) (.e (.call "allowed" (.cons (.v 1) .nil))) (.cons (.set 9 .s (.call "added" (.cons (.v 7) (.cons (.v 5) (.cons (.call "gains" (.cons (.v 1) (.cons (.v 8) .nil))) .nil))))) (.cons (.put 6 (.v 9) (.bin .Add (.oget 6 (.v 9) (.c (.int 0))) (.ix (.v 4) (.v 7)))) .nil))) .nil)) (.cons (.fr 6) (.cons (.set 4 .s (.v 6)) .nil))))) (L.gs.map gmD)
      [.sh L.d, .sh L.rule, .sh (.tuple (iL L.pts)), .sh (.tuple (L.gs.map gmD)), .sh (.dict (dcD [(L.pts, 1)])), .un, .un, .un, .un, .un] = some (.nx [.sh L.d, .sh L.rule, .sh (.tuple (iL L.pts)), .sh (.tuple (L.gs.map gmD)), .sh (.dict (dcD kvs)), b5, b6, b7, b8, b9]) := by
    obtain ⟨ρ', hf, kvs, hk, b5, b6, b7, b8, b9, rfl⟩ := forGo_each (t := .n 5) (e := gmD) (body := exL Φ (.cons (.set 6 .o .dn) (.cons (.fors (.n 7) (.e (.v 4)) (.cons (.fors (.n 8) (.e (.call "allowed" (.cons (.v 1) .nil))) (.cons (.set 9 .s (.call "added" (.cons (.v 7) (.cons (.v 5) (.cons (.call "gains" (.cons (.v 1) (.cons (.v 8) .nil))) .nil))))) (.cons (.put 6 (.v 9) (.bin .Add (.oget 6 (.v 9) (.c (.int 0))) (.ix (.v 4) (.v 7)))) .nil))) .nil)) (.cons (.fr 6) (.cons (.set 4 .s (.v 6)) .nil)))))
      (fun pre ρ => ∃ kvs : KV, Hist kvs (ptsAfter L pre) ∧ ∃ b5 b6 b7 b8 b9 : B, ρ = [.sh L.d, .sh L.rule, .sh (.tuple (iL L.pts)), .sh (.tuple (L.gs.map gmD)), .sh (.dict (dcD kvs)), b5, b6, b7, b8, b9]) L.gs [] _ (fun pre g post ρ hp hI => by
        obtain ⟨kvs, hk, b5, b6, b7, b8, b9, rfl⟩ := hI
        obtain ⟨g1, g2, g3, g4, g5⟩ := hL.gg g (by rw [show L.gs = pre ++ g :: post from by simpa using hp]; simp)
        have hpl : pre.length + 1 ≤ L.gs.length := by
          have := congrArg List.length hp
          simp at this; omega
        have h7 := hL.g7
        have kl : ∀ p ∈ kvs, p.1.length = L.pts.length := fun p hp => by
          have := (hk.mem p.1).mp (List.mem_map.mpr ⟨p, hp, rfl⟩)
          obtain ⟨r, _, e⟩ := List.mem_map.mp this
          rw [← e, finL_length]
        have kn : kvs ≠ [] := fun e => by
          have h1 := hk.pm.length_eq
          rw [e, ptsAfter_length] at h1
          have h2 : 0 < (alw L).length ^ pre.length := Nat.pow_pos (List.length_pos_iff.mpr (alw_ne L))
          simp [expd] at h1
          omega
        have tot : (kvs.flatMap fun p => (alw L).flatMap fun s => List.replicate p.2 (addV p.1 g (gainF L s))).length ≤ 2187 := by
          have h1 := ((expd_flat kvs (alw L) fun v s => addV v g (gainF L s)).trans (hk.pm.flatMap_right _)).length_eq
          rw [← ptsAfter_snoc, ptsAfter_length] at h1
          rw [h1]
          exact pow_le7 (alw_len L) (by simp; omega)
        -- over the points so far
        obtain ⟨ρ2, hf2, m2, hm2, c7, c8, c9, rfl⟩ := forGo_each (t := .n 7) (e := fun p : List Int × Nat => rowD p.1) (body := exL Φ (.cons (.fors (.n 8) (.e (.call "allowed" (.cons (.v 1) .nil))) (.cons (.set 9 .s (.call "added" (.cons (.v 7) (.cons (.v 5) (.cons (.call "gains" (.cons (.v 1) (.cons (.v 8) .nil))) .nil))))) (.cons (.put 6 (.v 9) (.bin .Add (.oget 6 (.v 9) (.c (.int 0))) (.ix (.v 4) (.v 7)))) .nil))) .nil))
          (fun pp ρ => ∃ m : KV, Hist m (pp.flatMap fun p => (alw L).flatMap fun s => List.replicate p.2 (addV p.1 g (gainF L s))) ∧ ∃ b7 b8 b9 : B, ρ = [.sh L.d, .sh L.rule, .sh (.tuple (iL L.pts)), .sh (.tuple (L.gs.map gmD)), .sh (.dict (dcD kvs)), .sh (gmD g), .ow (.dict (dcD m)), b7, b8, b9]) kvs [] [.sh L.d, .sh L.rule, .sh (.tuple (iL L.pts)), .sh (.tuple (L.gs.map gmD)), .sh (.dict (dcD kvs)), .sh (gmD g), .ow (.dict (dcD [])), b7, b8, b9] (fun pp p post2 ρ hp2 hI => by
            obtain ⟨m, hm, b7, b8, b9, rfl⟩ := hI
            have hpm : p ∈ kvs := by rw [show kvs = pp ++ p :: post2 from by simpa using hp2]; simp
            have hpv := kl p hpm
            have hp1 := hk.pos p hpm
            obtain ⟨ρ3, hf3, m3, hm3, d8, d9, rfl⟩ := forGo_each (t := .n 8) (e := sgD) (body := exL Φ (.cons (.set 9 .s (.call "added" (.cons (.v 7) (.cons (.v 5) (.cons (.call "gains" (.cons (.v 1) (.cons (.v 8) .nil))) .nil))))) (.cons (.put 6 (.v 9) (.bin .Add (.oget 6 (.v 9) (.c (.int 0))) (.ix (.v 4) (.v 7)))) .nil)))
              (fun ss ρ => ∃ m' : KV, Hist m' ((pp.flatMap fun p => (alw L).flatMap fun s => List.replicate p.2 (addV p.1 g (gainF L s))) ++ ss.flatMap fun s => List.replicate p.2 (addV p.1 g (gainF L s))) ∧ ∃ b8 b9 : B, ρ = [.sh L.d, .sh L.rule, .sh (.tuple (iL L.pts)), .sh (.tuple (L.gs.map gmD)), .sh (.dict (dcD kvs)), .sh (gmD g), .ow (.dict (dcD m')), .sh (rowD p.1), b8, b9]) (alw L) [] [.sh L.d, .sh L.rule, .sh (.tuple (iL L.pts)), .sh (.tuple (L.gs.map gmD)), .sh (.dict (dcD kvs)), .sh (gmD g), .ow (.dict (dcD m)), .sh (rowD p.1), b8, b9] (fun ss s post3 ρ hp3 hI => by
                obtain ⟨m', hm', b8, b9, rfl⟩ := hI
                have hs : SgOk L s := mem_alw.mp (by rw [show alw L = ss ++ s :: post3 from by simpa using hp3]; simp)
                have q1 := added_V (q := gainF L s) ha (v := p.1) g1 (by rw [hpv]; exact g2) g3 (by rw [hpv]; exact g4) g5
                have q2 : evE Φ (.call "gains" (.cons (.v 1) (.cons (.v 8) .nil))) [.sh L.d, .sh L.rule, .sh (.tuple (iL L.pts)), .sh (.tuple (L.gs.map gmD)), .sh (.dict (dcD kvs)), .sh (gmD g), .ow (.dict (dcD m')), .sh (rowD p.1), .sh (sgD s), b9] = some (gmD (gainF L s)) := evE_call (hg L s hs) rfl
                have q3 : evE Φ (.oget 6 (.v 9) (.c (.int 0))) [.sh L.d, .sh L.rule, .sh (.tuple (iL L.pts)), .sh (.tuple (L.gs.map gmD)), .sh (.dict (dcD kvs)), .sh (gmD g), .ow (.dict (dcD m')), .sh (rowD p.1), .sh (sgD s), .sh (rowD (addV p.1 g (gainF L s)))] = some (.int (getH m' (addV p.1 g (gainF L s)))) := by
                  have h1 : lookO (some (.ow (.dict (dcD m')))) (rowD (addV p.1 g (gainF L s))) = some (lookD (dcD m') (rowD (addV p.1 g (gainF L s)))) := by
                    show (if (toKT _).isSome = true then _ else _) = _
                    rw [if_pos (toKT_rowD _)]
                  show (lookO (some (.ow (.dict (dcD m')))) (rowD (addV p.1 g (gainF L s)))).map (fun o => o.getD (.int 0)) = _
                  rw [h1, look_dcD]
                  by_cases hmem : addV p.1 g (gainF L s) ∈ m'.map (·.1)
                  · rw [if_pos hmem]; rfl
                  · rw [if_neg hmem, getH_none hmem]; rfl
                have q4 : evE Φ (.ix (.v 4) (.v 7)) [.sh L.d, .sh L.rule, .sh (.tuple (iL L.pts)), .sh (.tuple (L.gs.map gmD)), .sh (.dict (dcD kvs)), .sh (gmD g), .ow (.dict (dcD m')), .sh (rowD p.1), .sh (sgD s), .sh (rowD (addV p.1 g (gainF L s)))] = some (.int (p.2 : Nat)) := by
                  refine evE_ix (x := .dict (dcD kvs)) (y := rowD p.1) rfl rfl ?_
                  show (lookS (dcD kvs) (rowD p.1)).bind id = _
                  rw [lookS_dcD kn, look_dcD, if_pos (List.mem_map.mpr ⟨p, hpm, rfl⟩), getH_mem hk.nd hpm]; rfl
                refine ⟨_, _, rfl, (exL_nx (exS_set (d := rowD (addV p.1 g (gainF L s))) (evE_call q1 (evL3 rfl rfl q2)) rfl (by simp))).trans ((exL_nx (exS_dput (kvs := dcD m') (x := rowD (addV p.1 g (gainF L s))) (evE_add q3 q4) rfl rfl (toKT_rowD _) ?_)).trans rfl), putH m' (addV p.1 g (gainF L s)) (getH m' (addV p.1 g (gainF L s)) + p.2), ?_, .sh (sgD s), .sh (rowD (addV p.1 g (gainF L s))), ?_⟩
                · rw [List.length_map]
                  have h1 := hm'.len
                  have e1 : kvs = pp ++ p :: post2 := by simpa using hp2
                  have e2 : alw L = ss ++ s :: post3 := by simpa using hp3
                  have h2 : ((pp.flatMap fun p => (alw L).flatMap fun s => List.replicate p.2 (addV p.1 g (gainF L s))) ++ ss.flatMap fun s => List.replicate p.2 (addV p.1 g (gainF L s))).length ≤ (kvs.flatMap fun p => (alw L).flatMap fun s => List.replicate p.2 (addV p.1 g (gainF L s))).length := by
                    have e3 : ((alw L).flatMap fun s => List.replicate p.2 (addV p.1 g (gainF L s))).length = (ss.flatMap fun s => List.replicate p.2 (addV p.1 g (gainF L s))).length + ((s :: post3).flatMap fun s => List.replicate p.2 (addV p.1 g (gainF L s))).length := by
                      conv => lhs; rw [e2]
                      rw [List.flatMap_append, List.length_append]
                    conv => rhs; rw [e1]
                    rw [List.flatMap_append, List.flatMap_cons, List.length_append, List.length_append, List.length_append, e3]
                    omega
                  omega
                · have := hm'.add (addV p.1 g (gainF L s)) hp1
                  rw [List.append_assoc] at this
                  simpa [List.flatMap_append] using this
                · rw [← put_dcD]; simp) ⟨m, by simpa using hm, b8, b9, rfl⟩
            refine ⟨_, _, rfl, (exL_nx ((exS_for (evI_list (evE_call (hal L) rfl))).trans hf3)).trans rfl, m3, ?_, .sh (rowD p.1), d8, d9, rfl⟩
            simpa [List.flatMap_append] using hm3) ⟨[], ⟨by simp, by simp, List.Perm.refl _⟩, b7, b8, b9, rfl⟩
        refine ⟨_, _, rfl, (exL_nx (exS_set (d := .dict []) (b := .ow (.dict [])) rfl rfl (by simp))).trans ((exL_nx ((exS_for (ds := kvs.map fun p => rowD p.1) (by rw [evI_dict (kvs := dcD kvs) rfl, List.map_map]; rfl)).trans hf2)).trans ((exL_nx (s := .fr 6) rfl).trans ((exL_nx (exS_set (d := .dict (dcD m2)) rfl rfl (by simp))).trans rfl))), m2, ?_, .sh (gmD g), .sh (.dict (dcD m2)), c7, c8, c9, rfl⟩
        rw [ptsAfter_snoc]
        exact hm2.perm ((expd_flat kvs (alw L) fun v s => addV v g (gainF L s)).trans (hk.pm.flatMap_right _))) ⟨[(L.pts, 1)], ⟨by simp, by simp, List.Perm.refl _⟩, .un, .un, .un, .un, .un, rfl⟩
    exact ⟨kvs, by simpa using hk, b5, b6, b7, b8, b9, hf⟩
  obtain ⟨kvs, hk, b5, b6, b7, b8, b9, hf⟩ := key
  refine ⟨kvs, by rw [← ptsAfter_all]; exact hk, ?_⟩
  refine runFn_of rfl ?_
  unfold d_count_finals
  refine (exL_nx (ρ1 := [.sh L.d, .sh L.rule, .sh (.tuple (iL L.pts)), .sh (.tuple (L.gs.map gmD)), .un, .un, .un, .un, .un, .un]) rfl).trans ?_
  refine (exL_nx (exS_set (d := .dict (dcD [(L.pts, 1)])) ?_ rfl (by simp))).trans ?_
  · show (if (toKT (rowD L.pts)).isSome = true then some (PyData.dict [(rowD L.pts, .int 1)]) else none) = _
    rw [if_pos (toKT_rowD _)]; rfl
  refine (exL_nx ((exS_for (evI_tuple rfl)).trans hf)).trans ?_
  exact exL_rt (exS_ret rfl)
end OL

end
section
set_option Elab.async false
set_option linter.all false
set_option maxRecDepth 100000
set_option maxHeartbeats 2000000
namespace OL
open PySem PySem.Spec PyProof.Rows L2 OLd
theorem evE_sset {Φ : Tab} {a : E} {ρ : Env} {l : List Int} (h : evE Φ a ρ = some (.list (iL l))) (h1 : l.length < 4000) (h2 : (firsts l).length < 64) : evE Φ (.sset a) ρ = some (.list (iL (sortU l))) := by
  unfold evE
  rw [h, Option.bind_some]
  simp only [ints_q, Option.bind_some]
  rw [if_pos ⟨h1, h2⟩]
/-! ### places -/
def plcV (v : List Int) (t : Nat) : Int := 1 + ((v.filter fun o => decide (v.getD t 0 < o)).length : Nat)
theorem r_place_of {Φ : Tab} (v : List Int) (t : Nat) (h : t < v.length) : runFn Φ d_place_of [rowD v, .int t] = some (.ok (.int (plcV v t))) := by
  refine runFn_of rfl ?_
  unfold d_place_of
  refine exL_rt (exS_ret ?_)
  unfold plcV
  refine evE_add rfl ((evE_lenl (xs := (v.filter fun o => decide (v.getD t 0 < o)).map PyData.int) ?_).trans (by simp))
  refine lc_filt (l := v) (e := PyData.int) (g := PyData.int) (r := fun o => [.sh (rowD v), .sh (.int t), .sh (.int o)]) (evI_tuple rfl) (fun _ _ => rfl) (fun o _ => ?_) (fun _ _ => rfl)
  refine evE_cmp (x := .int o) (y := .int (v.getD t 0)) rfl (evE_ix (x := rowD v) (y := .int t) rfl rfl ?_) rfl
  refine atI_nat (by omega) ?_
  simp [h]
def PlaceOk (Φ : Tab) : Prop := ∀ (v : List Int) (t : Nat), t < v.length → Says Φ "place_of" [rowD v, .int t] (.int (plcV v t))
theorem plcV_pos (v : List Int) (t : Nat) : 1 ≤ plcV v t := by unfold plcV; omega
theorem plcV_le (v : List Int) (t : Nat) (h : t < v.length) : plcV v t ≤ v.length := by
  unfold plcV
  have hg : v.getD t 0 = v[t] := by simp [h]
  have h1 : (v.filter fun o => decide (v.getD t 0 < o)).length < v.length := by
    have : (v.filter fun o => decide (v.getD t 0 < o)).length ≠ v.length := fun e => by
      have hall := List.length_filter_eq_length_iff.mp e v[t] (List.getElem_mem h)
      rw [hg] at hall
      simp at hall
    have := List.length_filter_le (fun o => decide (v.getD t 0 < o)) v
    omega
  omega
theorem nodup_len : ∀ {l m : List Int}, l.Nodup → (∀ x ∈ l, x ∈ m) → l.length ≤ m.length
  | [], m, _, _ => by simp
  | a :: l, m, nd, h => by
    obtain ⟨n1, n2⟩ := List.nodup_cons.mp nd
    have ha := h a (by simp)
    have h2 : ∀ x ∈ l, x ∈ m.erase a := fun x hx => by
      have hne : x ≠ a := fun e => n1 (e ▸ hx)
      exact (List.mem_erase_of_ne hne).mpr (h x (by simp [hx]))
    have := nodup_len n2 h2
    rw [List.length_erase_of_mem ha] at this
    have : 0 < m.length := List.length_pos_of_mem ha
    simp only [List.length_cons]
    omega
theorem firsts_small {l : List Int} {k : Nat} (h : ∀ x ∈ l, 1 ≤ x ∧ x ≤ k) : (firsts l).length ≤ k := by
  have h2 : ∀ x ∈ firsts l, x ∈ (List.range k).map fun i : Nat => (i : Int) + 1 := fun x hx => by
    have := h x ((mem_firsts l x).mp hx)
    refine List.mem_map.mpr ⟨(x - 1).toNat, List.mem_range.mpr (by omega), by omega⟩
  have := nodup_len (firsts_nodup l) h2
  simpa using this
def CntOk (Φ : Tab) : Prop := ∀ L : Lg, L.Gd → ∃ kvs : KV, Hist kvs ((allR L).map (fin L)) ∧ Says Φ "count_finals" [L.d] (.dict (dcD kvs))
/-- the places that the team has for some results -/
def plcs (L : Lg) (t : Nat) : List Int := sortU ((allR L).map fun r => plcV (fin L r) t)
theorem fin_length (L : Lg) (r : List Sg) : (fin L r).length = L.pts.length := by simp
theorem allR_ne (L : Lg) : allR L ≠ [] := fun e => by
  have h := prodS_length (alw L) L.gs.length
  have h2 : 0 < (alw L).length ^ L.gs.length := Nat.pow_pos (List.length_pos_iff.mpr (alw_ne L))
  rw [show prodS (alw L) L.gs.length = [] from e] at h
  simp at h
  omega
theorem allR_len (L : Lg) (h : L.gs.length ≤ 7) : (allR L).length ≤ 2187 := by
  rw [prodS_length]; exact pow_le7 (alw_len L) h
theorem hist_ne {L : Lg} {kvs : KV} (h : Hist kvs ((allR L).map (fin L))) : kvs ≠ [] := fun e => by
  have h1 := h.pm.length_eq
  rw [e, List.length_map] at h1
  have := List.length_pos_iff.mpr (allR_ne L)
  simp [expd] at h1
  omega
theorem r_find_places {Φ : Tab} (hc : CntOk Φ) (hp : PlaceOk Φ) (L : Lg) (hL : L.Gd) (t : Nat) (ht : t < L.pts.length) : runFn Φ d_find_places [L.d, .int t] = some (.ok (.list (iL (plcs L t)))) := by
  obtain ⟨kvs, hk, hs⟩ := hc L hL
  have h6 := hL.p6
  have hln : ∀ p ∈ kvs, p.1.length = L.pts.length := fun p hp' => by
    have := (hk.mem p.1).mp (List.mem_map.mpr ⟨p, hp', rfl⟩)
    obtain ⟨r, _, e⟩ := List.mem_map.mp this
    rw [← e]; exact fin_length L r
  refine runFn_of rfl ?_
  unfold d_find_places
  refine exL_rt (exS_ret ?_)
  have h1 : evE Φ (.lc (.call "place_of" (.cons (.v 2) (.cons (.v 1) .nil))) (.n 2) (.e (.call "count_finals" (.cons (.v 0) .nil))) .no) [.sh L.d, .sh (.int t), .un] = some (.list (kvs.map fun p => .int (plcV p.1 t))) := by
    refine lc_map (l := kvs) (e := fun p : List Int × Nat => rowD p.1) (r := fun p => [.sh L.d, .sh (.int t), .sh (rowD p.1)]) ?_ (fun _ _ => rfl) (fun p hp' => ?_)
    · rw [evI_dict (kvs := dcD kvs) (evE_call hs rfl), List.map_map]; rfl
    · exact evE_call (hp p.1 t (by rw [hln p hp']; exact ht)) rfl
  have e1 : (kvs.map fun p => PyData.int (plcV p.1 t)) = iL (kvs.map fun p => plcV p.1 t) := by simp
  have hsm : ∀ x ∈ kvs.map fun p => plcV p.1 t, 1 ≤ x ∧ x ≤ (6 : Nat) := fun x hx => by
    obtain ⟨p, hp', rfl⟩ := List.mem_map.mp hx
    have a := plcV_pos p.1 t
    have b := plcV_le p.1 t (by rw [hln p hp']; exact ht)
    rw [hln p hp'] at b
    omega
  have hlen : (kvs.map fun p => plcV p.1 t).length < 4000 := by
    have a := hk.len
    have b := allR_len L hL.g7
    rw [List.length_map] at a ⊢
    omega
  have h64 := firsts_small hsm
  have e2 : sortU (kvs.map fun p => plcV p.1 t) = plcs L t := by
    refine sortU_congr fun x => ?_
    simp only [List.mem_map]
    constructor
    · rintro ⟨p, hp', rfl⟩
      have := (hk.mem p.1).mp (List.mem_map.mpr ⟨p, hp', rfl⟩)
      obtain ⟨r, hr, e⟩ := List.mem_map.mp this
      exact ⟨r, hr, by rw [← e]⟩
    · rintro ⟨r, hr, rfl⟩
      have := (hk.mem (fin L r)).mpr (List.mem_map.mpr ⟨r, hr, rfl⟩)
      obtain ⟨p, hp', e⟩ := List.mem_map.mp this
      exact ⟨p, hp', by rw [← e]⟩
  rw [e1] at h1
  rw [← e2]
  exact evE_sset h1 hlen (by omega)
def FPlOk (Φ : Tab) : Prop := ∀ (L : Lg) (t : Nat), L.Gd → t < L.pts.length → Says Φ "find_places" [L.d, .int t] (.list (iL (plcs L t)))
theorem mem_plcs {L : Lg} {t : Nat} {x : Int} : x ∈ plcs L t ↔ ∃ r, RsOk L r ∧ plcV (fin L r) t = x := by
  unfold plcs
  rw [mem_sortU, List.mem_map]
  constructor
  · rintro ⟨r, hr, e⟩; exact ⟨r, mem_allR.mp hr, e⟩
  · rintro ⟨r, hr, e⟩; exact ⟨r, mem_allR.mpr hr, e⟩
theorem plcs_ne (L : Lg) (t : Nat) : plcs L t ≠ [] := fun e => by
  obtain ⟨r, hr⟩ := List.exists_mem_of_ne_nil _ (allR_ne L)
  have : plcV (fin L r) t ∈ plcs L t := mem_plcs.mpr ⟨r, mem_allR.mp hr, rfl⟩
  rw [e] at this
  cases this
theorem plcs_lt (L : Lg) (t : Nat) : (plcs L t).Pairwise (· < ·) := sortU_lt _
/-- the least and the greatest place -/
def bst (L : Lg) (t : Nat) : Int := (plcs L t).head (plcs_ne L t)
def wst (L : Lg) (t : Nat) : Int := (plcs L t).getLast (plcs_ne L t)
theorem bst_mem (L : Lg) (t : Nat) : bst L t ∈ plcs L t := List.head_mem _
theorem wst_mem (L : Lg) (t : Nat) : wst L t ∈ plcs L t := List.getLast_mem _
theorem bst_le {L : Lg} {t : Nat} {x : Int} (h : x ∈ plcs L t) : bst L t ≤ x := by
  have key : ∀ (l : List Int) (hne : l ≠ []), l.Pairwise (· < ·) → ∀ x ∈ l, l.head hne ≤ x := by
    intro l hne hp x h
    cases l with
    | nil => cases h
    | cons a l =>
      simp only [List.head_cons]
      rcases List.mem_cons.mp h with e | e
      · omega
      · have := (List.pairwise_cons.mp hp).1 x e; omega
  exact key _ _ (plcs_lt L t) x h
theorem le_wst {L : Lg} {t : Nat} {x : Int} (h : x ∈ plcs L t) : x ≤ wst L t := by
  have hp := plcs_lt L t
  unfold wst
  have key : ∀ (l : List Int) (hne : l ≠ []), l.Pairwise (· < ·) → ∀ x ∈ l, x ≤ l.getLast hne := by
    intro l
    induction l with
    | nil => intro hne; exact absurd rfl hne
    | cons a l ih =>
      intro hne hp x hx
      cases l with
      | nil => simp at hx; simp [hx]
      | cons b l =>
        obtain ⟨p1, p2⟩ := List.pairwise_cons.mp hp
        rw [List.getLast_cons (by simp)]
        rcases List.mem_cons.mp hx with e | e
        · have h1 := p1 b (by simp)
          have h2 := ih (by simp) p2 b (by simp)
          omega
        · exact ih (by simp) p2 x e
  exact key _ _ hp x h
theorem bst_iff {L : Lg} {t : Nat} {x : Int} : bst L t = x ↔ x ∈ plcs L t ∧ ∀ y ∈ plcs L t, x ≤ y := by
  constructor
  · rintro rfl; exact ⟨bst_mem L t, fun y hy => bst_le hy⟩
  · rintro ⟨h1, h2⟩
    have := bst_le h1
    have := h2 _ (bst_mem L t)
    omega
theorem wst_iff {L : Lg} {t : Nat} {x : Int} : wst L t = x ↔ x ∈ plcs L t ∧ ∀ y ∈ plcs L t, y ≤ x := by
  constructor
  · rintro rfl; exact ⟨wst_mem L t, fun y hy => le_wst hy⟩
  · rintro ⟨h1, h2⟩
    have := le_wst h1
    have := h2 _ (wst_mem L t)
    omega
/-- can the team be first; is it for sure -/
def canF (L : Lg) (t : Nat) : Bool := decide (bst L t = 1)
def surF (L : Lg) (t : Nat) : Bool := decide (wst L t = 1)
theorem plcs_pos {L : Lg} {t : Nat} {x : Int} (h : x ∈ plcs L t) : 1 ≤ x := by
  obtain ⟨r, _, rfl⟩ := mem_plcs.mp h
  exact plcV_pos _ _
theorem canF_iff {L : Lg} {t : Nat} : canF L t = true ↔ ∃ r, RsOk L r ∧ plcV (fin L r) t = 1 := by
  unfold canF
  rw [decide_eq_true_eq, bst_iff, mem_plcs]
  exact ⟨fun h => h.1, fun h => ⟨h, fun y hy => plcs_pos hy⟩⟩
theorem surF_iff {L : Lg} {t : Nat} : surF L t = true ↔ ∀ r, RsOk L r → plcV (fin L r) t = 1 := by
  unfold surF
  rw [decide_eq_true_eq, wst_iff]
  constructor
  · rintro ⟨_, h⟩ r hr
    have h1 := h _ (mem_plcs.mpr ⟨r, hr, rfl⟩)
    have := plcV_pos (fin L r) t
    omega
  · intro h
    refine ⟨?_, fun y hy => ?_⟩
    · obtain ⟨r, hr⟩ := List.exists_mem_of_ne_nil _ (allR_ne L)
      exact mem_plcs.mpr ⟨r, mem_allR.mp hr, h r (mem_allR.mp hr)⟩
    · obtain ⟨r, hr, rfl⟩ := mem_plcs.mp hy
      rw [h r hr]; omega
theorem atI_head {xs : List PyData} {x : PyData} (h : xs.head? = some x) : atI xs 0 = some x := by
  refine atI_nat (by decide) ?_
  rw [List.head?_eq_getElem?] at h
  exact h
theorem atI_last {xs : List PyData} {x : PyData} (h : xs.getLast? = some x) : atI xs (-1) = some x := by
  rw [List.getLast?_eq_getElem?] at h
  have hl := (List.getElem?_eq_some_iff.mp h).1
  unfold atI ixN
  rw [if_neg (by decide), if_pos (by omega), Option.bind_some]
  rw [← h]
  congr 1
  omega
theorem bst_at (L : Lg) (t : Nat) : atI (iL (plcs L t)) 0 = some (.int (bst L t)) := by
  refine atI_head ?_
  rw [List.head?_map, List.head?_eq_some_head (plcs_ne L t)]; rfl
theorem wst_at (L : Lg) (t : Nat) : atI (iL (plcs L t)) (-1) = some (.int (wst L t)) := by
  refine atI_last ?_
  rw [List.getLast?_map, List.getLast?_eq_some_getLast (plcs_ne L t)]; rfl
theorem r_has_chance {Φ : Tab} (hf : FPlOk Φ) (L : Lg) (hL : L.Gd) (t : Nat) (ht : t < L.pts.length) : runFn Φ d_has_chance [L.d, .int t] = some (.ok (.bool (canF L t))) := by
  refine runFn_of rfl (exL_rt (exS_ret (evE_cmp (x := .int (bst L t)) (y := .int 1) (evE_ix (y := .int 0) (evE_call (hf L t hL ht) rfl) rfl (bst_at L t)) rfl (cmp_eq (eqD_int _ _)))))
def ChanceOk (Φ : Tab) : Prop := ∀ (L : Lg) (t : Nat), L.Gd → t < L.pts.length → Says Φ "has_chance" [L.d, .int t] (.bool (canF L t))
theorem r_is_sure {Φ : Tab} (hf : FPlOk Φ) (L : Lg) (hL : L.Gd) (t : Nat) (ht : t < L.pts.length) : runFn Φ d_is_sure [L.d, .int t] = some (.ok (.bool (surF L t))) := by
  refine runFn_of rfl (exL_rt (exS_ret (evE_cmp (x := .int (wst L t)) (y := .int 1) (evE_ix (y := .int (-1)) (evE_call (hf L t hL ht) rfl) rfl (wst_at L t)) rfl (cmp_eq (eqD_int _ _)))))
def SureOk (Φ : Tab) : Prop := ∀ (L : Lg) (t : Nat), L.Gd → t < L.pts.length → Says Φ "is_sure" [L.d, .int t] (.bool (surF L t))
theorem r_check_both {Φ : Tab} (hc : CheckOk Φ) (ht : TeamOk Φ) (L : Lg) (hL : L.Ok) (t : Nat) (h : t < L.pts.length) : runFn Φ d_check_both [L.d, .int t] = some (.ok .none) := by
  refine runFn_nx (ρ := [.sh L.d, .sh (.int t)]) rfl ?_
  refine (exL_nx (exS_callS (hc L hL) rfl)).trans ?_
  exact (exL_nx (exS_callS (ht L t (by omega) (by omega)) rfl)).trans rfl
def BothOk (Φ : Tab) : Prop := ∀ (L : Lg) (t : Nat), L.Ok → t < L.pts.length → Says Φ "check_both" [L.d, .int t] .none
theorem r_can_be_first {Φ : Tab} (hb : BothOk Φ) (hf : ChanceOk Φ) (L : Lg) (hL : L.Ok) (hG : L.Gd) (t : Nat) (ht : t < L.pts.length) : runFn Φ d_can_be_first [L.d, .int t] = some (.ok (.bool (canF L t))) :=
  runFn_of rfl ((exL_nx (exS_callS (hb L t hL ht) rfl)).trans (exL_rt (exS_ret (evE_call (hf L t hG ht) rfl))))
theorem r_is_first_for_sure {Φ : Tab} (hb : BothOk Φ) (hf : SureOk Φ) (L : Lg) (hL : L.Ok) (hG : L.Gd) (t : Nat) (ht : t < L.pts.length) : runFn Φ d_is_first_for_sure [L.d, .int t] = some (.ok (.bool (surF L t))) :=
  runFn_of rfl ((exL_nx (exS_callS (hb L t hL ht) rfl)).trans (exL_rt (exS_ret (evE_call (hf L t hG ht) rfl))))
theorem r_best_place {Φ : Tab} (hb : BothOk Φ) (hf : FPlOk Φ) (L : Lg) (hL : L.Ok) (hG : L.Gd) (t : Nat) (ht : t < L.pts.length) : runFn Φ d_best_place [L.d, .int t] = some (.ok (.int (bst L t))) :=
  runFn_of rfl ((exL_nx (exS_callS (hb L t hL ht) rfl)).trans (exL_rt (exS_ret (evE_ix (y := .int 0) (evE_call (hf L t hG ht) rfl) rfl (bst_at L t)))))
theorem r_worst_place {Φ : Tab} (hb : BothOk Φ) (hf : FPlOk Φ) (L : Lg) (hL : L.Ok) (hG : L.Gd) (t : Nat) (ht : t < L.pts.length) : runFn Φ d_worst_place [L.d, .int t] = some (.ok (.int (wst L t))) :=
  runFn_of rfl ((exL_nx (exS_callS (hb L t hL ht) rfl)).trans (exL_rt (exS_ret (evE_ix (y := .int (-1)) (evE_call (hf L t hG ht) rfl) rfl (wst_at L t)))))
theorem r_possible_places {Φ : Tab} (hb : BothOk Φ) (hf : FPlOk Φ) (L : Lg) (hL : L.Ok) (hG : L.Gd) (t : Nat) (ht : t < L.pts.length) : runFn Φ d_possible_places [L.d, .int t] = some (.ok (.list (iL (plcs L t)))) :=
  runFn_of rfl ((exL_nx (exS_callS (hb L t hL ht) rfl)).trans (exL_rt (exS_ret (evE_call (hf L t hG ht) rfl))))
/-! ### teams alive -/
def livs (L : Lg) : List Nat := (List.range L.pts.length).filter fun t => canF L t
abbrev nL (l : List Nat) : List PyData := l.map fun t => .int (t : Nat)
theorem r_find_alive {Φ : Tab} (hf : ChanceOk Φ) (L : Lg) (hL : L.Gd) : runFn Φ d_find_alive [L.d] = some (.ok (.list (nL (livs L)))) := by
  have h6 := hL.p6
  refine runFn_of rfl (exL_rt (exS_ret ?_))
  refine lc_filt (l := List.range L.pts.length) (e := fun i : Nat => .int i) (r := fun i => [.sh L.d, .sh (.int (i : Nat))]) ?_ (fun _ _ => rfl) (fun t ht => evE_call (hf L t hL (List.mem_range.mp ht)) rfl) (fun _ _ => rfl)
  have h := evE_len (Φ := Φ) (e := .ix (.v 0) (.c (.int 1))) (ρ := [.sh L.d, .un]) (xs := iL L.pts) (ix_d0 rfl).2.1
  rw [List.length_map] at h
  refine (evI_r1 h (by omega) (by omega)).trans ?_
  unfold rgD
  simp
def FAlOk (Φ : Tab) : Prop := ∀ L : Lg, L.Gd → Says Φ "find_alive" [L.d] (.list (nL (livs L)))
theorem r_alive {Φ : Tab} (hc : CheckOk Φ) (hf : FAlOk Φ) (L : Lg) (hL : L.Ok) (hG : L.Gd) : runFn Φ d_alive [L.d] = some (.ok (.list (nL (livs L)))) :=
  runFn_of rfl ((exL_nx (exS_callS (hc L hL) rfl)).trans (exL_rt (exS_ret (evE_call (hf L hG) rfl))))
def lone (L : Lg) : PyData := match livs L with
  | [t] => .int (t : Nat)
  | _ => .none
theorem r_alone {Φ : Tab} (hc : CheckOk Φ) (hf : FAlOk Φ) (L : Lg) (hL : L.Ok) (hG : L.Gd) : runFn Φ d_alone [L.d] = some (.ok (lone L)) := by
  refine runFn_of rfl ((exL_nx (exS_callS (hc L hL) rfl)).trans ((exL_nx (exS_set (evE_call (hf L hG) rfl) rfl (by simp [OL.startB, d_alone]))).trans (exL_rt (exS_ret ?_))))
  have h1 : evE Φ (.cmp .Eq (.bi "len" (.cons (.v 1) .nil)) (.c (.int 1))) [.sh L.d, .sh (.list (nL (livs L)))] = some (.bool (decide (((nL (livs L)).length : Int) = 1))) := evE_cmp (evE_lenl rfl) rfl (cmp_eq (eqD_int _ _))
  show evE Φ (.ife (.cmp .Eq (.bi "len" (.cons (.v 1) .nil)) (.c (.int 1))) (.ix (.v 1) (.c (.int 0))) (.c .none)) [.sh L.d, .sh (.list (nL (livs L)))] = some (lone L)
  unfold evE
  rw [h1, Option.bind_some]
  unfold lone
  cases hl : livs L with
  | nil => rfl
  | cons a l => cases l with
    | nil => rfl
    | cons b l =>
      have hf : ¬ (((nL (a :: b :: l)).length : Int) = 1) := by simp; omega
      simp only [bool?, Option.bind_some, decide_eq_false hf]
      rfl
end OL

end
section
set_option Elab.async false
set_option linter.all false
set_option maxRecDepth 100000
set_option maxHeartbeats 2000000
namespace OL
open PySem PySem.Spec PyProof.Rows L2 OLd
/-! ### champions -/
def chp (L : Lg) (r : List Sg) : Nat := (rankF L r).headD 0
theorem chp_at (L : Lg) (r : List Sg) (h : 0 < L.pts.length) : (rankF L r)[0]? = some (chp L r) := by
  have hl := rank_len L r
  unfold chp
  cases hr : rankF L r with
  | nil => rw [hr] at hl; simp at hl; omega
  | cons a l => rfl
theorem chp_lt (L : Lg) (r : List Sg) (h : 0 < L.pts.length) : chp L r < L.pts.length := by
  have h1 := List.mem_of_getElem? (chp_at L r h)
  have h2 := (rank_perm L r).mem_iff.mp h1
  exact List.mem_range.mp h2
theorem chp_min (L : Lg) (r : List Sg) (h : 0 < L.pts.length) (t : Nat) (ht : t < L.pts.length) : ¬ kt L r t < kt L r (chp L r) := by
  have h1 := chp_at L r h
  have h2 := rank_sorted L r
  have hm : t ∈ rankF L r := (rank_perm L r).mem_iff.mpr (List.mem_range.mpr ht)
  cases hr : rankF L r with
  | nil => rw [hr] at h1; cases h1
  | cons a l =>
    rw [hr] at h1 h2 hm
    simp at h1
    subst h1
    rcases List.mem_cons.mp hm with e | e
    · subst e; exact List.lt_irrefl _
    · exact (List.pairwise_cons.mp h2).1 t e
theorem chp_eq {L : Lg} {r : List Sg} {t : Nat} (h : 0 < L.pts.length) (ht : t < L.pts.length) (hm : ∀ s, s < L.pts.length → s ≠ t → kt L r t < kt L r s) : chp L r = t := by
  by_cases e : chp L r = t
  · exact e
  · exact absurd (hm _ (chp_lt L r h) e) (chp_min L r h t ht)
/-- the champion has the most points -/
theorem chp_top (L : Lg) (r : List Sg) (h : 0 < L.pts.length) (t : Nat) (ht : t < L.pts.length) : finF L (L.gs.zip r) t ≤ finF L (L.gs.zip r) (chp L r) := by
  have h1 := chp_min L r h t ht
  unfold kt at h1
  rw [List.cons_lt_cons_iff] at h1
  omega
theorem fin_getD (L : Lg) (r : List Sg) (t : Nat) (ht : t < L.pts.length) : (fin L r).getD t 0 = finF L (L.gs.zip r) t := by
  simp [ht]
theorem plc_one {L : Lg} {r : List Sg} {t : Nat} (ht : t < L.pts.length) : plcV (fin L r) t = 1 ↔ ∀ s, s < L.pts.length → finF L (L.gs.zip r) s ≤ finF L (L.gs.zip r) t := by
  unfold plcV
  rw [fin_getD L r t ht]
  constructor
  · intro h s hs
    have h0 : ((fin L r).filter fun o => decide (finF L (L.gs.zip r) t < o)).length = 0 := by omega
    have h1 := List.filter_eq_nil_iff.mp (List.eq_nil_of_length_eq_zero h0) (finF L (L.gs.zip r) s) (List.mem_map.mpr ⟨s, List.mem_range.mpr hs, rfl⟩)
    simpa using h1
  · intro h
    have : ((fin L r).filter fun o => decide (finF L (L.gs.zip r) t < o)) = [] := by
      refine List.filter_eq_nil_iff.mpr fun o ho => ?_
      obtain ⟨s, hs, rfl⟩ := List.mem_map.mp ho
      have := h s (List.mem_range.mp hs)
      simpa using this
    rw [this]; rfl
abbrev CH := List (Nat × List Sg)
def fcStep (L : Lg) (acc : CH) (r : List Sg) : CH := if (acc.any fun p => decide (p.1 = chp L r)) = true then acc else acc ++ [(chp L r, r)]
def fcF (L : Lg) (rows : List (List Sg)) : CH := rows.foldl (fcStep L) []
abbrev chD (acc : CH) : List (PyData × PyData) := acc.map fun p => (.int (p.1 : Nat), rsD p.2)
theorem eqv_nat (a b : Nat) : PyData.eqv (.int (a : Nat)) (.int (b : Nat)) = decide (a = b) := by
  rw [eqv_int]
  by_cases h : a = b
  · simp [h]
  · rw [decide_eq_false h, decide_eq_false (by omega)]
theorem look_chD (acc : CH) (t : Nat) : lookD (chD acc) (.int (t : Nat)) = (acc.find? fun p => decide (p.1 = t)).map fun p => rsD p.2 := by
  induction acc with
  | nil => rfl
  | cons p acc ih =>
    unfold lookD at ih ⊢
    rw [show chD (p :: acc) = (PyData.int (p.1 : Nat), rsD p.2) :: chD acc from rfl, List.find?_cons, List.find?_cons, eqv_nat]
    by_cases h : p.1 = t
    · simp [h]
    · simp only [h, decide_false]; exact ih
theorem put_chD (acc : CH) (t : Nat) (r : List Sg) (h : (acc.any fun p => decide (p.1 = t)) = false) : putD (chD acc) (.int (t : Nat)) (rsD r) = chD (acc ++ [(t, r)]) := by
  unfold putD
  have e : ((chD acc).any fun kv => PyData.eqv kv.1 (.int (t : Nat))) = acc.any fun p => decide (p.1 = t) := by
    rw [List.any_map]
    congr 1
    funext p
    exact eqv_nat _ _
  rw [e, h]
  simp
theorem lookS_chD {acc : CH} (hne : acc ≠ []) (t : Nat) : lookS (chD acc) (.int (t : Nat)) = some (lookD (chD acc) (.int (t : Nat))) := by
  unfold lookS
  have h2 : ((chD acc).all fun kv => (toK kv.1).isSome) = true := by
    simp only [List.all_eq_true, List.mem_map]
    rintro kv ⟨p, _, rfl⟩
    rfl
  rw [if_neg (by simpa using hne), if_neg (by intro h; cases h.1), if_pos ⟨rfl, h2⟩]
theorem keyInts_chD (acc : CH) : keyInts (chD acc) = some (acc.map fun p => (p.1 : Int)) := by
  induction acc with
  | nil => rfl
  | cons p acc ih =>
    show (keyInts (chD acc)).map _ = _
    rw [ih]; rfl
theorem fc_find (L : Lg) (t : Nat) : ∀ (rows : List (List Sg)) (acc : CH), (rows.foldl (fcStep L) acc).find? (fun p => decide (p.1 = t)) = (acc.find? fun p => decide (p.1 = t)).or ((rows.find? fun r => decide (chp L r = t)).map fun r => (t, r))
  | [], acc => by simp
  | r :: rows, acc => by
    rw [List.foldl_cons, fc_find L t rows, List.find?_cons]
    unfold fcStep
    by_cases h : chp L r = t
    · rw [decide_eq_true h]
      subst h
      split
      · rename_i ha
        cases hf : acc.find? fun p => decide (p.1 = chp L r) with
        | none =>
          rw [List.find?_eq_none] at hf
          obtain ⟨p, hp, hq⟩ := List.any_eq_true.mp ha
          exact absurd hq (hf p hp)
        | some p => rfl
      · rename_i ha
        rw [List.find?_append]
        cases hf : acc.find? fun p => decide (p.1 = chp L r) with
        | none => simp
        | some p => rfl
    · rw [decide_eq_false h]
      split
      · rfl
      · rw [List.find?_append]
        simp [h]
theorem fc_keys (L : Lg) : ∀ (rows : List (List Sg)) (acc : CH), (acc.map (·.1)).Nodup → ((rows.foldl (fcStep L) acc).map (·.1)).Nodup ∧ ∀ t, t ∈ (rows.foldl (fcStep L) acc).map (·.1) ↔ t ∈ acc.map (·.1) ∨ ∃ r ∈ rows, chp L r = t
  | [], acc, nd => ⟨nd, fun t => by simp⟩
  | r :: rows, acc, nd => by
    have hs : ((fcStep L acc r).map (·.1)).Nodup ∧ ∀ t, t ∈ (fcStep L acc r).map (·.1) ↔ t ∈ acc.map (·.1) ∨ chp L r = t := by
      unfold fcStep
      have e : (acc.any fun p => decide (p.1 = chp L r)) = true ↔ chp L r ∈ acc.map (·.1) := by
        simp only [List.any_eq_true, decide_eq_true_eq, List.mem_map]
      split
      · rename_i h
        refine ⟨nd, fun t => ⟨.inl, fun q => q.elim id fun z => ?_⟩⟩
        subst z
        exact e.mp h
      · rename_i h
        refine ⟨?_, fun t => by simp [eq_comm]⟩
        rw [List.map_append, List.nodup_append]
        exact ⟨nd, by simp, fun a ha b hb z => by simp at hb; subst hb; exact h (e.mpr (z ▸ ha))⟩
    obtain ⟨h1, h2⟩ := fc_keys L rows (fcStep L acc r) hs.1
    refine ⟨h1, fun t => ?_⟩
    rw [List.foldl_cons, h2, hs.2]
    constructor
    · rintro ((h | h) | ⟨q, hq, h⟩)
      · exact .inl h
      · exact .inr ⟨r, by simp, h⟩
      · exact .inr ⟨q, by simp [hq], h⟩
    · rintro (h | ⟨q, hq, h⟩)
      · exact .inl (.inl h)
      · rcases List.mem_cons.mp hq with e | e
        · subst e; exact .inl (.inr h)
        · exact .inr ⟨q, e, h⟩
/-- the champions, each with the first results -/
def champs (L : Lg) : CH := fcF L (evR L)
theorem champs_nodup (L : Lg) : ((champs L).map (·.1)).Nodup := (fc_keys L (evR L) [] (by simp)).1
theorem champs_mem (L : Lg) (t : Nat) : t ∈ (champs L).map (·.1) ↔ ∃ r ∈ evR L, chp L r = t := by
  have h := (fc_keys L (evR L) [] (by simp)).2 t
  refine Iff.trans h ⟨fun q => q.elim (fun z => by cases z) id, .inr⟩
theorem champs_find (L : Lg) (t : Nat) : (champs L).find? (fun p => decide (p.1 = t)) = ((evR L).find? fun r => decide (chp L r = t)).map fun r => (t, r) := by
  exact (fc_find L t (evR L) []).trans rfl
theorem evR_ne (L : Lg) : evR L ≠ [] := fun e => by
  have h := (evR_perm L).length_eq
  rw [e] at h
  exact allR_ne L (List.eq_nil_of_length_eq_zero h)
theorem champs_ne (L : Lg) : champs L ≠ [] := fun e => by
  obtain ⟨r, hr⟩ := List.exists_mem_of_ne_nil _ (evR_ne L)
  have := (champs_mem L (chp L r)).mpr ⟨r, hr, rfl⟩
  rw [e] at this
  cases this
/-- the champions in order -/
def wins (L : Lg) : List Int := sortU ((evR L).map fun r => (chp L r : Int))
theorem wins_champs (L : Lg) : sortI ((champs L).map fun p => (p.1 : Int)) = wins L := by
  refine (sortU_eq ?_ fun x => ?_).symm
  · have h1 := sortI_le ((champs L).map fun p => (p.1 : Int))
    refine lt_of_le_nodup _ h1 ((sortI_perm _).nodup_iff.mpr ?_)
    have := champs_nodup L
    rw [show ((champs L).map fun p => (p.1 : Int)) = ((champs L).map (·.1)).map fun n : Nat => (n : Int) by rw [List.map_map]; rfl]
    exact List.Pairwise.map _ (fun a b h e => h (by omega)) this
  · rw [(sortI_perm _).mem_iff]
    simp only [List.mem_map]
    constructor
    · rintro ⟨p, hp, rfl⟩
      obtain ⟨r, hr, e⟩ := (champs_mem L p.1).mp (List.mem_map.mpr ⟨p, hp, rfl⟩)
      exact ⟨r, hr, by rw [e]⟩
    · rintro ⟨r, hr, rfl⟩
      obtain ⟨p, hp, e⟩ := List.mem_map.mp ((champs_mem L (chp L r)).mpr ⟨r, hr, rfl⟩)
      exact ⟨p, hp, by rw [e]⟩
theorem exS_dputK {Φ : Tab} {i : Nat} {k e : E} {ρ : Env} {kvs : List (PyData × PyData)} {x d : PyData} (he : evE Φ e ρ = some d) (hk : evE Φ k ρ = some x) (hb : ρ[i]? = some (.dk kvs)) (h1 : (toK x).isSome = true) (h2 : kvs.length < 16777216) : exS Φ (.put i k e) ρ = some (.nx (ρ.set i (.dk (putD kvs x d)))) := by
  unfold exS
  rw [he, Option.bind_some, hk, Option.bind_some, hb]
  simp only
  rw [if_pos ⟨h1, h2⟩]
theorem fc_len (L : Lg) : ∀ (rows : List (List Sg)) (acc : CH), (rows.foldl (fcStep L) acc).length ≤ acc.length + rows.length
  | [], acc => by simp
  | r :: rows, acc => by
    have h := fc_len L rows (fcStep L acc r)
    have : (fcStep L acc r).length ≤ acc.length + 1 := by unfold fcStep; split <;> simp
    simp only [List.foldl_cons, List.length_cons]
    omega
theorem r_find_champions {Φ : Tab} (ha : AllOk Φ) (hr : RankOk Φ) (L : Lg) (hL : L.Ok) : runFn Φ d_find_champions [L.d] = some (.ok (.dict (chD (champs L)))) := by
  have hp := hL.p2
  have h8 := hL.g8
  have hlen : (evR L).length ≤ 6561 := by
    rw [← (evR_perm L).length_eq, prodS_length]; exact pow_le (alw_len L) h8
  refine runFn_of rfl ?_
  unfold d_find_champions
  refine (exL_nx (exS_set (d := .dict []) (b := .dk []) rfl rfl (by simp [OL.startB]))).trans ?_
  obtain ⟨ρ', hf, b2, b3, rfl⟩ := forGo_each (t := .n 2) (e := rsD) (body := exL Φ (.cons (.set 3 .s (.ix (.call "find_ranking" (.cons (.v 0) (.cons (.v 2) .nil))) (.c (.int 0)))) (.cons (.ifs (.oin true 1 (.v 3)) (.cons (.put 1 (.v 3) (.v 2)) .nil) .nil) .nil)))
    (fun pre ρ => ∃ b2 b3 : B, ρ = [.sh L.d, .dk (chD (fcF L pre)), b2, b3]) (evR L) [] [.sh L.d, .dk [], .un, .un] (fun pre r post ρ hp' hI => by
      obtain ⟨b2, b3, rfl⟩ := hI
      have hm : r ∈ evR L := by rw [show evR L = pre ++ r :: post from by simpa using hp']; simp
      have hrk := hr L r hL (mem_evR.mp hm)
      have q1 : evE Φ (.ix (.call "find_ranking" (.cons (.v 0) (.cons (.v 2) .nil))) (.c (.int 0))) [.sh L.d, .dk (chD (fcF L pre)), .sh (rsD r), b3] = some (.int (chp L r : Nat)) := by
        refine evE_ix (y := .int 0) (evE_call hrk rfl) rfl (atI_nat (by decide) ?_)
        rw [List.getElem?_map]
        rw [show ((0 : Int).toNat) = 0 from rfl, chp_at L r (by omega)]; rfl
      have q2 : evE Φ (.oin true 1 (.v 3)) [.sh L.d, .dk (chD (fcF L pre)), .sh (rsD r), .sh (.int (chp L r : Nat))] = some (.bool (!((fcF L pre).find? fun p => decide (p.1 = chp L r)).isSome)) := by
        show (inO (some (.dk (chD (fcF L pre)))) (.int (chp L r : Nat))).map (fun b => PyData.bool (if true then !b else b)) = _
        show ((lookO (some (.dk (chD (fcF L pre)))) (.int (chp L r : Nat))).map (·.isSome)).map _ = _
        rw [show lookO (some (.dk (chD (fcF L pre)))) (.int (chp L r : Nat)) = some (lookD (chD (fcF L pre)) (.int (chp L r : Nat))) from rfl, look_chD]
        simp
      have hany : ((fcF L pre).find? fun p => decide (p.1 = chp L r)).isSome = (fcF L pre).any fun p => decide (p.1 = chp L r) := by
        rw [Bool.eq_iff_iff, List.find?_isSome, List.any_eq_true]
      have e3 : fcF L (pre ++ [r]) = fcStep L (fcF L pre) r := by unfold fcF; rw [List.foldl_append]; rfl
      rw [hany] at q2
      cases hc : (fcF L pre).any fun p => decide (p.1 = chp L r) with
      | true =>
        rw [hc] at q2
        refine ⟨_, _, rfl, (exL_nx (exS_set q1 rfl (by simp))).trans ((exL_nx (exS_if0 q2 rfl)).trans rfl), .sh (rsD r), .sh (.int (chp L r : Nat)), ?_⟩
        rw [e3, fcStep, if_pos hc]
      | false =>
        rw [hc] at q2
        have hlp : (fcF L pre).length ≤ pre.length := by
          have h := fc_len L pre []
          rw [List.length_nil, Nat.zero_add] at h
          exact h
        have hpl : pre.length ≤ (evR L).length := by
          have := congrArg List.length hp'
          simp at this; omega
        refine ⟨_, _, rfl, (exL_nx (exS_set q1 rfl (by simp))).trans ((exL_nx (exS_if1 q2 ((exL_nx (exS_dputK (kvs := chD (fcF L pre)) (x := .int (chp L r : Nat)) (d := rsD r) rfl rfl rfl rfl (by rw [List.length_map]; omega))).trans rfl))).trans rfl), .sh (rsD r), .sh (.int (chp L r : Nat)), ?_⟩
        rw [e3, fcStep, if_neg (by rw [hc]; decide), ← put_chD _ _ _ hc]
        rfl) ⟨.un, .un, rfl⟩
  have hs : evE Φ (.bi "sorted" (.cons (.call "all_results" (.cons (.v 0) .nil)) .nil)) [.sh L.d, .dk [], .un, .un] = some (.list ((evR L).map rsD)) := evE_bi (evE_call (ha L h8) rfl) (sorted_allR L)
  refine (exL_nx ((exS_for (evI_list hs)).trans hf)).trans ?_
  refine (exL_nx (s := .fr 1) rfl).trans ?_
  exact exL_rt (exS_ret rfl)
def FChOk (Φ : Tab) : Prop := ∀ L : Lg, L.Ok → Says Φ "find_champions" [L.d] (.dict (chD (champs L)))
theorem r_check_pair {Φ : Tab} (hc : CheckOk Φ) (ht : TeamOk Φ) (L : Lg) (hL : L.Ok) (t : Nat) (h : t < L.pts.length) : runFn Φ d_check_pair [L.d, .int t] = some (.ok .none) := by
  refine runFn_nx (ρ := [.sh L.d, .sh (.int t)]) rfl ?_
  refine (exL_nx (exS_callS (hc L hL) rfl)).trans ?_
  exact (exL_nx (exS_callS (ht L t (by omega) (by omega)) rfl)).trans rfl
def PairOk (Φ : Tab) : Prop := ∀ (L : Lg) (t : Nat), L.Ok → t < L.pts.length → Says Φ "check_pair" [L.d, .int t] .none
/-- the first results for which the team is the champion -/
def firstFor (L : Lg) (t : Nat) : Option (List Sg) := (evR L).find? fun r => decide (chp L r = t)
theorem r_can_be_champion {Φ : Tab} (hb : PairOk Φ) (hf : FChOk Φ) (L : Lg) (hL : L.Ok) (t : Nat) (ht : t < L.pts.length) : runFn Φ d_can_be_champion [L.d, .int t] = some (.ok (.bool (firstFor L t).isSome)) := by
  refine runFn_of rfl ((exL_nx (exS_callS (hb L t hL ht) rfl)).trans (exL_rt (exS_ret (evE_cmp (x := .int (t : Nat)) (y := .dict (chD (champs L))) rfl (evE_call (hf L hL) rfl) ?_))))
  refine cmp_in ?_
  show (lookS (chD (champs L)) (.int (t : Nat))).map (·.isSome) = _
  rw [lookS_chD (champs_ne L), look_chD, champs_find]
  simp [firstFor]
def rsO : Option (List Sg) → PyData
  | some r => rsD r
  | none => .none
theorem r_champion_results {Φ : Tab} (hb : PairOk Φ) (hf : FChOk Φ) (L : Lg) (hL : L.Ok) (t : Nat) (ht : t < L.pts.length) : runFn Φ d_champion_results [L.d, .int t] = some (.ok (rsO (firstFor L t))) := by
  refine runFn_of rfl ((exL_nx (exS_callS (hb L t hL ht) rfl)).trans (exL_rt (exS_ret ?_)))
  have h1 : evE Φ (.call "find_champions" (.cons (.v 0) .nil)) [.sh L.d, .sh (.int t)] = some (.dict (chD (champs L))) := evE_call (hf L hL) rfl
  show evE Φ (.me1 "get" (.call "find_champions" (.cons (.v 0) .nil)) (.v 1)) [.sh L.d, .sh (.int t)] = _
  unfold evE
  rw [h1, Option.bind_some]
  show (lookS (chD (champs L)) (.int (t : Nat))).map (fun o => o.getD .none) = _
  rw [lookS_chD (champs_ne L), look_chD, champs_find]
  unfold firstFor
  cases (evR L).find? fun r => decide (chp L r = t) <;> rfl
theorem r_is_champion_for_sure {Φ : Tab} (hb : PairOk Φ) (hf : FChOk Φ) (L : Lg) (hL : L.Ok) (t : Nat) (ht : t < L.pts.length) : runFn Φ d_is_champion_for_sure [L.d, .int t] = some (.ok (.bool (decide ((champs L).map (fun p => (p.1 : Int)) = [(t : Int)])))) := by
  refine runFn_of rfl ((exL_nx (exS_callS (hb L t hL ht) rfl)).trans (exL_rt (exS_ret (evE_cmp (x := .list (iL ((champs L).map fun p => (p.1 : Int)))) (y := .list (iL [(t : Int)])) (evE_bi (evE_call (hf L hL) rfl) ?_) rfl (cmp_eq (eqD_list _ _))))))
  show (if chD (champs L) = [] then none else (keyInts (chD (champs L))).map fun is => PyData.list (is.map .int)) = _
  rw [if_neg (by simpa using champs_ne L), keyInts_chD]; rfl
theorem champs_len (L : Lg) (h : 0 < L.pts.length) : (champs L).length ≤ L.pts.length := by
  have h1 : ((champs L).map fun p => (p.1 : Int)).Nodup := by
    have := champs_nodup L
    rw [show ((champs L).map fun p => (p.1 : Int)) = ((champs L).map (·.1)).map fun n : Nat => (n : Int) by rw [List.map_map]; rfl]
    exact List.Pairwise.map _ (fun a b h e => h (by omega)) this
  have h2 := nodup_len h1 (m := (List.range L.pts.length).map fun i : Nat => (i : Int)) (fun x hx => by
    obtain ⟨p, hp, rfl⟩ := List.mem_map.mp hx
    obtain ⟨r, _, e⟩ := (champs_mem L p.1).mp (List.mem_map.mpr ⟨p, hp, rfl⟩)
    exact List.mem_map.mpr ⟨p.1, List.mem_range.mpr (by rw [← e]; exact chp_lt L r h), rfl⟩)
  simpa using h2
theorem r_champions {Φ : Tab} (hc : CheckOk Φ) (hf : FChOk Φ) (L : Lg) (hL : L.Ok) : runFn Φ d_champions [L.d] = some (.ok (.list (iL (wins L)))) := by
  have h6 := hL.p6
  have h2 := hL.p2
  have hl := champs_len L (by omega)
  refine runFn_of rfl ((exL_nx (exS_callS (hc L hL) rfl)).trans (exL_rt (exS_ret (evE_bi (evE_call (hf L hL) rfl) ?_))))
  show (if chD (champs L) = [] then none else (keyInts (chD (champs L))).bind fun is => if is.length < 64 then some (PyData.list ((sortI is).map .int)) else none) = _
  rw [if_neg (by simpa using champs_ne L), keyInts_chD, Option.bind_some, if_pos (by rw [List.length_map]; omega), wins_champs]
end OL

end
section
set_option Elab.async false
set_option linter.all false
set_option maxRecDepth 100000
set_option maxHeartbeats 2000000
namespace OL
open PySem PySem.Spec PyProof.Rows L2 OLd
theorem Says.lift {l r : List Df} {x : Str} {ds : List PyData} {d : PyData} (h : Says (tab r) x ds d) (hn : (l.all fun f => decide (x ≠ f.name)) = true) : Says (tab (l ++ r)) x ds d := by
  induction l with
  | nil => exact h
  | cons f l ih =>
    simp only [List.all_cons, Bool.and_eq_true, decide_eq_true_eq] at hn
    exact .skip hn.1 (ih hn.2)
/-! ### more of the program's facts -/
def ChampOk (Φ : Tab) : Prop := ∀ (L : Lg) (row : List Sg), L.Ok → RsOk L row → Says Φ "champion" [L.d, rsD row] (.int (chp L row : Nat))
def CbCOk (Φ : Tab) : Prop := ∀ (L : Lg) (t : Nat), L.Ok → t < L.pts.length → Says Φ "can_be_champion" [L.d, .int t] (.bool (firstFor L t).isSome)
def ChROk (Φ : Tab) : Prop := ∀ (L : Lg) (t : Nat), L.Ok → t < L.pts.length → Says Φ "champion_results" [L.d, .int t] (rsO (firstFor L t))
def ChSOk (Φ : Tab) : Prop := ∀ (L : Lg) (t : Nat), L.Ok → t < L.pts.length → Says Φ "is_champion_for_sure" [L.d, .int t] (.bool (decide ((champs L).map (fun p => (p.1 : Int)) = [(t : Int)])))
def ChsOk (Φ : Tab) : Prop := ∀ L : Lg, L.Ok → Says Φ "champions" [L.d] (.list (iL (wins L)))
def CanFOk (Φ : Tab) : Prop := ∀ (L : Lg) (t : Nat), L.Ok → L.Gd → t < L.pts.length → Says Φ "can_be_first" [L.d, .int t] (.bool (canF L t))
def SurFOk (Φ : Tab) : Prop := ∀ (L : Lg) (t : Nat), L.Ok → L.Gd → t < L.pts.length → Says Φ "is_first_for_sure" [L.d, .int t] (.bool (surF L t))
def AliveOk (Φ : Tab) : Prop := ∀ L : Lg, L.Ok → L.Gd → Says Φ "alive" [L.d] (.list (nL (livs L)))
def AloneOk (Φ : Tab) : Prop := ∀ L : Lg, L.Ok → L.Gd → Says Φ "alone" [L.d] (lone L)
def BstOk (Φ : Tab) : Prop := ∀ (L : Lg) (t : Nat), L.Ok → L.Gd → t < L.pts.length → Says Φ "best_place" [L.d, .int t] (.int (bst L t))
def WstOk (Φ : Tab) : Prop := ∀ (L : Lg) (t : Nat), L.Ok → L.Gd → t < L.pts.length → Says Φ "worst_place" [L.d, .int t] (.int (wst L t))
def PosPOk (Φ : Tab) : Prop := ∀ (L : Lg) (t : Nat), L.Ok → L.Gd → t < L.pts.length → Says Φ "possible_places" [L.d, .int t] (.list (iL (plcs L t)))
end OL

end
section
set_option Elab.async false
set_option linter.all false
set_option maxRecDepth 100000
set_option maxHeartbeats 4000000
namespace OL
open PySem PySem.Spec PyProof.Rows L2 OLd
theorem evE_bin {Φ : Tab} {o : Operator} {a b : E} {ρ : Env} {x y z : PyData} (h1 : evE Φ a ρ = some x) (h2 : evE Φ b ρ = some y) (h : binD o x y = some z) : evE Φ (.bin o a b) ρ = some z := by
  unfold evE; rw [h1, h2]; exact h
/-! ### errors -/
def Errs (Φ : Tab) (f : Str) (ds : List PyData) (x : Str) : Prop := ∃ G, Φ f = some G ∧ G ds = some (.error x)
theorem Errs.here {f : Df} {r : List Df} {y : Str} {ds : List PyData} {x : Str} (e : y = f.name) (h : runFn (tab r) f ds = some (.error x)) : Errs (tab (f :: r)) y ds x := ⟨_, by unfold tab; rw [if_pos e], h⟩
theorem Errs.skip {f : Df} {r : List Df} {y : Str} {ds : List PyData} {x : Str} (e : y ≠ f.name) (h : Errs (tab r) y ds x) : Errs (tab (f :: r)) y ds x := by
  obtain ⟨G, h1, h2⟩ := h
  exact ⟨G, by unfold tab; rw [if_neg e]; exact h1, h2⟩
theorem Errs.lift {y : Str} {ds : List PyData} {x : Str} : ∀ {l r : List Df}, Errs (tab r) y ds x → (l.all fun f => decide (y ≠ f.name)) = true → Errs (tab (l ++ r)) y ds x
  | [], r, h, _ => h
  | f :: l, r, h, e => by
    simp only [List.all_cons, Bool.and_eq_true, decide_eq_true_eq] at e
    exact Errs.skip e.1 (Errs.lift h e.2)
theorem exL_ex {Φ : Tab} {s : S} {ss : Ss} {ρ : Env} {x : Str} (h : exS Φ s ρ = some (.ex x)) : exL Φ (.cons s ss) ρ = some (.ex x) := by
  simp only [exL, h, Option.bind_some]
theorem runFn_ex {Φ : Tab} {f : Df} {ds : List PyData} {x : Str} (hl : ds.length = f.np) (h : exL Φ f.body (OL.startB f.names.length ds) = some (.ex x)) : runFn Φ f ds = some (.error x) := by
  unfold runFn; rw [if_pos hl, h]; rfl
theorem exS_callE {Φ : Tab} {f : Str} {es : Es} {ρ : Env} {ds : List PyData} {x : Str} (h : Errs Φ f ds x) (he : evL Φ es ρ = some ds) : exS Φ (.callS f es) ρ = some (.ex x) := by
  obtain ⟨G, h1, h2⟩ := h
  unfold exS
  rw [h1, Option.bind_some, he, Option.bind_some, h2]; rfl
/-- the first statement of a def is a check that fails -/
theorem run_err1 {Φ : Tab} {f : Df} {g : Str} {es : Es} {rest : Ss} {ds xs : List PyData} {x : Str} (h : Errs Φ g xs x) (hl : ds.length = f.np) (hb : f.body = .cons (.callS g es) rest) (he : evL Φ es (OL.startB f.names.length ds) = some xs) : runFn Φ f ds = some (.error x) :=
  runFn_ex hl (by rw [hb]; exact exL_ex (exS_callE h he))
/-- .. the second one -/
theorem run_err2 {Φ : Tab} {f : Df} {g g2 : Str} {es es2 : Es} {rest : Ss} {ds xs ys : List PyData} {d : PyData} {x : Str} (h : Says Φ g xs d) (h2 : Errs Φ g2 ys x) (hl : ds.length = f.np) (hb : f.body = .cons (.callS g es) (.cons (.callS g2 es2) rest)) (he : evL Φ es (OL.startB f.names.length ds) = some xs) (he2 : evL Φ es2 (OL.startB f.names.length ds) = some ys) : runFn Φ f ds = some (.error x) :=
  runFn_ex hl (by rw [hb]; exact (exL_nx (exS_callS h he)).trans (exL_ex (exS_callE h2 he2)))
/-- if not c: raise x -/
theorem exS_raise {Φ : Tab} {c : E} {ρ : Env} {x : Str} (h : evE Φ c ρ = some (.bool true)) : exS Φ (.ifs c (.cons (.raise x) .nil) .nil) ρ = some (.ex x) := exS_if1 h rfl
theorem evL_cons {Φ : Tab} {a : E} {es : Es} {ρ : Env} {x : PyData} {xs : List PyData} (h : evE Φ a ρ = some x) (h2 : evL Φ es ρ = some xs) : evL Φ (.cons a es) ρ = some (x :: xs) := by
  simp only [evL, h, h2, Option.bind_some, Option.map_some]
theorem evE_lst {Φ : Tab} {es : Es} {ρ : Env} {xs : List PyData} (h : evL Φ es ρ = some xs) (hl : xs.length ≤ 16777216) : evE Φ (.lst es) ρ = some (.list xs) := by
  unfold evE; rw [h, Option.bind_some, if_pos hl]
theorem evE_tup {Φ : Tab} {es : Es} {ρ : Env} {xs : List PyData} (h : evL Φ es ρ = some xs) (hl : xs.length ≤ 16777216) : evE Φ (.tup es) ρ = some (.tuple xs) := by
  unfold evE; rw [h, Option.bind_some, if_pos hl]
end OL

end
section
set_option Elab.async false
set_option linter.all false
set_option maxRecDepth 100000
set_option maxHeartbeats 2000000
namespace OL
open PySem PySem.Spec PyProof.Rows L2 OLd
/-! ### the teams with the most points -/
def maxV (v : List Int) : Int := (maxL v).getD 0
theorem maxL_some {v : List Int} (h : v ≠ []) : maxL v = some (maxV v) := by
  cases v with
  | nil => exact absurd rfl h
  | cons a l => rfl
theorem maxV_spec {v : List Int} (h : v ≠ []) : maxV v ∈ v ∧ ∀ y ∈ v, y ≤ maxV v := by
  have key : ∀ (ns : List Int) (a : Int), a ≤ ns.foldl max a ∧ (∀ y ∈ ns, y ≤ ns.foldl max a) ∧ (ns.foldl max a = a ∨ ns.foldl max a ∈ ns) := by
    intro ns
    induction ns with
    | nil => intro a; simp
    | cons x r ih =>
      intro a
      obtain ⟨h1, h2, h3⟩ := ih (max a x)
      simp only [List.foldl_cons, List.mem_cons]
      refine ⟨by omega, fun y hy => ?_, ?_⟩
      · rcases hy with rfl | hy
        · omega
        · exact h2 y hy
      · rcases h3 with h3 | h3
        · rw [h3]
          rcases Int.le_total a x with h | h
          · right; left; omega
          · left; omega
        · right; right; exact h3
  cases v with
  | nil => exact absurd rfl h
  | cons a l =>
    obtain ⟨h1, h2, h3⟩ := key l a
    show l.foldl max a ∈ a :: l ∧ ∀ y ∈ a :: l, y ≤ l.foldl max a
    refine ⟨?_, fun y hy => ?_⟩
    · rcases h3 with h3 | h3
      · rw [h3]; simp
      · simp [h3]
    · rcases List.mem_cons.mp hy with rfl | hy
      · exact h1
      · exact h2 y hy
def tops (v : List Int) : List Nat := (List.range v.length).filter fun t => decide (v.getD t 0 = maxV v)
theorem mem_tops {v : List Int} {t : Nat} : t ∈ tops v ↔ t < v.length ∧ ∀ s, s < v.length → v.getD s 0 ≤ v.getD t 0 := by
  unfold tops
  rw [List.mem_filter, List.mem_range, decide_eq_true_eq]
  constructor
  · rintro ⟨h1, h2⟩
    refine ⟨h1, fun s hs => ?_⟩
    have hne : v ≠ [] := fun e => by rw [e] at h1; simp at h1
    rw [h2]
    refine (maxV_spec hne).2 _ ?_
    rw [List.getD_eq_getElem?_getD, List.getElem?_eq_getElem hs]
    exact List.getElem_mem hs
  · rintro ⟨h1, h2⟩
    have hne : v ≠ [] := fun e => by rw [e] at h1; simp at h1
    refine ⟨h1, ?_⟩
    obtain ⟨m1, m2⟩ := maxV_spec hne
    obtain ⟨s, hs, e⟩ := List.getElem_of_mem m1
    have a := h2 s hs
    have ge : v.getD s 0 = maxV v := by rw [List.getD_eq_getElem?_getD, List.getElem?_eq_getElem hs, ← e]; rfl
    have b := m2 (v.getD t 0) (by rw [List.getD_eq_getElem?_getD, List.getElem?_eq_getElem h1]; exact List.getElem_mem h1)
    omega
end OL

end
section
set_option Elab.async false
set_option linter.all false
set_option maxRecDepth 100000
set_option maxHeartbeats 2000000
namespace OL
open PySem PySem.Spec PyProof.Rows L2 OLd
/-! ### the first stages of the program, the rest -/
theorem r_check_game {Φ : Tab} (hi : IntOk Φ) (L : Lg) (t : Nat) (h1 : t < L.gs.length) : runFn Φ d_check_game [L.d, .int t] = some (.ok .none) := by
  refine runFn_nx (ρ := [.sh L.d, .sh (.int t)]) rfl ?_
  have h := hi (.int t) 0 ((L.gs.length : Int) - 1) rfl
  have e : isIntF (.int t) 0 ((L.gs.length : Int) - 1) = true := by simp [isIntF]; omega
  rw [e] at h
  have h2 : evE Φ (.bi "len" (.cons (.ix (.v 0) (.c (.int 2))) .nil)) [.sh L.d, .sh (.int t)] = some (.int L.gs.length) := by
    refine (evE_len (xs := L.gs.map gmD) (evE_ix (x := L.d) (y := .int 2) rfl rfl rfl)).trans ?_
    rw [List.length_map]
  refine (exL_nx ((exS_ifs (k := false) (evE_no (b := true) (evE_call h ?_))).trans rfl)).trans rfl
  exact evL3 rfl rfl (evE_sub h2 rfl)
def GmOk (Φ : Tab) : Prop := ∀ (L : Lg) (t : Nat), t < L.gs.length → Says Φ "check_game" [L.d, .int t] .none
def ownB (t : Nat) (g : Int × Int) : Bool := decide ((t : Int) = g.1 ∨ (t : Int) = g.2)
/-- the own games of a team -/
def ownG (L : Lg) (t : Nat) : List Nat := (L.gs.zipIdx.filter fun p => ownB t p.1).map (·.2)
theorem enum_map {α : Type} (g : α → PyData) : ∀ (l : List α) (n : Nat), enumD n (l.map g) = (l.zipIdx n).map fun p => .tuple [.int (p.2 : Nat), g p.1]
  | [], n => rfl
  | x :: l, n => by
    show PyData.tuple [.int (n : Nat), g x] :: enumD (n + 1) (l.map g) = _
    rw [enum_map g l (n + 1), List.zipIdx_cons]; rfl
theorem in_game (t : Nat) (g : Int × Int) : cmpD .In (.int (t : Nat)) (gmD g) = some (ownB t g) := by
  have h := in_tup (t : Nat) [g.1, g.2]
  rw [show gmD g = .tuple (iL [g.1, g.2]) from rfl, h]
  unfold ownB
  simp
theorem r_own_games {Φ : Tab} (L : Lg) (t : Nat) : runFn Φ d_own_games [L.d, .int t] = some (.ok (.list (nL (ownG L t)))) := by
  refine runFn_of rfl (exL_rt (exS_ret ?_))
  have q : evE Φ (.lc (.v 2) (.p (.n 2) (.n 3)) (.enum (.ix (.v 0) (.c (.int 2)))) (.so (.cmp .In (.v 1) (.v 3)))) [.sh L.d, .sh (.int t), .un, .un] = some (.list ((L.gs.zipIdx.filter fun p => ownB t p.1).map fun p => .int (p.2 : Nat))) := by
    refine lc_filt (p := fun p => ownB t p.1) (l := L.gs.zipIdx) (e := fun p => .tuple [.int (p.2 : Nat), gmD p.1]) (g := fun p => .int (p.2 : Nat)) (r := fun p => [.sh L.d, .sh (.int t), .sh (.int (p.2 : Nat)), .sh (gmD p.1)]) ?_ ?_ ?_ ?_
    · have h := (ix_d0 (Φ := Φ) (L := L) (s := 0) (ρ := [.sh L.d, .sh (.int t), .un, .un]) rfl).2.2
      unfold evI
      rw [h, Option.bind_some, ← enum_map]
    · exact fun _ _ => rfl
    · exact fun p _ => evE_cmp (x := .int (t : Nat)) (y := gmD p.1) rfl rfl (in_game t p.1)
    · exact fun _ _ => rfl
  refine q.trans ?_
  unfold ownG nL
  rw [List.map_map]; rfl
def OwnOk (Φ : Tab) : Prop := ∀ (L : Lg) (t : Nat), Says Φ "own_games" [L.d, .int t] (.list (nL (ownG L t)))
theorem r_games_of {Φ : Tab} (hc : CheckOk Φ) (ht : TeamOk Φ) (ho : OwnOk Φ) (L : Lg) (hL : L.Ok) (t : Nat) (h : t < L.pts.length) : runFn Φ d_games_of [L.d, .int t] = some (.ok (.list (nL (ownG L t)))) :=
  runFn_of rfl ((exL_nx (exS_callS (hc L hL) rfl)).trans ((exL_nx (exS_callS (ht L t (by omega) (by omega)) rfl)).trans (exL_rt (exS_ret (evE_call (ho L t) rfl)))))
def GofOk (Φ : Tab) : Prop := ∀ (L : Lg) (t : Nat), L.Ok → t < L.pts.length → Says Φ "games_of" [L.d, .int t] (.list (nL (ownG L t)))
/-- the first results with a place -/
def rsFor (L : Lg) (t : Nat) (p : Int) : List Sg := ((allR L).find? fun r => decide (plcV (fin L r) t = p)).getD []
theorem rsFor_spec {L : Lg} {t : Nat} {p : Int} (h : p ∈ plcs L t) : RsOk L (rsFor L t p) ∧ plcV (fin L (rsFor L t p)) t = p := by
  obtain ⟨r, hr, e⟩ := mem_plcs.mp h
  unfold rsFor
  cases hf : (allR L).find? fun r => decide (plcV (fin L r) t = p) with
  | none => exact absurd e (by simpa using List.find?_eq_none.mp hf r (mem_allR.mpr hr))
  | some q =>
    have h1 := List.find?_some hf
    have h2 := List.mem_of_find?_eq_some hf
    exact ⟨mem_allR.mp h2, by simpa using h1⟩
theorem r_results_for {Φ : Tab} (ha : AllOk Φ) (hf : FinOk Φ) (hp : PlaceOk Φ) (L : Lg) (hL : L.Ok) (t : Nat) (ht : t < L.pts.length) (p : Int) (h : p ∈ plcs L t) : runFn Φ d_results_for [L.d, .int t, .int p] = some (.ok (rsD (rsFor L t p))) := by
  refine runFn_of rfl (exL_rt (exS_ret ?_))
  have h1 : evE Φ (.lc (.v 3) (.n 3) (.e (.call "all_results" (.cons (.v 0) .nil))) (.so (.cmp .Eq (.call "place_of" (.cons (.call "finals" (.cons (.v 0) (.cons (.v 3) .nil))) (.cons (.v 1) .nil))) (.v 2)))) [.sh L.d, .sh (.int t), .sh (.int p), .un] = some (.list (((allR L).filter fun r => decide (plcV (fin L r) t = p)).map rsD)) := by
    refine lc_filt (l := allR L) (e := rsD) (g := rsD) (r := fun r => [.sh L.d, .sh (.int t), .sh (.int p), .sh (rsD r)]) (evI_list (evE_call (ha L hL.g8) rfl)) (fun _ _ => rfl) (fun r hr => ?_) (fun _ _ => rfl)
    exact evE_cmp (evE_call (hp (fin L r) t (by rw [fin_length]; exact ht)) (evL2 (evE_call (hf L r hL (mem_allR.mp hr)) rfl) rfl)) rfl (cmp_eq (eqD_int _ _))
  refine evE_ix (y := .int 0) h1 rfl (atI_head ?_)
  rw [List.head?_map, List.head?_filter]
  obtain ⟨r, hr, e⟩ := mem_plcs.mp h
  unfold rsFor
  cases hf : (allR L).find? fun r => decide (plcV (fin L r) t = p) with
  | none => exact absurd e (by simpa using List.find?_eq_none.mp hf r (mem_allR.mpr hr))
  | some q => rfl
def RForOk (Φ : Tab) : Prop := ∀ (L : Lg) (t : Nat) (p : Int), L.Ok → t < L.pts.length → p ∈ plcs L t → Says Φ "results_for" [L.d, .int t, .int p] (rsD (rsFor L t p))
theorem r_best_results {Φ : Tab} (hb : BothOk Φ) (hf : FPlOk Φ) (hr : RForOk Φ) (L : Lg) (hL : L.Ok) (hG : L.Gd) (t : Nat) (ht : t < L.pts.length) : runFn Φ d_best_results [L.d, .int t] = some (.ok (rsD (rsFor L t (bst L t)))) :=
  runFn_of rfl ((exL_nx (exS_callS (hb L t hL ht) rfl)).trans (exL_rt (exS_ret (evE_call (hr L t _ hL ht (bst_mem L t)) (evL3 rfl rfl (evE_ix (y := .int 0) (evE_call (hf L t hG ht) rfl) rfl (bst_at L t)))))))
def BRsOk (Φ : Tab) : Prop := ∀ (L : Lg) (t : Nat), L.Ok → L.Gd → t < L.pts.length → Says Φ "best_results" [L.d, .int t] (rsD (rsFor L t (bst L t)))
theorem r_worst_results {Φ : Tab} (hb : BothOk Φ) (hf : FPlOk Φ) (hr : RForOk Φ) (L : Lg) (hL : L.Ok) (hG : L.Gd) (t : Nat) (ht : t < L.pts.length) : runFn Φ d_worst_results [L.d, .int t] = some (.ok (rsD (rsFor L t (wst L t)))) :=
  runFn_of rfl ((exL_nx (exS_callS (hb L t hL ht) rfl)).trans (exL_rt (exS_ret (evE_call (hr L t _ hL ht (wst_mem L t)) (evL3 rfl rfl (evE_ix (y := .int (-1)) (evE_call (hf L t hG ht) rfl) rfl (wst_at L t)))))))
def WRsOk (Φ : Tab) : Prop := ∀ (L : Lg) (t : Nat), L.Ok → L.Gd → t < L.pts.length → Says Φ "worst_results" [L.d, .int t] (rsD (rsFor L t (wst L t)))
theorem r_final_points {Φ : Tab} (hc : CheckROk Φ) (hf : FinOk Φ) (L : Lg) (hL : L.Ok) (row : List Sg) (ok : RsOk L row) : runFn Φ d_final_points [L.d, rsD row] = some (.ok (rowD (fin L row))) :=
  runFn_of rfl ((exL_nx (exS_callS (hc L row hL ok) rfl)).trans (exL_rt (exS_ret (evE_call (hf L row hL ok) rfl))))
def FPtOk (Φ : Tab) : Prop := ∀ (L : Lg) (row : List Sg), L.Ok → RsOk L row → Says Φ "final_points" [L.d, rsD row] (rowD (fin L row))
/-- the places of all teams -/
def plAll (v : List Int) : List Int := (List.range v.length).map fun t => plcV v t
theorem r_places {Φ : Tab} (hc : CheckROk Φ) (hf : FinOk Φ) (hp : PlaceOk Φ) (L : Lg) (hL : L.Ok) (row : List Sg) (ok : RsOk L row) : runFn Φ d_places [L.d, rsD row] = some (.ok (rowD (plAll (fin L row)))) := by
  have h6 := hL.p6
  refine runFn_of rfl ((exL_nx (exS_callS (hc L row hL ok) rfl)).trans ((exL_nx (exS_set (evE_call (hf L row hL ok) rfl) rfl (by simp [OL.startB, d_places]))).trans (exL_rt (exS_ret ?_))))
  have h1 : evE Φ (.lc (.call "place_of" (.cons (.v 2) (.cons (.v 3) .nil))) (.n 3) (.r1 (.bi "len" (.cons (.v 2) .nil))) .no) [.sh L.d, .sh (rsD row), .sh (rowD (fin L row)), .un] = some (.list ((List.range (fin L row).length).map fun t => .int (plcV (fin L row) t))) := by
    refine lc_map (l := List.range (fin L row).length) (e := fun i : Nat => .int i) (r := fun i => [.sh L.d, .sh (rsD row), .sh (rowD (fin L row)), .sh (.int (i : Nat))]) ?_ (fun _ _ => rfl) (fun t ht => evE_call (hp (fin L row) t (List.mem_range.mp ht)) rfl)
    have h1 := evE_len (Φ := Φ) (e := .v 2) (ρ := [.sh L.d, .sh (rsD row), .sh (rowD (fin L row)), .un]) (xs := iL (fin L row)) rfl
    rw [List.length_map] at h1
    refine (evI_r1 h1 (by omega) (by rw [fin_length]; omega)).trans ?_
    unfold rgD
    simp
  refine (evE_bi h1 (tuple_list _)).trans ?_
  unfold plAll rowD
  simp
def PlsOk (Φ : Tab) : Prop := ∀ (L : Lg) (row : List Sg), L.Ok → RsOk L row → Says Φ "places" [L.d, rsD row] (rowD (plAll (fin L row)))
/-- the league after a game -/
def aftL (L : Lg) (j : Nat) (s : Sg) : Lg := ⟨L.w, L.dr, addV L.pts (L.gs.getD j (0, 0)) (gainF L s), L.gs.take j ++ L.gs.drop (j + 1)⟩
theorem cut_to (xs : List PyData) (j : Nat) (h : j ≤ xs.length) : OL.cutD xs none (some (j : Int)) = xs.take j := by
  unfold OL.cutD
  rw [HT.sIx_nat, HT.sIx_none, Nat.min_eq_left h]; rfl
theorem cut_from (xs : List PyData) (j : Nat) (h : j ≤ xs.length) : OL.cutD xs (some (j : Int)) none = xs.drop j := by
  unfold OL.cutD
  rw [HT.sIx_nat, HT.sIx_none, Nat.min_eq_left h]
  rw [List.take_of_length_le (by rw [List.length_drop]; omega)]
theorem r_following {Φ : Tab} (ha : AddOk Φ) (hg : GainOk Φ) (L : Lg) (hL : L.Ok) (j : Nat) (h : j < L.gs.length) (s : Sg) (ok : SgOk L s) : runFn Φ d_following [L.d, .int j, sgD s] = some (.ok (aftL L j s).d) := by
  have h8 := hL.g8
  refine runFn_of rfl ((exL_nx (ρ1 := [.sh L.d, .sh (.int j), .sh (sgD s), .sh L.rule, .sh (rowD L.pts), .sh (.tuple (L.gs.map gmD))]) rfl).trans (exL_rt (exS_ret ?_)))
  have hgm : L.gs[j]? = some (L.gs.getD j (0, 0)) := by simp [h]
  have hin : L.gs.getD j (0, 0) ∈ L.gs := List.mem_of_getElem? hgm
  obtain ⟨g1, g2, g3, g4, g5⟩ := hL.gg _ hin
  have q1 : evE Φ (.call "added" (.cons (.v 4) (.cons (.ix (.v 5) (.v 1)) (.cons (.call "gains" (.cons (.v 3) (.cons (.v 2) .nil))) .nil)))) [.sh L.d, .sh (.int j), .sh (sgD s), .sh L.rule, .sh (rowD L.pts), .sh (.tuple (L.gs.map gmD))] = some (rowD (addV L.pts (L.gs.getD j (0, 0)) (gainF L s))) := by
    refine evE_call (added_V ha g1 g2 g3 g4 g5) (evL3 rfl (evE_ix (x := .tuple (L.gs.map gmD)) (y := .int j) rfl rfl (atI_nat (by omega) ?_)) (evE_call (hg L s ok) rfl))
    rw [List.getElem?_map]
    show Option.map gmD L.gs[((j : Nat) : Int).toNat]? = _
    rw [Int.toNat_natCast, hgm]; rfl
  have q2 : evE Φ (.bin .Add (.sl (.v 5) .no (.so (.v 1))) (.sl (.v 5) (.so (.bin .Add (.v 1) (.c (.int 1)))) .no)) [.sh L.d, .sh (.int j), .sh (sgD s), .sh L.rule, .sh (rowD L.pts), .sh (.tuple (L.gs.map gmD))] = some (.tuple ((L.gs.take j ++ L.gs.drop (j + 1)).map gmD)) := by
    rw [List.map_append, List.map_take, List.map_drop]
    refine evE_addT ?_ ?_ (by rw [List.length_take, List.length_drop, List.length_map]; omega)
    · rw [← cut_to (L.gs.map gmD) j (by rw [List.length_map]; omega)]; rfl
    · rw [← cut_from (L.gs.map gmD) (j + 1) (by rw [List.length_map]; omega)]; rfl
  have q3 : evE Φ (.v 3) [.sh L.d, .sh (.int j), .sh (sgD s), .sh L.rule, .sh (rowD L.pts), .sh (.tuple (L.gs.map gmD))] = some L.rule := rfl
  show evE Φ (.tup (.cons (.v 3) (.cons (.call "added" (.cons (.v 4) (.cons (.ix (.v 5) (.v 1)) (.cons (.call "gains" (.cons (.v 3) (.cons (.v 2) .nil))) .nil)))) (.cons (.bin .Add (.sl (.v 5) .no (.so (.v 1))) (.sl (.v 5) (.so (.bin .Add (.v 1) (.c (.int 1)))) .no)) .nil)))) [.sh L.d, .sh (.int j), .sh (sgD s), .sh L.rule, .sh (rowD L.pts), .sh (.tuple (L.gs.map gmD))] = _
  unfold evE
  rw [evL3 q3 q1 q2]; rfl
def FolOk (Φ : Tab) : Prop := ∀ (L : Lg) (j : Nat) (s : Sg), L.Ok → j < L.gs.length → SgOk L s → Says Φ "following" [L.d, .int j, sgD s] (aftL L j s).d
theorem max_row (v : List Int) (h : v ≠ []) : biD "max" [rowD v] = some (.int (maxV v)) := by
  show (ltD.ints? (iL v)).bind (fun is => (maxL is).map PyData.int) = _
  rw [ints_q, Option.bind_some, maxL_some h]; rfl
theorem r_after {Φ : Tab} (hc : CheckOk Φ) (hg : GmOk Φ) (ha : AlwOk Φ) (hf : FolOk Φ) (L : Lg) (hL : L.Ok) (j : Nat) (h : j < L.gs.length) (s : Sg) (ok : SgOk L s) (hm : ∀ p ∈ (aftL L j s).pts, p ≤ 199) : runFn Φ d_after [L.d, .int j, sgD s] = some (.ok (aftL L j s).d) := by
  have hp2 := hL.p2
  have hne : (aftL L j s).pts ≠ [] := fun e => by
    have := addV_length L.pts (L.gs.getD j (0, 0)) (gainF L s)
    rw [show addV L.pts (L.gs.getD j (0, 0)) (gainF L s) = [] from e] at this
    simp at this
    omega
  refine runFn_of rfl ((exL_nx (exS_callS (hc L hL) rfl)).trans ((exL_nx (exS_callS (hg L j h) rfl)).trans ?_))
  refine (exL_nx (exS_if0 (ρ := _) (evE_or (b := false) ?_) rfl)).trans ?_
  · refine (evOr_cons (b := false) (c := false) (by cases s <;> rfl) fun _ => ?_).trans rfl
    refine (evOr_cons (b := false) (c := false) (evE_cmp (x := sgD s) rfl (evE_call (ha L) (evL1 (ix_d0 rfl).1)) ?_) fun _ => rfl).trans rfl
    have := in_alw (L := L) ok
    rw [show cmpD .NotIn (sgD s) (.list ((alw L).map sgD)) = (cmpD .In (sgD s) (.list ((alw L).map sgD))).map (!·) from rfl, this]; rfl
  refine (exL_nx (exS_set (evE_call (hf L j s hL h ok) rfl) rfl (by simp [OL.startB, d_after]))).trans ?_
  refine (exL_nx (exS_if0 (evE_cmp (x := .int (maxV (aftL L j s).pts)) (y := .int 199) (evE_bi (x := rowD (aftL L j s).pts) (ix_d0 (L := aftL L j s) rfl).2.1 (max_row _ hne)) rfl ?_) rfl)).trans (exL_rt (exS_ret rfl))
  have := hm _ (maxV_spec hne).1
  show some (decide ((199 : Int) < maxV (aftL L j s).pts)) = _
  rw [decide_eq_false (by omega)]
def AftOk (Φ : Tab) : Prop := ∀ (L : Lg) (j : Nat) (s : Sg), L.Ok → j < L.gs.length → SgOk L s → (∀ p ∈ (aftL L j s).pts, p ≤ 199) → Says Φ "after" [L.d, .int j, sgD s] (aftL L j s).d
end OL

end
section
set_option Elab.async false
set_option linter.all false
set_option maxRecDepth 100000
set_option maxHeartbeats 2000000
namespace OL
open PySem PySem.Spec PyProof.Rows L2 OLd
/-! ### places, plainly -/
theorem plc_vec {n : Nat} {f : Nat → Int} {t : Nat} (ht : t < n) : plcV (vec n f) t = 1 + (((List.range n).countP fun i => decide (f t < f i) : Nat) : Int) := by
  unfold plcV
  have e : (vec n f).getD t 0 = f t := by simp [ht]
  rw [e, List.filter_map, List.length_map, ← List.countP_eq_length_filter]
  rfl
theorem plc_mono {n : Nat} {f f' : Nat → Int} {t : Nat} (ht : t < n) (h1 : f t ≤ f' t) (h2 : ∀ i, i < n → i ≠ t → f' i ≤ f i) : plcV (vec n f') t ≤ plcV (vec n f) t := by
  rw [plc_vec ht, plc_vec ht]
  have h : (List.range n).countP (fun i => decide (f' t < f' i)) ≤ (List.range n).countP (fun i => decide (f t < f i)) := by
    refine List.countP_mono_left fun i hi hp => ?_
    have hi' := List.mem_range.mp hi
    have hp' : f' t < f' i := by simpa using hp
    by_cases e : i = t
    · subst e; omega
    · have := h2 i hi' e
      exact decide_eq_true (by omega)
  omega
theorem sum_le {α : Type} {f g : α → Int} : ∀ {l : List α}, (∀ p ∈ l, f p ≤ g p) → (l.map f).sum ≤ (l.map g).sum
  | [], _ => by simp
  | a :: l, h => by
    have h1 := h a (by simp)
    have h2 := sum_le (l := l) fun p hp => h p (by simp [hp])
    simp only [List.map_cons, List.sum_cons]
    omega
theorem zip_zipWith {α β : Type} (f : α → β → β) : ∀ (xs : List α) (ys : List β), xs.zip (List.zipWith f xs ys) = (xs.zip ys).map fun p => (p.1, f p.1 p.2)
  | [], _ => rfl
  | _ :: _, [] => rfl
  | x :: xs, y :: ys => by
    simp only [List.zipWith_cons_cons, List.zip_cons_cons, List.map_cons, zip_zipWith f xs ys]
/-- the results with all own games of a team won, or lost -/
def trnS (t : Nat) (win : Bool) (g : Int × Int) (s : Sg) : Sg := if ownB t g = true then (if decide (g.1 = (t : Int)) = win then .h else .a) else s
def trn (L : Lg) (r : List Sg) (t : Nat) (win : Bool) : List Sg := List.zipWith (trnS t win) L.gs r
theorem trn_ok {L : Lg} {r : List Sg} {t : Nat} {win : Bool} (h : RsOk L r) : RsOk L (trn L r t win) := by
  refine ⟨by unfold trn; rw [List.length_zipWith, h.len]; omega, fun s hs => ?_⟩
  unfold trn at hs
  rw [← List.map_uncurry_zip_eq_zipWith] at hs
  obtain ⟨p, hp, rfl⟩ := List.mem_map.mp hs
  have := h.ok p.2 (List.of_mem_zip hp).2
  show SgOk L (trnS t win p.1 p.2)
  unfold trnS
  split
  · split <;> (intro e; cases e)
  · exact this
theorem gain_bound {L : Lg} (hL : L.Ok) {s : Sg} : 0 ≤ (gainF L s).1 ∧ (gainF L s).1 ≤ L.w ∧ 0 ≤ (gainF L s).2 ∧ (gainF L s).2 ≤ L.w := by
  have w1 := hL.w1
  cases s with
  | h => simp [gainF]; omega
  | a => simp [gainF]; omega
  | d =>
    simp only [gainF]
    cases hd : L.dr with
    | none => simp; omega
    | some x => have := hL.d0 x hd; simp; omega
theorem trn_fin {L : Lg} (r : List Sg) (t : Nat) (win : Bool) (k : Nat) : finF L (L.gs.zip (trn L r t win)) k = L.pts.getD k 0 + ((L.gs.zip r).map fun p => con p.1 (gainF L (trnS t win p.1 p.2)) k).sum := by
  unfold finF trn
  rw [zip_zipWith, List.map_map]
  rfl
theorem trnS_home {t : Nat} {g : Int × Int} (win : Bool) (s : Sg) (h : (t : Int) = g.1) : trnS t win g s = if win = true then .h else .a := by
  unfold trnS ownB
  cases win <;> simp [h]
theorem trnS_away {t : Nat} {g : Int × Int} (win : Bool) (s : Sg) (h0 : ¬ (t : Int) = g.1) (h : (t : Int) = g.2) : trnS t win g s = if win = true then .a else .h := by
  have h1 : ¬ g.1 = (t : Int) := fun e => h0 e.symm
  unfold trnS ownB
  cases win <;> simp [h, h0, h1] <;> omega
theorem trnS_not {t : Nat} {g : Int × Int} (win : Bool) (s : Sg) (h0 : ¬ (t : Int) = g.1) (h : ¬ (t : Int) = g.2) : trnS t win g s = s := by
  unfold trnS ownB
  simp [h, h0]
theorem con_home {g q : Int × Int} {k : Nat} (hg : g.1 ≠ g.2) (h : (k : Int) = g.1) : con g q k = q.1 := by
  unfold con; rw [if_pos h, if_neg (by omega)]; omega
theorem con_away {g q : Int × Int} {k : Nat} (hg : g.1 ≠ g.2) (h : (k : Int) = g.2) : con g q k = q.2 := by
  unfold con; rw [if_pos h, if_neg (by omega)]; omega
theorem con_not {g q : Int × Int} {k : Nat} (h0 : ¬ (k : Int) = g.1) (h : ¬ (k : Int) = g.2) : con g q k = 0 := by
  unfold con; rw [if_neg h, if_neg h0]; omega
/-- all own games won: the own points are at their greatest, the others' at their least -/
theorem con_won {L : Lg} (hL : L.Ok) {g : Int × Int} (hg : g.1 ≠ g.2) (s : Sg) (t k : Nat) : (k = t → con g (gainF L s) k ≤ con g (gainF L (trnS t true g s)) k) ∧ (k ≠ t → con g (gainF L (trnS t true g s)) k ≤ con g (gainF L s) k) := by
  obtain ⟨b1, b2, b3, b4⟩ := gain_bound hL (s := s)
  have w1 := hL.w1
  by_cases h1 : (t : Int) = g.1
  · rw [trnS_home true s h1, if_pos rfl]
    refine ⟨fun e => ?_, fun e => ?_⟩
    · subst e; rw [con_home hg h1, con_home hg h1]; simp only [gainF] at *; omega
    · by_cases h2 : (k : Int) = g.2
      · rw [con_away hg h2, con_away hg h2]; simp only [gainF] at *; omega
      · rw [con_not (by omega) h2, con_not (by omega) h2]; omega
  · by_cases h2 : (t : Int) = g.2
    · rw [trnS_away true s h1 h2, if_pos rfl]
      refine ⟨fun e => ?_, fun e => ?_⟩
      · subst e; rw [con_away hg h2, con_away hg h2]; simp only [gainF] at *; omega
      · by_cases h3 : (k : Int) = g.1
        · rw [con_home hg h3, con_home hg h3]; simp only [gainF] at *; omega
        · rw [con_not h3 (by omega), con_not h3 (by omega)]; omega
    · rw [trnS_not true s h1 h2]
      exact ⟨fun _ => Int.le_refl _, fun _ => Int.le_refl _⟩
theorem con_lost {L : Lg} (hL : L.Ok) {g : Int × Int} (hg : g.1 ≠ g.2) (s : Sg) (t k : Nat) : (k ≠ t → con g (gainF L s) k ≤ con g (gainF L (trnS t false g s)) k) ∧ (k = t → con g (gainF L (trnS t false g s)) k ≤ con g (gainF L s) k) := by
  obtain ⟨b1, b2, b3, b4⟩ := gain_bound hL (s := s)
  have w1 := hL.w1
  by_cases h1 : (t : Int) = g.1
  · rw [trnS_home false s h1, if_neg (by decide)]
    refine ⟨fun e => ?_, fun e => ?_⟩
    · by_cases h2 : (k : Int) = g.2
      · rw [con_away hg h2, con_away hg h2]; simp only [gainF] at *; omega
      · rw [con_not (by omega) h2, con_not (by omega) h2]; omega
    · subst e; rw [con_home hg h1, con_home hg h1]; simp only [gainF] at *; omega
  · by_cases h2 : (t : Int) = g.2
    · rw [trnS_away false s h1 h2, if_neg (by decide)]
      refine ⟨fun e => ?_, fun e => ?_⟩
      · by_cases h3 : (k : Int) = g.1
        · rw [con_home hg h3, con_home hg h3]; simp only [gainF] at *; omega
        · rw [con_not h3 (by omega), con_not h3 (by omega)]; omega
      · subst e; rw [con_away hg h2, con_away hg h2]; simp only [gainF] at *; omega
    · rw [trnS_not false s h1 h2]
      exact ⟨fun _ => Int.le_refl _, fun _ => Int.le_refl _⟩
theorem zip_game {L : Lg} (hL : L.Ok) {r : List Sg} {p : (Int × Int) × Sg} (hp : p ∈ L.gs.zip r) : p.1.1 ≠ p.1.2 := (hL.gg p.1 (List.of_mem_zip hp).1).2.2.2.2
theorem won_fin {L : Lg} (hL : L.Ok) (r : List Sg) (t k : Nat) : (k = t → finF L (L.gs.zip r) k ≤ finF L (L.gs.zip (trn L r t true)) k) ∧ (k ≠ t → finF L (L.gs.zip (trn L r t true)) k ≤ finF L (L.gs.zip r) k) := by
  rw [trn_fin]
  unfold finF
  refine ⟨fun e => ?_, fun e => ?_⟩
  · have := sum_le (l := L.gs.zip r) (f := fun p => con p.1 (gainF L p.2) k) (g := fun p => con p.1 (gainF L (trnS t true p.1 p.2)) k) fun p hp => (con_won hL (zip_game hL hp) p.2 t k).1 e
    omega
  · have := sum_le (l := L.gs.zip r) (g := fun p => con p.1 (gainF L p.2) k) (f := fun p => con p.1 (gainF L (trnS t true p.1 p.2)) k) fun p hp => (con_won hL (zip_game hL hp) p.2 t k).2 e
    omega
theorem lost_fin {L : Lg} (hL : L.Ok) (r : List Sg) (t k : Nat) : (k ≠ t → finF L (L.gs.zip r) k ≤ finF L (L.gs.zip (trn L r t false)) k) ∧ (k = t → finF L (L.gs.zip (trn L r t false)) k ≤ finF L (L.gs.zip r) k) := by
  rw [trn_fin]
  unfold finF
  refine ⟨fun e => ?_, fun e => ?_⟩
  · have := sum_le (l := L.gs.zip r) (f := fun p => con p.1 (gainF L p.2) k) (g := fun p => con p.1 (gainF L (trnS t false p.1 p.2)) k) fun p hp => (con_lost hL (zip_game hL hp) p.2 t k).1 e
    omega
  · have := sum_le (l := L.gs.zip r) (g := fun p => con p.1 (gainF L p.2) k) (f := fun p => con p.1 (gainF L (trnS t false p.1 p.2)) k) fun p hp => (con_lost hL (zip_game hL hp) p.2 t k).2 e
    omega
theorem won_plc {L : Lg} (hL : L.Ok) (r : List Sg) {t : Nat} (ht : t < L.pts.length) : plcV (fin L (trn L r t true)) t ≤ plcV (fin L r) t :=
  plc_mono ht ((won_fin hL r t t).1 rfl) fun i _ e => (won_fin hL r t i).2 e
theorem lost_plc {L : Lg} (hL : L.Ok) (r : List Sg) {t : Nat} (ht : t < L.pts.length) : plcV (fin L r) t ≤ plcV (fin L (trn L r t false)) t :=
  plc_mono ht ((lost_fin hL r t t).2 rfl) fun i _ e => (lost_fin hL r t i).1 e
theorem bst_won {L : Lg} (hL : L.Ok) {t : Nat} (ht : t < L.pts.length) : plcV (fin L (trn L (rsFor L t (bst L t)) t true)) t = bst L t := by
  obtain ⟨h1, h2⟩ := rsFor_spec (bst_mem L t)
  have h3 := won_plc hL (rsFor L t (bst L t)) ht
  have h4 := bst_le (t := t) (mem_plcs.mpr ⟨_, trn_ok (t := t) (win := true) h1, rfl⟩)
  omega
theorem wst_lost {L : Lg} (hL : L.Ok) {t : Nat} (ht : t < L.pts.length) : plcV (fin L (trn L (rsFor L t (wst L t)) t false)) t = wst L t := by
  obtain ⟨h1, h2⟩ := rsFor_spec (wst_mem L t)
  have h3 := lost_plc hL (rsFor L t (wst L t)) ht
  have h4 := le_wst (t := t) (mem_plcs.mpr ⟨_, trn_ok (t := t) (win := false) h1, rfl⟩)
  omega
/-! ### the league after a game -/
theorem aft_pts {L : Lg} {j k : Nat} {s : Sg} (hk : k < L.pts.length) : (aftL L j s).pts.getD k 0 = L.pts.getD k 0 + con (L.gs.getD j (0, 0)) (gainF L s) k := by
  show (addV L.pts (L.gs.getD j (0, 0)) (gainF L s)).getD k 0 = _
  unfold addV
  simp [hk]
theorem aft_len {L : Lg} {j : Nat} {s : Sg} : (aftL L j s).pts.length = L.pts.length := addV_length _ _ _
theorem aft_gs {L : Lg} {j : Nat} {s : Sg} (h : j < L.gs.length) : (aftL L j s).gs.length + 1 = L.gs.length := by
  show (L.gs.take j ++ L.gs.drop (j + 1)).length + 1 = _
  simp; omega
def insR (r : List Sg) (j : Nat) (s : Sg) : List Sg := r.take j ++ s :: r.drop j
theorem aft_fin {L : Lg} {j : Nat} {s : Sg} {r : List Sg} (h : j < L.gs.length) (hr : r.length = (aftL L j s).gs.length) {k : Nat} (hk : k < L.pts.length) : finF (aftL L j s) ((aftL L j s).gs.zip r) k = finF L (L.gs.zip (insR r j s)) k := by
  have hl := aft_gs (s := s) h
  unfold finF
  rw [aft_pts hk]
  have e1 : (aftL L j s).gs.zip r = (L.gs.take j).zip (r.take j) ++ (L.gs.drop (j + 1)).zip (r.drop j) := by
    rw [← List.zip_append (by simp; omega), List.take_append_drop]; rfl
  have e2 : L.gs.zip (insR r j s) = (L.gs.take j).zip (r.take j) ++ (L.gs.getD j (0, 0), s) :: (L.gs.drop (j + 1)).zip (r.drop j) := by
    rw [← List.zip_cons_cons, ← List.zip_append (by simp; omega)]
    congr 1
    rw [List.getD_eq_getElem?_getD, List.getElem?_eq_getElem h, Option.getD_some, List.getElem_cons_drop h, List.take_append_drop]
  rw [e1, e2]
  simp only [List.map_append, List.map_cons, List.sum_append, List.sum_cons]
  have e3 : ∀ l : List ((Int × Int) × Sg), (l.map fun p => con p.1 (gainF (aftL L j s) p.2) k) = l.map fun p => con p.1 (gainF L p.2) k := fun l => rfl
  rw [e3, e3]
  omega
theorem ins_ok {L : Lg} {j : Nat} {s : Sg} {r : List Sg} (h : j < L.gs.length) (ok : SgOk L s) (hr : RsOk (aftL L j s) r) : RsOk L (insR r j s) := by
  have hl := aft_gs (s := s) h
  have := hr.len
  refine ⟨by unfold insR; simp; omega, fun x hx => ?_⟩
  unfold insR at hx
  rcases List.mem_append.mp hx with e | e
  · exact hr.ok x (List.mem_of_mem_take e)
  · rcases List.mem_cons.mp e with e | e
    · rw [e]; exact ok
    · exact hr.ok x (List.mem_of_mem_drop e)
theorem ins_surj {L : Lg} {j : Nat} (h : j < L.gs.length) {q : List Sg} (hq : RsOk L q) : ∃ s r, SgOk L s ∧ RsOk (aftL L j s) r ∧ insR r j s = q := by
  have hl := hq.len
  have hj : j < q.length := by omega
  refine ⟨q[j], q.take j ++ q.drop (j + 1), hq.ok _ (List.getElem_mem hj), ⟨?_, fun x hx => ?_⟩, ?_⟩
  · have := aft_gs (s := q[j]) h
    simp; omega
  · rcases List.mem_append.mp hx with e | e
    · exact hq.ok x (List.mem_of_mem_take e)
    · exact hq.ok x (List.mem_of_mem_drop e)
  · unfold insR
    rw [List.take_append_of_le_length (by simp; omega), List.take_take, Nat.min_self, List.drop_append, List.drop_take]
    simp [hj]
    have : j - min j q.length = 0 := by omega
    rw [this, Nat.add_zero, List.getElem_cons_drop hj, List.take_append_drop]
theorem aft_finV {L : Lg} {j : Nat} {s : Sg} {r : List Sg} (h : j < L.gs.length) (hr : r.length = (aftL L j s).gs.length) : fin (aftL L j s) r = fin L (insR r j s) := by
  unfold fin
  rw [aft_len]
  refine List.map_congr_left fun k hk => ?_
  exact aft_fin h hr (List.mem_range.mp hk)
theorem aft_plcs {L : Lg} {j : Nat} (h : j < L.gs.length) (t : Nat) (x : Int) : x ∈ plcs L t ↔ ∃ s ∈ alw L, x ∈ plcs (aftL L j s) t := by
  simp only [mem_plcs]
  constructor
  · rintro ⟨q, hq, e⟩
    obtain ⟨s, r, ok, hr, rfl⟩ := ins_surj h hq
    exact ⟨s, mem_alw.mpr ok, r, hr, by rw [aft_finV h hr.len]; exact e⟩
  · rintro ⟨s, hs, r, hr, e⟩
    have ok := mem_alw.mp hs
    exact ⟨_, ins_ok h ok hr, by rw [← aft_finV h hr.len]; exact e⟩
theorem aft_ok {L : Lg} (hL : L.Ok) {j : Nat} (h : j < L.gs.length) (s : Sg) (hm : ∀ p ∈ L.pts, p ≤ 180) : (aftL L j s).Ok := by
  have hl := aft_gs (s := s) h
  have h8 := hL.g8
  have w9 := hL.w9
  have hin : L.gs.getD j (0, 0) ∈ L.gs := by
    rw [List.getD_eq_getElem?_getD, List.getElem?_eq_getElem h]; exact List.getElem_mem h
  obtain ⟨b1, b2, b3, b4⟩ := gain_bound hL (s := s)
  refine ⟨hL.w1, hL.w9, hL.d0, by rw [aft_len]; exact hL.p2, by rw [aft_len]; exact hL.p6, fun p hp => ?_, by omega, fun g hg => ?_⟩
  · obtain ⟨k, hk, rfl⟩ := List.getElem_of_mem hp
    rw [aft_len] at hk
    have e := aft_pts (L := L) (j := j) (s := s) hk
    rw [List.getD_eq_getElem?_getD, List.getElem?_eq_getElem (by rw [aft_len]; exact hk), Option.getD_some] at e
    rw [e]
    have e2 : L.pts.getD k 0 = L.pts[k] := by simp [hk]
    have q1 := hL.pp _ (List.getElem_mem hk)
    have q2 := hm _ (List.getElem_mem hk)
    rw [e2]
    unfold con
    split <;> split <;> omega
  · rw [aft_len]
    rcases List.mem_append.mp (show g ∈ L.gs.take j ++ L.gs.drop (j + 1) from hg) with e | e
    · exact hL.gg g (List.mem_of_mem_take e)
    · exact hL.gg g (List.mem_of_mem_drop e)
/-! ### home and away exchanged -/
def swpG (g : Int × Int) : Int × Int := (g.2, g.1)
def swpL (L : Lg) : Lg := ⟨L.w, L.dr, L.pts, L.gs.map swpG⟩
def swpS : Sg → Sg
  | .h => .a
  | .a => .h
  | .d => .d
theorem swpS_swpS (s : Sg) : swpS (swpS s) = s := by cases s <;> rfl
theorem swp_con (L : Lg) (g : Int × Int) (s : Sg) (k : Nat) : con (swpG g) (gainF (swpL L) (swpS s)) k = con g (gainF L s) k := by
  cases s <;> (simp only [swpS, gainF, con, swpG, swpL]; omega)
theorem swp_finV (L : Lg) (r : List Sg) : fin (swpL L) (r.map swpS) = fin L r := by
  unfold fin
  refine List.map_congr_left fun k hk => ?_
  unfold finF
  show L.pts.getD k 0 + (((L.gs.map swpG).zip (r.map swpS)).map fun p => con p.1 (gainF (swpL L) p.2) k).sum = _
  rw [List.zip_map, List.map_map]
  congr 2
  refine List.map_congr_left fun p _ => ?_
  exact swp_con L p.1 p.2 k
theorem swp_rs {L : Lg} {r : List Sg} (h : RsOk L r) : RsOk (swpL L) (r.map swpS) := by
  refine ⟨by simp [swpL, h.len], fun s hs => ?_⟩
  obtain ⟨x, hx, rfl⟩ := List.mem_map.mp hs
  have := h.ok x hx
  cases x with
  | h => intro e; cases e
  | a => intro e; cases e
  | d => exact this
theorem swp_rs' {L : Lg} {r : List Sg} (h : RsOk (swpL L) r) : RsOk L (r.map swpS) := by
  have hl := h.len
  refine ⟨by simpa [swpL] using hl, fun s hs => ?_⟩
  obtain ⟨x, hx, rfl⟩ := List.mem_map.mp hs
  have := h.ok x hx
  cases x with
  | h => intro e; cases e
  | a => intro e; cases e
  | d => exact this
theorem swp_plcs (L : Lg) (t : Nat) : plcs (swpL L) t = plcs L t := by
  refine sortU_congr fun x => ?_
  simp only [List.mem_map]
  constructor
  · rintro ⟨r, hr, e⟩
    have h := swp_rs' (mem_allR.mp hr)
    refine ⟨r.map swpS, mem_allR.mpr h, ?_⟩
    rw [← swp_finV L (r.map swpS), List.map_map]
    rw [show (swpS ∘ swpS) = id from funext swpS_swpS, List.map_id]
    exact e
  · rintro ⟨r, hr, e⟩
    exact ⟨r.map swpS, mem_allR.mpr (swp_rs (mem_allR.mp hr)), by rw [swp_finV]; exact e⟩
theorem swp_ok {L : Lg} (h : L.Ok) : (swpL L).Ok := by
  refine ⟨h.w1, h.w9, h.d0, h.p2, h.p6, h.pp, by simpa [swpL] using h.g8, fun g hg => ?_⟩
  obtain ⟨q, hq, rfl⟩ := List.mem_map.mp (show g ∈ L.gs.map swpG from hg)
  have := h.gg q hq
  exact ⟨this.2.2.1, this.2.2.2.1, this.1, this.2.1, fun e => this.2.2.2.2 e.symm⟩
/-! ### one point more -/
def incL (L : Lg) (t : Nat) : Lg := ⟨L.w, L.dr, L.pts.take t ++ [L.pts.getD t 0 + 1] ++ L.pts.drop (t + 1), L.gs⟩
theorem inc_set {l : List Int} {t : Nat} (h : t < l.length) (x : Int) : l.take t ++ [x] ++ l.drop (t + 1) = l.set t x := by
  rw [List.set_eq_take_append_cons_drop, if_pos h]; simp
theorem inc_len {L : Lg} {t : Nat} (h : t < L.pts.length) : (incL L t).pts.length = L.pts.length := by
  show (L.pts.take t ++ [L.pts.getD t 0 + 1] ++ L.pts.drop (t + 1)).length = _
  rw [inc_set h, List.length_set]
theorem inc_pts {L : Lg} {t : Nat} (h : t < L.pts.length) (k : Nat) : (incL L t).pts.getD k 0 = if k = t then L.pts.getD t 0 + 1 else L.pts.getD k 0 := by
  show (L.pts.take t ++ [L.pts.getD t 0 + 1] ++ L.pts.drop (t + 1)).getD k 0 = _
  rw [inc_set h]
  by_cases e : k = t
  · subst e; rw [if_pos rfl]; simp [h]
  · rw [if_neg e]
    simp only [List.getD_eq_getElem?_getD]
    rw [List.getElem?_set_ne (fun z => e z.symm)]
theorem inc_fin {L : Lg} {t : Nat} (h : t < L.pts.length) (r : List Sg) (k : Nat) : finF (incL L t) (L.gs.zip r) k = finF L (L.gs.zip r) k + if k = t then 1 else 0 := by
  unfold finF
  rw [inc_pts h]
  have e3 : ∀ l : List ((Int × Int) × Sg), (l.map fun p => con p.1 (gainF (incL L t) p.2) k) = l.map fun p => con p.1 (gainF L p.2) k := fun l => rfl
  rw [e3]
  by_cases e : k = t
  · subst e; rw [if_pos rfl, if_pos rfl]; omega
  · rw [if_neg e, if_neg e]; omega
theorem inc_plc {L : Lg} {t : Nat} (h : t < L.pts.length) (r : List Sg) : plcV (fin (incL L t) r) t ≤ plcV (fin L r) t := by
  unfold fin
  rw [inc_len h]
  refine plc_mono h ?_ fun i _ e => ?_
  · rw [show (incL L t).gs = L.gs from rfl, inc_fin h]; rw [if_pos rfl]; omega
  · rw [show (incL L t).gs = L.gs from rfl, inc_fin h, if_neg e]; omega
theorem inc_rs {L : Lg} {t : Nat} {r : List Sg} : RsOk (incL L t) r ↔ RsOk L r := ⟨fun h => ⟨h.len, h.ok⟩, fun h => ⟨h.len, h.ok⟩⟩
theorem inc_bst {L : Lg} {t : Nat} (h : t < L.pts.length) : bst (incL L t) t ≤ bst L t := by
  obtain ⟨r, hr, e⟩ := mem_plcs.mp (bst_mem L t)
  have := inc_plc h r
  have := bst_le (mem_plcs.mpr ⟨r, inc_rs.mpr hr, rfl⟩ : plcV (fin (incL L t) r) t ∈ plcs (incL L t) t)
  omega
theorem inc_wst {L : Lg} {t : Nat} (h : t < L.pts.length) : wst (incL L t) t ≤ wst L t := by
  obtain ⟨r, hr, e⟩ := mem_plcs.mp (wst_mem (incL L t) t)
  have := inc_plc h r
  have := le_wst (mem_plcs.mpr ⟨r, inc_rs.mp hr, rfl⟩ : plcV (fin L r) t ∈ plcs L t)
  omega
theorem inc_ok {L : Lg} (hL : L.Ok) {t : Nat} (h : t < L.pts.length) (hm : ∀ p ∈ L.pts, p ≤ 180) : (incL L t).Ok := by
  refine ⟨hL.w1, hL.w9, hL.d0, by rw [inc_len h]; exact hL.p2, by rw [inc_len h]; exact hL.p6, fun p hp => ?_, hL.g8, by rw [inc_len h]; exact hL.gg⟩
  have hp : p ∈ L.pts.take t ++ [L.pts.getD t 0 + 1] ++ L.pts.drop (t + 1) := hp
  rcases List.mem_append.mp hp with e | e
  · rcases List.mem_append.mp e with e | e
    · exact hL.pp p (List.mem_of_mem_take e)
    · have e2 : L.pts.getD t 0 = L.pts[t] := by simp [h]
      have q1 := hL.pp _ (List.getElem_mem h)
      have q2 := hm _ (List.getElem_mem h)
      simp only [List.mem_singleton] at e
      rw [e2] at e
      omega
  · exact hL.pp p (List.mem_of_mem_drop e)
/-- somebody can be first -/
theorem some_first (L : Lg) (h : 0 < L.pts.length) : ∃ t, t < L.pts.length ∧ bst L t = 1 := by
  obtain ⟨r, hr⟩ := List.exists_mem_of_ne_nil _ (allR_ne L)
  refine ⟨chp L r, chp_lt L r h, ?_⟩
  have : canF L (chp L r) = true := canF_iff.mpr ⟨r, mem_allR.mp hr, (plc_one (chp_lt L r h)).mpr fun s hs => chp_top L r h s hs⟩
  simpa [canF] using this
end OL

end
section
set_option Elab.async false
set_option linter.all false
set_option maxRecDepth 100000
set_option maxHeartbeats 4000000
namespace OL
open PySem PySem.Spec PyProof.Rows L2 OLd
theorem exS_putL {Φ : Tab} {i : Nat} {k e : E} {ρ : Env} {xs : List PyData} {j : Nat} {x : PyData} (he : evE Φ e ρ = some x) (hk : evE Φ k ρ = some (.int (j : Nat))) (hb : ρ[i]? = some (.ow (.list xs))) (h1 : j < xs.length) : exS Φ (.put i k e) ρ = some (.nx (ρ.set i (.ow (.list (xs.set j x))))) := by
  unfold exS
  rw [he, Option.bind_some, hk, Option.bind_some, hb]
  simp only [int?, Option.bind_some]
  have hix : ixN xs.length (j : Int) = some j := by
    rw [ixN_of (by omega) (by omega), Int.toNat_natCast]
  rw [hix]; rfl
theorem evE_ife {Φ : Tab} {c a b : E} {ρ : Env} {k : Bool} (h : evE Φ c ρ = some (.bool k)) : evE Φ (.ife c a b) ρ = if k = true then evE Φ a ρ else evE Φ b ρ := by
  conv => lhs; unfold evE
  rw [h]; rfl
theorem mem_ownG {L : Lg} {t i : Nat} : i ∈ ownG L t ↔ ∃ g, L.gs[i]? = some g ∧ ownB t g = true := by
  unfold ownG
  simp only [List.mem_map, List.mem_filter]
  constructor
  · rintro ⟨⟨g, j⟩, ⟨h1, h2⟩, rfl⟩
    exact ⟨g, List.mem_zipIdx_iff_getElem?.mp h1, h2⟩
  · rintro ⟨g, h1, h2⟩
    exact ⟨(g, i), ⟨List.mem_zipIdx_iff_getElem?.mpr h1, h2⟩, rfl⟩
end OL
namespace OL
open PySem PySem.Spec PyProof.Rows L2 OLd
theorem exS_par3 {Φ : Tab} {i j k : Nat} {m n o : M} {x y z : E} {ρ : Env} {d e f : PyData} {b c g : B} (h1 : evE Φ x ρ = some d) (h2 : evE Φ y ρ = some e) (h3 : evE Φ z ρ = some f) (hb : hold m d = some b) (hc : hold n e = some c) (hg : hold o f = some g) (hi : i < ρ.length) (hj : j < ρ.length) (hk : k < ρ.length) :
    exS Φ (.par [(i, m), (j, n), (k, o)] (.cons x (.cons y (.cons z .nil)))) ρ = some (.nx (((ρ.set i b).set j c).set k g)) := by
  unfold exS
  rw [evL3 h1 h2 h3]
  simp [setAll, hb, hc, hg, hi, hj, hk]
theorem plcs_len {L : Lg} {t : Nat} (ht : t < L.pts.length) : (plcs L t).length ≤ L.pts.length := by
  have nd : (plcs L t).Nodup := (plcs_lt L t).imp fun h e => by omega
  have := nodup_len nd (m := (List.range L.pts.length).map fun i : Nat => (i : Int) + 1) fun x hx => by
    obtain ⟨r, _, rfl⟩ := mem_plcs.mp hx
    have h1 := plcV_pos (fin L r) t
    have h2 := plcV_le (fin L r) t (by rw [fin_length]; exact ht)
    rw [fin_length] at h2
    exact List.mem_map.mpr ⟨(plcV (fin L r) t - 1).toNat, List.mem_range.mpr (by omega), by omega⟩
  simpa using this
theorem plcs_le {L : Lg} {t : Nat} (ht : t < L.pts.length) {x : Int} (hx : x ∈ plcs L t) : x ≤ L.pts.length := by
  obtain ⟨r, _, rfl⟩ := mem_plcs.mp hx
  have h2 := plcV_le (fin L r) t (by rw [fin_length]; exact ht)
  rwa [fin_length] at h2
theorem pl_at (v : List Int) (t : Nat) (h : t < v.length) : atI (iL (plAll v)) (t : Nat) = some (.int (plcV v t)) := by
  refine atI_nat (by omega) ?_
  unfold plAll
  simp [h]
theorem canLay_gms (l : List (Int × Int)) : PyData.canLayAll0 (l.map gmD) = true := by
  induction l with
  | nil => rfl
  | cons x r ih =>
    show PyData.canLayAll0 (gmD x :: r.map gmD) = true
    simp only [PyData.canLayAll0, ih, Bool.and_true]
    simp only [gmD, PyData.canLay0, PyData.canLayAll0, Bool.and_true]
theorem depthAll_gms (l : List (Int × Int)) : PyData.depthAll (l.map gmD) ≤ 1 := by
  induction l with
  | nil => decide
  | cons x r ih =>
    show PyData.depthAll (gmD x :: r.map gmD) ≤ 1
    rw [PyData.depthAll]
    refine Nat.max_le.mpr ⟨?_, ih⟩
    simp [gmD, PyData.depth, PyData.depthAll]
theorem eqD_gms_nil (l : List (Int × Int)) : eqD (.tuple (l.map gmD)) (.tuple []) = some (decide (l = [])) := by
  have hs : shp (.tuple (l.map gmD)) = true := by
    have h3 : PyData.depth (.tuple (l.map gmD)) ≤ 64 := by have := depthAll_gms l; rw [PyData.depth]; omega
    unfold shp SeqAt.shaped
    rw [PyData.canLay0, canLay_gms, decide_eq_true h3]; rfl
  unfold eqD
  rw [if_pos ⟨hs, rfl⟩, PyData.eqv]
  cases l <;> rfl
theorem sset_self {L : Lg} {t : Nat} : sortU (plcs L t) = plcs L t := sortU_eq (plcs_lt L t) fun _ => Iff.rfl
theorem evE_cmp3 {Φ : Tab} {o1 o2 o3 : CmpOp} {a b c d : E} {ρ : Env} {x y z u : PyData} {k : Bool} (h1 : evE Φ a ρ = some x) (h2 : evE Φ b ρ = some y) (h3 : evE Φ c ρ = some z) (h4 : evE Φ d ρ = some u) (e1 : cmpD o1 x y = some true) (e2 : cmpD o2 y z = some true) (e3 : cmpD o3 z u = some k) : evE Φ (.cmp3 o1 o2 o3 a b c d) ρ = some (.bool k) := by
  conv => lhs; unfold evE
  rw [h1, h2, Option.bind_some, Option.bind_some, e1, Option.bind_some, if_pos rfl, h3, Option.bind_some, e2, Option.bind_some, if_pos rfl, h4, Option.bind_some, e3]; rfl
theorem evE_addL {Φ : Tab} {a b : E} {ρ : Env} {xs ys : List PyData} (h1 : evE Φ a ρ = some (.list xs)) (h2 : evE Φ b ρ = some (.list ys)) (hl : xs.length + ys.length ≤ 16777216) : evE Φ (.bin .Add a b) ρ = some (.list (xs ++ ys)) := by
  refine evE_bin h1 h2 ?_
  show (if xs.length + ys.length ≤ 16777216 then some (PyData.list (xs ++ ys)) else none) = _
  rw [if_pos hl]
theorem le_cmp {i j : Int} (h : i ≤ j) : cmpD .LtE (.int i) (.int j) = some true := by
  show some (decide (i ≤ j)) = _
  rw [decide_eq_true h]
theorem gt_cmp {i j : Int} (h : i ≤ j) : cmpD .Gt (.int i) (.int j) = some false := by
  show some (decide (j < i)) = _
  rw [decide_eq_false (by omega)]
end OL

end
section
set_option Elab.async false
set_option linter.all false
set_option maxRecDepth 100000
set_option maxHeartbeats 4000000
namespace OL
open PySem PySem.Spec PyProof.Rows L2 OLd
mutual
theorem eqv_refl : ∀ (d : PyData), d.canLay0 = true → PyData.eqv d d = true
  | .none, _ => by simp [PyData.eqv]
  | .bool _, _ => by simp [PyData.eqv]
  | .int _, _ => by simp [PyData.eqv]
  | .str _, _ => by simp [PyData.eqv]
  | .list xs, h => by
    rw [PyData.eqv]
    exact eqvAll_refl xs (by simpa [PyData.canLay0] using h)
  | .tuple xs, h => by
    rw [PyData.eqv]
    exact eqvAll_refl xs (by simpa [PyData.canLay0] using h)
  | .dict _, h => by simp [PyData.canLay0] at h
theorem eqvAll_refl : ∀ (d : List PyData), PyData.canLayAll0 d = true → PyData.eqvAll d d = true
  | [], _ => by simp [PyData.eqvAll]
  | x :: xs, h => by
    have h' : x.canLay0 = true ∧ PyData.canLayAll0 xs = true := by simpa [PyData.canLayAll0] using h
    simp [PyData.eqvAll, eqv_refl x h'.1, eqvAll_refl xs h'.2]
end
theorem eqD_self {d : PyData} (h1 : d.canLay0 = true) (h2 : d.depth ≤ 64) : eqD d d = some true := by
  have h : shp d = true := by
    unfold shp SeqAt.shaped
    rw [h1, decide_eq_true h2]; rfl
  unfold eqD
  rw [if_pos ⟨h, h⟩, eqv_refl d h1]
theorem eqD_lg (L : Lg) : eqD L.d L.d = some true := by
  have h1 : L.rule.canLay0 = true ∧ L.rule.depth ≤ 2 := by
    unfold Lg.rule
    cases L.dr <;> exact ⟨rfl, by simp [PyData.depth, PyData.depthAll, drD]⟩
  have h2 : (rowD L.pts).canLay0 = true ∧ (rowD L.pts).depth ≤ 2 := ⟨by show PyData.canLay0 (.tuple _) = _; rw [PyData.canLay0, canLayAll_ints], by show PyData.depth (.tuple _) ≤ 2; rw [PyData.depth, depthAll_ints]; decide⟩
  have h3 : (PyData.tuple (L.gs.map gmD)).canLay0 = true ∧ (PyData.tuple (L.gs.map gmD)).depth ≤ 2 := ⟨by rw [PyData.canLay0, canLay_gms], by rw [PyData.depth]; have := depthAll_gms L.gs; omega⟩
  refine eqD_self ?_ ?_
  · show PyData.canLay0 (.tuple [L.rule, rowD L.pts, .tuple (L.gs.map gmD)]) = true
    rw [PyData.canLay0, PyData.canLayAll0, PyData.canLayAll0, PyData.canLayAll0, PyData.canLayAll0, h1.1, h2.1, h3.1]; rfl
  · show PyData.depth (.tuple [L.rule, rowD L.pts, .tuple (L.gs.map gmD)]) ≤ 64
    rw [PyData.depth, PyData.depthAll, PyData.depthAll, PyData.depthAll, PyData.depthAll]
    omega
end OL

end
section
set_option Elab.async false
set_option linter.all false
set_option maxRecDepth 100000
set_option maxHeartbeats 1000000
/-! the parts of a joined text -/
namespace OL
open PySem PySem.StrLaws PySem.Builtin PySem.Builtin.Str
/-- the separator stands at i -/
def mat (x y : Str) (i : Nat) : Bool := decide (i + y.length ≤ x.length ∧ subAt x y i = true)
theorem occ_all (x y : Str) (limit : Nat) : ∀ (l : List Nat) (st : Array Nat × Nat), (∀ i ∈ l, mat x y i = true → st.2 ≤ i) → l.Pairwise (fun a b => mat x y a = true → mat x y b = true → a + y.length ≤ b) → st.1.size + l.length ≤ limit →
    (forIn l st (occBody x y x.length limit)).run.fst.toList = st.1.toList ++ l.filter (mat x y)
  | [], st, _, _, _ => by simp
  | a :: l, st, h1, h2, h3 => by
    rw [List.forIn_cons]
    unfold occBody
    obtain ⟨p1, p2⟩ := List.pairwise_cons.mp h2
    rw [List.length_cons] at h3
    by_cases hm : mat x y a = true
    · have hd := of_decide_eq_true hm
      rw [if_pos ⟨⟨⟨by omega, h1 a (by simp) hm⟩, hd.1⟩, hd.2⟩]
      have ih := occ_all x y limit l (st.1.push a, a + y.length) (fun i hi hmi => p1 i hi hm hmi) p2 (by simp; omega)
      rw [List.filter_cons, if_pos hm]
      refine Eq.trans ih ?_
      simp
    · have hn : ¬ (((st.fst.size < limit ∧ st.snd ≤ a) ∧ a + y.length ≤ x.length) ∧ subAt x y a = true) := fun z => hm (decide_eq_true ⟨z.1.2, z.2⟩)
      rw [if_neg hn]
      have ih := occ_all x y limit l (st.1, st.2) (fun i hi hmi => h1 i (by simp [hi]) hmi) p2 (by show st.1.size + l.length ≤ limit; omega)
      rw [List.filter_cons, if_neg hm]
      exact ih
/-- where c stands -/
def posL (c : Nat) : List Nat → Nat → List Nat
  | [], _ => []
  | a :: r, o => if a = c then o :: posL c r (o + 1) else posL c r (o + 1)
theorem posL_app (c : Nat) : ∀ (A B : List Nat) (o : Nat), posL c (A ++ B) o = posL c A o ++ posL c B (o + A.length)
  | [], B, o => by simp [posL]
  | a :: A, B, o => by
    show (if a = c then o :: posL c (A ++ B) (o + 1) else posL c (A ++ B) (o + 1)) = (if a = c then o :: posL c A (o + 1) else posL c A (o + 1)) ++ _
    rw [posL_app c A B (o + 1), List.length_cons, show o + 1 + A.length = o + (A.length + 1) by omega]
    split <;> simp
theorem posL_no (c : Nat) : ∀ (A : List Nat) (o : Nat), c ∉ A → posL c A o = []
  | [], o, _ => rfl
  | a :: A, o, h => by
    show (if a = c then o :: posL c A (o + 1) else posL c A (o + 1)) = []
    rw [if_neg (fun e => h (by simp [e]))]
    exact posL_no c A (o + 1) (fun z => h (by simp [z]))
theorem posL_filter (c : Nat) : ∀ (L : List Nat) (o : Nat), (List.range' o L.length).filter (fun i => decide (L[i - o]? = some c)) = posL c L o
  | [], o => rfl
  | a :: L, o => by
    rw [List.length_cons, List.range'_succ, List.filter_cons]
    have e : (List.range' (o + 1) L.length).filter (fun i => decide ((a :: L)[i - o]? = some c)) = posL c L (o + 1) := by
      rw [← posL_filter c L (o + 1)]
      refine List.filter_congr fun i hi => ?_
      have : o + 1 ≤ i := by
        have := List.mem_range'.mp hi
        obtain ⟨k, _, rfl⟩ := this
        omega
      rw [show i - o = (i - (o + 1)) + 1 by omega]
      rfl
    rw [e]
    show _ = (if a = c then o :: posL c L (o + 1) else posL c L (o + 1))
    simp
/-- the joined text, as a list -/
def jn (sp : List Nat) : List (List Nat) → List Nat
  | [] => []
  | [w] => w
  | w :: v :: r => w ++ (sp ++ jn sp (v :: r))
def cutsL (k : Nat) : List (List Nat) → Nat → List Nat
  | [], _ => []
  | [_], _ => []
  | w :: v :: r, o => (o + w.length) :: cutsL k (v :: r) (o + w.length + k)
section
variable {c : Nat} {tl : List Nat}
theorem pos_jn (ht : c ∉ tl) : ∀ (ws : List (List Nat)) (o : Nat), (∀ w ∈ ws, c ∉ w) → posL c (jn (c :: tl) ws) o = cutsL (tl.length + 1) ws o
  | [], o, _ => rfl
  | [w], o, h => posL_no c w o (h w (by simp))
  | w :: v :: r, o, h => by
    show posL c (w ++ ((c :: tl) ++ jn (c :: tl) (v :: r))) o = (o + w.length) :: cutsL (tl.length + 1) (v :: r) (o + w.length + (tl.length + 1))
    rw [posL_app, posL_no c w o (h w (by simp)), List.nil_append, posL_app]
    have e : posL c (c :: tl) (o + w.length) = [o + w.length] := by
      show (if c = c then (o + w.length) :: posL c tl (o + w.length + 1) else _) = _
      rw [if_pos rfl, posL_no c tl _ ht]
    rw [e, List.length_cons, pos_jn ht (v :: r) _ (fun u hu => h u (by simp [hu]))]
    rfl
/-- wherever c stands the whole separator stands -/
theorem good_jn (ht : c ∉ tl) : ∀ (ws : List (List Nat)) (i : Nat), (∀ w ∈ ws, c ∉ w) → (jn (c :: tl) ws)[i]? = some c → ((jn (c :: tl) ws).drop i).take (tl.length + 1) = c :: tl
  | [], i, _, h => by simp [jn] at h
  | [w], i, hw, h => absurd (List.mem_of_getElem? h) (hw w (by simp))
  | w :: v :: r, i, hw, h => by
    have e0 : jn (c :: tl) (w :: v :: r) = w ++ ((c :: tl) ++ jn (c :: tl) (v :: r)) := rfl
    rw [e0] at h ⊢
    by_cases h1 : i < w.length
    · rw [List.getElem?_append_left h1] at h
      exact absurd (List.mem_of_getElem? h) (hw w (by simp))
    · rw [List.getElem?_append_right (by omega)] at h
      rw [List.drop_append, List.drop_eq_nil_of_le (by omega), List.nil_append]
      by_cases h2 : i - w.length < (c :: tl).length
      · rw [List.getElem?_append_left h2] at h
        have h3 : i - w.length = 0 := by
          cases hj : i - w.length with
          | zero => rfl
          | succ j =>
            rw [hj] at h
            exact absurd (List.mem_of_getElem? (show tl[j]? = some c from h)) ht
        rw [h3, List.drop_zero]
        exact List.take_left' rfl
      · rw [List.getElem?_append_right (by omega)] at h
        rw [List.drop_append, List.drop_eq_nil_of_le (by omega), List.nil_append]
        exact good_jn ht (v :: r) _ (fun u hu => hw u (by simp [hu])) h
end
end OL

end
section
set_option Elab.async false
set_option linter.all false
set_option maxRecDepth 100000
set_option maxHeartbeats 1000000
namespace OL
open PySem PySem.StrLaws PySem.Builtin PySem.Builtin.Str
abbrev cpL (x : Str) : List Nat := x.cps.toList
section
variable {x y : Str} {c : Nat} {tl : List Nat}
theorem subAt_list (hy : cpL y = c :: tl) (i : Nat) : subAt x y i = true ↔ ((cpL x).drop i).take (tl.length + 1) = c :: tl := by
  have hl : y.length = tl.length + 1 := by
    show y.cps.size = _
    rw [← Array.length_toList, show y.cps.toList = c :: tl from hy]; rfl
  unfold subAt
  rw [beq_iff_eq, ← Array.toList_inj, Array.toList_extract, show y.cps.toList = c :: tl from hy, hl]
  show List.extract _ _ _ = _ ↔ _
  rw [List.extract_eq_drop_take, show i + (tl.length + 1) - i = tl.length + 1 by omega]
theorem mat_iff (hy : cpL y = c :: tl) (hg : ∀ i, (cpL x)[i]? = some c → ((cpL x).drop i).take (tl.length + 1) = c :: tl) (i : Nat) : mat x y i = decide ((cpL x)[i]? = some c) := by
  have hl : y.length = tl.length + 1 := by
    show y.cps.size = _
    rw [← Array.length_toList, show y.cps.toList = c :: tl from hy]; rfl
  have hx : x.length = (cpL x).length := by
    show x.cps.size = _
    rw [Array.length_toList]
  unfold mat
  rw [Bool.eq_iff_iff, decide_eq_true_eq, decide_eq_true_eq, subAt_list hy, hl, hx]
  constructor
  · rintro ⟨_, h⟩
    have := congrArg (·[0]?) h
    simp only [List.getElem?_take, List.getElem?_drop] at this
    simpa using this
  · intro h
    have h2 := hg i h
    refine ⟨?_, h2⟩
    have := congrArg List.length h2
    rw [List.length_take, List.length_drop, List.length_cons] at this
    omega
theorem occ_pos (hy : cpL y = c :: tl) (ht : c ∉ tl) (hg : ∀ i, (cpL x)[i]? = some c → ((cpL x).drop i).take (tl.length + 1) = c :: tl) : occurrences x y 0 x.length (x.length + 1) = posL c (cpL x) 0 := by
  have hl : y.length = tl.length + 1 := by
    show y.cps.size = _
    rw [← Array.length_toList, show y.cps.toList = c :: tl from hy]; rfl
  have hx : x.length = (cpL x).length := by
    show x.cps.size = _
    rw [Array.length_toList]
  rw [occ_eq]
  have h := occ_all x y (x.length + 1) (List.range' 0 (x.length + 1 - 0)) (#[], 0) (fun i _ _ => Nat.zero_le _) ?_ (by simp)
  · refine Eq.trans h ?_
    rw [← posL_filter c (cpL x) 0]
    show [] ++ _ = _
    rw [List.nil_append, show x.length + 1 - 0 = (cpL x).length + 1 by omega, List.range'_1_concat, List.filter_append]
    have e1 : [0 + (cpL x).length].filter (mat x y) = [] := by
      rw [List.filter_cons, mat_iff hy hg, if_neg (by simp)]
      rfl
    rw [e1, List.append_nil]
    refine List.filter_congr fun i _ => ?_
    rw [mat_iff hy hg]
    rfl
  · refine List.Pairwise.imp ?_ (List.pairwise_lt_range' ..)
    intro a b hab ha hb
    rw [mat_iff hy hg] at ha hb
    have h1 := hg a (of_decide_eq_true ha)
    have h2 := of_decide_eq_true hb
    refine Classical.byContradiction fun hn => ?_
    rw [hl] at hn
    have h3 := congrArg (·[b - a]?) h1
    simp only [List.getElem?_take, List.getElem?_drop] at h3
    rw [if_pos (by omega), show a + (b - a) = b by omega, h2] at h3
    cases hj : b - a with
    | zero => omega
    | succ j =>
      rw [hj] at h3
      exact ht (List.mem_of_getElem? (show tl[j]? = some c from h3.symm))
/-- the parts -/
theorem parts_jn : ∀ (sp : List Nat) (ws : List (List Nat)) (P : List Nat), ws ≠ [] → cpL x = P ++ jn sp ws →
    ((P.length :: (cutsL sp.length ws P.length).map (· + sp.length)).zip (cutsL sp.length ws P.length ++ [x.length])).map (fun p => strSub x p.1 p.2) = ws.map fun w => (⟨w.toArray⟩ : Str)
  | sp, [], P, h, _ => absurd rfl h
  | sp, [w], P, _, e => by
    have e : cpL x = P ++ w := e
    show [strSub x P.length x.length] = [⟨w.toArray⟩]
    congr 1
    unfold strSub
    congr 1
    apply Array.toList_inj.mp
    rw [Array.toList_extract, List.extract_eq_drop_take, show x.cps.toList = P ++ w from e, List.drop_left]
    have : x.length = P.length + w.length := by
      show x.cps.size = _
      rw [← Array.length_toList, show x.cps.toList = P ++ w from e, List.length_append]
    rw [this, show P.length + w.length - P.length = w.length by omega, List.take_length]
  | sp, w :: v :: r, P, _, e => by
    have e : cpL x = P ++ (w ++ (sp ++ jn sp (v :: r))) := e
    have ih := parts_jn sp (v :: r) (P ++ (w ++ sp)) (by simp) (by rw [e]; simp)
    have hl : (P ++ (w ++ sp)).length = P.length + w.length + sp.length := by simp; omega
    rw [hl] at ih
    show strSub x P.length (P.length + w.length) :: _ = ⟨w.toArray⟩ :: _
    refine (fun (a b : Str) (r1 r2 : List Str) (e1 : a = b) (e2 : r1 = r2) => (by rw [e1, e2] : a :: r1 = b :: r2)) _ _ _ _ ?_ ih
    unfold strSub
    congr 1
    apply Array.toList_inj.mp
    rw [Array.toList_extract, List.extract_eq_drop_take, show x.cps.toList = P ++ (w ++ (sp ++ jn sp (v :: r))) from e, List.drop_left, show P.length + w.length - P.length = w.length by omega]
    exact List.take_left' rfl
theorem jn_join (sep : Str) : ∀ ws : List Str, cpL (Txt.join sep ws) = jn (cpL sep) (ws.map cpL) := by
  have key : ∀ ws : List Str, cpL (Str.join sep ws) = jn (cpL sep) (ws.map cpL) := by
    intro ws
    induction ws with
    | nil => rfl
    | cons w r ih =>
      cases r with
      | nil => rfl
      | cons v r =>
        show cpL (w ++ sep ++ Str.join sep (v :: r)) = cpL w ++ (cpL sep ++ jn (cpL sep) ((v :: r).map cpL))
        rw [← ih]
        show ((w.cps ++ sep.cps) ++ (Str.join sep (v :: r)).cps).toList = _
        simp
  intro ws
  show cpL (glued sep ws) = _
  rw [glued_eq_join]
  exact key ws
/-- a joined text is split into its words -/
theorem split_join {sep : Str} {c : Nat} {tl : List Nat} (hs : cpL sep = c :: tl) (ht : c ∉ tl) (hk : Builtin.Str.strKind sep = 1) (ws : List Str) (hne : ws ≠ []) (hw : ∀ w ∈ ws, c ∉ cpL w) : Txt.split (Txt.join sep ws) sep = ws := by
  have hj := jn_join sep ws
  have hw' : ∀ w ∈ ws.map cpL, c ∉ w := fun w h => by
    obtain ⟨u, hu, rfl⟩ := List.mem_map.mp h
    exact hw u hu
  have hg : ∀ i, (cpL (Txt.join sep ws))[i]? = some c → ((cpL (Txt.join sep ws)).drop i).take (tl.length + 1) = c :: tl := fun i h => by
    rw [hj, hs] at h ⊢
    exact good_jn ht _ i hw' h
  have ho := occ_pos (x := Txt.join sep ws) (y := sep) hs ht hg
  have hp : posL c (cpL (Txt.join sep ws)) 0 = cutsL (tl.length + 1) (ws.map cpL) 0 := by
    rw [hj, hs]
    exact pos_jn ht _ 0 hw'
  rw [hp] at ho
  have hl : sep.length = tl.length + 1 := by
    show sep.cps.size = _
    rw [← Array.length_toList, show sep.cps.toList = c :: tl from hs]; rfl
  have hpt := parts_jn (x := Txt.join sep ws) (cpL sep) (ws.map cpL) [] (by simpa using hne) (by rw [hj]; rfl)
  have e1 : (ws.map cpL).map (fun w => (⟨w.toArray⟩ : Str)) = ws := by
    rw [List.map_map]
    exact List.map_id'' (fun w => by show (⟨w.cps.toList.toArray⟩ : Str) = w; simp) ws
  have one : ∀ w : Str, ws = [w] → Txt.join sep ws = w := fun w e => by rw [e]; rfl
  unfold Txt.split
  rw [ho]
  cases ws with
  | nil => exact absurd rfl hne
  | cons w r =>
    cases r with
    | nil =>
      rw [one w rfl]
      split
      · rfl
      · rfl
    | cons v r =>
      have hlen : sep.length ≤ (Txt.join sep (w :: v :: r)).length := by
        have : (cpL sep).length ≤ (cpL (Txt.join sep (w :: v :: r))).length := by
          rw [hj]
          show _ ≤ (cpL w ++ (cpL sep ++ _)).length
          simp
          omega
        have e2 : ∀ z : Str, z.length = (cpL z).length := fun z => by show z.cps.size = _; rw [Array.length_toList]
        rw [e2, e2]; exact this
      have hk1 : 1 ≤ Builtin.Str.strKind (Txt.join sep (w :: v :: r)) := by
        unfold Builtin.Str.strKind
        split
        · exact Nat.le_refl _
        · split <;> decide
      rw [if_neg (by rw [hk]; simp; omega), if_neg (by simp [cutsL])]
      unfold partsBetween
      rw [hl]
      have hcl : (cpL sep).length = tl.length + 1 := by rw [hs]; rfl
      rw [hcl] at hpt
      exact (hpt.trans e1)
end
end OL

end
section
set_option Elab.async false
set_option linter.all false
set_option maxRecDepth 100000
set_option maxHeartbeats 4000000
/-! the texts of small numbers -/
namespace OL
open PySem PySem.StrLaws PySem.Builtin PySem.Builtin.Str
abbrev ntx (n : Nat) : Str := toString ((n : Nat) : Int)
def numB (n : Nat) : Bool := decide (1 ≤ (ntx n).length) && (decide ((ntx n).length ≤ 3) && (decide (PySem.intText? (ntx n) = some (n : Int)) && ((cpL (ntx n)).all fun c => decide (48 ≤ c) && decide (c ≤ 57))))
theorem num_all : ((List.range 200).all numB) = true := by decide +kernel
structure NumT (n : Nat) : Prop where
  l1 : 1 ≤ (ntx n).length
  l3 : (ntx n).length ≤ 3
  it : PySem.intText? (ntx n) = some (n : Int)
  dg : ∀ c ∈ cpL (ntx n), 48 ≤ c ∧ c ≤ 57
theorem num_ok {n : Nat} (h : n < 200) : NumT n := by
  have q := List.all_eq_true.mp num_all n (List.mem_range.mpr h)
  unfold numB at q
  simp only [Bool.and_eq_true, decide_eq_true_eq, List.all_eq_true] at q
  exact ⟨q.1, q.2.1, q.2.2.1, fun c hc => by have := q.2.2.2 c hc; simpa using this⟩
end OL

end
section
set_option Elab.async false
set_option linter.all false
set_option maxRecDepth 100000
set_option maxHeartbeats 4000000
/-! numbers read from texts -/
namespace OLlaw
open PySem PySem.Spec PyProof.Rows L2 OL OLd
def digL : List Nat := [48, 49, 50, 51, 52, 53, 54, 55, 56, 57]
theorem dig_is : cpL ("0123456789" : Str) = digL := by decide +kernel
theorem dig_mem {c : Nat} (h : 48 ≤ c ∧ c ≤ 57) : c ∈ digL := by
  obtain ⟨h1, h2⟩ := h
  have : c = 48 ∨ c = 49 ∨ c = 50 ∨ c = 51 ∨ c = 52 ∨ c = 53 ∨ c = 54 ∨ c = 55 ∨ c = 56 ∨ c = 57 := by omega
  rcases this with h | h | h | h | h | h | h | h | h | h <;> (subst h; decide)
theorem in_dig {c : Nat} (h : 48 ≤ c ∧ c ≤ 57) : cmpD .In (.str ⟨#[c]⟩) (.str "0123456789") = some true := by
  show some (decide (c ∈ cpL ("0123456789" : Str))) = some true
  rw [dig_is, decide_eq_true (dig_mem h)]
def RdNOk (Φ : Tab) : Prop := ∀ n : Nat, n < 200 → Says Φ "read_number" [.str (ntx n)] (.int (n : Nat))
theorem r_read_number {Φ : Tab} {n : Nat} (h : n < 200) : runFn Φ d_read_number [.str (ntx n)] = some (.ok (.int (n : Nat))) := by
  obtain ⟨l1, l3, it, dg⟩ := num_ok h
  generalize ntx n = w at *
  have hl : evE Φ (.bi "len" (.cons (.v 0) .nil)) [.sh (.str w), .un] = some (.int (w.length : Nat)) := by
    refine evE_bi (x := .str w) rfl ?_
    show (if w.length ≤ 16777216 then some (PyData.int w.length) else none) = _
    rw [if_pos (by omega)]
  have q1 : evE Φ (.cmp2 .LtE .LtE (.c (.int 1)) (.bi "len" (.cons (.v 0) .nil)) (.g "MAX_DIGITS" (.inl 3))) [.sh (.str w), .un] = some (.bool true) := by
    unfold evE
    rw [hl]
    show (if decide ((1 : Int) ≤ (w.length : Nat)) = true then (some (PyData.int 3)).bind fun z => (cmpD .LtE (.int (w.length : Nat)) z).map PyData.bool else some (.bool false)) = _
    rw [if_pos (decide_eq_true (by omega))]
    show some (PyData.bool (decide (((w.length : Nat) : Int) ≤ 3))) = _
    rw [decide_eq_true (by omega)]
  have q2 : evE Φ (.bi "all" (.cons (.lc (.cmp .In (.v 1) (.g "DIGITS" (.inr "0123456789"))) (.n 1) (.e (.v 0)) .no) .nil)) [.sh (.str w), .un] = some (.bool true) := by
    refine (evE_bi (lc_map (l := cpL w) (e := fun c => PyData.str ⟨#[c]⟩) (g := fun _ => .bool true) (r := fun c => [.sh (.str w), .sh (.str ⟨#[c]⟩)]) ?_ (fun _ _ => rfl) (fun c hc => evE_cmp (y := .str "0123456789") rfl rfl (in_dig (dg c hc)))) (all_by (cpL w) fun _ => true)).trans (by simp)
    show (if w.cps.size ≤ 16777216 then some (w.cps.toList.map fun c => PyData.str ⟨#[c]⟩) else none) = _
    rw [if_pos (by have : w.length = w.cps.size := rfl; omega)]
  refine runFn_of rfl ((exL_nx (exS_if0 (evE_or (b := false) ?_) rfl)).trans (exL_rt (exS_ret (evE_bi (x := .str w) rfl ?_))))
  · exact (evOr_cons (b := false) (c := false) (evE_no (b := true) q1) fun _ => (evOr_cons (b := false) (c := false) (evE_no (b := true) q2) fun _ => rfl).trans rfl).trans rfl
  · show (if w.length ≤ 640 then (PySem.intText? w).map PyData.int else none) = _
    rw [if_pos (by omega), it]; rfl
theorem evE_split {Φ : Tab} {o a : OL.E} {ρ : OL.Env} {x b : Str} (h1 : evE Φ o ρ = some (.str x)) (h2 : evE Φ a ρ = some (.str b)) (hb : b.length ≠ 0) (hl : x.length + 2 ≤ 16777216) : evE Φ (.me1 "split" o a) ρ = some (.list ((Txt.split x b).map .str)) := by
  unfold evE
  rw [h1, Option.bind_some, h2, Option.bind_some]
  show (if b.length ≠ 0 ∧ x.length + 2 ≤ 16777216 then some (PyData.list ((Txt.split x b).map .str)) else none) = _
  rw [if_pos ⟨hb, hl⟩]
/-- the numbers, joined by a mark -/
def RdsOk (Φ : Tab) : Prop := ∀ (mark : Str) (c : Nat) (ns : List Nat), cpL mark = [c] → (c < 48 ∨ 57 < c) → Builtin.Str.strKind mark = 1 → ns ≠ [] → (∀ n ∈ ns, n < 200) → (Txt.join mark (ns.map ntx)).length + 2 ≤ 16777216 → Says Φ "read_numbers" [.str (Txt.join mark (ns.map ntx)), .str mark] (.tuple (ns.map fun n => .int (n : Nat)))
theorem r_read_numbers {Φ : Tab} (hr : RdNOk Φ) (mark : Str) (c : Nat) (ns : List Nat) (hm : cpL mark = [c]) (hc : c < 48 ∨ 57 < c) (hk : Builtin.Str.strKind mark = 1) (hne : ns ≠ []) (h : ∀ n ∈ ns, n < 200) (hl : (Txt.join mark (ns.map ntx)).length + 2 ≤ 16777216) :
    runFn Φ d_read_numbers [.str (Txt.join mark (ns.map ntx)), .str mark] = some (.ok (.tuple (ns.map fun n => .int (n : Nat)))) := by
  have hml : mark.length ≠ 0 := by
    have : mark.length = (cpL mark).length := by show mark.cps.size = _; rw [Array.length_toList]
    rw [this, hm]; simp
  have hsp := split_join hm (by simp) hk (ns.map ntx) (by simpa using hne) fun w hw hcw => by
    obtain ⟨n, hn, rfl⟩ := List.mem_map.mp hw
    have := (num_ok (h n hn)).dg c hcw
    omega
  have q1 := evE_split (Φ := Φ) (o := .v 0) (a := .v 1) (ρ := [.sh (.str (Txt.join mark (ns.map ntx))), .sh (.str mark), .un]) rfl rfl hml hl
  rw [hsp, List.map_map] at q1
  refine runFn_of rfl (exL_rt (exS_ret (evE_bi (lc_map (l := ns) (e := PyData.str ∘ ntx) (g := fun n => .int (n : Nat)) (r := fun n => [.sh (.str (Txt.join mark (ns.map ntx))), .sh (.str mark), .sh (.str (ntx n))]) (evI_list q1) (fun _ _ => rfl) (fun n hn => evE_call (hr n (h n hn)) rfl)) rfl)))
def CTxOk (Φ : Tab) : Prop := ∀ x : Str, Says Φ "check_text" [.str x] .none
theorem r_check_text {Φ : Tab} (x : Str) : runFn Φ d_check_text [.str x] = some (.ok .none) :=
  runFn_nx rfl ((exL_nx (exS_if0 (evE_no (b := true) rfl) rfl)).trans rfl)
def ECt (Φ : Tab) : Prop := ∀ d : PyData, isTy "str" d = some false → Errs Φ "check_text" [d] "ParseError"
theorem r_text_bad {Φ : Tab} (d : PyData) (h : isTy "str" d = some false) : runFn Φ d_check_text [d] = some (.error "ParseError") := by
  refine runFn_ex rfl (exL_ex (exS_raise (evE_no (b := false) ?_)))
  unfold evE
  show ((isTy "str" d).map PyData.bool) = _
  rw [h]; rfl
/-! ### results as texts -/
def sgS : Sg → Str
  | .h => "h"
  | .a => "a"
  | .d => "d"
theorem sgD_is (s : Sg) : sgD s = .str (sgS s) := by cases s <;> rfl
abbrev rtx (row : List Sg) : Str := Txt.join "" (row.map sgS)
theorem sg_one (s : Sg) : (cpL (sgS s)).map (fun c => PyData.str ⟨#[c]⟩) = [sgD s] := by cases s <;> kernel_rfl
theorem row_signs (row : List Sg) : (cpL (rtx row)).map (fun c => PyData.str ⟨#[c]⟩) = row.map sgD := by
  rw [jn_join, show cpL ("" : Str) = [] from by decide +kernel]
  induction row with
  | nil => rfl
  | cons x r ih =>
    cases r with
    | nil => exact sg_one x
    | cons y r =>
      show ((cpL (sgS x)) ++ ([] ++ jn [] (((y :: r).map sgS).map cpL))).map _ = _
      rw [List.nil_append, List.map_append, sg_one, ih]
      rfl
theorem strs_row (row : List Sg) : OL.strs? (row.map sgD) = some (row.map sgS) := by
  induction row with
  | nil => rfl
  | cons x r ih =>
    rw [List.map_cons, sgD_is]
    show (OL.strs? (r.map sgD)).map (fun l => sgS x :: l) = _
    rw [ih]; rfl
theorem sg_len (s : Sg) : (sgS s).length = 1 := by cases s <;> decide +kernel
theorem row_sum (row : List Sg) : ((row.map sgS).map (·.length)).sum = row.length := by
  induction row with
  | nil => rfl
  | cons x r ih =>
    rw [List.map_cons, List.map_cons, List.sum_cons, ih, sg_len, List.length_cons]
    omega
theorem evE_joinR {Φ : Tab} {o : OL.E} {ρ : OL.Env} {row : List Sg} (h : evE Φ o ρ = some (rsD row)) (hl : row.length ≤ 100) : evE Φ (.me1 "join" (.c (.str "")) o) ρ = some (.str (rtx row)) := by
  unfold evE
  rw [h]
  show (OL.strs? (row.map sgD)).bind (fun ys => if (ys.map (·.length)).sum + ys.length * ("" : Str).length ≤ 16777216 then some (PyData.str (Txt.join "" ys)) else none) = _
  rw [strs_row, Option.bind_some, row_sum, show ("" : Str).length = 0 from by decide +kernel, if_pos (by omega)]
def FRsOk (Φ : Tab) : Prop := ∀ (L : Lg) (row : List Sg), L.Ok → RsOk L row → Says Φ "format_results" [L.d, rsD row] (.str (rtx row))
theorem r_format_results {Φ : Tab} (hc : CheckROk Φ) (L : Lg) (row : List Sg) (hL : L.Ok) (ok : RsOk L row) : runFn Φ d_format_results [L.d, rsD row] = some (.ok (.str (rtx row))) := by
  have h8 := hL.g8
  have hl := ok.len
  exact runFn_of rfl ((exL_nx (exS_callS (hc L row hL ok) rfl)).trans (exL_rt (exS_ret (evE_joinR rfl (by omega)))))
def PRsOk (Φ : Tab) : Prop := ∀ (L : Lg) (row : List Sg), L.Ok → RsOk L row → Says Φ "parse_results" [L.d, .str (rtx row)] (rsD row)
theorem row_size (row : List Sg) : (rtx row).cps.size = row.length := by
  have h := congrArg List.length (row_signs row)
  rw [List.length_map, List.length_map, Array.length_toList] at h
  exact h
theorem r_parse_results {Φ : Tab} (hc : CheckOk Φ) (ht : CTxOk Φ) (hh : HaveROk Φ) (L : Lg) (row : List Sg) (hL : L.Ok) (ok : RsOk L row) : runFn Φ d_parse_results [L.d, .str (rtx row)] = some (.ok (rsD row)) := by
  have h8 := hL.g8
  have hl := ok.len
  have q1 : evE Φ (.bi "list" (.cons (.v 1) .nil)) [.sh L.d, .sh (.str (rtx row)), .un] = some (.list (row.map sgD)) := by
    refine evE_bi (x := .str (rtx row)) rfl ?_
    show (if (rtx row).cps.size ≤ 16777216 then some (PyData.list ((rtx row).cps.toList.map fun c => .str ⟨#[c]⟩)) else none) = _
    rw [if_pos (by rw [row_size]; omega), row_signs]
  refine runFn_of rfl ((exL_nx (exS_callS (hc L hL) rfl)).trans ((exL_nx (exS_callS (ht _) rfl)).trans ((exL_nx (exS_set (evE_bi q1 (tuple_list _)) rfl (by simp [OL.startB, d_parse_results]))).trans ((exL_nx (exS_if0 (evE_no (b := true) (evE_call (hh L row ok) rfl)) rfl)).trans (exL_rt (exS_ret rfl))))))
theorem r_have_len {Φ : Tab} (L : Lg) (ds : List PyData) (h : ds.length ≠ L.gs.length) : runFn Φ d_have_results [L.d, .tuple ds] = some (.ok (.bool false)) := by
  have l1 := evE_len (Φ := Φ) (e := .v 1) (ρ := [.sh L.d, .sh (.tuple ds), .un]) (xs := ds) rfl
  have l2 := evE_len (Φ := Φ) (e := .ix (.v 0) (.c (.int 2))) (ρ := [.sh L.d, .sh (.tuple ds), .un]) (xs := L.gs.map gmD) (evE_ix (x := L.d) (y := .int 2) rfl rfl rfl)
  rw [List.length_map] at l2
  refine runFn_of rfl (exL_rt (exS_if1 (evE_or (b := true) ?_) (exL_rt (exS_ret rfl))))
  refine (evOr_cons (b := false) (c := true) (evE_no (b := true) rfl) fun _ => ?_).trans rfl
  refine (evOr_cons (b := true) (c := false) (evE_cmp l1 l2 ((cmp_ne (eqD_int _ _)).trans ?_)) fun e => by cases e).trans rfl
  rw [decide_eq_false (by omega)]; rfl
end OLlaw

end
section
set_option Elab.async false
set_option linter.all false
set_option maxRecDepth 100000
set_option maxHeartbeats 4000000
/-! the text of a league -/
namespace OLlaw
open PySem PySem.Spec PyProof.Rows L2 OL OLd
theorem cp_ext {x y : Str} (h : cpL x = cpL y) : x = y := by
  cases x; cases y
  exact congrArg _ (Array.toList_inj.mp h)
theorem cp_app (x y : Str) : cpL (x ++ y) = cpL x ++ cpL y := by
  show (x.cps ++ y.cps).toList = _
  simp
theorem cp_len (x : Str) : x.length = (cpL x).length := by
  show x.cps.size = _
  rw [Array.length_toList]
theorem len_app (x y : Str) : (x ++ y).length = x.length + y.length := by
  rw [cp_len, cp_len, cp_len, cp_app, List.length_append]
theorem jn_flat (sp : List Nat) : ∀ (w : List Nat) (r : List (List Nat)), jn sp (w :: r) = w ++ r.flatMap fun v => sp ++ v
  | w, [] => by simp [jn]
  | w, v :: r => by
    show w ++ (sp ++ jn sp (v :: r)) = _
    rw [jn_flat sp v r, List.flatMap_cons, List.append_assoc]
theorem jn_nil : ∀ r : List (List Nat), jn [] r = r.flatten
  | [] => rfl
  | [w] => by simp [jn]
  | w :: v :: r => by
    show w ++ ([] ++ jn [] (v :: r)) = _
    rw [jn_nil (v :: r)]; simp
theorem jn_mem {sp : List Nat} {c : Nat} : ∀ {ws : List (List Nat)}, c ∈ jn sp ws → c ∈ sp ∨ ∃ w ∈ ws, c ∈ w
  | [], h => by cases h
  | w :: r, h => by
    rw [jn_flat] at h
    rcases List.mem_append.mp h with h | h
    · exact .inr ⟨w, by simp, h⟩
    · obtain ⟨v, hv, h⟩ := List.mem_flatMap.mp h
      rcases List.mem_append.mp h with h | h
      · exact .inl h
      · exact .inr ⟨v, by simp [hv], h⟩
theorem join_mem {sp : Str} {c : Nat} {ws : List Str} (h : c ∈ cpL (Txt.join sp ws)) : c ∈ cpL sp ∨ ∃ w ∈ ws, c ∈ cpL w := by
  rw [jn_join] at h
  rcases jn_mem h with h | ⟨w, hw, h⟩
  · exact .inl h
  · obtain ⟨v, hv, rfl⟩ := List.mem_map.mp hw
    exact .inr ⟨v, hv, h⟩
theorem jn_len (sp : List Nat) (k : Nat) : ∀ {ws : List (List Nat)}, (∀ w ∈ ws, w.length ≤ k) → (jn sp ws).length ≤ ws.length * (k + sp.length)
  | [], _ => by simp [jn]
  | [w], h => by
    have := h w (by simp)
    show w.length ≤ 1 * _
    omega
  | w :: v :: r, h => by
    have h1 := h w (by simp)
    have h2 := jn_len sp k (ws := v :: r) fun u hu => h u (by simp [hu])
    show (w ++ (sp ++ jn sp (v :: r))).length ≤ _
    rw [List.length_append, List.length_append, List.length_cons (a := w), Nat.succ_mul]
    omega
theorem join_len {sp : Str} {ws : List Str} (k : Nat) (h : ∀ w ∈ ws, w.length ≤ k) : (Txt.join sp ws).length ≤ ws.length * (k + sp.length) := by
  have := jn_len (cpL sp) k (ws := ws.map cpL) fun w hw => by
    obtain ⟨v, hv, rfl⟩ := List.mem_map.mp hw
    rw [← cp_len]; exact h v hv
  rw [← jn_join, ← cp_len, ← cp_len, List.length_map] at this
  exact this
theorem sum_len {ws : List Str} (k : Nat) (h : ∀ w ∈ ws, w.length ≤ k) : (ws.map (·.length)).sum ≤ ws.length * k := by
  induction ws with
  | nil => simp
  | cons w r ih =>
    have h1 := h w (by simp)
    have h2 := ih fun u hu => h u (by simp [hu])
    rw [List.map_cons, List.sum_cons, List.length_cons, Nat.succ_mul]
    omega
/-! ### values -/
abbrev tx (i : Int) : Str := toString i
theorem tx_nat {i : Int} (h : 0 ≤ i) : tx i = ntx i.toNat := by
  have e : ((i.toNat : Nat) : Int) = i := Int.toNat_of_nonneg h
  show tx i = tx ((i.toNat : Nat) : Int)
  rw [e]
theorem tx_ok {i : Int} (h : 0 ≤ i) (h2 : i < 200) : (tx i).length ≤ 3 ∧ ∀ c ∈ cpL (tx i), 48 ≤ c ∧ c ≤ 57 := by
  rw [tx_nat h]
  have := num_ok (n := i.toNat) (by omega)
  exact ⟨this.l3, this.dg⟩
theorem evE_str {Φ : Tab} {e : OL.E} {ρ : OL.Env} {i : Int} (h : evE Φ e ρ = some (.int i)) (h0 : 0 ≤ i) (h2 : i < 200) : evE Φ (.bi "str" (.cons e .nil)) ρ = some (.str (tx i)) := by
  refine evE_bi h ?_
  show (if i.natAbs < 2 ^ 64 then some (PyData.str (toString i)) else none) = _
  rw [if_pos (by omega)]
theorem evE_cat {Φ : Tab} {a b : OL.E} {ρ : OL.Env} {x y : Str} (h1 : evE Φ a ρ = some (.str x)) (h2 : evE Φ b ρ = some (.str y)) (hl : x.length + y.length ≤ 16777216) : evE Φ (.bin .Add a b) ρ = some (.str (x ++ y)) := by
  refine evE_bin h1 h2 ?_
  show (if x.length + y.length ≤ 16777216 then some (PyData.str (x ++ y)) else none) = _
  rw [if_pos hl]
theorem strs_map (ws : List Str) : OL.strs? (ws.map .str) = some ws := by
  induction ws with
  | nil => rfl
  | cons w r ih =>
    show (OL.strs? (r.map .str)).map (fun l => w :: l) = _
    rw [ih]; rfl
theorem evE_join {Φ : Tab} {o : OL.E} {s : Str} {ρ : OL.Env} {ws : List Str} (k : Nat) (h : evE Φ o ρ = some (.list (ws.map .str))) (hk : ∀ w ∈ ws, w.length ≤ k) (hl : ws.length * (k + s.length) ≤ 16777216) : evE Φ (.me1 "join" (.c (.str s)) o) ρ = some (.str (Txt.join s ws)) := by
  unfold evE
  rw [h]
  show (OL.strs? (ws.map .str)).bind (fun ys => if (ys.map (·.length)).sum + ys.length * s.length ≤ 16777216 then some (PyData.str (Txt.join s ys)) else none) = _
  have := sum_len k hk
  rw [Nat.mul_add] at hl
  rw [strs_map, Option.bind_some, if_pos (by omega)]
theorem evE_ife1 {Φ : Tab} {c a b : OL.E} {ρ : OL.Env} {d : PyData} (h : evE Φ c ρ = some (.bool true)) (h2 : evE Φ a ρ = some d) : evE Φ (.ife c a b) ρ = some d := by
  unfold evE; rw [h]; exact h2
theorem evE_ife0 {Φ : Tab} {c a b : OL.E} {ρ : OL.Env} {d : PyData} (h : evE Φ c ρ = some (.bool false)) (h2 : evE Φ b ρ = some d) : evE Φ (.ife c a b) ρ = some d := by
  unfold evE; rw [h]; exact h2
theorem eqD_str {x : Str} (h : ∀ c ∈ cpL x, c < 128) : eqD (.str x) (.str x) = some true := by
  have hs : shp (.str x) = true := by
    have h1 : PyData.strOk x = true := by
      unfold PyData.strOk
      rw [Array.all_eq_true_iff_forall_mem]
      intro c hc
      have := h c (Array.mem_toList_iff.mpr hc)
      exact decide_eq_true (by omega)
    unfold shp SeqAt.shaped
    simp [PyData.canLay0, PyData.depth, h1]
  unfold eqD
  rw [if_pos ⟨hs, hs⟩]
  simp [PyData.eqv]
/-! ### the text -/
def rT (L : Lg) : Str := match L.dr with
  | none => tx L.w
  | some x => tx L.w ++ "/" ++ tx x
abbrev pT (L : Lg) : Str := Txt.join " " (L.pts.map tx)
abbrev hT (L : Lg) : Str := rT L ++ ": " ++ pT L
abbrev gT (g : Int × Int) : Str := "; " ++ tx g.1 ++ "-" ++ tx g.2
abbrev gW (g : Int × Int) : Str := Txt.join "-" [tx g.1, tx g.2]
abbrev lT (L : Lg) : Str := hT L ++ Txt.join "" (L.gs.map gT)
theorem cp_sl : cpL ("/" : Str) = [47] := by decide +kernel
theorem cp_co : cpL (": " : Str) = [58, 32] := by decide +kernel
theorem cp_se : cpL ("; " : Str) = [59, 32] := by decide +kernel
theorem cp_da : cpL ("-" : Str) = [45] := by decide +kernel
theorem cp_sp : cpL (" " : Str) = [32] := by decide +kernel
theorem cp_em : cpL ("" : Str) = [] := by decide +kernel
theorem l_sl : ("/" : Str).length = 1 := by decide +kernel
theorem l_co : (": " : Str).length = 2 := by decide +kernel
theorem l_se : ("; " : Str).length = 2 := by decide +kernel
theorem l_da : ("-" : Str).length = 1 := by decide +kernel
theorem l_sp : (" " : Str).length = 1 := by decide +kernel
theorem l_em : ("" : Str).length = 0 := by decide +kernel
structure TxOk (L : Lg) : Prop where
  w : 0 ≤ L.w ∧ L.w < 200
  d : ∀ x, L.dr = some x → 0 ≤ x ∧ x < 200
  p : ∀ p ∈ L.pts, 0 ≤ p ∧ p < 200
  g : ∀ g ∈ L.gs, (0 ≤ g.1 ∧ g.1 < 200) ∧ 0 ≤ g.2 ∧ g.2 < 200
theorem txOk {L : Lg} (hL : L.Ok) : TxOk L := by
  have h1 := hL.w1
  have h9 := hL.w9
  have h6 := hL.p6
  refine ⟨by omega, fun x hx => ?_, fun p hp => ?_, fun g hg => ?_⟩
  · have := hL.d0 x hx; omega
  · have := hL.pp p hp; omega
  · have := hL.gg g hg; omega
theorem rT_len {L : Lg} (h : TxOk L) : (rT L).length ≤ 7 := by
  have h1 := (tx_ok h.w.1 h.w.2).1
  unfold rT
  split
  · omega
  · rename_i x hx
    obtain ⟨d0, d1⟩ := h.d x hx
    have h2 := (tx_ok d0 d1).1
    rw [len_app, len_app, l_sl]; omega
theorem rT_ch {L : Lg} (h : TxOk L) : ∀ c ∈ cpL (rT L), 47 ≤ c ∧ c ≤ 57 := by
  have h1 := (tx_ok h.w.1 h.w.2).2
  unfold rT
  split
  · intro c hc; have := h1 c hc; omega
  · rename_i x hx
    obtain ⟨d0, d1⟩ := h.d x hx
    have h2 := (tx_ok d0 d1).2
    intro c hc
    rw [cp_app, cp_app, cp_sl, List.mem_append, List.mem_append] at hc
    rcases hc with (hc | hc) | hc
    · have := h1 c hc; omega
    · simp at hc; omega
    · have := h2 c hc; omega
theorem pT_len {L : Lg} (h : TxOk L) : (pT L).length ≤ L.pts.length * 4 := by
  have := join_len (sp := " ") (ws := L.pts.map tx) 3 fun w hw => by
    obtain ⟨p, hp, rfl⟩ := List.mem_map.mp hw
    obtain ⟨a, b⟩ := h.p p hp
    exact (tx_ok a b).1
  rw [l_sp, List.length_map] at this
  exact this
theorem pT_ch {L : Lg} (h : TxOk L) : ∀ c ∈ cpL (pT L), c = 32 ∨ 48 ≤ c ∧ c ≤ 57 := by
  intro c hc
  rcases join_mem hc with hc | ⟨w, hw, hc⟩
  · rw [cp_sp] at hc; simp at hc; exact .inl hc
  · obtain ⟨p, hp, rfl⟩ := List.mem_map.mp hw
    obtain ⟨a, b⟩ := h.p p hp
    exact .inr ((tx_ok a b).2 c hc)
theorem hT_join (L : Lg) : hT L = Txt.join ": " [rT L, pT L] := by
  apply cp_ext
  rw [jn_join]
  show cpL (rT L ++ ": " ++ pT L) = cpL (rT L) ++ (cpL ": " ++ cpL (pT L))
  rw [cp_app, cp_app, List.append_assoc]
theorem gT_W (g : Int × Int) : cpL (gT g) = [59, 32] ++ cpL (gW g) := by
  rw [jn_join]
  show cpL ("; " ++ tx g.1 ++ "-" ++ tx g.2) = _ ++ (cpL (tx g.1) ++ (cpL "-" ++ cpL (tx g.2)))
  rw [cp_app, cp_app, cp_app, cp_se]; simp
theorem lT_join (L : Lg) : lT L = Txt.join "; " (hT L :: L.gs.map gW) := by
  apply cp_ext
  rw [cp_app, jn_join, jn_join, cp_em, jn_nil, List.map_cons, jn_flat, cp_se]
  congr 1
  rw [List.map_map, List.map_map, List.flatMap_map, List.flatMap_def]
  congr 1
  exact List.map_congr_left fun g _ => gT_W g
theorem gW_ch {g : Int × Int} (h : (0 ≤ g.1 ∧ g.1 < 200) ∧ 0 ≤ g.2 ∧ g.2 < 200) : ∀ c ∈ cpL (gW g), c = 45 ∨ 48 ≤ c ∧ c ≤ 57 := by
  intro c hc
  rcases join_mem hc with hc | ⟨w, hw, hc⟩
  · rw [cp_da] at hc; simp at hc; exact .inl hc
  · simp at hw
    rcases hw with rfl | rfl
    · exact .inr ((tx_ok h.1.1 h.1.2).2 c hc)
    · exact .inr ((tx_ok h.2.1 h.2.2).2 c hc)
theorem gT_len {g : Int × Int} (h : (0 ≤ g.1 ∧ g.1 < 200) ∧ 0 ≤ g.2 ∧ g.2 < 200) : (gT g).length ≤ 9 := by
  have h1 := (tx_ok h.1.1 h.1.2).1
  have h2 := (tx_ok h.2.1 h.2.2).1
  rw [len_app, len_app, len_app, l_se, l_da]; omega
theorem hT_len {L : Lg} (h : TxOk L) : (hT L).length ≤ 9 + L.pts.length * 4 := by
  have h1 := rT_len h
  have h2 := pT_len h
  rw [len_app, len_app, l_co]; omega
theorem gs_len {l : List (Int × Int)} (h : ∀ g ∈ l, (0 ≤ g.1 ∧ g.1 < 200) ∧ 0 ≤ g.2 ∧ g.2 < 200) : (Txt.join "" (l.map gT)).length ≤ l.length * 9 := by
  have := join_len (sp := "") (ws := l.map gT) 9 fun w hw => by
    obtain ⟨g, hg, rfl⟩ := List.mem_map.mp hw
    exact gT_len (h g hg)
  rw [l_em, List.length_map] at this
  exact this
theorem lT_len {L : Lg} (hL : L.Ok) : (lT L).length ≤ 105 := by
  have h := txOk hL
  have h1 := hT_len h
  have h2 := gs_len h.g
  have h6 := hL.p6
  have h8 := hL.g8
  rw [len_app]; omega
theorem lT_ch {L : Lg} (hL : L.Ok) : ∀ c ∈ cpL (lT L), c < 128 := by
  have h := txOk hL
  intro c hc
  rw [lT_join] at hc
  rcases join_mem hc with hc | ⟨w, hw, hc⟩
  · rw [cp_se] at hc; simp at hc; omega
  · rcases List.mem_cons.mp hw with rfl | hw
    · rw [cp_app, cp_app, cp_co, List.mem_append, List.mem_append] at hc
      rcases hc with (hc | hc) | hc
      · have := rT_ch h _ hc; omega
      · simp at hc; omega
      · have := pT_ch h _ hc; omega
    · obtain ⟨g, hg, rfl⟩ := List.mem_map.mp hw
      have := gW_ch (h.g g hg) _ hc; omega
theorem rtx_ch (row : List Sg) : ∀ c ∈ cpL (rtx row), c < 128 := by
  intro c hc
  rcases join_mem hc with hc | ⟨w, hw, hc⟩
  · rw [cp_em] at hc; cases hc
  · obtain ⟨s, hs, rfl⟩ := List.mem_map.mp hw
    have key : ∀ s : Sg, ((cpL (sgS s)).all fun c => decide (c < 128)) = true := by intro s; cases s <;> decide +kernel
    exact of_decide_eq_true (List.all_eq_true.mp (key s) c hc)
def LTxOk (Φ : Tab) : Prop := ∀ L : Lg, L.Ok → Says Φ "league_text" [L.d] (.str (lT L))
theorem r_league_text {Φ : Tab} (L : Lg) (hL : L.Ok) : runFn Φ d_league_text [L.d] = some (.ok (.str (lT L))) := by
  have h := txOk hL
  have h6 := hL.p6
  have h8 := hL.g8
  have lr := rT_len h
  have lp := pT_len h
  have lg := gs_len h.g
  have lh := hT_len h
  have q1 : evE Φ (.ife (.cmp .Is (.ix (.v 1) (.c (.int 1))) (.c .none)) (.bi "str" (.cons (.ix (.v 1) (.c (.int 0))) .nil)) (.bin .Add (.bin .Add (.bi "str" (.cons (.ix (.v 1) (.c (.int 0))) .nil)) (.c (.str "/"))) (.bi "str" (.cons (.ix (.v 1) (.c (.int 1))) .nil)))) [.sh L.d, .sh L.rule, .sh (.tuple (iL L.pts)), .sh (.tuple (L.gs.map gmD)), .un, .un, .un, .un] = some (.str (rT L)) := by
    have a1 : evE Φ (.ix (.v 1) (.c (.int 1))) [.sh L.d, .sh L.rule, .sh (.tuple (iL L.pts)), .sh (.tuple (L.gs.map gmD)), .un, .un, .un, .un] = some (drD L.dr) := evE_ix (x := L.rule) (y := .int 1) rfl rfl rfl
    have a2 : evE Φ (.bi "str" (.cons (.ix (.v 1) (.c (.int 0))) .nil)) [.sh L.d, .sh L.rule, .sh (.tuple (iL L.pts)), .sh (.tuple (L.gs.map gmD)), .un, .un, .un, .un] = some (.str (tx L.w)) := evE_str (evE_ix (x := L.rule) (y := .int 0) rfl rfl rfl) h.w.1 h.w.2
    have l1 := (tx_ok h.w.1 h.w.2).1
    unfold rT
    cases hd : L.dr with
    | none =>
      rw [hd] at a1
      exact evE_ife1 (evE_cmp a1 rfl (y := .none) rfl) a2
    | some x =>
      rw [hd] at a1
      obtain ⟨d0, d1⟩ := h.d x hd
      have l2 := (tx_ok d0 d1).1
      refine evE_ife0 (evE_cmp a1 rfl (y := .none) rfl) (evE_cat (evE_cat a2 rfl (by rw [l_sl]; omega)) (evE_str a1 d0 d1) (by rw [len_app, l_sl]; omega))
  have q2 : evE Φ (.lc (.bi "str" (.cons (.v 5) .nil)) (.n 5) (.e (.v 2)) .no) [.sh L.d, .sh L.rule, .sh (.tuple (iL L.pts)), .sh (.tuple (L.gs.map gmD)), .sh (.str (rT L)), .un, .un, .un] = some (.list ((L.pts.map tx).map .str)) := by
    rw [List.map_map]
    exact lc_map (l := L.pts) (e := PyData.int) (g := PyData.str ∘ tx) (r := fun p => [.sh L.d, .sh L.rule, .sh (.tuple (iL L.pts)), .sh (.tuple (L.gs.map gmD)), .sh (.str (rT L)), .sh (.int p), .un, .un]) (evI_tuple rfl) (fun _ _ => rfl) (fun p hp => evE_str rfl (h.p p hp).1 (h.p p hp).2)
  have q3 : evE Φ (.lc (.bin .Add (.bin .Add (.bin .Add (.c (.str "; ")) (.bi "str" (.cons (.v 6) .nil))) (.c (.str "-"))) (.bi "str" (.cons (.v 7) .nil))) (.p (.n 6) (.n 7)) (.e (.v 3)) .no) [.sh L.d, .sh L.rule, .sh (.tuple (iL L.pts)), .sh (.tuple (L.gs.map gmD)), .sh (.str (hT L)), .un, .un, .un] = some (.list ((L.gs.map gT).map .str)) := by
    rw [List.map_map]
    refine lc_map (l := L.gs) (e := gmD) (g := PyData.str ∘ gT) (r := fun g => [.sh L.d, .sh L.rule, .sh (.tuple (iL L.pts)), .sh (.tuple (L.gs.map gmD)), .sh (.str (hT L)), .un, .sh (.int g.1), .sh (.int g.2)]) (evI_tuple rfl) (fun _ _ => rfl) (fun g hg => ?_)
    have hg := h.g g hg
    have l1 := (tx_ok hg.1.1 hg.1.2).1
    have l2 := (tx_ok hg.2.1 hg.2.2).1
    exact evE_cat (evE_cat (evE_cat (x := "; ") rfl (evE_str rfl hg.1.1 hg.1.2) (by rw [l_se]; omega)) (y := "-") rfl (by rw [len_app, l_se, l_da]; omega)) (evE_str rfl hg.2.1 hg.2.2) (by rw [len_app, len_app, l_se, l_da]; omega)
  have e1 : (pT L).length ≤ 24 := by omega
  refine runFn_of rfl ((exL_nx (ρ1 := [.sh L.d, .sh L.rule, .sh (.tuple (iL L.pts)), .sh (.tuple (L.gs.map gmD)), .un, .un, .un, .un]) rfl).trans ((exL_nx (exS_set q1 rfl (by simp))).trans ((exL_nx (exS_set (evE_cat (x := rT L ++ ": ") (evE_cat (x := rT L) (y := ": ") rfl rfl (by rw [l_co]; omega)) (evE_join 3 q2 ?_ ?_) (by rw [len_app, l_co]; have : (Txt.join " " (L.pts.map tx)).length ≤ 24 := e1; omega)) rfl (by simp))).trans (exL_rt (exS_ret (evE_cat (x := hT L) rfl (evE_join 9 q3 ?_ ?_) (by omega)))))))
  · intro w hw
    obtain ⟨p, hp, rfl⟩ := List.mem_map.mp hw
    exact (tx_ok (h.p p hp).1 (h.p p hp).2).1
  · rw [List.length_map, l_sp]; omega
  · intro w hw
    obtain ⟨g, hg, rfl⟩ := List.mem_map.mp hw
    exact gT_len (h.g g hg)
  · rw [List.length_map, l_em]; omega
def FLgOk (Φ : Tab) : Prop := ∀ L : Lg, L.Ok → Says Φ "format_league" [L.d] (.str (lT L))
theorem r_format_league {Φ : Tab} (hc : CheckOk Φ) (ht : LTxOk Φ) (L : Lg) (hL : L.Ok) : runFn Φ d_format_league [L.d] = some (.ok (.str (lT L))) :=
  runFn_of rfl ((exL_nx (exS_callS (hc L hL) rfl)).trans (exL_rt (exS_ret (evE_call (ht L hL) rfl))))
end OLlaw

end
section
set_option Elab.async false
set_option linter.all false
set_option maxRecDepth 100000
set_option maxHeartbeats 4000000
/-! texts that are read -/
namespace OLlaw
open PySem PySem.Spec PyProof.Rows L2 OL OLd
theorem nats_tx {l : List Int} (h : ∀ p ∈ l, 0 ≤ p ∧ p < 200) : (l.map Int.toNat).map ntx = l.map tx ∧ (l.map Int.toNat).map (fun n => PyData.int (n : Nat)) = iL l ∧ ∀ n ∈ l.map Int.toNat, n < 200 := by
  refine ⟨?_, ?_, ?_⟩
  · rw [List.map_map]
    exact List.map_congr_left fun p hp => (tx_nat (h p hp).1).symm
  · rw [List.map_map]
    refine List.map_congr_left fun p hp => ?_
    show PyData.int ((p.toNat : Nat) : Int) = _
    rw [Int.toNat_of_nonneg (h p hp).1]
  · intro n hn
    obtain ⟨p, hp, rfl⟩ := List.mem_map.mp hn
    have := h p hp
    omega
theorem says_rds {Φ : Tab} (hr : RdsOk Φ) {mark : Str} {c : Nat} (hm : cpL mark = [c]) (hc : c < 48 ∨ 57 < c) (hk : Builtin.Str.strKind mark = 1) {l : List Int} (hne : l ≠ []) (h8 : l.length ≤ 100) (h : ∀ p ∈ l, 0 ≤ p ∧ p < 200) : Says Φ "read_numbers" [.str (Txt.join mark (l.map tx)), .str mark] (.tuple (iL l)) := by
  obtain ⟨e1, e2, e3⟩ := nats_tx h
  have hl : mark.length = 1 := by rw [cp_len, hm]; rfl
  have q := hr mark c (l.map Int.toNat) hm hc hk (by simpa using hne) e3 (by
    have := join_len (sp := mark) (ws := (l.map Int.toNat).map ntx) 3 fun w hw => by
      obtain ⟨n, hn, rfl⟩ := List.mem_map.mp hw
      exact (num_ok (e3 n hn)).l3
    rw [hl, List.length_map, List.length_map] at this
    omega)
  rw [e1, e2] at q
  exact q
theorem k_sl : Builtin.Str.strKind ("/" : Str) = 1 := by decide +kernel
theorem k_co : Builtin.Str.strKind (": " : Str) = 1 := by decide +kernel
theorem k_se : Builtin.Str.strKind ("; " : Str) = 1 := by decide +kernel
theorem k_da : Builtin.Str.strKind ("-" : Str) = 1 := by decide +kernel
theorem k_sp : Builtin.Str.strKind (" " : Str) = 1 := by decide +kernel
theorem rule_read {Φ : Tab} (hr : RdsOk Φ) {L : Lg} (h : TxOk L) : ∃ rs : List Int, Says Φ "read_numbers" [.str (rT L), .str "/"] (.tuple (iL rs)) ∧ ((rs.length = 1 ∧ PyData.tuple (iL rs ++ [.none]) = L.rule) ∨ (rs.length = 2 ∧ PyData.tuple (iL rs) = L.rule)) := by
  unfold rT Lg.rule
  cases hd : L.dr with
  | none =>
    refine ⟨[L.w], ?_, .inl ⟨rfl, rfl⟩⟩
    have q := says_rds hr cp_sl (by omega) k_sl (l := [L.w]) (by simp) (by simp) (by simpa using h.w)
    exact q
  | some x =>
    refine ⟨[L.w, x], ?_, .inr ⟨rfl, rfl⟩⟩
    have q := says_rds hr cp_sl (by omega) k_sl (l := [L.w, x]) (by simp) (by simp) (by
      intro p hp
      simp at hp
      rcases hp with rfl | rfl
      · exact h.w
      · exact h.d _ hd)
    have e : tx L.w ++ "/" ++ tx x = Txt.join "/" [tx L.w, tx x] := by
      apply cp_ext
      rw [jn_join]
      show cpL (tx L.w ++ "/" ++ tx x) = cpL (tx L.w) ++ (cpL "/" ++ cpL (tx x))
      rw [cp_app, cp_app, List.append_assoc]
    show Says Φ "read_numbers" [.str (tx L.w ++ "/" ++ tx x), .str "/"] _
    rw [e]
    exact q
def PLgOk (Φ : Tab) : Prop := ∀ L : Lg, L.Ok → Says Φ "parse_league" [.str (lT L)] L.d
theorem r_parse_league {Φ : Tab} (hc : CTxOk Φ) (hr : RdsOk Φ) (hl : LeagueOk Φ) (ht : LTxOk Φ) (L : Lg) (hL : L.Ok) : runFn Φ d_parse_league [.str (lT L)] = some (.ok L.d) := by
  have h := txOk hL
  have h2 := hL.p2
  have h6 := hL.p6
  have h8 := hL.g8
  have ll := lT_len hL
  have lh := hT_len h
  have s1 : Txt.split (lT L) "; " = hT L :: L.gs.map gW := by
    rw [lT_join]
    refine split_join cp_se (by decide) k_se _ (by simp) fun w hw hcw => ?_
    rcases List.mem_cons.mp hw with rfl | hw
    · rw [cp_app, cp_app, cp_co, List.mem_append, List.mem_append] at hcw
      rcases hcw with (hcw | hcw) | hcw
      · have := rT_ch h _ hcw; omega
      · simp at hcw
      · have := pT_ch h _ hcw; omega
    · obtain ⟨g, hg, rfl⟩ := List.mem_map.mp hw
      have := gW_ch (h.g g hg) _ hcw; omega
  have s2 : Txt.split (hT L) ": " = [rT L, pT L] := by
    rw [hT_join]
    refine split_join cp_co (by decide) k_co _ (by simp) fun w hw hcw => ?_
    simp only [List.mem_cons, List.not_mem_nil, or_false] at hw
    rcases hw with rfl | rfl
    · have := rT_ch h _ hcw; omega
    · have := pT_ch h _ hcw; omega
  have q1 := evE_split (Φ := Φ) (o := .v 0) (a := .c (.str "; ")) (ρ := [.sh (.str (lT L)), .un, .un, .un, .un, .un]) (x := lT L) (b := "; ") rfl rfl (by rw [l_se]; decide) (by omega)
  rw [s1] at q1
  have q2 := evE_split (Φ := Φ) (o := .ix (.v 1) (.c (.int 0))) (a := .c (.str ": ")) (ρ := [.sh (.str (lT L)), .sh (.list ((hT L :: L.gs.map gW).map .str)), .un, .un, .un, .un]) (x := hT L) (b := ": ") (evE_ix (x := .list ((hT L :: L.gs.map gW).map .str)) (y := .int 0) rfl rfl (atI_nat (by decide) rfl)) rfl (by rw [l_co]; decide) (by omega)
  rw [s2] at q2
  obtain ⟨rs, hrs, hcase⟩ := rule_read hr h
  have q3 : evE Φ (.call "read_numbers" (.cons (.ix (.v 2) (.c (.int 0))) (.cons (.c (.str "/")) .nil))) [.sh (.str (lT L)), .sh (.list ((hT L :: L.gs.map gW).map .str)), .sh (.list [.str (rT L), .str (pT L)]), .un, .un, .un] = some (.tuple (iL rs)) :=
    evE_call hrs rfl
  have q4 : exS Φ (.ifs (.cmp .Eq (.bi "len" (.cons (.v 3) .nil)) (.c (.int 1))) (.cons (.set 3 .s (.bin .Add (.v 3) (.tup (.cons (.c .none) .nil)))) .nil) .nil) [.sh (.str (lT L)), .sh (.list ((hT L :: L.gs.map gW).map .str)), .sh (.list [.str (rT L), .str (pT L)]), .sh (.tuple (iL rs)), .un, .un] = some (.nx [.sh (.str (lT L)), .sh (.list ((hT L :: L.gs.map gW).map .str)), .sh (.list [.str (rT L), .str (pT L)]), .sh L.rule, .un, .un]) := by
    have hlen := evE_len (Φ := Φ) (e := .v 3) (ρ := [.sh (.str (lT L)), .sh (.list ((hT L :: L.gs.map gW).map .str)), .sh (.list [.str (rT L), .str (pT L)]), .sh (.tuple (iL rs)), .un, .un]) (xs := iL rs) rfl
    rw [List.length_map] at hlen
    rcases hcase with ⟨hl1, he⟩ | ⟨hl1, he⟩
    · rw [hl1] at hlen
      refine exS_if1 (evE_cmp hlen (y := .int 1) rfl rfl) ((exL_nx (exS_set (d := L.rule) (evE_bin (x := .tuple (iL rs)) (y := .tuple [.none]) rfl rfl ?_) rfl (by simp))).trans rfl)
      show (if (iL rs).length + 1 ≤ 16777216 then some (PyData.tuple (iL rs ++ [.none])) else none) = _
      rw [if_pos (by rw [List.length_map]; omega), he]
    · rw [hl1] at hlen
      rw [he]
      rw [he] at hlen
      exact exS_if0 (evE_cmp hlen (y := .int 1) rfl rfl) rfl
  have q5 : evE Φ (.tup (.cons (.v 3) (.cons (.call "read_numbers" (.cons (.ix (.v 2) (.neg (.c (.int 1)))) (.cons (.c (.str " ")) .nil))) (.cons (.bi "tuple" (.cons (.lc (.call "read_numbers" (.cons (.v 5) (.cons (.c (.str "-")) .nil))) (.n 5) (.e (.sl (.v 1) (.so (.c (.int 1))) .no)) .no) .nil)) .nil)))) [.sh (.str (lT L)), .sh (.list ((hT L :: L.gs.map gW).map .str)), .sh (.list [.str (rT L), .str (pT L)]), .sh L.rule, .un, .un] = some L.d := by
    have a1 : evE Φ (.call "read_numbers" (.cons (.ix (.v 2) (.neg (.c (.int 1)))) (.cons (.c (.str " ")) .nil))) [.sh (.str (lT L)), .sh (.list ((hT L :: L.gs.map gW).map .str)), .sh (.list [.str (rT L), .str (pT L)]), .sh L.rule, .un, .un] = some (.tuple (iL L.pts)) :=
      evE_call (says_rds hr cp_sp (by omega) k_sp (l := L.pts) (by intro e; rw [e] at h2; simp at h2) (by omega) h.p) rfl
    have a2 : evE Φ (.sl (.v 1) (.so (.c (.int 1))) .no) [.sh (.str (lT L)), .sh (.list ((hT L :: L.gs.map gW).map .str)), .sh (.list [.str (rT L), .str (pT L)]), .sh L.rule, .un, .un] = some (.list (L.gs.map fun g => .str (gW g))) := by
      show some (PyData.list (cutD ((hT L :: L.gs.map gW).map .str) (some 1) none)) = _
      rw [cut1, List.map_cons, List.tail_cons, List.map_map]
      rfl
    have a3 : evE Φ (.lc (.call "read_numbers" (.cons (.v 5) (.cons (.c (.str "-")) .nil))) (.n 5) (.e (.sl (.v 1) (.so (.c (.int 1))) .no)) .no) [.sh (.str (lT L)), .sh (.list ((hT L :: L.gs.map gW).map .str)), .sh (.list [.str (rT L), .str (pT L)]), .sh L.rule, .un, .un] = some (.list (L.gs.map gmD)) := by
      refine lc_map (l := L.gs) (e := fun g => .str (gW g)) (g := gmD) (r := fun g => [.sh (.str (lT L)), .sh (.list ((hT L :: L.gs.map gW).map .str)), .sh (.list [.str (rT L), .str (pT L)]), .sh L.rule, .un, .sh (.str (gW g))]) (evI_list a2) (fun _ _ => rfl) (fun g hg => ?_)
      have hg := h.g g hg
      exact evE_call (says_rds hr cp_da (by omega) k_da (l := [g.1, g.2]) (by simp) (by simp) (by
        intro p hp
        simp at hp
        rcases hp with rfl | rfl
        · exact hg.1
        · exact hg.2)) rfl
    exact evE_tup (evL_cons (x := L.rule) rfl (evL_cons a1 (evL_cons (evE_bi a3 (tuple_list _)) rfl))) (by simp)
  refine runFn_of rfl ((exL_nx (exS_callS (hc _) rfl)).trans ((exL_nx (exS_set q1 rfl (by simp [OL.startB, d_parse_league]))).trans ((exL_nx (exS_set q2 rfl (by simp))).trans ((exL_nx (exS_set q3 rfl (by simp))).trans ((exL_nx q4).trans ((exL_nx (exS_set q5 rfl (by simp))).trans ((exL_nx (exS_if0 (evE_or (b := false) ?_) rfl)).trans (exL_rt (exS_ret rfl)))))))))
  refine (evOr_cons (b := false) (c := false) (evE_no (b := true) (evE_call (hl L hL) rfl)) fun _ => ?_).trans rfl
  exact (evOr_cons (b := false) (c := false) (evE_cmp (evE_call (ht L hL) rfl) (y := .str (lT L)) rfl ((cmp_ne (eqD_str (lT_ch hL))).trans rfl)) fun _ => rfl).trans rfl
/-! ### texts that are refused -/
def isPE : Option (Except Str PyData) → Bool
  | some (.error x) => decide (x = "ParseError")
  | _ => false
theorem isPE_is {r : Option (Except Str PyData)} (h : isPE r = true) : r = some (.error "ParseError") := by
  unfold isPE at h
  split at h
  · rw [of_decide_eq_true h]
  · cases h
def badT : List PyData := [.none, .int 5] ++ ((["", "1", "1:", "1: ", "1: 3", "1: 3 2;", "1: 3 2; ", "1: 3 2; 0", "1: 3 2; 0-0", "1: 3 2; 0-2", "1: 3 2; 0-1-1", "0: 3 2", "10: 3 2", "1/2: 3 2", "1/: 3 2", "/1: 3 2", "1/1/1: 3 2", "01: 3 2", "1: 03 2", "1: 3  2", "1: 200 2", "1: -1 2", "1: 3 2;0-1", "1: 3 2; 0-1;", " 1: 3 2", "1: 3 2 ", "1:3 2", "a: 3 2", "1: 1 1 1 1 1 1 1", "1: 3 2\n", ("1: 3 2" : Str) ++ strRep "; 0-1" 9] : List Str).map .str)
def EPL (Φ : Tab) : Prop := ∀ d ∈ badT, Errs Φ "parse_league" [d] "ParseError"
def HBad (Φ : Tab) : Prop := ∀ (L : Lg) (ds : List PyData), (ds.length ≠ L.gs.length ∨ (L.dr = none ∧ ds = L.gs.map (fun _ => sgD .d) ∧ L.gs ≠ [])) → Says Φ "have_results" [L.d, .tuple ds] (.bool false)
theorem r_have_bad {Φ : Tab} (ha : AlwOk Φ) (L : Lg) (ds : List PyData) (h : ds.length ≠ L.gs.length ∨ (L.dr = none ∧ ds = L.gs.map (fun _ => sgD .d) ∧ L.gs ≠ [])) : runFn Φ d_have_results [L.d, .tuple ds] = some (.ok (.bool false)) := by
  rcases h with h | ⟨hd, rfl, hne⟩
  · exact r_have_len L ds h
  have l1 := evE_len (Φ := Φ) (e := .v 1) (ρ := [.sh L.d, .sh (.tuple (L.gs.map fun _ => sgD .d)), .un]) (xs := L.gs.map fun _ => sgD .d) rfl
  have l2 := evE_len (Φ := Φ) (e := .ix (.v 0) (.c (.int 2))) (ρ := [.sh L.d, .sh (.tuple (L.gs.map fun _ => sgD .d)), .un]) (xs := L.gs.map gmD) (evE_ix (x := L.d) (y := .int 2) rfl rfl rfl)
  rw [List.length_map] at l1 l2
  refine runFn_of rfl ((exL_nx (exS_if0 (evE_or (b := false) ?_) rfl)).trans (exL_rt (exS_ret ?_)))
  · refine (evOr_cons (b := false) (c := false) (evE_no (b := true) rfl) fun _ => ?_).trans rfl
    exact (evOr_cons (b := false) (c := false) (evE_cmp l1 l2 ((cmp_ne (eqD_int _ _)).trans (by simp))) fun _ => rfl).trans rfl
  · refine (evE_bi (lc_map (l := L.gs) (e := fun _ => sgD .d) (g := fun _ => .bool false) (r := fun s => [.sh L.d, .sh (.tuple (L.gs.map fun _ => sgD .d)), .sh (sgD .d)]) (evI_tuple rfl) (fun _ _ => rfl) (fun s hs => ?_)) (all_by L.gs fun _ => false)).trans ?_
    · refine evE_and (evAnd_cons (b := true) (c := false) rfl (fun _ => (evAnd_cons (b := false) (c := false) (evE_cmp (x := sgD .d) (y := .list ((alw L).map sgD)) rfl (evE_call (ha L) (evL1 (evE_ix (x := L.d) (y := .int 0) rfl rfl rfl))) ?_) (fun e => by cases e)).trans rfl))
      unfold alw
      rw [hd]
      decide +kernel
    · cases hg : L.gs with
      | nil => exact absurd hg hne
      | cons g r => rfl
def EPR (Φ : Tab) : Prop := ∀ (L : Lg) (d : PyData), L.Ok → (isTy "str" d = some false ∨ ∃ x : Str, d = .str x ∧ x.length ≤ 1000 ∧ (x.length ≠ L.gs.length ∨ (L.dr = none ∧ cpL x = L.gs.map (fun _ => 100) ∧ L.gs ≠ []))) → Errs Φ "parse_results" [L.d, d] "ParseError"
theorem r_parse_bad {Φ : Tab} (hc : CheckOk Φ) (ht : CTxOk Φ) (he : ECt Φ) (hb : HBad Φ) (L : Lg) (d : PyData) (hL : L.Ok) (h : isTy "str" d = some false ∨ ∃ x : Str, d = .str x ∧ x.length ≤ 1000 ∧ (x.length ≠ L.gs.length ∨ (L.dr = none ∧ cpL x = L.gs.map (fun _ => 100) ∧ L.gs ≠ []))) : runFn Φ d_parse_results [L.d, d] = some (.error "ParseError") := by
  rcases h with h | ⟨x, rfl, hx, h⟩
  · exact run_err2 (hc L hL) (he d h) rfl rfl rfl rfl
  have q1 : evE Φ (.bi "list" (.cons (.v 1) .nil)) [.sh L.d, .sh (.str x), .un] = some (.list ((cpL x).map fun c => .str ⟨#[c]⟩)) := by
    refine evE_bi (x := .str x) rfl ?_
    show (if x.cps.size ≤ 16777216 then some (PyData.list (x.cps.toList.map fun c => .str ⟨#[c]⟩)) else none) = _
    rw [if_pos (by have : x.length = x.cps.size := rfl; omega)]
  refine runFn_ex rfl ((exL_nx (exS_callS (hc L hL) rfl)).trans ((exL_nx (exS_callS (ht _) rfl)).trans ((exL_nx (exS_set (evE_bi q1 (tuple_list _)) rfl (by simp [OL.startB, d_parse_results]))).trans (exL_ex (exS_raise (evE_no (b := false) (evE_call (hb L _ ?_) rfl)))))))
  rcases h with h | ⟨h1, h2, h3⟩
  · left
    rw [List.length_map, ← cp_len]; exact h
  · right
    refine ⟨h1, ?_, h3⟩
    rw [h2, List.map_map]
    rfl
theorem rep_cp (x : Str) (n : Nat) : cpL (strRep x n) = (List.replicate n (cpL x)).flatten := by
  have key : ∀ (l : List (Array Nat)) (a : Array Nat), (l.foldl (· ++ ·) a).toList = a.toList ++ (l.map (·.toList)).flatten := by
    intro l
    induction l with
    | nil => intro a; simp
    | cons b l ih => intro a; rw [List.foldl_cons, ih]; simp
  show ((List.replicate n x.cps).foldl (· ++ ·) #[]).toList = _
  rw [key]; simp
end OLlaw

end
section
set_option Elab.async false
set_option linter.all false
set_option maxRecDepth 100000
set_option maxHeartbeats 4000000
namespace OLlaw
open PySem PySem.Spec PyProof.Rows L2 OL OLd
abbrev tb : Tab := tab (rest.map (·.d))
abbrev T0 : List Df := d_is_int :: []
abbrev T1 : List Df := d_is_rule :: T0
abbrev T2 : List Df := d_is_game :: T1
abbrev T3 : List Df := d_is_league :: T2
abbrev T4 : List Df := d_check_league :: T3
abbrev T5 : List Df := d_allowed :: T4
abbrev T6 : List Df := d_have_results :: T5
abbrev T7 : List Df := d_check_results :: T6
abbrev T8 : List Df := d_league_text :: T7
abbrev T9 : List Df := d_format_league :: T8
abbrev T10 : List Df := d_read_number :: T9
abbrev T11 : List Df := d_read_numbers :: T10
abbrev T12 : List Df := d_check_text :: T11
abbrev T13 : List Df := d_parse_league :: T12
abbrev T14 : List Df := d_format_results :: T13
abbrev T15 : List Df := d_parse_results :: T14
abbrev T16 : List Df := d__law_pick :: T15
abbrev T17 : List Df := d__law_league :: T16
abbrev T18 : List Df := d__law_result :: T17
abbrev T19 : List Df := d__law_all :: T18
abbrev T20 : List Df := d__law_class :: T19
theorem f0_is_int : IntOk (tab T0) := fun v a b hv => .here rfl (r_is_int _ v a b hv)
theorem f1_is_rule : RuleOk (tab T1) := fun L ok => .here rfl (r_is_rule f0_is_int L ok)
theorem f1_is_int : IntOk (tab T1) := fun v a b hv => Says.lift (l := [d_is_rule]) (r := T0) (f0_is_int v a b hv) (by decide +kernel)
theorem f2_is_game : GameOk (tab T2) := fun g n h1 h2 h3 h4 h5 => .here rfl (r_is_game f1_is_int g n h1 h2 h3 h4 h5)
theorem f2_is_int : IntOk (tab T2) := fun v a b hv => Says.lift (l := [d_is_game, d_is_rule]) (r := T0) (f0_is_int v a b hv) (by decide +kernel)
theorem f2_is_rule : RuleOk (tab T2) := fun L ok => Says.lift (l := [d_is_game]) (r := T1) (f1_is_rule L ok) (by decide +kernel)
theorem f3_is_league : LeagueOk (tab T3) := fun L ok => .here rfl (r_is_league f2_is_int f2_is_rule f2_is_game L ok)
theorem f4_check_league : CheckOk (tab T4) := fun L ok => .here rfl (r_check_league f3_is_league L ok)
theorem f5_allowed : AlwOk (tab T5) := fun L => .here rfl (r_allowed L)
theorem eB6_have_results : HBad (tab T6) := fun L ds h => .here rfl (r_have_bad f5_allowed L ds h)
theorem f6_have_results : HaveROk (tab T6) := fun L row ok => .here rfl (r_have_results f5_allowed L row ok)
theorem f6_check_league : CheckOk (tab T6) := fun L ok => Says.lift (l := [d_have_results, d_allowed]) (r := T4) (f4_check_league L ok) (by decide +kernel)
theorem f7_check_results : CheckROk (tab T7) := fun L row hL ok => .here rfl (r_check_results f6_check_league f6_have_results L hL row ok)
theorem f8_league_text : LTxOk (tab T8) := fun L hL => .here rfl (r_league_text L hL)
theorem f8_check_league : CheckOk (tab T8) := fun L ok => Says.lift (l := [d_league_text, d_check_results, d_have_results, d_allowed]) (r := T4) (f4_check_league L ok) (by decide +kernel)
theorem f9_format_league : FLgOk (tab T9) := fun L hL => .here rfl (r_format_league f8_check_league f8_league_text L hL)
theorem f10_read_number : RdNOk (tab T10) := fun n h => .here rfl (r_read_number h)
theorem f11_read_numbers : RdsOk (tab T11) := fun mark c ns hm hc hk hne h hl => .here rfl (r_read_numbers f10_read_number mark c ns hm hc hk hne h hl)
theorem eE12_check_text : ECt (tab T12) := fun d h => .here rfl (r_text_bad d h)
theorem f12_check_text : CTxOk (tab T12) := fun x => .here rfl (r_check_text x)
theorem eP13_parse_league : EPL (tab T13) := fun d hd => .here rfl (isPE_is (List.all_eq_true.mp (by decide +kernel : (badT.all fun d => isPE (runFn (tab T12) d_parse_league [d])) = true) d hd))
theorem f12_read_numbers : RdsOk (tab T12) := fun mark c ns hm hc hk hne h hl => Says.lift (l := [d_check_text]) (r := T11) (f11_read_numbers mark c ns hm hc hk hne h hl) (by decide +kernel)
theorem f12_is_league : LeagueOk (tab T12) := fun L ok => Says.lift (l := [d_check_text, d_read_numbers, d_read_number, d_format_league, d_league_text, d_check_results, d_have_results, d_allowed, d_check_league]) (r := T3) (f3_is_league L ok) (by decide +kernel)
theorem f12_league_text : LTxOk (tab T12) := fun L hL => Says.lift (l := [d_check_text, d_read_numbers, d_read_number, d_format_league]) (r := T8) (f8_league_text L hL) (by decide +kernel)
theorem f13_parse_league : PLgOk (tab T13) := fun L hL => .here rfl (r_parse_league f12_check_text f12_read_numbers f12_is_league f12_league_text L hL)
theorem f13_check_results : CheckROk (tab T13) := fun L row hL ok => Says.lift (l := [d_parse_league, d_check_text, d_read_numbers, d_read_number, d_format_league, d_league_text]) (r := T7) (f7_check_results L row hL ok) (by decide +kernel)
theorem f14_format_results : FRsOk (tab T14) := fun L row hL ok => .here rfl (r_format_results f13_check_results L row hL ok)
theorem eE14_check_text : ECt (tab T14) := fun d h => Errs.lift (l := [d_format_results, d_parse_league]) (r := T12) (eE12_check_text d h) (by decide +kernel)
theorem eB14_have_results : HBad (tab T14) := fun L ds h => Says.lift (l := [d_format_results, d_parse_league, d_check_text, d_read_numbers, d_read_number, d_format_league, d_league_text, d_check_results]) (r := T6) (eB6_have_results L ds h) (by decide +kernel)
theorem f14_check_league : CheckOk (tab T14) := fun L ok => Says.lift (l := [d_format_results, d_parse_league, d_check_text, d_read_numbers, d_read_number, d_format_league, d_league_text, d_check_results, d_have_results, d_allowed]) (r := T4) (f4_check_league L ok) (by decide +kernel)
theorem f14_check_text : CTxOk (tab T14) := fun x => Says.lift (l := [d_format_results, d_parse_league]) (r := T12) (f12_check_text x) (by decide +kernel)
theorem eP15_parse_results : EPR (tab T15) := fun L d hL h => .here rfl (r_parse_bad f14_check_league f14_check_text eE14_check_text eB14_have_results L d hL h)
theorem f14_have_results : HaveROk (tab T14) := fun L row ok => Says.lift (l := [d_format_results, d_parse_league, d_check_text, d_read_numbers, d_read_number, d_format_league, d_league_text, d_check_results]) (r := T6) (f6_have_results L row ok) (by decide +kernel)
theorem f15_parse_results : PRsOk (tab T15) := fun L row hL ok => .here rfl (r_parse_results f14_check_league f14_check_text f14_have_results L row hL ok)
theorem f20_is_int : IntOk (tab T20) := fun v a b hv => Says.lift (l := [d__law_class, d__law_all, d__law_result, d__law_league, d__law_pick, d_parse_results, d_format_results, d_parse_league, d_check_text, d_read_numbers, d_read_number, d_format_league, d_league_text, d_check_results, d_have_results, d_allowed, d_check_league, d_is_league, d_is_game, d_is_rule]) (r := T0) (f0_is_int v a b hv) (by decide +kernel)
theorem s_is_int : IntOk tb := f20_is_int
theorem f20_is_rule : RuleOk (tab T20) := fun L ok => Says.lift (l := [d__law_class, d__law_all, d__law_result, d__law_league, d__law_pick, d_parse_results, d_format_results, d_parse_league, d_check_text, d_read_numbers, d_read_number, d_format_league, d_league_text, d_check_results, d_have_results, d_allowed, d_check_league, d_is_league, d_is_game]) (r := T1) (f1_is_rule L ok) (by decide +kernel)
theorem s_is_rule : RuleOk tb := f20_is_rule
theorem f20_is_game : GameOk (tab T20) := fun g n h1 h2 h3 h4 h5 => Says.lift (l := [d__law_class, d__law_all, d__law_result, d__law_league, d__law_pick, d_parse_results, d_format_results, d_parse_league, d_check_text, d_read_numbers, d_read_number, d_format_league, d_league_text, d_check_results, d_have_results, d_allowed, d_check_league, d_is_league]) (r := T2) (f2_is_game g n h1 h2 h3 h4 h5) (by decide +kernel)
theorem s_is_game : GameOk tb := f20_is_game
theorem f20_is_league : LeagueOk (tab T20) := fun L ok => Says.lift (l := [d__law_class, d__law_all, d__law_result, d__law_league, d__law_pick, d_parse_results, d_format_results, d_parse_league, d_check_text, d_read_numbers, d_read_number, d_format_league, d_league_text, d_check_results, d_have_results, d_allowed, d_check_league]) (r := T3) (f3_is_league L ok) (by decide +kernel)
theorem s_is_league : LeagueOk tb := f20_is_league
theorem f20_check_league : CheckOk (tab T20) := fun L ok => Says.lift (l := [d__law_class, d__law_all, d__law_result, d__law_league, d__law_pick, d_parse_results, d_format_results, d_parse_league, d_check_text, d_read_numbers, d_read_number, d_format_league, d_league_text, d_check_results, d_have_results, d_allowed]) (r := T4) (f4_check_league L ok) (by decide +kernel)
theorem s_check_league : CheckOk tb := f20_check_league
theorem f20_allowed : AlwOk (tab T20) := fun L => Says.lift (l := [d__law_class, d__law_all, d__law_result, d__law_league, d__law_pick, d_parse_results, d_format_results, d_parse_league, d_check_text, d_read_numbers, d_read_number, d_format_league, d_league_text, d_check_results, d_have_results]) (r := T5) (f5_allowed L) (by decide +kernel)
theorem s_allowed : AlwOk tb := f20_allowed
theorem f20_have_results : HaveROk (tab T20) := fun L row ok => Says.lift (l := [d__law_class, d__law_all, d__law_result, d__law_league, d__law_pick, d_parse_results, d_format_results, d_parse_league, d_check_text, d_read_numbers, d_read_number, d_format_league, d_league_text, d_check_results]) (r := T6) (f6_have_results L row ok) (by decide +kernel)
theorem s_have_results : HaveROk tb := f20_have_results
theorem f20_check_results : CheckROk (tab T20) := fun L row hL ok => Says.lift (l := [d__law_class, d__law_all, d__law_result, d__law_league, d__law_pick, d_parse_results, d_format_results, d_parse_league, d_check_text, d_read_numbers, d_read_number, d_format_league, d_league_text]) (r := T7) (f7_check_results L row hL ok) (by decide +kernel)
theorem s_check_results : CheckROk tb := f20_check_results
theorem f20_league_text : LTxOk (tab T20) := fun L hL => Says.lift (l := [d__law_class, d__law_all, d__law_result, d__law_league, d__law_pick, d_parse_results, d_format_results, d_parse_league, d_check_text, d_read_numbers, d_read_number, d_format_league]) (r := T8) (f8_league_text L hL) (by decide +kernel)
theorem s_league_text : LTxOk tb := f20_league_text
theorem f20_format_league : FLgOk (tab T20) := fun L hL => Says.lift (l := [d__law_class, d__law_all, d__law_result, d__law_league, d__law_pick, d_parse_results, d_format_results, d_parse_league, d_check_text, d_read_numbers, d_read_number]) (r := T9) (f9_format_league L hL) (by decide +kernel)
theorem s_format_league : FLgOk tb := f20_format_league
theorem f20_read_number : RdNOk (tab T20) := fun n h => Says.lift (l := [d__law_class, d__law_all, d__law_result, d__law_league, d__law_pick, d_parse_results, d_format_results, d_parse_league, d_check_text, d_read_numbers]) (r := T10) (f10_read_number n h) (by decide +kernel)
theorem s_read_number : RdNOk tb := f20_read_number
theorem f20_read_numbers : RdsOk (tab T20) := fun mark c ns hm hc hk hne h hl => Says.lift (l := [d__law_class, d__law_all, d__law_result, d__law_league, d__law_pick, d_parse_results, d_format_results, d_parse_league, d_check_text]) (r := T11) (f11_read_numbers mark c ns hm hc hk hne h hl) (by decide +kernel)
theorem s_read_numbers : RdsOk tb := f20_read_numbers
theorem f20_check_text : CTxOk (tab T20) := fun x => Says.lift (l := [d__law_class, d__law_all, d__law_result, d__law_league, d__law_pick, d_parse_results, d_format_results, d_parse_league]) (r := T12) (f12_check_text x) (by decide +kernel)
theorem s_check_text : CTxOk tb := f20_check_text
theorem f20_parse_league : PLgOk (tab T20) := fun L hL => Says.lift (l := [d__law_class, d__law_all, d__law_result, d__law_league, d__law_pick, d_parse_results, d_format_results]) (r := T13) (f13_parse_league L hL) (by decide +kernel)
theorem s_parse_league : PLgOk tb := f20_parse_league
theorem f20_format_results : FRsOk (tab T20) := fun L row hL ok => Says.lift (l := [d__law_class, d__law_all, d__law_result, d__law_league, d__law_pick, d_parse_results]) (r := T14) (f14_format_results L row hL ok) (by decide +kernel)
theorem s_format_results : FRsOk tb := f20_format_results
theorem f20_parse_results : PRsOk (tab T20) := fun L row hL ok => Says.lift (l := [d__law_class, d__law_all, d__law_result, d__law_league, d__law_pick]) (r := T15) (f15_parse_results L row hL ok) (by decide +kernel)
theorem s_parse_results : PRsOk tb := f20_parse_results
theorem eB20_have_results : HBad (tab T20) := fun L ds h => Says.lift (l := [d__law_class, d__law_all, d__law_result, d__law_league, d__law_pick, d_parse_results, d_format_results, d_parse_league, d_check_text, d_read_numbers, d_read_number, d_format_league, d_league_text, d_check_results]) (r := T6) (eB6_have_results L ds h) (by decide +kernel)
theorem sB_have_results : HBad tb := eB20_have_results
theorem eE20_check_text : ECt (tab T20) := fun d h => Errs.lift (l := [d__law_class, d__law_all, d__law_result, d__law_league, d__law_pick, d_parse_results, d_format_results, d_parse_league]) (r := T12) (eE12_check_text d h) (by decide +kernel)
theorem sE_check_text : ECt tb := eE20_check_text
theorem eP20_parse_results : EPR (tab T20) := fun L d hL h => Errs.lift (l := [d__law_class, d__law_all, d__law_result, d__law_league, d__law_pick]) (r := T15) (eP15_parse_results L d hL h) (by decide +kernel)
theorem sP_parse_results : EPR tb := eP20_parse_results
theorem eP20_parse_league : EPL (tab T20) := fun d hd => Errs.lift (l := [d__law_class, d__law_all, d__law_result, d__law_league, d__law_pick, d_parse_results, d_format_results]) (r := T13) (eP13_parse_league d hd) (by decide +kernel)
theorem sP_parse_league : EPL tb := eP20_parse_league
theorem s_pick (ns : List Int) (hl : ns.length ≤ 63) : ∃ pk, PickOk tb ns pk ∧ ∀ a most : Int, 0 ≤ a → a ≤ 50000 → 0 ≤ most → most ≤ 8 → ∃ L : Lg, L.Ok ∧ (L.gs.length : Int) ≤ most ∧ L.pts.length ≤ 5 ∧ (∀ p ∈ L.pts, p ≤ 7) ∧ Says tb "_law_league" [.list (iL ns), .int a, .int most] L.d := by
  obtain ⟨pk, hp⟩ := pick_ok (Φ := tab T16) (Φ' := tab T15) hl rfl
  have hp2 : PickOk (tab T16) ns pk := fun x m h0 h1 hm => let ⟨x, y⟩ := hp x m h0 h1 hm; ⟨Says.lift (l := []) (r := T16) x (by decide +kernel), y⟩
  refine ⟨pk, fun x m h0 h1 hm => ?_, fun a most a0 a1 m0 m8 => ?_⟩
  · obtain ⟨x, y⟩ := hp x m h0 h1 hm
    exact ⟨Says.lift (l := [d__law_class, d__law_all, d__law_result, d__law_league]) (r := T16) x (by decide +kernel), y⟩
  · obtain ⟨L, h1, h2, h4, h5, h3⟩ := r_law_league hp2 a most a0 a1 m0 m8
    exact ⟨L, h1, h2, h4, h5, Says.lift (l := [d__law_class, d__law_all, d__law_result]) (r := T17) (.here rfl h3) (by decide +kernel)⟩
end OLlaw

end
section
set_option Elab.async false
set_option linter.all false
set_option maxRecDepth 100000
set_option maxHeartbeats 4000000
namespace OLlaw
open PySem PySem.Spec PyProof.Rows L2 OL OLd
theorem exS_ifl {Φ : Tab} {f : Str} {es : OL.Es} {nm : Str} {a b : OL.Ss} {ρ : OL.Env} {ds : List PyData} (h1 : (Φ "_law_class").isSome = true ∧ (Φ "_law_all").isSome = true) (he : Errs Φ f ds nm) (hv : evL Φ es (shO ρ) = some ds) (hm : errOk (.error nm) = true) (hq : eqD (resD (.error nm)) (.tuple [.str "error", .str nm]) = some true) : exS Φ (.ifl f es nm a b) ρ = exL Φ b ρ := by
  obtain ⟨G, g1, g2⟩ := he
  unfold exS
  rw [if_pos h1, g1, Option.bind_some, hv, Option.bind_some, g2, Option.bind_some, if_pos hm, hq]
  rfl
theorem tb_laws : (tb "_law_class").isSome = true ∧ (tb "_law_all").isSome = true := by decide +kernel
theorem pe_ok : errOk (.error "ParseError") = true := by decide +kernel
theorem pe_eq : eqD (resD (.error "ParseError")) (.tuple [.str "error", .str "ParseError"]) = some true := by decide +kernel
abbrev env (ns : List Int) (i : Int) (L : Lg) (b7 b8 b9 b10 b11 b12 b13 b14 b15 : B) : OL.Env := [.sh (.list (iL ns)), .sh (.int i), .sh L.d, .sh (.int L.w), .sh (drD L.dr), .sh (.tuple (iL L.pts)), .sh (.tuple (L.gs.map gmD)), b7, b8, b9, b10, b11, b12, b13, b14, b15]
theorem t2 (ns : List Int) (i : Int) (L : Lg) (hL : L.Ok) (b7 b8 b9 b10 b11 b12 b13 b14 b15 : B) : evE tb (.bin .Add (.bi "str" (.cons (.v 3) .nil)) (.ife (.cmp .IsNot (.v 4) (.c .none)) (.bin .Add (.c (.str "/")) (.bi "str" (.cons (.v 4) .nil))) (.c (.str "")))) (env ns i L b7 b8 b9 b10 b11 b12 b13 b14 b15) = some (.str (rT L)) := by
  have h := txOk hL
  have l1 := (tx_ok h.w.1 h.w.2).1
  unfold rT
  cases hd : L.dr with
  | none =>
    have e : tx L.w = tx L.w ++ "" := by apply cp_ext; rw [cp_app, cp_em, List.append_nil]
    show _ = some (PyData.str (tx L.w))
    rw [e]
    refine evE_cat (evE_str rfl h.w.1 h.w.2) (evE_ife0 (evE_cmp (x := drD none) (y := .none) ?_ rfl rfl) rfl) (by rw [l_em]; omega)
    show some (drD L.dr) = _
    rw [hd]
  | some x =>
    obtain ⟨d0, d1⟩ := h.d x hd
    have l2 := (tx_ok d0 d1).1
    have e : tx L.w ++ "/" ++ tx x = tx L.w ++ ("/" ++ tx x) := by apply cp_ext; rw [cp_app, cp_app, cp_app, cp_app, List.append_assoc]
    show _ = some (PyData.str (tx L.w ++ "/" ++ tx x))
    rw [e]
    have a1 : evE tb (.v 4) (env ns i L b7 b8 b9 b10 b11 b12 b13 b14 b15) = some (.int x) := by
      show some (drD L.dr) = _
      rw [hd]; rfl
    exact evE_cat (evE_str rfl h.w.1 h.w.2) (evE_ife1 (evE_cmp a1 (y := .none) rfl rfl) (evE_cat (x := "/") rfl (evE_str a1 d0 d1) (by rw [l_sl]; omega))) (by rw [len_app, l_sl]; omega)
theorem t3 (ns : List Int) (i : Int) (L : Lg) (hL : L.Ok) (b8 b9 b10 b11 b12 b13 b14 b15 : B) : evE tb (.bin .Add (.bin .Add (.v 7) (.c (.str ": "))) (.me1 "join" (.c (.str " ")) (.lc (.bi "str" (.cons (.v 14) .nil)) (.n 14) (.e (.v 5)) .no))) (env ns i L (.sh (.str (rT L))) b8 b9 b10 b11 b12 b13 b14 b15) = some (.str (hT L)) := by
  have h := txOk hL
  have h6 := hL.p6
  have lr := rT_len h
  have lp := pT_len h
  have e1 : (Txt.join " " (L.pts.map tx)).length ≤ 24 := by have e : (Txt.join " " (L.pts.map tx)).length = (pT L).length := rfl; omega
  have q2 : evE tb (.lc (.bi "str" (.cons (.v 14) .nil)) (.n 14) (.e (.v 5)) .no) (env ns i L (.sh (.str (rT L))) b8 b9 b10 b11 b12 b13 b14 b15) = some (.list ((L.pts.map tx).map .str)) := by
    rw [List.map_map]
    exact lc_map (l := L.pts) (e := PyData.int) (g := PyData.str ∘ tx) (r := fun p => env ns i L (.sh (.str (rT L))) b8 b9 b10 b11 b12 b13 (.sh (.int p)) b15) (evI_tuple rfl) (fun _ _ => rfl) (fun p hp => evE_str rfl (h.p p hp).1 (h.p p hp).2)
  refine evE_cat (x := rT L ++ ": ") (evE_cat (x := rT L) (y := ": ") rfl rfl (by rw [l_co]; omega)) (evE_join 3 q2 ?_ ?_) (by rw [len_app, l_co]; omega)
  · intro w hw
    obtain ⟨p, hp, rfl⟩ := List.mem_map.mp hw
    exact (tx_ok (h.p p hp).1 (h.p p hp).2).1
  · rw [List.length_map, l_sp]; omega
theorem step_tx (x : Str) (pre : List (Int × Int)) (g : Int × Int) : x ++ Txt.join "" (pre.map gT) ++ "; " ++ tx g.1 ++ "-" ++ tx g.2 = x ++ Txt.join "" ((pre ++ [g]).map gT) := by
  apply cp_ext
  rw [cp_app, cp_app, cp_app, cp_app, cp_app, cp_app, jn_join, jn_join, cp_em, jn_nil, jn_nil, List.map_append, List.map_append, List.flatten_append, List.map_singleton, List.map_singleton, List.flatten_singleton, cp_app, cp_app, cp_app]
  simp
theorem t4 (ns : List Int) (i : Int) (L : Lg) (hL : L.Ok) (b8 b9 b10 b11 b12 b13 b14 b15 : B) : ∃ c8 c9, exS tb (.fors (.p (.n 8) (.n 9)) (.e (.v 6)) (.cons (.set 7 .s (.bin .Add (.bin .Add (.bin .Add (.bin .Add (.v 7) (.c (.str "; "))) (.bi "str" (.cons (.v 8) .nil))) (.c (.str "-"))) (.bi "str" (.cons (.v 9) .nil)))) .nil)) (env ns i L (.sh (.str (hT L))) b8 b9 b10 b11 b12 b13 b14 b15) = some (.nx (env ns i L (.sh (.str (lT L))) c8 c9 b10 b11 b12 b13 b14 b15)) := by
  have h := txOk hL
  have h6 := hL.p6
  have h8 := hL.g8
  have lh := hT_len h
  have e0 : hT L = hT L ++ Txt.join "" (([] : List (Int × Int)).map gT) := by
    apply cp_ext
    rw [cp_app (hT L), jn_join, cp_em]
    show _ = _ ++ []
    rw [List.append_nil]
  obtain ⟨ρ', hf, c8, c9, rfl⟩ := forGo_each (t := .p (.n 8) (.n 9)) (e := gmD) (body := exL tb (.cons (.set 7 .s (.bin .Add (.bin .Add (.bin .Add (.bin .Add (.v 7) (.c (.str "; "))) (.bi "str" (.cons (.v 8) .nil))) (.c (.str "-"))) (.bi "str" (.cons (.v 9) .nil)))) .nil))
    (fun pre ρ => ∃ c8 c9 : B, ρ = env ns i L (.sh (.str (hT L ++ Txt.join "" (pre.map gT)))) c8 c9 b10 b11 b12 b13 b14 b15) L.gs [] (env ns i L (.sh (.str (hT L))) b8 b9 b10 b11 b12 b13 b14 b15) (fun pre g post ρ hp hI => by
      obtain ⟨d8, d9, rfl⟩ := hI
      have hgs : L.gs = pre ++ g :: post := by simpa using hp
      have hg := h.g g (by rw [hgs]; simp)
      have lg := gs_len (l := pre) fun z hz => h.g z (by rw [hgs]; simp [hz])
      have hpl : pre.length ≤ 8 := by rw [hgs] at h8; simp at h8; omega
      have l1 := (tx_ok hg.1.1 hg.1.2).1
      have l2 := (tx_ok hg.2.1 hg.2.2).1
      have lx : (hT L ++ Txt.join "" (pre.map gT)).length ≤ 200 := by rw [len_app (hT L)]; omega
      have est := step_tx (hT L) pre g
      generalize hT L ++ Txt.join "" (pre.map gT) = X at lx est
      refine ⟨_, _, rfl, (exL_nx (exS_set (evE_cat (evE_cat (evE_cat (evE_cat (x := X) (y := "; ") rfl rfl (by rw [l_se]; omega)) (evE_str (i := g.1) rfl hg.1.1 hg.1.2) (by rw [len_app, l_se]; omega)) (y := "-") rfl (by rw [len_app, len_app, l_se, l_da]; omega)) (evE_str (i := g.2) rfl hg.2.1 hg.2.2) (by rw [len_app, len_app, len_app, l_se, l_da]; omega)) rfl (by simp))).trans rfl, .sh (.int g.1), .sh (.int g.2), ?_⟩
      rw [← est]; rfl) ⟨b8, b9, by rw [← e0]⟩
  exact ⟨c8, c9, (exS_for (evI_tuple rfl)).trans hf⟩
/-! ### the drawn row -/
def sgl (L : Lg) : List Sg := match L.dr with
  | none => [.a, .h]
  | some _ => [.a, .d, .h]
def sgT (L : Lg) : Str := match L.dr with
  | none => "ah"
  | some _ => "adh"
theorem sgT_len (L : Lg) : biD "len" [.str (sgT L)] = some (.int (sgl L).length) := by
  unfold sgT sgl
  cases L.dr <;> kernel_rfl
theorem sgT_at (L : Lg) {i : Int} (h0 : 0 ≤ i) (h1 : i < (sgl L).length) : ixD (.str (sgT L)) (.int i) = some (sgD ((sgl L).getD i.toNat .a)) ∧ SgOk L ((sgl L).getD i.toNat .a) := by
  unfold sgT sgl SgOk at *
  cases hd : L.dr with
  | none =>
    rw [hd] at h1
    have h : i = 0 ∨ i = 1 := by simp at h1; omega
    rcases h with rfl | rfl
    · exact ⟨by kernel_rfl, by decide⟩
    · exact ⟨by kernel_rfl, by decide⟩
  | some x =>
    rw [hd] at h1
    have h : i = 0 ∨ i = 1 ∨ i = 2 := by simp at h1; omega
    rcases h with rfl | rfl | rfl
    · exact ⟨by kernel_rfl, fun _ => rfl⟩
    · exact ⟨by kernel_rfl, fun _ => rfl⟩
    · exact ⟨by kernel_rfl, fun _ => rfl⟩
theorem sgl_pos (L : Lg) : 0 < ((sgl L).length : Int) := by unfold sgl; cases L.dr <;> simp
theorem t6 (ns : List Int) (i : Int) (L : Lg) (b7 b8 b9 b10 b11 b12 b13 b14 b15 : B) : evE tb (.ife (.cmp .Is (.v 4) (.c .none)) (.c (.str "ah")) (.c (.str "adh"))) (env ns i L b7 b8 b9 b10 b11 b12 b13 b14 b15) = some (.str (sgT L)) := by
  have a1 : evE tb (.v 4) (env ns i L b7 b8 b9 b10 b11 b12 b13 b14 b15) = some (drD L.dr) := rfl
  unfold sgT
  cases hd : L.dr with
  | none => rw [hd] at a1; exact evE_ife1 (evE_cmp a1 (y := .none) rfl rfl) rfl
  | some x => rw [hd] at a1; exact evE_ife0 (evE_cmp a1 (y := .none) rfl rfl) rfl
def rowP (L : Lg) (pk : Int → Int → Int) (i : Int) : List Sg := (List.range L.gs.length).map fun j => (sgl L).getD (pk (60 * i + 40 + (j : Nat)) (sgl L).length).toNat .a
theorem rowP_ok {ns : List Int} (L : Lg) (pk : Int → Int → Int) (hp : PickOk tb ns pk) (hL : L.Ok) (i : Int) (hi : 0 ≤ i) (hi2 : i < 3) : RsOk L (rowP L pk i) := by
  have h8 := hL.g8
  refine ⟨by unfold rowP; simp, fun s hs => ?_⟩
  obtain ⟨j, hj, rfl⟩ := List.mem_map.mp hs
  have := List.mem_range.mp hj
  obtain ⟨_, p0, p1⟩ := hp (60 * i + 40 + (j : Nat)) (sgl L).length (by omega) (by omega) (sgl_pos L)
  exact (sgT_at L p0 p1).2
theorem t7 (ns : List Int) (i : Int) (L : Lg) (hL : L.Ok) (pk : Int → Int → Int) (hp : PickOk tb ns pk) (hi : 0 ≤ i) (hi2 : i < 3) (b7 b8 b9 b11 b12 b13 b14 b15 : B) : evE tb (.bi "tuple" (.cons (.lc (.ix (.v 10) (.call "_law_pick" (.cons (.v 0) (.cons (.bin .Add (.bin .Add (.bin .Mult (.c (.int 60)) (.v 1)) (.c (.int 40))) (.v 15)) (.cons (.bi "len" (.cons (.v 10) .nil)) .nil))))) (.n 15) (.r1 (.bi "len" (.cons (.v 6) .nil))) .no) .nil)) (env ns i L b7 b8 b9 (.sh (.str (sgT L))) b11 b12 b13 b14 b15) = some (rsD (rowP L pk i)) := by
  have h8 := hL.g8
  have hlen := evE_len (Φ := tb) (e := .v 6) (ρ := env ns i L b7 b8 b9 (.sh (.str (sgT L))) b11 b12 b13 b14 b15) (xs := L.gs.map gmD) rfl
  rw [List.length_map] at hlen
  have hm : ((List.range L.gs.length).map fun j => sgD ((sgl L).getD (pk (60 * i + 40 + (j : Nat)) (sgl L).length).toNat .a)) = (rowP L pk i).map sgD := by unfold rowP; rw [List.map_map]; rfl
  have q : evE tb (.lc (.ix (.v 10) (.call "_law_pick" (.cons (.v 0) (.cons (.bin .Add (.bin .Add (.bin .Mult (.c (.int 60)) (.v 1)) (.c (.int 40))) (.v 15)) (.cons (.bi "len" (.cons (.v 10) .nil)) .nil))))) (.n 15) (.r1 (.bi "len" (.cons (.v 6) .nil))) .no) (env ns i L b7 b8 b9 (.sh (.str (sgT L))) b11 b12 b13 b14 b15) = some (.list ((rowP L pk i).map sgD)) := by
    rw [← hm]
    refine lc_map (l := List.range L.gs.length) (e := fun j => .int (j : Nat)) (g := fun j => sgD ((sgl L).getD (pk (60 * i + 40 + (j : Nat)) (sgl L).length).toNat .a)) (r := fun j => env ns i L b7 b8 b9 (.sh (.str (sgT L))) b11 b12 b13 b14 (.sh (.int (j : Nat)))) ?_ (fun _ _ => rfl) (fun j hj => ?_)
    · rw [evI_r1 hlen (by omega) (by omega)]
      unfold rgD
      simp
    · have := List.mem_range.mp hj
      have hk : (0 : Int) ≤ 60 * i + 40 + (j : Nat) := by omega
      obtain ⟨_, p0, p1⟩ := hp (60 * i + 40 + (j : Nat)) (sgl L).length (by omega) (by omega) (sgl_pos L)
      refine evE_ix (x := .str (sgT L)) rfl (evE_pick hp (k := 60 * i + 40 + (j : Nat)) (m := (sgl L).length) rfl (evE_add (evE_add (i := 60 * i) (j := 40) ?_ rfl) rfl) (evE_bi (x := .str (sgT L)) rfl (sgT_len L)) (by omega) (by omega) (sgl_pos L)) (sgT_at L p0 p1).1
      show binD .Mult (.int 60) (.int i) = _
      exact binD_mul 60 i (by omega)
  exact evE_bi q (tuple_list _)
/-! ### what is refused -/
def badR (L : Lg) (row : List Sg) : List PyData := [.none, .int 5, .str (rtx row ++ "h"), .str (strRep "x" row.length ++ "x"), .str (" " ++ rtx row), .tuple (row.map sgD ++ [.str "h"])]
def badD (L : Lg) : List PyData := if L.dr = none ∧ L.gs ≠ [] then [.str (strRep "d" L.gs.length)] else []
theorem l_h : ("h" : Str).length = 1 := by decide +kernel
theorem l_x : ("x" : Str).length = 1 := by decide +kernel
theorem l_d : ("d" : Str).length = 1 := by decide +kernel
theorem cp_x : cpL ("x" : Str) = [120] := by decide +kernel
theorem cp_d : cpL ("d" : Str) = [100] := by decide +kernel
theorem rep_x (n : Nat) : (strRep "x" n).length = n := by rw [cp_len, rep_cp, cp_x]; simp
theorem bad_ok {L : Lg} (hL : L.Ok) {row : List Sg} (ok : RsOk L row) : ∀ d ∈ badR L row ++ badD L, isTy "str" d = some false ∨ ∃ x : Str, d = .str x ∧ x.length ≤ 1000 ∧ (x.length ≠ L.gs.length ∨ (L.dr = none ∧ cpL x = L.gs.map (fun _ => 100) ∧ L.gs ≠ [])) := by
  have h8 := hL.g8
  have hl := ok.len
  have hr : (rtx row).length = row.length := row_size row
  intro d hd
  rcases List.mem_append.mp hd with hd | hd
  · unfold badR at hd
    simp only [List.mem_cons, List.not_mem_nil, or_false] at hd
    rcases hd with rfl | rfl | rfl | rfl | rfl | rfl
    · exact .inl rfl
    · exact .inl rfl
    · exact .inr ⟨_, rfl, by rw [len_app, l_h]; omega, .inl (by rw [len_app, l_h]; omega)⟩
    · exact .inr ⟨_, rfl, by rw [len_app, l_x, rep_x]; omega, .inl (by rw [len_app, l_x, rep_x]; omega)⟩
    · exact .inr ⟨_, rfl, by rw [len_app, l_sp]; omega, .inl (by rw [len_app, l_sp]; omega)⟩
    · exact .inl rfl
  · unfold badD at hd
    split at hd
    · rename_i hc
      simp only [List.mem_cons, List.not_mem_nil, or_false] at hd
      subst hd
      have e : cpL (strRep "d" L.gs.length) = L.gs.map (fun _ => 100) := by
        rw [rep_cp, cp_d]
        generalize L.gs = l
        induction l with
        | nil => rfl
        | cons a l ih => rw [List.length_cons, List.replicate_succ, List.flatten_cons, ih]; rfl
      exact .inr ⟨_, rfl, by rw [cp_len, e, List.length_map]; omega, .inr ⟨hc.1, e, hc.2⟩⟩
    · cases hd
theorem t9 (ns : List Int) (i : Int) (L : Lg) (hL : L.Ok) (row : List Sg) (ok : RsOk L row) (b7 b8 b9 b10 b12 b13 b14 b15 : B) : evE tb (.lst (.cons (.c .none) (.cons (.c (.int 5)) (.cons (.bin .Add (.me1 "join" (.c (.str "")) (.v 11)) (.c (.str "h"))) (.cons (.bin .Add (.bin .Mult (.c (.str "x")) (.bi "len" (.cons (.v 11) .nil))) (.c (.str "x"))) (.cons (.bin .Add (.c (.str " ")) (.me1 "join" (.c (.str "")) (.v 11))) (.cons (.bin .Add (.v 11) (.tup (.cons (.c (.str "h")) .nil))) .nil))))))) (env ns i L b7 b8 b9 b10 (.sh (rsD row)) b12 b13 b14 b15) = some (.list (badR L row)) := by
  have h8 := hL.g8
  have hl := ok.len
  have hr : (rtx row).length = row.length := row_size row
  have j1 : evE tb (.me1 "join" (.c (.str "")) (.v 11)) (env ns i L b7 b8 b9 b10 (.sh (rsD row)) b12 b13 b14 b15) = some (.str (rtx row)) := evE_joinR rfl (by omega)
  have n1 := evE_len (Φ := tb) (e := .v 11) (ρ := env ns i L b7 b8 b9 b10 (.sh (rsD row)) b12 b13 b14 b15) (xs := row.map sgD) rfl
  rw [List.length_map] at n1
  refine evE_lst (evL_cons (x := .none) rfl (evL_cons (x := .int 5) rfl (evL_cons (evE_cat j1 (y := "h") rfl (by rw [l_h]; omega)) (evL_cons (evE_cat (evE_bin (x := .str "x") rfl n1 ?_) (y := "x") rfl (by rw [rep_x, l_x]; omega)) (evL_cons (evE_cat (x := " ") rfl j1 (by rw [l_sp]; omega)) (evL_cons (evE_bin (x := rsD row) (y := .tuple [.str "h"]) rfl rfl ?_) rfl)))))) (by simp [badR])
  · show (if (0 : Int) ≤ (row.length : Nat) ∧ ((row.length : Nat) : Int) ≤ 1000 ∧ ("x" : Str).length ≤ 1000 then some (PyData.str (strRep "x" ((row.length : Nat) : Int).toNat)) else none) = _
    rw [if_pos ⟨by omega, by omega, by rw [l_x]; omega⟩]
    rfl
  · show (if (row.map sgD).length + 1 ≤ 16777216 then some (PyData.tuple (row.map sgD ++ [.str "h"])) else none) = _
    rw [if_pos (by rw [List.length_map]; omega)]
theorem t10 (ns : List Int) (i : Int) (L : Lg) (hL : L.Ok) (row : List Sg) (b7 b8 b9 b10 b11 b13 b14 b15 : B) : exS tb (.ifs (.and (.cons (.cmp .Is (.v 4) (.c .none)) (.cons (.cmp .NotEq (.v 6) (.tup .nil)) .nil))) (.cons (.app 12 (.bin .Mult (.c (.str "d")) (.bi "len" (.cons (.v 6) .nil)))) .nil) .nil) (env ns i L b7 b8 b9 b10 b11 (.ow (.list (badR L row))) b13 b14 b15) = some (.nx (env ns i L b7 b8 b9 b10 b11 (.ow (.list (badR L row ++ badD L))) b13 b14 b15)) := by
  have h8 := hL.g8
  have a1 : evE tb (.cmp .Is (.v 4) (.c .none)) (env ns i L b7 b8 b9 b10 b11 (.ow (.list (badR L row))) b13 b14 b15) = some (.bool (decide (L.dr = none))) := by
    refine evE_cmp (x := drD L.dr) (y := .none) rfl rfl ?_
    cases L.dr <;> rfl
  have a2 : evE tb (.cmp .NotEq (.v 6) (.tup .nil)) (env ns i L b7 b8 b9 b10 b11 (.ow (.list (badR L row))) b13 b14 b15) = some (.bool (!decide (L.gs = []))) := evE_cmp (x := .tuple (L.gs.map gmD)) (y := .tuple []) rfl rfl (cmp_ne (eqD_gms_nil L.gs))
  have a3 := evE_and (evAnd_cons (es := .cons (.cmp .NotEq (.v 6) (.tup .nil)) .nil) a1 fun _ => (evAnd_cons (es := .nil) (c := true) a2 fun _ => rfl))
  unfold badD
  by_cases hc : L.dr = none ∧ L.gs ≠ []
  · rw [if_pos hc]
    rw [decide_eq_true hc.1, decide_eq_false hc.2] at a3
    have n1 := evE_len (Φ := tb) (e := .v 6) (ρ := env ns i L b7 b8 b9 b10 b11 (.ow (.list (badR L row))) b13 b14 b15) (xs := L.gs.map gmD) rfl
    rw [List.length_map] at n1
    refine exS_if1 a3 ((exL_nx (exS_app (d := .str (strRep "d" L.gs.length)) (xs := badR L row) (evE_bin (x := .str "d") rfl n1 ?_) rfl (by simp [badR]))).trans rfl)
    show (if (0 : Int) ≤ (L.gs.length : Nat) ∧ ((L.gs.length : Nat) : Int) ≤ 1000 ∧ ("d" : Str).length ≤ 1000 then some (PyData.str (strRep "d" ((L.gs.length : Nat) : Int).toNat)) else none) = _
    rw [if_pos ⟨by omega, by omega, by rw [l_d]; omega⟩]
    rfl
  · rw [if_neg hc, List.append_nil]
    have e : (decide (L.dr = none) && ((!decide (L.gs = [])) && true)) = false := by
      by_cases h1 : L.dr = none
      · by_cases h2 : L.gs = []
        · simp [h2]
        · exact absurd ⟨h1, h2⟩ hc
      · simp [h1]
    rw [e] at a3
    exact exS_if0 a3 rfl
theorem eqD_row (row : List Sg) : eqD (rsD row) (rsD row) = some true := by
  refine eqD_self ?_ ?_
  · rw [PyData.canLay0]
    induction row with
    | nil => rfl
    | cons s r ih => rw [List.map_cons, PyData.canLayAll0, ih]; cases s <;> decide +kernel
  · rw [PyData.depth]
    have : PyData.depthAll (row.map sgD) ≤ 1 := by
      induction row with
      | nil => decide
      | cons s r ih => rw [List.map_cons, PyData.depthAll]; cases s <;> simp [sgD, PyData.depth] <;> omega
    omega
/-- one turn of the law -/
theorem turn_ok {ns : List Int} (pk : Int → Int → Int) (hp : PickOk tb ns pk) (L : Lg) (hL : L.Ok) (i : Int) (hi : 0 ≤ i) (hi2 : i < 3) (hl : Says tb "_law_league" [.list (iL ns), .int (60 * i), .int 8] L.d) (b2 b3 b4 b5 b6 b7 b8 b9 b10 b11 b12 b13 b14 b15 : B) :
    ∃ c2 c3 c4 c5 c6 c7 c8 c9 c10 c11 c12 c13 c14 c15, exL tb (.cons (.set 2 .s (.call "_law_league" (.cons (.v 0) (.cons (.bin .Mult (.c (.int 60)) (.v 1)) (.cons (.c (.int 8)) .nil))))) (.cons (.unp (.q (.p (.n 3) (.n 4)) (.n 5) (.n 6)) (.v 2)) (.cons (.set 7 .s (.bin .Add (.bi "str" (.cons (.v 3) .nil)) (.ife (.cmp .IsNot (.v 4) (.c .none)) (.bin .Add (.c (.str "/")) (.bi "str" (.cons (.v 4) .nil))) (.c (.str ""))))) (.cons (.set 7 .s (.bin .Add (.bin .Add (.v 7) (.c (.str ": "))) (.me1 "join" (.c (.str " ")) (.lc (.bi "str" (.cons (.v 14) .nil)) (.n 14) (.e (.v 5)) .no)))) (.cons (.fors (.p (.n 8) (.n 9)) (.e (.v 6)) (.cons (.set 7 .s (.bin .Add (.bin .Add (.bin .Add (.bin .Add (.v 7) (.c (.str "; "))) (.bi "str" (.cons (.v 8) .nil))) (.c (.str "-"))) (.bi "str" (.cons (.v 9) .nil)))) .nil)) (.cons (.ifs (.or (.cons (.cmp .NotEq (.call "format_league" (.cons (.v 2) .nil)) (.v 7)) (.cons (.cmp .NotEq (.call "parse_league" (.cons (.v 7) .nil)) (.v 2)) .nil))) (.cons (.ret (.c (.bool false))) .nil) .nil) (.cons (.set 10 .s (.ife (.cmp .Is (.v 4) (.c .none)) (.c (.str "ah")) (.c (.str "adh")))) (.cons (.set 11 .s (.bi "tuple" (.cons (.lc (.ix (.v 10) (.call "_law_pick" (.cons (.v 0) (.cons (.bin .Add (.bin .Add (.bin .Mult (.c (.int 60)) (.v 1)) (.c (.int 40))) (.v 15)) (.cons (.bi "len" (.cons (.v 10) .nil)) .nil))))) (.n 15) (.r1 (.bi "len" (.cons (.v 6) .nil))) .no) .nil))) (.cons (.ifs (.or (.cons (.cmp .NotEq (.call "format_results" (.cons (.v 2) (.cons (.v 11) .nil))) (.me1 "join" (.c (.str "")) (.v 11))) (.cons (.cmp .NotEq (.call "parse_results" (.cons (.v 2) (.cons (.me1 "join" (.c (.str "")) (.v 11)) .nil))) (.v 11)) .nil))) (.cons (.ret (.c (.bool false))) .nil) .nil) (.cons (.set 12 .o (.lst (.cons (.c .none) (.cons (.c (.int 5)) (.cons (.bin .Add (.me1 "join" (.c (.str "")) (.v 11)) (.c (.str "h"))) (.cons (.bin .Add (.bin .Mult (.c (.str "x")) (.bi "len" (.cons (.v 11) .nil))) (.c (.str "x"))) (.cons (.bin .Add (.c (.str " ")) (.me1 "join" (.c (.str "")) (.v 11))) (.cons (.bin .Add (.v 11) (.tup (.cons (.c (.str "h")) .nil))) .nil)))))))) (.cons (.ifs (.and (.cons (.cmp .Is (.v 4) (.c .none)) (.cons (.cmp .NotEq (.v 6) (.tup .nil)) .nil))) (.cons (.app 12 (.bin .Mult (.c (.str "d")) (.bi "len" (.cons (.v 6) .nil)))) .nil) .nil) (.cons (.fr 12) (.cons (.fors (.n 13) (.e (.v 12)) (.cons (.ifl "parse_results" (.cons (.v 2) (.cons (.v 13) .nil)) "ParseError" (.cons (.ret (.c (.bool false))) .nil) .nil) .nil)) .nil))))))))))))) [.sh (.list (iL ns)), .sh (.int i), b2, b3, b4, b5, b6, b7, b8, b9, b10, b11, b12, b13, b14, b15] = some (.nx [.sh (.list (iL ns)), .sh (.int i), c2, c3, c4, c5, c6, c7, c8, c9, c10, c11, c12, c13, c14, c15]) := by
  have h8 := hL.g8
  have q0 : evE tb (.call "_law_league" (.cons (.v 0) (.cons (.bin .Mult (.c (.int 60)) (.v 1)) (.cons (.c (.int 8)) .nil)))) [.sh (.list (iL ns)), .sh (.int i), b2, b3, b4, b5, b6, b7, b8, b9, b10, b11, b12, b13, b14, b15] = some L.d := by
    refine evE_call hl (evL3 rfl ?_ rfl)
    show binD .Mult (.int 60) (.int i) = _
    exact binD_mul 60 i (by omega)
  have ok := rowP_ok L pk hp hL i hi hi2
  have hrl := ok.len
  obtain ⟨c8, c9, q4⟩ := t4 ns i L hL b8 b9 b10 b11 b12 b13 b14 b15
  have q7 := t7 ns i L hL pk hp hi hi2 (.sh (.str (lT L))) c8 c9 b11 b12 b13 b14 b15
  generalize hrow : rowP L pk i = row at ok q7 hrl
  have j1 : evE tb (.me1 "join" (.c (.str "")) (.v 11)) (env ns i L (.sh (.str (lT L))) c8 c9 (.sh (.str (sgT L))) (.sh (rsD row)) b12 b13 b14 b15) = some (.str (rtx row)) := evE_joinR rfl (by omega)
  obtain ⟨ρ', hf, c13, rfl⟩ := forGo_each (t := .n 13) (e := fun d : PyData => d) (body := exL tb (.cons (.ifl "parse_results" (.cons (.v 2) (.cons (.v 13) .nil)) "ParseError" (.cons (.ret (.c (.bool false))) .nil) .nil) .nil))
    (fun pre ρ => ∃ c13 : B, ρ = env ns i L (.sh (.str (lT L))) c8 c9 (.sh (.str (sgT L))) (.sh (rsD row)) (.sh (.list (badR L row ++ badD L))) c13 b14 b15) (badR L row ++ badD L) [] (env ns i L (.sh (.str (lT L))) c8 c9 (.sh (.str (sgT L))) (.sh (rsD row)) (.sh (.list (badR L row ++ badD L))) b13 b14 b15) (fun pre d post ρ hp hI => by
      obtain ⟨c13, rfl⟩ := hI
      have hd : d ∈ badR L row ++ badD L := by rw [show badR L row ++ badD L = pre ++ d :: post from by simpa using hp]; simp
      exact ⟨_, _, rfl, (exL_nx ((exS_ifl tb_laws (sP_parse_results L d hL (bad_ok hL ok d hd)) rfl pe_ok pe_eq).trans rfl)).trans rfl, .sh d, rfl⟩) ⟨_, rfl⟩
  refine ⟨_, _, _, _, _, _, _, _, _, _, _, _, _, _, (exL_nx (exS_set q0 rfl (by simp))).trans ((exL_nx (ρ1 := env ns i L b7 b8 b9 b10 b11 b12 b13 b14 b15) rfl).trans ((exL_nx (exS_set (t2 ns i L hL b7 b8 b9 b10 b11 b12 b13 b14 b15) rfl (by simp))).trans ((exL_nx (exS_set (t3 ns i L hL b8 b9 b10 b11 b12 b13 b14 b15) rfl (by simp))).trans ((exL_nx q4).trans ((exL_nx (exS_if0 (ρ := _) (evE_or (b := false) ?_) rfl)).trans ((exL_nx (exS_set (t6 ns i L (.sh (.str (lT L))) c8 c9 b10 b11 b12 b13 b14 b15) rfl (by simp))).trans ((exL_nx (exS_set q7 rfl (by simp))).trans ((exL_nx (exS_if0 (ρ := _) (evE_or (b := false) ?_) rfl)).trans ((exL_nx (exS_set (t9 ns i L hL row ok (.sh (.str (lT L))) c8 c9 (.sh (.str (sgT L))) b12 b13 b14 b15) rfl (by simp))).trans ((exL_nx (t10 ns i L hL row (.sh (.str (lT L))) c8 c9 (.sh (.str (sgT L))) (.sh (rsD row)) b13 b14 b15)).trans ((exL_nx (s := .fr 12) rfl).trans ((exL_nx ((exS_for (evI_list (xs := badR L row ++ badD L) rfl)).trans ((congrArg (fun l => forGo (.n 13) (exL tb (.cons (.ifl "parse_results" (.cons (.v 2) (.cons (.v 13) .nil)) "ParseError" (.cons (.ret (.c (.bool false))) .nil) .nil) .nil)) l _) (List.map_id' _).symm).trans hf))).trans rfl))))))))))))⟩
  · refine (evOr_cons (b := false) (c := false) (evE_cmp (evE_call (s_format_league L hL) rfl) (y := .str (lT L)) rfl ((cmp_ne (eqD_str (lT_ch hL))).trans rfl)) fun _ => ?_).trans rfl
    exact (evOr_cons (b := false) (c := false) (evE_cmp (evE_call (s_parse_league L hL) rfl) (y := L.d) rfl ((cmp_ne (eqD_lg L)).trans rfl)) fun _ => rfl).trans rfl
  · refine (evOr_cons (b := false) (c := false) (evE_cmp (evE_call (s_format_results L row hL ok) rfl) j1 ((cmp_ne (eqD_str (rtx_ch row))).trans rfl)) fun _ => ?_).trans rfl
    exact (evOr_cons (b := false) (c := false) (evE_cmp (evE_call (s_parse_results L row hL ok) (evL2 rfl j1)) (y := rsD row) rfl ((cmp_ne (eqD_row row)).trans rfl)) fun _ => rfl).trans rfl
def cup : Lg := ⟨3, some 0, [199, 0], [(1, 0)]⟩
theorem cup_ok : cup.Ok := ⟨by decide, by decide, (by intro x h; cases h; decide), by decide, by decide, by decide, by decide, by decide⟩
theorem cup_tx : lT cup = "3/0: 199 0; 1-0" := by decide +kernel
theorem law_true (ns : List Int) (hl : ns.length ≤ 63) : runFn tb d_law [.list (ns.map .int)] = some (.ok (.bool true)) := by
  refine runFn_of rfl ?_
  obtain ⟨ρ', hf, c1, c2, c3, c4, c5, c6, c7, c8, c9, c10, c11, c12, c13, c14, c15, rfl⟩ := forGo_range (t := .n 1) (body := exL tb (.cons (.set 2 .s (.call "_law_league" (.cons (.v 0) (.cons (.bin .Mult (.c (.int 60)) (.v 1)) (.cons (.c (.int 8)) .nil))))) (.cons (.unp (.q (.p (.n 3) (.n 4)) (.n 5) (.n 6)) (.v 2)) (.cons (.set 7 .s (.bin .Add (.bi "str" (.cons (.v 3) .nil)) (.ife (.cmp .IsNot (.v 4) (.c .none)) (.bin .Add (.c (.str "/")) (.bi "str" (.cons (.v 4) .nil))) (.c (.str ""))))) (.cons (.set 7 .s (.bin .Add (.bin .Add (.v 7) (.c (.str ": "))) (.me1 "join" (.c (.str " ")) (.lc (.bi "str" (.cons (.v 14) .nil)) (.n 14) (.e (.v 5)) .no)))) (.cons (.fors (.p (.n 8) (.n 9)) (.e (.v 6)) (.cons (.set 7 .s (.bin .Add (.bin .Add (.bin .Add (.bin .Add (.v 7) (.c (.str "; "))) (.bi "str" (.cons (.v 8) .nil))) (.c (.str "-"))) (.bi "str" (.cons (.v 9) .nil)))) .nil)) (.cons (.ifs (.or (.cons (.cmp .NotEq (.call "format_league" (.cons (.v 2) .nil)) (.v 7)) (.cons (.cmp .NotEq (.call "parse_league" (.cons (.v 7) .nil)) (.v 2)) .nil))) (.cons (.ret (.c (.bool false))) .nil) .nil) (.cons (.set 10 .s (.ife (.cmp .Is (.v 4) (.c .none)) (.c (.str "ah")) (.c (.str "adh")))) (.cons (.set 11 .s (.bi "tuple" (.cons (.lc (.ix (.v 10) (.call "_law_pick" (.cons (.v 0) (.cons (.bin .Add (.bin .Add (.bin .Mult (.c (.int 60)) (.v 1)) (.c (.int 40))) (.v 15)) (.cons (.bi "len" (.cons (.v 10) .nil)) .nil))))) (.n 15) (.r1 (.bi "len" (.cons (.v 6) .nil))) .no) .nil))) (.cons (.ifs (.or (.cons (.cmp .NotEq (.call "format_results" (.cons (.v 2) (.cons (.v 11) .nil))) (.me1 "join" (.c (.str "")) (.v 11))) (.cons (.cmp .NotEq (.call "parse_results" (.cons (.v 2) (.cons (.me1 "join" (.c (.str "")) (.v 11)) .nil))) (.v 11)) .nil))) (.cons (.ret (.c (.bool false))) .nil) .nil) (.cons (.set 12 .o (.lst (.cons (.c .none) (.cons (.c (.int 5)) (.cons (.bin .Add (.me1 "join" (.c (.str "")) (.v 11)) (.c (.str "h"))) (.cons (.bin .Add (.bin .Mult (.c (.str "x")) (.bi "len" (.cons (.v 11) .nil))) (.c (.str "x"))) (.cons (.bin .Add (.c (.str " ")) (.me1 "join" (.c (.str "")) (.v 11))) (.cons (.bin .Add (.v 11) (.tup (.cons (.c (.str "h")) .nil))) .nil)))))))) (.cons (.ifs (.and (.cons (.cmp .Is (.v 4) (.c .none)) (.cons (.cmp .NotEq (.v 6) (.tup .nil)) .nil))) (.cons (.app 12 (.bin .Mult (.c (.str "d")) (.bi "len" (.cons (.v 6) .nil)))) .nil) .nil) (.cons (.fr 12) (.cons (.fors (.n 13) (.e (.v 12)) (.cons (.ifl "parse_results" (.cons (.v 2) (.cons (.v 13) .nil)) "ParseError" (.cons (.ret (.c (.bool false))) .nil) .nil) .nil)) .nil)))))))))))))) (n := 3)
    (fun j ρ => ∃ c1 c2 c3 c4 c5 c6 c7 c8 c9 c10 c11 c12 c13 c14 c15 : B, ρ = [.sh (.list (iL ns)), c1, c2, c3, c4, c5, c6, c7, c8, c9, c10, c11, c12, c13, c14, c15])
    [.sh (.list (iL ns)), .un, .un, .un, .un, .un, .un, .un, .un, .un, .un, .un, .un, .un, .un, .un] (fun j ρ hj hI => by
      obtain ⟨c1, c2, c3, c4, c5, c6, c7, c8, c9, c10, c11, c12, c13, c14, c15, rfl⟩ := hI
      obtain ⟨pk, hp, hlg⟩ := s_pick ns hl
      obtain ⟨L, h1, h2, h5, _, h3⟩ := hlg (60 * (j : Int)) 8 (by omega) (by omega) (by decide) (by decide)
      obtain ⟨d2, d3, d4, d5, d6, d7, d8, d9, d10, d11, d12, d13, d14, d15, hb⟩ := turn_ok pk hp L h1 (j : Int) (by omega) (by omega) h3 c2 c3 c4 c5 c6 c7 c8 c9 c10 c11 c12 c13 c14 c15
      exact ⟨_, _, rfl, hb, _, _, _, _, _, _, _, _, _, _, _, _, _, _, _, rfl⟩) ⟨_, _, _, _, _, _, _, _, _, _, _, _, _, _, _, rfl⟩
  unfold d_law
  refine (exL_nx ((exS_for (evI_r1 (n := 3) rfl (by decide) (by decide))).trans hf)).trans ?_
  obtain ⟨ρ2, hf2, d13, rfl⟩ := forGo_each (t := .n 13) (e := fun d : PyData => d) (body := exL tb (.cons (.ifl "parse_league" (.cons (.v 13) .nil) "ParseError" (.cons (.ret (.c (.bool false))) .nil) .nil) .nil))
    (fun pre ρ => ∃ d13 : B, ρ = [.sh (.list (iL ns)), c1, c2, c3, c4, c5, c6, c7, c8, c9, c10, c11, .sh (.list badT), d13, c14, c15]) badT [] [.sh (.list (iL ns)), c1, c2, c3, c4, c5, c6, c7, c8, c9, c10, c11, .sh (.list badT), c13, c14, c15] (fun pre d post ρ hp hI => by
      obtain ⟨d13, rfl⟩ := hI
      have hd : d ∈ badT := by rw [show badT = pre ++ d :: post from by simpa using hp]; simp
      exact ⟨_, _, rfl, (exL_nx ((exS_ifl tb_laws (sP_parse_league d hd) rfl pe_ok pe_eq).trans rfl)).trans rfl, .sh d, rfl⟩) ⟨_, rfl⟩
  refine (exL_nx (ρ1 := [.sh (.list (iL ns)), c1, c2, c3, c4, c5, c6, c7, c8, c9, c10, c11, .ow (.list (badT.take 11)), c13, c14, c15]) (by kernel_rfl)).trans ?_
  refine (exL_nx (ρ1 := [.sh (.list (iL ns)), c1, c2, c3, c4, c5, c6, c7, c8, c9, c10, c11, .ow (.list (badT.take 18)), c13, c14, c15]) (by kernel_rfl)).trans ?_
  refine (exL_nx (ρ1 := [.sh (.list (iL ns)), c1, c2, c3, c4, c5, c6, c7, c8, c9, c10, c11, .ow (.list (badT.take 25)), c13, c14, c15]) (by kernel_rfl)).trans ?_
  refine (exL_nx (ρ1 := [.sh (.list (iL ns)), c1, c2, c3, c4, c5, c6, c7, c8, c9, c10, c11, .ow (.list (badT.take 32)), c13, c14, c15]) (by kernel_rfl)).trans ?_
  refine (exL_nx (ρ1 := [.sh (.list (iL ns)), c1, c2, c3, c4, c5, c6, c7, c8, c9, c10, c11, .ow (.list badT), c13, c14, c15]) (by kernel_rfl)).trans ?_
  refine (exL_nx (s := .fr 12) (ρ1 := [.sh (.list (iL ns)), c1, c2, c3, c4, c5, c6, c7, c8, c9, c10, c11, .sh (.list badT), c13, c14, c15]) rfl).trans ?_
  refine (exL_nx ((exS_for (evI_list (xs := badT) rfl)).trans ((congrArg (fun l => forGo (.n 13) (exL tb (.cons (.ifl "parse_league" (.cons (.v 13) .nil) "ParseError" (.cons (.ret (.c (.bool false))) .nil) .nil) .nil)) l _) (List.map_id' _).symm).trans hf2))).trans ?_
  have q := s_parse_league cup cup_ok
  rw [cup_tx] at q
  refine exL_rt (exS_ret (evE_cmp (x := cup.d) (y := cup.d) (evE_call q rfl) rfl (cmp_eq (eqD_lg cup))))
end OLlaw
theorem PySem.Challenge.cw_openleague_k67_formats_holds : PySem.Challenge.rw_openleague_k67_formats.Holds :=
  OLlaw.holds OLlaw.law_true

end
