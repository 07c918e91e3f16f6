import PyProof.Rows.All
import Wide.All
import OpenK.AllK
import KE.KTryMore
import PyProof.ExcBaseAll.Exception
import Wide.FinOn
import Lean
import PySem.Challenge.RW_sa0169_02
set_option Elab.async false
set_option maxRecDepth 100000
set_option genSizeOf false

section
open PySem PySem.W PyProof.Rows PySem.Calls
set_option Elab.async false
set_option maxRecDepth 100000
namespace Mine

/-- plain values: what a Python value says, without tokens and addresses -/
inductive PV where
  | none
  | bool (b : Bool)
  | int (i : Int)
  | str (s : List Nat)
  | tup (vs : List PV)
  | ref (i : Nat)
  | st (v : Value)
  deriving Inhabited

/-- the objects that may change -/
inductive KV where
  | s (x : List Nat)
  | i (k : Int)
  | t (ks : List Int)
  deriving DecidableEq, Inhabited

inductive AObj where
  | list (vs : List PV)
  | inst (C : Addr) (fs : Nat → Option PV)
  | exc (C : Addr) (fs : Nat → Option PV) (ch : Bool)
  | dict (kvs : List (KV × PV))
  | bare (C : Addr)
  deriving Inhabited

set_option genInjectivity false in
structure St where
  n : Nat
  at_ : Nat → Option AObj

noncomputable def St.put (σ : St) (i : Nat) (o : AObj) : St := ⟨σ.n, fun j => if j = i then some o else σ.at_ j⟩
noncomputable def St.new (σ : St) (o : AObj) : St := ⟨σ.n + 1, fun j => if j = σ.n then some o else σ.at_ j⟩

inductive Role where
  | free | main (i : Nat) | dict (i : Nat) | frame

set_option genInjectivity false in
structure Gh where
  loc : Nat → Addr
  dloc : Nat → Addr
  role : Addr → Role

set_option genInjectivity false in
structure FrG where
  L : Addr
  m : Str → Option Value
  env : Option Env

set_option genInjectivity false in
structure Cx where
  prog : Program
  w : World
  nm : Nat → Str
  tab : List Str
  htab : tab.length ≤ 1000
  B : Heap
  K : Frag
  os : OsState
  inj : ∀ a b, nm a = nm b → a = b
  hK : K.In B
  lim : B.NoLimit
  hsys : ∃ o, B.get? sysModules = some o
  excC : Addr

noncomputable def Ext (W : Addr → Prop) (h h' : Heap) : Prop := ∀ b o, ¬ W b → h.get? b = some o → h'.get? b = some o

theorem Ext.refl {W : Addr → Prop} (h : Heap) : Ext W h h := fun _ _ _ e => e
theorem Ext.push {W : Addr → Prop} (h : Heap) (o : Obj) : Ext W h (h.push o) := fun _ _ _ e => Heap.get?_push_of_some _ e
theorem Ext.keeps {W : Addr → Prop} {h h' : Heap} (k : ∀ b o, h.get? b = some o → h'.get? b = some o) : Ext W h h' := fun b o _ e => k b o e
theorem Ext.update (h : Heap) (a : Addr) (f : Obj → Obj) : Ext (· = a) h (h.update a f) := fun b o hb e => by rw [Heap.get?_update_other h f (fun q => hb q.symm)]; exact e
theorem Ext.trans {W : Addr → Prop} {h₁ h₂ h₃ : Heap} (x : Ext W h₁ h₂) (y : Ext W h₂ h₃) : Ext W h₁ h₃ := fun b o hb e => y b o hb (x b o hb e)
theorem Ext.mono {W W' : Addr → Prop} {h h' : Heap} (x : Ext W h h') (k : ∀ b, W b → W' b) : Ext W' h h' := fun b o hb e => x b o (fun q => hb (k b q)) e
theorem Ext.of_sameBut {a : Addr} {h h' : Heap} (x : Heap.SameBut a h h') : Ext (· = a) h h' := fun b o hb e => (x.2 b hb).trans e
theorem Ext.of_extBut {a : Addr} {h h' : Heap} (x : Heap.ExtBut a h h') : Ext (· = a) h h' := fun b o hb e => x b o hb e

inductive TupAt (h : Heap) (a : Addr) (xs : List Value) : Prop where
  | mk (o : Obj) (k : Nat) (h1 : h.get? a = some o) (h2 : o.cls = .type "tuple") (h3 : o.data = .seq xs.toArray k)
theorem TupAt.ext {W : Addr → Prop} {h h' : Heap} {a : Addr} {xs : List Value} (t : TupAt h a xs) (x : Ext W h h') (hw : ¬ W a) : TupAt h' a xs := by
  obtain ⟨o, k, h1, h2, h3⟩ := t
  exact ⟨o, k, x a o hw h1, h2, h3⟩
inductive TbAt (h : Heap) (a : Addr) : Prop where
  | mk (o : Obj) (ts : Array Value) (h1 : h.get? a = some o) (h2 : o.cls = .type "traceback") (h3 : o.data = .fields ts) (h4 : 3 < ts.size)

mutual
inductive VRep (h : Heap) (loc : Nat → Addr) (n : Nat) : PV → Value → Prop where
  | none : VRep h loc n .none .none
  | bool (b : Bool) : VRep h loc n (.bool b) (.bool b)
  | int (i : Int) (t : Tok) : VRep h loc n (.int i) (.int i t)
  | str (s : List Nat) (t : Tok) : VRep h loc n (.str s) (.str ⟨s.toArray⟩ t)
  | tup {a : Addr} {vs : List PV} {xs : List Value} (ha : TupAt h a xs) (r : VReps h loc n vs xs) : VRep h loc n (.tup vs) (.ref a)
  | ref (i : Nat) (hi : i < n) : VRep h loc n (.ref i) (.ref (loc i))
  | st (v : Value) (hv : handedIn v = true) : VRep h loc n (.st v) v
inductive VReps (h : Heap) (loc : Nat → Addr) (n : Nat) : List PV → List Value → Prop where
  | nil : VReps h loc n [] []
  | cons {p : PV} {v : Value} {ps : List PV} {vs : List Value} (x : VRep h loc n p v) (r : VReps h loc n ps vs) : VReps h loc n (p :: ps) (v :: vs)
end

theorem VRep.move {h h' : Heap} {loc loc' : Nat → Addr} {n n' : Nat} (ht : ∀ a xs, TupAt h a xs → TupAt h' a xs) (hl : ∀ i, i < n → loc' i = loc i) (hn : n ≤ n') {p : PV} {v : Value} (r : VRep h loc n p v) : VRep h' loc' n' p v :=
  VRep.rec (motive_1 := fun p v _ => VRep h' loc' n' p v) (motive_2 := fun p v _ => VReps h' loc' n' p v) .none .bool .int .str (fun ha _ ih => .tup (ht _ _ ha) ih) (fun i hi => hl i hi ▸ .ref i (Nat.lt_of_lt_of_le hi hn)) .st .nil (fun _ _ x y => .cons x y) r
theorem VReps.move {h h' : Heap} {loc loc' : Nat → Addr} {n n' : Nat} (ht : ∀ a xs, TupAt h a xs → TupAt h' a xs) (hl : ∀ i, i < n → loc' i = loc i) (hn : n ≤ n') {p : List PV} {v : List Value} (r : VReps h loc n p v) : VReps h' loc' n' p v :=
  VReps.rec (motive_1 := fun p v _ => VRep h' loc' n' p v) (motive_2 := fun p v _ => VReps h' loc' n' p v) .none .bool .int .str (fun ha _ ih => .tup (ht _ _ ha) ih) (fun i hi => hl i hi ▸ .ref i (Nat.lt_of_lt_of_le hi hn)) .st .nil (fun _ _ x y => .cons x y) r

section
variable {h : Heap} {loc : Nat → Addr} {n : Nat}
@[elab_as_elim] theorem VReps.ind {C : List PV → List Value → Prop} {ps : List PV} {vs : List Value} (r : VReps h loc n ps vs) (h0 : C [] []) (h1 : ∀ p v ps vs, VRep h loc n p v → VReps h loc n ps vs → C ps vs → C (p :: ps) (v :: vs)) : C ps vs :=
  VReps.rec (motive_1 := fun _ _ _ => True) (motive_2 := fun p v _ => C p v) trivial (fun _ => trivial) (fun _ _ => trivial) (fun _ _ => trivial) (fun _ _ _ => trivial) (fun _ _ => trivial) (fun _ _ => trivial) h0 (fun x r _ ih => h1 _ _ _ _ x r ih) r
/-- an inversion that keeps the goal small -/
@[elab_as_elim] theorem VReps.consE {p : PV} {ps : List PV} {C : List Value → Prop} {vs : List Value} (r : VReps h loc n (p :: ps) vs) (k : ∀ v vs, VRep h loc n p v → VReps h loc n ps vs → C (v :: vs)) : C vs := by
  cases r with | cons x r => exact k _ _ x r
@[elab_as_elim] theorem VReps.nilE {C : List Value → Prop} {vs : List Value} (r : VReps h loc n [] vs) (k : C []) : C vs := by
  cases r; exact k
theorem VReps.length {ps : List PV} {vs : List Value} (r : VReps h loc n ps vs) : vs.length = ps.length := r.ind rfl fun _ _ _ _ _ _ ih => congrArg (· + 1) ih
theorem VReps.append {ps qs : List PV} {vs ws : List Value} (r : VReps h loc n ps vs) (r' : VReps h loc n qs ws) : VReps h loc n (ps ++ qs) (vs ++ ws) := VReps.ind (C := fun ps vs => VReps h loc n (ps ++ qs) (vs ++ ws)) r r' fun _ _ _ _ x _ ih => .cons x ih
theorem VReps.get {ps : List PV} {vs : List Value} (r : VReps h loc n ps vs) : ∀ {i : Nat} {p : PV}, ps[i]? = some p → ∃ v, vs[i]? = some v ∧ VRep h loc n p v :=
  VReps.ind (C := fun ps vs => ∀ {i : Nat} {p : PV}, ps[i]? = some p → ∃ v, vs[i]? = some v ∧ VRep h loc n p v) r (fun e => (nomatch e)) fun _ v _ _ x _ ih i _ e => by
    cases i with
    | zero => exact ⟨v, rfl, Option.some.inj e ▸ x⟩
    | succ i => exact ih e
theorem VReps.drop {ps : List PV} {vs : List Value} (r : VReps h loc n ps vs) : ∀ k : Nat, VReps h loc n (ps.drop k) (vs.drop k) :=
  VReps.ind (C := fun ps vs => ∀ k, VReps h loc n (List.drop k ps) (List.drop k vs)) r (fun k => by rw [List.drop_nil, List.drop_nil]; exact .nil) fun _ _ _ _ x r ih k => Nat.casesOn (motive := fun k => VReps h loc n (List.drop k (_ :: _)) (List.drop k (_ :: _))) k (.cons x r) ih
theorem VReps.take {ps : List PV} {vs : List Value} (r : VReps h loc n ps vs) : ∀ k : Nat, VReps h loc n (ps.take k) (vs.take k) :=
  VReps.ind (C := fun ps vs => ∀ k, VReps h loc n (List.take k ps) (List.take k vs)) r (fun k => by rw [List.take_nil, List.take_nil]; exact .nil) fun _ _ _ _ x r ih k => Nat.casesOn (motive := fun k => VReps h loc n (List.take k (_ :: _)) (List.take k (_ :: _))) k .nil fun k => .cons x (ih k)
theorem VReps.snoc {ps : List PV} {vs : List Value} (r : VReps h loc n ps vs) {p : PV} {v : Value} (x : VRep h loc n p v) : VReps h loc n (ps ++ [p]) (vs ++ [v]) := r.append (.cons x .nil)
theorem VReps.reverse {ps : List PV} {vs : List Value} (r : VReps h loc n ps vs) : VReps h loc n ps.reverse vs.reverse :=
  VReps.ind (C := fun ps vs => VReps h loc n ps.reverse vs.reverse) r .nil fun _ _ _ _ x _ ih => by rw [List.reverse_cons, List.reverse_cons]; exact ih.snoc x
end

/-- the fields of an instance, in a namespace -/
noncomputable def FRep (c : Cx) (h : Heap) (loc : Nat → Addr) (n : Nat) (fs : Nat → Option PV) (m : Str → Option Value) : Prop :=
  ∀ k, match fs k with
    | some p => ∃ v, m (c.nm k) = some v ∧ VRep h loc n p v
    | none => m (c.nm k) = none

theorem FRep.move {c : Cx} {h h' : Heap} {loc loc' : Nat → Addr} {n n' : Nat} (ht : ∀ a xs, TupAt h a xs → TupAt h' a xs) (hl : ∀ i, i < n → loc' i = loc i) (hn : n ≤ n')
    {fs : Nat → Option PV} {m : Str → Option Value} (f : FRep c h loc n fs m) : FRep c h' loc' n' fs m := fun k => by
  have := f k
  split at this
  · obtain ⟨v, h1, h2⟩ := this; exact ⟨v, h1, h2.move ht hl hn⟩
  · exact this

/-- a dict: all its keys of one kind -/
inductive DRep (c : Cx) (h : Heap) (a : Addr) : List (KV × Value) → Prop where
  | s (l : List (Str × Value)) (hd : h.DictOf (strKind c.prog c.w) a l) : DRep c h a (l.map fun x => (KV.s x.1.cps.toList, x.2))
  | i (l : List (Int × Value)) (hd : h.DictOf (intKind c.prog c.w) a l) : DRep c h a (l.map fun x => (KV.i x.1, x.2))
  | t (l : List (List Int × Addr × Value)) (hd : h.DictOfH (tupleKind (intKind c.prog c.w)) a l) : DRep c h a (l.map fun x => (KV.t x.1, x.2.2))

noncomputable def NsW (c : Cx) (h : Heap) (a : Addr) (m : Str → Option Value) : Prop := h.Ns1 a m ∧ Within m c.tab

inductive LstR (g : Gh) (h : Heap) (n i : Nat) (vs : List PV) : Prop where
  | mk (h1 : vs.length ≤ 2000000) (xs : List Value) (k : Nat) (h2 : IsL h (g.loc i) xs.toArray k) (h3 : VReps h g.loc n vs xs)
inductive InstR (c : Cx) (g : Gh) (h : Heap) (n i : Nat) (C : Addr) (fs : Nat → Option PV) : Prop where
  | mk (h0 : g.role (g.dloc i) = .dict i) (o : Obj) (m : Str → Option Value) (h1 : h.get? (g.loc i) = some o) (h2 : o.cls = .ref C) (h3 : o.dict = some (g.dloc i)) (h4 : o.data = .plain) (h5 : NsW c h (g.dloc i) m) (h6 : FRep c h g.loc n fs m)
inductive ExcR (c : Cx) (g : Gh) (h : Heap) (n i : Nat) (C : Addr) (fs : Nat → Option PV) (ch : Bool) : Prop where
  | mk (h0 : g.role (g.dloc i) = .dict i) (o : Obj) (m : Str → Option Value) (vs : Array Value) (h1 : h.get? (g.loc i) = some o) (h2 : o.cls = .ref C) (h3 : o.dict = some (g.dloc i)) (h4 : o.data = .fields vs) (h5 : 4 < vs.size)
      (h6 : vs[1]? = some .none ∨ ∃ T, vs[1]? = some (.ref T) ∧ TbAt h T ∧ c.B.get? T = none) (h7 : ch = false → vs[2]? = some .none) (h8 : NsW c h (g.dloc i) m) (h9 : FRep c h g.loc n fs m)
inductive DictR (c : Cx) (g : Gh) (h : Heap) (n i : Nat) (kvs : List (KV × PV)) : Prop where
  | mk (o : Obj) (es : Array DictEntry) (ep : Nat) (ws : List (KV × Value)) (h1 : h.get? (g.loc i) = some o) (h2 : o.cls = .type "dict") (h3 : o.data = .dict es ep) (h4 : DRep c h (g.loc i) ws) (h5 : ws.map (·.1) = kvs.map (·.1)) (h6 : VReps h g.loc n (kvs.map (·.2)) (ws.map (·.2)))
inductive BareR (g : Gh) (h : Heap) (i : Nat) (C : Addr) : Prop where
  | mk (o : Obj) (vs : Array Value) (h1 : h.get? (g.loc i) = some o) (h2 : o.cls = .ref C) (h3 : o.dict = none) (h4 : o.data = .fields vs) (h5 : 4 < vs.size) (h6 : vs[1]? = some .none) (h7 : vs[2]? = some .none)
noncomputable def OBody (c : Cx) (g : Gh) (h : Heap) (n i : Nat) : AObj → Prop
  | .list vs => LstR g h n i vs
  | .inst C fs => InstR c g h n i C fs
  | .exc C fs ch => ExcR c g h n i C fs ch
  | .dict kvs => DictR c g h n i kvs
  | .bare C => BareR g h i C
structure ORep (c : Cx) (g : Gh) (h : Heap) (n i : Nat) (o : AObj) : Prop where
  main : g.role (g.loc i) = .main i
  body : OBody c g h n i o

noncomputable def hasD : AObj → Bool
  | .inst .. | .exc .. => true
  | _ => false

noncomputable def heldKind (o : Obj) : Bool := (match o.cls with
  | .type t => t != "list" && t != "dict" && t != "frame" && t != "traceback"
  | _ => false) && (match o.data with | .dict .. => false | _ => true)

set_option genInjectivity false in
structure Rep (c : Cx) (g : Gh) (held : List (Addr × Obj)) (fr : List FrG) (σ : St) (s : Shared) : Prop where
  stays : c.B.StaysIn s.heap
  gens : s.gens = #[]
  os : s.os = c.os
  frs : ∀ f ∈ fr, s.heap.Ns f.L f.m ∧ g.role f.L = .frame ∧ ∀ env, f.env = some env → env.frame = some f.L ∧ env.scope.kind ≠ .module
  nd : (fr.map (·.L)).Nodup
  held : ∀ p ∈ held, s.heap.get? p.1 = some p.2 ∧ heldKind p.2 = true ∧ g.role p.1 = .free
  objs : ∀ i o, σ.at_ i = some o → i < σ.n ∧ ORep c g s.heap σ.n i o
  rlt : ∀ a, g.role a ≠ .free → ∃ o, s.heap.get? a = some o
  rB : ∀ a, g.role a ≠ .free → c.B.get? a = none

set_option genInjectivity false in
structure Le (g : Gh) (n : Nat) (h : Heap) (g' : Gh) (n' : Nat) (h' : Heap) : Prop where
  tup : ∀ a xs, TupAt h a xs → TupAt h' a xs
  loc : ∀ i, i < n → g'.loc i = g.loc i
  n : n ≤ n'
theorem Le.refl (g : Gh) (n : Nat) (h : Heap) : Le g n h g n h := ⟨fun _ _ t => t, fun _ _ => rfl, Nat.le_refl _⟩
theorem Le.trans {g g' g'' : Gh} {n n' n'' : Nat} {h h' h'' : Heap} (x : Le g n h g' n' h') (y : Le g' n' h' g'' n'' h'') : Le g n h g'' n'' h'' :=
  ⟨fun a xs t => y.tup a xs (x.tup a xs t), fun i hi => (y.loc i (Nat.lt_of_lt_of_le hi x.n)).trans (x.loc i hi), Nat.le_trans x.n y.n⟩
theorem Le.rep {g g' : Gh} {n n' : Nat} {h h' : Heap} (x : Le g n h g' n' h') {p : PV} {v : Value} (r : VRep h g.loc n p v) : VRep h' g'.loc n' p v := r.move x.tup x.loc x.n
theorem Le.reps {g g' : Gh} {n n' : Nat} {h h' : Heap} (x : Le g n h g' n' h') {p : List PV} {v : List Value} (r : VReps h g.loc n p v) : VReps h' g'.loc n' p v := r.move x.tup x.loc x.n

theorem Ext.tups {W : Addr → Prop} {h h' : Heap} (x : Ext W h h') (hw : ∀ a xs, TupAt h a xs → ¬ W a) : ∀ a xs, TupAt h a xs → TupAt h' a xs := fun a xs t => t.ext x (hw a xs t)
theorem Ext.ns {W : Addr → Prop} {h h' : Heap} (x : Ext W h h') {a : Addr} {m : Str → Option Value} (hw : ¬ W a) (hn : h.Ns a m) : h'.Ns a m :=
  let ⟨o, es, ep, ho, r⟩ := hn; ⟨o, es, ep, x a o hw ho, r⟩

theorem NsW.ext {c : Cx} {W : Addr → Prop} {h h' : Heap} {a : Addr} {m : Str → Option Value} (n : NsW c h a m) (x : Ext W h h') (hw : ¬ W a) : NsW c h' a m := ⟨n.1.at fun o e => x a o hw e, n.2⟩

theorem DRep.ext {c : Cx} {W : Addr → Prop} {h h' : Heap} {a : Addr} {l : List (KV × Value)} (d : DRep c h a l) (x : Ext W h h') (hw : ∀ a xs, TupAt h a xs → ¬ W a) (ha : ¬ W a) : DRep c h' a l :=
  d.casesOn (fun l hd => .s l (hd.at fun _ => x _ _ ha)) (fun l hd => .i l (hd.at fun _ => x _ _ ha)) fun l hd => .t l (hd.imp fun o => Exists.imp fun es => Exists.imp fun ep z => ⟨x _ _ ha z.1, z.2.1, z.2.2.1, z.2.2.2.1,
    fun y hy => (z.2.2.2.2.1 y hy).imp fun o' => Exists.imp fun its => Exists.imp fun k q => ⟨x _ _ (hw _ its.toList ⟨o', k, q.1, q.2.1, by simpa using q.2.2.1⟩) q.1, q.2⟩, z.2.2.2.2.2⟩)

theorem ORep.ext {c : Cx} {W : Addr → Prop} {g g' : Gh} {h h' : Heap} {n n' i : Nat} {o : AObj} (r : ORep c g h n i o) (x : Ext W h h') (hw : ∀ a xs, TupAt h a xs → ¬ W a) (htb : ∀ T, TbAt h T → TbAt h' T)
    (h1 : ¬ W (g.loc i)) (h2 : hasD o = true → ¬ W (g.dloc i)) (hi : i < n) (hl : ∀ j, j < n → g'.loc j = g.loc j) (hd : hasD o = true → g'.dloc i = g.dloc i) (hr : ∀ a, ¬ W a → g.role a ≠ .free → g'.role a = g.role a) (hn : n ≤ n') : ORep c g' h' n' i o := by
  have ht := x.tups hw
  have el := hl i hi
  have dd : ∀ d, g.role d = .dict i → ¬ W d → g'.dloc i = d → g'.role (g'.dloc i) = .dict i := fun d e w q => by rw [q, hr _ w (by rw [e]; exact Role.noConfusion)]; exact e
  refine ⟨by rw [el, hr _ h1 (by rw [r.main]; exact Role.noConfusion)]; exact r.main, ?_⟩
  have b := r.body
  clear r
  cases o with
  | list vs => exact b.casesOn fun a2 xs k b1 b4 => ⟨a2, xs, k, by rw [el]; exact x _ _ h1 b1, b4.move ht hl hn⟩
  | inst C fs => exact b.casesOn fun a2 o m b1 b2 b3 b4 b5 b6 => ⟨dd _ a2 (h2 rfl) (hd rfl), o, m, by rw [el]; exact x _ _ h1 b1, b2, b3.trans (congrArg some (hd rfl).symm), b4, by rw [hd rfl]; exact b5.ext x (h2 rfl), b6.move ht hl hn⟩
  | exc C fs ch => exact b.casesOn fun a2 o m vs b1 b2 b3 b4 b5 b6 b7 b8 b9 => ⟨dd _ a2 (h2 rfl) (hd rfl), o, m, vs, by rw [el]; exact x _ _ h1 b1, b2, b3.trans (congrArg some (hd rfl).symm), b4, b5, b6.imp id (Exists.imp fun T t => ⟨t.1, htb T t.2.1, t.2.2⟩), b7, by rw [hd rfl]; exact b8.ext x (h2 rfl), b9.move ht hl hn⟩
  | dict kvs => exact b.casesOn fun o es ep ws b1 b2 b3 b4 b5 b7 => ⟨o, es, ep, ws, by rw [el]; exact x _ _ h1 b1, b2, b3, by rw [el]; exact b4.ext x hw h1, b5, b7.move ht hl hn⟩
  | bare C => exact b.casesOn fun o vs b1 b2 b3 b4 b5 b6 b7 => ⟨o, vs, by rw [el]; exact x _ _ h1 b1, b2, b3, b4, b5, b6, b7⟩

/-- one change of the heap -/
theorem Rep.step' {c : Cx} {g g' : Gh} {held held' : List (Addr × Obj)} {fr fr' : List FrG} {σ σ' : St} {s s' : Shared} {W : Addr → Prop} (R : Rep c g held fr σ s) (x : Ext W s.heap s'.heap)
    (hg : s'.gens = s.gens) (ho : s'.os = s.os)
    (hB : ∀ a, W a → c.B.get? a = none) (hw : ∀ a xs, TupAt s.heap a xs → ¬ W a) (htb : ∀ T, TbAt s.heap T → TbAt s'.heap T)
    (hl : ∀ j, j < σ.n → g'.loc j = g.loc j) (hd : ∀ j o, j < σ.n → σ'.at_ j = some o → hasD o = true → σ.at_ j = some o → g'.dloc j = g.dloc j) (hr : ∀ a, ¬ W a → g.role a ≠ .free → g'.role a = g.role a) (hn : σ.n ≤ σ'.n)
    (hrW : ∀ a, W a → g'.role a ≠ .free → ∃ o, s'.heap.get? a = some o) (hrn : ∀ a, g'.role a ≠ .free → g.role a ≠ .free ∨ (s.heap.get? a = none ∧ ∃ o, s'.heap.get? a = some o))
    (hfr : ∀ f ∈ fr', (∃ f' ∈ fr, f' = f ∧ ¬ W f.L) ∨ (s'.heap.Ns f.L f.m ∧ g'.role f.L = .frame ∧ ∀ env, f.env = some env → env.frame = some f.L ∧ env.scope.kind ≠ .module)) (hnd : (fr'.map (·.L)).Nodup)
    (hheld : ∀ p ∈ held', (p ∈ held ∧ ¬ W p.1) ∨ (s'.heap.get? p.1 = some p.2 ∧ heldKind p.2 = true ∧ g'.role p.1 = .free))
    (hob : ∀ i o, σ'.at_ i = some o → (σ.at_ i = some o ∧ ¬ W (g.loc i) ∧ (hasD o = true → ¬ W (g.dloc i))) ∨ (i < σ'.n ∧ ORep c g' s'.heap σ'.n i o)) :
    Rep c g' held' fr' σ' s' ∧ Le g σ.n s.heap g' σ'.n s'.heap := by
  refine ⟨⟨fun b o e => ?_, hg.trans R.gens, ho.trans R.os, fun f hf => ?_, hnd, fun p hp => ?_, fun i o e => ?_, fun a ha => ?_, fun a ha => ?_⟩, ⟨x.tups hw, hl, hn⟩⟩
  · exact x b o (fun q => by rw [hB b q] at e; cases e) (R.stays b o e)
  · rcases hfr f hf with ⟨f', hf', rfl, q⟩ | q
    · obtain ⟨a1, a2, a3⟩ := R.frs f' hf'
      exact ⟨x.ns q a1, by rw [hr _ q (by rw [a2]; simp)]; exact a2, a3⟩
    · exact q
  · rcases hheld p hp with ⟨q1, q2⟩ | q
    · obtain ⟨z1, z2, z3⟩ := R.held p q1
      refine ⟨x _ _ q2 z1, z2, ?_⟩
      cases hz : g'.role p.1 with
      | free => rfl
      | _ =>
        rcases hrn p.1 (by rw [hz]; simp) with w | w
        · exact absurd z3 w
        · rw [w.1] at z1; cases z1
    · exact q
  · rcases hob i o e with ⟨q1, q2, q3⟩ | q
    · obtain ⟨b1, b2⟩ := R.objs i o q1
      exact ⟨Nat.lt_of_lt_of_le b1 hn, b2.ext x hw htb q2 q3 b1 hl (fun q4 => hd i o b1 e q4 q1) hr hn⟩
    · exact q
  · rcases hrn a ha with q | q
    · by_cases w : W a
      · exact hrW a w ha
      · obtain ⟨o, e⟩ := R.rlt a q; exact ⟨o, x a o w e⟩
    · exact q.2
  · rcases hrn a ha with q | q
    · exact R.rB a q
    · cases e : c.B.get? a with
      | none => rfl
      | some o => rw [R.stays a o e] at q; cases q.1

theorem Rep.step {c : Cx} {g g' : Gh} {held held' : List (Addr × Obj)} {fr fr' : List FrG} {σ σ' : St} {s s' : Shared} {W : Addr → Prop} (R : Rep c g held fr σ s) (x : Ext W s.heap s'.heap)
    (hg : s'.gens = s.gens) (ho : s'.os = s.os)
    (hB : ∀ a, W a → c.B.get? a = none) (hw : ∀ a xs, TupAt s.heap a xs → ¬ W a) (htb : ∀ T, TbAt s.heap T → TbAt s'.heap T)
    (hl : ∀ j, j < σ.n → g'.loc j = g.loc j) (hd : ∀ j, j < σ.n → g'.dloc j = g.dloc j) (hr : ∀ a, ¬ W a → g.role a ≠ .free → g'.role a = g.role a) (hn : σ.n ≤ σ'.n)
    (hrW : ∀ a, W a → g'.role a ≠ .free → ∃ o, s'.heap.get? a = some o) (hrn : ∀ a, g'.role a ≠ .free → g.role a ≠ .free ∨ (s.heap.get? a = none ∧ ∃ o, s'.heap.get? a = some o))
    (hfr : ∀ f ∈ fr', (∃ f' ∈ fr, f' = f ∧ ¬ W f.L) ∨ (s'.heap.Ns f.L f.m ∧ g'.role f.L = .frame ∧ ∀ env, f.env = some env → env.frame = some f.L ∧ env.scope.kind ≠ .module)) (hnd : (fr'.map (·.L)).Nodup)
    (hheld : ∀ p ∈ held', (p ∈ held ∧ ¬ W p.1) ∨ (s'.heap.get? p.1 = some p.2 ∧ heldKind p.2 = true ∧ g'.role p.1 = .free))
    (hob : ∀ i o, σ'.at_ i = some o → (σ.at_ i = some o ∧ ¬ W (g.loc i) ∧ (hasD o = true → ¬ W (g.dloc i))) ∨ (i < σ'.n ∧ ORep c g' s'.heap σ'.n i o)) :
    Rep c g' held' fr' σ' s' ∧ Le g σ.n s.heap g' σ'.n s'.heap :=
  Rep.step' R x hg ho hB hw htb hl (fun j _ hj _ _ _ => hd j hj) hr hn hrW hrn hfr hnd hheld hob

end Mine
end

section
open PySem PySem.W PyProof.Rows PySem.Calls
set_option Elab.async false
set_option linter.unusedVariables false
set_option maxRecDepth 100000
namespace Mine

section
variable {c : Cx} {g : Gh} {held : List (Addr × Obj)} {fr : List FrG} {σ : St} {s s' : Shared}

theorem heldKind_cls {o : Obj} (h : heldKind o = true) : o.cls ≠ .type "list" ∧ o.cls ≠ .type "dict" ∧ o.cls ≠ .type "frame" ∧ o.cls ≠ .type "traceback" ∧ (∀ C, o.cls ≠ .ref C) ∧ ∀ es ep, o.data ≠ .dict es ep := by
  obtain ⟨h1, h2⟩ := Bool.and_eq_true_iff.mp h
  clear h
  generalize o.cls = k at h1 ⊢
  generalize o.data = d at h2 ⊢
  refine ⟨?_, ?_, ?_, ?_, ?_, ?_⟩
  · rintro rfl; cases h1
  · rintro rfl; cases h1
  · rintro rfl; cases h1
  · rintro rfl; cases h1
  · rintro C rfl; cases h1
  · rintro es ep rfl; cases h2

theorem ORep.cls {n i : Nat} {h : Heap} {o : AObj} (r : ORep c g h n i o) : ∃ ob, h.get? (g.loc i) = some ob ∧ (ob.cls = .type "list" ∨ ob.cls = .type "dict" ∨ ∃ C, ob.cls = .ref C) := by
  have b := r.body
  clear r
  cases o with
  | list vs => exact b.casesOn fun _ xs k b1 _ => ⟨_, b1, .inl rfl⟩
  | inst C fs => exact b.casesOn fun _ o m b1 b2 _ _ _ _ => ⟨o, b1, .inr (.inr ⟨C, b2⟩)⟩
  | exc C fs ch => exact b.casesOn fun _ o m vs b1 b2 _ _ _ _ _ _ _ => ⟨o, b1, .inr (.inr ⟨C, b2⟩)⟩
  | dict kvs => exact b.casesOn fun o _ _ _ b1 b2 _ _ _ _ => ⟨o, b1, .inr (.inl b2)⟩
  | bare C => exact b.casesOn fun o vs b1 b2 _ _ _ _ _ => ⟨o, b1, .inr (.inr ⟨C, b2⟩)⟩
theorem ORep.dnode {n i : Nat} {h : Heap} {o : AObj} (r : ORep c g h n i o) (hd : hasD o = true) : g.role (g.dloc i) = .dict i ∧ ∃ m, h.Ns (g.dloc i) m := by
  have b := r.body
  clear r
  cases o with
  | inst C fs => exact b.casesOn fun a _ m _ _ _ _ b5 _ => ⟨a, m, b5.1.ns⟩
  | exc C fs ch => exact b.casesOn fun a _ m _ _ _ _ _ _ _ _ b5 _ => ⟨a, m, b5.1.ns⟩
  | _ => exact Bool.noConfusion hd

theorem TbAt.at {h h' : Heap} {T : Addr} (t : TbAt h T) (k : ∀ o, h.get? T = some o → h'.get? T = some o) : TbAt h' T := t.casesOn fun o ts h1 h2 h3 h4 => ⟨o, ts, k o h1, h2, h3, h4⟩
theorem not_tup {h : Heap} {a : Addr} {o : Obj} (e : h.get? a = some o) (ho : o.cls ≠ .type "tuple") : ∀ b xs, TupAt h b xs → ¬ b = a := fun b xs t q =>
  t.casesOn fun o' k h1 h2 _ => ho (Option.some.inj (e.symm.trans (q ▸ h1)) ▸ h2)
theorem keep_tb {h h' : Heap} {a : Addr} {o : Obj} (e : h.get? a = some o) (ho : o.cls ≠ .type "traceback") (x : Ext (· = a) h h') : ∀ T, TbAt h T → TbAt h' T := fun T t =>
  t.at fun o' e' => x _ _ (fun q : T = a => t.casesOn fun o' k h1 h2 _ _ => ho (Option.some.inj (e.symm.trans (q ▸ h1)) ▸ h2)) e'
theorem cls_not {k : Value} {n : Str} {t : String} (h : k = .type "list" ∨ k = .type "dict" ∨ ∃ C, k = .ref C) (h1 : t ≠ "list") (h2 : t ≠ "dict") : k ≠ .type t := fun e =>
  h.elim (fun q => h1 (Value.type.inj (e.symm.trans q))) fun h => h.elim (fun q => h2 (Value.type.inj (e.symm.trans q))) fun ⟨_, q⟩ => Value.noConfusion (e.symm.trans q)
theorem Heap.Ns.obj {h : Heap} {a : Addr} {m : Str → Option Value} (n : h.Ns a m) : ∃ o es ep, h.get? a = some o ∧ o.data = .dict es ep := n.imp fun _ => Exists.imp fun _ => Exists.imp fun _ z => ⟨z.1, z.2.1⟩
theorem Heap.Ns.notTup {h : Heap} {a : Addr} {m : Str → Option Value} (n : h.Ns a m) : ∀ b xs, TupAt h b xs → ¬ b = a := fun b xs t q =>
  n.elim fun o z => z.elim fun _ z => z.elim fun _ z => t.casesOn fun o' k h1 _ h3 => Data.noConfusion (z.2.1.symm.trans (Option.some.inj ((q ▸ h1).symm.trans z.1) ▸ h3))
theorem Heap.Ns.keepTb {h h' : Heap} {a : Addr} {m : Str → Option Value} (n : h.Ns a m) (x : Ext (· = a) h h') : ∀ T, TbAt h T → TbAt h' T := fun T t =>
  t.at fun o' e' => x _ _ (fun q : T = a => n.elim fun o z => z.elim fun _ z => z.elim fun _ z => t.casesOn fun o' k h1 _ h3 _ => Data.noConfusion (z.2.1.symm.trans (Option.some.inj ((q ▸ h1).symm.trans z.1) ▸ h3))) e'
/-- what is held lies at no namespace, and at no object of the store -/
theorem held_ns {h : Heap} {a : Addr} {m : Str → Option Value} {o : Obj} (n : h.Ns a m) (e : h.get? a = some o) (hk : heldKind o = true) : False :=
  n.elim fun o z => z.elim fun _ z => z.elim fun _ z => (heldKind_cls hk).2.2.2.2.2 _ _ (Option.some.inj (z.1.symm.trans e) ▸ z.2.1)
theorem held_obj {h : Heap} {i n : Nat} {ob : AObj} {o : Obj} (r : ORep c g h n i ob) (e : h.get? (g.loc i) = some o) (hk : heldKind o = true) : False :=
  r.cls.elim fun o' z => have q := heldKind_cls hk; have e' := Option.some.inj (z.1.symm.trans e); z.2.elim (fun w => q.1 (e' ▸ w)) fun w => w.elim (fun w => q.2.1 (e' ▸ w)) fun ⟨C, w⟩ => q.2.2.2.2.1 C (e' ▸ w)
theorem put_some {i j : Nat} {o o' : AObj} (e : (σ.put i o).at_ j = some o') : (j = i ∧ o = o') ∨ (j ≠ i ∧ σ.at_ j = some o') := by
  by_cases h : j = i
  · exact .inl ⟨h, Option.some.inj ((if_pos h).symm.trans e)⟩
  · exact .inr ⟨h, (if_neg h).symm.trans e⟩
theorem new_some {j : Nat} {o o' : AObj} (e : (σ.new o).at_ j = some o') : (j = σ.n ∧ o = o') ∨ (j ≠ σ.n ∧ σ.at_ j = some o') := by
  by_cases h : j = σ.n
  · exact .inl ⟨h, Option.some.inj ((if_pos h).symm.trans e)⟩
  · exact .inr ⟨h, (if_neg h).symm.trans e⟩

/-- nothing is changed, things may be new -/
theorem Rep.keeps (R : Rep c g held fr σ s) (k : ∀ b o, s.heap.get? b = some o → s'.heap.get? b = some o) (hg : s'.gens = s.gens) (ho : s'.os = s.os) :
    Rep c g held fr σ s' ∧ Le g σ.n s.heap g σ.n s'.heap :=
  R.step (W := fun _ => False) (g' := g) (Ext.keeps k) hg ho (fun _ h => h.elim) (fun _ _ _ h => h) (fun T t => t.at fun o => k _ o) (fun _ _ => rfl) (fun _ _ => rfl) (fun _ _ _ => rfl) (Nat.le_refl _)
    (fun _ h => h.elim) (fun _ h => .inl h) (fun f hf => .inl ⟨f, hf, rfl, fun h => h⟩) R.nd (fun p hp => .inl ⟨hp, fun h => h⟩) (fun i o e => .inl ⟨e, fun h => h, fun _ h => h⟩)
theorem Rep.same (R : Rep c g held fr σ s) (hh : s'.heap = s.heap) (hg : s'.gens = s.gens) (ho : s'.os = s.os) : Rep c g held fr σ s' :=
  (R.keeps (by rw [hh]; exact fun _ _ e => e) hg ho).1
theorem Rep.tok (R : Rep c g held fr σ s) (k : Nat) : Rep c g held fr σ { s with toks := k } := R.same rfl rfl rfl
theorem Rep.push (R : Rep c g held fr σ s) (o : Obj) : Rep c g held fr σ { s with heap := s.heap.push o } ∧ Le g σ.n s.heap g σ.n (s.heap.push o) :=
  R.keeps (s' := { s with heap := s.heap.push o }) (fun _ _ e => Heap.get?_push_of_some _ e) rfl rfl

/-- a thing is held -/
theorem Rep.hold (R : Rep c g held fr σ s) {a : Addr} {o : Obj} (h : s.heap.get? a = some o) (hk : heldKind o = true) (hr : g.role a = .free) : Rep c g ((a, o) :: held) fr σ s :=
  { R with held := fun p hp => by rcases List.mem_cons.mp hp with rfl | hp; exact ⟨h, hk, hr⟩; exact R.held p hp }
theorem Rep.freeOf (R : Rep c g held fr σ s) {a : Addr} (h : s.heap.get? a = none) : g.role a = .free := by
  cases hz : g.role a with
  | free => rfl
  | _ => obtain ⟨o, e⟩ := R.rlt a (by rw [hz]; simp); rw [h] at e; cases e
theorem Rep.drop (R : Rep c g held fr σ s) {held' : List (Addr × Obj)} (h : ∀ p ∈ held', p ∈ held) : Rep c g held' fr σ s :=
  { R with held := fun p hp => R.held p (h p hp) }
theorem Rep.pop {f : FrG} (R : Rep c g held (f :: fr) σ s) : Rep c g held fr σ s :=
  { R with frs := fun f hf => R.frs f (.tail _ hf), nd := (List.nodup_cons.mp R.nd).2 }

/-- a held thing is changed, or let go -/
theorem Rep.setHelds {a : Addr} {o : Obj} {held' : List (Addr × Obj)} (R : Rep c g ((a, o) :: held) fr σ s) (x : Ext (· = a) s.heap s'.heap) (hnd : ∀ p ∈ held, p.1 ≠ a) (hB : c.B.get? a = none) (ht : o.cls ≠ .type "tuple")
    (hh : ∀ p ∈ held', p ∈ held ∨ (p.1 = a ∧ s'.heap.get? a = some p.2 ∧ heldKind p.2 = true))
    (hg : s'.gens = s.gens) (ho : s'.os = s.os) : Rep c g held' fr σ s' ∧ Le g σ.n s.heap g σ.n s'.heap :=
  have h := R.held (a, o) (.head _)
  have q := heldKind_cls h.2.1
  have ne : ∀ b, g.role b ≠ .free → b ≠ a := fun b hb e => hb (by rw [e]; exact h.2.2)
  R.step (W := (· = a)) (g' := g) x hg ho (fun b e => by rw [e]; exact hB) (not_tup h.1 ht) (keep_tb h.1 q.2.2.2.1 x) (fun _ _ => rfl) (fun _ _ => rfl) (fun _ _ _ => rfl) (Nat.le_refl _)
    (fun b e hb => absurd e (ne b hb)) (fun _ h => .inl h) (fun f hf => .inl ⟨f, hf, rfl, ne _ (by rw [(R.frs f hf).2.1]; exact Role.noConfusion)⟩) R.nd
    (fun p hp => (hh p hp).elim (fun hp => .inl ⟨.tail _ hp, hnd p hp⟩) fun e => .inr (by rw [e.1]; exact ⟨e.2.1, e.2.2, h.2.2⟩))
    fun i ob e => have z := (R.objs i ob e).2; .inl ⟨e, ne _ (by rw [z.main]; exact Role.noConfusion), fun hd => ne _ (by rw [(z.dnode hd).1]; exact Role.noConfusion)⟩
theorem Rep.setHeld {a : Addr} {o o' : Obj} (R : Rep c g ((a, o) :: held) fr σ s) (x : Ext (· = a) s.heap s'.heap) (hn : s'.heap.get? a = some o') (hk : heldKind o' = true) (hnd : ∀ p ∈ held, p.1 ≠ a) (hB : c.B.get? a = none) (ht : o.cls ≠ .type "tuple")
    (hg : s'.gens = s.gens) (ho : s'.os = s.os) : Rep c g ((a, o') :: held) fr σ s' ∧ Le g σ.n s.heap g σ.n s'.heap :=
  R.setHelds x hnd hB ht (fun p hp => by rcases List.mem_cons.mp hp with rfl | hp; exact .inr ⟨rfl, hn, hk⟩; exact .inl hp) hg ho
theorem Rep.letHeld {a : Addr} {o : Obj} (R : Rep c g ((a, o) :: held) fr σ s) (x : Ext (· = a) s.heap s'.heap) (hnd : ∀ p ∈ held, p.1 ≠ a) (hB : c.B.get? a = none) (ht : o.cls ≠ .type "tuple")
    (hg : s'.gens = s.gens) (ho : s'.os = s.os) : Rep c g held fr σ s' ∧ Le g σ.n s.heap g σ.n s'.heap :=
  R.setHelds x hnd hB ht (fun p hp => .inl hp) hg ho

/-- an object of the store is changed at its own place -/
theorem Rep.put (R : Rep c g held fr σ s) {i : Nat} {o o' : AObj} (hi : σ.at_ i = some o) (x : Ext (· = g.loc i) s.heap s'.heap) (hg : s'.gens = s.gens) (ho : s'.os = s.os) (hd : hasD o' = hasD o)
    (hn : ORep c g s'.heap σ.n i o') : Rep c g held fr (σ.put i o') s' ∧ Le g σ.n s.heap g σ.n s'.heap :=
  have z := (R.objs i o hi).2
  have ne : ∀ b, g.role b ≠ .main i → b ≠ g.loc i := fun b hb e => hb (e ▸ z.main)
  z.cls.elim fun ob c1 => R.step (W := (· = g.loc i)) (g' := g) x hg ho (fun b e => by rw [e]; exact R.rB _ (by rw [z.main]; exact Role.noConfusion)) (not_tup c1.1 (cls_not (n := "") c1.2 (by decide) (by decide))) (keep_tb c1.1 (cls_not (n := "") c1.2 (by decide) (by decide)) x)
    (fun _ _ => rfl) (fun _ _ => rfl) (fun _ _ _ => rfl) (Nat.le_refl _) (fun b e _ => hn.cls.elim fun ob' c1' => ⟨ob', e ▸ c1'.1⟩) (fun _ h => .inl h) (fun f hf => .inl ⟨f, hf, rfl, ne _ (by rw [(R.frs f hf).2.1]; exact Role.noConfusion)⟩) R.nd
    (fun p hp => .inl ⟨hp, fun e => held_obj z (e ▸ (R.held p hp).1) (R.held p hp).2.1⟩)
    fun j oj e => (put_some e).elim (fun w => .inr (by rw [w.1, ← w.2]; exact ⟨(R.objs _ _ hi).1, hn⟩)) fun w => have zj := (R.objs j oj w.2).2; .inl ⟨w.2, ne _ (by rw [zj.main]; exact fun q => w.1 (Role.main.inj q)), fun hd => ne _ (by rw [(zj.dnode hd).1]; exact Role.noConfusion)⟩

/-- the fields of an instance are changed -/
theorem Rep.putD (R : Rep c g held fr σ s) {i : Nat} {o o' : AObj} (hi : σ.at_ i = some o) (hdo : hasD o = true) (hdo' : hasD o' = true) (x : Ext (· = g.dloc i) s.heap s'.heap) (hg : s'.gens = s.gens) (ho : s'.os = s.os)
    (hn : ORep c g s'.heap σ.n i o') : Rep c g held fr (σ.put i o') s' ∧ Le g σ.n s.heap g σ.n s'.heap :=
  have z := ((R.objs i o hi).2).dnode hdo
  have ne : ∀ b, g.role b ≠ .dict i → b ≠ g.dloc i := fun b hb e => hb (e ▸ z.1)
  z.2.elim fun m hns => R.step (W := (· = g.dloc i)) (g' := g) x hg ho (fun b e => by rw [e]; exact R.rB _ (by rw [z.1]; exact Role.noConfusion)) (Heap.Ns.notTup hns) (Heap.Ns.keepTb hns x) (fun _ _ => rfl) (fun _ _ => rfl) (fun _ _ _ => rfl) (Nat.le_refl _)
    (fun b e _ => (hn.dnode hdo').2.elim fun m' n' => (Heap.Ns.obj n').imp fun od q => q.elim fun _ q => q.elim fun _ q => e ▸ q.1) (fun _ h => .inl h) (fun f hf => .inl ⟨f, hf, rfl, ne _ (by rw [(R.frs f hf).2.1]; exact Role.noConfusion)⟩) R.nd
    (fun p hp => .inl ⟨hp, fun e => held_ns hns (e ▸ (R.held p hp).1) (R.held p hp).2.1⟩)
    fun j oj e => (put_some e).elim (fun w => .inr (by rw [w.1, ← w.2]; exact ⟨(R.objs _ _ hi).1, hn⟩)) fun w => have zj := (R.objs j oj w.2).2; .inl ⟨w.2, ne _ (by rw [zj.main]; exact Role.noConfusion), fun hd => ne _ (by rw [(zj.dnode hd).1]; exact fun q => w.1 (Role.dict.inj q))⟩

/-- a name of a frame is stored -/
theorem Rep.setFr {f : FrG} {m' : Str → Option Value} (R : Rep c g held (f :: fr) σ s) (x : Ext (· = f.L) s.heap s'.heap) (hn : s'.heap.Ns f.L m') (hg : s'.gens = s.gens) (ho : s'.os = s.os) :
    Rep c g held ({ f with m := m' } :: fr) σ s' ∧ Le g σ.n s.heap g σ.n s'.heap :=
  have a := R.frs f (.head _)
  have ne : ∀ b, g.role b ≠ .frame → b ≠ f.L := fun b hb e => hb (e ▸ a.2.1)
  have nd := List.nodup_cons.mp R.nd
  R.step (W := (· = f.L)) (g' := g) x hg ho (fun b e => by rw [e]; exact R.rB _ (by rw [a.2.1]; exact Role.noConfusion)) (Heap.Ns.notTup a.1) (Heap.Ns.keepTb a.1 x) (fun _ _ => rfl) (fun _ _ => rfl) (fun _ _ _ => rfl) (Nat.le_refl _)
    (fun b e _ => (Heap.Ns.obj hn).imp fun od q => q.elim fun _ q => q.elim fun _ q => e ▸ q.1) (fun _ h => .inl h)
    (fun f' hf => (List.mem_cons.mp hf).elim (fun e => by rw [e]; exact .inr ⟨hn, a.2⟩) fun hf => .inl ⟨f', .tail _ hf, rfl, fun e => nd.1 (by show f.L ∈ _; rw [← show f'.L = f.L from e]; exact List.mem_map_of_mem (f := fun x : FrG => x.L) hf)⟩) R.nd
    (fun p hp => .inl ⟨hp, fun e => held_ns a.1 (e ▸ (R.held p hp).1) (R.held p hp).2.1⟩)
    fun j oj e => have zj := (R.objs j oj e).2; .inl ⟨e, ne _ (by rw [zj.main]; exact Role.noConfusion), fun hd => ne _ (by rw [(zj.dnode hd).1]; exact Role.noConfusion)⟩

/-- a frame is entered: its names lie at a new place -/
theorem Rep.enter (R : Rep c g held fr σ s) {L : Addr} {m : Str → Option Value} {env : Option Env} (hL : s.heap.get? L = none) (hns : s'.heap.Ns L m) (k : ∀ b o, s.heap.get? b = some o → s'.heap.get? b = some o)
    (henv : ∀ e, env = some e → e.frame = some L ∧ e.scope.kind ≠ .module) (hg : s'.gens = s.gens) (ho : s'.os = s.os) :
    Rep c { g with role := fun a => if a = L then .frame else g.role a } held (⟨L, m, env⟩ :: fr) σ s' ∧ Le g σ.n s.heap { g with role := fun a => if a = L then .frame else g.role a } σ.n s'.heap :=
  have lt : ∀ a, g.role a ≠ .free → a ≠ L := fun a ha e => ha (by rw [e]; exact R.freeOf hL)
  R.step (W := fun _ => False) (Ext.keeps k) hg ho (fun _ h => h.elim) (fun _ _ _ h => h) (fun T t => t.at fun o => k _ o) (fun _ _ => rfl) (fun _ _ => rfl)
    (fun a _ ha => if_neg (lt a ha)) (Nat.le_refl _) (fun _ h => h.elim)
    (fun a ha => (Classical.em (a = L)).elim (fun q => .inr ⟨by rw [q]; exact hL, (Heap.Ns.obj hns).imp fun od w => w.elim fun _ w => w.elim fun _ w => by rw [q]; exact w.1⟩) fun q => .inl fun w => ha ((if_neg q).trans w))
    (fun f hf => (List.mem_cons.mp hf).elim (fun e => by rw [e]; exact .inr ⟨hns, if_pos rfl, henv⟩) fun hf => .inl ⟨f, hf, rfl, fun h => h⟩)
    (List.nodup_cons.mpr ⟨fun q => (List.mem_map.mp q).elim fun f e => lt f.L (by rw [(R.frs f e.1).2.1]; exact Role.noConfusion) e.2, R.nd⟩) (fun p hp => .inl ⟨hp, fun h => h⟩) (fun i o e => .inl ⟨e, fun h => h, fun _ h => h⟩)

/-- a frame is left, and what lies at its place may be anything -/
theorem Rep.leave {f : FrG} (R : Rep c g held (f :: fr) σ s) (x : Ext (· = f.L) s.heap s'.heap) (hg : s'.gens = s.gens) (ho : s'.os = s.os) :
    Rep c { g with role := fun a => if a = f.L then .free else g.role a } held fr σ s' ∧ Le g σ.n s.heap { g with role := fun a => if a = f.L then .free else g.role a } σ.n s'.heap :=
  have a := R.frs f (.head _)
  have ne : ∀ b, g.role b ≠ .frame → b ≠ f.L := fun b hb e => hb (e ▸ a.2.1)
  have nd := List.nodup_cons.mp R.nd
  R.step (W := (· = f.L)) x hg ho (fun b e => by rw [e]; exact R.rB _ (by rw [a.2.1]; exact Role.noConfusion)) (Heap.Ns.notTup a.1) (Heap.Ns.keepTb a.1 x) (fun _ _ => rfl) (fun _ _ => rfl) (fun a ha _ => if_neg ha) (Nat.le_refl _)
    (fun b e hb => absurd (if_pos e) hb) (fun b hb => .inl fun q => hb (ite_eq_left_iff.mpr fun _ => q))
    (fun f' hf => .inl ⟨f', .tail _ hf, rfl, fun e => nd.1 (by show f.L ∈ _; rw [← show f'.L = f.L from e]; exact List.mem_map_of_mem (f := fun x : FrG => x.L) hf)⟩) nd.2
    (fun p hp => .inl ⟨hp, fun e => by have := (R.held p hp).2.2; rw [show p.1 = f.L from e, a.2.1] at this; cases this⟩)
    fun j oj e => have zj := (R.objs j oj e).2; .inl ⟨e, ne _ (by rw [zj.main]; exact Role.noConfusion), fun hd => ne _ (by rw [(zj.dnode hd).1]; exact Role.noConfusion)⟩

noncomputable def Gh.newMain (g : Gh) (n : Nat) (a : Addr) : Gh := { g with loc := fun j => if j = n then a else g.loc j, role := fun b => if b = a then .main n else g.role b }
noncomputable def Gh.newInst (g : Gh) (n : Nat) (x d : Addr) : Gh :=
  { loc := fun j => if j = n then x else g.loc j, dloc := fun j => if j = n then d else g.dloc j, role := fun b => if b = x then .main n else if b = d then .dict n else g.role b }

theorem Rep.fresh (R : Rep c g held fr σ s) {a : Addr} (h : s.heap.get? a = none) : c.B.get? a = none := by
  cases q : c.B.get? a with
  | none => rfl
  | some o => rw [R.stays a o q] at h; cases h
theorem ne_of_lt' {j n : Nat} (h : j < n) : ¬ j = n := Nat.ne_of_lt h

/-- a new object of the store -/
theorem Rep.new (R : Rep c g held fr σ s) {a : Addr} {o : AObj} (ha : s.heap.get? a = none) (k : ∀ b o, s.heap.get? b = some o → s'.heap.get? b = some o)
    (hg : s'.gens = s.gens) (ho : s'.os = s.os) (hn : ORep c (g.newMain σ.n a) s'.heap (σ.n + 1) σ.n o) :
    Rep c (g.newMain σ.n a) held fr (σ.new o) s' ∧ Le g σ.n s.heap (g.newMain σ.n a) (σ.new o).n s'.heap :=
  have lt : ∀ b, g.role b ≠ .free → b ≠ a := fun b hb e => hb (by rw [e]; exact R.freeOf ha)
  R.step (W := fun _ => False) (Ext.keeps k) hg ho (fun _ h => h.elim) (fun _ _ _ h => h) (fun T t => t.at fun o => k _ o) (fun j hj => if_neg (ne_of_lt' hj)) (fun _ _ => rfl)
    (fun b _ hb => if_neg (lt b hb)) (Nat.le_succ _) (fun _ h => h.elim)
    (fun b hb => (Classical.em (b = a)).elim (fun q => .inr ⟨by rw [q]; exact ha, hn.cls.imp fun ob c1 => by rw [q, ← show (g.newMain σ.n a).loc σ.n = a from if_pos rfl]; exact c1.1⟩) fun q => .inl fun w => hb ((if_neg q).trans w))
    (fun f hf => .inl ⟨f, hf, rfl, fun h => h⟩) R.nd (fun p hp => .inl ⟨hp, fun h => h⟩)
    fun i ob e => (new_some e).elim (fun w => .inr (by rw [w.1, ← w.2]; exact ⟨Nat.lt_succ_self _, hn⟩)) fun w => .inl ⟨w.2, fun h => h, fun _ h => h⟩

theorem Rep.newI (R : Rep c g held fr σ s) {x d : Addr} {o : AObj} (hd : s.heap.get? d = none) (hx : s.heap.get? x = none) (hxd : x ≠ d) (hdo : hasD o = true) (k : ∀ b o, s.heap.get? b = some o → s'.heap.get? b = some o)
    (hg : s'.gens = s.gens) (ho : s'.os = s.os) (hn : ORep c (g.newInst σ.n x d) s'.heap (σ.n + 1) σ.n o) :
    Rep c (g.newInst σ.n x d) held fr (σ.new o) s' ∧ Le g σ.n s.heap (g.newInst σ.n x d) (σ.new o).n s'.heap :=
  have lx : ∀ b, g.role b ≠ .free → b ≠ x := fun b hb e => hb (by rw [e]; exact R.freeOf hx)
  have ld : ∀ b, g.role b ≠ .free → b ≠ d := fun b hb e => hb (by rw [e]; exact R.freeOf hd)
  R.step (W := fun _ => False) (Ext.keeps k) hg ho (fun _ h => h.elim) (fun _ _ _ h => h) (fun T t => t.at fun o => k _ o) (fun j hj => if_neg (ne_of_lt' hj)) (fun j hj => if_neg (ne_of_lt' hj))
    (fun b _ hb => (if_neg (lx b hb)).trans (if_neg (ld b hb))) (Nat.le_succ _) (fun _ h => h.elim)
    (fun b hb => (Classical.em (b = x)).elim (fun q => .inr ⟨by rw [q]; exact hx, hn.cls.imp fun ob c1 => by rw [q, ← show (g.newInst σ.n x d).loc σ.n = x from if_pos rfl]; exact c1.1⟩) fun q =>
      (Classical.em (b = d)).elim (fun q' => .inr ⟨by rw [q']; exact hd, (hn.dnode hdo).2.elim fun m n => (Heap.Ns.obj n).imp fun od w => w.elim fun _ w => w.elim fun _ w => by rw [q', ← show (g.newInst σ.n x d).dloc σ.n = d from if_pos rfl]; exact w.1⟩)
        fun q' => .inl fun w => hb ((if_neg q).trans ((if_neg q').trans w)))
    (fun f hf => .inl ⟨f, hf, rfl, fun h => h⟩) R.nd (fun p hp => .inl ⟨hp, fun h => h⟩)
    fun i ob e => (new_some e).elim (fun w => .inr (by rw [w.1, ← w.2]; exact ⟨Nat.lt_succ_self _, hn⟩)) fun w => .inl ⟨w.2, fun h => h, fun _ h => h⟩
end
end Mine
end

section
open PySem PySem.W PyProof.Rows PySem.Calls
set_option Elab.async false
set_option linter.unusedVariables false
set_option maxRecDepth 100000
namespace Mine

/-! the small language -/
mutual
inductive E where
  | lit (p : PV)
  | var (x : Nat)
  | gl (p : PV)
  | bin (o : Operator) (a b : E)
  | neg (a : E)
  | not (a : E)
  | cmp (o : CmpOp) (a b : E)
  | bools (o : BoolOp) (es : Es)
  | ite (t a b : E)
  | tup (es : Es)
  | lst (es : Es)
  | dict (kvs : List (List Nat × List Nat))
  | attr (a : E) (x : Nat)
  | sub (a i : E)
  | slc (a l u : E)
  | call (f : E) (es : Es)
  | meth (a : E) (x : Nat) (es : Es)
  | comp (elt : E) (x : Nat) (it : E)
  | bad
inductive Es where
  | nil
  | cons (e : E) (es : Es)
end

inductive T where
  | var (x : Nat)
  | attr (a : E) (x : Nat)
  | sub (a i : E)
  | tup (xs : List Nat)
  | bad

mutual
inductive S where
  | expr (e : E)
  | pass | brk | cont
  | ret (e : E)
  | ret0
  | asg (t : T) (e : E)
  | aug (x : Nat) (o : Operator) (e : E)
  | ite (t : E) (a b : Ss)
  | while_ (t : E) (b : Ss)
  | for_ (t : T) (e : E) (b : Ss)
  | forR (t : T) (e : E) (b : Ss)
  | forV (t : T) (e : E) (b : Ss)
  | raise_ (e : E)
  | try_ (b : Ss) (x : Option Nat) (h : Ss)
  | bad
inductive Ss where
  | nil
  | cons (s : S) (ss : Ss)
end

/-! what the compiler reads -/
structure CC where
  tab : List Str
  glob : Str → Option PV
  exc : Str          -- the one class that is caught

noncomputable def CC.idx (k : CC) (x : Str) : Option Nat := k.tab.idxOf? x

noncomputable def compConst : Const → E
  | .none => .lit .none
  | .bool b => .lit (.bool b)
  | .int i => .lit (.int i)
  | .str s => .lit (.str s.cps.toList)
  | _ => .bad

noncomputable def CC.name (k : CC) (sc : Scope) (x : Str) : E :=
  if x == ("__debug__" : Str) then .bad else
  match sc.names.lookup x with
  | some .local => (match k.idx x with | some i => .var i | none => .bad)
  | some .globalImplicit => (match k.glob x with | some p => .gl p | none => .bad)
  | _ => .bad

noncomputable def CC.loc (k : CC) (sc : Scope) (x : Str) : Option Nat := if sc.names.lookup x = some .local then k.idx x else none

noncomputable def dlit : List (Option Expr) → List Expr → Option (List (List Nat × List Nat))
  | [], [] => some []
  | _, _ => none

noncomputable def isSet : Expr → Bool
  | .Set .. => true
  | _ => false

noncomputable def isComp : Expr → Bool
  | .ListComp .. | .SetComp .. | .DictComp .. => true
  | _ => false
noncomputable def isTupT : Expr → Bool
  | .Tuple .. | .List .. => true
  | _ => false

noncomputable def noStar : Expr → Bool
  | .Starred .. => false
  | _ => true

noncomputable def isCall : Expr → Bool
  | .Call .. => true
  | _ => false

noncomputable def isSlc : Expr → Bool
  | .Slice .. => true
  | _ => false

/-! an expression, seen with what it is -/
noncomputable def nameV : (e : Expr) → Option { x : Str × Pos // e = .Name x.1 x.2 }
  | .Name x p => some ⟨(x, p), rfl⟩
  | _ => none
noncomputable def locsOf (k : CC) (sc : Scope) : List Expr → Option (List Nat)
  | [] => some []
  | e :: r => (match nameV e with
    | some y => (match k.loc sc y.1.1, locsOf k sc r with
      | some i, some l => some (i :: l)
      | _, _ => none)
    | none => none)
noncomputable def attrV : (e : Expr) → Option { x : Expr × Str × Pos // e = .Attribute x.1 x.2.1 x.2.2 }
  | .Attribute a x p => some ⟨(a, x, p), rfl⟩
  | _ => none
noncomputable def noneV {α : Type} : (o : Option α) → Option (PLift (o = none))
  | none => some ⟨rfl⟩
  | some _ => none
noncomputable def slcV : (e : Expr) → Option { x : Option Expr × Option Expr × Pos // e = .Slice x.1 x.2.1 none x.2.2 }
  | .Slice l u s p => (match noneV s with | some h => some ⟨(l, u, p), congrArg (Expr.Slice l u · p) h.down⟩ | none => none)
  | _ => none
noncomputable def lcV : (e : Expr) → Option { x : Expr × List Comprehension × Scope × Pos // e = .ListComp x.1 x.2.1 x.2.2.1 x.2.2.2 }
  | .ListComp a g s p => some ⟨(a, g, s, p), rfl⟩
  | _ => none
noncomputable def genV : (gs : List Comprehension) → Option { x : Str × Pos × Expr // gs = [⟨.Name x.1 x.2.1, x.2.2, [], 0⟩] }
  | [⟨t, it, [], 0⟩] => (match nameV t with | some y => some ⟨(y.1.1, y.1.2, it), congrArg (fun t => [Comprehension.mk t it [] 0]) y.2⟩ | none => none)
  | _ => none
/-- one argument, handed to a name -/
noncomputable def oneV : (e : Expr) → Option { x : Str × Pos × Expr × Pos // e = .Call (.Name x.1 x.2.1) [x.2.2.1] [] x.2.2.2 }
  | .Call f [a] [] p => (match nameV f with | some y => some ⟨(y.1.1, y.1.2, a, p), congrArg (fun t => Expr.Call t [a] [] p) y.2⟩ | none => none)
  | _ => none

/-- what the parts give -/
structure Cmp where
  e : Scope → Expr → E
  es : Scope → List Expr → Es

noncomputable def optE (f : Expr → E) : Option Expr → E
  | none => .lit .none
  | some x => f x
noncomputable def unE (x : E) : UnaryOp → E
  | .USub => .neg x
  | .Not => .not x
  | _ => .bad
noncomputable def cmpE (f : Expr → E) (l : Expr) : List CmpOp → List Expr → E
  | [o], [r] => if behindInMarks o r then .bad else .cmp o (f l) (f r)
  | _, _ => .bad
noncomputable def subE (f : Expr → E) (a i : Expr) : E := match isSlc i with
  | true => (match slcV i with | some x => .slc (f a) (optE f x.1.1) (optE f x.1.2.1) | none => .bad)
  | false => .sub (f a) (f i)
noncomputable def attE (k : CC) (f : Expr → E) (a : Expr) (x : Str) : E := match k.idx x with
  | some i => if isCall a then .bad else .attr (f a) i
  | none => .bad
noncomputable def callE (k : CC) (K : Cmp) (sc : Scope) (p : Pos) (args : List Expr) (e : Expr) : List Keyword → E
  | [] => (match attrV e with
    | some x => (match k.idx x.1.2.1 with
        | some i => if isCall x.1.1 || x.1.2.2.endLine != p.line || 29 ≤ args.length || !args.all noStar then .bad else .meth (K.e sc x.1.1) i (K.es sc args)
        | none => .bad)
    | none => (match nameV e with
        | some _ => if 29 ≤ args.length || !args.all noStar then .bad else .call (K.e sc e) (K.es sc args)
        | none => .bad))
  | _ => .bad
noncomputable def lcE (k : CC) (K : Cmp) (sc : Scope) (elt : Expr) (sc' : Scope) (gs : List Comprehension) : E := match genV gs with
  | some x => (match k.idx x.1.1 with
    | some i => if isSet x.1.2.2 = false ∧ sc'.names.lookup x.1.1 = some .local ∧ sc'.kind = .function ∧ (sc'.names.all fun z => z.2 == .local && sc'.names.lookup z.1 == some .local || z.2 == .globalImplicit) then .comp (K.e sc' elt) i (K.e sc x.1.2.2) else .bad
    | none => .bad)
  | none => .bad

noncomputable def stepE (k : CC) (K : Cmp) (sc : Scope) : Expr → E
  | .Constant c _ _ => compConst c
  | .Name x _ => k.name sc x
  | .BinOp l o r _ => .bin o (K.e sc l) (K.e sc r)
  | .UnaryOp o x _ => unE (K.e sc x) o
  | .BoolOp o vs _ => .bools o (K.es sc vs)
  | .Compare l os rs _ => cmpE (K.e sc) l os rs
  | .IfExp t a b _ => .ite (K.e sc t) (K.e sc a) (K.e sc b)
  | .Tuple es _ _ => if es.length ≤ 1000 then .tup (K.es sc es) else .bad
  | .List es _ => if es.length ≤ 1000 then .lst (K.es sc es) else .bad
  | .Dict ks vs _ => (match dlit ks vs with | some l => .dict l | none => .bad)
  | .Attribute a x _ => attE k (K.e sc) a x
  | .Subscript a i _ => subE (K.e sc) a i
  | .Call f args kws p => callE k K sc p args f kws
  | .ListComp elt gs sc' _ => lcE k K sc elt sc' gs
  | _ => .bad
noncomputable def stepEs (K : Cmp) (sc : Scope) : List Expr → Es
  | [] => .nil
  | e :: r => if noStar e then .cons (K.e sc e) (K.es sc r) else .cons .bad .nil

noncomputable def comp (k : CC) : Nat → Cmp
  | 0 => ⟨fun _ _ => .bad, fun _ _ => .cons .bad .nil⟩
  | n + 1 => ⟨stepE k (comp k n), stepEs (comp k n)⟩
noncomputable abbrev compE (k : CC) (n : Nat) : Scope → Expr → E := (comp k n).e
noncomputable abbrev compEs (k : CC) (n : Nat) : Scope → List Expr → Es := (comp k n).es

noncomputable def attT (k : CC) (sc : Scope) (a : Expr) (x : Str) : T := match nameV a with
  | some y => (match k.idx x with | some i => .attr (k.name sc y.1.1) i | none => .bad)
  | none => .bad
noncomputable def compT (k : CC) (n : Nat) (sc : Scope) : Expr → T
  | .Name x _ => (match k.loc sc x with | some i => .var i | none => .bad)
  | .Attribute a x _ => attT k sc a x
  | .Subscript a i _ => if isSlc i then .bad else .sub (compE k n sc a) (compE k n sc i)
  | .Tuple es _ _ => (match locsOf k sc es with | some l => .tup l | none => .bad)
  | _ => .bad

structure CmpS where
  s : Scope → Stmt → S
  ss : Scope → List Stmt → Ss

noncomputable def retS (f : Expr → E) : Option Expr → S
  | some e => .ret (f e)
  | none => .ret0
noncomputable def alcS (k : CC) (K : Cmp) (sc : Scope) (x : Str) (px : Pos) (elt : Expr) (sc' : Scope) (pos : Pos) (gs : List Comprehension) : S := match genV gs with
  | some z => (match k.loc sc x, k.idx z.1.1 with
    | some i, some j => if (px.line == pos.line) = true ∧ (sc'.names.any fun (n, k) => n == x && (k == .local || k == .cell)) = false ∧ isSet z.1.2.2 = false ∧ sc'.names.lookup z.1.1 = some .local ∧ sc'.kind = .function ∧
            (sc'.names.all fun z => z.2 == .local && sc'.names.lookup z.1 == some .local || z.2 == .globalImplicit) = true then .asg (.var i) (.comp (K.e sc' elt) j (K.e sc z.1.2.2)) else .bad
    | _, _ => .bad)
  | none => .bad
noncomputable def asgS (k : CC) (n : Nat) (sc : Scope) (e : Expr) : List Expr → S
  | [t] => if isComp e then (match lcV e, nameV t with
      | some x, some y => alcS k (comp k n) sc y.1.1 y.1.2 x.1.1 x.1.2.2.1 x.1.2.2.2 x.1.2.1
      | _, _ => .bad) else if (isTupT t && isTupT e) || !noStar t then .bad else .asg (compT k n sc t) (compE k n sc e)
  | _ => .bad
noncomputable def augS (k : CC) (f : Expr → E) (sc : Scope) (o : Operator) (e t : Expr) : S := match nameV t with
  | some y => (match k.loc sc y.1.1 with | some i => .aug i o (f e) | none => .bad)
  | none => .bad
noncomputable def forS (k : CC) (n : Nat) (sc : Scope) (t e : Expr) (b : Ss) : List Stmt → S
  | [] => (match oneV e with
    | some x => if x.1.1 = ("range" : Str) ∧ sc.names.lookup x.1.1 = some .globalImplicit ∧ noStar x.1.2.2.1 = true then .forR (compT k n sc t) (compE k n sc x.1.2.2.1) b
      else if x.1.1 = ("reversed" : Str) ∧ sc.names.lookup x.1.1 = some .globalImplicit ∧ noStar x.1.2.2.1 = true then .forV (compT k n sc t) (compE k n sc x.1.2.2.1) b
      else .for_ (compT k n sc t) (compE k n sc e) b
    | none => if isSet e then .bad else .for_ (compT k n sc t) (compE k n sc e) b)
  | _ => .bad
noncomputable def whlS (t : E) (b : Ss) : List Stmt → S
  | [] => .while_ t b
  | _ => .bad
noncomputable def raiS (f : Expr → E) : Option Expr → Option Expr → S
  | some e, none => .raise_ (f e)
  | _, _ => .bad
noncomputable def hndS (k : CC) (sc : Scope) (b : Ss) (h : Ss) (y : Str) (nm : Option Str) : S :=
  if y == k.exc && sc.names.lookup y == some .globalImplicit && !(y == ("__debug__" : Str)) then
    (match nm with
      | none => .try_ b none h
      | some y => (match k.loc sc y with | some i => .try_ b (some i) h | none => .bad))
  else .bad
noncomputable def tryS (k : CC) (f : List Stmt → Ss) (sc : Scope) (b : Ss) : List ExceptHandler → List Stmt → List Stmt → S
  | [.ExceptHandler (some t) nm (h₀ :: h) _], [], [] => (match nameV t with | some y => hndS k sc b (f (h₀ :: h)) y.1.1 nm | none => .bad)
  | _, _, _ => .bad

noncomputable def stepS (k : CC) (n : Nat) (K : CmpS) (sc : Scope) : Stmt → S
  | .Expr e _ => if isCall e then .expr (compE k n sc e) else .bad
  | .Pass _ => .pass
  | .Break _ => .brk
  | .Continue _ => .cont
  | .Return e _ => retS (compE k n sc) e
  | .Assign ts e _ => asgS k n sc e ts
  | .AugAssign t o e _ => augS k (compE k n sc) sc o e t
  | .If t a b _ => .ite (compE k n sc t) (K.ss sc a) (K.ss sc b)
  | .While t b o _ => whlS (compE k n sc t) (K.ss sc b) o
  | .For t e b o _ => forS k n sc t e (K.ss sc b) o
  | .Raise e c _ => raiS (compE k n sc) e c
  | .Try b hs o f _ => tryS k (K.ss sc) sc (K.ss sc b) hs o f
  | _ => .bad
noncomputable def stepSs (K : CmpS) (sc : Scope) : List Stmt → Ss
  | [] => .nil
  | s :: r => .cons (K.s sc s) (K.ss sc r)
noncomputable def compZ (k : CC) : Nat → CmpS
  | 0 => ⟨fun _ _ => .bad, fun _ _ => .cons .bad .nil⟩
  | n + 1 => ⟨stepS k n (compZ k n), stepSs (compZ k n)⟩
noncomputable abbrev compS (k : CC) (n : Nat) : Scope → Stmt → S := (compZ k n).s
noncomputable abbrev compSs (k : CC) (n : Nat) : Scope → List Stmt → Ss := (compZ k n).ss

end Mine
end

section
open PySem PySem.W PyProof.Rows PySem.Calls
set_option Elab.async false
set_option linter.unusedVariables false
set_option maxRecDepth 100000
namespace Mine

noncomputable abbrev Loc := Nat → Option PV
noncomputable def upd (ρ : Loc) (k : Nat) (p : PV) : Loc := fun j => if j = k then some p else ρ j
noncomputable def clr (ρ : Loc) (k : Nat) : Loc := fun j => if j = k then none else ρ j

inductive Fl where
  | next | brk | cont
  | ret (p : PV)

inductive ClsD (K : Frag) (C : Addr) : Prop where
  | mk (cd : ClassData) (h1 : clsIn K C = some cd) (h2 : cd.hasDict = true) (h3 : cd.mro.isEmpty = false) (h4 : cd.mro.contains (.type "object") = true) (h5 : ∀ self, refuseLoop self "__setattr__" cd.mro = pure ())
set_option genInjectivity false in
/-- a class of the program -/
structure ClsOk (K : Frag) (C : Addr) : Prop where
  cd : ClsD K C
  sa : findIn K (.ref C) "__setattr__" = some (some (.builtin "object.__setattr__"))
  gattr : findIn K (.ref C) "__getattr__" = some none
  ga : findIn K (.ref C) "__getattribute__" = some (some (.builtin "object.__getattribute__")) ∨
    (findIn K (.ref C) "__getattribute__" = some (some (.builtin "BaseException.__getattribute__")) ∧ ∃ cd, clsIn K C = some cd ∧ cd.mro.isEmpty = false ∧ cd.mro.contains (.type "BaseException") = true)

noncomputable def bname : Nat → String
  | 0 => "list"
  | 1 => "str"
  | _ => "dict"

set_option genInjectivity false in
/-- a method of a built-in type -/
structure MethOk (T : String) (name : Str) (id : String) : Prop where
  pa : PlainAttrs T
  slot : Slot T name id
  ty : typeOf (.builtin id) = pure (.type "method_descriptor")

set_option genInjectivity false in
/-- the text, as far as it is static -/
structure Sx extends Cx where
  mg : Str → Option Value
  mb : Str → Option Value
  hmg : B.Ns mainGlobals mg
  hmb : B.Ns builtinsNs mb
  cc : CC
  hnm : ∀ x k, cc.idx x = some k → nm k = x
  hglob : ∀ x p, cc.glob x = some p → ∃ v, (mg x = some v ∨ (mg x = none ∧ mb x = some v)) ∧ ∀ h loc n, B.StaysIn h → VRep h loc n p v
  callee : Value → Bool
  hcallee : ∀ v, callee v = true → ∀ h, K.In h → ∃ k, (k = Keeper.frame ∨ k = Keeper.machine ∨ k = Keeper.boundFrame) ∧ Looks (model prog w) h (keeperOf v) k
  hexc : mroIn K excC (.type "BaseException") = some true ∧ typeIn K (.ref excC) = some (.type "type") ∧ exmOne K (.ref excC) (.ref excC) = some true
  hexcn : mg cc.exc = some (.ref excC)
  hexcd : (cc.exc == ("__debug__" : Str)) = false
  hrange : mg "range" = none ∧ mb "range" = some (.type "range")
  hrev : mg "reversed" = none ∧ mb "reversed" = some (.type "reversed")
  fld : Addr → Nat → Bool
  hfld : ∀ C x, fld C x = true → ClsOk K C ∧ findIn K (.ref C) (nm x) = some none ∧ nm x ∈ tab
  meth : Addr → Nat → Option Value
  hmeth : ∀ C x v, meth C x = some v → ClsOk K C ∧ findIn K (.ref C) "__getattribute__" = some (some (.builtin "object.__getattribute__")) ∧ callee v = true ∧ ∃ f, v = .ref f ∧ findIn K (.ref C) (nm x) = some (some (.ref f)) ∧ typeIn K (.ref f) = some (.type "function")
  scr : Addr
  scrI : List Int
  hscr : ∃ xs : List Value, B.IsList scr xs.toArray ∧ xs.length ≤ 1000000 ∧ ∀ h loc n, VReps h loc n (scrI.map .int) xs
  bmeth : Nat → Nat → Option Value
  hbmeth : ∀ k x v, bmeth k x = some v → callee v = true ∧ ∃ id, v = .builtin id ∧ MethOk (bname k) (nm x) id

noncomputable def Room (A : Around) (lv : Nat) : Prop := A.depth + 10 * lv < 900 ∧ A.units + 50 * lv < 9000

noncomputable def HdOk (g : Gh) (n : Nat) (A : Around) : Option Nat → Prop
  | none => A.handled = none
  | some i => A.handled = some (.ref (g.loc i)) ∧ i < n

noncomputable def IsExc (c : Cx) (σ : St) (i : Nat) : Prop := ∃ fs ch, σ.at_ i = some (.exc c.excC fs ch)

inductive QV (c : Cx) (held : List (Addr × Obj)) (fr : List FrG) (g₀ : Gh) (n₀ : Nat) (h₀ : Heap) (Q : PV → St → Prop) (v : Value) (s' : Shared) : Prop where
  | mk (g : Gh) (σ : St) (p : PV) (R : Rep c g held fr σ s') (L : Le g₀ n₀ h₀ g σ.n s'.heap) (r : VRep s'.heap g.loc σ.n p v) (q : Q p σ)
inductive XV (c : Cx) (held : List (Addr × Obj)) (fr : List FrG) (g₀ : Gh) (n₀ : Nat) (h₀ : Heap) (X : Nat → St → Prop) (e : Value) (s' : Shared) : Prop where
  | mk (g : Gh) (σ : St) (i : Nat) (R : Rep c g held fr σ s') (L : Le g₀ n₀ h₀ g σ.n s'.heap) (r : e = .ref (g.loc i)) (x : IsExc c σ i) (q : X i σ)
noncomputable def RV (c : Cx) (held : List (Addr × Obj)) (fr : List FrG) (g₀ : Gh) (n₀ : Nat) (h₀ : Heap) (Q : PV → St → Prop) (X : Nat → St → Prop) : Result → Shared → Prop := fun r s' => match r with
  | .ok (.ret v) => QV c held fr g₀ n₀ h₀ Q v s'
  | .ok _ => False
  | .error e => XV c held fr g₀ n₀ h₀ X e s'

/-- a call that comes back as it should, in every state that says the same -/
noncomputable def CallOk (c : Sx) (lv : Nat) (hd : Option Nat) (f : Value) (ps : List PV) (σ : St) (Q : PV → St → Prop) (X : Nat → St → Prop) : Prop :=
  ∀ (A : Around) (s : Shared) (g : Gh) (held : List (Addr × Obj)) (fr : List FrG) (vs : List Value), Room A lv → A.frames = some (fr.filterMap (·.env)) → HdOk g σ.n A hd → Rep c.toCx g held fr σ s →
    VReps s.heap g.loc σ.n ps vs → wpAny (model c.prog c.w) A (call f vs) (QV c.toCx held fr g σ.n s.heap Q) (XV c.toCx held fr g σ.n s.heap X) s

/-! what the operations ask and say -/
noncomputable def wTruth (σ : St) (p : PV) (K : Bool → Prop) : Prop := match p with
  | .none => K false
  | .bool b => K b
  | .int i => K (decide (i ≠ 0))
  | .str s => s.length ≤ 1000000 ∧ K (!s.isEmpty)
  | .tup vs => vs.length ≤ 1000000 ∧ K (!vs.isEmpty)
  | .ref i => (match σ.at_ i with
      | some (.list vs) => K (!vs.isEmpty)
      | _ => False)
  | .st _ => False


noncomputable def wInt (p : PV) (K : Int → Prop) : Prop := match p with
  | .int a => K a
  | _ => False
noncomputable def wStr (p : PV) (K : List Nat → Prop) : Prop := match p with
  | .str a => K a
  | _ => False
noncomputable def wRef (p : PV) (K : Nat → Prop) : Prop := match p with
  | .ref a => K a
  | _ => False
noncomputable def wSt (p : PV) (K : Value → Prop) : Prop := match p with
  | .st a => K a
  | _ => False
noncomputable def wBin (o : Operator) (p q : PV) (σ : St) (Q : PV → St → Prop) : Prop := match o with
  | .Add => (match p with
      | .int a => wInt q fun b => Q (.int (a + b)) σ
      | .str a => wStr q fun b => a.length + b.length ≤ 1000000 ∧ Q (.str (a ++ b)) σ
      | .ref i => wRef q fun j => ∃ xs ys, σ.at_ i = some (.list xs) ∧ σ.at_ j = some (.list ys) ∧ xs.length + ys.length ≤ 1000000 ∧ Q (.ref σ.n) (σ.new (.list (xs ++ ys)))
      | _ => False)
  | .Sub => wInt p fun a => wInt q fun b => Q (.int (a - b)) σ
  | .Mult => (match p with
      | .int a => wInt q fun b => b.natAbs < 2 ^ 60 ∧ Q (.int (a * b)) σ
      | .ref i => wInt q fun k => ∃ xs, σ.at_ i = some (.list xs) ∧ 0 ≤ k ∧ k ≤ 1000 ∧ xs.length ≤ 100 ∧ Q (.ref σ.n) (σ.new (.list ((List.replicate k.toNat xs).flatten)))
      | _ => False)
  | .FloorDiv => wInt p fun a => wInt q fun b => b ≠ 0 ∧ b.natAbs < 1073741824 ∧ Q (.int (Int.fdiv a b)) σ
  | .Mod => wInt p fun a => wInt q fun b => b ≠ 0 ∧ Q (.int (Int.fmod a b)) σ
  | .Pow => wInt p fun a => wInt q fun b => a = 96 ∧ b = 24 ∧ Q (.int (96 ^ 24)) σ
  | _ => False

/-- a value as data -/
noncomputable def dStep (σ : St) (f : PV → Option PyData) : PV → Option PyData
  | .none => some .none
  | .int i => some (.int i)
  | .str s => if PyData.strOk ⟨s.toArray⟩ then some (.str ⟨s.toArray⟩) else none
  | .tup vs => (vs.mapM f).map .tuple
  | .ref i => (match σ.at_ i with
      | some (.list vs) => (vs.mapM f).map .list
      | _ => none)
  | _ => none
noncomputable def dOf (σ : St) : Nat → PV → Option PyData
  | 0 => fun _ => none
  | n + 1 => dStep σ (dOf σ n)

noncomputable def kindOf : KV → Nat
  | .s _ => 0
  | .i _ => 1
  | .t _ => 2

noncomputable def kvOf : PV → Option KV
  | .str y => some (.s y)
  | .int y => some (.i y)
  | _ => none

noncomputable def pairOf (p q : PV) : Option KV := match p with
  | .int a => (match q with | .int b => some (.t [a, b]) | _ => none)
  | _ => none
noncomputable def keyOf : PV → Option KV
  | .str y => some (.s y)
  | .int y => some (.i y)
  | .tup vs => (match vs with | [p, q] => pairOf p q | _ => none)
  | _ => none

noncomputable def wEqs (f : Bool → Bool) (p q : PV) (σ : St) (Q : PV → St → Prop) : Prop :=
  (∃ a b, p = .int a ∧ q = .int b ∧ Q (.bool (f (decide (a = b)))) σ) ∨ (∃ a b, p = .str a ∧ q = .str b ∧ Q (.bool (f (decide (a = b)))) σ) ∨ ∃ a b, dOf σ 60 p = some a ∧ dOf σ 60 q = some b ∧ Q (.bool (f (PyData.eqv a b))) σ
noncomputable def wIsN (f : Bool → Bool) (p q : PV) (σ : St) (Q : PV → St → Prop) : Prop := match q with
  | .none => (match p with
      | .none => Q (.bool (f true)) σ
      | .tup _ => Q (.bool (f false)) σ
      | .int _ => Q (.bool (f false)) σ
      | .ref _ => Q (.bool (f false)) σ
      | _ => False)
  | _ => False
noncomputable def wIn (f : Bool → Bool) (p q : PV) (σ : St) (Q : PV → St → Prop) : Prop := match q with
  | .str b => wStr p fun a => ∃ x, a = [x] ∧ f true = true ∧ Q (.bool (b.contains x)) σ
  | .tup vs => wStr p fun a => ∃ xs : List (List Nat), vs = xs.map .str ∧ Q (.bool (f (xs.contains a))) σ
  | .ref i => (match σ.at_ i with
      | some (.dict kvs) => ∃ k, kvOf p = some k ∧ (∀ x ∈ kvs, kindOf x.1 = kindOf k) ∧ Q (.bool (f (kvs.any fun x => x.1 == k))) σ
      | some (.list vs) => wStr p fun a => ∃ xs : List (List Nat), vs = xs.map .str ∧ f true = true ∧ Q (.bool (xs.contains a)) σ
      | _ => False)
  | _ => False
noncomputable def wCmp (o : CmpOp) (p q : PV) (σ : St) (Q : PV → St → Prop) : Prop := match o with
  | .Lt => wInt p fun a => wInt q fun b => Q (.bool (decide (a < b))) σ
  | .LtE => wInt p fun a => wInt q fun b => Q (.bool (decide (a ≤ b))) σ
  | .Gt => wInt p fun a => wInt q fun b => Q (.bool (decide (b < a))) σ
  | .GtE => wInt p fun a => wInt q fun b => Q (.bool (decide (b ≤ a))) σ
  | .Eq => wEqs id p q σ Q
  | .NotEq => wEqs not p q σ Q
  | .Is => wIsN id p q σ Q
  | .IsNot => wIsN not p q σ Q
  | .In => wIn id p q σ Q
  | .NotIn => wIn not p q σ Q

noncomputable def wAttr (c : Sx) (σ : St) (p : PV) (x : Nat) (K : PV → Prop) : Prop := match p with
  | .ref i => (match σ.at_ i with
      | some (.inst C fs) => c.fld C x = true ∧ ∃ q, fs x = some q ∧ K q
      | some (.exc C fs _) => c.fld C x = true ∧ ∃ q, fs x = some q ∧ K q
      | _ => False)
  | _ => False

noncomputable def getI (vs : List PV) (i : Int) : Option PV := if 0 ≤ i then vs[i.toNat]? else if 0 ≤ i + vs.length then vs[(i + vs.length).toNat]? else none

noncomputable def kvFind (kvs : List (KV × PV)) (k : KV) : Option PV := (kvs.find? fun x => x.1 == k).map (·.2)
noncomputable def kvPut (kvs : List (KV × PV)) (k : KV) (v : PV) : List (KV × PV) := if kvs.any (fun x => x.1 == k) then kvs.map (fun x => if x.1 = k then (x.1, v) else x) else kvs ++ [(k, v)]

noncomputable def wSub (σ : St) (p q : PV) (K : PV → Prop) : Prop := match p with
  | .tup vs => wInt q fun i => -1000 ≤ i ∧ i ≤ 1000 ∧ ∃ r, getI vs i = some r ∧ K r
  | .str s => wInt q fun i => 0 ≤ i ∧ i ≤ 1000000 ∧ ∃ r, s[i.toNat]? = some r ∧ K (.str [r])
  | .ref j => (match σ.at_ j with
      | some (.list vs) => wInt q fun i => ∃ r, getI vs i = some r ∧ K r
      | some (.dict kvs) => ∃ k r, kvOf q = some k ∧ kvFind kvs k = some r ∧ K r
      | _ => False)
  | _ => False

/-- a bound of a slice -/
noncomputable def bnd (n : Nat) (d : Nat) : PV → Option Nat
  | .none => some d
  | .int i => if 0 ≤ i then some (min i.toNat n) else none
  | _ => none

noncomputable def wSlc (c : Sx) (p l u : PV) (σ : St) (Q : PV → St → Prop) : Prop := match p with
  | .st v => v = .ref c.scr ∧ ∃ a b, bnd c.scrI.length 0 l = some a ∧ bnd c.scrI.length c.scrI.length u = some b ∧ Q (.ref σ.n) (σ.new (.list (((c.scrI.map .int).drop a).take (b - a))))
  | .ref j => (match σ.at_ j with
      | some (.list vs) => ∃ a b, bnd vs.length 0 l = some a ∧ bnd vs.length vs.length u = some b ∧ Q (.ref σ.n) (σ.new (.list ((vs.drop a).take (b - a))))
      | _ => False)
  | _ => False

noncomputable def wMeth (c : Sx) (σ : St) (p : PV) (x : Nat) (fn : Value) : Prop := match p with
  | .ref i => (match σ.at_ i with
      | some (.inst C fs) => fs x = none ∧ c.meth C x = some fn
      | some (.list _) => c.bmeth 0 x = some fn
      | some (.dict _) => c.bmeth 2 x = some fn
      | _ => False)
  | .str _ => c.bmeth 1 x = some fn
  | _ => False

/-- what a loop goes over -/
noncomputable def wIter (σ : St) (p : PV) (items : List PV) : Prop := match p with
  | .tup vs => items = vs
  | .ref i => σ.at_ i = some (.list items)
  | .str s => items = s.map fun x => .str [x]
  | _ => False

set_option genInjectivity false in
structure W where
  e : St → (PV → St → Prop) → (Nat → St → Prop) → Prop
  t : St → (Bool → St → Prop) → (Nat → St → Prop) → Prop
set_option genInjectivity false in
structure Ws where
  es : St → (List PV → St → Prop) → (Nat → St → Prop) → Prop
  b : BoolOp → St → (PV → St → Prop) → (Nat → St → Prop) → Prop
  t : BoolOp → St → (Bool → St → Prop) → (Nat → St → Prop) → Prop
  nil : Bool
noncomputable def W.of (e : St → (PV → St → Prop) → (Nat → St → Prop) → Prop) : W := ⟨e, fun σ Q X => e σ (fun p σ => wTruth σ p fun b => Q b σ) X⟩

/-- the exception that is handled is not chained -/
noncomputable def HdU (σ : St) : Option Nat → Prop
  | none => True
  | some h => ∃ C fs, σ.at_ h = some (.exc C fs false)

noncomputable def wGuard (σ : St) (p : PV) (items : List PV) : Prop := match p with
  | .ref i => σ.at_ i = some (.list items)
  | _ => True

noncomputable def wComp (G : St → Prop) (hd : Option Nat) (F : PV → St → (PV → St → Prop) → (Nat → St → Prop) → Prop) (id : Nat) : List PV → List PV → St → (PV → St → Prop) → Prop
  | [], acc, σ, Q => G σ ∧ HdU σ hd ∧ Q (.ref id) σ
  | x :: xs, acc, σ, Q => G σ ∧ F x σ (fun q σ₁ => σ₁.at_ id = some (.list acc) ∧ acc.length ≤ 100000 ∧ wComp G hd F id xs (acc ++ [q]) (σ₁.put id (.list (acc ++ [q]))) Q) (fun _ _ => False)

noncomputable def scut (o : BoolOp) (t : Bool) (stop go : Prop) : Prop := match o, t with
  | .And, false => stop
  | .Or, true => stop
  | _, _ => go

mutual
noncomputable def wp (c : Sx) (lv : Nat) (hd : Option Nat) : E → Loc → W
  | .lit p, ρ => .of fun σ Q X => Q p σ
  | .gl p, ρ => .of fun σ Q X => Q p σ
  | .var x, ρ => .of fun σ Q X => (match ρ x with | some p => Q p σ | none => False)
  | .bin o a b, ρ => .of fun σ Q X => (wp c lv hd a ρ).e σ (fun p σ => (wp c lv hd b ρ).e σ (fun q σ => wBin o p q σ Q) X) X
  | .neg a, ρ => .of fun σ Q X => (wp c lv hd a ρ).e σ (fun p σ => wInt p fun i => Q (.int (-i)) σ) X
  | .not a, ρ => ⟨fun σ Q X => (wp c lv hd a ρ).e σ (fun p σ => wTruth σ p fun b => Q (.bool (!b)) σ) X, fun σ Q X => (wp c lv hd a ρ).t σ (fun b σ => Q (!b) σ) X⟩
  | .cmp o a b, ρ => .of fun σ Q X => (wp c lv hd a ρ).e σ (fun p σ => (wp c lv hd b ρ).e σ (fun q σ => wCmp o p q σ Q) X) X
  | .bools o es, ρ => ⟨fun σ Q X => (wps c lv hd es ρ).b o σ Q X, fun σ Q X => (wps c lv hd es ρ).t o σ Q X⟩
  | .ite t a b, ρ => ⟨fun σ Q X => (wp c lv hd t ρ).t σ (fun b' σ => (match b' with | true => (wp c lv hd a ρ).e σ Q X | false => (wp c lv hd b ρ).e σ Q X)) X,
      fun σ Q X => (wp c lv hd t ρ).t σ (fun b' σ => (match b' with | true => (wp c lv hd a ρ).t σ Q X | false => (wp c lv hd b ρ).t σ Q X)) X⟩
  | .tup es, ρ => .of fun σ Q X => (wps c lv hd es ρ).es σ (fun ps σ => Q (.tup ps) σ) X
  | .lst es, ρ => .of fun σ Q X => (wps c lv hd es ρ).es σ (fun ps σ => Q (.ref σ.n) (σ.new (.list ps))) X
  | .dict kvs, ρ => .of fun σ Q X => (kvs.map (·.1)).Nodup ∧ kvs.length ≤ 15 ∧ Q (.ref σ.n) (σ.new (.dict (kvs.map fun x => (KV.s x.1, PV.str x.2))))
  | .attr a x, ρ => .of fun σ Q X => (wp c lv hd a ρ).e σ (fun p σ => wAttr c σ p x fun q => Q q σ) X
  | .sub a i, ρ => .of fun σ Q X => (wp c lv hd a ρ).e σ (fun p σ => (wp c lv hd i ρ).e σ (fun q σ => wSub σ p q fun r => Q r σ) X) X
  | .slc a l u, ρ => .of fun σ Q X => (wp c lv hd a ρ).e σ (fun p σ => (wp c lv hd l ρ).e σ (fun ql σ => (wp c lv hd u ρ).e σ (fun qu σ => wSlc c p ql qu σ Q) X) X) X
  | .call f es, ρ => .of fun σ Q X => (wp c lv hd f ρ).e σ (fun pf σ => wSt pf fun v => c.callee v = true ∧ (wps c lv hd es ρ).es σ (fun ps σ => CallOk c lv hd v ps σ Q X) X) X
  | .meth a x es, ρ => .of fun σ Q X => (wp c lv hd a ρ).e σ (fun p σ => ∃ fn, wMeth c σ p x fn ∧ (wps c lv hd es ρ).es σ (fun ps σ => CallOk c lv hd fn (p :: ps) σ Q X) X) X
  | .comp elt x it, ρ => .of fun σ Q X => (wp c lv hd it ρ).e σ (fun p σ => ∃ items, wIter σ p items ∧ (hd = none ∨ ∃ i, p = .ref i) ∧
      wComp (fun σ => wGuard σ p items) hd (fun v σ Q X => (wp c lv hd elt fun j => if j = x then some v else none).e σ Q X) σ.n items [] (σ.new (.list [])) Q) X
  | .bad, ρ => .of fun σ Q X => False
noncomputable def wps (c : Sx) (lv : Nat) (hd : Option Nat) : Es → Loc → Ws
  | .nil, ρ => ⟨fun σ Q X => Q [] σ, fun _ _ _ _ => False, fun o σ Q X => (match o with | .And => Q true σ | .Or => Q false σ), true⟩
  | .cons e r, ρ => ⟨fun σ Q X => (wp c lv hd e ρ).e σ (fun p σ => (wps c lv hd r ρ).es σ (fun ps σ => Q (p :: ps) σ) X) X,
      fun o σ Q X => (match (wps c lv hd r ρ).nil with
        | true => (wp c lv hd e ρ).e σ Q X
        | false => (wp c lv hd e ρ).e σ (fun p σ => wTruth σ p fun t => scut o t (Q p σ) ((wps c lv hd r ρ).b o σ Q X)) X),
      fun o σ Q X => (wp c lv hd e ρ).t σ (fun t σ => scut o t (Q t σ) ((wps c lv hd r ρ).t o σ Q X)) X, false⟩
end

noncomputable def updAll (ρ : Loc) : List Nat → List PV → Loc
  | x :: xs, p :: ps => updAll (upd ρ x p) xs ps
  | _, _ => ρ

noncomputable def wTup (p : PV) (K : List PV → Prop) : Prop := match p with
  | .tup a => K a
  | _ => False
noncomputable def wPutA (c : Sx) (σ : St) (p : PV) (x : Nat) (v : PV) (K : St → Prop) : Prop := wRef p fun i => (match σ.at_ i with
  | some (.inst C fs) => c.fld C x = true ∧ K (σ.put i (.inst C (upd fs x v)))
  | some (.exc C fs ch) => c.fld C x = true ∧ K (σ.put i (.exc C (upd fs x v) ch))
  | some (.bare C) => c.fld C x = true ∧ K (σ.put i (.exc C (upd (fun _ => none) x v) false))
  | _ => False)
noncomputable def wPutI (σ : St) (p q v : PV) (K : St → Prop) : Prop := wRef p fun j => (match σ.at_ j with
  | some (.dict kvs) => kvs.length ≤ 100000 ∧ ∃ k, keyOf q = some k ∧ (∀ x ∈ kvs, kindOf x.1 = kindOf k) ∧ K (σ.put j (.dict (kvPut kvs k v)))
  | _ => False)
/-- a value is stored at a target -/
noncomputable def wpT (c : Sx) (lv : Nat) (hd : Option Nat) (ρ : Loc) (σ : St) (v : PV) (Q : Loc → St → Prop) (X : Nat → Loc → St → Prop) : T → Prop
  | .var x => Q (upd ρ x v) σ
  | .attr a x => (wp c lv hd a ρ).e σ (fun p σ => wPutA c σ p x v fun σ => Q ρ σ) (fun i σ => X i ρ σ)
  | .sub a i => (wp c lv hd a ρ).e σ (fun p σ => (wp c lv hd i ρ).e σ (fun q σ => wPutI σ p q v fun σ => Q ρ σ) (fun i σ => X i ρ σ)) (fun i σ => X i ρ σ)
  | .tup xs => wTup v fun ps => ps.length = xs.length ∧ HdU σ hd ∧ Q (updAll ρ xs ps) σ
  | .bad => False

noncomputable def wLoop (T : Loc → St → (Bool → St → Prop) → (Nat → St → Prop) → Prop) (B : Loc → St → (Fl → Loc → St → Prop) → (Nat → Loc → St → Prop) → Prop) :
    Nat → Loc → St → (Fl → Loc → St → Prop) → (Nat → Loc → St → Prop) → Prop
  | 0, _, _, _, _ => False
  | n + 1, ρ, σ, Q, X => T ρ σ (fun b σ => (match b with
      | true => B ρ σ (fun fl ρ σ => (match fl with
          | .next => wLoop T B n ρ σ Q X
          | .cont => wLoop T B n ρ σ Q X
          | .brk => Q .next ρ σ
          | .ret p => Q (.ret p) ρ σ)) X
      | false => Q .next ρ σ)) (fun i σ => X i ρ σ)

/-- a loop over items; G: what must stand at each turn -/
noncomputable def wFor (G : St → Prop) (T : Loc → St → PV → (Loc → St → Prop) → (Nat → Loc → St → Prop) → Prop) (B : Loc → St → (Fl → Loc → St → Prop) → (Nat → Loc → St → Prop) → Prop) :
    List PV → Loc → St → (Fl → Loc → St → Prop) → (Nat → Loc → St → Prop) → Prop
  | [], ρ, σ, Q, X => G σ ∧ Q .next ρ σ
  | v :: vs, ρ, σ, Q, X => G σ ∧ T ρ σ v (fun ρ σ => B ρ σ (fun fl ρ σ => (match fl with
          | .next => wFor G T B vs ρ σ Q X
          | .cont => wFor G T B vs ρ σ Q X
          | .brk => Q .next ρ σ
          | .ret p => Q (.ret p) ρ σ)) X) X

noncomputable def wAug (o : Operator) (p q : PV) (σ : St) (Q : PV → St → Prop) : Prop := match o with
  | .Add => (match p with
      | .ref i => wRef q fun j => ∃ xs ys, σ.at_ i = some (.list xs) ∧ σ.at_ j = some (.list ys) ∧ i ≠ j ∧ xs.length + ys.length ≤ 1000000 ∧ Q (.ref i) (σ.put i (.list (xs ++ ys)))
      | .int a => wInt q fun b => Q (.int (a + b)) σ
      | .str a => wStr q fun b => a.length + b.length ≤ 1000000 ∧ Q (.str (a ++ b)) σ
      | _ => False)
  | .FloorDiv => wInt p fun a => wInt q fun b => b ≠ 0 ∧ b.natAbs < 1073741824 ∧ Q (.int (Int.fdiv a b)) σ
  | _ => False

noncomputable def wLst (σ : St) (p : PV) (K : Nat → List PV → Prop) : Prop := wRef p fun i => (match σ.at_ i with
  | some (.list vs) => K i vs
  | _ => False)
noncomputable def wSeq (σ : St) (p : PV) (K : (St → Prop) → List PV → Prop) : Prop := match p with
  | .tup vs => K (fun _ => True) vs
  | p => wLst σ p fun i vs => K (fun σ => σ.at_ i = some (.list vs)) vs
noncomputable def wExc (σ : St) (p : PV) (K : Nat → Addr → (Nat → Option PV) → Prop) : Prop := wRef p fun i => (match σ.at_ i with
  | some (.exc C fs _) => K i C fs
  | _ => False)

noncomputable def bindO (ρ : Loc) (x : Option Nat) (p : PV) : Loc := match x with | none => ρ | some y => upd ρ y p
noncomputable def clrO (ρ : Loc) (x : Option Nat) : Loc := match x with | none => ρ | some y => clr ρ y

noncomputable def wRaise (hd : Option Nat) (j : Nat) (σ : St) (C : Addr) (fs : Nat → Option PV) (X : St → Prop) : Prop := match hd with
  | none => X σ
  | some h => (h = j ∧ X σ) ∨ (h ≠ j ∧ (∃ C' fs', σ.at_ h = some (.exc C' fs' false)) ∧ X (σ.put j (.exc C fs true)))

mutual
noncomputable def wpS (c : Sx) (lv : Nat) : S → Option Nat → Loc → St → (Fl → Loc → St → Prop) → (Nat → Loc → St → Prop) → Prop
  | .expr e, hd, ρ, σ, Q, X => (wp c lv hd e ρ).e σ (fun _ σ => Q .next ρ σ) (fun i σ => X i ρ σ)
  | .pass, hd, ρ, σ, Q, X => Q .next ρ σ
  | .brk, hd, ρ, σ, Q, X => Q .brk ρ σ
  | .cont, hd, ρ, σ, Q, X => Q .cont ρ σ
  | .ret e, hd, ρ, σ, Q, X => (wp c lv hd e ρ).e σ (fun p σ => Q (.ret p) ρ σ) (fun i σ => X i ρ σ)
  | .ret0, hd, ρ, σ, Q, X => Q (.ret .none) ρ σ
  | .asg t e, hd, ρ, σ, Q, X => (wp c lv hd e ρ).e σ (fun p σ => wpT c lv hd ρ σ p (fun ρ σ => Q .next ρ σ) X t) (fun i σ => X i ρ σ)
  | .aug x o e, hd, ρ, σ, Q, X => (match ρ x with
      | some p => (wp c lv hd e ρ).e σ (fun q σ => wAug o p q σ fun r σ => Q .next (upd ρ x r) σ) (fun i σ => X i ρ σ)
      | none => False)
  | .ite t a b, hd, ρ, σ, Q, X => (wp c lv hd t ρ).t σ (fun bl σ => (match bl with | true => wpSs c lv a hd ρ σ Q X | false => wpSs c lv b hd ρ σ Q X)) (fun i σ => X i ρ σ)
  | .while_ t b, hd, ρ, σ, Q, X => ∃ n, wLoop (fun ρ => (wp c lv hd t ρ).t) (fun ρ σ Q X => wpSs c lv b hd ρ σ Q X) n ρ σ Q X
  | .for_ t e b, hd, ρ, σ, Q, X => (wp c lv hd e ρ).e σ (fun p σ => hd = none ∧ wSeq σ p fun G vs => wFor G (fun ρ σ v Q X => wpT c lv hd ρ σ v Q X t) (fun ρ σ Q X => wpSs c lv b hd ρ σ Q X) vs ρ σ Q X) (fun i σ => X i ρ σ)
  | .forR t e b, hd, ρ, σ, Q, X => (wp c lv hd e ρ).e σ (fun p σ => wInt p fun n => hd = none ∧ -1000000 ≤ n ∧ n ≤ 1000000 ∧
      wFor (fun _ => True) (fun ρ σ v Q X => wpT c lv hd ρ σ v Q X t) (fun ρ σ Q X => wpSs c lv b hd ρ σ Q X) ((List.range n.toNat).map fun k => PV.int (k : Nat)) ρ σ Q X) (fun i σ => X i ρ σ)
  | .forV t e b, hd, ρ, σ, Q, X => (wp c lv hd e ρ).e σ (fun p σ => hd = none ∧ wLst σ p fun i vs => wFor (fun σ => σ.at_ i = some (.list vs)) (fun ρ σ v Q X => wpT c lv hd ρ σ v Q X t) (fun ρ σ Q X => wpSs c lv b hd ρ σ Q X) vs.reverse ρ σ Q X) (fun i σ => X i ρ σ)
  | .raise_ e, hd, ρ, σ, Q, X => (wp c lv hd e ρ).e σ (fun p σ => wExc σ p fun j C fs => C = c.excC ∧ wRaise hd j σ C fs (X j ρ)) (fun i σ => X i ρ σ)
  | .try_ b x h, hd, ρ, σ, Q, X => wpSs c lv b hd ρ σ Q (fun i ρ σ => wpSs c lv h (some i) (bindO ρ x (.ref i)) σ (fun fl ρ σ => Q fl (clrO ρ x) σ) (fun j ρ σ => X j (clrO ρ x) σ))
  | .bad, hd, ρ, σ, Q, X => False
noncomputable def wpSs (c : Sx) (lv : Nat) : Ss → Option Nat → Loc → St → (Fl → Loc → St → Prop) → (Nat → Loc → St → Prop) → Prop
  | .nil, hd, ρ, σ, Q, X => Q .next ρ σ
  | .cons s r, hd, ρ, σ, Q, X => wpS c lv s hd ρ σ (fun fl ρ σ => (match fl with
      | .next => wpSs c lv r hd ρ σ Q X
      | fl => Q fl ρ σ)) X
end

end Mine
end

section
open PySem PySem.W PyProof.Rows PySem.Calls
set_option Elab.async false
set_option linter.unusedVariables false
set_option maxRecDepth 100000
namespace Mine

section
variable {c : Cx} {g : Gh} {held : List (Addr × Obj)} {fr : List FrG} {σ : St} {s s' : Shared} {Q : PV → St → Prop} {X : Nat → St → Prop} {p q : PV} {u v : Value}

theorem VRep.ref' {h : Heap} {loc : Nat → Addr} {n i : Nat} {a : Addr} (hi : i < n) (e : loc i = a) : VRep h loc n (.ref i) (.ref a) := e ▸ .ref i hi
theorem qv (R : Rep c g held fr σ s) (hp : VRep s.heap g.loc σ.n p v) (hQ : Q p σ) : QV c held fr g σ.n s.heap Q v s := ⟨g, σ, p, R, Le.refl .., hp, hQ⟩
theorem qvt (R : Rep c g held fr σ s) {k : Nat} (hp : VRep s.heap g.loc σ.n p v) (hQ : Q p σ) : QV c held fr g σ.n s.heap Q v { s with toks := k } := ⟨g, σ, p, R.tok k, Le.refl .., hp, hQ⟩
theorem qvh (R : Rep c g held fr σ s) {h : Heap} (hh : h = s.heap) {k : Nat} (hp : VRep s.heap g.loc σ.n p v) (hQ : Q p σ) : QV c held fr g σ.n s.heap Q v { s with heap := h, toks := k } := by subst hh; exact qvt R hp hQ

theorem QV.after {g' : Gh} {σ' : St} {n : Nat} {h : Heap} {v : Value} (L : Le g n h g' σ'.n s'.heap) {s'' : Shared} (x : QV c held fr g' σ'.n s'.heap Q v s'') : QV c held fr g n h Q v s'' :=
  x.casesOn fun g₂ σ₂ p a b d e => ⟨g₂, σ₂, p, a, L.trans b, d, e⟩
theorem XV.after {g' : Gh} {σ' : St} {n : Nat} {h : Heap} {v : Value} (L : Le g n h g' σ'.n s'.heap) {s'' : Shared} (x : XV c held fr g' σ'.n s'.heap X v s'') : XV c held fr g n h X v s'' :=
  x.casesOn fun g₂ σ₂ p a b d e f => ⟨g₂, σ₂, p, a, L.trans b, d, e, f⟩

section
variable {h : Heap} {loc : Nat → Addr} {n : Nat} {u : Value} {C : Value → Prop}
@[elab_as_elim] theorem wInt_e {K : Int → Prop} (hp : VRep h loc n p u) (w : wInt p K) (k : ∀ a t, K a → C (.int a t)) : C u := by
  cases hp with
  | int a t => exact k a t w
  | _ => exact False.elim w
@[elab_as_elim] theorem wStr_e {K : List Nat → Prop} (hp : VRep h loc n p u) (w : wStr p K) (k : ∀ a t, K a → C (.str ⟨a.toArray⟩ t)) : C u := by
  cases hp with
  | str a t => exact k a t w
  | _ => exact False.elim w
@[elab_as_elim] theorem wRef_e {K : Nat → Prop} (hp : VRep h loc n p u) (w : wRef p K) (k : ∀ i, i < n → K i → C (.ref (loc i))) : C u := by
  cases hp with
  | ref i hi => exact k i hi w
  | _ => exact False.elim w
@[elab_as_elim] theorem wSt_e {K : Value → Prop} (hp : VRep h loc n p u) (w : wSt p K) (k : ∀ a, K a → C a) : C u := by
  cases hp with
  | st v _ => exact k _ w
  | _ => exact False.elim w
@[elab_as_elim] theorem wTup_e {K : List PV → Prop} (hp : VRep h loc n p u) (w : wTup p K) (k : ∀ vs a xs, TupAt h a xs → VReps h loc n vs xs → K vs → C (.ref a)) : C u := by
  cases hp with
  | tup ha r => exact k _ _ _ ha r w
  | _ => exact False.elim w
@[elab_as_elim] theorem wLst_e {K : Nat → List PV → Prop} (hp : VRep h loc n p u) (w : wLst σ p K) (k : ∀ i vs, i < n → p = .ref i → σ.at_ i = some (.list vs) → K i vs → C (.ref (loc i))) : C u := by
  cases hp with
  | ref i hi =>
    change (match σ.at_ i with | some (.list vs) => K i vs | _ => False) at w
    cases e : σ.at_ i with
    | none => rw [e] at w; exact w.elim
    | some o =>
      rw [e] at w
      cases o with
      | list vs => exact k i vs hi rfl e w
      | _ => exact w.elim
  | _ => exact False.elim w
@[elab_as_elim] theorem wExc_e {K : Nat → Addr → (Nat → Option PV) → Prop} (hp : VRep h loc n p u) (w : wExc σ p K) (k : ∀ i A fs ch, i < n → σ.at_ i = some (.exc A fs ch) → K i A fs → C (.ref (loc i))) : C u := by
  cases hp with
  | ref i hi =>
    change (match σ.at_ i with | some (.exc A fs _) => K i A fs | _ => False) at w
    cases e : σ.at_ i with
    | none => rw [e] at w; exact w.elim
    | some o =>
      rw [e] at w
      cases o with
      | exc A fs ch => exact k i A fs ch hi e w
      | _ => exact w.elim
  | _ => exact False.elim w
@[elab_as_elim] theorem VRep.intE {a : Int} (hp : VRep h loc n (.int a) u) (k : ∀ t, C (.int a t)) : C u := wInt_e (K := fun b => b = a) hp rfl fun _ t e => e ▸ k t
@[elab_as_elim] theorem VRep.strE {a : List Nat} (hp : VRep h loc n (.str a) u) (k : ∀ t, C (.str ⟨a.toArray⟩ t)) : C u := wStr_e (K := fun b => b = a) hp rfl fun _ t e => e ▸ k t
@[elab_as_elim] theorem VRep.refE {i : Nat} (hp : VRep h loc n (.ref i) u) (k : i < n → C (.ref (loc i))) : C u := wRef_e (K := fun j => j = i) hp rfl fun j hj e => by subst e; exact k hj
@[elab_as_elim] theorem VRep.tupE {ps : List PV} (hp : VRep h loc n (.tup ps) u) (k : ∀ a xs, TupAt h a xs → VReps h loc n ps xs → C (.ref a)) : C u := by
  cases hp with | tup ha r => exact k _ _ ha r
@[elab_as_elim] theorem VRep.stE {w : Value} (hp : VRep h loc n (.st w) u) (k : handedIn w = true → C w) : C u := by
  cases hp with | st _ hv => exact k hv
@[elab_as_elim] theorem VRep.noneE (hp : VRep h loc n .none u) (k : C .none) : C u := by
  cases hp; exact k
@[elab_as_elim] theorem VRep.boolE {b : Bool} (hp : VRep h loc n (.bool b) u) (k : C (.bool b)) : C u := by
  cases hp; exact k
end

theorem VReps.rep {h : Heap} {loc : Nat → Addr} {n : Nat} {ps : List PV} {vs : List Value} (r : VReps h loc n ps vs) : ∀ k, VReps h loc n (List.replicate k ps).flatten (List.replicate k vs).flatten
  | 0 => .nil
  | k + 1 => by rw [List.replicate_succ, List.replicate_succ, List.flatten_cons, List.flatten_cons]; exact r.append (VReps.rep r k)

/-- a list object of the store -/
inductive LIs (h : Heap) (loc : Nat → Addr) (n i : Nat) (xs : List PV) : Prop where
  | mk (vs : List Value) (k : Nat) (a1 : IsL h (loc i) vs.toArray k) (a2 : VReps h loc n xs vs)
theorem Rep.list {i : Nat} {xs : List PV} (R : Rep c g held fr σ s) (hi : σ.at_ i = some (.list xs)) : LIs s.heap g.loc σ.n i xs := (R.objs i _ hi).2.body.casesOn fun _ vs k a b => ⟨vs, k, a, b⟩
theorem Rep.llen {i : Nat} {xs : List PV} (R : Rep c g held fr σ s) (hi : σ.at_ i = some (.list xs)) : xs.length ≤ 2000000 := (R.objs i _ hi).2.body.casesOn fun a _ _ _ _ => a
theorem Rep.lt {i : Nat} {o : AObj} (R : Rep c g held fr σ s) (hi : σ.at_ i = some o) : i < σ.n := (R.objs i _ hi).1
theorem newMain_loc {g : Gh} {n : Nat} {a : Addr} : (g.newMain n a).loc n = a := if_pos rfl
theorem newMain_role {g : Gh} {n : Nat} {a : Addr} : (g.newMain n a).role ((g.newMain n a).loc n) = .main n := by rw [newMain_loc]; exact if_pos rfl

/-- a new list -/
theorem newL (R : Rep c g held fr σ s) {xs : List PV} {vs : List Value} (hx : VReps s.heap g.loc σ.n xs vs) (hl : xs.length ≤ 2000000) (hQ : Q (.ref σ.n) (σ.new (.list xs))) {k : Nat} :
    QV c held fr g σ.n s.heap Q (.ref s.heap.objs.size) { s with heap := s.heap.push { cls := .type "list", data := .seq vs.toArray }, toks := k } :=
  have kp : ∀ b o, s.heap.get? b = some o → (s.heap.push { cls := .type "list", data := .seq vs.toArray }).get? b = some o := fun b o e => Heap.get?_push_of_some _ e
  have z := R.new (o := .list xs) (s' := { s with heap := s.heap.push { cls := .type "list", data := .seq vs.toArray }, toks := k }) (Heap.get?_none_of_le (Nat.le_refl _)) kp rfl rfl
    ⟨newMain_role, hl, vs, 0, by rw [newMain_loc]; exact IsL.new s.heap vs.toArray, hx.move (fun _ _ t => t.casesOn fun o k t1 t2 t3 => ⟨o, k, kp _ _ t1, t2, t3⟩) (fun j hj => if_neg (ne_of_lt' hj)) (Nat.le_succ _)⟩
  ⟨_, _, _, z.1, z.2, .ref' (Nat.lt_succ_self _) newMain_loc, hQ⟩

/-- a new tuple -/
theorem newT (R : Rep c g held fr σ s) {xs : List PV} {vs : List Value} (hx : VReps s.heap g.loc σ.n xs vs) (hQ : Q (.tup xs) σ) {k : Nat} :
    QV c held fr g σ.n s.heap Q (.ref s.heap.objs.size) { s with heap := s.heap.push { cls := .type "tuple", data := .seq vs.toArray }, toks := k } := by
  obtain ⟨R', L⟩ := R.push { cls := .type "tuple", data := .seq vs.toArray }
  exact ⟨g, σ, _, R'.tok k, L, .tup ⟨_, 0, Heap.get?_push_size _ rfl, rfl, rfl⟩ (L.reps hx), hQ⟩

variable {A : Around} {E : Value → Shared → Prop}

theorem str_add (a b : List Nat) : (⟨a.toArray⟩ : Str) ++ (⟨b.toArray⟩ : Str) = ⟨(a ++ b).toArray⟩ := congrArg Str.mk (List.append_toArray a b)
theorem add_str_ok (R : Rep c g held fr σ s) {a b : List Nat} {t t' : Tok} (hl : a.length + b.length ≤ 1000000) (h : Q (.str (a ++ b)) σ) : wpAny (model c.prog c.w) A (binaryOp .Add (.str ⟨a.toArray⟩ t) (.str ⟨b.toArray⟩ t')) (QV c held fr g σ.n s.heap Q) E s :=
  PyProof.Rows.add_str (fun t' tk => by rw [str_add]; exact qvt R (.str _ _) h) (Nat.le_trans hl (by decide))
theorem add_list_ok (R : Rep c g held fr σ s) {i j : Nat} {xs ys : List PV} (hi : σ.at_ i = some (.list xs)) (hj : σ.at_ j = some (.list ys)) (hl : xs.length + ys.length ≤ 1000000) (h : Q (.ref σ.n) (σ.new (.list (xs ++ ys)))) :
    wpAny (model c.prog c.w) A (binaryOp .Add (.ref (g.loc i)) (.ref (g.loc j))) (QV c held fr g σ.n s.heap Q) E s :=
  (R.list hi).casesOn fun vs k a1 a2 => (R.list hj).casesOn fun ws k' b1 b2 => P.add_list a1 b1
    (by rw [List.append_toArray]; exact newL R (a2.append b2) (by rw [List.length_append]; exact Nat.le_trans hl (by decide)) h)
    (by rw [List.size_toArray, List.size_toArray, a2.length, b2.length]; exact Nat.le_trans hl (by decide))
theorem mul_list_ok (R : Rep c g held fr σ s) {i : Nat} {xs : List PV} {k : Int} {t : Tok} (hi : σ.at_ i = some (.list xs)) (h0 : 0 ≤ k) (hk : k ≤ 1000) (hl : xs.length ≤ 100) (h : Q (.ref σ.n) (σ.new (.list ((List.replicate k.toNat xs).flatten)))) :
    wpAny (model c.prog c.w) A (binaryOp .Mult (.ref (g.loc i)) (.int k t)) (QV c held fr g σ.n s.heap Q) E s := by
  refine (R.list hi).casesOn fun vs m a1 a2 => ?_
  have hkn : k.toNat ≤ 1000 := Int.toNat_le_toNat hk
  have hmul : vs.length * k.toNat ≤ 100 * 1000 := Nat.mul_le_mul (by rw [a2.length]; exact hl) hkn
  refine wpAny_binaryOp_repeat_ref (T := "list") (U := "int") (by decide) ⟨_, a1, rfl⟩ (fun s' => typeIs_int s' k t) noFill_list_mul F.fills_int_mul F.slot_int_rmul repeat_list F.slot_int_index.lookup
    (call_meets F.slot_int_rmul (typeIs_int s k t) F.entry_int_rmul (F.args_int_rmul_2 _ _) (int___rmul___int_list k t (g.loc i) vs.toArray m)
      ⟨a1, rfl, ⟨_, a1, rfl⟩, call_meets F.slot_list_mul ⟨_, a1, rfl⟩ F.entry_list_mul (F.args_list_mul_2 _ _)
        (AutoListH.list___mul___list_int_3 (g.loc i) vs.toArray m k t (by simp [Builtin.List.listFitsIndex]; omega) (by rw [List.size_toArray]; omega) (by simp [Builtin.List.listTooLong, sizeLine]; omega))
        ⟨a1, ?_⟩⟩)
  rw [listMul_foldl_if]
  refine newL R (VReps.rep a2 k.toNat) ?_ h
  rw [show (List.replicate k.toNat xs).flatten.length = k.toNat * xs.length by simp]
  exact Nat.le_trans (Nat.mul_le_mul hkn hl) (by decide)

theorem bin_ok (R : Rep c g held fr σ s) {o : Operator} (hp : VRep s.heap g.loc σ.n p u) (hq : VRep s.heap g.loc σ.n q v) (h : wBin o p q σ Q) :
    wpAny (model c.prog c.w) A (binaryOp o u v) (QV c held fr g σ.n s.heap Q) E s := by
  cases o with
  | Add =>
    cases hp with
    | int a t => exact wInt_e hq h fun b t' h => PyProof.Rows.add_int (qvt R (.int _ _) h)
    | str a t => exact wStr_e hq h fun b t' h => add_str_ok R h.1 h.2
    | ref i hi => exact wRef_e hq h fun j _ h => h.elim fun xs h => h.elim fun ys h => add_list_ok R h.1 h.2.1 h.2.2.1 h.2.2.2
    | _ => exact False.elim h
  | Sub => exact wInt_e hp h fun a t h => wInt_e hq h fun b t' h => PyProof.Rows.sub_int' (qvt R (.int _ _) h)
  | Mult =>
    cases hp with
    | int a t => exact wInt_e hq h fun b t' h => PyProof.Rows.mul_int (qvt R (.int _ _) h.2) (IntMulOk.of_right (intBits_le_64 (by omega) (by omega)))
    | ref i hi => exact wInt_e hq h fun b t' h => h.elim fun xs h => mul_list_ok R h.1 h.2.1 h.2.2.1 h.2.2.2.1 h.2.2.2.2
    | _ => exact False.elim h
  | FloorDiv => exact wInt_e hp h fun a t h => wInt_e hq h fun b t' h => PyProof.Rows.floordiv_int h.1 (qvt R (.int _ _) h.2.2) (.inl (PyProof.noPylong_small h.2.1))
  | Mod => exact wInt_e hp h fun a t h => wInt_e hq h fun b t' h => PyProof.Rows.mod_int' h.1 (qvt R (.int _ _) h.2)
  | Pow =>
    exact wInt_e hp h fun a t h => wInt_e hq h fun b t' h => by
      obtain ⟨rfl, rfl, h⟩ := h
      exact PyProof.Rows.pow_int (by decide) (by decide +kernel) (qvt R (.int _ _) h)
  | _ => exact False.elim h
end
end Mine
end

section
open PySem PySem.W PyProof.Rows PySem.Calls
set_option Elab.async false
set_option linter.unusedVariables false
set_option maxRecDepth 100000
namespace Mine

section
variable {c : Cx} {g : Gh} {held : List (Addr × Obj)} {fr : List FrG} {σ : St} {s s' : Shared} {Q : PV → St → Prop} {X : Nat → St → Prop} {p q : PV} {u v : Value}
variable {A : Around} {E : Value → Shared → Prop}

theorem TupAt.isTup {h : Heap} {a : Addr} {xs : List Value} (t : TupAt h a xs) : IsTup h a xs.toArray := t.casesOn fun o k a1 a2 a3 => ⟨o, a1, a2, k, a3⟩

/-- a truth, and a state with the same heap -/
inductive BV (c : Cx) (held : List (Addr × Obj)) (fr : List FrG) (g : Gh) (σ : St) (h : Heap) (K : Bool → Prop) (b : Bool) (s' : Shared) : Prop where
  | mk (e : s'.heap = h) (R : Rep c g held fr σ s') (k : K b)

theorem not_empty {α β : Type} {xs : List α} {ys : List β} (h : xs.length = ys.length) : (!xs.toArray.isEmpty) = !ys.isEmpty := by
  rw [List.isEmpty_toArray]
  cases xs <;> cases ys <;> first | rfl | cases h
theorem len_toArray {α : Type} {xs : List α} {n : Nat} (h : xs.length ≤ n) (hn : n < 2 ^ 63) : ((xs.toArray.size : Nat) : Int) < 2 ^ 63 := by
  rw [List.size_toArray]; omega
theorem truth_ok (R : Rep c g held fr σ s) {K : Bool → Prop} (hp : VRep s.heap g.loc σ.n p u) (h : wTruth σ p K) :
    wpAny (model c.prog c.w) A (truthy u) (BV c held fr g σ s.heap K) E s := by
  cases hp with
  | none => exact PyProof.Rows.truthy_none ⟨rfl, R, h⟩
  | bool b => exact wpAny_truthy_bool ⟨rfl, R, h⟩
  | int i t => exact PyProof.Rows.truthy_int ⟨rfl, R, by rw [show (i != 0) = decide (i ≠ 0) by by_cases hi : i = 0 <;> simp [hi]]; exact h⟩
  | str x t =>
    refine P.truthy_str (Int.not_le.mpr (len_toArray h.1 (by decide))) ⟨rfl, R.tok _, ?_⟩
    have : ((((⟨x.toArray⟩ : Str).length : Nat) : Int) != 0) = !x.isEmpty := by
      show (((x.toArray.size : Nat) : Int) != 0) = _
      cases x <;> rfl
    rw [this]; exact h.2
  | tup ha r => exact truthy_tuple ha.isTup (len_toArray (r.length ▸ h.1) (by decide)) ⟨rfl, R.tok _, by rw [not_empty r.length]; exact h.2⟩
  | ref i hi =>
    change (match σ.at_ i with
      | some (.list vs) => K (!vs.isEmpty)
      | _ => False) at h
    cases e : σ.at_ i with
    | none => rw [e] at h; exact h.elim
    | some o =>
      rw [e] at h
      cases o with
      | list vs => exact (R.list e).casesOn fun xs k a1 a2 => wpAny_truthy_list a1.isList (len_toArray (a2.length ▸ R.llen e) (by decide)) ⟨rfl, R.tok _, by rw [not_empty a2.length]; exact h⟩
      | _ => exact h.elim
  | st v hv => exact False.elim h

theorem mapM_cons_some {α β : Type} {f : α → Option β} {x : α} {xs : List α} {ys : List β} (h : (x :: xs).mapM f = some ys) : ∃ y ys', ys = y :: ys' ∧ f x = some y ∧ xs.mapM f = some ys' := by
  rw [List.mapM_cons] at h
  obtain ⟨y, h1, h⟩ := Option.bind_eq_some_iff.mp h
  obtain ⟨ys', h2, h⟩ := Option.bind_eq_some_iff.mp h
  exact ⟨y, ys', (Option.some.inj h).symm, h1, h2⟩

/-- a value as data is read in the heap, and can be laid -/
structure DK (h : Heap) (loc : Nat → Addr) (m n : Nat) (p : PV) (d : PyData) : Prop where
  rd : ∀ u, VRep h loc m p u → ∃ as, Reads h u d as
  lay : d.canLay0 = true
  dep : d.depth ≤ n
structure DKs (h : Heap) (loc : Nat → Addr) (m n : Nat) (p : List PV) (d : List PyData) : Prop where
  rd : ∀ u, VReps h loc m p u → ∃ as, ReadsAll h u d as
  lay : PyData.canLayAll0 d = true
  dep : PyData.depthAll d ≤ n
theorem dks_of {h : Heap} {loc : Nat → Addr} {m n : Nat} {f : PV → Option PyData} (ih : ∀ p d, f p = some d → DK h loc m n p d) (vs : List PV) : ∀ ds, vs.mapM f = some ds → DKs h loc m n vs ds := by
  induction vs with
  | nil => intro ds h; cases h; exact ⟨fun u r => r.nilE ⟨_, .nil⟩, rfl, Nat.zero_le _⟩
  | cons p ps hi =>
    intro ds h
    obtain ⟨y, ys, rfl, e3, e4⟩ := mapM_cons_some h
    have a := ih _ _ e3
    have b := hi _ e4
    exact ⟨fun u r => r.consE fun v vs r1 r2 => (a.rd _ r1).elim fun as ha => (b.rd _ r2).elim fun bs hb => ⟨_, .cons ha hb⟩, Bool.and_eq_true_iff.mpr ⟨a.lay, b.lay⟩, Nat.max_le.mpr ⟨a.dep, b.dep⟩⟩
theorem dk_of (R : Rep c g held fr σ s) : ∀ (n : Nat) (p : PV) (d : PyData), dOf σ n p = some d → DK s.heap g.loc σ.n n p d := by
  intro n
  induction n with
  | zero => intro p d h; cases h
  | succ n ih =>
    intro p d h
    cases p with
    | none => cases h; exact ⟨fun u r => r.noneE ⟨_, .none⟩, rfl, Nat.zero_le _⟩
    | int i => cases h; exact ⟨fun u r => r.intE fun _ => ⟨_, .int _ _⟩, rfl, Nat.zero_le _⟩
    | str x =>
      change (if PyData.strOk ⟨x.toArray⟩ then some (PyData.str ⟨x.toArray⟩) else none) = some d at h
      by_cases hx : PyData.strOk ⟨x.toArray⟩ = true
      · rw [if_pos hx] at h; cases h; exact ⟨fun u r => r.strE fun _ => ⟨_, .str _ _⟩, hx, Nat.zero_le _⟩
      · rw [if_neg hx] at h; cases h
    | tup vs =>
      obtain ⟨ds, hd, rfl⟩ := Option.map_eq_some_iff.mp h
      have z := dks_of ih vs ds hd
      exact ⟨fun u r => r.tupE fun a xs ha r => ha.casesOn fun o k a1 a2 a3 => (z.rd _ r).elim fun as ra => ⟨as, .tuple a1 a2 a3 ra⟩, z.lay, Nat.succ_le_succ z.dep⟩
    | ref i =>
      change (match σ.at_ i with
        | some (.list vs) => (vs.mapM (dOf σ n)).map PyData.list
        | _ => none) = some d at h
      cases e : σ.at_ i with
      | none => rw [e] at h; cases h
      | some o =>
        rw [e] at h
        cases o with
        | list vs =>
          obtain ⟨ds, hd, rfl⟩ := Option.map_eq_some_iff.mp h
          have z := dks_of ih vs ds hd
          exact ⟨fun u r => r.refE fun _ => (R.list e).casesOn fun xs k a1 a2 => (z.rd _ a2).elim fun as ra => ⟨_, .list a1 rfl rfl ra⟩, z.lay, Nat.succ_le_succ z.dep⟩
        | _ => cases h
    | _ => cases h

theorem DK.shaped {h : Heap} {loc : Nat → Addr} {m : Nat} {p : PV} {d : PyData} (z : DK h loc m 60 p d) : SeqAt.shaped d = true := by
  unfold SeqAt.shaped
  rw [z.lay, Bool.true_and]
  exact decide_eq_true (Nat.le_trans z.dep (by decide))

theorem strs_are {h : Heap} {loc : Nat → Addr} {n : Nat} (xs : List (List Nat)) : ∀ {vs : List Value}, VReps h loc n (xs.map .str) vs → StrsAre vs (xs.map fun x => ⟨x.toArray⟩) := by
  induction xs with
  | nil => intro vs r; exact VReps.nilE r .nil
  | cons x xs ih => intro vs r; exact VReps.consE r fun v vs r1 r2 => r1.strE fun t => .cons _ _ (ih r2)
theorem str_inj' {a b : List Nat} : (⟨a.toArray⟩ : Str) = ⟨b.toArray⟩ ↔ a = b := ⟨fun e => congrArg (fun s : Str => s.cps.toList) e, fun e => e ▸ rfl⟩
theorem str_inj {a b : List Nat} : ((⟨a.toArray⟩ : Str) == ⟨b.toArray⟩) = decide (a = b) := by
  rw [Bool.eq_iff_iff, beq_iff_eq, decide_eq_true_eq]; exact str_inj'
theorem any_strs (xs : List (List Nat)) (a : List Nat) : ((xs.map fun x => (⟨x.toArray⟩ : Str)).any (· == ⟨a.toArray⟩)) = xs.contains a := by
  induction xs with
  | nil => rfl
  | cons x xs ih =>
    rw [List.map_cons, List.any_cons, List.contains_cons, ih, str_inj]
    exact congrArg (· || _) (by rw [Bool.eq_iff_iff, decide_eq_true_eq, beq_iff_eq]; exact eq_comm)
end
end Mine
end

section
open PySem PySem.W PyProof.Rows PySem.Calls
set_option Elab.async false
set_option linter.unusedVariables false
set_option maxRecDepth 100000
namespace Mine

noncomputable def wFind (ws : List (KV × Value)) (k : KV) : Option Value := (ws.find? fun x => x.1 == k).map (·.2)
noncomputable def wPut (ws : List (KV × Value)) (k : KV) (v : Value) : List (KV × Value) := if ws.any (fun x => x.1 == k) then ws.map (fun x => if x.1 = k then (x.1, v) else x) else ws ++ [(k, v)]

section
variable {h : Heap} {loc : Nat → Addr} {n : Nat}
/-- the same keys, and values that say the same -/
theorem par_ind {C : List (KV × PV) → List (KV × Value) → Prop} (h0 : C [] []) (h1 : ∀ k p v kvs ws, VRep h loc n p v → C kvs ws → C ((k, p) :: kvs) ((k, v) :: ws)) (kvs : List (KV × PV)) :
    ∀ ws : List (KV × Value), ws.map (·.1) = kvs.map (·.1) → VReps h loc n (kvs.map (·.2)) (ws.map (·.2)) → C kvs ws := by
  induction kvs with
  | nil => intro ws e _; rw [List.map_eq_nil_iff.mp e]; exact h0
  | cons x kvs ih =>
    intro ws e r
    cases ws with
    | nil => exact absurd e.symm (List.cons_ne_nil _ _)
    | cons y ws =>
      cases y with | mk a b =>
      cases x with | mk a' b' =>
      obtain rfl : a = a' := (List.cons.inj e).1
      cases r with | cons r1 r2 => exact h1 _ _ _ _ _ r1 (ih ws (List.cons.inj e).2 r2)
theorem find_par {kvs : List (KV × PV)} {ws : List (KV × Value)} (e : ws.map (·.1) = kvs.map (·.1)) (r : VReps h loc n (kvs.map (·.2)) (ws.map (·.2))) (k : KV) :
    (kvFind kvs k = none ∧ wFind ws k = none) ∨ ∃ p v, kvFind kvs k = some p ∧ wFind ws k = some v ∧ VRep h loc n p v :=
  par_ind (C := fun kvs ws => (kvFind kvs k = none ∧ wFind ws k = none) ∨ ∃ p v, kvFind kvs k = some p ∧ wFind ws k = some v ∧ VRep h loc n p v) (.inl ⟨rfl, rfl⟩) (fun k' p v kvs ws x ih => by
    unfold kvFind wFind at ih ⊢
    rw [List.find?_cons, List.find?_cons]
    dsimp only
    cases k' == k with
    | true => exact .inr ⟨p, v, rfl, rfl, x⟩
    | false => exact ih) kvs ws e r
theorem any_par {kvs : List (KV × PV)} {ws : List (KV × Value)} (e : ws.map (·.1) = kvs.map (·.1)) (k : KV) : ws.any (fun x => x.1 == k) = kvs.any (fun x => x.1 == k) :=
  (List.any_map (f := fun x : KV × Value => x.1) (p := (· == k))).symm.trans ((congrArg (·.any (· == k)) e).trans (List.any_map (f := fun x : KV × PV => x.1) (p := (· == k))))
theorem any_find {ws : List (KV × Value)} {k : KV} : ws.any (fun x => x.1 == k) = (wFind ws k).isSome := by
  unfold wFind
  induction ws with
  | nil => rfl
  | cons x ws ih =>
    rw [List.any_cons, List.find?_cons]
    cases x.1 == k with
    | true => rfl
    | false => exact ih
theorem put_par {kvs : List (KV × PV)} {ws : List (KV × Value)} (e : ws.map (·.1) = kvs.map (·.1)) (r : VReps h loc n (kvs.map (·.2)) (ws.map (·.2))) (k : KV) {p : PV} {v : Value} (x : VRep h loc n p v) :
    (wPut ws k v).map (·.1) = (kvPut kvs k p).map (·.1) ∧ VReps h loc n ((kvPut kvs k p).map (·.2)) ((wPut ws k v).map (·.2)) := by
  unfold wPut kvPut
  rw [any_par e k]
  split
  · refine par_ind (C := fun kvs ws => (ws.map fun x => if x.1 = k then (x.1, v) else x).map (·.1) = (kvs.map fun x => if x.1 = k then (x.1, p) else x).map (·.1) ∧
      VReps h loc n ((kvs.map fun x => if x.1 = k then (x.1, p) else x).map (·.2)) ((ws.map fun x => if x.1 = k then (x.1, v) else x).map (·.2))) ⟨rfl, .nil⟩ (fun k' p' v' kvs ws x' ih => ?_) kvs ws e r
    have q : (if k' = k then (k', v) else (k', v')).1 = (if k' = k then (k', p) else (k', p')).1 ∧ VRep h loc n (if k' = k then (k', p) else (k', p')).2 (if k' = k then (k', v) else (k', v')).2 := by
      by_cases hk : k' = k
      · rw [if_pos hk, if_pos hk]; exact ⟨rfl, x⟩
      · rw [if_neg hk, if_neg hk]; exact ⟨rfl, x'⟩
    exact ⟨List.cons_eq_cons.mpr ⟨q.1, ih.1⟩, .cons q.2 ih.2⟩
  · rw [List.map_append, List.map_append, List.map_append, List.map_append, e]
    exact ⟨rfl, r.snoc x⟩
end

theorem par_nil {prog : Program} {w : World} {K : Type} [DecidableEq K] {knd : KeyKind prog w K} {es : List DictEntry} (h : Pairs knd es []) : es = [] := by
  have := h.length
  cases es with
  | nil => rfl
  | cons _ _ => cases this
theorem no_mem {es : Array DictEntry} (e : es.toList = []) {P : DictEntry → Prop} : ∀ x ∈ es, P x := fun x hx => absurd (e ▸ Array.mem_toList_iff.mpr hx) List.not_mem_nil
theorem dictOf_nil {prog : Program} {w : World} {K K' : Type} [DecidableEq K] [DecidableEq K'] {knd : KeyKind prog w K} (knd' : KeyKind prog w K') {h : Heap} {a : Addr} (d : h.DictOf knd a []) : h.DictOf knd' a [] :=
  d.imp fun o => Exists.imp fun es => Exists.imp fun ep z => have e := par_nil z.2.2.2.2.1; ⟨z.1, z.2.1, z.2.2.1, no_mem e, by rw [e]; exact Pairs.nil, List.nodup_nil⟩
theorem dictOfH_of_nil {prog : Program} {w : World} {K K' : Type} [DecidableEq K] [DecidableEq K'] {knd : KeyKind prog w K} (knd' : HeapKind prog w K') {h : Heap} {a : Addr} (d : h.DictOf knd a []) : h.DictOfH knd' a [] :=
  d.imp fun o => Exists.imp fun es => Exists.imp fun ep z => ⟨z.1, z.2.1, z.2.2.1, par_nil z.2.2.2.2.1, fun x hx => absurd hx List.not_mem_nil, List.nodup_nil⟩
theorem dictOf_of_nilH {prog : Program} {w : World} {K K' : Type} [DecidableEq K] [DecidableEq K'] {knd : HeapKind prog w K} (knd' : KeyKind prog w K') {h : Heap} {a : Addr} (d : h.DictOfH knd a []) : h.DictOf knd' a [] :=
  d.imp fun o => Exists.imp fun es => Exists.imp fun ep z => ⟨z.1, z.2.1, z.2.2.1, no_mem z.2.2.2.1, by rw [show es.toList = [] from z.2.2.2.1]; exact Pairs.nil, List.nodup_nil⟩

section
variable {c : Cx} {h : Heap} {a : Addr} {ws : List (KV × Value)}
theorem DRep.asS (d : DRep c h a ws) (hk : ∀ x ∈ ws, kindOf x.1 = 0) : ∃ l : List (Str × Value), ws = (l.map fun x => (KV.s x.1.cps.toList, x.2)) ∧ h.DictOf (strKind c.prog c.w) a l := by
  cases d with
  | s l hd => exact ⟨l, rfl, hd⟩
  | i l hd => cases l with
    | nil => exact ⟨[], rfl, dictOf_nil _ hd⟩
    | cons x l => exact Nat.noConfusion (hk _ (.head _))
  | t l hd => cases l with
    | nil => exact ⟨[], rfl, dictOf_of_nilH _ hd⟩
    | cons x l => exact Nat.noConfusion (hk _ (.head _))
theorem DRep.asI (d : DRep c h a ws) (hk : ∀ x ∈ ws, kindOf x.1 = 1) : ∃ l : List (Int × Value), ws = (l.map fun x => (KV.i x.1, x.2)) ∧ h.DictOf (intKind c.prog c.w) a l := by
  cases d with
  | i l hd => exact ⟨l, rfl, hd⟩
  | s l hd => cases l with
    | nil => exact ⟨[], rfl, dictOf_nil _ hd⟩
    | cons x l => exact Nat.noConfusion (hk _ (.head _))
  | t l hd => cases l with
    | nil => exact ⟨[], rfl, dictOf_of_nilH _ hd⟩
    | cons x l => exact Nat.noConfusion (Nat.succ.inj (hk _ (.head _)))
theorem DRep.asT (d : DRep c h a ws) (hk : ∀ x ∈ ws, kindOf x.1 = 2) : ∃ l : List (List Int × Addr × Value), ws = (l.map fun x => (KV.t x.1, x.2.2)) ∧ h.DictOfH (tupleKind (intKind c.prog c.w)) a l := by
  cases d with
  | t l hd => exact ⟨l, rfl, hd⟩
  | i l hd => cases l with
    | nil => exact ⟨[], rfl, dictOfH_of_nil _ hd⟩
    | cons x l => exact Nat.noConfusion (Nat.succ.inj (hk _ (.head _)))
  | s l hd => cases l with
    | nil => exact ⟨[], rfl, dictOfH_of_nil _ hd⟩
    | cons x l => exact Nat.noConfusion (hk _ (.head _))

section
variable {α β : Type} [DecidableEq α] {f : α → KV} {g : β → Value}
theorem beq_of (hf : ∀ x y, f x = f y → x = y) (x y : α) : (f x == f y) = decide (x = y) := by
  rw [Bool.eq_iff_iff, beq_iff_eq, decide_eq_true_eq]; exact ⟨hf x y, fun e => e ▸ rfl⟩
theorem wFind_of (hf : ∀ x y, f x = f y → x = y) (l : List (α × β)) (y : α) : wFind (l.map fun x => (f x.1, g x.2)) (f y) = (l.find? fun x => decide (x.1 = y)).map fun x => g x.2 := by
  unfold wFind
  rw [List.find?_map, Option.map_map]
  exact congrArg (fun k => Option.map _ (List.find? k l)) (funext fun x => beq_of hf _ _)
theorem any_of (hf : ∀ x y, f x = f y → x = y) (l : List (α × β)) (y : α) : (l.map fun x => (f x.1, g x.2)).any (fun x => x.1 == f y) = l.any fun x => decide (x.1 = y) :=
  List.any_map.trans (congrArg (List.any l) (funext fun x => beq_of hf _ _))
theorem map_of (hf : ∀ x y, f x = f y → x = y) (l : List (α × β)) (y : α) (v : Value) {g' : α × β → β} (hg : ∀ x, g (g' x) = v) : ((l.map fun x => (f x.1, g x.2)).map fun x => if x.1 = f y then (x.1, v) else x) = (l.map fun x => if x.1 = y then (x.1, g' x) else x).map fun x => (f x.1, g x.2) := by
  rw [List.map_map, List.map_map]
  refine congrArg (List.map · l) (funext fun x => ?_)
  show (if f x.1 = f y then (f x.1, v) else (f x.1, g x.2)) = (f (if x.1 = y then (x.1, g' x) else x).1, g (if x.1 = y then (x.1, g' x) else x).2)
  by_cases e : x.1 = y
  · rw [if_pos e, if_pos (congrArg f e), hg]
  · rw [if_neg e, if_neg fun q => e (hf _ _ q)]
end

theorem kvS_inj : ∀ x y : Str, KV.s x.cps.toList = KV.s y.cps.toList → x = y := fun _ _ e => congrArg Str.mk (Array.toList_inj.mp (KV.s.inj e))
theorem wFind_s (l : List (Str × Value)) (y : List Nat) : wFind (l.map fun x => (KV.s x.1.cps.toList, x.2)) (.s y) = valueAt l ⟨y.toArray⟩ := wFind_of (f := fun x : Str => KV.s x.cps.toList) (g := id) kvS_inj l ⟨y.toArray⟩
theorem wFind_i (l : List (Int × Value)) (y : Int) : wFind (l.map fun x => (KV.i x.1, x.2)) (.i y) = valueAt l y := wFind_of (f := KV.i) (g := id) (fun _ _ => KV.i.inj) l y
theorem wFind_t (l : List (List Int × Addr × Value)) (y : List Int) : wFind (l.map fun x => (KV.t x.1, x.2.2)) (.t y) = (atKey l y).map (·.2) :=
  (wFind_of (f := KV.t) (g := fun x : Addr × Value => x.2) (fun _ _ => KV.t.inj) l y).trans (Option.map_map ..).symm
theorem wPut_s (l : List (Str × Value)) (y : List Nat) (v : Value) : wPut (l.map fun x => (KV.s x.1.cps.toList, x.2)) (.s y) v = (stored l ⟨y.toArray⟩ v).map fun x => (KV.s x.1.cps.toList, x.2) := by
  unfold wPut stored
  rw [apply_ite (List.map fun x : Str × Value => (KV.s x.1.cps.toList, x.2)), List.map_append]
  have a := any_of (f := fun x : Str => KV.s x.cps.toList) (g := fun x : Value => x) kvS_inj l ⟨y.toArray⟩
  have b := map_of (f := fun x : Str => KV.s x.cps.toList) (g := fun x : Value => x) kvS_inj l ⟨y.toArray⟩ v (g' := fun _ => v) fun _ => rfl
  exact (congrArg (fun c : Bool => if c = true then _ else _) a).trans (congrArg (ite _ · _) b)
theorem wPut_i (l : List (Int × Value)) (y : Int) (v : Value) : wPut (l.map fun x => (KV.i x.1, x.2)) (.i y) v = (stored l y v).map fun x => (KV.i x.1, x.2) := by
  unfold wPut stored
  rw [apply_ite (List.map fun x : Int × Value => (KV.i x.1, x.2)), List.map_append]
  have a := any_of (f := KV.i) (g := fun x : Value => x) (fun _ _ => KV.i.inj) l y
  have b := map_of (f := KV.i) (g := fun x : Value => x) (fun _ _ => KV.i.inj) l y v (g' := fun _ => v) fun _ => rfl
  exact (congrArg (fun c : Bool => if c = true then _ else _) a).trans (congrArg (ite _ · _) b)
theorem wPut_t (l : List (List Int × Addr × Value)) (y : List Int) (b : Addr) (v : Value) : wPut (l.map fun x => (KV.t x.1, x.2.2)) (.t y) v = (storedH l y b v).map fun x => (KV.t x.1, x.2.2) := by
  unfold wPut storedH
  rw [apply_ite (List.map fun x : List Int × Addr × Value => (KV.t x.1, x.2.2)), List.map_append]
  have e : (l.map fun x => (KV.t x.1, x.2.2)).any (fun x => x.1 == KV.t y) = (atKey l y).isSome := by
    rw [any_find, wFind_t]; exact Option.isSome_map
  have d := map_of (f := KV.t) (g := fun x : Addr × Value => x.2) (fun _ _ => KV.t.inj) l y v (g' := fun x => (x.2.1, v)) fun _ => rfl
  exact (congrArg (fun c : Bool => if c = true then _ else _) e).trans (congrArg (ite _ · _) d)
end
end Mine
end

section
open PySem PySem.W PyProof.Rows PySem.Calls
set_option Elab.async false
set_option linter.unusedVariables false
set_option maxRecDepth 100000
namespace Mine

section
variable {c : Cx} {g : Gh} {held : List (Addr × Obj)} {fr : List FrG} {σ : St} {s s' : Shared} {Q : PV → St → Prop} {X : Nat → St → Prop} {p q : PV} {u v : Value}
variable {A : Around} {E : Value → Shared → Prop}

theorem Rep.notSys (R : Rep c g held fr σ s) {i : Nat} {o : AObj} (hi : σ.at_ i = some o) : (g.loc i == sysModules) = false := by
  rw [beq_eq_false_iff_ne]
  intro e
  have z := R.rB (g.loc i) (by rw [((R.objs i o hi).2).main]; simp)
  obtain ⟨o', ho⟩ := c.hsys
  rw [e, ho] at z; cases z

/-- a dict object of the store -/
theorem Rep.dict (R : Rep c g held fr σ s) {i : Nat} {kvs : List (KV × PV)} (hi : σ.at_ i = some (.dict kvs)) : DictR c g s.heap σ.n i kvs := (R.objs i _ hi).2.body

theorem kinds_par {kvs : List (KV × PV)} {ws : List (KV × Value)} {n : Nat} (e : ws.map (·.1) = kvs.map (·.1)) (h : ∀ x ∈ kvs, kindOf x.1 = n) : ∀ x ∈ ws, kindOf x.1 = n := fun x hx =>
  (List.mem_map.mp (e ▸ List.mem_map_of_mem hx : x.1 ∈ kvs.map (·.1))).elim fun y hy => hy.2 ▸ h y hy.1

/-- a key that is a text or a number -/
theorem kvOf_e {C : KV → Value → Prop} {h : Heap} {loc : Nat → Addr} {n : Nat} {k : KV} (hp : VRep h loc n p u) (hk : kvOf p = some k) (hs : ∀ y t, C (.s y) (.str ⟨y.toArray⟩ t)) (hi : ∀ y t, C (.i y) (.int y t)) : C k u := by
  cases hp with
  | str y t => exact Option.some.inj hk ▸ hs y t
  | int y t => exact Option.some.inj hk ▸ hi y t
  | _ => exact absurd hk.symm (Option.some_ne_none k)

theorem in_dict_ok (R : Rep c g held fr σ s) {i : Nat} {kvs : List (KV × PV)} (hi : σ.at_ i = some (.dict kvs)) (hp : VRep s.heap g.loc σ.n p u) {k : KV} (hk : kvOf p = some k) (ha : ∀ x ∈ kvs, kindOf x.1 = kindOf k) :
    (Q (.bool (kvs.any fun x => x.1 == k)) σ → wpAny (model c.prog c.w) A (compareOp .In u (.ref (g.loc i))) (QV c held fr g σ.n s.heap Q) E s) ∧
    (Q (.bool (!kvs.any fun x => x.1 == k)) σ → wpAny (model c.prog c.w) A (compareOp .NotIn u (.ref (g.loc i))) (QV c held fr g σ.n s.heap Q) E s) := by
  refine (R.dict hi).casesOn fun o es ep ws _ _ _ d e1 e2 => ?_
  have kk := kinds_par e1 ha
  clear ha
  rw [← any_par e1, any_find]
  clear e1 e2
  refine kvOf_e (C := fun k u => (∀ x ∈ ws, kindOf x.1 = kindOf k) → (Q (.bool (wFind ws k).isSome) σ → wpAny (model c.prog c.w) A (compareOp .In u (.ref (g.loc i))) (QV c held fr g σ.n s.heap Q) E s) ∧
    (Q (.bool (!(wFind ws k).isSome)) σ → wpAny (model c.prog c.w) A (compareOp .NotIn u (.ref (g.loc i))) (QV c held fr g σ.n s.heap Q) E s)) hp hk (fun y t kk => ?_) (fun y t kk => ?_) kk
  · refine (d.asS kk).elim fun l z => ?_
    rw [z.1, wFind_s]
    exact ⟨fun q => wpAny_in_of (strKind_is _ _ _ _) (R.notSys hi) z.2.mapOf (qvt R (.bool _) q), fun q => wpAny_notIn_of (strKind_is _ _ _ _) (R.notSys hi) z.2.mapOf (qvt R (.bool _) q)⟩
  · refine (d.asI kk).elim fun l z => ?_
    rw [z.1, wFind_i]
    exact ⟨fun q => wpAny_in_of (intKind_is _ _ _ _) (R.notSys hi) z.2.mapOf (qvt R (.bool _) q), fun q => wpAny_notIn_of (intKind_is _ _ _ _) (R.notSys hi) z.2.mapOf (qvt R (.bool _) q)⟩

theorem beq_int (a b : Int) : (a == b) = decide (a = b) := by
  rw [Bool.eq_iff_iff, beq_iff_eq, decide_eq_true_eq]
theorem eqs_ok (R : Rep c g held fr σ s) (hp : VRep s.heap g.loc σ.n p u) (hq : VRep s.heap g.loc σ.n q v) (hu : A.units + 64 < cLine) :
    (wEqs id p q σ Q → wpAny (model c.prog c.w) A (compareOp .Eq u v) (QV c held fr g σ.n s.heap Q) E s) ∧ (wEqs not p q σ Q → wpAny (model c.prog c.w) A (compareOp .NotEq u v) (QV c held fr g σ.n s.heap Q) E s) := by
  refine ⟨fun h => ?_, fun h => ?_⟩
  · rcases h with ⟨a, b, rfl, rfl, h⟩ | ⟨a, b, rfl, rfl, h⟩ | ⟨a, b, ha, hb, h⟩
    · exact hp.intE fun t => hq.intE fun t' => PyProof.Rows.eq_int (qv R (.bool _) (by rw [beq_int]; exact h))
    · exact hp.strE fun t => hq.strE fun t' => PyProof.Rows.eq_str (qv R (.bool _) (by rw [str_inj]; exact h))
    · exact have x := dk_of R 60 _ _ ha; have y := dk_of R 60 _ _ hb; (x.rd _ hp).elim fun as ra => (y.rd _ hq).elim fun bs rb => eq_dataH ra rb x.shaped y.shaped hu (qv R (.bool _) h)
  · rcases h with ⟨a, b, rfl, rfl, h⟩ | ⟨a, b, rfl, rfl, h⟩ | ⟨a, b, ha, hb, h⟩
    · exact hp.intE fun t => hq.intE fun t' => PyProof.Rows.ne_int (qv R (.bool _) (by rw [bne, beq_int]; exact h))
    · exact hp.strE fun t => hq.strE fun t' => PyProof.Rows.ne_str (qv R (.bool _) (by rw [bne, str_inj]; exact h))
    · exact have x := dk_of R 60 _ _ ha; have y := dk_of R 60 _ _ hb; (x.rd _ hp).elim fun as ra => (y.rd _ hq).elim fun bs rb => ne_dataH ra rb x.shaped y.shaped hu (qv R (.bool _) h)
theorem isn_ok (R : Rep c g held fr σ s) (hp : VRep s.heap g.loc σ.n p u) (hq : VRep s.heap g.loc σ.n q v) :
    (wIsN id p q σ Q → wpAny (model c.prog c.w) A (compareOp .Is u v) (QV c held fr g σ.n s.heap Q) E s) ∧ (wIsN not p q σ Q → wpAny (model c.prog c.w) A (compareOp .IsNot u v) (QV c held fr g σ.n s.heap Q) E s) := by
  cases hq with
  | none =>
    cases hp with
    | none => exact ⟨fun h => is_none_none (qv R (.bool _) h), fun h => isnot_none_none (qv R (.bool _) h)⟩
    | tup => exact ⟨fun h => is_none_ne Value.noConfusion (qv R (.bool _) h), fun h => isnot_none_ne Value.noConfusion (qv R (.bool _) h)⟩
    | int => exact ⟨fun h => is_none_ne Value.noConfusion (qv R (.bool _) h), fun h => isnot_none_ne Value.noConfusion (qv R (.bool _) h)⟩
    | ref => exact ⟨fun h => is_none_ne Value.noConfusion (qv R (.bool _) h), fun h => isnot_none_ne Value.noConfusion (qv R (.bool _) h)⟩
    | _ => exact ⟨fun h => False.elim h, fun h => False.elim h⟩
  | _ => exact ⟨fun h => False.elim h, fun h => False.elim h⟩
theorem in_ref {K : Prop} {f : Bool → Bool} {i : Nat} (h : wIn f p (.ref i) σ Q) (h1 : ∀ kvs k, σ.at_ i = some (.dict kvs) → kvOf p = some k → (∀ x ∈ kvs, kindOf x.1 = kindOf k) → Q (.bool (f (kvs.any fun x => x.1 == k))) σ → K)
    (h2 : ∀ xs : List (List Nat), σ.at_ i = some (.list (xs.map .str)) → wStr p (fun a => f true = true ∧ Q (.bool (xs.contains a)) σ) → K) : K := by
  change (match σ.at_ i with
      | some (.dict kvs) => ∃ k, kvOf p = some k ∧ (∀ x ∈ kvs, kindOf x.1 = kindOf k) ∧ Q (.bool (f (kvs.any fun x => x.1 == k))) σ
      | some (.list vs) => wStr p fun a => ∃ xs : List (List Nat), vs = xs.map .str ∧ f true = true ∧ Q (.bool (xs.contains a)) σ
      | _ => False) at h
  cases e : σ.at_ i with
  | none => rw [e] at h; exact h.elim
  | some o =>
    rw [e] at h
    cases o with
    | dict kvs => exact h.elim fun k z => h1 kvs k e z.1 z.2.1 z.2.2
    | list vs =>
      cases p with
      | str a => exact h.elim fun xs z => h2 xs (z.1 ▸ e) z.2
      | _ => exact h.elim
    | _ => exact h.elim
theorem in_ok (R : Rep c g held fr σ s) (hp : VRep s.heap g.loc σ.n p u) (hq : VRep s.heap g.loc σ.n q v) :
    (wIn id p q σ Q → wpAny (model c.prog c.w) A (compareOp .In u v) (QV c held fr g σ.n s.heap Q) E s) ∧ (wIn not p q σ Q → wpAny (model c.prog c.w) A (compareOp .NotIn u v) (QV c held fr g σ.n s.heap Q) E s) := by
  cases hq with
  | str b t' =>
    refine ⟨fun h => wStr_e hp h fun a t h => ?_, fun h => wStr_e hp h fun a t h => h.elim fun x z => Bool.noConfusion z.2.1⟩
    obtain ⟨x, rfl, _, h⟩ := h
    refine PyProof.Rows.in_str (qv R (.bool _) ?_)
    rw [show ((⟨[x].toArray⟩ : Str)) = ⟨#[x]⟩ from rfl, StrLaws.found_one]
    rw [show decide (x ∈ ((⟨b.toArray⟩ : Str)).cps.toList) = b.contains x from List.contains_eq_mem .. |>.symm]
    exact h
  | tup ha r =>
    refine ⟨fun h0 => wStr_e hp h0 fun a t h => ?_, fun h0 => wStr_e hp h0 fun a t h => ?_⟩
    · obtain ⟨xs, rfl, h⟩ := h
      exact in_tuple_strs ha.isTup (strs_are xs r) (qv R (.bool _) (by rw [any_strs]; exact h))
    · obtain ⟨xs, rfl, h⟩ := h
      exact notin_tuple_strs ha.isTup (strs_are xs r) (qv R (.bool _) (by rw [any_strs]; exact h))
  | ref i hi =>
    exact ⟨fun h => in_ref h (fun kvs k e hk ha z => (in_dict_ok R e hp hk ha).1 z) fun xs e z => wStr_e hp z fun a t z => (R.list e).casesOn fun ys k a1 a2 => in_list_strs a1.isList (strs_are xs a2) (qv R (.bool _) (by rw [any_strs]; exact z.2)),
      fun h => in_ref h (fun kvs k e hk ha z => (in_dict_ok R e hp hk ha).2 z) fun xs e z => wStr_e hp z fun a t z => Bool.noConfusion z.1⟩
  | _ => exact ⟨fun h => False.elim h, fun h => False.elim h⟩

theorem cmp_ok (R : Rep c g held fr σ s) {o : CmpOp} (hp : VRep s.heap g.loc σ.n p u) (hq : VRep s.heap g.loc σ.n q v) (hu : A.units + 64 < cLine) (h : wCmp o p q σ Q) :
    wpAny (model c.prog c.w) A (compareOp o u v) (QV c held fr g σ.n s.heap Q) E s := by
  cases o with
  | Lt => exact wInt_e hp h fun a t h => wInt_e hq h fun b t' h => PyProof.Rows.lt_int (qv R (.bool _) h)
  | LtE => exact wInt_e hp h fun a t h => wInt_e hq h fun b t' h => PyProof.Rows.le_int (qv R (.bool _) h)
  | Gt => exact wInt_e hp h fun a t h => wInt_e hq h fun b t' h => PyProof.Rows.gt_int (qv R (.bool _) h)
  | GtE => exact wInt_e hp h fun a t h => wInt_e hq h fun b t' h => PyProof.Rows.ge_int (qv R (.bool _) h)
  | Eq => exact (eqs_ok R hp hq hu).1 h
  | NotEq => exact (eqs_ok R hp hq hu).2 h
  | Is => exact (isn_ok R hp hq).1 h
  | IsNot => exact (isn_ok R hp hq).2 h
  | In => exact (in_ok R hp hq).1 h
  | NotIn => exact (in_ok R hp hq).2 h
end
end Mine
end

section
open PySem PySem.W PyProof.Rows PySem.Calls Builtin Builtin.ObjectAttr
set_option Elab.async false
set_option linter.unusedVariables false
set_option maxRecDepth 100000
namespace Mine

theorem lookIn_of {od : Obj} {es : Array DictEntry} {ep : Nat} {m : Str → Option Value} {name : Str} (hd : od.data = .dict es ep) (hk : StrKeys es) (hm : ∀ n, nsFind es n = m n) : lookIn name od = some (m name) := by
  unfold lookIn
  rw [hd]
  dsimp only
  have h := hm name
  unfold nsFind findBy at h
  rw [← Array.find?_toList] at h
  cases q : es.toList.find? (fun e => e.key.isStr name) with
  | some e => rw [q] at h; dsimp only; rw [← h]; rfl
  | none =>
    rw [q] at h
    have : es.toList.any (·.refKey) = false := by
      rw [List.any_eq_false]
      intro e he
      obtain ⟨n, t, hn⟩ := hk e (Array.mem_toList_iff.mp he)
      simp [DictEntry.refKey, hn]
    dsimp only
    rw [this, ← h]; rfl

section
variable {c : Cx} {g : Gh} {held : List (Addr × Obj)} {fr : List FrG} {σ : St} {s s' : Shared}

theorem bexc_bind (self : Value) : bindSpecial (.builtin "BaseException.__getattribute__") self = pure (.builtin "BaseException.__getattribute__", [self]) := by kernel_rfl

/-- what an instance of the store looks like -/
inductive InstIs (c : Cx) (h : Heap) (loc : Nat → Addr) (n : Nat) (x dx C : Addr) (fs : Nat → Option PV) : Prop where
  | mk (ox od : Obj) (m : Str → Option Value) (I : InstAt h x ox C (some od)) (hd : ox.dict = some dx) (ns : NsW c h dx m) (look : ∀ name, lookIn name od = some (m name)) (fr : FRep c h loc n fs m)

theorem inst_of {h : Heap} {loc : Nat → Addr} {n : Nat} {x dx C : Addr} {fs : Nat → Option PV} {o : Obj} {m : Str → Option Value} (b1 : h.get? x = some o) (b2 : o.cls = .ref C) (b3 : o.dict = some dx) (b4 : notCls o = true) (b5 : NsW c h dx m) (b6 : FRep c h loc n fs m) :
    InstIs c h loc n x dx C fs :=
  b5.1.elim fun od z => z.elim fun es z => z.elim fun ep z => ⟨o, od, m, ⟨b1, b2, b4, by rw [b3]; exact z.1⟩, b3, b5, fun name => lookIn_of z.2.1 z.2.2.1 z.2.2.2.2, b6⟩
/-- it has these fields -/
noncomputable def HasFs (σ : St) (i : Nat) (C : Addr) (fs : Nat → Option PV) : Prop := σ.at_ i = some (.inst C fs) ∨ ∃ ch, σ.at_ i = some (.exc C fs ch)
theorem Rep.instIs (R : Rep c g held fr σ s) {i : Nat} {C : Addr} {fs : Nat → Option PV} (hi : HasFs σ i C fs) : InstIs c s.heap g.loc σ.n (g.loc i) (g.dloc i) C fs :=
  hi.elim (fun hi => (R.objs i _ hi).2.body.casesOn fun _ o m b1 b2 b3 b4 b5 b6 => inst_of b1 b2 b3 (by unfold notCls; rw [b4]) b5 b6)
    fun hi => hi.elim fun ch hi => (R.objs i _ hi).2.body.casesOn fun _ o m vs b1 b2 b3 b4 _ _ _ b5 b6 => inst_of b1 b2 b3 (by unfold notCls; rw [b4]) b5 b6
end

section
variable {prog : Program} {w : World} {A : Around} {E : Value → Shared → Prop} {s : Shared} {K : Frag} {x C : Addr} {ox od : Obj} {name : Str} {expr : Bool} {Q : Value → Shared → Prop}

theorem getOwn {v : Value} (X : K.In s.heap) (O : ClsOk K C) (I : InstAt s.heap x ox C (some od)) (ha : findIn K (.ref C) name = some none) (hl : lookIn name od = some (some v)) (hh : handedIn v = true)
    (h : Q v { s with toks := s.toks + 1 }) : wpAny (model prog w) A (getAttr (.ref x) name expr) Q E s := by
  have hf : findObj K C (some od) name = some (.value v) := by
    refine O.cd.casesOn fun cd hcd hdict _ _ _ => ?_
    unfold findObj
    rw [hcd, Option.bind_some, ha]
    show (W.ownOf cd (some od) name).bind _ = _
    rw [show W.ownOf cd (some od) name = some (some v) from (if_pos hdict).trans hl]; rfl
  rcases O.ga with hga | ⟨hga, cd', hcd', hne', hb⟩
  · exact get_value X I hga hf hh h
  · obtain ⟨hh', g, d, t, os⟩ := s
    have L0 := I.type (M := model prog w)
    have L1 := looks_findIn (M := model prog w) X hga
    have L2 := looks_findIn (M := model prog w) X O.gattr
    have L3 := looks_find (M := model prog w) X I hf
    have L4 : Looks (model prog w) hh' (isInstance (.ref x) (.type "BaseException")) true := L0.andThen (looks_mroIn X (by unfold mroIn; rw [hcd', Option.bind_some, if_neg (by rw [hne']; decide), hb]))
    have hx3 : (Value.builtin "BaseException.__getattribute__" == Value.builtin "object.__getattribute__") = false := by decide +kernel
    have hx2 : (onTheHeap (Value.ref C) && Value.builtin "BaseException.__getattribute__" == Value.builtin "object.__getattribute__") = false := by rw [hx3]; rfl
    unfold getAttr getAttrBy
    refine wpAny_bind (wpAny_mkText (wpAny_holding (wpAny_bind (L0.at (wpAny_bind (L1.at ?_))))))
    dsimp only
    rw [hx2, if_neg (by decide)]
    unfold getAttrByItsOwn hookBefore
    refine wpAny_bind ?_
    rw [if_pos (by rfl)]
    refine L2.at ?_
    unfold callGetattribute
    have hx0 : (expr && onTheHeap (Value.builtin "BaseException.__getattribute__")) = false := by cases expr <;> rfl
    rw [hx0, if_neg (by decide)]
    unfold boundAndCalled
    rw [bexc_bind]
    refine wpAny_bind (wpAny_attempt (wpAny_holding (wpAny_bind (wpAny_pure (wpAny_call ?_)))))
    refine codeAny_call_builtin (by decide +kernel) F.entry_bexc_ga (@check_slot (model prog w) _ _ _ "BaseException.__getattribute__" "BaseException" "__getattribute__" (.ref x) [.str name t] [] _ (by decide +kernel) (by decide +kernel) L4 (F.args_bexc_ga _ _) ?_)
    unfold Builtin.«object.__getattribute__»
    refine wpAny_bind (wpAny_pure (wpAny_bind (wpAny_pure (wpAny_bind (L0.at (wpAny_bind (L3.at ?_)))))))
    refine wpAny_pure ?_
    show wpAny _ _ (handedOut v) _ _ _
    rw [handedOut_of hh]; exact wpAny_pure h

theorem within_set {m : Str → Option Value} {ns : List Str} {v : Value} (hw : Within m ns) (hn : name ∈ ns) : Within (fun y => if y = name then some v else m y) ns := fun y hy => by
  by_cases e : y = name
  · rw [e]; exact hn
  · exact hw y fun q => hy ((if_neg e).trans q)

theorem setOwn {c : Cx} {dx : Addr} {m : Str → Option Value} {v : Value} {Q : Unit → Shared → Prop} (X : K.In s.heap) (O : ClsOk K C) (I : InstAt s.heap x ox C (some od)) (hd : ox.dict = some dx) (ha : findIn K (.ref C) name = some none)
    (hn : NsW c s.heap dx m) (hm : name ∈ c.tab) (h : ∀ h', NsW c h' dx (fun y => if y = name then some v else m y) → Heap.SameBut dx s.heap h' → Q () { s with heap := h', toks := s.toks + 2 }) :
    wpAny (model prog w) A (setAttr (.ref x) name v) Q E s := by
  refine O.cd.casesOn fun cd hcd hdict hne hobj hpass => ?_
  obtain ⟨hh, g, d, t, os⟩ := s
  dsimp only at X I hn h
  refine set_plain (s := ⟨hh, g, d, t, os⟩) X I O.sa ?_
  have SF := PySem.F.store_object
  have sub : Looks (model prog w) hh (isInstance (.ref x) (.type "object")) true := I.type.andThen (looks_mroIn X (by unfold mroIn; rw [hcd, Option.bind_some, if_neg (by rw [hne]; decide), hobj]))
  have hmr : Looks (model prog w) hh (mroOf (.ref C)) cd.mro := (looks_clsIn X hcd).andThen .now
  refine codeAny_call_builtin SF.slot.plain SF.entry (@check_slot (model prog w) _ _ _ "object.__setattr__" "object" "__setattr__" (.ref x) [.str name t, v] [] _ SF.kind SF.split sub (SF.args (.ref x) (.str name t) v) ?_)
  have L3 : Looks (model prog w) hh (storeTaker? none) none := .now
  obtain ⟨hx, hcl, hnc, hdd⟩ := id I
  obtain ⟨oc, odi, oda, osl⟩ := ox
  dsimp only at hcl hd
  subst hcl hd
  rw [osa_eq, refuse_eq]
  refine wpAny_bind (wpAny_bind (I.type.at (wpAny_bind (hmr.at ?_))))
  rw [hpass]
  refine wpAny_pure (wpAny_bind (I.type.at (wpAny_bind ((looks_findIn X ha).at (wpAny_bind (L3.at ?_))))))
  dsimp only
  refine wpAny_bind (wpAny_pure (wpAny_bind (wpAny_bind (wpAny_loadPart hx (wpAny_bind ((looks_clsIn X hcd).at ?_))))))
  rw [hdict]
  refine wpAny_pure (a := some dx) (wpAny_bind (wpAny_pure (wpAny_bind ?_)))
  refine wpAny_nsSet1 hn.1 fun h' hn' hs => ?_
  have hw' := within_set (v := v) hn.2 hm
  obtain ⟨oD, esD, epD, hoD, hdD, hcD⟩ := hn'.count hw'
  refine wpAny_bind (wpAny_lookBehind hoD (by rw [hdD]; exact pastItsLine_dict (Nat.le_trans hcD (Nat.le_trans c.htab (by decide)))) ?_)
  exact wpAny_pure (h h' ⟨hn', hw'⟩ hs)
theorem instanceDict_new {h : Heap} {g : Array GenState} {d : Drawn} {tk : Nat} {os : OsState} {cd : ClassData} {vs : Array Value} {sl : Array (Option Value)} {E : Value → Shared → Prop} {Q : Option Addr → Shared → Prop} (X : K.In h) (hcd : clsIn K C = some cd) (hdict : cd.hasDict = true)
    (hx : h.get? x = some { cls := .ref C, dict := none, data := .fields vs, slots := sl })
    (hq : ∀ h', h'.get? x = some { cls := .ref C, dict := some h.objs.size, data := .fields vs, slots := sl } → h'.get? h.objs.size = some { cls := .type "dict", data := .dict #[] } → (∀ b o, b ≠ x → h.get? b = some o → h'.get? b = some o) → Q (some h.objs.size) ⟨h', g, d, tk, os⟩) :
    wpAny (model prog w) A (instanceDict x true) Q E ⟨h, g, d, tk, os⟩ := by
  unfold instanceDict
  refine wpAny_bind (wpAny_loadPart hx (wpAny_bind ((looks_clsIn X hcd).at ?_)))
  rw [hdict]
  show wpAny _ _ (alloc { cls := .type "dict", data := .dict #[] } >>= fun d => update x (fun o => { o with dict := some d }) >>= fun _ => pure (some d)) _ _ _
  have hlt := Heap.lt_size hx
  have hx' : (h.push { cls := .type "dict", data := .dict #[] }).get? x = some { cls := .ref C, dict := none, data := .fields vs, slots := sl } := Heap.get?_push_of_some _ hx
  refine wpAny_bind (wpAny_alloc (wpAny_bind (wpAny_update hx' (wpAny_pure (hq _ ?_ ?_ ?_)))))
  · rw [Heap.get?_update_self _ hx' rfl]
  · rw [Heap.get?_update_other _ _ (Nat.ne_of_lt hlt)]
    exact Heap.get?_push_size _ rfl
  · intro b o hb e
    rw [Heap.get?_update_other _ _ (Ne.symm hb)]
    exact Heap.get?_push_of_some _ e

theorem setBare {c : Cx} {vs : Array Value} {v : Value} {Q : Unit → Shared → Prop} (X : K.In s.heap) (O : ClsOk K C) (hx : s.heap.get? x = some ox) (hcl : ox.cls = .ref C) (hdi : ox.dict = none) (hda : ox.data = .fields vs) (ha : findIn K (.ref C) name = some none)
    (hm : name ∈ c.tab) (h : ∀ h' o', h'.get? x = some o' → o'.cls = .ref C → o'.dict = some s.heap.objs.size → o'.data = .fields vs → NsW c h' s.heap.objs.size (fun y => if y = name then some v else none) → (∀ b o, b ≠ x → s.heap.get? b = some o → h'.get? b = some o) → Q () { s with heap := h', toks := s.toks + 2 }) :
    wpAny (model prog w) A (setAttr (.ref x) name v) Q E s := by
  refine O.cd.casesOn fun cd hcd hdict hne hobj hpass => ?_
  obtain ⟨hh, g, d, t, os⟩ := s
  obtain ⟨oc, odi, oda, osl⟩ := ox
  dsimp only at X h hx hcl hdi hda
  subst hcl hdi hda
  have I : InstAt hh x { cls := .ref C, dict := none, data := .fields vs, slots := osl } C none := ⟨hx, rfl, rfl, trivial⟩
  refine set_plain (s := ⟨hh, g, d, t, os⟩) X I O.sa ?_
  have SF := PySem.F.store_object
  have sub : Looks (model prog w) hh (isInstance (.ref x) (.type "object")) true := I.type.andThen (looks_mroIn X (by unfold mroIn; rw [hcd, Option.bind_some, if_neg (by rw [hne]; decide), hobj]))
  have hmr : Looks (model prog w) hh (mroOf (.ref C)) cd.mro := (looks_clsIn X hcd).andThen .now
  refine codeAny_call_builtin SF.slot.plain SF.entry (@check_slot (model prog w) _ _ _ "object.__setattr__" "object" "__setattr__" (.ref x) [.str name t, v] [] _ SF.kind SF.split sub (SF.args (.ref x) (.str name t) v) ?_)
  have L3 : Looks (model prog w) hh (storeTaker? none) none := .now
  rw [osa_eq, refuse_eq]
  refine wpAny_bind (wpAny_bind (I.type.at (wpAny_bind (hmr.at ?_))))
  rw [hpass]
  refine wpAny_pure (wpAny_bind (I.type.at (wpAny_bind ((looks_findIn X ha).at (wpAny_bind (L3.at ?_))))))
  dsimp only
  refine wpAny_bind (wpAny_pure (wpAny_bind (instanceDict_new X hcd hdict hx fun h₁ hx₁ hd₁ hk₁ => ?_)))
  have ns₁ : h₁.Ns1 hh.objs.size fun _ => none := Heap.Ns1.of_empty ⟨_, #[], _, hd₁, rfl, fun e he => absurd he (by simp), fun _ => rfl⟩
  have ne : x ≠ hh.objs.size := Nat.ne_of_lt (Heap.lt_size hx)
  refine wpAny_bind (wpAny_pure (wpAny_bind ?_))
  refine wpAny_nsSet1 ns₁ fun h' hn' hs => ?_
  have hw' := within_set (v := v) (m := fun _ => none) (ns := c.tab) (fun _ h => absurd rfl h) hm
  obtain ⟨oD, esD, epD, hoD, hdD, hcD⟩ := hn'.count hw'
  refine wpAny_bind (wpAny_lookBehind hoD (by rw [hdD]; exact pastItsLine_dict (Nat.le_trans hcD (Nat.le_trans c.htab (by decide)))) ?_)
  refine wpAny_pure (h h' _ ((hs.2 _ ne).trans hx₁) rfl rfl rfl ⟨hn', hw'⟩ fun b o hb e => ?_)
  exact (hs.2 b (Nat.ne_of_lt (Heap.lt_size e))).trans (hk₁ b o hb e)
end

section
variable {c : Sx} {g : Gh} {held : List (Addr × Obj)} {fr : List FrG} {σ : St} {s s' : Shared} {Q : PV → St → Prop} {X : Nat → St → Prop} {p q : PV} {u v : Value}
variable {A : Around} {E : Value → Shared → Prop}

theorem Rep.K (R : Rep c.toCx g held fr σ s) : c.K.In s.heap := fun a o e => R.stays a o (c.hK a o e)

theorem VRep.handed {h : Heap} {loc : Nat → Addr} {n : Nat} (x : VRep h loc n p v) : handedIn v = true :=
  x.casesOn rfl (fun _ => rfl) (fun _ _ => rfl) (fun _ _ => rfl) (fun _ _ => rfl) (fun _ _ => rfl) (fun _ hv => hv)

theorem wAttr_e {h : Heap} {loc : Nat → Addr} {n x : Nat} {K : PV → Prop} {C : Value → Prop} (hp : VRep h loc n p u) (w : wAttr c σ p x K) (k : ∀ i A fs q, HasFs σ i A fs → c.fld A x = true → fs x = some q → K q → C (.ref (loc i))) : C u := by
  cases hp with
  | ref i hi =>
    change (match σ.at_ i with
      | some (.inst C fs) => c.fld C x = true ∧ ∃ q, fs x = some q ∧ K q
      | some (.exc C fs _) => c.fld C x = true ∧ ∃ q, fs x = some q ∧ K q
      | _ => False) at w
    cases e : σ.at_ i with
    | none => rw [e] at w; exact w.elim
    | some o =>
      rw [e] at w
      cases o with
      | inst A fs => exact w.2.elim fun q z => k i A fs q (.inl e) w.1 z.1 z.2
      | exc A fs ch => exact w.2.elim fun q z => k i A fs q (.inr ⟨ch, e⟩) w.1 z.1 z.2
      | _ => exact w.elim
  | _ => exact False.elim w
theorem FRep.some {h : Heap} {loc : Nat → Addr} {n x : Nat} {fs : Nat → Option PV} {m : Str → Option Value} (f : FRep c.toCx h loc n fs m) (e : fs x = some q) : ∃ v, m (c.nm x) = some v ∧ VRep h loc n q v := by
  have z := f x
  rw [e] at z; exact z
theorem FRep.none {h : Heap} {loc : Nat → Addr} {n x : Nat} {fs : Nat → Option PV} {m : Str → Option Value} (f : FRep c.toCx h loc n fs m) (e : fs x = none) : m (c.nm x) = none := by
  have z := f x
  rw [e] at z; exact z
theorem attr_ok (R : Rep c.toCx g held fr σ s) {x : Nat} {ex : Bool} (hp : VRep s.heap g.loc σ.n p u) (h : wAttr c σ p x fun q => Q q σ) :
    wpAny (model c.prog c.w) A (getAttr u (c.nm x) ex) (QV c.toCx held fr g σ.n s.heap Q) E s :=
  wAttr_e (C := fun u => wpAny (model c.prog c.w) A (getAttr u (c.nm x) ex) (QV c.toCx held fr g σ.n s.heap Q) E s) hp h fun i C fs q hi hf hq h => (R.instIs hi).casesOn fun ox od m I _ _ look fr =>
    (fr.some hq).elim fun v z => getOwn R.K (c.hfld C x hf).1 I (c.hfld C x hf).2.1 (by rw [look, z.1]) z.2.handed (qvt R z.2 h)

theorem upd_frep {fs : Nat → Option PV} {m : Str → Option Value} {h : Heap} {loc : Nat → Addr} {n x : Nat} (f : FRep c.toCx h loc n fs m) (hv : VRep h loc n p v) : FRep c.toCx h loc n (upd fs x p) (fun y => if y = c.nm x then some v else m y) := fun k => by
  unfold upd
  by_cases e : k = x
  · rw [e, if_pos rfl]; exact ⟨v, if_pos rfl, hv⟩
  · rw [if_neg e]
    have z := f k
    have ne : c.nm k ≠ c.nm x := fun q => e (c.inj _ _ q)
    split at z
    · exact z.imp fun w z => ⟨(if_neg ne).trans z.1, z.2⟩
    · exact (if_neg ne).trans z

/-- a state behind a store -/
inductive SV (c : Cx) (held : List (Addr × Obj)) (fr : List FrG) (g₀ : Gh) (n₀ : Nat) (h₀ : Heap) (Q : St → Prop) (s' : Shared) : Prop where
  | mk (g : Gh) (σ : St) (R : Rep c g held fr σ s') (L : Le g₀ n₀ h₀ g σ.n s'.heap) (q : Q σ)

theorem setattr_core (R : Rep c.toCx g held fr σ s) {i x : Nat} {C : Addr} {o o' : AObj} {fs : Nat → Option PV} {Q : St → Prop} (hv : VRep s.heap g.loc σ.n p v) (hi : HasFs σ i C fs) (ho : σ.at_ i = some o) (hdo : hasD o = true) (hdo' : hasD o' = true)
    (hf : c.fld C x = true) (hO : ∀ h' m', Heap.SameBut (g.dloc i) s.heap h' → g.loc i ≠ g.dloc i → (∀ T, TbAt s.heap T → TbAt h' T) → NsW c.toCx h' (g.dloc i) m' → FRep c.toCx h' g.loc σ.n (upd fs x p) m' → OBody c.toCx g h' σ.n i o') (h : Q (σ.put i o')) :
    wpAny (model c.prog c.w) A (setAttr (.ref (g.loc i)) (c.nm x) v) (fun _ s' => SV c.toCx held fr g σ.n s.heap Q s') E s :=
  have F := c.hfld C x hf
  have z := (R.objs i o ho).2
  have dn := z.dnode hdo
  (R.instIs hi).casesOn fun ox od m II hdd ns look fr => dn.2.elim fun m' hns => setOwn (c := c.toCx) R.K F.1 II hdd F.2.1 ns F.2.2 fun h' hn' hs =>
    have q := R.putD (s' := { s with heap := h', toks := s.toks + 2 }) ho hdo hdo' (Ext.of_sameBut hs) rfl rfl (o' := o')
      ⟨z.main, hO h' _ hs (fun e => Role.noConfusion (z.main.symm.trans ((congrArg g.role e).trans dn.1))) (Heap.Ns.keepTb hns (Ext.of_sameBut hs)) hn'
        ((upd_frep (x := x) fr hv).move (loc' := g.loc) ((Ext.of_sameBut hs).tups (Heap.Ns.notTup hns)) (fun _ _ => rfl) (Nat.le_refl _))⟩
    ⟨g, _, q.1, q.2, h⟩
theorem setattr_ok (R : Rep c.toCx g held fr σ s) {i x : Nat} {C : Addr} {o' : AObj} {fs : Nat → Option PV} {Q : St → Prop} (hv : VRep s.heap g.loc σ.n p v)
    (hi : (σ.at_ i = some (.inst C fs) ∧ o' = .inst C (upd fs x p)) ∨ ∃ ch, σ.at_ i = some (.exc C fs ch) ∧ o' = .exc C (upd fs x p) ch)
    (hf : c.fld C x = true) (h : Q (σ.put i o')) :
    wpAny (model c.prog c.w) A (setAttr (.ref (g.loc i)) (c.nm x) v) (fun _ s' => SV c.toCx held fr g σ.n s.heap Q s') E s :=
  hi.elim (fun z => setattr_core R hv (.inl z.1) z.1 rfl (by rw [z.2]; rfl) hf (fun h' m' hs hne tb hn' fr' => by
      rw [z.2]; exact (R.objs i _ z.1).2.body.casesOn fun a2 ob mm b1 b2 b3 b4 _ _ => ⟨a2, ob, _, (hs.2 _ hne).trans b1, b2, b3, b4, hn', fr'⟩) h)
    fun z => z.elim fun ch z => setattr_core R hv (.inr ⟨ch, z.1⟩) z.1 rfl (by rw [z.2]; rfl) hf (fun h' m' hs hne tb hn' fr' => by
      rw [z.2]; exact (R.objs i _ z.1).2.body.casesOn fun a2 ob mm vs b1 b2 b3 b4 b5 b6 b7 _ _ => ⟨a2, ob, _, vs, (hs.2 _ hne).trans b1, b2, b3, b4, b5, b6.imp id (Exists.imp fun T t => ⟨t.1, tb T t.2.1, t.2.2⟩), b7, hn', fr'⟩) h

noncomputable def Gh.newD (g : Gh) (i : Nat) (d : Addr) : Gh := { g with dloc := fun j => if j = i then d else g.dloc j, role := fun b => if b = d then .dict i else g.role b }
theorem setbare_ok (R : Rep c.toCx g held fr σ s) {i x : Nat} {C : Addr} {Q : St → Prop} (hv : VRep s.heap g.loc σ.n p v) (hi : σ.at_ i = some (.bare C)) (hf : c.fld C x = true) (h : Q (σ.put i (.exc C (upd (fun _ => none) x p) false))) :
    wpAny (model c.prog c.w) A (setAttr (.ref (g.loc i)) (c.nm x) v) (fun _ s' => SV c.toCx held fr g σ.n s.heap Q s') E s := by
  have F := c.hfld C x hf
  have z := R.objs i _ hi
  have zm := z.2.main
  refine z.2.body.casesOn fun ob vs b1 b2 b3 b4 b5 b6 b7 => setBare (c := c.toCx) R.K F.1 b1 b2 b3 b4 F.2.1 F.2.2 fun h' o' e1 e2 e3 e4 e5 e6 => ?_
  have hx : Ext (fun a => a = g.loc i) s.heap h' := fun b o hb e => e6 b o hb e
  have hd : s.heap.get? s.heap.objs.size = none := Heap.get?_none_of_le (Nat.le_refl _)
  have ne : g.loc i ≠ s.heap.objs.size := Nat.ne_of_lt (Heap.lt_size b1)
  have hw := not_tup b1 (show ob.cls ≠ .type "tuple" from fun q => Value.noConfusion (b2.symm.trans q))
  have lt : ∀ b, g.role b ≠ .free → b ≠ s.heap.objs.size := fun b hb e => hb (by rw [e]; exact R.freeOf hd)
  have q := R.step' (s' := { s with heap := h', toks := s.toks + 2 }) (W := fun a => a = g.loc i) (σ' := σ.put i (.exc C (upd (fun _ => none) x p) false)) (g' := g.newD i s.heap.objs.size) (held' := held) (fr' := fr) hx rfl rfl
    (fun a e => by rw [e]; exact R.rB _ (by rw [zm]; exact Role.noConfusion)) hw (keep_tb b1 (fun q => Value.noConfusion (b2.symm.trans q)) hx) (fun _ _ => rfl)
    (fun j o _ hj hdo hj' => if_neg fun e => by rw [e, hi] at hj'; rw [← Option.some.inj hj'] at hdo; exact Bool.noConfusion hdo) (fun b _ hb => if_neg (lt b hb)) (Nat.le_refl _) (fun a e _ => ⟨o', by rw [e]; exact e1⟩)
    (fun b hb => (Classical.em (b = s.heap.objs.size)).elim (fun q => .inr ⟨by rw [q]; exact hd, (Heap.Ns.obj e5.1.ns).imp fun od w => w.elim fun _ w => w.elim fun _ w => by rw [q]; exact w.1⟩) fun q => .inl fun w => hb ((if_neg q).trans w))
    (fun f hf => .inl ⟨f, hf, rfl, fun q => Role.noConfusion (zm.symm.trans ((congrArg g.role q).symm.trans (R.frs f hf).2.1))⟩) R.nd
    (fun q hq => .inl ⟨hq, fun e => Role.noConfusion (zm.symm.trans ((congrArg g.role e).symm.trans (R.held q hq).2.2))⟩)
    fun j o e => (put_some e).elim (fun w => .inr (by
        rw [w.1, ← w.2]
        exact ⟨z.1, (if_neg ne).trans zm, by
          show (if (if i = i then s.heap.objs.size else g.dloc i) = s.heap.objs.size then Role.dict i else _) = _
          rw [if_pos rfl, if_pos rfl], o', _, vs, e1, e2, e3.trans (congrArg some (if_pos rfl).symm), e4, b5, .inl b6, fun _ => b7, by
          show NsW c.toCx h' (if i = i then s.heap.objs.size else g.dloc i) _
          rw [if_pos rfl]; exact e5, (upd_frep (x := x) (c := c) (fs := fun _ => none) (m := fun _ => none) (fun _ => rfl) hv).move (loc' := g.loc) (hx.tups hw) (fun _ _ => rfl) (Nat.le_refl _)⟩))
      fun w => have y := (R.objs j o w.2).2; .inl ⟨w.2, fun e => w.1 (Role.main.inj (y.main.symm.trans ((congrArg g.role e).trans zm))), fun hd e => Role.noConfusion ((y.dnode hd).1.symm.trans ((congrArg g.role e).trans zm))⟩
  exact ⟨_, _, q.1, q.2, h⟩
end
end Mine
end

section
open PySem PySem.W PyProof.Rows PySem.Calls Builtin Builtin.ObjectAttr
set_option Elab.async false
set_option linter.unusedVariables false
set_option maxRecDepth 100000
namespace Mine

section
variable {c : Sx} {g : Gh} {held : List (Addr × Obj)} {fr : List FrG} {σ : St} {s s' : Shared} {Q : PV → St → Prop} {X : Nat → St → Prop} {p q : PV} {u v : Value}
variable {A : Around} {E : Value → Shared → Prop}

theorem seq_neg {i : Int} {n : Nat} (h0 : i < 0) (h1 : 0 ≤ i + n) : seqIndex? i n = some (i + n).toNat := by
  unfold seqIndex?
  rw [if_pos h0]
  exact if_pos (Bool.and_eq_true_iff.mpr ⟨decide_eq_true h1, decide_eq_true (Int.add_lt_of_lt_sub_right (by rw [Int.sub_self]; exact h0))⟩)

theorem lt_of_getElem {α : Type} {xs : List α} {n : Nat} {x : α} (h : xs[n]? = some x) : n < xs.length := (List.getElem?_eq_some_iff.mp h).1
inductive GetI (n : Nat) (i : Int) (j : Nat) : Prop where
  | mk (e : seqIndex? i n = some j) (p : 0 ≤ i → j = i.toNat) (m : i < 0 → -(n : Int) ≤ i ∧ j = (i + n).toNat)
theorem geti_neg {n : Nat} {i : Int} (h0 : ¬ 0 ≤ i) (h1 : 0 ≤ i + n) : GetI n i (i + n).toNat := ⟨seq_neg (by omega) h1, fun h => absurd h h0, fun _ => ⟨by omega, rfl⟩⟩
theorem geti_pos {n : Nat} {i : Int} (h0 : 0 ≤ i) (h1 : i.toNat < n) : GetI n i i.toNat := ⟨StrLaws.seqIndex_nonneg h0 (by omega), fun _ => rfl, fun h => absurd h0 (Int.not_le.mpr h)⟩
theorem getI_some {vs : List PV} {i : Int} {r : PV} (h : getI vs i = some r) : ∃ j : Nat, GetI vs.length i j ∧ vs[j]? = some r := by
  unfold getI at h
  by_cases h0 : 0 ≤ i
  · rw [if_pos h0] at h
    exact ⟨_, geti_pos h0 (lt_of_getElem h), h⟩
  · rw [if_neg h0] at h
    by_cases h1 : 0 ≤ i + vs.length
    · rw [if_pos h1] at h
      exact ⟨_, geti_neg h0 h1, h⟩
    · rw [if_neg h1] at h; cases h

theorem kind_found {h : Heap} {a : Addr} {ws : List (KV × Value)} (d : DRep c.toCx h a ws) {k : KV} {v : Value} (hf : wFind ws k = some v) : ∀ x ∈ ws, kindOf x.1 = kindOf k := by
  obtain ⟨x, hx, _⟩ := Option.map_eq_some_iff.mp hf
  have e : x.1 = k := beq_iff_eq.mp (List.find?_some (p := fun x : KV × Value => x.1 == k) hx)
  have hm := List.mem_of_find?_eq_some hx
  rw [← e]
  clear hx hf e
  have all : ∃ n, ∀ x ∈ ws, kindOf x.1 = n := d.casesOn (fun l _ => ⟨0, fun x hx => (List.mem_map.mp hx).elim fun _ z => z.2 ▸ rfl⟩) (fun l _ => ⟨1, fun x hx => (List.mem_map.mp hx).elim fun _ z => z.2 ▸ rfl⟩) (fun l _ => ⟨2, fun x hx => (List.mem_map.mp hx).elim fun _ z => z.2 ▸ rfl⟩)
  exact all.elim fun n q y hy => (q y hy).trans (q x hm).symm

/-- the object that is subscripted, and its item -/
inductive SubOk (c : Sx) (A : Around) (E : Value → Shared → Prop) (u v : Value) (Q : Value → Shared → Prop) (s : Shared) : Prop where
  | mk (T id : String) (h1 : s.TypeIs u T) (h2 : typeLookup (.type T) "__getitem__" = pure (some (.builtin id))) (h3 : wpAny (model c.prog c.w) A (getItem u v) Q E s)
theorem ti_ofNat {xs : List Value} {i : Int} {n : Nat} (h : GetI xs.length i n) : seqIndex? i xs.toArray.size = some n := by rw [List.size_toArray]; exact h.1
theorem list_item {a : Addr} {xs : List Value} {i : Int} {t : Tok} {j : Nat} {v : Value} {Q : Value → Shared → Prop} (hl : s.heap.IsList a xs.toArray) (hb : xs.length ≤ 2000000) (g : GetI xs.length i j) (hv : xs[j]? = some v) (h : Q v s) :
    wpAny (model c.prog c.w) A (getItem (.ref a) (.int i t)) Q E s := by
  have hn := lt_of_getElem hv
  by_cases h0 : 0 ≤ i
  · have e := g.2 h0
    exact wpAny_getItem_list hl h0 (by omega) (by rw [← e]; exact (List.getElem?_toArray ..).trans hv) h
  · obtain ⟨z1, z2⟩ := g.3 (by omega)
    exact wpAny_getItem_list_neg hl (by omega) (by rw [List.size_toArray]; exact z1) (by omega) (x := v) (by rw [List.size_toArray, ← z2]; exact (List.getElem?_toArray ..).trans hv) h
theorem sub_tup (R : Rep c.toCx g held fr σ s) {a : Addr} {vs : List PV} {xs : List Value} (ha : TupAt s.heap a xs) (r : VReps s.heap g.loc σ.n vs xs) {i : Int} {t : Tok} (h1 : -1000 ≤ i) (h2 : i ≤ 1000) {y : PV} (hy : getI vs i = some y) (h : Q y σ) :
    SubOk c A E (.ref a) (.int i t) (QV c.toCx held fr g σ.n s.heap Q) s :=
  (getI_some hy).elim fun j z => (r.get z.2).elim fun v w => ⟨_, _, ha.isTup.typeIs, slot_tuple_getitem.lookup, getItem_tuple ha.isTup (by omega) (by omega) (ti_ofNat (r.length ▸ z.1)) ((List.getElem?_toArray ..).trans w.1) (qv R w.2 h)⟩
theorem sub_str (R : Rep c.toCx g held fr σ s) {x : List Nat} {i : Int} {t t' : Tok} (h1 : 0 ≤ i) (h2 : i ≤ 1000000) {y : Nat} (hy : x[i.toNat]? = some y) (h : Q (.str [y]) σ) :
    SubOk c A E (.str ⟨x.toArray⟩ t) (.int i t') (QV c.toCx held fr g σ.n s.heap Q) s := by
  have hlt := lt_of_getElem hy
  refine ⟨_, _, typeIs_str s _ _, F.slot_str_getitem.lookup, P.getItem_str ?_ (c := y) ?_ (qvt R (.str [y] _) h)⟩
  · rw [Bool.or_eq_false_iff, decide_eq_false_iff_not, decide_eq_false_iff_not]; omega
  · rw [StrLaws.seqIndex_nonneg h1 (by show i < ((x.toArray.size : Nat) : Int); rw [List.size_toArray]; omega), Option.bind_some]
    exact (List.getElem?_toArray ..).trans hy
theorem sub_dict (R : Rep c.toCx g held fr σ s) {j : Nat} {kvs : List (KV × PV)} (hj : σ.at_ j = some (.dict kvs)) (hq : VRep s.heap g.loc σ.n q v) {k : KV} {y : PV} (hk : kvOf q = some k) (hy : kvFind kvs k = some y) (h : Q y σ) :
    SubOk c A E (.ref (g.loc j)) v (QV c.toCx held fr g σ.n s.heap Q) s := by
  refine (R.dict hj).casesOn fun o es ep ws _ _ _ d e1 e2 => ?_
  obtain ⟨v', z2, z3⟩ : ∃ v', wFind ws k = some v' ∧ VRep s.heap g.loc σ.n y v' :=
    (find_par e1 e2 k).elim (fun z => absurd (hy.symm.trans z.1) (Option.some_ne_none _)) fun z => z.elim fun y' z => z.elim fun v' z => ⟨v', z.2.1, Option.some.inj (z.1.symm.trans hy) ▸ z.2.2⟩
  have kk := kind_found d z2
  clear e1 e2 hj hy
  refine kvOf_e (C := fun k v => wFind ws k = some v' → (∀ x ∈ ws, kindOf x.1 = kindOf k) → SubOk c A E (.ref (g.loc j)) v (QV c.toCx held fr g σ.n s.heap Q) s) hq hk (fun x t z kk => ?_) (fun x t z kk => ?_) z2 kk
  · refine (d.asS kk).elim fun l w => ?_
    rw [w.1, wFind_s] at z
    exact ⟨_, _, w.2.mapOf.typeIs, slot_dict_getitem.lookup, wpAny_getItem_of (strKind_is _ _ _ _) w.2.mapOf z (qvt R z3 h)⟩
  · refine (d.asI kk).elim fun l w => ?_
    rw [w.1, wFind_i] at z
    exact ⟨_, _, w.2.mapOf.typeIs, slot_dict_getitem.lookup, wpAny_getItem_of (intKind_is _ _ _ _) w.2.mapOf z (qvt R z3 h)⟩
theorem sub_ok (R : Rep c.toCx g held fr σ s) (hp : VRep s.heap g.loc σ.n p u) (hq : VRep s.heap g.loc σ.n q v) (h : wSub σ p q fun r => Q r σ) :
    SubOk c A E u v (QV c.toCx held fr g σ.n s.heap Q) s := by
  cases hp with
  | tup ha r => exact wInt_e hq h fun i t h => h.2.2.elim fun y z => sub_tup R ha r h.1 h.2.1 z.1 z.2
  | str x t => exact wInt_e hq h fun i t h => h.2.2.elim fun y z => sub_str R h.1 h.2.1 z.1 z.2
  | ref j hj =>
    change (match σ.at_ j with
      | some (.list vs) => wInt q fun i => ∃ r, getI vs i = some r ∧ Q r σ
      | some (.dict kvs) => ∃ k r, kvOf q = some k ∧ kvFind kvs k = some r ∧ Q r σ
      | _ => False) at h
    cases e : σ.at_ j with
    | none => rw [e] at h; exact h.elim
    | some o =>
      rw [e] at h
      cases o with
      | list vs => exact wInt_e hq h fun i t h => h.elim fun y z => (R.list e).casesOn fun xs k a1 a2 => (getI_some z.1).elim fun n w => (a2.get w.2).elim fun v z' =>
          ⟨_, _, a1.isList.typeIs, slot_list_getitem.lookup, list_item a1.isList (a2.length ▸ R.llen e) (a2.length ▸ w.1) z'.1 (qv R z'.2 z.2)⟩
      | dict kvs => exact h.elim fun k h => h.elim fun y h => sub_dict R e hq h.1 h.2.1 h.2.2
      | _ => exact h.elim
  | _ => exact False.elim h

noncomputable def clp (n : Nat) (d : Int) : Option Int → Int
  | none => d
  | some i => max 0 (min (if i < 0 then i + n else i) n)
theorem clp_some {i : Int} {n : Nat} {d : Int} (h : 0 ≤ i) : clp n d (some i) = ((min i.toNat n : Nat) : Int) := by
  show max 0 (min (if i < 0 then i + (n : Int) else i) n) = _
  rw [if_neg (Int.not_lt.mpr h)]
  obtain ⟨k, rfl⟩ := Int.eq_ofNat_of_zero_le h
  show _ = ((min k n : Nat) : Int)
  by_cases e : k ≤ n
  · rw [Nat.min_eq_left e, Int.min_eq_left (Int.ofNat_le.mpr e)]; exact Int.max_eq_right h
  · have e := Nat.le_of_not_le e
    rw [Nat.min_eq_right e, Int.min_eq_right (Int.ofNat_le.mpr e)]; exact Int.max_eq_right (Int.natCast_nonneg n)
theorem bnd_part {n d : Nat} {h : Heap} {loc : Nat → Addr} {m : Nat} {a : Nat} (hp : VRep h loc m p u) (hb : bnd n d p = some a) : ∃ x, IsPart u x ∧ clp n d x = a := by
  cases hp with
  | none => exact ⟨none, .none, congrArg _ (Option.some.inj hb)⟩
  | int i t =>
    change (if 0 ≤ i then some (min i.toNat n) else none) = some a at hb
    by_cases h0 : 0 ≤ i
    · rw [if_pos h0] at hb; exact ⟨some i, .int _ _, (clp_some h0).trans (congrArg _ (Option.some.inj hb))⟩
    · rw [if_neg h0] at hb; cases hb
  | _ => cases hb
theorem bounds_of {n a b : Nat} {x y : Option Int} (hx : clp n 0 x = a) (hy : clp n n y = b) : sliceBounds x y none n = ((a : Int), (b : Int), 1) := by
  rw [← hx, ← hy]
  cases x <;> cases y <;> rfl

/-- a slice of a list -/
theorem slc_core (R : Rep c.toCx g held fr σ s) {pl pu : PV} {vl vu : Value} {sl : Addr} (hl : VRep s.heap g.loc σ.n pl vl) (hu : VRep s.heap g.loc σ.n pu vu) (hs : s.heap.IsSliceOf sl vl vu .none)
    {ad : Addr} {xs : List Value} {vs : List PV} {a b : Nat} (a1 : s.heap.IsList ad xs.toArray) (a2 : VReps s.heap g.loc σ.n vs xs) (hz : vs.length ≤ 2000000) (ha : bnd vs.length 0 pl = some a) (hb : bnd vs.length vs.length pu = some b)
    (h : Q (.ref σ.n) (σ.new (.list ((vs.drop a).take (b - a))))) : SubOk c A E (.ref ad) (.ref sl) (QV c.toCx held fr g σ.n s.heap Q) s :=
  have hsz : xs.toArray.size = vs.length := by rw [List.size_toArray, a2.length]
  (bnd_part hl ha).elim fun x hx => (bnd_part hu hb).elim fun y hy =>
    ⟨_, _, a1.typeIs, slot_list_getitem.lookup, wpAny_getItem_list_slice a1 hs hx.1 hy.1 .none (fun q => Option.some_ne_none _ q.symm) (by
      rw [kmk_pick_nat xs.toArray (by rw [hsz]; exact bounds_of hx.2 hy.2)]
      exact newL R ((a2.drop a).take (b - a)) (Nat.le_trans (List.length_take_le' ..) (Nat.le_trans (by rw [List.length_drop]; exact Nat.sub_le ..) hz)) h) (by rw [hsz]; exact Nat.le_trans hz (by decide))⟩
theorem slc_ok (R : Rep c.toCx g held fr σ s) {pl pu : PV} {vl vu : Value} {sl : Addr} (hp : VRep s.heap g.loc σ.n p u) (hl : VRep s.heap g.loc σ.n pl vl) (hu : VRep s.heap g.loc σ.n pu vu)
    (hs : s.heap.IsSliceOf sl vl vu .none) (h : wSlc c p pl pu σ Q) : SubOk c A E u (.ref sl) (QV c.toCx held fr g σ.n s.heap Q) s := by
  cases hp with
  | st _ hv =>
    rw [h.1]
    exact h.2.elim fun a h => h.elim fun b h => c.hscr.elim fun xs z => z.1.elim fun o w => have r := z.2.2 s.heap g.loc σ.n
      slc_core R hl hu hs ⟨o, R.stays _ _ w.1, w.2⟩ r (r.length ▸ Nat.le_trans z.2.1 (by decide)) (by rw [List.length_map]; exact h.1) (by rw [List.length_map]; exact h.2.1) h.2.2
  | ref j hj =>
    change (match σ.at_ j with
      | some (.list vs) => ∃ a b, bnd vs.length 0 pl = some a ∧ bnd vs.length vs.length pu = some b ∧ Q (.ref σ.n) (σ.new (.list ((vs.drop a).take (b - a))))
      | _ => False) at h
    cases e : σ.at_ j with
    | none => rw [e] at h; exact h.elim
    | some o =>
      rw [e] at h
      cases o with
      | list vs => exact h.elim fun a h => h.elim fun b h => (R.list e).casesOn fun xs k a1 a2 => slc_core R hl hu hs a1.isList a2 (R.llen e) h.1 h.2.1 h.2.2
      | _ => exact h.elim
  | _ => exact False.elim h
end
end Mine
end

section
open PySem PySem.W PyProof.Rows PySem.Calls Builtin Builtin.ObjectAttr
set_option Elab.async false
set_option linter.unusedVariables false
set_option maxRecDepth 100000
namespace Mine

section
variable {c : Sx} {g : Gh} {held : List (Addr × Obj)} {fr : List FrG} {σ : St} {s s' : Shared} {X : Nat → St → Prop} {p q : PV} {u v : Value}
variable {A : Around} {E : Value → Shared → Prop}

inductive IsD (h : Heap) (a : Addr) : Prop where
  | mk (o : Obj) (es : Array DictEntry) (ep : Nat) (h1 : h.get? a = some o) (h2 : o.cls = .type "dict") (h3 : o.data = .dict es ep) (h4 : o.dict = none)
theorem DRep.obj {h : Heap} {a : Addr} {ws : List (KV × Value)} (d : DRep c.toCx h a ws) : IsD h a :=
  d.casesOn (fun l hd => hd.elim fun o z => z.elim fun es z => z.elim fun ep z => ⟨o, es, ep, z.1, z.2.1.1, z.2.2.1, z.2.1.2.1⟩) (fun l hd => hd.elim fun o z => z.elim fun es z => z.elim fun ep z => ⟨o, es, ep, z.1, z.2.1.1, z.2.2.1, z.2.1.2.1⟩)
    (fun l hd => hd.elim fun o z => z.elim fun es z => z.elim fun ep z => ⟨o, es, ep, z.1, z.2.1.1, z.2.2.1, z.2.1.2.1⟩)

/-- a dict behind a store -/
theorem dict_put (R : Rep c.toCx g held fr σ s) {j : Nat} {kvs : List (KV × PV)} {ws : List (KV × Value)} (hj : σ.at_ j = some (.dict kvs)) (hv : VRep s.heap g.loc σ.n p v) (d : DRep c.toCx s.heap (g.loc j) ws) (e1 : ws.map (·.1) = kvs.map (·.1))
    (e2 : VReps s.heap g.loc σ.n (kvs.map (·.2)) (ws.map (·.2))) {k : KV} {h' : Heap} (d' : DRep c.toCx h' (g.loc j) (wPut ws k v)) (hs : Heap.SameBut (g.loc j) s.heap h') {t : Nat} {Q : St → Prop} (h : Q (σ.put j (.dict (kvPut kvs k p)))) :
    SV c.toCx held fr g σ.n s.heap Q { s with heap := h', toks := t } :=
  d.obj.casesOn fun o0 _ _ h1 h2 _ _ => d'.obj.casesOn fun o' es' ep' b1 b2 b4 _ =>
    have f := put_par e1 e2 k hv
    have tk := (Ext.of_sameBut hs).tups (not_tup h1 fun q => absurd (Value.type.inj (h2.symm.trans q)) (by decide))
    have z := R.put (s' := { s with heap := h', toks := t }) hj (Ext.of_sameBut hs) rfl rfl (o' := .dict (kvPut kvs k p)) rfl ⟨(R.objs j _ hj).2.main, o', es', ep', _, b1, b2, b4, d', f.1, f.2.move tk (fun _ _ => rfl) (Nat.le_refl _)⟩
    ⟨g, _, z.1, z.2, h⟩

theorem keyOf_e {C : KV → Value → Prop} {h : Heap} {loc : Nat → Addr} {n : Nat} {k : KV} (hp : VRep h loc n q u) (hk : keyOf q = some k) (hs : ∀ y t, C (.s y) (.str ⟨y.toArray⟩ t)) (hi : ∀ y t, C (.i y) (.int y t))
    (ht : ∀ a b ad t1 t2, TupAt h ad [.int a t1, .int b t2] → C (.t [a, b]) (.ref ad)) : C k u := by
  cases hp with
  | str y t => exact Option.some.inj hk ▸ hs y t
  | int y t => exact Option.some.inj hk ▸ hi y t
  | tup ha r =>
    rename_i ad vs xs
    cases vs with
    | nil => cases hk
    | cons p vs => cases vs with
      | nil => cases hk
      | cons q vs => cases vs with
        | cons _ _ => cases hk
        | nil =>
          refine VReps.consE (C := fun xs => TupAt h ad xs → C k (.ref ad)) r (fun v xs r1 r => VReps.consE (C := fun xs => TupAt h ad (v :: xs) → C k (.ref ad)) r fun w xs r2 r => VReps.nilE (C := fun xs => TupAt h ad (v :: w :: xs) → C k (.ref ad)) r fun ha => ?_) ha
          cases r1 with
          | int a t1 =>
            cases r2 with
            | int b t2 => exact Option.some.inj hk ▸ ht a b ad t1 t2 ha
            | _ => cases hk
          | _ => cases hk
  | _ => exact absurd hk.symm (Option.some_ne_none k)

theorem tupKey {h : Heap} {ad : Addr} {a b : Int} {t1 t2 : Tok} (ht : TupAt h ad [.int a t1, .int b t2]) : (tupleKind (intKind c.prog c.w)).is h [a, b] ad :=
  ht.casesOn fun o k h1 h2 h3 => ⟨o, _, k, h1, h2, h3, .cons (intKind_is _ _ _ _) (.cons (intKind_is _ _ _ _) .nil)⟩

theorem setitem_ok (R : Rep c.toCx g held fr σ s) {j : Nat} {kvs : List (KV × PV)} {k : KV} {Q : St → Prop} (hj : σ.at_ j = some (.dict kvs)) (hq : VRep s.heap g.loc σ.n q u) (hv : VRep s.heap g.loc σ.n p v) (hu : A.in1.units < cLine) (hl : kvs.length ≤ 100000)
    (hk : keyOf q = some k) (ha : ∀ x ∈ kvs, kindOf x.1 = kindOf k) (h : Q (σ.put j (.dict (kvPut kvs k p)))) :
    wpAny (model c.prog c.w) A (setItem (.ref (g.loc j)) u v) (fun _ s' => SV c.toCx held fr g σ.n s.heap Q s') E s := by
  refine (R.dict hj).casesOn fun _ _ _ ws _ _ _ d e1 e2 => ?_
  have le : ∀ {α : Type} {l : List α} {f : α → KV × Value}, ws = l.map f → l.length ≤ sizeLine := fun e => by
    have a := congrArg List.length e
    have b := congrArg List.length e1
    rw [List.length_map] at a
    rw [List.length_map, List.length_map] at b
    rw [← a, b]; exact Nat.le_trans hl (by decide)
  have put : ∀ {h' : Heap} {t : Nat}, DRep c.toCx h' (g.loc j) (wPut ws k v) → Heap.SameBut (g.loc j) s.heap h' → SV c.toCx held fr g σ.n s.heap Q { s with heap := h', toks := t } := fun d' hs => dict_put R hj hv d e1 e2 d' hs h
  have kk := kinds_par e1 ha
  clear h e1 e2 ha
  refine keyOf_e (C := fun k u => (∀ x ∈ ws, kindOf x.1 = kindOf k) → (∀ {h' : Heap} {t : Nat}, DRep c.toCx h' (g.loc j) (wPut ws k v) → Heap.SameBut (g.loc j) s.heap h' → SV c.toCx held fr g σ.n s.heap Q { s with heap := h', toks := t }) →
    wpAny (model c.prog c.w) A (setItem (.ref (g.loc j)) u v) (fun _ s' => SV c.toCx held fr g σ.n s.heap Q s') E s) hq hk (fun y t kk put => ?_) (fun y t kk put => ?_) (fun a b ad t1 t2 ht kk put => ?_) kk put
  · exact (d.asS kk).elim fun l z => wpAny_setItem_pairs (strKind_is _ _ _ _) z.2 (fun h' hd' hs => put (by rw [z.1, wPut_s]; exact .s _ hd') hs) (le z.1)
  · exact (d.asI kk).elim fun l z => wpAny_setItem_pairs (intKind_is _ _ _ _) z.2 (fun h' hd' hs => put (by rw [z.1, wPut_i]; exact .i _ hd') hs) (le z.1)
  · exact (d.asT kk).elim fun l z => wpAny_setItem_heap (knd := tupleKind (intKind c.prog c.w)) (k := [a, b]) hu (tupKey ht) z.2 (fun h' hd' hs => put (by rw [z.1, wPut_t]; exact .t _ hd') hs) (le z.1)
end
end Mine
end

section
open PySem PySem.W PyProof.Rows PySem.Calls Builtin Builtin.ObjectAttr
set_option Elab.async false
set_option linter.unusedVariables false
set_option maxRecDepth 100000
namespace Mine

/-- the environment of a piece of text -/
structure EnvOk (sc : Scope) (env : Env) (f : FrG) : Prop where
  kind : env.scope.kind = .function
  names : env.scope.names = sc.names
  glob : env.globals = mainGlobals
  blt : env.builtins = builtinsNs
  loc : env.locals = f.L

/-- the local names -/
noncomputable def LRep (c : Cx) (h : Heap) (loc : Nat → Addr) (n : Nat) (ρ : Loc) (m : Str → Option Value) : Prop := ∀ k p, ρ k = some p → ∃ v, m (c.nm k) = some v ∧ VRep h loc n p v
theorem LRep.le {c : Cx} {g g' : Gh} {n n' : Nat} {h h' : Heap} {ρ : Loc} {m : Str → Option Value} (x : LRep c h g.loc n ρ m) (L : Le g n h g' n' h') : LRep c h' g'.loc n' ρ m := fun k p e => (x k p e).imp fun v z => ⟨z.1, L.rep z.2⟩

structure Pre (c : Sx) (lv : Nat) (hd : Option Nat) (f : FrG) (fr : List FrG) (held : List (Addr × Obj)) (ρ : Loc) (A : Around) (g : Gh) (σ : St) (s : Shared) : Prop where
  room : Room A lv
  frames : A.frames = some ((f :: fr).filterMap (·.env))
  hd : HdOk g σ.n A hd
  R : Rep c.toCx g held (f :: fr) σ s
  L : LRep c.toCx s.heap g.loc σ.n ρ f.m

theorem HdOk.next {g g' : Gh} {n n' : Nat} {A : Around} {hd : Option Nat} {h h' : Heap} (x : HdOk g n A hd) (L : Le g n h g' n' h') : HdOk g' n' A hd := by
  cases hd with
  | none => exact x
  | some i => exact ⟨by rw [L.loc i x.2]; exact x.1, Nat.lt_of_lt_of_le x.2 L.n⟩

section
variable {c : Sx} {lv : Nat} {hd : Option Nat} {f : FrG} {fr : List FrG} {held : List (Addr × Obj)} {ρ : Loc} {A : Around} {g g' : Gh} {σ σ' : St} {s s' : Shared}

theorem Pre.next (P : Pre c lv hd f fr held ρ A g σ s) (R' : Rep c.toCx g' held (f :: fr) σ' s') (L : Le g σ.n s.heap g' σ'.n s'.heap) : Pre c lv hd f fr held ρ A g' σ' s' :=
  ⟨P.room, P.frames, P.hd.next L, R', P.L.le L⟩

inductive BQ (c : Cx) (held : List (Addr × Obj)) (fr : List FrG) (g₀ : Gh) (n₀ : Nat) (h₀ : Heap) (Q : Bool → St → Prop) (b : Bool) (s' : Shared) : Prop where
  | mk (g : Gh) (σ : St) (R : Rep c g held fr σ s') (L : Le g₀ n₀ h₀ g σ.n s'.heap) (q : Q b σ)
inductive QVs (c : Cx) (held : List (Addr × Obj)) (fr : List FrG) (g₀ : Gh) (n₀ : Nat) (h₀ : Heap) (k : Nat) (Q : List PV → St → Prop) (vs : List Value) (s' : Shared) : Prop where
  | mk (g : Gh) (σ : St) (ps : List PV) (R : Rep c g held fr σ s') (L : Le g₀ n₀ h₀ g σ.n s'.heap) (r : VReps s'.heap g.loc σ.n ps vs) (l : vs.length = k) (q : Q ps σ)

/-- a tree does what is asked -/
noncomputable def EOk (c : Sx) (lv : Nat) (hd : Option Nat) (f : FrG) (fr : List FrG) (held : List (Addr × Obj)) (ρ : Loc) (W : St → (PV → St → Prop) → (Nat → St → Prop) → Prop) (m : Sem Value) : Prop :=
  ∀ (A : Around) (g : Gh) (σ : St) (s : Shared) (Q : PV → St → Prop) (X : Nat → St → Prop), Pre c lv hd f fr held ρ A g σ s → W σ Q X →
    wpAny (model c.prog c.w) A m (QV c.toCx held (f :: fr) g σ.n s.heap Q) (XV c.toCx held (f :: fr) g σ.n s.heap X) s
noncomputable def TOk (c : Sx) (lv : Nat) (hd : Option Nat) (f : FrG) (fr : List FrG) (held : List (Addr × Obj)) (ρ : Loc) (W : St → (Bool → St → Prop) → (Nat → St → Prop) → Prop) (m : Sem Bool) : Prop :=
  ∀ (A : Around) (g : Gh) (σ : St) (s : Shared) (Q : Bool → St → Prop) (X : Nat → St → Prop), Pre c lv hd f fr held ρ A g σ s → W σ Q X →
    wpAny (model c.prog c.w) A m (BQ c.toCx held (f :: fr) g σ.n s.heap Q) (XV c.toCx held (f :: fr) g σ.n s.heap X) s
noncomputable def LOk (c : Sx) (lv : Nat) (hd : Option Nat) (f : FrG) (fr : List FrG) (held : List (Addr × Obj)) (ρ : Loc) (k : Nat) (W : St → (List PV → St → Prop) → (Nat → St → Prop) → Prop) (m : Sem (List Value)) : Prop :=
  ∀ (A : Around) (g : Gh) (σ : St) (s : Shared) (Q : List PV → St → Prop) (X : Nat → St → Prop), Pre c lv hd f fr held ρ A g σ s → W σ Q X →
    wpAny (model c.prog c.w) A m (QVs c.toCx held (f :: fr) g σ.n s.heap k Q) (XV c.toCx held (f :: fr) g σ.n s.heap X) s

theorem liftE {fs : List FrG} {g₀ : Gh} {n₀ : Nat} {h₀ : Heap} {m : Sem Value} {Q : PV → St → Prop} {X : Nat → St → Prop} (L : Le g₀ n₀ h₀ g σ.n s.heap)
    (h : wpAny (model c.prog c.w) A m (QV c.toCx held fs g σ.n s.heap Q) (XV c.toCx held fs g σ.n s.heap X) s) :
    wpAny (model c.prog c.w) A m (QV c.toCx held fs g₀ n₀ h₀ Q) (XV c.toCx held fs g₀ n₀ h₀ X) s :=
  wpAny_mono h (fun v s x => QV.after L x) fun v s x => XV.after L x
theorem liftB {fs : List FrG} {g₀ : Gh} {n₀ : Nat} {h₀ : Heap} {m : Sem Bool} {Q : Bool → St → Prop} {X : Nat → St → Prop} (L : Le g₀ n₀ h₀ g σ.n s.heap)
    (h : wpAny (model c.prog c.w) A m (BQ c.toCx held fs g σ.n s.heap Q) (XV c.toCx held fs g σ.n s.heap X) s) :
    wpAny (model c.prog c.w) A m (BQ c.toCx held fs g₀ n₀ h₀ Q) (XV c.toCx held fs g₀ n₀ h₀ X) s :=
  wpAny_mono h (fun v s z => z.casesOn fun a b d e q => ⟨a, b, d, L.trans e, q⟩) fun v s x => XV.after L x
theorem liftL {fs : List FrG} {g₀ : Gh} {n₀ : Nat} {h₀ : Heap} {k : Nat} {m : Sem (List Value)} {Q : List PV → St → Prop} {X : Nat → St → Prop} (L : Le g₀ n₀ h₀ g σ.n s.heap)
    (h : wpAny (model c.prog c.w) A m (QVs c.toCx held fs g σ.n s.heap k Q) (XV c.toCx held fs g σ.n s.heap X) s) :
    wpAny (model c.prog c.w) A m (QVs c.toCx held fs g₀ n₀ h₀ k Q) (XV c.toCx held fs g₀ n₀ h₀ X) s :=
  wpAny_mono h (fun v s z => z.casesOn fun a b p d e r l q => ⟨a, b, p, d, L.trans e, r, l, q⟩) fun v s x => XV.after L x

/-- a value is computed, and what is behind goes on -/
theorem bindE {β : Type} {m : Sem Value} {k : Value → Sem β} {W : St → (PV → St → Prop) → (Nat → St → Prop) → Prop} {Q : PV → St → Prop} {X : Nat → St → Prop} {Post : β → Shared → Prop} (M : EOk c lv hd f fr held ρ W m)
    (P : Pre c lv hd f fr held ρ A g σ s) (h : W σ Q X)
    (hk : ∀ g₁ σ₁ s₁ p v, Pre c lv hd f fr held ρ A g₁ σ₁ s₁ → Le g σ.n s.heap g₁ σ₁.n s₁.heap → VRep s₁.heap g₁.loc σ₁.n p v → Q p σ₁ → wpAny (model c.prog c.w) A (k v) Post (XV c.toCx held (f :: fr) g σ.n s.heap X) s₁) :
    wpAny (model c.prog c.w) A (m >>= k) Post (XV c.toCx held (f :: fr) g σ.n s.heap X) s :=
  wpAny_bind (wpAny_mono (M A g σ s Q X P h) (fun v s₁ z => z.casesOn fun g₁ σ₁ p R₁ L₁ r q => hk g₁ σ₁ s₁ p v (P.next R₁ L₁) L₁ r q) fun _ _ x => x)
theorem bindT {β : Type} {m : Sem Bool} {k : Bool → Sem β} {W : St → (Bool → St → Prop) → (Nat → St → Prop) → Prop} {Q : Bool → St → Prop} {X : Nat → St → Prop} {Post : β → Shared → Prop} (M : TOk c lv hd f fr held ρ W m)
    (P : Pre c lv hd f fr held ρ A g σ s) (h : W σ Q X)
    (hk : ∀ g₁ σ₁ s₁ b, Pre c lv hd f fr held ρ A g₁ σ₁ s₁ → Le g σ.n s.heap g₁ σ₁.n s₁.heap → Q b σ₁ → wpAny (model c.prog c.w) A (k b) Post (XV c.toCx held (f :: fr) g σ.n s.heap X) s₁) :
    wpAny (model c.prog c.w) A (m >>= k) Post (XV c.toCx held (f :: fr) g σ.n s.heap X) s :=
  wpAny_bind (wpAny_mono (M A g σ s Q X P h) (fun v s₁ z => z.casesOn fun g₁ σ₁ R₁ L₁ q => hk g₁ σ₁ s₁ v (P.next R₁ L₁) L₁ q) fun _ _ x => x)
theorem bindL {β : Type} {n : Nat} {m : Sem (List Value)} {k : List Value → Sem β} {W : St → (List PV → St → Prop) → (Nat → St → Prop) → Prop} {Q : List PV → St → Prop} {X : Nat → St → Prop} {Post : β → Shared → Prop} (M : LOk c lv hd f fr held ρ n W m)
    (P : Pre c lv hd f fr held ρ A g σ s) (h : W σ Q X)
    (hk : ∀ g₁ σ₁ s₁ ps vs, Pre c lv hd f fr held ρ A g₁ σ₁ s₁ → Le g σ.n s.heap g₁ σ₁.n s₁.heap → VReps s₁.heap g₁.loc σ₁.n ps vs → vs.length = n → Q ps σ₁ → wpAny (model c.prog c.w) A (k vs) Post (XV c.toCx held (f :: fr) g σ.n s.heap X) s₁) :
    wpAny (model c.prog c.w) A (m >>= k) Post (XV c.toCx held (f :: fr) g σ.n s.heap X) s :=
  wpAny_bind (wpAny_mono (M A g σ s Q X P h) (fun v s₁ z => z.casesOn fun g₁ σ₁ p R₁ L₁ r l q => hk g₁ σ₁ s₁ p v (P.next R₁ L₁) L₁ r l q) fun _ _ x => x)

theorem EOk.holding {vs : List Value} {m : Sem Value} {W : St → (PV → St → Prop) → (Nat → St → Prop) → Prop} (M : EOk c lv hd f fr held ρ W m) : EOk c lv hd f fr held ρ W (holding vs m) :=
  fun A g σ s Q X P h => wpAny_holding (M A g σ s Q X P h)
theorem LOk.holding {n : Nat} {vs : List Value} {m : Sem (List Value)} {W : St → (List PV → St → Prop) → (Nat → St → Prop) → Prop} (M : LOk c lv hd f fr held ρ n W m) : LOk c lv hd f fr held ρ n W (holding vs m) :=
  fun A g σ s Q X P h => wpAny_holding (M A g σ s Q X P h)

theorem qvl {fs : List FrG} {g₀ : Gh} {n₀ : Nat} {h₀ : Heap} (L : Le g₀ n₀ h₀ g σ.n s.heap) (R : Rep c.toCx g held fs σ s) {p : PV} {v : Value} {Q : PV → St → Prop} (hp : VRep s.heap g.loc σ.n p v) (hQ : Q p σ) : QV c.toCx held fs g₀ n₀ h₀ Q v s := QV.after L (qv R hp hQ)

variable {sc : Scope} {env : Env}

/-! names and constants -/
theorem const_ok {co : Const} {kd : Nat} {pos : Pos} : EOk c lv hd f fr held ρ (wp c lv hd (compConst co) ρ).e (eval (.Constant co kd pos) env) := by
  intro A g σ s Q X P h
  rw [arm_eval_Constant]
  cases co with
  | none => exact wpAny_pure (qv P.R .none h)
  | bool b => exact wpAny_pure (qv P.R (.bool _) h)
  | int i => exact wpAny_mkInt (qvt P.R (.int _ _) h)
  | str x => exact wpAny_mkText (qvt P.R (.str x.cps.toList _) h)
  | _ => exact False.elim h

/-- what a name is compiled to -/
inductive NameIs (k : CC) (sc : Scope) (x : Str) : E → Prop where
  | bad : NameIs k sc x .bad
  | var (i : Nat) (d : (x == ("__debug__" : Str)) = false) (l : sc.names.lookup x = some .local) (e : k.idx x = some i) : NameIs k sc x (.var i)
  | gl (p : PV) (d : (x == ("__debug__" : Str)) = false) (l : sc.names.lookup x = some .globalImplicit) (e : k.glob x = some p) : NameIs k sc x (.gl p)
theorem name_is (k : CC) (sc : Scope) (x : Str) : NameIs k sc x (k.name sc x) := by
  unfold CC.name
  cases d : x == ("__debug__" : Str) with
  | true => exact .bad
  | false =>
    cases l : sc.names.lookup x with
    | none => exact .bad
    | some kd =>
      cases kd with
      | «local» =>
        dsimp only
        cases e : k.idx x with
        | none => exact .bad
        | some i => exact .var i d l e
      | globalImplicit =>
        dsimp only
        cases e : k.glob x with
        | none => exact .bad
        | some i => exact .gl i d l e
      | _ => exact .bad

theorem name_ok (V : EnvOk sc env f) {x : Str} {pos : Pos} : EOk c lv hd f fr held ρ (wp c lv hd (c.cc.name sc x) ρ).e (eval (.Name x pos) env) := by
  intro A g σ s Q X P h
  have H := name_is c.cc sc x
  generalize c.cc.name sc x = e at h H
  cases H with
  | bad => exact False.elim h
  | var i d l e =>
    change (match ρ i with | some p => Q p σ | none => False) at h
    cases hp : ρ i with
    | none => rw [hp] at h; exact h.elim
    | some p =>
      rw [hp] at h
      exact (P.L i p hp).elim fun v z => wpAny_Name (wpAny_loadName_local V.kind (by unfold Env.kindOf; rw [V.names]; exact l) (by rw [V.loc]; exact (P.R.frs f (.head _)).1) (c.hnm x i e ▸ z.1) (qv P.R z.2 h)) d
  | gl p d l e =>
    have hk : env.kindOf x = some .globalImplicit := by unfold Env.kindOf; rw [V.names]; exact l
    have hmg : s.heap.Ns env.globals c.mg := by rw [V.glob]; exact c.hmg.keeps P.R.stays
    exact (c.hglob x p e).elim fun v z => z.1.elim (fun hv => Calls.Name_function_global V.kind hk (Calls.loadGlobal_global hmg hv (qv P.R (z.2 _ _ _ P.R.stays) h)) d)
      fun hv => Calls.Name_function_global V.kind hk (Calls.loadGlobal_builtin hmg hv.1 (by rw [V.blt]; exact c.hmb.keeps P.R.stays) hv.2 (qv P.R (z.2 _ _ _ P.R.stays) h)) d
end
end Mine
end

section
open PySem PySem.W PyProof.Rows PySem.Calls Builtin Builtin.ObjectAttr
set_option Elab.async false
set_option linter.unusedVariables false
set_option maxRecDepth 100000
namespace Mine

section
variable {c : Sx} {lv : Nat} {hd : Option Nat} {f : FrG} {fr : List FrG} {held : List (Addr × Obj)} {ρ : Loc} {A : Around} {g g' : Gh} {σ σ' : St} {s s' : Shared}
variable {sc : Scope} {env : Env}

noncomputable abbrev WE := St → (PV → St → Prop) → (Nat → St → Prop) → Prop
noncomputable abbrev WB := St → (Bool → St → Prop) → (Nat → St → Prop) → Prop

theorem Pre.units (P : Pre c lv hd f fr held ρ A g σ s) : A.units + 64 < cLine := by
  exact Nat.lt_of_le_of_lt (Nat.add_le_add_right (Nat.le_trans (Nat.le_add_right _ _) (Nat.le_of_lt P.room.2)) 64) (by decide)

theorem bin_e {l r : Expr} {o : Operator} {pos : Pos} {Wa Wb : WE} (Ma : EOk c lv hd f fr held ρ Wa (eval l env)) (Mb : EOk c lv hd f fr held ρ Wb (eval r env)) :
    EOk c lv hd f fr held ρ (fun σ Q X => Wa σ (fun p σ => Wb σ (fun q σ => wBin o p q σ Q) X) X) (eval (.BinOp l o r pos) env) := by
  intro A g σ s Q X P h
  rw [arm_eval_BinOp]
  refine bindE Ma P h fun g₁ σ₁ s₁ p v P₁ L₁ r₁ q₁ => ?_
  refine liftE L₁ (bindE Mb.holding P₁ q₁ fun g₂ σ₂ s₂ q w P₂ L₂ r₂ q₂ => ?_)
  exact liftE L₂ (wpAny_bind (wpAny_standAt (wpAny_operating (bin_ok P₂.R (L₂.rep r₁) r₂ q₂))))

theorem neg_e {x : Expr} {pos : Pos} {Wa : WE} (Ma : EOk c lv hd f fr held ρ Wa (eval x env)) :
    EOk c lv hd f fr held ρ (fun σ Q X => Wa σ (fun p σ => wInt p fun i => Q (.int (-i)) σ) X) (eval (.UnaryOp .USub x pos) env) := by
  intro A g σ s Q X P h
  rw [arm_eval_UnaryOp]
  exact bindE Ma P h fun g₁ σ₁ s₁ p v P₁ L₁ r₁ q₁ => wInt_e r₁ q₁ fun i t q₁ => liftE L₁ (wpAny_bind (wpAny_standAt (wpAny_holding (PyProof.Rows.neg_int (qvt P₁.R (.int _ _) q₁)))))

theorem truth_bq {K : Bool → St → Prop} (P : Pre c lv hd f fr held ρ A g σ s) {p : PV} {u : Value} (hp : VRep s.heap g.loc σ.n p u) (h : wTruth σ p fun b => K b σ) {E : Value → Shared → Prop} :
    wpAny (model c.prog c.w) A (truthy u) (BQ c.toCx held (f :: fr) g σ.n s.heap K) E s :=
  wpAny_mono (truth_ok P.R hp h) (fun b s' z => z.casesOn fun e R' q => ⟨g, σ, R', by rw [e]; exact Le.refl .., q⟩) fun _ _ x => x

theorem BQ.bind {β : Type} {m : Sem Bool} {k : Bool → Sem β} {Q : Bool → St → Prop} {Post : β → Shared → Prop} {E : Value → Shared → Prop} (P : Pre c lv hd f fr held ρ A g σ s) (h : wpAny (model c.prog c.w) A m (BQ c.toCx held (f :: fr) g σ.n s.heap Q) E s)
    (hk : ∀ g₁ σ₁ s₁ b, Pre c lv hd f fr held ρ A g₁ σ₁ s₁ → Le g σ.n s.heap g₁ σ₁.n s₁.heap → Q b σ₁ → wpAny (model c.prog c.w) A (k b) Post E s₁) : wpAny (model c.prog c.w) A (m >>= k) Post E s :=
  wpAny_bind (wpAny_mono h (fun b s₁ z => z.casesOn fun g₁ σ₁ R₁ L₁ q => hk g₁ σ₁ s₁ b (P.next R₁ L₁) L₁ q) fun _ _ x => x)

theorem liftX {β : Type} {fs : List FrG} {g₀ : Gh} {n₀ : Nat} {h₀ : Heap} {m : Sem β} {Post : β → Shared → Prop} {X : Nat → St → Prop} (L : Le g₀ n₀ h₀ g σ.n s.heap)
    (h : wpAny (model c.prog c.w) A m Post (XV c.toCx held fs g σ.n s.heap X) s) :
    wpAny (model c.prog c.w) A m Post (XV c.toCx held fs g₀ n₀ h₀ X) s :=
  wpAny_mono h (fun v s x => x) fun v s x => XV.after L x

theorem not_e {x : Expr} {pos : Pos} {Wa : WE} (Ma : EOk c lv hd f fr held ρ Wa (eval x env)) :
    EOk c lv hd f fr held ρ (fun σ Q X => Wa σ (fun p σ => wTruth σ p fun b => Q (.bool (!b)) σ) X) (eval (.UnaryOp .Not x pos) env) := by
  intro A g σ s Q X P h
  rw [arm_eval_UnaryOp]
  refine bindE Ma P h fun g₁ σ₁ s₁ p v P₁ L₁ r₁ q₁ => ?_
  refine liftE L₁ (wpAny_bind (wpAny_standAt (wpAny_holding ?_)))
  unfold unaryOp
  refine wpAny_holding ?_
  show wpAny _ _ (do return Value.bool (!(← truthy v))) _ _ _
  exact BQ.bind P₁ (truth_bq (K := fun b σ => Q (.bool (!b)) σ) P₁ r₁ q₁) fun g₂ σ₂ s₂ b P₂ L₂ q₂ => wpAny_pure (QV.after L₂ (qv P₂.R (.bool _) q₂))

theorem cmp_e {l r : Expr} {o : CmpOp} {pos : Pos} {Wa Wb : WE} (hm : behindInMarks o r = false) (Ma : EOk c lv hd f fr held ρ Wa (eval l env)) (Mb : EOk c lv hd f fr held ρ Wb (eval r env)) :
    EOk c lv hd f fr held ρ (fun σ Q X => Wa σ (fun p σ => Wb σ (fun q σ => wCmp o p q σ Q) X) X) (eval (.Compare l [o] [r] pos) env) := by
  intro A g σ s Q X P h
  rw [eval_Compare1, markedBehindIn_of_false hm]
  refine bindE Ma P h fun g₁ σ₁ s₁ p v P₁ L₁ r₁ q₁ => ?_
  refine liftE L₁ (bindE Mb.holding P₁ q₁ fun g₂ σ₂ s₂ q w P₂ L₂ r₂ q₂ => ?_)
  exact liftE L₂ (wpAny_bind (wpAny_standAt (wpAny_operating (cmp_ok P₂.R (L₂.rep r₁) r₂ P₂.units q₂))))

theorem cmp_t {l r : Expr} {o : CmpOp} {pos : Pos} {Wa Wb : WE} {whole : Sem Value} (hm : behindInMarks o r = false) (Ma : EOk c lv hd f fr held ρ Wa (eval l env)) (Mb : EOk c lv hd f fr held ρ Wb (eval r env)) :
    TOk c lv hd f fr held ρ (fun σ Q X => Wa σ (fun p σ => Wb σ (fun q σ => wCmp o p q σ fun p σ => wTruth σ p fun b => Q b σ) X) X) (isTrue (.Compare l [o] [r] pos) env whole) := by
  intro A g σ s Q X P h
  rw [arm_isTrue_Compare]
  refine bindE Ma P h fun g₁ σ₁ s₁ p v P₁ L₁ r₁ q₁ => ?_
  show wpAny _ _ (testChain pos v [o] [markedBehindIn o r (eval r env)]) _ _ _
  rw [markedBehindIn_of_false hm]
  refine liftB L₁ (bindE Mb.holding P₁ q₁ fun g₂ σ₂ s₂ q w P₂ L₂ r₂ q₂ => ?_)
  refine liftB L₂ (wpAny_bind (wpAny_standAt (wpAny_bind (wpAny_mono (wpAny_operating (cmp_ok P₂.R (L₂.rep r₁) r₂ P₂.units q₂)) (fun u s₃ z => z.casesOn fun g₃ σ₃ p₃ R₃ L₃ r₃ q₃ => liftB L₃ (wpAny_holding (truth_bq (P₂.next R₃ L₃) r₃ q₃))) fun _ _ x => x))))

/-- the truth of a value -/
theorem plain_t {e : Expr} {whole : Sem Value} {Wa : WE} (he : isTrue e env whole = (do let v ← whole; standAt e.pos; holding [v] (truthy v))) (Ma : EOk c lv hd f fr held ρ Wa whole) :
    TOk c lv hd f fr held ρ (fun σ Q X => Wa σ (fun p σ => wTruth σ p fun b => Q b σ) X) (isTrue e env whole) := by
  intro A g σ s Q X P h
  rw [he]
  refine bindE Ma P h fun g₁ σ₁ s₁ p v P₁ L₁ r₁ q₁ => ?_
  exact liftB L₁ (wpAny_bind (wpAny_standAt (wpAny_holding (truth_bq P₁ r₁ q₁))))

theorem not_t {x : Expr} {pos : Pos} {whole : Sem Value} {Wa : WB} (Ma : TOk c lv hd f fr held ρ Wa (isTrue x env (eval x env))) :
    TOk c lv hd f fr held ρ (fun σ Q X => Wa σ (fun b σ => Q (!b) σ) X) (isTrue (.UnaryOp .Not x pos) env whole) := by
  intro A g σ s Q X P h
  rw [arm_isTrue_UnaryOp]
  exact bindT Ma P h fun g₁ σ₁ s₁ b P₁ L₁ q₁ => wpAny_pure ⟨g₁, σ₁, P₁.R, L₁, q₁⟩

theorem ite_e {t a b : Expr} {pos : Pos} {Wt : WB} {Wa Wb : WE} (Mt : TOk c lv hd f fr held ρ Wt (isTrue t env (eval t env))) (Ma : EOk c lv hd f fr held ρ Wa (eval a env)) (Mb : EOk c lv hd f fr held ρ Wb (eval b env)) :
    EOk c lv hd f fr held ρ (fun σ Q X => Wt σ (fun b' σ => (match b' with | true => Wa σ Q X | false => Wb σ Q X)) X) (eval (.IfExp t a b pos) env) := by
  intro A g σ s Q X P h
  rw [arm_eval_IfExp]
  refine bindT Mt P h fun g₁ σ₁ s₁ b' P₁ L₁ q₁ => liftE L₁ ?_
  cases b' with
  | true => exact Ma _ _ _ _ _ _ P₁ q₁
  | false => exact Mb _ _ _ _ _ _ P₁ q₁
theorem ite_t {t a b : Expr} {pos : Pos} {whole : Sem Value} {Wt Wa Wb : WB} (Mt : TOk c lv hd f fr held ρ Wt (isTrue t env (eval t env))) (Ma : TOk c lv hd f fr held ρ Wa (isTrue a env (eval a env))) (Mb : TOk c lv hd f fr held ρ Wb (isTrue b env (eval b env))) :
    TOk c lv hd f fr held ρ (fun σ Q X => Wt σ (fun b' σ => (match b' with | true => Wa σ Q X | false => Wb σ Q X)) X) (isTrue (.IfExp t a b pos) env whole) := by
  intro A g σ s Q X P h
  rw [arm_isTrue_IfExp]
  refine bindT Mt P h fun g₁ σ₁ s₁ b' P₁ L₁ q₁ => liftB L₁ ?_
  cases b' with
  | true => exact Ma _ _ _ _ _ _ P₁ q₁
  | false => exact Mb _ _ _ _ _ _ P₁ q₁

/-! displays -/
theorem tup_e {es : List Expr} {x1 : Nat} {pos : Pos} {W : St → (List PV → St → Prop) → (Nat → St → Prop) → Prop} (hl : es.length ≤ 1000) (M : LOk c lv hd f fr held ρ es.length W (spliced (backTo pos (starEach es env)))) :
    EOk c lv hd f fr held ρ (fun σ Q X => W σ (fun ps σ => Q (.tup ps) σ) X) (eval (Expr.Tuple es x1 pos) env) := by
  intro A g σ s Q X P h
  rw [arm_eval_Tuple]
  refine wpAny_bind (wpAny_standAt (bindL M P h fun g₁ σ₁ s₁ ps vs P₁ L₁ r₁ l₁ q₁ => ?_))
  refine liftE L₁ (wpAny_newObj_type (newT P₁.R r₁ q₁) ?_)
  exact Nat.le_trans (Nat.le_of_eq ((List.size_toArray ..).trans l₁)) (Nat.le_trans hl (by decide))
theorem lst_e {es : List Expr} {pos : Pos} {W : St → (List PV → St → Prop) → (Nat → St → Prop) → Prop} (hl : es.length ≤ 1000) (M : LOk c lv hd f fr held ρ es.length W (spliced (backTo pos (starEach es env)))) :
    EOk c lv hd f fr held ρ (fun σ Q X => W σ (fun ps σ => Q (.ref σ.n) (σ.new (.list ps))) X) (eval (Expr.List es pos) env) := by
  intro A g σ s Q X P h
  rw [arm_eval_List]
  refine wpAny_bind (wpAny_standAt (bindL M P h fun g₁ σ₁ s₁ ps vs P₁ L₁ r₁ l₁ q₁ => ?_))
  refine liftE L₁ (wpAny_newObj_type (newL P₁.R r₁ (Nat.le_trans (Nat.le_of_eq (r₁.length.symm.trans l₁)) (Nat.le_trans hl (by decide))) q₁) ?_)
  exact Nat.le_trans (Nat.le_of_eq ((List.size_toArray ..).trans l₁)) (Nat.le_trans hl (by decide))

/-! attributes and items -/
theorem base_of {o : Expr} (ho : isCall o = false) (name : Str) (whole : Sem Value) : attributeBase o name env whole = whole := by
  cases o <;> first | rfl | exact Bool.noConfusion ho

theorem attr_e {a : Expr} {x : Nat} {pos : Pos} {Wa : WE} (ho : isCall a = false) (Ma : EOk c lv hd f fr held ρ Wa (eval a env)) :
    EOk c lv hd f fr held ρ (fun σ Q X => Wa σ (fun p σ => wAttr c σ p x fun q => Q q σ) X) (eval (.Attribute a (c.nm x) pos) env) := by
  intro A g σ s Q X P h
  rw [arm_eval_Attribute, base_of ho]
  refine bindE Ma P h fun g₁ σ₁ s₁ p v P₁ L₁ r₁ q₁ => ?_
  refine liftE L₁ (wpAny_bind (wpAny_standAt (wpAny_bind (wpAny_holding (wpAny_mono (attr_ok P₁.R r₁ q₁) (fun r s₂ z => wpAny_bind (wpAny_letTemporaryGo (wpAny_pure z))) fun _ _ x => x)))))

theorem not_slice {i : Expr} (hs : ∀ l u p, i ≠ .Slice l u none p) (o w : Value) : subscripted i false o w = operate [o, w] (getItem o w) := by
  cases i <;> first | rfl | skip
  rename_i l u st p
  cases st with
  | none => exact absurd rfl (hs l u p)
  | some st => rfl
theorem sub_e {a i : Expr} {pos : Pos} {Wa Wb : WE} (hs : ∀ l u p, i ≠ .Slice l u none p) (Ma : EOk c lv hd f fr held ρ Wa (eval a env)) (Mb : EOk c lv hd f fr held ρ Wb (eval i env)) :
    EOk c lv hd f fr held ρ (fun σ Q X => Wa σ (fun p σ => Wb σ (fun q σ => wSub σ p q fun r => Q r σ) X) X) (eval (.Subscript a i pos) env) := by
  intro A g σ s Q X P h
  rw [arm_eval_Subscript]
  refine bindE Ma P h fun g₁ σ₁ s₁ p v P₁ L₁ r₁ q₁ => ?_
  refine liftE L₁ (bindE Mb.holding P₁ q₁ fun g₂ σ₂ s₂ q w P₂ L₂ r₂ q₂ => ?_)
  exact liftE L₂ ((sub_ok (A := A) (E := XV c.toCx held (f :: fr) g₂ σ₂.n s₂.heap X) P₂.R (L₂.rep r₁) r₂ q₂).casesOn fun T id hT hl hg => wpAny_bind (wpAny_standAt (tail_any (value := a) (slice := i) (ops := [v, w]) hT hl hg (not_slice hs v w))))

theorem slc_e {a : Expr} {l u : Option Expr} {pos p : Pos} {Wa Wl Wu : WE} (Ma : EOk c lv hd f fr held ρ Wa (eval a env)) (Ml : EOk c lv hd f fr held ρ Wl (valueOrNone (evalOpt l env))) (Mu : EOk c lv hd f fr held ρ Wu (valueOrNone (evalOpt u env))) :
    EOk c lv hd f fr held ρ (fun σ Q X => Wa σ (fun p σ => Wl σ (fun ql σ => Wu σ (fun qu σ => wSlc c p ql qu σ Q) X) X) X) (eval (.Subscript a (.Slice l u none p) pos) env) := by
  intro A g σ s Q X P h
  rw [arm_eval_Subscript, arm_eval_Slice]
  refine bindE Ma P h fun g₁ σ₁ s₁ p' v P₁ L₁ r₁ q₁ => ?_
  refine liftE L₁ (wpAny_bind (wpAny_holding ?_))
  refine bindE Ml P₁ q₁ fun g₂ σ₂ s₂ ql vl P₂ L₂ r₂ q₂ => ?_
  refine liftX L₂ (bindE Mu.holding P₂ q₂ fun g₃ σ₃ s₃ qu vu P₃ L₃ r₃ q₃ => ?_)
  refine liftX L₃ (wpAny_bind (wpAny_holding (wpAny_pure (wpAny_newObj_type ?_))))
  obtain ⟨R₄, L₄⟩ := P₃.R.push { cls := .type "slice", data := .fields [vl, vu, Value.none].toArray }
  have P₄ := P₃.next R₄ L₄
  exact (slc_ok (A := A) (E := XV c.toCx held (f :: fr) g₃ σ₃.n (s₃.heap.push { cls := .type "slice", data := .fields [vl, vu, Value.none].toArray }) X) R₄ ((L₂.trans (L₃.trans L₄)).rep r₁) ((L₃.trans L₄).rep r₂) (L₄.rep r₃)
    (Heap.IsSliceOf.new s₃.heap vl vu .none) q₃).casesOn fun T id hT hl hg => liftE (L₂.trans (L₃.trans L₄)) (wpAny_bind (wpAny_standAt (tail_any (value := a) (slice := .Slice l u none p) (ops := [.ref s₃.heap.objs.size, v]) hT hl hg rfl)))
end
end Mine
end

section
open PySem PySem.W PyProof.Rows PySem.Calls Builtin Builtin.ObjectAttr
set_option Elab.async false
set_option linter.unusedVariables false
set_option maxRecDepth 100000
namespace Mine

section
variable {c : Sx} {lv : Nat} {hd : Option Nat} {f : FrG} {fr : List FrG} {held : List (Addr × Obj)} {ρ : Loc} {A : Around} {g g' : Gh} {σ σ' : St} {s s' : Shared}
variable {sc : Scope} {env : Env}

/-! dict displays -/
theorem newD {fs : List FrG} (R : Rep c.toCx g held fs σ s) {Q : PV → St → Prop} {kvs : List (KV × PV)} {ws : List (KV × Value)} {h' : Heap} {t : Nat}
    (hs : Heap.SameBut s.heap.objs.size (s.heap.push { cls := .type "dict", data := .dict #[] }) h') (d : DRep c.toCx h' s.heap.objs.size ws) (e1 : ws.map (·.1) = kvs.map (·.1))
    (e2 : VReps s.heap g.loc σ.n (kvs.map (·.2)) (ws.map (·.2))) (hQ : Q (.ref σ.n) (σ.new (.dict kvs))) :
    QV c.toCx held fs g σ.n s.heap Q (.ref s.heap.objs.size) { s with heap := h', toks := t } := by
  have kp : ∀ b o, s.heap.get? b = some o → h'.get? b = some o := fun b o e => by
    rw [hs.2 b (Nat.ne_of_lt (Heap.lt_size e))]; exact Heap.get?_push_of_some _ e
  exact d.obj.casesOn fun o es ep b1 b2 b4 _ =>
    have z := R.new (o := .dict kvs) (s' := { s with heap := h', toks := t }) (Heap.get?_none_of_le (Nat.le_refl _)) kp rfl rfl
      ⟨newMain_role, o, es, ep, ws, by rw [newMain_loc]; exact b1, b2, b4, by rw [newMain_loc]; exact d, e1, e2.move (fun _ _ t => t.casesOn fun o k t1 t2 t3 => ⟨o, k, kp _ _ t1, t2, t3⟩) (fun j hj => if_neg (ne_of_lt' hj)) (Nat.le_succ _)⟩
    ⟨_, _, _, z.1, z.2, .ref' (Nat.lt_succ_self _) newMain_loc, hQ⟩

theorem dict_e {ks : List (Option Expr)} {vs : List Expr} {l : List (List Nat × List Nat)} {pos : Pos} (hl : dlit ks vs = some l) :
    EOk c lv hd f fr held ρ (fun σ Q X => (l.map (·.1)).Nodup ∧ l.length ≤ 15 ∧ Q (.ref σ.n) (σ.new (.dict (l.map fun x => (KV.s x.1, PV.str x.2))))) (eval (.Dict ks vs pos) env) := by
  cases ks with
  | cons _ _ => cases hl
  | nil =>
    cases vs with
    | cons _ _ => cases hl
    | nil =>
      cases hl
      intro A g σ s Q X P ⟨_, _, hQ⟩
      rw [arm_eval_Dict]
      refine wpAny_bind (wpAny_standAt ?_)
      show wpAny _ _ newDict _ _ _
      exact wpAny_bind (wpAny_alloc (wpAny_pure (newD (t := s.toks) P.R (Heap.SameBut.refl _ _) (.s [] (Heap.DictOf.new s.heap)) rfl .nil hQ)))

/-! rows of expressions -/
theorem splice_nil {pos : Pos} : LOk c lv hd f fr held ρ 0 (fun σ Q X => Q [] σ) (spliced (backTo pos (starEach [] env))) := fun A g σ s Q X P h =>
  wpAny_pure ⟨g, σ, [], P.R, Le.refl .., .nil, rfl, h⟩
theorem star_cons {e : Expr} (he : noStar e = true) (es : List Expr) (pos : Pos) : backTo pos (starEach (e :: es) env) = (false, eval e env) :: backTo pos (starEach es env) := by
  cases e <;> first | rfl | exact Bool.noConfusion he
theorem splice_cons {e : Expr} {es : List Expr} {pos : Pos} {k : Nat} {W : WE} {Ws : St → (List PV → St → Prop) → (Nat → St → Prop) → Prop} (he : noStar e = true) (M : EOk c lv hd f fr held ρ W (eval e env)) (Ms : LOk c lv hd f fr held ρ k Ws (spliced (backTo pos (starEach es env)))) :
    LOk c lv hd f fr held ρ (k + 1) (fun σ Q X => W σ (fun p σ => Ws σ (fun ps σ => Q (p :: ps) σ) X) X) (spliced (backTo pos (starEach (e :: es) env))) := by
  intro A g σ s Q X P h
  rw [star_cons he]
  refine bindE M P h fun g₁ σ₁ s₁ p v P₁ L₁ r₁ q₁ => wpAny_bind (wpAny_pure (liftL L₁ (bindL Ms.holding P₁ q₁ fun g₂ σ₂ s₂ ps vs P₂ L₂ r₂ l₂ q₂ => wpAny_pure ⟨g₂, σ₂, p :: ps, P₂.R, L₂, .cons (L₂.rep r₁) r₂, congrArg (· + 1) l₂, q₂⟩)))

theorem bool_one {e : Expr} {pos : Pos} {o : BoolOp} {W : WE} (M : EOk c lv hd f fr held ρ W (eval e env)) : EOk c lv hd f fr held ρ W (boolOp pos o (evalEach [e] env)) := M
theorem bool_more {e e' : Expr} {es : List Expr} {pos : Pos} {o : BoolOp} {W W' : WE} (M : EOk c lv hd f fr held ρ W (eval e env)) (Ms : EOk c lv hd f fr held ρ W' (boolOp pos o (evalEach (e' :: es) env))) :
    EOk c lv hd f fr held ρ (fun σ Q X => W σ (fun p σ => wTruth σ p fun t => scut o t (Q p σ) (W' σ Q X)) X) (boolOp pos o (evalEach (e :: e' :: es) env)) := by
  intro A g σ s Q X P h
  show wpAny _ _ (do
    let v ← eval e env
    standAt pos
    let t ← holding [v] (truthy v)
    match o, t with
    | .And, false | .Or, true => pure v
    | _, _ => boolOp pos o (evalEach (e' :: es) env)) _ _ _
  refine bindE M P h fun g₁ σ₁ s₁ p v P₁ L₁ r₁ q₁ => liftE L₁ (wpAny_bind (wpAny_standAt (BQ.bind P₁ (wpAny_holding (truth_bq (K := fun t σ => scut o t (Q p σ) (W' σ Q X)) P₁ r₁ q₁)) fun g₂ σ₂ s₂ b P₂ L₂ q₂ => ?_)))
  cases o <;> cases b
  · exact liftE L₂ (wpAny_pure (qv P₂.R (L₂.rep r₁) q₂))
  · exact liftE L₂ (Ms _ _ _ _ _ _ P₂ q₂)
  · exact liftE L₂ (Ms _ _ _ _ _ _ P₂ q₂)
  · exact liftE L₂ (wpAny_pure (qv P₂.R (L₂.rep r₁) q₂))

theorem all_nil {o : BoolOp} : TOk c lv hd f fr held ρ (fun σ Q X => (match o with | .And => Q true σ | .Or => Q false σ)) (allTrue o [] env) := fun A g σ s Q X P h => by
  rw [arm_allTrue_nil]
  cases o <;> exact wpAny_pure ⟨g, σ, P.R, Le.refl .., h⟩
theorem all_cons {e : Expr} {es : List Expr} {o : BoolOp} {W W' : WB} (M : TOk c lv hd f fr held ρ W (isTrue e env (eval e env))) (Ms : TOk c lv hd f fr held ρ W' (allTrue o es env)) :
    TOk c lv hd f fr held ρ (fun σ Q X => W σ (fun t σ => scut o t (Q t σ) (W' σ Q X)) X) (allTrue o (e :: es) env) := by
  intro A g σ s Q X P h
  rw [arm_allTrue_cons]
  refine bindT M P h fun g₁ σ₁ s₁ b P₁ L₁ q₁ => liftB L₁ ?_
  cases o <;> cases b
  · exact wpAny_pure ⟨g₁, σ₁, P₁.R, Le.refl .., q₁⟩
  · exact Ms _ _ _ _ _ _ P₁ q₁
  · exact Ms _ _ _ _ _ _ P₁ q₁
  · exact wpAny_pure ⟨g₁, σ₁, P₁.R, Le.refl .., q₁⟩
end
end Mine
end

section
open PySem PySem.W PyProof.Rows PySem.Calls Builtin Builtin.ObjectAttr
set_option Elab.async false
set_option linter.unusedVariables false
set_option maxRecDepth 100000
namespace Mine

/-- what is gone over -/
inductive Src where
  | list (i : Nat)
  | tup (a : Addr) (xs : List Value)
  | str (ascii : Bool) (x : Str) (t : Tok)
  | range (n : Nat)
  | rev (i : Nat)

noncomputable def Src.obj (g : Gh) (len k : Nat) (o : Obj) : Src → Prop
  | .list i => o.cls = .type "list_iterator" ∧ o.data = .fields #[.ref (g.loc i), .int k 0]
  | .tup a _ => o.cls = .type "tuple_iterator" ∧ o.data = .fields #[.ref a, .int k 0]
  | .str b x t => o.cls = .type (if b then "str_ascii_iterator" else "str_iterator") ∧ o.data = .fields #[.str x t, .int k 0]
  | .range n => k ≤ n ∧ len = n ∧ o = { cls := .type "range_iterator", data := .fields #[rawInt k, rawInt ((n : Int) - k), rawInt 1] }
  | .rev i => k ≤ len ∧ o.cls = .type "list_reverseiterator" ∧ o.data = .fields #[.ref (g.loc i), rawInt ((len : Int) - 1 - k)]

noncomputable def Src.has (σ : St) (h : Heap) (loc : Nat → Addr) (items : List PV) : Src → Prop
  | .list i => σ.at_ i = some (.list items)
  | .tup a xs => TupAt h a xs ∧ VReps h loc σ.n items xs
  | .str b x t => items = x.cps.toList.map fun c => .str [c]
  | .range n => items = (List.range n).map fun k => PV.int (k : Nat)
  | .rev i => σ.at_ i = some (.list items.reverse)

section
variable {c : Cx} {g : Gh} {held : List (Addr × Obj)} {fs : List FrG} {σ : St} {s : Shared} {prog : Program} {w : World} {A : Around} {E : Value → Shared → Prop} {I : Addr} {o : Obj}

theorem heldKind_of {o : Obj} {T : String} {vs : Array Value} (hc : o.cls = .type T) (hd : o.data = .fields vs) (hT : (T != "list" && T != "dict" && T != "frame" && T != "traceback") = true) (hT' : T ≠ "tuple") : heldKind o = true ∧ o.cls ≠ .type "tuple" := by
  refine ⟨?_, fun q => hT' (Value.type.inj (hc.symm.trans q))⟩
  unfold heldKind; rw [hc, hd]; exact Bool.and_eq_true_iff.mpr ⟨hT, rfl⟩

theorem Src.kind {src : Src} {len k : Nat} (h : src.obj g len k o) : heldKind o = true ∧ o.cls ≠ .type "tuple" := by
  cases src with
  | list i => exact heldKind_of h.1 h.2 (by decide) (by decide)
  | tup i xs => exact heldKind_of h.1 h.2 (by decide) (by decide)
  | str b x t => cases b <;> exact heldKind_of h.1 h.2 (by decide) (by decide)
  | range n => rw [h.2.2]; exact heldKind_of (T := "range_iterator") rfl rfl (by decide) (by decide)
  | rev i => exact heldKind_of h.2.1 h.2.2 (by decide) (by decide)

theorem int_sub_lt {k n : Nat} (h : k < n) : (0 : Int) < n - k := by omega
theorem int_sub_sub {k n : Nat} : (n : Int) - k - 1 = (n : Int) - ((k + 1 : Nat) : Int) := by omega
theorem rev_idx {n k : Nat} (h : k < n) : ((n : Int) - 1 - k) = ((n - 1 - k : Nat) : Int) ∧ n - 1 - k < n ∧ n - 1 - (n - 1 - k) = k := by
  obtain ⟨m, rfl⟩ := Nat.exists_eq_add_of_lt h
  rw [show k + m + 1 - 1 - k = m from Nat.add_sub_cancel_left ..]
  exact ⟨by omega, Nat.lt_succ_of_le (Nat.le_add_left ..), Nat.add_sub_cancel ..⟩
/-- the iterator goes one on -/
theorem next_item {src : Src} {items : List PV} {k : Nat} {p : PV} (R : Rep c g ((I, o) :: held) fs σ s) (hnd : ∀ p ∈ held, p.1 ≠ I) (hB : c.B.get? I = none) (ho : src.obj g items.length k o) (hs : src.has σ s.heap g.loc items) (hk : items[k]? = some p)
    {Q : Option Value → Shared → Prop} (hQ : ∀ v o' s', Rep c g ((I, o') :: held) fs σ s' → Le g σ.n s.heap g σ.n s'.heap → VRep s'.heap g.loc σ.n p v → src.obj g items.length (k + 1) o' → Q (some v) s') :
    wpAny (model prog w) A (pyNext (.ref I)) Q E s := by
  have hI := (R.held (I, o) (.head _)).1
  have hlt : k < items.length := lt_of_getElem hk
  have fin : ∀ (h' : Heap) (t : Nat) (v : Value), (∃ o', h'.get? I = some o' ∧ src.obj g items.length (k + 1) o') → Heap.SameBut I s.heap h' → VRep s.heap g.loc σ.n p v → Q (some v) { s with heap := h', toks := t } := fun h' t v e e3 e4 => e.elim fun o' e =>
    have z := R.setHeld (s' := { s with heap := h', toks := t }) (Ext.of_sameBut e3) e.1 (Src.kind e.2).1 hnd hB (Src.kind ho).2 rfl rfl
    hQ v o' _ z.1 z.2 (z.2.rep e4) e.2
  cases src with
  | list i => exact (R.list hs).casesOn fun xs n c1 c2 => (c2.get hk).elim fun v w => wpAny_pyNext_list_item (i := k) ⟨o, hI, ho⟩ c1.isList (x := v) ((List.getElem?_toArray ..).trans w.1) fun h' hit hsb => fin h' s.toks v hit hsb w.2
  | tup t xs => exact (hs.2.get hk).elim fun v w => wpAny_pyNext_tuple_item (i := k) ⟨o, hI, ho⟩ (items := xs.toArray) (hs.1.isTup.imp fun _ x => x) (x := v) ((List.getElem?_toArray ..).trans w.1) fun h' hit hsb => fin h' s.toks v hit hsb w.2
  | str b x t =>
    have hs : items = x.cps.toList.map fun c => PV.str [c] := hs
    rw [hs, List.getElem?_map] at hk
    refine (Option.map_eq_some_iff.mp hk).elim fun ch w => ?_
    have hc' : x.cps[k]? = some ch := (Array.getElem?_toList ..).symm.trans w.1
    rw [← w.2] at fin
    cases b with
    | true => exact wpAny_pyNext_ascii_item (i := k) ⟨o, hI, ho⟩ hc' fun h' hit hsb => fin h' _ _ hit hsb (.str [ch] _)
    | false => exact wpAny_pyNext_wide_item (i := k) ⟨o, hI, ho⟩ hc' fun h' hit hsb => fin h' _ _ hit hsb (.str [ch] _)
  | range n =>
    have hs : items = (List.range n).map fun k => PV.int (k : Nat) := hs
    have hn : k < n := ho.2.1 ▸ hlt
    have ep : PV.int (k : Nat) = p := by
      rw [hs, List.getElem?_map, List.getElem?_range hn] at hk
      exact Option.some.inj hk
    exact wpAny_pyNext_range_item (x := (k : Int)) (left := (n : Int) - k) (step := 1) (by rw [ho.2.2] at hI; exact hI) (int_sub_lt hn) fun h' hit hsb =>
      fin h' _ _ ⟨_, hit, hn, ho.2.1, by rw [← int_sub_sub]; rfl⟩ hsb (by rw [← ep]; exact .int _ _)
  | rev i =>
    have z := rev_idx hlt
    have b := ho.2.2
    rw [z.1] at b
    have hk' : items.reverse[items.length - 1 - k]? = some p := by
      rw [List.getElem?_reverse z.2.1, z.2.2]; exact hk
    exact (R.list hs).casesOn fun xs n c1 c2 => (c2.get hk').elim fun v w => wpAny_pyNext_rev_item (i := items.length - 1 - k) ⟨o, hI, ho.2.1, b⟩ c1.isList (x := v) ((List.getElem?_toArray ..).trans w.1) fun h' hit hsb =>
      fin h' s.toks v (hit.imp fun o' q => ⟨q.1, hlt, q.2.1, q.2.2.trans (by rw [← z.1, Int.sub_sub _ _ 1]; rfl)⟩) hsb w.2

/-- the iterator is at its end -/
theorem next_end {src : Src} {items : List PV} (R : Rep c g ((I, o) :: held) fs σ s) (hnd : ∀ p ∈ held, p.1 ≠ I) (hB : c.B.get? I = none) (ho : src.obj g items.length items.length o) (hs : src.has σ s.heap g.loc items) (hh : A.handled = none)
    {Q : Option Value → Shared → Prop} (hQ : ∀ s', Rep c g held fs σ s' → Le g σ.n s.heap g σ.n s'.heap → Q none s') :
    wpAny (model prog w) A (pyNext (.ref I)) Q E s := by
  have hI := (R.held (I, o) (.head _)).1
  have fin : ∀ (h' : Heap), Heap.ExtBut I s.heap h' → Q none { s with heap := h' } := fun h' e =>
    have z := R.letHeld (s' := { s with heap := h' }) (Ext.of_extBut e) hnd hB (Src.kind ho).2 rfl rfl
    hQ _ z.1 z.2
  have past : ∀ {xs : List Value}, VReps s.heap g.loc σ.n items xs → xs.toArray[items.length]? = none := fun r => (List.getElem?_toArray ..).trans (List.getElem?_eq_none (Nat.le_of_eq r.length))
  cases src with
  | list i => exact (R.list hs).casesOn fun xs n c1 c2 => wpAny_pyNext_list_end hh (i := items.length) ⟨o, hI, ho⟩ c1.isList (past c2) fin
  | tup t xs => exact wpAny_pyNext_tuple_end hh (i := items.length) ⟨o, hI, ho⟩ (items := xs.toArray) (hs.1.isTup.imp fun _ x => x) (past hs.2) fin
  | str b x t =>
    have hn : x.cps[items.length]? = none := by
      rw [show items = x.cps.toList.map fun c => PV.str [c] from hs, List.length_map]
      exact Array.getElem?_eq_none (Nat.le_refl _)
    cases b with
    | true => exact wpAny_pyNext_ascii_end hh (i := items.length) ⟨o, hI, ho⟩ hn fin
    | false => exact wpAny_pyNext_wide_end hh (i := items.length) ⟨o, hI, ho⟩ hn fin
  | range n => exact wpAny_pyNext_range_end hh (x := (items.length : Int)) (left := (n : Int) - items.length) (step := 1) (by rw [ho.2.2] at hI; exact hI) (by rw [ho.2.1, Int.sub_self]; exact Int.le_refl 0) fin
  | rev i => exact wpAny_pyNext_rev_end hh ⟨o, hI, ho.2.1, by rw [ho.2.2, Int.sub_sub, Int.add_comm, ← Int.sub_sub, Int.sub_self]; rfl⟩ fin
end
end Mine
end

section
open PySem PySem.W PyProof.Rows PySem.Calls Builtin Builtin.ObjectAttr
set_option Elab.async false
set_option linter.unusedVariables false
set_option maxRecDepth 100000
namespace Mine

section
variable {c : Cx} {g : Gh} {held : List (Addr × Obj)} {fs : List FrG} {σ : St} {s : Shared} {prog : Program} {w : World} {A : Around} {E : Value → Shared → Prop} {I : Addr} {o : Obj}

/-- a list behind a change -/
theorem list_put (R : Rep c g held fs σ s) {i : Nat} {xs ys : List PV} {vs us : List Value} {k : Nat} {f : Array Value → Array Value} (hi : σ.at_ i = some (.list xs)) (hl : IsL s.heap (g.loc i) vs.toArray k) (hf : f vs.toArray = us.toArray)
    (hr : VReps s.heap g.loc σ.n ys us) (hn : ys.length ≤ 2000000) {t : Nat} :
    Rep c g held fs (σ.put i (.list ys)) { s with heap := s.heap.update (g.loc i) (Obj.mapSeq f), toks := t } ∧ Le g σ.n s.heap g σ.n (s.heap.update (g.loc i) (Obj.mapSeq f)) := by
  have hs : Heap.SameBut (g.loc i) s.heap (s.heap.update (g.loc i) (Obj.mapSeq f)) := Heap.SameBut.update ..
  have tk := (Ext.of_sameBut hs).tups (not_tup hl (fun q => absurd (Value.type.inj q) (by decide)))
  have hl' := IsL.update hl f
  rw [hf] at hl'
  exact R.put (s' := { s with heap := s.heap.update (g.loc i) (Obj.mapSeq f), toks := t }) hi (Ext.of_sameBut hs) rfl rfl rfl ⟨(R.objs i _ hi).2.main, hn, us, _, hl', hr.move tk (fun _ _ => rfl) (Nat.le_refl _)⟩

theorem entry_unchain : entryFor table "proto.unchain" = some Builtin.«proto.unchain» := entryFor_of_fast (by kernel_rfl)

/-- a new exception, while another is handled that is not chained -/
theorem raise_h {α : Type} {a e : Addr} {oa oe : Obj} {vs ws : Array Value} {Q : α → Shared → Prop} (hh : A.handled = some (.ref e)) (hne : e ≠ a) (he : s.heap.get? e = some oe) (hd : oe.data = .fields vs) (h2 : vs[2]? = some .none)
    (ha : s.heap.get? a = some oa) (hda : oa.data = .fields ws) (hz : 2 < ws.size) (h : E (.ref a) { s with heap := s.heap.update a (Obj.mapFields (·.setIfInBounds 2 (.ref e))) }) :
    wpAny (model prog w) A (raiseNew (.ref a) : Sem α) Q E s := by
  unfold raiseNew
  refine wpAny_bind (wpAny_handled ?_)
  rw [hh]
  dsimp only
  have hb : (Value.ref e != Value.ref a) = true := bne_iff_ne.mpr fun q => hne (Value.ref.inj q)
  rw [if_pos hb]
  refine wpAny_bind (wpAny_holding (wpAny_runValue (codeAny_builtin entry_unchain ?_)))
  unfold Builtin.«proto.unchain»
  dsimp only
  refine wpAny_bind (wpAny_field he hd h2 ?_)
  rw [if_pos (by decide)]
  refine wpAny_bind (wpAny_pure (wpAny_pure ?_))
  refine wpAny_bind ?_
  simp only [updateField]
  refine wpAny_bind (wpAny_load ha ?_)
  rw [hda]
  dsimp only
  rw [if_pos hz]
  exact wpAny_update ha (wpAny_throw h)

/-- the end of a list, while an exception is handled -/
theorem list_end_h {it l e : Addr} {i : Nat} {items : Array Value} {oe : Obj} {vs : Array Value} {Q : Option Value → Shared → Prop} (hh : A.handled = some (.ref e)) (hei : e ≠ it) (he : s.heap.get? e = some oe) (hd' : oe.data = .fields vs) (h2 : vs[2]? = some .none)
    (hit : s.heap.IsListIter it l i) (hl : s.heap.IsList l items) (hx : items[i]? = none)
    (hQ : ∀ h', Heap.ExtBut it s.heap h' → Q none { s with heap := h' }) : wpAny (model prog w) A (pyNext (.ref it)) Q E s := by
  obtain ⟨o, ho, hc, hd⟩ := id hit
  obtain ⟨ol, hol, _, nl, hdl⟩ := hl
  unfold pyNext
  refine wpAny_bind (wpAny_attempt (wpAny_callSpecial?_slot (name := Str.ofString "__next__") hit.typeIs slot_listiter_next
    (wpAny_call_entry slot_listiter_next hit.typeIs entry_listiter_next ?_ (args_listiter_next _))))
  show wpAny _ _ (field (.ref it) 0 >>= _) _ _ s
  refine wpAny_bind (wpAny_field ho hd (x := .ref l) rfl ?_)
  show wpAny _ _ (if (Value.ref l == Value.none) = true then _ else _) _ _ s
  rw [if_neg (show ¬ ((Value.ref l == Value.none) = true) from Bool.false_ne_true)]
  show wpAny _ _ (field (.ref it) 1 >>= _) _ _ s
  refine wpAny_bind (wpAny_field ho hd (x := .int i 0) rfl ?_)
  show wpAny _ _ (seqItems? (.ref l) >>= _) _ _ s
  refine wpAny_bind (wpAny_seqItems hol hdl ?_)
  simp only [Int.toNat_natCast, hx]
  refine wpAny_bind (wpAny_rule (wpAny_bind (wpAny_setField ho hd (by simp) ?_)))
  show wpAny _ _ (newExc (.type "StopIteration") [] >>= _) _ _ _
  refine wpAny_bind ?_
  simp only [newExc, newTuple]
  refine wpAny_bind (wpAny_newObj_type ?_ (by size_fits))
  refine wpAny_bind (m := firstArgMember _ _) (wpAny_of_eq (a := Value.none) (by first | rfl | (simp only [firstArgMember]; rfl)) ?_)
  refine wpAny_newObj_type ?_ (by size_fits)
  have hsz := Heap.lt_size he
  have he1 : (s.heap.update it (Obj.mapFields (·.setIfInBounds 0 .none))).get? e = some oe := by rw [Heap.get?_update_other _ _ (Ne.symm hei)]; exact he
  refine raise_h (by show A.in1.handled = _; exact hh) ?_ (Heap.get?_push_of_some _ (Heap.get?_push_of_some _ he1)) hd' h2 (Heap.get?_push_size _ rfl) rfl (by simp; omega) ?_
  · intro q
    rw [Heap.size_push, Heap.size_after_update] at q
    rw [q] at hsz; exact absurd hsz (by simp)
  refine wpAny_bind (wpAny_isInstance (T := "StopIteration") (b := true) ⟨_, Heap.get?_update_self _ (Heap.get?_push_size _ rfl) rfl, rfl⟩ isSubtype_stop ?_)
  refine wpAny_pure (hQ _ fun b ob hb hob => ?_)
  have hne := Heap.lt_size hob
  rw [Heap.get?_update_other]
  · exact (((Heap.SameBut.update ..).extBut.push _).push _) b ob hb hob
  · intro q
    rw [Heap.size_push, Heap.size_after_update] at q
    rw [← q] at hne; exact absurd hne (by simp)

/-- the iterator of a list is at its end, whatever is handled -/
theorem next_end_any {src : Src} {items : List PV} {hd : Option Nat} (R : Rep c g ((I, o) :: held) fs σ s) (hnd : ∀ p ∈ held, p.1 ≠ I) (hB : c.B.get? I = none) (ho : src.obj g items.length items.length o) (hs : src.has σ s.heap g.loc items)
    (hh : HdOk g σ.n A hd) (hu : HdU σ hd) (hl : hd = none ∨ ∃ i, src = .list i)
    {Q : Option Value → Shared → Prop} (hQ : ∀ s', Rep c g held fs σ s' → Le g σ.n s.heap g σ.n s'.heap → Q none s') :
    wpAny (model prog w) A (pyNext (.ref I)) Q E s := by
  cases hd with
  | none => exact next_end R hnd hB ho hs hh hQ
  | some j =>
    refine hl.elim (fun q => absurd q (Option.some_ne_none _)) fun hl => hl.elim fun i hl => ?_
    subst hl
    have hI := R.held (I, o) (.head _)
    exact hu.elim fun C hu => hu.elim fun ffs hj => have y := (R.objs j _ hj).2; y.body.casesOn fun _ oe m vs b1 b2 b3 b4 b5 b6 b7 b8 b9 => (R.list hs).casesOn fun xs n c1 c2 =>
      list_end_h hh.1 (fun q => Role.noConfusion (y.main.symm.trans ((congrArg g.role q).trans hI.2.2))) b1 b4 (b7 rfl) (i := items.length) ⟨o, hI.1, ho⟩ c1.isList ((List.getElem?_toArray ..).trans (List.getElem?_eq_none (Nat.le_of_eq c2.length))) fun h' e =>
        have z := R.letHeld (s' := { s with heap := h' }) (Ext.of_extBut e) hnd hB (Src.kind (src := .list i) (len := items.length) (k := items.length) ho).2 rfl rfl
        hQ _ z.1 z.2

/-- an iterator is made -/
inductive IterN (c : Cx) (g : Gh) (held : List (Addr × Obj)) (fs : List FrG) (σ : St) (s : Shared) (o : Obj) (src : Src) (items : List PV) (k : Nat) : Prop where
  | mk (R : Rep c g ((s.heap.objs.size, o) :: held) fs σ { s with heap := s.heap.push o, toks := k }) (L : Le g σ.n s.heap g σ.n (s.heap.push o)) (h : src.has σ (s.heap.push o) g.loc items) (hn : ∀ p ∈ held, p.1 ≠ s.heap.objs.size) (hB : c.B.get? s.heap.objs.size = none)
theorem Src.live {src : Src} {len k : Nat} (ho : src.obj g len k o) : o.isFreed = false := by
  cases src with
  | list i => exact Obj.isFreed_of_fields ho.2
  | tup a xs => exact Obj.isFreed_of_fields ho.2
  | str b x t => exact Obj.isFreed_of_fields ho.2
  | range n => rw [ho.2.2]; rfl
  | rev i => exact Obj.isFreed_of_fields ho.2.2
theorem Src.has_le {src : Src} {items : List PV} {σ' : St} {g' : Gh} {h h' : Heap} (hs : src.has σ h g.loc items) (L : Le g σ.n h g' σ'.n h') (hl : ∀ i, src = .list i ∨ src = .rev i → σ'.at_ i = σ.at_ i) : src.has σ' h' g'.loc items := by
  cases src with
  | list i => exact (hl i (.inl rfl)).trans hs
  | tup a xs => exact ⟨L.tup _ _ hs.1, L.reps hs.2⟩
  | rev i => exact (hl i (.inr rfl)).trans hs
  | _ => exact hs
theorem iter_new (R : Rep c g held fs σ s) {src : Src} {items : List PV} (ho : src.obj g items.length 0 o) (hs : src.has σ s.heap g.loc items) {k : Nat} : IterN c g held fs σ s o src items k :=
  have z := R.push o
  have hn : s.heap.get? s.heap.objs.size = none := Heap.get?_none_of_le (Nat.le_refl _)
  ⟨(z.1.tok k).hold (Heap.get?_push_size _ (Src.live ho)) (Src.kind ho).1 (R.freeOf hn), z.2, Src.has_le hs z.2 fun _ _ => rfl, fun p hp e => absurd (((congrArg s.heap.get? e).symm.trans (R.held p hp).1).symm.trans hn) (Option.some_ne_none _), R.fresh hn⟩

theorem iter_ok (R : Rep c g held fs σ s) {p : PV} {u : Value} {items : List PV} (hp : VRep s.heap g.loc σ.n p u) (hi : wIter σ p items) (hguard : wGuard σ p items) {Q : Value → Shared → Prop}
    (hQ : ∀ (s' : Shared) (I : Addr) (o : Obj) (src : Src), Rep c g ((I, o) :: held) fs σ s' → Le g σ.n s.heap g σ.n s'.heap → src.obj g items.length 0 o → src.has σ s'.heap g.loc items → (∀ p ∈ held, p.1 ≠ I) → c.B.get? I = none →
      (∀ i, p = .ref i → src = .list i) → ((∀ i, p ≠ .ref i) → ∀ (σ' : St), σ.n ≤ σ'.n → ∀ (g' : Gh) (h' : Heap), Le g σ.n s'.heap g' σ'.n h' → src.has σ' h' g'.loc items) → Q (.ref I) s') :
    wpAny (model prog w) A (pyIter u) Q E s := by
  have go : ∀ {o : Obj} {src : Src} {k : Nat}, src.obj g items.length 0 o → src.has σ s.heap g.loc items → (∀ i, p = .ref i → src = .list i) → ((∀ i, p ≠ .ref i) → ∀ i, ¬ (src = .list i ∨ src = .rev i)) → Q (.ref s.heap.objs.size) { s with heap := s.heap.push o, toks := k } :=
    fun ho hs h1 h2 => (iter_new R ho hs).casesOn fun R' L' h' hn hb => hQ _ _ _ _ R' L' ho h' hn hb h1 fun ne σ' _ g' h'' L'' => Src.has_le h' L'' fun i q => absurd q (h2 ne i)
  clear hQ
  cases hp with
  | tup ha r =>
    have hi : items = _ := hi
    rw [← hi] at r
    exact wpAny_pyIter_tuple (items := List.toArray _) (ha.isTup.imp fun _ x => x) (go (src := .tup _ _) ⟨rfl, rfl⟩ ⟨ha, r⟩ (fun _ e => PV.noConfusion e) fun _ i q => q.elim Src.noConfusion Src.noConfusion)
  | ref i hlt => exact (R.list hi).casesOn fun vs k a1 a2 => wpAny_pyIter_list a1.isList (go (src := .list i) ⟨rfl, rfl⟩ hi (fun _ e => congrArg Src.list (PV.ref.inj e)) fun ne => absurd rfl (ne i))
  | str x t =>
    have hl : items = (⟨x.toArray⟩ : Str).cps.toList.map fun y => PV.str [y] := hi
    cases ha : (⟨x.toArray⟩ : Str).cps.all (· < 128) with
    | true => exact wpAny_pyIter_ascii ha (go (src := .str true ⟨x.toArray⟩ t) ⟨rfl, rfl⟩ hl (fun _ e => PV.noConfusion e) fun _ i q => q.elim Src.noConfusion Src.noConfusion)
    | false => exact wpAny_pyIter_wide ha (go (src := .str false ⟨x.toArray⟩ t) ⟨rfl, rfl⟩ hl (fun _ e => PV.noConfusion e) fun _ i q => q.elim Src.noConfusion Src.noConfusion)
  | _ => exact False.elim hi

theorem iter_self {src : Src} {items : List PV} {k : Nat} (R : Rep c g ((I, o) :: held) fs σ s) (ho : src.obj g items.length k o) {Q : Value → Shared → Prop} (hQ : Q (.ref I) s) : wpAny (model prog w) A (pyIter (.ref I)) Q E s := by
  have hI := (R.held (I, o) (.head _)).1
  cases src with
  | list i => exact wpAny_pyIter_listiter (i := k) ⟨o, hI, ho⟩ hQ
  | tup t xs => exact wpAny_pyIter_tupleiter (i := k) ⟨o, hI, ho⟩ hQ
  | str b x t =>
    cases b with
    | true => exact wpAny_pyIter_striter_ascii (i := k) ⟨o, hI, ho⟩ hQ
    | false => exact wpAny_pyIter_striter_wide (i := k) ⟨o, hI, ho⟩ hQ
  | range n => exact wpAny_pyIter_rangeiter (by rw [ho.2.2] at hI; exact hI) hQ
  | rev i => exact wpAny_pyIter_revIter ⟨o, hI, ho.2⟩ hQ
end
end Mine
end

section
open PySem PySem.W PyProof.Rows PySem.Calls Builtin Builtin.ObjectAttr
set_option Elab.async false
set_option linter.unusedVariables false
set_option maxRecDepth 100000
namespace Mine

section
variable {c : Sx} {lv : Nat} {hd : Option Nat} {f : FrG} {fr : List FrG} {held : List (Addr × Obj)} {ρ : Loc} {A : Around} {g g' : Gh} {σ σ' : St} {s s' : Shared}
variable {sc : Scope} {env : Env}

theorem VRep.ref_eq {h : Heap} {loc : Nat → Addr} {n i : Nat} {v : Value} (x : VRep h loc n (.ref i) v) : v = .ref (loc i) ∧ i < n := VRep.refE (C := fun v => v = .ref (loc i) ∧ i < n) x fun h => ⟨rfl, h⟩

theorem Src.obj_le {src : Src} {len k : Nat} {o : Obj} (h : src.obj g len k o) (hl : ∀ i, src = .list i ∨ src = .rev i → g'.loc i = g.loc i) : src.obj g' len k o := by
  cases src with
  | list i => exact ⟨h.1, by rw [hl i (.inl rfl)]; exact h.2⟩
  | rev i => exact ⟨h.1, h.2.1, by rw [hl i (.inr rfl)]; exact h.2.2⟩
  | _ => exact h

theorem Src.lt {cx : Cx} {fs : List FrG} {src : Src} {items : List PV} (R : Rep cx g held fs σ s) {h : Heap} {loc : Nat → Addr} (hs : src.has σ h loc items) {j : Nat} (hj : src = .list j ∨ src = .rev j) : j < σ.n :=
  hj.elim (fun e => R.lt (o := .list items) (by rw [e] at hs; exact hs)) fun e => R.lt (o := .list items.reverse) (by rw [e] at hs; exact hs)

theorem guard_of {p : PV} {items : List PV} (h : wIter σ p items) : wGuard σ p items := by
  cases p with
  | ref i => exact h
  | _ => trivial

theorem folded_of {it : Expr} (h : isSet it = false) (env : Env) : ∀ x, foldedSetIterable it env x = pure x := by
  intro x
  cases it <;> first | rfl | exact Bool.noConfusion h

section
variable {sc' : Scope} (ha : (sc'.names.all fun z => z.2 == .local && sc'.names.lookup z.1 == some .local || z.2 == .globalImplicit) = true)
include ha
theorem kinds_of (x : Str × NameKind) (hx : x ∈ sc'.names) : x.2 = .local ∧ sc'.names.lookup x.1 = some .local ∨ x.2 = .globalImplicit :=
  (Bool.or_eq_true_iff.mp (List.all_eq_true.mp ha x hx)).imp (fun q => have q := Bool.and_eq_true_iff.mp q; ⟨beq_iff_eq.mp q.1, beq_iff_eq.mp q.2⟩) beq_iff_eq.mp
theorem kinds_free (x : Str × NameKind) (hx : x ∈ sc'.names) : x.2 ≠ .free := fun e => (kinds_of ha x hx).elim (fun q => NameKind.noConfusion (q.1.symm.trans e)) fun q => NameKind.noConfusion (q.symm.trans e)
theorem kinds_cell (x : Str × NameKind) (hx : x ∈ sc'.names) : x.2 ≠ .cell := fun e => (kinds_of ha x hx).elim (fun q => NameKind.noConfusion (q.1.symm.trans e)) fun q => NameKind.noConfusion (q.symm.trans e)
theorem kinds_local (x : Str × NameKind) (hx : x ∈ sc'.names) (e : x.2 = .local) : sc'.names.lookup x.1 = some .local := (kinds_of ha x hx).elim (fun q => q.2) fun q => NameKind.noConfusion (e.symm.trans q)
end

noncomputable abbrev WItem := PV → St → (PV → St → Prop) → (Nat → St → Prop) → Prop
set_option genInjectivity false in
/-- what stays the same while a comprehension runs -/
structure CD where
  c : Sx
  lv : Nat
  hd : Option Nat
  A : Around
  f : FrG
  fr : List FrG
  held : List (Addr × Obj)
  L : Addr
  I : Addr
  id : Nat
  src : Src
  p : PV
  items : List PV
  F : WItem
  Q : PV → St → Prop
  g : Gh
  n : Nat
  h : Heap
  room : Room A lv
  frames : A.frames = some ((f :: fr).filterMap (·.env))
  hd' : HdOk g n A hd
  hid : id < n
  hnd : ∀ p ∈ held, p.1 ≠ I
  hB : c.B.get? I = none
  hl : ∀ i, p = .ref i → src = .list i
  ho : (∀ i, p ≠ .ref i) → ∀ (σ' : St) (g' : Gh) (h' : Heap), Le g n h g' σ'.n h' → src.has σ' h' g'.loc items
  hdl : hd = none ∨ ∃ i, p = .ref i

set_option genInjectivity false in
/-- where it stands -/
structure CS (d : CD) (k : Nat) (g : Gh) (σ : St) (o : Obj) (m : Str → Option Value) (acc : List PV) (s : Shared) : Prop where
  R : Rep d.c.toCx g ((d.I, o) :: d.held) (⟨d.L, m, none⟩ :: d.f :: d.fr) σ s
  le : Le d.g d.n d.h g σ.n s.heap
  o : d.src.obj g d.items.length k o
  a : σ.at_ d.id = some (.list acc)
  w : wComp (fun σ => wGuard σ d.p d.items) d.hd d.F d.id (d.items.drop k) acc σ d.Q

section
variable {d : CD} {k : Nat} {o : Obj} {m : Str → Option Value} {acc : List PV}
theorem wComp.guard {G : St → Prop} {F : WItem} {id : Nat} {xs : List PV} {Q : PV → St → Prop} (h : wComp G hd F id xs acc σ Q) : G σ := by
  cases xs with
  | nil => exact h.1
  | cons x xs => exact h.1
theorem CS.has (S : CS d k g σ o m acc s) : d.src.has σ s.heap g.loc d.items :=
  (Classical.em (∃ j, d.p = .ref j)).elim (fun hp => hp.elim fun j hj => by
      have w := S.w.guard
      rw [d.hl j hj]
      rw [hj] at w; exact w)
    fun hp => d.ho (fun j e => hp ⟨j, e⟩) σ g s.heap S.le
theorem CS.loc (S : CS d k g σ o m acc s) : g.loc d.id = d.g.loc d.id := S.le.loc _ d.hid

inductive CInv (d : CD) (n : Nat) (s : Shared) : Prop where
  | mk (k : Nat) (g : Gh) (σ : St) (o : Obj) (m : Str → Option Value) (acc : List PV) (hk : k ≤ d.items.length) (e : n = d.items.length - k) (S : CS d k g σ o m acc s)

theorem sub_succ_lt {k n : Nat} (h : k < n) : n - (k + 1) < n - k := Nat.sub_lt_sub_left h (Nat.lt_succ_self k)
theorem app_le {α : Type} {xs ys : List α} {y : α} (h : ys.length ≤ 100000) : (ys ++ [y]).length ≤ 2000000 := by rw [List.length_append]; exact Nat.le_trans (Nat.succ_le_succ h) (by decide)
/-- the item is put behind -/
theorem CS.push (S : CS d k g σ o m acc s) (hk : k < d.items.length) {g₇ : Gh} {σ₇ : St} {q : PV} {u : Value} {s₇ : Shared} {o₇ : Obj} {m₇ : Str → Option Value} (R₇ : Rep d.c.toCx g₇ ((d.I, o₇) :: d.held) (⟨d.L, m₇, none⟩ :: d.f :: d.fr) σ₇ s₇) (L₇ : Le g σ.n s.heap g₇ σ₇.n s₇.heap)
    (ho : d.src.obj g₇ d.items.length (k + 1) o₇) (r₇ : VRep s₇.heap g₇.loc σ₇.n q u) (q1 : σ₇.at_ d.id = some (.list acc)) (q2 : acc.length ≤ 100000)
    (q3 : wComp (fun σ => wGuard σ d.p d.items) d.hd d.F d.id (d.items.drop (k + 1)) (acc ++ [q]) (σ₇.put d.id (.list (acc ++ [q]))) d.Q) {E : Value → Shared → Prop} :
    wpAny (model d.c.prog d.c.w) d.A (call (.builtin "list.append") [.ref (d.g.loc d.id), u]) (fun _ s₄ => ∃ m, m < d.items.length - k ∧ CInv d m s₄) E s₇ := by
  have Lall := S.le.trans L₇
  rw [← Lall.loc _ d.hid]
  refine (R₇.list q1).casesOn fun xs kk a1 a2 => call_meets slot_list_append (self := .ref (g₇.loc d.id)) ⟨_, a1, rfl⟩ entry_list_append (args_list_append _ _)
    (PySem.list_append (g₇.loc d.id) xs.toArray kk u (by rw [List.size_toArray, a2.length]; exact Nat.le_trans q2 (by decide +kernel : 100000 ≤ sizeLine))) ⟨a1, ?_⟩
  have z := list_put (f := fun x_1 => x_1.push u) (t := s₇.toks) R₇ q1 a1 (List.push_toArray xs u) (a2.snoc r₇) (app_le (xs := acc) q2)
  exact ⟨_, sub_succ_lt hk, k + 1, g₇, _, o₇, m₇, acc ++ [q], hk, rfl, ⟨z.1, Lall.trans z.2, ho, if_pos rfl, q3⟩⟩

theorem one_name {c : Sx} {y : Str} {i : Nat} (hy : c.cc.idx y = some i) {m : Str → Option Value} {h : Heap} {loc : Nat → Addr} {n : Nat} {p : PV} {v : Value} (r : VRep h loc n p v) :
    LRep c.toCx h loc n (fun j => if j = i then some p else none) (fun x => if x = y then some v else m x) := fun j p' hj => by
  by_cases e : j = i
  · exact ⟨v, if_pos (by rw [e]; exact c.hnm y i hy), Option.some.inj ((if_pos e).symm.trans hj) ▸ r⟩
  · exact absurd (hj.symm.trans (if_neg e)) (Option.some_ne_none _)

/-- the loop of a comprehension -/
theorem comp_loop (d : CD) {sc' : Scope} {cenv : Env} (V : ∀ m, EnvOk sc' cenv ⟨d.L, m, none⟩) {y : Str} {i : Nat} (hy : d.c.cc.idx y = some i) (hl : sc'.names.lookup y = some .local) {elt it : Expr} {py pos : Pos} {We : Loc → WE}
    (hF : d.F = fun v => We fun j => if j = i then some v else none) (Me : ∀ m o ρ, EOk d.c d.lv d.hd ⟨d.L, m, none⟩ (d.f :: d.fr) ((d.I, o) :: d.held) ρ (We ρ) (eval elt cenv)) {POST : Result → Shared → Prop}
    (fin : ∀ g σ m s, Rep d.c.toCx g d.held (⟨d.L, m, none⟩ :: d.f :: d.fr) σ s → Le d.g d.n d.h g σ.n s.heap → d.Q (.ref d.id) σ → POST (.ok .next) s) (S : CS d 0 g σ o m [] s) :
    codeAny (model d.c.prog d.c.w) d.A (.compLoop (.ListComp elt [⟨.Name y py, it, [], 0⟩] sc' pos) 0 (.ref d.I) (.ref (d.g.loc d.id)) cenv) POST s := by
  refine codeAny_compLoop_list (CInv d) (fun n s' z => ?_) d.items.length ⟨0, g, σ, o, m, [], Nat.zero_le _, rfl, S⟩
  refine z.casesOn fun k g σ o m acc hkl e S => ?_
  rw [e]
  clear e z
  have w := S.w
  rcases Nat.lt_or_ge k d.items.length with hlt | hge
  · rw [List.drop_eq_getElem_cons hlt, hF] at w
    refine next_item S.R d.hnd d.hB S.o S.has (List.getElem?_eq_getElem hlt) fun v o₅ s₅ R₅ L₅ r₅ ho₅ => ?_
    refine wpAny_assign_Name (wpAny_storeName_local (env := cenv) (m := m) (by rw [Env.kindOf, (V m).names]; exact hl) (by rw [(V m).loc]; exact (R₅.frs _ (.head _)).1) (fun h₆ hn₆ hs₆ => ?_) (by rw [(V m).kind]; rfl))
    rw [(V m).loc] at hn₆ hs₆
    have z := R₅.setFr (s' := { s₅ with heap := h₆, toks := s₅.toks + 1 }) (f := ⟨d.L, m, none⟩) (Ext.of_sameBut hs₆) hn₆ rfl rfl
    refine wpAny_mono (Me _ _ _ d.A g σ _ _ _ ⟨d.room, d.frames, d.hd'.next (S.le.trans (L₅.trans z.2)), z.1, one_name hy (z.2.rep r₅)⟩ w.2) (fun u s₇ q => ?_) fun e s₇ q => q.casesOn fun _ _ _ _ _ _ _ q => q.elim
    exact q.casesOn fun g₇ σ₇ q R₇ L₇ r₇ q => S.push hlt R₇ (L₅.trans (z.2.trans L₇)) (Src.obj_le ho₅ fun j hj => (z.2.trans L₇).loc j (Src.lt R₅ S.has hj)) r₇ q.1 q.2.1 (by rw [hF]; exact q.2.2)
  · obtain rfl : k = d.items.length := Nat.le_antisymm hkl hge
    rw [List.drop_length] at w
    exact next_end_any S.R d.hnd d.hB S.o S.has (d.hd'.next S.le) w.2.1 (d.hdl.imp id (Exists.imp d.hl)) fun s₅ R₅ L₅ => fin g σ m s₅ R₅ (S.le.trans L₅) w.2.2
end

/-- a comprehension, from its iterator on -/
theorem comp_core (V : EnvOk sc env f) {elt it : Expr} {y : Str} {py pos : Pos} {i : Nat} {sc' : Scope} (hy : c.cc.idx y = some i) (hl : sc'.names.lookup y = some .local) (hk : sc'.kind = .function)
    (ha : (sc'.names.all fun z => z.2 == .local && sc'.names.lookup z.1 == some .local || z.2 == .globalImplicit) = true) {We : Loc → WE}
    (Me : ∀ fc held' ρ' cenv, EnvOk sc' cenv fc → EOk c lv hd fc (f :: fr) held' ρ' (We ρ') (eval elt cenv)) (room : Room A lv) (frames : A.frames = some ((f :: fr).filterMap (·.env))) (hdo : HdOk g σ.n A hd)
    (R : Rep c.toCx g held (f :: fr) σ s) {p : PV} {u : Value} {items : List PV} (r : VRep s.heap g.loc σ.n p u) (hit : wIter σ p items) (hdl : hd = none ∨ ∃ i, p = .ref i) {Q : PV → St → Prop}
    (hw : wComp (fun σ => wGuard σ p items) hd (fun v => We fun j => if j = i then some v else none) σ.n items [] (σ.new (.list [])) Q) {POST : Env → Value → Result → Shared → Prop} {E : Value → Shared → Prop}
    (fin : ∀ (cenv : Env) (g' : Gh) (σ' : St) (m : Str → Option Value) (s' : Shared), Rep c.toCx g' held (⟨cenv.locals, m, none⟩ :: f :: fr) σ' s' → Le g σ.n s.heap g' σ'.n s'.heap → σ.n < σ'.n → Q (.ref σ.n) σ' → POST cenv (.ref (g'.loc σ.n)) (.ok .next) s') :
    wpAny (model c.prog c.w) A (pyIter u) (fun it' s₂ => wpAny (model c.prog c.w) A (newList []) (fun acc s₃ => wpAny (model c.prog c.w) A (newFunctionEnv sc' env.globals [] [] env.qual none .none (some env)) (fun cenv s₄ =>
      codeAny (model c.prog c.w) A (.compStart (.ListComp elt [⟨.Name y py, it, [], 0⟩] sc' pos) 0 it' acc { cenv with scope := sc' }) (POST cenv acc) s₄) E s₃) E s₂) E s := by
  refine iter_ok R r hit (guard_of hit) fun s₂ I o src R₂ L₂ ho hsrc hnd hB hlist hother => wpAny_newObj_type ?_ (Nat.zero_le _)
  refine (newL (Q := fun p σ₃ => p = .ref σ.n ∧ σ₃ = σ.new (.list [])) (k := s₂.toks) R₂ (xs := []) (vs := []) .nil (Nat.zero_le _) ⟨rfl, rfl⟩).casesOn fun g₃ σ₃ p₃ R₃ L₃ r₃ e₃ => ?_
  rw [e₃.1] at r₃
  rw [e₃.2] at R₃ L₃ r₃
  rw [Value.ref.inj r₃.ref_eq.1]
  generalize ({ s₂ with heap := s₂.heap.push { cls := .type "list", data := .seq ([] : List Value).toArray }, toks := s₂.toks } : Shared) = s₃ at R₃ L₃
  clear r₃ e₃
  refine wpAny_newFunctionEnv (kinds_cell ha) (fun _ hx => absurd hx List.not_mem_nil) (fun h₄ hns hsb => ?_) hk
  have z := R₃.enter (s' := { s₃ with heap := h₄, toks := s₃.toks + ([] : List (Str × Value)).length }) (L := s₃.heap.objs.size) (env := none) (Heap.get?_none_of_le (Nat.le_refl _)) hns
    (fun b o e => by rw [hsb.2 b (Nat.ne_of_lt (Heap.lt_size e))]; exact Heap.get?_push_of_some _ e) (fun _ e => absurd e.symm (Option.some_ne_none _)) rfl rfl
  have L24 := L₃.trans z.2
  have ho' := Src.obj_le ho fun j hj => L24.loc j (Src.lt R hsrc hj)
  have loop := comp_loop ⟨c, lv, hd, A, f, fr, held, s₃.heap.objs.size, I, σ.n, src, p, items, _, Q, _, (σ.new (.list [])).n, h₄, room, frames, hdo.next (L₂.trans L24), Nat.lt_succ_self _, hnd, hB, hlist,
      fun hp σ' g' h' L => hother hp σ' (Nat.le_trans (Nat.le_succ _) L.n) g' h' (L24.trans L), hdl⟩ (sc' := sc')
    (cenv := { newEnv sc' s₃.heap.objs.size env.globals [] env.qual none Value.none (some env) builtinsNs with scope := sc' }) (fun m => ⟨hk, rfl, V.glob, V.blt, rfl⟩) hy hl (it := it) (py := py) (pos := pos) rfl (fun m o ρ => Me _ _ ρ _ ⟨hk, rfl, V.glob, V.blt, rfl⟩)
    (POST := POST (newEnv sc' s₃.heap.objs.size env.globals [] env.qual none Value.none (some env) builtinsNs) (.ref (g₃.loc σ.n)))
    (fun g' σ' m s' R' L' q => (L'.loc σ.n (Nat.lt_succ_self _)) ▸ fin _ g' σ' m s' R' (L₂.trans (L24.trans L')) L'.n q) ⟨z.1, Le.refl .., ho', if_pos rfl, hw⟩
  exact codeAny_compStart_list loop (iter_self z.1 (src := src) (items := items) (k := 0) ho' loop)

theorem comp_e (V : EnvOk sc env f) {elt it : Expr} {y : Str} {py pos : Pos} {i : Nat} {sc' : Scope} (hy : c.cc.idx y = some i) (hs : isSet it = false) (hl : sc'.names.lookup y = some .local) (hk : sc'.kind = .function)
    (ha : (sc'.names.all fun z => z.2 == .local && sc'.names.lookup z.1 == some .local || z.2 == .globalImplicit) = true) {Wi : WE} {We : Loc → WE} (Mi : EOk c lv hd f fr held ρ Wi (eval it env))
    (Me : ∀ fc held' ρ' cenv, EnvOk sc' cenv fc → EOk c lv hd fc (f :: fr) held' ρ' (We ρ') (eval elt cenv)) :
    EOk c lv hd f fr held ρ (fun σ Q X => Wi σ (fun p σ => ∃ items, wIter σ p items ∧ (hd = none ∨ ∃ i, p = .ref i) ∧
      wComp (fun σ => wGuard σ p items) hd (fun v σ Q X => We (fun j => if j = i then some v else none) σ Q X) σ.n items [] (σ.new (.list [])) Q) X)
      (eval (.ListComp elt [⟨.Name y py, it, [], 0⟩] sc' pos) env) := fun A g σ s Q X P h =>
  wpAny_ListComp (kinds_free ha) hk (kinds_local ha) (wpAny_mono (Mi A g σ s _ X P h) (fun u s₁ z => z.casesOn fun g₁ σ₁ p R₁ L₁ r₁ z => z.elim fun items z =>
    comp_core V hy hl hk ha Me P.room P.frames (P.hd.next L₁) R₁ r₁ z.1 z.2.1 z.2.2 fun cenv g' σ' m s' R' L' hn q => ⟨m, (R'.frs _ (.head _)).1, fun h' hs' =>
      have w := R'.leave (s' := { s' with heap := h' }) (Ext.of_sameBut hs') rfl rfl
      ⟨_, _, _, w.1, L₁.trans (L'.trans w.2), .ref _ hn, q⟩⟩) fun _ _ x => x) (folded_of hs env)
end
end Mine
end

section
open PySem PySem.W PyProof.Rows PySem.Calls Builtin Builtin.ObjectAttr
set_option Elab.async false
set_option linter.unusedVariables false
set_option maxRecDepth 100000
namespace Mine

section
variable {c : Sx} {lv : Nat} {hd : Option Nat} {f : FrG} {fr : List FrG} {held : List (Addr × Obj)} {ρ : Loc} {A : Around} {g g' : Gh} {σ σ' : St} {s s' : Shared}
variable {sc : Scope} {env : Env}

theorem noStar_any {args : List Expr} (h : args.all noStar = true) (pos : Pos) : (backTo pos (starEach args env)).any (·.1) = false := by
  induction args with
  | nil => rfl
  | cons e r ih =>
    have h := Bool.and_eq_true_iff.mp h
    rw [star_cons h.1]; exact ih h.2

theorem evalArgs_any {M : Model} {E : Value → Shared → Prop} {fv : Value} {args : List (Bool × Sem Value)} (hp : args.any (·.1) = false) {Q : Args → Shared → Prop} (h : wpAny M A (spliced args) (fun vs s' => Q ⟨vs, []⟩ s') E s) : wpAny M A (evalArgs fv true args []) Q E s := by
  cases args with
  | nil =>
    unfold evalArgs
    show wpAny M A (spliced [] >>= _) Q E s
    exact wpAny_bind (wpAny_mono h (fun vs s' h' => wpAny_bind (wpAny_pure (wpAny_holding (wpAny_bind (wpAny_pure (wpAny_bind (wpAny_pure (wpAny_pure h')))))))) fun _ _ x => x)
  | cons x r =>
    cases x with | mk b x =>
    cases b with
    | false => exact Calls.evalArgs_plain h
    | true => exact Bool.noConfusion hp

theorem callWith_ok (P : Pre c lv hd f fr held ρ A g σ s) {v : Value} (hv : c.callee v = true) {first : List Value} {fps : List PV} (hf : VReps s.heap g.loc σ.n fps first) {args : List Expr} (ha : args.all noStar = true) {pos cpos : Pos}
    {Wes : St → (List PV → St → Prop) → (Nat → St → Prop) → Prop} (Mes : LOk c lv hd f fr held ρ args.length Wes (spliced (backTo pos (starEach args env)))) {Q : PV → St → Prop} {X : Nat → St → Prop}
    (h : Wes σ (fun ps σ => CallOk c lv hd v (fps ++ ps) σ Q X) X) :
    wpAny (model c.prog c.w) A (callWith cpos v first (backTo pos (starEach args env)) []) (QV c.toCx held (f :: fr) g σ.n s.heap Q) (XV c.toCx held (f :: fr) g σ.n s.heap X) s := by
  have hp := noStar_any (env := env) ha pos
  refine callWith_of (P := fun h => c.K.In h) (by rw [hp]; rfl) (c.hcallee v hv) (evalArgs_any hp ?_)
  exact wpAny_mono (Mes A g σ s _ X P h) (fun vs s₁ z => z.casesOn fun g₁ σ₁ ps R₁ L₁ r₁ l₁ q₁ => ⟨R₁.K, liftE L₁ (q₁ A s₁ g₁ held (f :: fr) (first ++ vs) P.room P.frames (P.hd.next L₁) R₁ ((L₁.reps hf).append r₁))⟩) fun _ _ x => x

theorem call_e {y : Str} {q pos : Pos} {args : List Expr} (ha : args.all noStar = true) {Wf : WE} {Wes : St → (List PV → St → Prop) → (Nat → St → Prop) → Prop} (Mf : EOk c lv hd f fr held ρ Wf (eval (.Name y q) env)) (Mes : LOk c lv hd f fr held ρ args.length Wes (spliced (backTo pos (starEach args env)))) :
    EOk c lv hd f fr held ρ (fun σ Q X => Wf σ (fun pf σ => wSt pf fun v => c.callee v = true ∧ Wes σ (fun ps σ => CallOk c lv hd v ps σ Q X) X) X) (eval (.Call (.Name y q) args [] pos) env) := by
  intro A g σ s Q X P h
  rw [arm_eval_Call_Name']
  exact bindE Mf P h fun g₁ σ₁ s₁ p v P₁ L₁ r₁ q₁ => wSt_e r₁ q₁ fun v q₁ => liftE L₁ (callWith_ok P₁ q₁.1 .nil ha Mes q₁.2)

theorem getMethod_ok (P : Pre c lv hd f fr held ρ A g σ s) {p : PV} {u fn : Value} {x : Nat} (hp : VRep s.heap g.loc σ.n p u) (h : wMeth c σ p x fn) {pl : Sem Bool} {E : Value → Shared → Prop} {Q : Value × List Value → Shared → Prop} (hQ : c.callee fn = true → Q (fn, [u]) s) :
    wpAny (model c.prog c.w) A (getMethod u (c.nm x) pl) Q E s := by
  have mi : ∀ i C fs, σ.at_ i = some (.inst C fs) → fs x = none → c.meth C x = some fn → u = .ref (g.loc i) → wpAny (model c.prog c.w) A (getMethod u (c.nm x) pl) Q E s := fun i C fs hi h1 h2 hu => by
    rw [hu] at hQ ⊢
    obtain ⟨O, hga, hcl, fa, rfl, hf, ht⟩ := c.hmeth C x fn h2
    exact (P.R.instIs (.inl hi)).casesOn fun ox od m I _ _ look fr => method_fn P.R.K I hga O.gattr hf ht (by show (lookIn (c.nm x) od).map (·.isSome) = _; rw [look, fr.none h1]; rfl) (hQ hcl)
  have mb : ∀ k T, c.bmeth k x = some fn → bname k = T → s.TypeIs u T → (∀ a, u = .ref a → ∃ o, s.heap.get? a = some o ∧ o.dict = none) → wpAny (model c.prog c.w) A (getMethod u (c.nm x) pl) Q E s := fun k T h hT hu hd => by
    obtain ⟨hcl, id, rfl, M⟩ := c.hbmeth k x fn h
    rw [hT] at M
    exact getMethod_builtin (T := T) hu M.pa M.slot M.ty hd (hQ hcl)
  clear hQ
  cases hp with
  | str y t => exact mb 1 "str" h rfl (typeIs_str s _ _) fun a e => Value.noConfusion e
  | ref i hi =>
    change (match σ.at_ i with
      | some (.inst C fs) => fs x = none ∧ c.meth C x = some fn
      | some (.list _) => c.bmeth 0 x = some fn
      | some (.dict _) => c.bmeth 2 x = some fn
      | _ => False) at h
    cases e : σ.at_ i with
    | none => rw [e] at h; exact h.elim
    | some o =>
      rw [e] at h
      cases o with
      | inst C fs => exact mi i C fs e h.1 h.2 rfl
      | list vs => exact (P.R.list e).casesOn fun xs k a1 a2 => mb 0 "list" h rfl ⟨_, a1, rfl⟩ fun a e => ⟨_, Value.ref.inj e ▸ a1, rfl⟩
      | dict kvs => exact (P.R.dict e).casesOn fun _ _ _ ws _ _ _ d _ _ => d.obj.casesOn fun o es ep o1 o2 o3 o4 => mb 2 "dict" h rfl ⟨_, o1, o2⟩ fun a e => ⟨_, Value.ref.inj e ▸ o1, o4⟩
      | _ => exact h.elim
  | _ => exact False.elim h

theorem form_of {args : List Expr} (hz : args.length < 29) (ha : args.all noStar = true) (pos : Pos) : methodCallForm (args.length + ([] : List Keyword).length) (backTo pos (starEach args env)) (backToKw pos (keywordEach [] env)) = true := by
  have hp := noStar_any (env := env) ha pos
  unfold methodCallForm
  rw [show (backTo pos (starEach args env)).all (fun x => !x.1) = true from List.all_eq_true.mpr fun y hy => by rw [Bool.not_eq_true', Bool.eq_false_iff]; exact List.any_eq_false.mp hp y hy]
  exact decide_eq_true (Nat.lt_succ_of_lt hz)
theorem meth_e {a : Expr} {x : Nat} {ap pos : Pos} {args : List Expr} (ho : isCall a = false) (hl : (ap.endLine == pos.line) = true) (hz : args.length < 29) (ha : args.all noStar = true) {Wa : WE} {Wes : St → (List PV → St → Prop) → (Nat → St → Prop) → Prop}
    (Ma : EOk c lv hd f fr held ρ Wa (eval a env)) (Mes : LOk c lv hd f fr held ρ args.length Wes (spliced (backTo pos (starEach args env)))) :
    EOk c lv hd f fr held ρ (fun σ Q X => Wa σ (fun p σ => ∃ fn, wMeth c σ p x fn ∧ Wes σ (fun ps σ => CallOk c lv hd fn (p :: ps) σ Q X) X) X) (eval (.Call (.Attribute a (c.nm x) ap) args [] pos) env) := by
  intro A g σ s Q X P h
  rw [arm_eval_Call, base_of ho]
  refine bindE Ma P h fun g₁ σ₁ s₁ p u P₁ L₁ r₁ q₁ => q₁.elim fun fn q₁ => liftE L₁ (wpAny_bind (wpAny_standAt ?_))
  unfold methodCall
  rw [form_of hz ha]
  refine wpAny_bind (wpAny_holding (getMethod_ok P₁ r₁ q₁.1 fun hcl => ?_))
  show wpAny _ _ (methodCallPos true a env ap pos >>= _) _ _ _
  rw [show methodCallPos true a env ap pos = pure pos by unfold methodCallPos; simp [hl]]
  exact wpAny_bind (wpAny_pure (callWith_ok P₁ hcl (.cons r₁ .nil) ha Mes q₁.2))
end
end Mine
end

section
open PySem PySem.W PyProof.Rows PySem.Calls Builtin Builtin.ObjectAttr
set_option Elab.async false
set_option linter.unusedVariables false
set_option maxRecDepth 100000
namespace Mine

section
variable {c : Sx} {lv : Nat} {hd : Option Nat}

/-- a tree does what its compiled form asks, as a value and as a condition -/
structure ET (c : Sx) (lv : Nat) (hd : Option Nat) (f : FrG) (fr : List FrG) (held : List (Addr × Obj)) (ρ : Loc) (env : Env) (x : E) (y : Expr) : Prop where
  e : EOk c lv hd f fr held ρ (wp c lv hd x ρ).e (eval y env)
  t : TOk c lv hd f fr held ρ (wp c lv hd x ρ).t (isTrue y env (eval y env))
section
variable {f : FrG} {fr : List FrG} {held : List (Addr × Obj)} {ρ : Loc} {env : Env} {x : E} {e : Expr}
theorem ET.of (M : EOk c lv hd f fr held ρ (wp c lv hd x ρ).e (eval e env)) (h : (wp c lv hd x ρ).t = (W.of (wp c lv hd x ρ).e).t) (he : isTrue e env (eval e env) = (do let v ← eval e env; standAt e.pos; holding [v] (truthy v))) : ET c lv hd f fr held ρ env x e :=
  ⟨M, by rw [h]; exact plain_t he M⟩
theorem ET.bad : ET c lv hd f fr held ρ env .bad e := ⟨fun A g σ s Q X P h => False.elim h, fun A g σ s Q X P h => False.elim h⟩
end

structure XOk (c : Sx) (lv : Nat) (hd : Option Nat) (n : Nat) : Prop where
  et : ∀ sc env f fr held ρ e, EnvOk sc env f → ET c lv hd f fr held ρ env (compE c.cc n sc e) e
  es : ∀ sc env f fr held ρ es pos, EnvOk sc env f → LOk c lv hd f fr held ρ es.length (wps c lv hd (compEs c.cc n sc es) ρ).es (spliced (backTo pos (starEach es env)))
  b : ∀ sc env f fr held ρ o e es pos, EnvOk sc env f → EOk c lv hd f fr held ρ ((wps c lv hd (compEs c.cc n sc (e :: es)) ρ).b o) (boolOp pos o (evalEach (e :: es) env))
  tt : ∀ sc env f fr held ρ o es, EnvOk sc env f → TOk c lv hd f fr held ρ ((wps c lv hd (compEs c.cc n sc es) ρ).t o) (allTrue o es env)

theorem XOk.e {n : Nat} (H : XOk c lv hd n) (sc env f fr held ρ e) (V : EnvOk sc env f) : EOk c lv hd f fr held ρ (wp c lv hd (compE c.cc n sc e) ρ).e (eval e env) := (H.et sc env f fr held ρ e V).e
theorem XOk.t {n : Nat} (H : XOk c lv hd n) (sc env f fr held ρ e) (V : EnvOk sc env f) : TOk c lv hd f fr held ρ (wp c lv hd (compE c.cc n sc e) ρ).t (isTrue e env (eval e env)) := (H.et sc env f fr held ρ e V).t
theorem bad_cons_es {σ : St} {ρ : Loc} {r : Es} {Q : List PV → St → Prop} {X : Nat → St → Prop} (h : (wps c lv hd (.cons .bad r) ρ).es σ Q X) : False := h
theorem bad_cons_b {σ : St} {ρ : Loc} {o : BoolOp} {r : Es} {Q : PV → St → Prop} {X : Nat → St → Prop} (h : (wps c lv hd (.cons .bad r) ρ).b o σ Q X) : False := by
  replace h : (match (wps c lv hd r ρ).nil with | true => False | false => False) := h
  cases e : (wps c lv hd r ρ).nil <;> rw [e] at h <;> exact h
theorem bad_cons_t {σ : St} {ρ : Loc} {o : BoolOp} {r : Es} {Q : Bool → St → Prop} {X : Nat → St → Prop} (h : (wps c lv hd (.cons .bad r) ρ).t o σ Q X) : False := h

theorem xok0 : XOk c lv hd 0 where
  et := fun sc env f fr held ρ e V => ET.bad
  es := fun sc env f fr held ρ es pos V A g σ s Q X P h => False.elim h
  b := fun sc env f fr held ρ o e es pos V A g σ s Q X P h => (bad_cons_b h).elim
  tt := fun sc env f fr held ρ o es V A g σ s Q X P h => False.elim h

theorem star_bad {k : CC} {n : Nat} {sc : Scope} {e : Expr} {r : List Expr} : (noStar e = true ∧ compEs k (n + 1) sc (e :: r) = .cons (compE k n sc e) (compEs k n sc r)) ∨ compEs k (n + 1) sc (e :: r) = .cons .bad .nil := by
  show _ ∨ (if noStar e = true then _ else _) = _
  cases he : noStar e with
  | true => exact .inl ⟨rfl, by show (if noStar e = true then _ else _) = _; rw [he]; rfl⟩
  | false => exact .inr rfl

section
variable {n : Nat} {sc : Scope} {env : Env} {f : FrG} {fr : List FrG} {held : List (Addr × Obj)} {ρ : Loc}
theorem sub_step (H : XOk c lv hd n) (V : EnvOk sc env f) {a i : Expr} {p : Pos} : ET c lv hd f fr held ρ env (subE (compE c.cc n sc) a i) (.Subscript a i p) := by
  unfold subE
  cases hs : isSlc i with
  | true =>
    cases slcV i with
    | none => exact .bad
    | some x =>
      obtain ⟨⟨l, u, q⟩, rfl⟩ := x
      refine .of (slc_e (H.e _ _ _ _ _ _ _ V) ?_ ?_) rfl rfl
      · cases l with
        | none => exact fun A g σ s Q X P h => wpAny_pure (qv P.R .none h)
        | some l => exact H.e _ _ _ _ _ _ _ V
      · cases u with
        | none => exact fun A g σ s Q X P h => wpAny_pure (qv P.R .none h)
        | some u => exact H.e _ _ _ _ _ _ _ V
  | false => exact .of (sub_e (fun l u p e => by rw [e] at hs; cases hs) (H.e _ _ _ _ _ _ _ V) (H.e _ _ _ _ _ _ _ V)) rfl rfl
theorem call_step (H : XOk c lv hd n) (V : EnvOk sc env f) {e : Expr} {args : List Expr} {p : Pos} : ET c lv hd f fr held ρ env (callE c.cc (comp c.cc n) sc p args e []) (.Call e args [] p) := by
  unfold callE
  dsimp only
  cases attrV e with
  | some x =>
    obtain ⟨⟨a, y, ap⟩, rfl⟩ := x
    dsimp only
    cases hi : c.cc.idx y with
    | none => exact .bad
    | some i =>
      dsimp only
      split
      · exact .bad
      · rename_i hc
        rw [Bool.or_eq_true, Bool.or_eq_true, Bool.or_eq_true, not_or, not_or, not_or] at hc
        rw [← show c.nm i = y from c.hnm _ i hi]
        exact .of (meth_e (Bool.eq_false_iff.mpr hc.1.1.1) (Bool.not_eq_false _ ▸ fun q => hc.1.1.2 (by rw [bne, q]; rfl)) (Nat.not_le.mp fun q => hc.1.2 (decide_eq_true q)) (Bool.not_eq_false _ ▸ fun q => hc.2 (by rw [q]; rfl)) (H.e _ _ _ _ _ _ _ V) (H.es _ _ _ _ _ _ _ _ V)) rfl rfl
  | none =>
    cases nameV e with
    | none => exact .bad
    | some x =>
      obtain ⟨⟨y, q⟩, rfl⟩ := x
      dsimp only
      split
      · exact .bad
      · rename_i hc
        rw [Bool.or_eq_true, not_or] at hc
        exact .of (call_e (Bool.not_eq_false _ ▸ fun q => hc.2 (by rw [q]; rfl)) (H.e _ _ _ _ _ _ _ V) (H.es _ _ _ _ _ _ _ _ V)) rfl rfl
theorem lc_step (H : XOk c lv hd n) (V : EnvOk sc env f) {elt : Expr} {gs : List Comprehension} {sc' : Scope} {p : Pos} : ET c lv hd f fr held ρ env (lcE c.cc (comp c.cc n) sc elt sc' gs) (.ListComp elt gs sc' p) := by
  unfold lcE
  cases genV gs with
  | none => exact .bad
  | some x =>
    obtain ⟨⟨y, py, it⟩, rfl⟩ := x
    dsimp only
    cases hi : c.cc.idx y with
    | none => exact .bad
    | some i =>
      dsimp only
      split
      · rename_i hc
        exact .of (comp_e (We := fun ρ' => (wp c lv hd (compE c.cc n _ _) ρ').e) V hi hc.1 hc.2.1 hc.2.2.1 hc.2.2.2 (H.e _ _ _ _ _ _ _ V) (fun fc held' ρ' cenv V' => H.e _ _ _ _ _ _ _ V')) rfl rfl
      · exact .bad
end

theorem name_t {sc : Scope} {x : Str} {ρ : Loc} : (wp c lv hd (c.cc.name sc x) ρ).t = (W.of (wp c lv hd (c.cc.name sc x) ρ).e).t := (name_is c.cc sc x).casesOn rfl (fun _ _ _ _ => rfl) fun _ _ _ _ => rfl
theorem const_t {co : Const} {ρ : Loc} : (wp c lv hd (compConst co) ρ).t = (W.of (wp c lv hd (compConst co) ρ).e).t := by
  cases co <;> rfl

theorem et_step {n : Nat} (H : XOk c lv hd n) : ∀ sc env f fr held ρ e, EnvOk sc env f → ET c lv hd f fr held ρ env (compE c.cc (n + 1) sc e) e := by
  intro sc env f fr held ρ e V
  show ET c lv hd f fr held ρ env (stepE c.cc (comp c.cc n) sc e) e
  cases e with
  | Constant => exact .of const_ok const_t rfl
  | Name => exact .of (name_ok V) name_t rfl
  | BinOp => exact .of (bin_e (H.e _ _ _ _ _ _ _ V) (H.e _ _ _ _ _ _ _ V)) rfl rfl
  | UnaryOp o x p =>
    cases o with
    | USub => exact .of (neg_e (H.e _ _ _ _ _ _ _ V)) rfl rfl
    | Not => exact ⟨not_e (H.e _ _ _ _ _ _ _ V), not_t (H.t _ _ _ _ _ _ _ V)⟩
    | _ => exact .bad
  | BoolOp o vs pos =>
    refine ⟨?_, by rw [arm_isTrue_BoolOp]; exact H.tt _ _ _ _ _ _ _ _ V⟩
    rw [arm_eval_BoolOp]
    cases vs with
    | nil =>
      intro A g σ s Q X P h
      cases n with
      | zero => exact (bad_cons_b (c := c) (lv := lv) (hd := hd) (σ := σ) (ρ := ρ) (r := .nil) (o := o) (Q := Q) (X := X) h).elim
      | succ n => exact False.elim h
    | cons e es => exact H.b _ _ _ _ _ _ _ _ _ _ V
  | Compare l os rs p =>
    cases os with
    | nil => exact .bad
    | cons o os =>
      cases os with
      | cons _ _ => exact .bad
      | nil =>
        cases rs with
        | nil => exact .bad
        | cons r rs =>
          cases rs with
          | cons _ _ => exact .bad
          | nil =>
            show ET c lv hd f fr held ρ env (if behindInMarks o r then .bad else .cmp o (compE c.cc n sc l) (compE c.cc n sc r)) _
            split
            · exact .bad
            · rename_i hm
              exact ⟨cmp_e (Bool.not_eq_true _ ▸ hm) (H.e _ _ _ _ _ _ _ V) (H.e _ _ _ _ _ _ _ V), cmp_t (Bool.not_eq_true _ ▸ hm) (H.e _ _ _ _ _ _ _ V) (H.e _ _ _ _ _ _ _ V)⟩
  | IfExp => exact ⟨ite_e (H.t _ _ _ _ _ _ _ V) (H.e _ _ _ _ _ _ _ V) (H.e _ _ _ _ _ _ _ V), ite_t (H.t _ _ _ _ _ _ _ V) (H.t _ _ _ _ _ _ _ V) (H.t _ _ _ _ _ _ _ V)⟩
  | Tuple es _ _ =>
    show ET c lv hd f fr held ρ env (if es.length ≤ 1000 then .tup (compEs c.cc n sc es) else .bad) _
    split
    · rename_i hl; exact .of (tup_e hl (H.es _ _ _ _ _ _ _ _ V)) rfl rfl
    · exact .bad
  | List es _ =>
    show ET c lv hd f fr held ρ env (if es.length ≤ 1000 then .lst (compEs c.cc n sc es) else .bad) _
    split
    · rename_i hl; exact .of (lst_e hl (H.es _ _ _ _ _ _ _ _ V)) rfl rfl
    · exact .bad
  | Dict ks vs p =>
    show ET c lv hd f fr held ρ env (match dlit ks vs with | some l => .dict l | none => .bad) _
    cases hl : dlit ks vs with
    | some l => exact .of (dict_e hl) rfl rfl
    | none => exact .bad
  | Attribute a x p =>
    show ET c lv hd f fr held ρ env (attE c.cc (compE c.cc n sc) a x) _
    unfold attE
    cases hi : c.cc.idx x with
    | none => exact .bad
    | some i =>
      dsimp only
      split
      · exact .bad
      · rename_i hc
        rw [← c.hnm _ i hi]; exact .of (attr_e (Bool.not_eq_true _ ▸ hc) (H.e _ _ _ _ _ _ _ V)) rfl rfl
  | Subscript => exact sub_step H V
  | Call e args kws p =>
    cases kws with
    | nil => exact call_step H V
    | cons _ _ => exact .bad
  | ListComp => exact lc_step H V
  | _ => exact .bad

theorem es_step {n : Nat} (H : XOk c lv hd n) : ∀ sc env f fr held ρ es pos, EnvOk sc env f → LOk c lv hd f fr held ρ es.length (wps c lv hd (compEs c.cc (n + 1) sc es) ρ).es (spliced (backTo pos (starEach es env))) := by
  intro sc env f fr held ρ es pos V
  cases es with
  | nil => exact splice_nil
  | cons e es =>
    rcases @star_bad c.cc n sc e es with ⟨h1, h2⟩ | h2
    · rw [h2]; exact splice_cons h1 (H.e _ _ _ _ _ _ _ V) (H.es _ _ _ _ _ _ _ _ V)
    · rw [h2]; intro A g σ s Q X P h; exact (bad_cons_es h).elim

theorem b_step {n : Nat} (H : XOk c lv hd n) : ∀ sc env f fr held ρ o e es pos, EnvOk sc env f → EOk c lv hd f fr held ρ ((wps c lv hd (compEs c.cc (n + 1) sc (e :: es)) ρ).b o) (boolOp pos o (evalEach (e :: es) env)) := by
  intro sc env f fr held ρ o e es pos V A g σ s Q X P h
  rcases @star_bad c.cc n sc e es with ⟨h1, h2⟩ | h2
  · rw [h2] at h
    cases n with
    | zero => exact (bad_cons_b h).elim
    | succ n =>
      cases es with
      | nil => exact bool_one (H.e _ _ _ _ _ _ _ V) A g σ s Q X P h
      | cons e' es =>
        have hn : (wps c lv hd (compEs c.cc (n + 1) sc (e' :: es)) ρ).nil = false := by
          rcases @star_bad c.cc n sc e' es with ⟨_, h3⟩ | h3 <;> rw [h3] <;> rfl
        replace h : (match (wps c lv hd (compEs c.cc (n + 1) sc (e' :: es)) ρ).nil with | true => _ | false => _) := h
        rw [hn] at h
        exact bool_more (W' := (wps c lv hd (compEs c.cc (n + 1) sc (e' :: es)) ρ).b o) (H.e _ _ _ _ _ _ _ V) (H.b _ _ _ _ _ _ _ _ _ _ V) A g σ s Q X P h
  · rw [h2] at h; exact (bad_cons_b h).elim

theorem tt_step {n : Nat} (H : XOk c lv hd n) : ∀ sc env f fr held ρ o es, EnvOk sc env f → TOk c lv hd f fr held ρ ((wps c lv hd (compEs c.cc (n + 1) sc es) ρ).t o) (allTrue o es env) := by
  intro sc env f fr held ρ o es V
  cases es with
  | nil => exact all_nil
  | cons e es =>
    rcases @star_bad c.cc n sc e es with ⟨h1, h2⟩ | h2
    · rw [h2]; exact all_cons (H.t _ _ _ _ _ _ _ V) (H.tt _ _ _ _ _ _ _ _ V)
    · rw [h2]; intro A g σ s Q X P h; exact (bad_cons_t h).elim

theorem xok : ∀ n, XOk c lv hd n
  | 0 => xok0
  | n + 1 => ⟨et_step (xok n), es_step (xok n), b_step (xok n), tt_step (xok n)⟩
end
end Mine
end

section
open PySem PySem.W PyProof.Rows PySem.Calls Builtin Builtin.ObjectAttr
set_option Elab.async false
set_option linter.unusedVariables false
set_option maxRecDepth 100000
namespace Mine

section
variable {c : Cx} {g : Gh} {held : List (Addr × Obj)} {f : FrG} {fr fs : List FrG} {σ : St} {s s' : Shared} {M : Model} {A : Around} {E : Value → Shared → Prop}

inductive HasTb (c : Cx) (h : Heap) (a : Addr) : Prop where
  | mk (o : Obj) (vs : Array Value) (T : Addr) (h1 : h.get? a = some o) (h2 : o.data = .fields vs) (h3 : vs[1]? = some (.ref T)) (t : TbAt h T) (hB : c.B.get? T = none)

/-- an exception of the store, as it lies -/
inductive ExcIs (c : Cx) (g : Gh) (h : Heap) (σ : St) (i : Nat) : Prop where
  | mk (ffs : Nat → Option PV) (ch : Bool) (hi : σ.at_ i = some (.exc c.excC ffs ch)) (o : Obj) (vs : Array Value) (h1 : h.get? (g.loc i) = some o) (h2 : o.cls = .ref c.excC) (h3 : o.data = .fields vs) (h4 : 4 < vs.size)
    (ht : vs[1]? = some .none ∨ ∃ T, vs[1]? = some (.ref T) ∧ TbAt h T ∧ c.B.get? T = none)
theorem Rep.excAt (R : Rep c g held fs σ s) {i : Nat} (hi : IsExc c σ i) : ExcIs c g s.heap σ i :=
  hi.elim fun ffs hi => hi.elim fun ch hi => (R.objs i _ hi).2.body.casesOn fun _ o m vs b1 b2 _ b4 b5 b6 _ _ _ => ⟨ffs, ch, hi, o, vs, b1, b2, b4, b5, b6⟩

/-- the slots of frames -/
theorem Rep.slots (R : Rep c g held fs σ s) {S : List Addr} (hS : ∀ b ∈ S, ∃ f ∈ fs, f.L = b) {h' : Heap} (x : Heap.SlotsOnly S s.heap h') {k : Nat} :
    Rep c g held fs σ { s with heap := h', toks := k } ∧ Le g σ.n s.heap g σ.n h' :=
  have hr : ∀ b ∈ S, g.role b = .frame := fun b hb => (hS b hb).elim fun f hf => hf.2 ▸ (R.frs f hf.1).2.1
  have ne : ∀ b, g.role b ≠ .frame → b ∉ S := fun b h hb => h (hr b hb)
  have hns : ∀ b m, s.heap.Ns b m → h'.Ns b m := fun b m n => n.elim fun o z => z.elim fun es z => z.elim fun ep z => (x.2.2 b o z.1).elim fun sl e => ⟨_, es, ep, e, z.2⟩
  R.step (s' := { s with heap := h', toks := k }) (W := (· ∈ S)) (fun b o hb e => (x.2.1 b hb).trans e) rfl rfl (fun b hb => R.rB _ (by rw [hr b hb]; exact Role.noConfusion))
    (fun a xs t hb => (hS a hb).elim fun f hf => Heap.Ns.notTup (R.frs f hf.1).1 a xs t hf.2.symm) (fun T t => t.casesOn fun o ts t1 t2 t3 t4 => (x.2.2 T o t1).elim fun sl e => ⟨_, ts, e, t2, t3, t4⟩) (fun _ _ => rfl) (fun _ _ => rfl) (fun _ _ _ => rfl) (Nat.le_refl _)
    (fun b hb _ => (hS b hb).elim fun f hf => (Heap.Ns.obj (hns _ _ (R.frs f hf.1).1)).imp fun o z => z.elim fun _ z => z.elim fun _ z => hf.2 ▸ z.1) (fun _ h => .inl h) (fun f hf => .inr ⟨hns _ _ (R.frs f hf).1, (R.frs f hf).2⟩) R.nd
    (fun p hp => .inl ⟨hp, ne _ (by rw [(R.held p hp).2.2]; exact Role.noConfusion)⟩)
    fun i o e => have z := (R.objs i o e).2; .inl ⟨e, ne _ (by rw [z.main]; exact Role.noConfusion), fun hd => ne _ (by rw [(z.dnode hd).1]; exact Role.noConfusion)⟩

theorem funFrames (R : Rep c g held fs σ s) : s.heap.FunFrames c.B (fs.filterMap (·.env)) := by
  have : ∀ l : List FrG, (∀ f ∈ l, f ∈ fs) → s.heap.FunFrames c.B (l.filterMap (·.env)) := by
    intro l
    induction l with
    | nil => exact fun _ => trivial
    | cons f l ih =>
      intro h
      rw [List.filterMap_cons]
      have z := R.frs f (h f (.head _))
      cases he : f.env with
      | none => exact ih fun x hx => h x (.tail _ hx)
      | some env =>
        have e := z.2.2 env he
        exact ⟨e.2, (Heap.Ns.obj z.1).elim fun o n => n.elim fun es n => n.elim fun ep n => ⟨f.L, o, e.1, R.rB _ (by rw [z.2.1]; exact Role.noConfusion), n.1, fun vs e => Data.noConfusion (n.2.symm.trans e)⟩, ih fun x hx => h x (.tail _ hx)⟩
  exact this fs fun _ h => h
theorem framesIn (R : Rep c g held fs σ s) : ∀ b ∈ (fs.filterMap (·.env)).filterMap (·.frame), ∃ f ∈ fs, f.L = b := fun b hb =>
  (List.mem_filterMap.mp hb).elim fun env he => (List.mem_filterMap.mp he.1).elim fun f hf => ⟨f, hf.1, Option.some.inj (((R.frs f hf.1).2.2 env hf.2).1.symm.trans he.2)⟩

/-- a traceback is changed -/
theorem Rep.tbSet (R : Rep c g held fs σ s) {T : Addr} {o : Obj} {ts : Array Value} (hT : s.heap.get? T = some o) (hc : o.cls = .type "traceback") (hd : o.data = .fields ts) (h3 : 3 < ts.size) (hB : c.B.get? T = none) {v : Value} {k : Nat} :
    Rep c g held fs σ { s with heap := s.heap.update T (Obj.mapFields (·.setIfInBounds 3 v)), toks := k } ∧ Le g σ.n s.heap g σ.n (s.heap.update T (Obj.mapFields (·.setIfInBounds 3 v))) ∧ TbAt (s.heap.update T (Obj.mapFields (·.setIfInBounds 3 v))) T :=
  have hd' := Obj.data_mapFields hd (·.setIfInBounds 3 v)
  have hT' := Heap.get?_update_self (Obj.mapFields (·.setIfInBounds 3 v)) hT (Obj.isFreed_of_fields hd')
  have tb : TbAt (s.heap.update T (Obj.mapFields (·.setIfInBounds 3 v))) T := ⟨_, _, hT', (Obj.cls_mapFields ..).trans hc, hd', by rw [Array.size_setIfInBounds]; exact h3⟩
  have nns : ∀ {a m}, s.heap.Ns a m → a ≠ T := fun n e => n.elim fun ob z => z.elim fun _ z => z.elim fun _ z => Data.noConfusion (hd.symm.trans (Option.some.inj (hT.symm.trans (e ▸ z.1)) ▸ z.2.1))
  have z := R.step (s' := { s with heap := s.heap.update T (Obj.mapFields (·.setIfInBounds 3 v)), toks := k }) (W := (· = T)) (Ext.update _ _ _) rfl rfl (fun b e => by rw [e]; exact hB) (not_tup hT (by rw [hc]; exact fun q => absurd (Value.type.inj q) (by decide)))
    (fun T' t => (Classical.em (T' = T)).elim (fun e => e ▸ tb) fun e => t.at fun o' e' => (Heap.get?_update_other _ _ (Ne.symm e)).trans e') (fun _ _ => rfl) (fun _ _ => rfl) (fun _ _ _ => rfl) (Nat.le_refl _)
    (fun b e _ => by rw [show b = T from e]; exact ⟨_, hT'⟩) (fun _ h => .inl h) (fun f hf => .inl ⟨f, hf, rfl, nns (R.frs f hf).1⟩) R.nd
    (fun p hp => .inl ⟨hp, fun e => (heldKind_cls (R.held p hp).2.1).2.2.2.1 (Option.some.inj (hT.symm.trans ((show p.1 = T from e) ▸ (R.held p hp).1)) ▸ hc)⟩)
    fun i ob e => have z := (R.objs i ob e).2; .inl ⟨e, fun e' => z.cls.elim fun o' q => cls_not (n := "") (t := "traceback") q.2 (by decide) (by decide) (Option.some.inj (hT.symm.trans ((show g.loc i = T from e') ▸ q.1)) ▸ hc), fun hdd => (z.dnode hdd).2.elim fun m n => nns n⟩
  ⟨z.1, z.2, tb⟩

theorem put_self {i : Nat} {o : AObj} (hi : σ.at_ i = some o) : σ.put i o = σ :=
  congrArg (St.mk σ.n) (funext fun j => (Classical.em (j = i)).elim (fun e => (if_pos e).trans (e ▸ hi.symm)) fun e => if_neg e)
theorem Obj.dict_mapFields' {o : Obj} {vs : Array Value} (h : o.data = .fields vs) (f) : (o.mapFields f).dict = o.dict := by
  cases o with | mk c d dt sl =>
  cases h; rfl
/-- an exception gets its traceback -/
theorem Rep.excTb (R : Rep c g held fs σ s) {i : Nat} (hi : IsExc c σ i) {o : Obj} {vs : Array Value} (ho : s.heap.get? (g.loc i) = some o) (hd : o.data = .fields vs) {T : Addr} (hT : TbAt s.heap T) (hB : c.B.get? T = none) {k : Nat} :
    Rep c g held fs σ { s with heap := s.heap.update (g.loc i) (Obj.mapFields (·.setIfInBounds 1 (.ref T))), toks := k } ∧ Le g σ.n s.heap g σ.n (s.heap.update (g.loc i) (Obj.mapFields (·.setIfInBounds 1 (.ref T)))) ∧
      HasTb c (s.heap.update (g.loc i) (Obj.mapFields (·.setIfInBounds 1 (.ref T)))) (g.loc i) := by
  refine hi.elim fun ffs hi => hi.elim fun ch hi => ?_
  have y := (R.objs i _ hi).2
  refine y.body.casesOn fun a2 o' m vs' b1 b2 b3 b4 b5 b6 b7 b8 b9 => ?_
  obtain rfl := Option.some.inj (ho.symm.trans b1)
  obtain rfl := Data.fields.inj (hd.symm.trans b4)
  have hd' := Obj.data_mapFields hd (·.setIfInBounds 1 (.ref T))
  have ho' := Heap.get?_update_self (Obj.mapFields (·.setIfInBounds 1 (.ref T))) ho (Obj.isFreed_of_fields hd')
  have hs : Heap.SameBut (g.loc i) s.heap (s.heap.update (g.loc i) (Obj.mapFields (·.setIfInBounds 1 (.ref T)))) := Heap.SameBut.update ..
  have nt : ∀ {t : String}, o.cls ≠ .type t := fun q => Value.noConfusion (b2.symm.trans q)
  have tb := keep_tb ho nt (Ext.of_sameBut hs)
  have sz : (vs.setIfInBounds 1 (.ref T)).size = vs.size := Array.size_setIfInBounds
  have h1 : (vs.setIfInBounds 1 (.ref T))[1]? = some (.ref T) := Array.getElem?_setIfInBounds_self_of_lt (Nat.lt_trans (by decide) b5)
  have z := R.put (s' := { s with heap := s.heap.update (g.loc i) (Obj.mapFields (·.setIfInBounds 1 (.ref T))), toks := k }) hi (Ext.of_sameBut hs) rfl rfl (o' := .exc c.excC ffs ch) rfl
    ⟨y.main, a2, _, m, _, ho', (Obj.cls_mapFields ..).trans b2, (Obj.dict_mapFields' hd _).trans b3, hd', sz ▸ b5, .inr ⟨T, h1, tb T hT, hB⟩, fun e => (Array.getElem?_setIfInBounds_ne (by decide)).trans (b7 e),
      b8.ext (Ext.of_sameBut hs) (fun e => Role.noConfusion (a2.symm.trans ((congrArg g.role e).trans y.main))), b9.move ((Ext.of_sameBut hs).tups (not_tup ho nt)) (fun _ _ => rfl) (Nat.le_refl _)⟩
  rw [put_self hi] at z
  exact ⟨z.1, z.2, _, _, T, ho', hd', h1, tb T hT, hB⟩

theorem note_ok {env : Env} (R : Rep c g held (f :: fr) σ s) {i : Nat} (hi : IsExc c σ i) (hA : A.frames = some ((f :: fr).filterMap (·.env))) (hfe : f.env = some env)
    {Q : Unit → Shared → Prop} (hQ : ∀ s', Rep c g held (f :: fr) σ s' → Le g σ.n s.heap g σ.n s'.heap → HasTb c s'.heap (g.loc i) → Q () s') :
    wpAny M A (noteFrame (.ref (g.loc i)) env) Q E s := by
  have hL : env.frame = some f.L := ((R.frs f (.head _)).2.2 env hfe).1
  have hAf : A.frames = some (env :: fr.filterMap (·.env)) := by rw [hA, List.filterMap_cons, hfe]
  -- a new entry
  have new : ∀ (s₁ : Shared) (head : Value) (b : Bool), Rep c g held (f :: fr) σ s₁ → Le g σ.n s.heap g σ.n s₁.heap →
      wpAny M A (frameOf env >>= fun a => entryPlaceOf f.L b >>= fun pl => EntryCells.newEntry head a .none (rawInt f.L) .none pl >>= fun t => setField (.ref (g.loc i)) 1 t) Q E s₁ := by
    intro s₁ head b R₁ L₁
    have hff := funFrames R₁
    have hin := framesIn R₁
    rw [List.filterMap_cons, hfe] at hff hin
    refine wpAny_bind (wpAny_frameOf_fun hAf hff hL fun h₂ hs₂ => ?_)
    have z₂ := R₁.slots (k := s₁.toks) hin hs₂
    refine wpAny_bind (wpAny_entryPlaceOf fun pl hpl => ?_)
    unfold EntryCells.newEntry newFields
    refine wpAny_bind (wpAny_newObj_type ?_ (hpl.sizeOk5 _ _ _ _ _))
    have z₃ := z₂.1.push { cls := .type "traceback", dict := none, data := .fields ([head, .ref f.L, .none, rawInt f.L, .none] ++ (if pl.isEmpty then List.replicate 6 Value.none else pl)).toArray }
    refine (z₃.1.excAt hi).casesOn fun _ _ _ o' vs' ho' _ hd' hz' _ => wpAny_setField ho' hd' (Nat.lt_trans (by decide) hz') ?_
    have z₄ := z₃.1.excTb (k := s₁.toks) hi ho' hd' (T := h₂.objs.size) ⟨_, _, Heap.get?_push_size _ rfl, rfl, rfl, by rw [List.size_toArray]; exact Nat.lt_of_lt_of_le (by decide) (Nat.le_add_left 5 _)⟩ (z₂.1.fresh (Heap.get?_none_of_le (Nat.le_refl _)))
    exact hQ _ z₄.1 (L₁.trans (z₂.2.trans (z₃.2.trans z₄.2.1))) z₄.2.2
  refine (R.excAt hi).casesOn fun ffs ch hi' o vs ho hcl hd hz ht => ?_
  unfold noteFrame
  rw [hL]
  refine ht.elim (fun ht => wpAny_bind (wpAny_field ho hd ht ?_)) fun z => z.elim fun T z => wpAny_bind (wpAny_field ho hd z.1 ?_)
  · rw [if_neg (by decide)]
    exact new s .none _ R (Le.refl ..)
  · rw [if_pos (show (Value.ref T != Value.none) = true from rfl)]
    refine z.2.1.casesOn fun oT ts t1 t2 t3 t4 => wpAny_bind (wpAny_field t1 t3 (Array.getElem?_eq_getElem t4) ?_)
    by_cases hx : (ts[3] == rawInt f.L) = true
    · rw [if_pos hx]
      exact wpAny_pure (hQ s R (Le.refl ..) ⟨o, vs, T, ho, hd, z.1, z.2.1, z.2.2⟩)
    · rw [if_neg hx]
      have w := R.tbSet (v := .none) (k := s.toks) t1 t2 t3 t4 z.2.2
      exact wpAny_bind (wpAny_setField t1 t3 t4 (new _ (.ref T) _ w.1 w.2.1))

theorem flight_ok (R : Rep c g held fs σ s) {i : Nat} (hi : IsExc c σ i) {fl : Option Addr} {Q : Unit → Shared → Prop} (hQ : ∀ s', Rep c g held fs σ s' → Le g σ.n s.heap g σ.n s'.heap → (HasTb c s.heap (g.loc i) → HasTb c s'.heap (g.loc i)) → Q () s') :
    wpAny M A (setFlight (.ref (g.loc i)) fl) Q E s := by
  refine (R.excAt hi).casesOn fun ffs ch hi' o vs ho hcl hd hz ht => ?_
  unfold setFlight
  refine ht.elim (fun ht => wpAny_bind (wpAny_field ho hd ht ?_)) fun z => z.elim fun T z => wpAny_bind (wpAny_field ho hd z.1 ?_)
  · rw [if_neg (by decide)]
    exact wpAny_pure (hQ s R (Le.refl ..) id)
  · rw [if_pos (show (Value.ref T != Value.none) = true from rfl)]
    refine z.2.1.casesOn fun oT ts t1 t2 t3 t4 => wpAny_setField t1 t3 t4 ?_
    have w := R.tbSet (v := fl.elim .none fun f => rawInt f) (k := s.toks) t1 t2 t3 t4 z.2.2
    exact hQ _ w.1 w.2.1 fun _ => ⟨o, vs, T, (Heap.get?_update_other _ _ fun e : T = g.loc i => Value.noConfusion (t2.symm.trans (Option.some.inj (ho.symm.trans (e ▸ t1)) ▸ hcl))).trans ho, hd, z.1, w.2.2, z.2.2⟩
end
end Mine
end

section
open PySem PySem.W PyProof.Rows PySem.Calls Builtin Builtin.ObjectAttr
set_option Elab.async false
set_option linter.unusedVariables false
set_option maxRecDepth 100000
namespace Mine

section
variable {c : Cx} {g : Gh} {held : List (Addr × Obj)} {fs : List FrG} {σ : St} {s : Shared} {prog : Program} {w : World} {A : Around} {E : Value → Shared → Prop} {I : Addr} {o : Obj}

/-- the end of a tuple, while an exception is handled -/
theorem tuple_end_h {it l e : Addr} {i : Nat} {items : Array Value} {oe : Obj} {vs : Array Value} {Q : Option Value → Shared → Prop} (hh : A.handled = some (.ref e)) (hei : e ≠ it) (he : s.heap.get? e = some oe) (hd' : oe.data = .fields vs) (h2 : vs[2]? = some .none)
    (hit : s.heap.IsTupleIter it l i) (hl : s.heap.IsTuple l items) (hx : items[i]? = none)
    (hQ : ∀ h', Heap.ExtBut it s.heap h' → Q none { s with heap := h' }) : wpAny (model prog w) A (pyNext (.ref it)) Q E s := by
  obtain ⟨o, ho, hc, hd⟩ := id hit
  obtain ⟨ol, hol, _, nl, hdl⟩ := hl
  unfold pyNext
  refine wpAny_bind (wpAny_attempt (wpAny_callSpecial?_slot (name := Str.ofString "__next__") hit.typeIs F.slot_tuple_iterator_next
    (wpAny_call_entry F.slot_tuple_iterator_next hit.typeIs F.entry_tuple_iterator_next ?_ (F.args_tuple_iterator_next_1 _))))
  show wpAny _ _ (field (.ref it) 0 >>= _) _ _ s
  refine wpAny_bind (wpAny_field ho hd (x := .ref l) rfl ?_)
  show wpAny _ _ (if (Value.ref l == Value.none) = true then _ else _) _ _ s
  rw [if_neg (show ¬ ((Value.ref l == Value.none) = true) from Bool.false_ne_true)]
  show wpAny _ _ (field (.ref it) 1 >>= _) _ _ s
  refine wpAny_bind (wpAny_field ho hd (x := .int i 0) rfl ?_)
  show wpAny _ _ (seqItems? (.ref l) >>= _) _ _ s
  refine wpAny_bind (wpAny_seqItems hol hdl ?_)
  simp only [Int.toNat_natCast, hx]
  refine wpAny_bind (wpAny_rule (wpAny_bind (wpAny_setField ho hd (by simp) ?_)))
  show wpAny _ _ (newExc (.type "StopIteration") [] >>= _) _ _ _
  refine wpAny_bind ?_
  simp only [newExc, newTuple]
  refine wpAny_bind (wpAny_newObj_type ?_ (by size_fits))
  refine wpAny_bind (m := firstArgMember _ _) (wpAny_of_eq (a := Value.none) (by first | rfl | (simp only [firstArgMember]; rfl)) ?_)
  refine wpAny_newObj_type ?_ (by size_fits)
  have hsz := Heap.lt_size he
  have he1 : (s.heap.update it (Obj.mapFields (·.setIfInBounds 0 .none))).get? e = some oe := by rw [Heap.get?_update_other _ _ (Ne.symm hei)]; exact he
  refine raise_h (by show A.in1.handled = _; exact hh) ?_ (Heap.get?_push_of_some _ (Heap.get?_push_of_some _ he1)) hd' h2 (Heap.get?_push_size _ rfl) rfl (by simp; omega) ?_
  · intro q
    rw [Heap.size_push, Heap.size_after_update] at q
    rw [q] at hsz; exact absurd hsz (by simp)
  refine wpAny_bind (wpAny_isInstance (T := "StopIteration") (b := true) ⟨_, Heap.get?_update_self _ (Heap.get?_push_size _ rfl) rfl, rfl⟩ isSubtype_stop ?_)
  refine wpAny_pure (hQ _ fun b ob hb hob => ?_)
  have hne := Heap.lt_size hob
  rw [Heap.get?_update_other]
  · exact (((Heap.SameBut.update ..).extBut.push _).push _) b ob hb hob
  · intro q
    rw [Heap.size_push, Heap.size_after_update] at q
    rw [← q] at hne; exact absurd hne (by simp)

theorem next_end_tup {a : Addr} {xs : List Value} {items : List PV} {hd : Option Nat} (R : Rep c g ((I, o) :: held) fs σ s) (hnd : ∀ p ∈ held, p.1 ≠ I) (hB : c.B.get? I = none) (ho : (Src.tup a xs).obj g items.length items.length o) (hs : (Src.tup a xs).has σ s.heap g.loc items)
    (hh : HdOk g σ.n A hd) (hu : HdU σ hd)
    {Q : Option Value → Shared → Prop} (hQ : ∀ s', Rep c g held fs σ s' → Le g σ.n s.heap g σ.n s'.heap → Q none s') :
    wpAny (model prog w) A (pyNext (.ref I)) Q E s := by
  cases hd with
  | none => exact next_end R hnd hB ho hs hh hQ
  | some j =>
    have hI := R.held (I, o) (.head _)
    exact hu.elim fun C hu => hu.elim fun ffs hj => have y := (R.objs j _ hj).2; y.body.casesOn fun _ oe m vs b1 b2 b3 b4 b5 b6 b7 b8 b9 =>
      tuple_end_h hh.1 (fun q => Role.noConfusion (y.main.symm.trans ((congrArg g.role q).trans hI.2.2))) b1 b4 (b7 rfl) (i := items.length) ⟨o, hI.1, ho⟩ (items := xs.toArray) (hs.1.isTup.imp fun _ x => x) ((List.getElem?_toArray ..).trans (List.getElem?_eq_none (Nat.le_of_eq hs.2.length))) fun h' e =>
        have z := R.letHeld (s' := { s with heap := h' }) (Ext.of_extBut e) hnd hB (Src.kind (g := g) (src := .tup a xs) (len := items.length) (k := items.length) ho).2 rfl rfl
        hQ _ z.1 z.2

/-- items are drawn -/
theorem draw_ok {src : Src} {items : List PV} (hnd : ∀ p ∈ held, p.1 ≠ I) (hB : c.B.get? I = none) (n : Nat) : ∀ (k : Nat) (s : Shared) (o : Obj) (Q : List Value → Shared → Prop), Rep c g ((I, o) :: held) fs σ s → src.obj g items.length k o → (∀ h', Le g σ.n s.heap g σ.n h' → src.has σ h' g.loc items) → k + n ≤ items.length →
    (∀ vs o' s', Rep c g ((I, o') :: held) fs σ s' → Le g σ.n s.heap g σ.n s'.heap → VReps s'.heap g.loc σ.n ((items.drop k).take n) vs → src.obj g items.length (k + n) o' → vs.length = n → Q vs s') → wpAny (model prog w) A (draw (.ref I) n) Q E s := by
  induction n with
  | zero => exact fun k s o Q R ho hs hk hQ => wpAny_pure (hQ [] o s R (Le.refl ..) .nil ho rfl)
  | succ n ih =>
    intro k s o Q R ho hs hk hQ
    have e : k + (n + 1) = k + 1 + n := (Nat.add_assoc ..).trans (by rw [Nat.add_comm 1 n]) |>.symm
    rw [e] at hk hQ
    have hlt : k < items.length := Nat.lt_of_lt_of_le (Nat.lt_of_lt_of_le (Nat.lt_succ_self k) (Nat.le_add_right ..)) hk
    rw [List.drop_eq_getElem_cons hlt, List.take_succ_cons] at hQ
    exact wpAny_bind (next_item R hnd hB ho (hs _ (Le.refl ..)) (List.getElem?_eq_getElem hlt) fun v o' s₁ R₁ L₁ r₁ ho₁ =>
      wpAny_bind (wpAny_holding (ih (k + 1) s₁ o' _ R₁ ho₁ (fun h' L => hs h' (L₁.trans L)) hk fun vs o'' s₂ R₂ L₂ r₂ ho₂ hl => wpAny_pure (hQ (v :: vs) o'' s₂ R₂ (L₁.trans L₂) (.cons (L₂.rep r₁) r₂) ho₂ (congrArg (· + 1) hl)))))

/-- a tuple is unpacked -/
theorem unpackItems_ok {ps : List PV} {u : Value} {hd : Option Nat} (R : Rep c g held fs σ s) (hp : VRep s.heap g.loc σ.n (.tup ps) u) (hh : HdOk g σ.n A hd) (hu : HdU σ hd) {Q : List Value → Shared → Prop}
    (hQ : ∀ vs s', Rep c g held fs σ s' → Le g σ.n s.heap g σ.n s'.heap → VReps s'.heap g.loc σ.n ps vs → Q vs s') :
    wpAny (model prog w) A (unpackItems u ps.length none) Q E s := by
  refine VRep.tupE (C := fun u => wpAny (model prog w) A (unpackItems u ps.length none) Q E s) hp fun a xs ha r => ?_
  unfold unpackItems
  refine wpAny_bind ?_
  unfold notIterableAtAll
  refine wpAny_bind (wpAny_specialOf ha.isTup.typeIs F.slot_tuple_iter.lookup (wpAny_pure ?_))
  rw [if_neg (by decide)]
  refine wpAny_bind (wpAny_holding (wpAny_pyIter_tuple (items := xs.toArray) (ha.isTup.imp fun _ x => x) ?_))
  refine (iter_new (o := { cls := .type "tuple_iterator", data := .fields #[.ref a, .int 0 0] }) (k := s.toks) R (src := .tup a xs) (items := ps) ⟨rfl, rfl⟩ ⟨ha, r⟩).casesOn fun R' L' h' hn hb => ?_
  refine wpAny_bind (wpAny_holding (draw_ok (src := .tup a xs) (items := ps) hn hb ps.length 0 _ _ _ R' ⟨rfl, rfl⟩ (fun h'' L'' => Src.has_le (g' := g) (σ' := σ) h' L'' fun _ _ => rfl) (Nat.le_of_eq (Nat.zero_add _)) fun vs o' s₁ R₁ L₁ r₁ ho₁ hl => ?_))
  rw [if_neg (by rw [hl]; exact Nat.lt_irrefl _)]
  rw [Nat.zero_add] at ho₁
  rw [List.drop_zero, List.take_length] at r₁
  refine wpAny_bind (wpAny_holding (next_end_tup R₁ hn hb ho₁ (Src.has_le (g' := g) (σ' := σ) h' L₁ fun _ _ => rfl) hh hu fun s₂ R₂ L₂ => ?_))
  rw [if_neg (by decide)]
  exact wpAny_pure (hQ vs s₂ R₂ (L'.trans (L₁.trans L₂)) (L₂.reps r₁))

/-- the tree's own tuple goes -/
theorem letgo_ok {src : Src} {len k : Nat} (R : Rep c g ((I, o) :: held) fs σ s) (ho : src.obj g len k o) {target : Expr} {v : Value} {Q : Unit → Shared → Prop} (hQ : Q () s) {M : Model} : wpAny M A (letOwnedTupleGo target (.ref I) v) Q E s := by
  have hI := (R.held (I, o) (.head _)).1
  have key : ∀ a, wpAny M A (do
      let o ← load I
      match o.cls, o.data with
      | .type n, .fields vs =>
        if ["enumerate", "zip", "dict_itemiterator", "dict_reverseitemiterator", "odict_iterator", "itertools.zip_longest", "itertools.pairwise"].contains n && vs[0]? == some (rawInt a) then
          rule "for.unpacks-the-owned-tuple"
          updateField I 0 .none
      | _, _ => pure ()) Q E s := by
    intro a
    refine wpAny_bind (wpAny_load hI ?_)
    have go : ∀ (T : String) (vs : Array Value), o.cls = .type T → o.data = .fields vs → ["enumerate", "zip", "dict_itemiterator", "dict_reverseitemiterator", "odict_iterator", "itertools.zip_longest", "itertools.pairwise"].contains T = false →
        wpAny M A (match o.cls, o.data with
      | .type n, .fields vs =>
        if ["enumerate", "zip", "dict_itemiterator", "dict_reverseitemiterator", "odict_iterator", "itertools.zip_longest", "itertools.pairwise"].contains n && vs[0]? == some (rawInt a) then do
          rule "for.unpacks-the-owned-tuple"
          updateField I 0 .none
        else pure ()
      | _, _ => pure ()) Q E s := by
      intro T vs e1 e2 e3
      rw [e1, e2]
      dsimp only
      rw [e3, Bool.false_and, if_neg (by decide)]
      exact wpAny_pure hQ
    cases src with
    | list i => exact go _ _ ho.1 ho.2 (by decide)
    | tup t xs => exact go _ _ ho.1 ho.2 (by decide)
    | str b x t => cases b <;> exact go _ _ ho.1 ho.2 (by decide)
    | range n => exact go "range_iterator" _ (by rw [ho.2.2]) (by rw [ho.2.2]) (by decide)
    | rev i => exact go _ _ ho.2.1 ho.2.2 (by decide)
  have two : wpAny M A (letOwnedTupleGo (.Tuple [] 0 default) (.ref I) v) Q E s := by
    cases v with
    | ref a => exact key a
    | _ => exact wpAny_pure hQ
  cases target with
  | Tuple => exact two
  | List => exact two
  | _ => exact wpAny_pure hQ
end
end Mine
end

section
open PySem PySem.W PyProof.Rows PySem.Calls Builtin Builtin.ObjectAttr
set_option Elab.async false
set_option linter.unusedVariables false
set_option maxRecDepth 100000
namespace Mine

noncomputable def FlR (h : Heap) (loc : Nat → Addr) (n : Nat) : Fl → Flow → Prop
  | .next, .next => True
  | .brk, .brk => True
  | .cont, .cont => True
  | .ret p, .ret v => VRep h loc n p v
  | _, _ => False

theorem FlR.le {g g' : Gh} {n n' : Nat} {h h' : Heap} (L : Le g n h g' n' h') {fl : Fl} {f : Flow} (x : FlR h g.loc n fl f) : FlR h' g'.loc n' fl f := by
  cases fl <;> cases f <;> first | exact x | exact L.rep x

section
variable (c : Sx) (F : Addr) (env : Env) (fr : List FrG) (held : List (Addr × Obj))

noncomputable abbrev frm (F : Addr) (env : Env) (m : Str → Option Value) : FrG := ⟨F, m, some env⟩

inductive FV (g₀ : Gh) (n₀ : Nat) (h₀ : Heap) (Q : Fl → Loc → St → Prop) (f : Flow) (s' : Shared) : Prop where
  | mk (g : Gh) (σ : St) (ρ : Loc) (m : Str → Option Value) (fl : Fl) (R : Rep c.toCx g held (frm F env m :: fr) σ s') (L : Le g₀ n₀ h₀ g σ.n s'.heap) (l : LRep c.toCx s'.heap g.loc σ.n ρ m) (r : FlR s'.heap g.loc σ.n fl f) (q : Q fl ρ σ)
inductive GV (g₀ : Gh) (n₀ : Nat) (h₀ : Heap) (X : Nat → Loc → St → Prop) (e : Value) (s' : Shared) : Prop where
  | mk (g : Gh) (σ : St) (ρ : Loc) (m : Str → Option Value) (i : Nat) (R : Rep c.toCx g held (frm F env m :: fr) σ s') (L : Le g₀ n₀ h₀ g σ.n s'.heap) (l : LRep c.toCx s'.heap g.loc σ.n ρ m) (r : e = .ref (g.loc i)) (x : IsExc c.toCx σ i) (q : X i ρ σ)
inductive UV (g₀ : Gh) (n₀ : Nat) (h₀ : Heap) (Q : Loc → St → Prop) (u : Unit) (s' : Shared) : Prop where
  | mk (g : Gh) (σ : St) (ρ : Loc) (m : Str → Option Value) (R : Rep c.toCx g held (frm F env m :: fr) σ s') (L : Le g₀ n₀ h₀ g σ.n s'.heap) (l : LRep c.toCx s'.heap g.loc σ.n ρ m) (q : Q ρ σ)

noncomputable abbrev WS := Loc → St → (Fl → Loc → St → Prop) → (Nat → Loc → St → Prop) → Prop
noncomputable abbrev WT := Loc → St → PV → (Loc → St → Prop) → (Nat → Loc → St → Prop) → Prop

noncomputable def SOk (lv : Nat) (hd : Option Nat) (W : WS) (t : Sem Flow) : Prop :=
  ∀ (A : Around) (g : Gh) (σ : St) (s : Shared) (ρ : Loc) (m : Str → Option Value) (Q : Fl → Loc → St → Prop) (X : Nat → Loc → St → Prop), Pre c lv hd (frm F env m) fr held ρ A g σ s → W ρ σ Q X →
    wpAny (model c.prog c.w) A t (FV c F env fr held g σ.n s.heap Q) (GV c F env fr held g σ.n s.heap X) s
noncomputable def AOk (lv : Nat) (hd : Option Nat) (W : WT) (tgt : Expr) : Prop :=
  ∀ (A : Around) (g : Gh) (σ : St) (s : Shared) (ρ : Loc) (m : Str → Option Value) (p : PV) (v : Value) (Q : Loc → St → Prop) (X : Nat → Loc → St → Prop), Pre c lv hd (frm F env m) fr held ρ A g σ s → VRep s.heap g.loc σ.n p v → W ρ σ p Q X →
    wpAny (model c.prog c.w) A (assign tgt env v) (UV c F env fr held g σ.n s.heap Q) (GV c F env fr held g σ.n s.heap X) s
end

section
variable {c : Sx} {F : Addr} {env : Env} {fr : List FrG} {held : List (Addr × Obj)} {lv : Nat} {hd : Option Nat} {A : Around} {g g' : Gh} {σ σ' : St} {s s' : Shared} {ρ : Loc} {m : Str → Option Value} {sc : Scope}
variable {g₀ : Gh} {n₀ : Nat} {h₀ : Heap}

theorem GV.lift {X : Nat → Loc → St → Prop} (L : Le g₀ n₀ h₀ g σ.n s.heap) {e : Value} (z : GV c F env fr held g σ.n s.heap X e s') : GV c F env fr held g₀ n₀ h₀ X e s' := z.casesOn fun a b d e' i h1 h2 h3 h4 h5 h6 => ⟨a, b, d, e', i, h1, L.trans h2, h3, h4, h5, h6⟩
theorem liftX' {β : Type} {t : Sem β} {Post : β → Shared → Prop} {X : Nat → Loc → St → Prop} (L : Le g₀ n₀ h₀ g σ.n s.heap)
    (h : wpAny (model c.prog c.w) A t Post (GV c F env fr held g σ.n s.heap X) s) : wpAny (model c.prog c.w) A t Post (GV c F env fr held g₀ n₀ h₀ X) s :=
  wpAny_mono h (fun v s x => x) fun e s' z => z.lift L
theorem liftS {t : Sem Flow} {Q : Fl → Loc → St → Prop} {X : Nat → Loc → St → Prop} (L : Le g₀ n₀ h₀ g σ.n s.heap) (h : wpAny (model c.prog c.w) A t (FV c F env fr held g σ.n s.heap Q) (GV c F env fr held g σ.n s.heap X) s) :
    wpAny (model c.prog c.w) A t (FV c F env fr held g₀ n₀ h₀ Q) (GV c F env fr held g₀ n₀ h₀ X) s :=
  wpAny_mono h (fun f s' z => z.casesOn fun a b d e f' h1 h2 h3 h4 h5 => ⟨a, b, d, e, f', h1, L.trans h2, h3, h4, h5⟩) fun e s' z => z.lift L
theorem liftU {t : Sem Unit} {Q : Loc → St → Prop} {X : Nat → Loc → St → Prop} (L : Le g₀ n₀ h₀ g σ.n s.heap) (h : wpAny (model c.prog c.w) A t (UV c F env fr held g σ.n s.heap Q) (GV c F env fr held g σ.n s.heap X) s) :
    wpAny (model c.prog c.w) A t (UV c F env fr held g₀ n₀ h₀ Q) (GV c F env fr held g₀ n₀ h₀ X) s :=
  wpAny_mono h (fun f s' z => z.casesOn fun a b d e h1 h2 h3 h4 => ⟨a, b, d, e, h1, L.trans h2, h3, h4⟩) fun e s' z => z.lift L

theorem xv_gv (P : Pre c lv hd (frm F env m) fr held ρ A g σ s) {X : Nat → Loc → St → Prop} {e : Value} {s' : Shared} (x : XV c.toCx held (frm F env m :: fr) g σ.n s.heap (fun i σ => X i ρ σ) e s') : GV c F env fr held g σ.n s.heap X e s' :=
  x.casesOn fun g₁ σ₁ i R₁ L₁ e₁ i₁ x₁ => ⟨g₁, σ₁, ρ, m, i, R₁, L₁, P.L.le L₁, e₁, i₁, x₁⟩

/-- a value is computed -/
theorem sbindE {β : Type} {t : Sem Value} {k : Value → Sem β} {W : WE} {Q : PV → St → Prop} {X : Nat → Loc → St → Prop} {Post : β → Shared → Prop} (M : EOk c lv hd (frm F env m) fr held ρ W t)
    (P : Pre c lv hd (frm F env m) fr held ρ A g σ s) (h : W σ Q (fun i σ => X i ρ σ))
    (hk : ∀ g₁ σ₁ s₁ p v, Pre c lv hd (frm F env m) fr held ρ A g₁ σ₁ s₁ → Le g σ.n s.heap g₁ σ₁.n s₁.heap → VRep s₁.heap g₁.loc σ₁.n p v → Q p σ₁ → wpAny (model c.prog c.w) A (k v) Post (GV c F env fr held g σ.n s.heap X) s₁) :
    wpAny (model c.prog c.w) A (t >>= k) Post (GV c F env fr held g σ.n s.heap X) s :=
  wpAny_bind (wpAny_mono (M A g σ s Q _ P h) (fun v s₁ z => z.casesOn fun g₁ σ₁ p R₁ L₁ r q => hk g₁ σ₁ s₁ p v (P.next R₁ L₁) L₁ r q) fun e s₁ x => xv_gv P x)
theorem sbindT {β : Type} {t : Sem Bool} {k : Bool → Sem β} {W : WB} {Q : Bool → St → Prop} {X : Nat → Loc → St → Prop} {Post : β → Shared → Prop} (M : TOk c lv hd (frm F env m) fr held ρ W t)
    (P : Pre c lv hd (frm F env m) fr held ρ A g σ s) (h : W σ Q (fun i σ => X i ρ σ))
    (hk : ∀ g₁ σ₁ s₁ b, Pre c lv hd (frm F env m) fr held ρ A g₁ σ₁ s₁ → Le g σ.n s.heap g₁ σ₁.n s₁.heap → Q b σ₁ → wpAny (model c.prog c.w) A (k b) Post (GV c F env fr held g σ.n s.heap X) s₁) :
    wpAny (model c.prog c.w) A (t >>= k) Post (GV c F env fr held g σ.n s.heap X) s :=
  wpAny_bind (wpAny_mono (M A g σ s Q _ P h) (fun v s₁ z => z.casesOn fun g₁ σ₁ R₁ L₁ q => hk g₁ σ₁ s₁ v (P.next R₁ L₁) L₁ q) fun e s₁ x => xv_gv P x)
theorem loc_is {k : CC} {x : Str} {i : Nat} (h : k.loc sc x = some i) : sc.names.lookup x = some .local ∧ k.idx x = some i := by
  unfold CC.loc at h
  by_cases e : sc.names.lookup x = some .local
  · exact ⟨e, (if_pos e).symm.trans h⟩
  · exact absurd (h.symm.trans (if_neg e)) (Option.some_ne_none _)
theorem lrep_upd {x : Str} {k : Nat} (hxk : c.nm k = x) {h : Heap} {loc : Nat → Addr} {n : Nat} {p : PV} {v : Value} (l : LRep c.toCx h loc n ρ m) (hv : VRep h loc n p v) : LRep c.toCx h loc n (upd ρ k p) (fun z => if z = x then some v else m z) := fun j q hj => by
  by_cases e : j = k
  · exact ⟨v, if_pos (by rw [e]; exact hxk), Option.some.inj ((if_pos e).symm.trans hj) ▸ hv⟩
  · exact (l j q ((if_neg e).symm.trans hj)).imp fun w z => ⟨(if_neg fun q => e (c.inj _ _ (q.trans hxk.symm))).trans z.1, z.2⟩
/-- a name is stored -/
theorem store_ok (V : ∀ m, EnvOk sc env (frm F env m)) (P : Pre c lv hd (frm F env m) fr held ρ A g σ s) {x : Str} {k : Nat} (hx : c.cc.loc sc x = some k) {p : PV} {v : Value} (hv : VRep s.heap g.loc σ.n p v) {E : Value → Shared → Prop} {Q : Unit → Shared → Prop}
    (hQ : ∀ s', Pre c lv hd (frm F env fun z => if z = x then some v else m z) fr held (upd ρ k p) A g σ s' → Le g σ.n s.heap g σ.n s'.heap → Q () s') :
    wpAny (model c.prog c.w) A (storeName env x v) Q E s := by
  have hl := loc_is hx
  have hxk := c.hnm x k hl.2
  refine wpAny_storeName_local (m := m) (by rw [Env.kindOf, (V m).names]; exact hl.1) (by rw [(V m).loc]; exact (P.R.frs _ (.head _)).1) (fun h' hn hs => ?_) (by rw [(V m).kind]; rfl)
  rw [(V m).loc] at hn hs
  have z := P.R.setFr (s' := { s with heap := h', toks := s.toks + 1 }) (f := frm F env m) (Ext.of_sameBut hs) hn rfl rfl
  exact hQ _ ⟨P.room, P.frames, P.hd.next z.2, z.1, lrep_upd hxk (P.L.le z.2) (z.2.rep hv)⟩ z.2

theorem asgVar (V : ∀ m, EnvOk sc env (frm F env m)) {x : Str} {pos : Pos} {k : Nat} (hx : c.cc.loc sc x = some k) : AOk c F env fr held lv hd (fun ρ σ p Q X => Q (upd ρ k p) σ) (.Name x pos) :=
  fun A g σ s ρ m p v Q X P hv h => wpAny_assign_Name (store_ok V P hx hv fun s' P' L' => ⟨g, σ, _, _, P'.R, L', P'.L, h⟩)

theorem put_ok {p q : PV} {u v : Value} {x : Nat} {K : St → Prop} {fs : List FrG} (R : Rep c.toCx g held fs σ s) (hp : VRep s.heap g.loc σ.n p u) (hv : VRep s.heap g.loc σ.n q v) (w : wPutA c σ p x q K) {E : Value → Shared → Prop} :
    wpAny (model c.prog c.w) A (setAttr u (c.nm x) v) (fun _ s' => SV c.toCx held fs g σ.n s.heap K s') E s := by
  refine wRef_e (C := fun u => wpAny (model c.prog c.w) A (setAttr u (c.nm x) v) (fun _ s' => SV c.toCx held fs g σ.n s.heap K s') E s) hp w fun i _ w => ?_
  cases e : σ.at_ i with
  | none => rw [e] at w; exact w.elim
  | some o =>
    rw [e] at w
    cases o with
    | inst C fs => exact setattr_ok R hv (.inl ⟨e, rfl⟩) w.1 w.2
    | exc C fs ch => exact setattr_ok R hv (.inr ⟨ch, e, rfl⟩) w.1 w.2
    | bare C => exact setbare_ok R hv e w.1 w.2
    | _ => exact w.elim
theorem puti_ok {p q r : PV} {u v w : Value} {K : St → Prop} {fs : List FrG} (R : Rep c.toCx g held fs σ s) (hp : VRep s.heap g.loc σ.n p u) (hq : VRep s.heap g.loc σ.n q w) (hv : VRep s.heap g.loc σ.n r v) (hu : A.units + 64 < cLine) (h : wPutI σ p q r K) {E : Value → Shared → Prop} :
    wpAny (model c.prog c.w) A (setItem u w v) (fun _ s' => SV c.toCx held fs g σ.n s.heap K s') E s := by
  refine wRef_e (C := fun u => wpAny (model c.prog c.w) A (setItem u w v) (fun _ s' => SV c.toCx held fs g σ.n s.heap K s') E s) hp h fun i _ h => ?_
  cases e : σ.at_ i with
  | none => rw [e] at h; exact h.elim
  | some o =>
    rw [e] at h
    cases o with
    | dict kvs => exact h.2.elim fun k z => setitem_ok R e hq hv (Nat.lt_of_le_of_lt (Nat.add_le_add_left (by decide) _) hu) h.1 z.1 z.2.1 z.2.2
    | _ => exact h.elim
theorem sv_uv (P : Pre c lv hd (frm F env m) fr held ρ A g σ s) (L : Le g₀ n₀ h₀ g σ.n s.heap) {Q : Loc → St → Prop} (z : SV c.toCx held (frm F env m :: fr) g σ.n s.heap (fun σ => Q ρ σ) s') : UV c F env fr held g₀ n₀ h₀ Q () s' :=
  z.casesOn fun g₂ σ₂ R₂ L₂ q => ⟨g₂, σ₂, ρ, m, R₂, L.trans L₂, P.L.le L₂, q⟩

theorem asgAttr (V : ∀ m, EnvOk sc env (frm F env m)) {y : Str} {q pos : Pos} {x : Nat} {Wa : Loc → WE} (Ma : ∀ m ρ, EOk c lv hd (frm F env m) fr held ρ (Wa ρ) (eval (.Name y q) env)) :
    AOk c F env fr held lv hd (fun ρ σ v Q X => Wa ρ σ (fun p σ => wPutA c σ p x v fun σ => Q ρ σ) (fun i σ => X i ρ σ)) (.Attribute (.Name y q) (c.nm x) pos) := by
  intro A g σ s ρ m p v Q X P hv h
  show wpAny _ _ (holding [v] (eval (.Name y q) env) >>= fun ov => standAt pos.atName >>= fun _ => holding [v, ov] (setAttr ov (c.nm x) v) >>= fun _ => release [v, ov] []) _ _ _
  exact sbindE (Ma m ρ).holding P h fun g₁ σ₁ s₁ p₁ u P₁ L₁ r₁ q₁ => wpAny_bind (wpAny_standAt (wpAny_bind (wpAny_holding (wpAny_mono (put_ok P₁.R r₁ (L₁.rep hv) q₁) (fun _ s₂ z => wpAny_release (sv_uv P₁ L₁ z)) fun _ _ x => x))))

theorem asgSub (V : ∀ m, EnvOk sc env (frm F env m)) {a i : Expr} {pos : Pos} {Wa Wi : Loc → WE} (Ma : ∀ m ρ, EOk c lv hd (frm F env m) fr held ρ (Wa ρ) (eval a env)) (Mi : ∀ m ρ, EOk c lv hd (frm F env m) fr held ρ (Wi ρ) (eval i env)) :
    AOk c F env fr held lv hd (fun ρ σ v Q X => Wa ρ σ (fun p σ => Wi ρ σ (fun q σ => wPutI σ p q v fun σ => Q ρ σ) (fun i σ => X i ρ σ)) (fun i σ => X i ρ σ)) (.Subscript a i pos) := by
  intro A g σ s ρ m p v Q X P hv h
  rw [assign_Subscript]
  exact sbindE (Ma m ρ).holding P h fun g₁ σ₁ s₁ p₁ u P₁ L₁ r₁ q₁ => liftX' L₁ (sbindE (Mi m ρ).holding P₁ q₁ fun g₂ σ₂ s₂ p₂ w P₂ L₂ r₂ q₂ =>
    wpAny_bind (wpAny_standAt (wpAny_bind (wpAny_holding (wpAny_mono (puti_ok P₂.R (L₂.rep r₁) r₂ ((L₁.trans L₂).rep hv) P₂.units q₂) (fun _ s₃ z => wpAny_release (sv_uv P₂ (L₁.trans L₂) z)) fun _ _ x => x)))))
end
end Mine
end

section
open PySem PySem.W PyProof.Rows PySem.Calls Builtin Builtin.ObjectAttr
set_option Elab.async false
set_option linter.unusedVariables false
set_option maxRecDepth 100000
namespace Mine

theorem Rep.swap {c : Cx} {g : Gh} {held : List (Addr × Obj)} {a b : FrG} {fr : List FrG} {σ : St} {s : Shared} (R : Rep c g held (a :: b :: fr) σ s) : Rep c g held (b :: a :: fr) σ s :=
  ⟨R.stays, R.gens, R.os, fun f hf => R.frs f (((List.Perm.swap a b fr).mem_iff (a := f)).mp hf), (((List.Perm.swap a b fr).map fun x : FrG => x.L).nodup_iff).mpr R.nd, R.held, R.objs, R.rlt, R.rB⟩

section
variable {c : Sx} {F : Addr} {env : Env} {fr : List FrG} {held : List (Addr × Obj)} {lv : Nat} {hd : Option Nat} {A : Around} {g g' : Gh} {σ σ' : St} {s s' : Shared} {ρ : Loc} {m : Str → Option Value} {sc : Scope}

theorem asgComp_s (V : ∀ m, EnvOk sc env (frm F env m)) {x : Str} {px : Pos} {k : Nat} (hx : c.cc.loc sc x = some k) {elt it : Expr} {y : Str} {py pos spos : Pos} {i : Nat} {sc' : Scope}
    (hln : (px.line == pos.line) = true) (hnx : (sc'.names.any fun (n, k) => n == x && (k == .local || k == .cell)) = false)
    (hy : c.cc.idx y = some i) (hs : isSet it = false) (hl : sc'.names.lookup y = some .local) (hk : sc'.kind = .function)
    (ha : (sc'.names.all fun z => z.2 == .local && sc'.names.lookup z.1 == some .local || z.2 == .globalImplicit) = true) {Wi : Loc → WE} {We : Loc → WE} (Mi : ∀ m ρ, EOk c lv hd (frm F env m) fr held ρ (Wi ρ) (eval it env))
    (Me : ∀ m fc held' ρ' cenv, EnvOk sc' cenv fc → EOk c lv hd fc (frm F env m :: fr) held' ρ' (We ρ') (eval elt cenv)) :
    SOk c F env fr held lv hd (fun ρ σ Q X => Wi ρ σ (fun p σ => ∃ items, wIter σ p items ∧ (hd = none ∨ ∃ i, p = .ref i) ∧
      wComp (fun σ => wGuard σ p items) hd (fun v σ Q X => We (fun j => if j = i then some v else none) σ Q X) σ.n items [] (σ.new (.list [])) (fun p σ => Q .next (upd ρ k p) σ)) (fun i σ => X i ρ σ))
      (exec (.Assign [.Name x px] (.ListComp elt [⟨.Name y py, it, [], 0⟩] sc' pos) spos) env) := by
  intro A g σ s ρ m Q X P h
  have hxl := loc_is hx
  have hxk := c.hnm x k hxl.2
  have hkx : env.kindOf x = some .local := by rw [Env.kindOf, (V m).names]; exact hxl.1
  have hsw : swapsWith (.ListComp elt [⟨.Name y py, it, [], 0⟩] sc' pos) (some (.Name x px)) spos.line env = pure true := by
    unfold swapsWith
    simp only [Env.blockKind, (V m).kind, hkx, hnx]
    show pure (_ && _ && (px.line == pos.line) && _) = _
    rw [hln]; rfl
  rw [exec_Assign_Name_used _ _ _ _ hsw]
  refine wpAny_bind (wpAny_standAt (wpAny_bind ?_))
  show wpAny _ A (do let _ ← comprehension (.ListComp elt [⟨.Name y py, it, [], 0⟩] sc' pos) sc' env _ (newList []) false (eval it env) (some (assign (.Name x px) env))) _ _ s
  refine wpAny_bind (wpAny_mono (wpAny_comprehension_use (Q := fun _ s' => FV c F env fr held g σ.n s.heap Q .next s') rfl (folded_of hs _) (kinds_free ha) hk (kinds_local ha) ?_) (fun _ s' hq => wpAny_pure (wpAny_pure hq)) fun _ _ e => e)
  refine wpAny_mono (Mi m ρ A g σ s _ _ P h) (fun u s₁ z => z.casesOn fun g₁ σ₁ p R₁ L₁ r₁ z => z.elim fun items z => comp_core (V m) hy hl hk ha (Me m) P.room P.frames (P.hd.next L₁) R₁ r₁ z.1 z.2.1 z.2.2 fun cenv g' σ' mL s'' R' L' hn q => ?_) fun _ _ x => xv_gv P x
  refine wpAny_assign_Name (wpAny_storeName_local (m := m) hkx (by rw [(V m).loc]; exact (R'.swap.frs _ (.head _)).1) (fun h₆ hn₆ hs₆ => ?_) (by rw [(V m).kind]; rfl))
  rw [(V m).loc] at hn₆ hs₆
  have z₆ := R'.swap.setFr (s' := { s'' with heap := h₆, toks := s''.toks + 1 }) (f := frm F env m) (Ext.of_sameBut hs₆) hn₆ rfl rfl
  have R₇ := z₆.1.swap
  refine ⟨mL, (R₇.frs _ (.head _)).1, fun h' hsb' => ?_⟩
  have z₅ := R₇.leave (s' := { s'' with heap := h', toks := s''.toks + 1 }) (Ext.of_sameBut hsb') rfl rfl
  have L₅₆ := z₆.2.trans z₅.2
  exact ⟨_, _, upd ρ k (.ref σ₁.n), _, .next, z₅.1, L₁.trans (L'.trans L₅₆), lrep_upd hxk (P.L.le (L₁.trans (L'.trans L₅₆))) (L₅₆.rep (.ref _ hn)), trivial, q⟩
end
end Mine
end

section
open PySem PySem.W PyProof.Rows PySem.Calls Builtin Builtin.ObjectAttr
set_option Elab.async false
set_option linter.unusedVariables false
set_option maxRecDepth 100000
namespace Mine

section
variable {c : Sx} {F : Addr} {env : Env} {fr : List FrG} {held : List (Addr × Obj)} {lv : Nat} {hd : Option Nat} {A : Around} {g g' : Gh} {σ σ' : St} {s s' : Shared} {ρ : Loc} {m : Str → Option Value} {sc : Scope}
variable {g₀ : Gh} {n₀ : Nat} {h₀ : Heap}

theorem locs_ind {k : CC} {C : List Expr → List Nat → Prop} (h0 : C [] []) (h1 : ∀ x pos r i l, k.loc sc x = some i → C r l → C (.Name x pos :: r) (i :: l)) (es : List Expr) : ∀ l, locsOf k sc es = some l → C es l := by
  induction es with
  | nil => exact fun l h => Option.some.inj h ▸ h0
  | cons e r ih =>
    intro l h
    change (match nameV e with
      | some y => (match k.loc sc y.1.1, locsOf k sc r with
        | some i, some l => some (i :: l)
        | _, _ => none)
      | none => none) = some l at h
    cases hn : nameV e with
    | none => rw [hn] at h; cases h
    | some y =>
      rw [hn] at h
      cases ha : k.loc sc y.1.1 with
      | none => dsimp only at h; rw [ha] at h; cases h
      | some a =>
        cases hb : locsOf k sc r with
        | none => dsimp only at h; rw [ha, hb] at h; cases h
        | some b => dsimp only at h; rw [ha, hb] at h; rw [y.2, ← Option.some.inj h]; exact h1 _ _ _ _ _ ha (ih b hb)

noncomputable def StoreOk (c : Sx) (F : Addr) (env : Env) (fr : List FrG) (held : List (Addr × Obj)) (lv : Nat) (hd : Option Nat) (A : Around) (g : Gh) (σ : St) (es : List Expr) (l : List Nat) : Prop :=
  ∀ (ps : List PV) (vs : List Value) (s : Shared) (ρ : Loc) (m : Str → Option Value) (Q : Loc → St → Prop) (X : Nat → Loc → St → Prop), ps.length = l.length → Pre c lv hd (frm F env m) fr held ρ A g σ s → VReps s.heap g.loc σ.n ps vs →
    Q (updAll ρ l ps) σ → wpAny (model c.prog c.w) A (assignInOrder ((assignEach es env).map (·.2)) vs) (UV c F env fr held g σ.n s.heap Q) (GV c F env fr held g σ.n s.heap X) s
theorem storeAll (V : ∀ m, EnvOk sc env (frm F env m)) {es : List Expr} {l : List Nat} (h : locsOf c.cc sc es = some l) : StoreOk c F env fr held lv hd A g σ es l :=
  locs_ind (C := StoreOk c F env fr held lv hd A g σ) (fun ps vs s ρ m Q X hl P r hQ => by
    obtain rfl := List.length_eq_zero_iff.mp hl
    exact VReps.nilE (C := fun vs => wpAny (model c.prog c.w) A (assignInOrder [] vs) (UV c F env fr held g σ.n s.heap Q) (GV c F env fr held g σ.n s.heap X) s) r (assignInOrder_nil ⟨g, σ, ρ, m, P.R, Le.refl .., P.L, hQ⟩))
    (fun x pos es i l hx ih ps vs s ρ m Q X hl P r hQ => by
      cases ps with
      | nil => cases hl
      | cons p ps =>
        exact VReps.consE (C := fun vs => wpAny (model c.prog c.w) A (assignInOrder (assign (.Name x pos) env :: (assignEach es env).map (·.2)) vs) (UV c F env fr held g σ.n s.heap Q) (GV c F env fr held g σ.n s.heap X) s) r fun v vs r1 r2 =>
          assignInOrder_cons (wpAny_assign_Name (store_ok V P hx r1 fun s' P' L' => liftU L' (ih _ _ _ _ _ _ _ (Nat.succ.inj hl) P' (L'.reps r2) hQ)))) es l h

theorem each_len {es : List Expr} {l : List Nat} (h : locsOf c.cc sc es = some l) : (assignEach es env).length = l.length ∧ (assignEach es env).findIdx? (·.1) = none :=
  locs_ind (C := fun es l => (assignEach es env).length = l.length ∧ (assignEach es env).findIdx? (·.1) = none) ⟨rfl, rfl⟩ (fun x pos es i l _ ih => ⟨congrArg (· + 1) ih.1, by
    show List.findIdx? (·.1) ((false, assign (.Name x pos) env) :: assignEach es env) = none
    rw [List.findIdx?_cons, ih.2]; rfl⟩) es l h

theorem asgTup (V : ∀ m, EnvOk sc env (frm F env m)) {es : List Expr} {l : List Nat} {x1 : Nat} {pos : Pos} (h : locsOf c.cc sc es = some l) :
    AOk c F env fr held lv hd (fun ρ σ v Q X => wTup v fun ps => ps.length = l.length ∧ HdU σ hd ∧ Q (updAll ρ l ps) σ) (Expr.Tuple es x1 pos) := by
  intro A g σ s ρ m p v Q X P hv hw
  cases p with
  | tup ps =>
    have e := each_len (env := env) h
    rw [arm_assign_Tuple]
    refine wpAny_bind (wpAny_standAt ?_)
    unfold unpack
    rw [e.2, e.1, ← hw.1]
    exact wpAny_bind (wpAny_holding (unpackItems_ok P.R hv P.hd hw.2.1 fun vs s' R' L' r' => liftU L' (storeAll V h _ _ _ _ _ _ _ hw.1 (P.next R' L') r' hw.2.2)))
  | _ => exact False.elim hw

theorem AOk.bad {F : Addr} {t : Expr} : AOk c F env fr held lv hd (fun ρ σ v Q X => wpT c lv hd ρ σ v Q X .bad) t := fun A g σ s ρ m p v Q X P hv hw => False.elim hw
theorem tgt_ok {n : Nat} (V : ∀ m, EnvOk sc env (frm F env m)) (tgt : Expr) : AOk c F env fr held lv hd (fun ρ σ v Q X => wpT c lv hd ρ σ v Q X (compT c.cc n sc tgt)) tgt := by
  have E := fun e m ρ => (xok (c := c) (lv := lv) (hd := hd) n).e sc env (frm F env m) fr held ρ e (V m)
  cases tgt with
  | Name x p =>
    show AOk c F env fr held lv hd (fun ρ σ v Q X => wpT c lv hd ρ σ v Q X (match c.cc.loc sc x with | some i => .var i | none => .bad)) _
    cases hx : c.cc.loc sc x with
    | some i => exact asgVar V hx
    | none => exact AOk.bad
  | Attribute a x p =>
    show AOk c F env fr held lv hd (fun ρ σ v Q X => wpT c lv hd ρ σ v Q X (attT c.cc sc a x)) _
    unfold attT
    cases nameV a with
    | none => exact AOk.bad
    | some y =>
      obtain ⟨⟨y, q⟩, rfl⟩ := y
      cases hi : c.cc.idx x with
      | none => exact AOk.bad
      | some i =>
        rw [← show c.nm i = x from c.hnm _ i hi]
        exact asgAttr (x := i) V (Wa := fun ρ => (wp c lv hd (c.cc.name sc y) ρ).e) (fun m ρ => name_ok (V m))
  | Subscript a i p =>
    show AOk c F env fr held lv hd (fun ρ σ v Q X => wpT c lv hd ρ σ v Q X (if isSlc i then .bad else .sub (compE c.cc n sc a) (compE c.cc n sc i))) _
    split
    · exact AOk.bad
    · exact asgSub V (Wa := fun ρ => (wp c lv hd (compE c.cc n sc _) ρ).e) (Wi := fun ρ => (wp c lv hd (compE c.cc n sc _) ρ).e) (E _) (E _)
  | Tuple es x1 p =>
    show AOk c F env fr held lv hd (fun ρ σ v Q X => wpT c lv hd ρ σ v Q X (match locsOf c.cc sc es with | some l => .tup l | none => .bad)) _
    cases hl : locsOf c.cc sc es with
    | some l => exact asgTup V hl
    | none => exact AOk.bad
  | _ => exact AOk.bad

/-! statements -/
theorem swaps_no {e : Expr} {t : Option Expr} {l : Nat} (h : isComp e = false) : swapsWith e t l env = pure false := by
  cases e <;> first | rfl | exact Bool.noConfusion h
theorem stores_one {t e : Expr} (h : (isTupT t && isTupT e) = false) : swappedStores [t] e env = pure none := by
  cases t with
  | Tuple => cases e <;> first | rfl | exact Bool.noConfusion h
  | List => cases e <;> first | rfl | exact Bool.noConfusion h
  | _ => rfl
theorem each_one {t : Expr} (h : noStar t = true) : (assignEach [t] env).map (·.2) = [assign t env] := by cases t <;> first | rfl | exact Bool.noConfusion h
theorem comp_call {e : Expr} (h : isCall e = true) : isComp e = false := by cases e <;> first | rfl | exact Bool.noConfusion h
theorem drop_of {e : Expr} (hc : isCall e = true) (pos : Pos) (v : Value) : dropValue e pos v = dropValue (.Constant .none 0 default) pos v := by
  cases e with
  | Call => cases v <;> rfl
  | _ => exact Bool.noConfusion hc
theorem expr_s {e : Expr} {pos : Pos} (V : ∀ m, EnvOk sc env (frm F env m)) (hc : isCall e = true) {W : Loc → WE} (M : ∀ m ρ, EOk c lv hd (frm F env m) fr held ρ (W ρ) (eval e env)) :
    SOk c F env fr held lv hd (fun ρ σ Q X => W ρ σ (fun _ σ => Q .next ρ σ) (fun i σ => X i ρ σ)) (exec (.Expr e pos) env) := by
  intro A g σ s ρ m Q X P h
  have hi : interactive env = false := by unfold interactive; rw [(V m).kind]; rfl
  have hs : swapsWith e none pos.line env = pure false := swaps_no (comp_call hc)
  rw [exec_Expr env e pos hi hs]
  refine wpAny_bind (wpAny_standAt (sbindE (M m ρ) P h fun g₁ σ₁ s₁ p v P₁ L₁ r₁ q₁ => ?_))
  have fin : FV c F env fr held g σ.n s.heap Q .next s₁ := ⟨g₁, σ₁, ρ, m, .next, P₁.R, L₁, P₁.L, trivial, q₁⟩
  rw [drop_of hc]
  cases v with
  | ref a => exact wpAny_bind (wpAny_standAt (wpAny_bind (wpAny_runValue (codeAny_builtin entry_let_go (show wpAny _ _ (ret .none) _ _ s₁ from wpAny_pure (wpAny_pure fin))))))
  | _ => exact wpAny_pure fin

theorem ret_s {e : Expr} {pos : Pos} {W : Loc → WE} (M : ∀ m ρ, EOk c lv hd (frm F env m) fr held ρ (W ρ) (eval e env)) :
    SOk c F env fr held lv hd (fun ρ σ Q X => W ρ σ (fun p σ => Q (.ret p) ρ σ) (fun i σ => X i ρ σ)) (exec (.Return (some e) pos) env) := by
  intro A g σ s ρ m Q X P h
  rw [arm_exec_Return]
  refine wpAny_bind (wpAny_standAt ?_)
  show wpAny _ _ (eval e env >>= fun v => pure (Flow.ret v)) _ _ _
  exact sbindE (M m ρ) P h fun g₁ σ₁ s₁ p v P₁ L₁ r₁ q₁ => wpAny_pure ⟨g₁, σ₁, ρ, m, .ret p, P₁.R, L₁, P₁.L, r₁, q₁⟩

theorem asg_s {e t : Expr} {pos : Pos} (hc : isComp e = false) (hs : (isTupT t && isTupT e) = false) {W : Loc → WE} {T : WT} (M : ∀ m ρ, EOk c lv hd (frm F env m) fr held ρ (W ρ) (eval e env)) (MT : AOk c F env fr held lv hd T t) (hst : noStar t = true) :
    SOk c F env fr held lv hd (fun ρ σ Q X => W ρ σ (fun p σ => T ρ σ p (fun ρ σ => Q .next ρ σ) X) (fun i σ => X i ρ σ)) (exec (.Assign [t] e pos) env) := by
  intro A g σ s ρ m Q X P h
  rw [arm_exec_Assign]
  have h1 : swapsWithSole [t] e pos.line env = pure false := swaps_no hc
  have h2 := stores_one (env := env) hs
  have h3 := each_one (env := env) hst
  refine wpAny_bind (wpAny_standAt ?_)
  rw [h1, h2, h3]
  refine wpAny_bind (wpAny_pure ?_)
  rw [if_neg (by decide)]
  refine sbindE (M m ρ) P h fun g₁ σ₁ s₁ p v P₁ L₁ r₁ q₁ => wpAny_bind (wpAny_pure ?_)
  show wpAny _ _ (assign t env v >>= fun _ => pure Flow.next) _ _ _
  exact liftS L₁ (wpAny_bind (wpAny_mono (MT _ _ _ _ _ _ _ _ _ _ P₁ r₁ q₁) (fun _ s₂ z => z.casesOn fun g₂ σ₂ ρ₂ m₂ R₂ L₂ l₂ q₂ => wpAny_pure ⟨g₂, σ₂, ρ₂, m₂, .next, R₂, L₂, l₂, trivial, q₂⟩) fun _ _ x => x))

theorem iadd_no : fillsInplaceSlot (.type "list") "add" (Operator.Add == .Add) = pure false := by
  unfold fillsInplaceSlot
  show (typeLookup (.type "list") (dunderI "add") >>= fun fi => pure (fi.isSome && !isSeqSlot fi)) = pure false
  rw [show typeLookup (.type "list") (dunderI "add") = pure (some (.builtin "list.__iadd__")) by rw [typeLookup_type, builtinLookup_eq_fast]; kernel_rfl]
  kernel_rfl
theorem iadd_seq : seqSlot? (.type "list") (dunderI "add") = pure (some (.builtin "list.__iadd__")) := by
  unfold seqSlot?
  rw [show typeLookup (.type "list") (dunderI "add") = pure (some (.builtin "list.__iadd__")) by rw [typeLookup_type, builtinLookup_eq_fast]; kernel_rfl]
  kernel_rfl

theorem list_iadd {l b : Addr} {items items2 : Array Value} {n n2 : Nat} {Q : Value → Shared → Prop} {E : Value → Shared → Prop} {prog : Program} {w : World} (hl : IsL s.heap l items n) (hb : IsL s.heap b items2 n2) (hz : items.size + items2.size ≤ sizeLine)
    (h : Q (.ref l) { s with heap := s.heap.update l (Obj.mapSeq fun x => x ++ items2), toks := s.toks }) : wpAny (model prog w) A (inplaceOp .Add (.ref l) (.ref b)) Q E s := by
  unfold inplaceOp
  refine wpAny_holding ?_
  refine wpAny_bind (wpAny_typeOf (T := "list") ⟨_, hl, rfl⟩ (wpAny_bind (wpAny_of_eq iadd_no ?_)))
  show wpAny _ A (if false = true then _ else _) Q E s
  rw [if_neg Bool.false_ne_true]
  refine wpAny_bind (wpAny_binaryOp1_none (nm := "add") (T := "list") ⟨_, hl, rfl⟩ ⟨_, hb, rfl⟩ noFill_list_add ?_)
  refine wpAny_bind (wpAny_of_eq iadd_seq ?_)
  refine wpAny_bind (wpAny_rule ?_)
  refine call_meets F.slot_list_iadd ⟨_, hl, rfl⟩ F.entry_list_iadd (F.args_list_iadd_2 _ _) (AutoSeq1.list___iadd___list_list_0 l items n b items2 n2 ?_ (Nat.le_trans (Nat.le_add_right _ _) hz) (Nat.le_succ_of_le hz)) ⟨hl, hb, h⟩
  simp [Builtin.List.listTooLong]
  intro _
  exact hz

theorem aug_list_ok (R : Rep c.toCx g held fr σ s) {i j : Nat} {xs ys : List PV} {Q : PV → St → Prop} {E : Value → Shared → Prop} (hi : σ.at_ i = some (.list xs)) (hj : σ.at_ j = some (.list ys)) (hl : xs.length + ys.length ≤ 1000000) (hQ : Q (.ref i) (σ.put i (.list (xs ++ ys)))) :
    wpAny (model c.prog c.w) A (inplaceOp .Add (.ref (g.loc i)) (.ref (g.loc j))) (QV c.toCx held fr g σ.n s.heap Q) E s :=
  (R.list hi).casesOn fun vs k a1 a2 => (R.list hj).casesOn fun ws k' b1 b2 =>
    list_iadd a1 b1 (by rw [List.size_toArray, List.size_toArray, a2.length, b2.length]; exact Nat.le_trans hl (by decide))
      (have z := list_put (f := fun x => x ++ ws.toArray) (t := s.toks) R hi a1 (us := vs ++ ws) (List.append_toArray ..) (a2.append b2) (by rw [List.length_append]; exact Nat.le_trans hl (by decide))
      ⟨g, _, _, z.1, z.2, .ref i (R.lt hi), hQ⟩)
theorem aug_ok (R : Rep c.toCx g held fr σ s) {o : Operator} {p q : PV} {u v : Value} {Q : PV → St → Prop} {E : Value → Shared → Prop} (hp : VRep s.heap g.loc σ.n p u) (hq : VRep s.heap g.loc σ.n q v) (h : wAug o p q σ Q) :
    wpAny (model c.prog c.w) A (inplaceOp o u v) (QV c.toCx held fr g σ.n s.heap Q) E s := by
  cases o with
  | Add =>
    cases hp with
    | int a t => exact wInt_e hq h fun b t' h => PySem.P.iadd_int (qvt R (.int _ _) h)
    | str a t => exact wStr_e hq h fun b t' h => PyProof.Rows.iadd_str (fun t' tk => by rw [str_add]; exact qvt R (.str _ _) h.2) (Nat.le_trans h.1 (by decide))
    | ref i hi => exact wRef_e hq h fun j _ h => h.elim fun xs h => h.elim fun ys h => aug_list_ok R h.1 h.2.1 h.2.2.2.1 h.2.2.2.2
    | _ => exact False.elim h
  | FloorDiv => exact wInt_e hp h fun a t h => wInt_e hq h fun b t' h => PyProof.Rows.ifloordiv_int h.1 (qvt R (.int _ _) h.2.2) (.inl (PyProof.noPylong_small h.2.1))
  | _ => exact False.elim h
end
end Mine
end

section
open PySem PySem.W PyProof.Rows PySem.Calls Builtin Builtin.ObjectAttr
set_option Elab.async false
set_option linter.unusedVariables false
set_option maxRecDepth 100000
namespace Mine

inductive GVt (c : Sx) (F : Addr) (env : Env) (fr : List FrG) (held : List (Addr × Obj)) (g₀ : Gh) (n₀ : Nat) (h₀ : Heap) (X : Nat → Loc → St → Prop) (e : Value) (s' : Shared) : Prop where
  | mk (g : Gh) (σ : St) (ρ : Loc) (m : Str → Option Value) (i : Nat) (R : Rep c.toCx g held (frm F env m :: fr) σ s') (L : Le g₀ n₀ h₀ g σ.n s'.heap) (l : LRep c.toCx s'.heap g.loc σ.n ρ m) (r : e = .ref (g.loc i)) (x : IsExc c.toCx σ i) (t : HasTb c.toCx s'.heap (g.loc i)) (q : X i ρ σ)

section
variable {c : Sx} {F : Addr} {env : Env} {fr : List FrG} {held : List (Addr × Obj)} {lv : Nat} {hd : Option Nat} {A : Around} {g g' : Gh} {σ σ' : St} {s s' : Shared} {ρ : Loc} {m : Str → Option Value} {sc : Scope}
variable {g₀ : Gh} {n₀ : Nat} {h₀ : Heap} {X : Nat → Loc → St → Prop} {Q : Fl → Loc → St → Prop}

theorem noted_gv (hA : A.frames = some (env :: fr.filterMap (·.env))) {e : Value} (x : GV c F env fr held g₀ n₀ h₀ X e s) {E' : Value → Shared → Prop} (hE : ∀ s', GVt c F env fr held g₀ n₀ h₀ X e s' → E' e s') : notedBy (model c.prog c.w) A env E' e s := by
  refine x.casesOn fun g σ ρ m i R L l r hi x => ?_
  rw [r] at hE ⊢
  exact note_ok (f := frm F env m) R hi hA rfl fun s' R' L' H' => hE s' ⟨g, σ, ρ, m, i, R', L.trans L', l.le L', rfl, hi, H', x⟩

theorem ref_some {T : Addr} : ¬ ((Value.ref T == Value.none) = true) := Bool.false_ne_true
theorem came_gv {e : Value} (x : GVt c F env fr held g₀ n₀ h₀ X e s) {E' : Value → Shared → Prop} (hE : ∀ s', GV c F env fr held g₀ n₀ h₀ X e s' → E' e s') : cameBackBy (model c.prog c.w) A env E' e s := by
  refine x.casesOn fun g σ ρ m i R L l r hi H x => H.casesOn fun o vs T t1 t2 t3 t4 t5 => ?_
  rw [r] at hE ⊢
  unfold cameBackBy
  refine wpAny_bind (wpAny_field t1 t2 t3 ?_)
  rw [if_neg ref_some]
  exact flight_ok R hi fun s' R' L' _ => hE s' ⟨g, σ, ρ, m, i, R', L.trans L', l.le L', rfl, hi, x⟩

theorem GVt.gv {e : Value} (x : GVt c F env fr held g₀ n₀ h₀ X e s) : GV c F env fr held g₀ n₀ h₀ X e s := x.casesOn fun g σ ρ m i a1 a2 a3 a4 a5 _ a6 => ⟨g, σ, ρ, m, i, a1, a2, a3, a4, a5, a6⟩
theorem GVt.lift {e : Value} (L : Le g₀ n₀ h₀ g σ.n s.heap) (x : GVt c F env fr held g σ.n s.heap X e s') : GVt c F env fr held g₀ n₀ h₀ X e s' := x.casesOn fun a b d e' i h1 h2 h3 h4 h5 h6 h7 => ⟨a, b, d, e', i, h1, L.trans h2, h3, h4, h5, h6, h7⟩
theorem turn_end {h : Heap} {loc : Nat → Addr} {n : Nat} {fl : Fl} {f : Flow} {P : Flow → Prop} {K : Fl → Prop} (x : FlR h loc n fl f) (q : K fl) (h1 : K .next → P .next) (h2 : K .cont → P .cont) (h3 : K .brk → P .brk) (h4 : ∀ p v, VRep h loc n p v → K (.ret p) → P (.ret v)) : P f := by
  cases fl with
  | next => cases f with
    | next => exact h1 q
    | _ => exact x.elim
  | cont => cases f with
    | cont => exact h2 q
    | _ => exact x.elim
  | brk => cases f with
    | brk => exact h3 q
    | _ => exact x.elim
  | ret p => cases f with
    | ret v => exact h4 p v x q
    | _ => exact x.elim

theorem frames_eq (P : Pre c lv hd (frm F env m) fr held ρ A g σ s) : A.frames = some (env :: fr.filterMap (·.env)) := P.frames

/-- a block's exception, on its way out -/
theorem out_gv (hA : A.frames = some (env :: fr.filterMap (·.env))) {e : Value} (x : GV c F env fr held g₀ n₀ h₀ X e s) {R : Result → Shared → Prop} (hR : ∀ s', GVt c F env fr held g₀ n₀ h₀ X e s' → R (.error e) s') : notedBy (model c.prog c.w) A env (fun e s' => R (.error e) s') e s :=
  noted_gv hA x hR

theorem aug_s (V : ∀ m, EnvOk sc env (frm F env m)) {x : Str} {p1 pos : Pos} {k : Nat} {o : Operator} {e : Expr} (hx : c.cc.loc sc x = some k) {W : Loc → WE} (M : ∀ m ρ, EOk c lv hd (frm F env m) fr held ρ (W ρ) (eval e env)) :
    SOk c F env fr held lv hd (fun ρ σ Q X => (match ρ k with
      | some p => W ρ σ (fun q σ => wAug o p q σ fun r σ => Q .next (upd ρ k r) σ) (fun i σ => X i ρ σ)
      | none => False)) (exec (.AugAssign (.Name x p1) o e pos) env) := by
  intro A g σ s ρ m Q X P h
  change (match ρ k with
      | some p => W ρ σ (fun q σ => wAug o p q σ fun r σ => Q .next (upd ρ k r) σ) (fun i σ => X i ρ σ)
      | none => False) at h
  cases hp : ρ k with
  | none => rw [hp] at h; exact h.elim
  | some p =>
    rw [hp] at h
    have hl := loc_is hx
    exact (P.L k p hp).elim fun v z => wpAny_AugAssign_Name (wpAny_loadName_local (V m).kind (by unfold Env.kindOf; rw [(V m).names]; exact hl.1) (by rw [(V m).loc]; exact (P.R.frs _ (.head _)).1) (c.hnm x k hl.2 ▸ z.1)
      (wpAny_mono (M m ρ A g σ s _ _ P h) (fun w s₁ y => y.casesOn fun g₁ σ₁ q R₁ L₁ r₁ q₁ => wpAny_mono (aug_ok R₁ (L₁.rep z.2) r₁ q₁) (fun u s₂ y => y.casesOn fun g₂ σ₂ r R₂ L₂ r₂ q₂ =>
        store_ok V ((P.next R₁ L₁).next R₂ L₂) hx r₂ fun s' P' L' => ⟨g₂, σ₂, _, _, .next, P'.R, L₁.trans (L₂.trans L'), P'.L, trivial, q₂⟩) fun _ _ x => x) fun e s₁ z => xv_gv P z))

theorem if_s {t : Expr} {a b : List Stmt} {pos : Pos} {Wt : Loc → WB} {Wa Wb : WS} (Mt : ∀ m ρ, TOk c lv hd (frm F env m) fr held ρ (Wt ρ) (isTrue t env (eval t env))) (Ma : SOk c F env fr held lv hd Wa (execs a env)) (Mb : SOk c F env fr held lv hd Wb (execs b env)) :
    SOk c F env fr held lv hd (fun ρ σ Q X => Wt ρ σ (fun bl σ => (match bl with | true => Wa ρ σ Q X | false => Wb ρ σ Q X)) (fun i σ => X i ρ σ)) (exec (.If t a b pos) env) := by
  intro A g σ s ρ m Q X P h
  rw [arm_exec_If]
  refine wpAny_bind (wpAny_standAt (sbindT (Mt m ρ) P h fun g₁ σ₁ s₁ bl P₁ L₁ q₁ => liftS L₁ ?_))
  cases bl with
  | true => exact Ma _ _ _ _ _ _ _ _ P₁ q₁
  | false => exact Mb _ _ _ _ _ _ _ _ P₁ q₁

inductive WInv (c : Sx) (F : Addr) (env : Env) (fr : List FrG) (held : List (Addr × Obj)) (lv : Nat) (hd : Option Nat) (A : Around) (g : Gh) (k : Nat) (h : Heap) (K : Nat → Loc → St → Prop) (n : Nat) (s' : Shared) : Prop where
  | mk (g' : Gh) (σ' : St) (ρ' : Loc) (m' : Str → Option Value) (P : Pre c lv hd (frm F env m') fr held ρ' A g' σ' s') (L : Le g k h g' σ'.n s'.heap) (w : K n ρ' σ')
theorem while_s {t : Expr} {b : List Stmt} {pos : Pos} {Wt : Loc → WB} {Wb : WS} (Mt : ∀ m ρ, TOk c lv hd (frm F env m) fr held ρ (Wt ρ) (isTrue t env (eval t env))) (Mb : SOk c F env fr held lv hd Wb (execs b env)) :
    SOk c F env fr held lv hd (fun ρ σ Q X => ∃ n, wLoop Wt Wb n ρ σ Q X) (exec (.While t b [] pos) env) := by
  intro A g σ s ρ m Q X P h
  have hA := frames_eq P
  refine wpAny_While (codeAny_mono (R := fun r s' => match r with | .ok f => FV c F env fr held g σ.n s.heap Q f s' | .error e => GVt c F env fr held g σ.n s.heap X e s') (h.elim fun n h => ?_) fun r s' z => ?_)
  · refine codeAny_whileLoop (WInv c F env fr held lv hd A g σ.n s.heap fun n ρ σ => wLoop Wt Wb n ρ σ Q X) (fun n s' z => z.casesOn fun g' σ' ρ' m' P' L' hw => ?_) n ⟨g, σ, ρ, m, P, Le.refl .., h⟩
    cases n with
    | zero => exact hw.elim
    | succ n =>
      refine wpAny_mono (Mt m' ρ' A g' σ' s' _ _ P' hw) (fun bl s₁ z => z.casesOn fun g₁ σ₁ R₁ L₁ q₁ => ?_) fun e s₁ z => noted_gv hA (xv_gv P' z) fun s₂ z => z.lift L'
      cases bl with
      | false => exact wpAny_pure ⟨g₁, σ₁, ρ', m', .next, R₁, L'.trans L₁, (P'.next R₁ L₁).L, trivial, q₁⟩
      | true =>
        refine wpAny_mono (Mb A g₁ σ₁ s₁ ρ' m' _ _ (P'.next R₁ L₁) q₁) (fun f s₂ z => z.casesOn fun g₂ σ₂ ρ₂ m₂ fl R₂ L₂ l₂ f₂ q₂ => ?_) fun e s₂ z => noted_gv hA z fun s₃ z => z.lift (L'.trans L₁)
        have L02 := L'.trans (L₁.trans L₂)
        have P₂ : Pre c lv hd (frm F env m₂) fr held ρ₂ A g₂ σ₂ s₂ := ⟨P.room, P.frames, P.hd.next L02, R₂, l₂⟩
        apply turn_end (fl := fl) (f := f) (K := fun fl => match fl with | .next => wLoop Wt Wb n ρ₂ σ₂ Q X | .cont => wLoop Wt Wb n ρ₂ σ₂ Q X | .brk => Q .next ρ₂ σ₂ | .ret p => Q (.ret p) ρ₂ σ₂) f₂ q₂
        · exact fun q => ⟨n, Nat.lt_succ_self _, g₂, σ₂, ρ₂, m₂, P₂, L02, q⟩
        · exact fun q => ⟨n, Nat.lt_succ_self _, g₂, σ₂, ρ₂, m₂, P₂, L02, q⟩
        · exact fun q => ⟨g₂, σ₂, ρ₂, m₂, .next, R₂, L02, l₂, trivial, q⟩
        · exact fun p v r q => ⟨g₂, σ₂, ρ₂, m₂, .ret p, R₂, L02, l₂, r, q⟩
  · cases r with
    | ok f => exact z
    | error e => exact came_gv z fun s'' z => z

/-- a loop over items -/
theorem for_loop {prog : Program} {w : World} {R : Result → Shared → Prop} {target : Expr} {it : Value} {body : List Stmt} (I : Nat → Shared → Prop)
    (turn : ∀ n s, I n s → wpAny (model prog w) A (pyNext it) (fun r s₁ => match r with
      | none => R (.ok .next) s₁
      | some v => wpAny (model prog w) A (letOwnedTupleGo target it v) (fun _ s₂ => wpAny (model prog w) A (assign target env v) (fun _ s₂ => wpAny (model prog w) A (execs body env) (fun f s₃ => match f with
          | .next | .cont => ∃ m, m < n ∧ I m s₃
          | .brk => R (.ok .next) s₃
          | .ret v => R (.ok (.ret v)) s₃) (notedBy (model prog w) A env fun e s' => R (.error e) s') s₂) (notedBy (model prog w) A env fun e s' => R (.error e) s') s₂) (notedBy (model prog w) A env fun e s' => R (.error e) s') s₁) (notedBy (model prog w) A env fun e s' => R (.error e) s') s)
    (n : Nat) (h : I n s) : codeAny (model prog w) A (.forLoop target it body [] env) R s := by
  refine codeAny_loop' rfl I (fun n s hI => ?_) n h
  show wpAny _ _ ((forTurn target it body [] env).onRaise (fun x => do noteFrame x env; theTreesLotGoes x)) _ _ s
  refine wpAny_noted ?_
  simp only [forTurn]
  refine wpAny_bind (wpAny_standAt (wpAny_bind (wpAny_onRaise (wpAny_mono (turn n s hI) (fun r s₁ h₁ => ?_) fun _ _ h' => wpAny_standAt h'))))
  cases r with
  | none => exact wpAny_pure (.inr ⟨rfl, codeAny_block (wpAny_pure h₁)⟩)
  | some v =>
    refine wpAny_bind (wpAny_mono h₁ (fun _ s₁' h₁' => ?_) fun _ _ h' => h')
    refine wpAny_bind (wpAny_mono h₁' (fun _ s₂ h₂ => wpAny_bind (wpAny_mono h₂ (fun f s₃ h₃ => ?_) fun _ _ h' => h')) fun _ _ h' => h')
    cases f with
    | next => exact wpAny_pure (.inl ⟨rfl, h₃⟩)
    | cont => exact wpAny_pure (.inl ⟨rfl, h₃⟩)
    | brk => exact wpAny_pure h₃
    | ret v => exact wpAny_pure h₃

theorem FV.drop {o : Addr × Obj} {f : Flow} (x : FV c F env fr (o :: held) g₀ n₀ h₀ Q f s) : FV c F env fr held g₀ n₀ h₀ Q f s := x.casesOn fun g σ ρ m fl R r1 r2 r3 r4 => ⟨g, σ, ρ, m, fl, R.drop fun _ h => .tail _ h, r1, r2, r3, r4⟩
theorem GVt.drop {o : Addr × Obj} {e : Value} (x : GVt c F env fr (o :: held) g₀ n₀ h₀ X e s) : GVt c F env fr held g₀ n₀ h₀ X e s := x.casesOn fun g σ ρ m fl R r1 r2 r3 r4 r5 r6 => ⟨g, σ, ρ, m, fl, R.drop fun _ h => .tail _ h, r1, r2, r3, r4, r5, r6⟩

inductive FInv (c : Sx) (F : Addr) (env : Env) (fr : List FrG) (held : List (Addr × Obj)) (lv : Nat) (hd : Option Nat) (A : Around) (I : Addr) (src : Src) (len : Nat) (g : Gh) (j : Nat) (h : Heap) (K : Nat → Loc → St → Prop) (n : Nat) (s' : Shared) : Prop where
  | mk (k : Nat) (g' : Gh) (σ' : St) (ρ' : Loc) (m' : Str → Option Value) (o' : Obj) (e : n = len - k) (hk : k ≤ len) (P : Pre c lv hd (frm F env m') fr ((I, o') :: held) ρ' A g' σ' s') (L : Le g j h g' σ'.n s'.heap) (ho : src.obj g' len k o') (w : K k ρ' σ')
theorem for_core {tgt : Expr} {b : List Stmt} {T : WT} {Wb : WS} {src : Src} {items : List PV} {I : Addr} {o : Obj} {G : St → Prop} (hno : hd = none) (MT : ∀ held, AOk c F env fr held lv hd T tgt) (MB : ∀ held, SOk c F env fr held lv hd Wb (execs b env))
    (P : Pre c lv hd (frm F env m) fr ((I, o) :: held) ρ A g σ s) (hnd : ∀ p ∈ held, p.1 ≠ I) (hB : c.B.get? I = none) (ho : src.obj g items.length 0 o) (hs : ∀ (σ' : St) (g' : Gh) (h' : Heap), G σ' → Le g σ.n s.heap g' σ'.n h' → src.has σ' h' g'.loc items)
    (hw : wFor G T Wb items ρ σ Q X) :
    codeAny (model c.prog c.w) A (.forLoop tgt (.ref I) b [] env) (fun r s' => match r with | .ok f => FV c F env fr held g σ.n s.heap Q f s' | .error e => GVt c F env fr held g σ.n s.heap X e s') s := by
  have hA := frames_eq P
  have hh : A.handled = none := by have := P.hd; rw [hno] at this; exact this
  refine for_loop (FInv c F env fr held lv hd A I src items.length g σ.n s.heap fun k ρ σ => wFor G T Wb (items.drop k) ρ σ Q X) (fun n s' z => z.casesOn fun k g' σ' ρ' m' o' e hk P' L' ho' hw => ?_) items.length
    ⟨0, g, σ, ρ, m, o, rfl, Nat.zero_le _, P, Le.refl .., ho, hw⟩
  rw [e]
  clear e z
  rcases Nat.lt_or_ge k items.length with hlt | hge
  · rw [List.drop_eq_getElem_cons hlt] at hw
    have hs' := hs _ _ _ hw.1 L'
    refine next_item P'.R hnd hB ho' hs' (List.getElem?_eq_getElem hlt) fun v o2 s1 R1 L1 r1 ho1 => letgo_ok R1 ho1 ?_
    have P1 : Pre c lv hd (frm F env m') fr ((I, o2) :: held) ρ' A g' σ' s1 := ⟨P.room, P.frames, P'.hd.next L1, R1, P'.L.le L1⟩
    have L01 := L'.trans L1
    refine wpAny_mono (MT _ A g' σ' s1 ρ' m' _ v _ _ P1 r1 hw.2) (fun _ s2 z => z.casesOn fun g2 σ2 ρ2 m2 R2 L2 l2 q2 => ?_) fun e s2 z => noted_gv hA z fun s3 z => (z.lift L01).drop
    have L02 := L01.trans L2
    refine wpAny_mono (MB _ A g2 σ2 s2 ρ2 m2 _ _ ⟨P.room, P.frames, P.hd.next L02, R2, l2⟩ q2) (fun f s3 z => z.casesOn fun g3 σ3 ρ3 m3 fl R3 L3 l3 f3 q3 => ?_) fun e s3 z => noted_gv hA z fun s4 z => (z.lift L02).drop
    have L03 := L02.trans L3
    have P3 : Pre c lv hd (frm F env m3) fr ((I, o2) :: held) ρ3 A g3 σ3 s3 := ⟨P.room, P.frames, P.hd.next L03, R3, l3⟩
    have ho3 := Src.obj_le ho1 fun j hj => (L2.trans L3).loc j (Src.lt P'.R hs' hj)
    apply turn_end (fl := fl) (f := f) (K := fun fl => match fl with | .next => wFor G T Wb (items.drop (k + 1)) ρ3 σ3 Q X | .cont => wFor G T Wb (items.drop (k + 1)) ρ3 σ3 Q X | .brk => Q .next ρ3 σ3 | .ret p => Q (.ret p) ρ3 σ3) f3 q3
    · exact fun q => ⟨_, sub_succ_lt hlt, k + 1, g3, σ3, ρ3, m3, o2, rfl, hlt, P3, L03, ho3, q⟩
    · exact fun q => ⟨_, sub_succ_lt hlt, k + 1, g3, σ3, ρ3, m3, o2, rfl, hlt, P3, L03, ho3, q⟩
    · exact fun q => (FV.mk g3 σ3 ρ3 m3 .next R3 L03 l3 trivial q : FV c F env fr ((I, o2) :: held) g σ.n s.heap Q .next s3).drop
    · exact fun p v r q => (FV.mk g3 σ3 ρ3 m3 (.ret p) R3 L03 l3 r q : FV c F env fr ((I, o2) :: held) g σ.n s.heap Q (.ret v) s3).drop
  · obtain rfl : k = items.length := Nat.le_antisymm hk hge
    rw [List.drop_length] at hw
    exact next_end P'.R hnd hB ho' (hs _ _ _ hw.1 L') hh fun s2 R2 L2 => ⟨g', σ', ρ', m', .next, R2, L'.trans L2, P'.L.le L2, trivial, hw.2⟩
end
end Mine
end

section
open PySem PySem.W PyProof.Rows PySem.Calls Builtin Builtin.ObjectAttr
set_option Elab.async false
set_option linter.unusedVariables false
set_option maxRecDepth 100000
namespace Mine

section
variable {c : Sx} {F : Addr} {env : Env} {fr : List FrG} {held : List (Addr × Obj)} {lv : Nat} {hd : Option Nat} {A : Around} {g g' : Gh} {σ σ' : St} {s s' : Shared} {ρ : Loc} {m : Str → Option Value} {sc : Scope}
variable {g₀ : Gh} {n₀ : Nat} {h₀ : Heap} {X : Nat → Loc → St → Prop} {Q : Fl → Loc → St → Prop}

theorem core_out (L : Le g₀ n₀ h₀ g σ.n s.heap) {cd : Code} (h : codeAny (model c.prog c.w) A cd (fun r s' => match r with | .ok f => FV c F env fr held g σ.n s.heap Q f s' | .error e => GVt c F env fr held g σ.n s.heap X e s') s) :
    codeAny (model c.prog c.w) A cd (fun r s' => match r with | .ok f => FV c F env fr held g₀ n₀ h₀ Q f s' | .error e => cameBackBy (model c.prog c.w) A env (GV c F env fr held g₀ n₀ h₀ X) e s') s :=
  codeAny_mono h fun r s' z => by
    cases r with
    | ok f => exact z.casesOn fun a b d e f' h1 h2 h3 h4 h5 => ⟨a, b, d, e, f', h1, L.trans h2, h3, h4, h5⟩
    | error e => exact came_gv z fun s'' z => z.lift L

theorem for_s {t e : Expr} {b : List Stmt} {pos : Pos} {W : Loc → WE} {T : WT} {Wb : WS} (hs : isSet e = false) (M : ∀ m ρ, EOk c lv hd (frm F env m) fr held ρ (W ρ) (eval e env)) (MT : ∀ held, AOk c F env fr held lv hd T t) (MB : ∀ held, SOk c F env fr held lv hd Wb (execs b env)) :
    SOk c F env fr held lv hd (fun ρ σ Q X => W ρ σ (fun p σ => hd = none ∧ wSeq σ p fun G vs => wFor G T Wb vs ρ σ Q X) (fun i σ => X i ρ σ)) (exec (.For t e b [] pos) env) := by
  intro A g σ s ρ m Q X P h
  refine wpAny_For (wpAny_mono (M m ρ A g σ s _ _ P h) (fun u s₁ z => z.casesOn fun g₁ σ₁ p R₁ L₁ r₁ z => ?_) fun e s₁ z => xv_gv P z) (folded_of hs env)
  have go : ∀ {G : St → Prop} {vs : List PV}, wFor G T Wb vs ρ σ₁ Q X → wIter σ₁ p vs → wGuard σ₁ p vs → (∀ i, p = .ref i → G = fun σ => σ.at_ i = some (.list vs)) → wpAny (model c.prog c.w) A (pyIter u) (fun it s' => codeAny (model c.prog c.w) A (.forLoop t it b [] env)
      (fun r s' => match r with | .ok f => FV c F env fr held g σ.n s.heap Q f s' | .error e => cameBackBy (model c.prog c.w) A env (GV c F env fr held g σ.n s.heap X) e s') s') (GV c F env fr held g σ.n s.heap X) s₁ := fun hw hi hg hG =>
    iter_ok R₁ r₁ hi hg fun s₂ I o src R₂ L₂ ho hsrc hnd hB hlist hother =>
      have L12 := L₁.trans L₂
      core_out L12 (for_core z.1 MT MB ⟨P.room, P.frames, P.hd.next L12, R₂, P.L.le L12⟩ hnd hB ho (fun σ' g' h' hG' L' => (Classical.em (∃ i, p = .ref i)).elim (fun q => q.elim fun i q => by
          rw [hlist i q]; rw [hG i q] at hG'; exact hG') fun q => hother (fun i e => q ⟨i, e⟩) σ' L'.n g' h' L') hw)
  cases p with
  | tup vs => exact go z.2 rfl trivial fun _ e => PV.noConfusion e
  | ref i => exact wLst_e (C := fun _ => _) r₁ z.2 fun j vs _ e hj hw => go hw (by rw [e]; exact hj) (by rw [e]; exact hj) fun k e' => by rw [PV.ref.inj (e.symm.trans e')]
  | _ => exact False.elim z.2

theorem forR_s (V : ∀ m, EnvOk sc env (frm F env m)) {t a : Expr} {b : List Stmt} {pos p1 p2 : Pos} {W : Loc → WE} {T : WT} {Wb : WS} (hk : sc.names.lookup ("range" : Str) = some .globalImplicit) (hst : noStar a = true) (M : ∀ m ρ, EOk c lv hd (frm F env m) fr held ρ (W ρ) (eval a env)) (MT : ∀ held, AOk c F env fr held lv hd T t) (MB : ∀ held, SOk c F env fr held lv hd Wb (execs b env)) :
    SOk c F env fr held lv hd (fun ρ σ Q X => W ρ σ (fun p σ => wInt p fun n => hd = none ∧ -1000000 ≤ n ∧ n ≤ 1000000 ∧ wFor (fun _ => True) T Wb ((List.range n.toNat).map fun k => PV.int (k : Nat)) ρ σ Q X) (fun i σ => X i ρ σ)) (exec (.For t (.Call (.Name "range" p1) [a] [] p2) b [] pos) env) := by
  intro A g σ s ρ m Q X P h
  refine wpAny_For ?_ (fun _ => rfl)
  rw [arm_eval_Call_Name']
  have hmg : s.heap.Ns env.globals c.mg := by rw [(V m).glob]; exact c.hmg.keeps P.R.stays
  have hmb : s.heap.Ns env.builtins c.mb := by rw [(V m).blt]; exact c.hmb.keeps P.R.stays
  refine wpAny_bind (Calls.Name_function_global (V m).kind (by unfold Env.kindOf; rw [(V m).names]; exact hk) (Calls.loadGlobal_builtin hmg c.hrange.1 hmb c.hrange.2 ?_) (by decide))
  rw [star_cons hst]
  refine PySem.callWith_type rfl (Calls.evalArgs_plain (Calls.spliced_cons (wpAny_mono (M m ρ A g σ s _ _ P h) (fun u s₁ z => Calls.spliced_nil (z.casesOn fun g₁ σ₁ p R₁ L₁ r₁ hw => wInt_e r₁ hw fun n tk hw => call_range_1 ?_)) fun e s₁ z => xv_gv P z)))
  have hz : Builtin.Range.rangeSize 0 n 1 = ((n.toNat : Nat) : Int) := by rw [rangeSize_one]; split <;> omega
  have z₂ := R₁.push { cls := .type "range", data := .fields #[.int 0 s₁.toks, .int n tk, .int 1 (s₁.toks + 1)] }
  have ho : (Src.range n.toNat).obj g₁ ((List.range n.toNat).map fun k => PV.int (k : Nat)).length 0 { cls := .type "range_iterator", data := .fields #[rawInt 0, rawInt (Builtin.Range.rangeSize 0 n 1), rawInt 1] } :=
    ⟨Nat.zero_le _, (List.length_map _).trans List.length_range, by rw [hz, show ((n.toNat : Nat) : Int) - (0 : Nat) = n.toNat from Int.sub_zero _]; rfl⟩
  exact wpAny_pyIter_range (IsRange.new ..) (small_one (by decide) (by decide) (by omega) (by omega)) ((iter_new (k := s₁.toks + 1 + 1) (z₂.1.tok (s₁.toks + 1 + 1)) (src := .range n.toNat) (items := (List.range n.toNat).map fun k => PV.int (k : Nat)) ho rfl).casesOn fun R₃ L₃ _ hnd hB =>
    have L₁₃ := L₁.trans (z₂.2.trans L₃)
    core_out L₁₃ (for_core (src := .range n.toNat) (items := (List.range n.toNat).map fun k => PV.int (k : Nat)) (G := fun _ => True) hw.1 MT MB ⟨P.room, P.frames, P.hd.next L₁₃, R₃, P.L.le L₁₃⟩ hnd hB ho (fun σ' g' h' _ _ => rfl) hw.2.2.2))

theorem forV_s (V : ∀ m, EnvOk sc env (frm F env m)) {t a : Expr} {b : List Stmt} {pos p1 p2 : Pos} {W : Loc → WE} {T : WT} {Wb : WS} (hk : sc.names.lookup ("reversed" : Str) = some .globalImplicit) (hst : noStar a = true) (M : ∀ m ρ, EOk c lv hd (frm F env m) fr held ρ (W ρ) (eval a env)) (MT : ∀ held, AOk c F env fr held lv hd T t) (MB : ∀ held, SOk c F env fr held lv hd Wb (execs b env)) :
    SOk c F env fr held lv hd (fun ρ σ Q X => W ρ σ (fun p σ => hd = none ∧ wLst σ p fun i vs => wFor (fun σ => σ.at_ i = some (.list vs)) T Wb vs.reverse ρ σ Q X) (fun i σ => X i ρ σ)) (exec (.For t (.Call (.Name "reversed" p1) [a] [] p2) b [] pos) env) := by
  intro A g σ s ρ m Q X P h
  refine wpAny_For ?_ (fun _ => rfl)
  rw [arm_eval_Call_Name']
  have hmg : s.heap.Ns env.globals c.mg := by rw [(V m).glob]; exact c.hmg.keeps P.R.stays
  have hmb : s.heap.Ns env.builtins c.mb := by rw [(V m).blt]; exact c.hmb.keeps P.R.stays
  refine wpAny_bind (Calls.Name_function_global (V m).kind (by unfold Env.kindOf; rw [(V m).names]; exact hk) (Calls.loadGlobal_builtin hmg c.hrev.1 hmb c.hrev.2 ?_) (by decide))
  rw [star_cons hst]
  refine PySem.callWith_type rfl (Calls.evalArgs_plain (Calls.spliced_cons (wpAny_mono (M m ρ A g σ s _ _ P h) (fun u s₁ z => Calls.spliced_nil (z.casesOn fun g₁ σ₁ p R₁ L₁ r₁ z => wLst_e r₁ z.2 fun i vs _ _ hi hw =>
    (R₁.list hi).casesOn fun xs k a1 a2 => call_reversed_list a1.isList ?_)) fun e s₁ z => xv_gv P z)))
  have ho : (Src.rev i).obj g₁ vs.reverse.length 0 (revObj (g₁.loc i) ((xs.toArray.size : Int) - 1)) := ⟨Nat.zero_le _, rfl, by
    show Data.fields _ = _
    rw [List.length_reverse, List.size_toArray, a2.length, show (vs.length : Int) - 1 - (0 : Nat) = vs.length - 1 from Int.sub_zero _]⟩
  have hs : ∀ σ' : St, σ'.at_ i = some (.list vs) → σ'.at_ i = some (.list vs.reverse.reverse) := fun σ' e => by rw [List.reverse_reverse]; exact e
  exact (iter_new (k := s₁.toks) R₁ ho (hs σ₁ hi)).casesOn fun R₃ L₃ _ hnd hB =>
    have L₁₃ := L₁.trans L₃
    iter_self R₃ ho (core_out L₁₃ (for_core z.1 MT MB ⟨P.room, P.frames, P.hd.next L₁₃, R₃, P.L.le L₁₃⟩ hnd hB ho (fun σ' g' h' hG _ => hs σ' hG) hw))
end
end Mine
end

section
open PySem PySem.W PyProof.Rows PySem.Calls Builtin Builtin.ObjectAttr
set_option Elab.async false
set_option linter.unusedVariables false
set_option maxRecDepth 100000
namespace Mine

section
variable {c : Sx} {F : Addr} {env : Env} {fr : List FrG} {held : List (Addr × Obj)} {lv : Nat} {hd : Option Nat} {A : Around} {g g' : Gh} {σ σ' : St} {s s' : Shared} {ρ : Loc} {m : Str → Option Value} {sc : Scope}
variable {g₀ : Gh} {n₀ : Nat} {h₀ : Heap} {X : Nat → Loc → St → Prop} {Q : Fl → Loc → St → Prop}

theorem Rep.tyExc (R : Rep c.toCx g held (frm F env m :: fr) σ s) {j : Nat} (hi : IsExc c.toCx σ j) {M : Model} : Looks M s.heap (typeOf (.ref (g.loc j))) (.ref c.excC) :=
  (R.excAt hi).casesOn fun ffs ch hi' o vs ho hcl hd hz ht => hcl ▸ (Looks.ld ho).andThen .now

/-- an exception is chained to the one that is handled -/
theorem Rep.chain {c : Cx} {fs : List FrG} (R : Rep c g held fs σ s) {j : Nat} {C : Addr} {ffs : Nat → Option PV} {ch : Bool} (hj : σ.at_ j = some (.exc C ffs ch)) (v : Value) :
    Rep c g held fs (σ.put j (.exc C ffs true)) { s with heap := s.heap.update (g.loc j) (Obj.mapFields (·.setIfInBounds 2 v)) } ∧ Le g σ.n s.heap g σ.n (s.heap.update (g.loc j) (Obj.mapFields (·.setIfInBounds 2 v))) := by
  have y := (R.objs j _ hj).2
  refine y.body.casesOn fun d2 o m vs e1 e2 e3 e4 e5 e6 e7 e8 e9 => ?_
  have hs : Heap.SameBut (g.loc j) s.heap (s.heap.update (g.loc j) (Obj.mapFields (·.setIfInBounds 2 v))) := Heap.SameBut.update ..
  have hd' := Obj.data_mapFields e4 (·.setIfInBounds 2 v)
  have nt : ∀ {t : String}, o.cls ≠ .type t := fun q => Value.noConfusion (e2.symm.trans q)
  have tb := keep_tb e1 nt (Ext.of_sameBut hs)
  have one : (vs.setIfInBounds 2 v)[1]? = vs[1]? := Array.getElem?_setIfInBounds_ne (by decide)
  exact R.put (s' := { s with heap := s.heap.update (g.loc j) (Obj.mapFields (·.setIfInBounds 2 v)) }) hj (Ext.of_sameBut hs) rfl rfl (o' := .exc C ffs true) rfl
    ⟨y.main, d2, _, m, _, Heap.get?_update_self (Obj.mapFields (·.setIfInBounds 2 v)) e1 (Obj.isFreed_of_fields hd'), (Obj.cls_mapFields ..).trans e2, (Obj.dict_mapFields' e4 _).trans e3, hd', by rw [Array.size_setIfInBounds]; exact e5,
      by rw [one]; exact e6.imp id (Exists.imp fun T t => ⟨t.1, tb T t.2.1, t.2.2⟩), fun q => Bool.noConfusion q, e8.ext (Ext.of_sameBut hs) (fun q => Role.noConfusion (d2.symm.trans ((congrArg g.role q).trans y.main))), e9.move ((Ext.of_sameBut hs).tups (not_tup e1 nt)) (fun _ _ => rfl) (Nat.le_refl _)⟩

/-- an exception goes up, chained where another is handled -/
theorem raiseNew_ok (P : Pre c lv hd (frm F env m) fr held ρ A g σ s) {j : Nat} {C : Addr} {fs : Nat → Option PV} {ch : Bool} (hj : σ.at_ j = some (.exc C fs ch)) (hC : C = c.excC) (L : Le g₀ n₀ h₀ g σ.n s.heap) (hX : wRaise hd j σ C fs (X j ρ)) {Post : Flow → Shared → Prop} :
    wpAny (model c.prog c.w) A (raiseNew (.ref (g.loc j)) : Sem Flow) Post (GV c F env fr held g₀ n₀ h₀ X) s := by
  have up : X j ρ σ → GV c F env fr held g₀ n₀ h₀ X (.ref (g.loc j)) s := fun x => ⟨g, σ, ρ, m, j, P.R, L, P.L, rfl, ⟨fs, ch, hC ▸ hj⟩, x⟩
  cases hd with
  | none => exact wpAny_raiseNew_none P.hd (up hX)
  | some hx =>
    have hh := P.hd.1
    refine hX.elim (fun z => ?_) fun z => z.2.1.elim fun C' w => w.elim fun fs' hh' => ?_
    · unfold raiseNew
      refine wpAny_bind (wpAny_handled ?_)
      rw [hh, z.1]
      show wpAny _ _ (if (Value.ref (g.loc j) != Value.ref (g.loc j)) = true then _ else _) _ _ _
      rw [if_neg (by rw [bne_self_eq_false]; decide)]
      exact wpAny_bind (wpAny_pure (wpAny_throw (up z.2)))
    · have y := (P.R.objs hx _ hh').2
      have w := (P.R.objs j _ hj).2
      have q := P.R.chain hj (.ref (g.loc hx))
      exact y.body.casesOn fun _ oe me ves b1 b2 b3 b4 b5 b6 b7 _ _ => w.body.casesOn fun _ oj mj vjs e1 e2 e3 e4 e5 _ _ _ _ =>
        raise_h hh (fun q => z.1 (Role.main.inj (y.main.symm.trans ((congrArg g.role q).trans w.main)))) b1 b4 (b7 rfl) e1 e4 (Nat.lt_trans (by decide) e5)
          ⟨g, _, ρ, m, j, q.1, L.trans q.2, P.L.le q.2, rfl, ⟨fs, true, by rw [← hC]; exact if_pos rfl⟩, z.2.2⟩

theorem raise_s {e : Expr} {pos : Pos} {W : Loc → WE} (M : ∀ m ρ, EOk c lv hd (frm F env m) fr held ρ (W ρ) (eval e env)) :
    SOk c F env fr held lv hd (fun ρ σ Q X => W ρ σ (fun p σ => wExc σ p fun j C fs => C = c.excC ∧ wRaise hd j σ C fs (X j ρ)) (fun i σ => X i ρ σ)) (exec (.Raise (some e) none pos) env) := by
  intro A g σ s ρ m Q X P h
  rw [arm_exec_Raise]
  refine wpAny_bind (wpAny_standAt ?_)
  show wpAny _ _ (raiseStmt env (some (eval e env >>= fun v => standAt pos >>= fun _ => pure v)) none) _ _ _
  unfold raiseStmt
  refine wpAny_bind (sbindE (M m ρ) P h fun g₁ σ₁ s₁ p v P₁ L₁ r₁ q₁ => wpAny_bind (wpAny_standAt (wpAny_pure (wExc_e r₁ q₁ fun j C fs ch hjn hj q₁ => ?_))))
  have hexc : IsExc c.toCx σ₁ j := ⟨fs, ch, q₁.1 ▸ hj⟩
  refine (P₁.R.excAt hexc).casesOn fun _ _ _ o vs ho hcl hdt _ _ => ?_
  have LT := P₁.R.tyExc (M := model c.prog c.w) hexc
  have LB : Looks (model c.prog c.w) s₁.heap (isInstance (.ref (g₁.loc j)) (.type "BaseException")) true := LT.andThen (looks_mroIn P₁.R.K c.hexc.1)
  have LI : Looks (model c.prog c.w) s₁.heap (isType (.ref (g₁.loc j))) false := (Looks.ld ho).andThen (by rw [hdt]; exact .now)
  have LX : Looks (model c.prog c.w) s₁.heap (excFromValue (.ref (g₁.loc j)) "exceptions must derive from BaseException") (.ref (g₁.loc j)) := (LI.andThen .now : Looks (model c.prog c.w) s₁.heap (isExcClass (.ref (g₁.loc j))) false).andThen (LB.andThen .now)
  have LR : Looks (model c.prog c.w) s₁.heap (raisedInstance (.ref (g₁.loc j))) (.ref (g₁.loc j)) := LT.andThen ((looks_typeIn P₁.R.K c.hexc.2.1).andThen .now)
  refine wpAny_bind (wpAny_pure (wpAny_bind (wpAny_holding (LX.here ?_))))
  dsimp only
  refine wpAny_bind (LI.here ?_)
  rw [if_neg (by decide)]
  exact wpAny_bind (LR.here (wpAny_bind (flight_ok P₁.R hexc fun s₂ R₂ L₂ _ => raiseNew_ok (P₁.next R₂ L₂) hj q₁.1 (L₁.trans L₂) q₁.2)))

theorem ret0_s {pos : Pos} : SOk c F env fr held lv hd (fun ρ σ Q X => Q (.ret .none) ρ σ) (exec (.Return none pos) env) := by
  intro A g σ s ρ m Q X P h
  rw [arm_exec_Return]
  refine wpAny_bind (wpAny_standAt ?_)
  show wpAny _ _ (pure (Flow.ret .none)) _ _ _
  exact wpAny_pure ⟨g, σ, ρ, m, .ret .none, P.R, Le.refl .., P.L, .none, h⟩

theorem execs_nil_s : SOk c F env fr held lv hd (fun ρ σ Q X => Q .next ρ σ) (execs [] env) := fun A g σ s ρ m Q X P h =>
  wpAny_pure ⟨g, σ, ρ, m, .next, P.R, Le.refl .., P.L, trivial, h⟩

theorem execs_cons_s {t : Stmt} {r : List Stmt} {W Wr : WS} (M : SOk c F env fr held lv hd W (exec t env)) (Mr : SOk c F env fr held lv hd Wr (execs r env)) :
    SOk c F env fr held lv hd (fun ρ σ Q X => W ρ σ (fun fl ρ σ => (match fl with
      | .next => Wr ρ σ Q X
      | fl => Q fl ρ σ)) X) (execs (t :: r) env) := by
  intro A g σ s ρ m Q X P h
  rw [arm_execs_cons]
  refine wpAny_bind (wpAny_mono (M A g σ s ρ m _ X P h) (fun f s₁ z => z.casesOn fun g₁ σ₁ ρ₁ m₁ fl R₁ L₁ l₁ f₁ q₁ => ?_) fun e s₁ z => z)
  have P₁ : Pre c lv hd (frm F env m₁) fr held ρ₁ A g₁ σ₁ s₁ := ⟨P.room, P.frames, P.hd.next L₁, R₁, l₁⟩
  cases fl with
  | next => cases f with
    | next => exact liftS L₁ (Mr _ _ _ _ _ _ _ _ P₁ q₁)
    | _ => exact f₁.elim
  | brk => cases f with
    | brk => exact wpAny_pure ⟨g₁, σ₁, ρ₁, m₁, .brk, R₁, L₁, l₁, trivial, q₁⟩
    | _ => exact f₁.elim
  | cont => cases f with
    | cont => exact wpAny_pure ⟨g₁, σ₁, ρ₁, m₁, .cont, R₁, L₁, l₁, trivial, q₁⟩
    | _ => exact f₁.elim
  | ret p => cases f with
    | ret v => exact wpAny_pure ⟨g₁, σ₁, ρ₁, m₁, .ret _, R₁, L₁, l₁, f₁, q₁⟩
    | _ => exact f₁.elim
end
end Mine
end

section
open PySem PySem.W PyProof.Rows PySem.Calls Builtin Builtin.ObjectAttr
set_option Elab.async false
set_option linter.unusedVariables false
set_option maxRecDepth 100000
namespace Mine

section
variable {c : Sx} {F : Addr} {env : Env} {fr : List FrG} {held : List (Addr × Obj)} {lv : Nat} {hd : Option Nat} {A : Around} {g g' : Gh} {σ σ' : St} {s s' : Shared} {ρ : Loc} {m : Str → Option Value} {sc : Scope}
variable {g₀ : Gh} {n₀ : Nat} {h₀ : Heap} {X : Nat → Loc → St → Prop} {Q : Fl → Loc → St → Prop}

/-- a suite that is run by itself comes back with an exception -/
theorem suite_out {A' : Around} (hA : A.frames = some (env :: fr.filterMap (·.env))) (hA' : A'.frames = some (env :: fr.filterMap (·.env))) {e : Value} (x : GV c F env fr held g₀ n₀ h₀ X e s) :
    notedBy (model c.prog c.w) A' env (cameBackBy (model c.prog c.w) A env (GV c F env fr held g₀ n₀ h₀ X)) e s :=
  noted_gv hA' x fun s₁ z => came_gv z fun s₂ z => z

/-- the test of a clause -/
theorem clause_test (V : ∀ m, EnvOk sc env (frm F env m)) {A' : Around} {i : Nat} (R : Rep c.toCx g held (frm F env m :: fr) σ s) (hi : IsExc c.toCx σ i) {x : Str} {np pos : Pos} (hx : x = c.cc.exc) (hk : sc.names.lookup x = some .globalImplicit)
    {R' : Result → Shared → Prop} (h : R' (.ok .brk) s) : codeAny (model c.prog c.w) A' (.handlers (.ref (g.loc i)) [.ExceptHandler (some (.Name x np)) none [] pos] env) R' s := by
  have hmg : s.heap.Ns env.globals c.mg := by rw [(V m).glob]; exact c.hmg.keeps R.stays
  refine codeAny_handlers_test (Calls.Name_function_global (V m).kind (by unfold Env.kindOf; rw [(V m).names]; exact hk) (Calls.loadGlobal_global hmg (by rw [hx]; exact c.hexcn) ?_) (by rw [hx]; exact c.hexcd))
  exact (exm_one R.K (R.tyExc hi) c.hexc.2.2).here h

theorem mark_pre {A : Around} {i : Nat} (P : Pre c lv hd (frm F env m) fr held ρ A g σ s) {g₁ : Gh} {σ₁ : St} {s₁ : Shared} {ρ₁ : Loc} {m₁ : Str → Option Value} (R : Rep c.toCx g₁ held (frm F env m₁ :: fr) σ₁ s₁) (hi : IsExc c.toCx σ₁ i) (l : LRep c.toCx s₁.heap g₁.loc σ₁.n ρ₁ m₁) :
    Pre c lv (some i) (frm F env m₁) fr held ρ₁ (A.mark (some (.ref (g₁.loc i)))) g₁ σ₁ s₁ := by
  exact ⟨P.room, P.frames, ⟨rfl, hi.elim fun fs hi => hi.elim fun ch hi => R.lt hi⟩, R, l⟩

theorem try_s (V : ∀ m, EnvOk sc env (frm F env m)) {b : List Stmt} {h₁ : Stmt} {hb : List Stmt} {x : Str} {np hp pos : Pos} (hx : x = c.cc.exc) (hk : sc.names.lookup x = some .globalImplicit) {W : WS} {Wh : Nat → WS} (M : SOk c F env fr held lv hd W (execs b env)) (Mh : ∀ i, SOk c F env fr held lv (some i) (Wh i) (execs (h₁ :: hb) env)) :
    SOk c F env fr held lv hd (fun ρ σ Q X => W ρ σ Q (fun i ρ σ => Wh i ρ σ (fun fl ρ σ => Q fl ρ σ) (fun j ρ σ => X j ρ σ))) (exec (.Try b [.ExceptHandler (some (.Name x np)) none (h₁ :: hb) hp] [] [] pos) env) := by
  intro A g σ s ρ m Q X P h
  have hA := frames_eq P
  refine wpAny_Try_except (wpAny_mono (M A g σ s ρ m _ _ P h) (fun f s₁ z => ?_) fun e s₁ z => z.casesOn fun g₁ σ₁ ρ₁ m₁ i R₁ L₁ l₁ r hi hw => ?_)
  · cases f <;> first | exact wpAny_pure z | exact z
  · rw [r]
    refine note_ok (f := frm F env m₁) R₁ hi hA rfl fun s₂ R₂ L₂ _ => ?_
    refine flight_ok R₂ hi fun s₃ R₃ L₃ _ => ?_
    have L13 := L₂.trans L₃
    refine wpAny_handleBy_cons (clause_test V R₃ hi hx hk ?_) (by intro q; cases q)
    refine codeAny_handlers_suite (flight_ok R₃ hi fun s₄ R₄ L₄ _ => ?_)
    have L14 := L13.trans L₄
    have L04 := L₁.trans L14
    have P₄ := mark_pre P R₄ hi (l₁.le L14)
    exact wpAny_mono (Mh i _ _ _ _ _ _ _ _ P₄ hw) (fun f s₅ z => z.casesOn fun a b d e f' h1 h2 h3 h4 h5 => ⟨a, b, d, e, f', h1, L04.trans h2, h3, h4, h5⟩) fun e s₅ z => suite_out (A := A) (A' := A.mark (some (.ref (g₁.loc i)))) hA hA (z.lift L04)

theorem gone_ok (V : ∀ m, EnvOk sc env (frm F env m)) {A' : Around} {n : Str} {k : Nat} (hn : c.cc.loc sc n = some k) (R : Rep c.toCx g held (frm F env m :: fr) σ s) (l : LRep c.toCx s.heap g.loc σ.n ρ m) {pos : Pos} {E : Value → Shared → Prop} {Q : Unit → Shared → Prop}
    (hQ : ∀ s' m', Rep c.toCx g held (frm F env m' :: fr) σ s' → Le g σ.n s.heap g σ.n s'.heap → LRep c.toCx s'.heap g.loc σ.n (clr ρ k) m' → (∀ a, HasTb c.toCx s.heap a → HasTb c.toCx s'.heap a) → Q () s') :
    wpAny (model c.prog c.w) A' (do bindName env n .none; unbindBehindTheSuite env n pos) Q E s := by
  have hl := loc_is hn
  have hnk := c.hnm n k hl.2
  have hns0 := (R.frs (frm F env m) (.head _)).1
  refine wpAny_nameGoes_keeps (m := m) (by unfold Env.kindOf; rw [(V m).names]; exact hl.1) (by rw [(V m).loc]; exact hns0) (by rw [(V m).kind]; rfl) fun h' v hns hs => ?_
  rw [(V m).loc] at hns hs
  have z := R.setFr (s' := { s with heap := h', toks := s.toks + 1 }) (f := frm F env m) (Ext.of_sameBut hs) hns rfl rfl
  exact hQ _ _ z.1 z.2 (fun j p hj => (Classical.em (j = k)).elim (fun e => absurd ((if_pos e).symm.trans hj).symm (Option.some_ne_none _)) fun e => (l j p ((if_neg e).symm.trans hj)).imp fun w y => ⟨(if_neg fun q => e (c.inj _ _ (q.trans hnk.symm))).trans y.1, z.2.rep y.2⟩)
    fun a H => H.casesOn fun o vs T t1 t2 t3 t4 t5 => ⟨o, vs, T, (hs.2 a fun e => (Heap.Ns.obj hns0).elim fun o' y => y.elim fun _ y => y.elim fun _ y => Data.noConfusion (t2.symm.trans (Option.some.inj (t1.symm.trans (e ▸ y.1)) ▸ y.2))).trans t1, t2, t3, Heap.Ns.keepTb hns0 (Ext.of_sameBut hs) T t4, t5⟩

theorem tryAs_s (V : ∀ m, EnvOk sc env (frm F env m)) {b : List Stmt} {h₁ : Stmt} {hb : List Stmt} {x n : Str} {k : Nat} {np hp pos : Pos} (hx : x = c.cc.exc) (hk : sc.names.lookup x = some .globalImplicit) (hn : c.cc.loc sc n = some k) {W : WS} {Wh : Nat → WS} (M : SOk c F env fr held lv hd W (execs b env)) (Mh : ∀ i, SOk c F env fr held lv (some i) (Wh i) (execs (h₁ :: hb) env)) :
    SOk c F env fr held lv hd (fun ρ σ Q X => W ρ σ Q (fun i ρ σ => Wh i (upd ρ k (.ref i)) σ (fun fl ρ σ => Q fl (clr ρ k) σ) (fun j ρ σ => X j (clr ρ k) σ))) (exec (.Try b [.ExceptHandler (some (.Name x np)) (some n) (h₁ :: hb) hp] [] [] pos) env) := by
  intro A g σ s ρ m Q X P h
  have hA := frames_eq P
  refine wpAny_Try_except (wpAny_mono (M A g σ s ρ m _ _ P h) (fun f s₁ z => ?_) fun e s₁ z => z.casesOn fun g₁ σ₁ ρ₁ m₁ i R₁ L₁ l₁ r hi hw => ?_)
  · cases f <;> first | exact wpAny_pure z | exact z
  · rw [r]
    refine note_ok (f := frm F env m₁) R₁ hi hA rfl fun s₂ R₂ L₂ _ => ?_
    refine flight_ok R₂ hi fun s₃ R₃ L₃ _ => ?_
    have L13 := L₂.trans L₃
    refine wpAny_handleBy_cons (clause_test V R₃ hi hx hk ?_) (by intro q; cases q)
    refine codeAny_handlers_suite_as (flight_ok R₃ hi fun s₄ R₄ L₄ _ => ?_)
    have L14 := L13.trans L₄
    have L04 := L₁.trans L14
    have P₄ := mark_pre P R₄ hi (l₁.le L14)
    refine store_ok V P₄ hn (.ref i P₄.hd.2) fun s₅ P₅ L₅ => ?_
    have L05 := L04.trans L₅
    refine wpAny_mono (Mh i _ _ _ _ _ _ _ _ P₅ hw) (fun f s₆ z => z.casesOn fun g₆ σ₆ ρ₆ m₆ fl R₆ L₆ l₆ f₆ q₆ => gone_ok V hn R₆ l₆ fun s₇ m₇ R₇ L₇ l₇ _ => ⟨g₆, σ₆, _, m₇, fl, R₇, L05.trans (L₆.trans L₇), l₇, f₆.le L₇, q₆⟩) fun e s₆ z => z.casesOn fun g₆ σ₆ ρ₆ m₆ j R₆ L₆ l₆ r₆ hj q₆ => ?_
    rw [r₆]
    refine note_ok (A := A.mark (some (.ref (g₁.loc i)))) (f := frm F env m₆) R₆ hj hA rfl fun s₇ R₇ L₇ H₇ => gone_ok V hn R₇ (l₆.le L₇) fun s₈ m₈ R₈ L₈ l₈ H₈ => (H₈ _ H₇).casesOn fun o vs T t1 t2 t3 t4 t5 => ?_
    unfold PySem.passOn
    refine wpAny_bind (wpAny_field t1 t2 t3 ?_)
    rw [if_neg ref_some]
    exact wpAny_bind (flight_ok R₈ hj fun s₉ R₉ L₉ H₉ => wpAny_throw (suite_out (A := A) (A' := A.mark (some (.ref (g₁.loc i)))) hA hA ⟨g₆, σ₆, _, m₈, j, R₉, L05.trans (L₆.trans (L₇.trans (L₈.trans L₉))), l₈.le L₉, rfl, hj, q₆⟩))
end
end Mine
end

section
open PySem PySem.W PyProof.Rows PySem.Calls Builtin Builtin.ObjectAttr
set_option Elab.async false
set_option linter.unusedVariables false
set_option maxRecDepth 100000
namespace Mine

section
variable {c : Sx} {F : Addr} {env : Env} {fr : List FrG} {lv : Nat} {sc : Scope}

/-- a statement does what its compiled form asks -/
noncomputable def SC (c : Sx) (F : Addr) (env : Env) (fr : List FrG) (held : List (Addr × Obj)) (lv : Nat) (hd : Option Nat) (x : S) (t : Sem Flow) : Prop := SOk c F env fr held lv hd (fun ρ σ Q X => wpS c lv x hd ρ σ Q X) t
theorem SOk.bad {held : List (Addr × Obj)} {hd : Option Nat} {t : Sem Flow} : SC c F env fr held lv hd .bad t := fun A g σ s ρ m Q X P h => False.elim h

structure TOkS (c : Sx) (F : Addr) (env : Env) (fr : List FrG) (lv : Nat) (sc : Scope) (n : Nat) : Prop where
  s : ∀ held hd t, SC c F env fr held lv hd (compS c.cc n sc t) (exec t env)
  ss : ∀ held hd ts, SOk c F env fr held lv hd (fun ρ σ Q X => wpSs c lv (compSs c.cc n sc ts) hd ρ σ Q X) (execs ts env)

theorem tok0 : TOkS c F env fr lv sc 0 where
  s := fun held hd t => SOk.bad
  ss := fun held hd ts A g σ s ρ m Q X P h => False.elim h

section
variable {n : Nat} {held : List (Addr × Obj)} {hd : Option Nat} {b : List Stmt}
theorem alc_step (V : ∀ m, EnvOk sc env (frm F env m)) {x : Str} {px : Pos} {elt : Expr} {sc' : Scope} {pos : Pos} {gs : List Comprehension} {p : Pos} :
    SC c F env fr held lv hd (alcS c.cc (comp c.cc n) sc x px elt sc' pos gs) (exec (.Assign [.Name x px] (.ListComp elt gs sc' pos) p) env) := by
  have Ee := fun e m ρ => (xok (c := c) (lv := lv) (hd := hd) n).e sc env (frm F env m) fr held ρ e (V m)
  unfold alcS
  cases genV gs with
  | none => exact SOk.bad
  | some z =>
    obtain ⟨⟨y, py, it⟩, rfl⟩ := z
    dsimp only
    cases hi : c.cc.loc sc x with
    | none => exact SOk.bad
    | some i =>
      cases hj : c.cc.idx y with
      | none => exact SOk.bad
      | some j =>
        dsimp only
        split
        · rename_i hc
          exact asgComp_s (We := fun ρ' => (wp c lv hd (compE c.cc n _ _) ρ').e) V hi hc.1 hc.2.1 hj hc.2.2.1 hc.2.2.2.1 hc.2.2.2.2.1 hc.2.2.2.2.2 (Ee _) (fun m fc held' ρ' cenv V' => (xok (c := c) (lv := lv) (hd := hd) n).e _ _ _ _ _ _ _ V')
        · exact SOk.bad
theorem asg_step (V : ∀ m, EnvOk sc env (frm F env m)) {ts : List Expr} {e : Expr} {p : Pos} : SC c F env fr held lv hd (asgS c.cc n sc e ts) (exec (.Assign ts e p) env) := by
  have Ee := fun e m ρ => (xok (c := c) (lv := lv) (hd := hd) n).e sc env (frm F env m) fr held ρ e (V m)
  cases ts with
  | nil => exact SOk.bad
  | cons t ts =>
    cases ts with
    | cons _ _ => exact SOk.bad
    | nil =>
      show SC c F env fr held lv hd (if isComp e then (match lcV e, nameV t with
          | some x, some y => alcS c.cc (comp c.cc n) sc y.1.1 y.1.2 x.1.1 x.1.2.2.1 x.1.2.2.2 x.1.2.1
          | _, _ => .bad) else if (isTupT t && isTupT e) || !noStar t then .bad else .asg (compT c.cc n sc t) (compE c.cc n sc e)) _
      cases hc : isComp e with
      | true =>
        rw [if_pos rfl]
        cases lcV e with
        | none => exact SOk.bad
        | some x =>
          cases nameV t with
          | none => exact SOk.bad
          | some y =>
            obtain ⟨⟨elt, gs, sc', pos⟩, rfl⟩ := x
            obtain ⟨⟨x, px⟩, rfl⟩ := y
            exact alc_step V
      | false =>
        rw [if_neg (by decide)]
        split
        · exact SOk.bad
        · rename_i hd'
          rw [Bool.or_eq_true, not_or] at hd'
          exact asg_s hc (Bool.not_eq_true _ ▸ hd'.1) (Ee _) (tgt_ok V _) (Bool.not_eq_false _ ▸ fun q => hd'.2 (by rw [q]; rfl))
theorem for_step (V : ∀ m, EnvOk sc env (frm F env m)) (H : ∀ held, SOk c F env fr held lv hd (fun ρ σ Q X => wpSs c lv (compSs c.cc n sc b) hd ρ σ Q X) (execs b env)) {t e : Expr} {o : List Stmt} {p : Pos} :
    SC c F env fr held lv hd (forS c.cc n sc t e (compSs c.cc n sc b) o) (exec (.For t e b o p) env) := by
  have Ee := fun e m ρ => (xok (c := c) (lv := lv) (hd := hd) n).e sc env (frm F env m) fr held ρ e (V m)
  cases o with
  | cons _ _ => exact SOk.bad
  | nil =>
    unfold forS
    dsimp only
    cases oneV e with
    | some x =>
      obtain ⟨⟨y, q, a, p'⟩, rfl⟩ := x
      dsimp only
      split
      · rename_i hc
        rw [hc.1]
        exact forR_s V (hc.1 ▸ hc.2.1) hc.2.2 (Ee _) (fun held => tgt_ok V _) H
      · split
        · rename_i hc
          rw [hc.1]
          exact forV_s V (hc.1 ▸ hc.2.1) hc.2.2 (Ee _) (fun held => tgt_ok V _) H
        · exact for_s rfl (Ee _) (fun held => tgt_ok V _) H
    | none =>
      dsimp only
      split
      · exact SOk.bad
      · rename_i hs
        exact for_s (Bool.not_eq_true _ ▸ hs) (Ee _) (fun held => tgt_ok V _) H
theorem try_step (V : ∀ m, EnvOk sc env (frm F env m)) (H : TOkS c F env fr lv sc n) {b : List Stmt} {hs : List ExceptHandler} {o f : List Stmt} {p : Pos} :
    SC c F env fr held lv hd (tryS c.cc (compSs c.cc n sc) sc (compSs c.cc n sc b) hs o f) (exec (.Try b hs o f p) env) := by
  cases hs with
  | nil => exact SOk.bad
  | cons h hs =>
    cases hs with
    | cons _ _ => cases h with | ExceptHandler t nm body hp => cases t <;> cases body <;> exact SOk.bad
    | nil =>
      cases h with | ExceptHandler t nm body hp =>
      cases t with
      | none => exact SOk.bad
      | some t =>
        cases body with
        | nil => exact SOk.bad
        | cons h₀ h =>
          cases o with
          | cons _ _ => exact SOk.bad
          | nil =>
            cases f with
            | cons _ _ => exact SOk.bad
            | nil =>
              show SC c F env fr held lv hd (match nameV t with | some y => hndS c.cc sc (compSs c.cc n sc b) (compSs c.cc n sc (h₀ :: h)) y.1.1 nm | none => .bad) _
              cases nameV t with
              | none => exact SOk.bad
              | some y =>
                obtain ⟨⟨y, q⟩, rfl⟩ := y
                unfold hndS
                dsimp only
                split
                · rename_i hc
                  rw [Bool.and_eq_true, Bool.and_eq_true, beq_iff_eq, beq_iff_eq] at hc
                  cases nm with
                  | none => exact try_s V hc.1.1 hc.1.2 (H.ss held hd _) (fun i => H.ss held (some i) _)
                  | some x =>
                    dsimp only
                    cases hi : c.cc.loc sc x with
                    | none => exact SOk.bad
                    | some i => exact tryAs_s V hc.1.1 hc.1.2 hi (H.ss held hd _) (fun i => H.ss held (some i) _)
                · exact SOk.bad
end

theorem s_step (V : ∀ m, EnvOk sc env (frm F env m)) {n : Nat} (H : TOkS c F env fr lv sc n) : ∀ held hd t, SC c F env fr held lv hd (compS c.cc (n + 1) sc t) (exec t env) := by
  intro held hd t
  have Ee := fun e m ρ => (xok (c := c) (lv := lv) (hd := hd) n).e sc env (frm F env m) fr held ρ e (V m)
  have Et := fun e m ρ => (xok (c := c) (lv := lv) (hd := hd) n).t sc env (frm F env m) fr held ρ e (V m)
  show SC c F env fr held lv hd (stepS c.cc n (compZ c.cc n) sc t) _
  cases t with
  | Expr e p =>
    show SC c F env fr held lv hd (if isCall e then .expr (compE c.cc n sc e) else .bad) _
    split
    · rename_i hc; exact expr_s V hc (Ee _)
    · exact SOk.bad
  | Pass p => exact fun A g σ s ρ m Q X P h => wpAny_bind (wpAny_standAt (wpAny_pure ⟨g, σ, ρ, m, .next, P.R, Le.refl .., P.L, trivial, h⟩))
  | Break p => exact fun A g σ s ρ m Q X P h => wpAny_bind (wpAny_standAt (wpAny_pure ⟨g, σ, ρ, m, .brk, P.R, Le.refl .., P.L, trivial, h⟩))
  | Continue p => exact fun A g σ s ρ m Q X P h => wpAny_bind (wpAny_standAt (wpAny_pure ⟨g, σ, ρ, m, .cont, P.R, Le.refl .., P.L, trivial, h⟩))
  | Return e p =>
    cases e with
    | none => exact ret0_s
    | some e => exact ret_s (Ee _)
  | Assign => exact asg_step V
  | AugAssign t o e p =>
    show SC c F env fr held lv hd (augS c.cc (compE c.cc n sc) sc o e t) _
    unfold augS
    cases nameV t with
    | none => exact SOk.bad
    | some y =>
      obtain ⟨⟨y, q⟩, rfl⟩ := y
      dsimp only
      cases hi : c.cc.loc sc y with
      | some i => exact aug_s V hi (Ee _)
      | none => exact SOk.bad
  | If => exact if_s (Et _) (H.ss held hd _) (H.ss held hd _)
  | While t b o p =>
    cases o with
    | nil => exact while_s (Et _) (H.ss held hd _)
    | cons _ _ => exact SOk.bad
  | For => exact for_step V (fun held => H.ss held hd _)
  | Raise e c p =>
    cases e with
    | none => exact SOk.bad
    | some e =>
      cases c with
      | none => exact raise_s (Ee _)
      | some _ => exact SOk.bad
  | Try => exact try_step V H
  | _ => exact SOk.bad

theorem ss_step {n : Nat} (H : TOkS c F env fr lv sc n) : ∀ held hd ts, SOk c F env fr held lv hd (fun ρ σ Q X => wpSs c lv (compSs c.cc (n + 1) sc ts) hd ρ σ Q X) (execs ts env) := by
  intro held hd ts
  cases ts with
  | nil => exact execs_nil_s
  | cons t r => exact execs_cons_s (H.s held hd t) (H.ss held hd r)

theorem tok (V : ∀ m, EnvOk sc env (frm F env m)) : ∀ n, TOkS c F env fr lv sc n
  | 0 => tok0
  | n + 1 => ⟨s_step V (tok V n), ss_step (tok V n)⟩
end
end Mine
end

section
open PySem PySem.W PyProof.Rows PySem.Calls Builtin Builtin.ObjectAttr
set_option Elab.async false
set_option linter.unusedVariables false
set_option maxRecDepth 100000
namespace Mine

/-- a function of the program -/
structure FnAt (c : Sx) (a : Addr) (fd : FuncData) (body : List Stmt) (xs : List Str) : Prop where
  look : ∃ o, c.K.lookup a = some o ∧ o.data = .func fd
  code : ∀ h, c.K.In h → h.CodeRec fd.code fd.qualname
  body : fd.body = .stmts body
  cell : ∀ x ∈ fd.scope.names, x.2 ≠ .cell
  loc : ∀ x ∈ xs, fd.scope.names.lookup x = some .local
  nd : xs.Nodup
  co : fd.scope.isCoroutine = false
  gen : fd.scope.isGenerator = false
  kind : fd.scope.kind = .function
  glob : fd.globals = mainGlobals
  blt : fd.builtins = builtinsNs

noncomputable def retOf : Fl → PV
  | .ret p => p
  | _ => .none

section
variable {c : Sx} {lv : Nat} {hd : Option Nat}

theorem lookup_rev {V : Type} : ∀ {xs : List Str} {vs : List V}, xs.Nodup → xs.length = vs.length → ∀ {i : Nat} {x : Str} {v : V}, xs[i]? = some x → vs[i]? = some v → (xs.zip vs).reverse.lookup x = some v
  | [], _, _, _, i, _, _, h, _ => by simp at h
  | _ :: _, [], _, h, _, _, _, _, _ => by simp at h
  | y :: ys, w :: ws, hn, hl, i, x, v, hx, hv => by
    rw [List.nodup_cons] at hn
    rw [List.zip_cons_cons, List.reverse_cons, List.lookup_append]
    cases i with
    | zero =>
      simp at hx hv; subst hx; subst hv
      have : (ys.zip ws).reverse.lookup y = none := by
        rw [List.lookup_eq_none_iff]
        intro p hp
        have := List.mem_reverse.mp hp
        have := (List.of_mem_zip (show (p.1, p.2) ∈ ys.zip ws from this)).1
        rw [bne_iff_ne]; rintro rfl; exact hn.1 this
      rw [this]; simp
    | succ i =>
      rw [lookup_rev hn.2 (by simpa using hl) (by simpa using hx) (by simpa using hv)]; rfl

theorem updAll_get : ∀ {ks : List Nat} {ps : List PV} {ρ : Loc} {k : Nat} {p : PV}, updAll ρ ks ps k = some p → ρ k = some p ∨ ∃ i : Nat, ks[i]? = some k ∧ ps[i]? = some p
  | [], _, ρ, k, p, h => .inl h
  | _ :: _, [], ρ, k, p, h => .inl h
  | x :: ks, q :: ps, ρ, k, p, h => by
    rcases updAll_get (ks := ks) (ps := ps) h with h | ⟨i, h1, h2⟩
    · unfold upd at h
      by_cases e : k = x
      · rw [if_pos e] at h; cases h; exact .inr ⟨0, by simp [e], rfl⟩
      · rw [if_neg e] at h; exact .inl h
    · exact .inr ⟨i + 1, by simpa using h1, by simpa using h2⟩

/-- the same of the call's code -/
noncomputable def CodeOk (c : Sx) (lv : Nat) (hd : Option Nat) (f : Value) (ps : List PV) (σ : St) (Q : PV → St → Prop) (X : Nat → St → Prop) : Prop :=
  ∀ (A : Around) (s : Shared) (g : Gh) (held : List (Addr × Obj)) (fr : List FrG) (vs : List Value), Room A lv → A.frames = some (fr.filterMap (·.env)) → HdOk g σ.n A hd → Rep c.toCx g held fr σ s →
    VReps s.heap g.loc σ.n ps vs → codeAny (model c.prog c.w) A (.call f ⟨vs, []⟩) (RV c.toCx held fr g σ.n s.heap Q X) s
theorem CodeOk.call {f : Value} {ps : List PV} {σ : St} {Q : PV → St → Prop} {X : Nat → St → Prop} (h : CodeOk c lv hd f ps σ Q X) : CallOk c lv hd f ps σ Q X := fun A s g held fr vs a b d R r =>
  wpAny_call (codeAny_mono (h A s g held fr vs a b d R r) fun r s' z => by rcases r with e | (v | _ | _ | _) <;> exact z)

theorem func_code {a : Addr} {fd : FuncData} {body : List Stmt} {xs : List Str} {ks : List Nat} {N np : Nat} {ds : List Value} {pd ps : List PV} (FA : FnAt c a fd body xs) (hks : xs.map c.cc.idx = ks.map some)
    (hb : ∀ (s : Shared) (vs : List Value), c.K.In s.heap → vs.length = np → BindsTo s fd ⟨vs, []⟩ (xs.zip (vs ++ ds))) (hds : ∀ h loc n, VReps h loc n pd ds) (hn : ps.length = np) (hnp : np + pd.length = xs.length)
    {σ : St} {Q : PV → St → Prop} {X : Nat → St → Prop} (h : wpSs c lv (compSs c.cc N fd.scope body) hd (updAll (fun _ => none) ks (ps ++ pd)) σ (fun fl _ σ => Q (retOf fl) σ) (fun i _ σ => X i σ)) :
    CodeOk c (lv + 1) hd (.ref a) ps σ Q X := by
  intro A s g held fr vs hroom hfr hhd R r
  obtain ⟨o, ho, hdata⟩ := FA.look
  have hK := R.K
  have hvl : vs.length = np := by rw [r.length, hn]
  obtain ⟨hr1, hr2⟩ := hroom
  refine codeAny_call_def (by show A.depth < 1000; omega) (hK _ _ ho) hdata (c.lim.keeps R.stays) (FA.code _ hK) FA.body (hb s vs hK hvl) FA.cell (fun x hx => FA.loc _ (List.of_mem_zip (show (x.1, x.2) ∈ _ from hx)).1) (fun h₀ hns hk => ?_) FA.co FA.gen FA.kind
  have hV : ∀ m, EnvOk fd.scope (callEnv fd s.heap.objs.size a) (frm s.heap.objs.size (callEnv fd s.heap.objs.size a) m) := fun m => ⟨FA.kind, rfl, FA.glob, FA.blt, rfl⟩
  generalize hF : s.heap.objs.size = F at hns hV ⊢
  have hfrs : ∀ e, some (callEnv fd F a) = some e → e.frame = some F ∧ e.scope.kind ≠ .module := fun e he => by
    cases he; exact ⟨rfl, by show fd.scope.kind ≠ _; rw [FA.kind]; simp⟩
  obtain ⟨R', L'⟩ := R.enter (s' := { s with heap := h₀, toks := s.toks + (xs.zip (vs ++ ds)).length }) (env := some (callEnv fd F a)) (L := F) (by rw [← hF]; exact Heap.get?_none_of_le (Nat.le_refl _)) hns hk hfrs rfl rfl
  have rr := (L'.reps r).append (hds h₀ _ _)
  have P : Pre c lv hd (frm F (callEnv fd F a) fun x => (xs.zip (vs ++ ds)).reverse.lookup x) fr held (updAll (fun _ => none) ks (ps ++ pd)) (A.deeper (callEnv fd F a)) { g with role := fun a => if a = F then .frame else g.role a } σ { s with heap := h₀, toks := s.toks + (xs.zip (vs ++ ds)).length } := by
    refine ⟨⟨by show A.depth + 1 + _ < _; omega, by show A.units + 3 + _ < _; omega⟩, ?_, ?_, R', fun k p hkp => ?_⟩
    · show A.frames.map _ = _
      rw [hfr]; rfl
    · cases hd with
      | none => exact hhd
      | some i => exact hhd
    · rcases updAll_get hkp with hkp | ⟨i, h1, h2⟩
      · cases hkp
      · obtain ⟨v, hv, rv⟩ := rr.get h2
        have hx : (xs.map c.cc.idx)[i]? = some (some k) := by rw [hks, List.getElem?_map, h1]; rfl
        rw [List.getElem?_map] at hx
        obtain ⟨x, hx1, hx2⟩ := Option.map_eq_some_iff.mp hx
        refine ⟨v, ?_, rv⟩
        rw [c.hnm x k hx2]
        have hds' := (hds h₀ (fun _ => 0) 0).length
        exact lookup_rev FA.nd (by rw [List.length_append, hvl, hds']; exact hnp.symm) hx1 hv
  refine wpAny_mono ((tok hV N).ss held hd body _ _ _ _ _ _ _ _ P h) (fun f s₁ z => ?_) fun e s₁ z => ?_
  · obtain ⟨g₁, σ₁, ρ₁, m₁, fl, R₁, L₁, l₁, f₁, q₁⟩ := z
    have fin : ∀ p v, VRep s₁.heap g₁.loc σ₁.n p v → Q p σ₁ → RV c.toCx held fr g σ.n s.heap Q X (.ok (.ret v)) s₁ := fun p v rv hq => ⟨g₁, σ₁, p, R₁.pop, L'.trans L₁, rv, hq⟩
    cases fl <;> cases f <;> first | exact f₁.elim | skip
    · exact fin .none .none .none q₁
    · exact fin .none .none .none q₁
    · exact fin .none .none .none q₁
    · exact fin _ _ f₁ q₁
  · obtain ⟨g₁, σ₁, ρ₁, m₁, i, R₁, L₁, l₁, rfl, hi, q₁⟩ := z
    unfold leaving
    refine wpAny_bind (note_ok (f := frm F (callEnv fd F a) m₁) R₁ hi P.frames rfl fun s₂ R₂ L₂ _ => ?_)
    refine flight_ok R₂ hi fun s₃ R₃ L₃ _ => ?_
    exact ⟨g₁, σ₁, i, R₃.pop, L'.trans (L₁.trans (L₂.trans L₃)), rfl, hi, q₁⟩
theorem func_ok {a : Addr} {fd : FuncData} {body : List Stmt} {xs : List Str} {ks : List Nat} {N np : Nat} {ds : List Value} {pd ps : List PV} (FA : FnAt c a fd body xs) (hks : xs.map c.cc.idx = ks.map some)
    (hb : ∀ (s : Shared) (vs : List Value), c.K.In s.heap → vs.length = np → BindsTo s fd ⟨vs, []⟩ (xs.zip (vs ++ ds))) (hds : ∀ h loc n, VReps h loc n pd ds) (hn : ps.length = np) (hnp : np + pd.length = xs.length)
    {σ : St} {Q : PV → St → Prop} {X : Nat → St → Prop} (h : wpSs c lv (compSs c.cc N fd.scope body) hd (updAll (fun _ => none) ks (ps ++ pd)) σ (fun fl _ σ => Q (retOf fl) σ) (fun i _ σ => X i σ)) :
    CallOk c (lv + 1) hd (.ref a) ps σ Q X :=
  (func_code FA hks hb hds hn hnp h).call
end
end Mine
end

section
open PySem PySem.W PyProof.Rows PySem.Calls Builtin Builtin.ObjectAttr
set_option Elab.async false
set_option linter.unusedVariables false
set_option maxRecDepth 100000
namespace Mine

section
variable {c : Sx} {lv : Nat} {hd : Option Nat} {σ : St} {Q : PV → St → Prop} {X : Nat → St → Prop}

theorem VReps.one {h : Heap} {loc : Nat → Addr} {n : Nat} {p : PV} {vs : List Value} (r : VReps h loc n [p] vs) : ∃ v, vs = [v] ∧ VRep h loc n p v := by
  cases r with | cons r1 r => cases r; exact ⟨_, rfl, r1⟩
theorem VReps.two {h : Heap} {loc : Nat → Addr} {n : Nat} {p q : PV} {vs : List Value} (r : VReps h loc n [p, q] vs) : ∃ v w, vs = [v, w] ∧ VRep h loc n p v ∧ VRep h loc n q w := by
  cases r with | cons r1 r => obtain ⟨w, rfl, r2⟩ := r.one; exact ⟨_, w, rfl, r1, r2⟩
theorem VReps.three {h : Heap} {loc : Nat → Addr} {n : Nat} {p q t : PV} {vs : List Value} (r : VReps h loc n [p, q, t] vs) : ∃ v w u, vs = [v, w, u] ∧ VRep h loc n p v ∧ VRep h loc n q w ∧ VRep h loc n t u := by
  cases r with | cons r1 r => obtain ⟨w, u, rfl, r2, r3⟩ := r.two; exact ⟨_, w, u, rfl, r1, r2, r3⟩

theorem len_ok {i : Nat} {vs : List PV} (hi : σ.at_ i = some (.list vs)) (hQ : Q (.int vs.length) σ) : CallOk c lv hd (.builtin "len") [.ref i] σ Q X := by
  intro A s g held fr us hroom hfr hhd R r
  obtain ⟨v, rfl, rv⟩ := r.one
  obtain ⟨rfl, _⟩ := rv.ref_eq
  obtain ⟨xs, k, a1, a2⟩ := R.list hi
  have hl := R.llen hi
  have hz : xs.toArray.size = vs.length := by rw [List.size_toArray, a2.length]
  refine Calls.call_len_list a1.isList (by rw [hz]; omega) ?_
  rw [hz]
  exact qvt (s := s) R (.int _ _) hQ
theorem lenS_ok {x : List Nat} (hx : x.length ≤ 1000000) (hQ : Q (.int x.length) σ) : CallOk c lv hd (.builtin "len") [.str x] σ Q X := by
  intro A s g held fr us hroom hfr hhd R r
  obtain ⟨v, rfl, rv⟩ := r.one
  cases rv with | str _ t =>
  have e : (⟨x.toArray⟩ : Str).length = x.length := by show x.toArray.size = _; simp
  refine PySem.P.len_str (by rw [e]; omega) ?_
  rw [e]
  exact qvt (s := s) R (.int _ _) hQ
theorem chr_ok {i : Int} (h0 : 0 ≤ i) (h1 : i ≤ 1114111) (hQ : Q (.str [i.toNat]) σ) : CallOk c lv hd (.builtin "chr") [.int i] σ Q X := by
  intro A s g held fr us hroom hfr hhd R r
  obtain ⟨v, rfl, rv⟩ := r.one
  cases rv with | int _ t =>
  exact chr_of_range h0 h1 (qvt (s := s) R (.str [i.toNat] _) hQ)
theorem ord_ok {x : Nat} (hQ : Q (.int x) σ) : CallOk c lv hd (.builtin "ord") [.str [x]] σ Q X := by
  intro A s g held fr us hroom hfr hhd R r
  obtain ⟨v, rfl, rv⟩ := r.one
  cases rv with | str _ t =>
  exact PySem.P.ord_of_char (qvt (s := s) R (.int _ _) hQ)
theorem int_ok {i : Int} (hQ : Q (.int i) σ) : CallOk c lv hd (.type "int") [.int i] σ Q X := by
  intro A s g held fr us hroom hfr hhd R r
  obtain ⟨v, rfl, rv⟩ := r.one
  cases rv with | int _ t =>
  exact PySem.call_int_int (qv R (.int _ _) hQ)
theorem tupT_ok {vs : List PV} (hQ : Q (.tup vs) σ) : CallOk c lv hd (.type "tuple") [.tup vs] σ Q X := by
  intro A s g held fr us hroom hfr hhd R r
  obtain ⟨v, rfl, rv⟩ := r.one
  cases rv with | tup ha rr =>
  exact call_tuple_tup ha.isTup (qv R (.tup ha rr) hQ)
theorem tupL_ok {i : Nat} {vs : List PV} (hi : σ.at_ i = some (.list vs)) (hQ : Q (.tup vs) σ) : CallOk c lv hd (.type "tuple") [.ref i] σ Q X := by
  intro A s g held fr us hroom hfr hhd R r
  obtain ⟨v, rfl, rv⟩ := r.one
  obtain ⟨rfl, _⟩ := rv.ref_eq
  obtain ⟨xs, k, a1, a2⟩ := R.list hi
  have hl := R.llen hi
  refine PySem.call_tuple_list a1.isList (fun h' hk => ?_) (by rw [List.size_toArray, a2.length, sizeLine_eq]; omega)
  obtain ⟨R', L'⟩ := R.keeps (s' := { s with heap := h' }) hk rfl rfl
  exact QV.after L' (newT (s := { s with heap := h' }) (k := s.toks) R' (L'.reps a2) hQ)
theorem append_ok {i : Nat} {vs : List PV} {p : PV} (hi : σ.at_ i = some (.list vs)) (hl : vs.length ≤ 1000000) (hQ : Q .none (σ.put i (.list (vs ++ [p])))) : CallOk c lv hd (.builtin "list.append") [.ref i, p] σ Q X := by
  intro A s g held fr us hroom hfr hhd R r
  obtain ⟨v, w, rfl, rv, rw'⟩ := r.two
  obtain ⟨rfl, _⟩ := rv.ref_eq
  obtain ⟨xs, k, a1, a2⟩ := R.list hi
  refine call_meets slot_list_append ⟨_, a1, rfl⟩ entry_list_append (args_list_append _ _) (PySem.list_append (g.loc i) xs.toArray k w (by rw [List.size_toArray, a2.length, sizeLine_eq]; omega)) ⟨a1, ?_⟩
  obtain ⟨R', L'⟩ := list_put (f := fun x => x.push w) (t := s.toks) R hi a1 (us := xs ++ [w]) (by simp) (a2.snoc rw') (by rw [List.length_append]; show _ + 1 ≤ _; omega)
  exact ⟨g, _, _, R', L', .none, hQ⟩
theorem pop_ok {i : Nat} {vs : List PV} {p : PV} (hi : σ.at_ i = some (.list (vs ++ [p]))) (hQ : Q p (σ.put i (.list vs))) : CallOk c lv hd (.builtin "list.pop") [.ref i] σ Q X := by
  intro A s g held fr us hroom hfr hhd R r
  obtain ⟨v, rfl, rv⟩ := r.one
  obtain ⟨rfl, _⟩ := rv.ref_eq
  obtain ⟨xs, k, a1, a2⟩ := R.list hi
  have hl := R.llen hi
  have hxl := a2.length
  have hget : (vs ++ [p])[vs.length]? = some p := by simp
  obtain ⟨y, y1, y2⟩ := a2.get hget
  have hsz : xs.toArray.size - 1 = vs.length := by rw [List.size_toArray, hxl]; simp
  refine call_meets F.slot_list_pop ⟨_, a1, rfl⟩ F.entry_list_pop (F.args_list_pop_1 _) (PySem.MeetsSeq.list_pop_last (g.loc i) xs.toArray k y (by rw [hsz]; simpa using y1) (by rw [List.size_toArray, hxl, sizeLine_eq]; omega)) ⟨a1, ?_⟩
  have e : (fun xs' : Array Value => xs'.eraseIdxIfInBounds (xs.toArray.size - 1)) xs.toArray = (xs.take vs.length).toArray := by
    rw [hsz]
    have : vs.length < xs.length := by rw [hxl]; simp
    simp [Array.eraseIdxIfInBounds, this]
    rw [List.eraseIdx_eq_take_drop_succ]
    have : xs.drop (vs.length + 1) = [] := List.drop_of_length_le (by rw [hxl]; simp)
    rw [this, List.append_nil]
  have r' := a2.take vs.length
  rw [List.take_left'] at r'
  · obtain ⟨R', L'⟩ := list_put (f := fun xs' => xs'.eraseIdxIfInBounds (xs.toArray.size - 1)) (t := s.toks) R hi a1 e r' (by rw [List.length_append] at hl; omega)
    exact ⟨g, _, _, R', L', L'.rep y2, hQ⟩
  · rfl
theorem rev_ok {i : Nat} {vs : List PV} (hi : σ.at_ i = some (.list vs)) (hQ : Q .none (σ.put i (.list vs.reverse))) : CallOk c lv hd (.builtin "list.reverse") [.ref i] σ Q X := by
  intro A s g held fr us hroom hfr hhd R r
  obtain ⟨v, rfl, rv⟩ := r.one
  obtain ⟨rfl, _⟩ := rv.ref_eq
  obtain ⟨xs, k, a1, a2⟩ := R.list hi
  have hl := R.llen hi
  refine call_meets F.slot_list_reverse ⟨_, a1, rfl⟩ F.entry_list_reverse (F.args_list_reverse_1 _) (AutoSeq1.list_reverse_list_0 (g.loc i) xs.toArray k (by rw [List.size_toArray, a2.length, sizeLine_eq]; omega)) ⟨a1, ?_⟩
  obtain ⟨R', L'⟩ := list_put (f := fun x => x.reverse) (t := s.toks) R hi a1 (us := xs.reverse) (by simp) a2.reverse (by rw [List.length_reverse]; exact hl)
  exact ⟨g, _, _, R', L', .none, hQ⟩
theorem find_ok {x y : List Nat} (hQ : Q (.int (Txt.find ⟨x.toArray⟩ ⟨y.toArray⟩)) σ) : CallOk c lv hd (.builtin "str.find") [.str x, .str y] σ Q X := by
  intro A s g held fr us hroom hfr hhd R r
  obtain ⟨v, w, rfl, rv, rw'⟩ := r.two
  cases rv with | str _ t =>
  cases rw' with | str _ t' =>
  exact PySem.SC.find (qvt (s := s) R (.int _ _) hQ)
theorem join_ok {x : List Nat} {i : Nat} {ys : List (List Nat)} (hi : σ.at_ i = some (.list (ys.map .str))) (hz : (ys.map (·.length)).sum + ys.length * x.length ≤ 16777216)
    (hQ : Q (.str (Txt.join ⟨x.toArray⟩ (ys.map fun y => ⟨y.toArray⟩)).cps.toList) σ) : CallOk c lv hd (.builtin "str.join") [.str x, .ref i] σ Q X := by
  intro A s g held fr us hroom hfr hhd R r
  obtain ⟨v, w, rfl, rv, rw'⟩ := r.two
  cases rv with | str _ t =>
  obtain ⟨rfl, _⟩ := rw'.ref_eq
  obtain ⟨xs, k, a1, a2⟩ := R.list hi
  refine PyProof.Rows.join_list a1.isList (ys := ys.map fun y => ⟨y.toArray⟩) (strs_are ys a2) ?_ fun t' kk => ?_
  · rw [List.map_map, List.length_map]
    have e : ((fun x : Str => x.length) ∘ fun y : List Nat => (⟨y.toArray⟩ : Str)) = fun y => y.length := by funext y; show y.toArray.size = _; simp
    rw [e]
    have e2 : (⟨x.toArray⟩ : Str).length = x.length := by show x.toArray.size = _; simp
    rw [e2]; exact hz
  · refine qvt (s := s) R ?_ hQ
    have : ∀ z : Str, z = ⟨z.cps.toList.toArray⟩ := fun z => by cases z; simp
    rw (config := {occs := .pos [2]}) [this (Txt.join _ _)]
    exact .str _ _

theorem get_ok {i : Nat} {kvs : List (KV × PV)} {p d : PV} {k : KV} (hi : σ.at_ i = some (.dict kvs)) (hk : keyOf p = some k) (ha : ∀ x ∈ kvs, kindOf x.1 = kindOf k) (hQ : Q ((kvFind kvs k).getD d) σ) :
    CallOk c lv hd (.builtin "dict.get") [.ref i, p, d] σ Q X := by
  intro A s g held fr us hroom hfr hhd R r
  obtain ⟨v, w, u, rfl, rv, rw', ru⟩ := r.three
  rw [rv.ref_eq.1]
  refine (R.dict hi).casesOn fun _ _ _ ws _ _ _ dd e1 e2 => ?_
  have kk := kinds_par e1 ha
  have hval : ∀ t, QV c.toCx held fr g σ.n s.heap Q ((wFind ws k).getD u) { s with toks := t } := fun t =>
    (find_par e1 e2 k).elim (fun z => by rw [z.2]; rw [z.1] at hQ; exact qvt R ru hQ) fun z => z.elim fun y z => z.elim fun y' z => by rw [z.2.1]; rw [z.1] at hQ; exact qvt R z.2.2 hQ
  clear e1 e2 ha hQ
  refine keyOf_e (C := fun k w => (∀ x ∈ ws, kindOf x.1 = kindOf k) → (∀ t, QV c.toCx held fr g σ.n s.heap Q ((wFind ws k).getD u) { s with toks := t }) →
    wpAny (model c.prog c.w) A (call (.builtin "dict.get") [.ref (g.loc i), w, u]) (QV c.toCx held fr g σ.n s.heap Q) (XV c.toCx held fr g σ.n s.heap X) s) rw' hk (fun y t kk hval => ?_) (fun y t kk hval => ?_) (fun a b ad t1 t2 ht kk hval => ?_) kk hval
  · refine (dd.asS kk).elim fun l z => ?_
    rw [z.1, wFind_s] at hval
    exact PySem.call_meetsIn F.slot_dict_get z.2.mapOf.typeIs F.entry_dict_get (F.args_dict_get_3 _ _ _) (meets_dict_get_default _ _ (strKind_is _ _ _ _) (R.notSys hi) u) ⟨_, z.2.mapOf, hval _⟩
  · refine (dd.asI kk).elim fun l z => ?_
    rw [z.1, wFind_i] at hval
    exact PySem.call_meetsIn F.slot_dict_get z.2.mapOf.typeIs F.entry_dict_get (F.args_dict_get_3 _ _ _) (meets_dict_get_default _ _ (intKind_is _ _ _ _) (R.notSys hi) u) ⟨_, z.2.mapOf, hval _⟩
  · refine (dd.asT kk).elim fun l z => ?_
    rw [z.1, wFind_t] at hval
    exact PySem.call_meetsIn F.slot_dict_get z.2.typeIs F.entry_dict_get (F.args_dict_get_3 _ _ _) (meetsH_dict_get_default (tupleKind (intKind c.prog c.w)) _ ad (R.notSys hi) u)
      ⟨Nat.lt_of_le_of_lt (Nat.add_le_add_right (Nat.le_trans (Nat.le_add_right _ _) (Nat.le_of_lt hroom.2)) 1) (by decide), [a, b], l, tupKey ht, z.2, hval _⟩
end
end Mine
end

section
open PySem PySem.W PyProof.Rows PySem.Calls Builtin Builtin.ObjectAttr
set_option Elab.async false
set_option linter.unusedVariables false
set_option maxRecDepth 100000
namespace Mine

theorem walks_tuple_h {prog : Program} {w : World} {A : Around} {e : Addr} (hh : A.handled = some (.ref e)) (I ax : Addr) (hne : ax ≠ I) (hei : e ≠ I) (items : Array Value) :
    Walks prog w A I [I, ax, e] [I] items.size (fun i v => items[i]? = some v) (fun i h => h.IsTupleIter I ax i ∧ h.IsTuple ax items ∧ ∃ oe vs, h.get? e = some oe ∧ oe.data = .fields vs ∧ vs[2]? = some .none) where
  sub := fun b hb => by simp at hb; simp [hb]
  frame := fun _ _ _ st hk => ⟨st.1.at fun o e => hk I (by simp) o e, st.2.1.at fun o e => hk ax (by simp) o e, let ⟨oe, vs, a, b⟩ := st.2.2; ⟨oe, vs, hk _ (by simp) _ a, b⟩⟩
  item := fun i s Q E hi st hQ => by
    refine wpAny_pyNext_tuple_item st.1 st.2.1 (x := items[i]) (by simp [hi]) fun h' hit' hs' => ?_
    obtain ⟨oe, vs, a, b⟩ := st.2.2
    exact hQ _ h' s.toks (by simp [hi]) ⟨hit', st.2.1.extBut hs'.extBut hne, oe, vs, (hs'.2 e hei).trans a, b⟩ fun b o hb e => hs'.extBut b o (fun h => hb (by simp [h])) e
  done := fun s Q E st hQ => by
    obtain ⟨oe, vs, a, b, d⟩ := st.2.2
    exact tuple_end_h hh hei a b d st.1 st.2.1 (by simp) fun h' he' => hQ h' s.toks fun b o hb e => he' b o (fun h => hb (by simp [h])) e
  self := fun _ _ _ _ st hQ => wpAny_pyIter_tupleiter st.1 hQ

theorem max_h {prog : Program} {w : World} {A : Around} {s : Shared} {E : Value → Shared → Prop} {a b : Int} {t u : Tok} {e : Addr} {oe : Obj} {vs : Array Value} {Q : Value → Shared → Prop} (hh : A.handled = some (.ref e)) (he : s.heap.get? e = some oe) (hd : oe.data = .fields vs) (h2 : vs[2]? = some .none)
    (h : ∀ h' tk, (∀ c o, s.heap.get? c = some o → h'.get? c = some o) → Q (if b > a then .int b u else .int a t) { s with heap := h', toks := tk }) :
    wpAny (model prog w) A (call (.builtin "max") [.int a t, .int b u]) Q E s := by
  have hT : (s.heap.push { cls := .type "tuple", data := .seq #[.int a t, .int b u] }).IsTuple s.heap.objs.size (intItems #[(a, t), (b, u)]) := ⟨_, Heap.get?_push_size _ rfl, rfl, 0, by simp [intItems]⟩
  refine call_max_two (wpAny_pyIter_tuple hT ?_)
  have hsz : (s.heap.push { cls := .type "tuple", data := .seq #[.int a t, .int b u] }).objs.size = s.heap.objs.size + 1 := Heap.size_push ..
  have hes := Heap.lt_size he
  have hei : e ≠ (s.heap.push { cls := .type "tuple", data := .seq #[.int a t, .int b u] }).objs.size := by rw [hsz]; exact Nat.ne_of_lt (Nat.lt_succ_of_lt hes)
  refine ⟨_, [_, s.heap.objs.size, e], [_], _, _, _, _, rfl, walks_tuple_h (A := A.in1) hh _ s.heap.objs.size (by rw [hsz]; exact Nat.ne_of_lt (Nat.lt_succ_self _)) hei (intItems #[(a, t), (b, u)]),
    ⟨⟨_, Heap.get?_push_size _ rfl, rfl, rfl⟩, hT.push _, oe, vs, Heap.get?_push_of_some _ (Heap.get?_push_of_some _ he), hd, h2⟩, fun c hc => ?_, by simp [intItems], CmpOf.ints_gt (numAt #[(a, t), (b, u)]) (fun _ _ => intItems_at), fun v h' tk hP hk => ?_⟩
  · show c < ((s.heap.push _).push _).objs.size
    rw [Heap.size_push, hsz]
    simp only [List.mem_cons, List.not_mem_nil, or_false] at hc
    rcases hc with rfl | rfl | rfl
    · rw [hsz]; exact Nat.lt_succ_self _
    · exact Nat.lt_succ_of_lt (Nat.lt_succ_self _)
    · exact Nat.lt_succ_of_lt (Nat.lt_succ_of_lt hes)
  · have hold : ∀ c o, s.heap.get? c = some o → h'.get? c = some o := fun c o e => by
      refine hk c o (fun hm => ?_) (Heap.get?_push_of_some _ (Heap.get?_push_of_some _ e))
      rw [List.mem_singleton] at hm
      have := Heap.lt_size e; rw [hm, hsz] at this; exact Nat.lt_irrefl _ (Nat.lt_of_succ_lt this)
    have := h h' tk hold
    have hsz2 : (intItems #[(a, t), (b, u)]).size - 1 = 1 := by simp [intItems]
    rw [hsz2] at hP
    have hv : v = if b > a then Value.int b u else Value.int a t := by
      by_cases hba : b > a
      · rw [show argBest (fun i j => decide (numAt #[(a, t), (b, u)] i > numAt #[(a, t), (b, u)] j)) 1 = 1 by simp [argBest, numAt, hba]] at hP
        simpa [intItems, hba] using hP.symm
      · rw [show argBest (fun i j => decide (numAt #[(a, t), (b, u)] i > numAt #[(a, t), (b, u)] j)) 1 = 0 by simp [argBest, numAt, hba]] at hP
        simpa [intItems, hba] using hP.symm
    rw [hv]; exact this

section
variable {c : Sx} {lv : Nat} {hd : Option Nat} {σ : St} {Q : PV → St → Prop} {X : Nat → St → Prop}

theorem max_ok {a b : Int} (hu : HdU σ hd) (hQ : Q (.int (if b > a then b else a)) σ) : CallOk c lv hd (.builtin "max") [.int a, .int b] σ Q X := by
  intro A s g held fr us hroom hfr hhd R r
  obtain ⟨v, w, rfl, rv, rw'⟩ := r.two
  cases rv with | int _ t =>
  cases rw' with | int _ u =>
  have fin : ∀ h' tk, (∀ c o, s.heap.get? c = some o → h'.get? c = some o) → QV c.toCx held fr g σ.n s.heap Q (if b > a then .int b u else .int a t) { s with heap := h', toks := tk } := fun h' tk hk => by
    obtain ⟨R', L'⟩ := R.keeps (s' := { s with heap := h', toks := tk }) hk rfl rfl
    refine QV.after L' (qv R' ?_ hQ)
    split <;> exact .int _ _
  cases hd with
  | none => exact PySem.max_two_ints hhd fin
  | some j =>
    obtain ⟨C, ffs, hj⟩ := hu
    obtain ⟨a1, a2, oe, m, vs, b1, b2, b3, b4, b5, b6, b7, _⟩ := (R.objs j _ hj).2
    exact max_h hhd.1 b1 b4 (b7 rfl) fin
end
end Mine
end

section
open PySem PySem.W PyProof.Rows PySem.Calls Builtin Builtin.ObjectAttr
set_option Elab.async false
set_option linter.unusedVariables false
set_option maxRecDepth 100000
namespace Mine

section
variable {c : Sx} {lv : Nat} {hd : Option Nat} {σ : St} {Q : PV → St → Prop} {X : Nat → St → Prop} {ps : List PV}

theorem ns_empty {c : Cx} {h : Heap} {d : Addr} (hg : h.get? d = some emptyDict) : NsW c h d (fun _ => none) :=
  ⟨Heap.Ns1.of_empty ⟨_, #[], _, hg, rfl, fun e he => absurd he (by simp), fun _ => rfl⟩, fun _ h => absurd rfl h⟩

theorem frep_empty {c : Cx} {h : Heap} {loc : Nat → Addr} {n : Nat} : FRep c h loc n (fun _ => none) (fun _ => none) := fun _ => rfl

theorem room_make {A : Around} {lv : Nat} {C : Addr} {vs : List Value} (hr : Room A (lv + 1)) : Room (A.under (.builtin "type.__call__" ⟨.ref C :: vs, []⟩)) lv := by
  obtain ⟨h1, h2⟩ := hr
  have hw : (Code.builtin "type.__call__" ⟨.ref C :: vs, []⟩).weight ≤ 1 := by
    unfold Code.weight
    rw [show Code.isGuard (Code.builtin "type.__call__" ⟨.ref C :: vs, []⟩) = false from (by show guardIds.contains "type.__call__" = false; decide +kernel), show Code.isCaller (Code.builtin "type.__call__" ⟨.ref C :: vs, []⟩) = false from rfl, show Code.isCreation (Code.builtin "type.__call__" ⟨.ref C :: vs, []⟩) = true from rfl]
    exact Nat.le_refl _
  refine ⟨?_, ?_⟩
  · show A.depth + _ + _ < _
    omega
  · show A.units + Code.cUnits _ + _ < _
    have : Code.cUnits (Code.builtin "type.__call__" ⟨.ref C :: vs, []⟩) ≤ 49 := by
      first | decide +kernel | exact Nat.le_of_ble_eq_true rfl
    omega

theorem HdOk.new {g g' : Gh} {n : Nat} {A : Around} (x : HdOk g n A hd) (hl : ∀ i, i < n → g'.loc i = g.loc i) : HdOk g' (n + 1) A hd := by
  cases hd with
  | none => exact x
  | some i => exact ⟨by rw [hl i x.2]; exact x.1, Nat.lt_succ_of_lt x.2⟩
theorem newInst_d {g : Gh} {n : Nat} {x d : Addr} : (g.newInst n x d).dloc n = d := if_pos rfl
theorem newInst_x {g : Gh} {n : Nat} {x d : Addr} : (g.newInst n x d).loc n = x := if_pos rfl
theorem make_ok {C f : Addr} (hm : makesIn c.K C = true) (hi : findIn c.K (.ref C) "__init__" = some (some (.ref f))) (hf : typeIn c.K (.ref f) = some (.type "function"))
    (h : CodeOk c lv hd (.ref f) (.ref σ.n :: ps) (σ.new (.inst C fun _ => none)) (fun p σ' => p = .none ∧ Q (.ref σ.n) σ') X) :
    CallOk c (lv + 1) hd (.ref C) ps σ Q X := by
  intro A s g held fr vs hroom hfr hhd R r
  cases s with | mk hh gs d t os =>
  have k : ∀ b o, hh.get? b = some o → ((hh.push emptyDict).push (instObj C hh.objs.size)).get? b = some o := fun b o e => Heap.get?_push_of_some _ (Heap.get?_push_of_some _ e)
  have hx : ((hh.push emptyDict).push (instObj C hh.objs.size)).get? (hh.objs.size + 1) = some (instObj C hh.objs.size) := by heap_get
  have hdt : ((hh.push emptyDict).push (instObj C hh.objs.size)).get? hh.objs.size = some emptyDict := by heap_get
  have ne : hh.objs.size + 1 ≠ hh.objs.size := Nat.succ_ne_self _
  have z := R.newI (s' := ⟨(hh.push emptyDict).push (instObj C hh.objs.size), gs, d, t, os⟩) (x := hh.objs.size + 1) (d := hh.objs.size) (o := .inst C fun _ => none)
    (Heap.get?_none_of_le (Nat.le_refl _)) (Heap.get?_none_of_le (Nat.le_succ _)) ne rfl k rfl rfl
    ⟨by rw [newInst_x]; exact if_pos rfl, by rw [newInst_d]; exact (if_neg ne.symm).trans (if_pos rfl), _, fun _ => none, by rw [newInst_x]; exact hx, rfl, congrArg some newInst_d.symm, rfl, by rw [newInst_d]; exact ns_empty hdt, frep_empty⟩
  refine wpAny_call (codeAny_mono (R := RV c.toCx held fr g σ.n hh Q X) ?_ fun r s' z => by rcases r with e | (v | _ | _ | _) <;> exact z)
  refine make_core (makes_of R.K hm) (looks_findIn R.K hi) (fun self => bind_fn R.K self hf) (.inl rfl) ?_
  have rx : VRep ((hh.push emptyDict).push (instObj C hh.objs.size)) (g.newInst σ.n (hh.objs.size + 1) hh.objs.size).loc (σ.n + 1) (.ref σ.n) (.ref (hh.objs.size + 1)) := .ref' (Nat.lt_succ_self _) newInst_x
  refine codeAny_mono (h _ _ _ held fr (.ref (hh.objs.size + 1) :: vs) (room_make hroom) (by show pushEnvs [] A.frames = _; rw [hfr]; rfl) (HdOk.new (A := A) hhd z.2.loc) z.1 (.cons rx (z.2.reps r))) fun r s' y => ?_
  cases r with
  | error e => exact XV.casesOn y fun g₁ σ₁ i R₁ L₁ y1 y2 y3 => ⟨g₁, σ₁, i, R₁, z.2.trans L₁, y1, y2, y3⟩
  | ok f =>
    cases f with
    | ret v =>
      refine QV.casesOn y fun g₁ σ₁ p R₁ L₁ rv q => ?_
      rw [q.1] at rv
      have q := q.2
      exact rv.noneE ⟨rfl, g₁, σ₁, _, R₁, z.2.trans L₁, L₁.rep rx, q⟩
    | _ => exact y.elim
end
end Mine
end

section
open PySem PySem.W PyProof.Rows PySem.Calls Builtin Builtin.ObjectAttr
set_option Elab.async false
set_option linter.unusedVariables false
set_option maxRecDepth 100000
namespace Mine
open Sem (wp)

section
variable {prog : Program} {w : World} {A : Around} {R : Result → Shared → Prop} {h : Heap} {g : Array GenState} {d : Drawn} {t : Nat} {os : OsState}
variable {nm q : Str} {C N : Addr} {bs bm bmB : List Value} {hdct : Bool} {sn : List Str} {sub : List Value} {ab : Bool} {col : Option Bool} {dd : Option Addr} {k0 k1 k2 k3 k5 : Option Value} {B newId initId : String}

theorem check_new_own {M : Model} {E : Value → Shared → Prop} (F : ExcBaseFacts B newId initId bmB) (hcB : (Value.ref C :: bm).contains (.type B) = true) {rest : List Value} {Q : Unit → Shared → Prop} (hC : h.get? C = some (excClassObj nm q C N bs bm hdct sn sub ab col dd k0 k1 k2 k3 k5 newId))
    (hq : Q () ⟨h, g, d, t, os⟩) : wpAny M A (checkBuiltinCall newId ⟨.ref C :: rest, []⟩) Q E ⟨h, g, d, t, os⟩ := by
  have hstar := F.noStar
  simp only [checkBuiltinCall, F.newKind, F.newSplit, F.newRow]
  repeat (first | refine wpAny_loadPart_at hC ?_ | (refine wpAny_isSubtype_exc hC ?_; rw [hcB]) | refine wpAny_staticBase_exc hC ?_ | refine wpAny_madeBy_exc hC ?_ | simp only [bne_self_eq_false, Bool.false_eq_true, if_false] | wp_step)
  exact hq

theorem exc_new_own (F : ExcBaseFacts B newId initId bmB) (hcB : (Value.ref C :: bm).contains (.type B) = true) (hcA : (Value.ref C :: bm).contains (.type "AttributeError") = false) (hcN : (Value.ref C :: bm).contains (.type "NameError") = false) {rest : List Value} (hC : h.get? C = some (excClassObj nm q C N bs bm hdct sn sub ab col dd k0 k1 k2 k3 k5 newId))
    (hq : R (.ok (.ret (.ref (h.objs.size + 1)))) ⟨(h.push { cls := .type "tuple", data := .seq rest.toArray }).push
      { cls := .ref C, data := .fields #[.ref h.objs.size, .none, .none, .none, .bool false, .none] }, g, d, t, os⟩) (hrest : rest.length ≤ sizeLine := by size_fits) :
    codeAny (model prog w) A (.builtin newId ⟨.ref C :: rest, []⟩) R ⟨h, g, d, t, os⟩ := by
  have hends := F.ends
  refine PySem.codeAny_builtinAt F.entry ?_
  unfold Builtin.«BaseException.__new__»
  refine PySem.wpAt_bind ?_
  show PySem.wpAt _ _ _ (stack >>= _) _ _ _
  refine PySem.wpAt_bind (PySem.wpAt_stack fun p below => PySem.wpAt_of_wpAny ?_)
  wp_walk
  refine PySem.wpAt_of_wpAny ?_
  rw [F.owner]
  repeat (first | with_reducible refine wpAny_madeHere_exc F.canon hC ?_ | with_reducible refine wpAny_loadPart_at hC ?_ | (with_reducible refine wpAny_isSubtype_exc hC ?_; first | rw [hcB] | rw [hcA] | rw [hcN]) | wp_step)
  show R _ _
  rw [Heap.size_push]
  exact hq
end

section
variable {prog : Program} {w : World} {A : Around} {E : Value → Shared → Prop} {K : Frag} {h : Heap} {g : Array GenState} {d : Drawn} {t : Nat} {os : OsState}
variable {nm q : Str} {C N : Addr} {bs bm bmB : List Value} {hdct : Bool} {sn : List Str} {sub : List Value} {ab : Bool} {col : Option Bool} {dd : Option Addr} {k0 k1 k2 k3 k5 : Option Value} {B newId initId : String}

theorem type_call_own (F : ExcBaseFacts B newId initId bmB) (hcB : (Value.ref C :: bm).contains (.type B) = true) (hcA : (Value.ref C :: bm).contains (.type "AttributeError") = false) (hcN : (Value.ref C :: bm).contains (.type "NameError") = false)
    {rest : List Value} {fI : Addr} {Q : Fin → Shared → Prop} (X : K.In h)
    (hC : h.get? C = some (excClassObj nm q C N bs bm hdct sn sub ab col dd k0 k1 k2 k3 k5 newId)) (hi : findIn K (.ref C) "__init__" = some (some (.ref fI))) (hf : typeIn K (.ref fI) = some (.type "function"))
    (hq : ∀ h', (∀ b o, h.get? b = some o → h'.get? b = some o) → h'.get? (h.objs.size + 1) = some { cls := .ref C, data := .fields #[.ref h.objs.size, .none, .none, .none, .bool false, .none] } →
      wpAny (model prog w) A (call (.ref fI) (.ref (h.objs.size + 1) :: rest)) (fun r s' => r = .none ∧ Q (.done (.ret (.ref (h.objs.size + 1)))) s') E ⟨h', g, d, t, os⟩) (hrest : rest.length ≤ sizeLine := by size_fits) :
    wpAny (model prog w) A (Builtin.«type.__call__» ⟨.ref C :: rest, []⟩) Q E ⟨h, g, d, t, os⟩ := by
  repeat (first | with_reducible refine wpAny_loadPart_at hC ?_ | with_reducible refine wpAny_madeBy_exc hC ?_ | wp_step)
  refine codeAny_call_builtin_code (Code.quiet_builtin _ F.quiet) (check_new_own F hcB hC ?_)
  refine exc_new_own F hcB hcA hcN hC ?_ hrest
  show wpAny _ _ _ _ _ _
  have k : ∀ b o, h.get? b = some o → ((h.push { cls := .type "tuple", data := .seq rest.toArray }).push { cls := .ref C, data := .fields #[.ref h.objs.size, .none, .none, .none, .bool false, .none] }).get? b = some o :=
    fun b o e => Heap.get?_push_of_some _ (Heap.get?_push_of_some _ e)
  have X₁ : K.In ((h.push { cls := .type "tuple", data := .seq rest.toArray }).push { cls := .ref C, data := .fields #[.ref h.objs.size, .none, .none, .none, .bool false, .none] }) := fun a o e => k _ _ (X a o e)
  have hC₁ := k _ _ hC
  have hget : ((h.push { cls := .type "tuple", data := .seq rest.toArray }).push
      { cls := .ref C, data := .fields #[.ref h.objs.size, .none, .none, .none, .bool false, .none] }).get? (h.objs.size + 1) = some
      { cls := .ref C, data := .fields #[.ref h.objs.size, .none, .none, .none, .bool false, .none] } := by heap_get
  have hcC : (Value.ref C :: bm).contains (.ref C) = true := by simp
  unfold isInstance
  repeat (first | with_reducible refine wpAny_loadPart_at hget ?_ | (with_reducible refine wpAny_isSubtype_exc hC₁ ?_; rw [hcC]) | wp_step)
  show wpAny _ _ (typeLookup (.ref C) _) _ _ _
  refine (looks_findIn X₁ hi).here ?_
  refine wpAny_holding (wpAny_bind ((bind_fn X₁ _ hf).here ?_))
  refine wpAny_bind (wpAny_mono (hq _ k hget) (fun r s' hr => ?_) fun _ _ x => x)
  obtain ⟨rfl, hQ⟩ := hr
  wp_walk
  exact hQ

theorem call_exc_own (F : ExcBaseFacts B newId initId bmB) (hcB : (Value.ref C :: bm).contains (.type B) = true) (hcA : (Value.ref C :: bm).contains (.type "AttributeError") = false) (hcN : (Value.ref C :: bm).contains (.type "NameError") = false)
    {rest : List Value} {fI : Addr} {Q : Value → Shared → Prop} (X : K.In h)
    (hC : h.get? C = some (excClassObj nm q C N bs bm hdct sn sub ab col dd k0 k1 k2 k3 k5 newId)) (hi : findIn K (.ref C) "__init__" = some (some (.ref fI))) (hf : typeIn K (.ref fI) = some (.type "function"))
    (hq : ∀ h', (∀ b o, h.get? b = some o → h'.get? b = some o) → h'.get? (h.objs.size + 1) = some { cls := .ref C, data := .fields #[.ref h.objs.size, .none, .none, .none, .bool false, .none] } →
      wpAny (model prog w) (A.under (.builtin "type.__call__" ⟨.ref C :: rest, []⟩)) (call (.ref fI) (.ref (h.objs.size + 1) :: rest)) (fun r s' => r = .none ∧ Q (.ref (h.objs.size + 1)) s') E ⟨h', g, d, t, os⟩) (hrest : rest.length ≤ sizeLine := by size_fits) :
    wpAny (model prog w) A (call (.ref C) rest) Q E ⟨h, g, d, t, os⟩ := by
  have f1 := tc_lookup
  have f2 := tc_bind (.ref C)
  have hT : (⟨h, g, d, t, os⟩ : Shared).TypeIs (.ref C) "type" := ⟨_, hC, rfl⟩
  refine wpAny_call (codeAny_of_tree ?_)
  show wpAny _ _ (callAny (.ref C) _) _ _ _
  repeat (any_goals (first | assumption | with_reducible refine wpAny_loadPart_at hC ?_ | wp_step))
  refine ⟨rfl, ?_⟩
  refine codeAny_call_builtin_at (Code.quiet_builtin _ (by decide +kernel)) entry_typeCall (wpAny_check_type_call_sub hC ?_)
  exact type_call_own F hcB hcA hcN X hC hi hf hq hrest
end
end Mine
end

section
open PySem PySem.W PyProof.Rows PySem.Calls Builtin Builtin.ObjectAttr
set_option Elab.async false
set_option linter.unusedVariables false
set_option maxRecDepth 100000
namespace Mine

noncomputable def ExcIn (K : Frag) (C : Addr) : Prop := ∃ (nm q : Str) (N : Addr) (bs bm : List Value) (hdct : Bool) (sn : List Str) (sub : List Value) (ab : Bool) (col : Option Bool) (dd : Option Addr) (k0 k1 k2 k3 k5 : Option Value),
  K.lookup C = some (excClassObj nm q C N bs bm hdct sn sub ab col dd k0 k1 k2 k3 k5 "Exception.__new__") ∧
  (Value.ref C :: bm).contains (.type "Exception") = true ∧ (Value.ref C :: bm).contains (.type "AttributeError") = false ∧ (Value.ref C :: bm).contains (.type "NameError") = false

section
variable {c : Sx} {lv : Nat} {hd : Option Nat} {σ : St} {Q : PV → St → Prop} {X : Nat → St → Prop} {ps : List PV}

theorem exc_ok {C f : Addr} (hE : ExcIn c.K C) (hi : findIn c.K (.ref C) "__init__" = some (some (.ref f))) (hf : typeIn c.K (.ref f) = some (.type "function")) (hl : ps.length ≤ 100)
    (h : CallOk c lv hd (.ref f) (.ref σ.n :: ps) (σ.new (.bare C)) (fun p σ' => p = .none ∧ Q (.ref σ.n) σ') X) :
    CallOk c (lv + 1) hd (.ref C) ps σ Q X := by
  intro A s g held fr vs hroom hfr hhd R r
  obtain ⟨nm, q, N, bs, bm, hdct, sn, sub, ab, col, dd, k0, k1, k2, k3, k5, e0, e1, e2, e3⟩ := hE
  cases s with | mk hh gs d t os =>
  refine call_exc_own (K := c.K) PySem.F.excBase_Exception e1 e2 e3 R.K (R.K _ _ e0) hi hf (fun h' k hx => ?_) (Nat.le_trans (Nat.le_of_eq r.length) (Nat.le_trans hl (by decide)))
  have z := R.new (s' := ⟨h', gs, d, t, os⟩) (a := hh.objs.size + 1) (o := .bare C) (Heap.get?_none_of_le (Nat.le_succ _)) k rfl rfl
    ⟨newMain_role, _, _, by rw [newMain_loc]; exact hx, rfl, rfl, rfl, by simp, rfl, rfl⟩
  have rx : VRep h' (g.newMain σ.n (hh.objs.size + 1)).loc (σ.n + 1) (.ref σ.n) (.ref (hh.objs.size + 1)) := .ref' (Nat.lt_succ_self _) newMain_loc
  exact wpAny_mono (h _ _ _ held fr (.ref (hh.objs.size + 1) :: vs) (room_make hroom) (by show pushEnvs [] A.frames = _; rw [hfr]; rfl) (HdOk.new (A := A) hhd z.2.loc) z.1 (.cons rx (z.2.reps r)))
    (fun v s' y => y.casesOn fun g₁ σ₁ p R₁ L₁ rv q => by
      obtain ⟨rfl, q⟩ := q
      exact rv.noneE ⟨rfl, g₁, σ₁, _, R₁, z.2.trans L₁, L₁.rep rx, q⟩) fun e s' y => y.casesOn fun g₁ σ₁ i R₁ L₁ y1 y2 y3 => ⟨g₁, σ₁, i, R₁, z.2.trans L₁, y1, y2, y3⟩
end
end Mine
end

section
open PySem PySem.W PyProof.Rows PySem.Calls
set_option Elab.async false
set_option maxRecDepth 100000
namespace Mine
namespace B
/-! the bodies of the functions, as the compiler of L3 reads them (printed by DQ.lean and gen40.py; compared with the program by the head) -/
noncomputable def names : List String := ["k", "code", "codes", "join", "char", "place", "find", "number", "whole", "functor", "args", "items", "tail", "result", "item", "type_text", "priority", "lower", "token", "text", "script", "wanted", "row", "cell", "rest", "append", "tokenizer", "due", "tokens", "wrong", "step", "fault", "next", "column", "at", "kind", "figures", "pieces", "handed", "book", "reader", "stand", "told", "found", "sign", "gather", "first", "behind", "others", "opened", "waiting", "figure", "reverse", "piece", "pop", "gaps", "begins", "tools", "outcome", "operators", "flags", "spot", "read", "one", "other", "spots", "func", "self", "texts", "atom_numbers", "functors", "functor_numbers", "atom", "get", "arity", "key", "origin", "index", "begun", "skip_layout", "code_at", "numeral", "symbol", "word", "quoted", "skip_row", "skip_remark", "end", "ends_at", "value", "mark", "base", "digit", "digits", "character", "escape", "quote", "abandon", "simple", "follower", "symbols", "standard", "prefixes", "infixes", "postfixes", "add", "names", "name", "a", "table", "table_of", "entry", "values", "fitting", "fixed", "start", "free", "name_term", "value_term", "limit", "left", "mode", "frames", "term", "numbers", "counts", "next_number", "parse", "peek", "misplaced", "otherwise", "operator_name", "infix", "postfix", "most", "state", "operand", "operator", "frame", "take", "settle", "enter", "named", "variable", "string", "is_operator", "operator_operand", "prefix", "stands_alone", "close", "shift_infix", "apply_postfix", "reduce", "admits", "closed", "separated", "parser", "string_mode", "clause", "singles", "skip_clause"]
noncomputable def tab : List Str := names.map Str.ofString
noncomputable def b_wall : Ss := (.cons (.while_ (.lit (.bool true)) (.cons .pass .nil)) .nil)
noncomputable def b_SyntaxFault___init__ : Ss := (.cons (.asg (.attr (.var 67) 35) (.var 35)) (.cons (.asg (.attr (.var 67) 34) (.var 34)) (.cons (.asg (.attr (.var 67) 22) (.var 22)) (.cons (.asg (.attr (.var 67) 33) (.var 33)) .nil))))
noncomputable def b_fixed_atoms : Ss := (.cons (.ret (.tup (.cons (.lit (.str [91, 93])) (.cons (.lit (.str [46])) (.cons (.lit (.str [123, 125])) (.cons (.lit (.str [45])) (.cons (.lit (.str [43])) (.cons (.lit (.str [42])) (.cons (.lit (.str [47])) (.cons (.lit (.str [44])) (.cons (.lit (.str [124])) (.cons (.lit (.str [59])) (.cons (.lit (.str [45, 62])) (.cons (.lit (.str [92, 43])) (.cons (.lit (.str [58, 45])) (.cons (.lit (.str [63, 45])) (.cons (.lit (.str [45, 45, 62])) (.cons (.lit (.str [33])) (.cons (.lit (.str [116, 114, 117, 101])) (.cons (.lit (.str [102, 97, 105, 108])) (.cons (.lit (.str [102, 97, 108, 115, 101])) (.cons (.lit (.str [99, 97, 108, 108])) (.cons (.lit (.str [61])) (.cons (.lit (.str [94])) (.cons (.lit (.str [101, 114, 114, 111, 114])) (.cons (.lit (.str [])) (.cons (.lit (.str [101, 110, 100, 95, 111, 102, 95, 102, 105, 108, 101])) (.cons (.lit (.str [115, 121, 115, 116, 101, 109])) (.cons (.lit (.str [36, 86, 65, 82])) (.cons (.lit (.str [99, 97, 116, 99, 104])) (.cons (.lit (.str [116, 104, 114, 111, 119])) .nil))))))))))))))))))))))))))))))) .nil)
noncomputable def b_fixed_functors : Ss := (.cons (.ret (.tup (.cons (.tup (.cons (.lit (.str [46])) (.cons (.lit (.int (2))) .nil))) (.cons (.tup (.cons (.lit (.str [44])) (.cons (.lit (.int (2))) .nil))) (.cons (.tup (.cons (.lit (.str [59])) (.cons (.lit (.int (2))) .nil))) (.cons (.tup (.cons (.lit (.str [45, 62])) (.cons (.lit (.int (2))) .nil))) (.cons (.tup (.cons (.lit (.str [92, 43])) (.cons (.lit (.int (1))) .nil))) (.cons (.tup (.cons (.lit (.str [58, 45])) (.cons (.lit (.int (2))) .nil))) (.cons (.tup (.cons (.lit (.str [58, 45])) (.cons (.lit (.int (1))) .nil))) (.cons (.tup (.cons (.lit (.str [63, 45])) (.cons (.lit (.int (1))) .nil))) (.cons (.tup (.cons (.lit (.str [45, 45, 62])) (.cons (.lit (.int (2))) .nil))) (.cons (.tup (.cons (.lit (.str [123, 125])) (.cons (.lit (.int (1))) .nil))) (.cons (.tup (.cons (.lit (.str [61])) (.cons (.lit (.int (2))) .nil))) (.cons (.tup (.cons (.lit (.str [94])) (.cons (.lit (.int (2))) .nil))) (.cons (.tup (.cons (.lit (.str [45])) (.cons (.lit (.int (1))) .nil))) (.cons (.tup (.cons (.lit (.str [45])) (.cons (.lit (.int (2))) .nil))) (.cons (.tup (.cons (.lit (.str [43])) (.cons (.lit (.int (2))) .nil))) (.cons (.tup (.cons (.lit (.str [47])) (.cons (.lit (.int (2))) .nil))) (.cons (.tup (.cons (.lit (.str [101, 114, 114, 111, 114])) (.cons (.lit (.int (2))) .nil))) (.cons (.tup (.cons (.lit (.str [36, 86, 65, 82])) (.cons (.lit (.int (1))) .nil))) (.cons (.tup (.cons (.lit (.str [99, 97, 116, 99, 104])) (.cons (.lit (.int (3))) .nil))) (.cons (.tup (.cons (.lit (.str [116, 104, 114, 111, 119])) (.cons (.lit (.int (1))) .nil))) (.cons (.tup (.cons (.lit (.str [33])) (.cons (.lit (.int (0))) .nil))) (.cons (.tup (.cons (.lit (.str [116, 114, 117, 101])) (.cons (.lit (.int (0))) .nil))) (.cons (.tup (.cons (.lit (.str [102, 97, 105, 108])) (.cons (.lit (.int (0))) .nil))) (.cons (.tup (.cons (.lit (.str [102, 97, 108, 115, 101])) (.cons (.lit (.int (0))) .nil))) (.cons (.tup (.cons (.lit (.str [99, 97, 108, 108])) (.cons (.lit (.int (1))) .nil))) (.cons (.tup (.cons (.lit (.str [99, 97, 108, 108])) (.cons (.lit (.int (2))) .nil))) (.cons (.tup (.cons (.lit (.str [99, 97, 108, 108])) (.cons (.lit (.int (3))) .nil))) (.cons (.tup (.cons (.lit (.str [99, 97, 108, 108])) (.cons (.lit (.int (4))) .nil))) (.cons (.tup (.cons (.lit (.str [99, 97, 108, 108])) (.cons (.lit (.int (5))) .nil))) (.cons (.tup (.cons (.lit (.str [99, 97, 108, 108])) (.cons (.lit (.int (6))) .nil))) (.cons (.tup (.cons (.lit (.str [99, 97, 108, 108])) (.cons (.lit (.int (7))) .nil))) (.cons (.tup (.cons (.lit (.str [99, 97, 108, 108])) (.cons (.lit (.int (8))) .nil))) .nil)))))))))))))))))))))))))))))))))) .nil)
noncomputable def b_Symbols___init__ : Ss := (.cons (.asg (.attr (.var 67) 68) (.lst .nil)) (.cons (.asg (.attr (.var 67) 69) (.dict [])) (.cons (.asg (.attr (.var 67) 70) (.lst .nil)) (.cons (.asg (.attr (.var 67) 71) (.dict [])) (.cons (.for_ (.var 19) (.call (.gl (.st (.ref 60))) .nil) (.cons (.expr (.meth (.var 67) 72 (.cons (.var 19) .nil))) .nil)) (.cons (.for_ (.var 22) (.call (.gl (.st (.ref 67))) .nil) (.cons (.expr (.meth (.var 67) 66 (.cons (.sub (.var 22) (.lit (.int (0)))) (.cons (.sub (.var 22) (.lit (.int (1)))) .nil)))) .nil)) .nil))))))
noncomputable def b_Symbols_atom : Ss := (.cons (.asg (.var 43) (.meth (.attr (.var 67) 69) 73 (.cons (.var 19) (.cons (.neg (.lit (.int (1)))) .nil)))) (.cons (.ite (.cmp .GtE (.var 43) (.lit (.int (0)))) (.cons (.ret (.var 43)) .nil) .nil) (.cons (.asg (.var 7) (.call (.gl (.st (.builtin "len"))) (.cons (.attr (.var 67) 68) .nil))) (.cons (.expr (.meth (.attr (.var 67) 68) 25 (.cons (.var 19) .nil))) (.cons (.asg (.sub (.attr (.var 67) 69) (.var 19)) (.var 7)) (.cons (.ret (.var 7)) .nil))))))
noncomputable def b_Symbols_text : Ss := (.cons (.ret (.sub (.attr (.var 67) 68) (.var 7))) .nil)
noncomputable def b_Symbols_functor : Ss := (.cons (.asg (.var 75) (.tup (.cons (.var 72) (.cons (.var 74) .nil)))) (.cons (.asg (.var 43) (.meth (.attr (.var 67) 71) 73 (.cons (.var 75) (.cons (.neg (.lit (.int (1)))) .nil)))) (.cons (.ite (.cmp .GtE (.var 43) (.lit (.int (0)))) (.cons (.ret (.var 43)) .nil) .nil) (.cons (.asg (.var 7) (.call (.gl (.st (.builtin "len"))) (.cons (.attr (.var 67) 70) .nil))) (.cons (.expr (.meth (.attr (.var 67) 70) 25 (.cons (.var 75) .nil))) (.cons (.asg (.sub (.attr (.var 67) 71) (.var 75)) (.var 7)) (.cons (.ret (.var 7)) .nil)))))))
noncomputable def b_Symbols_func : Ss := (.cons (.ret (.meth (.var 67) 9 (.cons (.meth (.var 67) 72 (.cons (.var 19) .nil)) (.cons (.var 74) .nil)))) .nil)
noncomputable def b_Symbols_name : Ss := (.cons (.ret (.sub (.sub (.attr (.var 67) 70) (.var 9)) (.lit (.int (0))))) .nil)
noncomputable def b_Symbols_arity : Ss := (.cons (.ret (.sub (.sub (.attr (.var 67) 70) (.var 9)) (.lit (.int (1))))) .nil)
noncomputable def b_Symbols_label : Ss := (.cons (.expr (.call (.gl (.st (.ref 21))) (.cons (.lit (.int (0))) .nil))) .nil)
noncomputable def b_Symbols_count : Ss := (.cons (.ret (.call (.gl (.st (.builtin "len"))) (.cons (.attr (.var 67) 68) .nil))) .nil)
noncomputable def b_Symbols_functor_count : Ss := (.cons (.expr (.call (.gl (.st (.ref 21))) (.cons (.lit (.int (1))) .nil))) .nil)
noncomputable def b_Symbols_known : Ss := (.cons (.expr (.call (.gl (.st (.ref 21))) (.cons (.lit (.int (2))) .nil))) .nil)
noncomputable def b_is_layout : Ss := (.cons (.ret (.bools .Or (.cons (.cmp .Eq (.var 1) (.lit (.int (32)))) (.cons (.bools .And (.cons (.cmp .LtE (.lit (.int (9))) (.var 1)) (.cons (.cmp .LtE (.var 1) (.lit (.int (13)))) .nil))) .nil)))) .nil)
noncomputable def b_is_digit : Ss := (.cons (.ret (.bools .And (.cons (.cmp .LtE (.lit (.int (48))) (.var 1)) (.cons (.cmp .LtE (.var 1) (.lit (.int (57)))) .nil)))) .nil)
noncomputable def b_is_small : Ss := (.cons (.ret (.bools .And (.cons (.cmp .LtE (.lit (.int (97))) (.var 1)) (.cons (.cmp .LtE (.var 1) (.lit (.int (122)))) .nil)))) .nil)
noncomputable def b_is_capital : Ss := (.cons (.ret (.bools .And (.cons (.cmp .LtE (.lit (.int (65))) (.var 1)) (.cons (.cmp .LtE (.var 1) (.lit (.int (90)))) .nil)))) .nil)
noncomputable def b_is_alnum : Ss := (.cons (.ret (.bools .Or (.cons (.call (.gl (.st (.ref 179))) (.cons (.var 1) .nil)) (.cons (.call (.gl (.st (.ref 186))) (.cons (.var 1) .nil)) (.cons (.call (.gl (.st (.ref 172))) (.cons (.var 1) .nil)) (.cons (.cmp .Eq (.var 1) (.lit (.int (95)))) .nil)))))) .nil)
noncomputable def b_is_symbol : Ss := (.cons (.ret (.bools .And (.cons (.cmp .LtE (.lit (.int (0))) (.var 1)) (.cons (.cmp .Lt (.var 1) (.lit (.int (128)))) (.cons (.cmp .In (.call (.gl (.st (.builtin "chr"))) (.cons (.var 1) .nil)) (.lit (.str [43, 45, 42, 47, 92, 94, 60, 62, 61, 126, 58, 46, 63, 64, 35, 38, 36]))) .nil))))) .nil)
noncomputable def b_is_quotable : Ss := (.cons (.ret (.bools .And (.cons (.cmp .GtE (.var 1) (.lit (.int (32)))) (.cons (.cmp .NotEq (.var 1) (.lit (.int (127)))) (.cons (.cmp .LtE (.var 1) (.gl (.int (1114111)))) .nil))))) .nil)
noncomputable def b_digit_value : Ss := (.cons (.ite (.call (.gl (.st (.ref 172))) (.cons (.var 1) .nil)) (.cons (.ret (.bin .Sub (.var 1) (.lit (.int (48))))) .nil) .nil) (.cons (.ite (.call (.gl (.st (.ref 179))) (.cons (.var 1) .nil)) (.cons (.ret (.bin .Sub (.var 1) (.lit (.int (87))))) .nil) .nil) (.cons (.ite (.call (.gl (.st (.ref 186))) (.cons (.var 1) .nil)) (.cons (.ret (.bin .Sub (.var 1) (.lit (.int (55))))) .nil) .nil) (.cons (.ret (.neg (.lit (.int (1))))) .nil))))
noncomputable def b_codes_text : Ss := (.cons (.ret (.meth (.lit (.str [])) 3 (.cons (.comp (.call (.gl (.st (.builtin "chr"))) (.cons (.var 1) .nil)) 1 (.var 2)) .nil))) .nil)
noncomputable def b_simple_escape : Ss := (.cons (.asg (.var 4) (.call (.gl (.st (.builtin "chr"))) (.cons (.call (.gl (.st (.builtin "max"))) (.cons (.var 1) (.cons (.lit (.int (0))) .nil))) .nil))) (.cons (.ite (.cmp .In (.var 4) (.lit (.str [92, 39, 34, 96]))) (.cons (.ret (.var 1)) .nil) .nil) (.cons (.asg (.var 5) (.meth (.lit (.str [97, 98, 116, 110, 118, 102, 114])) 6 (.cons (.var 4) .nil))) (.cons (.ite (.cmp .GtE (.var 5) (.lit (.int (0)))) (.cons (.ret (.bin .Add (.lit (.int (7))) (.var 5))) .nil) .nil) (.cons (.ret (.neg (.lit (.int (1))))) .nil)))))
noncomputable def b_numeral_base : Ss := (.cons (.ite (.cmp .Eq (.var 1) (.gl (.int (98)))) (.cons (.ret (.lit (.int (2)))) .nil) .nil) (.cons (.ite (.cmp .Eq (.var 1) (.gl (.int (111)))) (.cons (.ret (.lit (.int (8)))) .nil) .nil) (.cons (.ite (.cmp .Eq (.var 1) (.gl (.int (120)))) (.cons (.ret (.lit (.int (16)))) .nil) .nil) (.cons (.ret (.lit (.int (0)))) .nil))))
noncomputable def b_Tokenizer___init__ : Ss := (.cons (.asg (.attr (.var 67) 2) (.var 2)) (.cons (.asg (.attr (.var 67) 34) (.var 34)) (.cons (.asg (.attr (.var 67) 76) (.var 34)) .nil)))
noncomputable def b_Tokenizer_code_at : Ss := (.cons (.ite (.cmp .GtE (.var 77) (.call (.gl (.st (.builtin "len"))) (.cons (.attr (.var 67) 2) .nil))) (.cons (.ret (.gl (.int (-1)))) .nil) .nil) (.cons (.asg (.var 1) (.sub (.attr (.var 67) 2) (.var 77))) (.cons (.ite (.bools .Or (.cons (.cmp .Lt (.var 1) (.lit (.int (0)))) (.cons (.cmp .Gt (.var 1) (.gl (.int (1114111)))) .nil))) (.cons (.ret (.gl (.int (-2)))) .nil) .nil) (.cons (.ret (.var 1)) .nil))))
noncomputable def b_Tokenizer_place : Ss := (.cons (.asg (.var 22) (.lit (.int (1)))) (.cons (.asg (.var 33) (.lit (.int (1)))) (.cons (.asg (.var 77) (.lit (.int (0)))) (.cons (.while_ (.bools .And (.cons (.cmp .Lt (.var 77) (.var 34)) (.cons (.cmp .Lt (.var 77) (.call (.gl (.st (.builtin "len"))) (.cons (.attr (.var 67) 2) .nil))) .nil))) (.cons (.ite (.cmp .Eq (.sub (.attr (.var 67) 2) (.var 77)) (.gl (.int (10)))) (.cons (.asg (.var 22) (.bin .Add (.var 22) (.lit (.int (1))))) (.cons (.asg (.var 33) (.lit (.int (1)))) .nil)) (.cons (.asg (.var 33) (.bin .Add (.var 33) (.lit (.int (1))))) .nil)) (.cons (.asg (.var 77) (.bin .Add (.var 77) (.lit (.int (1))))) .nil))) (.cons (.ret (.tup (.cons (.var 22) (.cons (.var 33) .nil)))) .nil)))))
noncomputable def b_Tokenizer_fault : Ss := (.cons (.asg (.tup [22, 33]) (.meth (.var 67) 5 (.cons (.var 34) .nil))) (.cons (.ret (.call (.gl (.st (.ref 51))) (.cons (.var 35) (.cons (.var 34) (.cons (.var 22) (.cons (.var 33) .nil)))))) .nil))
noncomputable def b_Tokenizer_next : Ss := (.cons (.asg (.var 78) (.attr (.var 67) 34)) (.cons (.expr (.meth (.var 67) 79 .nil)) (.cons (.asg (.var 34) (.attr (.var 67) 34)) (.cons (.ite (.cmp .GtE (.var 34) (.call (.gl (.st (.builtin "len"))) (.cons (.attr (.var 67) 2) .nil))) (.cons (.ret (.tup (.cons (.lit (.str [101, 111, 102])) (.cons (.lit (.str [])) (.cons (.var 34) .nil))))) .nil) .nil) (.cons (.asg (.var 1) (.meth (.var 67) 80 (.cons (.var 34) .nil))) (.cons (.ite (.cmp .Eq (.var 1) (.gl (.int (40)))) (.cons (.asg (.attr (.var 67) 34) (.bin .Add (.var 34) (.lit (.int (1))))) (.cons (.ite (.bools .Or (.cons (.cmp .Gt (.var 34) (.var 78)) (.cons (.cmp .Eq (.var 34) (.attr (.var 67) 76)) .nil))) (.cons (.ret (.tup (.cons (.lit (.str [111, 112, 101, 110])) (.cons (.lit (.str [40])) (.cons (.var 34) .nil))))) .nil) .nil) (.cons (.ret (.tup (.cons (.lit (.str [111, 112, 101, 110, 95, 99, 116])) (.cons (.lit (.str [40])) (.cons (.var 34) .nil))))) .nil))) .nil) (.cons (.ite (.call (.gl (.st (.ref 179))) (.cons (.var 1) .nil)) (.cons (.ret (.tup (.cons (.lit (.str [110, 97, 109, 101])) (.cons (.meth (.var 67) 83 (.cons (.var 34) .nil)) (.cons (.var 34) .nil))))) .nil) .nil) (.cons (.ite (.bools .Or (.cons (.call (.gl (.st (.ref 186))) (.cons (.var 1) .nil)) (.cons (.cmp .Eq (.var 1) (.gl (.int (95)))) .nil))) (.cons (.ret (.tup (.cons (.lit (.str [118, 97, 114])) (.cons (.meth (.var 67) 83 (.cons (.var 34) .nil)) (.cons (.var 34) .nil))))) .nil) .nil) (.cons (.ite (.call (.gl (.st (.ref 172))) (.cons (.var 1) .nil)) (.cons (.ret (.meth (.var 67) 81 (.cons (.var 34) .nil))) .nil) .nil) (.cons (.ite (.cmp .Eq (.var 1) (.gl (.int (39)))) (.cons (.ret (.tup (.cons (.lit (.str [113, 110, 97, 109, 101])) (.cons (.call (.gl (.st (.ref 219))) (.cons (.meth (.var 67) 84 (.cons (.var 34) (.cons (.gl (.int (39))) .nil))) .nil)) (.cons (.var 34) .nil))))) .nil) .nil) (.cons (.ite (.cmp .Eq (.var 1) (.gl (.int (34)))) (.cons (.ret (.tup (.cons (.lit (.str [115, 116, 114, 105, 110, 103])) (.cons (.call (.gl (.st (.type "tuple"))) (.cons (.meth (.var 67) 84 (.cons (.var 34) (.cons (.gl (.int (34))) .nil))) .nil)) (.cons (.var 34) .nil))))) .nil) .nil) (.cons (.ite (.cmp .Eq (.var 1) (.gl (.int (96)))) (.cons (.ret (.tup (.cons (.lit (.str [98, 97, 99, 107])) (.cons (.call (.gl (.st (.type "tuple"))) (.cons (.meth (.var 67) 84 (.cons (.var 34) (.cons (.gl (.int (96))) .nil))) .nil)) (.cons (.var 34) .nil))))) .nil) .nil) (.cons (.ite (.call (.gl (.st (.ref 200))) (.cons (.var 1) .nil)) (.cons (.ret (.meth (.var 67) 82 (.cons (.var 34) .nil))) .nil) .nil) (.cons (.asg (.attr (.var 67) 34) (.bin .Add (.var 34) (.lit (.int (1))))) (.cons (.asg (.var 4) (.call (.gl (.st (.builtin "chr"))) (.cons (.call (.gl (.st (.builtin "max"))) (.cons (.var 1) (.cons (.lit (.int (0))) .nil))) .nil))) (.cons (.ite (.cmp .In (.var 4) (.lit (.str [41, 91, 93, 123, 125, 44, 124]))) (.cons (.ret (.tup (.cons (.lit (.str [112, 117, 110, 99, 116])) (.cons (.var 4) (.cons (.var 34) .nil))))) .nil) .nil) (.cons (.ite (.cmp .In (.var 4) (.lit (.str [33, 59]))) (.cons (.ret (.tup (.cons (.lit (.str [110, 97, 109, 101])) (.cons (.var 4) (.cons (.var 34) .nil))))) .nil) .nil) (.cons (.raise_ (.meth (.var 67) 31 (.cons (.lit (.str [117, 110, 100, 101, 102, 105, 110, 101, 100, 95, 99, 104, 97, 114])) (.cons (.var 34) .nil)))) .nil))))))))))))))))))
noncomputable def b_Tokenizer_skip_clause : Ss := (.cons (.while_ (.lit (.bool true)) (.cons (.try_ (.cons (.asg (.var 35) (.sub (.meth (.var 67) 32 .nil) (.lit (.int (0))))) .nil) none (.cons (.asg (.var 35) (.lit (.str [102, 97, 117, 108, 116]))) .nil)) (.cons (.ite (.bools .Or (.cons (.cmp .Eq (.var 35) (.lit (.str [101, 110, 100]))) (.cons (.cmp .Eq (.var 35) (.lit (.str [101, 111, 102]))) .nil))) (.cons .ret0 .nil) .nil) .nil))) .nil)
noncomputable def b_Tokenizer_skip_layout : Ss := (.cons (.while_ (.lit (.bool true)) (.cons (.asg (.var 1) (.meth (.var 67) 80 (.cons (.attr (.var 67) 34) .nil))) (.cons (.ite (.call (.gl (.st (.ref 165))) (.cons (.var 1) .nil)) (.cons (.asg (.attr (.var 67) 34) (.bin .Add (.attr (.var 67) 34) (.lit (.int (1))))) .nil) (.cons (.ite (.cmp .Eq (.var 1) (.gl (.int (37)))) (.cons (.expr (.meth (.var 67) 85 .nil)) .nil) (.cons (.ite (.bools .And (.cons (.cmp .Eq (.var 1) (.gl (.int (47)))) (.cons (.cmp .Eq (.meth (.var 67) 80 (.cons (.bin .Add (.attr (.var 67) 34) (.lit (.int (1)))) .nil)) (.gl (.int (42)))) .nil))) (.cons (.expr (.meth (.var 67) 86 .nil)) .nil) (.cons .ret0 .nil)) .nil)) .nil)) .nil))) .nil)
noncomputable def b_Tokenizer_skip_row : Ss := (.cons (.while_ (.lit (.bool true)) (.cons (.asg (.var 1) (.meth (.var 67) 80 (.cons (.attr (.var 67) 34) .nil))) (.cons (.ite (.bools .Or (.cons (.cmp .Eq (.var 1) (.gl (.int (-1)))) (.cons (.cmp .Eq (.var 1) (.gl (.int (10)))) .nil))) (.cons .ret0 .nil) .nil) (.cons (.asg (.attr (.var 67) 34) (.bin .Add (.attr (.var 67) 34) (.lit (.int (1))))) .nil)))) .nil)
noncomputable def b_Tokenizer_skip_remark : Ss := (.cons (.asg (.var 78) (.attr (.var 67) 34)) (.cons (.asg (.attr (.var 67) 34) (.bin .Add (.var 78) (.lit (.int (2))))) (.cons (.while_ (.lit (.bool true)) (.cons (.asg (.var 1) (.meth (.var 67) 80 (.cons (.attr (.var 67) 34) .nil))) (.cons (.ite (.cmp .Eq (.var 1) (.gl (.int (-1)))) (.cons (.raise_ (.meth (.var 67) 31 (.cons (.lit (.str [117, 110, 102, 105, 110, 105, 115, 104, 101, 100, 95, 114, 101, 109, 97, 114, 107])) (.cons (.var 78) .nil)))) .nil) .nil) (.cons (.ite (.bools .And (.cons (.cmp .Eq (.var 1) (.gl (.int (42)))) (.cons (.cmp .Eq (.meth (.var 67) 80 (.cons (.bin .Add (.attr (.var 67) 34) (.lit (.int (1)))) .nil)) (.gl (.int (47)))) .nil))) (.cons (.asg (.attr (.var 67) 34) (.bin .Add (.attr (.var 67) 34) (.lit (.int (2))))) (.cons .ret0 .nil)) .nil) (.cons (.asg (.attr (.var 67) 34) (.bin .Add (.attr (.var 67) 34) (.lit (.int (1))))) .nil))))) .nil)))
noncomputable def b_Tokenizer_word : Ss := (.cons (.asg (.var 87) (.var 34)) (.cons (.while_ (.call (.gl (.st (.ref 193))) (.cons (.meth (.var 67) 80 (.cons (.var 87) .nil)) .nil)) (.cons (.asg (.var 87) (.bin .Add (.var 87) (.lit (.int (1))))) .nil)) (.cons (.asg (.attr (.var 67) 34) (.var 87)) (.cons (.ret (.call (.gl (.st (.ref 219))) (.cons (.slc (.attr (.var 67) 2) (.var 34) (.var 87)) .nil))) .nil))))
noncomputable def b_Tokenizer_symbol : Ss := (.cons (.ite (.bools .And (.cons (.cmp .Eq (.meth (.var 67) 80 (.cons (.var 34) .nil)) (.gl (.int (46)))) (.cons (.meth (.var 67) 88 (.cons (.bin .Add (.var 34) (.lit (.int (1)))) .nil)) .nil))) (.cons (.asg (.attr (.var 67) 34) (.bin .Add (.var 34) (.lit (.int (1))))) (.cons (.ret (.tup (.cons (.lit (.str [101, 110, 100])) (.cons (.lit (.str [46])) (.cons (.var 34) .nil))))) .nil)) .nil) (.cons (.asg (.var 87) (.var 34)) (.cons (.while_ (.call (.gl (.st (.ref 200))) (.cons (.meth (.var 67) 80 (.cons (.var 87) .nil)) .nil)) (.cons (.asg (.var 87) (.bin .Add (.var 87) (.lit (.int (1))))) .nil)) (.cons (.asg (.attr (.var 67) 34) (.var 87)) (.cons (.ret (.tup (.cons (.lit (.str [110, 97, 109, 101])) (.cons (.call (.gl (.st (.ref 219))) (.cons (.slc (.attr (.var 67) 2) (.var 34) (.var 87)) .nil)) (.cons (.var 34) .nil))))) .nil)))))
noncomputable def b_Tokenizer_ends_at : Ss := (.cons (.asg (.var 1) (.meth (.var 67) 80 (.cons (.var 77) .nil))) (.cons (.ret (.bools .Or (.cons (.cmp .Eq (.var 1) (.gl (.int (-1)))) (.cons (.cmp .Eq (.var 1) (.gl (.int (37)))) (.cons (.call (.gl (.st (.ref 165))) (.cons (.var 1) .nil)) .nil))))) .nil))
noncomputable def b_Tokenizer_numeral : Ss := (.cons (.ite (.cmp .Eq (.meth (.var 67) 80 (.cons (.var 34) .nil)) (.gl (.int (48)))) (.cons (.asg (.var 90) (.meth (.var 67) 80 (.cons (.bin .Add (.var 34) (.lit (.int (1)))) .nil))) (.cons (.ite (.cmp .Eq (.var 90) (.gl (.int (39)))) (.cons (.ret (.tup (.cons (.lit (.str [105, 110, 116])) (.cons (.meth (.var 67) 94 (.cons (.var 34) .nil)) (.cons (.var 34) .nil))))) .nil) .nil) (.cons (.asg (.var 91) (.call (.gl (.st (.ref 233))) (.cons (.var 90) .nil))) (.cons (.asg (.var 92) (.call (.gl (.st (.ref 214))) (.cons (.meth (.var 67) 80 (.cons (.bin .Add (.var 34) (.lit (.int (2)))) .nil)) .nil))) (.cons (.ite (.bools .And (.cons (.cmp .LtE (.lit (.int (0))) (.var 92)) (.cons (.cmp .Lt (.var 92) (.var 91)) .nil))) (.cons (.ret (.tup (.cons (.lit (.str [105, 110, 116])) (.cons (.meth (.var 67) 93 (.cons (.bin .Add (.var 34) (.lit (.int (2)))) (.cons (.var 91) .nil))) (.cons (.var 34) .nil))))) .nil) .nil) .nil))))) .nil) (.cons (.asg (.var 89) (.meth (.var 67) 93 (.cons (.var 34) (.cons (.lit (.int (10))) .nil)))) (.cons (.ite (.bools .And (.cons (.cmp .Eq (.meth (.var 67) 80 (.cons (.attr (.var 67) 34) .nil)) (.gl (.int (46)))) (.cons (.call (.gl (.st (.ref 172))) (.cons (.meth (.var 67) 80 (.cons (.bin .Add (.attr (.var 67) 34) (.lit (.int (1)))) .nil)) .nil)) .nil))) (.cons (.expr (.meth (.var 67) 93 (.cons (.bin .Add (.attr (.var 67) 34) (.lit (.int (1)))) (.cons (.lit (.int (10))) .nil)))) (.cons (.raise_ (.meth (.var 67) 31 (.cons (.lit (.str [98, 97, 100, 95, 110, 117, 109, 98, 101, 114])) (.cons (.var 34) .nil)))) .nil)) .nil) (.cons (.ret (.tup (.cons (.lit (.str [105, 110, 116])) (.cons (.var 89) (.cons (.var 34) .nil))))) .nil))))
noncomputable def b_Tokenizer_digits : Ss := (.cons (.asg (.var 89) (.lit (.int (0)))) (.cons (.while_ (.lit (.bool true)) (.cons (.asg (.var 92) (.call (.gl (.st (.ref 214))) (.cons (.meth (.var 67) 80 (.cons (.var 77) .nil)) .nil))) (.cons (.ite (.bools .Or (.cons (.cmp .Lt (.var 92) (.lit (.int (0)))) (.cons (.cmp .GtE (.var 92) (.var 91)) .nil))) (.cons (.asg (.attr (.var 67) 34) (.var 77)) (.cons (.ret (.var 89)) .nil)) .nil) (.cons (.asg (.var 89) (.bin .Add (.bin .Mult (.var 89) (.var 91)) (.var 92))) (.cons (.asg (.var 77) (.bin .Add (.var 77) (.lit (.int (1))))) .nil))))) .nil))
noncomputable def b_Tokenizer_character : Ss := (.cons (.asg (.var 1) (.meth (.var 67) 80 (.cons (.bin .Add (.var 34) (.lit (.int (2)))) .nil))) (.cons (.ite (.cmp .Eq (.var 1) (.gl (.int (92)))) (.cons (.asg (.attr (.var 67) 34) (.bin .Add (.var 34) (.lit (.int (2))))) (.cons (.asg (.var 89) (.meth (.var 67) 95 .nil)) (.cons (.ite (.cmp .Lt (.var 89) (.lit (.int (0)))) (.cons (.asg (.attr (.var 67) 34) (.bin .Add (.var 34) (.lit (.int (3))))) (.cons (.raise_ (.meth (.var 67) 31 (.cons (.lit (.str [98, 97, 100, 95, 101, 115, 99, 97, 112, 101])) (.cons (.bin .Add (.var 34) (.lit (.int (2)))) .nil)))) .nil)) .nil) (.cons (.ret (.var 89)) .nil)))) .nil) (.cons (.ite (.cmp .Eq (.var 1) (.gl (.int (39)))) (.cons (.ite (.cmp .Eq (.meth (.var 67) 80 (.cons (.bin .Add (.var 34) (.lit (.int (3)))) .nil)) (.gl (.int (39)))) (.cons (.asg (.attr (.var 67) 34) (.bin .Add (.var 34) (.lit (.int (4))))) (.cons (.ret (.gl (.int (39)))) .nil)) .nil) (.cons (.asg (.attr (.var 67) 34) (.bin .Add (.var 34) (.lit (.int (3))))) (.cons (.raise_ (.meth (.var 67) 31 (.cons (.lit (.str [98, 97, 100, 95, 110, 117, 109, 98, 101, 114])) (.cons (.var 34) .nil)))) .nil))) .nil) (.cons (.ite (.call (.gl (.st (.ref 207))) (.cons (.var 1) .nil)) (.cons (.asg (.attr (.var 67) 34) (.bin .Add (.var 34) (.lit (.int (3))))) (.cons (.ret (.var 1)) .nil)) .nil) (.cons (.asg (.attr (.var 67) 34) (.bin .Add (.var 34) (.lit (.int (2))))) (.cons (.raise_ (.meth (.var 67) 31 (.cons (.lit (.str [98, 97, 100, 95, 110, 117, 109, 98, 101, 114])) (.cons (.var 34) .nil)))) .nil))))))
noncomputable def b_Tokenizer_quoted : Ss := (.cons (.asg (.attr (.var 67) 34) (.bin .Add (.var 78) (.lit (.int (1))))) (.cons (.asg (.var 2) (.lst .nil)) (.cons (.while_ (.lit (.bool true)) (.cons (.asg (.var 34) (.attr (.var 67) 34)) (.cons (.asg (.var 1) (.meth (.var 67) 80 (.cons (.var 34) .nil))) (.cons (.ite (.cmp .Eq (.var 1) (.var 96)) (.cons (.ite (.cmp .NotEq (.meth (.var 67) 80 (.cons (.bin .Add (.var 34) (.lit (.int (1)))) .nil)) (.var 96)) (.cons (.asg (.attr (.var 67) 34) (.bin .Add (.var 34) (.lit (.int (1))))) (.cons (.ret (.var 2)) .nil)) .nil) (.cons (.expr (.meth (.var 2) 25 (.cons (.var 96) .nil))) (.cons (.asg (.attr (.var 67) 34) (.bin .Add (.var 34) (.lit (.int (2))))) .nil))) (.cons (.ite (.bools .Or (.cons (.cmp .Eq (.var 1) (.gl (.int (-1)))) (.cons (.cmp .Eq (.var 1) (.gl (.int (10)))) .nil))) (.cons (.raise_ (.meth (.var 67) 31 (.cons (.lit (.str [117, 110, 102, 105, 110, 105, 115, 104, 101, 100, 95, 113, 117, 111, 116, 101, 100])) (.cons (.var 78) .nil)))) .nil) (.cons (.ite (.bools .And (.cons (.cmp .Eq (.var 1) (.gl (.int (92)))) (.cons (.cmp .Eq (.meth (.var 67) 80 (.cons (.bin .Add (.var 34) (.lit (.int (1)))) .nil)) (.gl (.int (10)))) .nil))) (.cons (.asg (.attr (.var 67) 34) (.bin .Add (.var 34) (.lit (.int (2))))) .nil) (.cons (.ite (.cmp .Eq (.var 1) (.gl (.int (92)))) (.cons (.asg (.var 89) (.meth (.var 67) 95 .nil)) (.cons (.ite (.cmp .Lt (.var 89) (.lit (.int (0)))) (.cons (.expr (.meth (.var 67) 97 (.cons (.var 96) .nil))) (.cons (.raise_ (.meth (.var 67) 31 (.cons (.lit (.str [98, 97, 100, 95, 101, 115, 99, 97, 112, 101])) (.cons (.var 34) .nil)))) .nil)) .nil) (.cons (.expr (.meth (.var 2) 25 (.cons (.var 89) .nil))) .nil))) (.cons (.ite (.call (.gl (.st (.ref 207))) (.cons (.var 1) .nil)) (.cons (.expr (.meth (.var 2) 25 (.cons (.var 1) .nil))) (.cons (.asg (.attr (.var 67) 34) (.bin .Add (.var 34) (.lit (.int (1))))) .nil)) (.cons (.expr (.meth (.var 67) 97 (.cons (.var 96) .nil))) (.cons (.raise_ (.meth (.var 67) 31 (.cons (.lit (.str [117, 110, 100, 101, 102, 105, 110, 101, 100, 95, 99, 104, 97, 114])) (.cons (.var 34) .nil)))) .nil))) .nil)) .nil)) .nil)) .nil)) .nil)))) .nil)))
noncomputable def b_Tokenizer_escape : Ss := (.cons (.asg (.var 77) (.bin .Add (.attr (.var 67) 34) (.lit (.int (1))))) (.cons (.asg (.var 1) (.meth (.var 67) 80 (.cons (.var 77) .nil))) (.cons (.asg (.var 98) (.call (.gl (.st (.ref 226))) (.cons (.var 1) .nil))) (.cons (.ite (.cmp .GtE (.var 98) (.lit (.int (0)))) (.cons (.asg (.attr (.var 67) 34) (.bin .Add (.var 77) (.lit (.int (1))))) (.cons (.ret (.var 98)) .nil)) .nil) (.cons (.asg (.var 91) (.lit (.int (8)))) (.cons (.ite (.cmp .Eq (.var 1) (.gl (.int (120)))) (.cons (.asg (.var 91) (.lit (.int (16)))) (.cons (.asg (.var 77) (.bin .Add (.var 77) (.lit (.int (1))))) .nil)) .nil) (.cons (.asg (.var 78) (.var 77)) (.cons (.asg (.var 89) (.lit (.int (0)))) (.cons (.while_ (.lit (.bool true)) (.cons (.asg (.var 92) (.call (.gl (.st (.ref 214))) (.cons (.meth (.var 67) 80 (.cons (.var 77) .nil)) .nil))) (.cons (.ite (.bools .Or (.cons (.cmp .Lt (.var 92) (.lit (.int (0)))) (.cons (.cmp .GtE (.var 92) (.var 91)) .nil))) (.cons .brk .nil) .nil) (.cons (.ite (.cmp .LtE (.var 89) (.gl (.int (1114111)))) (.cons (.asg (.var 89) (.bin .Add (.bin .Mult (.var 89) (.var 91)) (.var 92))) .nil) .nil) (.cons (.asg (.var 77) (.bin .Add (.var 77) (.lit (.int (1))))) .nil))))) (.cons (.ite (.bools .Or (.cons (.cmp .Eq (.var 77) (.var 78)) (.cons (.cmp .Gt (.var 89) (.gl (.int (1114111)))) (.cons (.cmp .NotEq (.meth (.var 67) 80 (.cons (.var 77) .nil)) (.gl (.int (92)))) .nil)))) (.cons (.ret (.neg (.lit (.int (1))))) .nil) .nil) (.cons (.asg (.attr (.var 67) 34) (.bin .Add (.var 77) (.lit (.int (1))))) (.cons (.ret (.var 89)) .nil))))))))))))
noncomputable def b_Tokenizer_abandon : Ss := (.cons (.while_ (.lit (.bool true)) (.cons (.asg (.var 1) (.meth (.var 67) 80 (.cons (.attr (.var 67) 34) .nil))) (.cons (.asg (.var 99) (.meth (.var 67) 80 (.cons (.bin .Add (.attr (.var 67) 34) (.lit (.int (1)))) .nil))) (.cons (.ite (.bools .Or (.cons (.cmp .Eq (.var 1) (.gl (.int (-1)))) (.cons (.cmp .Eq (.var 1) (.gl (.int (10)))) .nil))) (.cons .ret0 .nil) .nil) (.cons (.ite (.bools .And (.cons (.cmp .Eq (.var 1) (.gl (.int (92)))) (.cons (.cmp .NotEq (.var 99) (.gl (.int (-1)))) .nil))) (.cons (.asg (.attr (.var 67) 34) (.bin .Add (.attr (.var 67) 34) (.lit (.int (2))))) .nil) (.cons (.ite (.bools .And (.cons (.cmp .Eq (.var 1) (.var 96)) (.cons (.cmp .Eq (.var 99) (.var 96)) .nil))) (.cons (.asg (.attr (.var 67) 34) (.bin .Add (.attr (.var 67) 34) (.lit (.int (2))))) .nil) (.cons (.ite (.cmp .Eq (.var 1) (.var 96)) (.cons (.asg (.attr (.var 67) 34) (.bin .Add (.attr (.var 67) 34) (.lit (.int (1))))) (.cons .ret0 .nil)) (.cons (.asg (.attr (.var 67) 34) (.bin .Add (.attr (.var 67) 34) (.lit (.int (1))))) .nil)) .nil)) .nil)) .nil))))) .nil)
noncomputable def b_var : Ss := (.cons (.ret (.tup (.cons (.lit (.str [118])) (.cons (.var 7) .nil)))) .nil)
noncomputable def b_atom : Ss := (.cons (.ret (.tup (.cons (.lit (.str [97])) (.cons (.var 7) .nil)))) .nil)
noncomputable def b_integer : Ss := (.cons (.ret (.tup (.cons (.lit (.str [105])) (.cons (.var 8) .nil)))) .nil)
noncomputable def b_struct : Ss := (.cons (.ret (.tup (.cons (.lit (.str [115])) (.cons (.var 9) (.cons (.call (.gl (.st (.type "tuple"))) (.cons (.var 10) .nil)) .nil))))) .nil)
noncomputable def b_list_term : Ss := (.cons (.asg (.var 13) (.ite (.cmp .Is (.var 12) (.lit .none)) (.gl (.tup [(.str [97]), (.int (0))])) (.var 12))) (.cons (.forV (.var 14) (.var 11) (.cons (.asg (.var 13) (.tup (.cons (.lit (.str [115])) (.cons (.gl (.int (0))) (.cons (.tup (.cons (.var 14) (.cons (.var 13) .nil))) .nil))))) .nil)) (.cons (.ret (.var 13)) .nil)))
noncomputable def b_standard_rows : Ss := (.cons (.ret (.tup (.cons (.tup (.cons (.lit (.int (1200))) (.cons (.lit (.str [120, 102, 120])) (.cons (.tup (.cons (.lit (.str [58, 45])) (.cons (.lit (.str [45, 45, 62])) .nil))) .nil)))) (.cons (.tup (.cons (.lit (.int (1200))) (.cons (.lit (.str [102, 120])) (.cons (.tup (.cons (.lit (.str [58, 45])) (.cons (.lit (.str [63, 45])) .nil))) .nil)))) (.cons (.tup (.cons (.lit (.int (1150))) (.cons (.lit (.str [102, 120])) (.cons (.tup (.cons (.lit (.str [100, 121, 110, 97, 109, 105, 99])) (.cons (.lit (.str [100, 105, 115, 99, 111, 110, 116, 105, 103, 117, 111, 117, 115])) .nil))) .nil)))) (.cons (.tup (.cons (.lit (.int (1100))) (.cons (.lit (.str [120, 102, 121])) (.cons (.tup (.cons (.lit (.str [59])) (.cons (.lit (.str [124])) .nil))) .nil)))) (.cons (.tup (.cons (.lit (.int (1050))) (.cons (.lit (.str [120, 102, 121])) (.cons (.tup (.cons (.lit (.str [45, 62])) .nil)) .nil)))) (.cons (.tup (.cons (.lit (.int (900))) (.cons (.lit (.str [102, 121])) (.cons (.tup (.cons (.lit (.str [92, 43])) .nil)) .nil)))) (.cons (.tup (.cons (.lit (.int (700))) (.cons (.lit (.str [120, 102, 120])) (.cons (.tup (.cons (.lit (.str [61])) (.cons (.lit (.str [92, 61])) (.cons (.lit (.str [61, 61])) (.cons (.lit (.str [92, 61, 61])) (.cons (.lit (.str [64, 60])) (.cons (.lit (.str [64, 61, 60])) (.cons (.lit (.str [64, 62])) (.cons (.lit (.str [64, 62, 61])) (.cons (.lit (.str [61, 46, 46])) .nil)))))))))) .nil)))) (.cons (.tup (.cons (.lit (.int (700))) (.cons (.lit (.str [120, 102, 120])) (.cons (.tup (.cons (.lit (.str [105, 115])) (.cons (.lit (.str [61, 58, 61])) (.cons (.lit (.str [61, 92, 61])) (.cons (.lit (.str [60])) (.cons (.lit (.str [61, 60])) (.cons (.lit (.str [62])) (.cons (.lit (.str [62, 61])) .nil)))))))) .nil)))) (.cons (.tup (.cons (.lit (.int (500))) (.cons (.lit (.str [121, 102, 120])) (.cons (.tup (.cons (.lit (.str [43])) (.cons (.lit (.str [45])) (.cons (.lit (.str [47, 92])) (.cons (.lit (.str [92, 47])) .nil))))) .nil)))) (.cons (.tup (.cons (.lit (.int (400))) (.cons (.lit (.str [121, 102, 120])) (.cons (.tup (.cons (.lit (.str [42])) (.cons (.lit (.str [47])) (.cons (.lit (.str [47, 47])) (.cons (.lit (.str [114, 101, 109])) (.cons (.lit (.str [109, 111, 100])) (.cons (.lit (.str [100, 105, 118])) (.cons (.lit (.str [60, 60])) (.cons (.lit (.str [62, 62])) .nil))))))))) .nil)))) (.cons (.tup (.cons (.lit (.int (200))) (.cons (.lit (.str [120, 102, 120])) (.cons (.tup (.cons (.lit (.str [42, 42])) .nil)) .nil)))) (.cons (.tup (.cons (.lit (.int (200))) (.cons (.lit (.str [120, 102, 121])) (.cons (.tup (.cons (.lit (.str [94])) .nil)) .nil)))) (.cons (.tup (.cons (.lit (.int (200))) (.cons (.lit (.str [102, 121])) (.cons (.tup (.cons (.lit (.str [45])) (.cons (.lit (.str [43])) (.cons (.lit (.str [92])) .nil)))) .nil)))) .nil))))))))))))))) .nil)
noncomputable def b_flag_rows : Ss := (.cons (.ret (.tup (.cons (.tup (.cons (.lit (.str [98, 111, 117, 110, 100, 101, 100])) (.cons (.lit (.str [102, 97, 108, 115, 101])) (.cons (.tup (.cons (.lit (.str [116, 114, 117, 101])) (.cons (.lit (.str [102, 97, 108, 115, 101])) .nil))) (.cons (.lit (.bool false)) .nil))))) (.cons (.tup (.cons (.lit (.str [100, 101, 98, 117, 103])) (.cons (.lit (.str [111, 102, 102])) (.cons (.tup (.cons (.lit (.str [111, 110])) (.cons (.lit (.str [111, 102, 102])) .nil))) (.cons (.lit (.bool true)) .nil))))) (.cons (.tup (.cons (.lit (.str [100, 111, 117, 98, 108, 101, 95, 113, 117, 111, 116, 101, 115])) (.cons (.lit (.str [99, 111, 100, 101, 115])) (.cons (.tup (.cons (.lit (.str [99, 111, 100, 101, 115])) (.cons (.lit (.str [99, 104, 97, 114, 115])) (.cons (.lit (.str [97, 116, 111, 109])) .nil)))) (.cons (.lit (.bool true)) .nil))))) (.cons (.tup (.cons (.lit (.str [105, 110, 116, 101, 103, 101, 114, 95, 114, 111, 117, 110, 100, 105, 110, 103, 95, 102, 117, 110, 99, 116, 105, 111, 110])) (.cons (.lit (.str [116, 111, 119, 97, 114, 100, 95, 122, 101, 114, 111])) (.cons (.tup (.cons (.lit (.str [116, 111, 119, 97, 114, 100, 95, 122, 101, 114, 111])) (.cons (.lit (.str [100, 111, 119, 110])) .nil))) (.cons (.lit (.bool false)) .nil))))) (.cons (.tup (.cons (.lit (.str [109, 97, 120, 95, 97, 114, 105, 116, 121])) (.cons (.lit (.str [117, 110, 98, 111, 117, 110, 100, 101, 100])) (.cons (.tup (.cons (.lit (.str [117, 110, 98, 111, 117, 110, 100, 101, 100])) .nil)) (.cons (.lit (.bool false)) .nil))))) (.cons (.tup (.cons (.lit (.str [111, 99, 99, 117, 114, 115, 95, 99, 104, 101, 99, 107])) (.cons (.lit (.str [116, 114, 117, 101])) (.cons (.tup (.cons (.lit (.str [116, 114, 117, 101])) (.cons (.lit (.str [102, 97, 108, 115, 101])) .nil))) (.cons (.lit (.bool true)) .nil))))) (.cons (.tup (.cons (.lit (.str [117, 110, 107, 110, 111, 119, 110])) (.cons (.lit (.str [101, 114, 114, 111, 114])) (.cons (.tup (.cons (.lit (.str [101, 114, 114, 111, 114])) (.cons (.lit (.str [102, 97, 105, 108])) (.cons (.lit (.str [119, 97, 114, 110, 105, 110, 103])) .nil)))) (.cons (.lit (.bool true)) .nil))))) .nil))))))))) .nil)
noncomputable def b_fixity : Ss := (.cons (.ite (.cmp .In (.var 15) (.gl (.tup [(.str [102, 120]), (.str [102, 121])]))) (.cons (.ret (.lit (.str [112, 114, 101, 102, 105, 120]))) .nil) .nil) (.cons (.ite (.cmp .In (.var 15) (.gl (.tup [(.str [120, 102, 120]), (.str [120, 102, 121]), (.str [121, 102, 120])]))) (.cons (.ret (.lit (.str [105, 110, 102, 105, 120]))) .nil) .nil) (.cons (.ite (.cmp .In (.var 15) (.gl (.tup [(.str [120, 102]), (.str [121, 102])]))) (.cons (.ret (.lit (.str [112, 111, 115, 116, 102, 105, 120]))) .nil) .nil) (.cons (.ret (.lit .none)) .nil))))
noncomputable def b_bounds : Ss := (.cons (.asg (.var 17) (.bin .Sub (.var 16) (.lit (.int (1))))) (.cons (.ite (.cmp .Eq (.var 15) (.lit (.str [102, 120]))) (.cons (.ret (.tup (.cons (.lit (.int (0))) (.cons (.var 17) .nil)))) .nil) .nil) (.cons (.ite (.cmp .Eq (.var 15) (.lit (.str [102, 121]))) (.cons (.ret (.tup (.cons (.lit (.int (0))) (.cons (.var 16) .nil)))) .nil) .nil) (.cons (.ite (.cmp .Eq (.var 15) (.lit (.str [120, 102]))) (.cons (.ret (.tup (.cons (.var 17) (.cons (.lit (.int (0))) .nil)))) .nil) .nil) (.cons (.ite (.cmp .Eq (.var 15) (.lit (.str [121, 102]))) (.cons (.ret (.tup (.cons (.var 16) (.cons (.lit (.int (0))) .nil)))) .nil) .nil) (.cons (.ite (.cmp .Eq (.var 15) (.lit (.str [120, 102, 121]))) (.cons (.ret (.tup (.cons (.var 17) (.cons (.var 16) .nil)))) .nil) .nil) (.cons (.ite (.cmp .Eq (.var 15) (.lit (.str [121, 102, 120]))) (.cons (.ret (.tup (.cons (.var 16) (.cons (.var 17) .nil)))) .nil) .nil) (.cons (.ret (.tup (.cons (.var 17) (.cons (.var 17) .nil)))) .nil))))))))
noncomputable def b_OperatorTable___init__ : Ss := (.cons (.asg (.attr (.var 67) 100) (.var 100)) (.cons (.asg (.attr (.var 67) 102) (.dict [])) (.cons (.asg (.attr (.var 67) 103) (.dict [])) (.cons (.asg (.attr (.var 67) 104) (.dict [])) (.cons (.expr (.meth (.var 67) 105 (.cons (.gl (.int (1000))) (.cons (.lit (.str [120, 102, 121])) (.cons (.gl (.int (7))) .nil))))) (.cons (.ite (.var 101) (.cons (.for_ (.tup [16, 15, 106]) (.call (.gl (.st (.ref 421))) .nil) (.cons (.for_ (.var 107) (.var 106) (.cons (.expr (.meth (.var 67) 105 (.cons (.var 16) (.cons (.var 15) (.cons (.meth (.var 100) 72 (.cons (.var 107) .nil)) .nil))))) .nil)) .nil)) .nil) .nil) .nil))))))
noncomputable def b_OperatorTable_prefix : Ss := (.cons (.ret (.meth (.attr (.var 67) 102) 73 (.cons (.var 108) .nil))) .nil)
noncomputable def b_OperatorTable_infix : Ss := (.cons (.ret (.meth (.attr (.var 67) 103) 73 (.cons (.var 108) .nil))) .nil)
noncomputable def b_OperatorTable_postfix : Ss := (.cons (.ret (.meth (.attr (.var 67) 104) 73 (.cons (.var 108) .nil))) .nil)
noncomputable def b_OperatorTable_is_operator : Ss := (.cons (.ret (.bools .Or (.cons (.cmp .In (.var 108) (.attr (.var 67) 102)) (.cons (.cmp .In (.var 108) (.attr (.var 67) 103)) (.cons (.cmp .In (.var 108) (.attr (.var 67) 104)) .nil))))) .nil)
noncomputable def b_OperatorTable_table_of : Ss := (.cons (.asg (.var 35) (.call (.gl (.st (.ref 435))) (.cons (.var 15) .nil))) (.cons (.ite (.cmp .Eq (.var 35) (.lit (.str [112, 114, 101, 102, 105, 120]))) (.cons (.ret (.attr (.var 67) 102)) .nil) .nil) (.cons (.ite (.cmp .Eq (.var 35) (.lit (.str [105, 110, 102, 105, 120]))) (.cons (.ret (.attr (.var 67) 103)) .nil) .nil) (.cons (.ret (.attr (.var 67) 104)) .nil))))
noncomputable def b_OperatorTable_add : Ss := (.cons (.asg (.var 109) (.meth (.var 67) 110 (.cons (.var 15) .nil))) (.cons (.ite (.cmp .Gt (.var 16) (.lit (.int (0)))) (.cons (.asg (.sub (.var 109) (.var 108)) (.tup (.cons (.var 16) (.cons (.var 15) .nil)))) .nil) (.cons (.ite (.cmp .In (.var 108) (.var 109)) (.cons .bad .nil) .nil) .nil)) .nil))
noncomputable def b_OperatorTable_rows : Ss := (.cons (.asg (.var 43) (.lst .nil)) (.cons (.for_ (.var 109) (.tup (.cons (.attr (.var 67) 102) (.cons (.attr (.var 67) 103) (.cons (.attr (.var 67) 104) .nil)))) (.cons (.for_ (.tup [108, 111]) (.meth (.var 109) 11 .nil) (.cons (.expr (.meth (.var 43) 25 (.cons (.tup (.cons (.sub (.var 111) (.lit (.int (0)))) (.cons (.sub (.var 111) (.lit (.int (1)))) (.cons (.var 108) .nil)))) .nil))) .nil)) .nil)) (.cons (.ret (.call (.gl (.st (.builtin "sorted"))) (.cons (.var 43) .nil))) .nil)))
noncomputable def b_Flags___init__ : Ss := (.cons (.asg (.attr (.var 67) 100) (.var 100)) (.cons (.asg (.attr (.var 67) 112) (.dict [])) (.cons (.asg (.attr (.var 67) 113) (.dict [])) (.cons (.asg (.attr (.var 67) 114) (.lst .nil)) (.cons (.for_ (.tup [107, 115, 113, 116]) (.call (.gl (.st (.ref 428))) .nil) (.cons (.asg (.sub (.attr (.var 67) 112) (.var 107)) (.meth (.var 100) 72 (.cons (.var 115) .nil))) (.cons (.asg (.sub (.attr (.var 67) 113) (.var 107)) (.var 113)) (.cons (.ite (.not (.var 116)) (.cons (.expr (.meth (.attr (.var 67) 114) 25 (.cons (.var 107) .nil))) .nil) .nil) .nil)))) .nil)))))
noncomputable def b_Flags_value : Ss := (.cons (.ite (.cmp .NotIn (.var 107) (.attr (.var 67) 112)) (.cons (.ret (.lit .none)) .nil) .nil) (.cons (.ret (.call (.gl (.st (.ref 389))) (.cons (.sub (.attr (.var 67) 112) (.var 107)) .nil))) .nil))
noncomputable def b_Flags_is_value : Ss := (.cons (.expr (.call (.gl (.st (.ref 21))) (.cons (.lit (.int (3))) .nil))) .nil)
noncomputable def b_Flags_put : Ss := (.cons (.expr (.call (.gl (.st (.ref 21))) (.cons (.lit (.int (4))) .nil))) .nil)
noncomputable def b_Flags_rows : Ss := (.cons (.asg (.var 43) (.lst .nil)) (.cons (.for_ (.var 107) (.call (.gl (.st (.builtin "sorted"))) (.cons (.attr (.var 67) 112) .nil)) (.cons (.expr (.meth (.var 43) 25 (.cons (.tup (.cons (.var 107) (.cons (.call (.gl (.st (.ref 389))) (.cons (.sub (.attr (.var 67) 112) (.var 107)) .nil)) .nil))) .nil))) .nil)) (.cons (.ret (.var 43)) .nil)))
noncomputable def b_Flags_set : Ss := (.cons (.expr (.call (.gl (.st (.ref 21))) (.cons (.lit (.int (5))) .nil))) .nil)
noncomputable def b_Frame___init__ : Ss := (.cons (.asg (.attr (.var 67) 35) (.var 35)) (.cons (.asg (.attr (.var 67) 119) (.var 119)) (.cons (.asg (.attr (.var 67) 9) (.neg (.lit (.int (1))))) (.cons (.asg (.attr (.var 67) 107) (.neg (.lit (.int (1))))) (.cons (.asg (.attr (.var 67) 16) (.lit (.int (0)))) (.cons (.asg (.attr (.var 67) 120) (.lit .none)) (.cons (.asg (.attr (.var 67) 11) (.lst .nil)) .nil)))))))
noncomputable def b_ends_operand : Ss := (.cons (.ret (.bools .Or (.cons (.cmp .Eq (.sub (.var 18) (.lit (.int (0)))) (.lit (.str [101, 110, 100]))) (.cons (.bools .And (.cons (.cmp .Eq (.sub (.var 18) (.lit (.int (0)))) (.lit (.str [112, 117, 110, 99, 116]))) (.cons (.bools .Or (.cons (.cmp .In (.sub (.var 18) (.lit (.int (1)))) (.gl (.tup [(.str [41]), (.str [93]), (.str [125])]))) (.cons (.cmp .In (.sub (.var 18) (.lit (.int (1)))) (.gl (.tup [(.str [44]), (.str [124])]))) .nil))) .nil))) .nil)))) .nil)
noncomputable def b_closes : Ss := (.cons (.ret (.bools .Or (.cons (.cmp .Eq (.sub (.var 18) (.lit (.int (0)))) (.lit (.str [101, 110, 100]))) (.cons (.bools .And (.cons (.cmp .Eq (.sub (.var 18) (.lit (.int (0)))) (.lit (.str [112, 117, 110, 99, 116]))) (.cons (.cmp .In (.sub (.var 18) (.lit (.int (1)))) (.gl (.tup [(.str [41]), (.str [93]), (.str [125])]))) .nil))) .nil)))) .nil)
noncomputable def b_is_punct : Ss := (.cons (.ret (.bools .And (.cons (.cmp .Eq (.sub (.var 18) (.lit (.int (0)))) (.lit (.str [112, 117, 110, 99, 116]))) (.cons (.cmp .Eq (.sub (.var 18) (.lit (.int (1)))) (.var 19)) .nil)))) .nil)
noncomputable def b_Reader___init__ : Ss := (.cons (.asg (.attr (.var 67) 100) (.var 100)) (.cons (.asg (.attr (.var 67) 59) (.var 59)) (.cons (.asg (.attr (.var 67) 60) (.var 60)) (.cons (.asg (.attr (.var 67) 26) (.call (.gl (.st (.ref 370))) (.cons (.var 2) (.cons (.var 34) .nil)))) (.cons (.asg (.attr (.var 67) 34) (.var 34)) .nil)))))
noncomputable def b_Reader_read : Ss := (.cons (.asg (.var 28) (.meth (.var 67) 45 .nil)) (.cons (.ite (.not (.var 28)) (.cons (.ret (.lit .none)) .nil) .nil) (.cons (.asg (.var 156) (.call (.gl (.st (.ref 796))) (.cons (.attr (.var 67) 100) (.cons (.attr (.var 67) 59) (.cons (.meth (.var 67) 157 .nil) (.cons (.var 28) .nil)))))) (.cons (.try_ (.cons (.asg (.var 123) (.meth (.var 156) 158 .nil)) .nil) (some 31) (.cons (.raise_ (.meth (.attr (.var 67) 26) 31 (.cons (.attr (.var 31) 35) (.cons (.attr (.var 31) 34) .nil)))) .nil)) (.cons (.ret (.tup (.cons (.var 123) (.cons (.attr (.var 156) 106) (.cons (.meth (.var 156) 159 .nil) .nil))))) .nil)))))
noncomputable def b_Reader_string_mode : Ss := (.cons (.ret (.meth (.attr (.var 67) 100) 19 (.cons (.sub (.meth (.attr (.var 67) 60) 89 (.cons (.lit (.str [100, 111, 117, 98, 108, 101, 95, 113, 117, 111, 116, 101, 115])) .nil)) (.lit (.int (1)))) .nil))) .nil)
noncomputable def b_Reader_gather : Ss := (.cons (.asg (.var 28) (.lst .nil)) (.cons (.try_ (.cons (.asg (.var 18) (.meth (.attr (.var 67) 26) 32 .nil)) (.cons (.while_ (.bools .And (.cons (.cmp .NotEq (.sub (.var 18) (.lit (.int (0)))) (.lit (.str [101, 110, 100]))) (.cons (.cmp .NotEq (.sub (.var 18) (.lit (.int (0)))) (.lit (.str [101, 111, 102]))) .nil))) (.cons (.expr (.meth (.var 28) 25 (.cons (.var 18) .nil))) (.cons (.asg (.var 18) (.meth (.attr (.var 67) 26) 32 .nil)) .nil))) .nil)) (some 31) (.cons (.expr (.meth (.attr (.var 67) 26) 160 .nil)) (.cons (.asg (.attr (.var 67) 34) (.attr (.attr (.var 67) 26) 34)) (.cons (.raise_ (.var 31)) .nil)))) (.cons (.asg (.attr (.var 67) 34) (.attr (.attr (.var 67) 26) 34)) (.cons (.ite (.cmp .Eq (.sub (.var 18) (.lit (.int (0)))) (.lit (.str [101, 110, 100]))) (.cons (.expr (.meth (.var 28) 25 (.cons (.var 18) .nil))) .nil) (.cons (.ite (.var 28) (.cons (.raise_ (.meth (.attr (.var 67) 26) 31 (.cons (.lit (.str [117, 110, 101, 120, 112, 101, 99, 116, 101, 100, 95, 101, 111, 102])) (.cons (.sub (.var 18) (.lit (.int (2)))) .nil)))) .nil) .nil) .nil)) (.cons (.ret (.var 28)) .nil)))))
noncomputable def b_law_figures : Ss := (.cons (.asg (.var 22) (.lst .nil)) (.cons (.for_ (.var 23) (.slc (.var 20) (.lit .none) (.var 21)) (.cons (.asg (.var 24) (.bin .Mod (.call (.gl (.st (.type "int"))) (.cons (.var 23) .nil)) (.bin .Pow (.lit (.int (96))) (.lit (.int (24)))))) (.cons (.expr (.meth (.var 22) 25 (.cons (.bin .Mod (.var 24) (.lit (.int (96)))) .nil))) (.cons (.aug 24 .FloorDiv (.lit (.int (96)))) (.cons (.while_ (.cmp .Gt (.var 24) (.lit (.int (0)))) (.cons (.expr (.meth (.var 22) 25 (.cons (.bin .Mod (.var 24) (.lit (.int (96)))) .nil))) (.cons (.aug 24 .FloorDiv (.lit (.int (96)))) .nil))) (.cons (.ite (.cmp .GtE (.call (.gl (.st (.builtin "len"))) (.cons (.var 22) .nil)) (.var 21)) (.cons .brk .nil) .nil) .nil)))))) (.cons (.ret (.slc (.bin .Add (.var 22) (.bin .Mult (.lst (.cons (.lit (.int (0))) .nil)) (.var 21))) (.lit .none) (.var 21))) .nil)))
noncomputable def b_law_due : Ss := (.cons (.asg (.var 26) (.call (.gl (.st (.ref 370))) (.cons (.var 2) .nil))) (.cons (.asg (.var 27) (.lst .nil)) (.cons (.asg (.var 28) (.lst .nil)) (.cons (.asg (.var 29) (.tup .nil)) (.cons (.forR (.var 30) (.bin .Add (.call (.gl (.st (.builtin "len"))) (.cons (.var 2) .nil)) (.lit (.int (1)))) (.cons (.try_ (.cons (.asg (.var 18) (.meth (.var 26) 32 .nil)) .nil) (some 31) (.cons (.asg (.var 18) (.tup (.cons (.lit (.str [102, 97, 117, 108, 116])) (.cons (.lit (.str [])) (.cons (.attr (.var 31) 34) .nil))))) (.cons (.ite (.cmp .Eq (.var 29) (.tup .nil)) (.cons (.asg (.var 29) (.tup (.cons (.attr (.var 31) 35) (.cons (.attr (.var 31) 34) (.cons (.attr (.var 31) 22) (.cons (.attr (.var 31) 33) .nil)))))) .nil) .nil) .nil))) (.cons (.ite (.bools .And (.cons (.cmp .Eq (.sub (.var 18) (.lit (.int (0)))) (.lit (.str [101, 111, 102]))) (.cons (.cmp .Eq (.var 29) (.tup .nil)) (.cons (.cmp .NotEq (.var 28) (.lst .nil)) .nil)))) (.cons (.asg (.tup [22, 33]) (.meth (.var 26) 5 (.cons (.call (.gl (.st (.builtin "len"))) (.cons (.var 2) .nil)) .nil))) (.cons (.asg (.var 29) (.tup (.cons (.lit (.str [117, 110, 101, 120, 112, 101, 99, 116, 101, 100, 95, 101, 111, 102])) (.cons (.call (.gl (.st (.builtin "len"))) (.cons (.var 2) .nil)) (.cons (.var 22) (.cons (.var 33) .nil)))))) .nil)) .nil) (.cons (.ite (.cmp .In (.sub (.var 18) (.lit (.int (0)))) (.tup (.cons (.lit (.str [101, 110, 100])) (.cons (.lit (.str [101, 111, 102])) .nil)))) (.cons (.ite (.cmp .NotEq (.var 29) (.tup .nil)) (.cons (.expr (.meth (.var 27) 25 (.cons (.tup (.cons (.lst .nil) (.cons (.var 29) (.cons (.attr (.var 26) 34) .nil)))) .nil))) .nil) (.cons (.ite (.cmp .Eq (.sub (.var 18) (.lit (.int (0)))) (.lit (.str [101, 110, 100]))) (.cons (.expr (.meth (.var 27) 25 (.cons (.tup (.cons (.bin .Add (.var 28) (.lst (.cons (.var 18) .nil))) (.cons (.tup .nil) (.cons (.attr (.var 26) 34) .nil)))) .nil))) .nil) .nil) .nil)) (.cons (.asg (.var 28) (.lst .nil)) (.cons (.asg (.var 29) (.tup .nil)) .nil))) .nil) (.cons (.ite (.cmp .Eq (.sub (.var 18) (.lit (.int (0)))) (.lit (.str [101, 111, 102]))) (.cons .brk .nil) .nil) (.cons (.ite (.cmp .NotIn (.sub (.var 18) (.lit (.int (0)))) (.tup (.cons (.lit (.str [101, 110, 100])) (.cons (.lit (.str [102, 97, 117, 108, 116])) .nil)))) (.cons (.expr (.meth (.var 28) 25 (.cons (.var 18) .nil))) .nil) .nil) .nil)))))) (.cons (.ret (.bin .Add (.var 27) (.lst (.cons (.tup (.cons (.lst .nil) (.cons (.tup .nil) (.cons (.call (.gl (.st (.builtin "len"))) (.cons (.var 2) .nil)) .nil)))) (.cons (.tup (.cons (.lst .nil) (.cons (.tup .nil) (.cons (.call (.gl (.st (.builtin "len"))) (.cons (.var 2) .nil)) .nil)))) .nil))))) .nil))))))
noncomputable def b_law : Ss := (.cons (.asg (.var 36) (.call (.gl (.st (.ref 850))) (.cons (.var 20) (.cons (.lit (.int (11))) .nil)))) (.cons (.asg (.var 37) (.lst (.cons (.lit (.str [111, 107, 32])) (.cons (.lit (.str [46, 32])) (.cons (.lit (.str [88])) (.cons (.lit (.str [102, 40])) (.cons (.lit (.str [41, 32])) (.cons (.lit (.str [49, 50, 32])) (.cons (.lit (.str [39, 97, 46, 32, 98, 39, 32])) (.cons (.lit (.str [39, 92, 113, 39, 32])) (.cons (.lit (.str [49, 46, 53, 32])) (.cons (.lit (.str [37, 32, 46, 32, 98, 10])) (.cons (.lit (.str [47, 42, 32, 46, 32, 42, 47])) (.cons (.lit (.str [10])) (.cons (.lit (.str [46, 10])) (.cons (.lit (.str [40])) (.cons (.lit (.str [39])) (.cons (.lit (.str [34])) (.cons (.lit (.str [47, 42, 32, 46, 32])) (.cons (.lit (.str [61, 46, 46, 32])) (.cons (.lit (.str [46])) (.cons (.lit (.str [48, 39, 46, 32])) (.cons (.lit (.str [34, 92, 120, 46, 34])) (.cons (.lit (.str [96, 99, 96])) .nil)))))))))))))))))))))))) (.cons (.asg (.var 19) (.lit (.str []))) (.cons (.forR (.var 30) (.bin .Mod (.bin .Add (.sub (.var 36) (.lit (.int (0)))) (.lit (.int (2)))) (.lit (.int (11)))) (.cons (.aug 19 .Add (.sub (.bin .Add (.var 37) (.lst (.cons (.call (.gl (.st (.builtin "chr"))) (.cons (.lit (.int (233))) .nil)) .nil))) (.bin .Mod (.sub (.var 36) (.bin .Add (.lit (.int (1))) (.var 30))) (.lit (.int (23)))))) .nil)) (.cons (.asg (.var 2) (.comp (.call (.gl (.st (.builtin "ord"))) (.cons (.var 44) .nil)) 44 (.var 19))) (.cons (.asg (.var 38) (.slc (.var 2) (.lit .none) (.lit .none))) (.cons (.asg (.var 39) (.call (.gl (.st (.ref 154))) .nil)) (.cons (.asg (.var 40) (.call (.gl (.st (.ref 839))) (.cons (.var 39) (.cons (.call (.gl (.st (.ref 509))) (.cons (.var 39) (.cons (.lit (.bool false)) .nil))) (.cons (.call (.gl (.st (.ref 565))) (.cons (.var 39) .nil)) (.cons (.var 38) .nil)))))) (.cons (.for_ (.tup [28, 29, 41]) (.call (.gl (.st (.ref 857))) (.cons (.var 2) .nil)) (.cons (.asg (.var 42) (.tup .nil)) (.cons (.asg (.var 43) (.lst .nil)) (.cons (.try_ (.cons (.asg (.var 43) (.meth (.var 40) 45 .nil)) .nil) (some 31) (.cons (.asg (.var 42) (.tup (.cons (.attr (.var 31) 35) (.cons (.attr (.var 31) 34) (.cons (.attr (.var 31) 22) (.cons (.attr (.var 31) 33) .nil)))))) .nil)) (.cons (.ite (.bools .Or (.cons (.cmp .NotEq (.var 43) (.var 28)) (.cons (.cmp .NotEq (.var 42) (.var 29)) (.cons (.cmp .NotEq (.attr (.var 40) 34) (.var 41)) .nil)))) (.cons (.ret (.lit (.bool false))) .nil) .nil) .nil))))) (.cons (.ret (.cmp .Eq (.var 38) (.var 2))) .nil))))))))))
end B
end Mine
end

section
open PySem PySem.W PyProof.Rows PySem.Calls
set_option Elab.async false
set_option linter.unusedVariables false
set_option maxRecDepth 100000
namespace Mine

/-- how a function of the program is called -/
noncomputable def FnR (c : Sx) (a : Addr) (ks : List Nat) (np : Nat) (pd : List PV) (B : Ss) : Prop :=
  ∀ (lv : Nat) (hd : Option Nat) (ps : List PV) (σ : St) (Q : PV → St → Prop) (X : Nat → St → Prop), ps.length = np →
    wpSs c lv B hd (updAll (fun _ => none) ks (ps ++ pd)) σ (fun fl _ σ => Q (retOf fl) σ) (fun i _ σ => X i σ) → CodeOk c (lv + 1) hd (.ref a) ps σ Q X

/-! the fragment of a heap -/
noncomputable def fragOf (h : Heap) : List Addr → Frag
  | [] => []
  | a :: as => match h.get? a with
    | some o => (a, o) :: fragOf h as
    | none => fragOf h as
theorem fragOf_in (h : Heap) : ∀ as : List Addr, (fragOf h as).In h
  | [], a, o, e => by cases e
  | b :: as, a, o, e => by
    rw [fragOf] at e
    split at e
    · rename_i x hx
      simp only [List.lookup] at e
      split at e
      · rename_i q; cases e; rw [beq_iff_eq.mp q]; exact hx
      · exact fragOf_in h as a o e
    · exact fragOf_in h as a o e

/-! names by numbers -/
noncomputable def bigStr (k : Nat) : Str := ⟨(List.replicate (k + 200) 120).toArray⟩
noncomputable def nmOf (k : Nat) : Str := match B.tab[k]? with
  | some s => s
  | none => bigStr k
theorem bigStr_size (k : Nat) : (bigStr k).cps.size = k + 200 := by simp [bigStr]
theorem tab_short : ∀ s ∈ B.tab, s.cps.size < 100 := by decide +kernel
theorem tab_nodup : B.tab.Nodup := by decide +kernel
theorem tab_len : B.tab.length ≤ 1000 := by decide +kernel
theorem nmOf_inj (a b : Nat) (h : nmOf a = nmOf b) : a = b := by
  unfold nmOf at h
  cases ha : B.tab[a]? with
  | some s =>
    cases hb : B.tab[b]? with
    | some t =>
      rw [ha, hb] at h
      dsimp only at h
      subst h
      obtain ⟨h1, e1⟩ := List.getElem?_eq_some_iff.mp ha
      obtain ⟨h2, e2⟩ := List.getElem?_eq_some_iff.mp hb
      have P := List.pairwise_iff_getElem.mp tab_nodup
      rcases Nat.lt_trichotomy a b with q | q | q
      · exact absurd (e1.trans e2.symm) (P a b h1 h2 q)
      · exact q
      · exact absurd (e2.trans e1.symm) (P b a h2 h1 q)
    | none =>
      rw [ha, hb] at h
      dsimp only at h
      have := tab_short s (List.mem_of_getElem? ha)
      rw [h, bigStr_size] at this; omega
  | none =>
    cases hb : B.tab[b]? with
    | some t =>
      rw [ha, hb] at h
      dsimp only at h
      have := tab_short t (List.mem_of_getElem? hb)
      rw [← h, bigStr_size] at this; omega
    | none =>
      rw [ha, hb] at h
      have := congrArg (fun s => s.cps.size) h
      simpa [bigStr_size] using this
theorem nmOf_idx (x : Str) (k : Nat) (h : B.tab.idxOf? x = some k) : nmOf k = x := by
  unfold nmOf
  obtain ⟨hk, e, _⟩ := List.idxOf?_eq_some_iff.mp h
  rw [List.getElem?_eq_getElem hk]
  exact e

/-! checks over a fragment -/
mutual
noncomputable def okG (K : Frag) : PV → Value → Bool
  | .none, .none => true
  | .bool b, .bool c => b == c
  | .int i, .int j _ => i == j
  | .str s, .str t _ => s == t.cps.toList
  | .tup ps, .ref a => (match K.lookup a with
      | some ⟨.type "tuple", _, .seq xs _, _⟩ => okGs K ps xs.toList
      | _ => false)
  | .st v, w => v == w && handedIn v
  | _, _ => false
noncomputable def okGs (K : Frag) : List PV → List Value → Bool
  | [], [] => true
  | p :: ps, v :: vs => okG K p v && okGs K ps vs
  | _, _ => false
end

mutual
theorem okG_rep {K : Frag} {h : Heap} {loc : Nat → Addr} {n : Nat} (X : K.In h) : ∀ {p : PV} {v : Value}, okG K p v = true → VRep h loc n p v := by
  intro p v e
  cases p with
  | none => cases v <;> first | exact .none | (simp [okG] at e)
  | bool b => cases v <;> first | (simp [okG] at e; subst e; exact .bool _) | (simp [okG] at e)
  | int i => cases v <;> first | (simp [okG] at e; subst e; exact .int _ _) | (simp [okG] at e)
  | str s =>
    cases v <;> first | (simp [okG] at e; done) | skip
    rename_i t tk
    simp [okG] at e
    subst e
    exact .str t.cps.toList tk
  | tup ps =>
    cases v <;> first | (simp [okG] at e; done) | skip
    rename_i a
    simp only [okG] at e
    split at e
    · rename_i d xs k sl ho
      exact .tup (xs := xs.toList) ⟨_, k, X _ _ ho, rfl, by simp⟩ (okGs_rep X e)
    · cases e
  | ref i => simp [okG] at e
  | st w =>
    simp only [okG, Bool.and_eq_true, beq_iff_eq] at e
    obtain ⟨rfl, e2⟩ := e
    exact .st _ e2
theorem okGs_rep {K : Frag} {h : Heap} {loc : Nat → Addr} {n : Nat} (X : K.In h) : ∀ {p : List PV} {v : List Value}, okGs K p v = true → VReps h loc n p v := by
  intro p v e
  cases p with
  | nil => cases v with
    | nil => exact .nil
    | cons _ _ => simp [okGs] at e
  | cons p ps => cases v with
    | nil => simp [okGs] at e
    | cons v vs =>
      simp only [okGs, Bool.and_eq_true] at e
      exact .cons (okG_rep X e.1) (okGs_rep X e.2)
end

/-- a global name's value -/
noncomputable def okGlob (K : Frag) (x : Str) (p : PV) : Bool := match nsIn K mainGlobals x with
  | some (some v) => okG K p v
  | some none => (match bootBuiltins x with
      | some v => okG K p v && x != "__name__"
      | none => false)
  | none => false

theorem okGlob_of {K : Frag} {B₀ h : Heap} {mg mb : Str → Option Value} (XB : K.In B₀) (G : B₀.Ns mainGlobals mg) (hb : ∀ x : Str, x ≠ "__name__" → mb x = bootBuiltins x) {x : Str} {p : PV} (e : okGlob K x p = true) :
    ∃ v, (mg x = some v ∨ (mg x = none ∧ mb x = some v)) ∧ ∀ h loc n, B₀.StaysIn h → VRep h loc n p v := by
  unfold okGlob at e
  split at e
  · rename_i v hv
    exact ⟨v, .inl (mg_of XB G hv), fun h loc n st => okG_rep (fun a o q => st _ _ (XB _ _ q)) e⟩
  · rename_i hv
    split at e
    · rename_i v hw
      simp only [Bool.and_eq_true, bne_iff_ne] at e
      exact ⟨v, .inr ⟨mg_none_of XB G hv, (hb x e.2).trans hw⟩, fun h loc n st => okG_rep (fun a o q => st _ _ (XB _ _ q)) e.1⟩
    · cases e
  · cases e
end Mine
end

section
open PySem PySem.W PyProof.Rows PySem.Calls
set_option Elab.async false
set_option linter.unusedVariables false
set_option maxRecDepth 100000
namespace Mine

theorem fm_congr {α β : Type} {f g : α → Option β} : ∀ {l : List α}, (∀ x ∈ l, f x = g x) → l.filterMap f = l.filterMap g
  | [], _ => rfl
  | x :: l, h => by rw [List.filterMap_cons, List.filterMap_cons, h x (.head _), fm_congr fun y hy => h y (.tail _ hy)]
theorem lookup_zip {V : Type} : ∀ {xs : List Str} {w : List V}, xs.Nodup → xs.length = w.length → xs.filterMap (fun n => (List.lookup n (xs.zip w)).map fun x => (n, x)) = xs.zip w
  | [], _, _, _ => by simp
  | x :: xs, [], _, h => by simp at h
  | x :: xs, v :: w, nd, h => by
    rw [List.nodup_cons] at nd
    have : xs.filterMap (fun n => (List.lookup n ((x :: xs).zip (v :: w))).map fun x => (n, x)) = xs.filterMap (fun n => (List.lookup n (xs.zip w)).map fun x => (n, x)) := by
      refine fm_congr fun y hy => ?_
      have : (y == x) = false := beq_eq_false_iff_ne.mpr fun e => nd.1 (e ▸ hy)
      rw [List.zip_cons_cons, List.lookup_cons, this]
    rw [List.filterMap_cons]
    simp only [List.zip_cons_cons, List.lookup_cons, beq_self_eq_true, Option.map_some]
    rw [List.zip_cons_cons] at this
    simp only [List.lookup_cons] at this
    rw [this, lookup_zip nd.2 (by simpa using h)]

theorem loop_has : ∀ (l slots : List (Str × Value)), (∀ p ∈ l, (List.lookup p.1 slots).isSome = true) →
    (forIn l slots fun x __s => if (List.lookup x.fst __s).isNone = true then (pure (ForInStep.yield (__s ++ [(x.fst, x.snd)])) : Sem _) else pure (ForInStep.yield __s)) = pure slots
  | [], _, _ => rfl
  | p :: l, slots, h => by
    rw [List.forIn_cons]
    have : (List.lookup p.1 slots).isNone = false := by rw [Option.isNone_eq_false_iff]; exact h p (.head _)
    rw [if_neg (by rw [this]; simp)]
    exact loop_has l slots fun q hq => h q (.tail _ hq)
theorem loop_new : ∀ (l slots : List (Str × Value)), (l.map (·.1)).Nodup → (∀ p ∈ l, ∀ q ∈ slots, p.1 ≠ q.1) →
    (forIn l slots fun x __s => if (List.lookup x.fst __s).isNone = true then (pure (ForInStep.yield (__s ++ [(x.fst, x.snd)])) : Sem _) else pure (ForInStep.yield __s)) = pure (slots ++ l)
  | [], slots, _, _ => by rw [List.append_nil]; rfl
  | p :: l, slots, nd, h => by
    rw [List.forIn_cons]
    rw [List.map_cons, List.nodup_cons] at nd
    have : (List.lookup p.1 slots).isNone = true := by
      rw [Option.isNone_iff_eq_none, List.lookup_eq_none_iff]
      intro q hq; rw [bne_iff_ne]; exact h p (.head _) q hq
    rw [if_pos this]
    have e := loop_new l (slots ++ [(p.1, p.2)]) nd.2 fun q hq r hr => by
      rcases List.mem_append.mp hr with hr | hr
      · exact h q (.tail _ hq) r hr
      · simp at hr; subst hr
        intro e; exact nd.1 (List.mem_map.mpr ⟨q, hq, e⟩)
    rw [List.append_assoc] at e
    exact e

theorem mem_zip_lookup {V : Type} {x : Str} : ∀ {xs : List Str} {w : List V}, xs.length = w.length → x ∈ xs → (List.lookup x (xs.zip w)).isSome = true
  | _ :: _, [], h, _ => by simp at h
  | y :: xs, v :: w, h, hx => by
    rw [List.zip_cons_cons, List.lookup_cons]
    cases e : x == y with
    | true => rfl
    | false =>
      rcases List.mem_cons.mp hx with rfl | hx
      · simp at e
      · exact mem_zip_lookup (by simpa using h) hx

theorem mem_zip_take {V : Type} {x : Str} : ∀ {xs : List Str} {w : List V}, x ∈ xs.take w.length → (List.lookup x (xs.zip w)).isSome = true
  | [], _, h => by simp at h
  | _ :: _, [], h => by simp at h
  | y :: xs, v :: w, hx => by
    rw [List.zip_cons_cons, List.lookup_cons]
    cases e : x == y with
    | true => rfl
    | false =>
      rw [List.length_cons, List.take_succ_cons] at hx
      rcases List.mem_cons.mp hx with rfl | hx
      · simp at e
      · exact mem_zip_take hx

theorem bind_gen {s : Shared} {fd : FuncData} {vs ds w : List Value} {xs : List Str} (h1 : fd.params.posonlyargs = []) (h2 : fd.params.args.map (·.arg) = xs) (h3 : fd.params.vararg = none) (h4 : fd.params.kwonlyargs = []) (h5 : fd.params.kwarg = none)
  (o : Option (Array Value)) (ho : ∀ (M : Model) (A : Around) (E : Value → Shared → Prop) (Q : Option (Array Value) → Shared → Prop), Q o s → wpAny M A (seqItems? fd.defaults) Q E s)
   (hd : (o.getD #[]).toList = ds) (hdl : ds.length ≤ xs.length) (nd : xs.Nodup) (hv : (vs.length = xs.length ∧ w = vs) ∨ (vs.length + ds.length = xs.length ∧ w = vs ++ ds)) : BindsTo s fd ⟨vs, []⟩ (xs.zip w) := by
  intro M A E Q hQ
  unfold bindArgs
  simp only [h1, h2, h3, h4, h5, List.map_nil, List.nil_append, List.forIn_nil]
  refine wpAny_bind (wpAny_pure ?_)
  refine wpAny_bind (ho _ _ _ _ ?_)
  have hw : xs.length = w.length := by rcases hv with ⟨a, rfl⟩ | ⟨a, rfl⟩ <;> first | omega | (simp; omega)
  have g1 : ¬ (vs.length > xs.length) := by rcases hv with ⟨a, _⟩ | ⟨a, _⟩ <;> omega
  have g2 : ds.length - xs.length = 0 := by omega
  simp only [hd, g1, g2, List.drop_zero, decide_false, Bool.false_and, Bool.false_eq_true, if_false]
  have g3 : (List.filter (fun n => (List.lookup n (xs.zip vs)).isNone) (List.take (xs.length - ds.length) xs)) = [] := by
    rw [List.filter_eq_nil_iff]
    intro x hx
    have : x ∈ xs.take vs.length := by
      refine List.mem_of_mem_take (i := xs.length - ds.length) ?_
      rw [List.take_take]
      have : min (xs.length - ds.length) vs.length = xs.length - ds.length := by rcases hv with ⟨a, _⟩ | ⟨a, _⟩ <;> omega
      rw [this]; exact hx
    have := mem_zip_take (w := vs) this
    rw [Option.isNone_iff_eq_none]
    intro e; rw [e] at this; cases this
  rw [g3]
  simp only [List.isEmpty_nil, Bool.not_true, Bool.false_eq_true, if_false]
  have g4 : (forIn ((List.drop (xs.length - ds.length) xs).zip ds) (xs.zip vs) fun x __s => if (List.lookup x.fst __s).isNone = true then (pure (ForInStep.yield (__s ++ [(x.fst, x.snd)])) : Sem _) else pure (ForInStep.yield __s)) = pure (xs.zip w) := by
    rcases hv with ⟨a, rfl⟩ | ⟨a, rfl⟩
    · refine loop_has _ _ fun p hp => ?_
      have := (List.of_mem_zip (show (p.1, p.2) ∈ _ from hp)).1
      exact mem_zip_lookup a.symm (List.mem_of_mem_drop this)
    · have e : xs.length - ds.length = vs.length := by omega
      rw [e]
      have z : xs.zip (vs ++ ds) = xs.zip vs ++ (xs.drop vs.length).zip ds := by
        conv => lhs; rw [← List.take_append_drop vs.length xs]
        rw [List.zip_append (by simp; omega)]
        congr 1
        conv => rhs; rw [List.zip_eq_zip_take_min]
        have : min xs.length vs.length = vs.length := by omega
        rw [this, List.take_of_length_le (Nat.le_refl vs.length)]
      rw [z]
      refine loop_new _ _ ?_ fun p hp q hq => ?_
      · rw [List.map_fst_zip (by simp; omega)]
        exact (List.drop_sublist _ _).nodup nd
      · have a1 := (List.of_mem_zip (show (p.1, p.2) ∈ _ from hp)).1
        have a2 : q.1 ∈ xs.take vs.length := by
          rw [List.zip_eq_zip_take_min] at hq
          have : min xs.length vs.length = vs.length := by omega
          rw [this] at hq
          exact (List.of_mem_zip (show (q.1, q.2) ∈ _ from hq)).1
        intro e
        rw [← List.take_append_drop vs.length xs] at nd
        exact (List.nodup_append.mp nd).2.2 _ a2 _ a1 e.symm
  rw [g4]
  refine wpAny_bind (wpAny_pure ?_)
  refine wpAny_bind (wpAny_pure ?_)
  simp only [List.isEmpty_nil, Bool.not_true, Bool.false_eq_true, if_false, List.append_nil]
  refine wpAny_pure ?_
  rw [lookup_zip nd hw]; exact hQ
end Mine
end

section
open PySem PySem.W PyProof.Rows PySem.Calls
set_option Elab.async false
set_option linter.unusedVariables false
set_option maxRecDepth 100000
namespace Mine

structure FnE where
  a : Addr
  ks : List Nat
  pd : List PV
  body : Ss

noncomputable def codeIn (K : Frag) (cd : Value) (q : Str) : Bool := match cd with
  | .ref c => (match K.lookup c with
      | some ⟨_, _, .fields vs, _⟩ => (match vs.toList with
          | _ :: .str x _ :: _ => x == q
          | _ => false)
      | _ => false)
  | _ => false
theorem codeIn_of {K : Frag} {h : Heap} (X : K.In h) {cd : Value} {q : Str} (e : codeIn K cd q = true) : h.CodeRec cd q := by
  unfold codeIn at e
  split at e
  · rename_i c
    split at e
    · rename_i vs sl ho
      split at e
      · rename_i v x t r hv
        rw [beq_iff_eq] at e
        subst e
        refine ⟨c, _, vs, t, rfl, X _ _ ho, rfl, ?_⟩
        rw [← Array.getElem?_toList, hv]; rfl
      · cases e
    · cases e
  · cases e

noncomputable def okD : PV → Value → Bool
  | .none, .none => true
  | .bool b, .bool c => b == c
  | .int i, .int j _ => i == j
  | _, _ => false
noncomputable def okDs : List PV → List Value → Bool
  | [], [] => true
  | p :: ps, v :: vs => okD p v && okDs ps vs
  | _, _ => false
theorem okD_rep {h : Heap} {loc : Nat → Addr} {n : Nat} {p : PV} {v : Value} (e : okD p v = true) : VRep h loc n p v := by
  cases p <;> cases v <;> first | exact .none | (simp [okD] at e; subst e; first | exact .bool _ | exact .int _ _) | (simp [okD] at e)
theorem okDs_rep {h : Heap} {loc : Nat → Addr} {n : Nat} : ∀ {p : List PV} {v : List Value}, okDs p v = true → VReps h loc n p v
  | [], [], _ => .nil
  | [], _ :: _, e => by simp [okDs] at e
  | _ :: _, [], e => by simp [okDs] at e
  | p :: ps, v :: vs, e => by
    simp only [okDs, Bool.and_eq_true] at e
    exact .cons (okD_rep e.1) (okDs_rep e.2)

noncomputable def dflOf (K : Frag) (d : Value) : Option (Option (Array Value)) := match d with
  | .ref T => (match K.lookup T with
      | some ⟨_, _, .seq xs _, _⟩ => some (some xs)
      | _ => none)
  | .none => some none
  | _ => none

theorem dflOf_of {K : Frag} {s : Shared} (X : K.In s.heap) {d : Value} {o : Option (Array Value)} (e : dflOf K d = some o) (M : Model) (A : Around) (E : Value → Shared → Prop) (Q : Option (Array Value) → Shared → Prop) (q : Q o s) : wpAny M A (seqItems? d) Q E s := by
  unfold dflOf at e
  split at e
  · split at e
    · rename_i xs k sl ho
      cases e
      exact wpAny_seqItems (X _ _ ho) rfl q
    · cases e
  · cases e
    exact (Looks.of_peek (M := M) (r := none) X rfl).here q
  · cases e

noncomputable def fnOk (K : Frag) (e : FnE) : Bool := match K.lookup e.a with
  | some ⟨_, _, .func fd, _⟩ => codeIn K fd.code fd.qualname && (match fd.body with | .stmts _ => true | _ => false) && fd.scope.names.all (fun x => decide (x.2 ≠ .cell)) &&
      e.ks.all (fun k => decide (k < B.tab.length) && decide (fd.scope.names.lookup (nmOf k) = some .local)) && !fd.scope.isCoroutine && !fd.scope.isGenerator && decide (fd.scope.kind = .function) &&
      fd.globals == mainGlobals && fd.builtins == builtinsNs && fd.params.posonlyargs.isEmpty && fd.params.args.map (·.arg) == e.ks.map nmOf && fd.params.vararg.isNone && fd.params.kwonlyargs.isEmpty && fd.params.kwarg.isNone &&
      decide (e.pd.length ≤ e.ks.length) && decide e.ks.Nodup && (match dflOf K fd.defaults with
        | some o => (e.pd.isEmpty && decide ((o.getD #[]).toList.length ≤ e.ks.length)) || okDs e.pd (o.getD #[]).toList
        | none => false)
  | _ => false
noncomputable def bodyOf (K : Frag) (cc : CC) (a : Addr) : Ss := match K.lookup a with
  | some ⟨_, _, .func fd, _⟩ => (match fd.body with
      | .stmts b => compSs cc 60 fd.scope b
      | _ => .cons .bad .nil)
  | _ => .cons .bad .nil

theorem idx_nm {k : Nat} (h : k < B.tab.length) : B.tab.idxOf? (nmOf k) = some k := by
  rw [List.idxOf?_eq_some_iff]
  have e : nmOf k = B.tab[k] := by unfold nmOf; rw [List.getElem?_eq_getElem h]
  refine ⟨h, e.symm, fun j hj => ?_⟩
  rw [e]
  exact List.pairwise_iff_getElem.mp tab_nodup j k (by omega) h hj

theorem fnR_of {c : Sx} (htab : c.cc.tab = B.tab) {e : FnE} (h : fnOk c.K e = true) (hb : bodyOf c.K c.cc e.a = e.body) : FnR c e.a e.ks (e.ks.length - e.pd.length) e.pd e.body := by
  unfold fnOk at h
  unfold bodyOf at hb
  split at h
  · rename_i cl dd fd sl ho
    simp only [ho] at hb
    simp only [Bool.and_eq_true, decide_eq_true_eq, beq_iff_eq, Bool.not_eq_true', List.all_eq_true, List.isEmpty_iff, Option.isNone_iff_eq_none] at h
    obtain ⟨⟨⟨⟨⟨⟨⟨⟨⟨⟨⟨⟨⟨⟨⟨⟨q1, q2⟩, q3⟩, q4⟩, q5⟩, q6⟩, q7⟩, q8⟩, q9⟩, q10⟩, q11⟩, q12⟩, q13⟩, q14⟩, q15⟩, q16⟩, q17⟩ := h
    split at q2
    · rename_i body hbody
      simp only [hbody] at hb
      have nd : (e.ks.map nmOf).Nodup := List.Pairwise.map nmOf (fun a b h e => h (nmOf_inj a b e)) q16
      have FA : FnAt c e.a fd body (e.ks.map nmOf) := ⟨⟨_, ho, rfl⟩, fun h X => codeIn_of X q1, hbody, fun x hx => q3 x hx, fun x hx => by
        obtain ⟨k, hk, rfl⟩ := List.mem_map.mp hx; exact (q4 k hk).2, nd, q5, q6, q7, q8, q9⟩
      have hks : (e.ks.map nmOf).map c.cc.idx = e.ks.map some := by
        rw [List.map_map]
        refine List.map_congr_left fun k hk => ?_
        show c.cc.tab.idxOf? (nmOf k) = some k
        rw [htab]; exact idx_nm (q4 k hk).1
      split at q17
      · rename_i o hdf
        intro lv hd ps σ Q X hl hw
        rw [← hb] at hw
        simp only [Bool.or_eq_true, Bool.and_eq_true, List.isEmpty_iff, decide_eq_true_eq] at q17
        rcases q17 with ⟨hp, hol⟩ | hok
        · have hp0 : e.pd = [] := hp
          refine func_code (ds := []) FA hks (fun s vs X hv => ?_) (pd := e.pd) (fun _ _ _ => by rw [hp0]; exact .nil) hl (by simp [hp0]) hw
          rw [List.append_nil]
          exact bind_gen q10 q11 q12 q13 q14 o (fun M A E Q q => dflOf_of X hdf M A E Q q) rfl (by simpa using hol) nd (.inl ⟨by simp [hv, hp0], rfl⟩)
        · have hlen : e.pd.length = (o.getD #[]).toList.length := ((okDs_rep hok : VReps ⟨#[], default⟩ (fun _ => 0) 0 _ _).length).symm
          refine func_code (ds := (o.getD #[]).toList) FA hks (fun s vs X hv => ?_) (pd := e.pd) (fun _ _ _ => okDs_rep hok) hl (by simp; omega) hw
          exact bind_gen q10 q11 q12 q13 q14 o (fun M A E Q q => dflOf_of X hdf M A E Q q) rfl (by simp only [List.length_map]; omega) nd (.inr ⟨by simp only [List.length_map]; omega, rfl⟩)
      · cases q17
    · cases q2
  · cases h
end Mine
end

section
open PySem PySem.W PyProof.Rows PySem.Calls
set_option Elab.async false
set_option linter.unusedVariables false
set_option maxRecDepth 100000
namespace Mine

/-- what a program brings -/
structure PD where
  globs : List (Str × PV)
  fns : List FnE
  callees : List Value
  flds : List (Addr × List Nat)
  meths : List (Addr × Nat × Addr)
  classes : List (Addr × Addr)

noncomputable def passOk : List Value → Bool
  | .ref _ :: r => passOk r
  | l => l == [.type "object"] || l == [.type "Exception", .type "BaseException", .type "object"]
theorem passOk_of (self : Value) : ∀ {l : List Value}, passOk l = true → refuseLoop self "__setattr__" l = pure ()
  | .ref c :: r, e => by rw [refuseLoop_ref]; exact passOk_of self (by simpa [passOk] using e)
  | [], e => by simp [passOk] at e
  | .none :: r, e => by simp [passOk] at e
  | .ellipsis :: r, e => by simp [passOk] at e
  | .notImplemented :: r, e => by simp [passOk] at e
  | .bool _ :: r, e => by simp [passOk] at e
  | .int _ _ :: r, e => by simp [passOk] at e
  | .float _ _ :: r, e => by simp [passOk] at e
  | .str _ _ :: r, e => by simp [passOk] at e
  | .bytes _ _ :: r, e => by simp [passOk] at e
  | .builtin _ :: r, e => by simp [passOk] at e
  | .type n :: r, e => by
    rw [passOk] at e
    · simp only [Bool.or_eq_true, beq_iff_eq] at e
      rcases e with e | e
      · rw [e]; exact PySem.F.store_object.passes self
      · rw [e]; exact PySem.F.store_Exception.passes self
    · intro c r h; cases h

noncomputable def clsOk (K : Frag) (C : Addr) : Bool := (match clsIn K C with
  | some cd => cd.hasDict && !cd.mro.isEmpty && cd.mro.contains (.type "object") && passOk cd.mro &&
      (findIn K (.ref C) "__getattribute__" == some (some (.builtin "object.__getattribute__")) || (findIn K (.ref C) "__getattribute__" == some (some (.builtin "BaseException.__getattribute__")) && cd.mro.contains (.type "BaseException")))
  | none => false) && findIn K (.ref C) "__setattr__" == some (some (.builtin "object.__setattr__")) && findIn K (.ref C) "__getattr__" == some none
theorem clsOk_of {K : Frag} {C : Addr} (e : clsOk K C = true) : ClsOk K C := by
  unfold clsOk at e
  simp only [Bool.and_eq_true, beq_iff_eq] at e
  obtain ⟨⟨e1, e2⟩, e3⟩ := e
  split at e1
  · rename_i cd hcd
    simp only [Bool.and_eq_true, Bool.or_eq_true, beq_iff_eq, Bool.not_eq_true'] at e1
    obtain ⟨⟨⟨⟨q1, q2⟩, q3⟩, q4⟩, q5⟩ := e1
    exact ⟨⟨cd, hcd, q1, q2, q3, fun self => passOk_of self q4⟩, e2, e3, q5.imp id fun z => ⟨z.1, cd, hcd, q2, z.2⟩⟩
  · cases e1

noncomputable def fldOk (K : Frag) (p : Addr × List Nat) : Bool := clsOk K p.1 && p.2.all fun x => decide (x < B.tab.length) && findIn K (.ref p.1) (nmOf x) == some none
noncomputable def methOk (K : Frag) (m : Addr × Nat × Addr) : Bool := clsOk K m.1 && findIn K (.ref m.1) "__getattribute__" == some (some (.builtin "object.__getattribute__")) &&
  findIn K (.ref m.1) (nmOf m.2.1) == some (some (.ref m.2.2)) && typeIn K (.ref m.2.2) == some (.type "function") && keepIn K (.ref m.2.2)
noncomputable def madeOk (K : Frag) (c : Addr × Addr) : Bool := makesIn K c.1 && findIn K (.ref c.1) "__init__" == some (some (.ref c.2)) && typeIn K (.ref c.2) == some (.type "function")

noncomputable def excInB (K : Frag) (C : Addr) : Bool := match K.lookup C with
  | some ⟨.type "type", _, .cls cd, sl⟩ => (match cd.mro, sl.toList with
    | .ref C' :: bm, [_, _, _, _, some (.builtin n), _] => C' == C && n == "Exception.__new__" && !cd.hasDel && (Value.ref C :: bm).contains (.type "Exception") && !(Value.ref C :: bm).contains (.type "AttributeError") && !(Value.ref C :: bm).contains (.type "NameError")
    | _, _ => false)
  | _ => false
theorem excIn_of {K : Frag} {C : Addr} (q : excInB K C = true) : ExcIn K C := by
  unfold excInB at q
  split at q
  · rename_i dd cd sl ho
    split at q
    · rename_i C' bm k0 k1 k2 k3 n k5 hm hs
      simp only [Bool.and_eq_true, beq_iff_eq, Bool.not_eq_true'] at q
      obtain ⟨⟨⟨⟨⟨rfl, rfl⟩, hdel⟩, c1⟩, c2⟩, c3⟩ := q
      obtain ⟨nm, bs, mro, ns, qn, hd, sn, sub, ab, col, del⟩ := cd
      dsimp only at hm hdel
      subst hm hdel
      have hsl : sl = #[k0, k1, k2, k3, some (.builtin "Exception.__new__"), k5] := by
        obtain ⟨l⟩ := sl
        simp only at hs
        rw [hs]
      subst hsl
      exact ⟨nm, qn, ns, bs, bm, hd, sn, sub, ab, col, dd, k0, k1, k2, k3, k5, ho, c1, c2, c3⟩
    · cases q
  · cases q

/-- the built-ins that are called -/
noncomputable def bcalls : List Value := [.builtin "chr", .builtin "len", .builtin "ord", .builtin "max", .type "int", .type "tuple", .builtin "list.append", .builtin "list.pop", .builtin "list.reverse", .builtin "str.join", .builtin "str.find", .builtin "dict.get"]
noncomputable def bmeths : List ((Nat × Nat) × String) := [((0, 25), "list.append"), ((0, 54), "list.pop"), ((0, 52), "list.reverse"), ((1, 3), "str.join"), ((1, 6), "str.find"), ((2, 73), "dict.get")]

noncomputable def statOk (K : Frag) (D : PD) : Bool :=
  (D.globs.all fun g => okGlob K g.1 g.2) && D.fns.all (fnOk K) && D.callees.all (keepIn K) && D.flds.all (fldOk K) && D.meths.all (methOk K) && D.classes.all (madeOk K) &&
  (mroIn K 51 (.type "BaseException") == some true && typeIn K (.ref 51) == some (.type "type") && exmOne K (.ref 51) (.ref 51) == some true) && excInB K 51 && findIn K (.ref 51) "__init__" == some (some (.ref 48)) && typeIn K (.ref 48) == some (.type "function") &&
  nsIn K mainGlobals "SyntaxFault" == some (some (.ref 51)) && nsIn K mainGlobals "range" == some none && nsIn K mainGlobals "reversed" == some none && (K.lookup sysModules).isSome

structure Stat (K : Frag) (D : PD) : Prop where
  globs : ∀ g ∈ D.globs, okGlob K g.1 g.2 = true
  fns : ∀ e ∈ D.fns, fnOk K e = true
  callees : ∀ v ∈ D.callees, keepIn K v = true
  flds : ∀ p ∈ D.flds, fldOk K p = true
  meths : ∀ m ∈ D.meths, methOk K m = true
  classes : ∀ m ∈ D.classes, madeOk K m = true
  hexc : mroIn K 51 (.type "BaseException") = some true ∧ typeIn K (.ref 51) = some (.type "type") ∧ exmOne K (.ref 51) (.ref 51) = some true
  exIn : excInB K 51 = true
  exI : findIn K (.ref 51) "__init__" = some (some (.ref 48))
  exF : typeIn K (.ref 48) = some (.type "function")
  gE : nsIn K mainGlobals "SyntaxFault" = some (some (.ref 51))
  gR : nsIn K mainGlobals "range" = some none
  gV : nsIn K mainGlobals "reversed" = some none
  sys : (K.lookup sysModules).isSome = true
theorem Stat.of {K : Frag} {D : PD} (e : statOk K D = true) : Stat K D := by
  unfold statOk at e
  simp only [Bool.and_eq_true, beq_iff_eq, List.all_eq_true] at e
  obtain ⟨⟨⟨⟨⟨⟨⟨⟨⟨⟨⟨⟨⟨a1, a2⟩, a3⟩, a4⟩, a5⟩, a6⟩, ⟨a7, a7'⟩, a7''⟩, a8⟩, a9⟩, a10⟩, a11⟩, a12⟩, a13⟩, a14⟩ := e
  exact ⟨a1, a2, a3, a4, a5, a6, ⟨a7, a7', a7''⟩, a8, a9, a10, a11, a12, a13, a14⟩

noncomputable def PD.cc (D : PD) : CC := ⟨B.tab, fun x => D.globs.lookup x, "SyntaxFault"⟩
noncomputable def PD.fld (D : PD) (C : Addr) (x : Nat) : Bool := D.flds.any fun p => p.1 == C && p.2.contains x
noncomputable def PD.meth (D : PD) (C : Addr) (x : Nat) : Option Value := (D.meths.find? fun m => m.1 == C && m.2.1 == x).map fun m => .ref m.2.2

noncomputable def PD.callee (D : PD) (v : Value) : Bool := D.callees.contains v || (D.meths.any (fun m => v == .ref m.2.2) || bcalls.contains v)

/-- where the law is called -/
structure Here (D : PD) where
  prog : Program
  w : World
  K : Frag
  B : Heap
  os : OsState
  mg : Str → Option Value
  mb : Str → Option Value
  X : K.In B
  S : Stat K D
  hmg : B.Ns mainGlobals mg
  hmb : B.Ns builtinsNs mb
  hb : ∀ x : Str, x ≠ "__name__" → mb x = bootBuiltins x
  lim : B.NoLimit
  scr : Addr
  scrI : List Int
  hscr : ∃ xs : List Value, B.IsList scr xs.toArray ∧ xs.length ≤ 1000000 ∧ ∀ h loc n, VReps h loc n (scrI.map .int) xs

theorem lookup_mem {V : Type} {x : Str} {v : V} : ∀ {l : List (Str × V)}, l.lookup x = some v → (x, v) ∈ l
  | (y, w) :: l, h => by
    rw [List.lookup_cons] at h
    split at h
    · rename_i q; cases h; rw [beq_iff_eq.mp q]; exact .head _
    · exact .tail _ (lookup_mem h)
  | [], h => by cases h

theorem lookup_mem2 {V : Type} {x : Nat × Nat} {v : V} : ∀ {l : List ((Nat × Nat) × V)}, l.lookup x = some v → (x, v) ∈ l
  | (y, w) :: l, h => by
    rw [List.lookup_cons] at h
    split at h
    · rename_i q; cases h; rw [beq_iff_eq.mp q]; exact .head _
    · exact .tail _ (lookup_mem2 h)
  | [], h => by cases h

theorem bmeth_ok : ∀ p ∈ bmeths, MethOk (bname p.1.1) (nmOf p.1.2) p.2 := by
  intro p hp
  simp only [bmeths, List.mem_cons, List.not_mem_nil, or_false] at hp
  have e25 : nmOf 25 = "append" := by decide +kernel
  have e54 : nmOf 54 = "pop" := by decide +kernel
  have e52 : nmOf 52 = "reverse" := by decide +kernel
  have e3 : nmOf 3 = "join" := by decide +kernel
  have e6 : nmOf 6 = "find" := by decide +kernel
  have e73 : nmOf 73 = "get" := by decide +kernel
  rcases hp with rfl | rfl | rfl | rfl | rfl | rfl
  · show MethOk "list" (nmOf 25) "list.append"; rw [e25]; exact ⟨PySem.F.plainAttrs_list, PySem.F.slot_list_append, by kernel_rfl⟩
  · show MethOk "list" (nmOf 54) "list.pop"; rw [e54]; exact ⟨PySem.F.plainAttrs_list, PySem.F.slot_list_pop, by kernel_rfl⟩
  · show MethOk "list" (nmOf 52) "list.reverse"; rw [e52]; exact ⟨PySem.F.plainAttrs_list, PySem.F.slot_list_reverse, by kernel_rfl⟩
  · show MethOk "str" (nmOf 3) "str.join"; rw [e3]; exact ⟨PySem.F.plainAttrs_str, PySem.F.slot_str_join, by kernel_rfl⟩
  · show MethOk "str" (nmOf 6) "str.find"; rw [e6]; exact ⟨PySem.F.plainAttrs_str, PySem.F.slot_str_find, by kernel_rfl⟩
  · show MethOk "dict" (nmOf 73) "dict.get"; rw [e73]; exact ⟨PySem.F.plainAttrs_dict, PySem.F.slot_dict_get, by kernel_rfl⟩

noncomputable def Here.sx {D : PD} (H : Here D) : Sx where
  prog := H.prog
  w := H.w
  nm := nmOf
  tab := B.tab
  htab := tab_len
  B := H.B
  K := H.K
  os := H.os
  inj := nmOf_inj
  hK := H.X
  lim := H.lim
  hsys := by obtain ⟨o, ho⟩ := Option.isSome_iff_exists.mp H.S.sys; exact ⟨o, H.X _ _ ho⟩
  excC := 51
  mg := H.mg
  mb := H.mb
  hmg := H.hmg
  hmb := H.hmb
  cc := D.cc
  hnm := fun x k h => nmOf_idx x k h
  hglob := fun x p h => okGlob_of H.X (h := H.B) H.hmg H.hb (H.S.globs _ (lookup_mem h))
  callee := D.callee
  hcallee := fun v h hp X => by
    unfold PD.callee at h
    rw [Bool.or_eq_true, Bool.or_eq_true, List.contains_iff_mem, List.contains_iff_mem, List.any_eq_true] at h
    rcases h with h | ⟨m, h, e⟩ | h
    · exact keeps_K (H.S.callees v h) hp X
    · have := H.S.meths m h
      simp only [methOk, Bool.and_eq_true, beq_iff_eq] at this e
      rw [e]; exact keeps_K this.2 hp X
    · refine ⟨.machine, .inr (.inl rfl), Looks.of_pure ?_⟩
      simp only [bcalls, List.mem_cons, List.not_mem_nil, or_false] at h
      rcases h with rfl | rfl | rfl | rfl | rfl | rfl | rfl | rfl | rfl | rfl | rfl | rfl <;> rfl
  hexc := H.S.hexc
  hexcn := mg_of H.X H.hmg H.S.gE
  hexcd := by show (("SyntaxFault" : Str) == ("__debug__" : Str)) = false; decide +kernel
  hrange := ⟨mg_none_of H.X H.hmg H.S.gR, (H.hb _ (by decide +kernel)).trans (by kernel_rfl)⟩
  hrev := ⟨mg_none_of H.X H.hmg H.S.gV, (H.hb _ (by decide +kernel)).trans (by kernel_rfl)⟩
  fld := D.fld
  hfld := fun C x h => by
    obtain ⟨p, hp, h⟩ := List.any_eq_true.mp h
    simp only [Bool.and_eq_true, beq_iff_eq, List.contains_iff_mem] at h
    obtain ⟨rfl, hx⟩ := h
    have := H.S.flds p hp
    simp only [fldOk, Bool.and_eq_true, List.all_eq_true, decide_eq_true_eq, beq_iff_eq] at this
    obtain ⟨a, b⟩ := this
    refine ⟨clsOk_of a, (b x hx).2, ?_⟩
    have hl := (b x hx).1
    unfold nmOf
    rw [List.getElem?_eq_getElem hl]
    exact List.getElem_mem hl
  meth := D.meth
  hmeth := fun C x v h => by
    obtain ⟨m, hm, rfl⟩ := Option.map_eq_some_iff.mp h
    have hp := List.find?_some hm
    simp only [Bool.and_eq_true, beq_iff_eq] at hp
    obtain ⟨rfl, rfl⟩ := hp
    have := H.S.meths m (List.mem_of_find?_eq_some hm)
    simp only [methOk, Bool.and_eq_true, beq_iff_eq] at this
    obtain ⟨⟨⟨⟨a1, a2⟩, a3⟩, a4⟩, a5⟩ := this
    refine ⟨clsOk_of a1, a2, ?_, _, rfl, a3, a4⟩
    unfold PD.callee
    rw [Bool.or_eq_true, Bool.or_eq_true, List.any_eq_true]
    exact .inr (.inl ⟨m, List.mem_of_find?_eq_some hm, by simp⟩)
  scr := H.scr
  scrI := H.scrI
  hscr := H.hscr
  bmeth := fun k x => (bmeths.lookup (k, x)).map .builtin
  hbmeth := fun k x v h => by
    obtain ⟨id, hi, rfl⟩ := Option.map_eq_some_iff.mp h
    have hm := lookup_mem2 hi
    have := bmeth_ok _ hm
    refine ⟨?_, id, rfl, this⟩
    unfold PD.callee
    rw [Bool.or_eq_true, Bool.or_eq_true]
    right; right
    revert hm
    clear hi h this
    simp only [bmeths, List.mem_cons, List.not_mem_nil, or_false, Prod.mk.injEq]
    rintro (⟨_, rfl⟩ | ⟨_, rfl⟩ | ⟨_, rfl⟩ | ⟨_, rfl⟩ | ⟨_, rfl⟩ | ⟨_, rfl⟩) <;> decide +kernel
end Mine
end

section
open PySem PySem.W PyProof.Rows PySem.Calls
set_option Elab.async false
set_option maxRecDepth 100000
namespace Mine
noncomputable def D2.globs : List (Str × PV) := [(Str.ofString "A_COMMA", (.int (7))), (Str.ofString "BACKSLASH", (.int (92))), (Str.ofString "BACK_QUOTE", (.int (96))), (Str.ofString "BAD_CODE", (.int (-2))), (Str.ofString "COMMA_PRIORITY", (.int (1000))), (Str.ofString "DIGIT_ZERO", (.int (48))), (Str.ofString "DOT", (.int (46))), (Str.ofString "DOUBLE_QUOTE", (.int (34))), (Str.ofString "Flags", (.st (.ref 565))), (Str.ofString "INFIX_TYPES", (.tup [(.str [120, 102, 120]), (.str [120, 102, 121]), (.str [121, 102, 120])])), (Str.ofString "LETTER_B", (.int (98))), (Str.ofString "LETTER_O", (.int (111))), (Str.ofString "LETTER_X", (.int (120))), (Str.ofString "MAX_CODE", (.int (1114111))), (Str.ofString "NEW_LINE", (.int (10))), (Str.ofString "NO_CODE", (.int (-1))), (Str.ofString "OPEN", (.int (40))), (Str.ofString "OperatorTable", (.st (.ref 509))), (Str.ofString "PERCENT", (.int (37))), (Str.ofString "POSTFIX_TYPES", (.tup [(.str [120, 102]), (.str [121, 102])])), (Str.ofString "PREFIX_TYPES", (.tup [(.str [102, 120]), (.str [102, 121])])), (Str.ofString "QUOTE", (.int (39))), (Str.ofString "Reader", (.st (.ref 839))), (Str.ofString "SLASH", (.int (47))), (Str.ofString "STAR", (.int (42))), (Str.ofString "Symbols", (.st (.ref 154))), (Str.ofString "SyntaxFault", (.st (.ref 51))), (Str.ofString "Tokenizer", (.st (.ref 370))), (Str.ofString "UNDERSCORE", (.int (95))), (Str.ofString "_law_figures", (.st (.ref 850))), (Str.ofString "chr", (.st (.builtin "chr"))), (Str.ofString "codes_text", (.st (.ref 219))), (Str.ofString "digit_value", (.st (.ref 214))), (Str.ofString "fixed_atoms", (.st (.ref 60))), (Str.ofString "fixed_functors", (.st (.ref 67))), (Str.ofString "fixity", (.st (.ref 435))), (Str.ofString "flag_rows", (.st (.ref 428))), (Str.ofString "int", (.st (.type "int"))), (Str.ofString "is_alnum", (.st (.ref 193))), (Str.ofString "is_capital", (.st (.ref 186))), (Str.ofString "is_digit", (.st (.ref 172))), (Str.ofString "is_layout", (.st (.ref 165))), (Str.ofString "is_quotable", (.st (.ref 207))), (Str.ofString "is_small", (.st (.ref 179))), (Str.ofString "is_symbol", (.st (.ref 200))), (Str.ofString "len", (.st (.builtin "len"))), (Str.ofString "max", (.st (.builtin "max"))), (Str.ofString "numeral_base", (.st (.ref 233))), (Str.ofString "ord", (.st (.builtin "ord"))), (Str.ofString "simple_escape", (.st (.ref 226))), (Str.ofString "tuple", (.st (.type "tuple"))), (Str.ofString "_law_due", (.st (.ref 857))), (Str.ofString "standard_rows", (.st (.ref 421))), (Str.ofString "law", (.st (.ref 862)))]
noncomputable def D2.fns : List FnE := [⟨48, [67, 35, 34, 22, 33], [], B.b_SyntaxFault___init__⟩,
  ⟨60, [], [], B.b_fixed_atoms⟩,
  ⟨67, [], [], B.b_fixed_functors⟩,
  ⟨81, [67], [], B.b_Symbols___init__⟩,
  ⟨88, [67, 19], [], B.b_Symbols_atom⟩,
  ⟨102, [67, 72, 74], [], B.b_Symbols_functor⟩,
  ⟨109, [67, 19, 74], [], B.b_Symbols_func⟩,
  ⟨165, [1], [], B.b_is_layout⟩,
  ⟨172, [1], [], B.b_is_digit⟩,
  ⟨179, [1], [], B.b_is_small⟩,
  ⟨186, [1], [], B.b_is_capital⟩,
  ⟨193, [1], [], B.b_is_alnum⟩,
  ⟨200, [1], [], B.b_is_symbol⟩,
  ⟨207, [1], [], B.b_is_quotable⟩,
  ⟨214, [1], [], B.b_digit_value⟩,
  ⟨219, [2], [], B.b_codes_text⟩,
  ⟨226, [1], [], B.b_simple_escape⟩,
  ⟨233, [1], [], B.b_numeral_base⟩,
  ⟨248, [67, 2, 34], [], B.b_Tokenizer___init__⟩,
  ⟨248, [67, 2, 34], [(.int (0))], B.b_Tokenizer___init__⟩,
  ⟨255, [67, 77], [], B.b_Tokenizer_code_at⟩,
  ⟨262, [67, 34], [], B.b_Tokenizer_place⟩,
  ⟨269, [67, 35, 34], [], B.b_Tokenizer_fault⟩,
  ⟨276, [67], [], B.b_Tokenizer_next⟩,
  ⟨283, [67], [], B.b_Tokenizer_skip_clause⟩,
  ⟨290, [67], [], B.b_Tokenizer_skip_layout⟩,
  ⟨297, [67], [], B.b_Tokenizer_skip_row⟩,
  ⟨304, [67], [], B.b_Tokenizer_skip_remark⟩,
  ⟨311, [67, 34], [], B.b_Tokenizer_word⟩,
  ⟨318, [67, 34], [], B.b_Tokenizer_symbol⟩,
  ⟨325, [67, 77], [], B.b_Tokenizer_ends_at⟩,
  ⟨332, [67, 34], [], B.b_Tokenizer_numeral⟩,
  ⟨339, [67, 77, 91], [], B.b_Tokenizer_digits⟩,
  ⟨346, [67, 34], [], B.b_Tokenizer_character⟩,
  ⟨353, [67, 78, 96], [], B.b_Tokenizer_quoted⟩,
  ⟨360, [67], [], B.b_Tokenizer_escape⟩,
  ⟨367, [67, 96], [], B.b_Tokenizer_abandon⟩,
  ⟨428, [], [], B.b_flag_rows⟩,
  ⟨435, [15], [], B.b_fixity⟩,
  ⟨457, [67, 100, 101], [], B.b_OperatorTable___init__⟩,
  ⟨457, [67, 100, 101], [(.bool true)], B.b_OperatorTable___init__⟩,
  ⟨492, [67, 15], [], B.b_OperatorTable_table_of⟩,
  ⟨499, [67, 16, 15, 108], [], B.b_OperatorTable_add⟩,
  ⟨527, [67, 100], [], B.b_Flags___init__⟩,
  ⟨815, [67, 100, 59, 60, 2, 34], [], B.b_Reader___init__⟩,
  ⟨815, [67, 100, 59, 60, 2, 34], [(.int (0))], B.b_Reader___init__⟩,
  ⟨836, [67], [], B.b_Reader_gather⟩,
  ⟨850, [20, 21], [], B.b_law_figures⟩,
  ⟨857, [2], [], B.b_law_due⟩,
  ⟨862, [20], [], B.b_law⟩]
noncomputable def D2.callees : List Value := [.ref 51, .ref 60, .ref 67, .ref 154, .ref 165, .ref 172, .ref 179, .ref 186, .ref 193, .ref 200, .ref 207, .ref 214, .ref 219, .ref 226, .ref 233, .ref 370, .ref 428, .ref 435, .ref 509, .ref 565, .ref 839, .ref 850, .ref 857, .ref 862]
noncomputable def D2.flds : List (Addr × List Nat) := [(154, [68, 69, 70, 71]), (370, [2, 34, 76]), (509, [100, 102, 103, 104]), (565, [100, 112, 113, 114]), (839, [100, 59, 60, 26, 34]), (51, [35, 34, 22, 33])]
noncomputable def D2.meths : List (Addr × Nat × Addr) := [(154, 72, 88), (154, 9, 102), (154, 66, 109), (370, 80, 255), (370, 5, 262), (370, 31, 269), (370, 32, 276), (370, 160, 283), (370, 79, 290), (370, 85, 297), (370, 86, 304), (370, 83, 311), (370, 82, 318), (370, 88, 325), (370, 81, 332), (370, 93, 339), (370, 94, 346), (370, 84, 353), (370, 95, 360), (370, 97, 367), (509, 110, 492), (509, 105, 499), (839, 45, 836)]
noncomputable def D2.classes : List (Addr × Addr) := [(154, 81), (370, 248), (509, 457), (565, 527), (839, 815)]
noncomputable def D2 : PD := ⟨D2.globs, D2.fns, D2.callees, D2.flds, D2.meths, D2.classes⟩
noncomputable def D2.addrs : List Addr := [1, 2, 3, 30, 31, 47, 48, 50, 51, 59, 60, 66, 67, 80, 81, 87, 88, 101, 102, 108, 109, 153, 154, 164, 165, 171, 172, 178, 179, 185, 186, 192, 193, 199, 200, 206, 207, 213, 214, 218, 219, 225, 226, 232, 233, 241, 247, 248, 254, 255, 261, 262, 268, 269, 275, 276, 282, 283, 289, 290, 296, 297, 303, 304, 310, 311, 317, 318, 324, 325, 331, 332, 338, 339, 345, 346, 352, 353, 359, 360, 366, 367, 369, 370, 412, 413, 414, 421, 427, 428, 434, 435, 450, 456, 457, 491, 492, 498, 499, 508, 509, 526, 527, 564, 565, 808, 814, 815, 835, 836, 838, 839, 849, 850, 856, 857, 861, 862]
end Mine
end

section
open PySem PySem.W PyProof.Rows PySem.Calls
set_option Elab.async false
set_option linter.unusedVariables false
set_option maxRecDepth 100000
namespace Mine

/-! ## short rules for the small language: what keeps the store -/
noncomputable def EV (c : Sx) (lv : Nat) (hd : Option Nat) (σ : St) (ρ : Loc) (e : E) (p : PV) : Prop := ∀ (Q : PV → St → Prop) (X : Nat → St → Prop), Q p σ → (wp c lv hd e ρ).e σ Q X
noncomputable def EVs (c : Sx) (lv : Nat) (hd : Option Nat) (σ : St) (ρ : Loc) (e : Es) (p : List PV) : Prop := ∀ (Q : List PV → St → Prop) (X : Nat → St → Prop), Q p σ → (wps c lv hd e ρ).es σ Q X
noncomputable def EVb (c : Sx) (lv : Nat) (hd : Option Nat) (σ : St) (ρ : Loc) (o : BoolOp) (e : Es) (p : Bool) : Prop := ∀ (Q : PV → St → Prop) (X : Nat → St → Prop), Q (.bool p) σ → (wps c lv hd e ρ).b o σ Q X
noncomputable def TP (c : Sx) (lv : Nat) (hd : Option Nat) (σ : St) (ρ : Loc) (e : E) (P : Prop) : Prop := ∀ (Q : Bool → St → Prop) (X : Nat → St → Prop), (P → Q true σ) → (¬ P → Q false σ) → (wp c lv hd e ρ).t σ Q X
noncomputable def TPs (c : Sx) (lv : Nat) (hd : Option Nat) (σ : St) (ρ : Loc) (o : BoolOp) (e : Es) (P : Prop) : Prop := ∀ (Q : Bool → St → Prop) (X : Nat → St → Prop), (P → Q true σ) → (¬ P → Q false σ) → (wps c lv hd e ρ).t o σ Q X
noncomputable def CV (c : Sx) (lv : Nat) (hd : Option Nat) (σ : St) (f : Value) (ps : List PV) (p : PV) : Prop := ∀ (Q : PV → St → Prop) (X : Nat → St → Prop), Q p σ → CallOk c lv hd f ps σ Q X

section
variable {c : Sx} {lv : Nat} {hd : Option Nat} {σ : St} {ρ : Loc}

theorem EV.lit {p : PV} : EV c lv hd σ ρ (.lit p) p := fun _ _ h => h
theorem EV.gl {p : PV} : EV c lv hd σ ρ (.gl p) p := fun _ _ h => h
theorem EV.var {x : Nat} {p : PV} (e : ρ x = some p) : EV c lv hd σ ρ (.var x) p := fun Q X h => by
  show (match ρ x with | some p => Q p σ | none => False)
  rw [e]; exact h
theorem EV.add {a b : E} {i j : Int} (x : EV c lv hd σ ρ a (.int i)) (y : EV c lv hd σ ρ b (.int j)) : EV c lv hd σ ρ (.bin .Add a b) (.int (i + j)) := fun Q X h => x _ _ (y _ _ h)
theorem EV.sub {a b : E} {i j : Int} (x : EV c lv hd σ ρ a (.int i)) (y : EV c lv hd σ ρ b (.int j)) : EV c lv hd σ ρ (.bin .Sub a b) (.int (i - j)) := fun Q X h => x _ _ (y _ _ h)
theorem EV.mul {a b : E} {i j : Int} (x : EV c lv hd σ ρ a (.int i)) (y : EV c lv hd σ ρ b (.int j)) (hj : j.natAbs < 2 ^ 60) : EV c lv hd σ ρ (.bin .Mult a b) (.int (i * j)) := fun Q X h => x _ _ (y _ _ ⟨hj, h⟩)
theorem EV.mod {a b : E} {i j : Int} (x : EV c lv hd σ ρ a (.int i)) (y : EV c lv hd σ ρ b (.int j)) (hj : j ≠ 0) : EV c lv hd σ ρ (.bin .Mod a b) (.int (Int.fmod i j)) := fun Q X h => x _ _ (y _ _ ⟨hj, h⟩)
theorem EV.fdiv {a b : E} {i j : Int} (x : EV c lv hd σ ρ a (.int i)) (y : EV c lv hd σ ρ b (.int j)) (hj : j ≠ 0) (hb : j.natAbs < 1073741824) : EV c lv hd σ ρ (.bin .FloorDiv a b) (.int (Int.fdiv i j)) := fun Q X h => x _ _ (y _ _ ⟨hj, hb, h⟩)
theorem EV.neg {a : E} {i : Int} (x : EV c lv hd σ ρ a (.int i)) : EV c lv hd σ ρ (.neg a) (.int (-i)) := fun Q X h => x _ _ h
theorem EV.tup {es : Es} {ps : List PV} (x : EVs c lv hd σ ρ es ps) : EV c lv hd σ ρ (.tup es) (.tup ps) := fun Q X h => x _ _ h
theorem EVs.nil : EVs c lv hd σ ρ .nil [] := fun _ _ h => h
theorem EVs.cons {e : E} {es : Es} {p : PV} {ps : List PV} (x : EV c lv hd σ ρ e p) (y : EVs c lv hd σ ρ es ps) : EVs c lv hd σ ρ (.cons e es) (p :: ps) := fun Q X h => x _ _ (y _ _ h)
theorem EV.attr {a : E} {x i : Nat} {C : Addr} {fs : Nat → Option PV} {p : PV} (y : EV c lv hd σ ρ a (.ref i)) (e : σ.at_ i = some (.inst C fs)) (f : c.fld C x = true) (g : fs x = some p) : EV c lv hd σ ρ (.attr a x) p := fun Q X h => y _ _ (by
  unfold wAttr; dsimp only; rw [e]; exact ⟨f, p, g, h⟩)
theorem EV.attrX {a : E} {x i : Nat} {C : Addr} {fs : Nat → Option PV} {ch : Bool} {p : PV} (y : EV c lv hd σ ρ a (.ref i)) (e : σ.at_ i = some (.exc C fs ch)) (f : c.fld C x = true) (g : fs x = some p) : EV c lv hd σ ρ (.attr a x) p := fun Q X h => y _ _ (by
  unfold wAttr; dsimp only; rw [e]; exact ⟨f, p, g, h⟩)
theorem EV.subL {a b : E} {j : Nat} {vs : List PV} {i : Int} {p : PV} (x : EV c lv hd σ ρ a (.ref j)) (e : σ.at_ j = some (.list vs)) (y : EV c lv hd σ ρ b (.int i)) (g : getI vs i = some p) : EV c lv hd σ ρ (.sub a b) p := fun Q X h => x _ _ (y _ _ (by
  unfold wSub; dsimp only; rw [e]; exact ⟨p, g, h⟩))
theorem EV.subT {a b : E} {vs : List PV} {i : Int} {p : PV} (x : EV c lv hd σ ρ a (.tup vs)) (y : EV c lv hd σ ρ b (.int i)) (l : -1000 ≤ i ∧ i ≤ 1000) (g : getI vs i = some p) : EV c lv hd σ ρ (.sub a b) p := fun Q X h => x _ _ (y _ _ ⟨l.1, l.2, p, g, h⟩)
theorem EV.call {f : Value} {es : Es} {ps : List PV} {p : PV} (k : c.callee f = true) (x : EVs c lv hd σ ρ es ps) (y : CV c lv hd σ f ps p) : EV c lv hd σ ρ (.call (.gl (.st f)) es) p := fun Q X h => ⟨k, x _ _ (y _ _ h)⟩
theorem EV.meth {a : E} {x i : Nat} {C : Addr} {fs : Nat → Option PV} {f : Value} {es : Es} {ps : List PV} {p : PV} (y : EV c lv hd σ ρ a (.ref i)) (e : σ.at_ i = some (.inst C fs)) (k : fs x = none) (m : c.meth C x = some f)
    (z : EVs c lv hd σ ρ es ps) (w : CV c lv hd σ f (.ref i :: ps) p) : EV c lv hd σ ρ (.meth a x es) p := fun Q X h => y _ _ ⟨f, by unfold wMeth; dsimp only; rw [e]; exact ⟨k, m⟩, z _ _ (w _ _ h)⟩
theorem EV.methD {a : E} {x i : Nat} {kvs : List (KV × PV)} {f : Value} {es : Es} {ps : List PV} {p : PV} (y : EV c lv hd σ ρ a (.ref i)) (e : σ.at_ i = some (.dict kvs)) (m : c.bmeth 2 x = some f)
    (z : EVs c lv hd σ ρ es ps) (w : CV c lv hd σ f (.ref i :: ps) p) : EV c lv hd σ ρ (.meth a x es) p := fun Q X h => y _ _ ⟨f, by unfold wMeth; dsimp only; rw [e]; exact m, z _ _ (w _ _ h)⟩
theorem EV.methS {a : E} {x : Nat} {s : List Nat} {f : Value} {es : Es} {ps : List PV} {p : PV} (y : EV c lv hd σ ρ a (.str s)) (m : c.bmeth 1 x = some f)
    (z : EVs c lv hd σ ρ es ps) (w : CV c lv hd σ f (.str s :: ps) p) : EV c lv hd σ ρ (.meth a x es) p := fun Q X h => y _ _ ⟨f, m, z _ _ (w _ _ h)⟩

theorem EV.lt {a b : E} {i j : Int} (x : EV c lv hd σ ρ a (.int i)) (y : EV c lv hd σ ρ b (.int j)) : EV c lv hd σ ρ (.cmp .Lt a b) (.bool (decide (i < j))) := fun Q X h => x _ _ (y _ _ h)
theorem EV.le {a b : E} {i j : Int} (x : EV c lv hd σ ρ a (.int i)) (y : EV c lv hd σ ρ b (.int j)) : EV c lv hd σ ρ (.cmp .LtE a b) (.bool (decide (i ≤ j))) := fun Q X h => x _ _ (y _ _ h)
theorem EV.gt {a b : E} {i j : Int} (x : EV c lv hd σ ρ a (.int i)) (y : EV c lv hd σ ρ b (.int j)) : EV c lv hd σ ρ (.cmp .Gt a b) (.bool (decide (j < i))) := fun Q X h => x _ _ (y _ _ h)
theorem EV.ge {a b : E} {i j : Int} (x : EV c lv hd σ ρ a (.int i)) (y : EV c lv hd σ ρ b (.int j)) : EV c lv hd σ ρ (.cmp .GtE a b) (.bool (decide (j ≤ i))) := fun Q X h => x _ _ (y _ _ h)
theorem EV.eqI {a b : E} {i j : Int} (x : EV c lv hd σ ρ a (.int i)) (y : EV c lv hd σ ρ b (.int j)) : EV c lv hd σ ρ (.cmp .Eq a b) (.bool (decide (i = j))) := fun Q X h => x _ _ (y _ _ (.inl ⟨i, j, rfl, rfl, h⟩))
theorem EV.neI {a b : E} {i j : Int} (x : EV c lv hd σ ρ a (.int i)) (y : EV c lv hd σ ρ b (.int j)) : EV c lv hd σ ρ (.cmp .NotEq a b) (.bool (decide (i ≠ j))) := fun Q X h => x _ _ (y _ _ (.inl ⟨i, j, rfl, rfl, by rw [← decide_not]; exact h⟩))
theorem EV.eqS {a b : E} {i j : List Nat} (x : EV c lv hd σ ρ a (.str i)) (y : EV c lv hd σ ρ b (.str j)) : EV c lv hd σ ρ (.cmp .Eq a b) (.bool (decide (i = j))) := fun Q X h => x _ _ (y _ _ (.inr (.inl ⟨i, j, rfl, rfl, h⟩)))
theorem EV.neS {a b : E} {i j : List Nat} (x : EV c lv hd σ ρ a (.str i)) (y : EV c lv hd σ ρ b (.str j)) : EV c lv hd σ ρ (.cmp .NotEq a b) (.bool (decide (i ≠ j))) := fun Q X h => x _ _ (y _ _ (.inr (.inl ⟨i, j, rfl, rfl, by rw [← decide_not]; exact h⟩)))
theorem EV.inS {a b : E} {i : Nat} {s : List Nat} (x : EV c lv hd σ ρ a (.str [i])) (y : EV c lv hd σ ρ b (.str s)) : EV c lv hd σ ρ (.cmp .In a b) (.bool (s.contains i)) := fun Q X h => x _ _ (y _ _ ⟨i, rfl, rfl, h⟩)
theorem EV.inT {a b : E} {i : List Nat} {vs : List PV} (ss : List (List Nat)) (x : EV c lv hd σ ρ a (.str i)) (y : EV c lv hd σ ρ b (.tup vs)) (e : vs = ss.map .str) : EV c lv hd σ ρ (.cmp .In a b) (.bool (ss.contains i)) := fun Q X h => x _ _ (y _ _ ⟨ss, e, h⟩)
theorem EV.ninT {a b : E} {i : List Nat} {vs : List PV} (ss : List (List Nat)) (x : EV c lv hd σ ρ a (.str i)) (y : EV c lv hd σ ρ b (.tup vs)) (e : vs = ss.map .str) : EV c lv hd σ ρ (.cmp .NotIn a b) (.bool (!ss.contains i)) := fun Q X h => x _ _ (y _ _ ⟨ss, e, h⟩)
theorem EV.bools {o : BoolOp} {es : Es} {p : Bool} (x : EVb c lv hd σ ρ o es p) : EV c lv hd σ ρ (.bools o es) (.bool p) := x
theorem EVb.one {o : BoolOp} {e : E} {p : Bool} (x : EV c lv hd σ ρ e (.bool p)) : EVb c lv hd σ ρ o (.cons e .nil) p := fun Q X h => x _ _ h
theorem EVb.or {e f : E} {es : Es} {p q : Bool} (x : EV c lv hd σ ρ e (.bool p)) (y : p = false → EVb c lv hd σ ρ .Or (.cons f es) q) : EVb c lv hd σ ρ .Or (.cons e (.cons f es)) (p || q) := fun Q X h => x _ _ (by
  cases p with
  | true => exact h
  | false => exact y rfl _ _ h)
theorem EVb.and {e f : E} {es : Es} {p q : Bool} (x : EV c lv hd σ ρ e (.bool p)) (y : p = true → EVb c lv hd σ ρ .And (.cons f es) q) : EVb c lv hd σ ρ .And (.cons e (.cons f es)) (p && q) := fun Q X h => x _ _ (by
  cases p with
  | false => exact h
  | true => exact y rfl _ _ h)

/-! conditions -/
theorem of_dec {P : Prop} [Decidable P] {K : Bool → Prop} (h : P → K true) (k : ¬ P → K false) : K (decide P) := by
  by_cases z : P
  · rw [decide_eq_true z]; exact h z
  · rw [decide_eq_false z]; exact k z
theorem of_ndec {P : Prop} [Decidable P] {K : Bool → Prop} (h : ¬ P → K true) (k : ¬ ¬ P → K false) : K (!decide P) := of_dec (K := fun b => K (!b)) (fun p => k fun n => n p) h
theorem TP.lt {a b : E} {i j : Int} (x : EV c lv hd σ ρ a (.int i)) (y : EV c lv hd σ ρ b (.int j)) : TP c lv hd σ ρ (.cmp .Lt a b) (i < j) := fun Q X h k => x _ _ (y _ _ (of_dec (K := fun b => Q b σ) h k))
theorem TP.le {a b : E} {i j : Int} (x : EV c lv hd σ ρ a (.int i)) (y : EV c lv hd σ ρ b (.int j)) : TP c lv hd σ ρ (.cmp .LtE a b) (i ≤ j) := fun Q X h k => x _ _ (y _ _ (of_dec (K := fun b => Q b σ) h k))
theorem TP.gt {a b : E} {i j : Int} (x : EV c lv hd σ ρ a (.int i)) (y : EV c lv hd σ ρ b (.int j)) : TP c lv hd σ ρ (.cmp .Gt a b) (j < i) := fun Q X h k => x _ _ (y _ _ (of_dec (K := fun b => Q b σ) h k))
theorem TP.ge {a b : E} {i j : Int} (x : EV c lv hd σ ρ a (.int i)) (y : EV c lv hd σ ρ b (.int j)) : TP c lv hd σ ρ (.cmp .GtE a b) (j ≤ i) := fun Q X h k => x _ _ (y _ _ (of_dec (K := fun b => Q b σ) h k))
theorem TP.eqI {a b : E} {i j : Int} (x : EV c lv hd σ ρ a (.int i)) (y : EV c lv hd σ ρ b (.int j)) : TP c lv hd σ ρ (.cmp .Eq a b) (i = j) := fun Q X h k => x _ _ (y _ _ (.inl ⟨i, j, rfl, rfl, of_dec (K := fun b => Q b σ) h k⟩))
theorem TP.neI {a b : E} {i j : Int} (x : EV c lv hd σ ρ a (.int i)) (y : EV c lv hd σ ρ b (.int j)) : TP c lv hd σ ρ (.cmp .NotEq a b) (i ≠ j) := fun Q X h k => x _ _ (y _ _ (.inl ⟨i, j, rfl, rfl, of_ndec (K := fun b => Q b σ) h k⟩))
theorem TP.eqS {a b : E} {i j : List Nat} (x : EV c lv hd σ ρ a (.str i)) (y : EV c lv hd σ ρ b (.str j)) : TP c lv hd σ ρ (.cmp .Eq a b) (i = j) := fun Q X h k => x _ _ (y _ _ (.inr (.inl ⟨i, j, rfl, rfl, of_dec (K := fun b => Q b σ) h k⟩)))
theorem TP.neS {a b : E} {i j : List Nat} (x : EV c lv hd σ ρ a (.str i)) (y : EV c lv hd σ ρ b (.str j)) : TP c lv hd σ ρ (.cmp .NotEq a b) (i ≠ j) := fun Q X h k => x _ _ (y _ _ (.inr (.inl ⟨i, j, rfl, rfl, of_ndec (K := fun b => Q b σ) h k⟩)))
/-- of a value: for the forms whose truth is asked of their value -/
theorem TP.call {f : Value} {es : Es} {b : Bool} (x : EV c lv hd σ ρ (.call (.gl (.st f)) es) (.bool b)) : TP c lv hd σ ρ (.call (.gl (.st f)) es) (b = true) := fun Q X h k => x _ _ (by
  show Q b σ
  cases b with
  | true => exact h rfl
  | false => exact k Bool.noConfusion)
theorem TP.meth {a : E} {x : Nat} {es : Es} {b : Bool} (y : EV c lv hd σ ρ (.meth a x es) (.bool b)) : TP c lv hd σ ρ (.meth a x es) (b = true) := fun Q X h k => y _ _ (by
  show Q b σ
  cases b with
  | true => exact h rfl
  | false => exact k Bool.noConfusion)
theorem TP.cmp {o : CmpOp} {a a' : E} {b : Bool} (y : EV c lv hd σ ρ (.cmp o a a') (.bool b)) : TP c lv hd σ ρ (.cmp o a a') (b = true) := fun Q X h k => y _ _ (by
  show Q b σ
  cases b with
  | true => exact h rfl
  | false => exact k Bool.noConfusion)
theorem TP.var {x : Nat} {b : Bool} (y : EV c lv hd σ ρ (.var x) (.bool b)) : TP c lv hd σ ρ (.var x) (b = true) := fun Q X h k => y (fun p σ => wTruth σ p fun b => Q b σ) X (by
  show Q b σ
  cases b with
  | true => exact h rfl
  | false => exact k Bool.noConfusion)
theorem TP.true : TP c lv hd σ ρ (.lit (.bool true)) True := fun Q X h k => h trivial
theorem TP.not {a : E} {P : Prop} (x : TP c lv hd σ ρ a P) : TP c lv hd σ ρ (.not a) (¬ P) := fun Q X h k => x _ _ (fun z => k fun w => w z) h
theorem TP.bools {o : BoolOp} {es : Es} {P : Prop} (x : TPs c lv hd σ ρ o es P) : TP c lv hd σ ρ (.bools o es) P := x
theorem TPs.and1 {e : E} {P : Prop} (x : TP c lv hd σ ρ e P) : TPs c lv hd σ ρ .And (.cons e .nil) P := fun Q X h k => x _ _ h k
theorem TPs.or1 {e : E} {P : Prop} (x : TP c lv hd σ ρ e P) : TPs c lv hd σ ρ .Or (.cons e .nil) P := fun Q X h k => x _ _ h k
theorem TPs.and {e : E} {es : Es} {P R : Prop} (x : TP c lv hd σ ρ e P) (y : P → TPs c lv hd σ ρ .And es R) : TPs c lv hd σ ρ .And (.cons e es) (P ∧ R) := fun Q X h k =>
  x _ _ (fun p => y p _ _ (fun r => h ⟨p, r⟩) fun r => k fun z => r z.2) fun p => k fun z => p z.1
theorem TPs.or {e : E} {es : Es} {P R : Prop} (x : TP c lv hd σ ρ e P) (y : ¬ P → TPs c lv hd σ ρ .Or es R) : TPs c lv hd σ ρ .Or (.cons e es) (P ∨ R) := fun Q X h k =>
  x _ _ (fun p => h (.inl p)) fun p => y p _ _ (fun r => h (.inr r)) fun r => k fun z => z.elim p r

/-! statements -/
noncomputable def andThen (c : Sx) (lv : Nat) (hd : Option Nat) (r : Ss) (Q : Fl → Loc → St → Prop) (X : Nat → Loc → St → Prop) : Fl → Loc → St → Prop := fun fl ρ σ => match fl with
  | .next => wpSs c lv r hd ρ σ Q X
  | fl => Q fl ρ σ
variable {Q : Fl → Loc → St → Prop} {X : Nat → Loc → St → Prop} {r : Ss}
theorem s_nil (h : Q .next ρ σ) : wpSs c lv .nil hd ρ σ Q X := h
theorem s_var {x : Nat} {e : E} {p : PV} (v : EV c lv hd σ ρ e p) (h : wpSs c lv r hd (upd ρ x p) σ Q X) : wpSs c lv (.cons (.asg (.var x) e) r) hd ρ σ Q X := v _ _ h
theorem s_attr {a e : E} {x i : Nat} {C : Addr} {fs : Nat → Option PV} {p : PV} (v : EV c lv hd σ ρ e p) (w : EV c lv hd σ ρ a (.ref i)) (at' : σ.at_ i = some (.inst C fs)) (f : c.fld C x = true)
    (h : wpSs c lv r hd ρ (σ.put i (.inst C (upd fs x p))) Q X) : wpSs c lv (.cons (.asg (.attr a x) e) r) hd ρ σ Q X := v _ _ (w _ _ (by
  show (match σ.at_ i with
          | some (.inst C fs) => c.fld C x = true ∧ wpSs c lv r hd ρ (σ.put i (.inst C (upd fs x p))) Q X
          | some (.exc C fs ch) => c.fld C x = true ∧ wpSs c lv r hd ρ (σ.put i (.exc C (upd fs x p) ch)) Q X
          | some (.bare C) => c.fld C x = true ∧ wpSs c lv r hd ρ (σ.put i (.exc C (upd (fun _ => none) x p) false)) Q X
          | _ => False)
  rw [at']; exact ⟨f, h⟩))
theorem s_if {t : E} {a b : Ss} {P : Prop} (v : TP c lv hd σ ρ t P) (h : P → wpSs c lv a hd ρ σ (andThen c lv hd r Q X) X) (k : ¬ P → wpSs c lv b hd ρ σ (andThen c lv hd r Q X) X) : wpSs c lv (.cons (.ite t a b) r) hd ρ σ Q X := v _ _ h k
theorem s_ret {e : E} {p : PV} (v : EV c lv hd σ ρ e p) (h : Q (.ret p) ρ σ) : wpSs c lv (.cons (.ret e) r) hd ρ σ Q X := v _ _ h
theorem s_ret0 (h : Q (.ret .none) ρ σ) : wpSs c lv (.cons .ret0 r) hd ρ σ Q X := h
theorem s_brk (h : Q .brk ρ σ) : wpSs c lv (.cons .brk r) hd ρ σ Q X := h
theorem s_asgE {x : Nat} {e : E} (h : (wp c lv hd e ρ).e σ (fun p σ => wpSs c lv r hd (upd ρ x p) σ Q X) fun i σ => X i ρ σ) : wpSs c lv (.cons (.asg (.var x) e) r) hd ρ σ Q X := h
theorem s_exprE {e : E} (h : (wp c lv hd e ρ).e σ (fun _ σ => wpSs c lv r hd ρ σ Q X) fun i σ => X i ρ σ) : wpSs c lv (.cons (.expr e) r) hd ρ σ Q X := h
theorem s_retE {e : E} (h : (wp c lv hd e ρ).e σ (fun p σ => Q (.ret p) ρ σ) fun i σ => X i ρ σ) : wpSs c lv (.cons (.ret e) r) hd ρ σ Q X := h
theorem s_while {t : E} {b : Ss} (I : Nat → Loc → St → Prop) (step : ∀ m (R : Loc → St → Prop) ρ σ, I m ρ σ → (∀ m' ρ' σ', m' < m → I m' ρ' σ' → R ρ' σ') → ∃ P, TP c lv hd σ ρ t P ∧
      (P → wpSs c lv b hd ρ σ (fun fl ρ σ => match fl with | .next => R ρ σ | .cont => R ρ σ | .brk => wpSs c lv r hd ρ σ Q X | .ret p => Q (.ret p) ρ σ) X) ∧ (¬ P → wpSs c lv r hd ρ σ Q X)) {m : Nat} (h : I m ρ σ) :
    wpSs c lv (.cons (.while_ t b) r) hd ρ σ Q X := by
  have all : ∀ n m ρ σ, I m ρ σ → m < n → wLoop (fun ρ => (wp c lv hd t ρ).t) (fun ρ σ Q X => wpSs c lv b hd ρ σ Q X) n ρ σ (andThen c lv hd r Q X) X := by
    intro n
    induction n with
    | zero => intro m ρ σ _ hm; omega
    | succ n ih =>
      intro m ρ σ h hm
      obtain ⟨P, v, hT, hF⟩ := step m (fun ρ σ => wLoop (fun ρ => (wp c lv hd t ρ).t) (fun ρ σ Q X => wpSs c lv b hd ρ σ Q X) n ρ σ (andThen c lv hd r Q X) X) ρ σ h fun m' ρ' σ' hm' h' => ih m' ρ' σ' h' (by omega)
      exact v _ _ hT hF
  exact ⟨m + 1, all _ m ρ σ h (by omega)⟩

/-! calls that change the store -/
variable {Qe : PV → St → Prop} {Xe : Nat → St → Prop}
theorem e_call {f : Value} {es : Es} {ps : List PV} (k : c.callee f = true) (x : EVs c lv hd σ ρ es ps) (h : CallOk c lv hd f ps σ Qe Xe) : (wp c lv hd (.call (.gl (.st f)) es) ρ).e σ Qe Xe := ⟨k, x _ _ h⟩
theorem e_callE {f : Value} {es : Es} (k : c.callee f = true) (h : (wps c lv hd es ρ).es σ (fun ps σ => CallOk c lv hd f ps σ Qe Xe) Xe) : (wp c lv hd (.call (.gl (.st f)) es) ρ).e σ Qe Xe := ⟨k, h⟩
theorem e_meth {a : E} {x i : Nat} {C : Addr} {fs : Nat → Option PV} {f : Value} {es : Es} {ps : List PV} (y : EV c lv hd σ ρ a (.ref i)) (e : σ.at_ i = some (.inst C fs)) (k : fs x = none) (m : c.meth C x = some f)
    (z : EVs c lv hd σ ρ es ps) (h : CallOk c lv hd f (.ref i :: ps) σ Qe Xe) : (wp c lv hd (.meth a x es) ρ).e σ Qe Xe := y _ _ ⟨f, by unfold wMeth; dsimp only; rw [e]; exact ⟨k, m⟩, z _ _ h⟩
theorem e_methL {a : E} {x i : Nat} {vs : List PV} {f : Value} {es : Es} {ps : List PV} (y : EV c lv hd σ ρ a (.ref i)) (e : σ.at_ i = some (.list vs)) (m : c.bmeth 0 x = some f)
    (z : EVs c lv hd σ ρ es ps) (h : CallOk c lv hd f (.ref i :: ps) σ Qe Xe) : (wp c lv hd (.meth a x es) ρ).e σ Qe Xe := y _ _ ⟨f, by unfold wMeth; dsimp only; rw [e]; exact m, z _ _ h⟩
theorem e_of {e : E} {p : PV} (v : EV c lv hd σ ρ e p) (h : Qe p σ) : (wp c lv hd e ρ).e σ Qe Xe := v _ _ h
theorem e_tup {es : Es} (h : (wps c lv hd es ρ).es σ (fun ps σ => Qe (.tup ps) σ) Xe) : (wp c lv hd (.tup es) ρ).e σ Qe Xe := h
theorem e_lst {es : Es} {ps : List PV} (v : EVs c lv hd σ ρ es ps) (h : Qe (.ref σ.n) (σ.new (.list ps))) : (wp c lv hd (.lst es) ρ).e σ Qe Xe := v _ _ h
theorem e_slc {a l u : E} {j x y : Nat} {vs : List PV} {pl pu : PV} (v : EV c lv hd σ ρ a (.ref j)) (e : σ.at_ j = some (.list vs)) (vl : EV c lv hd σ ρ l pl) (vu : EV c lv hd σ ρ u pu) (b1 : bnd vs.length 0 pl = some x) (b2 : bnd vs.length vs.length pu = some y)
    (h : Qe (.ref σ.n) (σ.new (.list ((vs.drop x).take (y - x))))) : (wp c lv hd (.slc a l u) ρ).e σ Qe Xe := v _ _ (vl _ _ (vu _ _ (by
  unfold wSlc; dsimp only; rw [e]; exact ⟨_, _, b1, b2, h⟩)))
theorem e_compL {elt it : E} {x i : Nat} {vs : List PV} (v : EV c lv hd σ ρ it (.ref i)) (e : σ.at_ i = some (.list vs))
    (h : wComp (fun σ => wGuard σ (.ref i) vs) hd (fun v σ Q X => (wp c lv hd elt fun j => if j = x then some v else none).e σ Q X) σ.n vs [] (σ.new (.list [])) Qe) : (wp c lv hd (.comp elt x it) ρ).e σ Qe Xe := v _ _ ⟨vs, e, .inr ⟨i, rfl⟩, h⟩
variable {Qs : List PV → St → Prop}
theorem es_nil (h : Qs [] σ) : (wps c lv hd .nil ρ).es σ Qs Xe := h
theorem es_cons {e : E} {es : Es} {p : PV} (v : EV c lv hd σ ρ e p) (h : (wps c lv hd es ρ).es σ (fun ps σ => Qs (p :: ps) σ) Xe) : (wps c lv hd (.cons e es) ρ).es σ Qs Xe := v _ _ h
theorem es_consE {e : E} {es : Es} (h : (wp c lv hd e ρ).e σ (fun p σ => (wps c lv hd es ρ).es σ (fun ps σ => Qs (p :: ps) σ) Xe) Xe) : (wps c lv hd (.cons e es) ρ).es σ Qs Xe := h
theorem es_of {es : Es} {ps : List PV} (v : EVs c lv hd σ ρ es ps) (h : Qs ps σ) : (wps c lv hd es ρ).es σ Qs Xe := v _ _ h
end
end Mine
end

section
open PySem PySem.W PyProof.Rows PySem.Calls
set_option Elab.async false
set_option linter.unusedVariables false
set_option maxRecDepth 100000
namespace Mine

/-- what the tokenizer's functions are -/
structure Tz (c : Sx) : Prop where
  exc : c.excC = 51
  exIn : ExcIn c.K 51
  exI : findIn c.K (.ref 51) "__init__" = some (some (.ref 48))
  exF : typeIn c.K (.ref 48) = some (.type "function")
  cal : ∀ a ∈ ([51, 165, 172, 179, 186, 193, 200, 207, 214, 219, 226, 233] : List Addr), c.callee (.ref a) = true
  calB : ∀ a ∈ bcalls, c.callee a = true
  fT : ∀ x ∈ [2, 34, 76], c.fld 370 x = true
  fX : ∀ x ∈ [35, 34, 22, 33], c.fld 51 x = true
  m : ∀ p ∈ ([(80, 255), (5, 262), (31, 269), (32, 276), (160, 283), (79, 290), (85, 297), (86, 304), (83, 311), (82, 318), (88, 325), (81, 332), (93, 339), (94, 346), (84, 353), (95, 360), (97, 367)] : List (Nat × Addr)), c.meth 370 p.1 = some (.ref p.2)
  b : ∀ p ∈ bmeths, c.bmeth p.1.1 p.1.2 = some (.builtin p.2)
  fault0 : FnR c 48 [67, 35, 34, 22, 33] 5 [] B.b_SyntaxFault___init__
  is_layout : FnR c 165 [1] 1 [] B.b_is_layout
  is_digit : FnR c 172 [1] 1 [] B.b_is_digit
  is_small : FnR c 179 [1] 1 [] B.b_is_small
  is_capital : FnR c 186 [1] 1 [] B.b_is_capital
  is_alnum : FnR c 193 [1] 1 [] B.b_is_alnum
  is_symbol : FnR c 200 [1] 1 [] B.b_is_symbol
  is_quotable : FnR c 207 [1] 1 [] B.b_is_quotable
  digit_value : FnR c 214 [1] 1 [] B.b_digit_value
  codes_text : FnR c 219 [2] 1 [] B.b_codes_text
  simple_escape : FnR c 226 [1] 1 [] B.b_simple_escape
  numeral_base : FnR c 233 [1] 1 [] B.b_numeral_base
  code_at : FnR c 255 [67, 77] 2 [] B.b_Tokenizer_code_at
  place : FnR c 262 [67, 34] 2 [] B.b_Tokenizer_place
  fault : FnR c 269 [67, 35, 34] 3 [] B.b_Tokenizer_fault
  next : FnR c 276 [67] 1 [] B.b_Tokenizer_next
  skip_clause : FnR c 283 [67] 1 [] B.b_Tokenizer_skip_clause
  skip_layout : FnR c 290 [67] 1 [] B.b_Tokenizer_skip_layout
  skip_row : FnR c 297 [67] 1 [] B.b_Tokenizer_skip_row
  skip_remark : FnR c 304 [67] 1 [] B.b_Tokenizer_skip_remark
  word : FnR c 311 [67, 34] 2 [] B.b_Tokenizer_word
  symbol : FnR c 318 [67, 34] 2 [] B.b_Tokenizer_symbol
  ends_at : FnR c 325 [67, 77] 2 [] B.b_Tokenizer_ends_at
  numeral : FnR c 332 [67, 34] 2 [] B.b_Tokenizer_numeral
  digits : FnR c 339 [67, 77, 91] 3 [] B.b_Tokenizer_digits
  character : FnR c 346 [67, 34] 2 [] B.b_Tokenizer_character
  quoted : FnR c 353 [67, 78, 96] 3 [] B.b_Tokenizer_quoted
  escape : FnR c 360 [67] 1 [] B.b_Tokenizer_escape
  abandon : FnR c 367 [67, 96] 2 [] B.b_Tokenizer_abandon

noncomputable def isLayout (x : Int) : Bool := decide (x = 32) || (decide (9 ≤ x) && decide (x ≤ 13))
noncomputable def isDigit (x : Int) : Bool := decide (48 ≤ x) && decide (x ≤ 57)
noncomputable def isSmall (x : Int) : Bool := decide (97 ≤ x) && decide (x ≤ 122)
noncomputable def isCapital (x : Int) : Bool := decide (65 ≤ x) && decide (x ≤ 90)
noncomputable def isAlnum (x : Int) : Bool := isSmall x || (isCapital x || (isDigit x || decide (x = 95)))
noncomputable def isQuot (x : Int) : Bool := decide (32 ≤ x) && (decide (x ≠ 127) && decide (x ≤ 1114111))
noncomputable def symCodes : List Nat := [43, 45, 42, 47, 92, 94, 60, 62, 61, 126, 58, 46, 63, 64, 35, 38, 36]
noncomputable def isSymb (x : Int) : Bool := decide (0 ≤ x) && (decide (x < 128) && symCodes.contains x.toNat)
noncomputable def digVal (x : Int) : Int := if isDigit x = true then x - 48 else if isSmall x = true then x - 87 else if isCapital x = true then x - 55 else -1
noncomputable def numBase (x : Int) : Int := if x = 98 then 2 else if x = 111 then 8 else if x = 120 then 16 else 0

section
variable {c : Sx} {lv : Nat} {hd : Option Nat} {σ : St} {ρ : Loc}

/-- a call of a function that keeps the store -/
theorem CV.of {a : Addr} {ks : List Nat} {np : Nat} {pd ps : List PV} {b : Ss} {p : PV} (F : FnR c a ks np pd b) (hn : ps.length = np)
    (h : ∀ (Q : PV → St → Prop) (X : Nat → St → Prop), Q p σ → wpSs c lv b hd (updAll (fun _ => none) ks (ps ++ pd)) σ (fun fl _ σ => Q (retOf fl) σ) fun i _ σ => X i σ) : CV c (lv + 1) hd σ (.ref a) ps p :=
  fun Q X q => (F _ _ _ _ _ _ hn (h Q X q)).call

theorem is_digit_cv (P : Tz c) {x : Int} : CV c (lv + 1) hd σ (.ref 172) [.int x] (.bool (isDigit x)) := .of P.is_digit rfl fun Q X h =>
  s_ret (.bools (.and (.le .lit (.var rfl)) fun _ => .one (.le (.var rfl) .lit))) h
theorem is_small_cv (P : Tz c) {x : Int} : CV c (lv + 1) hd σ (.ref 179) [.int x] (.bool (isSmall x)) := .of P.is_small rfl fun Q X h =>
  s_ret (.bools (.and (.le .lit (.var rfl)) fun _ => .one (.le (.var rfl) .lit))) h
theorem is_capital_cv (P : Tz c) {x : Int} : CV c (lv + 1) hd σ (.ref 186) [.int x] (.bool (isCapital x)) := .of P.is_capital rfl fun Q X h =>
  s_ret (.bools (.and (.le .lit (.var rfl)) fun _ => .one (.le (.var rfl) .lit))) h
theorem is_layout_cv (P : Tz c) {x : Int} : CV c (lv + 1) hd σ (.ref 165) [.int x] (.bool (isLayout x)) := .of P.is_layout rfl fun Q X h =>
  s_ret (.bools (.or (.eqI (.var rfl) .lit) fun _ => .one (.bools (.and (.le .lit (.var rfl)) fun _ => .one (.le (.var rfl) .lit))))) h
theorem is_quotable_cv (P : Tz c) {x : Int} : CV c (lv + 1) hd σ (.ref 207) [.int x] (.bool (isQuot x)) := .of P.is_quotable rfl fun Q X h =>
  s_ret (.bools (.and (.ge (.var rfl) .lit) fun _ => .and (.neI (.var rfl) .lit) fun _ => .one (.le (.var rfl) .gl))) h
theorem chr_cv {i : Int} (h0 : 0 ≤ i) (h1 : i ≤ 1114111) : CV c lv hd σ (.builtin "chr") [.int i] (.str [i.toNat]) := fun Q X h => chr_ok h0 h1 h
theorem is_symbol_cv (P : Tz c) {x : Int} : CV c (lv + 1) hd σ (.ref 200) [.int x] (.bool (isSymb x)) := .of P.is_symbol rfl fun Q X h =>
  s_ret (.bools (.and (.le .lit (.var rfl)) fun h1 => .and (.lt (.var rfl) .lit) fun h2 => .one (.inS (.call (P.calB _ (by decide)) (.cons (.var rfl) .nil) (chr_cv (of_decide_eq_true h1) (Int.le_trans (Int.le_of_lt (of_decide_eq_true h2)) (by decide)))) .lit))) h
theorem is_alnum_cv (P : Tz c) {x : Int} : CV c (lv + 2) hd σ (.ref 193) [.int x] (.bool (isAlnum x)) := .of P.is_alnum rfl fun Q X h =>
  s_ret (.bools (.or (.call (P.cal _ (by decide)) (.cons (.var rfl) .nil) (is_small_cv P)) fun _ => .or (.call (P.cal _ (by decide)) (.cons (.var rfl) .nil) (is_capital_cv P)) fun _ =>
    .or (.call (P.cal _ (by decide)) (.cons (.var rfl) .nil) (is_digit_cv P)) fun _ => .one (.eqI (.var rfl) .lit))) h
theorem digit_value_cv (P : Tz c) {x : Int} : CV c (lv + 2) hd σ (.ref 214) [.int x] (.int (digVal x)) := .of P.digit_value rfl fun Q X h =>
  s_if (.call (.call (P.cal _ (by decide)) (.cons (.var rfl) .nil) (is_digit_cv P))) (fun g => s_ret (.sub (.var rfl) .lit) (by rw [digVal, if_pos g] at h; exact h)) fun g => s_nil (
  s_if (.call (.call (P.cal _ (by decide)) (.cons (.var rfl) .nil) (is_small_cv P))) (fun g' => s_ret (.sub (.var rfl) .lit) (by rw [digVal, if_neg g, if_pos g'] at h; exact h)) fun g' => s_nil (
  s_if (.call (.call (P.cal _ (by decide)) (.cons (.var rfl) .nil) (is_capital_cv P))) (fun g'' => s_ret (.sub (.var rfl) .lit) (by rw [digVal, if_neg g, if_neg g', if_pos g''] at h; exact h)) fun g'' => s_nil (
  s_ret (.neg .lit) (by rw [digVal, if_neg g, if_neg g', if_neg g''] at h; exact h))))
theorem numeral_base_cv (P : Tz c) {x : Int} : CV c (lv + 1) hd σ (.ref 233) [.int x] (.int (numBase x)) := .of P.numeral_base rfl fun Q X h =>
  s_if (.eqI (.var rfl) .gl) (fun g => s_ret .lit (by rw [numBase, if_pos g] at h; exact h)) fun g => s_nil (
  s_if (.eqI (.var rfl) .gl) (fun g' => s_ret .lit (by rw [numBase, if_neg g, if_pos g'] at h; exact h)) fun g' => s_nil (
  s_if (.eqI (.var rfl) .gl) (fun g'' => s_ret .lit (by rw [numBase, if_neg g, if_neg g', if_pos g''] at h; exact h)) fun g'' => s_nil (
  s_ret .lit (by rw [numBase, if_neg g, if_neg g', if_neg g''] at h; exact h))))

/-- an escape of one sign -/
noncomputable def simpEsc (x : Int) : Int :=
  let y := (if (0 : Int) > x then 0 else x).toNat
  if [92, 39, 34, 96].contains y = true then x else
    let f := Txt.find ⟨[97, 98, 116, 110, 118, 102, 114].toArray⟩ ⟨[y].toArray⟩
    if f ≥ 0 then 7 + f else -1
theorem find_cv {x y : List Nat} : CV c lv hd σ (.builtin "str.find") [.str x, .str y] (.int (Txt.find ⟨x.toArray⟩ ⟨y.toArray⟩)) := fun Q X h => find_ok h
theorem max_cv (hu : HdU σ hd) {a b : Int} : CV c lv hd σ (.builtin "max") [.int a, .int b] (.int (if b > a then b else a)) := fun Q X h => max_ok hu h
theorem simple_escape_cv (P : Tz c) (hu : HdU σ hd) {x : Int} (hx : x ≤ 1114111) : CV c (lv + 1) hd σ (.ref 226) [.int x] (.int (simpEsc x)) := .of P.simple_escape rfl fun Q X h =>
  s_var (.call (P.calB _ (by decide)) (.cons (.call (P.calB _ (by decide)) (.cons (.var rfl) (.cons .lit .nil)) (max_cv hu)) .nil) (chr_cv (by split <;> omega) (by split <;> omega))) (
  s_if (.cmp (.inS (.var rfl) .lit)) (fun g => s_ret (.var rfl) (by rw [simpEsc, if_pos g] at h; exact h)) fun g => s_nil (
  s_var (.methS .lit (P.b ((1, 6), "str.find") (by decide)) (.cons (.var rfl) .nil) find_cv) (
  s_if (.ge (.var rfl) .lit) (fun g' => s_ret (.add .lit (.var rfl)) (by rw [simpEsc, if_neg g] at h; dsimp only at h; rw [if_pos g'] at h; exact h)) fun g' => s_nil (
  s_ret (.neg .lit) (by rw [simpEsc, if_neg g] at h; dsimp only at h; rw [if_neg g'] at h; exact h)))))
end
end Mine
end

section
open PySem PySem.W PyProof.Rows PySem.Calls
set_option Elab.async false
set_option linter.unusedVariables false
set_option maxRecDepth 100000
namespace Mine

/-! ## the tokenizer's state -/
noncomputable def ps (cs s : List Int) : Int := (cs.length : Int) - s.length
noncomputable def cd : List Int → Int
  | [] => -1
  | x :: _ => x
structure Ok (cs : List Int) : Prop where
  rng : ∀ x ∈ cs, 0 ≤ x ∧ x ≤ 1114111
  len : cs.length ≤ 100000
noncomputable def tkFs (l : Nat) (a o : Int) : Nat → Option PV := upd (upd (upd (fun _ => none) 2 (.ref l)) 34 (.int a)) 76 (.int o)
theorem tk_at {l : Nat} {a o b : Int} : upd (tkFs l a o) 34 (.int b) = tkFs l b o := by
  funext k
  simp only [tkFs, upd]
  by_cases h1 : k = 34
  · subst h1; simp
  · by_cases h2 : k = 76 <;> simp [h1, h2]

structure TkS (σ : St) (t l : Nat) (cs s : List Int) (o : Int) : Prop where
  ht : σ.at_ t = some (.inst 370 (tkFs l (ps cs s) o))
  hl : σ.at_ l = some (.list (cs.map .int))
  sf : s <:+ cs
  tn : t < σ.n
  ln : l < σ.n
  ok : Ok cs
structure Keep (σ σ' : St) (t : Nat) : Prop where
  n : σ.n ≤ σ'.n
  old : ∀ j, j < σ.n → j ≠ t → σ'.at_ j = σ.at_ j
noncomputable def HdS (σ : St) (t : Nat) : Option Nat → Prop
  | none => True
  | some h => h < σ.n ∧ h ≠ t ∧ ∃ C fs, σ.at_ h = some (.exc C fs false)

theorem Keep.refl {σ : St} {t : Nat} : Keep σ σ t := ⟨Nat.le_refl _, fun _ _ _ => rfl⟩
theorem Keep.trans {σ σ' σ'' : St} {t : Nat} (x : Keep σ σ' t) (y : Keep σ' σ'' t) : Keep σ σ'' t :=
  ⟨Nat.le_trans x.n y.n, fun j hj ht => (y.old j (Nat.lt_of_lt_of_le hj x.n) ht).trans (x.old j hj ht)⟩
theorem HdS.keep {σ σ' : St} {t : Nat} (k : Keep σ σ' t) : ∀ {hd : Option Nat}, HdS σ t hd → HdS σ' t hd
  | none, _ => trivial
  | some h, ⟨a, b, C, fs, e⟩ => ⟨Nat.lt_of_lt_of_le a k.n, b, C, fs, (k.old h a b).trans e⟩
theorem HdS.u {σ : St} {t : Nat} : ∀ {hd : Option Nat}, HdS σ t hd → HdU σ hd
  | none, _ => trivial
  | some h, ⟨a, b, z⟩ => z
theorem HdS.new {σ : St} {t : Nat} : ∀ {hd : Option Nat}, HdS σ t hd → ∀ h, hd = some h → h ≠ σ.n
  | some h, ⟨a, b, z⟩, _, rfl => Nat.ne_of_lt a
section
variable {σ σ' : St} {t l : Nat} {cs s s' : List Int} {o : Int}
theorem TkS.ne (T : TkS σ t l cs s o) : l ≠ t := fun e => by
  have := T.hl; rw [e, T.ht] at this; cases this
theorem TkS.keep (T : TkS σ t l cs s o) (k : Keep σ σ' t) (e : σ'.at_ t = some (.inst 370 (tkFs l (ps cs s') o))) (h : s' <:+ cs) : TkS σ' t l cs s' o :=
  ⟨e, (k.old l T.ln T.ne).trans T.hl, h, Nat.lt_of_lt_of_le T.tn k.n, Nat.lt_of_lt_of_le T.ln k.n, T.ok⟩
theorem keep_new {x : AObj} : Keep σ (σ.new x) t := ⟨Nat.le_succ _, fun j hj _ => if_neg (Nat.ne_of_lt hj)⟩
theorem keep_put {x : AObj} : Keep σ (σ.put t x) t := ⟨Nat.le_refl _, fun j _ hj => if_neg hj⟩
theorem TkS.new (T : TkS σ t l cs s o) {x : AObj} : TkS (σ.new x) t l cs s o := T.keep keep_new ((if_neg (Nat.ne_of_lt T.tn)).trans T.ht) T.sf
theorem TkS.set (T : TkS σ t l cs s o) (h : s' <:+ cs) : TkS (σ.put t (.inst 370 (tkFs l (ps cs s') o))) t l cs s' o := T.keep keep_put (if_pos rfl) h
/-- an object that is not the tokenizer is written -/
theorem keep_put_new {x : AObj} {i : Nat} (k : Keep σ σ' t) (hi : σ.n ≤ i) : Keep σ (σ'.put i x) t := ⟨k.n, fun j hj ht => (if_neg (Nat.ne_of_lt (Nat.lt_of_lt_of_le hj hi))).trans (k.old j hj ht)⟩

theorem ps_cons {x : Int} : ps cs (x :: s) + 1 = ps cs s := by unfold ps; rw [List.length_cons]; omega
theorem ps_nonneg (h : s <:+ cs) : 0 ≤ ps cs s := by have := h.length_le; unfold ps; omega
theorem ps_inj (h : ps cs s = ps cs s') (a : s <:+ cs) (b : s' <:+ cs) : s = s' := by
  have hl : s.length = s'.length := by unfold ps at h; omega
  obtain ⟨u, rfl⟩ := a
  obtain ⟨u', e⟩ := b
  exact (List.append_inj_right' e hl.symm).symm
theorem drop_ps (h : s <:+ cs) : cs.drop (ps cs s).toNat = s := by
  obtain ⟨u, rfl⟩ := h
  unfold ps
  rw [List.length_append]
  have : (((u.length + s.length : Nat) : Int) - s.length).toNat = u.length := by omega
  rw [this, List.drop_left]
theorem sf_tail {x : Int} (h : x :: s <:+ cs) : s <:+ cs := (List.suffix_cons x s).trans h
theorem sf_drop (h : s <:+ cs) (k : Nat) : s.drop k <:+ cs := (List.drop_suffix k s).trans h
theorem cd_drop_nil {k : Nat} : cd (([] : List Int).drop k) = -1 := by rw [List.drop_nil]; rfl

noncomputable def codeAt (codes : List Int) (i : Int) : Int := if i ≥ codes.length then -1 else (match codes[i.toNat]? with
  | some x => if x < 0 ∨ x > 1114111 then -2 else x
  | none => -1)
theorem codeAt_ps (ok : Ok cs) (h : s <:+ cs) (k : Nat) : codeAt cs (ps cs s + k) = cd (s.drop k) := by
  unfold codeAt
  by_cases g : ps cs s + k ≥ cs.length
  · rw [if_pos g]
    have : s.drop k = [] := List.drop_eq_nil_of_le (by unfold ps at g; omega)
    rw [this]; rfl
  · rw [if_neg g]
    have h0 := ps_nonneg h
    have e : cs[(ps cs s + k).toNat]? = s[k]? := by
      rw [← drop_ps h, List.getElem?_drop, drop_ps h]
      congr 1; omega
    have hk : k < s.length := by unfold ps at g; have := h.length_le; omega
    rw [e, List.getElem?_eq_getElem hk, List.drop_eq_getElem_cons hk]
    have := ok.rng s[k] (h.subset (List.getElem_mem hk))
    show (if s[k] < 0 ∨ s[k] > 1114111 then -2 else s[k]) = s[k]
    rw [if_neg (by omega)]
end

noncomputable def faultFs (kind : List Nat) (a r cl : Int) : Nat → Option PV := upd (upd (upd (upd (fun _ => none) 35 (.str kind)) 34 (.int a)) 22 (.int r)) 33 (.int cl)
noncomputable def placeOf (codes : List Int) (a : Int) : Int × Int := (codes.take a.toNat).foldl (fun p x => if x = 10 then (p.1 + 1, 1) else (p.1, p.2 + 1)) (1, 1)
theorem placeOf_succ {codes : List Int} {k : Nat} (hk : k < codes.length) : placeOf codes (k + 1 : Nat) = if codes[k] = 10 then ((placeOf codes k).1 + 1, 1) else ((placeOf codes k).1, (placeOf codes k).2 + 1) := by
  unfold placeOf
  rw [Int.toNat_natCast, Int.toNat_natCast, List.take_succ_eq_append_getElem hk, List.foldl_append]
  rfl
/-- the fault as an object, its place found by the codes -/
noncomputable def faultOf (cs : List Int) (kind : List Nat) (s : List Int) (ch : Bool) : AObj := .exc 51 (faultFs kind (ps cs s) (placeOf cs (ps cs s)).1 (placeOf cs (ps cs s)).2) ch

section
variable {c : Sx} {lv : Nat} {hd : Option Nat} {σ : St} {ρ : Loc} {t l : Nat} {cs s s' : List Int} {o : Int}
theorem fT (P : Tz c) {x : Nat} (h : x ∈ [2, 34, 76]) : c.fld 370 x = true := P.fT x h

theorem len_cv {i : Nat} {vs : List PV} (hi : σ.at_ i = some (.list vs)) : CV c lv hd σ (.builtin "len") [.ref i] (.int vs.length) := fun Q X h => len_ok hi h

theorem code_at_cv (P : Tz c) {codes : List Int} {fs : Nat → Option PV} {i : Int} (ht : σ.at_ t = some (.inst 370 fs)) (hl : fs 2 = some (.ref l)) (hc : σ.at_ l = some (.list (codes.map .int))) (h0 : 0 ≤ i) :
    CV c (lv + 1) hd σ (.ref 255) [.ref t, .int i] (.int (codeAt codes i)) := .of P.code_at rfl fun Q X h =>
  s_if (.ge (.var rfl) (.call (P.calB _ (by decide)) (.cons (.attr (.var rfl) ht (P.fT _ (by decide)) hl) .nil) (len_cv hc))) (fun g => s_ret .gl (by
    rw [List.length_map] at g
    rw [codeAt, if_pos g] at h; exact h)) fun g => s_nil (by
  rw [List.length_map] at g
  have hi : i.toNat < codes.length := by omega
  have hg : getI (codes.map .int) i = some (.int codes[i.toNat]) := by
    unfold getI
    rw [if_pos h0, List.getElem?_map, List.getElem?_eq_getElem hi]; rfl
  rw [codeAt, if_neg g, List.getElem?_eq_getElem hi] at h
  exact s_var (.subL (.attr (.var rfl) ht (P.fT _ (by decide)) hl) hc (.var rfl) hg) (
    s_if (.bools (.or (.lt (.var rfl) .lit) fun _ => .or1 (.gt (.var rfl) .gl))) (fun g => s_ret .gl (by dsimp only at h; rw [if_pos g] at h; exact h)) fun g => s_nil (
    s_ret (.var rfl) (by dsimp only at h; rw [if_neg g] at h; exact h))))

theorem code_cv (P : Tz c) (T : TkS σ t l cs s o) {u : List Int} (hu : u <:+ cs) (k : Nat) {i : Int} (e : i = ps cs u + k) : CV c (lv + 1) hd σ (.ref 255) [.ref t, .int i] (.int (cd (u.drop k))) := by
  rw [← codeAt_ps T.ok hu k, ← e]
  exact code_at_cv P T.ht rfl T.hl (by have := ps_nonneg hu; omega)

theorem place_cv (P : Tz c) {codes : List Int} {fs : Nat → Option PV} {a : Int} (ht : σ.at_ t = some (.inst 370 fs)) (hl : fs 2 = some (.ref l)) (hc : σ.at_ l = some (.list (codes.map .int))) (h0 : 0 ≤ a) :
    CV c (lv + 1) hd σ (.ref 262) [.ref t, .int a] (.tup [.int (placeOf codes a).1, .int (placeOf codes a).2]) := .of P.place rfl fun Q X h =>
  s_var .lit (s_var .lit (s_var .lit (s_while (fun m ρ σ' => σ' = σ ∧ ∃ k : Nat, k ≤ codes.length ∧ (k : Int) ≤ a ∧ m = codes.length - k ∧ ρ 22 = some (.int (placeOf codes k).1) ∧ ρ 33 = some (.int (placeOf codes k).2) ∧ ρ 77 = some (.int k) ∧ ρ 67 = some (.ref t) ∧ ρ 34 = some (.int a))
    (fun m R ρ _ ⟨e, k, hk1, hk2, hm, r1, r2, r3, r4, r5⟩ ih => by
      subst e; subst hm
      have stop : ¬ (k : Int) < a ∨ ¬ k < codes.length → placeOf codes k = placeOf codes a := by
        intro hs
        unfold placeOf
        rw [Int.toNat_natCast]
        rcases hs with hs | hs
        · rw [show a = k by omega, Int.toNat_natCast]
        · rw [List.take_of_length_le (by omega), List.take_of_length_le (by omega)]
      refine ⟨_, .bools (.and (.lt (.var r3) (.var r5)) fun _ => .and1 (.lt (.var r3) (.call (P.calB _ (by decide)) (.cons (.attr (.var r4) ht (P.fT _ (by decide)) hl) .nil) (len_cv hc)))), fun ⟨g1, g2⟩ => ?_, fun g => ?_⟩
      · rw [List.length_map] at g2
        have g2 : k < codes.length := by omega
        have hg : getI (codes.map .int) k = some (.int codes[k]) := by
          unfold getI
          rw [if_pos (Int.natCast_nonneg _), List.getElem?_map, Int.toNat_natCast, List.getElem?_eq_getElem g2]; rfl
        have hs := placeOf_succ g2
        refine s_if (.eqI (.subL (.attr (.var r4) ht (P.fT _ (by decide)) hl) hc (.var r3) hg) .gl) (fun g3 => ?_) fun g3 => ?_
        · rw [if_pos g3] at hs
          exact s_var (.add (.var r1) .lit) (s_var .lit (s_nil (s_var (.add (.var r3) .lit) (s_nil (ih _ _ _ (by omega) ⟨rfl, k + 1, g2, by omega, rfl, by rw [hs]; rfl, by rw [hs]; rfl, rfl, r4, r5⟩)))))
        · rw [if_neg g3] at hs
          exact s_var (.add (.var r2) .lit) (s_nil (s_var (.add (.var r3) .lit) (s_nil (ih _ _ _ (by omega) ⟨rfl, k + 1, g2, by omega, rfl, by rw [hs]; exact r1, by rw [hs]; rfl, rfl, r4, r5⟩))))
      · refine s_ret (.tup (.cons (.var r1) (.cons (.var r2) .nil))) ?_
        rw [stop (by
          rw [List.length_map] at g
          by_cases q : (k : Int) < a
          · exact .inr fun z => g ⟨q, by omega⟩
          · exact .inl q)]
        exact h) (m := codes.length) ⟨rfl, 0, Nat.zero_le _, by simpa using h0, rfl, rfl, rfl, rfl, rfl, rfl⟩)))
end
end Mine
end

section
open PySem PySem.W PyProof.Rows PySem.Calls
set_option Elab.async false
set_option linter.unusedVariables false
set_option maxRecDepth 100000
namespace Mine

/-- a fault is in the air -/
structure Rz (σ σ' : St) (t l : Nat) (cs s : List Int) (o : Int) (ch : Bool) (kind : List Nat) (u : List Int) (j : Nat) : Prop where
  k : Keep σ σ' t
  T : TkS σ' t l cs s o
  lo : σ.n ≤ j
  hi : j < σ'.n
  at' : σ'.at_ j = some (faultOf cs kind u ch)
theorem Rz.after {σ₀ σ σ' : St} {t l : Nat} {cs s : List Int} {o : Int} {ch : Bool} {kind : List Nat} {u : List Int} {j : Nat} (k : Keep σ₀ σ t) (z : Rz σ σ' t l cs s o ch kind u j) : Rz σ₀ σ' t l cs s o ch kind u j :=
  ⟨k.trans z.k, z.T, Nat.le_trans k.n z.lo, z.hi, z.at'⟩

section
variable {c : Sx} {lv : Nat} {hd : Option Nat} {σ : St} {ρ : Loc} {t l : Nat} {cs s s' u : List Int} {o : Int} {Q : Fl → Loc → St → Prop} {X : Nat → Loc → St → Prop} {r : Ss}

theorem at_ev (P : Tz c) (T : TkS σ t l cs s o) {a : E} (w : EV c lv hd σ ρ a (.ref t)) : EV c lv hd σ ρ (.attr a 34) (.int (ps cs s)) := .attr w T.ht (P.fT _ (by decide)) rfl
theorem code_ev (P : Tz c) (T : TkS σ t l cs s o) {a e : E} {i : Int} (w : EV c (lv + 1) hd σ ρ a (.ref t)) (v : EV c (lv + 1) hd σ ρ e (.int i)) (hu : u <:+ cs) (k : Nat) (h : i = ps cs u + k) :
    EV c (lv + 1) hd σ ρ (.meth a 80 (.cons e .nil)) (.int (cd (u.drop k))) := .meth w T.ht rfl (P.m (80, 255) (by decide)) (.cons v .nil) (code_cv P T hu k h)
theorem code0 (P : Tz c) (T : TkS σ t l cs s o) {a e : E} (w : EV c (lv + 1) hd σ ρ a (.ref t)) (v : EV c (lv + 1) hd σ ρ e (.int (ps cs u))) (hu : u <:+ cs) : EV c (lv + 1) hd σ ρ (.meth a 80 (.cons e .nil)) (.int (cd u)) := code_ev P T w v hu 0 (Int.add_zero _).symm
theorem code1 (P : Tz c) (T : TkS σ t l cs s o) {a e : E} {x : Int} (w : EV c (lv + 1) hd σ ρ a (.ref t)) (v : EV c (lv + 1) hd σ ρ e (.int (ps cs (x :: u) + 1))) (hu : x :: u <:+ cs) : EV c (lv + 1) hd σ ρ (.meth a 80 (.cons e .nil)) (.int (cd u)) := code_ev P T w v hu 1 rfl
theorem s_at (P : Tz c) (T : TkS σ t l cs s o) {a e : E} {i : Int} (v : EV c lv hd σ ρ e (.int i)) (w : EV c lv hd σ ρ a (.ref t)) (hi : i = ps cs s') (hs : s' <:+ cs)
    (h : ∀ σ', Keep σ σ' t → TkS σ' t l cs s' o → wpSs c lv r hd ρ σ' Q X) : wpSs c lv (.cons (.asg (.attr a 34) e) r) hd ρ σ Q X :=
  s_attr v w T.ht (P.fT _ (by decide)) (by rw [tk_at, hi]; exact h _ keep_put (T.set hs))

theorem newFault_ok (P : Tz c) {kind : List Nat} {a r cl : Int} {Q : PV → St → Prop} {X : Nat → St → Prop} (h : Q (.ref σ.n) (σ.new (.exc 51 (faultFs kind a r cl) false))) : CallOk c (lv + 2) hd (.ref 51) [.str kind, .int a, .int r, .int cl] σ Q X := by
  refine exc_ok P.exIn P.exI P.exF (by simp) (P.fault0 _ _ _ _ _ _ rfl ?_).call
  have st : ∀ (fs fs' : Nat → Option PV) (o : AObj), (σ.new o).put σ.n (.exc 51 fs false) = σ.new (.exc 51 fs false) := fun fs fs' o => by
    simp only [St.put, St.new]; congr 1; funext j; by_cases hj : j = σ.n <;> simp [hj]
  have sA : ∀ {o : AObj}, (σ.new o).at_ σ.n = some o := fun {o} => if_pos rfl
  have s1 : ∀ (x : Nat) (y : Nat) (p : PV) (fs : Nat → Option PV) (ρ : Loc) (r : Ss) (Q : Fl → Loc → St → Prop) (X : Nat → Loc → St → Prop), x ∈ [35, 34, 22, 33] → ρ 67 = some (.ref σ.n) → ρ y = some p →
      wpSs c lv r hd ρ (σ.new (.exc 51 (upd fs x p) false)) Q X → wpSs c lv (.cons (.asg (.attr (.var 67) x) (.var y)) r) hd ρ (σ.new (.exc 51 fs false)) Q X := fun x y p fs ρ r Q X hx e1 e2 h => by
    refine (EV.var e2) _ _ ((EV.var e1) _ _ ?_)
    unfold wPutA wRef; dsimp only
    rw [sA]
    refine ⟨P.fX x hx, ?_⟩
    rw [st _ (fun _ => none)]; exact h
  have s0 : ∀ (x : Nat) (y : Nat) (p : PV) (ρ : Loc) (r : Ss) (Q : Fl → Loc → St → Prop) (X : Nat → Loc → St → Prop), x ∈ [35, 34, 22, 33] → ρ 67 = some (.ref σ.n) → ρ y = some p →
      wpSs c lv r hd ρ (σ.new (.exc 51 (upd (fun _ => none) x p) false)) Q X → wpSs c lv (.cons (.asg (.attr (.var 67) x) (.var y)) r) hd ρ (σ.new (.bare 51)) Q X := fun x y p ρ r Q X hx e1 e2 h => by
    refine (EV.var e2) _ _ ((EV.var e1) _ _ ?_)
    unfold wPutA wRef; dsimp only
    rw [sA]
    refine ⟨P.fX x hx, ?_⟩
    rw [st _ (fun _ => none)]; exact h
  exact s0 _ _ _ _ _ _ _ (by decide) rfl rfl (s1 _ _ _ _ _ _ _ _ (by decide) rfl rfl (s1 _ _ _ _ _ _ _ _ (by decide) rfl rfl (s1 _ _ _ _ _ _ _ _ (by decide) rfl rfl (s_nil ⟨rfl, h⟩))))

theorem raise_new {fs : Nat → Option PV} {K : St → Prop} (hu : HdU σ hd) (hw : ∀ h, hd = some h → h ≠ σ.n) (hK : K (σ.new (.exc 51 fs hd.isSome))) : wRaise hd σ.n (σ.new (.exc 51 fs false)) 51 fs K := by
  cases hd with
  | none => exact hK
  | some h =>
    obtain ⟨C, f, e⟩ := hu
    have : (σ.new (.exc 51 fs false)).put σ.n (.exc 51 fs true) = σ.new (.exc 51 fs true) := by
      simp only [St.put, St.new]; congr 1; funext j; by_cases q : j = σ.n <;> simp [q]
    refine .inr ⟨hw h rfl, ⟨C, f, (if_neg (hw h rfl)).trans e⟩, ?_⟩
    rw [this]; exact hK

theorem fault_ok (P : Tz c) {kind : List Nat} {i : Int} (T : TkS σ t l cs s o) (H : HdS σ t hd) (hi : i = ps cs u) (hu : u <:+ cs) {Q : PV → St → Prop} {X : Nat → St → Prop} (h : Q (.ref σ.n) (σ.new (faultOf cs kind u false))) :
    CallOk c (lv + 3) hd (.ref 269) [.ref t, .str kind, .int i] σ Q X := (P.fault _ _ _ _ _ _ rfl (by
  have h0 := ps_nonneg hu
  subst hi
  refine (EV.meth (.var rfl) T.ht rfl (P.m (5, 262) (by decide)) (.cons (.var rfl) .nil) (place_cv P T.ht rfl T.hl h0)) _ _ ⟨rfl, H.u, ?_⟩
  exact s_retE (e_call (P.cal _ (by decide)) (.cons (.var rfl) (.cons (.var rfl) (.cons (.var rfl) (.cons (.var rfl) .nil)))) (newFault_ok P h)))).call

theorem s_fault (P : Tz c) (T : TkS σ t l cs s o) (H : HdS σ t hd) {a e : E} {i : Int} {kind : List Nat} (w : EV c (lv + 3) hd σ ρ a (.ref t)) (v : EV c (lv + 3) hd σ ρ e (.int i)) (hi : i = ps cs u) (hu : u <:+ cs)
    (h : ∀ j σ', Rz σ σ' t l cs s o hd.isSome kind u j → X j ρ σ') : wpSs c (lv + 3) (.cons (.raise_ (.meth a 31 (.cons (.lit (.str kind)) (.cons e .nil)))) r) hd ρ σ Q X := by
  refine (e_meth w T.ht rfl (P.m (31, 269) (by decide)) (.cons .lit (.cons v .nil)) (fault_ok P T H hi hu ?_))
  unfold wExc wRef; dsimp only
  rw [show (σ.new (faultOf cs kind u false)).at_ σ.n = some (faultOf cs kind u false) from if_pos rfl]
  exact ⟨P.exc.symm, raise_new H.u H.new (h _ _ ⟨keep_new, T.new, Nat.le_refl _, Nat.lt_succ_self _, if_pos rfl⟩)⟩

/-! ## blanks -/
noncomputable def rowM : List Int → List Int
  | [] => []
  | x :: xs => if x = 10 then x :: xs else rowM xs
noncomputable def remM : List Int → Option (List Int)
  | [] => none
  | x :: xs => if x = 42 ∧ cd xs = 47 then some xs.tail else remM xs
theorem rowM_suf : ∀ s, rowM s <:+ s
  | [] => List.suffix_refl _
  | x :: xs => by
    rw [rowM]
    split
    · exact List.suffix_refl _
    · exact (rowM_suf xs).trans (List.suffix_cons x xs)
theorem remM_suf : ∀ {s s'}, remM s = some s' → s' <:+ s
  | x :: xs, s', h => by
    rw [remM] at h
    split at h
    · cases h; exact (List.tail_suffix xs).trans (List.suffix_cons x xs)
    · exact (remM_suf h).trans (List.suffix_cons x xs)

variable {Qc : PV → St → Prop} {Xc : Nat → St → Prop}

theorem skip_row_ok (P : Tz c) (T : TkS σ t l cs s o) (h : ∀ σ', Keep σ σ' t → TkS σ' t l cs (rowM s) o → Qc .none σ') : CallOk c (lv + 2) hd (.ref 297) [.ref t] σ Qc Xc := (P.skip_row _ _ _ _ _ _ rfl (
  s_while (fun m ρ σ' => ρ 67 = some (.ref t) ∧ ∃ s₂, m = s₂.length ∧ rowM s₂ = rowM s ∧ Keep σ σ' t ∧ TkS σ' t l cs s₂ o) (fun m R ρ σ' ⟨r, s₂, hm, hr, k, T⟩ ih => ⟨True, .true, fun _ =>
    s_var (code0 P T (.var r) (at_ev P T (.var r)) T.sf) (
    s_if (.bools (.or (.eqI (.var rfl) .gl) fun _ => .or1 (.eqI (.var rfl) .gl))) (fun g => s_ret0 (h _ k (by
        have : rowM s₂ = s₂ := by
          cases s₂ with
          | nil => rfl
          | cons x xs =>
            have hx : x = 10 := by
              rcases g with g | g
              · have := (T.ok.rng x (T.sf.subset (.head _))).1; change x = -1 at g; omega
              · exact g
            rw [rowM, if_pos hx]
        rw [← hr, this]; exact T))) fun g => s_nil (by
      cases s₂ with
      | nil => exact absurd (.inl rfl) g
      | cons x xs =>
        exact s_at P T (.add (at_ev P T (.var r)) .lit) (.var r) ps_cons (sf_tail T.sf) fun σ₁ k₁ T₁ => s_nil (ih _ _ _ (by rw [hm]; exact Nat.lt_succ_self _) ⟨r, xs, rfl, by
          rw [← hr, rowM]; exact (if_neg fun z => g (.inr z)).symm, k.trans k₁, T₁⟩))), fun g => absurd trivial g⟩) ⟨rfl, s, rfl, rfl, .refl, T⟩)).call

noncomputable def unfinished : List Nat := [117, 110, 102, 105, 110, 105, 115, 104, 101, 100, 95, 114, 101, 109, 97, 114, 107]
theorem skip_remark_ok (P : Tz c) {x y : Int} {v : List Int} (T : TkS σ t l cs (x :: y :: v) o) (H : HdS σ t hd) (hQ : ∀ σ' s', remM v = some s' → Keep σ σ' t → TkS σ' t l cs s' o → Qc .none σ')
    (hX : ∀ j σ', remM v = none → Rz σ σ' t l cs [] o hd.isSome unfinished (x :: y :: v) j → Xc j σ') : CallOk c (lv + 4) hd (.ref 304) [.ref t] σ Qc Xc := (P.skip_remark _ _ _ _ _ _ rfl (
  s_var (at_ev P T (.var rfl)) (s_at P T (.add (.var rfl) .lit) (.var rfl) (s' := v) (by rw [← ps_cons (s := v) (x := y), ← ps_cons (s := y :: v) (x := x)]; omega) (sf_tail (sf_tail T.sf)) fun σ₁ k₁ T₁ =>
  s_while (fun m ρ σ' => ρ 67 = some (.ref t) ∧ ρ 78 = some (.int (ps cs (x :: y :: v))) ∧ ∃ s₂, m = s₂.length ∧ remM s₂ = remM v ∧ Keep σ σ' t ∧ TkS σ' t l cs s₂ o) (fun m R ρ σ' ⟨r, r', s₂, hm, hr, k, T₂⟩ ih => ⟨True, .true, fun _ =>
    s_var (code0 P T₂ (.var r) (at_ev P T₂ (.var r)) T₂.sf) (
    s_if (.eqI (.var rfl) .gl) (fun g => s_fault P T₂ (H.keep k) (.var r) (.var r') rfl T.sf fun j σ₃ z => by
        cases s₂ with
        | nil => exact hX j σ₃ hr.symm (z.after k)
        | cons x xs => have := (T₂.ok.rng x (T₂.sf.subset (.head _))).1; change x = -1 at g; omega) fun g => s_nil (by
      cases s₂ with
      | nil => exact absurd rfl g
      | cons a xs =>
        refine s_if (.bools (.and (.eqI (.var rfl) .gl) fun _ => .and1 (.eqI (code1 P T₂ (.var r) (.add (at_ev P T₂ (.var r)) .lit) T₂.sf) .gl))) (fun g' => ?_) fun g' => s_nil (
          s_at P T₂ (.add (at_ev P T₂ (.var r)) .lit) (.var r) ps_cons (sf_tail T₂.sf) fun σ₃ k₃ T₃ => s_nil (ih _ _ _ (by rw [hm]; exact Nat.lt_succ_self _) ⟨r, r', xs, rfl, by
            rw [← hr, remM]; exact (if_neg g').symm, k.trans k₃, T₃⟩))
        cases xs with
        | nil => exact absurd g'.2 (by decide)
        | cons b ys => exact s_at P T₂ (.add (at_ev P T₂ (.var r)) .lit) (.var r) (s' := ys) (by rw [← ps_cons (s := ys) (x := b), ← ps_cons (s := b :: ys) (x := a)]; omega) (sf_tail (sf_tail T₂.sf)) fun σ₃ k₃ T₃ => s_ret0 (hQ _ _ (by
            rw [← hr, remM]; exact if_pos g') (k.trans k₃) T₃))), fun g => absurd trivial g⟩) ⟨rfl, rfl, v, rfl, rfl, k₁, T₁⟩))).call
end
end Mine
end

section
open PySem PySem.W PyProof.Rows PySem.Calls
set_option Elab.async false
set_option linter.unusedVariables false
set_option maxRecDepth 100000
namespace Mine

/-! ## blanks, words, signs, digits -/
theorem rowM_len (s : List Int) : (rowM s).length ≤ s.length := (rowM_suf s).length_le
noncomputable def layM (s : List Int) : Except (List Int) (List Int) := match s with
  | [] => .ok []
  | x :: xs => if isLayout x = true then layM xs else if x = 37 then layM (rowM xs) else if x = 47 ∧ cd xs = 42 then (match _h : remM xs.tail with
      | none => .error (x :: xs)
      | some s' => layM s') else .ok (x :: xs)
termination_by s.length
decreasing_by
  · exact Nat.lt_succ_self _
  · exact Nat.lt_succ_of_le (rowM_len xs)
  · exact Nat.lt_succ_of_le (Nat.le_trans (remM_suf _h).length_le (by rw [List.length_tail]; exact Nat.sub_le _ _))

section
variable {c : Sx} {lv : Nat} {hd : Option Nat} {σ : St} {ρ : Loc} {t l : Nat} {cs s s' u : List Int} {o : Int} {Q : Fl → Loc → St → Prop} {X : Nat → Loc → St → Prop} {r : Ss} {Qc : PV → St → Prop} {Xc : Nat → St → Prop}

theorem layM_lay {x : Int} {xs : List Int} (h : isLayout x = true) : layM (x :: xs) = layM xs := by rw [layM, if_pos h]
theorem layM_row {x : Int} {xs : List Int} (h : x = 37) : layM (x :: xs) = layM (rowM xs) := by
  subst h; rw [layM, if_neg (by decide), if_pos rfl]
theorem layM_rem {y : Int} {xs : List Int} (h : y = 42) : layM (47 :: y :: xs) = match remM xs with | none => .error (47 :: y :: xs) | some s' => layM s' := by
  subst h; rw [layM, if_neg (by decide), if_neg (by decide), if_pos ⟨rfl, rfl⟩]
  dsimp only [List.tail_cons]
  split <;> rename_i h <;> rw [h]
theorem layM_stop {x : Int} {xs : List Int} (h1 : ¬ isLayout x = true) (h2 : ¬ x = 37) (h3 : ¬ (x = 47 ∧ cd xs = 42)) : layM (x :: xs) = .ok (x :: xs) := by rw [layM, if_neg h1, if_neg h2, if_neg h3]

theorem skip_layout_ok (P : Tz c) (T : TkS σ t l cs s o) (H : HdS σ t hd) (hQ : ∀ σ' s', layM s = .ok s' → Keep σ σ' t → TkS σ' t l cs s' o → Qc .none σ')
    (hX : ∀ j σ' u, layM s = .error u → Rz σ σ' t l cs [] o hd.isSome unfinished u j → Xc j σ') : CallOk c (lv + 5) hd (.ref 290) [.ref t] σ Qc Xc := (P.skip_layout _ _ _ _ _ _ rfl (
  s_while (fun m ρ σ' => ρ 67 = some (.ref t) ∧ ∃ s₂, m = s₂.length ∧ layM s₂ = layM s ∧ Keep σ σ' t ∧ TkS σ' t l cs s₂ o) (fun m R ρ σ' ⟨r, s₂, hm, hr, k, T⟩ ih => ⟨True, .true, fun _ =>
    s_var (code0 P T (.var r) (at_ev P T (.var r)) T.sf) (by
      cases s₂ with
      | nil =>
        refine s_if (.call (.call (P.cal _ (by decide)) (.cons (.var rfl) .nil) (is_layout_cv P))) (fun g => absurd g (by decide)) fun _ =>
          s_if (.eqI (.var rfl) .gl) (fun g => absurd g (by decide)) fun _ =>
          s_if (.bools (.and (R := True) (.eqI (.var rfl) .gl) fun g => absurd g (by decide))) (fun g => absurd g.1 (by decide)) fun _ => s_ret0 (hQ _ _ ?_ k T)
        rw [← hr, layM]
      | cons x xs =>
        refine s_if (.call (.call (P.cal _ (by decide)) (.cons (.var rfl) .nil) (is_layout_cv P))) (fun g => ?_) fun g1 =>
          s_if (.eqI (.var rfl) .gl) (fun g => ?_) fun g2 =>
          s_if (.bools (.and (.eqI (.var rfl) .gl) fun _ => .and1 (.eqI (code1 P T (.var r) (.add (at_ev P T (.var r)) .lit) T.sf) .gl))) (fun g => ?_) fun g3 => s_ret0 (hQ _ _ (by rw [← hr]; exact layM_stop g1 g2 g3) k T)
        · exact s_at P T (.add (at_ev P T (.var r)) .lit) (.var r) ps_cons (sf_tail T.sf) fun σ₁ k₁ T₁ => s_nil (ih _ _ _ (by rw [hm]; exact Nat.lt_succ_self _) ⟨r, xs, rfl, by rw [← hr]; exact (layM_lay g).symm, k.trans k₁, T₁⟩)
        · refine s_exprE (e_meth (.var r) T.ht rfl (P.m (85, 297) (by decide)) .nil (skip_row_ok P T fun σ₁ k₁ T₁ => s_nil (ih _ _ _ ?_ ⟨r, _, rfl, ?_, k.trans k₁, T₁⟩)))
          · have h37 : x = 37 := g
            rw [hm, rowM, if_neg (by omega)]; exact Nat.lt_succ_of_le (rowM_len xs)
          · have h37 : x = 37 := g
            rw [← hr, layM_row h37, rowM, if_neg (by omega)]
        · obtain ⟨g4, g5⟩ := g
          cases xs with
          | nil => exact absurd g5 (by decide)
          | cons y v =>
            have h47 : x = 47 := g4
            subst h47
            have g5 : y = 42 := g5
            refine s_exprE (e_meth (.var r) T.ht rfl (P.m (86, 304) (by decide)) .nil (skip_remark_ok P T (H.keep k) (fun σ₁ s' e k₁ T₁ => s_nil (ih _ _ _ ?_ ⟨r, _, rfl, ?_, k.trans k₁, T₁⟩)) fun j σ₁ e z => hX j σ₁ _ ?_ (z.after k)))
            · rw [hm]; exact Nat.lt_of_le_of_lt (remM_suf e).length_le (Nat.lt_succ_of_lt (Nat.lt_succ_self _))
            · rw [← hr, layM_rem g5, e]
            · rw [← hr, layM_rem g5, e]), fun g => absurd trivial g⟩) ⟨rfl, s, rfl, rfl, .refl, T⟩)).call

/-- only new objects -/
structure Grow (σ σ' : St) : Prop where
  n : σ.n ≤ σ'.n
  old : ∀ j, j < σ.n → σ'.at_ j = σ.at_ j
theorem Grow.keep {σ σ' : St} {t : Nat} (g : Grow σ σ') : Keep σ σ' t := ⟨g.n, fun j hj _ => g.old j hj⟩
theorem Grow.trans {σ σ' σ'' : St} (x : Grow σ σ') (y : Grow σ' σ'') : Grow σ σ'' := ⟨Nat.le_trans x.n y.n, fun j hj => (y.old j (Nat.lt_of_lt_of_le hj x.n)).trans (x.old j hj)⟩
theorem grow_new {x : AObj} : Grow σ (σ.new x) := ⟨Nat.le_succ _, fun j hj => if_neg (Nat.ne_of_lt hj)⟩
theorem TkS.grow {σ' : St} (T : TkS σ t l cs s o) (g : Grow σ σ') : TkS σ' t l cs s o := T.keep g.keep ((g.old t T.tn).trans T.ht) T.sf

noncomputable def chars (cs : List Int) : List PV := cs.map fun x => PV.str [x.toNat]
theorem join_chars : ∀ cs : List Int, (Txt.join ⟨([] : List Nat).toArray⟩ ((cs.map fun x => [x.toNat]).map fun y => (⟨y.toArray⟩ : Str))).cps.toList = cs.map Int.toNat := by
  intro cs
  unfold Txt.join
  rw [StrLaws.glued_eq_join]
  induction cs with
  | nil => rfl
  | cons x cs ih =>
    cases cs with
    | nil => rfl
    | cons y ys =>
      simp only [List.map_cons] at ih ⊢
      rw [Str.join]
      · show (Str.append (Str.append _ _) _).cps.toList = _
        simp only [Str.append, Array.toList_append]
        rw [ih]; rfl
      · intro h; cases h

theorem comp_maps {F : PV → St → (PV → St → Prop) → (Nat → St → Prop) → Prop} {α : Type} {f g : α → PV} {G : St → Prop} {id : Nat} (Ok : α → Prop) (hF : ∀ x σ Q, Ok x → Q (g x) σ → F (f x) σ Q (fun _ _ => False)) (hG : ∀ σ v, G σ → G (σ.put id v)) :
    ∀ (xs done : List α) (σ : St) (Q : PV → St → Prop), G σ → σ.at_ id = some (.list (done.map g)) → HdU σ hd → (∀ h, hd = some h → h ≠ id) → done.length + xs.length ≤ 100000 → (∀ x ∈ xs, Ok x) →
    (∀ σ', (∀ j, j ≠ id → σ'.at_ j = σ.at_ j) → σ'.n = σ.n → σ'.at_ id = some (.list ((done ++ xs).map g)) → Q (.ref id) σ') →
    wComp G hd F id (xs.map f) (done.map g) σ Q
  | [], done, σ, Q, hl, hi, hu, hw, hlen, hr, hQ => ⟨hl, hu, hQ σ (fun _ _ => rfl) rfl (by rw [List.append_nil]; exact hi)⟩
  | x :: cs, done, σ, Q, hl, hi, hu, hw, hlen, hr, hQ => by
    rw [List.map_cons, wComp]
    rw [List.length_cons] at hlen
    refine ⟨hl, hF x σ _ (hr x (.head _)) ⟨hi, by rw [List.length_map]; omega, ?_⟩⟩
    have e : done.map g ++ [g x] = (done ++ [x]).map g := by rw [List.map_append]; rfl
    rw [e]
    refine comp_maps Ok hF hG cs (done ++ [x]) _ Q (hG _ _ hl) (if_pos rfl) ?_ hw (by rw [List.length_append]; exact Nat.le_trans (Nat.le_of_eq (by show _ + 1 + _ = _; omega)) hlen) (fun y hy => hr y (.tail _ hy)) fun σ' h1 h2 h3 => hQ σ' (fun j hj => ?_) h2 (by rw [List.append_assoc] at h3; exact h3)
    · cases hd with
      | none => trivial
      | some h => obtain ⟨C, f, e⟩ := hu; exact ⟨C, f, (if_neg (hw h rfl)).trans e⟩
    · rw [h1 j hj]; exact if_neg hj

theorem codes_text_ok (P : Tz c) {i : Nat} {xs : List Int} (hl : σ.at_ i = some (.list (xs.map .int))) (hb : i < σ.n) (hu : HdU σ hd) (hw : ∀ h, hd = some h → h ≠ σ.n) (hlen : xs.length ≤ 100000) (hr : ∀ x ∈ xs, 0 ≤ x ∧ x ≤ 1114111)
    (h : ∀ σ', Grow σ σ' → Qc (.str (xs.map Int.toNat)) σ') : CallOk c (lv + 1) hd (.ref 219) [.ref i] σ Qc Xc := (P.codes_text _ _ _ _ _ _ rfl (by
  refine s_retE ?_
  refine ⟨_, P.b ((1, 3), "str.join") (by decide), ?_⟩
  refine es_consE ?_
  refine e_compL (.var rfl) hl ?_
  have hi : i ≠ σ.n := Nat.ne_of_lt hb
  refine comp_maps (fun x : Int => 0 ≤ x ∧ x ≤ 1114111) (f := .int) (g := fun x => PV.str [x.toNat]) (G := fun σ => wGuard σ (.ref i) (xs.map .int)) (fun x σ Q a q => ⟨P.calB _ (by decide), chr_ok a.1 a.2 q⟩) (fun σ' v (g : σ'.at_ i = _) => (if_neg hi).trans g)
    xs [] (σ.new (.list [])) _ ((if_neg hi).trans hl) (if_pos rfl) ?_ hw (by simpa using hlen) hr fun σ' h1 h2 h3 => ?_
  · cases hd with
    | none => trivial
    | some i => obtain ⟨C, f, e⟩ := hu; exact ⟨C, f, (if_neg (hw i rfl)).trans e⟩
  · refine join_ok (ys := xs.map fun x => [x.toNat]) (h3.trans (by rw [List.nil_append, List.map_map]; rfl)) ?_ ?_
    · have : ((xs.map fun x => [x.toNat]).map (·.length)).sum = xs.length := by
        rw [List.map_map]
        clear hl hlen hr h h3
        induction xs with
        | nil => rfl
        | cons y ys ih => rw [List.map_cons, List.sum_cons, ih, List.length_cons]; exact Nat.add_comm _ _
      rw [this, List.length_nil, Nat.mul_zero]; omega
    · rw [join_chars]
      exact h σ' ⟨by rw [h2]; exact Nat.le_succ _, fun j hj => (h1 j (Nat.ne_of_lt hj)).trans (if_neg (Nat.ne_of_lt hj))⟩)).call

/-- the codes from one place to another as a text -/
theorem text_e (P : Tz c) {pre : List Int} (T : TkS σ t l cs s o) (H : HdS σ t hd) (hs : pre ++ u <:+ cs) (r1 : ρ 67 = some (.ref t)) (r2 : ρ 34 = some (.int (ps cs (pre ++ u)))) (r3 : ρ 87 = some (.int (ps cs u)))
    (h : ∀ σ', Grow σ σ' → Qc (.str (pre.map Int.toNat)) σ') : (wp c (lv + 1) hd (.call (.gl (.st (.ref 219))) (.cons (.slc (.attr (.var 67) 2) (.var 34) (.var 87)) .nil)) ρ).e σ Qc Xc := by
  have hl := hs.length_le
  have hu : u <:+ cs := (List.suffix_append pre u).trans hs
  have hul := hu.length_le
  have hb : ∀ {v : List Int}, v <:+ cs → bnd (cs.map PV.int).length 0 (.int (ps cs v)) = some (ps cs v).toNat ∧ bnd (cs.map PV.int).length (cs.map PV.int).length (.int (ps cs v)) = some (ps cs v).toNat := fun {v} hv => by
    have h0 := ps_nonneg hv
    have : min (ps cs v).toNat (cs.map PV.int).length = (ps cs v).toNat := by rw [List.length_map]; unfold ps; omega
    constructor <;> (show (if 0 ≤ ps cs v then some (min _ _) else none) = _) <;> rw [if_pos h0, this]
  refine e_callE (P.cal _ (by decide)) (es_consE (e_slc (.attr (.var r1) T.ht (P.fT _ (by decide)) rfl) T.hl (.var r2) (.var r3) (hb hs).1 (hb hu).2 ?_))
  have e : ((cs.map PV.int).drop (ps cs (pre ++ u)).toNat).take ((ps cs u).toNat - (ps cs (pre ++ u)).toNat) = pre.map PV.int := by
    rw [← List.map_drop, drop_ps hs, ← List.map_take]
    congr 1
    have : (ps cs u).toNat - (ps cs (pre ++ u)).toNat = pre.length := by unfold ps; rw [List.length_append] at hl ⊢; omega
    rw [this, List.take_left]
  rw [e]
  have hsub : ∀ x ∈ pre, 0 ≤ x ∧ x ≤ 1114111 := fun x hx => T.ok.rng x (hs.subset (List.mem_append_left _ hx))
  refine es_nil (codes_text_ok P (if_pos rfl) (Nat.lt_succ_self _) (H.keep keep_new).u (fun h e => Nat.ne_of_lt ?_) (by have := T.ok.len; rw [List.length_append] at hl; omega) hsub fun σ' g => h σ' (grow_new.trans g))
  have := H.keep (keep_new (x := .list (pre.map PV.int)))
  subst e; exact this.1

theorem ps_some {x : Int} : some (PV.int (ps cs (x :: s) + 1)) = some (PV.int (ps cs s)) := congrArg (fun z => some (PV.int z)) ps_cons
theorem scan_split (p : Int → Bool) : ∀ s : List Int, s.takeWhile p ++ s.dropWhile p = s := fun s => List.takeWhile_append_dropWhile
theorem s_scan (P : Tz c) (T : TkS σ t l cs s o) {f : Addr} {p : Int → Bool} (hp : p (-1) = false) (k : c.callee (.ref f) = true) (F : ∀ x, CV c (lv + 1) hd σ (.ref f) [.int x] (.bool (p x))) (r1 : ρ 67 = some (.ref t)) (r2 : ρ 87 = some (.int (ps cs u))) (hu : u <:+ cs)
    (h : ∀ ρ', (∀ k, k ≠ 87 → ρ' k = ρ k) → ρ' 87 = some (.int (ps cs (u.dropWhile p))) → wpSs c (lv + 1) r hd ρ' σ Q X) :
    wpSs c (lv + 1) (.cons (.while_ (.call (.gl (.st (.ref f))) (.cons (.meth (.var 67) 80 (.cons (.var 87) .nil)) .nil)) (.cons (.asg (.var 87) (.bin .Add (.var 87) (.lit (.int 1)))) .nil)) r) hd ρ σ Q X :=
  s_while (fun m ρ' σ' => σ' = σ ∧ (∀ k, k ≠ 87 → ρ' k = ρ k) ∧ ∃ v, m = v.length ∧ v <:+ cs ∧ v.dropWhile p = u.dropWhile p ∧ ρ' 87 = some (.int (ps cs v))) (fun m R ρ' _ ⟨e, ho, v, hm, hv, hd, hr⟩ ih => by
    subst e
    refine ⟨_, .call (.call k (.cons (code0 P T (.var ((ho 67 (by decide)).trans r1)) (.var hr) hv) .nil) (F _)), fun g => ?_, fun g => ?_⟩
    · cases v with
      | nil => exact absurd g (by rw [cd, hp]; exact Bool.noConfusion)
      | cons x xs => exact s_var (.add (.var hr) .lit) (s_nil (ih _ _ _ (by rw [hm]; exact Nat.lt_succ_self _) ⟨rfl, fun k hk => (if_neg hk).trans (ho k hk), xs, rfl, sf_tail hv, by rw [← hd]; exact (List.dropWhile_cons_of_pos g).symm, ps_some⟩))
    · refine h ρ' ho ?_
      rw [hr, ← hd]
      cases v with
      | nil => rfl
      | cons x xs =>
        have g : ¬ p x = true := g
        rw [List.dropWhile_cons_of_neg g]) ⟨rfl, fun _ _ => rfl, u, rfl, hu, rfl, r2⟩

theorem word_ok (P : Tz c) (T : TkS σ t l cs s o) (H : HdS σ t hd) (h : ∀ σ', Keep σ σ' t → TkS σ' t l cs (s.dropWhile isAlnum) o → Qc (.str ((s.takeWhile isAlnum).map Int.toNat)) σ') : CallOk c (lv + 4) hd (.ref 311) [.ref t, .int (ps cs s)] σ Qc Xc := (P.word _ _ _ _ _ _ rfl (by
  have hs : s.dropWhile isAlnum <:+ cs := (List.dropWhile_suffix _).trans T.sf
  refine s_var (.var rfl) (s_scan (p := isAlnum) P T rfl (P.cal _ (by decide)) (fun x => is_alnum_cv P) rfl rfl T.sf fun ρ' ho hr => ?_)
  refine s_at P T (.var hr) (.var (ho 67 (by decide))) rfl hs fun σ₁ k₁ T₁ => s_retE (text_e (pre := s.takeWhile isAlnum) (u := s.dropWhile isAlnum) P T₁ (H.keep k₁) (by rw [scan_split]; exact T.sf) (ho 67 (by decide)) (by rw [scan_split]; exact ho 34 (by decide)) hr fun σ₂ g => h _ (k₁.trans g.keep) (T₁.grow g)))).call
end
end Mine
end

section
open PySem PySem.W PyProof.Rows PySem.Calls
set_option Elab.async false
set_option linter.unusedVariables false
set_option maxRecDepth 100000
namespace Mine

/-! ## signs, digits, escapes -/
inductive TV where
  | str (x : List Nat)
  | int (i : Int)
  | ints (xs : List Int)
noncomputable def TV.pv : TV → PV
  | .str x => .str x
  | .int i => .int i
  | .ints xs => .tup (xs.map .int)
structure Tk where
  kind : List Nat
  v : TV
  s : List Int
noncomputable def Tk.pv (cs : List Int) (k : Tk) : PV := .tup [.str k.kind, k.v.pv, .int (ps cs k.s)]
inductive Oc where
  | tok (k : Tk) (r : List Int)
  | fault (kind : List Nat) (u r : List Int)

noncomputable def kEnd : List Nat := [101, 110, 100]
noncomputable def kName : List Nat := [110, 97, 109, 101]
noncomputable def kInt : List Nat := [105, 110, 116]
noncomputable def kBadNumber : List Nat := [98, 97, 100, 95, 110, 117, 109, 98, 101, 114]
noncomputable def kBadEscape : List Nat := [98, 97, 100, 95, 101, 115, 99, 97, 112, 101]

noncomputable def endsM (u : List Int) : Bool := decide (cd u = -1) || (decide (cd u = 37) || isLayout (cd u))
noncomputable def symM (s : List Int) : Oc := if cd s = 46 ∧ endsM s.tail = true then .tok ⟨kEnd, .str [46], s⟩ s.tail else .tok ⟨kName, .str ((s.takeWhile isSymb).map Int.toNat), s⟩ (s.dropWhile isSymb)
noncomputable def digM (b : Int) : List Int → Int → Int × List Int
  | [], v => (v, [])
  | x :: xs, v => if digVal x < 0 ∨ b ≤ digVal x then (v, x :: xs) else digM b xs (v * b + digVal x)
noncomputable def escD (b : Int) : List Int → Int → Int × List Int
  | [], v => (v, [])
  | x :: xs, v => if digVal x < 0 ∨ b ≤ digVal x then (v, x :: xs) else escD b xs (if v ≤ 1114111 then v * b + digVal x else v)
noncomputable def escB (b : Int) (w : List Int) : Option (Int × List Int) := if (escD b w 0).2 = w ∨ ((escD b w 0).1 > 1114111 ∨ cd (escD b w 0).2 ≠ 92) then none else some ((escD b w 0).1, (escD b w 0).2.tail)
noncomputable def escM (r : List Int) : Option (Int × List Int) := if simpEsc (cd r) ≥ 0 then some (simpEsc (cd r), r.tail) else if cd r = 120 then escB 16 r.tail else escB 8 r
theorem digM_suf (b : Int) : ∀ s v, (digM b s v).2 <:+ s
  | [], v => List.suffix_refl _
  | x :: xs, v => by
    rw [digM]; split
    · exact List.suffix_refl _
    · exact (digM_suf b xs _).trans (List.suffix_cons x xs)
theorem escD_suf (b : Int) : ∀ s v, (escD b s v).2 <:+ s
  | [], v => List.suffix_refl _
  | x :: xs, v => by
    rw [escD]; split
    · exact List.suffix_refl _
    · exact (escD_suf b xs _).trans (List.suffix_cons x xs)
theorem escD_nonneg {b : Int} (hb : 0 ≤ b) : ∀ s v, 0 ≤ v → 0 ≤ (escD b s v).1
  | [], v, h => h
  | x :: xs, v, h => by
    rw [escD]; split
    · exact h
    · refine escD_nonneg hb xs _ ?_
      rename_i q
      split
      · have := Int.mul_nonneg h hb; omega
      · exact h
noncomputable def escPlace (y : Nat) : Int := if y = 97 then 0 else if y = 98 then 1 else if y = 116 then 2 else if y = 110 then 3 else if y = 118 then 4 else if y = 102 then 5 else if y = 114 then 6 else -1
theorem find_esc (y : Nat) : Txt.find ⟨[97, 98, 116, 110, 118, 102, 114].toArray⟩ ⟨[y].toArray⟩ = escPlace y := by
  by_cases h1 : y = 97; · subst h1; decide +kernel
  by_cases h2 : y = 98; · subst h2; decide +kernel
  by_cases h3 : y = 116; · subst h3; decide +kernel
  by_cases h4 : y = 110; · subst h4; decide +kernel
  by_cases h5 : y = 118; · subst h5; decide +kernel
  by_cases h6 : y = 102; · subst h6; decide +kernel
  by_cases h7 : y = 114; · subst h7; decide +kernel
  have hs : ∀ (i : Nat), i < 7 → Builtin.Str.subAt ⟨[97, 98, 116, 110, 118, 102, 114].toArray⟩ ⟨[y].toArray⟩ i = false := by
    intro i hi
    have e : (⟨[y].toArray⟩ : Str).length = 1 := rfl
    rcases i with _ | _ | _ | _ | _ | _ | _ | _ <;> first | omega | (simp [Builtin.Str.subAt, e]; omega)
  have e : escPlace y = -1 := by simp only [escPlace, if_neg h1, if_neg h2, if_neg h3, if_neg h4, if_neg h5, if_neg h6, if_neg h7]
  rw [e]
  unfold Txt.find Builtin.Str.occurrences
  have el : (⟨[y].toArray⟩ : Str).length = 1 := rfl
  have el7 : (⟨[97, 98, 116, 110, 118, 102, 114].toArray⟩ : Str).length = 7 := rfl
  rw [el, el7]
  have h8 : ∀ i, (decide (i + 1 ≤ 7) && Builtin.Str.subAt ⟨[97, 98, 116, 110, 118, 102, 114].toArray⟩ ⟨[y].toArray⟩ i) = false := fun i => by
    by_cases q : i < 7
    · rw [hs i q, Bool.and_false]
    · rw [decide_eq_false (by omega), Bool.false_and]
  simp only [Bool.and_assoc, h8, Bool.and_false, Bool.false_eq_true, if_false]
  decide +kernel
theorem escB_suf {b : Int} {r : List Int} {v : Int} {s : List Int} (h : escB b r = some (v, s)) : s <:+ r := by
  unfold escB at h
  split at h
  · cases h
  · cases h; exact (List.tail_suffix _).trans (escD_suf _ _ _)
theorem escM_suf {r : List Int} {v : Int} {s : List Int} (h : escM r = some (v, s)) : s <:+ r := by
  unfold escM at h
  split at h
  · cases h; exact List.tail_suffix r
  · split at h
    · exact (escB_suf h).trans (List.tail_suffix r)
    · exact escB_suf h
theorem escPlace_le (y : Nat) : escPlace y ≤ 6 := by unfold escPlace; repeat (first | (split; decide) | decide)
theorem simpEsc_le {x : Int} (hx : x ≤ 1114111) : simpEsc x ≤ 1114111 := by
  unfold simpEsc
  generalize (if (0 : Int) > x then 0 else x).toNat = y
  dsimp only
  rw [find_esc]
  have := escPlace_le y
  split
  · exact hx
  · split <;> omega
theorem escM_rng {r : List Int} {v : Int} {s : List Int} (hr : cd r ≤ 1114111) (h : escM r = some (v, s)) : 0 ≤ v ∧ v ≤ 1114111 := by
  have hB : ∀ {b : Int} {r : List Int}, 0 ≤ b → escB b r = some (v, s) → 0 ≤ v ∧ v ≤ 1114111 := fun {b r} hb h => by
    unfold escB at h
    split at h
    · cases h
    · rename_i q
      cases h
      refine ⟨escD_nonneg hb _ _ (Int.le_refl _), ?_⟩
      rw [not_or, not_or] at q
      exact Int.not_lt.mp q.2.1
  unfold escM at h
  split at h
  · rename_i q; cases h; exact ⟨q, simpEsc_le hr⟩
  · split at h
    · exact hB (by decide) h
    · exact hB (by decide) h

section
variable {c : Sx} {lv : Nat} {hd : Option Nat} {σ : St} {ρ : Loc} {t l : Nat} {cs s s' u : List Int} {o : Int} {Q : Fl → Loc → St → Prop} {X : Nat → Loc → St → Prop} {r : Ss} {Qc : PV → St → Prop} {Xc : Nat → St → Prop}

theorem ends_cv (P : Tz c) (T : TkS σ t l cs s o) (hu : u <:+ cs) {i : Int} (hi : i = ps cs u) : CV c (lv + 2) hd σ (.ref 325) [.ref t, .int i] (.bool (endsM u)) := .of P.ends_at rfl fun Q X h => by
  subst hi
  exact s_var (code0 P T (.var rfl) (.var rfl) hu) (s_ret (.bools (.or (.eqI (.var rfl) .gl) fun _ => .or (.eqI (.var rfl) .gl) fun _ => .one (.call (P.cal _ (by decide)) (.cons (.var rfl) .nil) (is_layout_cv P)))) h)

theorem symbol_ok (P : Tz c) (T : TkS σ t l cs s o) (H : HdS σ t hd) (h : ∀ σ' k s', symM s = .tok k s' → Keep σ σ' t → TkS σ' t l cs s' o → Qc (k.pv cs) σ') : CallOk c (lv + 4) hd (.ref 318) [.ref t, .int (ps cs s)] σ Qc Xc := (P.symbol _ _ _ _ _ _ rfl (by
  refine s_if (P := cd s = 46 ∧ endsM s.tail = true) ?_ (fun g => ?_) fun g => s_nil ?_
  · refine .bools (.and (.eqI (code0 P T (.var rfl) (.var rfl) T.sf) .gl) fun g => .and1 (.meth (.meth (.var rfl) T.ht rfl (P.m (88, 325) (by decide)) (.cons (.add (.var rfl) .lit) .nil) ?_)))
    cases s with
    | nil => exact absurd g (by decide)
    | cons x xs => exact ends_cv P T (sf_tail T.sf) ps_cons
  · cases s with
    | nil => exact absurd g.1 (by decide)
    | cons x xs =>
      exact s_at P T (.add (.var rfl) .lit) (.var rfl) ps_cons (sf_tail T.sf) fun σ₁ k₁ T₁ => s_ret (.tup (.cons .lit (.cons .lit (.cons (.var rfl) .nil)))) (h _ ⟨kEnd, .str [46], x :: xs⟩ _ (by rw [symM, if_pos g]; rfl) k₁ T₁)
  · have hs : s.dropWhile isSymb <:+ cs := (List.dropWhile_suffix _).trans T.sf
    refine s_var (.var rfl) (s_scan (p := isSymb) P T rfl (P.cal _ (by decide)) (fun x => is_symbol_cv P) rfl rfl T.sf fun ρ' ho hr => ?_)
    refine s_at P T (.var hr) (.var (ho 67 (by decide))) rfl hs fun σ₁ k₁ T₁ => s_retE (e_tup (es_cons .lit (es_consE (text_e (pre := s.takeWhile isSymb) (u := s.dropWhile isSymb) P T₁ (H.keep k₁) (by rw [scan_split]; exact T.sf) (ho 67 (by decide)) (by rw [scan_split]; exact ho 34 (by decide)) hr fun σ₂ g' => ?_))))
    exact es_cons (.var (ho 34 (by decide))) (es_nil (h _ ⟨kName, .str ((s.takeWhile isSymb).map Int.toNat), s⟩ _ (by rw [symM, if_neg g]) (k₁.trans g'.keep) (T₁.grow g'))))).call

theorem digits_ok (P : Tz c) (T : TkS σ t l cs s o) (hu : u <:+ cs) {i b : Int} (hi : i = ps cs u) (hb : b.natAbs < 2 ^ 60) (h : ∀ σ', Keep σ σ' t → TkS σ' t l cs (digM b u 0).2 o → Qc (.int (digM b u 0).1) σ') :
    CallOk c (lv + 3) hd (.ref 339) [.ref t, .int i, .int b] σ Qc Xc := (P.digits _ _ _ _ _ _ rfl (by
  subst hi
  refine s_var .lit (s_while (fun m ρ σ' => σ' = σ ∧ ρ 67 = some (.ref t) ∧ ρ 91 = some (.int b) ∧ ∃ v w, m = w.length ∧ w <:+ cs ∧ digM b w v = digM b u 0 ∧ ρ 77 = some (.int (ps cs w)) ∧ ρ 89 = some (.int v))
    (fun m R ρ _ ⟨e, r1, r2, v, w, hm, hw, hd, r3, r4⟩ ih => ⟨True, .true, fun _ => ?_, fun g => absurd trivial g⟩) ⟨rfl, rfl, rfl, 0, u, rfl, hu, rfl, rfl, rfl⟩)
  subst e
  refine s_var (.call (P.cal _ (by decide)) (.cons (code0 P T (.var r1) (.var r3) hw) .nil) (digit_value_cv P)) (s_if (.bools (.or (.lt (.var rfl) .lit) fun _ => .or1 (.ge (.var rfl) (.var r2)))) (fun g => ?_) fun g => s_nil ?_)
  · refine s_at P T (.var r3) (.var r1) rfl hw fun σ₁ k₁ T₁ => s_ret (.var r4) ?_
    have : digM b w v = (v, w) := by
      cases w with
      | nil => rfl
      | cons x xs => rw [digM]; exact if_pos g
    rw [this] at hd
    have h := h σ₁ k₁
    rw [← hd] at h
    exact h T₁
  · cases w with
    | nil => exact absurd (.inl (by decide)) g
    | cons x xs =>
      refine s_var (.add (.mul (.var r4) (.var r2) hb) (.var rfl)) (s_var (.add (.var r3) .lit) (s_nil (ih _ _ _ (by rw [hm]; exact Nat.lt_succ_self _) ⟨rfl, r1, r2, _, xs, rfl, sf_tail hw, ?_, ps_some, rfl⟩)))
      rw [← hd, digM]; exact (if_neg g).symm)).call
end
end Mine
end

section
open PySem PySem.W PyProof.Rows PySem.Calls
set_option Elab.async false
set_option linter.unusedVariables false
set_option maxRecDepth 100000
namespace Mine

noncomputable def abM (q : Int) : List Int → List Int
  | [] => []
  | [x] => if x = 10 then [x] else []
  | x :: y :: ys => if x = 10 then x :: y :: ys else if x = 92 then abM q ys else if x = q ∧ y = q then abM q ys else if x = q then y :: ys else abM q (y :: ys)
theorem abM_suf (q : Int) : ∀ s, abM q s <:+ s
  | [] => List.suffix_refl _
  | [x] => by
    rw [abM]; split
    · exact List.suffix_refl _
    · exact List.nil_suffix
  | x :: y :: ys => by
    have h1 : ys <:+ x :: y :: ys := (List.suffix_cons y ys).trans (List.suffix_cons x _)
    have h2 : y :: ys <:+ x :: y :: ys := List.suffix_cons x _
    rw [abM]
    repeat (first | exact List.suffix_refl _ | exact (abM_suf q ys).trans h1 | exact h2 | exact (abM_suf q (y :: ys)).trans h2 | split)

noncomputable def chM (s w : List Int) : Oc := if cd w = 92 then (match escM w.tail with
    | some (v, s') => .tok ⟨kInt, .int v, s⟩ s'
    | none => .fault kBadEscape w w.tail)
  else if cd w = 39 then if cd w.tail = 39 then .tok ⟨kInt, .int 39, s⟩ w.tail.tail else .fault kBadNumber s w.tail
  else if isQuot (cd w) = true then .tok ⟨kInt, .int (cd w), s⟩ w.tail else .fault kBadNumber s w
noncomputable def num10 (s : List Int) : Oc := let z := digM 10 s 0
  if cd z.2 = 46 ∧ isDigit (cd z.2.tail) = true then .fault kBadNumber s (digM 10 z.2.tail 0).2 else .tok ⟨kInt, .int z.1, s⟩ z.2
noncomputable def numM (s : List Int) : Oc := if cd s = 48 then
    if cd s.tail = 39 then chM s s.tail.tail
    else if 0 ≤ digVal (cd s.tail.tail) ∧ digVal (cd s.tail.tail) < numBase (cd s.tail) then .tok ⟨kInt, .int (digM (numBase (cd s.tail)) s.tail.tail 0).1, s⟩ (digM (numBase (cd s.tail)) s.tail.tail 0).2
    else num10 s
  else num10 s

section
variable {c : Sx} {lv : Nat} {hd : Option Nat} {σ : St} {ρ : Loc} {t l : Nat} {cs s s' u : List Int} {o : Int} {Q : Fl → Loc → St → Prop} {X : Nat → Loc → St → Prop} {r : Ss} {Qc : PV → St → Prop} {Xc : Nat → St → Prop}

theorem cd_le (ok : Ok cs) (hu : u <:+ cs) : cd u ≤ 1114111 := by
  cases u with
  | nil => decide
  | cons x xs => exact (ok.rng x (hu.subset (.head _))).2
theorem codeT (P : Tz c) (T : TkS σ t l cs s o) {a e : E} (w : EV c (lv + 1) hd σ ρ a (.ref t)) (v : EV c (lv + 1) hd σ ρ e (.int (ps cs u + 1))) (hu : u <:+ cs) : EV c (lv + 1) hd σ ρ (.meth a 80 (.cons e .nil)) (.int (cd u.tail)) := by
  rw [← List.drop_one]; exact code_ev P T w v hu 1 rfl

theorem esc_rest (P : Tz c) {b : Int} {w : List Int} {ix : Int} (T : TkS σ t l cs s o) (hw : w <:+ cs) (hb : b.natAbs < 2 ^ 60) (r1 : ρ 67 = some (.ref t)) (r2 : ρ 91 = some (.int b)) (r3 : ρ 77 = some (.int ix)) (hix : ix = ps cs w)
    (hS : ∀ σ' v s', escB b w = some (v, s') → Keep σ σ' t → TkS σ' t l cs s' o → Qc (.int v) σ') (hN : escB b w = none → Qc (.int (-1)) σ) :
    wpSs c (lv + 2) (.cons (.asg (.var 78) (.var 77)) (.cons (.asg (.var 89) (.lit (.int (0)))) (.cons (.while_ (.lit (.bool true)) (.cons (.asg (.var 92) (.call (.gl (.st (.ref 214))) (.cons (.meth (.var 67) 80 (.cons (.var 77) .nil)) .nil))) (.cons (.ite (.bools .Or (.cons (.cmp .Lt (.var 92) (.lit (.int (0)))) (.cons (.cmp .GtE (.var 92) (.var 91)) .nil))) (.cons .brk .nil) .nil) (.cons (.ite (.cmp .LtE (.var 89) (.gl (.int (1114111)))) (.cons (.asg (.var 89) (.bin .Add (.bin .Mult (.var 89) (.var 91)) (.var 92))) .nil) .nil) (.cons (.asg (.var 77) (.bin .Add (.var 77) (.lit (.int (1))))) .nil))))) (.cons (.ite (.bools .Or (.cons (.cmp .Eq (.var 77) (.var 78)) (.cons (.cmp .Gt (.var 89) (.gl (.int (1114111)))) (.cons (.cmp .NotEq (.meth (.var 67) 80 (.cons (.var 77) .nil)) (.gl (.int (92)))) .nil)))) (.cons (.ret (.neg (.lit (.int (1))))) .nil) .nil) (.cons (.asg (.attr (.var 67) 34) (.bin .Add (.var 77) (.lit (.int (1))))) (.cons (.ret (.var 89)) .nil))))))
      hd ρ σ (fun fl _ σ => Qc (retOf fl) σ) fun i _ σ => Xc i σ := by
  subst hix
  refine s_var (.var r3) (s_var .lit (s_while (fun m ρ σ' => σ' = σ ∧ ρ 67 = some (.ref t) ∧ ρ 91 = some (.int b) ∧ ρ 78 = some (.int (ps cs w)) ∧ ∃ v z, m = z.length ∧ z <:+ cs ∧ escD b z v = escD b w 0 ∧ ρ 77 = some (.int (ps cs z)) ∧ ρ 89 = some (.int v))
    (fun m R ρ σ₀ ⟨e, r1, r2, r5, v, z, hm, hz, hd, r3, r4⟩ ih => ⟨True, .true, fun _ => ?_, fun g => absurd trivial g⟩) ⟨rfl, r1, r2, rfl, 0, w, rfl, hw, rfl, r3, rfl⟩))
  subst e
  refine s_var (.call (P.cal _ (by decide)) (.cons (code0 P T (.var r1) (.var r3) hz) .nil) (digit_value_cv P)) (s_if (.bools (.or (.lt (.var rfl) .lit) fun _ => .or1 (.ge (.var rfl) (.var r2)))) (fun g => s_brk ?_) fun g => s_nil ?_)
  · have hz' : escD b z v = (v, z) := by
      cases z with
      | nil => rfl
      | cons x xs => rw [escD]; exact if_pos g
    rw [hz'] at hd
    have h1 : (escD b w 0).1 = v := by rw [← hd]
    have h2 : (escD b w 0).2 = z := by rw [← hd]
    refine s_if (.bools (.or (.eqI (.var r3) (.var r5)) fun _ => .or (.gt (.var r4) .gl) fun _ => .or1 (.neI (code0 P T (.var r1) (.var r3) hz) .gl))) (fun g' => s_ret (.neg .lit) (hN (by
      unfold escB; rw [h1, h2]; exact if_pos (g'.imp (fun e => ps_inj e hz hw) id)))) fun g' => s_nil ?_
    cases z with
    | nil => exact absurd (.inr (.inr (by decide))) g'
    | cons x xs =>
      refine s_at P T (.add (.var r3) .lit) (.var r1) ps_cons (sf_tail hz) fun σ₁ k₁ T₁ => s_ret (.var r4) (hS σ₁ v xs ?_ k₁ T₁)
      unfold escB; rw [h1, h2]; exact if_neg fun z => g' (z.imp (fun e => by rw [e]) id)
  · cases z with
    | nil => exact absurd (.inl (by decide)) g
    | cons x xs =>
      have fin : ∀ {ρ' : Loc} {v' : Int}, ρ' 67 = some (.ref t) → ρ' 91 = some (.int b) → ρ' 78 = some (.int (ps cs w)) → ρ' 77 = some (.int (ps cs (x :: xs))) → ρ' 89 = some (.int v') → escD b xs v' = escD b w 0 → R (upd ρ' 77 (.int (ps cs (x :: xs) + 1))) σ₀ := fun {ρ' v'} a1 a2 a5 a3 a4 a6 =>
        ih _ _ _ (by rw [hm]; exact Nat.lt_succ_self _) ⟨rfl, a1, a2, a5, v', xs, rfl, sf_tail hz, a6, ps_some, a4⟩
      have hd' : (if v ≤ 1114111 then escD b xs (v * b + digVal x) else escD b xs v) = escD b w 0 := by
        rw [← hd, escD]; refine Eq.trans ?_ (if_neg g).symm; split <;> rfl
      refine s_if (.le (.var r4) .gl) (fun g' => ?_) fun g' => s_nil ?_
      · rw [if_pos g'] at hd'
        exact s_var (.add (.mul (.var r4) (.var r2) hb) (.var rfl)) (s_nil (s_var (.add (.var r3) .lit) (s_nil (fin r1 r2 r5 r3 rfl hd'))))
      · rw [if_neg g'] at hd'
        exact s_var (.add (.var r3) .lit) (s_nil (fin r1 r2 r5 r3 r4 hd'))

theorem escape_ok (P : Tz c) {x : Int} {w : List Int} (T : TkS σ t l cs (x :: w) o) (H : HdS σ t hd) (hS : ∀ σ' v s', escM w = some (v, s') → Keep σ σ' t → TkS σ' t l cs s' o → Qc (.int v) σ') (hN : escM w = none → Qc (.int (-1)) σ) :
    CallOk c (lv + 3) hd (.ref 360) [.ref t] σ Qc Xc := (P.escape _ _ _ _ _ _ rfl (by
  have hw := sf_tail T.sf
  refine s_var (.add (at_ev P T (.var rfl)) .lit) (s_var (code1 P T (.var rfl) (.var rfl) T.sf) (s_var (.call (P.cal _ (by decide)) (.cons (.var rfl) .nil) (simple_escape_cv P H.u (cd_le T.ok hw))) (s_if (.ge (.var rfl) .lit) (fun g => ?_) fun g => s_nil (s_var .lit ?_))))
  · cases w with
    | nil => exact absurd g (by decide +kernel)
    | cons y w' =>
      exact s_at P T (.add (.var rfl) .lit) (.var rfl) (s' := w') (by rw [ps_cons, ps_cons]) (sf_tail hw) fun σ₁ k₁ T₁ => s_ret (.var rfl) (hS σ₁ _ w' (by rw [escM]; exact if_pos g) k₁ T₁)
  · refine s_if (.eqI (.var rfl) .gl) (fun g' => ?_) fun g' => s_nil ?_
    · cases w with
      | nil => exact absurd g' (by decide)
      | cons y w' =>
        refine s_var .lit (s_var (.add (.var rfl) .lit) (s_nil ?_))
        exact esc_rest P T (sf_tail hw) (by decide) rfl rfl rfl (by rw [ps_cons, ps_cons]) (fun σ₁ v s' e => hS σ₁ v s' (by rw [escM]; exact (if_neg g).trans ((if_pos g').trans e))) fun e => hN (by rw [escM]; exact (if_neg g).trans ((if_pos g').trans e))
    · exact esc_rest P T hw (by decide) rfl rfl rfl ps_cons (fun σ₁ v s' e => hS σ₁ v s' (by rw [escM]; exact (if_neg g).trans ((if_neg g').trans e))) fun e => hN (by rw [escM]; exact (if_neg g).trans ((if_neg g').trans e)))).call

theorem abandon_ok (P : Tz c) (T : TkS σ t l cs s o) {q : Int} (hq : q ≠ -1) (h : ∀ σ', Keep σ σ' t → TkS σ' t l cs (abM q s) o → Qc .none σ') : CallOk c (lv + 2) hd (.ref 367) [.ref t, .int q] σ Qc Xc := (P.abandon _ _ _ _ _ _ rfl (
  s_while (fun m ρ σ' => ρ 67 = some (.ref t) ∧ ρ 96 = some (.int q) ∧ ∃ z, m = z.length ∧ abM q z = abM q s ∧ Keep σ σ' t ∧ TkS σ' t l cs z o) (fun m R ρ σ' ⟨r1, r2, z, hm, hz, k, T⟩ ih => ⟨True, .true, fun _ => by
    refine s_var (code0 P T (.var r1) (at_ev P T (.var r1)) T.sf) (s_var (codeT P T (.var r1) (.add (at_ev P T (.var r1)) .lit) T.sf) (s_if (.bools (.or (.eqI (.var rfl) .gl) fun _ => .or1 (.eqI (.var rfl) .gl))) (fun g => s_ret0 (h _ k ?_)) fun g => s_nil ?_))
    · have : abM q z = z := by
        match z, g with
        | [], _ => rfl
        | [x], g =>
          have hx : x = 10 := by
            rcases g with g | g
            · have := (T.ok.rng x (T.sf.subset (.head _))).1; change x = -1 at g; omega
            · exact g
          rw [abM, if_pos hx]
        | x :: y :: ys, g =>
          have hx : x = 10 := by
            rcases g with g | g
            · have := (T.ok.rng x (T.sf.subset (.head _))).1; change x = -1 at g; omega
            · exact g
          rw [abM, if_pos hx]
      rw [← hz, this]; exact T
    · match z, T, hm, hz, g with
      | [], _, _, _, g => exact absurd (.inl rfl) g
      | [x], T, hm, hz, g =>
        have hx : ¬ x = 10 := fun e => g (.inr e)
        have end_ : abM q s = [] := by rw [← hz, abM, if_neg hx]
        refine s_if (.bools (.and (.eqI (.var rfl) .gl) fun _ => .and1 (.neI (.var rfl) .gl))) (fun g => absurd rfl g.2) fun _ =>
          s_if (.bools (.and (.eqI (.var rfl) (.var r2)) fun _ => .and1 (.eqI (.var rfl) (.var r2)))) (fun g => absurd g.2.symm hq) fun _ =>
          s_if (.eqI (.var rfl) (.var r2)) (fun g => ?_) fun g => ?_
        · exact s_at P T (.add (at_ev P T (.var r1)) .lit) (.var r1) ps_cons (sf_tail T.sf) fun σ₁ k₁ T₁ => s_ret0 (h _ (k.trans k₁) (by rw [end_]; exact T₁))
        · exact s_at P T (.add (at_ev P T (.var r1)) .lit) (.var r1) ps_cons (sf_tail T.sf) fun σ₁ k₁ T₁ => s_nil (ih _ _ _ (by rw [hm]; exact Nat.lt_succ_self _) ⟨r1, r2, [], rfl, by rw [end_]; rfl, k.trans k₁, T₁⟩)
      | x :: y :: ys, T, hm, hz, g =>
        have hx : ¬ x = 10 := fun e => g (.inr e)
        have hy : y ≠ -1 := fun e => by have := (T.ok.rng y (T.sf.subset (.tail _ (.head _)))).1; omega
        have p2 : ps cs (x :: y :: ys) + 2 = ps cs ys := by rw [← ps_cons (s := ys) (x := y), ← ps_cons (s := y :: ys) (x := x)]; omega
        have lt2 : ys.length < m := by rw [hm]; exact Nat.lt_succ_of_lt (Nat.lt_succ_self _)
        rw [abM, if_neg hx] at hz
        refine s_if (.bools (.and (.eqI (.var rfl) .gl) fun _ => .and1 (.neI (.var rfl) .gl))) (fun g1 => ?_) fun g1 =>
          s_if (.bools (.and (.eqI (.var rfl) (.var r2)) fun _ => .and1 (.eqI (.var rfl) (.var r2)))) (fun g2 => ?_) fun g2 =>
          s_if (.eqI (.var rfl) (.var r2)) (fun g3 => ?_) fun g3 => ?_
        · have g1 : x = 92 := g1.1
          exact s_at P T (.add (at_ev P T (.var r1)) .lit) (.var r1) p2 (sf_tail (sf_tail T.sf)) fun σ₁ k₁ T₁ => s_nil (ih _ _ _ lt2 ⟨r1, r2, ys, rfl, by rw [← hz, if_pos g1], k.trans k₁, T₁⟩)
        · have g1 : ¬ x = 92 := fun e => g1 ⟨e, hy⟩
          have g2 : x = q ∧ y = q := g2
          exact s_at P T (.add (at_ev P T (.var r1)) .lit) (.var r1) p2 (sf_tail (sf_tail T.sf)) fun σ₁ k₁ T₁ => s_nil (ih _ _ _ lt2 ⟨r1, r2, ys, rfl, by rw [← hz, if_neg g1, if_pos g2], k.trans k₁, T₁⟩)
        · have g1 : ¬ x = 92 := fun e => g1 ⟨e, hy⟩
          have g2 : ¬ (x = q ∧ y = q) := g2
          have g3 : x = q := g3
          rw [if_neg g1, if_neg g2, if_pos g3] at hz
          exact s_at P T (.add (at_ev P T (.var r1)) .lit) (.var r1) ps_cons (sf_tail T.sf) fun σ₁ k₁ T₁ => s_ret0 (h _ (k.trans k₁) (by rw [← hz]; exact T₁))
        · have g1 : ¬ x = 92 := fun e => g1 ⟨e, hy⟩
          have g2 : ¬ (x = q ∧ y = q) := g2
          have g3 : ¬ x = q := g3
          rw [if_neg g1, if_neg g2, if_neg g3] at hz
          exact s_at P T (.add (at_ev P T (.var r1)) .lit) (.var r1) ps_cons (sf_tail T.sf) fun σ₁ k₁ T₁ => s_nil (ih _ _ _ (by rw [hm]; exact Nat.lt_succ_self _) ⟨r1, r2, y :: ys, rfl, hz, k.trans k₁, T₁⟩), fun g => absurd trivial g⟩) ⟨rfl, rfl, s, rfl, rfl, .refl, T⟩)).call

/-- a character's number behind 0' -/
theorem character_ok (P : Tz c) {a b : Int} {w : List Int} (T : TkS σ t l cs s o) (H : HdS σ t hd) (hs : s <:+ cs) (e : s = a :: b :: w) (hQ : ∀ σ' v s', chM s w = .tok ⟨kInt, .int v, s⟩ s' → Keep σ σ' t → TkS σ' t l cs s' o → Qc (.int v) σ')
    (hX : ∀ j σ' kind u s', chM s w = .fault kind u s' → Rz σ σ' t l cs s' o hd.isSome kind u j → Xc j σ') : CallOk c (lv + 4) hd (.ref 346) [.ref t, .int (ps cs s)] σ Qc Xc := (P.character _ _ _ _ _ _ rfl (by
  have hw : w <:+ cs := by rw [e] at hs; exact sf_tail (sf_tail hs)
  have p2 : ps cs s + 2 = ps cs w := by rw [e, ← ps_cons (s := w) (x := b), ← ps_cons (s := b :: w) (x := a)]; omega
  have hcd : EV c (lv + 3) hd σ (updAll (fun _ => none) [67, 34] ([.ref t, .int (ps cs s)] ++ [])) (.meth (.var 67) 80 (.cons (.bin .Add (.var 34) (.lit (.int 2))) .nil)) (.int (cd w)) := code0 P T (.var rfl) (by rw [← p2]; exact .add (.var rfl) .lit) hw
  refine s_var hcd (s_if (.eqI (.var rfl) .gl) (fun g => ?_) fun g => s_nil ?_)
  · cases w with
    | nil => exact absurd g (by decide)
    | cons x xs =>
      have gx : x = 92 := g
      have p3 : ps cs s + 3 = ps cs xs := by rw [← ps_cons (s := xs) (x := x), ← p2]; omega
      refine s_at P T (.add (.var rfl) .lit) (.var rfl) p2 hw fun σ₁ k₁ T₁ => s_asgE (e_meth (.var rfl) T₁.ht rfl (P.m (95, 360) (by decide)) .nil (escape_ok P T₁ (H.keep k₁) (fun σ₂ v s' e k₂ T₂ => ?_) fun e => ?_))
      · have hv := escM_rng (cd_le T.ok (sf_tail hw)) e
        exact s_if (.lt (.var rfl) .lit) (fun g' => absurd hv.1 (Int.not_le.mpr g')) fun _ => s_nil (s_ret (.var rfl) (hQ σ₂ v s' (by rw [chM]; refine (if_pos g).trans ?_; show (match escM xs with | some (v, s') => Oc.tok ⟨kInt, .int v, s⟩ s' | none => _) = _; rw [e]) (k₁.trans k₂) T₂))
      · exact s_if (.lt (.var rfl) .lit) (fun _ => s_at P T₁ (.add (.var rfl) .lit) (.var rfl) p3 (sf_tail hw) fun σ₂ k₂ T₂ => s_fault P T₂ ((H.keep k₁).keep k₂) (.var rfl) (.add (.var rfl) .lit) p2 hw fun j σ₃ z => hX j σ₃ kBadEscape (x :: xs) xs (by
            rw [chM]; refine (if_pos g).trans ?_; show (match escM xs with | some (v, s') => _ | none => Oc.fault kBadEscape (x :: xs) xs) = _; rw [e]) (z.after (k₁.trans k₂))) fun g' => absurd (by decide) g'
  · refine s_if (.eqI (.var rfl) .gl) (fun g' => ?_) fun g' => s_nil ?_
    · cases w with
      | nil => exact absurd g' (by decide)
      | cons x xs =>
        have p3 : ps cs s + 3 = ps cs xs := by rw [← ps_cons (s := xs) (x := x), ← p2]; omega
        refine s_if (.eqI (code0 P T (.var rfl) (by rw [← p3]; exact .add (.var rfl) .lit) (sf_tail hw)) .gl) (fun g'' => ?_) fun g'' => s_nil ?_
        · cases xs with
          | nil => exact absurd g'' (by decide)
          | cons y ys => exact s_at P T (.add (.var rfl) .lit) (.var rfl) (s' := ys) (by rw [← ps_cons (s := ys) (x := y), ← p3]; omega) (sf_tail (sf_tail hw)) fun σ₁ k₁ T₁ => s_ret .gl (hQ σ₁ 39 ys (by rw [chM]; exact (if_neg g).trans ((if_pos g').trans (if_pos g''))) k₁ T₁)
        · exact s_at P T (.add (.var rfl) .lit) (.var rfl) p3 (sf_tail hw) fun σ₁ k₁ T₁ => s_fault P T₁ (H.keep k₁) (.var rfl) (.var rfl) rfl hs fun j σ₂ z => hX j σ₂ kBadNumber s xs (by rw [chM]; exact (if_neg g).trans ((if_pos g').trans (if_neg g''))) (z.after k₁)
    · refine s_if (.call (.call (P.cal _ (by decide)) (.cons (.var rfl) .nil) (is_quotable_cv P))) (fun g'' => ?_) fun g'' => s_nil ?_
      · cases w with
        | nil => exact absurd g'' (by decide)
        | cons x xs =>
          have p3 : ps cs s + 3 = ps cs xs := by rw [← ps_cons (s := xs) (x := x), ← p2]; omega
          exact s_at P T (.add (.var rfl) .lit) (.var rfl) p3 (sf_tail hw) fun σ₁ k₁ T₁ => s_ret (.var rfl) (hQ σ₁ _ xs (by rw [chM]; exact (if_neg g).trans ((if_neg g').trans (if_pos g''))) k₁ T₁)
      · exact s_at P T (.add (.var rfl) .lit) (.var rfl) p2 hw fun σ₁ k₁ T₁ => s_fault P T₁ (H.keep k₁) (.var rfl) (.var rfl) rfl hs fun j σ₂ z => hX j σ₂ kBadNumber s w (by rw [chM]; exact (if_neg g).trans ((if_neg g').trans (if_neg g''))) (z.after k₁))).call
end
end Mine
end

section
open PySem PySem.W PyProof.Rows PySem.Calls
set_option Elab.async false
set_option linter.unusedVariables false
set_option maxRecDepth 100000
namespace Mine

noncomputable def kUnfQ : List Nat := [117, 110, 102, 105, 110, 105, 115, 104, 101, 100, 95, 113, 117, 111, 116, 101, 100]
noncomputable def kUndef : List Nat := [117, 110, 100, 101, 102, 105, 110, 101, 100, 95, 99, 104, 97, 114]
inductive Oq where
  | ok (xs r : List Int)
  | fault (kind : List Nat) (u r : List Int)
noncomputable def quM (q : Int) (b s acc : List Int) : Oq := match s with
  | [] => .fault kUnfQ b []
  | x :: xs => if x = q then (if cd xs ≠ q then .ok acc xs else quM q b xs.tail (acc ++ [q]))
    else if x = 10 then .fault kUnfQ b (x :: xs)
    else if x = 92 ∧ cd xs = 10 then quM q b xs.tail acc
    else if x = 92 then (match _h : escM xs with
      | none => .fault kBadEscape (x :: xs) (abM q (x :: xs))
      | some z => quM q b z.2 (acc ++ [z.1]))
    else if isQuot x = true then quM q b xs (acc ++ [x])
    else .fault kUndef (x :: xs) (abM q (x :: xs))
termination_by s.length
decreasing_by
  · exact Nat.lt_succ_of_le (List.tail_suffix xs).length_le
  · exact Nat.lt_succ_of_le (List.tail_suffix xs).length_le
  · exact Nat.lt_succ_of_le (escM_suf (v := z.1) (s := z.2) _h).length_le
  · exact Nat.lt_succ_self _

theorem quM_q {q : Int} {b xs acc : List Int} : quM q b (q :: xs) acc = if cd xs ≠ q then .ok acc xs else quM q b xs.tail (acc ++ [q]) := by rw [quM, if_pos rfl]
theorem quM_nl {q x : Int} {b xs acc : List Int} (h : ¬ x = q) (h2 : x = 10) : quM q b (x :: xs) acc = .fault kUnfQ b (x :: xs) := by rw [quM, if_neg h, if_pos h2]
theorem quM_cont {q x : Int} {b xs acc : List Int} (h : ¬ x = q) (h2 : ¬ x = 10) (h3 : x = 92 ∧ cd xs = 10) : quM q b (x :: xs) acc = quM q b xs.tail acc := by rw [quM, if_neg h, if_neg h2, if_pos h3]
theorem quM_esc {q x : Int} {b xs acc : List Int} (h : ¬ x = q) (h2 : ¬ x = 10) (h3 : ¬ (x = 92 ∧ cd xs = 10)) (h4 : x = 92) : quM q b (x :: xs) acc = match escM xs with
      | none => .fault kBadEscape (x :: xs) (abM q (x :: xs))
      | some z => quM q b z.2 (acc ++ [z.1]) := by
  rw [quM, if_neg h, if_neg h2, if_neg h3, if_pos h4]
  split <;> rename_i e <;> rw [e]
theorem quM_in {q x : Int} {b xs acc : List Int} (h : ¬ x = q) (h2 : ¬ x = 10) (h4 : ¬ x = 92) (h5 : isQuot x = true) : quM q b (x :: xs) acc = quM q b xs (acc ++ [x]) := by rw [quM, if_neg h, if_neg h2, if_neg (fun z => h4 z.1), if_neg h4, if_pos h5]
theorem quM_out {q x : Int} {b xs acc : List Int} (h : ¬ x = q) (h2 : ¬ x = 10) (h4 : ¬ x = 92) (h5 : ¬ isQuot x = true) : quM q b (x :: xs) acc = .fault kUndef (x :: xs) (abM q (x :: xs)) := by rw [quM, if_neg h, if_neg h2, if_neg (fun z => h4 z.1), if_neg h4, if_neg h5]

section
variable {c : Sx} {lv : Nat} {hd : Option Nat} {σ : St} {ρ : Loc} {t l : Nat} {cs s s' u : List Int} {o : Int} {Q : Fl → Loc → St → Prop} {X : Nat → Loc → St → Prop} {r : Ss} {Qc : PV → St → Prop} {Xc : Nat → St → Prop}

theorem num_rest (P : Tz c) (T : TkS σ t l cs s o) (H : HdS σ t hd) (r1 : ρ 67 = some (.ref t)) (r2 : ρ 34 = some (.int (ps cs s))) (hQ : ∀ σ' k s', num10 s = .tok k s' → Keep σ σ' t → TkS σ' t l cs s' o → Qc (k.pv cs) σ')
    (hX : ∀ j σ' kind u s', num10 s = .fault kind u s' → Rz σ σ' t l cs s' o hd.isSome kind u j → Xc j σ') :
    wpSs c (lv + 4) (.cons (.asg (.var 89) (.meth (.var 67) 93 (.cons (.var 34) (.cons (.lit (.int (10))) .nil)))) (.cons (.ite (.bools .And (.cons (.cmp .Eq (.meth (.var 67) 80 (.cons (.attr (.var 67) 34) .nil)) (.gl (.int (46)))) (.cons (.call (.gl (.st (.ref 172))) (.cons (.meth (.var 67) 80 (.cons (.bin .Add (.attr (.var 67) 34) (.lit (.int (1)))) .nil)) .nil)) .nil))) (.cons (.expr (.meth (.var 67) 93 (.cons (.bin .Add (.attr (.var 67) 34) (.lit (.int (1)))) (.cons (.lit (.int (10))) .nil)))) (.cons (.raise_ (.meth (.var 67) 31 (.cons (.lit (.str [98, 97, 100, 95, 110, 117, 109, 98, 101, 114])) (.cons (.var 34) .nil)))) .nil)) .nil) (.cons (.ret (.tup (.cons (.lit (.str [105, 110, 116])) (.cons (.var 89) (.cons (.var 34) .nil))))) .nil)))
      hd ρ σ (fun fl _ σ => Qc (retOf fl) σ) fun i _ σ => Xc i σ :=
  s_asgE (e_meth (.var r1) T.ht rfl (P.m (93, 339) (by decide)) (.cons (.var r2) (.cons .lit .nil)) (digits_ok P T T.sf rfl (by decide) fun σ₁ k₁ T₁ =>
    s_if (.bools (.and (.eqI (code0 P T₁ (.var r1) (at_ev P T₁ (.var r1)) T₁.sf) .gl) fun _ => .and1 (.call (.call (P.cal _ (by decide)) (.cons (codeT P T₁ (.var r1) (.add (at_ev P T₁ (.var r1)) .lit) T₁.sf) .nil) (is_digit_cv P))))) (fun g => by
      have hne : ∃ x xs, (digM 10 s 0).2 = x :: xs := by
        cases e : (digM 10 s 0).2 with
        | nil => rw [e] at g; exact absurd g.1 (by decide)
        | cons x xs => exact ⟨x, xs, rfl⟩
      obtain ⟨x, xs, e⟩ := hne
      have ht : (digM 10 s 0).2.tail <:+ cs := (List.tail_suffix _).trans T₁.sf
      exact s_exprE (e_meth (.var r1) T₁.ht rfl (P.m (93, 339) (by decide)) (.cons (.add (at_ev P T₁ (.var r1)) .lit) (.cons .lit .nil)) (digits_ok P T₁ ht (by rw [e]; exact ps_cons) (by decide) fun σ₂ k₂ T₂ =>
        s_fault P T₂ ((H.keep k₁).keep k₂) (.var r1) (.var r2) rfl T.sf fun j σ₃ z => hX j σ₃ kBadNumber s _ (if_pos g) (z.after (k₁.trans k₂))))) fun g => s_nil (
    s_ret (.tup (.cons .lit (.cons (.var rfl) (.cons (.var r2) .nil)))) (hQ σ₁ ⟨kInt, .int (digM 10 s 0).1, s⟩ _ (if_neg g) k₁ T₁))))

theorem numeral_ok (P : Tz c) (T : TkS σ t l cs s o) (H : HdS σ t hd) (hQ : ∀ σ' k s', numM s = .tok k s' → Keep σ σ' t → TkS σ' t l cs s' o → Qc (k.pv cs) σ')
    (hX : ∀ j σ' kind u s', numM s = .fault kind u s' → Rz σ σ' t l cs s' o hd.isSome kind u j → Xc j σ') : CallOk c (lv + 5) hd (.ref 332) [.ref t, .int (ps cs s)] σ Qc Xc := (P.numeral _ _ _ _ _ _ rfl (by
  refine s_if (.eqI (code0 P T (.var rfl) (.var rfl) T.sf) .gl) (fun g => ?_) fun g => s_nil (num_rest P T H rfl rfl (fun σ' k s' e => hQ σ' k s' (by rw [numM]; exact (if_neg g).trans e)) fun j σ' kind u s' e => hX j σ' kind u s' (by rw [numM]; exact (if_neg g).trans e))
  cases s with
  | nil => exact absurd g (by decide)
  | cons x s1 =>
    have p2 : ps cs (x :: s1) + 2 = ps cs s1 + 1 := by rw [← ps_cons (s := s1) (x := x)]; omega
    have hdg : ∀ ρ' : Loc, ρ' 67 = some (.ref t) → ρ' 34 = some (.int (ps cs (x :: s1))) → EV c (lv + 4) hd σ ρ' (.meth (.var 67) 80 (.cons (.bin .Add (.var 34) (.lit (.int 2))) .nil)) (.int (cd s1.tail)) := fun ρ' a b =>
      codeT P T (.var a) (by rw [← p2]; exact .add (.var b) .lit) (sf_tail T.sf)
    refine s_var (code1 P T (.var rfl) (.add (.var rfl) .lit) T.sf) (s_if (.eqI (.var rfl) .gl) (fun g' => ?_) fun g' => s_nil (s_var (.call (P.cal _ (by decide)) (.cons (.var rfl) .nil) (numeral_base_cv P)) (s_var (.call (P.cal _ (by decide)) (.cons (hdg _ rfl rfl) .nil) (digit_value_cv P)) (s_if (.bools (.and (.le .lit (.var rfl)) fun _ => .and1 (.lt (.var rfl) (.var rfl)))) (fun g'' => ?_) fun g'' => s_nil ?_))))
    · cases s1 with
      | nil => exact absurd g' (by decide)
      | cons y w => exact s_retE (e_tup (es_cons .lit (es_consE (e_meth (.var rfl) T.ht rfl (P.m (94, 346) (by decide)) (.cons (.var rfl) .nil) (character_ok P T H T.sf rfl (fun σ₁ v s' e k₁ T₁ => es_cons (.var rfl) (es_nil (hQ σ₁ ⟨kInt, .int v, x :: y :: w⟩ s' (by rw [numM]; exact (if_pos g).trans ((if_pos g').trans e)) k₁ T₁))) fun j σ₁ kind u s' e => hX j σ₁ kind u s' (by rw [numM]; exact (if_pos g).trans ((if_pos g').trans e)))))))
    · cases s1 with
      | nil => exact absurd g''.1 (by decide)
      | cons y w =>
        have hb : (numBase (cd (y :: w))).natAbs < 2 ^ 60 := by unfold numBase; repeat (first | (split; decide) | decide)
        exact s_retE (e_tup (es_cons .lit (es_consE (e_meth (.var rfl) T.ht rfl (P.m (93, 339) (by decide)) (.cons (.add (.var rfl) .lit) (.cons (.var rfl) .nil)) (digits_ok P T (u := w) (sf_tail (sf_tail T.sf)) (by rw [← ps_cons (s := w) (x := y), ← ps_cons (s := y :: w) (x := x)]; omega) hb fun σ₁ k₁ T₁ =>
          es_cons (.var rfl) (es_nil (hQ σ₁ ⟨kInt, .int (digM (numBase (cd (y :: w))) w 0).1, x :: y :: w⟩ _ (by rw [numM]; exact (if_pos g).trans ((if_neg g').trans (if_pos g''))) k₁ T₁)))))))
    · exact num_rest P T H rfl rfl (fun σ' k s' e => hQ σ' k s' (by rw [numM]; exact (if_pos g).trans ((if_neg g').trans ((if_neg g'').trans e)))) fun j σ' kind u s' e => hX j σ' kind u s' (by rw [numM]; exact (if_pos g).trans ((if_neg g').trans ((if_neg g'').trans e))))).call

theorem TkS.putN (T : TkS σ t l cs s o) {i : Nat} {x : AObj} (h : i ≠ t) (h' : i ≠ l) : TkS (σ.put i x) t l cs s o := ⟨(if_neg h.symm).trans T.ht, (if_neg h'.symm).trans T.hl, T.sf, T.tn, T.ln, T.ok⟩

/-- a list of the call's own grows by one -/
theorem s_app (P : Tz c) {e : E} {i x : Nat} {xs : List Int} {v : Int} (r1 : ρ x = some (.ref i)) (hi : σ.at_ i = some (.list (xs.map .int))) (hl : xs.length ≤ 100000) (y : EV c lv hd σ ρ e (.int v))
    (h : wpSs c lv r hd ρ (σ.put i (.list ((xs ++ [v]).map .int))) Q X) : wpSs c lv (.cons (.expr (.meth (.var x) 25 (.cons e .nil))) r) hd ρ σ Q X :=
  s_exprE (e_methL (.var r1) hi (P.b ((0, 25), "list.append") (by decide)) (.cons y .nil) (append_ok hi (by rw [List.length_map]; omega) (by rw [List.map_append] at h; exact h)))

theorem quoted_ok (P : Tz c) {a q : Int} {b : List Int} (T : TkS σ t l cs (a :: b) o) (H : HdS σ t hd) (hq : 0 ≤ q ∧ q ≤ 1114111)
    (hQ : ∀ σ' i xs s', quM q (a :: b) b [] = .ok xs s' → Keep σ σ' t → TkS σ' t l cs s' o → σ.n ≤ i → i < σ'.n → σ'.at_ i = some (.list (xs.map .int)) → (∀ x ∈ xs, 0 ≤ x ∧ x ≤ 1114111) → xs.length ≤ 100000 → Qc (.ref i) σ')
    (hX : ∀ j σ' kind u s', quM q (a :: b) b [] = .fault kind u s' → Rz σ σ' t l cs s' o hd.isSome kind u j → Xc j σ') : CallOk c (lv + 4) hd (.ref 353) [.ref t, .int (ps cs (a :: b)), .int q] σ Qc Xc := (P.quoted _ _ _ _ _ _ rfl (by
  have Tsf := T.sf
  refine s_at P T (.add (.var rfl) .lit) (.var rfl) ps_cons (sf_tail T.sf) fun σ₁ k₁ T₁ => s_asgE (e_lst .nil ?_)
  refine s_while (fun m ρ σ' => ρ 67 = some (.ref t) ∧ ρ 78 = some (.int (ps cs (a :: b))) ∧ ρ 96 = some (.int q) ∧ ρ 2 = some (.ref σ₁.n) ∧ ∃ z acc, m = z.length ∧ quM q (a :: b) z acc = quM q (a :: b) b [] ∧ Keep σ σ' t ∧ TkS σ' t l cs z o ∧ σ₁.n < σ'.n ∧
      σ'.at_ σ₁.n = some (.list (acc.map .int)) ∧ (∀ x ∈ acc, 0 ≤ x ∧ x ≤ 1114111) ∧ acc.length + z.length ≤ cs.length)
    (fun m R ρ σ' ⟨r1, r2, r3, r4, z, acc, hm, hz, k, T, hi, hl, hr, hn⟩ ih => ⟨True, .true, fun _ => ?_, fun g => absurd trivial g⟩)
    ⟨rfl, rfl, rfl, rfl, b, [], rfl, rfl, k₁.trans keep_new, T₁.new, Nat.lt_succ_self _, if_pos rfl, fun x hx => (nomatch hx), by have := (sf_tail Tsf).length_le; simpa using this⟩
  have hit : σ₁.n ≠ t := fun e => Nat.lt_irrefl t (by have := T₁.tn; omega)
  have hil : σ₁.n ≠ l := fun e => Nat.lt_irrefl l (by have := T₁.ln; omega)
  have haccl : acc.length ≤ 100000 := by have := T.ok.len; omega
  -- the list has grown and the place has moved
  have go : ∀ {ρ' : Loc} {v : Int} {s' : List Int} {σ₂ : St}, ρ' 67 = some (.ref t) → ρ' 78 = some (.int (ps cs (a :: b))) → ρ' 96 = some (.int q) → ρ' 2 = some (.ref σ₁.n) → 0 ≤ v ∧ v ≤ 1114111 → s'.length < z.length → quM q (a :: b) s' (acc ++ [v]) = quM q (a :: b) b [] →
      Keep σ σ₂ t → σ'.n ≤ σ₂.n → TkS σ₂ t l cs s' o → σ₂.at_ σ₁.n = some (.list ((acc ++ [v]).map .int)) → R ρ' σ₂ := fun {ρ' v s' σ₂} a1 a2 a3 a4 hv hs e k₂ hn₂ T₂ hl₂ =>
    ih _ _ _ (by rw [hm]; exact hs) ⟨a1, a2, a3, a4, s', _, rfl, e, k₂, T₂, Nat.lt_of_lt_of_le hi hn₂, hl₂, fun x hx => by
      rcases List.mem_append.mp hx with hx | hx
      · exact hr x hx
      · rw [List.mem_singleton.mp hx]; exact hv, by rw [List.length_append]; exact Nat.le_trans (by show acc.length + 1 + _ ≤ acc.length + z.length; omega) hn⟩
  have apt : ∀ {σ₂ : St} {v : Int} (k₂ : Keep (σ'.put σ₁.n (.list ((acc ++ [v]).map .int))) σ₂ t), σ₂.at_ σ₁.n = some (.list ((acc ++ [v]).map .int)) := fun {σ₂ v} k₂ => (k₂.old σ₁.n hi hit).trans (if_pos rfl)
  refine s_var (at_ev P T (.var r1)) (s_var (code0 P T (.var r1) (.var rfl) T.sf) (s_if (.eqI (.var rfl) (.var r3)) (fun g => ?_) fun g => ?_))
  · cases z with
    | nil => have : (-1 : Int) = q := g; omega
    | cons x xs =>
      have g : x = q := g
      subst g
      refine s_if (.neI (code1 P T (.var r1) (.add (.var rfl) .lit) T.sf) (.var r3)) (fun g' => ?_) fun g' => s_nil ?_
      · exact s_at P T (.add (.var rfl) .lit) (.var r1) ps_cons (sf_tail T.sf) fun σ₂ k₂ T₂ => s_ret (.var r4) (hQ σ₂ _ acc xs (by rw [← hz, quM_q]; exact if_pos g') (k.trans k₂) T₂ k₁.n (Nat.lt_of_lt_of_le hi k₂.n) ((k₂.old _ hi hit).trans hl) hr haccl)
      · have g' : cd xs = x := Decidable.not_not.mp g'
        cases xs with
        | nil => have : (-1 : Int) = x := g'; omega
        | cons y ys =>
          refine s_app P r4 hl haccl (.var r3) (s_at P (T.putN hit hil) (.add (.var rfl) .lit) (.var r1) (s' := ys) (by rw [← ps_cons (s := ys) (x := y), ← ps_cons (s := y :: ys) (x := x)]; omega) (sf_tail (sf_tail T.sf)) fun σ₂ k₂ T₂ => s_nil ?_)
          exact go r1 r2 r3 r4 hq (Nat.lt_succ_of_lt (Nat.lt_succ_self _)) (by rw [← hz, quM_q]; exact (if_neg (fun h => h g')).symm) ((keep_put_new k k₁.n).trans k₂) k₂.n T₂ (apt k₂)
  · refine s_if (.bools (.or (.eqI (.var rfl) .gl) fun _ => .or1 (.eqI (.var rfl) .gl))) (fun g1 => ?_) fun g1 => ?_
    · refine s_fault P T (H.keep k) (.var r1) (.var r2) rfl Tsf fun j σ₂ y => hX j σ₂ kUnfQ (a :: b) z ?_ (y.after k)
      rw [← hz]
      cases z with
      | nil => rw [quM]
      | cons x xs =>
        refine quM_nl g ?_
        rcases g1 with g1 | g1
        · have := (T.ok.rng x (T.sf.subset (.head _))).1; change x = -1 at g1; omega
        · exact g1
    · cases z with
      | nil => exact absurd (.inl rfl) g1
      | cons x xs =>
        have h0 : ¬ x = q := g
        have h1 : ¬ x = 10 := fun e => g1 (.inr e)
        refine s_if (.bools (.and (.eqI (.var rfl) .gl) fun _ => .and1 (.eqI (code1 P T (.var r1) (.add (.var rfl) .lit) T.sf) .gl))) (fun g2 => ?_) fun g2 => s_if (.eqI (.var rfl) .gl) (fun g3 => ?_) fun g3 => s_if (.call (.call (P.cal _ (by decide)) (.cons (.var rfl) .nil) (is_quotable_cv P))) (fun g4 => ?_) fun g4 => ?_
        · cases xs with
          | nil => exact absurd g2.2 (by decide)
          | cons y ys =>
            exact s_at P T (.add (.var rfl) .lit) (.var r1) (s' := ys) (by rw [← ps_cons (s := ys) (x := y), ← ps_cons (s := y :: ys) (x := x)]; omega) (sf_tail (sf_tail T.sf)) fun σ₂ k₂ T₂ => s_nil (
              ih _ _ _ (by rw [hm]; exact Nat.lt_succ_of_lt (Nat.lt_succ_self _)) ⟨r1, r2, r3, r4, ys, acc, rfl, by rw [← hz, quM_cont h0 h1 g2]; rfl, k.trans k₂, T₂, Nat.lt_of_lt_of_le hi k₂.n, (k₂.old _ hi hit).trans hl, hr, Nat.le_trans (by rw [List.length_cons, List.length_cons]; omega) hn⟩)
        · have hz2 := quM_esc (b := a :: b) (acc := acc) h0 h1 g2 g3
          rw [hz] at hz2
          refine s_asgE (e_meth (.var r1) T.ht rfl (P.m (95, 360) (by decide)) .nil (escape_ok P T (H.keep k) (fun σ₂ v s' e k₂ T₂ => ?_) fun e => ?_))
          · have hv := escM_rng (cd_le T.ok (sf_tail T.sf)) e
            rw [e] at hz2
            refine s_if (.lt (.var rfl) .lit) (fun g' => absurd hv.1 (Int.not_le.mpr g')) fun _ => s_nil (s_app P r4 ((k₂.old _ hi hit).trans hl) haccl (.var rfl) (s_nil ?_))
            exact go r1 r2 r3 r4 hv (Nat.lt_succ_of_le (escM_suf e).length_le) hz2.symm (keep_put_new (k.trans k₂) k₁.n) k₂.n (T₂.putN hit hil) (if_pos rfl)
          · rw [e] at hz2
            exact s_if (.lt (.var rfl) .lit) (fun _ => s_exprE (e_meth (.var r1) T.ht rfl (P.m (97, 367) (by decide)) (.cons (.var r3) .nil) (abandon_ok P T (by omega) fun σ₂ k₂ T₂ =>
              s_fault P T₂ ((H.keep k).keep k₂) (.var r1) (.var rfl) rfl T.sf fun j σ₃ y => hX j σ₃ kBadEscape (x :: xs) _ hz2 (y.after (k.trans k₂))))) fun g' => absurd (by decide) g'
        · refine s_app P r4 hl haccl (.var rfl) (s_at P (T.putN hit hil) (.add (.var rfl) .lit) (.var r1) ps_cons (sf_tail T.sf) fun σ₂ k₂ T₂ => s_nil ?_)
          exact go r1 r2 r3 r4 (T.ok.rng x (T.sf.subset (.head _))) (Nat.lt_succ_self _) (by rw [← hz]; exact (quM_in h0 h1 g3 g4).symm) ((keep_put_new k k₁.n).trans k₂) k₂.n T₂ (apt k₂)
        · exact s_exprE (e_meth (.var r1) T.ht rfl (P.m (97, 367) (by decide)) (.cons (.var r3) .nil) (abandon_ok P T (by omega) fun σ₂ k₂ T₂ =>
              s_fault P T₂ ((H.keep k).keep k₂) (.var r1) (.var rfl) rfl T.sf fun j σ₃ y => hX j σ₃ kUndef (x :: xs) _ (by rw [← hz]; exact quM_out h0 h1 g3 g4) (y.after (k.trans k₂)))))).call
end
end Mine
end

section
open PySem PySem.W PyProof.Rows PySem.Calls
set_option Elab.async false
set_option linter.unusedVariables false
set_option maxRecDepth 100000
namespace Mine

noncomputable def kEof : List Nat := [101, 111, 102]
noncomputable def kOpen : List Nat := [111, 112, 101, 110]
noncomputable def kOpenCt : List Nat := [111, 112, 101, 110, 95, 99, 116]
noncomputable def kVar : List Nat := [118, 97, 114]
noncomputable def kQname : List Nat := [113, 110, 97, 109, 101]
noncomputable def kString : List Nat := [115, 116, 114, 105, 110, 103]
noncomputable def kBack : List Nat := [98, 97, 99, 107]
noncomputable def kPunct : List Nat := [112, 117, 110, 99, 116]
noncomputable def qTok (kind : List Nat) (f : List Int → TV) (z : List Int) : Oq → Oc
  | .ok xs r => .tok ⟨kind, f xs, z⟩ r
  | .fault k u r => .fault k u r
noncomputable def txt (xs : List Int) : TV := .str (xs.map Int.toNat)
noncomputable def tokM (cs : List Int) (o : Int) (s z : List Int) : Oc := match z with
  | [] => .tok ⟨kEof, .str [], []⟩ []
  | x :: xs => if x = 40 then (if ps cs s < ps cs (x :: xs) ∨ ps cs (x :: xs) = o then .tok ⟨kOpen, .str [40], x :: xs⟩ xs else .tok ⟨kOpenCt, .str [40], x :: xs⟩ xs)
    else if isSmall x = true then .tok ⟨kName, txt ((x :: xs).takeWhile isAlnum), x :: xs⟩ ((x :: xs).dropWhile isAlnum)
    else if isCapital x = true ∨ x = 95 then .tok ⟨kVar, txt ((x :: xs).takeWhile isAlnum), x :: xs⟩ ((x :: xs).dropWhile isAlnum)
    else if isDigit x = true then numM (x :: xs)
    else if x = 39 then qTok kQname txt (x :: xs) (quM 39 (x :: xs) xs [])
    else if x = 34 then qTok kString .ints (x :: xs) (quM 34 (x :: xs) xs [])
    else if x = 96 then qTok kBack .ints (x :: xs) (quM 96 (x :: xs) xs [])
    else if isSymb x = true then symM (x :: xs)
    else if [41, 91, 93, 123, 125, 44, 124].contains x.toNat = true then .tok ⟨kPunct, .str [x.toNat], x :: xs⟩ xs
    else if [33, 59].contains x.toNat = true then .tok ⟨kName, .str [x.toNat], x :: xs⟩ xs
    else .fault kUndef (x :: xs) xs
noncomputable def nextM (cs : List Int) (o : Int) (s : List Int) : Oc := match layM s with
  | .error u => .fault unfinished u []
  | .ok z => tokM cs o s z

section
variable {c : Sx} {lv : Nat} {hd : Option Nat} {σ : St} {ρ : Loc} {t l : Nat} {cs s s' u : List Int} {o : Int} {Q : Fl → Loc → St → Prop} {X : Nat → Loc → St → Prop} {r : Ss} {Qc : PV → St → Prop} {Xc : Nat → St → Prop}

theorem tupL_cv {i : Nat} {vs : List PV} (hi : σ.at_ i = some (.list vs)) : CV c lv hd σ (.type "tuple") [.ref i] (.tup vs) := fun Q X h => tupL_ok hi h

/-- a token of a quoted item -/
theorem quoted_tok (P : Tz c) {a q : Int} {b : List Int} (T : TkS σ t l cs (a :: b) o) (H : HdS σ t hd) (hq : 0 ≤ q ∧ q ≤ 1114111) (r1 : ρ 67 = some (.ref t)) (r2 : ρ 34 = some (.int (ps cs (a :: b)))) {f : Value} {kind : List Nat} {g : List Int → TV} (k : c.callee f = true)
    (F : ∀ σ' i xs (Q : PV → St → Prop), HdS σ' t hd → i < σ'.n → σ'.at_ i = some (.list (xs.map .int)) → (∀ x ∈ xs, 0 ≤ x ∧ x ≤ 1114111) → xs.length ≤ 100000 → (∀ σ'', Grow σ' σ'' → Q (g xs).pv σ'') → CallOk c (lv + 4) hd f [.ref i] σ' Q Xc)
    (hQ : ∀ σ' k s', qTok kind g (a :: b) (quM q (a :: b) b []) = .tok k s' → Keep σ σ' t → TkS σ' t l cs s' o → Qc (k.pv cs) σ')
    (hX : ∀ j σ' kd u s', qTok kind g (a :: b) (quM q (a :: b) b []) = .fault kd u s' → Rz σ σ' t l cs s' o hd.isSome kd u j → Xc j σ') :
    (wp c (lv + 4) hd (.tup (.cons (.lit (.str kind)) (.cons (.call (.gl (.st f)) (.cons (.meth (.var 67) 84 (.cons (.var 34) (.cons (.gl (.int q)) .nil))) .nil)) (.cons (.var 34) .nil)))) ρ).e σ Qc Xc :=
  (e_tup (es_cons .lit (es_consE (e_callE k (es_consE (e_meth (.var r1) T.ht rfl (P.m (84, 353) (by decide)) (.cons (.var r2) (.cons .gl .nil)) (quoted_ok P T H hq (fun σ₁ i xs s' e k₁ T₁ _ hi hl hr hn => es_nil (
    F σ₁ i xs _ (H.keep k₁) hi hl hr hn fun σ₂ g₂ => es_cons (.var r2) (es_nil (hQ σ₂ ⟨kind, g xs, a :: b⟩ s' (by rw [e]; rfl) (k₁.trans g₂.keep) (T₁.grow g₂))))) fun j σ₁ kd u s' e z => hX j σ₁ kd u s' (by rw [e]; rfl) z)))))))

theorem next_ok (P : Tz c) (T : TkS σ t l cs s o) (H : HdS σ t hd) (hQ : ∀ σ' k s', nextM cs o s = .tok k s' → Keep σ σ' t → TkS σ' t l cs s' o → Qc (k.pv cs) σ')
    (hX : ∀ j σ' kind u s', nextM cs o s = .fault kind u s' → Rz σ σ' t l cs s' o hd.isSome kind u j → Xc j σ') : CallOk c (lv + 6) hd (.ref 276) [.ref t] σ Qc Xc := (P.next _ _ _ _ _ _ rfl (by
  refine s_var (at_ev P T (.var rfl)) (s_exprE (e_meth (.var rfl) T.ht rfl (P.m (79, 290) (by decide)) .nil (skip_layout_ok P T H (fun σ₁ z hz k T => ?_) fun j σ₁ u e y => hX j σ₁ unfinished u [] (by rw [nextM, e]) y)))
  have H := H.keep k
  have hQ : ∀ σ' k s', tokM cs o s z = .tok k s' → Keep σ₁ σ' t → TkS σ' t l cs s' o → Qc (k.pv cs) σ' := fun σ' k' s' e k₂ T₂ => hQ σ' k' s' (by rw [nextM, hz]; exact e) (k.trans k₂) T₂
  have hX : ∀ j σ' kind u s', tokM cs o s z = .fault kind u s' → Rz σ₁ σ' t l cs s' o hd.isSome kind u j → Xc j σ' := fun j σ' kind u s' e y => hX j σ' kind u s' (by rw [nextM, hz]; exact e) (y.after k)
  refine s_var (at_ev P T (.var rfl)) (s_if (.ge (.var rfl) (.call (P.calB _ (by decide)) (.cons (.attr (.var rfl) T.ht (P.fT _ (by decide)) rfl) .nil) (len_cv T.hl))) (fun g => ?_) fun g => s_nil ?_)
  · cases z with
    | nil => exact s_ret (.tup (.cons .lit (.cons .lit (.cons (.var rfl) .nil)))) (hQ σ₁ ⟨kEof, .str [], []⟩ [] rfl .refl T)
    | cons x xs => rw [List.length_map] at g; unfold ps at g; rw [List.length_cons] at g; omega
  cases z with
  | nil => rw [List.length_map] at g; unfold ps at g; simp at g
  | cons x xs =>
    have hx := T.ok.rng x (T.sf.subset (.head _))
    have go : ∀ {kd : List Nat} {v : TV} {σ' : St}, tokM cs o s (x :: xs) = .tok ⟨kd, v, x :: xs⟩ xs → Keep σ₁ σ' t → TkS σ' t l cs xs o → Qc (.tup [.str kd, v.pv, .int (ps cs (x :: xs))]) σ' := fun e k T => hQ _ _ _ e k T
    refine s_var (code0 P T (.var rfl) (.var rfl) T.sf) (s_if (.eqI (.var rfl) .gl) (fun g1 => ?_) fun g1 => s_nil ?_)
    · refine s_at P T (.add (.var rfl) .lit) (.var rfl) ps_cons (sf_tail T.sf) fun σ₂ k₂ T₂ => s_if (.bools (.or (.gt (.var rfl) (.var rfl)) fun _ => .or1 (.eqI (.var rfl) (.attr (.var rfl) T₂.ht (P.fT _ (by decide)) rfl)))) (fun g2 => ?_) fun g2 => s_nil ?_
      · exact s_ret (.tup (.cons .lit (.cons .lit (.cons (.var rfl) .nil)))) (go (kd := kOpen) (v := .str [40]) (by rw [tokM]; exact (if_pos g1).trans (if_pos g2)) k₂ T₂)
      · exact s_ret (.tup (.cons .lit (.cons .lit (.cons (.var rfl) .nil)))) (go (kd := kOpenCt) (v := .str [40]) (by rw [tokM]; exact (if_pos g1).trans (if_neg g2)) k₂ T₂)
    refine s_if (.call (.call (P.cal _ (by decide)) (.cons (.var rfl) .nil) (is_small_cv P))) (fun g2 => ?_) fun g2 => s_nil ?_
    · exact s_retE (e_tup (es_cons .lit (es_consE (e_meth (.var rfl) T.ht rfl (P.m (83, 311) (by decide)) (.cons (.var rfl) .nil) (word_ok P T H fun σ₂ k₂ T₂ => es_cons (.var rfl) (es_nil (hQ σ₂ ⟨kName, txt ((x :: xs).takeWhile isAlnum), x :: xs⟩ _ (by rw [tokM]; exact (if_neg g1).trans (if_pos g2)) k₂ T₂)))))))
    refine s_if (.bools (.or (.call (.call (P.cal _ (by decide)) (.cons (.var rfl) .nil) (is_capital_cv P))) fun _ => .or1 (.eqI (.var rfl) .gl))) (fun g3 => ?_) fun g3 => s_nil ?_
    · exact s_retE (e_tup (es_cons .lit (es_consE (e_meth (.var rfl) T.ht rfl (P.m (83, 311) (by decide)) (.cons (.var rfl) .nil) (word_ok P T H fun σ₂ k₂ T₂ => es_cons (.var rfl) (es_nil (hQ σ₂ ⟨kVar, txt ((x :: xs).takeWhile isAlnum), x :: xs⟩ _ (by rw [tokM]; exact (if_neg g1).trans ((if_neg g2).trans (if_pos g3))) k₂ T₂)))))))
    have pre3 : ∀ {y : Oc}, (if isDigit x = true then numM (x :: xs) else if x = 39 then qTok kQname txt (x :: xs) (quM 39 (x :: xs) xs []) else if x = 34 then qTok kString .ints (x :: xs) (quM 34 (x :: xs) xs []) else if x = 96 then qTok kBack .ints (x :: xs) (quM 96 (x :: xs) xs [])
        else if isSymb x = true then symM (x :: xs) else if [41, 91, 93, 123, 125, 44, 124].contains x.toNat = true then .tok ⟨kPunct, .str [x.toNat], x :: xs⟩ xs else if [33, 59].contains x.toNat = true then .tok ⟨kName, .str [x.toNat], x :: xs⟩ xs else .fault kUndef (x :: xs) xs) = y →
        tokM cs o s (x :: xs) = y := fun {y} e => by rw [tokM]; exact (if_neg g1).trans ((if_neg g2).trans ((if_neg g3).trans e))
    refine s_if (.call (.call (P.cal _ (by decide)) (.cons (.var rfl) .nil) (is_digit_cv P))) (fun g4 => ?_) fun g4 => s_nil ?_
    · exact s_retE (e_meth (.var rfl) T.ht rfl (P.m (81, 332) (by decide)) (.cons (.var rfl) .nil) (numeral_ok P T H (fun σ₂ k' s' e => hQ σ₂ k' s' (pre3 ((if_pos g4).trans e))) fun j σ₂ kd u s' e => hX j σ₂ kd u s' (pre3 ((if_pos g4).trans e))))
    have tupF : ∀ σ' i xs (Q : PV → St → Prop), HdS σ' t hd → i < σ'.n → σ'.at_ i = some (.list (xs.map .int)) → (∀ x ∈ xs, 0 ≤ x ∧ x ≤ 1114111) → xs.length ≤ 100000 → (∀ σ'', Grow σ' σ'' → Q (TV.ints xs).pv σ'') → CallOk c (lv + 1 + 4) hd (.type "tuple") [.ref i] σ' Q Xc :=
      fun σ' i xs Q _ hi hl _ _ h => tupL_ok hl (h σ' ⟨Nat.le_refl _, fun _ _ => rfl⟩)
    refine s_if (.eqI (.var rfl) .gl) (fun g5 => ?_) fun g5 => s_nil ?_
    · exact s_retE <| quoted_tok P T H (by decide) rfl rfl (g := txt) (P.cal _ (by decide)) (fun σ' i xs Q H hi hl hr hn h => codes_text_ok P hl hi H.u H.new hn hr h) (fun σ₂ k' s' e => hQ σ₂ k' s' (pre3 ((if_neg g4).trans ((if_pos g5).trans e)))) fun j σ₂ kd u s' e => hX j σ₂ kd u s' (pre3 ((if_neg g4).trans ((if_pos g5).trans e)))
    refine s_if (.eqI (.var rfl) .gl) (fun g6 => ?_) fun g6 => s_nil ?_
    · exact s_retE <| quoted_tok P T H (by decide) rfl rfl (g := .ints) (P.calB _ (by decide)) tupF (fun σ₂ k' s' e => hQ σ₂ k' s' (pre3 ((if_neg g4).trans ((if_neg g5).trans ((if_pos g6).trans e))))) fun j σ₂ kd u s' e => hX j σ₂ kd u s' (pre3 ((if_neg g4).trans ((if_neg g5).trans ((if_pos g6).trans e))))
    refine s_if (.eqI (.var rfl) .gl) (fun g7 => ?_) fun g7 => s_nil ?_
    · exact s_retE <| quoted_tok P T H (by decide) rfl rfl (g := .ints) (P.calB _ (by decide)) tupF (fun σ₂ k' s' e => hQ σ₂ k' s' (pre3 ((if_neg g4).trans ((if_neg g5).trans ((if_neg g6).trans ((if_pos g7).trans e)))))) fun j σ₂ kd u s' e => hX j σ₂ kd u s' (pre3 ((if_neg g4).trans ((if_neg g5).trans ((if_neg g6).trans ((if_pos g7).trans e)))))
    refine s_if (.call (.call (P.cal _ (by decide)) (.cons (.var rfl) .nil) (is_symbol_cv P))) (fun g8 => ?_) fun g8 => s_nil ?_
    · exact s_retE (e_meth (.var rfl) T.ht rfl (P.m (82, 318) (by decide)) (.cons (.var rfl) .nil) (symbol_ok P T H fun σ₂ k' s' e => hQ σ₂ k' s' (pre3 ((if_neg g4).trans ((if_neg g5).trans ((if_neg g6).trans ((if_neg g7).trans ((if_pos g8).trans e))))))))
    have hmx : (if (0 : Int) > x then 0 else x) = x := if_neg (by omega)
    have pre4 : ∀ {y : Oc}, (if [41, 91, 93, 123, 125, 44, 124].contains x.toNat = true then Oc.tok ⟨kPunct, .str [x.toNat], x :: xs⟩ xs else if [33, 59].contains x.toNat = true then .tok ⟨kName, .str [x.toNat], x :: xs⟩ xs else .fault kUndef (x :: xs) xs) = y → tokM cs o s (x :: xs) = y :=
      fun {y} e => pre3 ((if_neg g4).trans ((if_neg g5).trans ((if_neg g6).trans ((if_neg g7).trans ((if_neg g8).trans e)))))
    have chx : ∀ {σ' : St} {ρ : Loc}, HdS σ' t hd → ρ 1 = some (.int x) → EV c (lv + 5) hd σ' ρ (.call (.gl (.st (.builtin "chr"))) (.cons (.call (.gl (.st (.builtin "max"))) (.cons (.var 1) (.cons (.lit (.int (0))) .nil))) .nil)) (.str [x.toNat]) := fun {σ' ρ} H r => by
      have := EV.call (c := c) (lv := lv + 5) (hd := hd) (σ := σ') (ρ := ρ) (f := .builtin "max") (P.calB _ (by decide)) (.cons (.var r) (.cons (.lit (p := .int 0)) .nil)) (max_cv H.u)
      rw [hmx] at this
      exact .call (P.calB _ (by decide)) (.cons this .nil) (chr_cv hx.1 hx.2)
    refine s_at P T (.add (.var rfl) .lit) (.var rfl) ps_cons (sf_tail T.sf) fun σ₂ k₂ T₂ => s_var (chx (H.keep k₂) rfl) (s_if (.cmp (.inS (.var rfl) .lit)) (fun g9 => ?_) fun g9 => s_nil (s_if (.cmp (.inS (.var rfl) .lit)) (fun g10 => ?_) fun g10 => s_nil ?_))
    · exact s_ret (.tup (.cons .lit (.cons (.var rfl) (.cons (.var rfl) .nil)))) (go (kd := kPunct) (v := .str [x.toNat]) (pre4 (if_pos g9)) k₂ T₂)
    · exact s_ret (.tup (.cons .lit (.cons (.var rfl) (.cons (.var rfl) .nil)))) (go (kd := kName) (v := .str [x.toNat]) (pre4 ((if_neg g9).trans (if_pos g10))) k₂ T₂)
    · exact s_fault P T₂ (H.keep k₂) (.var rfl) (.var rfl) rfl T.sf fun j σ₃ y => hX j σ₃ kUndef (x :: xs) xs (pre4 ((if_neg g9).trans (if_neg g10))) (y.after k₂))).call
end
end Mine
end

section
open PySem PySem.W PyProof.Rows PySem.Calls
set_option Elab.async false
set_option linter.unusedVariables false
set_option maxRecDepth 100000
namespace Mine

/-! ## each token takes at least one code; its text is in range -/
noncomputable def Rng (xs : List Int) : Prop := ∀ x ∈ xs, 0 ≤ x ∧ x ≤ 1114111
noncomputable def TV.Good : TV → Prop
  | .str x => ∀ y ∈ x, y < 1114112
  | _ => True
noncomputable def KdOk (kd : List Nat) : Prop := (∀ y ∈ kd, y < 1114112) ∧ kd ≠ [102, 97, 117, 108, 116]
noncomputable def Oc.Good (xs : List Int) : Oc → Prop
  | .tok k r => r <:+ xs ∧ k.kind ≠ kEof ∧ k.v.Good ∧ KdOk k.kind
  | .fault kd _ r => r <:+ xs ∧ KdOk kd
theorem oI : KdOk kInt := by unfold KdOk; decide
theorem oE : KdOk kEnd := by unfold KdOk; decide
theorem oN : KdOk kName := by unfold KdOk; decide
theorem oO : KdOk kOpen := by unfold KdOk; decide
theorem oC : KdOk kOpenCt := by unfold KdOk; decide
theorem oV : KdOk kVar := by unfold KdOk; decide
theorem oP : KdOk kPunct := by unfold KdOk; decide
theorem oBE : KdOk kBadEscape := by unfold KdOk; decide
theorem oBN : KdOk kBadNumber := by unfold KdOk; decide
theorem oUQ : KdOk kUnfQ := by unfold KdOk; decide
theorem oUD : KdOk kUndef := by unfold KdOk; decide
theorem oUR : KdOk unfinished := by unfold KdOk; decide
theorem oEU : KdOk [117, 110, 101, 120, 112, 101, 99, 116, 101, 100, 95, 101, 111, 102] := by unfold KdOk; decide
theorem nI : kInt ≠ kEof := by decide
theorem nE : kEnd ≠ kEof := by decide
theorem nN : kName ≠ kEof := by decide
theorem nO : kOpen ≠ kEof := by decide
theorem nC : kOpenCt ≠ kEof := by decide
theorem nV : kVar ≠ kEof := by decide
theorem nP : kPunct ≠ kEof := by decide
theorem str1 {y : Nat} (h : y < 1114112) : (TV.str [y]).Good := fun x hx => by rw [List.mem_singleton.mp hx]; exact h
theorem txt_good {xs : List Int} (h : Rng xs) : (txt xs).Good := fun y hy => by
  obtain ⟨x, hx, rfl⟩ := List.mem_map.mp hy
  have := h x hx; omega
theorem Rng.sub {xs ys : List Int} (h : Rng ys) (s : xs ⊆ ys) : Rng xs := fun x hx => h x (s hx)

theorem digVal_digit {x : Int} (h : isDigit x = true) : ¬ (digVal x < 0 ∨ 10 ≤ digVal x) := by
  have e : digVal x = x - 48 := by unfold digVal; rw [if_pos h]
  unfold isDigit at h
  simp only [Bool.and_eq_true, decide_eq_true_eq] at h
  rw [e]; omega
theorem chM_good {s w xs : List Int} (h : w <:+ xs) : (chM s w).Good xs := by
  have ht : w.tail <:+ xs := (List.tail_suffix w).trans h
  unfold chM
  split
  · split
    · rename_i v s' e; exact ⟨(escM_suf e).trans ht, nI, trivial, oI⟩
    · exact ⟨ht, oBE⟩
  · split
    · split
      · exact ⟨(List.tail_suffix _).trans ht, nI, trivial, oI⟩
      · exact ⟨ht, oBN⟩
    · split
      · exact ⟨ht, nI, trivial, oI⟩
      · exact ⟨h, oBN⟩
theorem num10_good {x : Int} {xs : List Int} (hd : isDigit x = true) : (num10 (x :: xs)).Good xs := by
  have e : digM 10 (x :: xs) 0 = digM 10 xs (0 * 10 + digVal x) := by rw [digM]; exact if_neg (digVal_digit hd)
  have h : (digM 10 (x :: xs) 0).2 <:+ xs := by rw [e]; exact digM_suf _ _ _
  unfold num10
  dsimp only
  split
  · exact ⟨(digM_suf _ _ _).trans ((List.tail_suffix _).trans h), oBN⟩
  · exact ⟨h, nI, trivial, oI⟩
theorem numM_good {x : Int} {xs : List Int} (hd : isDigit x = true) : (numM (x :: xs)).Good xs := by
  unfold numM
  split
  · split
    · exact chM_good (List.tail_suffix xs)
    · split
      · exact ⟨(digM_suf _ _ _).trans (List.tail_suffix xs), nI, trivial, oI⟩
      · exact num10_good hd
  · exact num10_good hd
theorem drop_good {p : Int → Bool} {x : Int} {xs : List Int} (h : p x = true) : (x :: xs).dropWhile p <:+ xs := by
  rw [List.dropWhile_cons_of_pos h]; exact List.dropWhile_suffix _
theorem symM_good {x : Int} {xs : List Int} (h : isSymb x = true) (hr : Rng (x :: xs)) : (symM (x :: xs)).Good xs := by
  unfold symM
  split
  · exact ⟨List.suffix_refl xs, nE, str1 (by decide), oE⟩
  · exact ⟨drop_good h, nN, txt_good (hr.sub (List.takeWhile_subset _)), oN⟩
theorem qTok_good {kind : List Nat} {f : List Int → TV} {z : List Int} (hk : kind ≠ kEof) (ho : KdOk kind) (hf : ∀ xs, Rng xs → (f xs).Good) {q : Int} (hq : 0 ≤ q ∧ q ≤ 1114111) {b : List Int} : ∀ {s acc xs : List Int}, s <:+ xs → Rng s → Rng acc → (qTok kind f z (quM q b s acc)).Good xs := by
  have all : ∀ n (s acc xs : List Int), s.length < n → s <:+ xs → Rng s → Rng acc → (qTok kind f z (quM q b s acc)).Good xs := by
    intro n
    induction n with
    | zero => intro s acc xs h; omega
    | succ n ih =>
      intro s acc xs hn hs hr ha
      cases s with
      | nil => rw [quM]; exact ⟨hs, oUQ⟩
      | cons x r =>
        have hr' : Rng r := hr.sub (List.subset_cons_self x r)
        have hs' : r <:+ xs := (List.suffix_cons x r).trans hs
        have ht : r.tail <:+ xs := (List.tail_suffix r).trans hs'
        have htl : r.tail.length < n := by rw [List.length_tail]; rw [List.length_cons] at hn; omega
        have hrt : Rng r.tail := hr'.sub (List.tail_suffix r).subset
        have hap : ∀ v, 0 ≤ v ∧ v ≤ 1114111 → Rng (acc ++ [v]) := fun v hv y hy => by
          rcases List.mem_append.mp hy with hy | hy
          · exact ha y hy
          · rw [List.mem_singleton.mp hy]; exact hv
        rw [List.length_cons] at hn
        rw [quM]
        by_cases g : x = q
        · rw [if_pos g]
          split
          · exact ⟨hs', hk, hf _ ha, ho⟩
          · exact ih _ _ _ htl ht hrt (hap q hq)
        rw [if_neg g]
        by_cases g1 : x = 10
        · rw [if_pos g1]; exact ⟨hs, oUQ⟩
        rw [if_neg g1]
        by_cases g2 : x = 92 ∧ cd r = 10
        · rw [if_pos g2]; exact ih _ _ _ htl ht hrt ha
        rw [if_neg g2]
        by_cases g3 : x = 92
        · rw [if_pos g3]
          split
          · exact ⟨(abM_suf q _).trans hs, oBE⟩
          · rename_i z e
            have hes := escM_suf (v := z.1) (s := z.2) e
            have hcd : cd r ≤ 1114111 := by
              cases r with
              | nil => decide
              | cons y ys => exact (hr' y (.head _)).2
            exact ih _ _ _ (Nat.lt_of_le_of_lt hes.length_le (by omega)) (hes.trans hs') (hr'.sub hes.subset) (hap _ (escM_rng hcd e))
        rw [if_neg g3]
        by_cases g4 : isQuot x = true
        · rw [if_pos g4]; exact ih _ _ _ (by omega) hs' hr' (hap x (hr x (.head _)))
        · rw [if_neg g4]; exact ⟨(abM_suf q _).trans hs, oUD⟩
  exact fun {s acc xs} a b c => all _ s acc xs (Nat.lt_succ_self _) a b c

theorem tokM_good {cs : List Int} {o : Int} {s : List Int} {x : Int} {xs : List Int} (hr : Rng (x :: xs)) : (tokM cs o s (x :: xs)).Good xs := by
  have hr' : Rng xs := hr.sub (List.subset_cons_self x xs)
  have hx := hr x (.head _)
  have hw : ∀ {p : Int → Bool}, (txt ((x :: xs).takeWhile p)).Good := fun {p} => txt_good (hr.sub (List.takeWhile_subset _))
  have h1 : (TV.str [x.toNat]).Good := fun y hy => by rw [List.mem_singleton.mp hy]; omega
  unfold tokM
  dsimp only
  by_cases g1 : x = 40
  · rw [if_pos g1]; split
    · exact ⟨List.suffix_refl _, nO, str1 (by decide), oO⟩
    · exact ⟨List.suffix_refl _, nC, str1 (by decide), oC⟩
  rw [if_neg g1]
  by_cases g2 : isSmall x = true
  · rw [if_pos g2]; exact ⟨drop_good (by unfold isAlnum; rw [g2]; rfl), nN, hw, oN⟩
  rw [if_neg g2]
  by_cases g3 : isCapital x = true ∨ x = 95
  · rw [if_pos g3]
    refine ⟨drop_good ?_, nV, hw, oV⟩
    unfold isAlnum
    rcases g3 with g | g
    · rw [g, Bool.true_or, Bool.or_true]
    · rw [decide_eq_true g, Bool.or_true, Bool.or_true, Bool.or_true]
  rw [if_neg g3]
  by_cases g4 : isDigit x = true
  · rw [if_pos g4]; exact numM_good g4
  rw [if_neg g4]
  by_cases g5 : x = 39
  · rw [if_pos g5]; exact qTok_good (by decide) (by unfold KdOk; decide) (fun xs h => txt_good h) (by decide) (List.suffix_refl _) hr' (fun y hy => (nomatch hy))
  rw [if_neg g5]
  by_cases g6 : x = 34
  · rw [if_pos g6]; exact qTok_good (f := .ints) (by decide) (by unfold KdOk; decide) (fun xs h => trivial) (by decide) (List.suffix_refl _) hr' (fun y hy => (nomatch hy))
  rw [if_neg g6]
  by_cases g7 : x = 96
  · rw [if_pos g7]; exact qTok_good (f := .ints) (by decide) (by unfold KdOk; decide) (fun xs h => trivial) (by decide) (List.suffix_refl _) hr' (fun y hy => (nomatch hy))
  rw [if_neg g7]
  by_cases g8 : isSymb x = true
  · rw [if_pos g8]; exact symM_good g8 hr
  rw [if_neg g8]
  split
  · exact ⟨List.suffix_refl _, nP, h1, oP⟩
  · split
    · exact ⟨List.suffix_refl _, nN, h1, oN⟩
    · exact ⟨List.suffix_refl xs, oUD⟩

theorem layM_spec : ∀ (n : Nat) (s : List Int), s.length < n → match layM s with
    | .ok z => z <:+ s
    | .error u => u <:+ s ∧ u ≠ [] := by
  intro n
  induction n with
  | zero => intro s h; omega
  | succ n ih =>
    intro s hn
    have up : ∀ {a b : List Int}, a <:+ b → (match layM a with
      | .ok z => z <:+ a
      | .error u => u <:+ a ∧ u ≠ []) → (match layM a with
      | .ok z => z <:+ b
      | .error u => u <:+ b ∧ u ≠ []) := fun {a b} h k => by
      split at k
      · exact k.trans h
      · exact ⟨k.1.trans h, k.2⟩
    cases s with
    | nil => rw [layM]; exact List.suffix_refl _
    | cons x xs =>
      rw [List.length_cons] at hn
      by_cases g1 : isLayout x = true
      · rw [layM_lay g1]; exact up (List.suffix_cons x xs) (ih xs (by omega))
      by_cases g2 : x = 37
      · rw [layM_row g2]; exact up ((rowM_suf xs).trans (List.suffix_cons x xs)) (ih _ (by have := rowM_len xs; omega))
      by_cases g3 : x = 47 ∧ cd xs = 42
      · obtain ⟨g3, g4⟩ := g3
        cases xs with
        | nil => exact absurd g4 (by decide)
        | cons y v =>
          subst g3
          have g4 : y = 42 := g4
          rw [layM_rem g4]
          cases e : remM v with
          | none => exact ⟨List.suffix_refl _, by simp⟩
          | some s' =>
            have h1 := remM_suf e
            exact up (h1.trans ((List.suffix_cons y v).trans (List.suffix_cons _ _))) (ih s' (by have := h1.length_le; rw [List.length_cons] at hn; omega))
      · rw [layM_stop g1 g2 g3]; exact List.suffix_refl _

theorem layM_ok {s z : List Int} (h : layM s = .ok z) : z <:+ s := by have := layM_spec _ s (Nat.lt_succ_self _); rw [h] at this; exact this
theorem layM_err {s u : List Int} (h : layM s = .error u) : u <:+ s ∧ u ≠ [] := by have := layM_spec _ s (Nat.lt_succ_self _); rw [h] at this; exact this

noncomputable def Oc.Prog (s : List Int) : Oc → Prop
  | .tok k r => r <:+ s ∧ k.v.Good ∧ KdOk k.kind ∧ ((k.kind ≠ kEof ∧ r.length < s.length) ∨ (k = ⟨kEof, .str [], []⟩ ∧ r = []))
  | .fault kd u r => r <:+ s ∧ r.length < s.length ∧ KdOk kd
theorem nextM_prog {cs : List Int} {o : Int} {s : List Int} (hr : Rng s) : (nextM cs o s).Prog s := by
  unfold nextM
  cases e : layM s with
  | error u =>
    obtain ⟨a, b⟩ := layM_err e
    refine ⟨List.nil_suffix, ?_, oUR⟩
    cases u with
    | nil => exact absurd rfl b
    | cons x xs => exact Nat.lt_of_lt_of_le (Nat.zero_lt_succ _) a.length_le
  | ok z =>
    have a := layM_ok e
    cases z with
    | nil => exact ⟨List.nil_suffix, fun y hy => (nomatch hy), by unfold KdOk; decide, .inr ⟨rfl, rfl⟩⟩
    | cons x xs =>
      have g := tokM_good (cs := cs) (o := o) (s := s) (hr.sub a.subset)
      have hx : xs <:+ s := (List.suffix_cons x xs).trans a
      have hl : xs.length < s.length := Nat.lt_of_lt_of_le (Nat.lt_succ_self _) a.length_le
      dsimp only
      cases hk : tokM cs o s (x :: xs) with
      | tok k r => rw [hk] at g; exact ⟨g.1.trans hx, g.2.2.1, g.2.2.2, .inl ⟨g.2.1, Nat.lt_of_le_of_lt g.1.length_le hl⟩⟩
      | fault kd u r => rw [hk] at g; exact ⟨g.1.trans hx, Nat.lt_of_le_of_lt g.1.length_le hl, g.2⟩
end Mine
end

section
open PySem PySem.W PyProof.Rows PySem.Calls
set_option Elab.async false
set_option linter.unusedVariables false
set_option maxRecDepth 100000
namespace Mine

noncomputable def skM (cs : List Int) (o : Int) : Nat → List Int → List Int
  | 0, s => s
  | n + 1, s => match nextM cs o s with
    | .tok k r => if k.kind = kEnd ∨ k.kind = kEof then r else skM cs o n r
    | .fault _ _ r => skM cs o n r
noncomputable def kFault : List Nat := [102, 97, 117, 108, 116]

section
variable {c : Sx} {lv : Nat} {hd : Option Nat} {σ : St} {ρ : Loc} {t l : Nat} {cs s s' u : List Int} {o : Int} {Q : Fl → Loc → St → Prop} {X : Nat → Loc → St → Prop} {r : Ss} {Qc : PV → St → Prop} {Xc : Nat → St → Prop}

theorem s_try {b h : Ss} {x : Option Nat} (k : wpSs c lv b hd ρ σ (andThen c lv hd r Q X) fun i ρ σ => wpSs c lv h (some i) (bindO ρ x (.ref i)) σ (fun fl ρ σ => andThen c lv hd r Q X fl (clrO ρ x) σ) fun j ρ σ => X j (clrO ρ x) σ) :
    wpSs c lv (.cons (.try_ b x h) r) hd ρ σ Q X := k
theorem e_subE {a i : E} {Qe : PV → St → Prop} {Xe : Nat → St → Prop} (h : (wp c lv hd a ρ).e σ (fun p σ => (wp c lv hd i ρ).e σ (fun q σ => wSub σ p q fun r => Qe r σ) Xe) Xe) : (wp c lv hd (.sub a i) ρ).e σ Qe Xe := h

theorem skip_clause_ok (P : Tz c) (T : TkS σ t l cs s o) (H : HdS σ t hd) {n : Nat} (hn : s.length < n) (h : ∀ σ', Keep σ σ' t → TkS σ' t l cs (skM cs o n s) o → Qc .none σ') : CallOk c (lv + 7) hd (.ref 283) [.ref t] σ Qc Xc := (P.skip_clause _ _ _ _ _ _ rfl (
  s_while (fun m ρ σ' => ρ 67 = some (.ref t) ∧ ∃ z n', m = z.length ∧ z.length < n' ∧ skM cs o n' z = skM cs o n s ∧ Keep σ σ' t ∧ TkS σ' t l cs z o) (fun m R ρ σ' ⟨r1, z, n', hm, hn', hz, k, T⟩ ih => ⟨True, .true, fun _ => by
    cases n' with
    | zero => exact absurd hn' (Nat.not_lt_zero _)
    | succ n' =>
      have hr : Rng z := fun x hx => T.ok.rng x (T.sf.subset hx)
      have pg := nextM_prog (cs := cs) (o := o) hr
      rw [skM] at hz
      refine s_try (s_asgE (e_subE (e_meth (.var r1) T.ht rfl (P.m (32, 276) (by decide)) .nil (next_ok P T (H.keep k) (fun σ₁ tk s' e k₁ T₁ => ?_) fun j σ₁ kd u s' e y => ?_))))
      · rw [e] at pg hz
        refine e_of .lit ⟨by decide, by decide, _, rfl, s_nil (s_if (.bools (.or (.eqS (.var rfl) .lit) fun _ => .or1 (.eqS (.var rfl) .lit))) (fun g => s_ret0 (h σ₁ (k.trans k₁) ?_)) fun g => s_nil (ih _ _ _ ?_ ⟨r1, s', n', rfl, ?_, ?_, k.trans k₁, T₁⟩))⟩
        · rw [← hz]
          have g : tk.kind = kEnd ∨ tk.kind = kEof := g
          simp only [if_pos g]; exact T₁
        · rcases pg.2.2.2 with ⟨_, q⟩ | ⟨q, _⟩
          · rw [hm]; exact q
          · exact absurd (.inr (by rw [q]; rfl)) g
        · rcases pg.2.2.2 with ⟨_, q⟩ | ⟨q, _⟩
          · exact Nat.lt_of_lt_of_le q (Nat.le_of_lt_succ hn')
          · exact absurd (.inr (by rw [q]; rfl)) g
        · have g : ¬ (tk.kind = kEnd ∨ tk.kind = kEof) := g
          rw [← hz]; simp only [if_neg g]
      · rw [e] at pg hz
        refine s_var .lit (s_nil (s_if (.bools (.or (.eqS (.var rfl) .lit) fun _ => .or1 (.eqS (.var rfl) .lit))) (fun g => ?_) fun g => s_nil (ih _ _ _ (by rw [hm]; exact pg.2.1) ⟨r1, s', n', rfl, Nat.lt_of_lt_of_le pg.2.1 (Nat.le_of_lt_succ hn'), hz, k.trans y.k, y.T⟩)))
        rcases g with g | g <;> exact absurd g (by decide), fun g => absurd trivial g⟩) ⟨rfl, s, n, rfl, hn, rfl, .refl, T⟩)).call
end
end Mine
end

section
open PySem PySem.W PyProof.Rows PySem.Calls
set_option Elab.async false
set_option linter.unusedVariables false
set_option maxRecDepth 100000
namespace Mine

/-! ## gather -/
noncomputable def kEofU : List Nat := [117, 110, 101, 120, 112, 101, 99, 116, 101, 100, 95, 101, 111, 102]
inductive Ga where
  | ok (ks : List Tk) (r : List Int)
  | fault (kind : List Nat) (u r : List Int)
noncomputable def gaM (cs : List Int) (o : Int) : Nat → List Int → List Tk → Ga
  | 0, s, acc => .ok acc s
  | n + 1, s, acc => match nextM cs o s with
    | .tok k r => if k.kind = kEnd then .ok (acc ++ [k]) r else if k.kind = kEof then (if acc = [] then .ok [] r else .fault kEofU [] r) else gaM cs o n r (acc ++ [k])
    | .fault kd u r => .fault kd u (skM cs o (cs.length + 1) r)
noncomputable def gaK (cs : List Int) (o : Int) (n : Nat) (k : Tk) (r : List Int) (acc : List Tk) : Ga := if k.kind = kEnd then .ok (acc ++ [k]) r else if k.kind = kEof then (if acc = [] then .ok [] r else .fault kEofU [] r) else gaM cs o n r (acc ++ [k])

noncomputable def rdFs (sy op fl t : Nat) (a : Int) : Nat → Option PV := upd (upd (upd (upd (upd (fun _ => none) 100 (.ref sy)) 59 (.ref op)) 60 (.ref fl)) 26 (.ref t)) 34 (.int a)
theorem rd_at {sy op fl t : Nat} {a b : Int} : upd (rdFs sy op fl t a) 34 (.int b) = rdFs sy op fl t b := by
  funext k
  simp only [rdFs, upd]
  by_cases h1 : k = 34
  · subst h1; simp
  · simp [h1]

structure Kp2 (σ σ' : St) (t rd : Nat) : Prop where
  n : σ.n ≤ σ'.n
  old : ∀ j, j < σ.n → j ≠ t → j ≠ rd → σ'.at_ j = σ.at_ j
theorem Kp2.of {σ σ' : St} {t rd : Nat} (k : Keep σ σ' t) : Kp2 σ σ' t rd := ⟨k.n, fun j a b _ => k.old j a b⟩
theorem Kp2.trans {σ σ' σ'' : St} {t rd : Nat} (x : Kp2 σ σ' t rd) (y : Kp2 σ' σ'' t rd) : Kp2 σ σ'' t rd :=
  ⟨Nat.le_trans x.n y.n, fun j hj a b => (y.old j (Nat.lt_of_lt_of_le hj x.n) a b).trans (x.old j hj a b)⟩
theorem Kp2.put {σ : St} {t rd : Nat} {x : AObj} : Kp2 σ (σ.put rd x) t rd := ⟨Nat.le_refl _, fun j _ _ h => if_neg h⟩

theorem Kp2.putNew {σ σ' : St} {t rd i : Nat} {x : AObj} (k : Kp2 σ σ' t rd) (h : σ.n ≤ i) : Kp2 σ (σ'.put i x) t rd := ⟨k.n, fun j hj a b => (if_neg (Nat.ne_of_lt (Nat.lt_of_lt_of_le hj h))).trans (k.old j hj a b)⟩

/-- what the reader's functions are -/
structure Rd (c : Sx) : Prop extends Tz c where
  fR : ∀ x ∈ [100, 59, 60, 26, 34], c.fld 839 x = true
  mR : c.meth 839 45 = some (.ref 836)
  gather : FnR c 836 [67] 1 [] B.b_Reader_gather

structure RdS (σ : St) (rd sy op fl t : Nat) (a : Int) : Prop where
  hr : σ.at_ rd = some (.inst 839 (rdFs sy op fl t a))
  rn : rd < σ.n
  ne : rd ≠ t

section
variable {c : Sx} {lv : Nat} {hd : Option Nat} {σ σ' : St} {ρ : Loc} {t l rd sy op fl : Nat} {a : Int} {cs s s' u : List Int} {o : Int} {Q : Fl → Loc → St → Prop} {X : Nat → Loc → St → Prop} {r : Ss} {Qc : PV → St → Prop} {Xc : Nat → St → Prop}

theorem an_nil (h : Q .next ρ σ) : andThen c lv hd .nil Q X .next ρ σ := h
theorem an_cons (h : wpSs c lv r hd ρ σ Q X) : andThen c lv hd r Q X .next ρ σ := h
theorem RdS.keep (R : RdS σ rd sy op fl t a) (k : Keep σ σ' t) : RdS σ' rd sy op fl t a := ⟨(k.old rd R.rn R.ne).trans R.hr, Nat.lt_of_lt_of_le R.rn k.n, R.ne⟩
theorem TP.varL {x i : Nat} {vs : List PV} (e : ρ x = some (.ref i)) (h : σ.at_ i = some (.list vs)) : TP c lv hd σ ρ (.var x) (vs ≠ []) := fun Q X p q => (EV.var (c := c) (lv := lv) (hd := hd) e) (fun p σ => wTruth σ p fun b => Q b σ) X (by
  show (match σ.at_ i with | some (.list vs) => Q (!vs.isEmpty) σ | _ => False)
  rw [h]
  cases vs with
  | nil => exact q fun z => z rfl
  | cons y ys => exact p (by simp))
theorem s_raiseV (P : Tz c) {e : E} {j : Nat} {fs : Nat → Option PV} {ch : Bool} (v : EV c lv (some j) σ ρ e (.ref j)) (h : σ.at_ j = some (.exc 51 fs ch)) (k : X j ρ σ) : wpSs c lv (.cons (.raise_ e) r) (some j) ρ σ Q X := v _ _ (by
  show (match σ.at_ j with
          | some (.exc C fs ch) => C = c.excC ∧ wRaise (some j) j σ C fs (X j ρ)
          | _ => False)
  rw [h]; exact ⟨P.exc.symm, .inl ⟨rfl, k⟩⟩)
theorem tk_kind {k : Tk} {x : Nat} (e : ρ x = some (k.pv cs)) : EV c lv hd σ ρ (.sub (.var x) (.lit (.int 0))) (.str k.kind) := .subT (.var e) .lit (by decide) rfl
theorem tk_pos {k : Tk} {x : Nat} (e : ρ x = some (k.pv cs)) : EV c lv hd σ ρ (.sub (.var x) (.lit (.int 2))) (.int (ps cs k.s)) := .subT (.var e) .lit (by decide) rfl
theorem rd_tk (P : Rd c) (R : RdS σ rd sy op fl t a) (e : ρ 67 = some (.ref rd)) : EV c lv hd σ ρ (.attr (.var 67) 26) (.ref t) := .attr (.var e) R.hr (P.fR _ (by decide)) rfl
theorem s_rdAt (P : Rd c) (R : RdS σ rd sy op fl t a) (T : TkS σ t l cs s o) (e : ρ 67 = some (.ref rd)) (h : ∀ σ', Kp2 σ σ' t rd → TkS σ' t l cs s o → RdS σ' rd sy op fl t (ps cs s) → (∀ j, j ≠ rd → σ'.at_ j = σ.at_ j) → σ'.n = σ.n → wpSs c lv r hd ρ σ' Q X) :
    wpSs c lv (.cons (.asg (.attr (.var 67) 34) (.attr (.attr (.var 67) 26) 34)) r) hd ρ σ Q X :=
  s_attr (at_ev P.toTz T (rd_tk P R e)) (.var e) R.hr (P.fR _ (by decide)) (by
    rw [rd_at]
    have hl : rd ≠ l := fun z => by have := R.hr; rw [z, T.hl] at this; cases this
    exact h _ .put (T.putN R.ne hl) ⟨if_pos rfl, R.rn, R.ne⟩ (fun j hj => if_neg hj) rfl)
/-- a list of tokens grows -/
theorem s_appT (P : Tz c) {i x : Nat} {vs : List PV} {e : E} {p : PV} (r1 : ρ x = some (.ref i)) (hi : σ.at_ i = some (.list vs)) (hl : vs.length ≤ 1000000) (y : EV c lv hd σ ρ e p)
    (h : wpSs c lv r hd ρ (σ.put i (.list (vs ++ [p]))) Q X) : wpSs c lv (.cons (.expr (.meth (.var x) 25 (.cons e .nil))) r) hd ρ σ Q X :=
  s_exprE (e_methL (.var r1) hi (P.b ((0, 25), "list.append") (by decide)) (.cons y .nil) (append_ok hi hl h))

theorem gather_ok (P : Rd c) (R : RdS σ rd sy op fl t a) (T : TkS σ t l cs s o)
    (hQ : ∀ σ' i ks s', gaM cs o (cs.length + 1) s [] = .ok ks s' → Kp2 σ σ' t rd → TkS σ' t l cs s' o → RdS σ' rd sy op fl t (ps cs s') → σ.n ≤ i → i < σ'.n → σ'.at_ i = some (.list (ks.map (·.pv cs))) → Qc (.ref i) σ')
    (hX : ∀ σ' j kd u s', gaM cs o (cs.length + 1) s [] = .fault kd u s' → Kp2 σ σ' t rd → TkS σ' t l cs s' o → RdS σ' rd sy op fl t (ps cs s') → σ.n ≤ j → j < σ'.n → σ'.at_ j = some (faultOf cs kd u false) → Xc j σ') :
    CallOk c (lv + 8) none (.ref 836) [.ref rd] σ Qc Xc := (P.gather _ _ _ _ _ _ rfl (by
  refine s_asgE (e_lst .nil ?_)
  have g0 : Keep σ (σ.new (.list [])) t := keep_new
  have T0 : TkS (σ.new (.list [])) t l cs s o := T.new
  have R0 : RdS (σ.new (.list [])) rd sy op fl t a := R.keep g0
  -- the tail behind the try
  have fin : ∀ {ρ : Loc} {σ₁ : St} {k : Tk} {z : List Int} {acc : List Tk}, ρ 67 = some (.ref rd) → ρ 28 = some (.ref σ.n) → ρ 18 = some (k.pv cs) → Keep σ σ₁ t → TkS σ₁ t l cs z o → σ.n < σ₁.n → σ₁.at_ σ.n = some (.list (acc.map (·.pv cs))) → acc.length ≤ cs.length →
      (k.kind = kEnd ∨ (k = ⟨kEof, .str [], []⟩ ∧ z = [])) → gaK cs o 0 k z acc = gaM cs o (cs.length + 1) s [] →
      wpSs c (lv + 7) (.cons (.asg (.attr (.var 67) 34) (.attr (.attr (.var 67) 26) 34)) (.cons (.ite (.cmp .Eq (.sub (.var 18) (.lit (.int (0)))) (.lit (.str [101, 110, 100]))) (.cons (.expr (.meth (.var 28) 25 (.cons (.var 18) .nil))) .nil) (.cons (.ite (.var 28) (.cons (.raise_ (.meth (.attr (.var 67) 26) 31 (.cons (.lit (.str [117, 110, 101, 120, 112, 101, 99, 116, 101, 100, 95, 101, 111, 102])) (.cons (.sub (.var 18) (.lit (.int (2)))) .nil)))) .nil) .nil) .nil)) (.cons (.ret (.var 28)) .nil)))
        none ρ σ₁ (fun fl _ σ => Qc (retOf fl) σ) fun i _ σ => Xc i σ := fun {ρ σ₁ k z acc} r1 r2 r3 kp T₁ hn hl hlen hk hg => by
    have R₁ := R.keep kp
    have hit : σ.n ≠ t := fun e => Nat.lt_irrefl t (by have := T.tn; omega)
    have hir : σ.n ≠ rd := fun e => Nat.lt_irrefl rd (by have := R.rn; omega)
    have hil : σ.n ≠ l := fun e => Nat.lt_irrefl l (by have := T.ln; omega)
    have hcl := T.ok.len
    refine s_rdAt P R₁ T₁ r1 fun σ₂ k₂ T₂ R₂ ho hn₂ => s_if (.eqS (tk_kind r3) .lit) (fun g => ?_) fun g => ?_
    · have hl₂ := (ho _ hir).trans hl
      refine s_appT P.toTz r2 hl₂ (by rw [List.length_map]; omega) (.var r3) (s_nil (s_ret (.var r2) (hQ _ _ (acc ++ [k]) z ?_ (((Kp2.of kp).trans k₂).putNew (Nat.le_refl _)) (T₂.putN hit hil) ⟨(if_neg hir.symm).trans R₂.hr, R₂.rn, R₂.ne⟩ (Nat.le_refl _) (by rw [show (σ₂.put σ.n _).n = σ₂.n from rfl, hn₂]; exact hn) ((if_pos rfl).trans (by rw [List.map_append]; rfl)))))
      rw [← hg]; exact if_pos g
    · obtain ⟨rfl, rfl⟩ : k = ⟨kEof, .str [], []⟩ ∧ z = [] := hk.resolve_left g
      have hl₂ := (ho _ hir).trans hl
      refine s_if (TP.varL r2 hl₂) (fun g' => ?_) fun g' => s_nil (an_nil (an_cons (s_ret (.var r2) ?_)))
      · have g' : acc ≠ [] := fun e => g' (by rw [e]; rfl)
        exact s_fault (hd := none) P.toTz T₂ trivial (rd_tk P R₂ r1) (tk_pos r3) rfl List.nil_suffix fun j σ₃ y => hX σ₃ j kEofU [] [] (by rw [← hg]; exact (if_neg g).trans ((if_pos rfl).trans (if_neg g'))) (((Kp2.of kp).trans k₂).trans (.of y.k)) y.T (R₂.keep y.k) (by have := y.lo; have := kp.n; omega) y.hi y.at'
      · have g' : acc = [] := by
          cases acc with
          | nil => rfl
          | cons x xs => exact absurd (by simp) g'
        subst g'
        exact hQ _ _ [] [] (by rw [← hg]; exact (if_neg g).trans ((if_pos rfl).trans (if_pos rfl))) ((Kp2.of kp).trans k₂) T₂ R₂ (Nat.le_refl _) (by rw [hn₂]; exact hn) hl₂
  -- the handler
  have onX : ∀ {ρ : Loc} {σ₁ : St} {j : Nat} {kd : List Nat} {u z : List Int} {K : Fl → Loc → St → Prop}, ρ 67 = some (.ref rd) → Rz σ σ₁ t l cs z o false kd u j → gaM cs o (cs.length + 1) s [] = .fault kd u (skM cs o (cs.length + 1) z) →
      wpSs c (lv + 7) (.cons (.expr (.meth (.attr (.var 67) 26) 160 .nil)) (.cons (.asg (.attr (.var 67) 34) (.attr (.attr (.var 67) 26) 34)) (.cons (.raise_ (.var 31)) .nil))) (some j) (bindO ρ (some 31) (.ref j)) σ₁ K (fun i _ σ => Xc i σ) := fun {ρ σ₁ j kd u z K} r1 y hg => by
    have hjt : j ≠ t := fun e => by have := y.at'; rw [e, y.T.ht] at this; cases this
    have hjr : j ≠ rd := fun e => Nat.lt_irrefl rd (by have := R.rn; have := y.lo; omega)
    have R₁ := R.keep y.k
    refine s_exprE (e_meth (rd_tk P R₁ r1) y.T.ht rfl (P.m (160, 283) (by decide)) .nil (skip_clause_ok P.toTz y.T ⟨y.hi, hjt, _, _, y.at'⟩ (n := cs.length + 1) (Nat.lt_succ_of_le y.T.sf.length_le) fun σ₂ k₂ T₂ => ?_))
    refine s_rdAt P (R₁.keep k₂) T₂ r1 fun σ₃ k₃ T₃ R₃ ho hn₃ => ?_
    have hj3 : σ₃.at_ j = some (faultOf cs kd u false) := (ho j hjr).trans ((k₂.old j y.hi hjt).trans y.at')
    exact s_raiseV P.toTz (.var rfl) hj3 (hX σ₃ j kd u _ hg ((Kp2.of (y.k.trans k₂)).trans k₃) T₃ R₃ y.lo (by rw [hn₃]; exact Nat.lt_of_lt_of_le y.hi k₂.n) hj3)
  have rng : ∀ {z : List Int}, z <:+ cs → Rng z := fun {z} hz x hx => T.ok.rng x (hz.subset hx)
  have acc_eq : ∀ {n : Nat} {z : List Int} {acc : List Tk} {k : Tk} {r : List Int}, nextM cs o z = .tok k r → gaM cs o (n + 1) z acc = gaK cs o n k r acc := fun {n z acc k r} e => by rw [gaM, e]; rfl
  have kind_or : ∀ {z : List Int} {k : Tk} {r : List Int}, z <:+ cs → nextM cs o z = .tok k r → k.kind = kEnd ∨ (k = ⟨kEof, .str [], []⟩ ∧ r = []) ∨ (k.kind ≠ kEnd ∧ k.kind ≠ kEof ∧ r.length < z.length) := fun {z k r} hz e => by
    have pg := nextM_prog (cs := cs) (o := o) (rng hz)
    rw [e] at pg
    by_cases q : k.kind = kEnd
    · exact .inl q
    · rcases pg.2.2.2 with ⟨a, b⟩ | b
      · exact .inr (.inr ⟨q, a, b⟩)
      · exact .inr (.inl b)
  have gaK0 : ∀ {n : Nat} {k : Tk} {r : List Int} {acc : List Tk}, (k.kind = kEnd ∨ k.kind = kEof) → gaK cs o n k r acc = gaK cs o 0 k r acc := fun {n k r acc} h => by
    unfold gaK
    rcases h with h | h
    · rw [if_pos h, if_pos h]
    · by_cases q : k.kind = kEnd
      · rw [if_pos q, if_pos q]
      · rw [if_neg q, if_neg q, if_pos h, if_pos h]
  refine s_try (s_asgE (e_meth (rd_tk P R0 rfl) T0.ht rfl (P.m (32, 276) (by decide)) .nil (next_ok P.toTz T0 trivial (fun σ₁ k z e k₁ T₁ => ?_) fun j σ₁ kd u z e y => onX rfl (y.after g0) (by rw [gaM, e]))))
  refine s_while (fun m ρ σ' => ρ 67 = some (.ref rd) ∧ ρ 28 = some (.ref σ.n) ∧ ∃ k z acc z₀ n, ρ 18 = some (k.pv cs) ∧ m = z₀.length ∧ nextM cs o z₀ = .tok k z ∧ z₀ <:+ cs ∧ gaK cs o n k z acc = gaM cs o (cs.length + 1) s [] ∧ (k.kind = kEnd ∨ k.kind = kEof ∨ z.length < n) ∧ acc.length + z₀.length ≤ cs.length ∧ Keep σ σ' t ∧ TkS σ' t l cs z o ∧ σ.n < σ'.n ∧ σ'.at_ σ.n = some (.list (acc.map (·.pv cs))))
    (fun m R' ρ σ' ⟨r1, r2, k, z, acc, z₀, n, r3, hm, e, hz₀, hg, hn, hal, kp, T', hlt, hl⟩ ih => ⟨_, .bools (.and (.neS (tk_kind r3) .lit) fun _ => .and1 (.neS (tk_kind r3) .lit)), fun g => ?_, fun g => ?_⟩)
    ⟨rfl, rfl, k, z, [], s, cs.length, rfl, rfl, e, T.sf, by rw [← acc_eq e], ?_, ?_, g0.trans k₁, T₁, Nat.lt_of_lt_of_le (Nat.lt_succ_self _) k₁.n, (k₁.old σ.n (Nat.lt_succ_self _) (fun h => Nat.lt_irrefl t (by have := T.tn; omega))).trans (if_pos rfl)⟩
  · obtain ⟨g1, g2⟩ := g
    have hcl := T.ok.len
    have hit : σ.n ≠ t := fun e => Nat.lt_irrefl t (by have := T.tn; omega)
    have hir : σ.n ≠ rd := fun e => Nat.lt_irrefl rd (by have := R.rn; omega)
    have hil : σ.n ≠ l := fun e => Nat.lt_irrefl l (by have := T.ln; omega)
    have hlz : z.length < z₀.length := by
      rcases kind_or hz₀ e with q | ⟨q, _⟩ | q
      · exact absurd q g1
      · exact absurd (by rw [q]; rfl) g2
      · exact q.2.2
    have R1 := R.keep (keep_put_new (x := .list ((acc ++ [k]).map (·.pv cs))) kp (Nat.le_refl _))
    have T1 : TkS (σ'.put σ.n (.list ((acc ++ [k]).map (·.pv cs)))) t l cs z o := T'.putN hit hil
    have hg' : gaK cs o n k z acc = gaM cs o n z (acc ++ [k]) := by unfold gaK; exact (if_neg g1).trans (if_neg g2)
    rw [hg'] at hg
    refine s_appT P.toTz r2 hl (by rw [List.length_map]; omega) (.var r3) ?_
    have eL : acc.map (·.pv cs) ++ [k.pv cs] = (acc ++ [k]).map (·.pv cs) := by rw [List.map_append]; rfl
    rw [eL]
    have kpp := keep_put_new (x := .list ((acc ++ [k]).map (·.pv cs))) kp (Nat.le_refl _)
    have hal' : acc.length + 1 + z.length ≤ cs.length := by omega
    have hl1 : (σ'.put σ.n (.list ((acc ++ [k]).map (·.pv cs)))).at_ σ.n = some (.list ((acc ++ [k]).map (·.pv cs))) := if_pos rfl
    cases n with
    | zero =>
      rcases hn with q | q | q
      · exact absurd q g1
      · exact absurd q g2
      · exact absurd q (Nat.not_lt_zero _)
    | succ n =>
      refine s_asgE (e_meth (rd_tk P R1 r1) T1.ht rfl (P.m (32, 276) (by decide)) .nil (next_ok P.toTz T1 trivial (fun σ₂ k' z' e' k₂ T₂ => s_nil (ih z.length _ _ (by rw [hm]; exact hlz) ⟨r1, r2, k', z', acc ++ [k], z, n, rfl, rfl, e', T'.sf, by rw [← hg, acc_eq e'], ?_, by rw [List.length_append]; exact hal', kpp.trans k₂, T₂, Nat.lt_of_lt_of_le hlt k₂.n, (k₂.old σ.n hlt hit).trans hl1⟩)) fun j σ₂ kd u z' e' y => onX r1 (y.after kpp) (by rw [← hg, gaM, e'])))
      rcases kind_or T'.sf e' with q | ⟨q, _⟩ | q
      · exact .inl q
      · exact .inr (.inl (by rw [q]))
      · rcases hn with w | w | w
        · exact absurd w g1
        · exact absurd w g2
        · exact .inr (.inr (Nat.lt_of_lt_of_le q.2.2 (Nat.le_of_lt_succ w)))
  · have hk : k.kind = kEnd ∨ (k = ⟨kEof, .str [], []⟩ ∧ z = []) := by
      rcases kind_or hz₀ e with q | q | q
      · exact .inl q
      · exact .inr q
      · exact absurd ⟨q.1, q.2.1⟩ g
    refine s_nil (an_cons (fin r1 r2 r3 kp T' hlt hl (by omega) hk ?_))
    rw [← hg]
    exact (gaK0 (hk.imp id fun q => by rw [q.1])).symm
  · rcases kind_or T.sf e with q | ⟨q, _⟩ | q
    · exact .inl q
    · exact .inr (.inl (by rw [q]))
    · exact .inr (.inr (Nat.lt_of_lt_of_le q.2.2 T.sf.length_le))
  · have := T.sf.length_le; simpa using this)).call
end
end Mine
end

section
open PySem PySem.W PyProof.Rows PySem.Calls
set_option Elab.async false
set_option linter.unusedVariables false
set_option maxRecDepth 100000
namespace Mine

/-! ## the table of symbols -/
noncomputable def kvN : Nat → List KV → List (KV × PV)
  | _, [] => []
  | n, k :: ks => (k, .int n) :: kvN (n + 1) ks
noncomputable def idxK (k : KV) : Nat → List KV → Int
  | _, [] => -1
  | n, x :: xs => if x = k then n else idxK k (n + 1) xs
theorem kvN_find (k : KV) : ∀ (n : Nat) (ks : List KV), (kvFind (kvN n ks) k).getD (.int (-1)) = .int (idxK k n ks)
  | _, [] => rfl
  | n, x :: xs => by
    unfold idxK kvN kvFind
    rw [List.find?_cons]
    by_cases h : x = k
    · rw [if_pos h]
      have : (x == k) = true := beq_iff_eq.mpr h
      simp only [this]; rfl
    · rw [if_neg h]
      have : (x == k) = false := beq_eq_false_iff_ne.mpr h
      simp only [this]
      exact kvN_find k (n + 1) xs
theorem kvN_any (k : KV) : ∀ (n : Nat) (ks : List KV), idxK k n ks < 0 → (kvN n ks).any (fun x => x.1 == k) = false
  | _, [], _ => rfl
  | n, x :: xs, h => by
    unfold idxK at h
    by_cases q : x = k
    · rw [if_pos q] at h; omega
    · rw [if_neg q] at h
      rw [kvN, List.any_cons, kvN_any k (n + 1) xs h]
      simp [q]
theorem kvN_snoc (k : KV) : ∀ (n : Nat) (ks : List KV), kvN n (ks ++ [k]) = kvN n ks ++ [(k, .int (n + ks.length : Nat))]
  | n, [] => rfl
  | n, x :: xs => by
    rw [List.cons_append, kvN, kvN, kvN_snoc k (n + 1) xs, List.cons_append, List.length_cons]
    congr 4
    rw [Nat.add_assoc, Nat.add_comm 1]
theorem kvN_put {k : KV} {ks : List KV} (h : idxK k 0 ks < 0) : kvPut (kvN 0 ks) k (.int ks.length) = kvN 0 (ks ++ [k]) := by
  unfold kvPut
  rw [if_neg (by rw [kvN_any k 0 ks h]; exact Bool.noConfusion), kvN_snoc, Nat.zero_add]
theorem kvN_kind {m : Nat} : ∀ {n : Nat} {ks : List KV}, (∀ x ∈ ks, kindOf x = m) → ∀ x ∈ kvN n ks, kindOf x.1 = m
  | _, [], _, x, hx => (nomatch hx)
  | n, y :: ys, h, x, hx => by
    rw [kvN] at hx
    rcases List.mem_cons.mp hx with rfl | hx
    · exact h y (.head _)
    · exact kvN_kind (fun z hz => h z (.tail _ hz)) x hx
theorem kvN_len : ∀ (n : Nat) (ks : List KV), (kvN n ks).length = ks.length
  | _, [] => rfl
  | n, _ :: xs => congrArg (· + 1) (kvN_len (n + 1) xs)

noncomputable def tKey (t : List Nat) : KV := .s t
noncomputable def fKey (p : Int × Int) : KV := .t [p.1, p.2]
noncomputable def fPV (p : Int × Int) : PV := .tup [.int p.1, .int p.2]
noncomputable def atomI (txs : List (List Nat)) (t : List Nat) : Int := if idxK (tKey t) 0 (txs.map tKey) ≥ 0 then idxK (tKey t) 0 (txs.map tKey) else txs.length
noncomputable def atomT (txs : List (List Nat)) (t : List Nat) : List (List Nat) := if idxK (tKey t) 0 (txs.map tKey) ≥ 0 then txs else txs ++ [t]
noncomputable def funI (fns : List (Int × Int)) (p : Int × Int) : Int := if idxK (fKey p) 0 (fns.map fKey) ≥ 0 then idxK (fKey p) 0 (fns.map fKey) else fns.length
noncomputable def funT (fns : List (Int × Int)) (p : Int × Int) : List (Int × Int) := if idxK (fKey p) 0 (fns.map fKey) ≥ 0 then fns else fns ++ [p]

noncomputable def syFs (ia ib ic id : Nat) : Nat → Option PV := upd (upd (upd (upd (fun _ => none) 68 (.ref ia)) 69 (.ref ib)) 70 (.ref ic)) 71 (.ref id)
structure SyN where
  b : Nat
  ia : Nat
  ib : Nat
  ic : Nat
  id : Nat
structure SyS (σ : St) (y : SyN) (txs : List (List Nat)) (fns : List (Int × Int)) : Prop where
  hb : σ.at_ y.b = some (.inst 154 (syFs y.ia y.ib y.ic y.id))
  ha : σ.at_ y.ia = some (.list (txs.map .str))
  hB : σ.at_ y.ib = some (.dict (kvN 0 (txs.map tKey)))
  hc : σ.at_ y.ic = some (.list (fns.map fPV))
  hD : σ.at_ y.id = some (.dict (kvN 0 (fns.map fKey)))
  n1 : y.ia ≠ y.ic
  n2 : y.ib ≠ y.id
  l1 : txs.length ≤ 50000
  l2 : fns.length ≤ 50000
  lt : y.b < σ.n ∧ y.ia < σ.n ∧ y.ib < σ.n ∧ y.ic < σ.n ∧ y.id < σ.n
/-- nothing but the symbols' lists and tables has changed -/
structure KpS (σ σ' : St) (y : SyN) : Prop where
  n : σ'.n = σ.n
  old : ∀ j, j ≠ y.ia → j ≠ y.ib → j ≠ y.ic → j ≠ y.id → σ'.at_ j = σ.at_ j
theorem KpS.refl {σ : St} {y : SyN} : KpS σ σ y := ⟨rfl, fun _ _ _ _ _ => rfl⟩
theorem KpS.trans {σ σ' σ'' : St} {y : SyN} (a : KpS σ σ' y) (b : KpS σ' σ'' y) : KpS σ σ'' y := ⟨b.n.trans a.n, fun j h1 h2 h3 h4 => (b.old j h1 h2 h3 h4).trans (a.old j h1 h2 h3 h4)⟩

structure Sb (c : Sx) : Prop where
  cal : ∀ a ∈ ([60, 67, 154] : List Addr), c.callee (.ref a) = true
  calB : ∀ a ∈ bcalls, c.callee a = true
  f : ∀ x ∈ [68, 69, 70, 71], c.fld 154 x = true
  m : ∀ p ∈ ([(72, 88), (9, 102), (66, 109)] : List (Nat × Addr)), c.meth 154 p.1 = some (.ref p.2)
  b : ∀ p ∈ bmeths, c.bmeth p.1.1 p.1.2 = some (.builtin p.2)
  mks : makesIn c.K 154 = true ∧ findIn c.K (.ref 154) "__init__" = some (some (.ref 81)) ∧ typeIn c.K (.ref 81) = some (.type "function")
  fixed_atoms : FnR c 60 [] 0 [] B.b_fixed_atoms
  fixed_functors : FnR c 67 [] 0 [] B.b_fixed_functors
  init : FnR c 81 [67] 1 [] B.b_Symbols___init__
  atom : FnR c 88 [67, 19] 2 [] B.b_Symbols_atom
  functor : FnR c 102 [67, 72, 74] 3 [] B.b_Symbols_functor
  func : FnR c 109 [67, 19, 74] 3 [] B.b_Symbols_func

section
variable {c : Sx} {lv : Nat} {hd : Option Nat} {σ σ' : St} {ρ : Loc} {y : SyN} {txs : List (List Nat)} {fns : List (Int × Int)} {Q : Fl → Loc → St → Prop} {X : Nat → Loc → St → Prop} {r : Ss} {Qc : PV → St → Prop} {Xc : Nat → St → Prop} {Qt : Loc → St → Prop}

theorem s_asgT {t : T} {e : E} (h : (wp c lv hd e ρ).e σ (fun p σ => wpT c lv hd ρ σ p (fun ρ σ => wpSs c lv r hd ρ σ Q X) X t) fun i σ => X i ρ σ) : wpSs c lv (.cons (.asg t e) r) hd ρ σ Q X := h
theorem t_attr {a : E} {x i : Nat} {C : Addr} {fs : Nat → Option PV} {p : PV} (w : EV c lv hd σ ρ a (.ref i)) (at' : σ.at_ i = some (.inst C fs)) (f : c.fld C x = true) (h : Qt ρ (σ.put i (.inst C (upd fs x p)))) : wpT c lv hd ρ σ p Qt X (.attr a x) := w _ _ (by
  show (match σ.at_ i with
          | some (.inst C fs) => c.fld C x = true ∧ Qt ρ (σ.put i (.inst C (upd fs x p)))
          | some (.exc C fs ch) => c.fld C x = true ∧ Qt ρ (σ.put i (.exc C (upd fs x p) ch))
          | some (.bare C) => c.fld C x = true ∧ Qt ρ (σ.put i (.exc C (upd (fun _ => none) x p) false))
          | _ => False)
  rw [at']; exact ⟨f, h⟩)
theorem t_sub {a e : E} {i : Nat} {kvs : List (KV × PV)} {p q : PV} {k : KV} (w : EV c lv hd σ ρ a (.ref i)) (v : EV c lv hd σ ρ e q) (at' : σ.at_ i = some (.dict kvs)) (hl : kvs.length ≤ 100000) (hk : keyOf q = some k) (ha : ∀ x ∈ kvs, kindOf x.1 = kindOf k)
    (h : Qt ρ (σ.put i (.dict (kvPut kvs k p)))) : wpT c lv hd ρ σ p Qt X (.sub a e) := w _ _ (v _ _ (by
  show (match σ.at_ i with
          | some (.dict kvs) => kvs.length ≤ 100000 ∧ ∃ k, keyOf q = some k ∧ (∀ x ∈ kvs, kindOf x.1 = kindOf k) ∧ Qt ρ (σ.put i (.dict (kvPut kvs k p)))
          | _ => False)
  rw [at']; exact ⟨hl, k, hk, ha, h⟩))
theorem e_methE {a : E} {x i : Nat} {C : Addr} {fs : Nat → Option PV} {f : Value} {es : Es} {Qe : PV → St → Prop} {Xe : Nat → St → Prop} (y : EV c lv hd σ ρ a (.ref i)) (e : σ.at_ i = some (.inst C fs)) (k : fs x = none) (m : c.meth C x = some f)
    (z : (wps c lv hd es ρ).es σ (fun ps σ => CallOk c lv hd f (.ref i :: ps) σ Qe Xe) Xe) : (wp c lv hd (.meth a x es) ρ).e σ Qe Xe := y _ _ ⟨f, by show wMeth c σ (.ref i) x f; simp only [wMeth, e]; exact ⟨k, m⟩, z⟩
theorem e_dict0 {Qe : PV → St → Prop} {Xe : Nat → St → Prop} (h : Qe (.ref σ.n) (σ.new (.dict []))) : (wp c lv hd (.dict []) ρ).e σ Qe Xe := ⟨List.Pairwise.nil, Nat.zero_le _, h⟩
theorem get_cv {i : Nat} {kvs : List (KV × PV)} {p d : PV} {k : KV} (hi : σ.at_ i = some (.dict kvs)) (hk : keyOf p = some k) (ha : ∀ x ∈ kvs, kindOf x.1 = kindOf k) : CV c lv hd σ (.builtin "dict.get") [.ref i, p, d] ((kvFind kvs k).getD d) := fun Q X h => get_ok hi hk ha h
/-- a loop over a tuple's items -/
theorem s_forT {t : T} {e : E} {b : Ss} {vs : List PV} (v : EV c lv none σ ρ e (.tup vs)) (I : List PV → Loc → St → Prop) (h0 : I vs ρ σ)
    (step : ∀ v rest ρ σ (R : Loc → St → Prop), I (v :: rest) ρ σ → (∀ ρ' σ', I rest ρ' σ' → R ρ' σ') → wpT c lv none ρ σ v (fun ρ σ => wpSs c lv b none ρ σ (fun fl ρ σ => match fl with | .next => R ρ σ | .cont => R ρ σ | .brk => andThen c lv none r Q X .next ρ σ | .ret p => Q (.ret p) ρ σ) X) X t)
    (last : ∀ ρ σ, I [] ρ σ → wpSs c lv r none ρ σ Q X) : wpSs c lv (.cons (.for_ t e b) r) none ρ σ Q X := v _ _ ⟨rfl, by
  show wFor (fun _ => True) _ _ vs ρ σ _ _
  clear v
  induction vs generalizing ρ σ with
  | nil => exact ⟨trivial, last ρ σ h0⟩
  | cons v rest ih => exact ⟨trivial, step v rest ρ σ _ h0 fun ρ' σ' h => ih h⟩⟩

theorem sy_ne (S : SyS σ y txs fns) : y.ia ≠ y.ib ∧ y.ia ≠ y.id ∧ y.ib ≠ y.ic ∧ y.ic ≠ y.id ∧ y.b ≠ y.ia ∧ y.b ≠ y.ib ∧ y.b ≠ y.ic ∧ y.b ≠ y.id := by
  have := S.hb; have := S.ha; have := S.hB; have := S.hc; have := S.hD
  refine ⟨?_, ?_, ?_, ?_, ?_, ?_, ?_, ?_⟩ <;> intro e <;> simp_all

theorem atom_ok (P : Sb c) (S : SyS σ y txs fns) (hl : txs.length < 50000) {t : List Nat} (h : ∀ σ', KpS σ σ' y → SyS σ' y (atomT txs t) fns → Qc (.int (atomI txs t)) σ') : CallOk c (lv + 1) hd (.ref 88) [.ref y.b, .str t] σ Qc Xc := (P.atom _ _ _ _ _ _ rfl (by
  obtain ⟨e1, e2, e3, e4, e5, e6, e7, e8⟩ := sy_ne S
  have g := get_cv (c := c) (lv := lv) (hd := hd) (d := .int (-1)) (p := .str t) S.hB rfl (kvN_kind (m := 0) fun x hx => by obtain ⟨z, _, rfl⟩ := List.mem_map.mp hx; rfl)
  rw [kvN_find] at g
  refine s_var (.methD (.attr (.var rfl) S.hb (P.f _ (by decide)) rfl) S.hB (P.b ((2, 73), "dict.get") (by decide)) (.cons (.var rfl) (.cons (.neg .lit) .nil)) g) (s_if (.ge (.var rfl) .lit) (fun q => s_ret (.var rfl) ?_) fun q => s_nil ?_)
  · have q : idxK (tKey t) 0 (txs.map tKey) ≥ 0 := q
    have h := h σ .refl
    rw [atomT, atomI, if_pos q, if_pos q] at h; exact h S
  · have q : ¬ idxK (tKey t) 0 (txs.map tKey) ≥ 0 := q
    have q' : idxK (tKey t) 0 (txs.map tKey) < 0 := Int.not_le.mp q
    refine s_var (.call (P.calB _ (by decide)) (.cons (.attr (.var rfl) S.hb (P.f _ (by decide)) rfl) .nil) (len_cv S.ha)) (s_exprE (e_methL (.attr (.var rfl) S.hb (P.f _ (by decide)) rfl) S.ha (P.b ((0, 25), "list.append") (by decide)) (.cons (.var rfl) .nil) (append_ok S.ha (by rw [List.length_map]; omega) ?_)))
    refine s_asgT (e_of (.var rfl) (t_sub (.attr (.var rfl) ((if_neg e5).trans S.hb) (P.f _ (by decide)) rfl) (.var rfl) ((if_neg e1.symm).trans S.hB) (by rw [kvN_len, List.length_map]; omega) rfl (kvN_kind (m := 0) fun x hx => by obtain ⟨z, _, rfl⟩ := List.mem_map.mp hx; rfl) (s_ret (.var rfl) ?_)))
    have hL : (txs.map PV.str).length = (txs.map tKey).length := by rw [List.length_map, List.length_map]
    rw [hL, show KV.s t = tKey t from rfl, kvN_put q', ← List.map_singleton (f := tKey), ← List.map_append, ← List.map_singleton (f := PV.str), ← List.map_append, List.length_map]
    have h := h _ (⟨rfl, fun j h1 h2 h3 h4 => (if_neg h2).trans (if_neg h1)⟩ : KpS σ ((σ.put y.ia (.list ((txs ++ [t]).map .str))).put y.ib (.dict (kvN 0 ((txs ++ [t]).map tKey)))) y)
    rw [atomT, atomI, if_neg q, if_neg q] at h
    exact h ⟨(if_neg e6).trans ((if_neg e5).trans S.hb), (if_neg e1).trans (if_pos rfl), if_pos rfl, (if_neg e3.symm).trans ((if_neg S.n1.symm).trans S.hc), (if_neg S.n2.symm).trans ((if_neg e2.symm).trans S.hD), S.n1, S.n2, by rw [List.length_append]; exact hl, S.l2, S.lt⟩)).call

theorem functor_ok (P : Sb c) (S : SyS σ y txs fns) (hl : fns.length < 50000) {p : Int × Int} (h : ∀ σ', KpS σ σ' y → SyS σ' y txs (funT fns p) → Qc (.int (funI fns p)) σ') : CallOk c (lv + 1) hd (.ref 102) [.ref y.b, .int p.1, .int p.2] σ Qc Xc := (P.functor _ _ _ _ _ _ rfl (by
  obtain ⟨e1, e2, e3, e4, e5, e6, e7, e8⟩ := sy_ne S
  have g := get_cv (c := c) (lv := lv) (hd := hd) (d := .int (-1)) (p := fPV p) (k := fKey p) S.hD rfl (kvN_kind (m := 2) fun x hx => by obtain ⟨z, _, rfl⟩ := List.mem_map.mp hx; rfl)
  rw [kvN_find] at g
  refine s_var (.tup (.cons (.var rfl) (.cons (.var rfl) .nil))) (s_var (.methD (.attr (.var rfl) S.hb (P.f _ (by decide)) rfl) S.hD (P.b ((2, 73), "dict.get") (by decide)) (.cons (.var rfl) (.cons (.neg .lit) .nil)) g) (s_if (.ge (.var rfl) .lit) (fun q => s_ret (.var rfl) ?_) fun q => s_nil ?_))
  · have q : idxK (fKey p) 0 (fns.map fKey) ≥ 0 := q
    have h := h σ .refl
    rw [funT, funI, if_pos q, if_pos q] at h; exact h S
  · have q : ¬ idxK (fKey p) 0 (fns.map fKey) ≥ 0 := q
    have q' : idxK (fKey p) 0 (fns.map fKey) < 0 := Int.not_le.mp q
    refine s_var (.call (P.calB _ (by decide)) (.cons (.attr (.var rfl) S.hb (P.f _ (by decide)) rfl) .nil) (len_cv S.hc)) (s_exprE (e_methL (.attr (.var rfl) S.hb (P.f _ (by decide)) rfl) S.hc (P.b ((0, 25), "list.append") (by decide)) (.cons (.var rfl) .nil) (append_ok S.hc (by rw [List.length_map]; omega) ?_)))
    refine s_asgT (e_of (.var rfl) (t_sub (k := fKey p) (.attr (.var rfl) ((if_neg e7).trans S.hb) (P.f _ (by decide)) rfl) (.var rfl) ((if_neg e4.symm).trans S.hD) (by rw [kvN_len, List.length_map]; omega) rfl (kvN_kind (m := 2) fun x hx => by obtain ⟨z, _, rfl⟩ := List.mem_map.mp hx; rfl) (s_ret (.var rfl) ?_)))
    have hL : (fns.map fPV).length = (fns.map fKey).length := by rw [List.length_map, List.length_map]
    rw [hL, kvN_put q', ← List.map_singleton (f := fKey), ← List.map_append, show PV.tup [.int p.1, .int p.2] = fPV p from rfl, ← List.map_singleton (f := fPV), ← List.map_append, List.length_map]
    have h := h _ (⟨rfl, fun j h1 h2 h3 h4 => (if_neg h4).trans (if_neg h3)⟩ : KpS σ ((σ.put y.ic (.list ((fns ++ [p]).map fPV))).put y.id (.dict (kvN 0 ((fns ++ [p]).map fKey)))) y)
    rw [funT, funI, if_neg q, if_neg q] at h
    exact h ⟨(if_neg e8).trans ((if_neg e7).trans S.hb), (if_neg e2).trans ((if_neg S.n1).trans S.ha), (if_neg S.n2).trans ((if_neg e3).trans S.hB), (if_neg e4).trans (if_pos rfl), if_pos rfl, S.n1, S.n2, S.l1, by rw [List.length_append]; exact hl, S.lt⟩)).call

theorem func_ok2 (P : Sb c) (S : SyS σ y txs fns) (hl : txs.length < 50000) (hl' : fns.length < 50000) {t : List Nat} {i : Int} (h : ∀ σ', KpS σ σ' y → SyS σ' y (atomT txs t) (funT fns (atomI txs t, i)) → Qc (.int (funI fns (atomI txs t, i))) σ') :
    CallOk c (lv + 2) hd (.ref 109) [.ref y.b, .str t, .int i] σ Qc Xc := (P.func _ _ _ _ _ _ rfl (
  s_retE (e_methE (.var rfl) S.hb rfl (P.m (9, 102) (by decide)) (es_consE (e_meth (.var rfl) S.hb rfl (P.m (72, 88) (by decide)) (.cons (.var rfl) .nil) (atom_ok P S hl fun σ₁ k₁ S₁ => es_cons (.var rfl) (es_nil (functor_ok (p := (atomI txs t, i)) P S₁ hl' fun σ₂ k₂ S₂ => h σ₂ (k₁.trans k₂) S₂)))))))).call
end
end Mine
end

section
open PySem PySem.W PyProof.Rows PySem.Calls
set_option Elab.async false
set_option linter.unusedVariables false
set_option maxRecDepth 100000
namespace Mine

noncomputable def fixedAtoms : List (List Nat) := [[91, 93], [46], [123, 125], [45], [43], [42], [47], [44], [124], [59], [45, 62], [92, 43], [58, 45], [63, 45], [45, 45, 62], [33], [116, 114, 117, 101], [102, 97, 105, 108], [102, 97, 108, 115, 101], [99, 97, 108, 108], [61], [94], [101, 114, 114, 111, 114], [], [101, 110, 100, 95, 111, 102, 95, 102, 105, 108, 101], [115, 121, 115, 116, 101, 109], [36, 86, 65, 82], [99, 97, 116, 99, 104], [116, 104, 114, 111, 119]]
noncomputable def fixedFunctors : List (List Nat × Int) := [([46], 2), ([44], 2), ([59], 2), ([45, 62], 2), ([92, 43], 1), ([58, 45], 2), ([58, 45], 1), ([63, 45], 1), ([45, 45, 62], 2), ([123, 125], 1), ([61], 2), ([94], 2), ([45], 1), ([45], 2), ([43], 2), ([47], 2), ([101, 114, 114, 111, 114], 2), ([36, 86, 65, 82], 1), ([99, 97, 116, 99, 104], 3), ([116, 104, 114, 111, 119], 1), ([33], 0), ([116, 114, 117, 101], 0), ([102, 97, 105, 108], 0), ([102, 97, 108, 115, 101], 0), ([99, 97, 108, 108], 1), ([99, 97, 108, 108], 2), ([99, 97, 108, 108], 3), ([99, 97, 108, 108], 4), ([99, 97, 108, 108], 5), ([99, 97, 108, 108], 6), ([99, 97, 108, 108], 7), ([99, 97, 108, 108], 8)]
noncomputable def litEs : List PV → Es
  | [] => .nil
  | p :: ps => .cons (.lit p) (litEs ps)
noncomputable def litEs2 : List (List Nat × Int) → Es
  | [] => .nil
  | p :: ps => .cons (.tup (.cons (.lit (.str p.1)) (.cons (.lit (.int p.2)) .nil))) (litEs2 ps)
noncomputable def row2 (p : List Nat × Int) : PV := .tup [.str p.1, .int p.2]
noncomputable def syAtoms : List (List Nat) → List (List Nat) → List (List Nat)
  | [], txs => txs
  | t :: ts, txs => syAtoms ts (atomT txs t)
noncomputable def syFuns : List (List Nat × Int) → List (List Nat) × List (Int × Int) → List (List Nat) × List (Int × Int)
  | [], z => z
  | p :: ps, z => syFuns ps (atomT z.1 p.1, funT z.2 (atomI z.1 p.1, p.2))
noncomputable def sy0 : List (List Nat) × List (Int × Int) := syFuns fixedFunctors (syAtoms fixedAtoms [], [])
theorem atomT_len (txs : List (List Nat)) (t : List Nat) : (atomT txs t).length ≤ txs.length + 1 := by
  unfold atomT; split
  · exact Nat.le_succ _
  · rw [List.length_append]; exact Nat.le_refl _
theorem funT_len (fns : List (Int × Int)) (p : Int × Int) : (funT fns p).length ≤ fns.length + 1 := by
  unfold funT; split
  · exact Nat.le_succ _
  · rw [List.length_append]; exact Nat.le_refl _
theorem Grow.refl {σ : St} : Grow σ σ := ⟨Nat.le_refl _, fun _ _ => rfl⟩
theorem Grow.put {σ σ' : St} {i : Nat} {x : AObj} (g : Grow σ σ') (h : σ.n ≤ i) : Grow σ (σ'.put i x) := ⟨g.n, fun j hj => (if_neg (Nat.ne_of_lt (Nat.lt_of_lt_of_le hj h))).trans (g.old j hj)⟩
theorem Grow.new {σ σ' : St} {x : AObj} (g : Grow σ σ') : Grow σ (σ'.new x) := g.trans grow_new
noncomputable def SyN.From (y : SyN) (n : Nat) : Prop := n ≤ y.b ∧ n ≤ y.ia ∧ n ≤ y.ib ∧ n ≤ y.ic ∧ n ≤ y.id
theorem Grow.sy {σ σ' σ'' : St} {y : SyN} (g : Grow σ σ') (h : y.From σ.n) (k : KpS σ' σ'' y) : Grow σ σ'' := ⟨by rw [k.n]; exact g.n, fun j hj => (k.old j (Nat.ne_of_lt (Nat.lt_of_lt_of_le hj h.2.1)) (Nat.ne_of_lt (Nat.lt_of_lt_of_le hj h.2.2.1)) (Nat.ne_of_lt (Nat.lt_of_lt_of_le hj h.2.2.2.1)) (Nat.ne_of_lt (Nat.lt_of_lt_of_le hj h.2.2.2.2))).trans (g.old j hj)⟩

section
variable {c : Sx} {lv : Nat} {hd : Option Nat} {σ σ' : St} {ρ : Loc} {y : SyN} {txs : List (List Nat)} {fns : List (Int × Int)} {Q : Fl → Loc → St → Prop} {X : Nat → Loc → St → Prop} {r : Ss} {Qc : PV → St → Prop} {Xc : Nat → St → Prop}
theorem EVs.lits : ∀ ps : List PV, EVs c lv hd σ ρ (litEs ps) ps
  | [] => .nil
  | p :: ps => .cons .lit (EVs.lits ps)
theorem EVs.lits2 : ∀ ps : List (List Nat × Int), EVs c lv hd σ ρ (litEs2 ps) (ps.map row2)
  | [] => .nil
  | p :: ps => .cons (.tup (.cons .lit (.cons .lit .nil))) (EVs.lits2 ps)
theorem SyS.grow (S : SyS σ y txs fns) (g : Grow σ σ') : SyS σ' y txs fns := by
  obtain ⟨h1, h2, h3, h4, h5⟩ := S.lt
  have n := g.n
  exact ⟨(g.old _ h1).trans S.hb, (g.old _ h2).trans S.ha, (g.old _ h3).trans S.hB, (g.old _ h4).trans S.hc, (g.old _ h5).trans S.hD, S.n1, S.n2, S.l1, S.l2, by omega⟩

theorem symbols_ok (P : Sb c) (h : ∀ σ' y, Grow σ σ' → y.From σ.n → SyS σ' y sy0.1 sy0.2 → Qc (.ref y.b) σ') : CallOk c (lv + 5) none (.ref 154) [] σ Qc Xc := make_ok P.mks.1 P.mks.2.1 P.mks.2.2 (P.init _ _ _ _ _ _ rfl (by
  have n0 : ∀ {k : Nat}, σ.n + (k + 1) ≠ σ.n := fun {k} => by omega
  refine s_asgT (e_lst .nil (t_attr (.var rfl) (C := 154) (fs := fun _ => none) ?_ (P.f _ (by decide)) (s_asgT (e_dict0 (t_attr (.var rfl) (if_neg (n0 (k := 1)).symm |>.trans (if_pos rfl)) (P.f _ (by decide)) (s_asgT (e_lst .nil (t_attr (.var rfl) (if_neg (n0 (k := 2)).symm |>.trans (if_pos rfl)) (P.f _ (by decide)) (s_asgT (e_dict0 (t_attr (.var rfl) (if_neg (n0 (k := 3)).symm |>.trans (if_pos rfl)) (P.f _ (by decide)) ?_)))))))))))
  · exact (if_neg (n0 (k := 0)).symm).trans (if_pos rfl)
  let σ4 : St := (((((((((σ.new (.inst 154 fun _ => none)).new (.list [])).put σ.n (.inst 154 (upd (fun _ => none) 68 (.ref (σ.n + 1))))).new (.dict [])).put σ.n (.inst 154 (upd (upd (fun _ => none) 68 (.ref (σ.n + 1))) 69 (.ref (σ.n + 2))))).new (.list [])).put σ.n (.inst 154 (upd (upd (upd (fun _ => none) 68 (.ref (σ.n + 1))) 69 (.ref (σ.n + 2))) 70 (.ref (σ.n + 3))))).new (.dict [])).put σ.n (.inst 154 (syFs (σ.n + 1) (σ.n + 2) (σ.n + 3) (σ.n + 4))))
  have g4 : Grow σ σ4 := ((((((((grow_new.new).put (Nat.le_refl _)).new).put (Nat.le_refl _)).new).put (Nat.le_refl _)).new).put (Nat.le_refl _))
  let y : SyN := ⟨σ.n, σ.n + 1, σ.n + 2, σ.n + 3, σ.n + 4⟩
  have hy : y.From σ.n := ⟨Nat.le_refl _, Nat.le_add_right _ _, Nat.le_add_right _ _, Nat.le_add_right _ _, Nat.le_add_right _ _⟩
  have S4 : SyS σ4 y [] [] := by
    refine ⟨if_pos rfl, ?_, ?_, ?_, ?_, by simp [y], by simp [y], Nat.zero_le _, Nat.zero_le _, ?_⟩
    · simp [σ4, y, St.put, St.new]
    · simp [σ4, y, St.put, St.new, kvN]
    · simp [σ4, y, St.put, St.new]
    · simp [σ4, y, St.put, St.new, kvN]
    · simp only [σ4, y, St.put, St.new]; omega
  show wpSs c (lv + 3) _ none _ σ4 _ _
  have fa : CV c (lv + 3) none σ4 (.ref 60) [] (.tup (fixedAtoms.map .str)) := .of P.fixed_atoms rfl fun Q X h => s_ret (.tup (EVs.lits (fixedAtoms.map .str))) h
  refine s_forT (.call (P.cal _ (by decide)) .nil fa) (fun rest ρ σ' => ∃ (rs : List (List Nat)) (txs : List (List Nat)), rest = rs.map .str ∧ ρ 67 = some (.ref σ.n) ∧ SyS σ' y txs [] ∧ KpS σ4 σ' y ∧ syAtoms rs txs = syAtoms fixedAtoms [] ∧ txs.length + rs.length ≤ 100)
    ⟨fixedAtoms, [], rfl, rfl, S4, .refl, rfl, by decide⟩ (fun v rest ρ σ₁ R ⟨rs, txs, e, r1, S, k, hs, hl⟩ ih => ?_) fun ρ σ₁ ⟨rs, txs, e, r1, S, k, hs, hl⟩ => ?_
  · cases rs with
    | nil => cases e
    | cons t ts =>
      obtain ⟨rfl, rfl⟩ := List.cons.inj e
      rw [List.length_cons] at hl
      exact s_exprE (e_meth (.var r1) S.hb rfl (P.m (72, 88) (by decide)) (.cons (.var rfl) .nil) (atom_ok P S (by omega) fun σ₂ k₂ S₂ => s_nil (ih _ _ ⟨ts, _, rfl, r1, S₂, k.trans k₂, hs, by have := atomT_len txs t; omega⟩)))
  cases rs with
  | cons t ts => cases e
  | nil =>
    have ff : CV c (lv + 3) none σ₁ (.ref 67) [] (.tup (fixedFunctors.map row2)) := .of P.fixed_functors rfl fun Q X h => s_ret (.tup (EVs.lits2 fixedFunctors)) h
    refine s_forT (.call (P.cal _ (by decide)) .nil ff) (fun rest ρ σ' => ∃ (rs : List (List Nat × Int)) (txs : List (List Nat)) (fns : List (Int × Int)), rest = rs.map row2 ∧ ρ 67 = some (.ref σ.n) ∧ SyS σ' y txs fns ∧ KpS σ4 σ' y ∧ syFuns rs (txs, fns) = sy0 ∧ txs.length + rs.length ≤ 200 ∧ fns.length + rs.length ≤ 200)
      ⟨fixedFunctors, txs, [], rfl, r1, S, k, by rw [show txs = syAtoms fixedAtoms [] from hs]; rfl, Nat.le_trans (Nat.add_le_add_right (by rw [List.length_nil] at hl; exact hl) _) (by decide), by decide⟩ (fun v rest ρ σ₂ R ⟨rs, txs, fns, e, r1, S, k, hs, hl, hl'⟩ ih => ?_) fun ρ σ₂ ⟨rs, txs, fns, e, r1, S, k, hs, hl, hl'⟩ => ?_
    · cases rs with
      | nil => cases e
      | cons t ts =>
        obtain ⟨rfl, rfl⟩ := List.cons.inj e
        rw [List.length_cons] at hl hl'
        exact s_exprE (e_meth (.var r1) S.hb rfl (P.m (66, 109) (by decide)) (.cons (.subT (.var rfl) .lit (by decide) rfl) (.cons (.subT (.var rfl) .lit (by decide) rfl) .nil)) (func_ok2 P S (by omega) (by omega) fun σ₃ k₃ S₃ => s_nil (ih _ _ ⟨ts, _, _, rfl, r1, S₃, k.trans k₃, hs, by have := atomT_len txs t.1; omega, by have := funT_len fns (atomI txs t.1, t.2); omega⟩)))
    · cases rs with
      | cons t ts => cases e
      | nil =>
        have hs : (txs, fns) = sy0 := hs
        exact s_nil ⟨rfl, h σ₂ y (g4.sy hy k) hy (by rw [← hs]; exact S)⟩))
end
end Mine
end

section
open PySem PySem.W PyProof.Rows PySem.Calls
set_option Elab.async false
set_option linter.unusedVariables false
set_option maxRecDepth 100000
namespace Mine

noncomputable def flagRows : List (List Nat × List Nat × List (List Nat) × Bool) := [([98, 111, 117, 110, 100, 101, 100], [102, 97, 108, 115, 101], [[116, 114, 117, 101], [102, 97, 108, 115, 101]], false), ([100, 101, 98, 117, 103], [111, 102, 102], [[111, 110], [111, 102, 102]], true), ([100, 111, 117, 98, 108, 101, 95, 113, 117, 111, 116, 101, 115], [99, 111, 100, 101, 115], [[99, 111, 100, 101, 115], [99, 104, 97, 114, 115], [97, 116, 111, 109]], true), ([105, 110, 116, 101, 103, 101, 114, 95, 114, 111, 117, 110, 100, 105, 110, 103, 95, 102, 117, 110, 99, 116, 105, 111, 110], [116, 111, 119, 97, 114, 100, 95, 122, 101, 114, 111], [[116, 111, 119, 97, 114, 100, 95, 122, 101, 114, 111], [100, 111, 119, 110]], false), ([109, 97, 120, 95, 97, 114, 105, 116, 121], [117, 110, 98, 111, 117, 110, 100, 101, 100], [[117, 110, 98, 111, 117, 110, 100, 101, 100]], false), ([111, 99, 99, 117, 114, 115, 95, 99, 104, 101, 99, 107], [116, 114, 117, 101], [[116, 114, 117, 101], [102, 97, 108, 115, 101]], true), ([117, 110, 107, 110, 111, 119, 110], [101, 114, 114, 111, 114], [[101, 114, 114, 111, 114], [102, 97, 105, 108], [119, 97, 114, 110, 105, 110, 103]], true)]
noncomputable def flEs : List (List Nat × List Nat × List (List Nat) × Bool) → Es
  | [] => .nil
  | p :: ps => .cons (.tup (.cons (.lit (.str p.1)) (.cons (.lit (.str p.2.1)) (.cons (.tup (litEs (p.2.2.1.map .str))) (.cons (.lit (.bool p.2.2.2)) .nil))))) (flEs ps)
noncomputable def flPV (p : List Nat × List Nat × List (List Nat) × Bool) : PV := .tup [.str p.1, .str p.2.1, .tup (p.2.2.1.map .str), .bool p.2.2.2]
/-- the flags' values -/
noncomputable def flVals : List (List Nat × List Nat × List (List Nat) × Bool) → List (List Nat) × List (KV × PV) → List (List Nat) × List (KV × PV)
  | [], z => z
  | p :: ps, z => flVals ps (atomT z.1 p.2.1, kvPut z.2 (.s p.1) (.int (atomI z.1 p.2.1)))

structure Bk (c : Sx) : Prop extends Sb c where
  calO : ∀ a ∈ ([509, 565, 428, 435] : List Addr), c.callee (.ref a) = true
  fO : ∀ x ∈ [100, 102, 103, 104], c.fld 509 x = true
  fF : ∀ x ∈ [100, 112, 113, 114], c.fld 565 x = true
  mO : ∀ p ∈ ([(110, 492), (105, 499)] : List (Nat × Addr)), c.meth 509 p.1 = some (.ref p.2)
  mkO : makesIn c.K 509 = true ∧ findIn c.K (.ref 509) "__init__" = some (some (.ref 457)) ∧ typeIn c.K (.ref 457) = some (.type "function")
  mkF : makesIn c.K 565 = true ∧ findIn c.K (.ref 565) "__init__" = some (some (.ref 527)) ∧ typeIn c.K (.ref 527) = some (.type "function")
  flag_rows : FnR c 428 [] 0 [] B.b_flag_rows
  fixity : FnR c 435 [15] 1 [] B.b_fixity
  initO : FnR c 457 [67, 100, 101] 3 [] B.b_OperatorTable___init__
  table_of : FnR c 492 [67, 15] 2 [] B.b_OperatorTable_table_of
  add : FnR c 499 [67, 16, 15, 108] 4 [] B.b_OperatorTable_add
  initF : FnR c 527 [67, 100] 2 [] B.b_Flags___init__

noncomputable def opFs (b d1 d2 d3 : Nat) : Nat → Option PV := upd (upd (upd (upd (fun _ => none) 100 (.ref b)) 102 (.ref d1)) 103 (.ref d2)) 104 (.ref d3)
noncomputable def flFs (b v f x : Nat) : Nat → Option PV := upd (upd (upd (upd (fun _ => none) 100 (.ref b)) 112 (.ref v)) 113 (.ref f)) 114 (.ref x)
noncomputable def xfy : List Nat := [120, 102, 121]
section
variable {c : Sx} {lv : Nat} {hd : Option Nat} {σ σ' : St} {ρ : Loc} {y : SyN} {txs : List (List Nat)} {fns : List (Int × Int)} {Q : Fl → Loc → St → Prop} {X : Nat → Loc → St → Prop} {r : Ss} {Qc : PV → St → Prop} {Xc : Nat → St → Prop}
theorem EVs.fl : ∀ ps : List (List Nat × List Nat × List (List Nat) × Bool), EVs c lv hd σ ρ (flEs ps) (ps.map flPV)
  | [] => .nil
  | p :: ps => .cons (.tup (.cons .lit (.cons .lit (.cons (.tup (EVs.lits _)) (.cons .lit .nil))))) (EVs.fl ps)
theorem fix_xfy (P : Bk c) : CV c (lv + 1) hd σ (.ref 435) [.str xfy] (.str [105, 110, 102, 105, 120]) := .of P.fixity rfl fun Q X h =>
  s_if (.cmp (.inT [[102, 120], [102, 121]] (.var rfl) .gl rfl)) (fun g => absurd g (by decide)) fun _ => s_nil (
  s_if (.cmp (.inT [[120, 102, 120], [120, 102, 121], [121, 102, 120]] (.var rfl) .gl rfl)) (fun _ => s_ret .lit h) fun g => absurd (by decide) g)
theorem table_xfy (P : Bk c) {op b d1 d2 d3 : Nat} (h : σ.at_ op = some (.inst 509 (opFs b d1 d2 d3))) : CV c (lv + 2) hd σ (.ref 492) [.ref op, .str xfy] (.ref d2) := .of P.table_of rfl fun Q X q =>
  s_var (.call (P.calO _ (by decide)) (.cons (.var rfl) .nil) (fix_xfy P)) (s_if (.eqS (.var rfl) .lit) (fun g => absurd g (by decide)) fun _ => s_nil (s_if (.eqS (.var rfl) .lit) (fun _ => s_ret (.attr (.var rfl) h (P.fO _ (by decide)) rfl) q) fun g => absurd (by decide) g))
theorem add_comma (P : Bk c) {op b d1 d2 d3 : Nat} (h : σ.at_ op = some (.inst 509 (opFs b d1 d2 d3))) (hd2 : σ.at_ d2 = some (.dict [])) (q : Qc .none (σ.put d2 (.dict [(.i 7, .tup [.int 1000, .str xfy])]))) : CallOk c (lv + 3) hd (.ref 499) [.ref op, .int 1000, .str xfy, .int 7] σ Qc Xc := (P.add _ _ _ _ _ _ rfl (
  s_var (.meth (.var rfl) h rfl (P.mO (110, 492) (by decide)) (.cons (.var rfl) .nil) (table_xfy P h)) (s_if (.gt (.var rfl) .lit) (fun _ => s_asgT (e_of (.tup (.cons (.var rfl) (.cons (.var rfl) .nil))) (t_sub (k := .i 7) (.var rfl) (.var rfl) hd2 (Nat.zero_le _) rfl (fun x hx => (nomatch hx)) (s_nil q)))) fun g => absurd (by decide) g))).call

theorem ops_ok (P : Bk c) {b : Nat} (h : ∀ σ', Grow σ σ' → Qc (.ref σ.n) σ') : CallOk c (lv + 5) none (.ref 509) [.ref b, .bool false] σ Qc Xc := make_ok P.mkO.1 P.mkO.2.1 P.mkO.2.2 (P.initO _ _ _ _ _ _ rfl (by
  have n0 : ∀ {k : Nat}, σ.n + (k + 1) ≠ σ.n := fun {k} => by omega
  refine s_asgT (e_of (.var rfl) (t_attr (.var rfl) (C := 509) (fs := fun _ => none) (if_pos rfl) (P.fO _ (by decide)) (s_asgT (e_dict0 (t_attr (.var rfl) (if_neg (n0 (k := 0)).symm |>.trans (if_pos rfl)) (P.fO _ (by decide)) (s_asgT (e_dict0 (t_attr (.var rfl) (if_neg (n0 (k := 1)).symm |>.trans (if_pos rfl)) (P.fO _ (by decide)) (s_asgT (e_dict0 (t_attr (.var rfl) (if_neg (n0 (k := 2)).symm |>.trans (if_pos rfl)) (P.fO _ (by decide)) ?_)))))))))))
  have g := ((((((((grow_new (σ := σ) (x := .inst 509 fun _ => none)).put (x := .inst 509 (upd (fun _ => none) 100 (.ref b))) (Nat.le_refl _)).new (x := .dict [])).put (x := .inst 509 (upd (upd (fun _ => none) 100 (.ref b)) 102 (.ref (σ.n + 1)))) (Nat.le_refl _)).new (x := .dict [])).put (x := .inst 509 (upd (upd (upd (fun _ => none) 100 (.ref b)) 102 (.ref (σ.n + 1))) 103 (.ref (σ.n + 2)))) (Nat.le_refl _)).new (x := .dict [])).put (x := .inst 509 (opFs b (σ.n + 1) (σ.n + 2) (σ.n + 3))) (Nat.le_refl _))
  refine s_exprE (e_meth (.var rfl) (if_pos rfl) rfl (P.mO (105, 499) (by decide)) (.cons .gl (.cons .lit (.cons .gl .nil))) (add_comma P (b := b) (d1 := σ.n + 1) (d2 := σ.n + 2) (d3 := σ.n + 3) (if_pos rfl) ?_ (s_if (.var (.var rfl)) (fun g => absurd g (by decide)) fun _ => s_nil (an_nil ⟨rfl, h _ (g.put (Nat.le_add_right _ _))⟩))))
  simp [St.put, St.new]))

theorem put_ne {i j : Nat} {x : AObj} (h : j ≠ i) : (σ.put i x).at_ j = σ.at_ j := if_neg h
theorem put_eq {i : Nat} {x : AObj} : (σ.put i x).at_ i = some x := if_pos rfl
/-- all but the symbols' lists and tables stands -/
structure KpY (σ σ' : St) (y : SyN) : Prop where
  n : σ.n ≤ σ'.n
  old : ∀ j, j < σ.n → j ≠ y.ia → j ≠ y.ib → j ≠ y.ic → j ≠ y.id → σ'.at_ j = σ.at_ j
theorem KpY.of {σ σ' : St} (g : Grow σ σ') : KpY σ σ' y := ⟨g.n, fun j h _ _ _ _ => g.old j h⟩
theorem KpY.ofS {σ σ' : St} (k : KpS σ σ' y) : KpY σ σ' y := ⟨Nat.le_of_eq k.n.symm, fun j _ a b c d => k.old j a b c d⟩
theorem KpY.trans {σ σ' σ'' : St} (x : KpY σ σ' y) (z : KpY σ' σ'' y) : KpY σ σ'' y := ⟨Nat.le_trans x.n z.n, fun j h a b c d => (z.old j (Nat.lt_of_lt_of_le h x.n) a b c d).trans (x.old j h a b c d)⟩
theorem KpY.put {σ σ' : St} {i : Nat} {x : AObj} (k : KpY σ σ' y) (h : σ.n ≤ i) : KpY σ (σ'.put i x) y := ⟨k.n, fun j hj a b c d => (if_neg (Nat.ne_of_lt (Nat.lt_of_lt_of_le hj h))).trans (k.old j hj a b c d)⟩
theorem SyS.put {i : Nat} {x : AObj} (S : SyS σ y txs fns) (h : y.b ≠ i ∧ y.ia ≠ i ∧ y.ib ≠ i ∧ y.ic ≠ i ∧ y.id ≠ i) : SyS (σ.put i x) y txs fns :=
  ⟨(if_neg h.1).trans S.hb, (if_neg h.2.1).trans S.ha, (if_neg h.2.2.1).trans S.hB, (if_neg h.2.2.2.1).trans S.hc, (if_neg h.2.2.2.2).trans S.hD, S.n1, S.n2, S.l1, S.l2, S.lt⟩
theorem kvPut_len (kvs : List (KV × PV)) (k : KV) (v : PV) : (kvPut kvs k v).length ≤ kvs.length + 1 := by
  unfold kvPut; split
  · rw [List.length_map]; exact Nat.le_succ _
  · rw [List.length_append]; exact Nat.le_refl _
theorem kvPut_kind {kvs : List (KV × PV)} {k : KV} {v : PV} {m : Nat} (hk : kindOf k = m) (h : ∀ x ∈ kvs, kindOf x.1 = m) : ∀ x ∈ kvPut kvs k v, kindOf x.1 = m := by
  unfold kvPut; split
  · intro x hx
    obtain ⟨z, hz, rfl⟩ := List.mem_map.mp hx
    split <;> exact h z hz
  · intro x hx
    rcases List.mem_append.mp hx with hx | hx
    · exact h x hx
    · rw [List.mem_singleton.mp hx]; exact hk

theorem flags_ok (P : Bk c) (S : SyS σ y txs fns) (hl : txs.length ≤ 1000) (h : ∀ σ', KpY σ σ' y → SyS σ' y (flVals flagRows (txs, [])).1 fns → σ'.at_ σ.n = some (.inst 565 (flFs y.b (σ.n + 1) (σ.n + 2) (σ.n + 3))) →
      σ'.at_ (σ.n + 1) = some (.dict (flVals flagRows (txs, [])).2) → Qc (.ref σ.n) σ') : CallOk c (lv + 5) none (.ref 565) [.ref y.b] σ Qc Xc := make_ok P.mkF.1 P.mkF.2.1 P.mkF.2.2 (P.initF _ _ _ _ _ _ rfl (by
  have n0 : ∀ {k : Nat}, σ.n + (k + 1) ≠ σ.n := fun {k} => by omega
  refine s_asgT (e_of (.var rfl) (t_attr (.var rfl) (C := 565) (fs := fun _ => none) (if_pos rfl) (P.fF _ (by decide)) (s_asgT (e_dict0 (t_attr (.var rfl) (if_neg (n0 (k := 0)).symm |>.trans (if_pos rfl)) (P.fF _ (by decide)) (s_asgT (e_dict0 (t_attr (.var rfl) (if_neg (n0 (k := 1)).symm |>.trans (if_pos rfl)) (P.fF _ (by decide)) (s_asgT (e_lst .nil (t_attr (.var rfl) (if_neg (n0 (k := 2)).symm |>.trans (if_pos rfl)) (P.fF _ (by decide)) ?_)))))))))))
  let σ4 : St := ((((((((σ.new (.inst 565 fun _ => none)).put σ.n (.inst 565 (upd (fun _ => none) 100 (.ref y.b)))).new (.dict [])).put σ.n (.inst 565 (upd (upd (fun _ => none) 100 (.ref y.b)) 112 (.ref (σ.n + 1))))).new (.dict [])).put σ.n (.inst 565 (upd (upd (upd (fun _ => none) 100 (.ref y.b)) 112 (.ref (σ.n + 1))) 113 (.ref (σ.n + 2))))).new (.list [])).put σ.n (.inst 565 (flFs y.b (σ.n + 1) (σ.n + 2) (σ.n + 3))))
  have g4 : Grow σ σ4 := ((((((((grow_new (σ := σ) (x := .inst 565 fun _ => none)).put (Nat.le_refl _)).new).put (Nat.le_refl _)).new).put (Nat.le_refl _)).new).put (Nat.le_refl _))
  have S4 := S.grow g4
  have a0 : σ4.at_ σ.n = some (.inst 565 (flFs y.b (σ.n + 1) (σ.n + 2) (σ.n + 3))) := if_pos rfl
  have a1 : σ4.at_ (σ.n + 1) = some (.dict []) := by simp [σ4, St.put, St.new]
  have a2 : σ4.at_ (σ.n + 2) = some (.dict []) := by simp [σ4, St.put, St.new]
  have a3 : σ4.at_ (σ.n + 3) = some (.list []) := by simp [σ4, St.put, St.new]
  show wpSs c (lv + 3) _ none _ σ4 _ _
  have fr : CV c (lv + 3) none σ4 (.ref 428) [] (.tup (flagRows.map flPV)) := .of P.flag_rows rfl fun Q X h => s_ret (.tup (EVs.fl flagRows)) h
  obtain ⟨l1, l2, l3, l4, l5⟩ := S.lt
  have ne5 : ∀ {i : Nat}, σ.n ≤ i → y.b ≠ i ∧ y.ia ≠ i ∧ y.ib ≠ i ∧ y.ic ≠ i ∧ y.id ≠ i := fun {i} hi => by omega
  refine s_forT (.call (P.calO _ (by decide)) .nil fr) (fun rest ρ σ' => ∃ (rs : List (List Nat × List Nat × List (List Nat) × Bool)) (tx : List (List Nat)) (kv kv2 : List (KV × PV)) (fx : List PV), rest = rs.map flPV ∧ ρ 67 = some (.ref σ.n) ∧ ρ 100 = some (.ref y.b) ∧ SyS σ' y tx fns ∧ KpY σ σ' y ∧
      σ'.at_ σ.n = some (.inst 565 (flFs y.b (σ.n + 1) (σ.n + 2) (σ.n + 3))) ∧ σ'.at_ (σ.n + 1) = some (.dict kv) ∧ σ'.at_ (σ.n + 2) = some (.dict kv2) ∧ σ'.at_ (σ.n + 3) = some (.list fx) ∧ (∀ x ∈ kv, kindOf x.1 = 0) ∧ (∀ x ∈ kv2, kindOf x.1 = 0) ∧
      kv.length + rs.length ≤ 100 ∧ kv2.length + rs.length ≤ 100 ∧ fx.length + rs.length ≤ 100 ∧ tx.length + rs.length ≤ 2000 ∧ flVals rs (tx, kv) = flVals flagRows (txs, []))
    ⟨flagRows, txs, [], [], [], rfl, rfl, rfl, S4, .of g4, a0, a1, a2, a3, fun x hx => (nomatch hx), fun x hx => (nomatch hx), by decide, by decide, by decide, by have : flagRows.length = 7 := rfl; omega, rfl⟩ (fun v rest ρ σ₁ R ⟨rs, tx, kv, kv2, fx, e, r1, r2, S, k, b0, b1, b2, b3, h1, h2, m1, m2, m3, m4, hf⟩ ih => ?_) fun ρ σ₁ ⟨rs, tx, kv, kv2, fx, e, r1, r2, S, k, b0, b1, b2, b3, h1, h2, m1, m2, m3, m4, hf⟩ => ?_
  · cases rs with
    | nil => cases e
    | cons p ts =>
      obtain ⟨rfl, rfl⟩ := List.cons.inj e
      rw [List.length_cons] at m1 m2 m3 m4
      refine ⟨rfl, trivial, s_asgT (e_meth (.var r2) S.hb rfl (P.m (72, 88) (by decide)) (.cons (.var rfl) .nil) (atom_ok P.toSb S (by omega) fun σ₂ k₂ S₂ => ?_))⟩
      have up : ∀ {j : Nat}, σ.n ≤ j → σ₂.at_ j = σ₁.at_ j := fun {j} hj => by
        obtain ⟨_, q1, q2, q3, q4⟩ := ne5 hj
        exact k₂.old j q1.symm q2.symm q3.symm q4.symm
      have z1 : σ.n ≠ σ.n + 1 := by omega
      have z2 : σ.n + 2 ≠ σ.n + 1 := by omega
      have z3 : σ.n ≠ σ.n + 2 := by omega
      have z4 : σ.n + 1 ≠ σ.n + 2 := by omega
      have z5 : σ.n + 3 ≠ σ.n + 1 := by omega
      have z6 : σ.n + 3 ≠ σ.n + 2 := by omega
      refine t_sub (k := .s p.1) (.attr (.var r1) ((up (Nat.le_refl _)).trans b0) (P.fF _ (by decide)) rfl) (.var rfl) ((up (Nat.le_add_right _ _)).trans b1) (by omega) rfl h1 ?_
      refine s_asgT (e_of (.var rfl) (t_sub (k := .s p.1) (.attr (.var r1) ((if_neg z1).trans ((up (Nat.le_refl _)).trans b0)) (P.fF _ (by decide)) rfl) (.var rfl) ((if_neg z2).trans ((up (Nat.le_add_right _ _)).trans b2)) (by omega) rfl h2 ?_))
      have b3' : ((σ₂.put (σ.n + 1) (.dict (kvPut kv (.s p.1) (.int (atomI tx p.2.1))))).put (σ.n + 2) (.dict (kvPut kv2 (.s p.1) (.tup (p.2.2.1.map .str))))).at_ (σ.n + 3) = some (.list fx) := (put_ne z6).trans ((put_ne z5).trans ((up (Nat.le_add_right σ.n 3)).trans b3))
      have S3 := (S₂.put (x := .dict (kvPut kv (.s p.1) (.int (atomI tx p.2.1)))) (ne5 (Nat.le_add_right σ.n 1))).put (x := .dict (kvPut kv2 (.s p.1) (.tup (p.2.2.1.map .str)))) (ne5 (Nat.le_add_right σ.n 2))
      have k3 := ((k.trans (.ofS k₂)).put (x := .dict (kvPut kv (.s p.1) (.int (atomI tx p.2.1)))) (Nat.le_add_right σ.n 1)).put (x := .dict (kvPut kv2 (.s p.1) (.tup (p.2.2.1.map .str)))) (Nat.le_add_right σ.n 2)
      have q1 := kvPut_len kv (.s p.1) (.int (atomI tx p.2.1))
      have q2 := kvPut_len kv2 (.s p.1) (.tup (p.2.2.1.map .str))
      have q4 := atomT_len tx p.2.1
      have c0 : ((σ₂.put (σ.n + 1) (.dict (kvPut kv (.s p.1) (.int (atomI tx p.2.1))))).put (σ.n + 2) (.dict (kvPut kv2 (.s p.1) (.tup (p.2.2.1.map .str))))).at_ σ.n = _ := (put_ne z3).trans ((put_ne z1).trans ((up (Nat.le_refl σ.n)).trans b0))
      have c1 : ((σ₂.put (σ.n + 1) (.dict (kvPut kv (.s p.1) (.int (atomI tx p.2.1))))).put (σ.n + 2) (.dict (kvPut kv2 (.s p.1) (.tup (p.2.2.1.map .str))))).at_ (σ.n + 1) = some (.dict (kvPut kv (.s p.1) (.int (atomI tx p.2.1)))) := (put_ne z4).trans put_eq
      refine s_if (.not (.var (.var rfl))) (fun g => s_exprE (e_methL (.attr (.var r1) c0 (P.fF _ (by decide)) rfl) b3' (P.b ((0, 25), "list.append") (by decide)) (.cons (.var rfl) .nil) (append_ok b3' (by omega) (s_nil (an_nil (ih _ _ ?_)))))) fun g => s_nil (an_nil (ih _ _ ?_))
      · exact ⟨ts, _, _, _, _, rfl, r1, r2, S3.put (ne5 (Nat.le_add_right σ.n 3)), k3.put (Nat.le_add_right σ.n 3), (put_ne (by omega)).trans c0, (put_ne (by omega)).trans c1, (put_ne (by omega)).trans put_eq, put_eq, kvPut_kind rfl h1, kvPut_kind rfl h2, by omega, by omega, by rw [List.length_append]; exact Nat.le_trans (by show fx.length + 1 + _ ≤ fx.length + (ts.length + 1); omega) m3, by omega, hf⟩
      · exact ⟨ts, _, _, _, _, rfl, r1, r2, S3, k3, c0, c1, put_eq, b3', kvPut_kind rfl h1, kvPut_kind rfl h2, by omega, by omega, by omega, by omega, hf⟩
  · cases rs with
    | cons p ts => cases e
    | nil =>
      have hf : (tx, kv) = flVals flagRows (txs, []) := hf
      exact s_nil ⟨rfl, h σ₁ k (by rw [← hf]; exact S) b0 (by rw [← hf]; exact b1)⟩))
end
end Mine
end

section
open PySem PySem.W PyProof.Rows PySem.Calls
set_option Elab.async false
set_option linter.unusedVariables false
set_option maxRecDepth 100000
namespace Mine

structure Mk (c : Sx) : Prop extends Rd c where
  calM : ∀ a ∈ ([370, 839] : List Addr), c.callee (.ref a) = true
  mkT : makesIn c.K 370 = true ∧ findIn c.K (.ref 370) "__init__" = some (some (.ref 248)) ∧ typeIn c.K (.ref 248) = some (.type "function")
  mkR : makesIn c.K 839 = true ∧ findIn c.K (.ref 839) "__init__" = some (some (.ref 815)) ∧ typeIn c.K (.ref 815) = some (.type "function")
  initT3 : FnR c 248 [67, 2, 34] 3 [] B.b_Tokenizer___init__
  initT2 : FnR c 248 [67, 2, 34] 2 [.int 0] B.b_Tokenizer___init__
  initR : FnR c 815 [67, 100, 59, 60, 2, 34] 5 [.int 0] B.b_Reader___init__

section
variable {c : Sx} {lv : Nat} {hd : Option Nat} {σ σ' : St} {ρ : Loc} {l : Nat} {cs : List Int} {Q : Fl → Loc → St → Prop} {X : Nat → Loc → St → Prop} {r : Ss} {Qc : PV → St → Prop} {Xc : Nat → St → Prop}
theorem ps_self : ps cs cs = 0 := Int.sub_self _

theorem tk_body (P : Mk c) (hl : σ.at_ l = some (.list (cs.map .int))) (ln : l < σ.n) (ok : Ok cs) (r1 : ρ 67 = some (.ref σ.n)) (r2 : ρ 2 = some (.ref l)) (r3 : ρ 34 = some (.int 0)) (h : ∀ σ', Grow σ σ' → TkS σ' σ.n l cs cs 0 → Qc (.ref σ.n) σ') :
    wpSs c lv B.b_Tokenizer___init__ hd ρ (σ.new (.inst 370 fun _ => none)) (fun fl _ σ' => retOf fl = .none ∧ Qc (.ref σ.n) σ') X := by
  refine s_attr (.var r2) (.var r1) (C := 370) (fs := fun _ => none) (if_pos rfl) (P.fT _ (by decide)) (s_attr (.var r3) (.var r1) (if_pos rfl) (P.fT _ (by decide)) (s_attr (.var r3) (.var r1) (if_pos rfl) (P.fT _ (by decide)) (s_nil ⟨rfl, h _ (((grow_new.put (Nat.le_refl _)).put (Nat.le_refl _)).put (Nat.le_refl _)) ?_⟩)))
  have ne : l ≠ σ.n := Nat.ne_of_lt ln
  exact ⟨by rw [ps_self]; exact put_eq, (put_ne ne).trans ((put_ne ne).trans ((put_ne ne).trans ((if_neg ne).trans hl))), List.suffix_refl _, Nat.lt_succ_self _, Nat.lt_succ_of_lt ln, ok⟩
theorem tokenizer3 (P : Mk c) (hl : σ.at_ l = some (.list (cs.map .int))) (ln : l < σ.n) (ok : Ok cs) (h : ∀ σ', Grow σ σ' → TkS σ' σ.n l cs cs 0 → Qc (.ref σ.n) σ') : CallOk c (lv + 2) hd (.ref 370) [.ref l, .int 0] σ Qc Xc :=
  make_ok P.mkT.1 P.mkT.2.1 P.mkT.2.2 (P.initT3 _ _ _ _ _ _ rfl (tk_body P hl ln ok rfl rfl rfl h))
theorem tokenizer2 (P : Mk c) (hl : σ.at_ l = some (.list (cs.map .int))) (ln : l < σ.n) (ok : Ok cs) (h : ∀ σ', Grow σ σ' → TkS σ' σ.n l cs cs 0 → Qc (.ref σ.n) σ') : CallOk c (lv + 2) hd (.ref 370) [.ref l] σ Qc Xc :=
  make_ok P.mkT.1 P.mkT.2.1 P.mkT.2.2 (P.initT2 _ _ _ _ _ _ rfl (tk_body P hl ln ok rfl rfl rfl h))

theorem reader_ok (P : Mk c) {b op fl : Nat} (hl : σ.at_ l = some (.list (cs.map .int))) (ln : l < σ.n) (ok : Ok cs) (h : ∀ σ' t, Grow σ σ' → σ.n ≤ t → TkS σ' t l cs cs 0 → RdS σ' σ.n b op fl t 0 → Qc (.ref σ.n) σ') :
    CallOk c (lv + 4) hd (.ref 839) [.ref b, .ref op, .ref fl, .ref l] σ Qc Xc := make_ok P.mkR.1 P.mkR.2.1 P.mkR.2.2 (P.initR _ _ _ _ _ _ rfl (by
  have ne : l ≠ σ.n := Nat.ne_of_lt ln
  refine s_attr (.var rfl) (.var rfl) (C := 839) (fs := fun _ => none) (if_pos rfl) (P.fR _ (by decide)) (s_attr (.var rfl) (.var rfl) (if_pos rfl) (P.fR _ (by decide)) (s_attr (.var rfl) (.var rfl) (if_pos rfl) (P.fR _ (by decide)) (s_asgT (e_call (P.calM _ (by decide)) (.cons (.var rfl) (.cons (.var rfl) .nil)) (tokenizer3 P ((put_ne ne).trans ((put_ne ne).trans ((put_ne ne).trans ((if_neg ne).trans hl)))) (Nat.lt_succ_of_lt ln) ok fun σ₁ g₁ T₁ => ?_)))))
  have g0 : Grow σ σ₁ := (((grow_new.put (Nat.le_refl _)).put (Nat.le_refl _)).put (Nat.le_refl _)).trans g₁
  have hr := (g₁.old σ.n (Nat.lt_succ_self _)).trans put_eq
  refine t_attr (.var rfl) hr (P.fR _ (by decide)) (s_attr (.var rfl) (.var rfl) put_eq (P.fR _ (by decide)) (s_nil ⟨rfl, h _ (σ.n + 1) ((g0.put (Nat.le_refl _)).put (Nat.le_refl _)) (Nat.le_succ _) ((T₁.putN ?_ ?_).putN ?_ ?_) ⟨put_eq, ?_, ?_⟩⟩))
  · exact Nat.ne_of_lt (Nat.lt_succ_self _)
  · exact ne.symm
  · exact Nat.ne_of_lt (Nat.lt_succ_self _)
  · exact ne.symm
  · exact Nat.lt_of_lt_of_le (Nat.lt_succ_self σ.n) g₁.n
  · exact Nat.ne_of_lt (Nat.lt_succ_self _)))
end
end Mine
end

section
open PySem PySem.W PyProof.Rows PySem.Calls
set_option Elab.async false
set_option linter.unusedVariables false
set_option maxRecDepth 100000
namespace Mine

structure Fg (c : Sx) : Prop where
  calB : ∀ a ∈ bcalls, c.callee a = true
  b : ∀ p ∈ bmeths, c.bmeth p.1.1 p.1.2 = some (.builtin p.2)
  calF : c.callee (.ref 850) = true
  figures : FnR c 850 [20, 21] 2 [] B.b_law_figures

section
variable {c : Sx} {lv : Nat} {hd : Option Nat} {σ σ' : St} {ρ : Loc} {Q : Fl → Loc → St → Prop} {X : Nat → Loc → St → Prop} {r : Ss} {Qc : PV → St → Prop} {Xc : Nat → St → Prop}

theorem s_augF {x : Nat} {e : E} {i j : Int} (h0 : ρ x = some (.int i)) (v : EV c lv hd σ ρ e (.int j)) (hj : j ≠ 0) (hb : j.natAbs < 1073741824) (h : wpSs c lv r hd (upd ρ x (.int (Int.fdiv i j))) σ Q X) : wpSs c lv (.cons (.aug x .FloorDiv e) r) hd ρ σ Q X := by
  show (match ρ x with
      | some p => (wp c lv hd e ρ).e σ (fun q σ => wAug .FloorDiv p q σ fun r' σ => wpSs c lv r hd (upd ρ x r') σ Q X) (fun i σ => X i ρ σ)
      | none => False)
  rw [h0]; exact v _ _ ⟨hj, hb, h⟩
theorem int_cv {i : Int} : CV c lv hd σ (.type "int") [.int i] (.int i) := fun Q X h => int_ok h
noncomputable def forK (c : Sx) (lv : Nat) (t : T) (b r : Ss) (Q : Fl → Loc → St → Prop) (X : Nat → Loc → St → Prop) (ρ : Loc) : PV → St → Prop := fun p σ => (none : Option Nat) = none ∧ wSeq σ p fun G vs => wFor G (fun ρ σ v Q X => wpT c lv none ρ σ v Q X t) (fun ρ σ Q X => wpSs c lv b none ρ σ Q X) vs ρ σ (andThen c lv none r Q X) X
theorem s_forE {t : T} {e : E} {b : Ss} (h : (wp c lv none e ρ).e σ (forK c lv t b r Q X ρ) fun i σ => X i ρ σ) : wpSs c lv (.cons (.for_ t e b) r) none ρ σ Q X := h
/-- the loop over a list's items -/
theorem forK_list {t : T} {b : Ss} {i : Nat} {vs : List PV} (e : σ.at_ i = some (.list vs)) (I : List PV → Loc → St → Prop) (h0 : I vs ρ σ) (hg : ∀ rest ρ σ, I rest ρ σ → σ.at_ i = some (.list vs))
    (step : ∀ v rest ρ σ (R : Loc → St → Prop), I (v :: rest) ρ σ → (∀ ρ' σ', I rest ρ' σ' → R ρ' σ') → wpT c lv none ρ σ v (fun ρ σ => wpSs c lv b none ρ σ (fun fl ρ σ => match fl with | .next => R ρ σ | .cont => R ρ σ | .brk => andThen c lv none r Q X .next ρ σ | .ret p => Q (.ret p) ρ σ) X) X t)
    (last : ∀ ρ σ, I [] ρ σ → wpSs c lv r none ρ σ Q X) : forK c lv t b r Q X ρ (.ref i) σ := ⟨rfl, by
  unfold wSeq wLst wRef; dsimp only
  rw [e]
  dsimp only
  have all : ∀ (us : List PV) (ρ : Loc) (σ : St), I us ρ σ → wFor (fun σ => σ.at_ i = some (.list vs)) (fun ρ σ v Q X => wpT c lv none ρ σ v Q X t) (fun ρ σ Q X => wpSs c lv b none ρ σ Q X) us ρ σ (andThen c lv none r Q X) X := by
    intro us
    induction us with
    | nil => exact fun ρ σ h => ⟨hg _ _ _ h, last ρ σ h⟩
    | cons v rest ih => exact fun ρ σ h => ⟨hg _ _ _ h, step v rest ρ σ _ h fun ρ' σ' h' => ih ρ' σ' h'⟩
  exact all vs ρ σ h0⟩
theorem EV.pow : EV c lv hd σ ρ (.bin .Pow (.lit (.int 96)) (.lit (.int 24))) (.int (96 ^ 24)) := fun Q X h => ⟨rfl, rfl, h⟩
theorem wSlc_list {j a b : Nat} {vs : List PV} {l u : PV} {Q : PV → St → Prop} (e : σ.at_ j = some (.list vs)) (b1 : bnd vs.length 0 l = some a) (b2 : bnd vs.length vs.length u = some b) (h : Q (.ref σ.n) (σ.new (.list ((vs.drop a).take (b - a))))) : wSlc c (.ref j) l u σ Q := by
  unfold wSlc; dsimp only; rw [e]; exact ⟨a, b, b1, b2, h⟩
theorem bnd_int {n w : Nat} : bnd n n (.int w) = some (min w n) := by
  show (if 0 ≤ (w : Int) then some (min (w : Int).toNat _) else none) = _
  rw [if_pos (Int.natCast_nonneg _), Int.toNat_natCast]
theorem e_slcE {a l u : E} {Qe : PV → St → Prop} {Xe : Nat → St → Prop} (h : (wp c lv hd a ρ).e σ (fun p σ => (wp c lv hd l ρ).e σ (fun ql σ => (wp c lv hd u ρ).e σ (fun qu σ => wSlc c p ql qu σ Qe) Xe) Xe) Xe) : (wp c lv hd (.slc a l u) ρ).e σ Qe Xe := h
theorem e_binE {o : Operator} {a b : E} {Qe : PV → St → Prop} {Xe : Nat → St → Prop} (h : (wp c lv hd a ρ).e σ (fun p σ => (wp c lv hd b ρ).e σ (fun q σ => wBin o p q σ Qe) Xe) Xe) : (wp c lv hd (.bin o a b) ρ).e σ Qe Xe := h

theorem pow_step {r : Int} {k : Nat} (h0 : 0 < r) (h : r < 96 ^ k) : ∃ k', k = k' + 1 ∧ 0 ≤ Int.fdiv r 96 ∧ Int.fdiv r 96 < 96 ^ k' := by
  cases k with
  | zero => simp at h; omega
  | succ k =>
    refine ⟨k, rfl, ?_, ?_⟩
    · rw [Int.fdiv_eq_ediv_of_nonneg _ (by decide)]; omega
    · rw [Int.fdiv_eq_ediv_of_nonneg _ (by decide)]
      rw [Int.pow_succ] at h
      exact Int.ediv_lt_of_lt_mul (by decide) h
theorem mod_rng {r : Int} (h : 0 ≤ r) : 0 ≤ Int.fmod r 96 ∧ Int.fmod r 96 < 96 := by
  rw [Int.fmod_eq_emod_of_nonneg _ (by decide)]
  exact ⟨Int.emod_nonneg _ (by decide), Int.emod_lt_of_pos _ (by decide)⟩

/-- the figures: as many as wanted, each below 96 -/
theorem figures_ok (P : Fg c) {w : Nat} (hw : w ≤ 100) (h : ∀ (σ' : St) (i : Nat) (fs : List Int), Grow σ σ' → σ.n ≤ i → i < σ'.n → σ'.at_ i = some (.list (fs.map .int)) → fs.length = w → (∀ x ∈ fs, 0 ≤ x ∧ x < 96) → Qc (.ref i) σ') :
    CallOk c (lv + 1) none (.ref 850) [.st (.ref c.scr), .int w] σ Qc Xc := (P.figures _ _ _ _ _ _ rfl (by
  refine s_asgE (e_lst .nil (s_forE (e_slcE (e_of (.var rfl) (e_of .lit (e_of (.var rfl) ?_))))))
  show wSlc c (.st (.ref c.scr)) .none (.int w) (σ.new (.list [])) _
  refine ⟨rfl, 0, _, rfl, bnd_int, ?_⟩
  rw [Nat.sub_zero, List.drop_zero]
  have hlen : ((c.scrI.map PV.int).take (min w c.scrI.length)) = (c.scrI.take (min w c.scrI.length)).map .int := (List.map_take).symm
  rw [hlen]
  generalize hcell : c.scrI.take (min w c.scrI.length) = cells
  have hcl : cells.length ≤ 100 := by rw [← hcell, List.length_take]; omega
  have n1 : σ.n + 1 ≠ σ.n := Nat.succ_ne_self _
  have fin : ∀ {ρ : Loc} {σ₁ : St} {row : List Int}, ρ 22 = some (.ref σ.n) → ρ 21 = some (.int w) → Grow σ σ₁ → σ.n + 1 < σ₁.n → σ₁.at_ σ.n = some (.list (row.map .int)) → row.length ≤ 5000 → (∀ x ∈ row, 0 ≤ x ∧ x < 96) →
      wpSs c lv (.cons (.ret (.slc (.bin .Add (.var 22) (.bin .Mult (.lst (.cons (.lit (.int (0))) .nil)) (.var 21))) (.lit .none) (.var 21))) .nil) none ρ σ₁ (fun fl _ σ => Qc (retOf fl) σ) fun i _ σ => Xc i σ := fun {ρ σ₁ row} r1 r2 g hn hr hl hx => by
    refine s_retE (e_slcE (e_binE (e_of (.var r1) (e_binE (e_lst (.cons .lit .nil) (e_of (.var r2) ⟨[.int 0], if_pos rfl, Int.natCast_nonneg _, by omega, by decide, ?_⟩))))))
    have ha : (((σ₁.new (.list [.int 0])).new (.list ((List.replicate (w : Int).toNat [PV.int 0]).flatten)))).at_ σ.n = some (.list (row.map .int)) := (if_neg (by show σ.n ≠ σ₁.n + 1; omega)).trans ((if_neg (by omega)).trans hr)
    refine ⟨row.map .int, (List.replicate (w : Int).toNat [PV.int 0]).flatten, ha, if_pos rfl, ?_, e_of .lit (e_of (.var r2) ?_)⟩
    · rw [List.length_map, List.length_flatten, List.map_replicate, List.sum_replicate_nat]; simp; omega
    · have hz : (List.replicate (w : Int).toNat [PV.int 0]).flatten = (List.replicate w (0 : Int)).map .int := by rw [Int.toNat_natCast, List.map_replicate]; exact List.flatten_replicate_singleton
      rw [hz, ← List.map_append]
      refine wSlc_list (if_pos rfl) rfl bnd_int ?_
      rw [Nat.sub_zero, List.drop_zero, ← List.map_take, show min w (List.map PV.int (row ++ List.replicate w 0)).length = w by rw [List.length_map, List.length_append, List.length_replicate]; omega]
      refine h _ _ (List.take w (row ++ List.replicate w (0 : Int))) ((((g.new).new).new).new) (by show σ.n ≤ σ₁.n + 1 + 1 + 1; have := g.n; omega) (Nat.lt_succ_self _) (if_pos rfl) (by rw [List.length_take, List.length_append, List.length_replicate]; omega) fun x hx' => ?_
      rcases List.mem_append.mp (List.mem_of_mem_take hx') with q | q
      · exact hx x q
      · rw [(List.mem_replicate.mp q).2]; decide
  refine forK_list (i := σ.n + 1) (if_pos rfl) (fun rest ρ σ' => ∃ (cl : List Int) (row : List Int), rest = cl.map .int ∧ ρ 22 = some (.ref σ.n) ∧ ρ 21 = some (.int w) ∧ Grow σ σ' ∧ σ.n + 1 < σ'.n ∧ σ'.at_ σ.n = some (.list (row.map .int)) ∧ σ'.at_ (σ.n + 1) = some (.list (cells.map .int)) ∧ row.length + 25 * cl.length ≤ 2500 ∧ ∀ x ∈ row, 0 ≤ x ∧ x < 96)
    ⟨cells, [], rfl, rfl, rfl, grow_new.new, Nat.lt_succ_self _, (if_neg n1.symm).trans (if_pos rfl), if_pos rfl, by rw [List.length_nil]; omega, fun x hx => (nomatch hx)⟩ (fun rest ρ σ' ⟨_, _, _, _, _, _, _, _, q, _⟩ => q) (fun v rest ρ σ₁ R ⟨cl, row, e, r1, r2, g, hn, hr, hc, hl, hx⟩ ih => ?_) fun ρ σ₁ ⟨cl, row, e, r1, r2, g, hn, hr, hc, hl, hx⟩ => fin r1 r2 g hn hr (by omega) hx
  cases cl with
  | nil => cases e
  | cons x cl =>
    obtain ⟨rfl, rfl⟩ := List.cons.inj e
    rw [List.length_cons] at hl
    have p96 : (0 : Int) < 96 ^ 24 := by decide
    have hr0 : 0 ≤ Int.fmod x (96 ^ 24) ∧ Int.fmod x (96 ^ 24) < 96 ^ 24 := by
      rw [Int.fmod_eq_emod_of_nonneg _ (Int.le_of_lt p96)]
      exact ⟨Int.emod_nonneg _ (by decide), Int.emod_lt_of_pos _ p96⟩
    have app : ∀ {σ₂ : St} {row : List Int} {v : Int}, Grow σ σ₂ → σ₂.at_ (σ.n + 1) = some (.list (cells.map .int)) → Grow σ (σ₂.put σ.n (.list ((row ++ [v]).map .int))) ∧ (σ₂.put σ.n (.list ((row ++ [v]).map .int))).at_ (σ.n + 1) = some (.list (cells.map .int)) := fun {σ₂ row v} g hc => ⟨g.put (Nat.le_refl _), (put_ne n1).trans hc⟩
    have sapp : ∀ {ρ : Loc} {σ₂ : St} {row : List Int} {e : E} {v : Int} {r : Ss} {Q : Fl → Loc → St → Prop} {X : Nat → Loc → St → Prop}, ρ 22 = some (.ref σ.n) → σ₂.at_ σ.n = some (.list (row.map .int)) → row.length ≤ 5000 → EV c lv none σ₂ ρ e (.int v) → wpSs c lv r none ρ (σ₂.put σ.n (.list ((row ++ [v]).map .int))) Q X → wpSs c lv (.cons (.expr (.meth (.var 22) 25 (.cons e .nil))) r) none ρ σ₂ Q X := fun {ρ σ₂ row e v r Q X} r1 hi hl y h =>
      s_exprE (e_methL (.var r1) hi (P.b ((0, 25), "list.append") (by decide)) (.cons y .nil) (append_ok hi (by rw [List.length_map]; omega) (by rw [List.map_append] at h; exact h)))
    have snoc : ∀ {row : List Int} {v : Int}, (∀ x ∈ row, 0 ≤ x ∧ x < 96) → 0 ≤ v ∧ v < 96 → ∀ x ∈ row ++ [v], 0 ≤ x ∧ x < 96 := fun {row v} hx hv y hy => by
      rcases List.mem_append.mp hy with q | q
      · exact hx y q
      · rw [List.mem_singleton.mp q]; exact hv
    refine s_var (.mod (.call (P.calB _ (by decide)) (.cons (.var rfl) .nil) int_cv) .pow (by decide)) (sapp r1 hr (by omega) (.mod (.var rfl) .lit (by decide)) (s_augF rfl .lit (by decide) (by decide) ?_))
    have hd0 : 0 ≤ Int.fdiv (Int.fmod x (96 ^ 24)) 96 ∧ Int.fdiv (Int.fmod x (96 ^ 24)) 96 < 96 ^ 24 := by
      rw [Int.fdiv_eq_ediv_of_nonneg _ (by decide)]
      exact ⟨by omega, Int.lt_of_le_of_lt (Int.ediv_le_self _ hr0.1) hr0.2⟩
    refine s_while (fun m ρ σ' => ∃ (rs : Int) (row' : List Int), ρ 24 = some (.int rs) ∧ 0 ≤ rs ∧ rs < 96 ^ m ∧ ρ 22 = some (.ref σ.n) ∧ ρ 21 = some (.int w) ∧ Grow σ σ' ∧ σ.n + 1 < σ'.n ∧ σ'.at_ σ.n = some (.list (row'.map .int)) ∧ σ'.at_ (σ.n + 1) = some (.list (cells.map .int)) ∧ row'.length + m + 25 * cl.length ≤ 2500 ∧ ∀ x ∈ row', 0 ≤ x ∧ x < 96)
      (fun m R' ρ σ₂ ⟨rs, row', r3, h1, h2, r1, r2, g, hn, hr, hc, hl, hx⟩ ih' => ⟨_, .gt (.var r3) .lit, fun q => ?_, fun q => ?_⟩) (m := 24) ⟨_, _, rfl, hd0.1, hd0.2, r1, r2, (app g hc).1, hn, put_eq, (app g hc).2, by rw [List.length_append]; exact Nat.le_trans (by show row.length + 1 + 24 + _ ≤ row.length + 25 * (cl.length + 1); omega) hl, snoc hx (mod_rng hr0.1)⟩
    · obtain ⟨m', rfl, k1, k2⟩ := pow_step q h2
      exact sapp r1 hr (by omega) (.mod (.var r3) .lit (by decide)) (s_augF r3 .lit (by decide) (by decide) (s_nil (ih' m' _ _ (Nat.lt_succ_self _) ⟨_, _, rfl, k1, k2, r1, r2, (app g hc).1, hn, put_eq, (app g hc).2, by rw [List.length_append]; exact Nat.le_trans (by show row'.length + 1 + m' + _ ≤ row'.length + (m' + 1) + 25 * cl.length; omega) hl, snoc hx (mod_rng h1)⟩)))
    · refine s_if (.ge (.call (P.calB _ (by decide)) (.cons (.var r1) .nil) (len_cv hr)) (.var r2)) (fun _ => s_brk ?_) fun _ => s_nil (an_nil (ih _ _ ⟨cl, row', rfl, r1, r2, g, hn, hr, hc, by omega, hx⟩))
      exact fin r1 r2 g hn hr (by omega) hx)).call
end
end Mine
end

section
open PySem PySem.W PyProof.Rows PySem.Calls
set_option Elab.async false
set_option linter.unusedVariables false
set_option maxRecDepth 100000
namespace Mine

/-! ## what is due -/
structure DE where
  ks : List Tk
  w : Option (List Nat × List Int)
  r : List Int
noncomputable def DE.out (e : DE) : Ga := match e.w with
  | none => .ok e.ks e.r
  | some z => .fault z.1 z.2 e.r
noncomputable def gaS (cs s : List Int) : Ga := gaM cs 0 (cs.length + 1) s []
noncomputable def Link (cs : List Int) : List Int → List DE → List Int → Prop
  | s, [], s' => s = s'
  | s, e :: es, s' => gaS cs s = e.out ∧ Link cs e.r es s'
theorem Link.snoc {cs : List Int} {e : DE} : ∀ {s s' : List Int} {L : List DE}, Link cs s L s' → gaS cs s' = e.out → Link cs s (L ++ [e]) e.r
  | s, s', [], h, k => by cases h; exact ⟨k, rfl⟩
  | s, s', x :: xs, h, k => ⟨h.1, Link.snoc h.2 k⟩
noncomputable def Open_ (cs s₀ z : List Int) (acc : List Tk) (n : Nat) : Option (List Nat × List Int) → Prop
  | none => gaS cs s₀ = gaM cs 0 n z acc
  | some w => gaS cs s₀ = .fault w.1 w.2 (skM cs 0 n z)
section
variable {cs : List Int}
theorem skM_fuel (ok : Ok cs) : ∀ (n n' : Nat) (s : List Int), s <:+ cs → s.length < n → s.length < n' → skM cs 0 n s = skM cs 0 n' s
  | 0, _, s, _, h, _ => absurd h (Nat.not_lt_zero _)
  | _, 0, s, _, _, h => absurd h (Nat.not_lt_zero _)
  | n + 1, n' + 1, s, hs, h, h' => by
    have pg := nextM_prog (cs := cs) (o := 0) (s := s) (fun x hx => ok.rng x (hs.subset hx))
    rw [skM, skM]
    cases e : nextM cs 0 s with
    | tok k r =>
      rw [e] at pg
      dsimp only
      by_cases q : k.kind = kEnd ∨ k.kind = kEof
      · rw [if_pos q, if_pos q]
      · rw [if_neg q, if_neg q]
        rcases pg.2.2.2 with ⟨_, w⟩ | ⟨w, _⟩
        · exact skM_fuel ok n n' r (pg.1.trans hs) (by omega) (by omega)
        · exact absurd (.inr (by rw [w])) q
    | fault kd u r =>
      rw [e] at pg
      exact skM_fuel ok n n' r (pg.1.trans hs) (by have := pg.2.1; omega) (by have := pg.2.1; omega)
theorem gaM_fuel (ok : Ok cs) : ∀ (n n' : Nat) (s : List Int) (acc : List Tk), s <:+ cs → s.length < n → s.length < n' → gaM cs 0 n s acc = gaM cs 0 n' s acc
  | 0, _, s, _, _, h, _ => absurd h (Nat.not_lt_zero _)
  | _, 0, s, _, _, _, h => absurd h (Nat.not_lt_zero _)
  | n + 1, n' + 1, s, acc, hs, h, h' => by
    have pg := nextM_prog (cs := cs) (o := 0) (s := s) (fun x hx => ok.rng x (hs.subset hx))
    rw [gaM, gaM]
    cases e : nextM cs 0 s with
    | tok k r =>
      rw [e] at pg
      dsimp only
      by_cases q : k.kind = kEnd
      · rw [if_pos q, if_pos q]
      · rw [if_neg q, if_neg q]
        by_cases q' : k.kind = kEof
        · rw [if_pos q', if_pos q']
        · rw [if_neg q', if_neg q']
          rcases pg.2.2.2 with ⟨_, w⟩ | ⟨w, _⟩
          · exact gaM_fuel ok n n' r _ (pg.1.trans hs) (by omega) (by omega)
          · exact absurd (by rw [w]) q'
    | fault kd u r => rfl
theorem gaS_nil : gaS cs [] = .ok [] [] := by
  have : nextM cs 0 [] = .tok ⟨kEof, .str [], []⟩ [] := by rw [nextM, layM]; rfl
  unfold gaS; rw [gaM, this]; rfl

/-- one more token -/
theorem open_tok (ok : Ok cs) {s₀ z r : List Int} {acc : List Tk} {k : Tk} {n : Nat} {w : Option (List Nat × List Int)} (h : Open_ cs s₀ z acc (n + 1) w) (hz : z <:+ cs) (e : nextM cs 0 z = .tok k r) (h1 : k.kind ≠ kEnd) (h2 : k.kind ≠ kEof) : Open_ cs s₀ r (acc ++ [k]) n w := by
  cases w with
  | none =>
    have h : gaS cs s₀ = gaM cs 0 (n + 1) z acc := h
    rw [gaM, e] at h
    exact h.trans ((if_neg h1).trans (if_neg h2))
  | some w =>
    have h : gaS cs s₀ = .fault w.1 w.2 (skM cs 0 (n + 1) z) := h
    rw [skM, e] at h
    exact h.trans (congrArg (Ga.fault w.1 w.2) (if_neg fun q => q.elim h1 h2))
theorem open_fault (ok : Ok cs) {s₀ z r u : List Int} {acc : List Tk} {kd : List Nat} {n : Nat} {w : Option (List Nat × List Int)} (h : Open_ cs s₀ z acc (n + 1) w) (hz : z <:+ cs) (hn : r.length < n) (e : nextM cs 0 z = .fault kd u r) :
    Open_ cs s₀ r acc n (some (w.getD (kd, u))) := by
  have pg := nextM_prog (cs := cs) (o := 0) (s := z) (fun x hx => ok.rng x (hz.subset hx))
  rw [e] at pg
  cases w with
  | none =>
    have h : gaS cs s₀ = gaM cs 0 (n + 1) z acc := h
    rw [gaM, e] at h
    have hr := pg.1.trans hz
    exact h.trans (congrArg (Ga.fault kd u) (skM_fuel ok (cs.length + 1) n r hr (Nat.lt_succ_of_le hr.length_le) hn))
  | some w =>
    have h : gaS cs s₀ = .fault w.1 w.2 (skM cs 0 (n + 1) z) := h
    rw [skM, e] at h
    exact h
theorem open_end {s₀ z r : List Int} {acc : List Tk} {k : Tk} {n : Nat} {w : Option (List Nat × List Int)} (h : Open_ cs s₀ z acc (n + 1) w) (e : nextM cs 0 z = .tok k r) (h1 : k.kind = kEnd) :
    gaS cs s₀ = (DE.mk (match w with | none => acc ++ [k] | some _ => []) w r).out := by
  cases w with
  | none =>
    have h : gaS cs s₀ = gaM cs 0 (n + 1) z acc := h
    rw [gaM, e] at h
    exact h.trans (if_pos h1)
  | some w =>
    have h : gaS cs s₀ = .fault w.1 w.2 (skM cs 0 (n + 1) z) := h
    rw [skM, e] at h
    exact h.trans (congrArg (Ga.fault w.1 w.2) (if_pos (.inl h1)))
theorem open_eof {s₀ z : List Int} {acc : List Tk} {n : Nat} {w : Option (List Nat × List Int)} (h : Open_ cs s₀ z acc (n + 1) w) (e : nextM cs 0 z = .tok ⟨kEof, .str [], []⟩ []) :
    gaS cs s₀ = match w with
      | none => if acc = [] then .ok [] [] else .fault kEofU [] []
      | some w => .fault w.1 w.2 [] := by
  have ne : ¬ kEof = kEnd := by decide
  cases w with
  | none =>
    have h : gaS cs s₀ = gaM cs 0 (n + 1) z acc := h
    rw [gaM, e] at h
    exact h.trans ((if_neg ne).trans (if_pos rfl))
  | some w =>
    have h : gaS cs s₀ = .fault w.1 w.2 (skM cs 0 (n + 1) z) := h
    rw [skM, e] at h
    exact h.trans (congrArg (Ga.fault w.1 w.2) (if_pos (.inr rfl)))
end

/-! the walk -/
noncomputable def wPV (cs : List Int) : Option (List Nat × List Int) → PV
  | none => .tup []
  | some w => .tup [.str w.1, .int (ps cs w.2), .int (placeOf cs (ps cs w.2)).1, .int (placeOf cs (ps cs w.2)).2]
noncomputable def wD (cs : List Int) : Option (List Nat × List Int) → PyData
  | none => .tuple []
  | some w => .tuple [.str ⟨w.1.toArray⟩, .int (ps cs w.2), .int (placeOf cs (ps cs w.2)).1, .int (placeOf cs (ps cs w.2)).2]
noncomputable def WOk : Option (List Nat × List Int) → Prop
  | none => True
  | some w => KdOk w.1
theorem strOk_of {x : List Nat} (h : ∀ y ∈ x, y < 1114112) : PyData.strOk ⟨x.toArray⟩ = true := by
  unfold PyData.strOk
  rw [List.all_toArray, List.all_eq_true]
  exact fun y hy => decide_eq_true (h y hy)
theorem w_dOf {σ : St} {cs : List Int} : ∀ {w : Option (List Nat × List Int)}, WOk w → dOf σ 60 (wPV cs w) = some (wD cs w)
  | none, _ => rfl
  | some w, h => by
    show ((List.mapM (dOf σ 59) [.str w.1, _, _, _]).map PyData.tuple) = _
    rw [List.mapM_cons, show dOf σ 59 (.str w.1) = _ from if_pos (strOk_of h.1)]
    rfl
theorem w_eqv {cs : List Int} : ∀ {w : Option (List Nat × List Int)}, PyData.eqv (wD cs w) (.tuple []) = w.isNone
  | none => rfl
  | some _ => rfl

structure Du (c : Sx) : Prop extends Mk c where
  calD : c.callee (.ref 857) = true
  due : FnR c 857 [2] 1 [] B.b_law_due

section
variable {c : Sx} {lv : Nat} {hd : Option Nat} {σ σ' : St} {ρ : Loc} {Q : Fl → Loc → St → Prop} {X : Nat → Loc → St → Prop} {r : Ss} {Qc : PV → St → Prop} {Xc : Nat → St → Prop} {cs : List Int}
theorem EV.eqTT {a b : E} {vs us : List PV} {da db : PyData} (x : EV c lv hd σ ρ a (.tup vs)) (y : EV c lv hd σ ρ b (.tup us)) (h1 : dOf σ 60 (.tup vs) = some da) (h2 : dOf σ 60 (.tup us) = some db) : EV c lv hd σ ρ (.cmp .Eq a b) (.bool (PyData.eqv da db)) := fun Q X h => x _ _ (y _ _ (.inr (.inr ⟨da, db, h1, h2, h⟩)))
theorem EV.neTT {a b : E} {vs us : List PV} {da db : PyData} (x : EV c lv hd σ ρ a (.tup vs)) (y : EV c lv hd σ ρ b (.tup us)) (h1 : dOf σ 60 (.tup vs) = some da) (h2 : dOf σ 60 (.tup us) = some db) : EV c lv hd σ ρ (.cmp .NotEq a b) (.bool (!PyData.eqv da db)) := fun Q X h => x _ _ (y _ _ (.inr (.inr ⟨da, db, h1, h2, h⟩)))
theorem wPV_tup (cs : List Int) (w : Option (List Nat × List Int)) : ∃ vs, wPV cs w = .tup vs := by cases w <;> exact ⟨_, rfl⟩
theorem w_none {x : Nat} {w : Option (List Nat × List Int)} (h : WOk w) (e : ρ x = some (wPV cs w)) : TP c lv hd σ ρ (.cmp .Eq (.var x) (.tup .nil)) (w = none) := fun Q X p q => by
  obtain ⟨vs, hv⟩ := wPV_tup cs w
  rw [hv] at e
  have hd1 := w_dOf (σ := σ) (cs := cs) h
  rw [hv] at hd1
  have t := TP.cmp (EV.eqTT (c := c) (lv := lv) (hd := hd) (.var e) (.tup .nil) (db := .tuple []) hd1 rfl)
  rw [w_eqv, Option.isNone_iff_eq_none] at t
  exact t Q X p q
theorem w_some {x : Nat} {w : Option (List Nat × List Int)} (h : WOk w) (e : ρ x = some (wPV cs w)) : TP c lv hd σ ρ (.cmp .NotEq (.var x) (.tup .nil)) (w ≠ none) := fun Q X p q => by
  obtain ⟨vs, hv⟩ := wPV_tup cs w
  rw [hv] at e
  have hd1 := w_dOf (σ := σ) (cs := cs) h
  rw [hv] at hd1
  have t := TP.cmp (EV.neTT (c := c) (lv := lv) (hd := hd) (.var e) (.tup .nil) (db := .tuple []) hd1 rfl)
  rw [w_eqv, Bool.not_eq_true', Option.isNone_eq_false_iff, Option.isSome_iff_ne_none] at t
  exact t Q X p q
theorem s_forR {t : T} {e : E} {b : Ss} {n : Int} (v : EV c lv none σ ρ e (.int n)) (hn : -1000000 ≤ n ∧ n ≤ 1000000) (I : Nat → Loc → St → Prop) (h0 : I n.toNat ρ σ)
    (step : ∀ k m ρ σ (R : Loc → St → Prop), I (m + 1) ρ σ → (∀ ρ' σ', I m ρ' σ' → R ρ' σ') → wpT c lv none ρ σ (.int k) (fun ρ σ => wpSs c lv b none ρ σ (fun fl ρ σ => match fl with | .next => R ρ σ | .cont => R ρ σ | .brk => andThen c lv none r Q X .next ρ σ | .ret p => Q (.ret p) ρ σ) X) X t)
    (last : ∀ ρ σ, I 0 ρ σ → wpSs c lv r none ρ σ Q X) : wpSs c lv (.cons (.forR t e b) r) none ρ σ Q X := v _ _ ⟨rfl, hn.1, hn.2, by
  have all : ∀ (us : List Nat) (ρ : Loc) (σ : St), I us.length ρ σ → wFor (fun _ => True) (fun ρ σ v Q X => wpT c lv none ρ σ v Q X t) (fun ρ σ Q X => wpSs c lv b none ρ σ Q X) (us.map fun k => PV.int (k : Nat)) ρ σ (andThen c lv none r Q X) X := by
    intro us
    induction us with
    | nil => exact fun ρ σ h => ⟨trivial, last ρ σ h⟩
    | cons k rest ih => exact fun ρ σ h => ⟨trivial, step k rest.length ρ σ _ h fun ρ' σ' h' => ih ρ' σ' h'⟩
  exact all (List.range n.toNat) ρ σ (by rw [List.length_range]; exact h0)⟩
end
end Mine
end

section
open PySem PySem.W PyProof.Rows PySem.Calls
set_option Elab.async false
set_option linter.unusedVariables false
set_option maxRecDepth 100000
namespace Mine

noncomputable def TV.d : TV → PyData
  | .str x => .str ⟨x.toArray⟩
  | .int i => .int i
  | .ints xs => .tuple (xs.map .int)
noncomputable def Tk.d (cs : List Int) (k : Tk) : PyData := .tuple [.str ⟨k.kind.toArray⟩, k.v.d, .int (ps cs k.s)]
noncomputable def Tk.Ok (k : Tk) : Prop := k.v.Good ∧ KdOk k.kind
theorem mapM_map {α β γ : Type} {f : β → Option γ} {g : α → β} {h : α → γ} : ∀ {xs : List α}, (∀ x ∈ xs, f (g x) = some (h x)) → (xs.map g).mapM f = some (xs.map h)
  | [], _ => rfl
  | x :: xs, e => by
    rw [List.map_cons, List.mapM_cons, e x (.head _), mapM_map fun y hy => e y (.tail _ hy)]; rfl
theorem v_dOf {σ : St} {n : Nat} : ∀ {v : TV}, v.Good → dOf σ (n + 2) v.pv = some v.d
  | .str x, h => by
    show (if PyData.strOk ⟨x.toArray⟩ then some (PyData.str ⟨x.toArray⟩) else none) = _
    rw [if_pos (strOk_of h)]; rfl
  | .int i, _ => rfl
  | .ints xs, _ => by
    show ((xs.map PV.int).mapM (dOf σ (n + 1))).map PyData.tuple = _
    rw [mapM_map (f := dOf σ (n + 1)) (h := PyData.int) fun x _ => rfl]; rfl
theorem tk_dOf {σ : St} {n : Nat} {cs : List Int} {k : Tk} (h : k.Ok) : dOf σ (n + 3) (k.pv cs) = some (k.d cs) := by
  show (([.str k.kind, k.v.pv, .int (ps cs k.s)] : List PV).mapM (dOf σ (n + 2))).map PyData.tuple = _
  have e : dOf σ (n + 2) (.str k.kind) = some (.str ⟨k.kind.toArray⟩) := by
    show (if PyData.strOk ⟨k.kind.toArray⟩ then some (PyData.str ⟨k.kind.toArray⟩) else none) = _
    rw [if_pos (strOk_of h.2.1)]
  rw [List.mapM_cons, List.mapM_cons, List.mapM_cons, e, v_dOf h.1]; rfl
theorem toks_dOf {σ : St} {cs : List Int} {i : Nat} {ks : List Tk} (h : ∀ k ∈ ks, k.Ok) (e : σ.at_ i = some (.list (ks.map (·.pv cs)))) : dOf σ 60 (.ref i) = some (.list (ks.map (·.d cs))) := by
  show (match σ.at_ i with
      | some (.list vs) => (vs.mapM (dOf σ 59)).map PyData.list
      | _ => none) = _
  rw [e]
  show ((ks.map (·.pv cs)).mapM (dOf σ 59)).map PyData.list = _
  rw [mapM_map (h := (·.d cs)) fun k hk => tk_dOf (n := 56) (h k hk)]; rfl

section
variable {c : Sx} {lv : Nat} {hd : Option Nat} {σ σ' : St} {ρ : Loc} {Q : Fl → Loc → St → Prop} {X : Nat → Loc → St → Prop} {r : Ss} {Qc : PV → St → Prop} {Xc : Nat → St → Prop} {cs : List Int}
/-! conditions that make an object -/
noncomputable def TPG (c : Sx) (lv : Nat) (hd : Option Nat) (σ : St) (ρ : Loc) (e : E) (P : Prop) : Prop := ∀ (Q : Bool → St → Prop) (X : Nat → St → Prop), (∀ σ', Grow σ σ' → P → Q true σ') → (∀ σ', Grow σ σ' → ¬ P → Q false σ') → (wp c lv hd e ρ).t σ Q X
noncomputable def TPGs (c : Sx) (lv : Nat) (hd : Option Nat) (σ : St) (ρ : Loc) (e : Es) (P : Prop) : Prop := ∀ (Q : Bool → St → Prop) (X : Nat → St → Prop), (∀ σ', Grow σ σ' → P → Q true σ') → (∀ σ', Grow σ σ' → ¬ P → Q false σ') → (wps c lv hd e ρ).t .And σ Q X
theorem TPGs.and {e : E} {es : Es} {P R : Prop} (x : TP c lv hd σ ρ e P) (y : P → TPGs c lv hd σ ρ es R) : TPGs c lv hd σ ρ (.cons e es) (P ∧ R) := fun Q X h k =>
  x _ _ (fun p => y p _ _ (fun σ' g r => h σ' g ⟨p, r⟩) fun σ' g r => k σ' g fun z => r z.2) fun p => k σ .refl fun z => p z.1
theorem TPGs.and1 {e : E} {P : Prop} (x : TPG c lv hd σ ρ e P) : TPGs c lv hd σ ρ (.cons e .nil) P := fun Q X h k => x _ _ h k
theorem TPG.bools {es : Es} {P : Prop} (x : TPGs c lv hd σ ρ es P) : TPG c lv hd σ ρ (.bools .And es) P := x
theorem TPG.neL {x i : Nat} {ks : List Tk} (e : ρ x = some (.ref i)) (hi : σ.at_ i = some (.list (ks.map (·.pv cs)))) (hn : i < σ.n) (ok : ∀ k ∈ ks, k.Ok) : TPG c lv hd σ ρ (.cmp .NotEq (.var x) (.lst .nil)) (ks ≠ []) := fun Q X h k => by
  refine (EV.var (c := c) (lv := lv) (hd := hd) e) (fun p σ => (wp c lv hd (.lst .nil) ρ).e σ (fun q σ => wCmp .NotEq p q σ fun r σ => wTruth σ r fun b => Q b σ) X) X (e_lst .nil ?_)
  have hi' : (σ.new (.list [])).at_ i = some (.list (ks.map (·.pv cs))) := (if_neg (Nat.ne_of_lt hn)).trans hi
  refine .inr (.inr ⟨_, _, toks_dOf ok hi', toks_dOf (ks := []) (cs := cs) (fun x hx => (nomatch hx)) (if_pos rfl), ?_⟩)
  cases ks with
  | nil => exact k _ grow_new fun z => z rfl
  | cons y ys => exact h _ grow_new (by simp)
theorem s_ifG {t : E} {a b : Ss} {P : Prop} (v : TPG c lv hd σ ρ t P) (h : ∀ σ', Grow σ σ' → P → wpSs c lv a hd ρ σ' (andThen c lv hd r Q X) X) (k : ∀ σ', Grow σ σ' → ¬ P → wpSs c lv b hd ρ σ' (andThen c lv hd r Q X) X) : wpSs c lv (.cons (.ite t a b) r) hd ρ σ Q X := v _ _ h k

noncomputable def EnOk (e : DE) : Prop := WOk e.w ∧ (e.w ≠ none → e.ks = [])
/-! the state of the walk -/
noncomputable def dePV (cs : List Int) (x : Nat × DE) : PV := .tup [.ref x.1, wPV cs x.2.w, .int (ps cs x.2.r)]
structure DuS (σ σ' : St) (cs : List Int) (l t d k : Nat) (z : List Int) (acc : List Tk) (w : Option (List Nat × List Int)) (L : List (Nat × DE)) : Prop where
  g : Grow σ σ'
  T : TkS σ' t l cs z 0
  t0 : σ.n ≤ t
  l0 : l < σ.n
  d0 : σ.n ≤ d ∧ d < σ'.n
  k0 : σ.n ≤ k ∧ k < σ'.n
  ne : d ≠ t ∧ k ≠ t ∧ d ≠ k
  hd : σ'.at_ d = some (.list (L.map (dePV cs)))
  hk : σ'.at_ k = some (.list (acc.map (·.pv cs)))
  ok : ∀ x ∈ acc, x.Ok
  wok : WOk w
  ent : ∀ x ∈ L, σ'.at_ x.1 = some (.list (x.2.ks.map (·.pv cs))) ∧ (σ.n ≤ x.1 ∧ x.1 < σ'.n) ∧ (x.1 ≠ t ∧ x.1 ≠ d ∧ x.1 ≠ k) ∧ (∀ y ∈ x.2.ks, y.Ok) ∧ EnOk x.2
structure DuL (ρ : Loc) (cs : List Int) (l t d k : Nat) (w : Option (List Nat × List Int)) : Prop where
  r2 : ρ 2 = some (.ref l)
  r26 : ρ 26 = some (.ref t)
  r27 : ρ 27 = some (.ref d)
  r28 : ρ 28 = some (.ref k)
  r29 : ρ 29 = some (wPV cs w)
theorem DuS.keep {σ'' : St} {l t d k : Nat} {z z' : List Int} {acc : List Tk} {w : Option (List Nat × List Int)} {L : List (Nat × DE)} (S : DuS σ σ' cs l t d k z acc w L) (kp : Keep σ' σ'' t) (T : TkS σ'' t l cs z' 0) : DuS σ σ'' cs l t d k z' acc w L :=
  ⟨⟨Nat.le_trans S.g.n kp.n, fun j hj => (kp.old j (Nat.lt_of_lt_of_le hj S.g.n) (Nat.ne_of_lt (Nat.lt_of_lt_of_le hj S.t0))).trans (S.g.old j hj)⟩, T, S.t0, S.l0, ⟨S.d0.1, Nat.lt_of_lt_of_le S.d0.2 kp.n⟩, ⟨S.k0.1, Nat.lt_of_lt_of_le S.k0.2 kp.n⟩, S.ne, (kp.old d S.d0.2 S.ne.1).trans S.hd, (kp.old k S.k0.2 S.ne.2.1).trans S.hk, S.ok, S.wok,
    fun x hx => let ⟨a, b, e, f⟩ := S.ent x hx; ⟨(kp.old _ b.2 e.1).trans a, ⟨b.1, Nat.lt_of_lt_of_le b.2 kp.n⟩, e, f⟩⟩
theorem DuS.grow {σ'' : St} {l t d k : Nat} {z : List Int} {acc : List Tk} {w : Option (List Nat × List Int)} {L : List (Nat × DE)} (S : DuS σ σ' cs l t d k z acc w L) (g : Grow σ' σ'') : DuS σ σ'' cs l t d k z acc w L := S.keep g.keep (S.T.grow g)
theorem DuS.w' {l t d k : Nat} {z : List Int} {acc : List Tk} {w w' : Option (List Nat × List Int)} {L : List (Nat × DE)} (S : DuS σ σ' cs l t d k z acc w L) (h : WOk w') : DuS σ σ' cs l t d k z acc w' L := { S with wok := h }
/-- an entry is written -/
theorem DuS.entry {l t d k j : Nat} {z : List Int} {acc : List Tk} {w : Option (List Nat × List Int)} {L : List (Nat × DE)} (S : DuS σ σ' cs l t d k z acc w L) {e : DE} (hj : σ'.at_ j = some (.list (e.ks.map (·.pv cs)))) (h1 : σ.n ≤ j ∧ j < σ'.n) (h2 : j ≠ t ∧ j ≠ d ∧ j ≠ k) (h3 : ∀ y ∈ e.ks, y.Ok) (h4 : EnOk e) :
    DuS σ (σ'.put d (.list ((L ++ [(j, e)]).map (dePV cs)))) cs l t d k z acc w (L ++ [(j, e)]) := by
  have hdl : d ≠ l := Nat.ne_of_gt (Nat.lt_of_lt_of_le S.l0 S.d0.1)
  refine ⟨S.g.put S.d0.1, S.T.putN S.ne.1 hdl, S.t0, S.l0, S.d0, S.k0, S.ne, put_eq, (put_ne S.ne.2.2.symm).trans S.hk, S.ok, S.wok, fun x hx => ?_⟩
  rcases List.mem_append.mp hx with hx | hx
  · obtain ⟨a, b, f, q⟩ := S.ent x hx
    exact ⟨(put_ne f.2.1).trans a, b, f, q⟩
  · rw [List.mem_singleton.mp hx]
    exact ⟨(put_ne h2.2.1).trans hj, h1, h2, h3, h4⟩
theorem DuS.newK {l t d k : Nat} {z : List Int} {acc : List Tk} {w : Option (List Nat × List Int)} {L : List (Nat × DE)} (S : DuS σ σ' cs l t d k z acc w L) : DuS σ (σ'.new (.list [])) cs l t d σ'.n z [] w L := by
  have G := S.grow grow_new (σ'' := σ'.new (.list []))
  refine ⟨G.g, G.T, S.t0, S.l0, G.d0, ⟨S.g.n, Nat.lt_succ_self _⟩, ⟨S.ne.1, Nat.ne_of_gt S.T.tn, Nat.ne_of_lt S.d0.2⟩, G.hd, if_pos rfl, fun x hx => (nomatch hx), S.wok, fun x hx => ?_⟩
  obtain ⟨a, b, f, q⟩ := G.ent x hx
  exact ⟨a, b, ⟨f.1, f.2.1, Nat.ne_of_lt (S.ent x hx).2.1.2⟩, q⟩
theorem DuS.tok {l t d k : Nat} {z : List Int} {acc : List Tk} {w : Option (List Nat × List Int)} {L : List (Nat × DE)} {x : Tk} (S : DuS σ σ' cs l t d k z acc w L) (hx : x.Ok) : DuS σ (σ'.put k (.list ((acc ++ [x]).map (·.pv cs)))) cs l t d k z (acc ++ [x]) w L := by
  have hkl : k ≠ l := Nat.ne_of_gt (Nat.lt_of_lt_of_le S.l0 S.k0.1)
  refine ⟨S.g.put S.k0.1, S.T.putN S.ne.2.1 hkl, S.t0, S.l0, S.d0, S.k0, S.ne, (put_ne S.ne.2.2).trans S.hd, put_eq, fun y hy => ?_, S.wok, fun y hy => ?_⟩
  · rcases List.mem_append.mp hy with hy | hy
    · exact S.ok y hy
    · rw [List.mem_singleton.mp hy]; exact hx
  · obtain ⟨a, b, f, q⟩ := S.ent y hy
    exact ⟨(put_ne f.2.2).trans a, b, f, q⟩

theorem e_lstE {es : Es} {Qe : PV → St → Prop} {Xe : Nat → St → Prop} (h : (wps c lv hd es ρ).es σ (fun ps σ => Qe (.ref σ.n) (σ.new (.list ps))) Xe) : (wp c lv hd (.lst es) ρ).e σ Qe Xe := h
theorem Link.snoc2 {cs : List Int} {a b : DE} {s s' : List Int} {L : List DE} (h : Link cs s (L ++ [a]) s') (k : gaS cs s' = b.out) : Link cs s (L ++ [a, b]) b.r := by
  have := h.snoc k
  rw [List.append_assoc] at this; exact this
noncomputable def dueFin : Ss := .cons (.ret (.bin .Add (.var 27) (.lst (.cons (.tup (.cons (.lst .nil) (.cons (.tup .nil) (.cons (.call (.gl (.st (.builtin "len"))) (.cons (.var 2) .nil)) .nil)))) (.cons (.tup (.cons (.lst .nil) (.cons (.tup .nil) (.cons (.call (.gl (.st (.builtin "len"))) (.cons (.var 2) .nil)) .nil)))) .nil))))) .nil
/-- what the walk hands back -/
noncomputable def DueOk (σ : St) (cs : List Int) (σ' : St) (i : Nat) : Prop := ∃ L : List (Nat × DE), σ'.at_ i = some (.list (L.map (dePV cs))) ∧ Grow σ σ' ∧ (σ.n ≤ i ∧ i < σ'.n) ∧ (∃ s', Link cs cs (L.map (·.2)) s') ∧
  (∀ x ∈ L, σ'.at_ x.1 = some (.list (x.2.ks.map (·.pv cs))) ∧ (σ.n ≤ x.1 ∧ x.1 < σ'.n) ∧ x.1 ≠ i ∧ (∀ y ∈ x.2.ks, y.Ok) ∧ EnOk x.2)

theorem due_fin (P : Du c) {l t d k : Nat} {z : List Int} {acc : List Tk} {w : Option (List Nat × List Int)} {L : List (Nat × DE)} (S : DuS σ σ' cs l t d k z acc w L) (V : DuL ρ cs l t d k w) {s₀ : List Int} (hl : L.length ≤ 200000) (hk : Link cs cs (L.map (·.2)) s₀) (h0 : gaS cs s₀ = .ok [] [])
    (h : ∀ σ'' i, DueOk σ cs σ'' i → Qc (.ref i) σ'') : wpSs c lv dueFin none ρ σ' (fun fl _ σ => Qc (retOf fl) σ) fun i _ σ => Xc i σ := by
  have len1 : ∀ {σ'' : St}, Grow σ' σ'' → EV c lv none σ'' ρ (.call (.gl (.st (.builtin "len"))) (.cons (.var 2) .nil)) (.int (ps cs [])) := fun {σ''} g => by
    have := EV.call (c := c) (lv := lv) (hd := none) (σ := σ'') (ρ := ρ) (P.calB (.builtin "len") (by decide)) (.cons (.var V.r2) .nil) (len_cv (S.T.grow g).hl)
    rw [List.length_map] at this
    have e : ps cs [] = cs.length := Int.sub_zero _
    rw [e]; exact this
  have g1 : Grow σ' (σ'.new (.list [])) := grow_new
  have g2 : Grow σ' ((σ'.new (.list [])).new (.list [])) := g1.new
  let e0 : DE := ⟨[], none, []⟩
  have ed : [dePV cs (σ'.n, e0), dePV cs (σ'.n + 1, e0)] = [(σ'.n, e0), (σ'.n + 1, e0)].map (dePV cs) := rfl
  let σ3 : St := ((σ'.new (.list [])).new (.list [])).new (.list [dePV cs (σ'.n, e0), dePV cs (σ'.n + 1, e0)])
  have g3 : Grow σ' σ3 := g2.new
  refine s_retE (e_binE (e_of (.var V.r27) (e_lstE (es_consE (e_tup (es_consE (e_lst .nil (es_cons (.tup .nil) (es_cons (len1 g1) (es_nil (es_consE (e_tup (es_consE (e_lst .nil (es_cons (.tup .nil) (es_cons (len1 g2) (es_nil (es_nil ?_))))))))))))))))))
  refine ⟨L.map (dePV cs), [dePV cs (σ'.n, e0), dePV cs (σ'.n + 1, e0)], (g3.old d S.d0.2).trans S.hd, if_pos rfl, by rw [List.length_map]; show L.length + 2 ≤ _; omega, ?_⟩
  rw [ed, ← List.map_append]
  have gS := S.g.n
  refine h (σ3.new (.list ((L ++ [(σ'.n, e0), (σ'.n + 1, e0)]).map (dePV cs)))) (σ'.n + 1 + 1 + 1) ⟨_, if_pos rfl, S.g.trans (g3.new), ⟨by omega, Nat.lt_succ_self _⟩, ⟨[], ?_⟩, fun x hx => ?_⟩
  · rw [List.map_append]
    exact (hk.snoc (e := e0) h0).snoc2 gaS_nil
  · have gg : Grow σ' (σ3.new (.list ((L ++ [(σ'.n, e0), (σ'.n + 1, e0)]).map (dePV cs)))) := g3.new
    rcases List.mem_append.mp hx with hx | hx
    · obtain ⟨a, b, f, q⟩ := S.ent x hx
      exact ⟨(gg.old _ b.2).trans a, ⟨b.1, Nat.lt_of_lt_of_le b.2 gg.n⟩, by omega, q⟩
    · have nn : (σ3.new (.list ((L ++ [(σ'.n, e0), (σ'.n + 1, e0)]).map (dePV cs)))).n = σ'.n + 1 + 1 + 1 + 1 := rfl
      rcases List.mem_cons.mp hx with rfl | hx
      · refine ⟨?_, ⟨S.g.n, by rw [nn]; show σ'.n < _; omega⟩, by show σ'.n ≠ _; omega, fun y hy => (nomatch hy), trivial, fun h => absurd rfl h⟩
        exact (if_neg (by show σ'.n ≠ σ'.n + 1 + 1 + 1; omega)).trans ((if_neg (by show σ'.n ≠ σ'.n + 1 + 1; omega)).trans ((if_neg (by show σ'.n ≠ σ'.n + 1; omega)).trans (if_pos rfl)))
      · rw [List.mem_singleton.mp hx]
        refine ⟨?_, ⟨by show σ.n ≤ σ'.n + 1; omega, by rw [nn]; show σ'.n + 1 < _; omega⟩, by show σ'.n + 1 ≠ _; omega, fun y hy => (nomatch hy), trivial, fun h => absurd rfl h⟩
        exact (if_neg (by show σ'.n + 1 ≠ σ'.n + 1 + 1 + 1; omega)).trans ((if_neg (by show σ'.n + 1 ≠ σ'.n + 1 + 1; omega)).trans (if_pos rfl))
end
end Mine
end

section
open PySem PySem.W PyProof.Rows PySem.Calls
set_option Elab.async false
set_option linter.unusedVariables false
set_option maxRecDepth 100000
namespace Mine

noncomputable def dueB3 : Ss := .cons (.ite (.cmp .NotEq (.var 29) (.tup .nil)) (.cons (.expr (.meth (.var 27) 25 (.cons (.tup (.cons (.lst .nil) (.cons (.var 29) (.cons (.attr (.var 26) 34) .nil)))) .nil))) .nil) (.cons (.ite (.cmp .Eq (.sub (.var 18) (.lit (.int (0)))) (.lit (.str [101, 110, 100]))) (.cons (.expr (.meth (.var 27) 25 (.cons (.tup (.cons (.bin .Add (.var 28) (.lst (.cons (.var 18) .nil))) (.cons (.tup .nil) (.cons (.attr (.var 26) 34) .nil)))) .nil))) .nil) .nil) .nil)) (.cons (.asg (.var 28) (.lst .nil)) (.cons (.asg (.var 29) (.tup .nil)) .nil))
noncomputable def dueT : E := .tup (.cons (.lit (.str [101, 110, 100])) (.cons (.lit (.str [101, 111, 102])) .nil))
noncomputable def dueT' : E := .tup (.cons (.lit (.str [101, 110, 100])) (.cons (.lit (.str [102, 97, 117, 108, 116])) .nil))
noncomputable def dueB2 : Ss := .cons (.asg (.tup [22, 33]) (.meth (.var 26) 5 (.cons (.call (.gl (.st (.builtin "len"))) (.cons (.var 2) .nil)) .nil))) (.cons (.asg (.var 29) (.tup (.cons (.lit (.str [117, 110, 101, 120, 112, 101, 99, 116, 101, 100, 95, 101, 111, 102])) (.cons (.call (.gl (.st (.builtin "len"))) (.cons (.var 2) .nil)) (.cons (.var 22) (.cons (.var 33) .nil)))))) .nil)
noncomputable def dueC2 : E := .bools .And (.cons (.cmp .Eq (.sub (.var 18) (.lit (.int (0)))) (.lit (.str [101, 111, 102]))) (.cons (.cmp .Eq (.var 29) (.tup .nil)) (.cons (.cmp .NotEq (.var 28) (.lst .nil)) .nil)))
noncomputable def dueRest : Ss := .cons (.ite dueC2 dueB2 .nil) (.cons (.ite (.cmp .In (.sub (.var 18) (.lit (.int (0)))) dueT) dueB3 .nil) (.cons (.ite (.cmp .Eq (.sub (.var 18) (.lit (.int (0)))) (.lit (.str [101, 111, 102]))) (.cons .brk .nil) .nil) (.cons (.ite (.cmp .NotIn (.sub (.var 18) (.lit (.int (0)))) dueT') (.cons (.expr (.meth (.var 28) 25 (.cons (.var 18) .nil))) .nil) .nil) .nil)))

noncomputable def dueNew (x : Tk) (acc : List Tk) (z : List Int) : Option (List Nat × List Int) → List DE
  | some w => [⟨[], some w, z⟩]
  | none => if x.kind = kEnd then [⟨acc ++ [x], none, z⟩] else []

section
variable {c : Sx} {lv : Nat} {hd : Option Nat} {σ σ' : St} {ρ : Loc} {K : Fl → Loc → St → Prop} {X : Nat → Loc → St → Prop} {r : Ss} {Qc : PV → St → Prop} {Xc : Nat → St → Prop} {cs : List Int}
variable {l t d k : Nat} {z : List Int} {acc : List Tk} {w : Option (List Nat × List Int)} {L : List (Nat × DE)}

theorem in_end {a : E} {kd : List Nat} (x : EV c lv hd σ ρ a (.str kd)) : TP c lv hd σ ρ (.cmp .In a dueT) (kd = kEnd ∨ kd = kEof) := fun Q X h k => by
  refine TP.cmp (.inT [kEnd, kEof] x (.tup (.cons .lit (.cons .lit .nil))) rfl) Q X (fun g => h ?_) fun g => k fun q => g ?_
  · simpa using g
  · simpa using q
theorem nin_end {a : E} {kd : List Nat} (x : EV c lv hd σ ρ a (.str kd)) : TP c lv hd σ ρ (.cmp .NotIn a dueT') (¬ (kd = kEnd ∨ kd = kFault)) := fun Q X h k => by
  refine TP.cmp (.ninT [kEnd, kFault] x (.tup (.cons .lit (.cons .lit .nil))) rfl) Q X (fun g => h ?_) fun g => k fun q => g ?_
  · simpa using g
  · simpa using q

/-- neither an end nor the text's end -/
theorem rest_other {kd : List Nat} (hk : ∀ σ, EV c lv none σ ρ (.sub (.var 18) (.lit (.int 0))) (.str kd)) (h1 : kd ≠ kEnd) (h2 : kd ≠ kEof) (hF : kd = kFault → K .next ρ σ') (hT : kd ≠ kFault → wpSs c lv (.cons (.expr (.meth (.var 28) 25 (.cons (.var 18) .nil))) .nil) none ρ σ' K X) :
    wpSs c lv dueRest none ρ σ' K X :=
  s_if (.bools (.and (R := True) (.eqS (hk _) .lit) fun g => absurd g h2)) (fun g => absurd g.1 h2) fun _ => s_nil (
  s_if (in_end (hk _)) (fun g => absurd g (fun q => q.elim h1 h2)) fun _ => s_nil (
  s_if (.eqS (hk _) .lit) (fun g => absurd g h2) fun _ => s_nil (
  s_if (nin_end (hk _)) (fun g => hT fun e => g (.inr e)) fun g => s_nil (by
    by_cases e : kd = kFault
    · exact hF e
    · exact absurd (fun q => q.elim h1 e) g))))

theorem e_methLE {a : E} {x i : Nat} {vs : List PV} {f : Value} {es : Es} {Qe : PV → St → Prop} {Xe : Nat → St → Prop} (y : EV c lv hd σ ρ a (.ref i)) (e : σ.at_ i = some (.list vs)) (m : c.bmeth 0 x = some f)
    (z : (wps c lv hd es ρ).es σ (fun ps σ => CallOk c lv hd f (.ref i :: ps) σ Qe Xe) Xe) : (wp c lv hd (.meth a x es) ρ).e σ Qe Xe := y _ _ ⟨f, by show wMeth c σ (.ref i) x f; simp only [wMeth, e]; exact m, z⟩
/-- an entry, then a new start -/
theorem b3_ok (P : Du c) {x : Tk} (hx : x.Ok) (r18 : ρ 18 = some (x.pv cs)) (S : DuS σ σ' cs l t d k z acc w L) (V : DuL ρ cs l t d k w) (hl : L.length ≤ 200000) (ha : acc.length ≤ 200000)
    (h : ∀ σ'' k' L' ρ', DuS σ σ'' cs l t d k' z [] none L' → DuL ρ' cs l t d k' none → ρ' 18 = some (x.pv cs) → L'.map (·.2) = L.map (·.2) ++ dueNew x acc z w → K .next ρ' σ'') : wpSs c lv dueB3 none ρ σ' K X := by
  have fin : ∀ {σ₁ : St} {w' : Option (List Nat × List Int)} {L' : List (Nat × DE)}, DuS σ σ₁ cs l t d k z acc w' L' → L'.map (·.2) = L.map (·.2) ++ dueNew x acc z w →
      wpSs c lv (.cons (.asg (.var 28) (.lst .nil)) (.cons (.asg (.var 29) (.tup .nil)) .nil)) none ρ σ₁ K X := fun {σ₁ w' L'} S₁ e =>
    s_asgE (e_lst .nil (s_var (.tup .nil) (s_nil (h _ _ L' _ ((S₁.newK).w' trivial) ⟨V.r2, V.r26, V.r27, rfl, rfl⟩ r18 e))))
  have atE : ∀ {σ₁ : St}, TkS σ₁ t l cs z 0 → EV c lv none σ₁ ρ (.attr (.var 26) 34) (.int (ps cs z)) := fun {σ₁} T => at_ev P.toTz T (.var V.r26)
  cases w with
  | some w =>
    refine s_if (w_some S.wok V.r29) (fun _ => ?_) fun g => absurd (Option.some_ne_none w) g
    have G := S.grow (grow_new (x := .list []))
    refine s_exprE (e_methLE (.var V.r27) S.hd (P.b ((0, 25), "list.append") (by decide)) (es_consE (e_tup (es_consE (e_lst .nil (es_cons (.var V.r29) (es_cons (atE G.T) (es_nil (es_nil (append_ok G.hd (by rw [List.length_map]; omega) ?_))))))))))
    refine s_nil (an_cons (fin (w' := some w) (L' := L ++ [(σ'.n, ⟨[], some w, z⟩)]) ?_ (by rw [List.map_append]; rfl)))
    have E := G.entry (j := σ'.n) (e := ⟨[], some w, z⟩) (if_pos rfl) ⟨S.g.n, Nat.lt_succ_self _⟩ ⟨Nat.ne_of_gt S.T.tn, Nat.ne_of_gt S.d0.2, Nat.ne_of_gt S.k0.2⟩ (fun y hy => (nomatch hy)) ⟨S.wok, fun _ => rfl⟩
    rw [List.map_append] at E; exact E
  | none =>
    refine s_if (w_some S.wok V.r29) (fun g => absurd rfl g) fun _ => s_if (.eqS (tk_kind r18) .lit) (fun g => ?_) fun g => s_nil (an_nil (an_cons (fin (L' := L) S (by rw [dueNew, if_neg (show ¬ x.kind = kEnd from g), List.append_nil]))))
    have g : x.kind = kEnd := g
    have e1 : acc.map (·.pv cs) ++ [x.pv cs] = (acc ++ [x]).map (·.pv cs) := by rw [List.map_append]; rfl
    have G := (S.grow (grow_new (x := .list [x.pv cs]))).grow (grow_new (x := .list ((acc ++ [x]).map (·.pv cs))))
    refine s_exprE (e_methLE (.var V.r27) S.hd (P.b ((0, 25), "list.append") (by decide)) (es_consE (e_tup (es_consE (e_binE (e_of (.var V.r28) (e_lst (.cons (.var r18) .nil) ⟨_, _, (grow_new.old k S.k0.2).trans S.hk, if_pos rfl, by rw [List.length_map]; show acc.length + 1 ≤ _; omega, ?_⟩)))))))
    rw [e1]
    refine es_cons (.tup .nil) (es_cons (atE G.T) (es_nil (es_nil (append_ok G.hd (by rw [List.length_map]; omega) ?_))))
    have hn : (σ'.new (.list [x.pv cs])).n = σ'.n + 1 := rfl
    refine s_nil (an_nil (an_cons (fin (w' := none) (L' := L ++ [(σ'.n + 1, ⟨acc ++ [x], none, z⟩)]) ?_ (by rw [List.map_append, dueNew, if_pos g]; rfl))))
    have E := G.entry (j := σ'.n + 1) (e := ⟨acc ++ [x], none, z⟩) (if_pos rfl) ⟨Nat.le_succ_of_le S.g.n, Nat.lt_succ_self _⟩ ⟨Nat.ne_of_gt (Nat.lt_succ_of_lt S.T.tn), Nat.ne_of_gt (Nat.lt_succ_of_lt S.d0.2), Nat.ne_of_gt (Nat.lt_succ_of_lt S.k0.2)⟩ (fun y hy => by
      rcases List.mem_append.mp hy with hy | hy
      · exact S.ok y hy
      · rw [List.mem_singleton.mp hy]; exact hx) ⟨trivial, fun h => absurd rfl h⟩
    have ee : (L ++ [(σ'.n + 1, (⟨acc ++ [x], none, z⟩ : DE))]).map (dePV cs) = L.map (dePV cs) ++ [dePV cs (σ'.n + 1, ⟨acc ++ [x], none, z⟩)] := by rw [List.map_append]; rfl
    rw [ee] at E; exact E

/-- a clause's end -/
theorem rest_end (P : Du c) {x : Tk} (hx : x.Ok) (r18 : ρ 18 = some (x.pv cs)) (S : DuS σ σ' cs l t d k z acc w L) (V : DuL ρ cs l t d k w) (hl : L.length ≤ 200000) (ha : acc.length ≤ 200000) (hk : x.kind = kEnd)
    (h : ∀ σ'' k' L' ρ', DuS σ σ'' cs l t d k' z [] none L' → DuL ρ' cs l t d k' none → L'.map (·.2) = L.map (·.2) ++ dueNew x acc z w → K .next ρ' σ'') : wpSs c lv dueRest none ρ σ' K X := by
  have ne : ¬ x.kind = kEof := by rw [hk]; decide
  refine s_if (.bools (.and (R := True) (.eqS (tk_kind r18) .lit) fun g => absurd g ne)) (fun g => absurd g.1 ne) fun _ => s_nil (
    s_if (in_end (tk_kind r18)) (fun _ => b3_ok P hx r18 S V hl ha fun σ'' k' L' ρ' S' V' r18' e => an_cons (
      s_if (.eqS (tk_kind r18') .lit) (fun g => absurd g ne) fun _ => s_nil (
      s_if (nin_end (tk_kind r18')) (fun g => absurd (.inl hk) g) fun _ => s_nil (h σ'' k' L' ρ' S' V' e)))) fun g => absurd (.inl hk) g)

/-- the text's end -/
theorem rest_eof (P : Du c) (r18 : ρ 18 = some ((⟨kEof, .str [], []⟩ : Tk).pv cs)) (S : DuS σ σ' cs l t d k [] acc w L) (V : DuL ρ cs l t d k w) (hl : L.length ≤ 200000) (ha : acc.length ≤ 200000)
    (h : ∀ σ'' k' L' ρ', DuS σ σ'' cs l t d k' [] [] none L' → DuL ρ' cs l t d k' none → L'.map (·.2) = L.map (·.2) ++ (if w = none ∧ acc ≠ [] then [⟨[], some (kEofU, []), []⟩] else dueNew ⟨kEof, .str [], []⟩ acc [] w) → K .brk ρ' σ'') : wpSs c (lv + 2) dueRest none ρ σ' K X := by
  have hx : (⟨kEof, .str [], []⟩ : Tk).Ok := ⟨fun y hy => (nomatch hy), by unfold KdOk; decide⟩
  have go : ∀ {σ₁ : St} {ρ₁ : Loc} {w₁ : Option (List Nat × List Int)}, ρ₁ 18 = some ((⟨kEof, .str [], []⟩ : Tk).pv cs) → DuS σ σ₁ cs l t d k [] acc w₁ L → DuL ρ₁ cs l t d k w₁ → dueNew ⟨kEof, .str [], []⟩ acc [] w₁ = (if w = none ∧ acc ≠ [] then [⟨[], some (kEofU, []), []⟩] else dueNew ⟨kEof, .str [], []⟩ acc [] w) →
      wpSs c (lv + 2) (.cons (.ite (.cmp .In (.sub (.var 18) (.lit (.int (0)))) dueT) dueB3 .nil) (.cons (.ite (.cmp .Eq (.sub (.var 18) (.lit (.int (0)))) (.lit (.str [101, 111, 102]))) (.cons .brk .nil) .nil) (.cons (.ite (.cmp .NotIn (.sub (.var 18) (.lit (.int (0)))) dueT') (.cons (.expr (.meth (.var 28) 25 (.cons (.var 18) .nil))) .nil) .nil) .nil))) none ρ₁ σ₁ K X := fun {σ₁ ρ₁ w₁} r18 S V e =>
    s_if (in_end (tk_kind r18)) (fun _ => b3_ok P hx r18 S V hl ha fun σ'' k' L' ρ' S' V' r18' e' => an_cons (
      s_if (.eqS (tk_kind r18') .lit) (fun _ => s_brk (h σ'' k' L' ρ' S' V' (by rw [← e]; exact e'))) fun g => absurd rfl g)) fun g => absurd (.inr rfl) g
  refine s_ifG (.bools (.and (.eqS (tk_kind r18) .lit) fun _ => .and (w_none S.wok V.r29) fun _ => .and1 (.neL V.r28 S.hk S.k0.2 S.ok))) (fun σ₁ g q => ?_) fun σ₁ g q => s_nil (an_cons (go r18 (S.grow g) V (by rw [if_neg fun z => q ⟨rfl, z.1, z.2⟩])))
  obtain ⟨_, q1, q2⟩ := q
  have S₁ := S.grow g
  have e0 : ((cs.length : Nat) : Int) = ps cs [] := (Int.sub_zero _).symm
  have len1 : ∀ {ρ : Loc}, ρ 2 = some (.ref l) → EV c (lv + 2) none σ₁ ρ (.call (.gl (.st (.builtin "len"))) (.cons (.var 2) .nil)) (.int (ps cs [])) := fun {ρ} r => by
    have := EV.call (c := c) (lv := lv + 2) (hd := none) (σ := σ₁) (ρ := ρ) (P.calB (.builtin "len") (by decide)) (.cons (.var r) .nil) (len_cv S₁.T.hl)
    rw [List.length_map, e0] at this
    exact this
  refine s_asgT (e_of (.meth (.var V.r26) S₁.T.ht rfl (P.m (5, 262) (by decide)) (.cons (len1 V.r2) .nil) (place_cv P.toTz S₁.T.ht rfl S₁.T.hl (by rw [← e0]; exact Int.natCast_nonneg _))) ⟨rfl, trivial, ?_⟩)
  refine s_var (.tup (.cons .lit (.cons (len1 V.r2) (.cons (.var rfl) (.cons (.var rfl) .nil))))) (s_nil (an_cons ?_))
  exact go (w₁ := some (kEofU, [])) r18 (S₁.w' (by unfold WOk KdOk; decide)) ⟨V.r2, V.r26, V.r27, V.r28, rfl⟩ (by rw [if_pos ⟨q1, q2⟩]; rfl)
end
end Mine
end

section
open PySem PySem.W PyProof.Rows PySem.Calls
set_option Elab.async false
set_option linter.unusedVariables false
set_option maxRecDepth 100000
namespace Mine

section
variable {c : Sx} {lv : Nat} {hd : Option Nat} {σ σ' : St} {ρ : Loc} {K : Fl → Loc → St → Prop} {X : Nat → Loc → St → Prop} {r : Ss} {Qc : PV → St → Prop} {Xc : Nat → St → Prop} {cs : List Int}
variable {l : Nat}

theorem due_ok (P : Du c) (hl : σ.at_ l = some (.list (cs.map .int))) (ln : l < σ.n) (ok : Ok cs) (h : ∀ σ'' i, DueOk σ cs σ'' i → Qc (.ref i) σ'') : CallOk c (lv + 9) none (.ref 857) [.ref l] σ Qc Xc := (P.due _ _ _ _ _ _ rfl (by
  refine s_asgE (e_call (P.calM _ (by decide)) (.cons (.var rfl) .nil) (tokenizer2 P.toMk hl ln ok fun σ₁ g₁ T₁ => s_asgE (e_lst .nil (s_asgE (e_lst .nil (s_var (.tup .nil) ?_))))))
  have hcl := ok.len
  have G := (grow_new (σ := σ₁) (x := .list [])).trans (grow_new (x := .list []))
  have lt1 : σ.n < σ₁.n := T₁.tn
  have S0 : DuS σ ((σ₁.new (.list [])).new (.list [])) cs l σ.n σ₁.n (σ₁.n + 1) cs [] none [] :=
    ⟨g₁.trans G, T₁.grow G, Nat.le_refl _, ln, ⟨g₁.n, Nat.lt_succ_of_lt (Nat.lt_succ_self _)⟩, ⟨Nat.le_succ_of_le g₁.n, Nat.lt_succ_self _⟩, ⟨Nat.ne_of_gt lt1, Nat.ne_of_gt (Nat.lt_succ_of_lt lt1), Nat.ne_of_lt (Nat.lt_succ_self _)⟩,
      (if_neg (Nat.ne_of_lt (Nat.lt_succ_self _))).trans (if_pos rfl), if_pos rfl, fun x hx => (nomatch hx), trivial, fun x hx => (nomatch hx)⟩
  have eL : (List.map PV.int cs).length = cs.length := List.length_map _
  refine s_forR (.add (.call (P.calB _ (by decide)) (.cons (.var rfl) .nil) (len_cv S0.T.hl)) .lit) (by rw [eL]; omega) (fun m ρ σ' => ∃ z acc w L s₀ k, DuS σ σ' cs l σ.n σ₁.n k z acc w L ∧ DuL ρ cs l σ.n σ₁.n k w ∧ Link cs cs (L.map (·.2)) s₀ ∧ Open_ cs s₀ z acc m w ∧ z.length < m ∧ L.length + m ≤ cs.length + 1 ∧ acc.length + m ≤ cs.length + 1)
    ?_ (fun kk m ρ σ' R ⟨z, acc, w, L, s₀, k, S, V, lk, op, hz, hL, hacc⟩ ih => ?_) fun ρ σ' ⟨z, acc, w, L, s₀, k, S, V, lk, op, hz, hL, hacc⟩ => absurd hz (Nat.not_lt_zero _)
  · have e : ((List.map PV.int cs).length + 1 : Int).toNat = cs.length + 1 := by rw [eL]; omega
    show ∃ z acc w L s₀ k, _
    rw [e]
    exact ⟨cs, [], none, [], cs, σ₁.n + 1, S0, ⟨rfl, rfl, rfl, rfl, rfl⟩, rfl, rfl, Nat.lt_succ_self _, by rw [List.length_nil]; omega, by rw [List.length_nil]; omega⟩
  have V : DuL (upd ρ 30 (.int kk)) cs l σ.n σ₁.n k w := ⟨V.r2, V.r26, V.r27, V.r28, V.r29⟩
  show wpSs c (lv + 8) _ none (upd ρ 30 (.int kk)) σ' _ _
  have rng : Rng z := fun x hx => ok.rng x (S.T.sf.subset hx)
  have pg := nextM_prog (cs := cs) (o := 0) rng
  refine s_try (s_asgE (e_meth (.var V.r26) S.T.ht rfl (P.m (32, 276) (by decide)) .nil (next_ok P.toTz S.T trivial (fun σ₂ x z' e k₂ T₂ => s_nil (an_cons ?_)) fun j σ₂ kd u z' e y => ?_)))
  · rw [e] at pg
    have hx : x.Ok := ⟨pg.2.1, pg.2.2.1⟩
    have S₂ := S.keep k₂ T₂
    have V₂ : DuL (upd (upd ρ 30 (.int kk)) 18 (x.pv cs)) cs l σ.n σ₁.n k w := ⟨V.r2, V.r26, V.r27, V.r28, V.r29⟩
    by_cases q : x.kind = kEnd
    · refine rest_end P hx rfl S₂ V₂ (by omega) (by omega) q fun σ₃ k' L' ρ' S' V' eL' => ih _ _ ⟨z', [], none, L', z', k', S', V', ?_, ?_, ?_, ?_, ?_⟩
      · have hgo := open_end op e q
        rw [eL']
        cases w with
        | none => rw [dueNew, if_pos q]; exact lk.snoc hgo
        | some w => exact lk.snoc hgo
      · have hzl : z'.length < m := by
          rcases pg.2.2.2 with ⟨_, b⟩ | ⟨b, _⟩
          · omega
          · rw [b] at q; exact absurd q (by decide)
        exact gaM_fuel ok _ _ z' [] (pg.1.trans S.T.sf) (Nat.lt_succ_of_le (pg.1.trans S.T.sf).length_le) hzl
      · rcases pg.2.2.2 with ⟨_, b⟩ | ⟨b, _⟩
        · omega
        · rw [b] at q; exact absurd q (by decide)
      · have hl2 : L'.length = L.length + 1 := by
          have := congrArg List.length eL'
          rw [List.length_map, List.length_append, List.length_map] at this
          rw [this]
          cases w with
          | none => rw [dueNew, if_pos q]; rfl
          | some w => rfl
        omega
      · rw [List.length_nil]; omega
    · rcases pg.2.2.2 with ⟨q', b⟩ | ⟨b, b'⟩
      · refine rest_other (kd := x.kind) (fun σ => tk_kind rfl) q q' (fun f => ?_) fun f => s_appT P.toTz V₂.r28 S₂.hk (by rw [List.length_map]; omega) (.var rfl) (s_nil ?_)
        · exact absurd f hx.2.2
        · have e1 : acc.map (·.pv cs) ++ [x.pv cs] = (acc ++ [x]).map (·.pv cs) := by rw [List.map_append]; rfl
          rw [e1]
          exact ih _ _ ⟨z', acc ++ [x], w, L, s₀, k, S₂.tok hx, V₂, lk, open_tok ok op S.T.sf e q q', by omega, by omega, by rw [List.length_append]; show acc.length + 1 + m ≤ _; omega⟩
      · subst b
        subst b'
        refine rest_eof P rfl S₂ V₂ (by omega) (by omega) fun σ₃ k' L' ρ' S' V' eL' => an_cons ?_
        have hgo := open_eof op e
        have fin : ∀ {s' : List Int}, Link cs cs (L'.map (·.2)) s' → gaS cs s' = .ok [] [] → wpSs c (lv + 8) dueFin none ρ' σ₃ (fun fl _ σ => Qc (retOf fl) σ) fun i _ σ => Xc i σ := fun {s'} lk' h0 => due_fin P S' V' (by
          have := congrArg List.length eL'
          rw [List.length_map, List.length_append, List.length_map] at this
          rw [this]
          split
          · show L.length + 1 ≤ _; omega
          · cases w with
            | none => rw [dueNew, if_neg (by decide)]; show L.length + 0 ≤ _; omega
            | some w => show L.length + 1 ≤ _; omega) lk' h0 h
        cases w with
        | none =>
          by_cases qa : acc = []
          · rw [if_neg (fun z => z.2 qa), dueNew, if_neg (show ¬ kEof = kEnd by decide), List.append_nil] at eL'
            exact fin (by rw [eL']; exact lk) (hgo.trans (if_pos qa))
          · rw [if_pos ⟨rfl, qa⟩] at eL'
            exact fin (s' := []) (by rw [eL']; exact lk.snoc (e := ⟨[], some (kEofU, []), []⟩) (hgo.trans (if_neg qa))) gaS_nil
        | some w =>
          rw [if_neg (fun z => absurd z.1 (Option.some_ne_none w))] at eL'
          exact fin (s' := []) (by rw [eL']; exact lk.snoc (e := ⟨[], some w, []⟩) hgo) gaS_nil
  · rw [e] at pg
    have S₂ := S.keep y.k y.T
    have at' := y.at'
    have hzl : z'.length < m := by have := pg.2.1; omega
    have wok' : WOk (some (w.getD (kd, u))) := by
      cases w with
      | none => exact pg.2.2
      | some w => exact S.wok
    have fin : ∀ {ρ' : Loc}, DuL ρ' cs l σ.n σ₁.n k (some (w.getD (kd, u))) → R ρ' σ₂ := fun {ρ'} V' => ih _ _ ⟨z', acc, _, L, s₀, k, S₂.w' wok', V', lk, open_fault ok op S.T.sf hzl e, hzl, by omega, by omega⟩
    have ot : ∀ {ρ' : Loc}, ρ' 18 = some (.tup [.str kFault, .str [], .int (ps cs u)]) → ∀ σ, EV c (lv + 8) none σ ρ' (.sub (.var 18) (.lit (.int 0))) (.str kFault) := fun {ρ'} e σ => .subT (.var e) .lit (by decide) rfl
    refine s_var (.tup (.cons .lit (.cons .lit (.cons (.attrX (.var rfl) at' (P.fX _ (by decide)) rfl) .nil)))) (s_if (w_none (cs := cs) S.wok V.r29) (fun g => ?_) fun g => s_nil (an_nil (an_cons ?_)))
    · subst g
      refine s_var (.tup (.cons (.attrX (.var rfl) at' (P.fX _ (by decide)) rfl) (.cons (.attrX (.var rfl) at' (P.fX _ (by decide)) rfl) (.cons (.attrX (.var rfl) at' (P.fX _ (by decide)) rfl) (.cons (.attrX (.var rfl) at' (P.fX _ (by decide)) rfl) .nil))))) (s_nil (an_nil (an_cons ?_)))
      exact rest_other (ot rfl) (by decide) (by decide) (fun _ => fin ⟨V.r2, V.r26, V.r27, V.r28, rfl⟩) fun f => absurd rfl f
    · have hw : some (w.getD (kd, u)) = w := by
        cases w with
        | none => exact absurd rfl g
        | some w => rfl
      exact rest_other (ot rfl) (by decide) (by decide) (fun _ => fin ⟨V.r2, V.r26, V.r27, V.r28, by rw [hw]; exact V.r29⟩) fun f => absurd rfl f)).call
end
end Mine
end

section
open PySem PySem.W PyProof.Rows PySem.Calls
set_option Elab.async false
set_option linter.unusedVariables false
set_option maxRecDepth 100000
namespace Mine

noncomputable def pieces2 : List (List Nat) := [[111, 107, 32], [46, 32], [88], [102, 40], [41, 32], [49, 50, 32], [39, 97, 46, 32, 98, 39, 32], [39, 92, 113, 39, 32], [49, 46, 53, 32], [37, 32, 46, 32, 98, 10], [47, 42, 32, 46, 32, 42, 47], [10], [46, 10], [40], [39], [34], [47, 42, 32, 46, 32], [61, 46, 46, 32], [46], [48, 39, 46, 32], [34, 92, 120, 46, 34], [96, 99, 96]]
structure Lw (c : Sx) : Prop where
  D : Du c
  K : Bk c
  F : Fg c
  law : FnR c 862 [20] 1 [] B.b_law

section
variable {c : Sx} {lv : Nat} {hd : Option Nat} {σ σ' : St} {ρ : Loc} {Q : Fl → Loc → St → Prop} {X : Nat → Loc → St → Prop} {r : Ss} {Qc : PV → St → Prop} {Xc : Nat → St → Prop} {cs : List Int}
theorem s_forRk {t : T} {e : E} {b : Ss} {n : Int} (v : EV c lv none σ ρ e (.int n)) (hn : -1000000 ≤ n ∧ n ≤ 1000000) (I : Nat → Loc → St → Prop) (h0 : I n.toNat ρ σ)
    (step : ∀ (k m : Nat) ρ σ (R : Loc → St → Prop), k + (m + 1) = n.toNat → I (m + 1) ρ σ → (∀ ρ' σ', I m ρ' σ' → R ρ' σ') → wpT c lv none ρ σ (.int k) (fun ρ σ => wpSs c lv b none ρ σ (fun fl ρ σ => match fl with | .next => R ρ σ | .cont => R ρ σ | .brk => andThen c lv none r Q X .next ρ σ | .ret p => Q (.ret p) ρ σ) X) X t)
    (last : ∀ ρ σ, I 0 ρ σ → wpSs c lv r none ρ σ Q X) : wpSs c lv (.cons (.forR t e b) r) none ρ σ Q X := v _ _ ⟨rfl, hn.1, hn.2, by
  have all : ∀ (m a : Nat) (ρ : Loc) (σ : St), a + m = n.toNat → I m ρ σ → wFor (fun _ => True) (fun ρ σ v Q X => wpT c lv none ρ σ v Q X t) (fun ρ σ Q X => wpSs c lv b none ρ σ Q X) ((List.range' a m).map fun k => PV.int (k : Nat)) ρ σ (andThen c lv none r Q X) X := by
    intro m
    induction m with
    | zero => exact fun a ρ σ _ h => ⟨trivial, last ρ σ h⟩
    | succ m ih => exact fun a ρ σ e h => ⟨trivial, step a m ρ σ _ e h fun ρ' σ' h' => ih (a + 1) ρ' σ' (by omega) h'⟩
  rw [List.range_eq_range']
  exact all n.toNat 0 ρ σ (Nat.zero_add _) h0⟩
theorem s_augA {x : Nat} {e : E} {s : List Nat} (h0 : ρ x = some (.str s)) (h : (wp c lv hd e ρ).e σ (fun q σ => wAug .Add (.str s) q σ fun r' σ => wpSs c lv r hd (upd ρ x r') σ Q X) fun i σ => X i ρ σ) : wpSs c lv (.cons (.aug x .Add e) r) hd ρ σ Q X := by
  show (match ρ x with
      | some p => (wp c lv hd e ρ).e σ (fun q σ => wAug .Add p q σ fun r' σ => wpSs c lv r hd (upd ρ x r') σ Q X) (fun i σ => X i ρ σ)
      | none => False)
  rw [h0]; exact h
theorem ord_cv {x : Nat} : CV c lv hd σ (.builtin "ord") [.str [x]] (.int x) := fun Q X h => ord_ok h
theorem e_compS {elt it : E} {x : Nat} {s : List Nat} {Qe : PV → St → Prop} {Xe : Nat → St → Prop} (v : EV c lv none σ ρ it (.str s))
    (h : wComp (fun σ => wGuard σ (.str s) (s.map fun x => .str [x])) none (fun v σ Q X => (wp c lv none elt fun j => if j = x then some v else none).e σ Q X) σ.n (s.map fun x => .str [x]) [] (σ.new (.list [])) Qe) : (wp c lv none (.comp elt x it) ρ).e σ Qe Xe := v _ _ ⟨_, rfl, .inl rfl, h⟩
theorem EV.neRR {a b : E} {i j : Nat} {da db : PyData} (x : EV c lv hd σ ρ a (.ref i)) (y : EV c lv hd σ ρ b (.ref j)) (h1 : dOf σ 60 (.ref i) = some da) (h2 : dOf σ 60 (.ref j) = some db) : EV c lv hd σ ρ (.cmp .NotEq a b) (.bool (!PyData.eqv da db)) := fun Q X h => x _ _ (y _ _ (.inr (.inr ⟨da, db, h1, h2, h⟩)))
theorem EV.eqRR {a b : E} {i j : Nat} {da db : PyData} (x : EV c lv hd σ ρ a (.ref i)) (y : EV c lv hd σ ρ b (.ref j)) (h1 : dOf σ 60 (.ref i) = some da) (h2 : dOf σ 60 (.ref j) = some db) : EV c lv hd σ ρ (.cmp .Eq a b) (.bool (PyData.eqv da db)) := fun Q X h => x _ _ (y _ _ (.inr (.inr ⟨da, db, h1, h2, h⟩)))
theorem lays_of {f : PV → Option PyData} (ih : ∀ p d, f p = some d → d.canLay0 = true) (vs : List PV) : ∀ ds, vs.mapM f = some ds → PyData.canLayAll0 ds = true := by
  induction vs with
  | nil => intro ds h; cases h; rfl
  | cons p ps hi =>
    intro ds h
    obtain ⟨y, ys, rfl, e3, e4⟩ := mapM_cons_some h
    exact Bool.and_eq_true_iff.mpr ⟨ih _ _ e3, hi _ e4⟩
theorem dOf_lay : ∀ (n : Nat) (p : PV) (d : PyData), dOf σ n p = some d → d.canLay0 = true := by
  intro n
  induction n with
  | zero => intro p d h; cases h
  | succ n ih =>
    intro p d h
    change dStep σ (dOf σ n) p = some d at h
    cases p with
    | none => cases h; rfl
    | int i => cases h; rfl
    | str x =>
      obtain ⟨hx, h⟩ := Option.ite_none_right_eq_some.mp h
      cases h; exact hx
    | tup vs =>
      obtain ⟨ds, hd, rfl⟩ := Option.map_eq_some_iff.mp h
      exact lays_of ih vs ds hd
    | ref i =>
      unfold dStep at h; dsimp only at h
      split at h
      · obtain ⟨ds, hd, rfl⟩ := Option.map_eq_some_iff.mp h
        exact lays_of ih _ ds hd
      · cases h
    | _ => cases h
theorem same_d {p : PV} {d : PyData} (h : dOf σ 60 p = some d) : PyData.eqv d d = true := PySem.SeqAt.eqv_refl d (dOf_lay 60 p d h)
theorem ints_dOf {i : Nat} {xs : List Int} (h : σ.at_ i = some (.list (xs.map .int))) : dOf σ 60 (.ref i) = some (.list (xs.map .int)) := by
  show (match σ.at_ i with
      | some (.list vs) => (vs.mapM (dOf σ 59)).map PyData.list
      | _ => none) = _
  rw [h]
  show ((xs.map PV.int).mapM (dOf σ 59)).map PyData.list = _
  rw [mapM_map (f := dOf σ 59) (g := PV.int) (h := PyData.int) fun k hk => rfl]; rfl

/-- the text that the law builds, as codes -/
theorem text_ok (P : Lw c) {i j : Nat} {fs : List Int} (r36 : ρ 36 = some (.ref i)) (r37 : ρ 37 = some (.ref j)) (hi : σ.at_ i = some (.list (fs.map .int))) (hj : σ.at_ j = some (.list (pieces2.map .str))) (li : i < σ.n) (lj : j < σ.n) (hf : fs.length = 11) (hx : ∀ x ∈ fs, 0 ≤ x ∧ x < 96)
    (h : ∀ ρ' σ' s, Grow σ σ' → ρ' 19 = some (.str s) → s.length ≤ 100 → (∀ y ∈ s, y < 1114112) → wpSs c lv r none ρ' σ' Q X) :
    wpSs c lv (.cons (.asg (.var 19) (.lit (.str []))) (.cons (.forR (.var 30) (.bin .Mod (.bin .Add (.sub (.var 36) (.lit (.int (0)))) (.lit (.int (2)))) (.lit (.int (11)))) (.cons (.aug 19 .Add (.sub (.bin .Add (.var 37) (.lst (.cons (.call (.gl (.st (.builtin "chr"))) (.cons (.lit (.int (233))) .nil)) .nil))) (.bin .Mod (.sub (.var 36) (.bin .Add (.lit (.int (1))) (.var 30))) (.lit (.int (23)))))) .nil)) r)) none ρ σ Q X := by
  have get : ∀ {k : Nat}, k < 11 → ∃ x, getI (fs.map PV.int) k = some (.int x) ∧ 0 ≤ x ∧ x < 96 := fun {k} hk => by
    have hk' : k < fs.length := by omega
    refine ⟨fs[k], ?_, hx _ (List.getElem_mem hk')⟩
    unfold getI
    rw [if_pos (Int.natCast_nonneg _), List.getElem?_map, Int.toNat_natCast, List.getElem?_eq_getElem hk']; rfl
  obtain ⟨f0, e0, p0⟩ := get (k := 0) (by decide)
  have hm : 0 ≤ Int.fmod (f0 + 2) 11 ∧ Int.fmod (f0 + 2) 11 < 11 := by
    rw [Int.fmod_eq_emod_of_nonneg _ (by decide)]
    exact ⟨Int.emod_nonneg _ (by decide), Int.emod_lt_of_pos _ (by decide)⟩
  have all23 : ∀ k : Nat, k < 23 → ∃ s : List Nat, getI ((pieces2.map PV.str) ++ [.str [233]]) k = some (.str s) ∧ s.length ≤ 10 ∧ ∀ y ∈ s, y < 1114112 := by
    intro k hk
    have hl : k < (pieces2 ++ [[233]]).length := hk
    have hh : ∀ s ∈ pieces2 ++ [[233]], s.length ≤ 10 ∧ ∀ y ∈ s, y < 1114112 := by decide
    have e : (pieces2.map PV.str) ++ [.str [233]] = (pieces2 ++ [[233]]).map PV.str := by rw [List.map_append]; rfl
    refine ⟨(pieces2 ++ [[233]])[k], ?_, hh _ (List.getElem_mem hl)⟩
    rw [e]
    unfold getI
    rw [if_pos (Int.natCast_nonneg _), List.getElem?_map, Int.toNat_natCast, List.getElem?_eq_getElem hl]; rfl
  refine s_var .lit (s_forRk (.mod (.add (.subL (.var r36) hi .lit e0) .lit) .lit (by decide)) (by omega) (fun m ρ' σ' => ρ' 36 = some (.ref i) ∧ ρ' 37 = some (.ref j) ∧ Grow σ σ' ∧ ∃ s, ρ' 19 = some (.str s) ∧ s.length + 10 * m ≤ 100 ∧ ∀ y ∈ s, y < 1114112)
    ⟨r36, r37, .refl, [], rfl, by rw [List.length_nil]; omega, fun y hy => (nomatch hy)⟩ (fun k m ρ' σ' R hk ⟨r1, r2, g, s, r3, hs, hy⟩ ih => ?_) fun ρ' σ' ⟨r1, r2, g, s, r3, hs, hy⟩ => h ρ' σ' s g r3 (by omega) hy)
  have hk11 : 1 + k < 11 := by omega
  obtain ⟨f, ef, pf⟩ := get hk11
  have hf23 : 0 ≤ Int.fmod f 23 ∧ Int.fmod f 23 < 23 := by
    rw [Int.fmod_eq_emod_of_nonneg _ (by decide)]
    exact ⟨Int.emod_nonneg _ (by decide), Int.emod_lt_of_pos _ (by decide)⟩
  obtain ⟨s', es, ls, ys⟩ := all23 (Int.fmod f 23).toNat (by omega)
  rw [Int.toNat_of_nonneg hf23.1] at es
  have hi' := (g.old i li).trans hi
  have hj' := (g.old j lj).trans hj
  have lj' := Nat.lt_of_lt_of_le lj g.n
  show wpSs c lv _ none (upd ρ' 30 (.int k)) σ' _ _
  have chr233 : CV c lv none σ' (.builtin "chr") [.int 233] (.str [233]) := fun Q X h => chr_ok (by decide) (by decide) h
  refine s_augA r3 (e_subE (e_binE (e_of (.var r2) (e_lst (.cons (.call (P.F.calB _ (by decide)) (.cons .lit .nil) chr233) .nil) ⟨_, _, (if_neg (Nat.ne_of_lt lj')).trans hj', if_pos rfl, by decide, ?_⟩))))
  have g2 : Grow σ' ((σ'.new (.list [.str [233]])).new (.list ((pieces2.map PV.str) ++ [.str [233]]))) := grow_new.new
  have ef' : getI (fs.map PV.int) (1 + (k : Int)) = some (.int f) := by
    have e : ((1 : Int) + (k : Int)) = ((1 + k : Nat) : Int) := by omega
    rw [e]; exact ef
  refine e_of (.mod (.subL (.var r1) ((g2.old i (Nat.lt_of_lt_of_le li g.n)).trans hi') (.add .lit (.var rfl)) ef') .lit (by decide)) ?_
  show wSub _ (.ref _) (.int (Int.fmod f 23)) _
  have at2 : ((σ'.new (.list [.str [233]])).new (.list ((pieces2.map PV.str) ++ [.str [233]]))).at_ (σ'.new (.list [.str [233]])).n = some (.list ((pieces2.map PV.str) ++ [.str [233]])) := if_pos rfl
  unfold wSub; dsimp only
  rw [at2]
  exact ⟨_, es, by omega, s_nil (ih _ _ ⟨r1, r2, g.trans g2, s ++ s', rfl, by rw [List.length_append]; omega, fun y hy' => by
    rcases List.mem_append.mp hy' with q | q
    · exact hy y q
    · exact ys y q⟩)⟩
end
end Mine
end

section
open PySem PySem.W PyProof.Rows PySem.Calls
set_option Elab.async false
set_option linter.unusedVariables false
set_option maxRecDepth 100000
namespace Mine

section
variable {c : Sx} {lv : Nat} {hd : Option Nat} {σ σ' : St} {ρ : Loc} {Q : Fl → Loc → St → Prop} {X : Nat → Loc → St → Prop} {r : Ss} {Qc : PV → St → Prop} {Xc : Nat → St → Prop} {cs : List Int}
variable {l h' t rd sy op fl : Nat}

/-- the state between two clauses -/
structure LwS (σ' : St) (cs s : List Int) (l h' t rd sy op fl i : Nat) (L0 L : List (Nat × DE)) : Prop where
  T : TkS σ' t h' cs s 0
  R : ∃ a, RdS σ' rd sy op fl t a
  hl : σ'.at_ l = some (.list (cs.map .int))
  hi : σ'.at_ i = some (.list (L0.map (dePV cs)))
  lt : l < σ'.n ∧ i < σ'.n
  ne : l ≠ t ∧ l ≠ rd ∧ i ≠ t ∧ i ≠ rd
  lk : ∃ s', Link cs s (L.map (·.2)) s'
  ent : ∀ x ∈ L, σ'.at_ x.1 = some (.list (x.2.ks.map (·.pv cs))) ∧ x.1 < σ'.n ∧ (x.1 ≠ t ∧ x.1 ≠ rd) ∧ (∀ y ∈ x.2.ks, y.Ok) ∧ EnOk x.2

theorem turn_ok (P : Lw c) {i : Nat} {L0 L : List (Nat × DE)} {x : Nat × DE} {s : List Int} (S : LwS σ' cs s l h' t rd sy op fl i L0 (x :: L)) (r40 : ρ 40 = some (.ref rd)) (r28 : ρ 28 = some (.ref x.1)) (r29 : ρ 29 = some (wPV cs x.2.w)) (r41 : ρ 41 = some (.int (ps cs x.2.r)))
    (h : ∀ σ'' ρ', (∀ k ∈ [2, 38, 40], ρ' k = ρ k) → LwS σ'' cs x.2.r l h' t rd sy op fl i L0 L → Q .next ρ' σ'') :
    wpSs c (lv + 9) (.cons (.asg (.var 42) (.tup .nil)) (.cons (.asg (.var 43) (.lst .nil)) (.cons (.try_ (.cons (.asg (.var 43) (.meth (.var 40) 45 .nil)) .nil) (some 31) (.cons (.asg (.var 42) (.tup (.cons (.attr (.var 31) 35) (.cons (.attr (.var 31) 34) (.cons (.attr (.var 31) 22) (.cons (.attr (.var 31) 33) .nil)))))) .nil)) (.cons (.ite (.bools .Or (.cons (.cmp .NotEq (.var 43) (.var 28)) (.cons (.cmp .NotEq (.var 42) (.var 29)) (.cons (.cmp .NotEq (.attr (.var 40) 34) (.var 41)) .nil)))) (.cons (.ret (.lit (.bool false))) .nil) .nil) .nil)))) none ρ σ' Q X := by
  obtain ⟨a, R⟩ := S.R
  obtain ⟨s', lk⟩ := S.lk
  obtain ⟨hout, lk'⟩ : gaS cs s = x.2.out ∧ Link cs x.2.r (L.map fun y : Nat × DE => y.2) s' := lk
  obtain ⟨ex, lx, nx, okx, ⟨wx, kx⟩⟩ := S.ent x (.head _)
  have G : Grow σ' (σ'.new (.list [])) := grow_new
  have keepAll : ∀ {σ₁ : St}, Kp2 (σ'.new (.list [])) σ₁ t rd → ∀ j, j < σ'.n → j ≠ t → j ≠ rd → σ₁.at_ j = σ'.at_ j := fun {σ₁} k j hj a b => (k.old j (Nat.lt_succ_of_lt hj) a b).trans (G.old j hj)
  -- the state behind the call
  have next : ∀ {σ₁ : St}, Kp2 (σ'.new (.list [])) σ₁ t rd → TkS σ₁ t h' cs x.2.r 0 → RdS σ₁ rd sy op fl t (ps cs x.2.r) → LwS σ₁ cs x.2.r l h' t rd sy op fl i L0 L := fun {σ₁} k T₁ R₁ =>
    have hn : σ'.n ≤ σ₁.n := Nat.le_trans (Nat.le_succ _) k.n
    ⟨T₁, ⟨_, R₁⟩, (keepAll k l S.lt.1 S.ne.1 S.ne.2.1).trans S.hl, (keepAll k i S.lt.2 S.ne.2.2.1 S.ne.2.2.2).trans S.hi, ⟨Nat.lt_of_lt_of_le S.lt.1 hn, Nat.lt_of_lt_of_le S.lt.2 hn⟩, S.ne, ⟨s', lk'⟩, fun y hy => by
      obtain ⟨q1, q2, q3, q4, q5⟩ := S.ent y (.tail _ hy)
      exact ⟨(keepAll k _ q2 q3.1 q3.2).trans q1, Nat.lt_of_lt_of_le q2 hn, q3, q4, q5⟩⟩
  -- the last test
  have test : ∀ {σ₁ : St} {ρ₁ : Loc} {j : Nat}, Kp2 (σ'.new (.list [])) σ₁ t rd → TkS σ₁ t h' cs x.2.r 0 → RdS σ₁ rd sy op fl t (ps cs x.2.r) → ρ₁ 43 = some (.ref j) → σ₁.at_ j = some (.list (x.2.ks.map (·.pv cs))) → ρ₁ 42 = some (wPV cs x.2.w) → ρ₁ 28 = some (.ref x.1) → ρ₁ 29 = some (wPV cs x.2.w) → ρ₁ 41 = some (.int (ps cs x.2.r)) → (∀ k ∈ [2, 38, 40], ρ₁ k = ρ k) →
      wpSs c (lv + 9) (.cons (.ite (.bools .Or (.cons (.cmp .NotEq (.var 43) (.var 28)) (.cons (.cmp .NotEq (.var 42) (.var 29)) (.cons (.cmp .NotEq (.attr (.var 40) 34) (.var 41)) .nil)))) (.cons (.ret (.lit (.bool false))) .nil) .nil) .nil) none ρ₁ σ₁ Q X := fun {σ₁ ρ₁ j} k T₁ R₁ r43 hj r42 r28 r29 r41 ho => by
    have d1 := toks_dOf (cs := cs) okx hj
    have d2 := toks_dOf (cs := cs) okx ((keepAll k x.1 lx nx.1 nx.2).trans ex)
    have d3 := w_dOf (σ := σ₁) (cs := cs) wx
    obtain ⟨vs, hv⟩ := wPV_tup cs x.2.w
    rw [hv] at r42 r29 d3
    refine s_if (.bools (.or (.cmp (.neRR (.var r43) (.var r28) d1 d2)) fun _ => .or (.cmp (.neTT (.var r42) (.var r29) d3 d3)) fun _ => .or1 (.neI (.attr (.var ((ho 40 (by decide)).trans r40)) R₁.hr (P.D.fR _ (by decide)) rfl) (.var r41)))) (fun g => ?_) fun _ => s_nil (an_nil (h _ _ ho (next k T₁ R₁)))
    rcases g with g | g | g
    · rw [same_d d1] at g; exact absurd g (by decide)
    · rw [same_d d3] at g; exact absurd g (by decide)
    · exact absurd rfl g
  have T0 := S.T.grow G
  have R0 : RdS (σ'.new (.list [])) rd sy op fl t a := R.keep (Grow.keep G)
  have ho' : ∀ {k : Nat} {p q u : PV}, k ∈ [2, 38, 40] → upd (upd (upd ρ 42 p) 43 q) 43 u k = ρ k := fun {k p q u} hk => by
    simp only [List.mem_cons, List.not_mem_nil, or_false] at hk
    rcases hk with rfl | rfl | rfl <;> rfl
  refine s_var (.tup .nil) (s_asgE (e_lst .nil (s_try (s_asgE (e_meth (.var r40) R0.hr rfl P.D.mR .nil (gather_ok P.D.toRd R0 T0 (fun σ₁ j ks z e k T₁ R₁ lo hi hj => ?_) fun σ₁ j kd u z e k T₁ R₁ lo hi hj => ?_))))))
  · have e : gaS cs s = .ok ks z := e
    rw [hout] at e
    obtain ⟨xi, ⟨xk, xw, xr⟩⟩ := x
    cases xw with
    | some w => exact absurd e (by intro q; cases q)
    | none =>
      cases e
      exact s_nil (an_cons (test k T₁ R₁ rfl hj rfl r28 r29 r41 fun k hk => ho' hk))
  · have e : gaS cs s = .fault kd u z := e
    rw [hout] at e
    obtain ⟨xi, ⟨xk, xw, xr⟩⟩ := x
    cases xw with
    | none => exact absurd e (by intro q; cases q)
    | some w =>
      cases e
      have hk0 : xk = [] := kx (Option.some_ne_none w)
      subst hk0
      have hn' : σ'.n ≠ t ∧ σ'.n ≠ rd := ⟨Nat.ne_of_gt S.T.tn, Nat.ne_of_gt R.rn⟩
      refine s_var (.tup (.cons (.attrX (.var rfl) hj (P.D.fX _ (by decide)) rfl) (.cons (.attrX (.var rfl) hj (P.D.fX _ (by decide)) rfl) (.cons (.attrX (.var rfl) hj (P.D.fX _ (by decide)) rfl) (.cons (.attrX (.var rfl) hj (P.D.fX _ (by decide)) rfl) .nil))))) (s_nil (an_cons (test k T₁ R₁ (j := σ'.n) rfl ((k.old σ'.n (Nat.lt_succ_self _) hn'.1 hn'.2).trans (if_pos rfl)) rfl r28 r29 r41 fun k hk => ?_)))
      simp only [List.mem_cons, List.not_mem_nil, or_false] at hk
      rcases hk with rfl | rfl | rfl <;> rfl

theorem law_ok (P : Lw c) (h : ∀ σ', Qc (.bool true) σ') : CodeOk c (lv + 11) none (.ref 862) [.st (.ref c.scr)] σ Qc Xc := P.law _ _ _ _ _ _ rfl (by
  refine s_asgE (e_call P.F.calF (.cons (.var rfl) (.cons .lit .nil)) (figures_ok (w := 11) P.F (by decide) fun σ₁ i fs g₁ lo hi hf hl hx => s_asgE (e_lst (EVs.lits (pieces2.map .str)) ?_)))
  refine text_ok P rfl rfl ((grow_new.old i hi).trans hf) (if_pos rfl) (Nat.lt_succ_of_lt hi) (Nat.lt_succ_self _) hl hx fun ρ σ₂ s g₂ r19 hs hy => ?_
  refine s_asgE (e_compS (.var r19) ?_)
  refine comp_maps (hd := none) (fun y : Nat => True) (f := fun y => PV.str [y]) (g := fun y => PV.int y) (G := fun σ => wGuard σ (.str s) (s.map fun x => .str [x])) (fun y σ Q _ q => EV.call (c := c) (P.F.calB (.builtin "ord") (by decide)) (.cons (.var rfl) .nil) ord_cv _ _ q) (fun _ _ _ => trivial) s [] (σ₂.new (.list [])) _ trivial (if_pos rfl) trivial (fun h e => (nomatch e)) (by rw [List.length_nil]; omega) (fun _ _ => trivial) fun σ₃ k3 n3 a3 => ?_
  generalize hcs : s.map (fun y : Nat => (y : Int)) = cs
  have e3 : ([] ++ s).map (fun y : Nat => PV.int y) = cs.map .int := by rw [← hcs, List.map_map]; rfl
  rw [e3] at a3
  have ok : Ok cs := ⟨fun x hx => by
    rw [← hcs] at hx
    obtain ⟨y, hy', rfl⟩ := List.mem_map.mp hx
    have := hy y hy'; omega, by rw [← hcs, List.length_map]; omega⟩
  have l3 : σ₂.n < σ₃.n := by rw [n3]; exact Nat.lt_succ_self _
  refine s_asgE (e_slc (.var rfl) a3 .lit .lit rfl rfl ?_)
  rw [List.drop_zero, Nat.sub_zero, List.take_length]
  have G4 : Grow σ₃ (σ₃.new (.list (cs.map .int))) := grow_new
  have n4 : (σ₃.new (.list (cs.map .int))).n = σ₃.n + 1 := rfl
  refine s_asgE (e_call (P.K.cal _ (by decide)) .nil (symbols_ok P.K.toSb fun σ₅ y g5 hy5 SY => ?_))
  refine s_asgE (e_callE (P.D.calM _ (by decide)) (es_cons (.var rfl) (es_consE (e_call (P.K.calO _ (by decide)) (.cons (.var rfl) (.cons .lit .nil)) (ops_ok P.K fun σ₆ g6 => es_consE (e_call (P.K.calO _ (by decide)) (.cons (.var rfl) .nil) (flags_ok P.K (SY.grow g6) (by decide +kernel) fun σ₇ k7 S7 _ _ => es_cons (.var rfl) (es_nil ?_))))))))
  obtain ⟨y1, y2, y3, y4, y5⟩ := hy5
  have n5 := g5.n
  have n6 := g6.n
  have n7 := k7.n
  have up7 : ∀ j, j < σ₃.n + 1 → σ₇.at_ j = (σ₃.new (.list (cs.map .int))).at_ j := fun j hj => (k7.old j (by omega) (by omega) (by omega) (by omega) (by omega)).trans ((g6.old j (by omega)).trans (g5.old j (by omega)))
  have al : σ₇.at_ σ₂.n = some (.list (cs.map .int)) := (up7 _ (by omega)).trans ((G4.old _ l3).trans a3)
  have ah : σ₇.at_ σ₃.n = some (.list (cs.map .int)) := (up7 _ (Nat.lt_succ_self _)).trans (if_pos rfl)
  refine reader_ok P.D.toMk ah (by omega) ok fun σ₈ t g8 t8 T8 R8 => ?_
  have n8 := g8.n
  refine s_forE (e_call P.D.calD (.cons (.var rfl) .nil) (due_ok P.D (l := σ₂.n) ((g8.old _ (by omega)).trans al) (by omega) ok fun σ₉ i ⟨L, hi, g9, li, lk, ent⟩ => ?_))
  have t9 : t < σ₈.n := T8.tn
  have r9 : σ₇.n < σ₈.n := R8.rn
  have S9 : LwS σ₉ cs cs σ₂.n σ₃.n t σ₇.n y.b σ₅.n σ₆.n i L L := by
    refine ⟨T8.grow g9, ⟨_, R8.keep (Grow.keep g9)⟩, (g9.old _ (by omega)).trans ((g8.old _ (by omega)).trans al), hi, ⟨by have := g9.n; omega, li.2⟩, ⟨by omega, by omega, by omega, by omega⟩, lk, fun x hx => ?_⟩
    obtain ⟨q1, q2, q3, q4, q5⟩ := ent x hx
    exact ⟨q1, q2.2, ⟨by omega, by omega⟩, q4, q5⟩
  refine forK_list hi (fun rest ρ σ' => ∃ (L' : List (Nat × DE)) (z : List Int), rest = L'.map (dePV cs) ∧ ρ 2 = some (.ref σ₂.n) ∧ ρ 38 = some (.ref σ₃.n) ∧ ρ 40 = some (.ref σ₇.n) ∧ LwS σ' cs z σ₂.n σ₃.n t σ₇.n y.b σ₅.n σ₆.n i L L')
    ⟨L, cs, rfl, rfl, rfl, rfl, S9⟩ (fun rest ρ σ' ⟨L', z, _, _, _, _, S⟩ => S.hi) (fun v rest ρ σ' R ⟨L', z, e, r2, r38, r40, S⟩ ih => ?_) fun ρ σ' ⟨L', z, e, r2, r38, r40, S⟩ => ?_
  · cases L' with
    | nil => cases e
    | cons x L' =>
      obtain ⟨rfl, rfl⟩ := List.cons.inj e
      refine ⟨rfl, trivial, ?_⟩
      exact turn_ok P S r40 rfl rfl rfl fun σ'' ρ' ho S' => ih _ _ ⟨L', _, rfl, (ho 2 (by decide)).trans r2, (ho 38 (by decide)).trans r38, (ho 40 (by decide)).trans r40, S'⟩
  · have d1 := ints_dOf S.T.hl
    have d2 := ints_dOf S.hl
    refine s_ret (.eqRR (.var r38) (.var r2) d1 d2) ?_
    have : PyData.eqv (.list (cs.map .int)) (.list (cs.map .int)) = true := same_d d1
    rw [this]; exact h _)
end
end Mine
end

section
open PySem PySem.W PyProof.Rows PySem.Calls
set_option Elab.async false
set_option linter.unusedVariables false
set_option maxRecDepth 100000
namespace Mine
theorem fn2 (H : Here D2) (hb : ∀ e ∈ D2.fns, bodyOf H.K D2.cc e.a = e.body) (i : Nat) (h : i < D2.fns.length) : FnR H.sx (D2.fns[i]).a (D2.fns[i]).ks ((D2.fns[i]).ks.length - (D2.fns[i]).pd.length) (D2.fns[i]).pd (D2.fns[i]).body :=
  fnR_of (c := H.sx) rfl (H.S.fns _ (List.getElem_mem h)) (hb _ (List.getElem_mem h))
theorem mk2 (H : Here D2) {C f : Addr} (h : (C, f) ∈ D2.classes) : makesIn H.K C = true ∧ findIn H.K (.ref C) "__init__" = some (some (.ref f)) ∧ typeIn H.K (.ref f) = some (.type "function") := by
  have := H.S.classes _ h
  simp only [madeOk, Bool.and_eq_true, beq_iff_eq] at this
  exact ⟨this.1.1, this.1.2, this.2⟩
theorem tz_of (H : Here D2) (hb : ∀ e ∈ D2.fns, bodyOf H.K D2.cc e.a = e.body) : Tz H.sx := {
  exc := rfl
  exIn := excIn_of H.S.exIn
  exI := H.S.exI
  exF := H.S.exF
  cal := (by show ∀ a ∈ ([51, 165, 172, 179, 186, 193, 200, 207, 214, 219, 226, 233] : List Addr), D2.callee (.ref a) = true; decide +kernel)
  calB := (by show ∀ a ∈ bcalls, D2.callee a = true; decide +kernel)
  fT := (by show ∀ x ∈ [2, 34, 76], D2.fld 370 x = true; decide +kernel)
  fX := (by show ∀ x ∈ [35, 34, 22, 33], D2.fld 51 x = true; decide +kernel)
  m := (by show ∀ p ∈ ([(80, 255), (5, 262), (31, 269), (32, 276), (160, 283), (79, 290), (85, 297), (86, 304), (83, 311), (82, 318), (88, 325), (81, 332), (93, 339), (94, 346), (84, 353), (95, 360), (97, 367)] : List (Nat × Addr)), D2.meth 370 p.1 = some (.ref p.2); decide +kernel)
  b := (by show ∀ p ∈ bmeths, (bmeths.lookup (p.1.1, p.1.2)).map Value.builtin = some (.builtin p.2); decide +kernel)
  fault0 := fn2 H hb 0 (by decide)
  is_layout := fn2 H hb 7 (by decide)
  is_digit := fn2 H hb 8 (by decide)
  is_small := fn2 H hb 9 (by decide)
  is_capital := fn2 H hb 10 (by decide)
  is_alnum := fn2 H hb 11 (by decide)
  is_symbol := fn2 H hb 12 (by decide)
  is_quotable := fn2 H hb 13 (by decide)
  digit_value := fn2 H hb 14 (by decide)
  codes_text := fn2 H hb 15 (by decide)
  simple_escape := fn2 H hb 16 (by decide)
  numeral_base := fn2 H hb 17 (by decide)
  code_at := fn2 H hb 20 (by decide)
  place := fn2 H hb 21 (by decide)
  fault := fn2 H hb 22 (by decide)
  next := fn2 H hb 23 (by decide)
  skip_clause := fn2 H hb 24 (by decide)
  skip_layout := fn2 H hb 25 (by decide)
  skip_row := fn2 H hb 26 (by decide)
  skip_remark := fn2 H hb 27 (by decide)
  word := fn2 H hb 28 (by decide)
  symbol := fn2 H hb 29 (by decide)
  ends_at := fn2 H hb 30 (by decide)
  numeral := fn2 H hb 31 (by decide)
  digits := fn2 H hb 32 (by decide)
  character := fn2 H hb 33 (by decide)
  quoted := fn2 H hb 34 (by decide)
  escape := fn2 H hb 35 (by decide)
  abandon := fn2 H hb 36 (by decide) }
theorem rd_of (H : Here D2) (hb : ∀ e ∈ D2.fns, bodyOf H.K D2.cc e.a = e.body) : Rd H.sx := { tz_of H hb with
  fR := (by show ∀ x ∈ [100, 59, 60, 26, 34], D2.fld 839 x = true; decide +kernel)
  mR := (by show D2.meth 839 45 = _; decide +kernel)
  gather := fn2 H hb 46 (by decide) }
theorem sb_of (H : Here D2) (hb : ∀ e ∈ D2.fns, bodyOf H.K D2.cc e.a = e.body) : Sb H.sx := {
  cal := (by show ∀ a ∈ ([60, 67, 154] : List Addr), D2.callee (.ref a) = true; decide +kernel)
  calB := (by show ∀ a ∈ bcalls, D2.callee a = true; decide +kernel)
  f := (by show ∀ x ∈ [68, 69, 70, 71], D2.fld 154 x = true; decide +kernel)
  m := (by show ∀ p ∈ ([(72, 88), (9, 102), (66, 109)] : List (Nat × Addr)), D2.meth 154 p.1 = some (.ref p.2); decide +kernel)
  b := (by show ∀ p ∈ bmeths, (bmeths.lookup (p.1.1, p.1.2)).map Value.builtin = some (.builtin p.2); decide +kernel)
  mks := mk2 H (C := 154) (f := 81) (by decide)
  fixed_atoms := fn2 H hb 1 (by decide)
  fixed_functors := fn2 H hb 2 (by decide)
  init := fn2 H hb 3 (by decide)
  atom := fn2 H hb 4 (by decide)
  functor := fn2 H hb 5 (by decide)
  func := fn2 H hb 6 (by decide) }
theorem bk_of (H : Here D2) (hb : ∀ e ∈ D2.fns, bodyOf H.K D2.cc e.a = e.body) : Bk H.sx := { sb_of H hb with
  calO := (by show ∀ a ∈ ([509, 565, 428, 435] : List Addr), D2.callee (.ref a) = true; decide +kernel)
  fO := (by show ∀ x ∈ [100, 102, 103, 104], D2.fld 509 x = true; decide +kernel)
  fF := (by show ∀ x ∈ [100, 112, 113, 114], D2.fld 565 x = true; decide +kernel)
  mO := (by show ∀ p ∈ ([(110, 492), (105, 499)] : List (Nat × Addr)), D2.meth 509 p.1 = some (.ref p.2); decide +kernel)
  mkO := mk2 H (C := 509) (f := 457) (by decide)
  mkF := mk2 H (C := 565) (f := 527) (by decide)
  flag_rows := fn2 H hb 37 (by decide)
  fixity := fn2 H hb 38 (by decide)
  initO := fn2 H hb 39 (by decide)
  table_of := fn2 H hb 41 (by decide)
  add := fn2 H hb 42 (by decide)
  initF := fn2 H hb 43 (by decide) }
theorem mk_of (H : Here D2) (hb : ∀ e ∈ D2.fns, bodyOf H.K D2.cc e.a = e.body) : Mk H.sx := { rd_of H hb with
  calM := (by show ∀ a ∈ ([370, 839] : List Addr), D2.callee (.ref a) = true; decide +kernel)
  mkT := mk2 H (C := 370) (f := 248) (by decide)
  mkR := mk2 H (C := 839) (f := 815) (by decide)
  initT3 := fn2 H hb 18 (by decide)
  initT2 := fn2 H hb 19 (by decide)
  initR := fn2 H hb 45 (by decide) }
theorem fg_of (H : Here D2) (hb : ∀ e ∈ D2.fns, bodyOf H.K D2.cc e.a = e.body) : Fg H.sx := {
  calB := (by show ∀ a ∈ bcalls, D2.callee a = true; decide +kernel)
  b := (by show ∀ p ∈ bmeths, (bmeths.lookup (p.1.1, p.1.2)).map Value.builtin = some (.builtin p.2); decide +kernel)
  calF := (by show D2.callee (.ref 850) = true; decide +kernel)
  figures := fn2 H hb 47 (by decide) }
theorem du_of (H : Here D2) (hb : ∀ e ∈ D2.fns, bodyOf H.K D2.cc e.a = e.body) : Du H.sx := { mk_of H hb with
  calD := (by show D2.callee (.ref 857) = true; decide +kernel)
  due := fn2 H hb 48 (by decide) }
theorem lw_of (H : Here D2) (hb : ∀ e ∈ D2.fns, bodyOf H.K D2.cc e.a = e.body) : Lw H.sx := {
  D := du_of H hb
  K := bk_of H hb
  F := fg_of H hb
  law := fn2 H hb 49 (by decide) }
end Mine
end

section
open PySem PySem.W PyProof.Rows PySem.Calls
set_option Elab.async false
set_option linter.unusedVariables false
set_option maxRecDepth 100000
namespace Mine
noncomputable section

/-- the run of the top over a tree of objects -/
noncomputable def topRunT (tb : String → Option Builtin) (p : Program) (w : World) (n₀ : Nat) (ann : Option Value) : Nat → SharedT → Thread → Option SharedT
  | 0, _, _ => none
  | n + 1, s, t => match through t with
    | true => some s
    | false => match stepOk n₀ ann t with
      | false => none
      | true => match stepT (denote tb) p w s t with
        | some (s', t') => topRunT tb p w n₀ ann n s' t'
        | none => none

theorem topRunT_of {tb : String → Option Builtin} {p : Program} {w : World} {n₀ : Nat} {ann : Option Value} :
    ∀ {n : Nat} {s s' : SharedT} {t : Thread}, topRunT tb p w n₀ ann n s t = some s' → topRun tb p w n₀ ann n s.abs t = some s'.abs
  | 0, _, _, _, h => by cases h
  | n + 1, s, s', t, h => by
    unfold topRunT at h
    unfold topRun
    cases ht : through t with
    | true => rw [ht] at h; cases h; rfl
    | false =>
      rw [ht] at h
      cases hk : stepOk n₀ ann t with
      | false => rw [hk] at h; cases h
      | true =>
        rw [hk] at h
        cases hs : stepT (denote tb) p w s t with
        | none => rw [hs] at h; cases h
        | some r => obtain ⟨s₂, t₂⟩ := r; rw [hs] at h; rw [stepT_spec hs]; exact topRunT_of h

noncomputable def bootT (P : Params) : BT :=
  .node (boot_o_0 P)
    (.node (boot_o_1 P) (.node (boot_o_3 P) (.node (boot_o_7 P) .nil .nil) .nil) (.node (boot_o_5 P) (.node (boot_o_9 P) .nil .nil) .nil))
    (.node (boot_o_2 P) (.node (boot_o_4 P) (.node (boot_o_8 P) .nil .nil) .nil) (.node (boot_o_6 P) (.node (boot_o_10 P) .nil .nil) .nil))

noncomputable def boot0 (w : World) (os : OsState) : SharedT := ⟨bootT w.params, 11, {}, Array.mk [], boot_drawn, boot_toks, os⟩
theorem boot0_abs (w : World) (os : OsState) : (boot0 w os).abs = ⟨boot_heap w.params, Array.mk [], boot_drawn, boot_toks, os⟩ := rfl
noncomputable def bootH (w : World) : Heap := boot_heap w.params
noncomputable def annOf : Option Value := some (.ref 6)

/-! the checks with the table of names as a parameter -/
noncomputable def nmT (tab : List Str) (k : Nat) : Str := match tab[k]? with
  | some s => s
  | none => bigStr k
noncomputable def fnOkT (tab : List Str) (K : Frag) (e : FnE) : Bool := match K.lookup e.a with
  | some ⟨_, _, .func fd, _⟩ => codeIn K fd.code fd.qualname && (match fd.body with | .stmts _ => true | _ => false) && fd.scope.names.all (fun x => decide (x.2 ≠ .cell)) &&
      e.ks.all (fun k => decide (k < tab.length) && decide (fd.scope.names.lookup (nmT tab k) = some .local)) && !fd.scope.isCoroutine && !fd.scope.isGenerator && decide (fd.scope.kind = .function) &&
      fd.globals == mainGlobals && fd.builtins == builtinsNs && fd.params.posonlyargs.isEmpty && fd.params.args.map (·.arg) == e.ks.map (nmT tab) && fd.params.vararg.isNone && fd.params.kwonlyargs.isEmpty && fd.params.kwarg.isNone &&
      decide (e.pd.length ≤ e.ks.length) && decide e.ks.Nodup && (match dflOf K fd.defaults with
        | some o => (e.pd.isEmpty && decide ((o.getD #[]).toList.length ≤ e.ks.length)) || okDs e.pd (o.getD #[]).toList
        | none => false)
  | _ => false
theorem fnOkT_eq (K : Frag) (e : FnE) : fnOkT B.tab K e = fnOk K e := rfl
noncomputable def fldOkT (tab : List Str) (K : Frag) (p : Addr × List Nat) : Bool := clsOk K p.1 && p.2.all fun x => decide (x < tab.length) && findIn K (.ref p.1) (nmT tab x) == some none
noncomputable def methOkT (tab : List Str) (K : Frag) (m : Addr × Nat × Addr) : Bool := clsOk K m.1 && findIn K (.ref m.1) "__getattribute__" == some (some (.builtin "object.__getattribute__")) &&
  findIn K (.ref m.1) (nmT tab m.2.1) == some (some (.ref m.2.2)) && typeIn K (.ref m.2.2) == some (.type "function") && keepIn K (.ref m.2.2)
noncomputable def statOkT (tab : List Str) (K : Frag) (D : PD) : Bool :=
  (D.globs.all fun g => okGlob K g.1 g.2) && D.fns.all (fnOkT tab K) && D.callees.all (keepIn K) && D.flds.all (fldOkT tab K) && D.meths.all (methOkT tab K) && D.classes.all (madeOk K) &&
  (mroIn K 51 (.type "BaseException") == some true && typeIn K (.ref 51) == some (.type "type") && exmOne K (.ref 51) (.ref 51) == some true) && excInB K 51 && findIn K (.ref 51) "__init__" == some (some (.ref 48)) && typeIn K (.ref 48) == some (.type "function") &&
  nsIn K mainGlobals "SyntaxFault" == some (some (.ref 51)) && nsIn K mainGlobals "range" == some none && nsIn K mainGlobals "reversed" == some none && (K.lookup sysModules).isSome
theorem statOkT_eq (K : Frag) (D : PD) : statOkT B.tab K D = statOk K D := rfl
noncomputable def ccT (tab : List Str) (D : PD) : CC := ⟨tab, fun x => D.globs.lookup x, "SyntaxFault"⟩

noncomputable def viewOf (p : Program) : Program := { p with main := { p.main with body := p.main.body.drop (p.main.body.length - 1) } }
noncomputable def looseOf (p : Program) : List Str := p.boundNames.eraseDups.filter fun k => !startupNames.contains k && k != ("law" : Str)

noncomputable def YfT (tab : List Str) (D : PD) (ad : List Addr) (s : Shared) : Bool × List Ss := (statOkT tab (fragOf s.heap ad) D, D.fns.map fun e => bodyOf (fragOf s.heap ad) (ccT tab D) e.a)

noncomputable def Ya2 (w : World) : Bool × List Ss := (true, D2.fns.map FnE.body)
noncomputable def chkP (Y : Shared → Bool × List Ss) (p : Program) (b : World → OsState → SharedT) (hb : World → Heap) (w : World) (os : OsState) :=
  (topRunT treeTable p w 11 annOf 6000 (b w os) (topStub p)).map fun s =>
    (staticsOk (importedModules p.main.body) (hb w) s.abs.heap && namesBound p s.abs.heap && gensDone s.abs && laidKept (hb w) s.abs.heap,
      openSeen (viewOf p) (looseOf p) (importedModules p.main.body) (fun _ => true) true s.abs, Y s.abs, ((hb w).isNs mainGlobals, (hb w).objs.size, (hb w).nsMap mainGlobals "__annotations__"))

theorem left_of {p q : Program} {loose : List Str} {Xt : Shared → Bool} {α : Type} {Yf : Shared → α} {Ya : World → α} {N : Nat} (b : World → OsState → SharedT) (hb : World → Heap) (dr : Drawn) (tk : Nat)
    (open_ : ∀ w : World, (fencedOpening treeTable p w N).map (fun s => (s.heap, s.gens, s.drawn, s.toks)) = some (hb w, Array.mk [], dr, tk))
    (abs : ∀ w os, (b w os).abs = ⟨hb w, Array.mk [], dr, tk, os⟩)
    (chk : ∀ w os, (topRunT treeTable p w 11 annOf N (b w os) (topStub p)).map (fun s =>
      (staticsOk (importedModules p.main.body) (hb w) s.abs.heap && namesBound p s.abs.heap && gensDone s.abs && laidKept (hb w) s.abs.heap,
      openSeen q loose (importedModules p.main.body) Xt true s.abs, Yf s.abs, ((hb w).isNs mainGlobals, (hb w).objs.size, (hb w).nsMap mainGlobals "__annotations__"))) = some (true, openGood q loose, Ya w, (true, 11, annOf))) :
    LeftO p q loose Xt Yf Ya N := fun w => by
  obtain ⟨⟨h, gs, d, k, os⟩, e, e'⟩ := Option.map_eq_some_iff.mp (open_ w)
  obtain ⟨rfl, rfl, rfl, rfl⟩ : h = hb w ∧ gs = Array.mk [] ∧ d = dr ∧ k = tk := by simpa using e'
  obtain ⟨sT, c1, c2⟩ := Option.map_eq_some_iff.mp (chk w os)
  obtain ⟨l1, l2, l3, z1, z2, z3⟩ : _ ∧ _ ∧ _ ∧ _ ∧ _ ∧ _ := by simpa only [Prod.mk.injEq] using c2
  have r := topRunT_of c1
  rw [abs] at r
  have t : topFrom treeTable p w N ⟨hb w, Array.mk [], d, k, os⟩ = some sT.abs := by
    unfold topFrom
    dsimp only
    rw [z1, z2, z3, r]
    show (match staticsOk (importedModules p.main.body) (hb w) sT.abs.heap && namesBound p sT.abs.heap && gensDone sT.abs && laidKept (hb w) sT.abs.heap with | true => _ | false => _) = _
    rw [l1]
  unfold openEnds
  rw [e]
  show (topFrom treeTable p w N _).map _ = _
  rw [t]
  exact congrArg some (Prod.ext l2 l3)

lay_quick Mine.chkP
end
end Mine
end

section
open PySem PySem.W PyProof.Rows PySem.Calls
set_option Elab.async false
set_option linter.unusedVariables false
set_option maxRecDepth 100000
namespace Mine
noncomputable abbrev thePw : Program := PySem.Challenge.pw_sa0169_02
theorem chk_is : PySem.W.Fast.tw14096092432922939177 (YfT B.tab D2 D2.addrs) thePw boot0 bootH = fun _ _ => some (true, openGood (viewOf thePw) (looseOf thePw), (true, D2.fns.map FnE.body), (true, 11, annOf)) := by kernel_rfl
theorem chk_ok (w : World) (os : OsState) : chkP (YfT B.tab D2 D2.addrs) thePw boot0 bootH w os = some (true, openGood (viewOf thePw) (looseOf thePw), (true, D2.fns.map FnE.body), (true, 11, annOf)) := by
  rw [PySem.W.Fast.te14096092432922939177, chk_is]
end Mine
end

section
open PySem PySem.W PyProof.Rows PySem.Calls
set_option Elab.async false
set_option linter.unusedVariables false
set_option maxRecDepth 100000
namespace Mine
theorem open_ok (w : World) : (fencedOpening treeTable thePw w 6000).map (fun s => (s.heap, s.gens, s.drawn, s.toks)) = some (boot_heap w.params, Array.mk [], boot_drawn, boot_toks) :=
  boot_open (p := thePw) rfl rfl (fun s => rfl) w
theorem left : LeftO thePw (viewOf thePw) (looseOf thePw) (fun _ => true) (YfT B.tab D2 D2.addrs) Ya2 6000 :=
  left_of boot0 bootH boot_drawn boot_toks open_ok boot0_abs chk_ok

noncomputable def YP (w : World) (h : Heap) : Prop := ∃ K : Frag, K.In h ∧ Stat K D2 ∧ ∀ e ∈ D2.fns, bodyOf K D2.cc e.a = e.body
theorem YP_of (w : World) (s : Shared) (e : YfT B.tab D2 D2.addrs s = Ya2 w) : YP w s.heap := by
  obtain ⟨e1, e2⟩ := Prod.mk.inj e
  refine ⟨fragOf s.heap D2.addrs, fragOf_in _ _, .of e1, fun x hx => ?_⟩
  exact List.map_inj_left.mp e2 x hx
theorem YP_keep (w : World) (h h' : Heap) (y : YP w h) (k : ∀ b o, h.get? b = some o → h'.get? b = some o) : YP w h' := let ⟨K, a, b, c⟩ := y; ⟨K, a.keeps k, b, c⟩
end Mine
end

section
open PySem PySem.W PyProof.Rows PySem.Calls
set_option Elab.async false
set_option linter.unusedVariables false
set_option maxRecDepth 100000
namespace Mine
theorem run2 (H : Here D2) (hb : ∀ e ∈ D2.fns, bodyOf H.K D2.cc e.a = e.body) (s : Shared) (hB : H.B = s.heap) (hos : H.os = s.os) (hg : s.gens = #[]) :
    wpAny (model H.prog H.w) callerA (call (.ref 862) [.ref H.scr]) (fun v s' => v = .bool true ∧ (∀ b o, s.heap.get? b = some o → s'.heap.get? b = some o) ∧ s'.os = s.os ∧ s'.gens = #[]) (fun _ _ => False) s := by
  have L := (law_ok (c := H.sx) (lv := 0) (σ := ⟨0, fun _ => none⟩) (Qc := fun p _ => p = .bool true) (Xc := fun _ _ => False) (lw_of H hb) fun _ => rfl).call
  have R : Rep H.sx.toCx ⟨fun _ => 0, fun _ => 0, fun _ => .free⟩ [] [] ⟨0, fun _ => none⟩ s :=
    ⟨fun b o e => by rw [← hB]; exact e, hg, hos.symm, fun f hf => (nomatch hf), List.Pairwise.nil, fun p hp => (nomatch hp), fun i o e => (nomatch e), fun a ha => absurd rfl ha, fun a ha => absurd rfl ha⟩
  refine wpAny_mono (L callerA s _ [] [] [.ref H.scr] (by constructor <;> decide) rfl rfl R (.cons (.st _ rfl) .nil)) (fun v s' z => ?_) fun e s' z => ?_
  · obtain ⟨g, σ, p, R', _, r, rfl⟩ := z
    cases r
    exact ⟨rfl, fun b o e => R'.stays b o (by show H.B.get? b = _; rw [hB]; exact e), R'.os.trans hos, R'.gens⟩
  · obtain ⟨g, σ, i, _, _, _, _, z⟩ := z
    exact z

theorem ints_reps : ∀ {xs : List Value} {ns : List Int}, IntsAre xs ns → ∀ h loc n, VReps h loc n (ns.map .int) xs
  | _, _, .nil, _, _, _ => .nil
  | _, _, .cons n t r, h, loc, m => .cons (.int n t) (ints_reps r h loc m)
theorem ints_len : ∀ {xs : List Value} {ns : List Int}, IntsAre xs ns → xs.length = ns.length
  | _, _, .nil => rfl
  | _, _, .cons n t r => congrArg (· + 1) (ints_len r)

theorem end2 {q : Program} {loose : List Str} {R : WRecords} {XP : (Str → Option Value) → Heap → Prop} {w : World} {s₀ s₁ : Shared} {mg mb : Str → Option Value} (G : Ground q loose R XP w s₀ mg mb s₁.heap) (Y : YP w s₁.heap) {fa : Addr}
    (hmg : mg "law" = some (.ref fa)) (hg : s₁.gens = #[]) {a : Addr} {xs : List Value} {ns : List Int} (hL : s₁.heap.IsList a xs.toArray) (hI : IntsAre xs ns) (hn : ¬ ((63 : Nat) : Int) < ns.length) :
    wpAny (model thePw w) callerA (call (.ref fa) [.ref a]) (fun v s' => v = .bool true ∧ (∀ b o, s₁.heap.get? b = some o → s'.heap.get? b = some o) ∧ s'.os = s₁.os ∧ s'.gens = #[]) (fun _ _ => False) s₁ := by
  obtain ⟨K, X, S, hb⟩ := Y
  have e : fa = 862 := by
    obtain ⟨v, h1, h2⟩ := okGlob_of (h := s₁.heap) X G.T.g G.T.builtins (S.globs (("law" : Str), .st (.ref 862)) (by
      refine List.mem_of_getElem? (i := D2.globs.length - 1) ?_
      rfl))
    have h3 := h2 s₁.heap (fun _ => 0) 0 fun _ _ e => e
    cases h3
    rcases h1 with h1 | ⟨h1, _⟩
    · rw [hmg] at h1; cases h1; rfl
    · rw [hmg] at h1; cases h1
  subst e
  exact run2 ⟨thePw, w, K, s₁.heap, s₁.os, mg, mb, X, S, G.T.g, G.T.b, G.T.builtins, G.T.nolimit, a, ns, xs, hL, by rw [ints_len hI]; omega, ints_reps hI⟩ hb s₁ rfl rfl hg
end Mine

theorem Mine.said2 : PySem.Challenge.rw_sa0169_02.wellSaid = true := by
  rw [PySem.W.Fast.te9446332074065402090]
  kernel_rfl

set_option maxHeartbeats 8000000 in
theorem PySem.Challenge.cw_sa0169_02_holds : PySem.Challenge.rw_sa0169_02.Holds := by
  refine PySem.W.holds_law Mine.said2 fun said => ?_
  refine PySem.W.holds_open (q := Mine.viewOf Mine.thePw) (loose := Mine.looseOf Mine.thePw) (Xt := fun _ => true) (XP := fun _ _ => True) (Yf := Mine.YfT Mine.B.tab Mine.D2 Mine.D2.addrs) (Ya := Mine.Ya2) (YP := Mine.YP) (N := 6000)
    Mine.left Mine.YP_of Mine.YP_keep (fun _ _ => trivial) (fun _ _ _ _ _ => trivial) (by rfl) (by rfl) (by rfl) (fun _ _ => recFacts_nil rfl) (by rfl) (by first | assumption | decide +kernel) (by decide +kernel) ⟨rfl, rfl, rfl, rfl, rfl, by decide +kernel⟩ ?hw ?hc
  case hw => w_witness2
  case hc =>
    intro w s₀ s₁ mg mb G Y fa o pm cd doc dV kV ho hd hcd hD hmg hg args vals as hpre hlay hrd hwl hlo
    clear ho hd hcd hD
    wrow_args hpre hlay hrd hwl hlo
    refine wpAny_mono (Mine.end2 G Y hmg hg (by assumption) (by assumption) (by assumption)) (fun v s' z => GoodW.toG ⟨.inl ⟨v, .bool true, [], rfl, fun _ => rfl, ?_, ?_, fun _ => ⟨List.Pairwise.nil, fun _ h => (nomatch h)⟩⟩, z.2.1, z.2.2.1, z.2.2.2⟩) fun e s' z => z.elim
    · rw [z.1]; exact .bool _
    · wrow_post
end
