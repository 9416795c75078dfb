import PyProof.Rows.All
import Wide.All
import OpenK.AllK
import Wide.FinOn
import HandS.ForMost
import HandS.Deep
import HandS.IsInst
import HandS.TupAny
import KE.KeyNested
import HandS.Lambda
import KE.LtSeq
import PyProof.DictDisplay
import HandS.Star
import KE.SortCalls
import KE.SortKeyHeap
import HandS.SortKw
import HandS.Keys
import PyProof.TupleOfSeq
import PyProof.SeqIndex
import HandS.DictComp
import KE.KDictCopyH
import HandS.Style
import HandS.TupMul
import HandS.Iter
import HandS.RevRange
import HandS.Conv
import HandS.More
import PyProof.MeetsDict
import HandS.TupSets
import KE.KDictSum
import KE.SortData
import PyProof.Transfer
import PyProof.MaxThree
import HandS.DictSub
import HandS.CallLocal
import HandS.Wide
import PyProof.ReprReads
import PyProof.ReprLen
import PyProof.StrHeap
import PyProof.FactsAll.tuple_2
import KE.KNestM
import HandS.Nested
import HandS.Zip0
import KE.KDictPairs
import HandS.Strs
import KE.GoesMore
import KE.DataMinMax
import HandS.ExcInit
import HandS.ExcCtx
import HandS.FStr
import KE.KSuper
import KE.KExcSuper
import HandS.WordsExc
import HandS.ExcOwn
import PyProof.ReprRoads
import PySem.Challenge.RW_calltowers_k24_places_of_configurations
set_option Elab.async false
set_option linter.all false
set_option maxRecDepth 100000
set_option maxHeartbeats 800000
namespace DL
open PySem PySem.Spec L2
inductive D where
  | non
  | bl (b : Bool)
  | int (i : Int)
  | str (x : Str)
  | tup (ds : List D)
  | loc (n : Nat)
  /-- the script -/
  | scr (ns : List Int)
  /-- a def of the module -/
  | fn (x : Str)
  /-- a lambda made in a def, by its number, with what it holds -/
  | clo (i : Nat) (ds : List D)
inductive Ob where
  | lst (xs : List D)
  | dct (kvs : List (D × D))
  | ins (c : Nat) (fs : List (Str × D))
  | lck (kvs : List (D × D))
  /-- a lambda that was handed on, by its number, with what it holds; one that is not to be called here -/
  | clo (i : Nat) (ds : List D)
  | dead
def Ob.lk : Ob → Bool
  | .lck _ => true
  | .clo _ _ => true
  | .dead => true
  | _ => false
abbrev Sto := List Ob
abbrev Vars := List (Option D)
mutual
def D.key : D → NestedKey
  | .non => .none
  | .bl b => .num (if b = true then 1 else 0)
  | .int i => .num i
  | .str x => .text x
  | .tup ds => .tup (D.keys ds)
  | .loc _ => .none
  | .scr _ => .none
  | .fn _ => .none
  | .clo _ _ => .none
def D.keys : List D → List NestedKey
  | [] => []
  | d :: ds => D.key d :: D.keys ds
end
mutual
/-- no list, dict or instance in it -/
def D.pure : D → Bool
  | .loc _ => false
  | .scr _ => false
  | .fn _ => false
  | .clo _ _ => false
  | .tup ds => D.pures ds
  | .non => true
  | .bl _ => true
  | .int _ => true
  | .str _ => true
def D.pures : List D → Bool
  | [] => true
  | d :: ds => D.pure d && D.pures ds
end
mutual
def D.depth : D → Nat
  | .tup ds => D.depths ds + 1
  | .non => 0
  | .bl _ => 0
  | .int _ => 0
  | .str _ => 0
  | .loc _ => 0
  | .scr _ => 0
  | .fn _ => 0
  | .clo _ _ => 0
def D.depths : List D → Nat
  | [] => 0
  | d :: ds => max (D.depth d) (D.depths ds)
end
structure LamI where
  qual : Str
  params : Arguments
  body : Expr
  scope : Scope
  fr : List Str
structure CloI where
  i : Nat
  f : Addr
  c : Addr
  cl : List (Str × Addr)
  vs : List V
structure CAx where
  f : Nat → Addr
  tb : List (Addr × Str) := []
  lm : Nat → Option LamI := fun _ => none
  cv : List CloI := []
instance : CoeFun CAx fun _ => Nat → Addr := ⟨CAx.f⟩
structure Ctx where
  K : PySem.W.Frag
  w : World
  ca : CAx
def ScO (K : PySem.W.Frag) (H : Hp) (a : Addr) (vs : List V) : Prop := (∃ o, H a = some (.frz o (.lst vs))) ∨ ∃ (o : Obj) (its : Array Value) (n : Nat), K.lookup a = some o ∧ o.cls = .type "list" ∧ o.dict = none ∧ o.data = .seq its n ∧ its.size ≤ sizeLine ∧ Vals vs its.toList
def TpN (K : PySem.W.Frag) (H : Hp) (a : Addr) (vs : List V) : Prop := (∃ od, H a = some (.frz od (.tup vs)) ∧ od.dict = none) ∨ ∃ (o : Obj) (its : Array Value) (n : Nat), K.lookup a = some o ∧ o.cls = .type "tuple" ∧ o.dict = none ∧ o.data = .seq its n ∧ its.size ≤ sizeLine ∧ Vals vs its.toList
inductive SK where
  | scr
  | tup
  | clo (i : Nat)
def ScL (K : PySem.W.Frag) (H : Hp) (a : Addr) (p : SK × List V) : Prop := match p.1 with
  | .scr => ScO K H a p.2
  | .tup => TpN K H a p.2
  | .clo _ => False
theorem TpN.sq {K : PySem.W.Frag} {H : Hp} {a : Addr} {vs : List V} (h : TpN K H a vs) : SqT K H a vs := by
  rcases h with ⟨od, h, _⟩ | ⟨o, its, n, h1, h2, _, h3, h4, h5⟩
  · exact .inl (.inr ⟨od, h⟩)
  · exact .inr ⟨o, its, n, h1, h2, h3, h4, h5⟩
theorem TpN.of {K : PySem.W.Frag} {H : Hp} {p : Addr} {vs : List V} {od : Obj} (h : od.dict = none) : TpN K (upd H p (.frz od (.tup vs))) p vs := .inl ⟨od, upd_same, h⟩
theorem ScL.sq {K : PySem.W.Frag} {H : Hp} {a : Addr} {vs : List V} (h : ScL K H a (.scr, vs)) : SqL K H a vs := Or.elim (show ScO K H a vs from h) (fun ⟨o, q⟩ => .inl (.inr ⟨o, q⟩)) .inr
mutual
def DV (K : PySem.W.Frag) (r : List Addr) (H : Hp) : D → V → Prop
  | .non, v => v = .non
  | .bl b, v => v = .bl b
  | .int i, v => v = .int i
  | .str x, v => v = .str x
  | .tup ds, v => ∃ a vs, v = .ref a ∧ ScL K H a (.tup, vs) ∧ DVs K r H ds vs
  | .loc n, v => ∃ a, r[n]? = some a ∧ v = .ref a
  | .scr ns, v => ∃ a, v = .ref a ∧ ScL K H a (.scr, ns.map V.int)
  | .fn x, v => ∃ a, v = .ref a ∧ PySem.W.nsIn K mainGlobals x = some (some (.ref a))
  | .clo i ds, v => ∃ a vs, v = .ref a ∧ ScL K H a (.clo i, vs) ∧ DVs K r H ds vs
def DVs (K : PySem.W.Frag) (r : List Addr) (H : Hp) : List D → List V → Prop
  | [], vs => vs = []
  | d :: ds, vs => ∃ v us, vs = v :: us ∧ DV K r H d v ∧ DVs K r H ds us
end
structure Ext (K : PySem.W.Frag) (r : List Addr) (H : Hp) (r' : List Addr) (H' : Hp) : Prop where
  pre : r <+: r'
  tups : ∀ a vs, SqT K H a vs → SqT K H' a vs
  scrs : ∀ a vs, ScL K H a vs → ScL K H' a vs
  frame : ∀ a u, H a = some u → a ∉ r → (nt : ∀ ps, u ≠ .tbl ps := by intro _ z; cases z) → H' a = some u ∧ a ∉ r'
  frzs : ∀ a od u, H a = some (.frz od u) → H' a = some (.frz od u)
theorem Ext.refl {K r H} : Ext K r H r H := ⟨List.prefix_refl _, fun _ _ h => h, fun _ _ h => h, fun _ _ h n _ => ⟨h, n⟩, fun _ _ _ h => h⟩
theorem Ext.trans {K r H r1 H1 r2 H2} (a : Ext K r H r1 H1) (b : Ext K r1 H1 r2 H2) : Ext K r H r2 H2 :=
  ⟨a.pre.trans b.pre, fun x vs h => b.tups x vs (a.tups x vs h), fun x vs h => b.scrs x vs (a.scrs x vs h), fun x u h n nt => let ⟨h1, n1⟩ := a.frame x u h n nt; b.frame x u h1 n1 nt, fun x od u h => b.frzs x od u (a.frzs x od u h)⟩
theorem pre_get {α : Type} {l l' : List α} (h : l <+: l') {n : Nat} {a : α} (e : l[n]? = some a) : l'[n]? = some a := by
  obtain ⟨t, rfl⟩ := h
  rw [List.getElem?_append_left (List.getElem?_eq_some_iff.mp e).1]
  exact e
structure ExtW (K : PySem.W.Frag) (r : List Addr) (H : Hp) (r' : List Addr) (H' : Hp) : Prop where
  pre : r <+: r'
  tups : ∀ a vs, SqT K H a vs → SqT K H' a vs
  scrs : ∀ a vs, ScL K H a vs → ScL K H' a vs
theorem Ext.w {K r H r' H'} (x : Ext K r H r' H') : ExtW K r H r' H' := ⟨x.pre, x.tups, x.scrs⟩
structure ExtF (K : PySem.W.Frag) (r : List Addr) (H : Hp) (r' : List Addr) (H' : Hp) : Prop where
  w : ExtW K r H r' H'
  frzs : ∀ a od u, H a = some (.frz od u) → H' a = some (.frz od u)
theorem Ext.f {K r H r' H'} (x : Ext K r H r' H') : ExtF K r H r' H' := ⟨x.w, x.frzs⟩
theorem ExtW.trans {K r H r1 H1 r2 H2} (a : ExtW K r H r1 H1) (b : ExtW K r1 H1 r2 H2) : ExtW K r H r2 H2 := ⟨a.pre.trans b.pre, fun x vs h => b.tups x vs (a.tups x vs h), fun x vs h => b.scrs x vs (a.scrs x vs h)⟩
theorem ExtF.trans {K r H r1 H1 r2 H2} (a : ExtF K r H r1 H1) (b : ExtF K r1 H1 r2 H2) : ExtF K r H r2 H2 := ⟨a.w.trans b.w, fun x od u h => b.frzs x od u (a.frzs x od u h)⟩
theorem ExtF.refl {K r H} : ExtF K r H r H := Ext.refl.f
mutual
theorem DV.extW {K r H r' H'} (x : ExtW K r H r' H') : ∀ (d : D) (v : V), DV K r H d v → DV K r' H' d v
  | .non, _, h => h
  | .bl _, _, h => h
  | .int _, _, h => h
  | .str _, _, h => h
  | .tup ds, _, h => by
    obtain ⟨a, vs, e, h1, h2⟩ := h
    exact ⟨a, vs, e, x.scrs _ _ h1, DVs.extW x ds vs h2⟩
  | .loc n, _, h => by
    obtain ⟨a, e, h1⟩ := h
    exact ⟨a, pre_get x.pre e, h1⟩
  | .scr ns, _, h => by
    obtain ⟨a, e, h1⟩ := h
    exact ⟨a, e, x.scrs _ _ h1⟩
  | .fn _, _, h => h
  | .clo i ds, v, h => by
    unfold DV at h ⊢
    obtain ⟨a, vs, e, h1, h2⟩ := h
    exact ⟨a, vs, e, x.scrs _ _ h1, DVs.extW x _ _ h2⟩
theorem DVs.extW {K r H r' H'} (x : ExtW K r H r' H') : ∀ (ds : List D) (vs : List V), DVs K r H ds vs → DVs K r' H' ds vs
  | [], _, h => h
  | d :: ds, _, h => by
    obtain ⟨v, us, e, h1, h2⟩ := h
    exact ⟨v, us, e, DV.extW x d v h1, DVs.extW x ds us h2⟩
end
theorem DV.ext {K r H r' H'} (x : Ext K r H r' H') (d : D) (v : V) (h : DV K r H d v) : DV K r' H' d v := DV.extW x.w d v h
theorem DVs.ext {K r H r' H'} (x : Ext K r H r' H') (ds : List D) (vs : List V) (h : DVs K r H ds vs) : DVs K r' H' ds vs := DVs.extW x.w ds vs h
section
variable {K : PySem.W.Frag} {r : List Addr} {H : Hp}
theorem DVs.nil : DVs K r H [] [] := by unfold DVs; rfl
theorem DVs.cons {d : D} {v : V} {ds : List D} {vs : List V} (h : DV K r H d v) (t : DVs K r H ds vs) : DVs K r H (d :: ds) (v :: vs) := by unfold DVs; exact ⟨v, vs, rfl, h, t⟩
theorem DVs.length : ∀ {ds : List D} {vs : List V}, DVs K r H ds vs → vs.length = ds.length
  | [], _, h => by unfold DVs at h; rw [h]; rfl
  | _ :: ds, _, h => by
    unfold DVs at h
    obtain ⟨v, us, rfl, _, t⟩ := h
    simp [DVs.length t]
theorem DVs.get : ∀ {ds : List D} {vs : List V} {i : Nat} {d : D}, DVs K r H ds vs → ds[i]? = some d → ∃ v, vs[i]? = some v ∧ DV K r H d v
  | [], _, _, _, _, e => by simp at e
  | x :: ds, _, i, d, h, e => by
    unfold DVs at h
    obtain ⟨v, us, rfl, h1, t⟩ := h
    cases i with
    | zero => simp at e; subst e; exact ⟨v, rfl, h1⟩
    | succ i => simpa using DVs.get (i := i) t (by simpa using e)
theorem DVs.getV : ∀ {ds : List D} {vs : List V} {i : Nat} {v : V}, DVs K r H ds vs → vs[i]? = some v → ∃ d, ds[i]? = some d ∧ DV K r H d v
  | [], _, _, _, h, e => by unfold DVs at h; subst h; simp at e
  | x :: ds, _, i, v, h, e => by
    unfold DVs at h
    obtain ⟨w, us, rfl, h1, t⟩ := h
    cases i with
    | zero => simp at e; subst e; exact ⟨x, rfl, h1⟩
    | succ i => simpa using DVs.getV (i := i) t (by simpa using e)
theorem DVs.append : ∀ {ds es : List D} {vs us : List V}, DVs K r H ds vs → DVs K r H es us → DVs K r H (ds ++ es) (vs ++ us)
  | [], _, _, _, h, t => by unfold DVs at h; subst h; exact t
  | d :: ds, _, _, _, h, t => by
    unfold DVs at h
    obtain ⟨v, us, rfl, h1, h2⟩ := h
    exact DVs.cons h1 (DVs.append h2 t)
theorem DVs.take : ∀ {ds : List D} {vs : List V} (n : Nat), DVs K r H ds vs → DVs K r H (ds.take n) (vs.take n)
  | ds, vs, 0, _ => DVs.nil
  | [], _, n + 1, h => by unfold DVs at h; subst h; exact DVs.nil
  | d :: ds, _, n + 1, h => by
    unfold DVs at h
    obtain ⟨v, us, rfl, h1, h2⟩ := h
    exact DVs.cons h1 (DVs.take n h2)
theorem DVs.drop : ∀ {ds : List D} {vs : List V} (n : Nat), DVs K r H ds vs → DVs K r H (ds.drop n) (vs.drop n)
  | _, _, 0, h => h
  | [], _, n + 1, h => by unfold DVs at h; subst h; exact DVs.nil
  | d :: ds, _, n + 1, h => by
    unfold DVs at h
    obtain ⟨v, us, rfl, h1, h2⟩ := h
    exact DVs.drop n h2
theorem DVs.set : ∀ {ds : List D} {vs : List V} {d : D} {v : V} (i : Nat), DVs K r H ds vs → DV K r H d v → DVs K r H (ds.set i d) (vs.set i v)
  | [], _, _, _, _, h, _ => by unfold DVs at h; subst h; exact DVs.nil
  | x :: ds, _, d, v, i, h, t => by
    unfold DVs at h
    obtain ⟨w, us, rfl, h1, h2⟩ := h
    cases i with
    | zero => exact DVs.cons t h2
    | succ i => exact DVs.cons h1 (DVs.set i h2 t)
theorem DVs.dropLast {ds : List D} {vs : List V} (h : DVs K r H ds vs) : DVs K r H ds.dropLast vs.dropLast := by
  rw [List.dropLast_eq_take, List.dropLast_eq_take, h.length]
  exact h.take _
theorem DVs.reverse : ∀ {ds : List D} {vs : List V}, DVs K r H ds vs → DVs K r H ds.reverse vs.reverse
  | [], _, h => by unfold DVs at h; subst h; exact DVs.nil
  | d :: ds, _, h => by
    unfold DVs at h
    obtain ⟨v, us, rfl, h1, h2⟩ := h
    rw [List.reverse_cons, List.reverse_cons]
    exact (DVs.reverse h2).append (DVs.cons h1 DVs.nil)
theorem DVs.ints : ∀ (ns : List Int), DVs K r H (ns.map D.int) (ns.map V.int)
  | [] => DVs.nil
  | n :: ns => DVs.cons (by unfold DV; rfl) (DVs.ints ns)
theorem DVs.one {d : D} {vs : List V} (h : DVs K r H [d] vs) : ∃ v, vs = [v] ∧ DV K r H d v := by
  unfold DVs at h
  obtain ⟨v, us, rfl, h1, h2⟩ := h
  unfold DVs at h2
  subst h2
  exact ⟨v, rfl, h1⟩
theorem DV.tup_mk {a : Addr} {ds : List D} {vs : List V} (h : TpN K H a vs) (t : DVs K r H ds vs) : DV K r H (.tup ds) (.ref a) := by unfold DV; exact ⟨a, vs, rfl, h, t⟩
end
abbrev Ent := NestedKey × V × V
def RawD (w : World) (a : Addr) (es : List Ent) (h : Heap) : Prop :=
  ∃ o ents ep, h.get? a = some o ∧ o.ExactDict ∧ o.data = .dict ents ep ∧ Paired (fun (e : Ent) (x : DictEntry) => x.hash = e.1.hash w ∧ RelV e.2.1 x.key ∧ RelV e.2.2 x.val) es ents.toList
theorem RawD.ok {w : World} {a : Addr} {es : List Ent} {P : Program} {H : Hp} {h : Heap} (x : RawD w a es h) : ObjOk P w H h a (.ext (RawD w a es)) := by
  refine ⟨x, ?_, fun h1 h2 y k => ?_⟩
  · obtain ⟨o, _, _, e, _⟩ := x
    exact ⟨o, e⟩
  · obtain ⟨o, ents, ep, e, q⟩ := y
    exact ⟨o, ents, ep, k o e, q⟩
def EntsV (K : PySem.W.Frag) (r : List Addr) (H : Hp) (kvs : List (D × D)) (es : List Ent) : Prop :=
  Paired (fun (p : D × D) (e : Ent) => p.1.pure = true ∧ p.1.depth ≤ 8 ∧ e.1 = p.1.key ∧ DV K r H p.1 e.2.1 ∧ DV K r H p.2 e.2.2) kvs es
def FldsV (K : PySem.W.Frag) (r : List Addr) (H : Hp) (fs : List (Str × D)) (vs : List (Str × V)) : Prop :=
  Paired (fun (p : Str × D) (q : Str × V) => p.1 = q.1 ∧ DV K r H p.2 q.2) fs vs
def OV (G : Ctx) (r : List Addr) (H : Hp) (a : Addr) : Ob → Prop
  | .lst ds => ∃ vs, H a = some (.lst vs) ∧ DVs G.K r H ds vs
  | .dct kvs => kvs.length ≤ sizeLine ∧ (a == sysModules) = false ∧ (kvs.map (·.1.key)).Nodup ∧ ∃ es, H a = some (.ext (RawD G.w a es)) ∧ EntsV G.K r H kvs es
  | .ins c fs => ∃ dx vs, H a = some (.ins (G.ca c) dx vs) ∧ FldsV G.K r H fs vs
  | .lck kvs => kvs.length ≤ sizeLine ∧ (a == sysModules) = false ∧ (kvs.map (·.1.key)).Nodup ∧ ∃ od es, H a = some (.frz od (.ext (RawD G.w a es))) ∧ EntsV G.K r H kvs es
  | .clo i ds => (∃ od, H a = some (.frz od (.own a))) ∧ ∃ p ∈ G.ca.cv, p.f = a ∧ p.i = i ∧ DVs G.K r H ds p.vs
  | .dead => ∃ od, H a = some (.frz od (.own a)) ∧ ∀ ov, od.data ≠ .cell ov
theorem EntsV.ext {K r H r' H'} (x : ExtW K r H r' H') {kvs : List (D × D)} {es : List Ent} (h : EntsV K r H kvs es) : EntsV K r' H' kvs es :=
  Paired.mapP h fun p e ⟨q0, q1, q2, q3, q4⟩ => ⟨q0, q1, q2, DV.extW x _ _ q3, DV.extW x _ _ q4⟩
theorem FldsV.ext {K r H r' H'} (x : ExtW K r H r' H') {fs : List (Str × D)} {vs : List (Str × V)} (h : FldsV K r H fs vs) : FldsV K r' H' fs vs :=
  Paired.mapP h fun p e ⟨q0, q1⟩ => ⟨q0, DV.extW x _ _ q1⟩
theorem OV.ext {G : Ctx} {r r' : List Addr} {H H' : Hp} (x : ExtW G.K r H r' H') {a : Addr} (k : H' a = H a) : ∀ {o : Ob}, OV G r H a o → OV G r' H' a o
  | .lst ds, h => by
    obtain ⟨vs, e, q⟩ := h
    exact ⟨vs, k.trans e, DVs.extW x _ _ q⟩
  | .dct kvs, h => by
    obtain ⟨z, n, nd, es, e, q⟩ := h
    exact ⟨z, n, nd, es, k.trans e, q.ext x⟩
  | .ins c fs, h => by
    obtain ⟨dx, vs, e, q⟩ := h
    exact ⟨dx, vs, k.trans e, q.ext x⟩
  | .lck kvs, h => by
    obtain ⟨z, n, nd, od, es, e, q⟩ := h
    exact ⟨z, n, nd, od, es, k.trans e, q.ext x⟩
  | .clo i ds, h => by
    obtain ⟨⟨od, e⟩, p, hp, e1, e2, q⟩ := h
    exact ⟨⟨od, k.trans e⟩, p, hp, e1, e2, DVs.extW x _ _ q⟩
  | .dead, h => by
    obtain ⟨od, e, n⟩ := h
    exact ⟨od, k.trans e, n⟩
theorem OV.held {G : Ctx} {r : List Addr} {H : Hp} {a : Addr} : ∀ {o : Ob}, OV G r H a o → ∃ u, H a = some u ∧ (∀ xs, u ≠ .tup xs) ∧ (o.lk = false → ∀ ob z, u ≠ .frz ob z)
  | .lst _, h => by obtain ⟨vs, e, _⟩ := h; exact ⟨_, e, (fun _ z => by cases z), (fun _ _ _ z => by cases z)⟩
  | .dct _, h => by obtain ⟨_, _, _, es, e, _⟩ := h; exact ⟨_, e, (fun _ z => by cases z), (fun _ _ _ z => by cases z)⟩
  | .ins _ _, h => by obtain ⟨dx, vs, e, _⟩ := h; exact ⟨_, e, (fun _ z => by cases z), (fun _ _ _ z => by cases z)⟩
  | .lck _, h => by obtain ⟨_, _, _, od, es, e, _⟩ := h; exact ⟨_, e, (fun _ z => by cases z), (fun l => by cases l)⟩
  | .clo _ _, h => by obtain ⟨⟨od, e⟩, _⟩ := h; exact ⟨_, e, (fun _ z => by cases z), (fun l => by cases l)⟩
  | .dead, h => by obtain ⟨od, e, _⟩ := h; exact ⟨_, e, (fun _ z => by cases z), (fun l => by cases l)⟩
def TabR (r : List Addr) (H : Hp) (P : Addr) (q : Str) : Prop := P ∉ r ∧ ∃ ps : Array Value, H P = some (.tbl ps) ∧ TriplesOk ps.toList ∧ ∀ (pos : Pos) (cv : Value), codeAmong pos ps.toList = some cv → ∃ c, cv = .ref c ∧ c ∉ r ∧ H c = some (LamX.CodeO c q)
structure CloR (lm : Nat → Option LamI) (r : List Addr) (H : Hp) (p : CloI) : Prop where
  fn : ∃ L pm ctv, lm p.i = some L ∧ H p.f = some (.frz (PySem.W.kla_obj "<lambda>" L.qual L.params L.body L.scope p.cl pm p.c ctv) (.own p.f)) ∧ H p.c = some (LamX.CodeO p.c L.qual) ∧ p.c ∉ r ∧ p.vs.length = L.fr.length ∧
    ∀ (j : Nat) (y : Str) (v : V), L.fr[j]? = some y → p.vs[j]? = some v → ∃ c oc u, p.cl.lookup y = some c ∧ H c = some (.frz oc (.own c)) ∧ oc.data = .cell (some u) ∧ RelV v u
  ce : ∀ (y : Str) (c : Addr), p.cl.lookup y = some c → ∃ oc ov, H c = some (.frz oc (.own c)) ∧ oc.data = .cell ov
  inj : ∀ (x y : Str) (c : Addr), p.cl.lookup x = some c → p.cl.lookup y = some c → x = y
  nil : ∀ L, lm p.i = some L → L.fr = [] → p.cl = []
structure RepS (G : Ctx) (r : List Addr) (S : Sto) (H : Hp) : Prop where
  len : r.length = S.length
  nd : r.Nodup
  at_ : ∀ (n : Nat) (o : Ob) (a : Addr), S[n]? = some o → r[n]? = some a → OV G r H a o
  tabs : ∀ p ∈ G.ca.tb, TabR r H p.1 p.2
  clos : ∀ p ∈ G.ca.cv, CloR G.ca.lm r H p
theorem codeO_lst {c : Addr} {q : Str} {vs : List V} : LamX.CodeO c q ≠ .lst vs := fun z => by unfold LamX.CodeO at z; cases z
theorem codeO_frz {c : Addr} {q : Str} {od : Obj} {u : HO} : LamX.CodeO c q ≠ .frz od u := fun z => by unfold LamX.CodeO at z; cases z
theorem codeO_raw {c a : Addr} {q : Str} {w : World} {es : List Ent} (hca : c = a) : LamX.CodeO c q ≠ .ext (RawD w a es) := fun z => by
  subst hca
  unfold LamX.CodeO at z
  have z' := HO.ext.inj z
  have hg : ({ objs := Array.replicate (c + 1) { cls := .none, data := .fields #[.none, .str q 0] } } : Heap).get? c = some { cls := .none, data := .fields #[.none, .str q 0] } := by
    unfold Heap.get?
    rw [Array.getElem?_replicate, if_pos (Nat.lt_succ_self c)]
  have : RawD w c es { objs := Array.replicate (c + 1) { cls := .none, data := .fields #[.none, .str q 0] } } := by
    rw [← z']
    exact ⟨_, _, 0, hg, rfl, rfl⟩
  obtain ⟨o, ents, ep, e, _, e2, _⟩ := this
  rw [hg] at e
  cases e
  cases e2
theorem TabR.upd {r r' : List Addr} {H : Hp} {P p : Addr} {q : Str} {u : HO} (t : TabR r H P q) (hP : P ≠ p ∧ P ∉ r') (hc : ∀ c, H c = some (LamX.CodeO c q) → c ∉ r → c ≠ p ∧ c ∉ r') : TabR r' (upd H p u) P q := by
  obtain ⟨n, ps, h1, h2, h3⟩ := t
  refine ⟨hP.2, ps, by rw [upd_ne hP.1]; exact h1, h2, fun pos cv e => ?_⟩
  obtain ⟨c, e1, e2, e3⟩ := h3 pos cv e
  obtain ⟨k1, k2⟩ := hc c e3 e2
  exact ⟨c, e1, k2, by rw [upd_ne k1]; exact e3⟩
theorem TabR.side {r : List Addr} {H : Hp} {P p : Addr} {q : Str} {u : HO} (t : TabR r H P q) (hp : H p = none) : TabR r (L2.upd H p u) P q := by
  obtain ⟨ps, h1, _⟩ := t.2
  exact t.upd ⟨ne_of_none h1 hp, t.1⟩ fun c e n => ⟨ne_of_none e hp, n⟩
theorem TabR.new {r : List Addr} {H : Hp} {P p : Addr} {q : Str} {u : HO} (t : TabR r H P q) (hp : H p = none) : TabR (r ++ [p]) (L2.upd H p u) P q := by
  obtain ⟨ps, h1, _⟩ := t.2
  have e := ne_of_none h1 hp
  exact t.upd ⟨e, by simp [t.1, e]⟩ fun c e n => by have := ne_of_none e hp; exact ⟨this, by simp [n, this]⟩
theorem TabR.wr {r : List Addr} {H : Hp} {P p : Addr} {q : Str} {u u0 : HO} (t : TabR r H P q) (hp : H p = some u0) (h1 : ∀ ps, u0 ≠ .tbl ps) (h2 : ∀ q, u0 ≠ LamX.CodeO p q) : TabR r (L2.upd H p u) P q := by
  obtain ⟨ps, e1, _⟩ := t.2
  exact t.upd ⟨fun z => by rw [z, hp] at e1; exact h1 _ (Option.some.inj e1), t.1⟩ fun c e n => ⟨fun z => by subst z; rw [hp] at e; exact h2 _ (Option.some.inj e), n⟩
theorem TabR.own {r : List Addr} {H : Hp} {P p : Addr} {q : Str} {u : HO} (t : TabR r H P q) (hp : p ∈ r) : TabR r (L2.upd H p u) P q :=
  t.upd ⟨fun z => t.1 (z ▸ hp), t.1⟩ fun c e n => ⟨fun z => n (z ▸ hp), n⟩
theorem TabR.reg {r : List Addr} {H : Hp} {P p : Addr} {q : Str} {u0 : HO} (t : TabR r H P q) (hp : H p = some u0) (h1 : ∀ ps, u0 ≠ .tbl ps) (h2 : ∀ q, u0 ≠ LamX.CodeO p q) : TabR (r ++ [p]) H P q := by
  obtain ⟨n, ps, e1, e2, e3⟩ := t
  have np : P ≠ p := fun z => by rw [z, hp] at e1; exact h1 _ (Option.some.inj e1)
  refine ⟨by simp [n, np], ps, e1, e2, fun pos cv e => ?_⟩
  obtain ⟨c, k1, k2, k3⟩ := e3 pos cv e
  have nc : c ≠ p := fun z => by subst z; rw [hp] at k3; exact h2 _ (Option.some.inj k3)
  exact ⟨c, k1, by simp [k2, nc], k3⟩
theorem CloR.keep {lm : Nat → Option LamI} {r r' : List Addr} {H H' : Hp} {p : CloI} (t : CloR lm r H p) (hf : ∀ (a : Addr) (od : Obj), H a = some (.frz od (.own a)) → H' a = some (.frz od (.own a))) (hc : ∀ c q, H c = some (LamX.CodeO c q) → c ∉ r → H' c = some (LamX.CodeO c q) ∧ c ∉ r') : CloR lm r' H' p := by
  obtain ⟨L, pm, ctv, h1, h2, h3, h4, h5, h6⟩ := t.fn
  obtain ⟨k1, k2⟩ := hc _ _ h3 h4
  refine ⟨⟨L, pm, ctv, h1, hf _ _ h2, k1, k2, h5, fun j y v e1 e2 => ?_⟩, fun y c e => ?_, t.inj, t.nil⟩
  · obtain ⟨c, oc, u, q1, q2, q3, q4⟩ := h6 j y v e1 e2
    exact ⟨c, oc, u, q1, hf _ _ q2, q3, q4⟩
  · obtain ⟨oc, ov, q1, q2⟩ := t.ce y c e
    exact ⟨oc, ov, hf _ _ q1, q2⟩
section
variable {lm : Nat → Option LamI} {r : List Addr} {H : Hp} {p : Addr} {q : CloI} {u u0 : HO}
theorem CloR.side (t : CloR lm r H q) (hp : H p = none) : CloR lm r (L2.upd H p u) q :=
  t.keep (fun a od h => by rw [upd_ne (ne_of_none h hp)]; exact h) fun c q h n => ⟨by rw [upd_ne (ne_of_none h hp)]; exact h, n⟩
theorem CloR.new (t : CloR lm r H q) (hp : H p = none) : CloR lm (r ++ [p]) (L2.upd H p u) q :=
  t.keep (fun a od h => by rw [upd_ne (ne_of_none h hp)]; exact h) fun c q h n => ⟨by rw [upd_ne (ne_of_none h hp)]; exact h, by simp [n, ne_of_none h hp]⟩
theorem CloR.wr (t : CloR lm r H q) (hp : H p = some u0) (h1 : ∀ od, u0 ≠ .frz od (.own p)) (h2 : ∀ q, u0 ≠ LamX.CodeO p q) : CloR lm r (L2.upd H p u) q :=
  t.keep (fun a od h => by rw [upd_ne (fun z => by subst z; rw [hp] at h; exact h1 _ (Option.some.inj h))]; exact h) fun c q h n => ⟨by rw [upd_ne (fun z => by subst z; rw [hp] at h; exact h2 _ (Option.some.inj h))]; exact h, n⟩
theorem CloR.own (t : CloR lm r H q) (hm : p ∈ r) (hp : H p = some u0) (h1 : ∀ od, u0 ≠ .frz od (.own p)) : CloR lm r (L2.upd H p u) q :=
  t.keep (fun a od h => by rw [upd_ne (fun z => by subst z; rw [hp] at h; exact h1 _ (Option.some.inj h))]; exact h) fun c q h n => ⟨by rw [upd_ne (fun z : c = p => n (by rw [z]; exact hm))]; exact h, n⟩
theorem CloR.reg (t : CloR lm r H q) (hp : H p = some u0) (h2 : ∀ q, u0 ≠ LamX.CodeO p q) : CloR lm (r ++ [p]) H q :=
  t.keep (fun a od h => h) fun c q h n => ⟨h, by
    have : c ≠ p := fun z => by subst z; rw [hp] at h; exact h2 _ (Option.some.inj h)
    simp [n, this]⟩
end
section
variable {G : Ctx} {r : List Addr} {S : Sto} {H : Hp}
theorem RepS.get (R : RepS G r S H) {n : Nat} {o : Ob} (e : S[n]? = some o) : ∃ a, r[n]? = some a ∧ OV G r H a o := by
  have hn : n < r.length := by rw [R.len]; exact (List.getElem?_eq_some_iff.mp e).1
  exact ⟨r[n], List.getElem?_eq_getElem hn, R.at_ n o _ e (List.getElem?_eq_getElem hn)⟩
theorem RepS.free (R : RepS G r S H) {p : Addr} (hp : H p = none) : p ∉ r := fun hm => by
  obtain ⟨n, e⟩ := List.mem_iff_getElem?.mp hm
  have hn : n < S.length := by rw [← R.len]; exact (List.getElem?_eq_some_iff.mp e).1
  obtain ⟨u, e', _⟩ := (R.at_ n _ p (List.getElem?_eq_getElem hn) e).held
  rw [hp] at e'; cases e'
theorem sqT_upd {K : PySem.W.Frag} {p : Addr} {o : HO} (hp : H p = none) {a : Addr} {vs : List V} (h : SqT K H a vs) : SqT K (upd H p o) a vs := by
  rcases h with (h | ⟨u, h⟩) | h
  · exact .inl (.inl (by rw [upd_ne (ne_of_none h hp)]; exact h))
  · exact .inl (.inr ⟨u, by rw [upd_ne (ne_of_none h hp)]; exact h⟩)
  · exact .inr h
theorem sqT_wr {K : PySem.W.Frag} {p : Addr} {o u : HO} (hu : H p = some u) (h1 : ∀ xs, u ≠ .tup xs) (h2 : ∀ ob z, u ≠ .frz ob z) {a : Addr} {vs : List V} (h : SqT K H a vs) : SqT K (upd H p o) a vs := by
  rcases h with (h | ⟨ob, h⟩) | h
  · refine .inl (.inl ?_)
    rw [upd_ne]; exact h
    rintro rfl; rw [hu] at h; exact h1 _ (Option.some.inj h)
  · refine .inl (.inr ⟨ob, ?_⟩)
    rw [upd_ne]; exact h
    rintro rfl; rw [hu] at h; exact h2 _ _ (Option.some.inj h)
  · exact .inr h
theorem scL_upd {K : PySem.W.Frag} {p : Addr} {o : HO} (hp : H p = none) {a : Addr} {vs : SK × List V} (h : ScL K H a vs) : ScL K (upd H p o) a vs := by
  obtain ⟨b, vs⟩ := vs
  cases b with
  | tup =>
    rcases h with ⟨u, h, n⟩ | h
    · exact .inl ⟨u, by rw [upd_ne (ne_of_none h hp)]; exact h, n⟩
    · exact .inr h
  | scr =>
    rcases h with ⟨u, h⟩ | h
    · exact .inl ⟨u, by rw [upd_ne (ne_of_none h hp)]; exact h⟩
    · exact .inr h
  | clo i => exact h.elim
theorem scL_wr {K : PySem.W.Frag} {p : Addr} {o u : HO} (hu : H p = some u) (h2 : ∀ ob z, u ≠ .frz ob z) {a : Addr} {vs : SK × List V} (h : ScL K H a vs) : ScL K (upd H p o) a vs := by
  obtain ⟨b, vs⟩ := vs
  cases b with
  | tup =>
    rcases h with ⟨ob, h, n⟩ | h
    · refine .inl ⟨ob, ?_, n⟩
      rw [upd_ne]; exact h
      rintro rfl; rw [hu] at h; exact h2 _ _ (Option.some.inj h)
    · exact .inr h
  | scr =>
    rcases h with ⟨ob, h⟩ | h
    · refine .inl ⟨ob, ?_⟩
      rw [upd_ne]; exact h
      rintro rfl; rw [hu] at h; exact h2 _ _ (Option.some.inj h)
    · exact .inr h
  | clo i => exact h.elim
theorem RepS.side (R : RepS G r S H) {p : Addr} {u : HO} (hp : H p = none) : Ext G.K r H r (upd H p u) ∧ RepS G r S (upd H p u) := by
  have x : Ext G.K r H r (upd H p u) := ⟨List.prefix_refl _, fun a us h => sqT_upd hp h, fun a us h => scL_upd hp h, fun a u h n _ => ⟨by rw [upd_ne (ne_of_none h hp)]; exact h, n⟩, fun a od u h => by rw [upd_ne (ne_of_none h hp)]; exact h⟩
  refine ⟨x, R.len, R.nd, fun n o a e1 e2 => (R.at_ n o a e1 e2).ext x.w (upd_ne fun z => ?_), fun q hq => (R.tabs q hq).side hp, fun q hq => (R.clos q hq).side hp⟩
  exact R.free hp (z ▸ List.mem_of_getElem? e2)
theorem RepS.tup (R : RepS G r S H) {p : Addr} {vs : List V} {od : Obj} (hp : H p = none) : Ext G.K r H r (upd H p (.frz od (.tup vs))) ∧ RepS G r S (upd H p (.frz od (.tup vs))) := R.side hp
theorem RepS.sideW (R : RepS G r S H) {p : Addr} {vs us : List V} (hp : H p = some (.lst vs)) (hr : p ∉ r) : ExtW G.K r H r (upd H p (.lst us)) ∧ RepS G r S (upd H p (.lst us)) := by
  have x : ExtW G.K r H r (upd H p (.lst us)) := ⟨List.prefix_refl _, fun a ws h => sqT_wr hp (fun _ z => by cases z) (fun _ _ z => by cases z) h, fun a ws h => scL_wr hp (fun _ _ z => by cases z) h⟩
  exact ⟨x, R.len, R.nd, fun n o a e1 e2 => (R.at_ n o a e1 e2).ext x (upd_ne fun z => hr (z ▸ List.mem_of_getElem? e2)), fun q hq => (R.tabs q hq).wr hp (fun _ z => by cases z) (fun _ z => codeO_lst z.symm), fun q hq => (R.clos q hq).wr hp (fun _ z => by cases z) (fun _ z => codeO_lst z.symm)⟩
theorem RepS.reg (R : RepS G r S H) {p : Addr} {ds : List D} {vs : List V} (hp : H p = some (.lst vs)) (hr : p ∉ r) (q : DVs G.K r H ds vs) : ExtW G.K r H (r ++ [p]) H ∧ RepS G (r ++ [p]) (S ++ [.lst ds]) H := by
  have x : ExtW G.K r H (r ++ [p]) H := ⟨List.prefix_append _ _, fun a ws h => h, fun a ws h => h⟩
  refine ⟨x, by simp [R.len], ?_, fun n o' a e1 e2 => ?_, fun q hq => (R.tabs q hq).reg hp (fun _ z => by cases z) (fun _ z => codeO_lst z.symm), fun q hq => (R.clos q hq).reg hp (fun _ z => codeO_lst z.symm)⟩
  · rw [List.nodup_append]
    exact ⟨R.nd, by simp, fun y hy z hz => by simp at hz; subst hz; exact fun q => hr (q ▸ hy)⟩
  · by_cases hn : n < S.length
    · rw [List.getElem?_append_left hn] at e1
      rw [List.getElem?_append_left (by rw [R.len]; exact hn)] at e2
      exact (R.at_ n o' a e1 e2).ext x rfl
    · have hn' : n = S.length := by
        have := (List.getElem?_eq_some_iff.mp e1).1
        simp at this; omega
      subst hn'
      simp at e1
      rw [← R.len] at e2
      simp at e2
      subst e1 e2
      exact ⟨vs, hp, DVs.extW x _ _ q⟩
theorem RepS.new (R : RepS G r S H) {p : Addr} {u : HO} {o : Ob} (hp : H p = none) (x : Ext G.K r H (r ++ [p]) (upd H p u) → OV G (r ++ [p]) (upd H p u) p o) :
    Ext G.K r H (r ++ [p]) (upd H p u) ∧ RepS G (r ++ [p]) (S ++ [o]) (upd H p u) := by
  have e : Ext G.K r H (r ++ [p]) (upd H p u) := ⟨List.prefix_append _ _, fun a us h => sqT_upd hp h, fun a us h => scL_upd hp h, fun a u h n _ => ⟨by rw [upd_ne (ne_of_none h hp)]; exact h, by simp [n, ne_of_none h hp]⟩, fun a od u h => by rw [upd_ne (ne_of_none h hp)]; exact h⟩
  have hf := R.free hp
  refine ⟨e, by simp [R.len], ?_, fun n o' a e1 e2 => ?_, fun q hq => (R.tabs q hq).new hp, fun q hq => (R.clos q hq).new hp⟩
  · rw [List.nodup_append]
    exact ⟨R.nd, by simp, fun y hy z hz => by simp at hz; subst hz; exact fun q => hf (q ▸ hy)⟩
  · by_cases hn : n < S.length
    · rw [List.getElem?_append_left hn] at e1
      rw [List.getElem?_append_left (by rw [R.len]; exact hn)] at e2
      exact (R.at_ n o' a e1 e2).ext e.w (upd_ne fun z => hf (z ▸ List.mem_of_getElem? e2))
    · have hn' : n = S.length := by
        have := (List.getElem?_eq_some_iff.mp e1).1
        simp at this; omega
      subst hn'
      simp at e1
      rw [← R.len] at e2
      simp at e2
      subst e1 e2
      exact x e
theorem RepS.lst (R : RepS G r S H) {p : Addr} {ds : List D} {vs : List V} (hp : H p = none) (h : DVs G.K r H ds vs) :
    Ext G.K r H (r ++ [p]) (upd H p (.lst vs)) ∧ RepS G (r ++ [p]) (S ++ [.lst ds]) (upd H p (.lst vs)) :=
  R.new hp fun x => ⟨vs, upd_same, DVs.ext x _ _ h⟩
theorem RepS.newLoc (R : RepS G r S H) {K : PySem.W.Frag} {p : Addr} {H' : Hp} : DV K (r ++ [p]) H' (.loc S.length) (.ref p) := by
  unfold DV
  exact ⟨p, by rw [← R.len]; simp, rfl⟩
theorem RepS.wr (R : RepS G r S H) {n : Nat} {a : Addr} {o o' : Ob} {u : HO} (e : S[n]? = some o) (ea : r[n]? = some a) (x : Ext G.K r H r (upd H a u) → OV G r (upd H a u) a o') (nl : o.lk = false := by rfl) :
    Ext G.K r H r (upd H a u) ∧ RepS G r (S.set n o') (upd H a u) := by
  obtain ⟨u0, e0, h1, h2⟩ := (R.at_ n o a e ea).held
  have h2 := h2 nl
  have ex : Ext G.K r H r (upd H a u) := ⟨List.prefix_refl _, fun b us h => sqT_wr e0 h1 h2 h, fun b us h => scL_wr e0 h2 h, fun b v h n _ => ⟨by
    have hne : b ≠ a := by rintro rfl; exact n (List.mem_of_getElem? ea)
    rw [upd_ne hne]; exact h, n⟩, fun b od v h => by
    rw [upd_ne (by rintro rfl; rw [e0] at h; exact h2 _ _ (Option.some.inj h))]
    exact h⟩
  refine ⟨ex, by simp [R.len], R.nd, fun m o1 b e1 e2 => ?_, fun q hq => (R.tabs q hq).own (List.mem_of_getElem? ea), fun q hq => (R.clos q hq).own (List.mem_of_getElem? ea) e0 (fun od z => h2 _ _ z)⟩
  by_cases hm : n = m
  · subst hm
    rw [ea] at e2; cases e2
    have hlt := (List.getElem?_eq_some_iff.mp e).1
    rw [List.getElem?_set_self hlt] at e1
    cases e1
    exact x ex
  · rw [List.getElem?_set_ne hm] at e1
    refine (R.at_ m o1 b e1 e2).ext ex.w (upd_ne fun z => hm ?_)
    subst z
    obtain ⟨q1, r1⟩ := List.getElem?_eq_some_iff.mp ea
    obtain ⟨q2, r2⟩ := List.getElem?_eq_some_iff.mp e2
    exact (List.getElem_inj R.nd).mp (r1.trans r2.symm)
end
structure VarsV (K : PySem.W.Frag) (r : List Addr) (H : Hp) (env : Vars) (σ : St) : Prop where
  len : env.length = σ.length
  at_ : ∀ (i : Nat) (d : D), env[i]? = some (some d) → ∃ v, σ[i]? = some (some v) ∧ DV K r H d v
theorem VarsV.ext {K r H r' H'} (x : Ext K r H r' H') {env : Vars} {σ : St} (h : VarsV K r H env σ) : VarsV K r' H' env σ :=
  ⟨h.len, fun i d e => let ⟨v, e1, q⟩ := h.at_ i d e; ⟨v, e1, DV.ext x _ _ q⟩⟩
theorem VarsV.set {K r H} {env : Vars} {σ : St} (h : VarsV K r H env σ) {d : D} {v : V} (i : Nat) (q : DV K r H d v) : VarsV K r H (env.set i (some d)) (σ.set i (some v)) := by
  refine ⟨by simp [h.len], fun j e hj => ?_⟩
  by_cases hij : i = j
  · subst hij
    have hlt : i < env.length := by
      have := (List.getElem?_eq_some_iff.mp hj).1
      simpa using this
    rw [List.getElem?_set_self hlt] at hj
    cases hj
    exact ⟨v, List.getElem?_set_self (by rw [← h.len]; exact hlt), q⟩
  · rw [List.getElem?_set_ne hij] at hj
    rw [List.getElem?_set_ne hij]
    exact h.at_ j e hj
end DL
namespace DL
open PySem PySem.Spec L2
abbrev EM := Vars → Sto → Option (D × Sto)
abbrev BM := Vars → Sto → Option (Bool × Sto)
abbrev LM := Vars → Sto → Option (List D × Sto)
inductive Fl where
  | nx
  | rt (d : D)
  | bk
  | ct
abbrev SM := Vars → Sto → Option (Fl × Vars × Sto)
abbrev GM := D → Vars → Sto → Option (Vars × Sto)
abbrev GMs := List D → Vars → Sto → Option (Vars × Sto)
section
variable (G : Ctx)
def liftE (m : EM) : TE := fun σ H Q => ∃ r env S d S', RepS G r S H ∧ VarsV G.K r H env σ ∧ m env S = some (d, S') ∧ ∀ r' H' v, Ext G.K r H r' H' → RepS G r' S' H' → DV G.K r' H' d v → Q v H'
def liftB (m : BM) : TT := fun σ H Q => ∃ r env S b S', RepS G r S H ∧ VarsV G.K r H env σ ∧ m env S = some (b, S') ∧ ∀ r' H', Ext G.K r H r' H' → RepS G r' S' H' → Q b H'
def liftL (m : LM) : TA := fun σ H Q => ∃ r env S ds S', RepS G r S H ∧ VarsV G.K r H env σ ∧ m env S = some (ds, S') ∧ ∀ r' H' vs, Ext G.K r H r' H' → RepS G r' S' H' → DVs G.K r' H' ds vs → Q vs H'
def EndF (r : List Addr) (H : Hp) (fl : Fl) (env' : Vars) (S' : Sto) (E : Ends) : Prop := ∀ r' σ' H', Ext G.K r H r' H' → RepS G r' S' H' → VarsV G.K r' H' env' σ' →
  match fl with
  | .nx => E.nx σ' H'
  | .rt d => ∀ v, DV G.K r' H' d v → E.rt v H'
  | .bk => E.bk σ' H'
  | .ct => E.ct σ' H'
def liftS (m : SM) : TS := fun E σ H => ∃ r env S fl env' S', RepS G r S H ∧ VarsV G.K r H env σ ∧ m env S = some (fl, env', S') ∧ EndF G r H fl env' S' E
def liftG (m : GM) : TG := fun v σ H Q => ∃ r env S d env' S', RepS G r S H ∧ VarsV G.K r H env σ ∧ DV G.K r H d v ∧ m d env S = some (env', S') ∧ ∀ r' σ' H', Ext G.K r H r' H' → RepS G r' S' H' → VarsV G.K r' H' env' σ' → Q σ' H'
def liftGs (m : GMs) : TGs := fun vs σ H Q => ∃ r env S ds env' S', RepS G r S H ∧ VarsV G.K r H env σ ∧ DVs G.K r H ds vs ∧ m ds env S = some (env', S') ∧ ∀ r' σ' H', Ext G.K r H r' H' → RepS G r' S' H' → VarsV G.K r' H' env' σ' → Q σ' H'
end
abbrev gx (X : Cx) (ca : CAx) : Ctx := ⟨X.K, X.w, ca⟩
theorem wkE {X : Cx} {e : Expr} {t t' : TE} (h : PE X e t) (w : ∀ σ H Q, t' σ H Q → t σ H Q) : PE X e t' := ⟨fun pins s σ H Q I q => h.run pins s σ H Q I (w σ H Q q)⟩
theorem wkT {X : Cx} {e : Expr} {t t' : TT} (h : PT X e t) (w : ∀ σ H Q, t' σ H Q → t σ H Q) : PT X e t' := ⟨fun pins s σ H Q I q => h.run pins s σ H Q I (w σ H Q q)⟩
theorem wkW {X : Cx} {e : Expr} {t t' : TT} (h : PW X e t) (w : ∀ σ H Q, t' σ H Q → t σ H Q) : PW X e t' := ⟨fun wh pins s σ H Q I q => h.run wh pins s σ H Q I (w σ H Q q)⟩
theorem wkA {X : Cx} {es : List Expr} {t t' : TA} (h : PA X es t) (w : ∀ σ H Q, t' σ H Q → t σ H Q) : PA X es t' := ⟨fun p pins s σ H Q I q => h.run p pins s σ H Q I (w σ H Q q)⟩
theorem wkS {X : Cx} {st : Stmt} {t t' : TS} (h : PS X st t) (w : ∀ E σ H, t' E σ H → t E σ H) : PS X st t' := ⟨fun pins s σ H E I q => h.run pins s σ H E I (w E σ H q)⟩
theorem wkSs {X : Cx} {st : List Stmt} {t t' : TS} (h : PSs X st t) (w : ∀ E σ H, t' E σ H → t E σ H) : PSs X st t' := ⟨fun pins s σ H E I q => h.run pins s σ H E I (w E σ H q)⟩
theorem wkG {X : Cx} {e : Expr} {t t' : TG} (h : PG X e t) (w : ∀ v σ H Q, t' v σ H Q → t v σ H Q) : PG X e t' := ⟨fun pins s σ H v u Q I r q => h.run pins s σ H v u Q I r (w v σ H Q q)⟩
theorem wkGs {X : Cx} {es : List Expr} {t t' : TGs} (h : PGs X es t) (w : ∀ v σ H Q, t' v σ H Q → t v σ H Q) : PGs X es t' := ⟨fun pins s σ H v u Q I r q => h.run pins s σ H v u Q I r (w v σ H Q q)⟩
def mVar (i : Nat) : EM := fun env S => match env[i]? with
  | some (some d) => some (d, S)
  | _ => none
def mC (d : D) : EM := fun _ S => some (d, S)
def m1 (p : D → Sto → Option (D × Sto)) (a : EM) : EM := fun env S => match a env S with
  | some (x, S1) => p x S1
  | none => none
def m2 (p : D → D → Sto → Option (D × Sto)) (a b : EM) : EM := fun env S => match a env S with
  | some (x, S1) => match b env S1 with
    | some (y, S2) => p x y S2
    | none => none
  | none => none
def mL (p : List D → Sto → Option (D × Sto)) (l : LM) : EM := fun env S => match l env S with
  | some (xs, S1) => p xs S1
  | none => none
def lNil : LM := fun _ S => some ([], S)
def lCons (a : EM) (l : LM) : LM := fun env S => match a env S with
  | some (x, S1) => match l env S1 with
    | some (xs, S2) => some (x :: xs, S2)
    | none => none
  | none => none
def bV (a : EM) : BM := fun env S => match a env S with
  | some (.bl b, S1) => some (b, S1)
  | _ => none
def truD (S : Sto) : D → Option Bool
  | .non => some false
  | .bl b => some b
  | .int i => some (i != 0)
  | .str x => if x.length ≤ sizeLine then some ((x.length : Int) != 0) else none
  | .tup ds => some (!ds.isEmpty)
  | .loc n => match S[n]? with
    | some (.lst ds) => some (!ds.isEmpty)
    | _ => none
  | .scr _ => none
  | .fn _ => none
  | .clo _ _ => none
def bTru (a : EM) : BM := fun env S => match a env S with
  | some (d, S1) => match truD S1 d with
    | some b => some (b, S1)
    | none => none
  | none => none
def bNot (a : BM) : BM := fun env S => match a env S with
  | some (b, S1) => some (!b, S1)
  | none => none
def bAnd (a b : BM) : BM := fun env S => match a env S with
  | some (true, S1) => b env S1
  | some (false, S1) => some (false, S1)
  | none => none
def bOr (a b : BM) : BM := fun env S => match a env S with
  | some (true, S1) => some (true, S1)
  | some (false, S1) => b env S1
  | none => none
def mAnd (a b : EM) : EM := fun env S => match a env S with
  | some (.bl true, S1) => b env S1
  | some (.bl false, S1) => some (.bl false, S1)
  | _ => none
def mOr (a b : EM) : EM := fun env S => match a env S with
  | some (.bl true, S1) => some (.bl true, S1)
  | some (.bl false, S1) => b env S1
  | _ => none
def mNot (a : EM) : EM := fun env S => match a env S with
  | some (.bl b, S1) => some (.bl (!b), S1)
  | _ => none
def mIf (c : BM) (a b : EM) : EM := fun env S => match c env S with
  | some (true, S1) => a env S1
  | some (false, S1) => b env S1
  | none => none
def D.isNon : D → Bool
  | .non => true
  | .bl _ => false
  | .int _ => false
  | .str _ => false
  | .tup _ => false
  | .loc _ => false
  | .scr _ => false
  | .fn _ => false
  | .clo _ _ => false
def mIsN (a : EM) : EM := m1 (fun x S => some (.bl x.isNon, S)) a
def mNotN (a : EM) : EM := m1 (fun x S => some (.bl (!x.isNon), S)) a
section
variable {X : Cx} {ca : CAx} {a b c e : Expr} {es : List Expr} {ma mb : EM} {ba bb : BM} {la : LM} {pos p : Pos}
theorem vars_get {K r H} {env : Vars} {σ : L2.St} {i : Nat} {d : D} {S S' : Sto} (W : VarsV K r H env σ) (h : mVar i env S = some (d, S')) : S' = S ∧ ∃ v, σ[i]? = some (some v) ∧ DV K r H d v := by
  unfold mVar at h
  split at h
  · rename_i d' e
    cases h
    exact ⟨rfl, W.at_ i _ e⟩
  · cases h
theorem de_var {i : Nat} {x : Str} (hN : X.N[i]? = some x := by rfl) (hv : Vis X.env.scope x := by first | exact Or.inl rfl | exact Or.inr (Or.inl rfl) | exact Or.inr (Or.inr rfl)) (hd : (x == ("__debug__" : Str)) = false := by decide)
    (hcd : (x == ("__classdict__" : Str)) = false := by decide) : PE X (.Name x pos) (liftE (gx X ca) (mVar i)) :=
  wkE (pe_var hN hv hd hcd) fun σ H Q ⟨r, env, S, d, S', R, W, h, k⟩ => by
    obtain ⟨rfl, v, e, q⟩ := vars_get W h
    exact ⟨v, e, k r H v Ext.refl R q⟩
theorem de_const {d : D} {v : V} (h : PE X e (tC v)) (q : ∀ K r H, DV K r H d v) : PE X e (liftE (gx X ca) (mC d)) :=
  wkE h fun σ H Q ⟨r, env, S, d', S', R, W, h, k⟩ => by
    unfold mC at h
    cases h
    exact k r H v Ext.refl R (q _ _ _)
theorem de_int {i j} : PE X (.Constant (.int i) j pos) (liftE (gx X ca) (mC (.int i))) := de_const pe_int fun _ _ _ => by unfold DV; rfl
theorem de_bl {i j} : PE X (.Constant (.bool i) j pos) (liftE (gx X ca) (mC (.bl i))) := de_const pe_bl fun _ _ _ => by unfold DV; rfl
theorem de_non {j} : PE X (.Constant .none j pos) (liftE (gx X ca) (mC .non)) := de_const pe_non fun _ _ _ => by unfold DV; rfl
theorem de_str {x j} : PE X (.Constant (.str x) j pos) (liftE (gx X ca) (mC (.str x))) := de_const pe_str fun _ _ _ => by unfold DV; rfl
def Prim1 (G : Ctx) (t : V → Hp → VK → Prop) (p : D → Sto → Option (D × Sto)) : Prop :=
  ∀ (r : List Addr) (S : Sto) (H : Hp) (x : D) (v : V) (d : D) (S' : Sto) (Q : VK), RepS G r S H → DV G.K r H x v → p x S = some (d, S') →
    (∀ r' H' u, Ext G.K r H r' H' → RepS G r' S' H' → DV G.K r' H' d u → Q u H') → t v H Q
def Prim2 (G : Ctx) (t : R2) (p : D → D → Sto → Option (D × Sto)) : Prop :=
  ∀ (r : List Addr) (S : Sto) (H : Hp) (x y : D) (v w : V) (d : D) (S' : Sto) (Q : VK), RepS G r S H → DV G.K r H x v → DV G.K r H y w → p x y S = some (d, S') →
    (∀ r' H' u, Ext G.K r H r' H' → RepS G r' S' H' → DV G.K r' H' d u → Q u H') → t v w H Q
def PrimL (G : Ctx) (t : List V → Hp → VK → Prop) (p : List D → Sto → Option (D × Sto)) : Prop :=
  ∀ (r : List Addr) (S : Sto) (H : Hp) (xs : List D) (vs : List V) (d : D) (S' : Sto) (Q : VK), RepS G r S H → DVs G.K r H xs vs → p xs S = some (d, S') →
    (∀ r' H' u, Ext G.K r H r' H' → RepS G r' S' H' → DV G.K r' H' d u → Q u H') → t vs H Q
theorem lift1 {G : Ctx} {t : V → Hp → VK → Prop} {p : D → Sto → Option (D × Sto)} (hp : Prim1 G t p) {σ : L2.St} {H : Hp} {Q : VK} (h : liftE G (m1 p ma) σ H Q) : liftE G ma σ H fun x H1 => t x H1 Q := by
  obtain ⟨r, env, S, d, S', R, W, h, k⟩ := h
  unfold m1 at h
  split at h
  · rename_i x S1 e1
    refine ⟨r, env, S, x, S1, R, W, e1, fun r1 H1 v x1 R1 q1 => ?_⟩
    exact hp r1 S1 H1 x v d S' Q R1 q1 h fun r' H' u x2 R2 q2 => k r' H' u (x1.trans x2) R2 q2
  · cases h
theorem lift2 {G : Ctx} {t : R2} {p : D → D → Sto → Option (D × Sto)} (hp : Prim2 G t p) {σ : L2.St} {H : Hp} {Q : VK} (h : liftE G (m2 p ma mb) σ H Q) : liftE G ma σ H fun x H1 => liftE G mb σ H1 fun y H2 => t x y H2 Q := by
  obtain ⟨r, env, S, d, S', R, W, h, k⟩ := h
  unfold m2 at h
  split at h
  · rename_i x S1 e1
    refine ⟨r, env, S, x, S1, R, W, e1, fun r1 H1 v x1 R1 q1 => ?_⟩
    split at h
    · rename_i y S2 e2
      refine ⟨r1, env, S1, y, S2, R1, W.ext x1, e2, fun r2 H2 w x2 R2 q2 => ?_⟩
      exact hp r2 S2 H2 x y v w d S' Q R2 (DV.ext x2 _ _ q1) q2 h fun r' H' u x3 R3 q3 => k r' H' u (x1.trans (x2.trans x3)) R3 q3
    · cases h
  · cases h
theorem liftLp {G : Ctx} {t : List V → Hp → VK → Prop} {p : List D → Sto → Option (D × Sto)} (hp : PrimL G t p) {σ : L2.St} {H : Hp} {Q : VK} (h : liftE G (mL p la) σ H Q) : liftL G la σ H fun xs H1 => t xs H1 Q := by
  obtain ⟨r, env, S, d, S', R, W, h, k⟩ := h
  unfold mL at h
  split at h
  · rename_i x S1 e1
    refine ⟨r, env, S, x, S1, R, W, e1, fun r1 H1 v x1 R1 q1 => ?_⟩
    exact hp r1 S1 H1 x v d S' Q R1 q1 h fun r' H' u x2 R2 q2 => k r' H' u (x1.trans x2) R2 q2
  · cases h
theorem la_nil : PA X [] (liftL (gx X ca) lNil) := wkA pa_nil fun σ H Q ⟨r, env, S, ds, S', R, W, h, k⟩ => by
  unfold lNil at h
  cases h
  exact k r H [] Ext.refl R DVs.nil
theorem la_cons (ha : PE X e (liftE (gx X ca) ma)) (hr : PA X es (liftL (gx X ca) la)) (hs : starEach (e :: es) X.env = (false, eval e X.env) :: starEach es X.env := by rfl) : PA X (e :: es) (liftL (gx X ca) (lCons ma la)) :=
  wkA (pa_cons ha hr hs) fun σ H Q ⟨r, env, S, ds, S', R, W, h, k⟩ => by
    unfold lCons at h
    split at h
    · rename_i x S1 e1
      refine ⟨r, env, S, x, S1, R, W, e1, fun r1 H1 v x1 R1 q1 => ?_⟩
      split at h
      · rename_i xs S2 e2
        cases h
        exact ⟨r1, env, S1, xs, _, R1, W.ext x1, e2, fun r2 H2 w x2 R2 q2 => k r2 H2 _ (x1.trans x2) R2 (DVs.cons (DV.ext x2 _ _ q1) q2)⟩
      · cases h
    · cases h
theorem de_op {op : Operator} {t : R2} {q : D → D → Sto → Option (D × Sto)} (ho : OpR X (binaryOp op) t) (hp : Prim2 (gx X ca) t q) (ha : PE X a (liftE (gx X ca) ma)) (hb : PE X b (liftE (gx X ca) mb)) : PE X (.BinOp a op b pos) (liftE (gx X ca) (m2 q ma mb)) :=
  wkE (pe_op ho ha hb) fun _ _ _ h => lift2 hp h
theorem de_cmp {op : CmpOp} {t : R2} {q : D → D → Sto → Option (D × Sto)} (ho : OpR X (compareOp op) t) (hp : Prim2 (gx X ca) t q) (ha : PE X a (liftE (gx X ca) ma)) (hb : PE X b (liftE (gx X ca) mb)) (hm : behindInMarks op b = false := by first | exact nomark _ | rfl) : PE X (.Compare a [op] [b] pos) (liftE (gx X ca) (m2 q ma mb)) :=
  wkE (pe_cmpR ho ha hb hm) fun _ _ _ h => lift2 hp h
theorem de_ix {t : R2} {q : D → D → Sto → Option (D × Sto)} (ho : IxR X t) (hp : Prim2 (gx X ca) t q) (ha : PE X a (liftE (gx X ca) ma)) (hb : PE X b (liftE (gx X ca) mb)) (hs : PlainIx b := by exact fun _ _ => rfl) : PE X (.Subscript a b pos) (liftE (gx X ca) (m2 q ma mb)) :=
  wkE (pe_ix ho ha hb hs) fun _ _ _ h => lift2 hp h
theorem de_un {op : UnaryOp} {t : V → Hp → VK → Prop} {q : D → Sto → Option (D × Sto)} (ho : UnR X (unaryOp op) t) (hp : Prim1 (gx X ca) t q) (ha : PE X a (liftE (gx X ca) ma)) : PE X (.UnaryOp op a pos) (liftE (gx X ca) (m1 q ma)) :=
  wkE (pe_un ho ha) fun _ _ _ h => lift1 hp h
theorem de_callB {x : Str} {id : String} {t : List V → Hp → VK → Prop} {q : List D → Sto → Option (D × Sto)} (ho : CallR X (.builtin id) t) (hp : PrimL (gx X ca) t q) (hm : X.mg x = none) (hv : bootBuiltins x = some (.builtin id)) (ha : PA X (e :: es) (liftL (gx X ca) la)) (hg : Gl X x := by rfl) (hn : x ≠ "__name__" := by decide) (hdb : (x == ("__debug__" : Str)) = false := by decide)
    (he : starEach (e :: es) X.env = (false, eval e X.env) :: starEach es X.env := by rfl) (hpl : (backTo pos (starEach es X.env)).any (·.1) = false := by rfl) : PE X (.Call (.Name x p) (e :: es) [] pos) (liftE (gx X ca) (mL q la)) :=
  wkE (pe_callB ho hg hm hv ha hn hdb he hpl) fun _ _ _ h => liftLp hp h
theorem de_callTy {x : Str} {T : String} {t : List V → Hp → VK → Prop} {q : List D → Sto → Option (D × Sto)} (ho : CallR X (.type T) t) (hp : PrimL (gx X ca) t q) (hm : X.mg x = none) (hv : bootBuiltins x = some (.type T)) (ha : PA X (e :: es) (liftL (gx X ca) la)) (hg : Gl X x := by rfl) (hn : x ≠ "__name__" := by decide) (hdb : (x == ("__debug__" : Str)) = false := by decide)
    (he : starEach (e :: es) X.env = (false, eval e X.env) :: starEach es X.env := by rfl) (hpl : (backTo pos (starEach es X.env)).any (·.1) = false := by rfl) : PE X (.Call (.Name x p) (e :: es) [] pos) (liftE (gx X ca) (mL q la)) :=
  wkE (pe_callTy ho hg hm hv ha hn hdb he hpl) fun _ _ _ h => liftLp hp h
def tupP : List D → Sto → Option (D × Sto) := fun ds S => if ds.length ≤ sizeLine then some (.tup ds, S) else none
def lstP : List D → Sto → Option (D × Sto) := fun ds S => if ds.length ≤ sizeLine then some (.loc S.length, S ++ [.lst ds]) else none
theorem tup_new {pins : List (Addr × Obj)} {σ : L2.St} {H : Hp} {s : Shared} {us : List Value} {vs : List V} {Q : VK} (I : Inv X pins σ H s) (r : Vals vs us) (fit : vs.length ≤ sizeLine) (q : ∀ p od, od.dict = none → H p = none → Q (.ref p) (upd H p (.frz od (.tup vs)))) :
    EP X pins σ Q (.ref s.heap.objs.size) { s with heap := s.heap.push { cls := .type "tuple", data := .seq us.toArray } } := by
  have fr := I.hok.fresh (Nat.le_refl s.heap.objs.size)
  refine ⟨.ref s.heap.objs.size, _, I.laid (t' := s.toks) (o := .frz { cls := .type "tuple", data := .seq us.toArray } (.tup vs)) (fun b ob e => Heap.get?_push_of_some _ e) (Nat.le_refl _) ?_, rfl, q _ _ rfl fr⟩
  exact ⟨Heap.get?_push_size _ rfl, fit, us, r, ⟨_, Heap.get?_push_size _ rfl, rfl, _, rfl⟩⟩
def tTupN (t : TA) : TE := fun σ H Q => t σ H fun ys H1 => ys.length ≤ sizeLine ∧ ∀ p od, od.dict = none → H1 p = none → Q (.ref p) (upd H1 p (.frz od (.tup ys)))
theorem pe_tupN {t : TA} {i} (h : PA X es t) : PE X (.Tuple es i pos) (tTupN t) := by
  constructor
  intro pins s σ H Q I hq
  refine wpAny_Tuple_spliced (thn (h.run pos pins s σ H _ I hq) ?_)
  rintro us s1 ⟨ys, H1, I1, r, z, q⟩
  refine ⟨by rw [← r.length]; exact z, ?_⟩
  exact tup_new I1 r z q
theorem prim_tup {G : Ctx} : PrimL G (fun xs H Q => xs.length ≤ sizeLine ∧ ∀ p od, od.dict = none → H p = none → Q (.ref p) (upd H p (.frz od (.tup xs)))) tupP := by
  intro r S H xs vs d S' Q R hv h k
  unfold tupP at h
  split at h
  · rename_i hz
    cases h
    refine ⟨by rw [hv.length]; exact hz, fun p od ho hp => ?_⟩
    obtain ⟨x, R'⟩ := R.tup (vs := vs) (od := od) hp
    exact k r _ _ x R' (DV.tup_mk (TpN.of ho) (DVs.ext x _ _ hv))
  · cases h
theorem prim_lst {G : Ctx} : PrimL G (fun xs H Q => xs.length ≤ sizeLine ∧ ∀ p, H p = none → Q (.ref p) (upd H p (.lst xs))) lstP := by
  intro r S H xs vs d S' Q R hv h k
  unfold lstP at h
  split at h
  · rename_i hz
    cases h
    refine ⟨by rw [hv.length]; exact hz, fun p hp => ?_⟩
    obtain ⟨x, R'⟩ := R.lst hp hv
    exact k _ _ _ x R' R.newLoc
  · cases h
theorem de_tup {i} (h : PA X es (liftL (gx X ca) la)) : PE X (.Tuple es i pos) (liftE (gx X ca) (mL tupP la)) := wkE (pe_tupN h) fun _ _ _ h => liftLp prim_tup h
theorem de_lst (h : PA X es (liftL (gx X ca) la)) : PE X (.List es pos) (liftE (gx X ca) (mL lstP la)) := wkE (pe_lst h) fun _ _ _ h => liftLp prim_lst h
theorem dv_non {K r H} {d : D} {v : V} (h : DV K r H d v) : decide (v = .non) = d.isNon := by
  cases d with
  | non => unfold DV at h; subst h; rfl
  | bl b => unfold DV at h; subst h; rfl
  | int b => unfold DV at h; subst h; rfl
  | str b => unfold DV at h; subst h; rfl
  | tup ds => unfold DV at h; obtain ⟨_, _, rfl, _⟩ := h; rfl
  | loc n => unfold DV at h; obtain ⟨_, _, rfl⟩ := h; rfl
  | scr n => unfold DV at h; obtain ⟨_, rfl, _⟩ := h; rfl
  | fn n => unfold DV at h; obtain ⟨_, rfl, _⟩ := h; rfl
  | clo n _ => unfold DV at h; obtain ⟨_, _, rfl, _⟩ := h; rfl
theorem de_isN {j p'} (ha : PE X a (liftE (gx X ca) ma)) : PE X (.Compare a [.Is] [.Constant .none j p'] pos) (liftE (gx X ca) (mIsN ma)) :=
  wkE (pe_cmp (pc_isN ha) rfl) fun σ H Q h => lift1 (t := fun x H1 Q => Q (.bl (decide (x = .non))) H1) (fun r S H x v d S' Q R hv e k => by
    cases e
    rw [dv_non hv]
    exact k r H _ Ext.refl R (by unfold DV; rfl)) h
theorem liftV {G : Ctx} {σ : L2.St} {H : Hp} {Q : Bool → Hp → Prop} (h : liftB G (bV ma) σ H Q) : liftE G ma σ H fun x H1 => ∃ c, x = .bl c ∧ Q c H1 := by
  obtain ⟨r, env, S, b, S', R, W, h, k⟩ := h
  unfold bV at h
  split at h
  · rename_i b' S1 e1
    cases h
    refine ⟨r, env, S, _, _, R, W, e1, fun r1 H1 v x1 R1 q1 => ?_⟩
    unfold DV at q1
    exact ⟨b, q1, k r1 H1 x1 R1⟩
  · cases h
theorem dt_cmp {op : CmpOp} {t : R2} {q : D → D → Sto → Option (D × Sto)} (ho : OpR X (compareOp op) t) (hp : Prim2 (gx X ca) t q) (ha : PE X a (liftE (gx X ca) ma)) (hb : PE X b (liftE (gx X ca) mb)) (hm : behindInMarks op b = false := by first | exact nomark _ | rfl) : PT X (.Compare a [op] [b] pos) (liftB (gx X ca) (bV (m2 q ma mb))) :=
  wkT (pt_cmpR ho ha hb hm) fun σ H Q h => by
    have h1 := liftV h
    exact lift2 hp h1
theorem dt_isN {j p'} (ha : PE X a (liftE (gx X ca) ma)) : PT X (.Compare a [.Is] [.Constant .none j p'] pos) (liftB (gx X ca) (bV (mIsN ma))) :=
  wkT (pt_cmp (pc_isN ha) rfl) fun σ H Q h => lift1 (t := fun x H1 Q => Q (.bl (decide (x = .non))) H1) (fun r S H x v d S' Q R hv e k => by
    cases e
    rw [dv_non hv]
    exact k r H _ Ext.refl R (by unfold DV; rfl)) (liftV h)
theorem dt_notN {j p'} (ha : PE X a (liftE (gx X ca) ma)) : PT X (.Compare a [.IsNot] [.Constant .none j p'] pos) (liftB (gx X ca) (bV (mNotN ma))) :=
  wkT (pt_cmp (pc_notN ha) rfl) fun σ H Q h => lift1 (t := fun x H1 Q => Q (.bl (!decide (x = .non))) H1) (fun r S H x v d S' Q R hv e k => by
    cases e
    rw [dv_non hv]
    exact k r H _ Ext.refl R (by unfold DV; rfl)) (liftV h)
theorem tru_of {G : Ctx} {r : List Addr} {S : Sto} {H : Hp} {d : D} {v : V} {b : Bool} (R : RepS G r S H) (q : DV G.K r H d v) (h : truD S d = some b) : TruV G.K v H b := by
  have len_e : ∀ {ds : List D} {vs : List V}, DVs G.K r H ds vs → ds.isEmpty = vs.isEmpty := fun {ds vs} h => by
    have := h.length
    cases ds <;> cases vs <;> simp_all
  cases d with
  | non => unfold DV at q; subst q; cases h; rfl
  | bl c => unfold DV at q; subst q; cases h; rfl
  | int c => unfold DV at q; subst q; cases h; rfl
  | str c =>
    unfold DV at q; subst q
    simp only [truD] at h
    split at h
    · rename_i z; cases h; exact ⟨z, rfl⟩
    · cases h
  | tup ds =>
    unfold DV at q
    obtain ⟨a, vs, rfl, h1, h2⟩ := q
    cases h
    exact .inr (.inl ⟨vs, TpN.sq h1, by rw [len_e h2]⟩)
  | loc n =>
    unfold DV at q
    obtain ⟨a, e, rfl⟩ := q
    simp only [truD] at h
    split at h
    · rename_i ds e1
      cases h
      obtain ⟨vs, e2, h2⟩ := R.at_ _ _ _ e1 e
      exact .inl ⟨vs, SqL.of e2, by rw [len_e h2]⟩
    · cases h
  | scr n => cases h
  | fn n => cases h
  | clo n _ => cases h
theorem dt_tru (h : PE X e (liftE (gx X ca) ma)) (he : ∀ whole, isTrue e X.env whole = (do let v ← whole; standAt e.pos; holding [v] (truthy v)) := by intro _; rfl) : PT X e (liftB (gx X ca) (bTru ma)) :=
  wkT (pt_truth h he) fun σ H Q ⟨r, env, S, b, S', R, W, h, k⟩ => by
    unfold bTru at h
    split at h
    · rename_i d S1 e1
      split at h
      · rename_i b' e2
        cases h
        exact ⟨r, env, S, _, _, R, W, e1, fun r1 H1 v x1 R1 q1 => ⟨_, tru_of R1 q1 e2, k r1 H1 x1 R1⟩⟩
      · cases h
    · cases h
theorem dt_not (ha : PT X a (liftB (gx X ca) ba)) : PT X (.UnaryOp .Not a pos) (liftB (gx X ca) (bNot ba)) :=
  wkT (pt_not ha) fun σ H Q ⟨r, env, S, b, S', R, W, h, k⟩ => by
    unfold bNot at h
    split at h
    · rename_i b' S1 e1
      cases h
      exact ⟨r, env, S, _, _, R, W, e1, fun r1 H1 x1 R1 => k r1 H1 x1 R1⟩
    · cases h
theorem dw_and1 {q : Pos} (ha : PT X a (liftB (gx X ca) ba)) : PW X (.BoolOp .And [a] q) (liftB (gx X ca) ba) := pw_and1 ha
theorem dw_or1 {q : Pos} (ha : PT X a (liftB (gx X ca) ba)) : PW X (.BoolOp .Or [a] q) (liftB (gx X ca) ba) := pw_or1 ha
theorem dw_and {rest : List Expr} (ha : PT X a (liftB (gx X ca) ba)) (hb : PW X (.BoolOp .And (b :: rest) pos) (liftB (gx X ca) bb)) : PW X (.BoolOp .And (a :: b :: rest) pos) (liftB (gx X ca) (bAnd ba bb)) :=
  wkW (pw_and ha hb) fun σ H Q ⟨r, env, S, d, S', R, W, h, k⟩ => by
    unfold bAnd at h
    split at h
    · rename_i S1 e1
      exact ⟨r, env, S, _, _, R, W, e1, fun r1 H1 x1 R1 => by
        refine iteT ?_
        exact ⟨r1, env, S1, d, S', R1, W.ext x1, h, fun r2 H2 x2 R2 => k r2 H2 (x1.trans x2) R2⟩⟩
    · rename_i S1 e1
      cases h
      exact ⟨r, env, S, _, _, R, W, e1, fun r1 H1 x1 R1 => by
        refine iteF ?_
        exact k r1 H1 x1 R1⟩
    · cases h
theorem dw_or {rest : List Expr} (ha : PT X a (liftB (gx X ca) ba)) (hb : PW X (.BoolOp .Or (b :: rest) pos) (liftB (gx X ca) bb)) : PW X (.BoolOp .Or (a :: b :: rest) pos) (liftB (gx X ca) (bOr ba bb)) :=
  wkW (pw_or ha hb) fun σ H Q ⟨r, env, S, d, S', R, W, h, k⟩ => by
    unfold bOr at h
    split at h
    · rename_i S1 e1
      cases h
      exact ⟨r, env, S, _, _, R, W, e1, fun r1 H1 x1 R1 => by
        refine iteT ?_
        exact k r1 H1 x1 R1⟩
    · rename_i S1 e1
      exact ⟨r, env, S, _, _, R, W, e1, fun r1 H1 x1 R1 => by
        refine iteF ?_
        exact ⟨r1, env, S1, d, S', R1, W.ext x1, h, fun r2 H2 x2 R2 => k r2 H2 (x1.trans x2) R2⟩⟩
    · cases h
theorem de_if {c : Expr} (hc : PT X c (liftB (gx X ca) ba)) (ha : PE X a (liftE (gx X ca) ma)) (hb : PE X b (liftE (gx X ca) mb)) : PE X (.IfExp c a b pos) (liftE (gx X ca) (mIf ba ma mb)) :=
  wkE (pe_ifExp hc ha hb) fun σ H Q ⟨r, env, S, d, S', R, W, h, k⟩ => by
    unfold mIf at h
    split at h
    · rename_i S1 e1
      exact ⟨r, env, S, _, _, R, W, e1, fun r1 H1 x1 R1 => by
        refine iteT ?_
        exact ⟨r1, env, S1, d, S', R1, W.ext x1, h, fun r2 H2 v2 x2 R2 q2 => k r2 H2 v2 (x1.trans x2) R2 q2⟩⟩
    · rename_i S1 e1
      exact ⟨r, env, S, _, _, R, W, e1, fun r1 H1 x1 R1 => by
        refine iteF ?_
        exact ⟨r1, env, S1, d, S', R1, W.ext x1, h, fun r2 H2 v2 x2 R2 q2 => k r2 H2 v2 (x1.trans x2) R2 q2⟩⟩
    · cases h
end
def sNext : SM := fun env S => some (.nx, env, S)
def sBreak : SM := fun env S => some (.bk, env, S)
def sCont : SM := fun env S => some (.ct, env, S)
def sSeq (a b : SM) : SM := fun env S => match a env S with
  | some (.nx, env1, S1) => b env1 S1
  | r => r
def sExpr (a : EM) : SM := fun env S => match a env S with
  | some (_, S1) => some (.nx, env, S1)
  | none => none
def sRet (a : EM) : SM := fun env S => match a env S with
  | some (d, S1) => some (.rt d, env, S1)
  | none => none
def sRetN : SM := fun env S => some (.rt .non, env, S)
def sIf (c : BM) (a b : SM) : SM := fun env S => match c env S with
  | some (true, S1) => a env S1
  | some (false, S1) => b env S1
  | none => none
def sAsg (a : EM) (g : GM) : SM := fun env S => match a env S with
  | some (d, S1) => match g d env S1 with
    | some (env2, S2) => some (.nx, env2, S2)
    | none => none
  | none => none
def sNever : SM := fun _ _ => none
def gVar (i : Nat) : GM := fun d env S => some (env.set i (some d), S)
def gsNil : GMs := fun ds env S => match ds with
  | [] => some (env, S)
  | _ => none
def gsCons (g : GM) (gs : GMs) : GMs := fun ds env S => match ds with
  | [] => none
  | d :: r => match g d env S with
    | some (env1, S1) => gs r env1 S1
    | none => none
def gTupD (n : Nat) (gs : GMs) : GM := fun d env S => match d with
  | .tup ds => if ds.length = n then gs ds env S else none
  | _ => none
section
variable {X : Cx} {ca : CAx} {a b c e : Expr} {st : Stmt} {sts : List Stmt} {ma mb : EM} {ba bb : BM} {sa sb : SM} {pos p : Pos}
theorem ds_nil : PSs X [] (liftS (gx X ca) sNext) := wkSs pss_nil fun E σ H ⟨r, env, S, fl, env', S', R, W, h, k⟩ => by
  cases h
  exact k r σ H Ext.refl R W
theorem endF_mono {G : Ctx} {r : List Addr} {H : Hp} {r1 : List Addr} {H1 : Hp} {fl : Fl} {env : Vars} {S : Sto} {E : Ends} (x : Ext G.K r H r1 H1) (k : EndF G r H fl env S E) : EndF G r1 H1 fl env S E :=
  fun r' σ' H' x' R' W' => k r' σ' H' (x.trans x') R' W'
theorem endF_nx {G : Ctx} {r : List Addr} {H : Hp} {fl : Fl} {env : Vars} {S : Sto} {E : Ends} {N : L2.St → Hp → Prop} (hn : fl ≠ .nx) (k : EndF G r H fl env S E) : EndF G r H fl env S { E with nx := N } := by
  intro r' σ' H' x' R' W'
  have := k r' σ' H' x' R' W'
  cases fl with
  | nx => exact absurd rfl hn
  | rt d => exact this
  | bk => exact this
  | ct => exact this
theorem liftSeq {G : Ctx} {E : Ends} {σ : L2.St} {H : Hp} (h : liftS G (sSeq sa sb) E σ H) : liftS G sa { E with nx := liftS G sb E } σ H := by
  obtain ⟨r, env, S, fl, env', S', R, W, h, k⟩ := h
  unfold sSeq at h
  split at h
  · rename_i env1 S1 e1
    exact ⟨r, env, S, _, env1, S1, R, W, e1, fun r1 σ1 H1 x1 R1 W1 => ⟨r1, env1, S1, fl, env', S', R1, W1, h, endF_mono x1 k⟩⟩
  · rename_i o hne
    refine ⟨r, env, S, fl, env', S', R, W, h, endF_nx ?_ k⟩
    rintro rfl
    exact hne env' S' h
theorem ds_cons (h1 : PS X st (liftS (gx X ca) sa)) (h2 : PSs X sts (liftS (gx X ca) sb)) : PSs X (st :: sts) (liftS (gx X ca) (sSeq sa sb)) := wkSs (pss_cons h1 h2) fun _ _ _ h => liftSeq h
theorem ds_one (h1 : PS X st (liftS (gx X ca) sa)) : PSs X [st] (liftS (gx X ca) sa) := pss_one h1
theorem ds_expr (h : PE X e (liftE (gx X ca) ma)) (hs : swapsWith e none pos.line X.env = pure false := by rfl) : PS X (.Expr e pos) (liftS (gx X ca) (sExpr ma)) :=
  wkS (ps_expr h hs) fun E σ H ⟨r, env, S, fl, env', S', R, W, h, k⟩ => by
    unfold sExpr at h
    split at h
    · rename_i d S1 e1
      cases h
      exact ⟨r, env, S, d, _, R, W, e1, fun r1 H1 v x1 R1 q1 => k r1 σ H1 x1 R1 (W.ext x1)⟩
    · cases h
theorem ds_ret (h : PE X e (liftE (gx X ca) ma)) : PS X (.Return (some e) pos) (liftS (gx X ca) (sRet ma)) :=
  wkS (ps_ret h) fun E σ H ⟨r, env, S, fl, env', S', R, W, h, k⟩ => by
    unfold sRet at h
    split at h
    · rename_i d S1 e1
      cases h
      exact ⟨r, env, S, d, _, R, W, e1, fun r1 H1 v x1 R1 q1 => k r1 σ H1 x1 R1 (W.ext x1) v q1⟩
    · cases h
theorem ds_if {sts2 : List Stmt} (hc : PT X c (liftB (gx X ca) ba)) (ha : PSs X sts (liftS (gx X ca) sa)) (hb : PSs X sts2 (liftS (gx X ca) sb)) : PS X (.If c sts sts2 pos) (liftS (gx X ca) (sIf ba sa sb)) :=
  wkS (ps_if hc ha hb) fun E σ H ⟨r, env, S, fl, env', S', R, W, h, k⟩ => by
    unfold sIf at h
    split at h
    · rename_i S1 e1
      exact ⟨r, env, S, _, _, R, W, e1, fun r1 H1 x1 R1 => by
        refine iteT ?_
        exact ⟨r1, env, S1, fl, env', S', R1, W.ext x1, h, endF_mono x1 k⟩⟩
    · rename_i S1 e1
      exact ⟨r, env, S, _, _, R, W, e1, fun r1 H1 x1 R1 => by
        refine iteF ?_
        exact ⟨r1, env, S1, fl, env', S', R1, W.ext x1, h, endF_mono x1 k⟩⟩
    · cases h
theorem dg_name {i : Nat} {x : Str} (hN : X.N.Nodup) (hi : X.N[i]? = some x := by rfl) (hx : Loc X.env.scope x := by first | exact Or.inl rfl | exact Or.inr rfl) (hf : X.fn x = true ∨ X.env.scope.names.lookup x = some .local := by first | exact .inl rfl | exact .inr rfl | assumption) : PG X (.Name x pos) (liftG (gx X ca) (gVar i)) :=
  wkG (pg_name hN hi hx hf) fun v σ H Q ⟨r, env, S, d, env', S', R, W, q, h, k⟩ => by
    cases h
    exact k r _ H Ext.refl R (W.set i q)
theorem dgs_nil : PGs X [] (liftGs (gx X ca) gsNil) := wkGs pgs_nil fun vs σ H Q ⟨r, env, S, ds, env', S', R, W, q, h, k⟩ => by
  unfold gsNil at h
  split at h
  · cases h
    unfold DVs at q
    exact ⟨q, k r σ H Ext.refl R W⟩
  · cases h
theorem dgs_cons {es : List Expr} {g : GM} {gs : GMs} (h1 : PG X e (liftG (gx X ca) g)) (h2 : PGs X es (liftGs (gx X ca) gs)) (hs : (assignEach (e :: es) X.env).map (·.2) = assign e X.env :: (assignEach es X.env).map (·.2) := by rfl) : PGs X (e :: es) (liftGs (gx X ca) (gsCons g gs)) :=
  wkGs (pgs_cons h1 h2 hs) fun vs σ H Q ⟨r, env, S, ds, env', S', R, W, q, h, k⟩ => by
    unfold gsCons at h
    split at h
    · cases h
    · rename_i d rest
      unfold DVs at q
      obtain ⟨v, us, rfl, q1, q2⟩ := q
      split at h
      · rename_i env1 S1 e1
        exact ⟨v, us, rfl, r, env, S, d, env1, S1, R, W, q1, e1, fun r1 σ1 H1 x1 R1 W1 => ⟨r1, env1, S1, rest, env', S', R1, W1, DVs.ext x1 _ _ q2, h, fun r2 σ2 H2 x2 R2 W2 => k r2 σ2 H2 (x1.trans x2) R2 W2⟩⟩
      · cases h
theorem dg_tup {es : List Expr} {i : Nat} {n : Nat} {gs : GMs} (h : PGs X es (liftGs (gx X ca) gs)) (hn : (assignEach es X.env).length = n := by rfl) (hc : X.calm = true := by rfl) (hst : (assignEach es X.env).findIdx? (·.1) = none := by rfl) : PG X (.Tuple es i pos) (liftG (gx X ca) (gTupD n gs)) :=
  wkG (pg_tup hc h hn hst) fun v σ H Q ⟨r, env, S, d, env', S', R, W, q, h, k⟩ => by
    unfold gTupD at h
    split at h
    · rename_i ds
      split at h
      · rename_i hl
        unfold DV at q
        obtain ⟨a, vs, rfl, q1, q2⟩ := q
        exact ⟨a, vs, rfl, TpN.sq q1, by rw [q2.length, hl], r, env, S, ds, env', S', R, W, q2, h, k⟩
      · cases h
    · cases h
theorem ds_asg {tg : Expr} {g : GM} (he : PE X e (liftE (gx X ca) ma)) (hg : PG X tg (liftG (gx X ca) g)) (hs : swapsWithSole [tg] e pos.line X.env = pure false := by rfl) (hw : swappedStores [tg] e X.env = pure none := by rfl)
    (h1 : (assignEach [tg] X.env).map (·.2) = [assign tg X.env] := by rfl) : PS X (.Assign [tg] e pos) (liftS (gx X ca) (sAsg ma g)) :=
  wkS (ps_asg he hg hs hw h1) fun E σ H ⟨r, env, S, fl, env', S', R, W, h, k⟩ => by
    unfold sAsg at h
    split at h
    · rename_i d S1 e1
      split at h
      · rename_i env2 S2 e2
        cases h
        exact ⟨r, env, S, d, S1, R, W, e1, fun r1 H1 v x1 R1 q1 => ⟨r1, env, S1, d, _, _, R1, W.ext x1, q1, e2, fun r2 σ2 H2 x2 R2 W2 => k r2 σ2 H2 (x1.trans x2) R2 W2⟩⟩
      · cases h
    · cases h
theorem ds_set {i : Nat} {x : Str} {q : Pos} (hN : X.N.Nodup) (he : PE X e (liftE (gx X ca) ma)) (hi : X.N[i]? = some x := by rfl) (hx : Loc X.env.scope x := by first | exact Or.inl rfl | exact Or.inr rfl) (hs : swapsWith e (some (.Name x q)) pos.line X.env = pure false := by rfl) (hf : X.fn x = true ∨ X.env.scope.names.lookup x = some .local := by first | exact .inl rfl | exact .inr rfl | assumption) :
    PS X (.Assign [.Name x q] e pos) (liftS (gx X ca) (sAsg ma (gVar i))) :=
  wkS (ps_set hN hi hx he hs hf) fun E σ H ⟨r, env, S, fl, env', S', R, W, h, k⟩ => by
    unfold sAsg gVar at h
    split at h
    · rename_i d S1 e1
      cases h
      exact ⟨r, env, S, d, _, R, W, e1, fun r1 H1 v x1 R1 q1 => k r1 _ H1 x1 R1 ((W.ext x1).set i q1)⟩
    · cases h
end
end DL
namespace DL
open PySem PySem.Spec L2
section
open Classical in
noncomputable def lim {α : Type} (f : Nat → Option α) : Option α := if h : ∃ n a, f n = some a then f h.choose else none
variable {α : Type} {f : Nat → Option α}
def Up (f : Nat → Option α) : Prop := ∀ n a, f n = some a → f (n + 1) = some a
theorem Up.le (u : Up f) {n : Nat} {a : α} (h : f n = some a) : ∀ {m : Nat}, n ≤ m → f m = some a := by
  intro m hm
  induction hm with
  | refl => exact h
  | step _ ih => exact u _ _ ih
theorem lim_of (u : Up f) {n : Nat} {a : α} (h : f n = some a) : lim f = some a := by
  have q : ∃ n a, f n = some a := ⟨n, a, h⟩
  unfold lim
  rw [dif_pos q]
  obtain ⟨b, hb⟩ := q.choose_spec
  have h1 := u.le h (Nat.le_max_left n q.choose)
  have h2 := u.le hb (Nat.le_max_right n q.choose)
  rw [h1] at h2
  rw [hb, ← h2]
theorem lim_some {a : α} (h : lim f = some a) : ∃ n, f n = some a := by
  unfold lim at h
  split at h
  · rename_i q
    exact ⟨_, h⟩
  · cases h
theorem lim_none (h : ∀ n, f n = none) : lim f = none := by
  cases e : lim f with
  | none => rfl
  | some a => obtain ⟨n, q⟩ := lim_some e; rw [h] at q; cases q
theorem lim_shift (u : Up f) (h0 : f 0 = none) : lim f = lim fun n => f (n + 1) := by
  cases e : lim f with
  | some a =>
    obtain ⟨n, q⟩ := lim_some e
    exact (lim_of (f := fun n => f (n + 1)) (fun n a h => u _ _ h) (n := n) (u _ _ q)).symm
  | none =>
    refine (lim_none fun n => ?_).symm
    cases q : f (n + 1) with
    | none => rfl
    | some a => rw [lim_of u q] at e; cases e
theorem lim_const {o : Option α} : lim (fun _ => o) = o := by
  cases o with
  | none => exact lim_none fun _ => rfl
  | some a => exact lim_of (f := fun _ => some a) (fun _ _ h => h) (n := 0) rfl
end
inductive DIt where
  | seq (d : D)
  | rng (lo : Int) (n : Nat)
  | enm (d : D)
  | zp (d e : D)
def seqD (S : Sto) : D → Option (List D)
  | .tup ds => some ds
  | .loc n => match S[n]? with
    | some (.lst ds) => some ds
    | _ => none
  | .scr ns => some (ns.map D.int)
  | _ => none
def itAt (S : Sto) : DIt → Nat → Option (Option D)
  | .seq d, i => match seqD S d with
    | some ds => some ds[i]?
    | none => none
  | .rng lo n, i => some (if i < n then some (.int (lo + i)) else none)
  | .enm d, i => match seqD S d with
    | some ds => some (match ds[i]? with | some x => some (.tup [.int (i : Nat), x]) | none => none)
    | none => none
  | .zp d e, i => match seqD S d, seqD S e with
    | some ds, some es => (match ds[i]?, es[i]? with | some x, some y => some (some (.tup [x, y])) | _, _ => if i = min ds.length es.length then some none else none)
    | _, _ => none
abbrev IM := Vars → Sto → Option (DIt × Sto)
structure ItOk (G : Ctx) (r0 : List Addr) (H0 : Hp) (it : DIt) (J : It) : Prop where
  go : ∀ r S H i d, ExtF G.K r0 H0 r H → RepS G r S H → itAt S it i = some (some d) → J.go i H ∧ ∀ x H', J.yld i H x H' → ∃ r', Ext G.K r H r' H' ∧ RepS G r' S H' ∧ DV G.K r' H' d x
  stop : ∀ r S H i, ExtF G.K r0 H0 r H → RepS G r S H → itAt S it i = some none → J.stop i H
def liftI (G : Ctx) (m : IM) : TI := fun σ H R => ∃ r env S it S', RepS G r S H ∧ VarsV G.K r H env σ ∧ m env S = some (it, S') ∧ ∀ r' H' J, Ext G.K r H r' H' → RepS G r' S' H' → ItOk G r' H' it J → R J H'
theorem wkI {X : Cx} {tg e : Expr} {t t' : TI} (h : PI X tg e t) (w : ∀ σ H R, t' σ H R → t σ H R) : PI X tg e t' := ⟨fun pins s σ H R I q => h.run pins s σ H R I (w σ H R q)⟩
section
variable {G : Ctx} {r : List Addr} {S : Sto} {H : Hp}
theorem seq_cases {d : D} {v : V} {ds : List D} (R : RepS G r S H) (q : DV G.K r H d v) (h : seqD S d = some ds) : ∃ a vs, v = .ref a ∧ DVs G.K r H ds vs ∧
    ((d = .tup ds ∧ SqT G.K H a vs) ∨ ((∀ es, d ≠ .tup es) ∧ True ∧ True ∧ SqL G.K H a vs)) := by
  cases d with
  | tup es =>
    simp only [seqD, Option.some.injEq] at h
    subst h
    unfold DV at q
    obtain ⟨a, vs, rfl, h1, h2⟩ := q
    exact ⟨a, vs, rfl, h2, .inl ⟨rfl, TpN.sq h1⟩⟩
  | loc n =>
    unfold DV at q
    obtain ⟨a, e, rfl⟩ := q
    simp only [seqD] at h
    split at h
    · rename_i es e1
      cases h
      obtain ⟨vs, e2, h2⟩ := R.at_ _ _ _ e1 e
      exact ⟨a, vs, rfl, h2, .inr ⟨fun _ z => (by cases z), trivial, trivial, SqL.of e2⟩⟩
    · cases h
  | scr ns =>
    unfold DV at q
    obtain ⟨a, rfl, e⟩ := q
    simp only [seqD, Option.some.injEq] at h
    subst h
    exact ⟨a, _, rfl, DVs.ints ns, .inr ⟨fun _ z => (by cases z), trivial, trivial, e.sq⟩⟩
  | fn _ => cases h
  | clo _ _ => cases h
  | non => cases h
  | bl _ => cases h
  | int _ => cases h
  | str _ => cases h
theorem itok_tup {ds : List D} {a : Addr} {vs : List V} (h1 : SqT G.K H a vs) (h2 : DVs G.K r H ds vs) : ItOk G r H (.seq (.tup ds)) (Itt G.K a) where
  go := fun r1 S1 H1 i d x R e => by
    simp only [itAt, seqD, Option.some.injEq] at e
    obtain ⟨v, ev, qv⟩ := (DVs.extW x.w _ _ h2).get e
    refine ⟨⟨vs, v, x.w.tups _ _ h1, ev⟩, fun y H' hy => ?_⟩
    obtain ⟨rfl, hy⟩ := hy
    have := hy vs (x.w.tups _ _ h1)
    rw [ev] at this; cases this
    exact ⟨r1, Ext.refl, R, qv⟩
  stop := fun r1 S1 H1 i x R e => by
    simp only [itAt, seqD, Option.some.injEq] at e
    exact ⟨vs, x.w.tups _ _ h1, by rw [h2.length]; exact List.getElem?_eq_none_iff.mp e⟩
theorem itok_ref {d0 : D} {a : Addr} (h1 : DV G.K r H d0 (.ref a)) (nt : ∀ es, d0 ≠ .tup es) : ItOk G r H (.seq d0) (Itl G.K a) where
  go := fun r1 S1 H1 i d x R e => by
    simp only [itAt] at e
    split at e
    · rename_i ds e1
      have ed := Option.some.inj e
      have q : DV G.K r1 H1 d0 (.ref a) := DV.extW x.w _ _ h1
      obtain ⟨a', vs, ea, h2, h3⟩ := seq_cases R q e1
      cases ea
      rcases h3 with ⟨z, _⟩ | ⟨_, _, _, hs⟩
      · exact absurd z (nt _)
      · obtain ⟨v, ev, qv⟩ := h2.get ed
        refine ⟨⟨vs, v, hs, ev⟩, fun y H' hy => ?_⟩
        obtain ⟨rfl, hy⟩ := hy
        have := hy vs hs
        rw [ev] at this; cases this
        exact ⟨r1, Ext.refl, R, qv⟩
    · cases e
  stop := fun r1 S1 H1 i x R e => by
    simp only [itAt] at e
    split at e
    · rename_i ds e1
      have ed := Option.some.inj e
      have q : DV G.K r1 H1 d0 (.ref a) := DV.extW x.w _ _ h1
      obtain ⟨a', vs, ea, h2, h3⟩ := seq_cases R q e1
      cases ea
      rcases h3 with ⟨z, _⟩ | ⟨_, _, _, hs⟩
      · exact absurd z (nt _)
      · exact ⟨vs, hs, by rw [h2.length]; exact List.getElem?_eq_none_iff.mp ed⟩
    · cases e
theorem itok_rng {lo : Int} {n : Nat} : ItOk G r H (.rng lo n) (Itr lo n) where
  go := fun r1 S1 H1 i d x R e => by
    simp only [itAt, Option.some.injEq] at e
    split at e
    · rename_i hi
      cases e
      refine ⟨hi, fun y H' hy => ?_⟩
      obtain ⟨rfl, rfl⟩ := hy
      exact ⟨r1, Ext.refl, R, by unfold DV; rfl⟩
    · cases e
  stop := fun r1 S1 H1 i x R e => by
    simp only [itAt, Option.some.injEq] at e
    split at e
    · cases e
    · rename_i hi
      exact Nat.le_of_not_lt hi
end
def iSeq (m : EM) : IM := fun env S => match m env S with
  | some (d, S1) => match seqD S1 d with
    | some _ => some (.seq d, S1)
    | none => none
  | none => none
def iRng1M (m : EM) : IM := fun env S => match m env S with
  | some (.int j, S1) => if -(2 ^ 62) ≤ j ∧ j < 2 ^ 62 then some (.rng 0 j.toNat, S1) else none
  | _ => none
def iRng2M (m m2 : EM) : IM := fun env S => match m env S with
  | some (.int i, S1) => match m2 env S1 with
    | some (.int j, S2) => if -(2 ^ 62) ≤ i ∧ i < 2 ^ 62 ∧ -(2 ^ 62) ≤ j ∧ j < 2 ^ 62 then some (.rng i (j - i).toNat, S2) else none
    | _ => none
  | _ => none
section
variable {X : Cx} {ca : CAx} {tg e e2 : Expr} {ma mb : EM} {pos p : Pos}
def iLT (K : PySem.W.Frag) (tl : TE) : TI := fun σ H R => tl σ H fun x H1 => ∃ a, x = .ref a ∧ (((∃ xs, SqL K H1 a xs) ∧ R (Itl K a) H1) ∨ ((∃ xs, SqT K H1 a xs) ∧ R (Itt K a) H1))
theorem pi_lt {l : Expr} {tl : TE} (hl : PE X l tl) : PI X tg l (iLT X.K tl) := by
  refine ⟨fun pins s σ H R I h => ?_⟩
  refine thn (hl.run pins s σ H _ I h) fun v s1 ⟨x, H1, I1, r1, q1⟩ => ?_
  obtain ⟨a, e, q⟩ := q1
  subst e
  cases r1
  have fp : ∀ b ∈ [s1.heap.objs.size], FpOk X pins H1 b := fun b hb => by
    have e : b = s1.heap.objs.size := by simpa using hb
    subst e
    exact I1.fpOk (Nat.le_refl _) (I1.hok.fresh (Nat.le_refl _))
  rcases q with ⟨⟨xs, hq⟩, q⟩ | ⟨⟨xs, hq⟩, q⟩
  · obtain ⟨its, rv, p, hz⟩ := I1.list hq
    refine wpAny_pyIter_list p.isList ?_
    exact ⟨s1.heap.objs.size, [s1.heap.objs.size], _, _, H1, rfl, I1.kept (t' := s1.toks) fun b o e => Heap.get?_push_of_some _ e, turn_list a _, ⟨_, Heap.get?_push_size _ rfl, rfl, rfl⟩, fp, q⟩
  · obtain ⟨its, rv, p, hz⟩ := I1.tuple hq
    refine wpAny_pyIter_tuple (show s1.heap.IsTuple a its.toArray from p) ?_
    exact ⟨s1.heap.objs.size, [s1.heap.objs.size], _, _, H1, rfl, I1.kept (t' := s1.toks) fun b o e => Heap.get?_push_of_some _ e, turn_tuple a _, ⟨_, Heap.get?_push_size _ rfl, rfl, rfl⟩, fp, q⟩
theorem di_seq (h : PE X e (liftE (gx X ca) ma)) : PI X tg e (liftI (gx X ca) (iSeq ma)) :=
  wkI (pi_lt h) fun σ H Q ⟨r, env, S, it, S', R, W, h, k⟩ => by
    unfold iSeq at h
    split at h
    · rename_i d S1 e1
      split at h
      · rename_i ds e2
        cases h
        refine ⟨r, env, S, d, _, R, W, e1, fun r1 H1 v x1 R1 q1 => ?_⟩
        obtain ⟨a, vs, rfl, h2, h3⟩ := seq_cases R1 q1 e2
        rcases h3 with ⟨rfl, h4⟩ | ⟨nt, _, _, h5⟩
        · exact ⟨a, rfl, .inr ⟨⟨vs, h4⟩, k r1 H1 _ x1 R1 (itok_tup h4 h2)⟩⟩
        · exact ⟨a, rfl, .inl ⟨⟨vs, h5⟩, k r1 H1 _ x1 R1 (itok_ref q1 nt)⟩⟩
      · cases h
    · cases h
theorem di_rng1 (hm : X.mg "range" = none) (h : PE X e (liftE (gx X ca) ma)) (hg : Gl X "range" := by rfl) (hs : starEach [e] X.env = [(false, eval e X.env)] := by rfl) (hs1 : starEach [e] X.env = (false, eval e X.env) :: starEach [] X.env := by rfl) : PI X tg (.Call (.Name "range" p) [e] [] pos) (liftI (gx X ca) (iRng1M ma)) :=
  wkI (pi_range1 hg hm (pa_cons h pa_nil hs1) hs) fun σ H Q ⟨r, env, S, it, S', R, W, h, k⟩ => by
    unfold iRng1M at h
    split at h
    · rename_i j S1 e1
      split at h
      · rename_i hj
        cases h
        refine ⟨r, env, S, _, _, R, W, e1, fun r1 H1 v x1 R1 q1 => ?_⟩
        unfold DV at q1
        subst q1
        exact ⟨j, rfl, hj.1, hj.2, k r1 H1 _ x1 R1 itok_rng⟩
      · cases h
    · cases h
end
def forN (it : DIt) (g : GM) (b : SM) : Nat → Nat → SM
  | 0, _ => fun _ _ => none
  | f + 1, i => fun env S => match itAt S it i with
    | none => none
    | some none => some (.nx, env, S)
    | some (some d) => match g d env S with
      | none => none
      | some (env1, S1) => match b env1 S1 with
        | some (.nx, env2, S2) => forN it g b f (i + 1) env2 S2
        | some (.ct, env2, S2) => forN it g b f (i + 1) env2 S2
        | some (.bk, env2, S2) => some (.nx, env2, S2)
        | some (.rt d, env2, S2) => some (.rt d, env2, S2)
        | none => none
theorem forN_up {it : DIt} {g : GM} {b : SM} : ∀ (n i : Nat) (env : Vars) (S : Sto) a, forN it g b n i env S = some a → forN it g b (n + 1) i env S = some a
  | 0, _, _, _, _, h => by simp [forN] at h
  | n + 1, i, env, S, a, h => by
    unfold forN at h ⊢
    split at h
    · cases h
    · exact h
    · rename_i d e1
      try simp only [e1]
      split at h
      · cases h
      · rename_i env1 S1 e2
        try simp only [e2]
        split at h
        · rename_i env2 S2 e3
          try simp only [e3]
          exact forN_up n _ _ _ _ h
        · rename_i env2 S2 e3
          try simp only [e3]
          exact forN_up n _ _ _ _ h
        · rename_i env2 S2 e3
          try simp only [e3]
          exact h
        · rename_i d env2 S2 e3
          try simp only [e3]
          exact h
        · cases h
noncomputable def forL (it : DIt) (g : GM) (b : SM) (i : Nat) : SM := fun env S => lim fun n => forN it g b n i env S
noncomputable def sFor (m : IM) (g : GM) (b : SM) : SM := fun env S => match m env S with
  | some (it, S1) => forL it g b 0 env S1
  | none => none
theorem forL_eq (it : DIt) (g : GM) (b : SM) (i : Nat) (env : Vars) (S : Sto) : forL it g b i env S = match itAt S it i with
    | none => none
    | some none => some (.nx, env, S)
    | some (some d) => match g d env S with
      | none => none
      | some (env1, S1) => match b env1 S1 with
        | some (.nx, env2, S2) => forL it g b (i + 1) env2 S2
        | some (.ct, env2, S2) => forL it g b (i + 1) env2 S2
        | some (.bk, env2, S2) => some (.nx, env2, S2)
        | some (.rt d, env2, S2) => some (.rt d, env2, S2)
        | none => none := by
  unfold forL
  rw [lim_shift (fun n a h => forN_up n _ _ _ _ h) rfl]
  simp only [forN]
  cases itAt S it i with
  | none => exact lim_const
  | some o =>
    cases o with
    | none => exact lim_const
    | some d =>
      try simp only
      cases g d env S with
      | none => exact lim_const
      | some q =>
        try simp only
        cases b q.1 q.2 with
        | none => exact lim_const
        | some z =>
          obtain ⟨fl, env2, S2⟩ := z
          cases fl with
          | nx => rfl
          | ct => rfl
          | bk => exact lim_const
          | rt d => exact lim_const
section
variable {X : Cx} {ca : CAx} {tg iter : Expr} {mi : IM} {g : GM} {sb : SM} {body : List Stmt} {pos : Pos}
theorem ds_for (hi : PI X tg iter (liftI (gx X ca) mi)) (hg : PG X tg (liftG (gx X ca) g)) (hb : PSs X body (liftS (gx X ca) sb)) (hp : PassesOwn (model X.prog X.w) X.A X.env X.xe := by exact PassesOwn.never) (hc : X.calm = true := by rfl)
    (hs : ∀ x, foldedSetIterable iter X.env x = pure x := by intro _; rfl) : PS X (.For tg iter body [] pos) (liftS (gx X ca) (sFor mi g sb)) :=
  wkS (ps_for hp hc hi hg hb hs) fun E σ H ⟨r, env, S, fl, env', S', R, W, h, k⟩ => by
    unfold sFor at h
    split at h
    · rename_i it S1 e1
      refine ⟨r, env, S, it, S1, R, W, e1, fun r1 H1 J x1 R1 J1 => ?_⟩
      obtain ⟨n0, h0⟩ := lim_some h
      refine ⟨fun i m σ2 H2 => ∃ r2 env2 S2, Ext (gx X ca).K r1 H1 r2 H2 ∧ RepS (gx X ca) r2 S2 H2 ∧ VarsV (gx X ca).K r2 H2 env2 σ2 ∧ forN it g sb m i env2 S2 = some (fl, env', S'), ⟨n0, r1, env, S1, Ext.refl, R1, W.ext x1, h0⟩, ?_⟩
      rintro i m σ2 H2 ⟨r2, env2, S2, x2, R2, W2, h2⟩
      cases m with
      | zero => simp [forN] at h2
      | succ m =>
        unfold forN at h2
        split at h2
        · cases h2
        · rename_i e2
          cases h2
          exact .inl ⟨J1.stop r2 _ H2 i x2.f R2 e2, k r2 σ2 H2 (x1.trans x2) R2 W2⟩
        · rename_i d e2
          obtain ⟨go, yl⟩ := J1.go r2 S2 H2 i d x2.f R2 e2
          refine .inr ⟨go, fun σ3 H3 => ∃ r3 env3 S3, Ext (gx X ca).K r1 H1 r3 H3 ∧ RepS (gx X ca) r3 S3 H3 ∧ VarsV (gx X ca).K r3 H3 env3 σ3 ∧ forN it g sb m (i + 1) env3 S3 = some (fl, env', S'), fun σ3 H3 q => ⟨m, Nat.lt_succ_self _, q⟩, fun y H3 hy => ?_⟩
          obtain ⟨r3, x3, R3, q3⟩ := yl y H3 hy
          split at h2
          · cases h2
          · rename_i env4 S4 e4
            refine ⟨r3, env2, S2, d, env4, S4, R3, W2.ext x3, q3, e4, fun r5 σ5 H5 x5 R5 W5 => ?_⟩
            split at h2
            · rename_i env6 S6 e6
              exact ⟨r5, env4, S4, .nx, env6, S6, R5, W5, e6, fun r7 σ7 H7 x7 R7 W7 => ⟨r7, env6, S6, x2.trans (x3.trans (x5.trans x7)), R7, W7, h2⟩⟩
            · rename_i env6 S6 e6
              exact ⟨r5, env4, S4, .ct, env6, S6, R5, W5, e6, fun r7 σ7 H7 x7 R7 W7 => ⟨r7, env6, S6, x2.trans (x3.trans (x5.trans x7)), R7, W7, h2⟩⟩
            · rename_i env6 S6 e6
              cases h2
              exact ⟨r5, env4, S4, .bk, _, _, R5, W5, e6, fun r7 σ7 H7 x7 R7 W7 => k r7 σ7 H7 (x1.trans (x2.trans (x3.trans (x5.trans x7)))) R7 W7⟩
            · rename_i d env6 S6 e6
              cases h2
              exact ⟨r5, env4, S4, .rt d, _, _, R5, W5, e6, fun r7 σ7 H7 x7 R7 W7 => k r7 σ7 H7 (x1.trans (x2.trans (x3.trans (x5.trans x7)))) R7 W7⟩
            · cases h2
    · cases h
end
def whileN (c : BM) (b : SM) : Nat → SM
  | 0 => fun _ _ => none
  | f + 1 => fun env S => match c env S with
    | none => none
    | some (false, S1) => some (.nx, env, S1)
    | some (true, S1) => match b env S1 with
      | some (.nx, env2, S2) => whileN c b f env2 S2
      | some (.ct, env2, S2) => whileN c b f env2 S2
      | some (.bk, env2, S2) => some (.nx, env2, S2)
      | some (.rt d, env2, S2) => some (.rt d, env2, S2)
      | none => none
theorem whileN_up {c : BM} {b : SM} : ∀ (n : Nat) (env : Vars) (S : Sto) a, whileN c b n env S = some a → whileN c b (n + 1) env S = some a
  | 0, _, _, _, h => by simp [whileN] at h
  | n + 1, env, S, a, h => by
    unfold whileN at h ⊢
    split at h
    · cases h
    · rename_i S1 e1
      try simp only [e1]
      exact h
    · rename_i S1 e1
      try simp only [e1]
      split at h
      · rename_i env2 S2 e3
        try simp only [e3]
        exact whileN_up n _ _ _ h
      · rename_i env2 S2 e3
        try simp only [e3]
        exact whileN_up n _ _ _ h
      · rename_i env2 S2 e3
        try simp only [e3]
        exact h
      · rename_i d env2 S2 e3
        try simp only [e3]
        exact h
      · cases h
noncomputable def sWhile (c : BM) (b : SM) : SM := fun env S => lim fun n => whileN c b n env S
theorem sWhile_eq (c : BM) (b : SM) (env : Vars) (S : Sto) : sWhile c b env S = match c env S with
    | none => none
    | some (false, S1) => some (.nx, env, S1)
    | some (true, S1) => match b env S1 with
      | some (.nx, env2, S2) => sWhile c b env2 S2
      | some (.ct, env2, S2) => sWhile c b env2 S2
      | some (.bk, env2, S2) => some (.nx, env2, S2)
      | some (.rt d, env2, S2) => some (.rt d, env2, S2)
      | none => none := by
  unfold sWhile
  rw [lim_shift (fun n a h => whileN_up n _ _ _ h) rfl]
  simp only [whileN]
  cases c env S with
  | none => exact lim_const
  | some q =>
    obtain ⟨t, S1⟩ := q
    cases t with
    | false => exact lim_const
    | true =>
      try simp only
      cases b env S1 with
      | none => exact lim_const
      | some z =>
        obtain ⟨fl, env2, S2⟩ := z
        cases fl with
        | nx => rfl
        | ct => rfl
        | bk => exact lim_const
        | rt d => exact lim_const
section
variable {X : Cx} {ca : CAx} {c : Expr} {bc : BM} {sb : SM} {body : List Stmt} {pos : Pos}
theorem ds_while (hc : PT X c (liftB (gx X ca) bc)) (hb : PSs X body (liftS (gx X ca) sb)) (hp : PassesOwn (model X.prog X.w) X.A X.env X.xe := by exact PassesOwn.never) : PS X (.While c body [] pos) (liftS (gx X ca) (sWhile bc sb)) :=
  wkS (ps_while hp hc hb) fun E σ H ⟨r, env, S, fl, env', S', R, W, h, k⟩ => by
    obtain ⟨n0, h0⟩ := lim_some h
    refine ⟨fun m σ2 H2 => ∃ r2 env2 S2, Ext (gx X ca).K r H r2 H2 ∧ RepS (gx X ca) r2 S2 H2 ∧ VarsV (gx X ca).K r2 H2 env2 σ2 ∧ whileN bc sb m env2 S2 = some (fl, env', S'), ⟨n0, r, env, S, Ext.refl, R, W, h0⟩, ?_⟩
    rintro m σ2 H2 ⟨r2, env2, S2, x2, R2, W2, h2⟩
    cases m with
    | zero => simp [whileN] at h2
    | succ m =>
      unfold whileN at h2
      split at h2
      · cases h2
      · rename_i S3 e3
        cases h2
        refine ⟨r2, _, S2, false, _, R2, W2, e3, fun r3 H3 x3 R3 => ?_⟩
        exact iteF (k r3 σ2 H3 (x2.trans x3) R3 (W2.ext x3))
      · rename_i S3 e3
        refine ⟨r2, env2, S2, true, S3, R2, W2, e3, fun r3 H3 x3 R3 => ?_⟩
        refine iteT ⟨fun σ4 H4 => ∃ r4 env4 S4, Ext (gx X ca).K r H r4 H4 ∧ RepS (gx X ca) r4 S4 H4 ∧ VarsV (gx X ca).K r4 H4 env4 σ4 ∧ whileN bc sb m env4 S4 = some (fl, env', S'), fun σ4 H4 q => ⟨m, Nat.lt_succ_self _, q⟩, ?_⟩
        split at h2
        · rename_i env6 S6 e6
          exact ⟨r3, _, S3, .nx, env6, S6, R3, W2.ext x3, e6, fun r7 σ7 H7 x7 R7 W7 => ⟨r7, env6, S6, x2.trans (x3.trans x7), R7, W7, h2⟩⟩
        · rename_i env6 S6 e6
          exact ⟨r3, env2, S3, .ct, env6, S6, R3, W2.ext x3, e6, fun r7 σ7 H7 x7 R7 W7 => ⟨r7, env6, S6, x2.trans (x3.trans x7), R7, W7, h2⟩⟩
        · rename_i env6 S6 e6
          cases h2
          exact ⟨r3, env2, S3, .bk, _, _, R3, W2.ext x3, e6, fun r7 σ7 H7 x7 R7 W7 => k r7 σ7 H7 (x2.trans (x3.trans x7)) R7 W7⟩
        · rename_i d env6 S6 e6
          cases h2
          exact ⟨r3, env2, S3, .rt d, _, _, R3, W2.ext x3, e6, fun r7 σ7 H7 x7 R7 W7 => k r7 σ7 H7 (x2.trans (x3.trans x7)) R7 W7⟩
        · cases h2
end
inductive Tgt where
  | nm (i : Nat)
  | tp (is : List Nat)
  | pr (i : Nat) (js : List Nat)
def Tgt.slots : Tgt → List Nat
  | .nm i => [i]
  | .tp is => is
  | .pr i js => i :: js
def setAll (env : Vars) : List Nat → List D → Vars
  | i :: is, d :: ds => setAll (env.set i (some d)) is ds
  | _, _ => env
def Tgt.put (env : Vars) : Tgt → D → Option Vars
  | .nm i, d => some (env.set i (some d))
  | .tp is, .tup ds => if ds.length = is.length then some (setAll env is ds) else none
  | .tp _, _ => none
  | .pr i js, .tup [d, .tup es] => if es.length = js.length then some (setAll (env.set i (some d)) js es) else none
  | .pr _ _, _ => none
def wipeD (env : Vars) : List Nat → Vars
  | [] => env
  | v :: vs => (wipeD env vs).set v none
def bYes : BM := fun _ S => some (true, S)
def lcN (it : DIt) (vs : List Nat) (t : Tgt) (tt : BM) (te : EM) (env : Vars) : Nat → Nat → List D → Sto → Option (List D × Sto)
  | 0, _, _, _ => none
  | f + 1, i, acc, S => match itAt S it i with
    | none => none
    | some none => some (acc, S)
    | some (some d) => match t.put (wipeD env vs) d with
      | none => none
      | some env1 => match tt env1 S with
        | none => none
        | some (false, S1) => lcN it vs t tt te env f (i + 1) acc S1
        | some (true, S1) => match te env1 S1 with
          | none => none
          | some (y, S2) => if acc.length < sizeLine then lcN it vs t tt te env f (i + 1) (acc ++ [y]) S2 else none
theorem lcN_up {it : DIt} {vs : List Nat} {t : Tgt} {tt : BM} {te : EM} {env : Vars} : ∀ (n i : Nat) (acc : List D) (S : Sto) a, lcN it vs t tt te env n i acc S = some a → lcN it vs t tt te env (n + 1) i acc S = some a
  | 0, _, _, _, _, h => by simp [lcN] at h
  | n + 1, i, acc, S, a, h => by
    unfold lcN at h ⊢
    split at h
    · cases h
    · exact h
    · rename_i d e1
      try simp only [e1]
      split at h
      · cases h
      · rename_i env1 e2
        try simp only [e2]
        split at h
        · cases h
        · rename_i S1 e3
          try simp only [e3]
          exact lcN_up n _ _ _ _ h
        · rename_i S1 e3
          try simp only [e3]
          split at h
          · cases h
          · rename_i y S2 e4
            try simp only [e4]
            split at h
            · rename_i hz
              rw [if_pos hz]
              exact lcN_up n _ _ _ _ h
            · cases h
noncomputable def lcL (it : DIt) (vs : List Nat) (t : Tgt) (tt : BM) (te : EM) (env : Vars) (i : Nat) (acc : List D) (S : Sto) : Option (List D × Sto) := lim fun n => lcN it vs t tt te env n i acc S
theorem lcL_eq (it : DIt) (vs : List Nat) (t : Tgt) (tt : BM) (te : EM) (env : Vars) (i : Nat) (acc : List D) (S : Sto) : lcL it vs t tt te env i acc S = match itAt S it i with
    | none => none
    | some none => some (acc, S)
    | some (some d) => match t.put (wipeD env vs) d with
      | none => none
      | some env1 => match tt env1 S with
        | none => none
        | some (false, S1) => lcL it vs t tt te env (i + 1) acc S1
        | some (true, S1) => match te env1 S1 with
          | none => none
          | some (y, S2) => if acc.length < sizeLine then lcL it vs t tt te env (i + 1) (acc ++ [y]) S2 else none := by
  unfold lcL
  rw [lim_shift (fun n a h => lcN_up n _ _ _ _ h) rfl]
  simp only [lcN]
  cases itAt S it i with
  | none => exact lim_const
  | some o =>
    cases o with
    | none => exact lim_const
    | some d =>
      try simp only
      cases t.put (wipeD env vs) d with
      | none => exact lim_const
      | some env1 =>
        try simp only
        cases tt env1 S with
        | none => exact lim_const
        | some q =>
          obtain ⟨b, S1⟩ := q
          cases b with
          | false => rfl
          | true =>
            try simp only
            cases te env1 S1 with
            | none => exact lim_const
            | some z =>
              try simp only
              split
              · rfl
              · exact lim_const
noncomputable def mLc (mi : IM) (vs : List Nat) (t : Tgt) (tt : BM) (te : EM) : EM := fun env S => match mi env S with
  | some (it, S1) => match lcL it vs t tt te env 0 [] S1 with
    | some (ds, S2) => some (.loc S2.length, S2 ++ [.lst ds])
    | none => none
  | none => none
end DL
namespace DL
open PySem PySem.Spec L2
open PyProof.Rows hiding St
theorem wipe_get (σ : L2.St) : ∀ (vs : List Nat) (j : Nat), (wipe σ vs)[j]? = if j ∈ vs then (σ[j]?).map (fun _ => none) else σ[j]?
  | [], j => by simp [wipe]
  | v :: vs, j => by
    have ih := wipe_get σ vs
    unfold wipe
    rw [List.getElem?_set]
    by_cases hj : v = j
    · subst hj
      rw [if_pos rfl, wipe_length]
      by_cases hl : v < σ.length
      · simp [hl]
      · simp [hl, List.getElem?_eq_none (Nat.le_of_not_lt hl)]
    · rw [if_neg hj, ih]
      have : j ∈ v :: vs ↔ j ∈ vs := by
        rw [List.mem_cons]
        exact ⟨fun q => q.elim (fun e => absurd e.symm hj) id, .inr⟩
      by_cases hm : j ∈ vs
      · rw [if_pos hm, if_pos (this.mpr hm)]
      · rw [if_neg hm, if_neg (fun q => hm (this.mp q))]
theorem wipe_set {σ : L2.St} {vs : List Nat} {i : Nat} {a : Option V} (h : i ∈ vs) : wipe (σ.set i a) vs = wipe σ vs := by
  apply List.ext_getElem?
  intro j
  rw [wipe_get, wipe_get, List.getElem?_set]
  by_cases hj : j ∈ vs
  · rw [if_pos hj, if_pos hj]
    by_cases e : i = j
    · subst e
      rw [if_pos rfl]
      by_cases hl : i < σ.length
      · simp [hl]
      · simp [hl]
    · rw [if_neg e]
  · rw [if_neg hj, if_neg hj, if_neg (show ¬ i = j by rintro rfl; exact hj h)]
theorem wipe_wipe {σ : L2.St} {vs : List Nat} : wipe (wipe σ vs) vs = wipe σ vs := by
  apply List.ext_getElem?
  intro j
  rw [wipe_get, wipe_get]
  by_cases hj : j ∈ vs
  · rw [if_pos hj, if_pos hj]; cases σ[j]? <;> rfl
  · rw [if_neg hj]
theorem VarsV.wipe {K r H} {env : Vars} {σ : L2.St} (h : VarsV K r H env σ) : ∀ vs : List Nat, VarsV K r H (wipeD env vs) (L2.wipe σ vs)
  | [] => h
  | v :: vs => by
    have ih := VarsV.wipe h vs
    unfold wipeD L2.wipe
    refine ⟨by simp [ih.len], fun j e hj => ?_⟩
    by_cases hij : v = j
    · subst hij
      rw [List.getElem?_set] at hj
      rw [if_pos rfl] at hj
      split at hj <;> cases hj
    · rw [List.getElem?_set_ne hij] at hj
      rw [List.getElem?_set_ne hij]
      exact ih.at_ j e hj
def gNms : List Nat → TGs
  | [] => gNil
  | i :: is => gCons (gName i) (gNms is)
def gTgt (K : PySem.W.Frag) : Tgt → TG
  | .nm i => gName i
  | .tp is => gTup K is.length (gNms is)
  | .pr i js => gTup K 2 (gCons (gName i) (gCons (gTup K js.length (gNms js)) gNil))
theorem gNms_ok {K r H} {vs : List Nat} {Q : L2.St → Hp → Prop} : ∀ (is : List Nat) (ds : List D) (us : List V) (env : Vars) (σ : L2.St), DVs K r H ds us → ds.length = is.length → VarsV K r H env σ → (∀ i ∈ is, i ∈ vs) →
    (∀ σ2, VarsV K r H (setAll env is ds) σ2 → wipe σ2 vs = wipe σ vs → Q σ2 H) → gNms is us σ H Q
  | [], [], us, env, σ, h, _, W, _, k => by
    unfold DVs at h
    subst h
    exact ⟨rfl, k σ W rfl⟩
  | i :: is, d :: ds, us, env, σ, h, hl, W, hm, k => by
    unfold DVs at h
    obtain ⟨v, us', rfl, h1, h2⟩ := h
    refine ⟨v, us', rfl, ?_⟩
    exact gNms_ok is ds us' _ _ h2 (by simpa using hl) (W.set i h1) (fun j hj => hm j (List.mem_cons_of_mem _ hj)) fun σ2 W2 e => k σ2 W2 (e.trans (wipe_set (hm i List.mem_cons_self)))
  | [], _ :: _, _, _, _, _, hl, _, _, _ => by simp at hl
  | _ :: _, [], _, _, _, _, hl, _, _, _ => by simp at hl
theorem gTgt_ok {K r H} {vs : List Nat} {Q : L2.St → Hp → Prop} {t : Tgt} {d : D} {x : V} {env env1 : Vars} {σ : L2.St} (h : t.put env d = some env1) (q : DV K r H d x) (W : VarsV K r H env σ) (hm : ∀ i ∈ t.slots, i ∈ vs)
    (k : ∀ σ2, VarsV K r H env1 σ2 → wipe σ2 vs = wipe σ vs → Q σ2 H) : gTgt K t x σ H Q := by
  cases t with
  | nm i =>
    simp only [Tgt.put, Option.some.injEq] at h
    subst h
    exact k _ (W.set i q) (wipe_set (hm i (by simp [Tgt.slots])))
  | tp is =>
    cases d with
    | tup ds =>
      simp only [Tgt.put] at h
      split at h
      · rename_i hl
        cases h
        unfold DV at q
        obtain ⟨a, us, rfl, q1, q2⟩ := q
        exact ⟨a, us, rfl, TpN.sq q1, by rw [q2.length, hl], gNms_ok is ds us env σ q2 hl W hm k⟩
      · cases h
    | non => cases h
    | bl _ => cases h
    | int _ => cases h
    | str _ => cases h
    | loc _ => cases h
    | scr _ => cases h
    | fn _ => cases h
    | clo _ _ => cases h
  | pr i js =>
    unfold Tgt.put at h
    split at h
    · cases ‹Tgt.pr i js = Tgt.nm _›
    · cases ‹Tgt.pr i js = Tgt.tp _›
    · cases ‹Tgt.pr i js = Tgt.tp _›
    · rename_i i2 js2 d es e1
      cases e1
      split at h
      · rename_i hl
        cases h
        unfold DV at q
        obtain ⟨a, us, rfl, q1, q2⟩ := q
        unfold DVs at q2
        obtain ⟨v, us1, rfl, q3, q4⟩ := q2
        unfold DVs at q4
        obtain ⟨v2, us2, rfl, q5, q6⟩ := q4
        unfold DVs at q6
        subst q6
        unfold DV at q5
        obtain ⟨a2, us3, rfl, q7, q8⟩ := q5
        exact ⟨a, [v, .ref a2], rfl, TpN.sq q1, rfl, v, [.ref a2], rfl, .ref a2, [], rfl, a2, us3, rfl, TpN.sq q7, by rw [q8.length, hl], gNms_ok js es us3 _ _ q8 hl (W.set i q3) (fun j hj => hm j (by simp [Tgt.slots, hj])) fun σ2 W2 e => ⟨rfl, k σ2 W2 (e.trans (wipe_set (hm i (by simp [Tgt.slots]))))⟩⟩
      · cases h
    · cases h
section
variable {X : Cx} {ca : CAx} {elt tg iter : Expr} {ifs : List Expr} {scope : Scope} {own : List (Str × Nat)} {mi : IM} {t : Tgt} {tt : BM} {te : EM} {pos : Pos}
theorem dts_nil : PTs X [] (liftB (gx X ca) bYes) := ⟨fun pins s σ H Q I ⟨r, env, S, b, S', R, W, h, k⟩ => by
  cases h
  exact pts_nil.run pins s σ H Q I (k r H Ext.refl R)⟩
theorem dts_one {c : Expr} {bc : BM} (h : PT X c (liftB (gx X ca) bc)) : PTs X [c] (liftB (gx X ca) bc) := pts_one h
theorem lc_lift {vs : List Nat} {σ : L2.St} {H : Hp} {Q : VK} (hm : ∀ i ∈ t.slots, i ∈ vs) (h : liftE (gx X ca) (mLc mi vs t tt te) σ H Q) :
    tLc (liftI (gx X ca) mi) (gTgt X.K t) (liftB (gx X ca) tt) (liftE (gx X ca) te) vs σ H Q := by
  obtain ⟨r, env, S, d, S', R, W, h, k⟩ := h
  unfold mLc at h
  split at h
  · rename_i it S1 e1
    split at h
    · rename_i ds S2 e2
      cases h
      obtain ⟨n0, h0⟩ := lim_some e2
      refine ⟨r, env, S, it, S1, R, W, e1, fun r1 H1 J x1 R1 J1 Da hD => ?_⟩
      -- what holds between the turns
      refine ⟨fun i m H2 => ∃ r2 S3 acc accV, Ext X.K r1 H1 r2 H2 ∧ RepS (gx X ca) r2 S3 H2 ∧ H2 Da = some (.lst accV) ∧ Da ∉ r2 ∧ DVs X.K r2 H2 acc accV ∧ lcN it vs t tt te env m i acc S3 = some (ds, S2), ?_, ?_⟩
      · obtain ⟨x2, R2⟩ := R1.side (u := .lst []) hD
        exact ⟨n0, r1, S1, [], [], x2, R2, upd_same, R1.free hD, DVs.nil, h0⟩
      rintro i m H2 ⟨r2, S3, acc, accV, x2, R2, hA, nA, qA, h2⟩
      cases m with
      | zero => simp [lcN] at h2
      | succ m =>
        unfold lcN at h2
        split at h2
        · cases h2
        · rename_i e3
          cases h2
          refine .inl ⟨J1.stop r2 _ H2 i x2.f R2 e3, ?_⟩
          obtain ⟨y, R3⟩ := R2.reg hA nA qA
          refine k (r2 ++ [Da]) H2 _ (x1.trans ⟨x2.pre.trans y.pre, x2.tups, x2.scrs, fun a u hu hn nt => ?_, x2.frzs⟩) R3 R2.newLoc
          obtain ⟨z1, z2⟩ := x2.frame a u hu hn nt
          exact ⟨z1, by simp [z2, ne_of_none hu hD]⟩
        · rename_i d e3
          obtain ⟨go, yl⟩ := J1.go r2 S3 H2 i d x2.f R2 e3
          refine .inr ⟨go, fun H9 => ∃ r2 S3 acc accV, Ext X.K r1 H1 r2 H9 ∧ RepS (gx X ca) r2 S3 H9 ∧ H9 Da = some (.lst accV) ∧ Da ∉ r2 ∧ DVs X.K r2 H9 acc accV ∧ lcN it vs t tt te env m (i + 1) acc S3 = some (ds, S2), fun H9 q => ⟨m, Nat.lt_succ_self _, q⟩, fun x H3 hy => ?_⟩
          obtain ⟨r3, x3, R3, q3⟩ := yl x H3 hy
          obtain ⟨hA3, nA3⟩ := x3.frame _ _ hA nA
          split at h2
          · cases h2
          · rename_i env1 e4
            refine gTgt_ok e4 q3 ((W.ext (x1.trans (x2.trans x3))).wipe vs) hm fun σ2 W2 hw => ⟨hw.trans wipe_wipe, ?_⟩
            split at h2
            · cases h2
            · rename_i S4 e5
              refine ⟨r3, env1, S3, _, _, R3, W2, e5, fun r5 H5 x5 R5 => iteF ?_⟩
              obtain ⟨hA5, nA5⟩ := x5.frame _ _ hA3 nA3
              exact ⟨r5, S4, acc, accV, x2.trans (x3.trans x5), R5, hA5, nA5, DVs.ext (x3.trans x5) _ _ qA, h2⟩
            · rename_i S4 e5
              refine ⟨r3, env1, S3, _, _, R3, W2, e5, fun r5 H5 x5 R5 => iteT ?_⟩
              obtain ⟨hA5, nA5⟩ := x5.frame _ _ hA3 nA3
              split at h2
              · cases h2
              · rename_i y S6 e6
                split at h2
                · rename_i hz
                  refine ⟨r5, env1, S4, _, _, R5, W2.ext x5, e6, fun r7 H7 v7 x7 R7 q7 => ?_⟩
                  obtain ⟨hA7, nA7⟩ := x7.frame _ _ hA5 nA5
                  have qA7 : DVs X.K r7 H7 acc accV := DVs.ext (x3.trans (x5.trans x7)) _ _ qA
                  obtain ⟨y8, R8⟩ := R7.sideW (us := accV ++ [v7]) hA7 nA7
                  refine ⟨accV, hA7, by rw [qA7.length]; exact hz, r7, S6, acc ++ [y], accV ++ [v7], ⟨(x2.trans (x3.trans (x5.trans x7))).pre, fun a us hh => y8.tups _ _ ((x2.trans (x3.trans (x5.trans x7))).tups _ _ hh), fun a us hh => y8.scrs _ _ ((x2.trans (x3.trans (x5.trans x7))).scrs _ _ hh), fun a u hu hn nt => ?_, fun b od u hu => by rw [upd_ne (ne_of_none hu hD)]; exact (x2.trans (x3.trans (x5.trans x7))).frzs b od u hu⟩, R8, upd_same, nA7, (DVs.extW y8 _ _ qA7).append (DVs.cons (DV.extW y8 _ _ q7) DVs.nil), h2⟩
                  obtain ⟨z1, z2⟩ := (x2.trans (x3.trans (x5.trans x7))).frame a u hu hn nt
                  exact ⟨by rw [upd_ne (ne_of_none hu hD)]; exact z1, z2⟩
                · cases h2
    · cases h
  · cases h
theorem de_lc (hN : X.N.Nodup) (ok : BlkOk X.N X.env.scope scope own) (hm : ∀ i ∈ t.slots, i ∈ own.map (·.2)) (hi : PI X tg iter (liftI (gx X ca) mi))
    (hg : ∀ (s : Shared) (H : Hp) (C : Addr) (cl : List (Str × Addr)) (fp : List Addr), PG (X.blk s H scope (compEnvC scope cl C X.env) fp) tg (gTgt X.K t)) (ht : ∀ (s : Shared) (H : Hp) (C : Addr) (cl : List (Str × Addr)) (fp : List Addr), PTs (X.blk s H scope (compEnvC scope cl C X.env) fp) ifs (liftB (gx X ca) tt))
    (he : ∀ (s : Shared) (H : Hp) (C : Addr) (cl : List (Str × Addr)) (fp : List Addr), PE (X.blk s H scope (compEnvC scope cl C X.env) fp) elt (liftE (gx X ca) te)) (hc : X.calm = true := by rfl) (hs : ∀ x, foldedSetIterable iter X.env x = pure x := by intro _; rfl) :
    PE X (.ListComp elt [⟨tg, iter, ifs, 0⟩] scope pos) (liftE (gx X ca) (mLc mi (own.map (·.2)) t tt te)) := wkE (pe_lc hc hN hi ok hg ht he hs) fun _ _ _ h => lc_lift hm h
theorem ds_setLc {i : Nat} {y : Str} {py spos : Pos} (hN : X.N.Nodup) (hsw : swapsWith (.ListComp elt [⟨tg, iter, ifs, 0⟩] scope pos) (some (.Name y py)) spos.line X.env = pure true) (ok : BlkOk X.N X.env.scope scope own) (hm : ∀ i ∈ t.slots, i ∈ own.map (·.2)) (hi : PI X tg iter (liftI (gx X ca) mi))
    (hg : ∀ (s : Shared) (H : Hp) (C : Addr) (cl : List (Str × Addr)) (fp : List Addr), PG (X.blk s H scope (compEnvC scope cl C X.env) fp) tg (gTgt X.K t)) (ht : ∀ (s : Shared) (H : Hp) (C : Addr) (cl : List (Str × Addr)) (fp : List Addr), PTs (X.blk s H scope (compEnvC scope cl C X.env) fp) ifs (liftB (gx X ca) tt))
    (he : ∀ (s : Shared) (H : Hp) (C : Addr) (cl : List (Str × Addr)) (fp : List Addr), PE (X.blk s H scope (compEnvC scope cl C X.env) fp) elt (liftE (gx X ca) te)) (hy : X.N[i]? = some y := by rfl) (hyl : X.env.scope.names.lookup y = some .local := by rfl) (hc : X.calm = true := by rfl) (hs : ∀ x, foldedSetIterable iter X.env x = pure x := by intro _; rfl) :
    PS X (.Assign [.Name y py] (.ListComp elt [⟨tg, iter, ifs, 0⟩] scope pos) spos) (liftS (gx X ca) (sAsg (mLc mi (own.map (·.2)) t tt te) (gVar i))) :=
  wkS (ps_setLc hc hN hy hyl hsw hi ok hg ht he hs) fun E σ H ⟨r, env, S, fl, env', S', R, W, h, k⟩ => by
    unfold sAsg gVar at h
    split at h
    · rename_i d S1 e1
      cases h
      exact lc_lift hm ⟨r, env, S, d, _, R, W, e1, fun r1 H1 v x1 R1 q1 => k r1 _ H1 x1 R1 ((W.ext x1).set i q1)⟩
    · cases h
end
abbrev FM := List D → Sto → Option (D × Sto)
def spD (G : Ctx) (n : Nat) (m : FM) : Sp := fun vs H Q _ => ∃ r S ds d S', RepS G r S H ∧ DVs G.K r H ds vs ∧ ds.length = n ∧ m ds S = some (d, S') ∧ ∀ r' H' v, Ext G.K r H r' H' → RepS G r' S' H' → DV G.K r' H' d v → Q v H'
def runB (n : Nat) (b : SM) : FM := fun ds S => match b (ds.map some ++ List.replicate (n - ds.length) none) S with
  | some (.rt d, _, S') => some (d, S')
  | some (.nx, _, S') => some (.non, S')
  | _ => none
theorem vars_start {K r H} {N : List Str} : ∀ {ds : List D} {vs : List V}, DVs K r H ds vs → VarsV K r H (ds.map some ++ List.replicate (N.length - ds.length) none) (L2.start N vs) := by
  intro ds vs h
  unfold L2.start
  refine ⟨by simp [h.length], fun i d e => ?_⟩
  by_cases hi : i < ds.length
  · rw [List.getElem?_append_left (by simpa using hi)] at e
    rw [List.getElem?_map] at e
    have e' : ds[i]? = some d := by
      cases q : ds[i]? with
      | none => rw [q] at e; cases e
      | some x => rw [q] at e; cases e; rfl
    obtain ⟨v, ev, qv⟩ := h.get e'
    exact ⟨v, by rw [List.getElem?_append_left (by simpa [h.length] using hi), List.getElem?_map, ev]; rfl, qv⟩
  · rw [List.getElem?_append_right (by simpa using hi), List.getElem?_replicate] at e
    split at e <;> cases e
section
variable {P : Program} {w : World} {K : PySem.W.Frag} {mg : Str → Option Value} {base : Heap} {ca : CAx}
abbrev bx (P : Program) (w : World) (K : PySem.W.Frag) (mg : Str → Option Value) (base : Heap) (N : List Str) (qual : Str) (sc : Scope) (f : Addr) (cdv : Value) (A : Around) (outer : List Env) (s : Shared) (H : Hp) (E : XK) : Cx :=
  (cxOf CX0 P w K mg base N qual sc f cdv A outer s H E).nox
theorem fun_ok {x qual : Str} {st : Stmt} {f : Addr} {fd : FuncData} {N ps : List Str} {k : Nat} {b : SM} (F : Fun K x qual st f fd) (S : FnScope N ps (defScope st))
    (hb : ∀ (cdv : Value) (A : Around) (outer : List Env) (s : Shared) (H : Hp) (E : XK), Room k (A.deeper (envOfC qual (defScope st) s.heap.objs.size f cdv)) → PSs (bx P w K mg base N qual (defScope st) f cdv A outer s H E) (defBody st) (liftS ⟨K, w, ca⟩ b)) :
    FnOk P w K mg base CX0 (k + 1) f fd ps (spD ⟨K, w, ca⟩ ps.length (runB N.length b)) := by
  refine F.ok S (fun vs H Q E h => ?_) (fun cdv A outer s H vs Q E hr h => ⟨_, hb cdv A outer s H E hr, ?_⟩)
  · obtain ⟨r, S, ds, d, S', R, q, hl, _⟩ := h
    rw [q.length, hl]
  · obtain ⟨r, S, ds, d, S', R, q, hl, e, k⟩ := h
    unfold runB at e
    split at e
    · rename_i d' env' S1 e1
      cases e
      exact ⟨r, _, S, _, env', _, R, vars_start q, e1, fun r1 σ1 H1 x1 R1 W1 v qv => k r1 H1 v x1 R1 qv⟩
    · rename_i env' S1 e1
      cases e
      exact ⟨r, _, S, _, env', _, R, vars_start q, e1, fun r1 σ1 H1 x1 R1 W1 => k r1 H1 .non x1 R1 (by unfold DV; rfl)⟩
    · cases e
theorem fn_zero {k : Nat} {f : Addr} {fd : FuncData} {ps : List Str} {m : FM} (h : ∀ ds S, m ds S = none) : FnOk P w K mg base CX0 k f fd ps (spD ⟨K, w, ca⟩ ps.length m) :=
  ⟨fun vs H Q E ⟨r, S, ds, d, S', R, q, hl, e, _⟩ => by rw [q.length, hl], fun A outer s H args us vs Q E hr e0 hb r ⟨_, S, ds, d, S', R, q, hl, e, _⟩ => by rw [h] at e; cases e⟩
end
section
variable {X : Cx} {ca : CAx} {k : Nat} {f : Addr} {fd : FuncData} {ps : List Str} {m : FM} {x : Str} {p pos : Pos} {e : Expr} {es : List Expr} {la : LM} {n : Nat}
theorem liftCall {G : Ctx} {σ : L2.St} {H : Hp} {Q : VK} {E : XK} (hl : ∀ env S ds S', la env S = some (ds, S') → ds.length = n) (h : liftE G (mL m la) σ H Q) : liftL G la σ H fun vs H1 => spD G n m vs H1 Q E := by
  obtain ⟨r, env, S, d, S', R, W, h, k⟩ := h
  unfold mL at h
  split at h
  · rename_i ds S1 e1
    exact ⟨r, env, S, ds, S1, R, W, e1, fun r1 H1 vs x1 R1 q1 => ⟨r1, S1, ds, d, S', R1, q1, hl _ _ _ _ e1, h, fun r2 H2 v x2 R2 q2 => k r2 H2 v (x1.trans x2) R2 q2⟩⟩
  · cases h
inductive Len : LM → Nat → Prop where
  | nil : Len lNil 0
  | cons {a : EM} {l : LM} {n : Nat} : Len l n → Len (lCons a l) (n + 1)
theorem Len.ok {l : LM} {n : Nat} (h : Len l n) : ∀ env S ds S', l env S = some (ds, S') → ds.length = n := by
  induction h with
  | nil => intro env S ds S' e; cases e; rfl
  | cons h ih =>
    intro env S ds S' e
    unfold lCons at e
    split at e
    · split at e
      · rename_i e2
        cases e
        simp [ih _ _ _ _ e2]
      · cases e
    · cases e
theorem de_call (F : FnOk X.prog X.w X.K X.mg X.base CX0 k f fd ps (spD (gx X ca) n m)) (hr : Room k X.A) (hm : X.mg x = some (.ref f)) (hk : PySem.W.keepIn X.K (.ref f) = true) (hb : Binds X.K fd ps []) (hl : Len la n) (ha : PA X (e :: es) (liftL (gx X ca) la)) (hg : Gl X x := by rfl)
    (hdb : (x == ("__debug__" : Str)) = false := by decide) (he : starEach (e :: es) X.env = (false, eval e X.env) :: starEach es X.env := by rfl) (hpl : (backTo pos (starEach es X.env)).any (·.1) = false := by rfl) :
    PE X (.Call (.Name x p) (e :: es) [] pos) (liftE (gx X ca) (mL m la)) :=
  wkE (pe_call (E := E0) F hr hg hm hk hb .nil pass0 ha hdb he hpl) fun σ H Q h => by
    show liftL _ la σ H fun vs H1 => spD _ n m (vs ++ []) H1 Q E0
    simp only [List.append_nil]
    exact liftCall hl.ok h
end
end DL
namespace DL
open PySem PySem.Spec L2
open PyProof.Rows hiding St
def addP : D → D → Sto → Option (D × Sto)
  | .int i, .int j, S => some (.int (i + j), S)
  | .str x, .str y, S => if x.length + y.length ≤ sizeLine then some (.str (x ++ y), S) else none
  | .tup xs, .tup ys, S => if xs.length + ys.length ≤ sizeLine then some (.tup (xs ++ ys), S) else none
  | .loc m, .loc n, S => match S[m]?, S[n]? with
    | some (.lst xs), some (.lst ys) => if xs.length + ys.length ≤ sizeLine then some (.loc S.length, S ++ [.lst (xs ++ ys)]) else none
    | _, _ => none
  | _, _, _ => none
def intP (f : Int → Int → Int) : D → D → Sto → Option (D × Sto)
  | .int i, .int j, S => some (.int (f i j), S)
  | _, _, _ => none
def small (i : Int) : Bool := decide (-(2 ^ 64) < i) && decide (i < 2 ^ 64)
def mulP : D → D → Sto → Option (D × Sto)
  | .int i, .int j, S => if small i || small j then some (.int (i * j), S) else none
  | _, _, _ => none
def modP : D → D → Sto → Option (D × Sto)
  | .int i, .int j, S => if 0 < j then some (.int (i % j), S) else none
  | _, _, _ => none
def powP : D → D → Sto → Option (D × Sto)
  | .int i, .int j, S => if decide (0 ≤ j) && decide (j ≤ 1000000) && decide (i.natAbs < 2 ^ 64) then some (.int (i ^ j.toNat), S) else none
  | _, _, _ => none
def negP : D → Sto → Option (D × Sto)
  | .int i, S => some (.int (-i), S)
  | _, _ => none
section
variable {X : Cx} {ca : CAx} {G : Ctx}
theorem dv_int {K r H} {i : Int} {v : V} (h : DV K r H (.int i) v) : v = .int i := by unfold DV at h; exact h
theorem dv_bl {K r H} {i : Bool} {v : V} (h : DV K r H (.bl i) v) : v = .bl i := by unfold DV at h; exact h
theorem dv_str {K r H} {i : Str} {v : V} (h : DV K r H (.str i) v) : v = .str i := by unfold DV at h; exact h
theorem dv_tupN {K r H} {ds : List D} {v : V} (h : DV K r H (.tup ds) v) : ∃ a vs, v = .ref a ∧ TpN K H a vs ∧ DVs K r H ds vs := by unfold DV at h; exact h
theorem dv_tup {K r H} {ds : List D} {v : V} (h : DV K r H (.tup ds) v) : ∃ a vs, v = .ref a ∧ SqT K H a vs ∧ DVs K r H ds vs := let ⟨a, vs, e, h1, h2⟩ := dv_tupN h; ⟨a, vs, e, h1.sq, h2⟩
theorem dv_loc {K r H} {n : Nat} {v : V} (h : DV K r H (.loc n) v) : ∃ a, r[n]? = some a ∧ v = .ref a := by unfold DV at h; exact h
theorem mk_int {K r H} {i : Int} : DV K r H (.int i) (.int i) := by unfold DV; rfl
theorem mk_bl {K r H} {i : Bool} : DV K r H (.bl i) (.bl i) := by unfold DV; rfl
theorem mk_str {K r H} {i : Str} : DV K r H (.str i) (.str i) := by unfold DV; rfl
theorem mk_non {K r H} : DV K r H .non .non := by unfold DV; rfl
theorem RepS.lstAt {r : List Addr} {S : Sto} {H : Hp} (R : RepS G r S H) {n : Nat} {a : Addr} {ds : List D} (e : S[n]? = some (.lst ds)) (ea : r[n]? = some a) : ∃ vs, H a = some (.lst vs) ∧ DVs G.K r H ds vs := R.at_ n _ a e ea
def rCatN (K : PySem.W.Frag) : R2 := fun x y H Q => ∃ a b us vs, x = .ref a ∧ y = .ref b ∧ SqT K H a us ∧ SqT K H b vs ∧ us.length + vs.length ≤ sizeLine ∧
  (us = [] → Q (.ref b) H) ∧ (vs = [] → us ≠ [] → Q (.ref a) H) ∧ (us ≠ [] → vs ≠ [] → ∀ p od, od.dict = none → H p = none → Q (.ref p) (upd H p (.frz od (.tup (us ++ vs)))))
theorem op_catN : OpR X (binaryOp .Add) (rCatN X.K) := by
  intro pins s σ H x y v u Q I rx ry h
  obtain ⟨a, b, us, vs, rfl, rfl, hT, hU, fit, left, right, both⟩ := h
  obtain ⟨is, ri, pi, _⟩ := I.tuple hT
  obtain ⟨js, rj, pj, _⟩ := I.tuple hU
  cases rx
  cases ry
  by_cases none : us = []
  · have : is = [] := ri.nil_iff.mpr none
    subst this
    exact cat_tup0 pi pj ⟨.ref b, H, I, rfl, left none⟩
  · refine HT.cat_tup pi pj (fun z => none (ri.nil_iff.mp z)) (fun z => ?_) (fun z => ?_) ?_
    · exact ⟨.ref a, H, I, rfl, right (rj.nil_iff.mp z) none⟩
    · exact tup_new I (ri.append rj) (by rw [List.length_append]; exact fit) fun p od ho hp => both none (fun e => z (rj.nil_iff.mpr e)) p od ho hp
    · rw [← ri.length, ← rj.length]; exact fit
def rAddAll (K : PySem.W.Frag) : R2 := fun x y H Q => (rI0 fun i j => .int (i + j)) x y H Q ∨ (fun x y H Q => ∃ i j, x = V.str i ∧ y = V.str j ∧ i.length + j.length ≤ sizeLine ∧ Q (V.str (i ++ j)) H) x y H Q ∨ rCatN K x y H Q ∨ rCat x y H Q
theorem op_addAll : OpR X (binaryOp .Add) (rAddAll X.K) := op_add.or (op_add_str.or (op_catN.or op_cat))
theorem prim_add : Prim2 G (rAddAll G.K) addP := by
  intro r S H x y v w d S' Q R hv hw h k
  unfold addP at h
  split at h
  · cases h
    rw [dv_int hv, dv_int hw]
    exact .inl ⟨_, _, rfl, rfl, k r H _ Ext.refl R mk_int⟩
  · split at h
    · rename_i hz
      cases h
      rw [dv_str hv, dv_str hw]
      exact .inr (.inl ⟨_, _, rfl, rfl, hz, k r H _ Ext.refl R mk_str⟩)
    · cases h
  · rename_i xs ys
    split at h
    · rename_i hz
      cases h
      obtain ⟨a, vs, rfl, h1, h2⟩ := dv_tup hv
      obtain ⟨b, ws, rfl, h3, h4⟩ := dv_tup hw
      refine .inr (.inr (.inl ⟨a, b, vs, ws, rfl, rfl, h1, h3, by rw [h2.length, h4.length]; exact hz, fun e => ?_, fun e _ => ?_, fun _ _ p od ho hp => ?_⟩))
      · have hx : xs = [] := by have := h2.length; rw [e] at this; exact List.length_eq_zero_iff.mp this.symm
        subst hx
        exact k r H _ Ext.refl R hw
      · have hy : ys = [] := by have := h4.length; rw [e] at this; exact List.length_eq_zero_iff.mp this.symm
        subst hy
        rw [List.append_nil] at k
        exact k r H _ Ext.refl R hv
      · obtain ⟨x, R'⟩ := R.tup (vs := vs ++ ws) (od := od) hp
        exact k r _ _ x R' (DV.tup_mk (TpN.of ho) (DVs.ext x _ _ (h2.append h4)))
    · cases h
  · split at h
    · rename_i m n S xs ys e1 e2
      split at h
      · rename_i hz
        cases h
        obtain ⟨a, ea, rfl⟩ := dv_loc hv
        obtain ⟨b, eb, rfl⟩ := dv_loc hw
        obtain ⟨vs, h1, q1⟩ := R.lstAt e1 ea
        obtain ⟨ws, h2, q2⟩ := R.lstAt e2 eb
        refine .inr (.inr (.inr ⟨a, b, vs, ws, rfl, rfl, h1, h2, by rw [q1.length, q2.length]; exact hz, fun p hp => ?_⟩))
        obtain ⟨x, R'⟩ := R.lst hp (q1.append q2)
        exact k _ _ _ x R' R.newLoc
      · cases h
    · cases h
  · cases h
theorem prim_int {f : Int → Int → Int} {g : Int → Int → V} (hg : ∀ i j, g i j = .int (f i j)) : Prim2 G (rI0 g) (intP f) := by
  intro r S H x y v w d S' Q R hv hw h k
  unfold intP at h
  split at h
  · cases h
    rw [dv_int hv, dv_int hw]
    exact ⟨_, _, rfl, rfl, by rw [hg]; exact k r H _ Ext.refl R mk_int⟩
  · cases h
theorem prim_mul : Prim2 G (rI CMul fun i j => .int (i * j)) mulP := by
  intro r S H x y v w d S' Q R hv hw h k
  unfold mulP at h
  split at h
  · split at h
    · rename_i hz
      cases h
      rw [dv_int hv, dv_int hw]
      refine ⟨_, _, rfl, rfl, ?_, k r H _ Ext.refl R mk_int⟩
      simp only [small, Bool.or_eq_true, Bool.and_eq_true, decide_eq_true_eq] at hz
      exact hz
    · cases h
  · cases h
theorem prim_mod : Prim2 G (rI (fun _ j => 0 < j) fun i j => .int (i % j)) modP := by
  intro r S H x y v w d S' Q R hv hw h k
  unfold modP at h
  split at h
  · split at h
    · rename_i hz
      cases h
      rw [dv_int hv, dv_int hw]
      exact ⟨_, _, rfl, rfl, hz, k r H _ Ext.refl R mk_int⟩
    · cases h
  · cases h
theorem prim_pow : Prim2 G (rI CPow fun i j => .int (i ^ j.toNat)) powP := by
  intro r S H x y v w d S' Q R hv hw h k
  unfold powP at h
  split at h
  · split at h
    · rename_i hz
      cases h
      rw [dv_int hv, dv_int hw]
      refine ⟨_, _, rfl, rfl, ?_, k r H _ Ext.refl R mk_int⟩
      simp only [Bool.and_eq_true, decide_eq_true_eq] at hz
      exact ⟨hz.1.1, hz.1.2, hz.2⟩
    · cases h
  · cases h
theorem prim_neg : Prim1 G (rU fun i => .int (-i)) negP := by
  intro r S H x v d S' Q R hv h k
  unfold negP at h
  split at h
  · cases h
    rw [dv_int hv]
    exact ⟨_, rfl, k r H _ Ext.refl R mk_int⟩
  · cases h
end
mutual
def D.py : D → PyData
  | .non => .none
  | .bl b => .bool b
  | .int i => .int i
  | .str x => .str x
  | .tup ds => .tuple (D.pys ds)
  | .loc _ => .none
  | .scr _ => .none
  | .fn _ => .none
  | .clo _ _ => .none
def D.pys : List D → List PyData
  | [] => []
  | d :: ds => D.py d :: D.pys ds
end
def pyOf (S : Sto) (d : D) : Option PyData := if d.pure = true then some d.py else match seqD S d with
  | some ds => if D.pures ds = true then (match d with | .loc _ => some (.list (D.pys ds)) | _ => none) else none
  | none => none
mutual
theorem dp_of {K r H} : ∀ (d : D) (v : V), DV K r H d v → d.pure = true → Dp K H v d.py
  | .non, v, h, _ => by unfold DV at h; subst h; exact .non
  | .bl b, v, h, _ => by unfold DV at h; subst h; exact .bl b
  | .int b, v, h, _ => by unfold DV at h; subst h; exact .int b
  | .str b, v, h, _ => by unfold DV at h; subst h; exact .str b
  | .tup ds, v, h, p => by
    unfold DV at h
    obtain ⟨a, vs, rfl, h1, h2⟩ := h
    exact .tup (TpN.sq h1) (dps_of ds vs h2 (by simpa [D.pure] using p))
  | .loc _, _, _, p => by simp [D.pure] at p
  | .scr _, _, _, p => by simp [D.pure] at p
  | .fn _, _, _, p => by simp [D.pure] at p
  | .clo _ _, _, _, p => by simp [D.pure] at p
theorem dps_of {K r H} : ∀ (ds : List D) (vs : List V), DVs K r H ds vs → D.pures ds = true → DpAll K H vs (D.pys ds)
  | [], _, h, _ => by unfold DVs at h; subst h; exact .nil
  | d :: ds, _, h, p => by
    unfold DVs at h
    obtain ⟨v, us, rfl, h1, h2⟩ := h
    simp only [D.pures, Bool.and_eq_true] at p
    exact .cons (dp_of d v h1 p.1) (dps_of ds us h2 p.2)
end
theorem dp_pyOf {G : Ctx} {r : List Addr} {S : Sto} {H : Hp} {d : D} {v : V} {p : PyData} (R : RepS G r S H) (q : DV G.K r H d v) (h : pyOf S d = some p) : Dp G.K H v p := by
  unfold pyOf at h
  split at h
  · rename_i hp
    cases h
    exact dp_of d v q hp
  · split at h
    · rename_i ds e
      split at h
      · rename_i hp
        split at h
        · cases h
          obtain ⟨a, vs, rfl, q2, h3⟩ := seq_cases R q e
          rcases h3 with ⟨z, _⟩ | ⟨n, _, _, hs⟩
          · cases z
          · exact .lst hs (dps_of ds vs q2 hp)
        · cases h
      · cases h
    · cases h
def eqP : D → D → Sto → Option (D × Sto) := fun a b S => match pyOf S a, pyOf S b with
  | some p, some q => if SeqAt.shaped p = true ∧ SeqAt.shaped q = true then some (.bl (PyData.eqv p q), S) else none
  | _, _ => none
def neP : D → D → Sto → Option (D × Sto) := fun a b S => match pyOf S a, pyOf S b with
  | some p, some q => if SeqAt.shaped p = true ∧ SeqAt.shaped q = true then some (.bl (!PyData.eqv p q), S) else none
  | _, _ => none
def inP : D → D → Sto → Option (D × Sto) := fun a b S => match seqD S b with
  | some ds => if a.pure = true ∧ D.pures ds = true ∧ SeqAt.shaped a.py = true ∧ SeqAt.shaped (.list (D.pys ds)) = true then some (.bl (ds.any fun z => PyData.eqv z.py a.py), S) else none
  | none => none
def notInP : D → D → Sto → Option (D × Sto) := fun a b S => match seqD S b with
  | some ds => if a.pure = true ∧ D.pures ds = true ∧ SeqAt.shaped a.py = true ∧ SeqAt.shaped (.list (D.pys ds)) = true then some (.bl (!ds.any fun z => PyData.eqv z.py a.py), S) else none
  | none => none
theorem pys_any (f : PyData → Bool) : ∀ ds : List D, (D.pys ds).any f = ds.any fun z => f z.py
  | [] => rfl
  | d :: ds => by simp only [D.pys, List.any_cons, pys_any f ds]
section
variable {X : Cx} {G : Ctx}
def rInT (K : PySem.W.Frag) : R2 := fun x y H Q => ∃ d ds, Dp K H x d ∧ Dp K H y (.tuple ds) ∧ SeqAt.shaped d = true ∧ SeqAt.shaped (.list ds) = true ∧ Q (.bl (ds.any fun z => PyData.eqv z d)) H
def rNotInT (K : PySem.W.Frag) : R2 := fun x y H Q => ∃ d ds, Dp K H x d ∧ Dp K H y (.tuple ds) ∧ SeqAt.shaped d = true ∧ SeqAt.shaped (.list ds) = true ∧ Q (.bl (!ds.any fun z => PyData.eqv z d)) H
theorem shaped_lay {ds : List PyData} (h : SeqAt.shaped (.list ds) = true) : PyData.canLayAll0 ds = true := SeqAt.canLay_of_shaped h
theorem op_inT (hu : X.A.units + 65 < cLine) : OpR X (compareOp .In) (rInT X.K) := by
  intro pins s σ H x y v u Q I rx ry h
  obtain ⟨d, ds, hd, he, sd, se, q⟩ := h
  obtain ⟨as, r1⟩ := Dp.reads I d x v hd rx
  obtain ⟨bs, r2⟩ := Dp.reads I (.tuple ds) y u he ry
  exact SeqAt.in_tuple_reads r2 r1 (shaped_lay se) (SeqAt.canLay_of_shaped sd) (room_in_shaped sd hu) ⟨.bl _, H, I, rfl, q⟩
theorem op_notInT (hu : X.A.units + 65 < cLine) : OpR X (compareOp .NotIn) (rNotInT X.K) := by
  intro pins s σ H x y v u Q I rx ry h
  obtain ⟨d, ds, hd, he, sd, se, q⟩ := h
  obtain ⟨as, r1⟩ := Dp.reads I d x v hd rx
  obtain ⟨bs, r2⟩ := Dp.reads I (.tuple ds) y u he ry
  exact SeqAt.notIn_tuple_reads r2 r1 (shaped_lay se) (SeqAt.canLay_of_shaped sd) (room_in_shaped sd hu) ⟨.bl _, H, I, rfl, q⟩
theorem Room.u65 {k : Nat} {A : Around} (hr : Room k A) : A.units + 65 < cLine := by have := hr.un; omega
def rInLT (K : PySem.W.Frag) : R2 := fun x y H Q => rInD K x y H Q ∨ rInT K x y H Q
def rNotInLT (K : PySem.W.Frag) : R2 := fun x y H Q => rNotInD K x y H Q ∨ rNotInT K x y H Q
theorem op_inLT (hu : X.A.units + 65 < cLine) : OpR X (compareOp .In) (rInLT X.K) := (op_inD hu).or (op_inT hu)
theorem op_notInLT (hu : X.A.units + 65 < cLine) : OpR X (compareOp .NotIn) (rNotInLT X.K) := (op_notInD hu).or (op_notInT hu)
theorem prim_eq : Prim2 G (rEqD G.K) eqP := by
  intro r S H x y v w d S' Q R hv hw h k
  unfold eqP at h
  split at h
  · rename_i p q e1 e2
    split at h
    · rename_i hs
      cases h
      exact ⟨p, q, dp_pyOf R hv e1, dp_pyOf R hw e2, hs.1, hs.2, k r H _ Ext.refl R mk_bl⟩
    · cases h
  · cases h
theorem prim_ne : Prim2 G (rNeD G.K) neP := by
  intro r S H x y v w d S' Q R hv hw h k
  unfold neP at h
  split at h
  · rename_i p q e1 e2
    split at h
    · rename_i hs
      cases h
      exact ⟨p, q, dp_pyOf R hv e1, dp_pyOf R hw e2, hs.1, hs.2, k r H _ Ext.refl R mk_bl⟩
    · cases h
  · cases h
theorem prim_in : Prim2 G (rInLT G.K) inP := by
  intro r S H x y v w d S' Q R hv hw h k
  unfold inP at h
  split at h
  · rename_i ds e1
    split at h
    · rename_i hs
      obtain ⟨p1, p2, s1, s2⟩ := hs
      cases h
      rw [← pys_any (fun z => PyData.eqv z x.py)] at k
      obtain ⟨a, vs, rfl, q2, h3⟩ := seq_cases R hw e1
      rcases h3 with ⟨rfl, ht⟩ | ⟨n, _, _, hl⟩
      · exact .inr ⟨x.py, D.pys ds, dp_of x v hv p1, .tup ht (dps_of ds vs q2 p2), s1, s2, k r H _ Ext.refl R mk_bl⟩
      · exact .inl ⟨x.py, D.pys ds, dp_of x v hv p1, .lst hl (dps_of ds vs q2 p2), s1, s2, k r H _ Ext.refl R mk_bl⟩
    · cases h
  · cases h
theorem prim_notIn : Prim2 G (rNotInLT G.K) notInP := by
  intro r S H x y v w d S' Q R hv hw h k
  unfold notInP at h
  split at h
  · rename_i ds e1
    split at h
    · rename_i hs
      obtain ⟨p1, p2, s1, s2⟩ := hs
      cases h
      rw [← pys_any (fun z => PyData.eqv z x.py)] at k
      obtain ⟨a, vs, rfl, q2, h3⟩ := seq_cases R hw e1
      rcases h3 with ⟨rfl, ht⟩ | ⟨n, _, _, hl⟩
      · exact .inr ⟨x.py, D.pys ds, dp_of x v hv p1, .tup ht (dps_of ds vs q2 p2), s1, s2, k r H _ Ext.refl R mk_bl⟩
      · exact .inl ⟨x.py, D.pys ds, dp_of x v hv p1, .lst hl (dps_of ds vs q2 p2), s1, s2, k r H _ Ext.refl R mk_bl⟩
    · cases h
  · cases h
end
mutual
/-- None where Python raises -/
def ltD : D → D → Option Bool
  | .int i, .int j => some (decide (i < j))
  | .str x, .str y => some (decide (x.cps.toList < y.cps.toList))
  | .tup xs, .tup ys => ltDs xs ys
  | _, _ => none
def ltDs : List D → List D → Option Bool
  | [], [] => some false
  | [], _ :: _ => some true
  | _ :: _, [] => some false
  | x :: xs, y :: ys => if PyData.eqv x.py y.py = true then ltDs xs ys else ltD x y
end
def ltP : D → D → Sto → Option (D × Sto) := fun a b S => match ltD a b with
  | some c => if a.pure = true ∧ b.pure = true ∧ SeqAt.shaped a.py = true ∧ SeqAt.shaped b.py = true then some (.bl c, S) else none
  | none => none
inductive CmpL (A : Around) (s : Shared) : List Value → List Value → Bool → Prop where
  | nn : CmpL A s [] [] false
  | nc {y : Value} {ys : List Value} : CmpL A s [] (y :: ys) true
  | cn {x : Value} {xs : List Value} : CmpL A s (x :: xs) [] false
  | eq {x y : Value} {xs ys : List Value} {c : Bool} : SeqAt.EqAt A s x y true → CmpL A s xs ys c → CmpL A s (x :: xs) (y :: ys) c
  | lt {x y : Value} {xs ys : List Value} {c : Bool} : SeqAt.EqAt A s x y false → SeqAt.RcLt A s x y c → CmpL A s (x :: xs) (y :: ys) c
section
open PySem.SeqAt
open PySem.AutoSeq1 (wpAny_loadPart')
open PySem.MeetsSeq PySem.MeetsSeq2 PySem.MeetsSeq3 PySem.SeqRoads2
theorem tup_cmp (p q : Addr) (us ws : Array Value) (e1 e2 : Nat) (d1 d2 : Option Addr) (z1 z2 : Array (Option Value)) (c : Bool) :
    Meets (Builtin.«tuple.__lt__» ⟨[.ref p, .ref q], []⟩) (fun A R s => s.heap.get? p = some { cls := .type "tuple", dict := d1, data := .seq us e1, slots := z1 } ∧
      s.heap.get? q = some { cls := .type "tuple", dict := d2, data := .seq ws e2, slots := z2 } ∧ CmpL A.in1 s us.toList ws.toList c ∧ R (.ok (.ret (.bool c))) s) :=
  .of_wp fun prog w A R st hyp => by
    obtain ⟨hp, gn, dr, tk, os⟩ := st
    obtain ⟨gp, gq, cm, fin⟩ := hyp
    have tt := AutoSeq1.sub_tuple_tuple
    wp_walk using wpAny_loadPart' gp, wpAny_loadPart' gq, wpAny_forIn_list _ (fun todo acc st' => acc.1 = none ∧ st' = ⟨hp, gn, dr, tk, os⟩ ∧ ∃ as bs, todo = as.zip bs ∧ CmpL A.in1 ⟨hp, gn, dr, tk, os⟩ as bs c ∧
      decide (as.length < bs.length) = decide (us.size < ws.size)) _
    case turn =>
      rintro ⟨a, b⟩ todo acc st' ⟨ha, rfl, as, bs, hz, hc, hl⟩
      cases hc with
      | nn => simp at hz
      | nc => simp at hz
      | cn => simp at hz
      | @eq x y xs ys _ h1 h2 =>
        simp only [List.zip_cons_cons, List.cons.injEq, Prod.mk.injEq] at hz
        obtain ⟨⟨rfl, rfl⟩, rfl⟩ := hz
        refine wpAny_bind (h1 prog w _ _ ?_)
        wp_walk
        refine ⟨rfl, rfl, xs, ys, rfl, h2, ?_⟩
        rw [← hl]
        simp
      | @lt x y xs ys _ h1 h2 =>
        simp only [List.zip_cons_cons, List.cons.injEq, Prod.mk.injEq] at hz
        obtain ⟨⟨rfl, rfl⟩, rfl⟩ := hz
        refine wpAny_bind (h1 prog w _ _ ?_)
        have hri := h2 prog w
        wp_walk using hri
        exact ⟨_, rfl, by simpa using fin⟩
    case fin =>
      rintro ⟨o1, o2⟩ st' ⟨ho, rfl, as, bs, hz, hc, hl⟩
      simp only at ho
      subst ho
      have key : decide (us.size < ws.size) = c := by
        rw [← hl]
        cases hc with
        | nn => rfl
        | nc => simp
        | cn => simp
        | eq _ _ => simp at hz
        | lt _ _ => simp at hz
      wp_walk
      refine ⟨_, rfl, ?_⟩
      simpa [Builtin.Tuple.tupleCompareSizes, key] using fin
    case h =>
      exact ⟨rfl, rfl, us.toList, ws.toList, rfl, cm, by simp⟩
end
end DL
namespace DL
open PySem PySem.Spec L2
open PyProof.Rows hiding St
theorem rcLt_tup {A : Around} {s : Shared} {p q : Addr} {us ws : Array Value} {c : Bool} (h1 : s.heap.IsTuple p us) (h2 : s.heap.IsTuple q ws) (hu : A.units < cLine) (h : CmpL A.in1 s us.toList ws.toList c) : SeqAt.RcLt A s (.ref p) (.ref q) c := fun prog w E Q k => by
  obtain ⟨⟨c1, d1, t1, z1⟩, g1, e1, n1, q1⟩ := id h1
  obtain ⟨⟨c2, d2, t2, z2⟩, g2, e2, n2, q2⟩ := id h2
  simp only at e1 q1 e2 q2
  subst e1 q1 e2 q2
  exact richCompare_meets_room (op := .Lt) ⟨_, g1, rfl⟩ ⟨_, g2, rfl⟩ PySem.F.slot_tuple_lt PySem.F.entry_tuple_lt (PySem.F.args_tuple_lt_2 _ _) (tup_cmp p q us ws n1 n2 d1 d2 z1 z2 c)
    ⟨g1, g2, h, show Value.bool c ≠ Value.notImplemented ∧ Q (.bool c) s from ⟨(fun x => nomatch x), k⟩⟩ hu
mutual
theorem rcLt_of : ∀ (x y : D) (c : Bool) (A : Around) (s : Shared) (a b : Value) (as bs : List Addr), Reads s.heap a x.py as → Reads s.heap b y.py bs → x.py.canLay0 = true → y.py.canLay0 = true →
    ltD x y = some c → A.units + min x.py.depth y.py.depth < cLine → SeqAt.RcLt A s a b c
  | .int i, y, c, A, s, a, b, as, bs, ra, rb, _, _, h, _ => by
    cases y with
    | int j =>
      simp only [ltD, Option.some.injEq] at h
      subst h
      simp only [D.py] at ra rb
      cases ra
      cases rb
      exact fun prog w E Q k => PySem.P.lt_int k
    | non => cases h
    | bl _ => cases h
    | str _ => cases h
    | tup _ => cases h
    | loc _ => cases h
    | scr _ => cases h
    | fn _ => cases h
    | clo _ _ => cases h
  | .str i, y, c, A, s, a, b, as, bs, ra, rb, _, _, h, _ => by
    cases y with
    | str j =>
      simp only [ltD, Option.some.injEq] at h
      subst h
      simp only [D.py] at ra rb
      cases ra
      cases rb
      exact fun prog w E Q k => PySem.P.lt_str k
    | non => cases h
    | bl _ => cases h
    | int _ => cases h
    | tup _ => cases h
    | loc _ => cases h
    | scr _ => cases h
    | fn _ => cases h
    | clo _ _ => cases h
  | .tup xs, y, c, A, s, a, b, as, bs, ra, rb, la, lb, h, hu => by
    cases y with
    | tup ys =>
      simp only [ltD] at h
      simp only [D.py] at ra rb la lb hu
      cases ra with
      | @tuple l o vs n _ _ g1 g2 g3 r1 =>
        cases rb with
        | @tuple l' o' vs' n' _ _ k1 k2 k3 r2 =>
          simp only [PyData.depth] at hu
          refine rcLt_tup ⟨_, g1, g2, _, g3⟩ ⟨_, k1, k2, _, k3⟩ (by omega) (cmpL_of xs ys c A.in1 s _ _ _ _ r1 r2 (by simpa [PyData.canLay0] using la) (by simpa [PyData.canLay0] using lb) h ?_)
          show A.units + 1 + _ < _
          omega
    | non => cases h
    | bl _ => cases h
    | str _ => cases h
    | int _ => cases h
    | loc _ => cases h
    | scr _ => cases h
    | fn _ => cases h
    | clo _ _ => cases h
  | .non, y, _, _, _, _, _, _, _, _, _, _, _, h, _ => by cases y <;> cases h
  | .bl _, y, _, _, _, _, _, _, _, _, _, _, _, h, _ => by cases y <;> cases h
  | .loc _, y, _, _, _, _, _, _, _, _, _, _, _, h, _ => by cases y <;> cases h
  | .scr _, y, _, _, _, _, _, _, _, _, _, _, _, h, _ => by cases y <;> cases h
  | .fn _, y, _, _, _, _, _, _, _, _, _, _, _, h, _ => by cases y <;> cases h
  | .clo _ _, y, _, _, _, _, _, _, _, _, _, _, _, h, _ => by cases y <;> cases h
theorem cmpL_of : ∀ (xs ys : List D) (c : Bool) (A : Around) (s : Shared) (us ws : List Value) (as bs : List Addr), ReadsAll s.heap us (D.pys xs) as → ReadsAll s.heap ws (D.pys ys) bs → PyData.canLayAll0 (D.pys xs) = true → PyData.canLayAll0 (D.pys ys) = true →
    ltDs xs ys = some c → A.units + min (PyData.depthAll (D.pys xs)) (PyData.depthAll (D.pys ys)) < cLine → CmpL A s us ws c
  | [], ys, c, A, s, us, ws, as, bs, ra, rb, _, _, h, _ => by
    simp only [D.pys] at ra
    cases ra
    cases ys with
    | nil =>
      simp only [D.pys] at rb
      cases rb
      simp only [ltDs, Option.some.injEq] at h
      subst h
      exact .nn
    | cons y ys =>
      simp only [D.pys] at rb
      cases rb
      simp only [ltDs, Option.some.injEq] at h
      subst h
      exact .nc
  | x :: xs, ys, c, A, s, us, ws, as, bs, ra, rb, la, lb, h, hu => by
    simp only [D.pys] at ra la hu
    cases ra with
    | cons r1 r2 =>
      cases ys with
      | nil =>
        simp only [D.pys] at rb
        cases rb
        simp only [ltDs, Option.some.injEq] at h
        subst h
        exact .cn
      | cons y ys =>
        simp only [D.pys] at rb lb hu
        cases rb with
        | cons k1 k2 =>
          simp only [PyData.canLayAll0, Bool.and_eq_true] at la lb
          simp only [PyData.depthAll] at hu
          have eq := SeqAt.eqAt_reads x.py y.py A s _ _ _ _ r1 k1 la.1 lb.1 (by omega)
          simp only [ltDs] at h
          split at h
          · rename_i hq
            rw [hq] at eq
            exact .eq eq (cmpL_of xs ys c A s _ _ _ _ r2 k2 la.2 lb.2 h (by omega))
          · rename_i hq
            rw [Bool.not_eq_true] at hq
            rw [hq] at eq
            exact .lt eq (rcLt_of x y c A s _ _ _ _ r1 k1 la.1 lb.1 h (by omega))
end
section
variable {X : Cx} {G : Ctx}
def rLtA (K : PySem.W.Frag) : R2 := fun x y H Q => ∃ (a b : D) (c : Bool), Dp K H x a.py ∧ Dp K H y b.py ∧ SeqAt.shaped a.py = true ∧ SeqAt.shaped b.py = true ∧ ltD a b = some c ∧ Q (.bl c) H
theorem op_ltA (hu : X.A.units + 65 < cLine) : OpR X (compareOp .Lt) (rLtA X.K) := by
  intro pins s σ H x y v u Q I rx ry h
  obtain ⟨a, b, c, ha, hb, sa, sb, hl, q⟩ := h
  obtain ⟨as, r1⟩ := Dp.reads I _ x v ha rx
  obtain ⟨bs, r2⟩ := Dp.reads I _ y u hb ry
  have h1 := SeqAt.depth_of_shaped sa
  have h2 := SeqAt.depth_of_shaped sb
  exact rcLt_of a b c X.A s v u as bs r1 r2 (SeqAt.canLay_of_shaped sa) (SeqAt.canLay_of_shaped sb) hl (by omega) X.prog X.w X.xe _ ⟨.bl c, H, I, rfl, q⟩
theorem prim_lt : Prim2 G (rLtA G.K) ltP := by
  intro r S H x y v w d S' Q R hv hw h k
  unfold ltP at h
  split at h
  · rename_i c e
    split at h
    · rename_i hs
      obtain ⟨p1, p2, s1, s2⟩ := hs
      cases h
      exact ⟨x, y, c, dp_of x v hv p1, dp_of y w hw p2, s1, s2, e, k r H _ Ext.refl R mk_bl⟩
    · cases h
  · cases h
def cmpP (f : Int → Int → Bool) : D → D → Sto → Option (D × Sto)
  | .int i, .int j, S => some (.bl (f i j), S)
  | _, _, _ => none
theorem prim_cmp {f : Int → Int → Bool} {g : Int → Int → V} (hg : ∀ i j, g i j = .bl (f i j)) : Prim2 G (rI0 g) (cmpP f) := by
  intro r S H x y v w d S' Q R hv hw h k
  unfold cmpP at h
  split at h
  · cases h
    rw [dv_int hv, dv_int hw]
    exact ⟨_, _, rfl, rfl, by rw [hg]; exact k r H _ Ext.refl R mk_bl⟩
  · cases h
def leP := cmpP fun i j => decide (i ≤ j)
def gtP := cmpP fun i j => decide (j < i)
def geP := cmpP fun i j => decide (j ≤ i)
theorem prim_le : Prim2 G (rI0 fun i j => .bl (decide (i ≤ j))) leP := prim_cmp fun _ _ => rfl
theorem prim_gt : Prim2 G (rI0 fun i j => .bl (decide (j < i))) gtP := prim_cmp fun _ _ => rfl
def mChain (p q : D → D → Sto → Option (D × Sto)) (a b c : EM) : EM := fun env S => match a env S with
  | some (x, S1) => match b env S1 with
    | some (y, S2) => match p x y S2 with
      | some (.bl true, S3) => match c env S3 with
        | some (z, S4) => q y z S4
        | none => none
      | some (.bl false, S3) => some (.bl false, S3)
      | _ => none
    | none => none
  | none => none
end
def ixP : D → D → Sto → Option (D × Sto)
  | .str x, .int i, S => if x.length ≤ sizeLine then match atI x.cps.toList i with
    | some c => some (.str ⟨#[c]⟩, S)
    | none => none else none
  | .tup ds, .int i, S => match atI ds i with
    | some d => some (d, S)
    | none => none
  | .loc n, .int i, S => match seqD S (.loc n) with
    | some ds => match atI ds i with
      | some d => some (d, S)
      | none => none
    | none => none
  | _, _, _ => none
section
variable {X : Cx} {G : Ctx}
theorem DVs.atI {K r H} {ds : List D} {vs : List V} {i : Int} {d : D} (h : DVs K r H ds vs) (e : atI ds i = some d) : ∃ v, L2.atI vs i = some v ∧ DV K r H d v := by
  unfold L2.atI at e ⊢
  rw [h.length]
  cases q : ixN ds.length i with
  | none => rw [q] at e; cases e
  | some j =>
    rw [q] at e
    exact h.get (i := j) e
theorem prim_ix : Prim2 G (rIx G.K) ixP := by
  intro r S H x y v w d S' Q R hv hw h k
  unfold ixP at h
  split at h
  · split at h
    · rename_i hz
      split at h
      · rename_i c e
        cases h
        rw [dv_str hv, dv_int hw]
        exact .inr (.inr ⟨_, _, c, rfl, rfl, hz, e, k r H _ Ext.refl R mk_str⟩)
      · cases h
    · cases h
  · split at h
    · rename_i e
      cases h
      obtain ⟨a, vs, rfl, h1, h2⟩ := dv_tup hv
      obtain ⟨u, eu, qu⟩ := h2.atI e
      rw [dv_int hw]
      exact .inr (.inl ⟨a, vs, _, u, rfl, rfl, h1, eu, k r H _ Ext.refl R qu⟩)
    · cases h
  · split at h
    · rename_i ds e1
      split at h
      · rename_i e
        cases h
        obtain ⟨a, vs, rfl, h2, h3⟩ := seq_cases R hv e1
        rcases h3 with ⟨z, _⟩ | ⟨n, _, _, hl⟩
        · cases z
        · obtain ⟨u, eu, qu⟩ := h2.atI e
          rw [dv_int hw]
          exact .inl ⟨a, vs, _, u, rfl, rfl, hl, eu, k r H _ Ext.refl R qu⟩
      · cases h
    · cases h
  · cases h
end
def lenP : List D → Sto → Option (D × Sto)
  | [.str x], S => if x.length ≤ sizeLine then some (.int x.length, S) else none
  | [.tup ds], S => some (.int ds.length, S)
  | [.loc n], S => match seqD S (.loc n) with
    | some ds => some (.int ds.length, S)
    | none => none
  | [.scr ns], S => some (.int ns.length, S)
  | _, _ => none
def absP : List D → Sto → Option (D × Sto)
  | [.int i], S => some (.int (if i < 0 then -i else i), S)
  | _, _ => none
def toIntP : List D → Sto → Option (D × Sto)
  | [.int i], S => some (.int i, S)
  | [.bl b], S => some (.int (if b then 1 else 0), S)
  | _, _ => none
def min2P : List D → Sto → Option (D × Sto)
  | [.int i, .int j], S => some (.int (if j < i then j else i), S)
  | _, _ => none
def max2P : List D → Sto → Option (D × Sto)
  | [.int i, .int j], S => some (.int (if j > i then j else i), S)
  | _, _ => none
def listP : List D → Sto → Option (D × Sto)
  | [d], S => match seqD S d with
    | some ds => some (.loc S.length, S ++ [.lst ds])
    | none => none
  | _, _ => none
def tupleP : List D → Sto → Option (D × Sto)
  | [.tup ds], S => some (.tup ds, S)
  | [.loc n], S => match seqD S (.loc n) with
    | some ds => some (.tup ds, S)
    | none => none
  | _, _ => none
def blsOf : List D → Option (List Bool)
  | [] => some []
  | .bl b :: ds => (blsOf ds).map (b :: ·)
  | _ :: _ => none
def intsOf : List D → Option (List Int)
  | [] => some []
  | .int b :: ds => (intsOf ds).map (b :: ·)
  | _ :: _ => none
def anyP : List D → Sto → Option (D × Sto)
  | [.loc n], S => match seqD S (.loc n) with
    | some ds => match blsOf ds with
      | some bs => some (.bl (bs.any id), S)
      | none => none
    | none => none
  | _, _ => none
def allP : List D → Sto → Option (D × Sto)
  | [.loc n], S => match seqD S (.loc n) with
    | some ds => match blsOf ds with
      | some bs => some (.bl (bs.all id), S)
      | none => none
    | none => none
  | _, _ => none
def sumP : List D → Sto → Option (D × Sto)
  | [.loc n], S => match seqD S (.loc n) with
    | some ds => match intsOf ds with
      | some bs => some (.int bs.sum, S)
      | none => none
    | none => none
  | _, _ => none
def tyN (S : Sto) : D → Option String
  | .non => some "NoneType"
  | .bl _ => some "bool"
  | .int _ => some "int"
  | .str _ => some "str"
  | .tup _ => some "tuple"
  | .loc n => match S[n]? with
    | some (.lst _) => some "list"
    | _ => none
  | .scr _ => none
  | .fn _ => none
  | .clo _ _ => none
def isiP (T : String) (x : D) (S : Sto) : Option (D × Sto) := match tyN S x with
  | some t => match kitB t T with
    | some b => some (.bl b, S)
    | none => none
  | none => none
section
variable {X : Cx} {ca : CAx} {G : Ctx}
theorem bls_of {K r H} : ∀ {ds : List D} {vs : List V} {bs : List Bool}, DVs K r H ds vs → blsOf ds = some bs → vs = bs.map V.bl
  | [], _, _, h, e => by unfold DVs at h; subst h; cases e; rfl
  | d :: ds, _, bs, h, e => by
    unfold DVs at h
    obtain ⟨v, us, rfl, h1, h2⟩ := h
    cases d with
    | bl b =>
      simp only [blsOf] at e
      cases q : blsOf ds with
      | none => rw [q] at e; cases e
      | some cs =>
        rw [q] at e
        cases e
        rw [bls_of h2 q, dv_bl h1]
        rfl
    | non => cases e
    | int _ => cases e
    | str _ => cases e
    | tup _ => cases e
    | loc _ => cases e
    | scr _ => cases e
    | fn _ => cases e
    | clo _ _ => cases e
theorem ints_of {K r H} : ∀ {ds : List D} {vs : List V} {bs : List Int}, DVs K r H ds vs → intsOf ds = some bs → vs = bs.map V.int
  | [], _, _, h, e => by unfold DVs at h; subst h; cases e; rfl
  | d :: ds, _, bs, h, e => by
    unfold DVs at h
    obtain ⟨v, us, rfl, h1, h2⟩ := h
    cases d with
    | int b =>
      simp only [intsOf] at e
      cases q : intsOf ds with
      | none => rw [q] at e; cases e
      | some cs =>
        rw [q] at e
        cases e
        rw [ints_of h2 q, dv_int h1]
        rfl
    | non => cases e
    | bl _ => cases e
    | str _ => cases e
    | tup _ => cases e
    | loc _ => cases e
    | scr _ => cases e
    | fn _ => cases e
    | clo _ _ => cases e
theorem loc_list {r : List Addr} {S : Sto} {H : Hp} {n : Nat} {v : V} {ds : List D} (R : RepS G r S H) (q : DV G.K r H (.loc n) v) (h : seqD S (.loc n) = some ds) : ∃ a vs, v = .ref a ∧ DVs G.K r H ds vs ∧ SqL G.K H a vs := by
  obtain ⟨a, vs, e, h2, h3⟩ := seq_cases R q h
  rcases h3 with ⟨z, _⟩ | ⟨n, _, _, hl⟩
  · cases z
  · exact ⟨a, vs, e, h2, hl⟩
theorem prim_len : PrimL G (fun xs H Q => ∃ x n, xs = [x] ∧ LenV G.K x H n ∧ Q (.int n) H) lenP := by
  intro r S H xs vs d S' Q R hv h k
  unfold lenP at h
  split at h
  · split at h
    · rename_i hz
      cases h
      obtain ⟨v, rfl, q⟩ := hv.one
      rw [dv_str q]
      exact ⟨_, _, rfl, ⟨hz, rfl⟩, k r H _ Ext.refl R mk_int⟩
    · cases h
  · cases h
    obtain ⟨v, rfl, q⟩ := hv.one
    obtain ⟨a, vs, rfl, h1, h2⟩ := dv_tup q
    exact ⟨_, _, rfl, .inr ⟨vs, h1, h2.length.symm⟩, k r H _ Ext.refl R mk_int⟩
  · split at h
    · rename_i ds e
      cases h
      obtain ⟨v, rfl, q⟩ := hv.one
      obtain ⟨a, vs, rfl, h2, hl⟩ := loc_list R q e
      exact ⟨_, _, rfl, .inl ⟨vs, hl, h2.length.symm⟩, k r H _ Ext.refl R mk_int⟩
    · cases h
  · cases h
    obtain ⟨v, rfl, q⟩ := hv.one
    unfold DV at q
    obtain ⟨a, rfl, q⟩ := q
    exact ⟨_, _, rfl, .inl ⟨_, q.sq, by simp⟩, k r H _ Ext.refl R mk_int⟩
  · cases h
theorem DVs.two {K r H} {d e : D} {vs : List V} (h : DVs K r H [d, e] vs) : ∃ v w, vs = [v, w] ∧ DV K r H d v ∧ DV K r H e w := by
  unfold DVs at h
  obtain ⟨v, us, rfl, h1, h2⟩ := h
  obtain ⟨w, rfl, h3⟩ := h2.one
  exact ⟨v, w, rfl, h1, h3⟩
theorem prim_abs : PrimL G (fun xs H Q => ∃ i, xs = [.int i] ∧ Q (.int (if i < 0 then -i else i)) H) absP := by
  intro r S H xs vs d S' Q R hv h k
  unfold absP at h
  split at h
  · cases h
    obtain ⟨v, rfl, q⟩ := hv.one
    rw [dv_int q]
    exact ⟨_, rfl, k r H _ Ext.refl R mk_int⟩
  · cases h
theorem prim_toInt : PrimL G (fun xs H Q => (∃ i, xs = [.int i] ∧ Q (.int i) H) ∨ ∃ k, xs = [.bl k] ∧ Q (.int (if k then 1 else 0)) H) toIntP := by
  intro r S H xs vs d S' Q R hv h k
  unfold toIntP at h
  split at h
  · cases h
    obtain ⟨v, rfl, q⟩ := hv.one
    rw [dv_int q]
    exact .inl ⟨_, rfl, k r H _ Ext.refl R mk_int⟩
  · cases h
    obtain ⟨v, rfl, q⟩ := hv.one
    rw [dv_bl q]
    exact .inr ⟨_, rfl, k r H _ Ext.refl R mk_int⟩
  · cases h
theorem prim_list : PrimL G (fun xs H Q => ∃ p ys, xs = [.ref p] ∧ (SqL G.K H p ys ∨ SqT G.K H p ys) ∧ ∀ l, H l = none → Q (.ref l) (upd H l (.lst ys))) listP := by
  intro r S H xs vs d S' Q R hv h k
  unfold listP at h
  split at h
  · split at h
    · rename_i ds e
      cases h
      obtain ⟨v, rfl, q⟩ := hv.one
      obtain ⟨a, vs, rfl, h2, h3⟩ := seq_cases R q e
      refine ⟨a, vs, rfl, ?_, fun p hp => ?_⟩
      · rcases h3 with ⟨_, z⟩ | ⟨n, _, _, hl⟩
        · exact .inr z
        · exact .inl hl
      · obtain ⟨x, R'⟩ := R.lst hp h2
        exact k _ _ _ x R' R.newLoc
    · cases h
  · cases h
def rTupN (K : PySem.W.Frag) : List V → Hp → VK → Prop := fun xs H Q => ∃ p ys, xs = [.ref p] ∧ ((SqL K H p ys ∧ ∀ l od, od.dict = none → H l = none → Q (.ref l) (upd H l (.frz od (.tup ys)))) ∨ (SqT K H p ys ∧ Q (.ref p) H))
theorem cr_tupN : CallR X (.type "tuple") (rTupN X.K) := by
  intro pins s σ H xs us Q I r h
  obtain ⟨p, ys, rfl, h⟩ := h
  rcases h with ⟨hq, q⟩ | ⟨hT, q⟩
  · obtain ⟨u, rfl, rx⟩ := vals1 r
    cases rx
    obtain ⟨its, r', pl, hz⟩ := I.list hq
    have hlen := r'.length
    refine call_tuple_list pl.isList (fun h' kp => ?_) (by simp only [List.size_toArray] <;> omega)
    have I1 : Inv X pins σ H { s with heap := h' } := I.kept (t' := s.toks) kp
    exact tup_new I1 r' hz q
  · exact call_tupleT pins s σ H _ us Q I r ⟨p, ys, rfl, hT, q⟩
theorem prim_tuple : PrimL G (rTupN G.K) tupleP := by
  intro r S H xs vs d S' Q R hv h k
  unfold tupleP at h
  split at h
  · cases h
    obtain ⟨v, rfl, q⟩ := hv.one
    obtain ⟨a, vs, rfl, h1, h2⟩ := dv_tup q
    exact ⟨a, vs, rfl, .inr ⟨h1, k r H _ Ext.refl R q⟩⟩
  · split at h
    · rename_i ds e
      cases h
      obtain ⟨v, rfl, q⟩ := hv.one
      obtain ⟨a, vs, rfl, h2, hl⟩ := loc_list R q e
      refine ⟨a, vs, rfl, .inl ⟨hl, fun p od ho hp => ?_⟩⟩
      obtain ⟨x, R'⟩ := R.tup (vs := vs) (od := od) hp
      exact k r _ _ x R' (DV.tup_mk (TpN.of ho) (DVs.ext x _ _ h2))
    · cases h
  · cases h
theorem prim_any : PrimL G (rAny G.K) anyP := by
  intro r S H xs vs d S' Q R hv h k
  unfold anyP at h
  split at h
  · split at h
    · rename_i ds e
      split at h
      · rename_i bs eb
        cases h
        obtain ⟨v, rfl, q⟩ := hv.one
        obtain ⟨a, vs, rfl, h2, hl⟩ := loc_list R q e
        rw [bls_of h2 eb] at hl
        exact ⟨a, bs, rfl, hl, k r H _ Ext.refl R mk_bl⟩
      · cases h
    · cases h
  · cases h
theorem prim_all : PrimL G (rAll G.K) allP := by
  intro r S H xs vs d S' Q R hv h k
  unfold allP at h
  split at h
  · split at h
    · rename_i ds e
      split at h
      · rename_i bs eb
        cases h
        obtain ⟨v, rfl, q⟩ := hv.one
        obtain ⟨a, vs, rfl, h2, hl⟩ := loc_list R q e
        rw [bls_of h2 eb] at hl
        exact ⟨a, bs, rfl, hl, k r H _ Ext.refl R mk_bl⟩
      · cases h
    · cases h
  · cases h
theorem prim_sum : PrimL G (rSum G.K) sumP := by
  intro r S H xs vs d S' Q R hv h k
  unfold sumP at h
  split at h
  · split at h
    · rename_i ds e
      split at h
      · rename_i bs eb
        cases h
        obtain ⟨v, rfl, q⟩ := hv.one
        obtain ⟨a, vs, rfl, h2, hl⟩ := loc_list R q e
        rw [ints_of h2 eb] at hl
        exact ⟨a, bs, rfl, hl, k r H _ Ext.refl R mk_int⟩
      · cases h
    · cases h
  · cases h
theorem ty_of {r : List Addr} {S : Sto} {H : Hp} {d : D} {v : V} {t : String} (R : RepS G r S H) (q : DV G.K r H d v) (h : tyN S d = some t) : TyX G.K H v (.type t) := by
  cases d with
  | non => unfold DV at q; subst q; cases h; exact .base .non
  | bl b => rw [dv_bl q]; cases h; exact .base (.bl b)
  | int b => rw [dv_int q]; cases h; exact .base (.int b)
  | str b => rw [dv_str q]; cases h; exact .base (.str b)
  | tup ds =>
    obtain ⟨a, vs, rfl, h1, h2⟩ := dv_tup q
    cases h
    rcases h1 with (h1 | ⟨o, h1⟩) | ⟨o, its, n, h1, h3, _⟩
    · exact .base (.tup h1)
    · exact .fTuple h1
    · exact .kTuple h1 h3
  | loc n =>
    obtain ⟨a, e, rfl⟩ := dv_loc q
    simp only [tyN] at h
    split at h
    · rename_i e1
      cases h
      obtain ⟨vs, h1, _⟩ := R.at_ _ _ _ e1 e
      exact .base (.lst h1)
    · cases h
  | scr n => cases h
  | fn n => cases h
  | clo n _ => cases h
theorem de_isi {T : Str} {Ts : String} {e : Expr} {ma : EM} {p p2 pos : Pos} (he : PE X e (liftE (gx X ca) ma)) (hm : X.mg "isinstance" = none) (hm2 : X.mg T = none) (hv : bootBuiltins T = some (.type Ts)) (hg : Gl X "isinstance" := by rfl) (hg2 : Gl X T := by rfl) (hn : T ≠ "__name__" := by decide) (hdb : (T == ("__debug__" : Str)) = false := by decide)
    (hs1 : starEach [e, .Name T p2] X.env = (false, eval e X.env) :: starEach [.Name T p2] X.env := by rfl) (hs2 : starEach [.Name T p2] X.env = (false, eval (.Name T p2) X.env) :: starEach [] X.env := by rfl) (hpl : (backTo pos (starEach [.Name T p2] X.env)).any (·.1) = false := by rfl) :
    PE X (.Call (.Name "isinstance" p) [e, .Name T p2] [] pos) (liftE (gx X ca) (m1 (isiP Ts) ma)) :=
  wkE (pe_callB call_isi hg hm boot_isinstance (pa_cons he (pa_cons (pe_bltn hg2 hm2 hv (v := .ty Ts) rfl hn hdb) pa_nil hs2) hs1) (by decide) (by decide) hs1 hpl) fun σ H Q h =>
    lift1 (t := fun x H1 Q => ∃ (y c : V) (t u : Value) (b : Bool), [x, V.ty Ts] = [y, c] ∧ ClsV c u ∧ TyX X.K H1 y t ∧ PySem.W.kitOne X.K t u = some b ∧ Q (.bl b) H1) (fun r S H x v d S' Q R hv e k => by
      unfold isiP at e
      split at e
      · rename_i t e1
        split at e
        · rename_i b e2
          cases e
          exact ⟨v, .ty Ts, .type t, .type Ts, b, rfl, .ty Ts, ty_of R hv e1, kit_ty e2, k r H _ Ext.refl R mk_bl⟩
        · cases e
      · cases e) h
end
abbrev OM := Vars → Sto → Option (Option Int × Sto)
def oNone : OM := fun _ S => some (none, S)
def oSome (m : EM) : OM := fun env S => match m env S with
  | some (.int i, S1) => some (some i, S1)
  | _ => none
def liftO (G : Ctx) (m : OM) : TO := fun σ H Q => ∃ r env S o S', RepS G r S H ∧ VarsV G.K r H env σ ∧ m env S = some (o, S') ∧ ∀ r' H', Ext G.K r H r' H' → RepS G r' S' H' → Q o H'
def mSl (p : D → Option Int → Option Int → Sto → Option (D × Sto)) (a : EM) (l u : OM) : EM := fun env S => match a env S with
  | some (x, S1) => match l env S1 with
    | some (i, S2) => match u env S2 with
      | some (j, S3) => p x i j S3
      | none => none
    | none => none
  | none => none
def cutD (ds : List D) (lo hi : Option Int) : List D := (ds.drop (HT.sIx ds.length 0 lo)).take (HT.sIx ds.length ds.length hi - HT.sIx ds.length 0 lo)
def slP : D → Option Int → Option Int → Sto → Option (D × Sto)
  | .str x, i, j, S => if x.length ≤ sizeLine then some (.str (cutS x i j), S) else none
  | .tup ds, i, j, S => some (.tup (cutD ds i j), S)
  | .loc n, i, j, S => match seqD S (.loc n) with
    | some ds => some (.loc S.length, S ++ [.lst (cutD ds i j)])
    | none => none
  | _, _, _, _ => none
section
variable {X : Cx} {ca : CAx} {G : Ctx} {e : Expr} {ma : EM}
theorem wkO {e : Option Expr} {t t' : TO} (h : PO X e t) (w : ∀ σ H Q, t' σ H Q → t σ H Q) : PO X e t' := ⟨fun pins s σ H Q I q => h.run pins s σ H Q I (w σ H Q q)⟩
theorem do_none : PO X none (liftO (gx X ca) oNone) := wkO po_none fun σ H Q ⟨r, env, S, o, S', R, W, h, k⟩ => by
  unfold oNone at h
  cases h
  exact k r H Ext.refl R
theorem do_some (h : PE X e (liftE (gx X ca) ma)) : PO X (some e) (liftO (gx X ca) (oSome ma)) := wkO (po_some h) fun σ H Q ⟨r, env, S, o, S', R, W, h, k⟩ => by
  unfold oSome at h
  split at h
  · rename_i i S1 e1
    cases h
    refine ⟨r, env, S, _, _, R, W, e1, fun r1 H1 v x1 R1 q1 => ?_⟩
    exact ⟨i, dv_int q1, k r1 H1 x1 R1⟩
  · cases h
def rSlN (K : PySem.W.Frag) : V → Option Int → Option Int → Hp → VK → Prop := fun x lo hi H Q => ∃ a us, x = .ref a ∧ SqT K H a us ∧
  ((HT.sIx us.length 0 lo = 0 ∧ HT.sIx us.length us.length hi = us.length) → Q (.ref a) H) ∧ (¬ (HT.sIx us.length 0 lo = 0 ∧ HT.sIx us.length us.length hi = us.length) → ∀ p od, od.dict = none → H p = none → Q (.ref p) (upd H p (.frz od (.tup (cutV us lo hi)))))
theorem sl_tupN : SlR X (rSlN X.K) := by
  intro pins s σ H x v vl vu lo hi sl Q I rx hs pl pu h
  obtain ⟨a, us, rfl, hT, whole, part⟩ := h
  cases rx
  obtain ⟨is, ri, isT, fit⟩ := I.tuple hT
  have same : is.toArray.size = us.length := by rw [List.size_toArray]; exact ri.length.symm
  by_cases all : HT.sIx us.length 0 lo = 0 ∧ HT.sIx us.length us.length hi = us.length
  · exact ⟨"tuple", _, PyProof.Rows.slot_tuple_getitem.lookup, isT.typeIs, getItem_tuple_whole isT hs pl pu (by rw [same]; exact all) ⟨.ref a, H, I, rfl, whole all⟩⟩
  · refine ⟨"tuple", _, PyProof.Rows.slot_tuple_getitem.lookup, isT.typeIs, HT.getItem_tuple_cut isT hs pl pu (by rw [same]; exact all) ?_ (by rw [same]; exact fit)⟩
    rw [same]
    exact tup_new I ((ri.drop (HT.sIx us.length 0 lo)).take (HT.sIx us.length us.length hi - HT.sIx us.length 0 lo)) (Nat.le_trans (cutV_length us lo hi) fit) fun p od ho hp => part all p od ho hp
def rSlAll (K : PySem.W.Frag) : V → Option Int → Option Int → Hp → VK → Prop := fun x lo hi H Q => rSlS x lo hi H Q ∨ rSlN K x lo hi H Q ∨ rSlL K x lo hi H Q
theorem sl_all : SlR X (rSlAll X.K) := sl_str.or (sl_tupN.or sl_list)
theorem cutV_ok {K r H} {ds : List D} {vs : List V} {i j : Option Int} (h : DVs K r H ds vs) : DVs K r H (cutD ds i j) (cutV vs i j) := by
  unfold cutD cutV
  rw [h.length]
  exact (h.drop _).take _
theorem prim_sl {r : List Addr} {S : Sto} {H : Hp} {x d : D} {v : V} {i j : Option Int} {S' : Sto} {Q : VK} (R : RepS G r S H) (hv : DV G.K r H x v) (h : slP x i j S = some (d, S'))
    (k : ∀ r' H' u, Ext G.K r H r' H' → RepS G r' S' H' → DV G.K r' H' d u → Q u H') : rSlAll G.K v i j H Q := by
  unfold slP at h
  split at h
  · split at h
    · rename_i hz
      cases h
      rw [dv_str hv]
      exact .inl ⟨_, rfl, hz, k r H _ Ext.refl R mk_str⟩
    · cases h
  · rename_i ds
    cases h
    obtain ⟨a, vs, rfl, h1, h2⟩ := dv_tup hv
    refine .inr (.inl ⟨a, vs, rfl, h1, fun hw => ?_, fun hw p od ho hp => ?_⟩)
    · have e : cutD ds i j = ds := by
        unfold cutD
        rw [h2.length] at hw
        rw [hw.1, hw.2]
        simp
      rw [e] at k
      exact k r H _ Ext.refl R hv
    · obtain ⟨x, R'⟩ := R.tup (vs := cutV vs i j) (od := od) hp
      exact k r _ _ x R' (DV.tup_mk (TpN.of ho) (DVs.ext x _ _ (cutV_ok h2)))
  · split at h
    · rename_i ds e
      cases h
      obtain ⟨a, vs, rfl, h2, hl⟩ := loc_list R hv e
      refine .inr (.inr ⟨a, vs, rfl, hl, fun p hp => ?_⟩)
      obtain ⟨x, R'⟩ := R.lst hp (cutV_ok (i := i) (j := j) h2)
      exact k _ _ _ x R' R.newLoc
    · cases h
  · cases h
theorem de_slice {lo hi : Option Expr} {l u : OM} {pos p2 : Pos} (he : PE X e (liftE (gx X ca) ma)) (hl : PO X lo (liftO (gx X ca) l)) (hu : PO X hi (liftO (gx X ca) u)) : PE X (.Subscript e (.Slice lo hi none p2) pos) (liftE (gx X ca) (mSl slP ma l u)) :=
  wkE (pe_slice sl_all he hl hu) fun σ H Q ⟨r, env, S, d, S', R, W, h, k⟩ => by
    unfold mSl at h
    split at h
    · rename_i x S1 e1
      refine ⟨r, env, S, x, S1, R, W, e1, fun r1 H1 v x1 R1 q1 => ?_⟩
      split at h
      · rename_i i S2 e2
        refine ⟨r1, env, S1, i, S2, R1, W.ext x1, e2, fun r2 H2 x2 R2 => ?_⟩
        split at h
        · rename_i j S3 e3
          refine ⟨r2, env, S2, j, S3, R2, W.ext (x1.trans x2), e3, fun r3 H3 x3 R3 => ?_⟩
          exact prim_sl R3 (DV.ext (x2.trans x3) _ _ q1) h fun r4 H4 u x4 R4 q4 => k r4 H4 u (x1.trans (x2.trans (x3.trans x4))) R4 q4
        · cases h
      · cases h
    · cases h
end
def tyD : String → Sto → D → Bool
  | "list", S, .loc n => (seqD S (.loc n)).isSome
  | "str", _, .str _ => true
  | _, _, _ => false
def mM0 (T : String) (p : D → List D → Sto → Option (D × Sto)) (a : EM) : EM := fun env S => match a env S with
  | some (x, S1) => if tyD T S1 x = true then p x [] S1 else none
  | none => none
def mM (T : String) (p : D → List D → Sto → Option (D × Sto)) (a : EM) (l : LM) : EM := fun env S => match a env S with
  | some (x, S1) => if tyD T S1 x = true then (match l env S1 with
    | some (xs, S2) => p x xs S2
    | none => none) else none
  | none => none
def PrimM (G : Ctx) (t : V → List V → Hp → VK → Prop) (p : D → List D → Sto → Option (D × Sto)) : Prop :=
  ∀ (r : List Addr) (S : Sto) (H : Hp) (x : D) (xs : List D) (v : V) (vs : List V) (d : D) (S' : Sto) (Q : VK), RepS G r S H → DV G.K r H x v → DVs G.K r H xs vs → p x xs S = some (d, S') →
    (∀ r' H' u, Ext G.K r H r' H' → RepS G r' S' H' → DV G.K r' H' d u → Q u H') → t v vs H Q
section
variable {X : Cx} {ca : CAx} {G : Ctx} {o e : Expr} {es : List Expr} {ma : EM} {la : LM} {name : Str} {apos cpos : Pos} {T id : String} {t : V → List V → Hp → VK → Prop} {q : D → List D → Sto → Option (D × Sto)}
theorem tyV_of {r : List Addr} {S : Sto} {H : Hp} {x : D} {v : V} (R : RepS G r S H) (hv : DV G.K r H x v) (h : tyD T S x = true) : tyV G.K T v H := by
  unfold tyD at h
  split at h
  · cases e : seqD _ (D.loc _) with
    | none => rw [e] at h; cases h
    | some ds =>
      obtain ⟨a, vs, rfl, h2, hl⟩ := loc_list R hv e
      exact .inl ⟨rfl, vs, hl⟩
  · rw [dv_str hv]; rfl
  · cases h
theorem de_bm0 (hp : PrimM (gx X ca) t q) (pa : PlainAttrs T) (slot : Slot T name id) (hty : typeOf (.builtin id) = pure (.type "method_descriptor")) (hm : MtR X id t) (ho : PE X o (liftE (gx X ca) ma))
    (hbase : attributeBase o name X.env (eval o X.env) = eval o X.env := by rfl) (hline : (apos.endLine == cpos.line) = true := by rfl) : PE X (.Call (.Attribute o name apos) [] [] cpos) (liftE (gx X ca) (mM0 T q ma)) :=
  wkE (pe_bm0 pa slot hty hm ho hbase hline) fun σ H Q ⟨r, env, S, d, S', R, W, h, k⟩ => by
    unfold mM0 at h
    split at h
    · rename_i x S1 e1
      split at h
      · rename_i ht
        exact ⟨r, env, S, x, S1, R, W, e1, fun r1 H1 v x1 R1 q1 => ⟨tyV_of R1 q1 ht, hp r1 S1 H1 x [] v [] d S' Q R1 q1 DVs.nil h fun r2 H2 u x2 R2 q2 => k r2 H2 u (x1.trans x2) R2 q2⟩⟩
      · cases h
    · cases h
theorem de_bm (hp : PrimM (gx X ca) t q) (pa : PlainAttrs T) (slot : Slot T name id) (hty : typeOf (.builtin id) = pure (.type "method_descriptor")) (hm : MtR X id t) (ho : PE X o (liftE (gx X ca) ma)) (ha : PA X (e :: es) (liftL (gx X ca) la))
    (hbase : attributeBase o name X.env (eval o X.env) = eval o X.env := by rfl)
    (hfew : ((backTo cpos (starEach (e :: es) X.env)).all (fun x => !x.1) && (backToKw cpos (keywordEach [] X.env)).all (fun x => x.1.isSome)
      && decide ((e :: es).length + ([] : List Keyword).length + (if ([] : List Keyword).isEmpty then 0 else 1) < 30)) = true := by rfl)
    (hline : (apos.endLine == cpos.line) = true := by rfl) (hs : starEach (e :: es) X.env = (false, eval e X.env) :: starEach es X.env := by rfl) (hplain : (backTo cpos (starEach es X.env)).any (·.1) = false := by rfl) :
    PE X (.Call (.Attribute o name apos) (e :: es) [] cpos) (liftE (gx X ca) (mM T q ma la)) :=
  wkE (pe_bm pa slot hty hm ho ha hbase hfew hline hs hplain) fun σ H Q ⟨r, env, S, d, S', R, W, h, k⟩ => by
    unfold mM at h
    split at h
    · rename_i x S1 e1
      split at h
      · rename_i ht
        split at h
        · rename_i xs S2 e2
          exact ⟨r, env, S, x, S1, R, W, e1, fun r1 H1 v x1 R1 q1 => ⟨tyV_of R1 q1 ht, r1, env, S1, xs, S2, R1, W.ext x1, e2, fun r2 H2 vs x2 R2 q2 => hp r2 S2 H2 x xs v vs d S' Q R2 (DV.ext x2 _ _ q1) q2 h fun r3 H3 u x3 R3 q3 => k r3 H3 u (x1.trans (x2.trans x3)) R3 q3⟩⟩
        · cases h
      · cases h
    · cases h
def appP : D → List D → Sto → Option (D × Sto)
  | .loc n, [d], S => match S[n]? with
    | some (.lst ds) => if ds.length < sizeLine then some (.non, S.set n (.lst (ds ++ [d]))) else none
    | _ => none
  | _, _, _ => none
def extP : D → List D → Sto → Option (D × Sto)
  | .loc n, [.loc m], S => match S[n]?, S[m]? with
    | some (.lst ds), some (.lst es) => if ds.length + es.length ≤ sizeLine then some (.non, S.set n (.lst (ds ++ es))) else none
    | _, _ => none
  | _, _, _ => none
def popP : D → List D → Sto → Option (D × Sto)
  | .loc n, [], S => match S[n]? with
    | some (.lst ds) => match ds[ds.length - 1]? with
      | some d => some (d, S.set n (.lst ds.dropLast))
      | none => none
    | _ => none
  | _, _, _ => none
theorem prim_app : PrimM G rAppend appP := by
  intro r S H x xs v vs d S' Q R hv hvs h k
  unfold appP at h
  split at h
  · split at h
    · rename_i n d0 S ds e
      split at h
      · rename_i hz
        cases h
        obtain ⟨a, ea, rfl⟩ := dv_loc hv
        obtain ⟨ws, h1, q1⟩ := R.lstAt e ea
        obtain ⟨y, rfl, qy⟩ := hvs.one
        obtain ⟨x, R'⟩ := R.wr (o' := .lst (ds ++ [d0])) (u := .lst (ws ++ [y])) e ea fun x => ⟨_, upd_same, (DVs.ext x _ _ q1).append (DVs.cons (DV.ext x _ _ qy) DVs.nil)⟩
        exact ⟨a, ws, y, rfl, rfl, h1, by rw [q1.length]; exact hz, k r _ _ x R' mk_non⟩
      · cases h
    · cases h
  · cases h
theorem prim_ext : PrimM G rExtend extP := by
  intro r S H x xs v vs d S' Q R hv hvs h k
  unfold extP at h
  split at h
  · split at h
    · rename_i n m S ds es e1 e2
      split at h
      · rename_i hz
        cases h
        obtain ⟨a, ea, rfl⟩ := dv_loc hv
        obtain ⟨ws, h1, q1⟩ := R.lstAt e1 ea
        obtain ⟨y, rfl, qy⟩ := hvs.one
        obtain ⟨b, eb, rfl⟩ := dv_loc qy
        obtain ⟨us, h2, q2⟩ := R.lstAt e2 eb
        obtain ⟨x, R'⟩ := R.wr (o' := .lst (ds ++ es)) (u := .lst (ws ++ us)) e1 ea fun x => ⟨_, upd_same, (DVs.ext x _ _ q1).append (DVs.ext x _ _ q2)⟩
        exact ⟨a, b, ws, us, rfl, rfl, h1, h2, by rw [q1.length, q2.length]; exact hz, k r _ _ x R' mk_non⟩
      · cases h
    · cases h
  · cases h
theorem prim_pop : PrimM G rPop popP := by
  intro r S H x xs v vs d S' Q R hv hvs h k
  unfold popP at h
  split at h
  · split at h
    · rename_i n S ds e
      split at h
      · rename_i d0 ed
        cases h
        obtain ⟨a, ea, rfl⟩ := dv_loc hv
        obtain ⟨ws, h1, q1⟩ := R.lstAt e ea
        unfold DVs at hvs
        subst hvs
        obtain ⟨y, ey, qy⟩ := q1.get ed
        obtain ⟨x, R'⟩ := R.wr (o' := .lst ds.dropLast) (u := .lst ws.dropLast) e ea fun x => ⟨_, upd_same, DVs.ext x _ _ q1.dropLast⟩
        exact ⟨a, ws, y, rfl, rfl, h1, by rw [q1.length]; exact ey, k r _ _ x R' (DV.ext x _ _ qy)⟩
      · cases h
    · cases h
  · cases h
end
end DL
namespace DL
open PySem PySem.Spec L2
open PyProof.Rows hiding St
structure KV8 (h : Heap) (k : NestedKey) (v : Value) : Prop where
  is : NestedIs h k v
  dp : k.depth ≤ 8
abbrev KsOf (w : World) (h : Heap) : List NestedKey → List DictEntry → Prop := Paired fun k x => x.hash = k.hash w ∧ KV8 h k x.key
section
variable {w : World} {h : Heap}
theorem KsOf.get : ∀ {ks : List NestedKey} {es : List DictEntry}, KsOf w h ks es → ∀ {i : Nat} {x : DictEntry}, es[i]? = some x → ∃ k, ks[i]? = some k ∧ x.hash = k.hash w ∧ KV8 h k x.key
  | _, _, .nil, i, x, e => by simp at e
  | _, _, .cons p t, i, x, e => by
    cases i with
    | zero => simp at e; subst e; exact ⟨_, rfl, p⟩
    | succ i => simpa using KsOf.get t (i := i) (by simpa using e)
theorem KsOf.getK : ∀ {ks : List NestedKey} {es : List DictEntry}, KsOf w h ks es → ∀ {i : Nat} {k : NestedKey}, ks[i]? = some k → ∃ x, es[i]? = some x ∧ x.hash = k.hash w ∧ KV8 h k x.key
  | _, _, .nil, i, x, e => by simp at e
  | _, _, .cons p t, i, x, e => by
    cases i with
    | zero => simp at e; subst e; exact ⟨_, rfl, p⟩
    | succ i => simpa using KsOf.getK t (i := i) (by simpa using e)
def kIx (ks : List NestedKey) (k : NestedKey) : Option Nat := ks.findIdx? fun x => decide (x = k)
theorem kIx_some {ks : List NestedKey} {k : NestedKey} {i : Nat} (nd : ks.Nodup) (e : ks[i]? = some k) : kIx ks k = some i := by
  unfold kIx
  rw [List.findIdx?_eq_some_iff_getElem]
  obtain ⟨hi, he⟩ := List.getElem?_eq_some_iff.mp e
  refine ⟨hi, by simp [he], fun j hj => ?_⟩
  simp only [decide_eq_true_eq]
  intro q
  have : j = i := (List.getElem_inj nd).mp (q.trans he.symm)
  omega
theorem kIx_none {ks : List NestedKey} {k : NestedKey} (h : k ∉ ks) : kIx ks k = none := by
  unfold kIx
  rw [List.findIdx?_eq_none_iff]
  intro x hx
  simp only [decide_eq_false_iff_not]
  rintro rfl
  exact h hx
theorem mem_of_kIx {ks : List NestedKey} {k : NestedKey} (h : kIx ks k = none) : k ∉ ks := by
  unfold kIx at h
  rw [List.findIdx?_eq_none_iff] at h
  intro hk
  simpa using h k hk
theorem get_of_kIx {ks : List NestedKey} {k : NestedKey} {i : Nat} (h : kIx ks k = some i) : ks[i]? = some k := by
  unfold kIx at h
  rw [List.findIdx?_eq_some_iff_getElem] at h
  obtain ⟨hi, he, _⟩ := h
  rw [List.getElem?_eq_getElem hi]
  simpa using he
theorem is_str {k : NestedKey} {v : Value} {x : Str} (q : NestedIs h k v) : v.isStr x = decide (k = .text x) := by
  cases q with
  | none => rfl
  | bool e => rfl
  | int i t => rfl
  | text y t =>
    show (y == x) = _
    by_cases e : y = x
    · subst e; simp
    · rw [decide_eq_false (fun z => e (by cases z; rfl))]
      exact beq_eq_false_iff_ne.mpr e
  | tup _ _ _ _ => rfl
end
section
variable {prog : Program} {w : World} {A : Around} {E : Value → Shared → Prop} {s : Shared} {ks : List NestedKey} {k : NestedKey} {v : Value} {d : Addr} {o : Obj} {es : Array DictEntry} {ep : Nat}
theorem eq_keys {a b : NestedKey} {x y : Value} {Q : Bool → Shared → Prop} (hu : A.units + 8 < cLine) (hx : KV8 s.heap a x) (hy : KV8 s.heap b y) (q : Q (decide (a = b)) s) : wpAny (model prog w) A (eqBool x y) Q E s := by
  have l1 := hx.dp
  exact eqAt_key a b A s x y hx.is hy.is (by omega) prog w _ _ (by rw [← NestedKey.decide_eq]; exact q)
theorem hash_key {Q : Int → Shared → Prop} (hu : A.units + 8 < cLine) (hk : KV8 s.heap k v) (q : Q (k.hash w) { s with toks := s.toks + k.draws }) : wpAny (model prog w) A (pyHash v) Q E s := by
  have l1 := hk.dp
  exact pyHash_key k v A s Q hk.is (by omega) q
theorem quiet8 {Q : Bool → Shared → Prop} (hk : KV8 s.heap k v) (q : Q true s) : wpAny (model prog w) A (eqIsQuiet 8 v) Q E s := quiet_key k v 8 s hk.is hk.dp A E Q q
theorem tells_not {st : List Value} {Q : Bool → Shared → Prop} (hk : KV8 s.heap k v) (hs : ∀ u ∈ st, ∃ k', KV8 s.heap k' u) (q : Q false s) : wpAny (model prog w) A (tableMayTell v st) Q E s := by
  unfold tableMayTell
  split
  · exact wpAny_pure q
  · refine wpAny_bind (quiet8 hk ?_)
    simp only [Bool.not_true, Bool.false_eq_true, if_false]
    refine wpAny_bind (wpAny_forIn_list _ (fun todo acc st' => acc = (none, ()) ∧ st' = s ∧ ∀ u ∈ todo, ∃ k', KV8 s.heap k' u) _ ?_ ?_ _ _ ⟨rfl, rfl, hs⟩)
    · rintro u todo acc st' ⟨rfl, rfl, hall⟩
      obtain ⟨k', hk'⟩ := hall u List.mem_cons_self
      refine wpAny_bind (quiet8 hk' ?_)
      simp only [Bool.not_true, Bool.false_eq_true, if_false]
      exact wpAny_pure ⟨rfl, rfl, fun z hz => hall z (List.mem_cons_of_mem _ hz)⟩
    · rintro acc st' ⟨rfl, rfl, _⟩
      exact wpAny_pure q
def plc (w : World) (es : Array DictEntry) (k : NestedKey) : List Nat := placesWithHash es.size (fun i => es[i]?.map (·.hash)) (k.hash w)
theorem plc_mem {i : Nat} (h : i ∈ plc w es k) : ∃ x, es[i]? = some x ∧ x.hash = k.hash w := by
  unfold plc placesWithHash at h
  rw [List.mem_filter] at h
  obtain ⟨h1, h2⟩ := h
  cases e : es[i]? with
  | none => simp [e] at h2
  | some x =>
    simp only [e, Option.map_some] at h2
    exact ⟨x, rfl, by simpa using h2⟩
theorem plc_of {i : Nat} {x : DictEntry} (e : es[i]? = some x) (h : x.hash = k.hash w) : i ∈ plc w es k := by
  unfold plc placesWithHash
  rw [List.mem_filter]
  refine ⟨List.mem_range.mpr ?_, by simp [e, h]⟩
  rw [← Array.getElem?_toList] at e
  have := (List.getElem?_eq_some_iff.mp e).1
  simpa using this
theorem plc_nodup : (plc w es k).Nodup := by
  unfold plc placesWithHash
  exact List.Nodup.sublist List.filter_sublist List.nodup_range
theorem plc_find (h : KsOf w s.heap ks es.toList) (nd : ks.Nodup) : ((plc w es k).find? fun i => decide (ks[i]? = some k)) = kIx ks k := by
  by_cases hm : k ∈ ks
  · obtain ⟨i, e⟩ := List.mem_iff_getElem?.mp hm
    rw [kIx_some nd e]
    obtain ⟨x, ex, hx, _⟩ := h.getK e
    rw [Array.getElem?_toList] at ex
    have hi := plc_of ex hx
    cases q : (plc w es k).find? fun i => decide (ks[i]? = some k) with
    | none =>
      rw [List.find?_eq_none] at q
      exact absurd e (by simpa using q i hi)
    | some j =>
      have hj := List.find?_some q
      simp only [decide_eq_true_eq] at hj
      rw [← kIx_some nd e, ← kIx_some nd hj]
  · rw [kIx_none hm, List.find?_eq_none]
    intro i hi
    simp only [decide_eq_true_eq]
    exact fun e => hm (List.mem_of_getElem? e)
theorem find_key {Q : Option Nat → Shared → Prop} (hu : A.units + 8 < cLine) (hk : KV8 s.heap k v) (ho : s.heap.get? d = some o) (hd : o.data = .dict es ep) (hks : KsOf w s.heap ks es.toList) (nd : ks.Nodup) (q : Q (kIx ks k) s) :
    wpAny (model prog w) A (dictFind d v (k.hash w)) Q E s := by
  rw [← plc_find hks nd] at q
  have at_ : ∀ i ∈ plc w es k, ∃ x k', es[i]? = some x ∧ ks[i]? = some k' ∧ x.hash = k.hash w ∧ KV8 s.heap k' x.key := fun i hi => by
    obtain ⟨x, ex, hx⟩ := plc_mem hi
    obtain ⟨k', e1, _, e3⟩ := hks.get (by rw [Array.getElem?_toList]; exact ex)
    exact ⟨x, k', ex, e1, hx, e3⟩
  -- the walk where all are carried by value
  have plain : wpAny (model prog w) A (dictWalkPlain d v (k.hash w) es (plc w es k)) Q E s := by
    unfold dictWalkPlain
    refine wpAny_bind (wpAny_forIn_list _ (fun todo acc st' => acc = (none, ()) ∧ st' = s ∧ (∀ i ∈ todo, i ∈ plc w es k) ∧ Q (todo.find? fun i => decide (ks[i]? = some k)) s) _ ?_ ?_ _ _ ⟨rfl, rfl, fun _ z => z, q⟩)
    · rintro i todo acc st' ⟨rfl, rfl, hin, hq⟩
      obtain ⟨x, k', ex, ek, hx, hk'⟩ := at_ i (hin i List.mem_cons_self)
      have hin' : ∀ j ∈ todo, j ∈ plc w es k := fun j hj => hin j (List.mem_cons_of_mem _ hj)
      simp only [ex]
      rw [if_pos (by rw [hx]; exact beq_self_eq_true _)]
      refine wpAny_bind (wpAny_dictEpoch ho hd (wpAny_bind (eq_keys hu hk' hk (wpAny_bind (wpAny_dictEpoch ho hd ?_)))))
      rw [if_neg (by simp)]
      rw [List.find?_cons] at hq
      rw [ek] at hq
      by_cases e : k' = k
      · subst e
        simp only [decide_true] at hq ⊢
        exact wpAny_bind (wpAny_rule (wpAny_pure (wpAny_pure hq)))
      · have z : ¬ (some k' = some k) := fun z => e (Option.some.inj z)
        rw [decide_eq_false z] at hq
        rw [decide_eq_false e]
        exact wpAny_bind (wpAny_rule (wpAny_pure ⟨rfl, rfl, hin', hq⟩))
    · rintro acc st' ⟨rfl, rfl, _, hq⟩
      exact wpAny_pure hq
  unfold dictFind
  try with_reducible refine wpAny_holding ?_
  refine wpAny_bind (wpAny_dictEntries ho hd ?_)
  dsimp only
  change wpAny _ _ _ _ _ _ at *
  have hstored : ∀ u ∈ (plc w es k).filterMap (fun i => es[i]?.map (·.key)), ∃ k', KV8 s.heap k' u := by
    intro u hm
    obtain ⟨i, hi, e⟩ := List.mem_filterMap.mp hm
    obtain ⟨x, k', ex, _, _, h3⟩ := at_ i hi
    simp only [ex, Option.map_some, Option.some.injEq] at e
    subst e
    exact ⟨k', h3⟩
  have hany : ∀ a, v = .ref a → ¬ (es.any fun e => e.key == Value.ref a && e.hash != k.hash w) = true := by
    rintro a rfl
    rw [← Array.any_toList, List.any_eq_true]
    rintro ⟨x, hx, hc⟩
    obtain ⟨i, ei⟩ := List.mem_iff_getElem?.mp hx
    obtain ⟨k', _, hh, h3⟩ := hks.get ei
    simp only [Bool.and_eq_true, beq_iff_eq, bne_iff_ne, ne_eq] at hc
    rw [hc.1] at h3
    have e := NestedIs.inj _ _ _ h3.is hk.is
    subst e
    exact hc.2 hh
  by_cases hall : ((v :: (plc w es k).filterMap fun i => es[i]?.map (·.key)).all carriedByValue) = true
  · unfold plc at hall
    rw [if_pos hall]
    split
    · rename_i y t
      split
      · rename_i hs
        have hkx : k = .text y := by have := hk.is; cases this; rfl
        subst hkx
        have hf : es.findIdx? (fun e => e.key.isStr y) = kIx ks (.text y) := by
          cases e : kIx ks (.text y) with
          | none =>
            rw [Array.findIdx?_eq_none_iff]
            intro x hx
            obtain ⟨i, ei⟩ := List.mem_iff_getElem?.mp (Array.mem_toList_iff.mpr hx)
            obtain ⟨k', e1, _, h3⟩ := hks.get ei
            show x.key.isStr y = false
            rw [is_str h3.is]
            exact decide_eq_false fun z => mem_of_kIx e (z ▸ List.mem_of_getElem? e1)
          | some i =>
            have e1 := get_of_kIx e
            obtain ⟨x, ex, _, h3⟩ := hks.getK e1
            rw [Array.getElem?_toList] at ex
            have hi : i < es.size := by
              rw [← Array.getElem?_toList] at ex
              have := (List.getElem?_eq_some_iff.mp ex).1
              simpa using this
            rw [Array.findIdx?_eq_some_iff_getElem]
            refine ⟨hi, ?_, fun j hj => ?_⟩
            · rw [Array.getElem?_eq_getElem hi] at ex
              rw [Option.some.inj ex, is_str h3.is]
              simp
            · have hj' : j < es.size := by omega
              obtain ⟨k', e4, _, h5⟩ := hks.get (i := j) (x := es[j]) (by rw [Array.getElem?_toList]; exact Array.getElem?_eq_getElem hj')
              rw [is_str h5.is]
              simp only [decide_eq_true_eq]
              rintro rfl
              have := kIx_some nd e4
              rw [e] at this
              cases this
              omega
        unfold foundByValue
        rw [hf]
        cases e : kIx ks (.text y) with
        | none =>
          rw [plc_find hks nd, e] at q
          exact wpAny_pure q
        | some i =>
          rw [plc_find hks nd, e] at q
          obtain ⟨x, ex, _, h3⟩ := hks.getK (get_of_kIx e)
          rw [Array.getElem?_toList] at ex
          simp only [ex]
          refine wpAny_bind (wpAny_dictEpoch ho hd (wpAny_bind (eq_keys hu h3 hk (wpAny_bind (wpAny_dictEpoch ho hd ?_)))))
          rw [if_neg (by simp), decide_eq_true rfl]
          exact wpAny_bind (wpAny_rule (wpAny_pure q))
      · exact plain
    · exact plain
  · have hns : ∀ y t, v = .str y t → ¬ (es.all fun e => isExactStrKey e.key) = true := by
      rintro y t rfl z
      refine hall ?_
      rw [List.all_cons]
      refine (Bool.and_eq_true _ _).mpr ⟨rfl, List.all_eq_true.mpr fun u hm => ?_⟩
      obtain ⟨i, hi, e⟩ := List.mem_filterMap.mp hm
      obtain ⟨x, k', ex, _, _, h3⟩ := at_ i hi
      simp only [ex, Option.map_some, Option.some.injEq] at e
      subst e
      rw [← Array.all_toList, List.all_eq_true] at z
      have zz := z x (List.mem_of_getElem? (by rw [Array.getElem?_toList]; exact ex))
      cases hx : x.key <;> first | rfl | (rw [hx] at zz; simp [isExactStrKey] at zz)
    unfold plc at hall
    rw [if_neg hall]
    have fin : ∀ (i : Nat), decide (ks[i]? = some k) = true → i ∈ plc w es k → ∀ todo, ((i :: todo).find? fun i => decide (ks[i]? = some k)) = some i := fun i h _ todo => by
      rw [List.find?_cons, h]
    by_cases hone : (((placesWithHash es.size (fun i => es[i]?.map (·.hash)) (k.hash w)).filterMap (fun i => es[i]?.map (·.key))) == [v]) = true
    all_goals cases v
    all_goals try dsimp only
    all_goals try rw [if_neg (hany _ rfl)]
    all_goals try rw [if_neg (hns _ _ rfl)]
    all_goals first
      | (rw [if_pos hone]; first | refine wpAny_bind (wpAny_pure ?_) | skip)
      | (rw [if_neg hone]; refine wpAny_bind (tells_not hk hstored ?_))
    all_goals rw [if_neg (by simp)]
    all_goals refine wpAny_bind (wpAny_forIn_list _ (fun todo (acc : Option (Option Nat) × Option Nat) st' => acc.1 = none ∧ st' = s ∧ (∀ i ∈ todo, i ∈ plc w es k) ∧ todo.Nodup ∧ ((acc.2 = none ∧ Q (todo.find? fun i => decide (ks[i]? = some k)) s) ∨ ∃ j, acc.2 = some j ∧ ks[j]? = some k ∧ j ∉ todo ∧ Q (some j) s)) _ ?_ ?_ _ _ ⟨rfl, rfl, fun _ z => z, plc_nodup, .inl ⟨rfl, q⟩⟩)
    all_goals first
      | (rintro i todo ⟨acc1, acc2⟩ st' ⟨h0, rfl, hin, hdp, hacc⟩
         have h0' : acc1 = none := h0
         subst h0'
         obtain ⟨x, k', ex, ek, hx, hk'⟩ := at_ i (hin i List.mem_cons_self)
         have hin' : ∀ j ∈ todo, j ∈ plc w es k := fun j hj => hin j (List.mem_cons_of_mem _ hj)
         obtain ⟨hit, hdt⟩ := List.nodup_cons.mp hdp
         simp only [ex]
         rw [if_pos (by rw [hx]; exact beq_self_eq_true _)]
         refine wpAny_bind (wpAny_dictEpoch ho hd (wpAny_bind (eq_keys hu hk' hk (wpAny_bind (wpAny_dictEpoch ho hd ?_)))))
         rw [if_neg (by simp)]
         by_cases e : k' = k
         · subst e
           have hnone : acc2 = none ∧ Q (some i) st' := by
             rcases hacc with ⟨h1, h2⟩ | ⟨j, _, h2, h3, _⟩
             · rw [List.find?_cons, ek] at h2
               simp only [decide_true] at h2
               exact ⟨h1, h2⟩
             · exact absurd (by
                 obtain ⟨q1, q2⟩ := List.getElem?_eq_some_iff.mp h2
                 obtain ⟨q3, q4⟩ := List.getElem?_eq_some_iff.mp ek
                 have : j = i := (List.getElem_inj nd).mp (q2.trans q4.symm)
                 rw [this]
                 exact List.mem_cons_self) h3
           obtain ⟨rfl, hq⟩ := hnone
           rw [if_pos (decide_eq_true rfl), if_neg (by simp)]
           refine wpAny_bind (wpAny_rule ?_)
           split
           · exact wpAny_pure (wpAny_pure hq)
           · exact wpAny_pure ⟨rfl, rfl, hin', hdt, .inr ⟨i, rfl, ek, hit, hq⟩⟩
         · rw [if_neg (by rw [decide_eq_false e]; exact Bool.false_ne_true)]
           refine wpAny_bind (wpAny_rule ?_)
           rw [if_neg (by simp)]
           refine wpAny_pure ⟨rfl, rfl, hin', hdt, ?_⟩
           rcases hacc with ⟨h1, h2⟩ | ⟨j, h1, h2, h3, h4⟩
           · refine .inl ⟨h1, ?_⟩
             have z : ¬ (some k' = some k) := fun z => e (Option.some.inj z)
             rw [List.find?_cons, ek, decide_eq_false z] at h2
             exact h2
           · exact .inr ⟨j, h1, h2, fun z => h3 (List.mem_cons_of_mem _ z), h4⟩)
      | (rintro ⟨acc1, acc2⟩ st' ⟨h0, rfl, _, _, hacc⟩
         have h0' : acc1 = none := h0
         subst h0'
         rcases hacc with ⟨h1, h2⟩ | ⟨j, h1, _, _, h2⟩
         · have h1' : acc2 = none := h1
           subst h1'
           exact wpAny_pure h2
         · have h1' : acc2 = some j := h1
           subst h1'
           exact wpAny_pure h2)
end
end DL
namespace DL
open PySem PySem.Spec L2
open PyProof.Rows hiding St
def okKey (k : D) : Bool := k.pure && decide (k.depth ≤ 8)
def dkeys (kvs : List (D × D)) : List NestedKey := kvs.map (·.1.key)
def dIx (kvs : List (D × D)) (k : D) : Option Nat := kIx (dkeys kvs) k.key
def dget (kvs : List (D × D)) (k : D) : Option D := match dIx kvs k with
  | some i => (kvs[i]?).map (·.2)
  | none => none
def dput (kvs : List (D × D)) (k v : D) : List (D × D) := match dIx kvs k with
  | some i => kvs.modify i fun p => (p.1, v)
  | none => kvs ++ [(k, v)]
def eput (es : List Ent) (k : NestedKey) (y v : V) : List Ent := match kIx (es.map (·.1)) k with
  | some i => es.modify i fun e => (e.1, e.2.1, v)
  | none => es ++ [(k, y, v)]
abbrev LiesE (w : World) : List Ent → List DictEntry → Prop := Paired fun (e : Ent) (x : DictEntry) => x.hash = e.1.hash w ∧ RelV e.2.1 x.key ∧ RelV e.2.2 x.val
mutual
theorem key_depth : ∀ d : D, d.key.depth = d.depth
  | .non => by simp [D.key, D.depth, NestedKey.depth]
  | .bl _ => by simp [D.key, D.depth, NestedKey.depth]
  | .int _ => by simp [D.key, D.depth, NestedKey.depth]
  | .str _ => by simp [D.key, D.depth, NestedKey.depth]
  | .loc _ => by simp [D.key, D.depth, NestedKey.depth]
  | .scr _ => by simp [D.key, D.depth, NestedKey.depth]
  | .fn _ => by simp [D.key, D.depth, NestedKey.depth]
  | .clo _ _ => by simp [D.key, D.depth, NestedKey.depth]
  | .tup ds => by simp only [D.key, D.depth, NestedKey.depth]; rw [keys_depth ds]
theorem keys_depth : ∀ ds : List D, NestedKey.depthAll (D.keys ds) = D.depths ds
  | [] => by simp [D.keys, D.depths, NestedKey.depthAll]
  | d :: ds => by simp only [D.keys, D.depths, NestedKey.depthAll]; rw [key_depth d, keys_depth ds]
end
section
variable {X : Cx} {ca : CAx} {pins : List (Addr × Obj)} {σ : L2.St} {H : Hp} {s : Shared} {r : List Addr}
mutual
theorem nested_of (I : Inv X pins σ H s) : ∀ (d : D) (v : V) (u : Value), DV X.K r H d v → RelV v u → d.pure = true → NestedIs s.heap d.key u
  | .non, v, u, h, rv, _ => by unfold DV at h; subst h; cases rv; exact .none
  | .bl b, v, u, h, rv, _ => by unfold DV at h; subst h; cases rv; exact .bool rfl
  | .int i, v, u, h, rv, _ => by unfold DV at h; subst h; obtain ⟨t, rfl⟩ := rv; exact .int _ _
  | .str i, v, u, h, rv, _ => by unfold DV at h; subst h; obtain ⟨t, rfl⟩ := rv; exact .text _ _
  | .loc _, _, _, _, _, p => by simp [D.pure] at p
  | .scr _, _, _, _, _, p => by simp [D.pure] at p
  | .fn _, _, _, _, _, p => by simp [D.pure] at p
  | .clo _ _, _, _, _, _, p => by simp [D.pure] at p
  | .tup ds, v, u, h, rv, p => by
    unfold DV at h
    obtain ⟨a, vs, rfl, h1, h2⟩ := h
    cases rv
    obtain ⟨its, q, ⟨o, g1, g2, n, g3⟩, _⟩ := I.tuple (TpN.sq h1)
    exact .tup g1 g2 g3 (nesteds_of I ds vs its h2 q (by simpa [D.pure] using p))
theorem nesteds_of (I : Inv X pins σ H s) : ∀ (ds : List D) (vs : List V) (us : List Value), DVs X.K r H ds vs → Vals vs us → D.pures ds = true → NestedAll s.heap (D.keys ds) us
  | [], _, _, h, q, _ => by unfold DVs at h; subst h; cases q; exact .nil
  | d :: ds, _, _, h, q, p => by
    unfold DVs at h
    obtain ⟨v, ws, rfl, h1, h2⟩ := h
    simp only [D.pures, Bool.and_eq_true] at p
    cases q with
    | cons q1 q2 => exact .cons (nested_of I d v _ h1 q1 p.1) (nesteds_of I ds ws _ h2 q2 p.2)
end
theorem kv8_of (I : Inv X pins σ H s) {k : D} {y : V} {u : Value} (q : DV X.K r H k y) (ry : RelV y u) (ok : okKey k = true) : KV8 s.heap k.key u := by
  simp only [okKey, Bool.and_eq_true, decide_eq_true_eq] at ok
  exact ⟨nested_of I k y u q ry ok.1, by rw [key_depth]; exact ok.2⟩
theorem paired_len {α β : Type} {F : α → β → Prop} : ∀ {l : List α} {m : List β}, Paired F l m → l.length = m.length
  | _, _, .nil => rfl
  | _, _, .cons _ t => by simp [paired_len t]
theorem keys_of_ents : ∀ {kvs : List (D × D)} {es : List Ent}, EntsV X.K r H kvs es → es.map (·.1) = dkeys kvs
  | _, _, .nil => rfl
  | _, _, .cons p t => by
    obtain ⟨_, _, e, _⟩ := p
    simp only [dkeys, List.map_cons]
    rw [e]
    exact congrArg _ (keys_of_ents t)
theorem ksOf_of (I : Inv X pins σ H s) : ∀ {kvs : List (D × D)} {es : List Ent} {ents : List DictEntry}, EntsV X.K r H kvs es → LiesE X.w es ents → KsOf X.w s.heap (dkeys kvs) ents
  | _, _, _, .nil, .nil => .nil
  | _, _, _, .cons p t, .cons q u => by
    obtain ⟨p0, p1, p2, p3, _⟩ := p
    obtain ⟨q1, q2, _⟩ := q
    exact .cons ⟨by rw [q1, p2], kv8_of I p3 q2 (by simp [okKey, p0, p1])⟩ (ksOf_of I t u)
theorem paired_get {α β : Type} {F : α → β → Prop} : ∀ {l : List α} {m : List β}, Paired F l m → ∀ {i : Nat} {a : α}, l[i]? = some a → ∃ b, m[i]? = some b ∧ F a b
  | _, _, .nil, i, a, e => by simp at e
  | _, _, .cons p t, i, a, e => by
    cases i with
    | zero => simp at e; subst e; exact ⟨_, rfl, p⟩
    | succ i => simpa using paired_get t (i := i) (by simpa using e)
theorem paired_modify {α β : Type} {F : α → β → Prop} {f : α → α} {g : β → β} (h : ∀ a b, F a b → F (f a) (g b)) : ∀ {l : List α} {m : List β} (i : Nat), Paired F l m → Paired F (l.modify i f) (m.modify i g)
  | _, _, i, .nil => by simpa using Paired.nil
  | _, _, i, .cons p t => by
    cases i with
    | zero => simpa using Paired.cons (h _ _ p) t
    | succ i => simpa using Paired.cons p (paired_modify h i t)
theorem paired_snoc {α β : Type} {F : α → β → Prop} {a : α} {b : β} (h : F a b) : ∀ {l : List α} {m : List β}, Paired F l m → Paired F (l ++ [a]) (m ++ [b])
  | _, _, .nil => .cons h .nil
  | _, _, .cons p t => .cons p (paired_snoc h t)
structure DLies (X : Cx) (r : List Addr) (H : Hp) (s : Shared) (a : Addr) (kvs : List (D × D)) (es : List Ent) (o : Obj) (ents : Array DictEntry) (ep : Nat) : Prop where
  hp : H a = some (.ext (RawD X.w a es))
  sm : (a == sysModules) = false
  sz : kvs.length ≤ sizeLine
  nd : (dkeys kvs).Nodup
  ev : EntsV X.K r H kvs es
  ob : s.heap.get? a = some o
  ex : o.ExactDict
  dt : o.data = .dict ents ep
  le : LiesE X.w es ents.toList
  ks : KsOf X.w s.heap (dkeys kvs) ents.toList
theorem DLies.ty {a : Addr} {kvs es o ents ep} (L : DLies X r H s a kvs es o ents ep) : s.TypeIs (.ref a) "dict" := ⟨o, L.ob, L.ex.1⟩
theorem dlies_of (I : Inv X pins σ H s) {a : Addr} {kvs : List (D × D)} (h : OV (gx X ca) r H a (.dct kvs)) : ∃ es o ents ep, DLies X r H s a kvs es o ents ep := by
  obtain ⟨z, sm, nd, es, e, ev⟩ := h
  obtain ⟨⟨o, ents, ep, g1, g2, g3, g4⟩, _⟩ := I.hok a _ e
  exact ⟨es, o, ents, ep, e, sm, z, nd, ev, g1, g2, g3, g4, ksOf_of I ev g4⟩
variable {A : Around} {E : Value → Shared → Prop} {a : Addr} {kvs : List (D × D)} {es : List Ent} {o : Obj} {ents : Array DictEntry} {ep : Nat} {k : D} {y : V} {u : Value}
theorem DLies.tok (L : DLies X r H s a kvs es o ents ep) (t : Nat) : DLies X r H { s with toks := t } a kvs es o ents ep := ⟨L.hp, L.sm, L.sz, L.nd, L.ev, L.ob, L.ex, L.dt, L.le, L.ks⟩
theorem DLies.at_ (L : DLies X r H s a kvs es o ents ep) {i : Nat} {p : D × D} (e : kvs[i]? = some p) : ∃ x v, ents[i]? = some x ∧ RelV v x.val ∧ DV X.K r H p.2 v := by
  obtain ⟨z, ez, _, _, _, _, qv⟩ := paired_get L.ev e
  obtain ⟨x, ex, _, _, rv⟩ := paired_get L.le ez
  exact ⟨x, z.2.2, by rw [Array.getElem?_toList] at ex; exact ex, rv, qv⟩
theorem dict_get {Q : Option Value → Shared → Prop} (hu : A.units + 8 < cLine) (L : DLies X r H s a kvs es o ents ep) (hk : KV8 s.heap k.key u)
    (q : ∀ t, match dget kvs k with
      | some d => ∀ v w', DV X.K r H d v → RelV v w' → Q (some w') { s with toks := t }
      | none => Q none { s with toks := t }) : wpAny (model X.prog X.w) A (dictGet a u) Q E s := by
  unfold dictGet
  refine wpAny_holding (wpAny_bind (hash_key hu hk (wpAny_bind (find_key (s := { s with toks := s.toks + k.key.draws }) hu hk L.ob L.dt L.ks L.nd ?_))))
  have q := q (s.toks + k.key.draws)
  unfold dget dIx at q
  cases e : kIx (dkeys kvs) k.key with
  | none =>
    rw [e] at q
    exact wpAny_pure q
  | some i =>
    rw [e] at q
    have e1 := get_of_kIx e
    unfold dkeys at e1
    rw [List.getElem?_map] at e1
    cases e2 : kvs[i]? with
    | none => rw [e2] at e1; cases e1
    | some p =>
      simp only [e2, Option.map_some] at q
      obtain ⟨x, v, ex, rv, qv⟩ := L.at_ e2
      refine wpAny_bind (wpAny_dictEntries (s := { s with toks := s.toks + k.key.draws }) L.ob L.dt ?_)
      rw [ex]
      exact wpAny_pure (q v _ qv rv)
theorem dict_has {Q : Bool → Shared → Prop} (hu : A.in1.units + 8 < cLine) (L : DLies X r H s a kvs es o ents ep) (hk : KV8 s.heap k.key u) (q : ∀ t, Q (dget kvs k).isSome { s with toks := t }) : wpAny (model X.prog X.w) A (contains (.ref a) u) Q E s := by
  refine wpAny_contains_slot L.ty F.slot_dict_contains ?_
  refine wpAny_call_entry F.slot_dict_contains L.ty F.entry_dict_contains ?_ (F.args_dict_contains_2 _ _)
  show wpAny _ _ (dictGet a u >>= _) _ _ s
  refine wpAny_bind (dict_get hu L hk fun t => ?_)
  have q := q t
  split
  · rename_i d e
    rw [e] at q
    exact fun v w' _ _ => wpAny_pure ⟨_, rfl, wpAny_truthy_bool q⟩
  · rename_i e
    rw [e] at q
    show wpAny _ _ (Builtin.Dict.pendingKey? a u >>= _) _ _ _
    exact wpAny_bind (wpAny_pendingKey_other L.sm (wpAny_pure ⟨_, rfl, wpAny_truthy_bool q⟩))
theorem dict_item {Q : Value → Shared → Prop} {d : D} (hu : A.in1.units + 8 < cLine) (L : DLies X r H s a kvs es o ents ep) (hk : KV8 s.heap k.key u) (hd : dget kvs k = some d) (q : ∀ t v w', DV X.K r H d v → RelV v w' → Q w' { s with toks := t }) :
    wpAny (model X.prog X.w) A (getItem (.ref a) u) Q E s := by
  unfold getItem
  refine wpAny_holding (wpAny_bind (wpAny_sequenceKey L.ty (by decide) (wpAny_bind ?_)))
  refine wpAny_callSpecial?_slot L.ty F.slot_dict_getitem (wpAny_call_entry F.slot_dict_getitem L.ty F.entry_dict_getitem ?_ (F.args_dict_getitem_2 _ _))
  show wpAny _ _ (dictGet a u >>= _) _ _ s
  refine wpAny_bind (dict_get hu L hk fun t => ?_)
  rw [hd]
  exact fun v w' qv rv => wpAny_pure ⟨w', rfl, wpAny_pure (q t v w' qv rv)⟩
theorem dict_getm {Q : Value → Shared → Prop} (hu : A.in1.units + 8 < cLine) (L : DLies X r H s a kvs es o ents ep) (hk : KV8 s.heap k.key u) (df : Value)
    (q : ∀ t, match dget kvs k with
      | some d => ∀ v w', DV X.K r H d v → RelV v w' → Q w' { s with toks := t }
      | none => Q df { s with toks := t }) : wpAny (model X.prog X.w) A (call (.builtin "dict.get") [.ref a, u, df]) Q E s := by
  refine wpAny_call_entry F.slot_dict_get L.ty F.entry_dict_get ?_ (F.args_dict_get_3 _ _ _)
  show wpAny _ _ (dictGet a u >>= _) _ _ s
  refine wpAny_bind (dict_get hu L hk fun t => ?_)
  have q := q t
  split
  · rename_i d e
    rw [e] at q
    exact fun v w' qv rv => wpAny_pure ⟨w', rfl, q v w' qv rv⟩
  · rename_i e
    rw [e] at q
    show wpAny _ _ (Builtin.Dict.missed a u >>= _) _ _ _
    exact wpAny_bind (wpAny_missed_other L.sm (wpAny_pure ⟨_, rfl, q⟩))
theorem lies_put {v : V} {rv : Value} (L : DLies X r H s a kvs es o ents ep) (ry : RelV y u) (qv : RelV v rv) : match kIx (dkeys kvs) k.key with
    | some i => LiesE X.w (eput es k.key y v) (ents.modify i fun e => { e with val := rv }).toList
    | none => LiesE X.w (eput es k.key y v) (ents.push ⟨k.key.hash X.w, u, rv⟩).toList := by
  unfold eput
  rw [keys_of_ents L.ev]
  cases e : kIx (dkeys kvs) k.key with
  | some i =>
    have := paired_modify (F := fun (e : Ent) (x : DictEntry) => x.hash = e.1.hash X.w ∧ RelV e.2.1 x.key ∧ RelV e.2.2 x.val) (f := fun e => (e.1, e.2.1, v)) (g := fun x => { x with val := rv }) (fun a b h => ⟨h.1, h.2.1, qv⟩) i L.le
    show LiesE X.w _ (ents.modify i _).toList
    rw [Array.toList_modify]
    exact this
  | none =>
    show LiesE X.w _ (ents.push _).toList
    rw [Array.toList_push]
    exact paired_snoc ⟨rfl, ry, qv⟩ L.le
theorem write_raw {h' : Heap} {t' : Nat} (I : Inv X pins σ H s) (L : DLies X r H s a kvs es o ents ep) {es' : List Ent} (sb : Heap.SameBut a s.heap h') (raw : RawD X.w a es' h') :
    Inv X pins σ (upd H a (.ext (RawD X.w a es'))) { s with heap := h', toks := t' } := by
  refine I.write (x := a) (e := a) (by rw [L.hp]; exact True.intro) (.inl rfl) (fun b z hb e => (sb.2 b hb).trans e) ?_ raw.ok
  obtain ⟨o', _, _, e, _⟩ := raw
  exact ⟨o', e⟩
theorem dict_put {v : V} {rv : Value} {Q : Unit → Shared → Prop} (hu : A.units + 8 < cLine) (I : Inv X pins σ H s) (L : DLies X r H s a kvs es o ents ep) (hk : KV8 s.heap k.key u) (ry : RelV y u) (qv : RelV v rv)
    (q : ∀ s', Inv X pins σ (upd H a (.ext (RawD X.w a (eput es k.key y v)))) s' → Q () s') : wpAny (model X.prog X.w) A (dictSet a u rv) Q E s := by
  have hl := lies_put (k := k) L ry qv
  have hsz : ents.size ≤ sizeLine := by
    have e1 : es.length = ents.size := (paired_len L.le).trans Array.length_toList
    have e2 : kvs.length = es.length := paired_len L.ev
    have e3 := L.sz
    omega
  unfold dictSet dictSetHashed
  refine wpAny_holding (wpAny_bind (hash_key hu hk (wpAny_holding (wpAny_bind (find_key (s := { s with toks := s.toks + k.key.draws }) hu hk L.ob L.dt L.ks L.nd ?_)))))
  cases e : kIx (dkeys kvs) k.key with
  | none =>
    rw [e] at hl
    refine wpAny_bind (wpAny_rule (wpAny_updateDictKeys (s := { s with toks := s.toks + k.key.draws }) L.ob L.dt ?_ (hz := hsz)))
    refine q _ (write_raw I L (Heap.SameBut.update ..) ⟨_, _, ep + 1, Heap.get?_update_self _ L.ob (Obj.isFreed_of_dict (Obj.data_mapDictKeys L.dt _)), L.ex.mapDictKeys _, Obj.data_mapDictKeys L.dt _, hl⟩)
  | some i =>
    rw [e] at hl
    refine wpAny_bind (wpAny_rule (wpAny_bind (wpAny_updateDict (s := { s with toks := s.toks + k.key.draws }) L.ob L.dt (wpAny_point ?_))))
    refine q _ (write_raw I L (Heap.SameBut.update ..) ⟨_, _, ep, Heap.get?_update_self _ L.ob (Obj.isFreed_of_dict (Obj.data_mapDict L.dt _)), L.ex.mapDict _, Obj.data_mapDict L.dt _, hl⟩)
theorem dict_setItem {v : V} {rv : Value} {Q : Unit → Shared → Prop} (hu : A.in1.units + 8 < cLine) (I : Inv X pins σ H s) (L : DLies X r H s a kvs es o ents ep) (hk : KV8 s.heap k.key u) (ry : RelV y u) (qv : RelV v rv)
    (q : ∀ s', Inv X pins σ (upd H a (.ext (RawD X.w a (eput es k.key y v)))) s' → Q () s') : wpAny (model X.prog X.w) A (setItem (.ref a) u rv) Q E s := by
  unfold setItem
  refine wpAny_holding (wpAny_bind (wpAny_sequenceKey L.ty (by decide) (wpAny_bind ?_)))
  refine wpAny_callSpecial?_slot L.ty F.slot_dict_setitem (wpAny_call_entry F.slot_dict_setitem L.ty F.entry_dict_setitem ?_ (F.args_dict_setitem_3 _ _ _))
  show wpAny _ _ (Builtin.Dict.notOrdered "__setitem__" ⟨[.ref a, u, rv], []⟩ >>= _) _ _ s
  refine wpAny_bind (wpAny_notOrdered_dict L.ty ?_)
  show wpAny _ _ (dictSet a u rv >>= _) _ _ s
  exact wpAny_bind (dict_put hu I L hk ry qv fun s' I' => wpAny_pure ⟨.none, rfl, wpAny_pure (q s' I')⟩)
theorem dict_setdefault {v : V} {rv : Value} {Q : Value → Shared → Prop} (hu : A.in1.units + 8 < cLine) (I : Inv X pins σ H s) (L : DLies X r H s a kvs es o ents ep) (hk : KV8 s.heap k.key u) (ry : RelV y u) (qv : RelV v rv)
    (q1 : ∀ t d v w', dget kvs k = some d → DV X.K r H d v → RelV v w' → Q w' { s with toks := t })
    (q2 : ∀ s', dget kvs k = none → Inv X pins σ (upd H a (.ext (RawD X.w a (eput es k.key y v)))) s' → Q rv s') : wpAny (model X.prog X.w) A (call (.builtin "dict.setdefault") [.ref a, u, rv]) Q E s := by
  have hl := lies_put (k := k) L ry qv
  have hsz : ents.size ≤ sizeLine := by
    have e1 : es.length = ents.size := (paired_len L.le).trans Array.length_toList
    have e2 : kvs.length = es.length := paired_len L.ev
    have e3 := L.sz
    omega
  refine wpAny_call_entry F.slot_dict_setdefault L.ty F.entry_dict_setdefault ?_ (F.args_dict_setdefault_3 _ _ _)
  unfold Builtin.«dict.setdefault»
  refine wpAny_bind ?_
  unfold Builtin.Dict.keyAndDefault
  refine wpAny_bind (wpAny_notOrdered_dict L.ty ?_)
  show wpAny _ _ (pure (a, u, some rv)) _ _ s
  refine wpAny_pure ?_
  show wpAny _ _ (if (a == sysModules) = true then _ else (dictSetDefault a u rv >>= _)) _ _ s
  rw [if_neg (by rw [L.sm]; exact Bool.false_ne_true)]
  unfold dictSetDefault
  refine wpAny_bind (wpAny_holding (wpAny_bind (hash_key hu hk (wpAny_bind (find_key (s := { s with toks := s.toks + k.key.draws }) hu hk L.ob L.dt L.ks L.nd ?_)))))
  unfold dget dIx at q1 q2
  cases e : kIx (dkeys kvs) k.key with
  | none =>
    rw [e] at hl q2
    refine wpAny_bind (wpAny_rule (wpAny_bind (wpAny_updateDictKeys (s := { s with toks := s.toks + k.key.draws }) L.ob L.dt (wpAny_pure (wpAny_pure ⟨_, rfl, ?_⟩)) (hz := hsz))))
    exact q2 _ rfl (write_raw I L (Heap.SameBut.update ..) ⟨_, _, ep + 1, Heap.get?_update_self _ L.ob (Obj.isFreed_of_dict (Obj.data_mapDictKeys L.dt _)), L.ex.mapDictKeys _, Obj.data_mapDictKeys L.dt _, hl⟩)
  | some i =>
    rw [e] at q1
    have e1 := get_of_kIx e
    unfold dkeys at e1
    rw [List.getElem?_map] at e1
    cases e2 : kvs[i]? with
    | none => rw [e2] at e1; cases e1
    | some p =>
      simp only [e2, Option.map_some] at q1
      obtain ⟨x, v, ex, rv, qv⟩ := L.at_ e2
      refine wpAny_bind (wpAny_dictEntries (s := { s with toks := s.toks + k.key.draws }) L.ob L.dt ?_)
      rw [ex]
      exact wpAny_bind (wpAny_rule (wpAny_pure (wpAny_pure ⟨_, rfl, q1 _ p.2 v _ rfl qv rv⟩)))
end
end DL
namespace DL
open PySem PySem.Spec L2
open PyProof.Rows hiding St
theorem ents_put {K : PySem.W.Frag} {r : List Addr} {H : Hp} {kvs : List (D × D)} {es : List Ent} {k v : D} {y z : V} (h : EntsV K r H kvs es) (ok : okKey k = true) (qk : DV K r H k y) (qv : DV K r H v z) : EntsV K r H (dput kvs k v) (eput es k.key y z) := by
  have hk : es.map (·.1) = dkeys kvs := by
    clear ok qk qv
    induction h with
    | nil => rfl
    | cons p t ih =>
      obtain ⟨_, _, e, _⟩ := p
      simp only [dkeys, List.map_cons] at ih ⊢
      rw [e, ih]
  simp only [okKey, Bool.and_eq_true, decide_eq_true_eq] at ok
  unfold dput eput dIx
  rw [hk]
  cases kIx (dkeys kvs) k.key with
  | some i => exact paired_modify (f := fun p => (p.1, v)) (g := fun e => (e.1, e.2.1, z)) (F := fun (p : D × D) (e : Ent) => p.1.pure = true ∧ p.1.depth ≤ 8 ∧ e.1 = p.1.key ∧ DV K r H p.1 e.2.1 ∧ DV K r H p.2 e.2.2) (fun a b h => ⟨h.1, h.2.1, h.2.2.1, h.2.2.2.1, qv⟩) i h
  | none => exact paired_snoc ⟨ok.1, ok.2, rfl, qk, qv⟩ h
theorem dkeys_put (kvs : List (D × D)) (k v : D) : dkeys (dput kvs k v) = match dIx kvs k with
    | some _ => dkeys kvs
    | none => dkeys kvs ++ [k.key] := by
  unfold dput
  cases dIx kvs k with
  | none => simp [dkeys]
  | some i =>
    show dkeys (kvs.modify i _) = dkeys kvs
    unfold dkeys
    apply List.ext_getElem?
    intro j
    rw [List.getElem?_map, List.getElem?_map, List.getElem?_modify]
    by_cases e : i = j
    · subst e; cases kvs[i]? <;> simp
    · simp [e]
theorem nodup_put {kvs : List (D × D)} (nd : (dkeys kvs).Nodup) (k v : D) : (dkeys (dput kvs k v)).Nodup := by
  rw [dkeys_put]
  cases e : dIx kvs k with
  | some i => exact nd
  | none =>
    show (dkeys kvs ++ [k.key]).Nodup
    rw [List.nodup_append]
    refine ⟨nd, by simp, fun a ha b hb => ?_⟩
    simp at hb
    subst hb
    rintro rfl
    exact mem_of_kIx e ha
theorem length_put (kvs : List (D × D)) (k v : D) : (dput kvs k v).length ≤ kvs.length + 1 := by
  unfold dput
  cases dIx kvs k <;> simp
def dctD (S : Sto) : D → Option (List (D × D))
  | .loc n => match S[n]? with
    | some (.dct kvs) => some kvs
    | _ => none
  | _ => none
section
variable {X : Cx} {ca : CAx}
def RdD (G : Ctx) (x y : V) (H : Hp) (P : List (D × D) → D → List Addr → Prop) : Prop := ∃ (r : List Addr) (S : Sto) (d k : D) (kvs : List (D × D)), RepS G r S H ∧ DV G.K r H d x ∧ DV G.K r H k y ∧ dctD S d = some kvs ∧ okKey k = true ∧ P kvs k r
def rIxD (G : Ctx) : R2 := fun x y H Q => RdD G x y H fun kvs k r => ∃ d, dget kvs k = some d ∧ ∀ v, DV G.K r H d v → Q v H
def rInDct (G : Ctx) : R2 := fun x y H Q => RdD G y x H fun kvs k r => Q (.bl (dget kvs k).isSome) H
def rNotInDct (G : Ctx) : R2 := fun x y H Q => RdD G y x H fun kvs k r => Q (.bl (!(dget kvs k).isSome)) H
theorem dct_at {G : Ctx} {r : List Addr} {S : Sto} {H : Hp} {d : D} {x : V} {kvs : List (D × D)} (R : RepS G r S H) (q : DV G.K r H d x) (e : dctD S d = some kvs) : ∃ n a, d = .loc n ∧ x = .ref a ∧ r[n]? = some a ∧ S[n]? = some (.dct kvs) ∧ OV G r H a (.dct kvs) := by
  unfold dctD at e
  split at e
  · rename_i n
    split at e
    · rename_i kvs' e1
      cases e
      obtain ⟨a, ea, rfl⟩ := dv_loc q
      exact ⟨n, a, rfl, rfl, ea, e1, R.at_ _ _ _ e1 ea⟩
    · cases e
  · cases e
theorem u8 {k : Nat} {A : Around} (hr : Room k A) : A.in1.units + 8 < cLine := by
  have := hr.un
  show A.units + 1 + 8 < cLine
  omega
theorem ix_dict (hu : X.A.in1.units + 8 < cLine) : IxR X (rIxD (gx X ca)) := by
  intro value slice pins s σ H x y v u Q I rx ry h hs
  obtain ⟨r, S, d, k, kvs, R, q1, q2, e, ok, d', e', q⟩ := h
  obtain ⟨n, a, rfl, rfl, ea, e1, ov⟩ := dct_at R q1 e
  cases rx
  obtain ⟨es, o, ents, ep, L⟩ := dlies_of I ov
  obtain ⟨i, hi, dv⟩ : ∃ i : Nat, True ∧ True := ⟨0, trivial, trivial⟩
  unfold subscriptTail
  refine wpAny_bind ?_
  rw [getitemInPython_of_ne L.ty.not_modules]
  refine wpAny_bind (wpAny_specialOf L.ty PySem.F.slot_dict_getitem.lookup ?_)
  have fin : wpAny (model X.prog X.w) X.A (subscripted slice false (.ref a) u) (fun z s3 => wpAny (model X.prog X.w) X.A (letTemporaryGo value (.ref a) z >>= fun _ => pure z) (EP X pins σ Q) X.xe s3) X.xe s := by
    rw [hs]
    refine wpAny_operating (dict_item hu L (kv8_of I q2 ry ok) e' fun t w z qw rz => wpAny_bind (wpAny_letTemporaryGo (wpAny_pure ⟨w, H, I.tok t, rz, q w qw⟩)))
  first
    | exact wpAny_bind fin
    | exact wpAny_pure (wpAny_bind fin)
theorem op_inDct (hu : X.A.in1.units + 8 < cLine) : OpR X (compareOp .In) (rInDct (gx X ca)) := by
  intro pins s σ H x y v u Q I rx ry h
  obtain ⟨r, S, d, k, kvs, R, q1, q2, e, ok, q⟩ := h
  obtain ⟨n, a, rfl, rfl, ea, e1, ov⟩ := dct_at R q1 e
  cases ry
  obtain ⟨es, o, ents, ep, L⟩ := dlies_of I ov
  show wpAny _ _ (contains (.ref a) v >>= fun b => pure (Value.bool b)) _ _ s
  exact wpAny_bind (dict_has hu L (kv8_of I q2 rx ok) fun t => wpAny_pure ⟨.bl _, H, I.tok t, rfl, q⟩)
theorem op_notInDct (hu : X.A.in1.units + 8 < cLine) : OpR X (compareOp .NotIn) (rNotInDct (gx X ca)) := by
  intro pins s σ H x y v u Q I rx ry h
  obtain ⟨r, S, d, k, kvs, R, q1, q2, e, ok, q⟩ := h
  obtain ⟨n, a, rfl, rfl, ea, e1, ov⟩ := dct_at R q1 e
  cases ry
  obtain ⟨es, o, ents, ep, L⟩ := dlies_of I ov
  show wpAny _ _ (contains (.ref a) v >>= fun b => pure (Value.bool (!b))) _ _ s
  exact wpAny_bind (dict_has hu L (kv8_of I q2 rx ok) fun t => wpAny_pure ⟨.bl _, H, I.tok t, rfl, q⟩)
end
def lckD (S : Sto) : D → Option (List (D × D))
  | .loc n => match S[n]? with
    | some (.lck kvs) => some kvs
    | _ => none
  | _ => none
structure RLies (X : Cx) (r : List Addr) (H : Hp) (s : Shared) (a : Addr) (kvs : List (D × D)) (es : List Ent) (o : Obj) (ents : Array DictEntry) (ep : Nat) : Prop where
  sm : (a == sysModules) = false
  sz : kvs.length ≤ sizeLine
  nd : (dkeys kvs).Nodup
  ev : EntsV X.K r H kvs es
  ob : s.heap.get? a = some o
  ex : o.ExactDict
  dt : o.data = .dict ents ep
  le : LiesE X.w es ents.toList
  ks : KsOf X.w s.heap (dkeys kvs) ents.toList
section
variable {X : Cx} {ca : CAx} {pins : List (Addr × Obj)} {σ : L2.St} {r : List Addr} {H : Hp} {s : Shared}
theorem RLies.ty {a : Addr} {kvs es o ents ep} (L : RLies X r H s a kvs es o ents ep) : s.TypeIs (.ref a) "dict" := ⟨o, L.ob, L.ex.1⟩
theorem rlies_of (I : Inv X pins σ H s) {a : Addr} {kvs : List (D × D)} (h : OV (gx X ca) r H a (.lck kvs)) : ∃ es o ents ep, RLies X r H s a kvs es o ents ep := by
  obtain ⟨z, sm, nd, od, es, e, ev⟩ := h
  obtain ⟨g1, ⟨o2, ents, ep, g2, ex, dt, pr⟩, _⟩ := I.hok a _ e
  have eo : o2 = od := Option.some.inj (g2.symm.trans g1)
  subst eo
  exact ⟨es, o2, ents, ep, sm, z, nd, ev, g1, ex, dt, pr, ksOf_of I ev pr⟩
variable {A : Around} {E : Value → Shared → Prop} {a : Addr} {kvs : List (D × D)} {es : List Ent} {o : Obj} {ents : Array DictEntry} {ep : Nat} {k : D} {y : V} {u : Value}
theorem RLies.at_ (L : RLies X r H s a kvs es o ents ep) {i : Nat} {p : D × D} (e : kvs[i]? = some p) : ∃ x v, ents[i]? = some x ∧ RelV v x.val ∧ DV X.K r H p.2 v := by
  obtain ⟨z, ez, _, _, _, _, qv⟩ := paired_get L.ev e
  obtain ⟨x, ex, _, _, rv⟩ := paired_get L.le ez
  exact ⟨x, z.2.2, by rw [Array.getElem?_toList] at ex; exact ex, rv, qv⟩
theorem rdict_get {Q : Option Value → Shared → Prop} {d : D} (hu : A.units + 8 < cLine) (L : RLies X r H s a kvs es o ents ep) (hk : KV8 s.heap k.key u) (hd : dget kvs k = some d)
    (q : ∀ t v w', DV X.K r H d v → RelV v w' → Q (some w') { s with toks := t }) : wpAny (model X.prog X.w) A (dictGet a u) Q E s := by
  unfold dictGet
  refine wpAny_holding (wpAny_bind (hash_key hu hk (wpAny_bind (find_key (s := { s with toks := s.toks + k.key.draws }) hu hk L.ob L.dt L.ks L.nd ?_))))
  unfold dget dIx at hd
  cases e : kIx (dkeys kvs) k.key with
  | none => rw [e] at hd; cases hd
  | some i =>
    rw [e] at hd
    dsimp only at hd
    cases e2 : kvs[i]? with
    | none => rw [e2] at hd; cases hd
    | some p =>
      simp only [e2, Option.map_some, Option.some.injEq] at hd
      subst hd
      obtain ⟨x, v, ex, rv, qv⟩ := L.at_ e2
      refine wpAny_bind (wpAny_dictEntries (s := { s with toks := s.toks + k.key.draws }) L.ob L.dt ?_)
      rw [ex]
      exact wpAny_pure (q _ v _ qv rv)
theorem rdict_item {Q : Value → Shared → Prop} {d : D} (hu : A.in1.units + 8 < cLine) (L : RLies X r H s a kvs es o ents ep) (hk : KV8 s.heap k.key u) (hd : dget kvs k = some d) (q : ∀ t v w', DV X.K r H d v → RelV v w' → Q w' { s with toks := t }) :
    wpAny (model X.prog X.w) A (getItem (.ref a) u) Q E s := by
  unfold getItem
  refine wpAny_holding (wpAny_bind (wpAny_sequenceKey L.ty (by decide) (wpAny_bind ?_)))
  refine wpAny_callSpecial?_slot L.ty F.slot_dict_getitem (wpAny_call_entry F.slot_dict_getitem L.ty F.entry_dict_getitem ?_ (F.args_dict_getitem_2 _ _))
  show wpAny _ _ (dictGet a u >>= _) _ _ s
  exact wpAny_bind (rdict_get hu L hk hd fun t v w' qv rv => wpAny_pure ⟨w', rfl, wpAny_pure (q t v w' qv rv)⟩)
def rIxK (G : Ctx) : R2 := fun x y H Q => ∃ (r : List Addr) (S : Sto) (d k : D) (kvs : List (D × D)), RepS G r S H ∧ DV G.K r H d x ∧ DV G.K r H k y ∧ lckD S d = some kvs ∧ okKey k = true ∧ ∃ d', dget kvs k = some d' ∧ ∀ v, DV G.K r H d' v → Q v H
theorem ix_lck (hu : X.A.in1.units + 8 < cLine) : IxR X (rIxK (gx X ca)) := by
  intro value slice pins s σ H x y v u Q I rx ry h hs
  obtain ⟨r, S, d, k, kvs, R, q1, q2, e, ok, d', e', q⟩ := h
  unfold lckD at e
  split at e
  · rename_i n
    split at e
    · rename_i kvs' e1
      cases e
      obtain ⟨a, ea, rfl⟩ := dv_loc q1
      cases rx
      obtain ⟨es, o, ents, ep, L⟩ := rlies_of I (R.at_ _ _ _ e1 ea)
      unfold subscriptTail
      refine wpAny_bind ?_
      rw [getitemInPython_of_ne L.ty.not_modules]
      refine wpAny_bind (wpAny_specialOf L.ty PySem.F.slot_dict_getitem.lookup ?_)
      have fin : wpAny (model X.prog X.w) X.A (subscripted slice false (.ref a) u) (fun z s3 => wpAny (model X.prog X.w) X.A (letTemporaryGo value (.ref a) z >>= fun _ => pure z) (EP X pins σ Q) X.xe s3) X.xe s := by
        rw [hs]
        refine wpAny_operating (rdict_item hu L (kv8_of I q2 ry ok) e' fun t w z qw rz => wpAny_bind (wpAny_letTemporaryGo (wpAny_pure ⟨w, H, I.tok t, rz, q w qw⟩)))
      first
        | exact wpAny_bind fin
        | exact wpAny_pure (wpAny_bind fin)
    · cases e
  · cases e
theorem rdict_getA {Q : Option Value → Shared → Prop} (hu : A.units + 8 < cLine) (L : RLies X r H s a kvs es o ents ep) (hk : KV8 s.heap k.key u)
    (q : ∀ t, match dget kvs k with
      | some d => ∀ v w', DV X.K r H d v → RelV v w' → Q (some w') { s with toks := t }
      | none => Q none { s with toks := t }) : wpAny (model X.prog X.w) A (dictGet a u) Q E s := by
  cases hd : dget kvs k with
  | some d =>
    refine rdict_get hu L hk hd fun t v w' qv rv => ?_
    have := q t
    rw [hd] at this
    exact this v w' qv rv
  | none =>
    unfold dictGet
    refine wpAny_holding (wpAny_bind (hash_key hu hk (wpAny_bind (find_key (s := { s with toks := s.toks + k.key.draws }) hu hk L.ob L.dt L.ks L.nd ?_))))
    rw [hd] at q
    unfold dget dIx at hd
    cases e : kIx (dkeys kvs) k.key with
    | none => exact wpAny_pure (q _)
    | some i =>
      rw [e] at hd
      have e1 := get_of_kIx e
      unfold dkeys at e1
      rw [List.getElem?_map] at e1
      cases e2 : kvs[i]? with
      | none => rw [e2] at e1; cases e1
      | some p =>
        dsimp only at hd
        rw [e2] at hd
        cases hd
theorem rdict_has {Q : Bool → Shared → Prop} (hu : A.in1.units + 8 < cLine) (L : RLies X r H s a kvs es o ents ep) (hk : KV8 s.heap k.key u) (q : ∀ t, Q (dget kvs k).isSome { s with toks := t }) : wpAny (model X.prog X.w) A (contains (.ref a) u) Q E s := by
  refine wpAny_contains_slot L.ty F.slot_dict_contains ?_
  refine wpAny_call_entry F.slot_dict_contains L.ty F.entry_dict_contains ?_ (F.args_dict_contains_2 _ _)
  show wpAny _ _ (dictGet a u >>= _) _ _ s
  refine wpAny_bind (rdict_getA hu L hk fun t => ?_)
  have q := q t
  split
  · rename_i d e
    rw [e] at q
    exact fun v w' _ _ => wpAny_pure ⟨_, rfl, wpAny_truthy_bool q⟩
  · rename_i e
    rw [e] at q
    show wpAny _ _ (Builtin.Dict.pendingKey? a u >>= _) _ _ _
    exact wpAny_bind (wpAny_pendingKey_other L.sm (wpAny_pure ⟨_, rfl, wpAny_truthy_bool q⟩))
def rInLck (G : Ctx) : R2 := fun x y H Q => ∃ (r : List Addr) (S : Sto) (d k : D) (kvs : List (D × D)), RepS G r S H ∧ DV G.K r H d y ∧ DV G.K r H k x ∧ lckD S d = some kvs ∧ okKey k = true ∧ Q (.bl (dget kvs k).isSome) H
def rNotInLck (G : Ctx) : R2 := fun x y H Q => ∃ (r : List Addr) (S : Sto) (d k : D) (kvs : List (D × D)), RepS G r S H ∧ DV G.K r H d y ∧ DV G.K r H k x ∧ lckD S d = some kvs ∧ okKey k = true ∧ Q (.bl (!(dget kvs k).isSome)) H
theorem lck_at {G : Ctx} {r : List Addr} {S : Sto} {H : Hp} {d : D} {x : V} {kvs : List (D × D)} (R : RepS G r S H) (q : DV G.K r H d x) (e : lckD S d = some kvs) : ∃ n a, d = .loc n ∧ x = .ref a ∧ r[n]? = some a ∧ S[n]? = some (.lck kvs) ∧ OV G r H a (.lck kvs) := by
  unfold lckD at e
  split at e
  · rename_i n
    split at e
    · rename_i kvs' e1
      cases e
      obtain ⟨a, ea, rfl⟩ := dv_loc q
      exact ⟨n, a, rfl, rfl, ea, e1, R.at_ _ _ _ e1 ea⟩
    · cases e
  · cases e
theorem op_inLck (hu : X.A.in1.units + 8 < cLine) : OpR X (compareOp .In) (rInLck (gx X ca)) := by
  intro pins s σ H x y v u Q I rx ry h
  obtain ⟨r, S, d, k, kvs, R, q1, q2, e, ok, q⟩ := h
  obtain ⟨n, a, rfl, rfl, ea, e1, ov⟩ := lck_at R q1 e
  cases ry
  obtain ⟨es, o, ents, ep, L⟩ := rlies_of I ov
  show wpAny _ _ (contains (.ref a) v >>= fun b => pure (Value.bool b)) _ _ s
  exact wpAny_bind (rdict_has hu L (kv8_of I q2 rx ok) fun t => wpAny_pure ⟨.bl _, H, I.tok t, rfl, q⟩)
theorem op_notInLck (hu : X.A.in1.units + 8 < cLine) : OpR X (compareOp .NotIn) (rNotInLck (gx X ca)) := by
  intro pins s σ H x y v u Q I rx ry h
  obtain ⟨r, S, d, k, kvs, R, q1, q2, e, ok, q⟩ := h
  obtain ⟨n, a, rfl, rfl, ea, e1, ov⟩ := lck_at R q1 e
  cases ry
  obtain ⟨es, o, ents, ep, L⟩ := rlies_of I ov
  show wpAny _ _ (contains (.ref a) v >>= fun b => pure (Value.bool (!b))) _ _ s
  exact wpAny_bind (rdict_has hu L (kv8_of I q2 rx ok) fun t => wpAny_pure ⟨.bl _, H, I.tok t, rfl, q⟩)
end
section
variable {X : Cx} {ca : CAx}
def rIn1 (G : Ctx) : R2 := fun x y H Q => rInLT G.K x y H Q ∨ rInDct G x y H Q ∨ (fun x y H Q => ∃ i j, x = V.str i ∧ y = V.str j ∧ Q (V.bl (!(Builtin.Str.occurrences j i 0 j.length 1).isEmpty)) H) x y H Q ∨ rInLck G x y H Q
def rNotIn1 (G : Ctx) : R2 := fun x y H Q => rNotInLT G.K x y H Q ∨ rNotInDct G x y H Q ∨ (fun x y H Q => ∃ i j, x = V.str i ∧ y = V.str j ∧ Q (V.bl (!(!(Builtin.Str.occurrences j i 0 j.length 1).isEmpty))) H) x y H Q ∨ rNotInLck G x y H Q
theorem op_in1 {k : Nat} (hr : Room k X.A) : OpR X (compareOp .In) (rIn1 (gx X ca)) := (op_inLT (DL.Room.u65 hr)).or ((op_inDct (u8 hr)).or (op_in_str.or (op_inLck (u8 hr))))
theorem op_notIn1 {k : Nat} (hr : Room k X.A) : OpR X (compareOp .NotIn) (rNotIn1 (gx X ca)) := (op_notInLT (DL.Room.u65 hr)).or ((op_notInDct (u8 hr)).or (op_notin_str.or (op_notInLck (u8 hr))))
def rIx1 (G : Ctx) : R2 := fun x y H Q => rIx G.K x y H Q ∨ rIxD G x y H Q ∨ rIxK G x y H Q
theorem ix_1 {k : Nat} (hr : Room k X.A) : IxR X (rIx1 (gx X ca)) := ix_seq.or ((ix_dict (u8 hr)).or (ix_lck (u8 hr)))
def ixQ : D → D → Sto → Option (D × Sto) := fun a b S => match dctD S a with
  | some kvs => if okKey b = true then (match dget kvs b with
    | some d => some (d, S)
    | none => none) else none
  | none => match lckD S a with
    | some kvs => if okKey b = true then (match dget kvs b with
      | some d => some (d, S)
      | none => none) else none
    | none => ixP a b S
def inQ : D → D → Sto → Option (D × Sto) := fun a b S => match dctD S b with
  | some kvs => if okKey a = true then some (.bl (dget kvs a).isSome, S) else none
  | none => match lckD S b with
   | some kvs => if okKey a = true then some (.bl (dget kvs a).isSome, S) else none
   | none => match a, b with
    | .str x, .str y => some (.bl (!(Builtin.Str.occurrences y x 0 y.length 1).isEmpty), S)
    | _, _ => inP a b S
def notInQ : D → D → Sto → Option (D × Sto) := fun a b S => match dctD S b with
  | some kvs => if okKey a = true then some (.bl (!(dget kvs a).isSome), S) else none
  | none => match lckD S b with
   | some kvs => if okKey a = true then some (.bl (!(dget kvs a).isSome), S) else none
   | none => match a, b with
    | .str x, .str y => some (.bl (!(!(Builtin.Str.occurrences y x 0 y.length 1).isEmpty)), S)
    | _, _ => notInP a b S
variable {G : Ctx}
theorem prim_ix1 : Prim2 G (rIx1 G) ixQ := by
  intro r S H x y v w d S' Q R hv hw h k
  unfold ixQ at h
  split at h
  · rename_i kvs e
    split at h
    · rename_i ok
      split at h
      · rename_i d' e'
        cases h
        exact .inr (.inl ⟨r, _, x, y, kvs, R, hv, hw, e, ok, d, e', fun z qz => k r H z Ext.refl R qz⟩)
      · cases h
    · cases h
  · split at h
    · rename_i kvs e
      split at h
      · rename_i ok
        split at h
        · rename_i d' e'
          cases h
          exact .inr (.inr ⟨r, _, x, y, kvs, R, hv, hw, e, ok, d, e', fun z qz => k r H z Ext.refl R qz⟩)
        · cases h
      · cases h
    · exact .inl (prim_ix r S H x y v w d S' Q R hv hw h k)
theorem prim_in1 : Prim2 G (rIn1 G) inQ := by
  intro r S H x y v w d S' Q R hv hw h k
  unfold inQ at h
  split at h
  · rename_i kvs e
    split at h
    · rename_i ok
      cases h
      exact .inr (.inl ⟨r, _, y, x, kvs, R, hw, hv, e, ok, k r H _ Ext.refl R mk_bl⟩)
    · cases h
  · split at h
    · rename_i kvs e
      split at h
      · rename_i ok
        cases h
        exact .inr (.inr (.inr ⟨r, _, y, x, kvs, R, hw, hv, e, ok, k r H _ Ext.refl R mk_bl⟩))
      · cases h
    · split at h
      · cases h
        rw [dv_str hv, dv_str hw]
        exact .inr (.inr (.inl ⟨_, _, rfl, rfl, k r H _ Ext.refl R mk_bl⟩))
      · exact .inl (prim_in r S H x y v w d S' Q R hv hw h k)
theorem prim_notIn1 : Prim2 G (rNotIn1 G) notInQ := by
  intro r S H x y v w d S' Q R hv hw h k
  unfold notInQ at h
  split at h
  · rename_i kvs e
    split at h
    · rename_i ok
      cases h
      exact .inr (.inl ⟨r, _, y, x, kvs, R, hw, hv, e, ok, k r H _ Ext.refl R mk_bl⟩)
    · cases h
  · split at h
    · rename_i kvs e
      split at h
      · rename_i ok
        cases h
        exact .inr (.inr (.inr ⟨r, _, y, x, kvs, R, hw, hv, e, ok, k r H _ Ext.refl R mk_bl⟩))
      · cases h
    · split at h
      · cases h
        rw [dv_str hv, dv_str hw]
        exact .inr (.inr (.inl ⟨_, _, rfl, rfl, k r H _ Ext.refl R mk_bl⟩))
      · exact .inl (prim_notIn r S H x y v w d S' Q R hv hw h k)
def setP : D → D → D → Sto → Option Sto := fun o i v S => match dctD S o with
  | some kvs => if okKey i = true ∧ kvs.length < sizeLine then (match o with
    | .loc n => some (S.set n (.dct (dput kvs i v)))
    | _ => none) else none
  | none => match o, i with
    | .loc n, .int j => match S[n]? with
      | some (.lst ds) => match ixN ds.length j with
        | some m => some (S.set n (.lst (ds.set m v)))
        | none => none
      | _ => none
    | _, _ => none
def rSetD (G : Ctx) : V → V → V → Hp → (Hp → Prop) → Prop := fun o i v H Q => ∃ (r : List Addr) (S : Sto) (d k z : D) (kvs : List (D × D)), RepS G r S H ∧ DV G.K r H d o ∧ DV G.K r H k i ∧ DV G.K r H z v ∧ dctD S d = some kvs ∧ okKey k = true ∧
  ∀ a es, o = .ref a → H a = some (.ext (RawD G.w a es)) → EntsV G.K r H kvs es → Q (upd H a (.ext (RawD G.w a (eput es k.key i v))))
theorem set_dict (hu : X.A.in1.units + 8 < cLine) : PSet X (rSetD (gx X ca)) := by
  intro pins s σ H o i v ov iv u Q I ro ri rv h
  obtain ⟨r, S, d, k, z, kvs, R, q1, q2, q3, e, ok, q⟩ := h
  obtain ⟨n, a, rfl, rfl, ea, e1, hov⟩ := dct_at R q1 e
  cases ro
  obtain ⟨es, ob, ents, ep, L⟩ := dlies_of I hov
  exact dict_setItem hu I L (kv8_of I q2 ri ok) ri rv fun s' I' => ⟨_, I', q a es rfl L.hp L.ev⟩
def rSet1 (G : Ctx) : V → V → V → Hp → (Hp → Prop) → Prop := fun o i v H Q => rSetL o i v H Q ∨ rSetD G o i v H Q
theorem set_1 {k : Nat} (hr : Room k X.A) : PSet X (rSet1 (gx X ca)) := by
  intro pins s σ H o i v ov iv u Q I ro ri rv h
  rcases h with h | h
  · exact set_list pins s σ H o i v ov iv u Q I ro ri rv h
  · exact set_dict (u8 hr) pins s σ H o i v ov iv u Q I ro ri rv h
theorem RepS.dct {r : List Addr} {S : Sto} {H : Hp} (R : RepS G r S H) {n : Nat} {a : Addr} {kvs : List (D × D)} {es : List Ent} {k z : D} {y v : V} (e : S[n]? = some (.dct kvs)) (ea : r[n]? = some a) (hz : kvs.length < sizeLine) (ev : EntsV G.K r H kvs es) (ok : okKey k = true) (q2 : DV G.K r H k y) (q3 : DV G.K r H z v) :
    Ext G.K r H r (upd H a (.ext (RawD G.w a (eput es k.key y v)))) ∧ RepS G r (S.set n (.dct (dput kvs k z))) (upd H a (.ext (RawD G.w a (eput es k.key y v)))) := by
  obtain ⟨_, sm, nd, _⟩ := R.at_ _ _ _ e ea
  refine R.wr e ea fun x => ⟨?_, sm, nodup_put nd k z, _, upd_same, (ents_put ev ok q2 q3).ext x.w⟩
  have := length_put kvs k z
  omega
theorem prim_set {r : List Addr} {S S' : Sto} {H : Hp} {o i z : D} {x y v : V} {Q : Hp → Prop} (R : RepS G r S H) (q1 : DV G.K r H o x) (q2 : DV G.K r H i y) (q3 : DV G.K r H z v) (h : setP o i z S = some S')
    (k : ∀ r' H', Ext G.K r H r' H' → RepS G r' S' H' → Q H') : rSet1 G x y v H Q := by
  unfold setP at h
  split at h
  · rename_i kvs e
    split at h
    · rename_i ok
      obtain ⟨n, a, rfl, rfl, ea, e1, ov⟩ := dct_at R q1 e
      cases h
      refine .inr ⟨r, S, _, i, z, kvs, R, q1, q2, q3, e, ok.1, fun b es hb he hev => ?_⟩
      cases hb
      obtain ⟨x', R'⟩ := R.dct e1 ea ok.2 hev ok.1 q2 q3
      exact k r _ x' R'
    · cases h
  · split at h
    · split at h
      · rename_i ds e
        split at h
        · rename_i m em
          cases h
          obtain ⟨a, ea, rfl⟩ := dv_loc q1
          obtain ⟨ws, h1, qs⟩ := R.lstAt e ea
          obtain ⟨x', R'⟩ := R.wr (o' := .lst (ds.set m z)) (u := .lst (ws.set m v)) e ea fun x => ⟨_, upd_same, (DVs.ext x _ _ qs).set m (DV.ext x _ _ q3)⟩
          rw [dv_int q2]
          exact .inl ⟨a, ws, _, m, rfl, rfl, h1, by rw [qs.length]; exact em, k r _ x' R'⟩
        · cases h
      · cases h
    · cases h
def gSubM (a b : EM) : GM := fun d env S => match a env S with
  | some (o, S1) => match b env S1 with
    | some (i, S2) => match setP o i d S2 with
      | some S3 => some (env, S3)
      | none => none
    | none => none
  | none => none
theorem dg_sub {k : Nat} {o i : Expr} {ma mb : EM} {pos : Pos} (hr : Room k X.A) (ho : PE X o (liftE (gx X ca) ma)) (hi : PE X i (liftE (gx X ca) mb)) (ha : ∀ v, assign (.Subscript o i pos) X.env v = (do
      let ov ← holding [v] (eval o X.env)
      let iv ← holding [v, ov] (eval i X.env)
      standAt pos
      holding [v, ov, iv] (setItem ov iv v)
      release [v, ov, iv] []) := by intro _; rfl) : PG X (.Subscript o i pos) (liftG (gx X ca) (gSubM ma mb)) :=
  wkG (pg_sub ho hi (set_1 hr) ha) fun v σ H Q ⟨r, env, S, d, env', S', R, W, q, h, k⟩ => by
    unfold gSubM at h
    split at h
    · rename_i x S1 e1
      refine ⟨r, env, S, x, S1, R, W, e1, fun r1 H1 u x1 R1 q1 => ?_⟩
      split at h
      · rename_i y S2 e2
        refine ⟨r1, env, S1, y, S2, R1, W.ext x1, e2, fun r2 H2 w x2 R2 q2 => ?_⟩
        split at h
        · rename_i S3 e3
          cases h
          exact prim_set R2 (DV.ext x2 _ _ q1) q2 (DV.ext (x1.trans x2) _ _ q) e3 fun r3 H3 x3 R3 => k r3 σ H3 (x1.trans (x2.trans x3)) R3 (W.ext (x1.trans (x2.trans x3)))
        · cases h
      · cases h
    · cases h
abbrev PMs := List (EM × EM)
def evPairs : PMs → Vars → Sto → Option (List (D × D) × Sto)
  | [], _, S => some ([], S)
  | (a, b) :: ps, env, S => match a env S with
    | some (x, S1) => match b env S1 with
      | some (y, S2) => match evPairs ps env S2 with
        | some (r, S3) => some ((x, y) :: r, S3)
        | none => none
      | none => none
    | none => none
def mDisp (ps : PMs) : EM := fun env S => match evPairs ps env S with
  | some (kvs, S1) => if kvs.all (fun p => okKey p.1) = true then some (.loc S1.length, S1 ++ [.dct (kvs.foldl (fun d p => dput d p.1 p.2) [])]) else none
  | none => none
theorem lift_pairs : ∀ (ps : PMs) (r : List Addr) (env : Vars) (S : Sto) (kvs : List (D × D)) (S' : Sto) (σ : L2.St) (H : Hp) (Q : List (V × V) → Hp → Prop), RepS G r S H → VarsV G.K r H env σ → evPairs ps env S = some (kvs, S') →
    (∀ r' H' vs, Ext G.K r H r' H' → RepS G r' S' H' → Paired (fun (p : D × D) (q : V × V) => DV G.K r' H' p.1 q.1 ∧ DV G.K r' H' p.2 q.2) kvs vs → Q vs H') → tPairs (ps.map fun p => (liftE G p.1, liftE G p.2)) σ H Q
  | [], r, env, S, kvs, S', σ, H, Q, R, W, h, k => by
    cases h
    exact k r H [] Ext.refl R .nil
  | (a, b) :: ps, r, env, S, kvs, S', σ, H, Q, R, W, h, k => by
    unfold evPairs at h
    split at h
    · rename_i x S1 e1
      refine ⟨r, env, S, x, S1, R, W, e1, fun r1 H1 v x1 R1 q1 => ?_⟩
      split at h
      · rename_i y S2 e2
        refine ⟨r1, env, S1, y, S2, R1, W.ext x1, e2, fun r2 H2 w x2 R2 q2 => ?_⟩
        split at h
        · rename_i rr S3 e3
          cases h
          refine lift_pairs ps r2 env S2 rr _ σ H2 _ R2 (W.ext (x1.trans x2)) e3 fun r3 H3 vs x3 R3 q3 => ?_
          exact k r3 H3 _ (x1.trans (x2.trans x3)) R3 (.cons ⟨DV.ext (x2.trans x3) _ _ q1, DV.ext x3 _ _ q2⟩ q3)
        · cases h
      · cases h
    · cases h
end
abbrev PrV (K : PySem.W.Frag) (r : List Addr) (H : Hp) : List (D × D) → List (V × V) → Prop := Paired fun (p : D × D) (q : V × V) => DV K r H p.1 q.1 ∧ DV K r H p.2 q.2
theorem PrV.ext {K r H r' H'} (x : ExtW K r H r' H') {l : List (D × D)} {m : List (V × V)} (h : PrV K r H l m) : PrV K r' H' l m := Paired.mapP h fun _ _ q => ⟨DV.extW x _ _ q.1, DV.extW x _ _ q.2⟩
section
variable {X : Cx} {ca : CAx} {pins : List (Addr × Obj)} {σ : L2.St} {r : List Addr} {a : Addr} {A : Around} {E : Value → Shared → Prop}
theorem dlies_mk {H : Hp} {s : Shared} {kvs : List (D × D)} {es : List Ent} (I : Inv X pins σ H s) (hp : H a = some (.ext (RawD X.w a es))) (sm : (a == sysModules) = false) (sz : kvs.length ≤ sizeLine) (nd : (dkeys kvs).Nodup) (ev : EntsV X.K r H kvs es) : ∃ o ents ep, DLies X r H s a kvs es o ents ep := by
  obtain ⟨⟨o, ents, ep, g1, g2, g3, g4⟩, _⟩ := I.hok a _ hp
  exact ⟨o, ents, ep, hp, sm, sz, nd, ev, g1, g2, g3, g4, ksOf_of I ev g4⟩
theorem extW_raw {H : Hp} {es es' : List Ent} {w : World} {K : PySem.W.Frag} (hp : H a = some (.ext (RawD w a es))) : ExtW K r H r (upd H a (.ext (RawD w a es'))) := ⟨List.prefix_refl _, fun _ _ h => sqT_wr hp (fun _ z => by cases z) (fun _ _ z => by cases z) h, fun _ _ h => scL_wr hp (fun _ _ z => by cases z) h⟩
theorem upd_self {H : Hp} {o : HO} (h : H a = some o) : upd H a o = H := by
  funext b
  unfold upd
  by_cases hb : b = a
  · rw [if_pos hb, hb, h]
  · rw [if_neg hb]
theorem store_pairs (hu : A.units + 8 < cLine) (sm : (a == sysModules) = false) (H0 : Hp) (kvs : List (D × D)) : ∀ (vs : List (V × V)) (us : List (Value × Value)) (acc : List (D × D)) (es : List Ent) (s : Shared) (Q : PUnit → Shared → Prop),
    Inv X pins σ (upd H0 a (.ext (RawD X.w a es))) s → (∃ u, H0 a = some u ∧ (∀ xs, u ≠ .tup xs) ∧ ∀ ob z, u ≠ .frz ob z) → EntsV X.K r H0 acc es → (dkeys acc).Nodup → PrV X.K r H0 kvs vs → VV vs us → kvs.all (fun p => okKey p.1) = true → acc.length + kvs.length ≤ sizeLine →
    (∀ es' s', Inv X pins σ (upd H0 a (.ext (RawD X.w a es'))) s' → EntsV X.K r H0 (kvs.foldl (fun d p => dput d p.1 p.2) acc) es' → (dkeys (kvs.foldl (fun d p => dput d p.1 p.2) acc)).Nodup → Q PUnit.unit s') →
    wpAny (model X.prog X.w) A (forIn us PUnit.unit fun (x : Value × Value) (_ : PUnit) => (do dictSet a x.1 x.2; pure (ForInStep.yield PUnit.unit) : Sem (ForInStep PUnit))) Q E s := by
  induction kvs with
  | nil =>
    intro vs us acc es s Q I hp ev nd hv hw _ _ k
    cases hv
    cases hw
    rw [List.forIn_nil]
    exact wpAny_pure (k es s I ev nd)
  | cons p kvs ih =>
    intro vs us acc es s Q I hp ev nd hv hw ok hz k
    cases hv with
    | @cons _ pv _ vs q qs =>
      cases hw with
      | @cons _ pu _ us u1 us1 =>
        rw [List.all_cons, Bool.and_eq_true] at ok
        rw [List.length_cons] at hz
        obtain ⟨z0, hz0, hz1, hz2⟩ := hp
        have x : ExtW X.K r H0 r (upd H0 a (.ext (RawD X.w a es))) := ⟨List.prefix_refl _, fun _ _ h => sqT_wr hz0 hz1 hz2 h, fun _ _ h => scL_wr hz0 hz2 h⟩
        obtain ⟨o, ents, ep, L⟩ := dlies_mk (r := r) I upd_same sm (by omega) nd (ev.ext x)
        rw [List.forIn_cons]
        refine wpAny_bind (wpAny_bind (dict_put hu I L (kv8_of I (DV.extW x _ _ q.1) u1.1 ok.1) u1.1 u1.2 fun s1 I1 => wpAny_pure ?_))
        rw [upd_upd] at I1
        exact ih _ _ (dput acc p.1 p.2) _ s1 Q I1 ⟨z0, hz0, hz1, hz2⟩ (ents_put ev ok.1 q.1 q.2) (nodup_put nd _ _) qs us1 ok.2 (by have := length_put acc p.1 p.2; omega) k
theorem raw_empty {w : World} {h : Heap} : RawD w h.objs.size [] (h.push { cls := .type "dict", data := .dict #[] }) := ⟨_, #[], 0, Heap.get?_push_size _ rfl, ⟨rfl, rfl, rfl⟩, rfl, .nil⟩
theorem RepS.regD {G : Ctx} {H : Hp} {S : Sto} (R : RepS G r S H) {es : List Ent} {kvs : List (D × D)} (hp : H a = some (.ext (RawD G.w a es))) (hr : a ∉ r) (sm : (a == sysModules) = false) (hz : kvs.length ≤ sizeLine) (nd : (dkeys kvs).Nodup) (ev : EntsV G.K r H kvs es) : ExtW G.K r H (r ++ [a]) H ∧ RepS G (r ++ [a]) (S ++ [.dct kvs]) H := by
  have x : ExtW G.K r H (r ++ [a]) H := ⟨List.prefix_append _ _, fun _ _ h => h, fun _ _ h => h⟩
  refine ⟨x, by simp [R.len], ?_, fun n o' b e1 e2 => ?_, fun q hq => (R.tabs q hq).reg hp (fun _ z => by cases z) (fun _ z => codeO_raw rfl z.symm), fun q hq => (R.clos q hq).reg hp (fun _ z => codeO_raw rfl z.symm)⟩
  · rw [List.nodup_append]
    exact ⟨R.nd, by simp, fun y hy z hz => by simp at hz; subst hz; exact fun q => hr (q ▸ hy)⟩
  · by_cases hn : n < S.length
    · rw [List.getElem?_append_left hn] at e1
      rw [List.getElem?_append_left (by rw [R.len]; exact hn)] at e2
      exact (R.at_ n o' b e1 e2).ext x rfl
    · have hn' : n = S.length := by
        have := (List.getElem?_eq_some_iff.mp e1).1
        simp at this; omega
      subst hn'
      simp at e1
      rw [← R.len] at e2
      simp at e2
      subst e1 e2
      exact ⟨hz, sm, nd, es, hp, ev.ext x⟩
theorem fold_len (kvs : List (D × D)) : ∀ acc : List (D × D), (kvs.foldl (fun d p => dput d p.1 p.2) acc).length ≤ acc.length + kvs.length := by
  induction kvs with
  | nil => intro acc; exact Nat.le_refl _
  | cons p kvs ih =>
    intro acc
    have h1 := ih (dput acc p.1 p.2)
    have h2 := length_put acc p.1 p.2
    rw [List.foldl_cons, List.length_cons]
    omega
theorem de_disp {k : Nat} {keys : List (Option Expr)} {values : List Expr} {ps : PMs} {pos : Pos} (hr : Room k X.A) (h : PPs X pos keys values (ps.map fun p => (liftE (gx X ca) p.1, liftE (gx X ca) p.2))) (hall : keys.all (·.isSome) = true := by rfl) (hl : keys.length = values.length := by rfl) (h0 : keys ≠ [] := by (intro z; cases z))
    (h15 : keys.length ≤ 15 := by decide) : PE X (.Dict keys values pos) (liftE (gx X ca) (mDisp ps)) := by
  refine ⟨fun pins s σ H Q I ⟨r, env, S, d, S', R, W, hm, kq⟩ => ?_⟩
  unfold mDisp at hm
  split at hm
  · rename_i kvs S1 e1
    split at hm
    · rename_i ok
      cases hm
      have hn := I.hok.fresh (Nat.le_refl s.heap.objs.size)
      have hpl := pairTrees_length keys values X.env pos hall hl
      have I1 : Inv X pins σ (upd H s.heap.objs.size (.ext (RawD X.w s.heap.objs.size []))) { s with heap := s.heap.push { cls := .type "dict", data := .dict #[] } } :=
        I.laid (t' := s.toks) (fun _ _ q => Heap.get?_push_of_some _ q) (Nat.le_refl _) raw_empty.ok
      have sm : (s.heap.objs.size == sysModules) = false := (dk_empty (P := X.prog) (w := X.w) (H := H) s.heap I.big).2.1
      obtain ⟨x1, R1⟩ := R.side (u := .ext (RawD X.w s.heap.objs.size [])) hn
      rw [arm_eval_Dict, zip_pairTrees keys values X.env pos hall hl, dictDisplay_pairs _ (by intro z; rw [z] at hpl; exact h0 (List.length_eq_zero_iff.mp hpl.symm)) (by omega)]
      refine wpAny_bind (wpAny_standAt (wpAny_bind ?_))
      unfold subDict
      refine wpAny_bind (wpAny_alloc (wpAny_bind (wpAny_holding ?_)))
      rw [if_pos (by omega)]
      refine wpAny_bind (wpAny_mono (wpAny_evalPairs_len (h.run pins _ σ _ (fun vs H2 => ∃ r2, Ext X.K r H r2 H2 ∧ RepS (gx X ca) r2 S1 H2 ∧ H2 s.heap.objs.size = some (.ext (RawD X.w s.heap.objs.size [])) ∧ s.heap.objs.size ∉ r2 ∧ PrV X.K r2 H2 kvs vs) I1 ?_)) (fun us s2 hq => ?_) fun _ _ e => e)
      · refine lift_pairs ps r env S kvs _ σ _ _ R1 (W.ext x1) e1 fun r2 H2 vs x2 R2 q2 => ?_
        obtain ⟨f1, f2⟩ := x2.frame _ _ upd_same (R.free hn)
        exact ⟨r2, x1.trans x2, R2, f1, f2, q2⟩
      · obtain ⟨hlen, vs, H2, I2, rel, r2, x2, R2, f1, f2, q2⟩ := hq
        have hle := paired_len q2
        have hle2 := paired_len rel
        have sl : (sizeLine : Nat) = 16777216 := sizeLine_eq
        have hk15 : kvs.length ≤ 15 := by omega
        have I2' : Inv X pins σ (upd H2 s.heap.objs.size (.ext (RawD X.w s.heap.objs.size []))) s2 := by rw [upd_self f1]; exact I2
        refine wpAny_holding (wpAny_bind (store_pairs (r := r2) (by have := hr.un; omega) sm H2 kvs vs us [] [] s2 _ I2' ⟨_, f1, (fun _ z => by cases z), (fun _ _ z => by cases z)⟩ .nil List.nodup_nil q2 rel ok (by simp; omega) fun es' s' I' ev0 nd' => wpAny_pure (wpAny_pure (wpAny_pure ?_))))
        have ev' := ev0.ext (extW_raw (r := r2) (K := X.K) (es' := es') f1)
        have y := extW_raw (r := r2) (K := X.K) (es' := es') f1
        have R3 : RepS (gx X ca) r2 S1 (upd H2 s.heap.objs.size (.ext (RawD X.w s.heap.objs.size es'))) :=
          ⟨R2.len, R2.nd, fun n o b z1 z2 => (R2.at_ n o b z1 z2).ext y (upd_ne (by rintro rfl; exact f2 (List.mem_of_getElem? z2))), fun q hq => (R2.tabs q hq).wr f1 (fun _ z => by cases z) (fun _ z => codeO_raw rfl z.symm), fun q hq => (R2.clos q hq).wr f1 (fun _ z => by cases z) (fun _ z => codeO_raw rfl z.symm)⟩
        have hfl := fold_len kvs []
        obtain ⟨y2, R4⟩ := R3.regD upd_same f2 sm (by simp at hfl; omega) nd' ev'
        refine ⟨.ref s.heap.objs.size, _, I', rfl, kq (r2 ++ [s.heap.objs.size]) _ _ ⟨x2.pre.trans y2.pre, fun b us hb => y2.tups _ _ (y.tups _ _ (x2.tups _ _ hb)), fun b us hb => y2.scrs _ _ (y.scrs _ _ (x2.scrs _ _ hb)), fun b z hb hn2 nt => ?_, fun b od u hb => by rw [upd_ne (ne_of_none hb hn)]; exact x2.frzs b od u hb⟩ R4 R3.newLoc⟩
        obtain ⟨z1, z2⟩ := x2.frame b z hb hn2 nt
        have hne := ne_of_none hb hn
        exact ⟨by rw [upd_ne hne]; exact z1, by simp [z2, hne]⟩
    · cases hm
  · cases hm
theorem de_dnew {k : Nat} {pos : Pos} : PE X (.Dict [] [] pos) (liftE (gx X ca) (fun _ S => some (.loc S.length, S ++ [.dct []]))) := by
  refine ⟨fun pins s σ H Q I ⟨r, env, S, d, S', R, W, hm, kq⟩ => ?_⟩
  cases hm
  have hn := I.hok.fresh (Nat.le_refl s.heap.objs.size)
  have I1 : Inv X pins σ (upd H s.heap.objs.size (.ext (RawD X.w s.heap.objs.size []))) { s with heap := s.heap.push { cls := .type "dict", data := .dict #[] } } :=
    I.laid (t' := s.toks) (fun _ _ q => Heap.get?_push_of_some _ q) (Nat.le_refl _) raw_empty.ok
  have sm : (s.heap.objs.size == sysModules) = false := (dk_empty (P := X.prog) (w := X.w) (H := H) s.heap I.big).2.1
  obtain ⟨x1, R1⟩ := R.new (u := .ext (RawD X.w s.heap.objs.size [])) (o := .dct []) hn fun x => ⟨Nat.zero_le _, sm, List.nodup_nil, [], upd_same, .nil⟩
  exact wpAny_Dict_empty ⟨.ref s.heap.objs.size, _, I1, rfl, kq _ _ _ x1 R1 R.newLoc⟩
end
end DL
namespace DL
open PySem PySem.Spec L2
open PyProof.Rows hiding St
def lStar (a : EM) (l : LM) : LM := fun env S => match a env S with
  | some (d, S1) => match seqD S1 d with
    | some ds => match l env S1 with
      | some (es, S2) => some (ds ++ es, S2)
      | none => none
    | none => none
  | none => none
section
variable {X : Cx} {ca : CAx} {e a b c : Expr} {es : List Expr} {ma mb mc : EM} {la : LM} {p pos : Pos}
theorem la_star (he : PE X e (liftE (gx X ca) ma)) (hr : PA X es (liftL (gx X ca) la)) (hs : starEach (.Starred e p :: es) X.env = (true, eval e X.env) :: starEach es X.env := by rfl) : PA X (.Starred e p :: es) (liftL (gx X ca) (lStar ma la)) :=
  wkA (StX.pa_star he hr hs) fun σ H Q ⟨r, env, S, ds, S', R, W, h, k⟩ => by
    unfold lStar at h
    split at h
    · rename_i d S1 e1
      split at h
      · rename_i ds1 e2
        split at h
        · rename_i es1 S2 e3
          cases h
          refine ⟨r, env, S, d, S1, R, W, e1, fun r1 H1 v x1 R1 q1 => ?_⟩
          obtain ⟨ad, vs, rfl, h2, h3⟩ := seq_cases R1 q1 e2
          refine ⟨ad, vs, rfl, ?_, r1, env, S1, es1, _, R1, W.ext x1, e3, fun r2 H2 us x2 R2 q2 => ?_⟩
          · rcases h3 with ⟨_, z⟩ | ⟨_, _, _, z⟩
            · exact .inl z
            · exact .inr z
          · exact k r2 H2 _ (x1.trans x2) R2 ((DVs.ext x2 _ _ h2).append q2)
        · cases h
      · cases h
    · cases h
def sAug (i : Nat) (p : D → D → Sto → Option (D × Sto)) (m : EM) : SM := fun env S => match env[i]? with
  | some (some x) => match m env S with
    | some (y, S1) => match p x y S1 with
      | some (z, S2) => some (.nx, env.set i (some z), S2)
      | none => none
    | none => none
  | _ => none
theorem ds_aug {i : Nat} {x : Str} {op : Operator} {t : R2} {q : D → D → Sto → Option (D × Sto)} {pos' : Pos} (hN : X.N.Nodup) (ho : OpR X (inplaceOp op) t) (hp : Prim2 (gx X ca) t q) (he : PE X e (liftE (gx X ca) ma)) (hi : X.N[i]? = some x := by rfl) (hx : Loc X.env.scope x := by first | exact Or.inl rfl | exact Or.inr rfl) (hf : X.fn x = true ∨ X.env.scope.names.lookup x = some .local := by first | exact .inl rfl | exact .inr rfl | assumption) :
    PS X (.AugAssign (.Name x pos') op e pos) (liftS (gx X ca) (sAug i q ma)) :=
  wkS (ps_aug hN hi hx he (ti := t) (fun pins s σ H x y v u Q I r1 r2 h => ho pins s σ H x y v u Q I r1 r2 h) hf) fun E σ H ⟨r, env, S, fl, env', S', R, W, h, k⟩ => by
    unfold sAug at h
    split at h
    · rename_i x e0
      split at h
      · rename_i y S1 e1
        split at h
        · rename_i z S2 e2
          cases h
          obtain ⟨v, ev, qv⟩ := W.at_ i x e0
          refine ⟨v, ev, r, env, S, y, S1, R, W, e1, fun r1 H1 w x1 R1 q1 => ?_⟩
          exact hp r1 S1 H1 x y v w z _ _ R1 (DV.ext x1 _ _ qv) q1 e2 fun r2 H2 u x2 R2 q2 => k r2 _ H2 (x1.trans x2) R2 ((W.ext (x1.trans x2)).set i q2)
        · cases h
      · cases h
    · cases h
theorem lift_chain {G : Ctx} {t t' : R2} {p q : D → D → Sto → Option (D × Sto)} (hp : Prim2 G t p) (hq : Prim2 G t' q) {σ : L2.St} {H : Hp} {Q : VK} (h : liftE G (mChain p q ma mb mc) σ H Q) :
    liftE G ma σ H fun x H1 => liftE G mb σ H1 fun y H2 => t x y H2 fun z H3 => ∃ k, z = .bl k ∧ if k = true then liftE G mc σ H3 fun w H4 => t' y w H4 Q else Q (.bl false) H3 := by
  obtain ⟨r, env, S, d, S', R, W, h, k⟩ := h
  unfold mChain at h
  split at h
  · rename_i x S1 e1
    refine ⟨r, env, S, x, S1, R, W, e1, fun r1 H1 v x1 R1 q1 => ?_⟩
    split at h
    · rename_i y S2 e2
      refine ⟨r1, env, S1, y, S2, R1, W.ext x1, e2, fun r2 H2 w x2 R2 q2 => ?_⟩
      split at h
      · rename_i S3 e3
        refine hp r2 S2 H2 x y v w _ S3 _ R2 (DV.ext x2 _ _ q1) q2 e3 fun r3 H3 u x3 R3 q3 => ⟨true, dv_bl q3, iteT ?_⟩
        split at h
        · rename_i z S4 e4
          refine ⟨r3, env, S3, z, S4, R3, W.ext (x1.trans (x2.trans x3)), e4, fun r4 H4 u4 x4 R4 q4 => ?_⟩
          exact hq r4 S4 H4 y z w u4 d S' Q R4 (DV.ext (x3.trans x4) _ _ q2) q4 h fun r5 H5 u5 x5 R5 q5 => k r5 H5 u5 (x1.trans (x2.trans (x3.trans (x4.trans x5)))) R5 q5
        · cases h
      · rename_i S3 e3
        cases h
        refine hp r2 S2 H2 x y v w _ _ _ R2 (DV.ext x2 _ _ q1) q2 e3 fun r3 H3 u x3 R3 q3 => ⟨false, dv_bl q3, iteF ?_⟩
        exact k r3 H3 _ (x1.trans (x2.trans x3)) R3 mk_bl
      · cases h
    · cases h
  · cases h
end
def topOf (p : Program) (i : Nat) : Stmt := p.main.body.getD i (.Pass ⟨0, 0, 0, 0⟩)
end DL
namespace DL
open PySem PySem.Spec L2
open PyProof.Rows hiding St
section
variable {X : Cx} {ca : CAx} {a b c : Expr} {ma mb mc : EM} {pos : Pos}
theorem dt_chain {op op' : CmpOp} {t t' : R2} {p q : D → D → Sto → Option (D × Sto)} (ho : OpR X (compareOp op) t) (hp : Prim2 (gx X ca) t p) (ho' : OpR X (compareOp op') t') (hq : Prim2 (gx X ca) t' q) (ha : PE X a (liftE (gx X ca) ma)) (hb : PE X b (liftE (gx X ca) mb)) (hc : PE X c (liftE (gx X ca) mc))
    (hm : lastMarks [op, op'] [b, c] = false := by with_unfolding_all rfl) : PT X (.Compare a [op, op'] [b, c] pos) (liftB (gx X ca) (bV (mChain p q ma mb mc))) :=
  wkT (pt_chain ho ho' ha hb hc hm) fun σ H Q h => by
    have h1 := liftV h
    exact lift_chain hp hq h1
end
def mDNew : EM := fun _ S => some (.loc S.length, S ++ [.dct []])
structure AllF (P : Program) (w : World) (K : PySem.W.Frag) (mg : Str → Option Value) (base : Heap) (ca : CAx) (psN : Nat → List Str) (a : Nat → Addr) (fd : Nat → FuncData) (k : Nat) (cl : Nat → FM) : Prop where
  F : ∀ g, FnOk P w K mg base CX0 k (a g) (fd g) (psN g) (spD ⟨K, w, ca⟩ (psN g).length (cl g))
structure AllF2 (P : Program) (w : World) (K : PySem.W.Frag) (mg : Str → Option Value) (base : Heap) (ca : CAx) (psN : Nat → List Str) (a : Nat → Addr) (fd : Nat → FuncData) (k : Nat) (cl : Nat → FM) : Prop where
  F : ∀ g, FnOk P w K mg base CX0 (k - 2) (a g) (fd g) (psN g) (spD ⟨K, w, ca⟩ (psN g).length (cl g))
  z : k < 2 → ∀ g ds S, cl g ds S = none
noncomputable def callsOf (bd : (Nat → FM) → (Nat → FM) → Nat → FM) : Nat → Nat → FM
  | 0 => fun _ _ _ => none
  | 1 => bd (callsOf bd 0) (callsOf bd 0)
  | 2 => bd (callsOf bd 1) (callsOf bd 0)
  | k + 3 => bd (callsOf bd (k + 2)) (callsOf bd k)
def OnlyT (tb : List (Addr × Str)) (H : Hp) : Prop := (∀ b, H b = none ∨ H b = some (.tbl #[]) ∨ ∃ o xs, H b = some (.frz o (.lst xs))) ∧ ∀ p ∈ tb, H p.1 = some (.tbl #[])
theorem Only.t {H : Hp} (h : Only H) : OnlyT [] H := ⟨fun b => (h b).elim .inl fun z => .inr (.inr z), fun _ z => by cases z⟩
theorem TabR.nil {H : Hp} {P : Addr} {q : Str} (h : H P = some (.tbl #[])) : TabR [] H P q := ⟨by simp, #[], h, True.intro, fun pos cv hc => by
  have z : codeAmong pos [] = some cv := hc
  simp [codeAmong] at z⟩
theorem sp_law {G : Ctx} {m : FM} {n : Nat} (hm : ∀ ns : List Int, ns.length ≤ n → ∃ S', m [.scr ns] [] = some (.bl true, S')) (H : Hp) (a : Addr) (ns : List Int) (hl : ns.length ≤ n) (ho : OnlyT G.ca.tb H) (hS : SqL G.K H a (ns.map V.int)) (hv : G.ca.cv = [] := by rfl) :
    spD G 1 m [.ref a] H (fun v _ => v = .bl true) fun _ _ _ => False := by
  obtain ⟨S', e⟩ := hm ns hl
  refine ⟨[], [], [.scr ns], .bl true, S', ⟨rfl, List.nodup_nil, fun n o a h => by simp at h, fun q hq => TabR.nil (ho.2 q hq), fun q hq => by rw [hv] at hq; cases hq⟩, DVs.cons ?_ DVs.nil, rfl, e, fun r' H' v _ _ q => dv_bl q⟩
  unfold DV
  refine ⟨a, rfl, ?_⟩
  rcases hS with (h | h) | h
  · rcases ho.1 a with z | z | ⟨o, xs, z⟩ <;> rw [h] at z <;> cases z
  · exact .inl h
  · exact .inr h
end DL
namespace DL
open PySem PySem.Spec L2
open PyProof.Rows hiding St
open PySem.W (keyToks keyToksAll dataLt EachIs dataKind)
def tokLt (x y : D) : Bool := PyProof.Rows.lexLt itemOrd (keyToks x.py) (keyToks y.py)
def leT (x y : D) : Bool := !tokLt y x
mutual
theorem toks_eqv : ∀ (x y : PyData), PyData.eqv x y = true → keyToks x = keyToks y
  | .none, y, h => by cases y <;> first | rfl | (simp [PyData.eqv] at h)
  | .bool a, y, h => by
    cases y with
    | bool b => have e : a = b := by simpa [PyData.eqv] using h
                rw [e]
    | int j => have e : (if a then 1 else 0) = j := by simpa [PyData.eqv] using h
               simp only [keyToks, ← e]
    | _ => simp [PyData.eqv] at h
  | .int i, y, h => by
    cases y with
    | bool b => have e : i = (if b then 1 else 0) := by simpa [PyData.eqv] using h
                simp only [keyToks, e]
    | int j => have e : i = j := by simpa [PyData.eqv] using h
               rw [e]
    | _ => simp [PyData.eqv] at h
  | .str x, y, h => by
    cases y with
    | str j => have e : x = j := by simpa [PyData.eqv] using h
               rw [e]
    | _ => simp [PyData.eqv] at h
  | .list xs, y, h => by
    cases y with
    | list ys => simp only [keyToks]; exact toks_eqvAll xs ys (by simpa [PyData.eqv] using h)
    | _ => simp [PyData.eqv] at h
  | .tuple xs, y, h => by
    cases y with
    | tuple ys => simp only [keyToks]; exact toks_eqvAll xs ys (by simpa [PyData.eqv] using h)
    | _ => simp [PyData.eqv] at h
  | .dict _, y, h => by cases y <;> simp [PyData.eqv] at h
theorem toks_eqvAll : ∀ (xs ys : List PyData), PyData.eqvAll xs ys = true → keyToksAll xs = keyToksAll ys
  | [], [], _ => rfl
  | [], _ :: _, h => by simp [PyData.eqvAll] at h
  | _ :: _, [], h => by simp [PyData.eqvAll] at h
  | x :: xs, y :: ys, h => by
    simp only [PyData.eqvAll, Bool.and_eq_true] at h
    simp only [keyToksAll]
    rw [toks_eqv x y h.1, toks_eqvAll xs ys h.2]
end
mutual
/-- where < is told and the two differ, the tokens tell it, whatever follows -/
theorem toks_ltD : ∀ (x y : D) (c : Bool), ltD x y = some c → PyData.eqv x.py y.py = false → ∀ l m, PyProof.Rows.lexLt itemOrd (keyToks x.py ++ l) (keyToks y.py ++ m) = c
  | .int i, y, c, h, hq, l, m => by
    cases y with
    | int j =>
      simp only [ltD, Option.some.injEq] at h
      subst h
      have hne : i ≠ j := fun e => by subst e; simp [D.py, PyData.eqv] at hq
      simp only [D.py, keyToks, List.cons_append, List.nil_append]
      rw [PyProof.Rows.lex_diff (O := itemOrd) (fun e => hne (Sum.inl.inj e))]
      rfl
    | _ => cases h
  | .str i, y, c, h, hq, l, m => by
    cases y with
    | str j =>
      simp only [ltD, Option.some.injEq] at h
      subst h
      have hne : i ≠ j := fun e => by subst e; simp [D.py, PyData.eqv] at hq
      simp only [D.py, keyToks, List.cons_append, List.nil_append]
      rw [PyProof.Rows.lex_diff (O := itemOrd) (fun e => hne (PySem.W.str_of_cps (Sum.inr.inj e)))]
      rfl
    | _ => cases h
  | .tup xs, y, c, h, hq, l, m => by
    cases y with
    | tup ys =>
      simp only [D.py, keyToks]
      exact toks_ltDs xs ys c (by simpa [ltD] using h) (by simpa [D.py, PyData.eqv] using hq) l m
    | _ => cases h
  | .non, y, _, h, _, _, _ => by cases y <;> cases h
  | .bl _, y, _, h, _, _, _ => by cases y <;> cases h
  | .loc _, y, _, h, _, _, _ => by cases y <;> cases h
  | .scr _, y, _, h, _, _, _ => by cases y <;> cases h
  | .fn _, y, _, h, _, _, _ => by cases y <;> cases h
  | .clo _ _, y, _, h, _, _, _ => by cases y <;> cases h
theorem toks_ltDs : ∀ (xs ys : List D) (c : Bool), ltDs xs ys = some c → PyData.eqvAll (D.pys xs) (D.pys ys) = false → ∀ l m, PyProof.Rows.lexLt itemOrd (keyToksAll (D.pys xs) ++ l) (keyToksAll (D.pys ys) ++ m) = c
  | [], [], c, h, hq, l, m => by simp [D.pys, PyData.eqvAll] at hq
  | [], y :: ys, c, h, hq, l, m => by
    simp only [ltDs, Option.some.injEq] at h
    subst h
    simp only [D.pys, keyToksAll, List.cons_append, List.nil_append]
    rw [PyProof.Rows.lex_diff (O := itemOrd) (by simp)]
    rfl
  | x :: xs, [], c, h, hq, l, m => by
    simp only [ltDs, Option.some.injEq] at h
    subst h
    simp only [D.pys, keyToksAll, List.cons_append, List.nil_append]
    rw [PyProof.Rows.lex_diff (O := itemOrd) (by simp)]
    rfl
  | x :: xs, y :: ys, c, h, hq, l, m => by
    simp only [ltDs] at h
    simp only [D.pys, keyToksAll, List.cons_append, List.append_assoc]
    rw [PyProof.Rows.lex_self]
    split at h
    · rename_i he
      rw [toks_eqv _ _ he, PySem.W.lex_pre]
      exact toks_ltDs xs ys c h (by simpa [D.pys, PyData.eqvAll, he] using hq) l m
    · rename_i he
      rw [Bool.not_eq_true] at he
      exact toks_ltD x y c h he _ _
end
theorem ltD_eqv : ∀ (x y : D) (c : Bool), ltD x y = some c → PyData.eqv x.py y.py = true → c = false := by
  have go : ∀ (xs ys : List D) (c : Bool), ltDs xs ys = some c → PyData.eqvAll (D.pys xs) (D.pys ys) = true → c = false := by
    intro xs
    induction xs with
    | nil =>
      intro ys c h hq
      cases ys with
      | nil => simp [ltDs] at h; exact h
      | cons y ys => simp [D.pys, PyData.eqvAll] at hq
    | cons x xs ih =>
      intro ys c h hq
      cases ys with
      | nil => simp [D.pys, PyData.eqvAll] at hq
      | cons y ys =>
        simp only [D.pys, PyData.eqvAll, Bool.and_eq_true] at hq
        simp only [ltDs, hq.1, if_true] at h
        exact ih ys c h hq.2
  intro x y c h hq
  cases x with
  | int i =>
    cases y with
    | int j =>
      simp only [ltD, Option.some.injEq] at h
      have : i = j := by simpa [D.py, PyData.eqv] using hq
      subst this
      simpa using h.symm
    | _ => cases h
  | str i =>
    cases y with
    | str j =>
      simp only [ltD, Option.some.injEq] at h
      have : i = j := by simpa [D.py, PyData.eqv] using hq
      subst this
      rw [← h]
      simp [List.lt_irrefl]
    | _ => cases h
  | tup xs =>
    cases y with
    | tup ys => exact go xs ys c (by simpa [ltD] using h) (by simpa [D.py, PyData.eqv] using hq)
    | _ => cases h
  | _ => cases y <;> cases h
theorem tokLt_of {x y : D} {c : Bool} (h : ltD x y = some c) : tokLt x y = c := by
  unfold tokLt
  cases hq : PyData.eqv x.py y.py with
  | true =>
    rw [toks_eqv _ _ hq, PyProof.Rows.lex_irrefl]
    exact (ltD_eqv x y c h hq).symm
  | false =>
    have := toks_ltD x y c h hq [] []
    simpa using this
def kTy : D → Option Nat
  | .int _ => some 0
  | .str _ => some 1
  | .tup (.int _ :: _) => some 2
  | .tup (.str _ :: _) => some 3
  | .tup (.tup _ :: _) => some 4
  | _ => none
def sortOk (ks : List D) : Bool := ks.all (fun a => a.pure && SeqAt.shaped a.py && (kTy a).isSome && ks.all fun b => (ltD a b).isSome && decide (kTy a = kTy b))
theorem sortOk_at {ks : List D} (h : sortOk ks = true) {a : D} (ha : a ∈ ks) : a.pure = true ∧ SeqAt.shaped a.py = true ∧ (kTy a).isSome = true ∧ ∀ b ∈ ks, (∃ c, ltD a b = some c) ∧ kTy a = kTy b := by
  unfold sortOk at h
  have := List.all_eq_true.mp h a ha
  simp only [Bool.and_eq_true, List.all_eq_true, decide_eq_true_eq] at this
  obtain ⟨⟨⟨h1, h2⟩, h3⟩, h4⟩ := this
  exact ⟨h1, h2, h3, fun b hb => ⟨Option.isSome_iff_exists.mp (h4 b hb).1, (h4 b hb).2⟩⟩
def sortD (ks xs : List D) : List D := ((ks.zip xs).mergeSort fun p q => leT p.1 q.1).map (·.2)
section
open PySem.W
variable {prog : Program} {w : World} {A : Around} {s : Shared}
theorem kind_some {h : Heap} {ds : List PyData} (hc : ∀ d ∈ ds, d.canLay0 = true) {v : Value} {d : PyData} {as : List Addr} (hd : d ∈ ds) (r : Reads h v d as) : (dataKind h ds).keyOf v = some (keyToks d) := by
  have q : ∃ d, d ∈ ds ∧ ∃ as, Reads h v d as := ⟨d, hd, as, r⟩
  have e : (dataKind h ds).keyOf v = some (keyToks q.choose) := dif_pos q
  obtain ⟨h1, as', h2⟩ := q.choose_spec
  rw [e, ← SeqAt.readOf_eq (hc _ h1) h2, SeqAt.readOf_eq (hc _ hd) r]
theorem katLex_of {b fin : Bool} {Q : Bool → Shared → Prop} {c : Bool} : ∀ (xs ys : List D) (i : Nat) (vs ws : List Value) (as bs : List Addr), ReadsAll s.heap vs (D.pys xs) as → ReadsAll s.heap ws (D.pys ys) bs → PyData.canLayAll0 (D.pys xs) = true → PyData.canLayAll0 (D.pys ys) = true →
    A.units + min (PyData.depthAll (D.pys xs)) (PyData.depthAll (D.pys ys)) < cLine → ltDs xs ys = some c → (b = true → i = 0 → ∀ x r y t, xs = x :: r → ys = y :: t → ∀ (p q : Value) (ap aq : List Addr), Reads s.heap p x.py ap → Reads s.heap q y.py aq → ∀ c', ltD x y = some c' → ∀ (Q' : Bool → Shared → Prop) (E : Value → Shared → Prop), Q' c' s → wpAny (model prog w) A (oneLt' true p q) Q' E s) →
    fin = decide (xs.length < ys.length) → Q c s → KatLex prog w A b fin Q (vs.zip ws) i s
  | [], ys, i, _, _, _, _, ra, rb, _, _, _, h, _, hf, hq => by
    simp only [D.pys] at ra
    cases ra
    rw [List.zip_nil_left]
    refine kat_nil ?_
    cases ys with
    | nil => simp only [ltDs, Option.some.injEq] at h; subst h; rw [hf]; exact hq
    | cons y ys => simp only [ltDs, Option.some.injEq] at h; subst h; rw [hf]; simpa using hq
  | x :: xs, [], i, _, _, _, _, ra, rb, _, _, _, h, _, hf, hq => by
    simp only [D.pys] at rb
    cases rb
    rw [List.zip_nil_right]
    refine kat_nil ?_
    simp only [ltDs, Option.some.injEq] at h; subst h; rw [hf]; simpa using hq
  | x :: xs, y :: ys, i, _, _, _, _, ra, rb, la, lb, hu, h, hb, hf, hq => by
    simp only [D.pys] at ra rb la lb hu
    cases ra with
    | cons r rs =>
      cases rb with
      | cons r' rs' =>
        simp only [PyData.canLayAll0, Bool.and_eq_true] at la lb
        simp only [PyData.depthAll] at hu
        rw [List.zip_cons_cons]
        have hf' : fin = decide (xs.length < ys.length) := by
          rw [hf]
          simp only [List.length_cons, Nat.add_lt_add_iff_right]
        refine kat_cons (SeqAt.eqAt_reads x.py y.py A s _ _ _ _ r r' la.1 lb.1 (by omega) prog w _ _ ?_)
        simp only [ltDs] at h
        split at h
        · rename_i hx
          rw [hx]
          exact kat_yes (katLex_of xs ys (i + 1) _ _ _ _ rs rs' la.2 lb.2 (by omega) h (fun _ z => absurd z (Nat.succ_ne_zero i)) hf' hq)
        · rename_i hx
          rw [Bool.not_eq_true] at hx
          rw [hx]
          refine kat_no ?_
          cases hbi : (b && i == 0) with
          | true =>
            rw [Bool.and_eq_true] at hbi
            exact hb hbi.1 (by simpa using hbi.2) x xs y ys rfl rfl _ _ _ _ r r' c h Q _ hq
          | false =>
            rw [oneLt'_eq]
            simp only [Bool.false_eq_true, if_false]
            exact wpAny_bind (rcLt_of x y c A s _ _ _ _ r r' la.1 lb.1 h (by omega) prog w _ _ (wpAny_truthy_bool hq))
theorem oneLt_flat {x y : D} {p q : Value} {ap aq : List Addr} {c : Bool} (hx : kTy x = some 0 ∨ kTy x = some 1) (rx : Reads s.heap p x.py ap) (ry : Reads s.heap q y.py aq) (h : ltD x y = some c) {Q : Bool → Shared → Prop} {E : Value → Shared → Prop} (hq : Q c s) : wpAny (model prog w) A (oneLt' true p q) Q E s := by
  cases x with
  | int i =>
    cases y with
    | int j =>
      simp only [ltD, Option.some.injEq] at h
      subst h
      simp only [D.py] at rx ry
      cases rx
      cases ry
      exact oneLt_int hq
    | _ => cases h
  | str i =>
    cases y with
    | str j =>
      simp only [ltD, Option.some.injEq] at h
      subst h
      simp only [D.py] at rx ry
      cases rx
      cases ry
      exact oneLt_str hq
    | _ => cases h
  | tup xs =>
    exfalso
    rcases xs with _ | ⟨x, r⟩
    · rcases hx with z | z <;> cases z
    · cases x <;> (rcases hx with z | z <;> cases z)
  | _ => rcases hx with z | z <;> cases z
end
end DL
namespace DL
open PySem PySem.Spec L2
open PyProof.Rows hiding St
open PySem.W (keyToks keyToksAll dataLt EachIs dataKind)
theorem kTy_cases {a : D} {t : Nat} (h : kTy a = some t) : (t = 0 ∧ ∃ i, a = .int i) ∨ (t = 1 ∧ ∃ x, a = .str x) ∨ ∃ x r, a = .tup (x :: r) ∧ ((t = 2 ∧ ∃ i, x = .int i) ∨ (t = 3 ∧ ∃ y, x = .str y) ∨ (t = 4 ∧ ∃ ys, x = .tup ys)) := by
  cases a with
  | int i => cases h; exact .inl ⟨rfl, i, rfl⟩
  | str i => cases h; exact .inr (.inl ⟨rfl, i, rfl⟩)
  | tup xs =>
    rcases xs with _ | ⟨x, r⟩
    · cases h
    · refine .inr (.inr ⟨x, r, rfl, ?_⟩)
      cases x with
      | int i => cases h; exact .inl ⟨rfl, i, rfl⟩
      | str i => cases h; exact .inr (.inl ⟨rfl, i, rfl⟩)
      | tup ys => cases h; exact .inr (.inr ⟨rfl, ys, rfl⟩)
      | _ => cases h
  | _ => cases h
section
open PySem.W
variable {prog : Program} {w : World} {A : Around} {s : Shared}
theorem each_py {ks : List D} {vs : List Value} {R : Value → PyData → Prop} (e : EachIs (fun v d => R v d.py) vs ks) : EachIs R vs (ks.map D.py) := by
  induction e with
  | nil => exact .nil
  | cons h _ ih => exact .cons h ih
theorem sortsAt_of {ks : List D} {vs : List Value} (ok : sortOk ks = true) (e : EachIs (fun v (d : D) => ∃ as, Reads s.heap v d.py as) vs ks) (hu : A.units + 66 < cLine) : SortsAt prog w A s (dataKind s.heap (ks.map D.py)) vs := by
  have hc : ∀ d ∈ ks.map D.py, d.canLay0 = true := fun d hd => by
    obtain ⟨k, hk, rfl⟩ := List.mem_map.mp hd
    exact SeqAt.canLay_of_shaped (sortOk_at ok hk).2.1
  have inv : ∀ {v : Value} {a : List (Int ⊕ List Nat)}, (dataKind s.heap (ks.map D.py)).keyOf v = some a → ∃ k as, k ∈ ks ∧ Reads s.heap v k.py as ∧ a = keyToks k.py := fun {v a} h => by
    obtain ⟨d, as, hd, r, rfl⟩ := dataKind_inv h
    obtain ⟨k, hk, rfl⟩ := List.mem_map.mp hd
    exact ⟨k, as, hk, r, rfl⟩
  refine ⟨fun v hv => ?_, ?_⟩
  · obtain ⟨d, hd, as, r⟩ := e.left v hv
    exact ⟨_, kind_some hc (List.mem_map_of_mem hd) r⟩
  · cases ks with
    | nil =>
      cases e
      exact ⟨general', fun E x y a b Q ha _ _ => (by
        obtain ⟨d, _, hd, _⟩ := inv ha
        cases hd), fun h2 => absurd h2 (by simp)⟩
    | cons k0 kr =>
      obtain ⟨_, _, h3, _⟩ := sortOk_at ok (List.mem_cons_self (a := k0) (l := kr))
      obtain ⟨t, ht⟩ := Option.isSome_iff_exists.mp h3
      have all : ∀ k ∈ k0 :: kr, kTy k = some t := fun k hk => by
        rw [← ((sortOk_at ok List.mem_cons_self).2.2.2 k hk).2]
        exact ht
      have flat : (t = 0 ∨ t = 1) → ∀ (T : PyData → Prop), ∃ kd : SortKind, H.LtAt prog w A s (dataKind s.heap ((k0 :: kr).map D.py)) kd ∧ (2 ≤ vs.length → ∀ (E : Value → Shared → Prop) {Q : SortKind → Shared → Prop}, Q kd s → wpAny (model prog w) A (keyKind' vs.toArray) Q E s) := by
        intro h01 _
        refine ⟨oneType', ?_, fun h2 E Q hq => ?_⟩
        · intro E x y a b Q ha hb hq
          obtain ⟨d, as, hd, ra, rfl⟩ := inv ha
          obtain ⟨d', as', hd', rb, rfl⟩ := inv hb
          obtain ⟨c, hl⟩ := ((sortOk_at ok hd).2.2.2 d' hd').1
          have hq' : Q (tokLt d d') s := hq
          rw [tokLt_of hl] at hq'
          rw [keyLt'_oneType]
          refine oneLt_flat ?_ ra rb hl hq'
          rw [all d hd]
          rcases h01 with rfl | rfl
          · exact .inl rfl
          · exact .inr rfl
        · refine kas_kind (T := dataType k0.py) h2 (fun v hv => ?_) ?_ (beq_self_eq_true _) hq
          · obtain ⟨d, hd, as, r⟩ := e.left v hv
            have e1 : dataType d.py = dataType k0.py := by
              have h1 := all d hd
              rcases h01 with rfl | rfl
              · rcases kTy_cases h1 with ⟨_, i, rfl⟩ | ⟨z, _⟩ | ⟨_, _, _, ⟨z, _⟩ | ⟨z, _⟩ | ⟨z, _⟩⟩
                · rcases kTy_cases ht with ⟨_, i, rfl⟩ | ⟨z, _⟩ | ⟨_, _, _, ⟨z, _⟩ | ⟨z, _⟩ | ⟨z, _⟩⟩
                  · rfl
                  all_goals cases z
                all_goals cases z
              · rcases kTy_cases h1 with ⟨z, _⟩ | ⟨_, i, rfl⟩ | ⟨_, _, _, ⟨z, _⟩ | ⟨z, _⟩ | ⟨z, _⟩⟩
                · cases z
                · rcases kTy_cases ht with ⟨z, _⟩ | ⟨_, i, rfl⟩ | ⟨_, _, _, ⟨z, _⟩ | ⟨z, _⟩ | ⟨z, _⟩⟩
                  · cases z
                  · rfl
                  all_goals cases z
                all_goals cases z
            rw [← e1]
            exact looks_reads r
          · apply dataType_other
            intro xs hx
            rcases h01 with rfl | rfl
            · rcases kTy_cases ht with ⟨_, i, rfl⟩ | ⟨z, _⟩ | ⟨_, _, _, ⟨z, _⟩ | ⟨z, _⟩ | ⟨z, _⟩⟩
              · cases hx
              all_goals cases z
            · rcases kTy_cases ht with ⟨z, _⟩ | ⟨_, i, rfl⟩ | ⟨_, _, _, ⟨z, _⟩ | ⟨z, _⟩ | ⟨z, _⟩⟩
              · cases z
              · cases hx
              all_goals cases z
      have tups : (∀ k ∈ k0 :: kr, ∃ x r, k = .tup (x :: r)) → (∀ (k : D) (x : D) (r : List D) (k' : D) (x' : D) (r' : List D), k ∈ k0 :: kr → k' ∈ k0 :: kr → k = .tup (x :: r) → k' = .tup (x' :: r') → dataType x.py = dataType x'.py) →
          (∀ (x : D) (r : List D), D.tup (x :: r) ∈ k0 :: kr → (dataType x.py != Value.type "tuple") = true → kTy x = some 0 ∨ kTy x = some 1) → ∃ kd : SortKind, H.LtAt prog w A s (dataKind s.heap ((k0 :: kr).map D.py)) kd ∧ (2 ≤ vs.length → ∀ (E : Value → Shared → Prop) {Q : SortKind → Shared → Prop}, Q kd s → wpAny (model prog w) A (keyKind' vs.toArray) Q E s) := by
        intro ht1 ht2 ht3
        obtain ⟨x0, r0, rfl⟩ := ht1 k0 List.mem_cons_self
        refine ⟨tuples' (dataType x0.py != Value.type "tuple"), ?_, fun h2 E Q hq => ?_⟩
        · intro E x y a b Q ha hb hq
          obtain ⟨d, as, hd, ra, rfl⟩ := inv ha
          obtain ⟨d', as', hd', rb, rfl⟩ := inv hb
          obtain ⟨c, hl⟩ := ((sortOk_at ok hd).2.2.2 d' hd').1
          have hq' : Q (tokLt d d') s := hq
          rw [tokLt_of hl] at hq'
          obtain ⟨_, s1, _⟩ := sortOk_at ok hd
          obtain ⟨_, s2, _⟩ := sortOk_at ok hd'
          have z1 := SeqAt.depth_of_shaped s1
          have l1 := SeqAt.canLay_of_shaped s1
          have l2 := SeqAt.canLay_of_shaped s2
          obtain ⟨x1, r1, rfl⟩ := ht1 d hd
          obtain ⟨x2, r2, rfl⟩ := ht1 d' hd'
          simp only [D.py] at ra rb l1 l2 z1
          simp only [PyData.canLay0] at l1 l2
          simp only [PyData.depth] at z1
          cases ra with
          | @tuple l o xs n _ _ h1 h2 h3 h4 =>
            cases rb with
            | @tuple l' o' xs' n' _ _ k1 k2 k3 k4 =>
              have n1 : xs.size = (x1 :: r1).length := by
                have q := SeqAt.ReadsAll.length _ _ _ h4
                have q2 : (D.pys (x1 :: r1)).length = (x1 :: r1).length := by
                  have : ∀ l : List D, (D.pys l).length = l.length := fun l => by induction l with
                    | nil => rfl
                    | cons a l ih => simp [D.pys, ih]
                  exact this _
                rw [q2] at q
                simpa using q
              have n2 : xs'.size = (x2 :: r2).length := by
                have q := SeqAt.ReadsAll.length _ _ _ k4
                have q2 : (D.pys (x2 :: r2)).length = (x2 :: r2).length := by
                  have : ∀ l : List D, (D.pys l).length = l.length := fun l => by induction l with
                    | nil => rfl
                    | cons a l ih => simp [D.pys, ih]
                  exact this _
                rw [q2] at q
                simpa using q
              refine kat_lt h1 h3 k1 k3 (katLex_of (c := c) (x1 :: r1) (x2 :: r2) 0 _ _ _ _ h4 k4 l1 l2 (by omega) (by simpa [ltD] using hl) ?_ (by rw [n1, n2]) hq')
              intro hb _ x r y t ex ey p q ap aq rp rq c' hc' Q' E' hQ'
              cases ex
              cases ey
              refine oneLt_flat (ht3 x1 r1 hd ?_) rp rq hc' hQ'
              rw [ht2 _ x1 r1 _ x0 r0 hd List.mem_cons_self rfl rfl]
              exact hb
        · obtain ⟨fs, t1, t2, t3⟩ := each_katTups (each_py e) (fun d hd => by
            obtain ⟨k, hk, rfl⟩ := List.mem_map.mp hd
            obtain ⟨x, r, rfl⟩ := ht1 k hk
            exact ⟨x.py, D.pys r, by simp [D.py, D.pys]⟩)
          refine kat_kind (T := dataType x0.py) t1 (by omega) (fun f hf => ?_) (beq_self_eq_true _) hq
          obtain ⟨x, r, as, m1, m2⟩ := t3 f hf
          obtain ⟨k, hk, ek⟩ := List.mem_map.mp m1
          obtain ⟨x', r', rfl⟩ := ht1 k hk
          simp only [D.py, D.pys, PyData.tuple.injEq, List.cons.injEq] at ek
          rw [← ht2 _ x' r' _ x0 r0 hk List.mem_cons_self rfl rfl, ek.1]
          exact looks_reads m2
      rcases kTy_cases ht with ⟨rfl, _⟩ | ⟨rfl, _⟩ | ⟨_, _, _, ⟨rfl, _⟩ | ⟨rfl, _⟩ | ⟨rfl, _⟩⟩
      · exact flat (.inl rfl) fun _ => True
      · exact flat (.inr rfl) fun _ => True
      all_goals
        refine tups (fun k hk => ?_) (fun k x r k' x' r' hk hk' e1 e2 => ?_) (fun x r hk hb => ?_)
        · rcases kTy_cases (all k hk) with ⟨z, _⟩ | ⟨z, _⟩ | ⟨x, r, e1, _⟩
          · cases z
          · cases z
          · exact ⟨x, r, e1⟩
        · subst e1 e2
          rcases kTy_cases (all _ hk) with ⟨z, _⟩ | ⟨z, _⟩ | ⟨_, _, e1, ⟨z1, i, rfl⟩ | ⟨z1, i, rfl⟩ | ⟨z1, i, rfl⟩⟩
          · cases z
          · cases z
          all_goals
            rcases kTy_cases (all _ hk') with ⟨z, _⟩ | ⟨z, _⟩ | ⟨_, _, e2, ⟨z2, j, rfl⟩ | ⟨z2, j, rfl⟩ | ⟨z2, j, rfl⟩⟩
            · cases z
            · cases z
            all_goals first
              | (cases z1; done)
              | (cases z2; done)
              | (cases e1; cases e2; rfl)
        · rcases kTy_cases (all _ hk) with ⟨z, _⟩ | ⟨z, _⟩ | ⟨_, _, e1, ⟨z1, i, rfl⟩ | ⟨z1, i, rfl⟩ | ⟨z1, i, rfl⟩⟩
          · cases z
          · cases z
          · cases e1; exact .inl rfl
          · cases e1; exact .inr rfl
          · cases e1; simp [dataType, D.py] at hb
end
end DL
namespace DL
open PySem PySem.Spec L2
open PyProof.Rows hiding St
open PySem.W (keyToks keyToksAll dataLt EachIs dataKind)
def keysD (m : FM) : List D → Sto → Option (List D × Sto)
  | [], S => some ([], S)
  | x :: xs, S => match m [x] S with
    | some (k, S1) => match keysD m xs S1 with
      | some (ks, S2) => some (k :: ks, S2)
      | none => none
    | none => none
def isLst (S : Sto) : D → Option (List D)
  | .loc n => seqD S (.loc n)
  | .scr ns => seqD S (.scr ns)
  | .tup ds => some ds
  | _ => none
def sortKP (m : FM) (x : D) (S : Sto) : Option (D × Sto) := match isLst S x with
  | some xs => match keysD m xs S with
    | some (ks, S2) => if sortOk ks = true then some (.loc S2.length, S2 ++ [.lst (sortD ks xs)]) else none
    | none => none
  | none => none
def mSortK (m : FM) (a : EM) : EM := m1 (sortKP m) a
section
variable {X : Cx} {ca : CAx} {pins : List (Addr × Obj)} {σ : L2.St} {H : Hp} {s : Shared} {h' : Heap} {t' : Nat} {f Da kS : Addr}
theorem take2 {o : HO} (I : Inv X pins σ H s) (k : ∀ b ob, b ≠ Da → b ≠ kS → s.heap.get? b = some ob → h'.get? b = some ob) (fD : FpOk X pins H Da) (fK : FpOk X pins H kS) (new : ObjOk X.prog X.w (upd H Da o) h' Da o) :
    Inv X pins σ (upd H Da o) { s with heap := h', toks := t' } := by
  obtain ⟨dn, dL, _, d1, d2, d3⟩ := fD
  obtain ⟨kn, kL, _, k1, k2, k3⟩ := fK
  have nD : ∀ b u, H b = some u → b ≠ Da := fun b u e z => by rw [z, dn] at e; cases e
  have nK : ∀ b u, H b = some u → b ≠ kS := fun b u e z => by rw [z, kn] at e; cases e
  have up : ∀ b u, H b = some u → upd H Da o b = some u := fun b u e => by rw [upd_ne (nD b u e)]; exact e
  have out : ∀ {b : Addr}, b ∉ [Da, kS] → b ≠ Da ∧ b ≠ kS := fun {b} hb => by simpa using hb
  refine I.step (g' := s.gens) (d' := s.drawn) (ch := [Da, kS]) (fun b hb => ?_) (fun b ob _ _ hc e _ => k b ob (out hc).1 (out hc).2 e) (fun b ob _ _ hc e _ => ⟨ob.slots, k b ob (out hc).1 (out hc).2 e⟩)
    (fun b ob hc _ n => by rw [upd_ne (out hc).1]; exact n) (fun b ob hc e => ⟨ob, k b ob (out hc).1 (out hc).2 e⟩) (fun b _ e => up b _ e) (fun b _ _ e => up b _ e) (fun b ps e => ⟨#[], by rw [up b _ e]; simp⟩) (fun m hm => ?_) (fun b u e => ?_) I.bare
  · have e : b = Da ∨ b = kS := by simpa using hb
    rcases e with rfl | rfl
    · exact ⟨d1, dL, d2, d3⟩
    · exact ⟨k1, kL, k2, k3⟩
  · obtain ⟨ob, es, ep, ho, r⟩ := hm
    exact ⟨ob, es, ep, k _ ob (Ne.symm dL) (Ne.symm kL) ho, r⟩
  · by_cases hb : b = Da
    · subst hb
      rw [upd_same] at e
      cases e
      exact new
    · rw [upd_ne hb] at e
      refine (I.hok b u e).stay (fun c v hc q => ?_) (fun c q => up c _ q) fun c _ q => up c _ q
      rcases hc with rfl | z
      · exact k _ v hb (nK _ u e) q
      · exact k c v (nD c _ z) (nK c _ z) q
theorem run_key {k : Nat} {fd : FuncData} {ps : List Str} {m : FM} {A : Around} {E : Value → Shared → Prop} (F : FnOk X.prog X.w X.K X.mg X.base CX0 k f fd ps (spD (gx X ca) 1 m)) (hr : Room k A) (e0 : Env0 X.prog X.w X.K X.mg X.base A X.stack s H) (hb : Binds X.K fd ps [])
    (I : Inv X pins σ H s) {r : List Addr} {S S1 : Sto} {x d : D} {v : V} {u : Value} {Q : VK} (R : RepS (gx X ca) r S H) (q : DV X.K r H x v) (rv : RelV v u) (hm : m [x] S = some (d, S1))
    (hq : ∀ r' H' w, Ext X.K r H r' H' → RepS (gx X ca) r' S1 H' → DV X.K r' H' d w → Q w H') : wpAny (model X.prog X.w) A (call (.ref f) [u]) (EP X pins σ Q) E s := by
  have sp : spD (gx X ca) 1 m [v] H Q E0 := ⟨r, S, [x], d, S1, R, DVs.cons q DVs.nil, rfl, hm, hq⟩
  have hl : ([u] ++ ([] : List Value)).length = ps.length := F.len _ _ _ _ sp
  refine wpAny_call (codeAny_mono (F.run A X.stack s H ⟨[u], []⟩ ([u] ++ []) [v] Q E0 hr e0 (hb s [u] I.kIn hl) (.cons rv .nil) sp) fun r s' hc => ?_)
  cases r with
  | error e => exact hc.elim
  | ok fl =>
    cases fl with
    | ret u => exact I.after hc
    | next => exact hc.elim
    | brk => exact hc.elim
    | cont => exact hc.elim
theorem each_vals {R : V → D → Prop} : ∀ {ds : List D} {out : List Value}, EachIs (fun u (d : D) => ∃ v, RelV v u ∧ R v d) out ds → ∃ vs, Vals vs out ∧ EachIs R vs ds
  | _, _, .nil => ⟨[], .nil, .nil⟩
  | _, _, .cons ⟨v, h1, h2⟩ t => let ⟨vs, a, b⟩ := each_vals t; ⟨v :: vs, .cons h1 a, .cons h2 b⟩
theorem dvs_of_each {K : PySem.W.Frag} {r : List Addr} : ∀ {ds : List D} {vs : List V}, EachIs (fun v (d : D) => DV K r H d v) vs ds → DVs K r H ds vs
  | _, _, .nil => DVs.nil
  | _, _, .cons h t => DVs.cons h (dvs_of_each t)
theorem each_of_dvs {K : PySem.W.Frag} {r : List Addr} : ∀ {ds : List D} {vs : List V} {us : List Value}, DVs K r H ds vs → Vals vs us → EachIs (fun u (d : D) => ∃ v, RelV v u ∧ DV K r H d v) us ds
  | [], _, us, h, rv => by unfold DVs at h; subst h; cases rv; exact .nil
  | d :: ds, _, us, h, rv => by
    unfold DVs at h
    obtain ⟨v, ws, rfl, h1, h2⟩ := h
    cases rv with
    | cons r1 r2 => exact .cons ⟨v, r1, h1⟩ (each_of_dvs h2 r2)
theorem each_zip {α β γ : Type} {R : α → γ → Prop} {T : α → β → Prop} : ∀ {as : List α} {bs : List β} {cs : List γ}, EachIs R as cs → bs.length = cs.length → EachIs (fun a (p : β × γ) => R a p.2) as (bs.zip cs)
  | _, [], _, .nil, _ => .nil
  | _, b :: bs, _, .cons h t, hl => .cons h (each_zip (T := T) t (by simpa using hl))
  | _, [], _, .cons _ _, hl => by simp at hl
  | _, _ :: _, _, .nil, hl => by simp at hl
theorem each_zip1 {α β γ : Type} {R : α → β → Prop} : ∀ {as : List α} {bs : List β} {cs : List γ}, EachIs R as bs → bs.length = cs.length → EachIs (fun a (p : β × γ) => R a p.1) as (bs.zip cs)
  | _, _, [], .nil, _ => .nil
  | _, _, c :: cs, .cons h t, hl => .cons h (each_zip1 t (by simpa using hl))
  | _, _, [], .cons _ _, hl => by simp at hl
  | _, _, _ :: _, .nil, hl => by simp at hl
theorem keysD_len {m : FM} : ∀ {xs : List D} {S S2 : Sto} {ks : List D}, keysD m xs S = some (ks, S2) → ks.length = xs.length
  | [], _, _, _, h => by cases h; rfl
  | x :: xs, _, _, _, h => by
    unfold keysD at h
    split at h
    · split at h
      · rename_i e
        cases h
        simp [keysD_len e]
      · cases h
    · cases h
theorem reads_each {r : List Addr} (I : Inv X pins σ H s) {ks : List D} {us : List Value} (e : EachIs (fun u (d : D) => ∃ v, RelV v u ∧ DV X.K r H d v) us ks) (hp : ∀ k ∈ ks, k.pure = true) : EachIs (fun v (d : D) => ∃ as, Reads s.heap v d.py as) us ks := by
  induction e with
  | nil => exact .nil
  | @cons a b as bs h t ih =>
    obtain ⟨v, rv, q⟩ := h
    exact .cons (Dp.reads I _ v a (dp_of b v q (hp b List.mem_cons_self)) rv) (ih fun k hk => hp k (List.mem_cons_of_mem _ hk))
end
end DL
namespace DL
open PySem PySem.Calls PyProof.Rows
section
variable {P : Program} {w : World} {A : Around} {E : Value → Shared → Prop} {s : Shared}
def SeqHas (h : Heap) (l : Addr) (us : List Value) : Prop := h.IsList l us.toArray ∨ IsTup h l us.toArray
abbrev readOut (h : Heap) (us : List Value) : Heap := (h.push (seqObj "list" #[] 0)).update h.objs.size (Obj.mapSeq (· ++ us.toArray))
theorem collect_tup {l : Addr} {us : List Value} {Q : List Value → Shared → Prop} (hl : IsTup s.heap l us.toArray) (hz : us.length ≤ sizeLine) (hq : Q us { s with heap := readOut s.heap us }) : wpAny (model P w) A (collect (.ref l)) Q E s := by
  obtain ⟨o, e0, ec, n, ed⟩ := hl
  have hp : (s.heap.push (seqObj "list" #[] 0)).get? s.heap.objs.size = some (seqObj "list" #[] 0) := Heap.get?_push_size _ rfl
  have back : wpAny (model P w) A (load s.heap.objs.size >>= fun o => match o.data with
      | .seq xs _ => pure xs.toList
      | _ => unsupported "internal:collect") Q E { s with heap := readOut s.heap us } := by
    refine wpAny_bind (wpAny_load (get?_update_seq hp _) (wpAny_pure ?_))
    have e : ((#[] : Array Value) ++ us.toArray).toList = us := by simp
    rw [e]
    exact hq
  unfold collect
  refine wpAny_bind (wpAny_runValue (codeAny_builtin F.entry_proto_collect ?_))
  rw [Around.under_plainId F.plain_proto_collect _]
  show wpAny _ A.in1 (newList [] >>= fun r => again (.builtin "list.__iadd__" ⟨[r, .ref l], []⟩)) _ _ s
  refine wpAny_bind (wpAny_newObj_type (wpAny_pure ⟨plainId_quiet F.plain_list_iadd _, codeAny_builtin F.entry_list_iadd ?_⟩))
  rw [Around.under_plainId F.plain_list_iadd _]
  refine wpAny_mono (wpAny_extend_seq (hsz := by rw [List.size_toArray]; exact hz) (A := A) (R := fun r s2 => r = .ok (.ret (.ref s.heap.objs.size)) ∧ s2 = { s with heap := readOut s.heap us }) (s := { s with heap := s.heap.push (seqObj "list" #[] 0) }) _ l _ 0 (.inr rfl) hp (Heap.get?_push_of_some _ e0) ec ed ⟨rfl, rfl⟩) (fun fi s2 hf => ?_) fun er s2 hf => absurd hf.1 (by simp)
  cases fi with
  | done f =>
    obtain ⟨e, rfl⟩ := hf
    cases e
    exact back
  | again c =>
    refine ⟨hf.1, codeAny_mono hf.2 fun r s3 hr => ?_⟩
    obtain ⟨rfl, rfl⟩ := hr
    exact back
theorem sorted_of_sort2 {l : Addr} {us : List Value} {kw : List (Str × Value)} {Q : Value → Shared → Prop} (hl : SeqHas s.heap l us) (hz : us.length ≤ sizeLine) (h1 : argsOk "sorted" ⟨[.ref l], kw⟩) (h2 : ∀ x, argsOk "list.sort" ⟨[.ref x], kw⟩)
    (run : ∀ E2 : Value → Shared → Prop, wpAny (model P w) A.in1.in1 (Builtin.«list.sort» ⟨[.ref (s.heap.objs.size + 1)], kw⟩) (fun f s2 => f = .done (.ret .none) ∧ Q (.ref (s.heap.objs.size + 1)) s2) E2 { s with heap := PySem.W.copyHeap s.heap us }) :
    wpAny (model P w) A (call (.builtin "sorted") [.ref l] kw) Q E s := by
  rcases hl with hl | hl
  · exact PySem.W.sorted_of_sort hl hz h1 h2 run
  have size1 : (readOut s.heap us).objs.size = s.heap.objs.size + 1 := by rw [Heap.size_update, size_push']
  refine call_function_entry_kw kind_sorted plain_sorted entry_sorted h1 ?_
  unfold Builtin.«sorted»
  refine wpAny_bind (m := checkCount "sorted" 1 1 _) (wpAny_pure (wpAny_bind (collect_tup hl hz (wpAny_bind (wpAny_newList ?_ hz)))))
  show wpAny _ _ _ _ _ { s with heap := PySem.W.copyHeap s.heap us }
  dsimp only
  rw [size1]
  refine wpAny_bind (wpAny_holding (wpAny_call_entry_kw slot_list_sort ⟨_, PySem.W.copyHeap_at s.heap us, rfl⟩ entry_list_sort ?go (h2 _)))
  case go =>
    refine wpAny_mono (run _) (fun f s2 ⟨ef, hq⟩ => ?_) fun _ _ e => e
    subst ef
    exact ⟨_, rfl, wpAny_pure ⟨_, rfl, hq⟩⟩
end
end DL
namespace DL
open PySem PySem.Spec L2
open PyProof.Rows hiding St
open PySem.W (keyToks keyToksAll dataLt EachIs dataKind KeepsBut)
section
variable {X : Cx} {ca : CAx} {pins : List (Addr × Obj)} {σ : L2.St} {f Da kS : Addr} {k : Nat} {fd : FuncData} {ps : List Str} {m : FM} {A : Around} {P : PySem.Fin → Shared → Prop} {E : Value → Shared → Prop}
theorem sorted_each {h : Heap} {ds : List PyData} {ks xs : List D} {R : Value → D → Prop} {us kv : List Value} (hl : ks.length = xs.length) (hx : EachIs R us xs) (hk : EachIs (fun v (d : D) => (dataKind h ds).keyOf v = some (keyToks d.py)) kv ks) :
    EachIs R (PySem.W.sortVals (dataKind h ds) false kv us) (sortD ks xs) := by
  have e := PySem.W.sortVals_each (κ := dataKind h ds) (R := fun u (p : D × D) => R u p.2) (rev := false) (fun p : D × D => keyToks p.1.py) (each_zip (T := fun _ _ => True) hx hl) (each_zip1 hk hl)
  have e2 : ∀ {out : List Value} {zs : List (D × D)}, EachIs (fun u (p : D × D) => R u p.2) out zs → EachIs R out (zs.map (·.2)) := by
    intro out zs h
    induction h with
    | nil => exact .nil
    | cons h1 _ ih => exact .cons h1 ih
  exact e2 e
def RunK (X : Cx) (ca : CAx) (pins : List (Addr × Obj)) (σ : L2.St) (H : Hp) (r : List Addr) (A : Around) (f : Addr) (m : FM) : Prop :=
  ∀ (pins' : List (Addr × Obj)) (s' : Shared) (H' : Hp) (r' : List Addr) (S' S1 : Sto) (x d : D) (v : V) (u : Value) (Q : VK), (∀ p ∈ pins, p ∈ pins') → Inv X pins' σ H' s' → Ext X.K r H r' H' → RepS (gx X ca) r' S' H' → DV X.K r' H' x v → RelV v u → m [x] S' = some (d, S1) →
    (∀ r2 H2 w, Ext X.K r' H' r2 H2 → RepS (gx X ca) r2 S1 H2 → DV X.K r2 H2 d w → Q w H2) → wpAny (model X.prog X.w) A (call (.ref f) [u]) (EP X pins' σ Q) (fun _ _ => False) s'
theorem runK_of {H : Hp} {r : List Addr} (F : FnOk X.prog X.w X.K X.mg X.base CX0 k f fd ps (spD (gx X ca) 1 m)) (hr : (∃ ds S d S', m ds S = some (d, S')) → Room k A) (he : ∀ s H, Env0 X.prog X.w X.K X.mg X.base X.A X.stack s H → Env0 X.prog X.w X.K X.mg X.base A X.stack s H) (hb : Binds X.K fd ps []) : RunK X ca pins σ H r A f m :=
  fun pins' s' H' r' S' S1 x d v u Q _ I _ R q rv e hq => run_key F (hr ⟨_, _, _, _, e⟩) (he _ _ I.env0) hb I R q rv e hq
theorem keys_loopR (hu : A.units + 66 < cLine)
    {H : Hp} {s : Shared} {r : List Addr} {S S2 : Sto} {xs ks : List D} {vs : List V} {us : List Value} {e1 : Nat} (I : Inv X pins σ H s) (R : RepS (gx X ca) r S H) (fD : FpOk X pins H Da) (fK : FpOk X pins H kS) (hka : kS ≠ Da)
    (nk : s.heap.get? kS = some (seqObj "list" #[] 0)) (na : s.heap.get? Da = some (seqObj "list" #[] e1)) (qx : DVs X.K r H xs vs) (rv : Vals vs us) (hZ : us.length ≤ sizeLine) (hk : keysD m xs S = some (ks, S2)) (ok : sortOk ks = true)
    (run : RunK X ca pins σ H r A f m)
    (post : ∀ r' H' s', Inv X pins σ H' s' → Ext X.K r H r' H' → RepS (gx X ca) r' (S2 ++ [.lst (sortD ks xs)]) H' → DV X.K r' H' (.loc S2.length) (.ref Da) → P (.done (.ret .none)) s') :
    wpAny (model X.prog X.w) A (ksk_rest Da (.ref f) false us.toArray e1 (.ref kS)) P E s := by
  have hlen : ks.length = us.length := by rw [keysD_len hk, ← qx.length, rv.length]
  have hxl : xs.length = us.length := by rw [← qx.length, rv.length]
  unfold ksk_rest
  refine wpAny_bind (wpAny_rule ?_)
  first
    | rw [List.forIn_toArray]
    | (rw [← Array.forIn_toList]; simp only [List.toList_toArray])
  refine wpAny_bind (ksk_fold (fun i s' => ∃ r' S' H' kA e ks1 ks2, Inv X pins σ H' s' ∧ RepS (gx X ca) r' S' H' ∧ Ext X.K r H r' H' ∧ s'.heap.get? kS = some (seqObj "list" kA e) ∧ s'.heap.get? Da = some (seqObj "list" #[] e1) ∧ H' kS = none ∧ H' Da = none ∧
    EachIs (fun u (d : D) => ∃ v, RelV v u ∧ DV X.K r' H' d v) kA.toList ks1 ∧ ks1 ++ ks2 = ks ∧ keysD m (xs.drop i) S' = some (ks2, S2)) us 0 s ⟨r, S, H, #[], 0, [], ks, I, R, Ext.refl, nk, na, fK.1, fD.1, .nil, rfl, hk⟩ ?step ?done)
  case step =>
    rintro j u s' hx ⟨r', S', H', kA, e, ks1, ks2, I1, R1, x1, nk1, na1, hkn, hDn, q1, hks, hkk⟩
    simp only [Nat.zero_add] at hkk ⊢
    have hj : j < us.length := (List.getElem?_eq_some_iff.mp hx).1
    have hjv : j < vs.length := by rw [rv.length]; exact hj
    obtain ⟨u', hu', rvu⟩ := rv.get (List.getElem?_eq_getElem hjv)
    obtain rfl : u' = u := Option.some.inj (hu'.symm.trans hx)
    obtain ⟨d, hd, qd⟩ := qx.getV (List.getElem?_eq_getElem hjv)
    obtain ⟨hjx, hd'⟩ := List.getElem?_eq_some_iff.mp hd
    have hdr : xs.drop j = d :: xs.drop (j + 1) := by rw [← hd']; exact List.drop_eq_getElem_cons hjx
    rw [hdr] at hkk
    unfold keysD at hkk
    split at hkk
    · rename_i kd S3 em
      split at hkk
      · rename_i ks3 S4 ek
        cases hkk
        have pk : ∀ p ∈ (kS, seqObj "list" kA e) :: (Da, seqObj "list" #[] e1) :: pins, s'.heap.get? p.1 = some p.2 ∧ H' p.1 = none ∧ p.1 ≠ X.env.locals ∧ p.1 ∉ X.fs ∧ ∀ v, p.2.data ≠ .cell v := by
          intro p hp
          rcases List.mem_cons.mp hp with rfl | hp
          · exact ⟨nk1, hkn, fK.2.1, fK.2.2.1, fun v z => by cases z⟩
          · rcases List.mem_cons.mp hp with rfl | hp
            · exact ⟨na1, hDn, fD.2.1, fD.2.2.1, fun v z => by cases z⟩
            · exact I1.pin p (List.mem_append_right _ hp)
        have I2 := I1.pins_of pk
        refine wpAny_bind (wpAny_attempt (wpAny_mono (run _ s' H' r' S' S3 d kd _ u' (fun w H2 => ∃ r2, Ext X.K r' H' r2 H2 ∧ RepS (gx X ca) r2 S3 H2 ∧ DV X.K r2 H2 kd w) (fun p hp => List.mem_cons_of_mem _ (List.mem_cons_of_mem _ hp)) I2 x1 R1 (DV.ext x1 _ _ qd) rvu em
          fun r2 H2 w x2 R2 q2 => ⟨r2, x2, R2, q2⟩) (fun kv s2 hEP => ?_) fun _ _ hF => hF.elim))
        obtain ⟨w, H2, I3, rw3, r2, x2, R2, q2⟩ := hEP
        try dsimp only
        obtain ⟨nk3, hkn3, _⟩ := I3.pin (kS, seqObj "list" kA e) (List.mem_append_right _ List.mem_cons_self)
        obtain ⟨na3, hDn3, _⟩ := I3.pin (Da, seqObj "list" #[] e1) (List.mem_append_right _ (List.mem_cons_of_mem _ List.mem_cons_self))
        simp only at nk3 hkn3 na3 hDn3
        have I4 : Inv X pins σ H2 s2 := I3.pins_of fun p hp => I3.pin p (List.mem_append_right _ (List.mem_cons_of_mem _ (List.mem_cons_of_mem _ hp)))
        have sb := Heap.SameBut.update s2.heap kS (Obj.mapSeq (·.push kv))
        obtain ⟨c2, hc2⟩ : ∃ c2, (s2.heap.update kS (Obj.mapSeq (·.push kv))).get? kS = some (seqObj "list" (kA.push kv) c2) := ⟨_, get?_update_seq nk3 (·.push kv)⟩
        have hz : kA.size ≤ us.length := by
          have h1 := q1.length
          rw [Array.length_toList] at h1
          rw [h1, ← hlen, ← hks, List.length_append]
          exact Nat.le_add_right _ _
        refine wpAny_bind (listUpdate_at nk3 rfl ?_ (Nat.le_trans hz hZ) (by rw [Array.size_push]; exact Nat.succ_le_succ (Nat.le_trans hz hZ)))
        obtain ⟨_, fl, _, f1, f2, f3⟩ := fK
        have I5 := I4.turned (t' := s2.toks) (h' := s2.heap.update kS (Obj.mapSeq (·.push kv))) (it := kS) (fun b o hb eo => (sb.2 b hb).trans eo) hkn3 fl f1 f2 f3
        refine wpAny_pure ⟨rfl, r2, S3, H2, kA.push kv, c2, ks1 ++ [kd], ks3, I5, R2, x1.trans x2, hc2, (sb.2 Da hka.symm).trans na3, hkn3, hDn3, ?_, by rw [List.append_assoc]; exact hks, ek⟩
        have ea : (kA.push kv).toList = kA.toList ++ [kv] := by simp
        rw [ea]
        have sn : ∀ {as : List Value} {bs : List D}, EachIs (fun u (d : D) => ∃ v, RelV v u ∧ DV X.K r2 H2 d v) as bs → EachIs (fun u (d : D) => ∃ v, RelV v u ∧ DV X.K r2 H2 d v) (as ++ [kv]) (bs ++ [kd]) := by
          intro as bs h
          induction h with
          | nil => exact .cons ⟨w, rw3, q2⟩ .nil
          | cons h1 _ ih => exact .cons h1 ih
        exact sn (q1.mono fun a b ⟨v, r1, q⟩ => ⟨v, r1, DV.ext x2 _ _ q⟩)
      · cases hkk
    · cases hkk
  case done =>
    rintro s' ⟨r', S', H', kA, e, ks1, ks2, I1, R1, x1, nk1, na1, hkn, hDn, q1, hks, hkk⟩
    have hdr : xs.drop (0 + us.length) = [] := List.drop_eq_nil_of_le (by omega)
    rw [hdr] at hkk
    cases hkk
    rw [List.append_nil] at hks
    subst hks
    try dsimp only
    refine wpAny_bind (listItems_at nk1 rfl ?_)
    obtain ⟨G, g1, g2⟩ := restrict s'.heap fun b => decide (b ≠ kS)
    have gk : ∀ b o, b ≠ kS → s'.heap.get? b = some o → G.get? b = some o := fun b o hb z => by rw [g1 b (decide_eq_true hb)]; exact z
    have gs : KeepsBut Da G s'.heap := fun b o _ z => by
      by_cases hb : b = kS
      · rw [hb, g2 kS (decide_eq_false fun z => z rfl)] at z
        cases z
      · rw [← g1 b (decide_eq_true hb)]
        exact z
    have rd := reads_each I1 q1 fun k hk => (sortOk_at ok hk).1
    have hsz : kA.size = us.length := by
      have h1 := q1.length
      rw [Array.length_toList] at h1
      omega
    refine PySem.W.keyH_end (κ := dataKind s'.heap (ks1.map D.py)) (h₁ := G) gs (g2 kS (decide_eq_false fun z => z rfl)) nk1 na1 hka (sortsAt_of ok rd hu) hsz hZ fun h3 tk3 c k3 n3 => ?_
    have hc : ∀ d ∈ ks1.map D.py, d.canLay0 = true := fun d hd => by
      obtain ⟨k, hk, rfl⟩ := List.mem_map.mp hd
      exact SeqAt.canLay_of_shaped (sortOk_at ok hk).2.1
    have hkeys : EachIs (fun v (d : D) => (dataKind s'.heap (ks1.map D.py)).keyOf v = some (keyToks d.py)) kA.toList ks1 := by
      have go : ∀ {as : List Value} {bs : List D}, EachIs (fun v (d : D) => ∃ as, Reads s'.heap v d.py as) as bs → (∀ b ∈ bs, b ∈ ks1) → EachIs (fun v (d : D) => (dataKind s'.heap (ks1.map D.py)).keyOf v = some (keyToks d.py)) as bs := by
        intro as bs h
        induction h with
        | nil => intro _; exact .nil
        | @cons a b as bs h1 _ ih =>
          intro hm
          obtain ⟨_, h1⟩ := h1
          exact .cons (kind_some hc (List.mem_map_of_mem (hm b List.mem_cons_self)) h1) (ih fun b hb => hm b (List.mem_cons_of_mem _ hb))
      exact go rd fun _ h => h
    have hout := sorted_each (by rw [hlen, hxl]) (each_of_dvs (DVs.ext x1 _ _ qx) rv) hkeys
    obtain ⟨ov, rvo, qo⟩ := each_vals hout
    have qo' : DVs X.K r' H' (sortD ks1 xs) ov := dvs_of_each qo
    have hol : ov.length ≤ sizeLine := by
      rw [rvo.length, PySem.W.sortVals_length false (by rw [Array.length_toList]; exact hsz)]
      exact hZ
    have I6 : Inv X pins σ (upd H' Da (.lst ov)) { s' with heap := h3, toks := tk3 } := take2 (kS := kS) I1 (fun b o hb1 hb2 z => k3 b o hb1 (gk b o hb2 z)) ⟨hDn, fD.2⟩ ⟨hkn, fK.2⟩ ⟨hol, _, c, rvo, n3⟩
    obtain ⟨x3, R3⟩ := R1.lst hDn qo'
    exact post _ _ _ I6 (x1.trans x3) R3 R1.newLoc
end
section
variable {X : Cx} {ca : CAx} {pins : List (Addr × Obj)} {σ : L2.St} {f : Addr} {k : Nat} {fd : FuncData} {ps : List Str} {m : FM}
theorem lst_of {G : Ctx} {r : List Addr} {S : Sto} {H : Hp} {d : D} {v : V} {ds : List D} (R : RepS G r S H) (q : DV G.K r H d v) (h : isLst S d = some ds) : ∃ a vs, v = .ref a ∧ DVs G.K r H ds vs ∧ (SqL G.K H a vs ∨ SqT G.K H a vs) := by
  unfold isLst at h
  have go : seqD S d = some ds → (∀ es, d ≠ .tup es) → ∃ a vs, v = .ref a ∧ DVs G.K r H ds vs ∧ (SqL G.K H a vs ∨ SqT G.K H a vs) := fun h nt => by
    obtain ⟨a, vs, e, h2, h3⟩ := seq_cases R q h
    rcases h3 with ⟨z, _⟩ | ⟨_, _, _, hl⟩
    · exact absurd z (nt _)
    · exact ⟨a, vs, e, h2, .inl hl⟩
  split at h
  · exact go h fun _ z => by cases z
  · exact go h fun _ z => by cases z
  · cases h
    unfold DV at q
    obtain ⟨a, vs, rfl, h1, h2⟩ := q
    exact ⟨a, vs, rfl, h2, .inr (TpN.sq h1)⟩
  · cases h
theorem sortKR_run (hk2 : X.A.units + 68 < cLine) {H : Hp} {s : Shared} {r : List Addr} {S S' : Sto} {x d : D} {v : V} {u : Value} {Q : VK} (run : RunK X ca pins σ H r X.A.in1.in1 f m)
    (I : Inv X pins σ H s) (R : RepS (gx X ca) r S H) (q : DV X.K r H x v) (rv : RelV v u) (h : sortKP m x S = some (d, S')) (hq : ∀ r' H' w, Ext X.K r H r' H' → RepS (gx X ca) r' S' H' → DV X.K r' H' d w → Q w H') :
    wpAny (model X.prog X.w) X.A (call (.builtin "sorted") [u] [(Str.ofString "key", .ref f)]) (EP X pins σ Q) X.xe s := by
  unfold sortKP at h
  split at h
  · rename_i xs e1
    split at h
    · rename_i ks S2 e2
      split at h
      · rename_i ok
        cases h
        obtain ⟨a, vs, rfl, qx, hl⟩ := lst_of R q e1
        cases rv
        obtain ⟨its, rvs, hli, hzz⟩ : ∃ its : List Value, Vals vs its ∧ SeqHas s.heap a its ∧ vs.length ≤ sizeLine := by
          rcases hl with hl | hl
          · obtain ⟨its, rvs, hli, hzz⟩ := I.list hl
            exact ⟨its, rvs, .inl hli.isList, hzz⟩
          · obtain ⟨its, rvs, hli, hzz⟩ := I.tuple hl
            exact ⟨its, rvs, .inr hli, hzz⟩
        have hL : its.length ≤ sizeLine := by rw [← rvs.length]; exact hzz
        have hu : X.A.in1.in1.units + 66 < cLine := by
          show X.A.units + 1 + 1 + 66 < cLine
          omega
        refine sorted_of_sort2 hli hL (ksk_s1 _ _) (fun _ => ksk_l1 _ _) fun E' => ?_
        rw [ksk_t1]
        have ho := PySem.W.copyHeap_at s.heap its
        obtain ⟨e1, ho1⟩ : ∃ e1, ((PySem.W.copyHeap s.heap its).update (s.heap.objs.size + 1) (Obj.mapSeq fun _ => (#[] : Array Value))).get? (s.heap.objs.size + 1) = some (seqObj "list" #[] e1) := ⟨_, get?_update_seq ho fun _ => #[]⟩
        unfold ksk_tree
        refine wpAny_bind (listItems_at ho rfl ?_)
        refine wpAny_bind (listUpdate_at ho rfl ?_ (by rw [List.size_toArray]; exact hL) (Nat.zero_le _))
        refine wpAny_bind (seqEpoch_at ho1 rfl ?_)
        refine wpAny_bind (wpAny_newTuple ?_ (by show its.length ≤ sizeLine; exact hL))
        refine wpAny_bind (wpAny_newList ?_ (Nat.zero_le _))
        refine wpAny_holding ?_
        have big : s.heap.objs.size + 1 < (((PySem.W.copyHeap s.heap its).update (s.heap.objs.size + 1) (Obj.mapSeq fun _ => (#[] : Array Value))).push (seqObj "tuple" its.toArray 0)).objs.size := Nat.lt_of_lt_of_le (Heap.lt_size (Heap.get?_push_of_some _ ho1)) (Nat.le_refl _)
        have I1 : Inv X pins σ H { s with heap := PySem.W.sortingHeap (PySem.W.copyHeap s.heap its) (s.heap.objs.size + 1) its, toks := s.toks } := I.kept fun b o z => PySem.W.sorting_copy_old z
        refine keys_loopR (σ := σ) (pins := pins) hu (kS := (((PySem.W.copyHeap s.heap its).update (s.heap.objs.size + 1) (Obj.mapSeq fun _ => (#[] : Array Value))).push (seqObj "tuple" its.toArray 0)).objs.size) (Da := s.heap.objs.size + 1) I1 R
          (I.fpOk (Nat.le_succ _) (I.hok.fresh (Nat.le_succ _))) (I.fpOk (by omega) (I.hok.fresh (by omega))) (Nat.ne_of_gt big) (Heap.get?_push_size _ rfl) (Heap.get?_push_of_some _ (Heap.get?_push_of_some _ ho1)) qx rvs hL e2 ok run fun r' H' s' I' x' R' q' => ⟨rfl, .ref _, H', I', rfl, hq r' H' _ x' R' q'⟩
      · cases h
    · cases h
  · cases h
theorem sortK_run (F : FnOk X.prog X.w X.K X.mg X.base CX0 (k - 2) f fd ps (spD (gx X ca) 1 m)) (hz : k < 2 → ∀ ds S, m ds S = none) (hr : Room k X.A) (hb : Binds X.K fd ps []) {H : Hp} {s : Shared} {r : List Addr} {S S' : Sto} {x d : D} {v : V} {u : Value} {Q : VK}
    (I : Inv X pins σ H s) (R : RepS (gx X ca) r S H) (q : DV X.K r H x v) (rv : RelV v u) (h : sortKP m x S = some (d, S')) (hq : ∀ r' H' w, Ext X.K r H r' H' → RepS (gx X ca) r' S' H' → DV X.K r' H' d w → Q w H') :
    wpAny (model X.prog X.w) X.A (call (.builtin "sorted") [u] [(Str.ofString "key", .ref f)]) (EP X pins σ Q) X.xe s :=
  sortKR_run (by have := hr.un; omega) (runK_of F (fun ⟨ds, S0, d, S3, e⟩ => by
    by_cases hk : k < 2
    · rw [hz hk] at e; cases e
    · obtain ⟨j, rfl⟩ : ∃ j, k = j + 2 := ⟨k - 2, by omega⟩
      exact hr.in1.in1) (fun _ _ e => e.in1.in1) hb) I R q rv h hq
def rSK (G : Ctx) (f : Addr) (m : FM) : List V → List V → Hp → VK → Prop := fun vs zs H Q => zs = [V.ref f] ∧ ∃ r S x v d S', vs = [v] ∧ RepS G r S H ∧ DV G.K r H x v ∧ sortKP m x S = some (d, S') ∧ ∀ r' H' w, Ext G.K r H r' H' → RepS G r' S' H' → DV G.K r' H' d w → Q w H'
theorem de_sortK {x : Str} {p pos kp kp2 : Pos} {e : Expr} {ma : EM} (F : FnOk X.prog X.w X.K X.mg X.base CX0 (k - 2) f fd ps (spD (gx X ca) 1 m)) (hz : k < 2 → ∀ ds S, m ds S = none) (hr : Room k X.A) (hb : Binds X.K fd ps []) (hs : X.mg "sorted" = none) (hm : X.mg x = some (.ref f)) (h : PE X e (liftE (gx X ca) ma))
    (hg : Gl X "sorted" := by rfl) (hg2 : Gl X x := by rfl) (hdb : (x == ("__debug__" : Str)) = false := by decide) (hs1 : starEach [e] X.env = (false, eval e X.env) :: starEach [] X.env := by rfl) (he : backTo pos (starEach [e] X.env) = (false, eval e X.env) :: backTo pos (starEach [] X.env) := by rfl) (hpl : (backTo pos (starEach [e] X.env)).any (·.1) = false := by rfl) :
    PE X (.Call (.Name "sorted" p) [e] [⟨some "key", .Name x kp, kp2⟩] pos) (liftE (gx X ca) (mSortK m ma)) :=
  wkE (pe_callBK (ks := [Str.ofString "key"]) (r := rSK (gx X ca) f m) (fun pins s σ H xs zs us ws Q I r1 r2 hh => by
    obtain ⟨rfl, r, S, x, v, d, S', rfl, R, q, e, k⟩ := hh
    obtain ⟨u, rfl, r3⟩ := vals1 r1
    obtain ⟨w, rfl, r4⟩ := vals1 r2
    cases r4
    exact sortK_run F hz hr hb I R q r3 e k) hg hs boot_sorted (pa_cons h pa_nil hs1) (pk_cons (pe_glob (v := .ref f) hg2 hm rfl hdb) pk_nil) (by decide) (by decide) he hpl) fun σ H Q hh => by
    obtain ⟨r, env, S, d, S', R, W, e1, k⟩ := hh
    unfold mSortK m1 at e1
    split at e1
    · rename_i y S1 e2
      refine ⟨r, env, S, y, S1, R, W, e2, fun r1 H1 v x1 R1 q1 => ?_⟩
      exact ⟨rfl, r1, S1, y, v, d, S', rfl, R1, q1, e1, fun r2 H2 w x2 R2 q2 => k r2 H2 w (x1.trans x2) R2 q2⟩
    · cases e1
end
end DL
namespace DL
open PySem
def Ow {α : Type} (o : Option α) (Q : α → Prop) : Prop := ∃ a, o = some a ∧ Q a
section
variable {α : Type} {Q Q' : α → Prop} {o : Option α}
@[simp] theorem ow_some {a : α} : Ow (some a) Q ↔ Q a := ⟨fun ⟨_, e, q⟩ => by cases e; exact q, fun q => ⟨a, rfl, q⟩⟩
@[simp] theorem ow_none : Ow (none : Option α) Q ↔ False := ⟨fun ⟨_, e, _⟩ => (by cases e), False.elim⟩
def asB : D → Option Bool
  | .bl t => some t
  | _ => none
def asI : D → Option Int
  | .int t => some t
  | _ => none
@[simp] theorem asB_bl {t : Bool} : asB (.bl t) = some t := rfl
@[simp] theorem asI_int {t : Int} : asI (.int t) = some t := rfl
theorem Ow.imp (h : Ow o Q) (k : ∀ a, Q a → Q' a) : Ow o Q' := let ⟨a, e, q⟩ := h; ⟨a, e, k a q⟩
theorem ow_if {c : Prop} [Decidable c] {x : Option α} : Ow (if c then x else none) Q ↔ c ∧ Ow x Q := by
  by_cases h : c <;> simp [h]
end
section
variable {env : Vars} {S : Sto} {Q : D × Sto → Prop} {B : Bool × Sto → Prop} {L : List D × Sto → Prop} {T : Fl × Vars × Sto → Prop} {N : Vars × Sto → Prop} {a b c : EM} {ba bb : BM} {l : LM} {p p' : D → D → Sto → Option (D × Sto)} {p1 : D → Sto → Option (D × Sto)} {pl : List D → Sto → Option (D × Sto)} {sa sb : SM} {g : GM} {gs : GMs}
@[simp] theorem ow_var {i : Nat} : Ow (mVar i env S) Q ↔ ∃ d, env[i]? = some (some d) ∧ Q (d, S) := by
  unfold mVar
  split
  · rename_i d e
    simp only [ow_some]
    exact ⟨fun q => ⟨d, e, q⟩, fun ⟨d', e', q⟩ => by rw [e] at e'; cases e'; exact q⟩
  · rename_i h
    simp only [ow_none, false_iff]
    exact fun ⟨d, e, _⟩ => h d e
@[simp] theorem ow_C {d : D} : Ow (mC d env S) Q ↔ Q (d, S) := ow_some
@[simp] theorem ow_m1 : Ow (m1 p1 a env S) Q ↔ Ow (a env S) fun x => Ow (p1 x.1 x.2) Q := by
  unfold m1; cases a env S <;> simp
@[simp] theorem ow_m2 : Ow (m2 p a b env S) Q ↔ Ow (a env S) fun x => Ow (b env x.2) fun y => Ow (p x.1 y.1 y.2) Q := by
  unfold m2
  cases a env S with
  | none => simp
  | some x =>
    obtain ⟨x, S1⟩ := x
    simp only [ow_some]
    cases b env S1 <;> simp
@[simp] theorem ow_mL : Ow (mL pl l env S) Q ↔ Ow (l env S) fun x => Ow (pl x.1 x.2) Q := by
  unfold mL; cases l env S <;> simp
@[simp] theorem ow_nil : Ow (lNil env S) L ↔ L ([], S) := ow_some
@[simp] theorem ow_cons : Ow (lCons a l env S) L ↔ Ow (a env S) fun x => Ow (l env x.2) fun y => L (x.1 :: y.1, y.2) := by
  unfold lCons
  cases a env S with
  | none => simp
  | some x => cases h : l env x.2 <;> simp_all
@[simp] theorem ow_star : Ow (lStar a l env S) L ↔ Ow (a env S) fun x => Ow (seqD x.2 x.1) fun ds => Ow (l env x.2) fun y => L (ds ++ y.1, y.2) := by
  unfold lStar
  cases a env S with
  | none => simp
  | some x =>
    cases h : seqD x.2 x.1 with
    | none => simp [h]
    | some ds => cases h2 : l env x.2 <;> simp_all
@[simp] theorem ow_V : Ow (bV a env S) B ↔ Ow (a env S) fun x => Ow (asB x.1) fun t => B (t, x.2) := by
  unfold bV
  cases a env S with
  | none => simp
  | some x =>
    obtain ⟨d, S1⟩ := x
    cases d <;> simp [asB, asI]
@[simp] theorem ow_Tru : Ow (bTru a env S) B ↔ Ow (a env S) fun x => Ow (truD x.2 x.1) fun t => B (t, x.2) := by
  unfold bTru
  cases a env S with
  | none => simp
  | some x => cases h : truD x.2 x.1 <;> simp_all
@[simp] theorem ow_Not : Ow (bNot ba env S) B ↔ Ow (ba env S) fun x => B (!x.1, x.2) := by
  unfold bNot; cases ba env S <;> simp
@[simp] theorem ow_And : Ow (bAnd ba bb env S) B ↔ Ow (ba env S) fun x => if x.1 = true then Ow (bb env x.2) B else B (false, x.2) := by
  unfold bAnd
  cases ba env S with
  | none => simp
  | some x =>
    obtain ⟨t, S1⟩ := x
    cases t <;> simp
@[simp] theorem ow_Or : Ow (bOr ba bb env S) B ↔ Ow (ba env S) fun x => if x.1 = true then B (true, x.2) else Ow (bb env x.2) B := by
  unfold bOr
  cases ba env S with
  | none => simp
  | some x =>
    obtain ⟨t, S1⟩ := x
    cases t <;> simp
@[simp] theorem ow_mAnd : Ow (mAnd a b env S) Q ↔ Ow (a env S) fun x => Ow (asB x.1) fun t => if t = true then Ow (b env x.2) Q else Q (.bl false, x.2) := by
  unfold mAnd
  cases a env S with
  | none => simp
  | some x =>
    obtain ⟨d, S1⟩ := x
    cases d with
    | bl t => cases t <;> simp
    | _ => simp [asB, asI]
@[simp] theorem ow_mOr : Ow (mOr a b env S) Q ↔ Ow (a env S) fun x => Ow (asB x.1) fun t => if t = true then Q (.bl true, x.2) else Ow (b env x.2) Q := by
  unfold mOr
  cases a env S with
  | none => simp
  | some x =>
    obtain ⟨d, S1⟩ := x
    cases d with
    | bl t => cases t <;> simp
    | _ => simp [asB, asI]
@[simp] theorem ow_mNot : Ow (mNot a env S) Q ↔ Ow (a env S) fun x => Ow (asB x.1) fun t => Q (.bl (!t), x.2) := by
  unfold mNot
  cases a env S with
  | none => simp
  | some x =>
    obtain ⟨d, S1⟩ := x
    cases d <;> simp [asB, asI]
@[simp] theorem ow_mIf : Ow (mIf ba a b env S) Q ↔ Ow (ba env S) fun x => if x.1 = true then Ow (a env x.2) Q else Ow (b env x.2) Q := by
  unfold mIf
  cases ba env S with
  | none => simp
  | some x =>
    obtain ⟨t, S1⟩ := x
    cases t <;> simp
@[simp] theorem ow_mIsN : Ow (mIsN a env S) Q ↔ Ow (a env S) fun x => Q (.bl x.1.isNon, x.2) := by
  unfold mIsN; simp
@[simp] theorem ow_mNotN : Ow (mNotN a env S) Q ↔ Ow (a env S) fun x => Q (.bl (!x.1.isNon), x.2) := by
  unfold mNotN; simp
@[simp] theorem ow_chain : Ow (mChain p p' a b c env S) Q ↔ Ow (a env S) fun x => Ow (b env x.2) fun y => Ow (p x.1 y.1 y.2) fun z => Ow (asB z.1) fun t => if t = true then Ow (c env z.2) fun w => Ow (p' y.1 w.1 w.2) Q else Q (.bl false, z.2) := by
  unfold mChain
  cases a env S with
  | none => simp
  | some x =>
    cases h : b env x.2 with
    | none => simp [h]
    | some y =>
      cases h2 : p x.1 y.1 y.2 with
      | none => simp [h, h2]
      | some z =>
        obtain ⟨d, S1⟩ := z
        cases d with
        | bl t =>
          cases t with
          | true => cases h3 : c env S1 <;> simp_all
          | false => simp [h, h2]
        | _ => simp [h, h2, asB]
@[simp] theorem ow_oNone {O : Option Int × Sto → Prop} : Ow (oNone env S) O ↔ O (none, S) := ow_some
@[simp] theorem ow_oSome {O : Option Int × Sto → Prop} : Ow (oSome a env S) O ↔ Ow (a env S) fun x => Ow (asI x.1) fun i => O (some i, x.2) := by
  unfold oSome
  cases a env S with
  | none => simp
  | some x =>
    obtain ⟨d, S1⟩ := x
    cases d <;> simp [asB, asI]
@[simp] theorem ow_mSl {ps : D → Option Int → Option Int → Sto → Option (D × Sto)} {lo hi : OM} : Ow (mSl ps a lo hi env S) Q ↔ Ow (a env S) fun x => Ow (lo env x.2) fun i => Ow (hi env i.2) fun j => Ow (ps x.1 i.1 j.1 j.2) Q := by
  unfold mSl
  cases a env S with
  | none => simp
  | some x =>
    cases h : lo env x.2 with
    | none => simp [h]
    | some y => cases h2 : hi env y.2 <;> simp_all
@[simp] theorem ow_mM0 {Ty : String} {pm : D → List D → Sto → Option (D × Sto)} : Ow (mM0 Ty pm a env S) Q ↔ Ow (a env S) fun x => tyD Ty x.2 x.1 = true ∧ Ow (pm x.1 [] x.2) Q := by
  unfold mM0
  cases a env S with
  | none => simp
  | some x =>
    simp only [ow_some]
    by_cases h : tyD Ty x.2 x.1 = true <;> simp [h]
@[simp] theorem ow_mM {Ty : String} {pm : D → List D → Sto → Option (D × Sto)} : Ow (mM Ty pm a l env S) Q ↔ Ow (a env S) fun x => tyD Ty x.2 x.1 = true ∧ Ow (l env x.2) fun y => Ow (pm x.1 y.1 y.2) Q := by
  unfold mM
  cases a env S with
  | none => simp
  | some x =>
    simp only [ow_some]
    by_cases h : tyD Ty x.2 x.1 = true
    · cases h2 : l env x.2 <;> simp [h, h2]
    · simp [h]
@[simp] theorem ow_mDNew : Ow (mDNew env S) Q ↔ Q (.loc S.length, S ++ [.dct []]) := ow_some
@[simp] theorem ow_prs_nil {R : List (D × D) × Sto → Prop} : Ow (evPairs [] env S) R ↔ R ([], S) := ow_some
@[simp] theorem ow_prs_cons {ps : PMs} {R : List (D × D) × Sto → Prop} : Ow (evPairs ((a, b) :: ps) env S) R ↔ Ow (a env S) fun x => Ow (b env x.2) fun y => Ow (evPairs ps env y.2) fun z => R ((x.1, y.1) :: z.1, z.2) := by
  rw [evPairs]
  cases a env S with
  | none => simp
  | some x =>
    obtain ⟨x, S1⟩ := x
    simp only [ow_some]
    cases b env S1 with
    | none => simp
    | some y =>
      obtain ⟨y, S2⟩ := y
      simp only [ow_some]
      cases evPairs ps env S2 <;> simp
@[simp] theorem ow_mDisp {ps : PMs} : Ow (mDisp ps env S) Q ↔ Ow (evPairs ps env S) fun x => (x.1.all fun p => okKey p.1) = true ∧ Q (.loc x.2.length, x.2 ++ [.dct (x.1.foldl (fun d p => dput d p.1 p.2) [])]) := by
  unfold mDisp
  cases evPairs ps env S with
  | none => simp
  | some x => simp only [ow_some, ow_if]
@[simp] theorem ow_sortK {m : FM} : Ow (mSortK m a env S) Q ↔ Ow (a env S) fun x => Ow (sortKP m x.1 x.2) Q := ow_m1
@[simp] theorem ow_next : Ow (sNext env S) T ↔ T (.nx, env, S) := ow_some
@[simp] theorem ow_break : Ow (sBreak env S) T ↔ T (.bk, env, S) := ow_some
@[simp] theorem ow_cont : Ow (sCont env S) T ↔ T (.ct, env, S) := ow_some
@[simp] theorem ow_never : Ow (sNever env S) T ↔ False := ow_none
@[simp] theorem ow_seq : Ow (sSeq sa sb env S) T ↔ Ow (sa env S) fun x => match x.1 with
    | .nx => Ow (sb x.2.1 x.2.2) T
    | .rt d => T (.rt d, x.2)
    | .bk => T (.bk, x.2)
    | .ct => T (.ct, x.2) := by
  unfold sSeq
  cases sa env S with
  | none => simp
  | some x =>
    obtain ⟨fl, e1, S1⟩ := x
    cases fl <;> simp
@[simp] theorem ow_expr : Ow (sExpr a env S) T ↔ Ow (a env S) fun x => T (.nx, env, x.2) := by
  unfold sExpr; cases a env S <;> simp
@[simp] theorem ow_ret : Ow (sRet a env S) T ↔ Ow (a env S) fun x => T (.rt x.1, env, x.2) := by
  unfold sRet; cases a env S <;> simp
@[simp] theorem ow_retN : Ow (sRetN env S) T ↔ T (.rt .non, env, S) := ow_some
@[simp] theorem ow_sIf : Ow (sIf ba sa sb env S) T ↔ Ow (ba env S) fun x => if x.1 = true then Ow (sa env x.2) T else Ow (sb env x.2) T := by
  unfold sIf
  cases ba env S with
  | none => simp
  | some x =>
    obtain ⟨t, S1⟩ := x
    cases t <;> simp
@[simp] theorem ow_asg : Ow (sAsg a g env S) T ↔ Ow (a env S) fun x => Ow (g x.1 env x.2) fun y => T (.nx, y) := by
  unfold sAsg
  cases a env S with
  | none => simp
  | some x => cases h : g x.1 env x.2 <;> simp_all
@[simp] theorem ow_gVar {i : Nat} {d : D} : Ow (gVar i d env S) N ↔ N (env.set i (some d), S) := ow_some
@[simp] theorem ow_gsNil : Ow (gsNil [] env S) N ↔ N (env, S) := ow_some
@[simp] theorem ow_gsCons {d : D} {ds : List D} : Ow (gsCons g gs (d :: ds) env S) N ↔ Ow (g d env S) fun y => Ow (gs ds y.1 y.2) N := by
  simp only [gsCons]
  cases g d env S <;> simp
@[simp] theorem ow_gTup {n : Nat} {ds : List D} : Ow (gTupD n gs (.tup ds) env S) N ↔ ds.length = n ∧ Ow (gs ds env S) N := by
  simp only [gTupD]
  exact ow_if
@[simp] theorem ow_gSub {d : D} : Ow (gSubM a b d env S) N ↔ Ow (a env S) fun x => Ow (b env x.2) fun y => Ow (setP x.1 y.1 d y.2) fun S3 => N (env, S3) := by
  unfold gSubM
  cases a env S with
  | none => simp
  | some x =>
    cases h : b env x.2 with
    | none => simp [h]
    | some y => cases h2 : setP x.1 y.1 d y.2 <;> simp_all
@[simp] theorem ow_aug {i : Nat} : Ow (sAug i p a env S) T ↔ ∃ x, env[i]? = some (some x) ∧ Ow (a env S) fun y => Ow (p x y.1 y.2) fun z => T (.nx, env.set i (some z.1), z.2) := by
  unfold sAug
  cases h : env[i]? with
  | none => simp
  | some o =>
    cases o with
    | none => simp
    | some x =>
      cases h1 : a env S with
      | none => simp
      | some y => cases h2 : p x y.1 y.2 <;> simp_all
theorem ow_runB {n : Nat} {ds : List D} : Ow (runB n sa ds S) Q ↔ Ow (sa (ds.map some ++ List.replicate (n - ds.length) none) S) fun x => match x.1 with
    | .rt d => Q (d, x.2.2)
    | .nx => Q (.non, x.2.2)
    | .bk => False
    | .ct => False := by
  unfold runB
  cases sa (ds.map some ++ List.replicate (n - ds.length) none) S with
  | none => simp
  | some x =>
    obtain ⟨fl, e1, S1⟩ := x
    cases fl <;> simp
@[simp] theorem ow_iSeq {I : DIt × Sto → Prop} : Ow (iSeq a env S) I ↔ Ow (a env S) fun x => (seqD x.2 x.1).isSome = true ∧ I (.seq x.1, x.2) := by
  unfold iSeq
  cases a env S with
  | none => simp
  | some x => cases h : seqD x.2 x.1 <;> simp_all
@[simp] theorem ow_iRng1 {I : DIt × Sto → Prop} : Ow (iRng1M a env S) I ↔ Ow (a env S) fun x => Ow (asI x.1) fun j => (-(2 ^ 62) ≤ j ∧ j < 2 ^ 62) ∧ I (.rng 0 j.toNat, x.2) := by
  unfold iRng1M
  cases a env S with
  | none => simp
  | some x =>
    obtain ⟨d, S1⟩ := x
    cases d <;> simp [ow_if, asI]
@[simp] theorem ow_iRng2 {I : DIt × Sto → Prop} : Ow (iRng2M a b env S) I ↔ Ow (a env S) fun x => Ow (asI x.1) fun i => Ow (b env x.2) fun y => Ow (asI y.1) fun j => (-(2 ^ 62) ≤ i ∧ i < 2 ^ 62 ∧ -(2 ^ 62) ≤ j ∧ j < 2 ^ 62) ∧ I (.rng i (j - i).toNat, y.2) := by
  unfold iRng2M
  cases a env S with
  | none => simp
  | some x =>
    obtain ⟨d, S1⟩ := x
    cases d with
    | int i =>
      cases h : b env S1 with
      | none => simp [h]
      | some y =>
        obtain ⟨d2, S2⟩ := y
        cases d2 <;> simp [h, ow_if, asI]
    | _ => simp [asB, asI]
end
theorem lcL_inv {it : DIt} {vs : List Nat} {t : Tgt} {tt : BM} {te : EM} {env : Vars} (its : List D) (I : Nat → List D → Sto → Prop) (hit : ∀ j acc S, I j acc S → itAt S it j = some its[j]?)
    (step : ∀ j d acc S, its[j]? = some d → I j acc S → ∃ env1, t.put (wipeD env vs) d = some env1 ∧ Ow (tt env1 S) fun x => if x.1 = true then Ow (te env1 x.2) fun y => acc.length < sizeLine ∧ I (j + 1) (acc ++ [y.1]) y.2 else I (j + 1) acc x.2) :
    ∀ (n j : Nat) (acc : List D) (S : Sto), its.length - j = n → j ≤ its.length → I j acc S → Ow (lcL it vs t tt te env j acc S) fun x => I its.length x.1 x.2
  | 0, j, acc, S, hn, hj, h => by
    have e : j = its.length := by omega
    rw [lcL_eq, hit j acc S h, List.getElem?_eq_none (by omega)]
    simp only [ow_some]
    rw [← e]
    exact h
  | n + 1, j, acc, S, hn, hj, h => by
    have hlt : j < its.length := by omega
    rw [lcL_eq, hit j acc S h, List.getElem?_eq_getElem hlt]
    obtain ⟨env1, e1, e2⟩ := step j _ acc S (List.getElem?_eq_getElem hlt) h
    simp only [e1]
    obtain ⟨⟨b, S1⟩, e3, e4⟩ := e2
    rw [e3]
    cases b with
    | false => exact lcL_inv its I hit step n (j + 1) acc S1 (by omega) (by omega) (by simpa using e4)
    | true =>
      simp only [if_true] at e4
      obtain ⟨⟨y, S2⟩, e5, e6, e7⟩ := e4
      simp only [e5, if_pos e6]
      exact lcL_inv its I hit step n (j + 1) _ S2 (by omega) (by omega) e7
theorem ow_lc {mi : IM} {vs : List Nat} {t : Tgt} {tt : BM} {te : EM} {env : Vars} {S : Sto} {Q : D × Sto → Prop} : Ow (mLc mi vs t tt te env S) Q ↔ Ow (mi env S) fun x => Ow (lcL x.1 vs t tt te env 0 [] x.2) fun y => Q (.loc y.2.length, y.2 ++ [.lst y.1]) := by
  unfold mLc
  cases mi env S with
  | none => simp
  | some x => cases h : lcL x.1 vs t tt te env 0 [] x.2 <;> simp_all
theorem forL_inv {it : DIt} {g : GM} {b : SM} (its : List D) (I : Nat → Vars → Sto → Prop) (R : Fl × Vars × Sto → Prop) (hit : ∀ j env S, I j env S → itAt S it j = some its[j]?)
    (fin : ∀ env S, I its.length env S → R (.nx, env, S))
    (step : ∀ j d env S, its[j]? = some d → I j env S → Ow (g d env S) fun x => Ow (b x.1 x.2) fun y => match y.1 with
      | .nx => I (j + 1) y.2.1 y.2.2
      | .ct => I (j + 1) y.2.1 y.2.2
      | .bk => R (.nx, y.2)
      | .rt d => R (.rt d, y.2)) :
    ∀ (n j : Nat) (env : Vars) (S : Sto), its.length - j = n → j ≤ its.length → I j env S → Ow (forL it g b j env S) R
  | 0, j, env, S, hn, hj, h => by
    have e : j = its.length := by omega
    rw [forL_eq, hit j env S h, List.getElem?_eq_none (by omega)]
    simp only [ow_some]
    exact fin env S (e ▸ h)
  | n + 1, j, env, S, hn, hj, h => by
    have hlt : j < its.length := by omega
    rw [forL_eq, hit j env S h, List.getElem?_eq_getElem hlt]
    obtain ⟨⟨env1, S1⟩, e1, ⟨fl, env2, S2⟩, e2, e3⟩ := step j _ env S (List.getElem?_eq_getElem hlt) h
    simp only [e1, e2]
    cases fl with
    | nx => exact forL_inv its I R hit fin step n (j + 1) env2 S2 (by omega) (by omega) e3
    | ct => exact forL_inv its I R hit fin step n (j + 1) env2 S2 (by omega) (by omega) e3
    | bk => simpa using e3
    | rt d => simpa using e3
theorem ow_for {mi : IM} {g : GM} {b : SM} {env : Vars} {S : Sto} {T : Fl × Vars × Sto → Prop} : Ow (sFor mi g b env S) T ↔ Ow (mi env S) fun x => Ow (forL x.1 g b 0 env x.2) T := by
  unfold sFor
  cases mi env S <;> simp
theorem sWhile_inv {c : BM} {b : SM} (I : Nat → Vars → Sto → Prop) (R : Fl × Vars × Sto → Prop)
    (step : ∀ n env S, I n env S → Ow (c env S) fun x => if x.1 = true then Ow (b env x.2) fun y => match y.1 with
      | .nx => ∃ m, m < n ∧ I m y.2.1 y.2.2
      | .ct => ∃ m, m < n ∧ I m y.2.1 y.2.2
      | .bk => R (.nx, y.2)
      | .rt d => R (.rt d, y.2) else R (.nx, env, x.2)) :
    ∀ (n : Nat) (env : Vars) (S : Sto), I n env S → Ow (sWhile c b env S) R := by
  intro n
  induction n using Nat.strongRecOn with
  | _ n ih =>
    intro env S h
    rw [sWhile_eq]
    obtain ⟨⟨t, S1⟩, e1, e2⟩ := step n env S h
    rw [e1]
    cases t with
    | false => simpa using e2
    | true =>
      simp only [if_true] at e2
      obtain ⟨⟨fl, env2, S2⟩, e3, e4⟩ := e2
      simp only [e3]
      cases fl with
      | nx => obtain ⟨m, hm, hi⟩ := e4; exact ih m hm env2 S2 hi
      | ct => obtain ⟨m, hm, hi⟩ := e4; exact ih m hm env2 S2 hi
      | bk => simpa using e4
      | rt d => simpa using e4
end DL
namespace DL
open PySem L2
section
variable {S : Sto} {i j : Int} {x y : Str} {ds es : List D} {d : D} {kvs : List (D × D)} {n : Nat}
theorem beq_dec {i j : Int} : (i == j) = decide (i = j) := by rw [Bool.eq_iff_iff]; simp
@[simp] theorem add_ii : addP (.int i) (.int j) S = some (.int (i + j), S) := rfl
@[simp] theorem add_tt : addP (.tup ds) (.tup es) S = if ds.length + es.length ≤ sizeLine then some (.tup (ds ++ es), S) else none := rfl
@[simp] theorem int_ii {f : Int → Int → Int} : intP f (.int i) (.int j) S = some (.int (f i j), S) := rfl
@[simp] theorem neg_i : negP (.int i) S = some (.int (-i), S) := rfl
theorem mul_ii (h : small i = true ∨ small j = true) : mulP (.int i) (.int j) S = some (.int (i * j), S) := by simp [mulP, h]
theorem mod_ii (h : 0 < j) : modP (.int i) (.int j) S = some (.int (i % j), S) := by simp [modP, h]
@[simp] theorem lt_ii : ltP (.int i) (.int j) S = some (.bl (decide (i < j)), S) := by simp [ltP, ltD, D.pure, D.py, SeqAt.shaped, PyData.canLay0, PyData.depth]
@[simp] theorem gt_ii : gtP (.int i) (.int j) S = some (.bl (decide (j < i)), S) := rfl
@[simp] theorem ge_ii : geP (.int i) (.int j) S = some (.bl (decide (j ≤ i)), S) := rfl
@[simp] theorem le_ii : leP (.int i) (.int j) S = some (.bl (decide (i ≤ j)), S) := rfl
@[simp] theorem eq_ii : eqP (.int i) (.int j) S = some (.bl (decide (i = j)), S) := by simp [eqP, pyOf, D.pure, D.py, SeqAt.shaped, PyData.canLay0, PyData.depth, PyData.eqv, beq_dec]
@[simp] theorem ne_ii : neP (.int i) (.int j) S = some (.bl (!decide (i = j)), S) := by simp [neP, pyOf, D.pure, D.py, SeqAt.shaped, PyData.canLay0, PyData.depth, PyData.eqv, beq_dec]
@[simp] theorem toInt_i : toIntP [.int i] S = some (.int i, S) := rfl
@[simp] theorem abs_i : absP [.int i] S = some (.int (if i < 0 then -i else i), S) := rfl
@[simp] theorem len_tup : lenP [.tup ds] S = some (.int ds.length, S) := rfl
@[simp] theorem min_ii : min2P [.int i, .int j] S = some (.int (if j < i then j else i), S) := rfl
@[simp] theorem max_ii : max2P [.int i, .int j] S = some (.int (if j > i then j else i), S) := rfl
theorem len_loc (h : S[n]? = some (.lst ds)) : lenP [.loc n] S = some (.int ds.length, S) := by simp [lenP, seqD, h]
theorem ix_dct (h : S[n]? = some (.dct kvs)) {k v : D} (h2 : okKey k = true) (h3 : dget kvs k = some v) : ixQ (.loc n) k S = some (v, S) := by simp [ixQ, dctD, h, h2, h3]
theorem ix_lst (h : S[n]? = some (.lst ds)) (h2 : 0 ≤ i) {d : D} (h3 : ds[i.toNat]? = some d) : ixQ (.loc n) (.int i) S = some (d, S) := by
  have hl : i.toNat < ds.length := (List.getElem?_eq_some_iff.mp h3).1
  simp only [ixQ, dctD, lckD, h, ixP, seqD, L2.atI, L2.ixN, if_pos h2, if_pos (show i < (ds.length : Int) by omega), Option.bind_some, h3]
theorem ix_tup (h2 : 0 ≤ i) {d : D} (h3 : ds[i.toNat]? = some d) : ixQ (.tup ds) (.int i) S = some (d, S) := by
  have hl : i.toNat < ds.length := (List.getElem?_eq_some_iff.mp h3).1
  simp only [ixQ, dctD, lckD, ixP, L2.atI, L2.ixN, if_pos h2, if_pos (show i < (ds.length : Int) by omega), Option.bind_some, h3]
end
section
variable {S : Sto} {i : Int} {b : Bool} {x : Str} {ds : List D}
@[simp] theorem isi_tuple_non : isiP "tuple" .non S = some (.bl false, S) := by
  have e : L2.kitB "NoneType" "tuple" = some false := by decide +kernel
  simp [isiP, tyN, e]
@[simp] theorem isi_tuple_bl : isiP "tuple" (.bl b) S = some (.bl false, S) := by
  have e : L2.kitB "bool" "tuple" = some false := by decide +kernel
  simp [isiP, tyN, e]
@[simp] theorem isi_tuple_int : isiP "tuple" (.int i) S = some (.bl false, S) := by
  have e : L2.kitB "int" "tuple" = some false := by decide +kernel
  simp [isiP, tyN, e]
@[simp] theorem isi_tuple_str : isiP "tuple" (.str x) S = some (.bl false, S) := by
  have e : L2.kitB "str" "tuple" = some false := by decide +kernel
  simp [isiP, tyN, e]
@[simp] theorem isi_tuple_tup : isiP "tuple" (.tup ds) S = some (.bl true, S) := by
  have e : L2.kitB "tuple" "tuple" = some true := by decide +kernel
  simp [isiP, tyN, e]
@[simp] theorem isi_str_non : isiP "str" .non S = some (.bl false, S) := by
  have e : L2.kitB "NoneType" "str" = some false := by decide +kernel
  simp [isiP, tyN, e]
@[simp] theorem isi_str_bl : isiP "str" (.bl b) S = some (.bl false, S) := by
  have e : L2.kitB "bool" "str" = some false := by decide +kernel
  simp [isiP, tyN, e]
@[simp] theorem isi_str_int : isiP "str" (.int i) S = some (.bl false, S) := by
  have e : L2.kitB "int" "str" = some false := by decide +kernel
  simp [isiP, tyN, e]
@[simp] theorem isi_str_str : isiP "str" (.str x) S = some (.bl true, S) := by
  have e : L2.kitB "str" "str" = some true := by decide +kernel
  simp [isiP, tyN, e]
@[simp] theorem isi_str_tup : isiP "str" (.tup ds) S = some (.bl false, S) := by
  have e : L2.kitB "tuple" "str" = some false := by decide +kernel
  simp [isiP, tyN, e]
@[simp] theorem isi_int_non : isiP "int" .non S = some (.bl false, S) := by
  have e : L2.kitB "NoneType" "int" = some false := by decide +kernel
  simp [isiP, tyN, e]
@[simp] theorem isi_int_bl : isiP "int" (.bl b) S = some (.bl true, S) := by
  have e : L2.kitB "bool" "int" = some true := by decide +kernel
  simp [isiP, tyN, e]
@[simp] theorem isi_int_int : isiP "int" (.int i) S = some (.bl true, S) := by
  have e : L2.kitB "int" "int" = some true := by decide +kernel
  simp [isiP, tyN, e]
@[simp] theorem isi_int_str : isiP "int" (.str x) S = some (.bl false, S) := by
  have e : L2.kitB "str" "int" = some false := by decide +kernel
  simp [isiP, tyN, e]
@[simp] theorem isi_int_tup : isiP "int" (.tup ds) S = some (.bl false, S) := by
  have e : L2.kitB "tuple" "int" = some false := by decide +kernel
  simp [isiP, tyN, e]
@[simp] theorem isi_bool_non : isiP "bool" .non S = some (.bl false, S) := by
  have e : L2.kitB "NoneType" "bool" = some false := by decide +kernel
  simp [isiP, tyN, e]
@[simp] theorem isi_bool_bl : isiP "bool" (.bl b) S = some (.bl true, S) := by
  have e : L2.kitB "bool" "bool" = some true := by decide +kernel
  simp [isiP, tyN, e]
@[simp] theorem isi_bool_int : isiP "bool" (.int i) S = some (.bl false, S) := by
  have e : L2.kitB "int" "bool" = some false := by decide +kernel
  simp [isiP, tyN, e]
@[simp] theorem isi_bool_str : isiP "bool" (.str x) S = some (.bl false, S) := by
  have e : L2.kitB "str" "bool" = some false := by decide +kernel
  simp [isiP, tyN, e]
@[simp] theorem isi_bool_tup : isiP "bool" (.tup ds) S = some (.bl false, S) := by
  have e : L2.kitB "tuple" "bool" = some false := by decide +kernel
  simp [isiP, tyN, e]
@[simp] theorem isi_list_non : isiP "list" .non S = some (.bl false, S) := by
  have e : L2.kitB "NoneType" "list" = some false := by decide +kernel
  simp [isiP, tyN, e]
@[simp] theorem isi_list_bl : isiP "list" (.bl b) S = some (.bl false, S) := by
  have e : L2.kitB "bool" "list" = some false := by decide +kernel
  simp [isiP, tyN, e]
@[simp] theorem isi_list_int : isiP "list" (.int i) S = some (.bl false, S) := by
  have e : L2.kitB "int" "list" = some false := by decide +kernel
  simp [isiP, tyN, e]
@[simp] theorem isi_list_str : isiP "list" (.str x) S = some (.bl false, S) := by
  have e : L2.kitB "str" "list" = some false := by decide +kernel
  simp [isiP, tyN, e]
@[simp] theorem isi_list_tup : isiP "list" (.tup ds) S = some (.bl false, S) := by
  have e : L2.kitB "tuple" "list" = some false := by decide +kernel
  simp [isiP, tyN, e]
@[simp] theorem tru_bl : truD S (.bl b) = some b := rfl
@[simp] theorem tru_int : truD S (.int i) = some (i != 0) := rfl
@[simp] theorem tru_tup : truD S (.tup ds) = some (!ds.isEmpty) := rfl
@[simp] theorem tru_non : truD S .non = some false := rfl
@[simp] theorem in_non : D.isNon .non = true := rfl
@[simp] theorem in_bl : D.isNon (.bl b) = false := rfl
@[simp] theorem in_int : D.isNon (.int i) = false := rfl
@[simp] theorem in_str : D.isNon (.str x) = false := rfl
@[simp] theorem in_tup : D.isNon (.tup ds) = false := rfl
@[simp] theorem in_loc {n : Nat} : D.isNon (.loc n) = false := rfl
end
theorem fits {n : Nat} (h : n ≤ 1000) : n ≤ sizeLine := Nat.le_trans h (by decide)
theorem fits_lt {n : Nat} (h : n ≤ 1000) : n < sizeLine := Nat.lt_of_le_of_lt h (by decide)
theorem lst_ok {ds : List D} {S : Sto} (h : ds.length ≤ 1000) : lstP ds S = some (.loc S.length, S ++ [.lst ds]) := if_pos (fits h)
theorem tup_ok {ds : List D} {S : Sto} (h : ds.length ≤ 1000) : tupP ds S = some (.tup ds, S) := if_pos (fits h)
def stK (c : D) (a l m : Int) : List (D × D) := [(.str "cells", c), (.str "at", .int a), (.str "left", .int l), (.str "mix", .int m)]
def mkS (cells : List Int) (a l m : Int) (T : Sto) : Sto := .lst (cells.map D.int) :: .dct (stK (.loc 0) a l m) :: T
def DSt (T : Sto) (S : Sto) : Prop := ∃ cells a l m, 0 ≤ a ∧ S = mkS cells a l m T
theorem okStr {x : Str} : okKey (.str x) = true := by simp [okKey, D.pure, D.depth]
theorem g_cells {c : D} {a l m : Int} : dget (stK c a l m) (.str "cells") = some c := by rfl
theorem g_at {c : D} {a l m : Int} : dget (stK c a l m) (.str "at") = some (.int a) := by rfl
theorem g_left {c : D} {a l m : Int} : dget (stK c a l m) (.str "left") = some (.int l) := by rfl
theorem g_mix {c : D} {a l m : Int} : dget (stK c a l m) (.str "mix") = some (.int m) := by rfl
theorem p_at {c : D} {a l m v : Int} : dput (stK c a l m) (.str "at") (.int v) = stK c v l m := by rfl
theorem p_left {c : D} {a l m v : Int} : dput (stK c a l m) (.str "left") (.int v) = stK c a v m := by rfl
theorem p_mix {c : D} {a l m v : Int} : dput (stK c a l m) (.str "mix") (.int v) = stK c a l v := by rfl
section
variable {cells : List Int} {a l m v i : Int} {T : Sto}
@[simp] theorem s_cells : ixQ (.loc 1) (.str "cells") (mkS cells a l m T) = some (.loc 0, mkS cells a l m T) := ix_dct rfl okStr g_cells
@[simp] theorem s_at : ixQ (.loc 1) (.str "at") (mkS cells a l m T) = some (.int a, mkS cells a l m T) := ix_dct rfl okStr g_at
@[simp] theorem s_left : ixQ (.loc 1) (.str "left") (mkS cells a l m T) = some (.int l, mkS cells a l m T) := ix_dct rfl okStr g_left
@[simp] theorem s_mix : ixQ (.loc 1) (.str "mix") (mkS cells a l m T) = some (.int m, mkS cells a l m T) := ix_dct rfl okStr g_mix
@[simp] theorem s_len : lenP [.loc 0] (mkS cells a l m T) = some (.int cells.length, mkS cells a l m T) := by rw [len_loc (ds := cells.map D.int) rfl]; simp
theorem set_st {k : D} {kvs : List (D × D)} (h : dput (stK (.loc 0) a l m) k (.int v) = kvs) (hk : okKey k = true) : setP (.loc 1) k (.int v) (mkS cells a l m T) = some (.lst (cells.map D.int) :: .dct kvs :: T) := by
  have e : dctD (mkS cells a l m T) (.loc 1) = some (stK (.loc 0) a l m) := rfl
  simp only [setP, e, hk, h, true_and]
  rw [if_pos (show (stK (.loc 0) a l m).length < sizeLine by show 4 < 2 ^ 24; decide)]
  rfl
@[simp] theorem st_at : setP (.loc 1) (.str "at") (.int v) (mkS cells a l m T) = some (mkS cells v l m T) := set_st p_at okStr
@[simp] theorem st_left : setP (.loc 1) (.str "left") (.int v) (mkS cells a l m T) = some (mkS cells a v m T) := set_st p_left okStr
@[simp] theorem st_mix : setP (.loc 1) (.str "mix") (.int v) (mkS cells a l m T) = some (mkS cells a l v T) := set_st p_mix okStr
theorem s_cell (h0 : 0 ≤ i) (h1 : i < cells.length) : ∃ c, ixQ (.loc 0) (.int i) (mkS cells a l m T) = some (.int c, mkS cells a l m T) := by
  have hl : i.toNat < cells.length := by omega
  exact ⟨cells[i.toNat], ix_lst (ds := cells.map D.int) rfl h0 (by simp [List.getElem?_eq_getElem hl])⟩
end
theorem pow18 {S : Sto} : powP (.int 10) (.int 18) S = some (.int (10 ^ 18), S) := by rfl
theorem DSt.at {T S : Sto} (h : DSt T S) (k : Nat) : S[k + 2]? = T[k]? := by
  obtain ⟨cells, a, l, m, _, rfl⟩ := h
  simp [mkS]
theorem DSt.len {T S : Sto} (h : DSt T S) : S.length = T.length + 2 := by
  obtain ⟨cells, a, l, m, _, rfl⟩ := h
  simp [mkS]
theorem DSt.app {T S : Sto} (h : DSt T S) (U : Sto) : DSt (T ++ U) (S ++ U) := by
  obtain ⟨cells, a, l, m, ha, rfl⟩ := h
  exact ⟨cells, a, l, m, ha, by simp [mkS]⟩
theorem DSt.set {T S : Sto} (h : DSt T S) (k : Nat) (o : Ob) : DSt (T.set k o) (S.set (k + 2) o) := by
  obtain ⟨cells, a, l, m, ha, rfl⟩ := h
  exact ⟨cells, a, l, m, ha, by simp [mkS]⟩
def DrawOk (dr : FM) : Prop := ∀ (T S : Sto) (b : Int), DSt T S → 0 < b → b < 1073741824 → Ow (dr [.loc 1, .int b] S) fun x => ∃ i, x.1 = .int i ∧ 0 ≤ i ∧ i < b ∧ DSt T x.2
end DL
namespace DL
open PySem PySem.Spec L2
open PyProof.Rows hiding St
def putD (f : Str) (v : D) : List (Str × D) → List (Str × D)
  | [] => [(f, v)]
  | (g, x) :: r => if g = f then (g, v) :: r else (g, x) :: putD f v r
theorem flds_look {K r H} {f : Str} : ∀ {fs : List (Str × D)} {vs : List (Str × V)} {d : D}, FldsV K r H fs vs → fs.lookup f = some d → ∃ v, vs.lookup f = some v ∧ DV K r H d v
  | [], _, _, .nil, h => by cases h
  | (g, x) :: fs, _, d, .cons (b := q) h t, hl => by
    obtain ⟨g', v⟩ := q
    obtain ⟨e, qv⟩ := h
    simp only at e qv
    subst e
    simp only [List.lookup] at hl ⊢
    split at hl
    · cases hl
      exact ⟨v, rfl, qv⟩
    · exact flds_look t hl
theorem flds_none {K r H} {f : Str} : ∀ {fs : List (Str × D)} {vs : List (Str × V)}, FldsV K r H fs vs → fs.lookup f = none → vs.lookup f = none
  | [], _, .nil, _ => rfl
  | (g, x) :: fs, _, .cons (b := q) h t, hl => by
    obtain ⟨g', v⟩ := q
    obtain ⟨e, qv⟩ := h
    simp only at e qv
    subst e
    simp only [List.lookup] at hl ⊢
    split at hl
    · cases hl
    · exact flds_none t hl
theorem flds_len {K r H} : ∀ {fs : List (Str × D)} {vs : List (Str × V)}, FldsV K r H fs vs → vs.length = fs.length
  | _, _, .nil => rfl
  | _, _, .cons _ t => by simp [flds_len t]
theorem flds_put {K r H} {f : Str} {d : D} {v : V} (q : DV K r H d v) : ∀ {fs : List (Str × D)} {vs : List (Str × V)}, FldsV K r H fs vs → FldsV K r H (putD f d fs) (putF f v vs)
  | [], _, .nil => .cons ⟨rfl, q⟩ .nil
  | (g, x) :: fs, _, .cons (b := p) h t => by
    obtain ⟨g', w⟩ := p
    obtain ⟨e, qv⟩ := h
    simp only at e qv
    subst e
    simp only [putD, putF]
    by_cases hg : g = f
    · rw [if_pos hg, if_pos hg]
      exact .cons ⟨rfl, q⟩ t
    · rw [if_neg hg, if_neg hg]
      exact .cons ⟨rfl, qv⟩ (flds_put q t)
def fldP (cs : List Nat) (f : Str) : D → Sto → Option (D × Sto)
  | .loc n, S => match S[n]? with
    | some (.ins c fs) => if c ∈ cs then (match fs.lookup f with
      | some d => some (d, S)
      | none => none) else none
    | _ => none
  | _, _ => none
def mFld (cs : List Nat) (f : Str) (a : EM) : EM := m1 (fldP cs f) a
def sFldD (cs : List Nat) (f : Str) (mv mo : EM) : SM := fun env S => match mv env S with
  | some (y, S1) => match mo env S1 with
    | some (.loc n, S2) => match S2[n]? with
      | some (.ins c fs) => if c ∈ cs ∧ fs.length < 1000 then some (.nx, env, S2.set n (.ins c (putD f y fs))) else none
      | _ => none
    | _ => none
  | none => none
def mMeth (m : Str) (cands : List (Nat × Nat)) (cl : Nat → FM) (mo : EM) (la : LM) : EM := fun env S => match mo env S with
  | some (.loc n, S1) => match S1[n]? with
    | some (.ins c fs) => match fs.lookup m, cands.lookup c with
      | none, some g => match la env S1 with
        | some (xs, S2) => cl g (.loc n :: xs) S2
        | none => none
      | _, _ => none
    | _ => none
  | _ => none
def mMake (c : Nat) (m : FM) (la : LM) : EM := fun env S => match la env S with
  | some (xs, S1) => match m (.loc S1.length :: xs) (S1 ++ [.ins c []]) with
    | some (.non, S2) => some (.loc S1.length, S2)
    | _ => none
  | none => none
section
variable {X : Cx} {ca : CAx} {e o value : Expr} {es : List Expr} {ma mv mo : EM} {la : LM} {f m : Str} {cs : List Nat} {pos pos' apos p : Pos}
def FldOk (K : PySem.W.Frag) (ca : CAx) (cs : List Nat) (f : Str) : Prop := ∀ c ∈ cs, Cls K (ca c) ∧ NoAttr K (ca c) f
theorem de_fld (hc : FldOk X.K ca cs f) (h : PE X e (liftE (gx X ca) ma)) (hb : attributeBase e f X.env (eval e X.env) = eval e X.env := by rfl) : PE X (.Attribute e f pos) (liftE (gx X ca) (mFld cs f ma)) :=
  wkE (pe_fld h hb) fun σ H Q hh => lift1 (t := fun x H1 Q => ∃ a C dx fs v, x = .ref a ∧ H1 a = some (.ins C dx fs) ∧ Cls X.K C ∧ NoAttr X.K C f ∧ fs.lookup f = some v ∧ Q v H1) (fun r S H x v d S' Q R hv e k => by
    unfold fldP at e
    split at e
    · split at e
      · rename_i c fs e1
        split at e
        · rename_i hm
          split at e
          · rename_i d' hl
            cases e
            obtain ⟨a, ea, rfl⟩ := dv_loc hv
            obtain ⟨dx, vs, h1, q1⟩ := R.at_ _ _ _ e1 ea
            obtain ⟨v', l', q'⟩ := flds_look q1 hl
            exact ⟨a, _, dx, vs, v', rfl, h1, (hc c hm).1, (hc c hm).2, l', k r H _ Ext.refl R q'⟩
          · cases e
        · cases e
      · cases e
    · cases e) hh
theorem ds_fld (hc : FldOk X.K ca cs f) (hv : PE X value (liftE (gx X ca) mv)) (ho : PE X o (liftE (gx X ca) mo)) (hs : swapsWith value (some (.Attribute o f pos')) pos.line X.env = pure false := by rfl) : PS X (.Assign [.Attribute o f pos'] value pos) (liftS (gx X ca) (sFldD cs f mv mo)) :=
  wkS (ps_fld ho hv hs) fun E σ H ⟨r, env, S, fl, env', S', R, W, h, k⟩ => by
    unfold sFldD at h
    split at h
    · rename_i y S1 e1
      refine ⟨r, env, S, y, S1, R, W, e1, fun r1 H1 v x1 R1 q1 => ?_⟩
      split at h
      · rename_i n S2 e2
        refine ⟨r1, env, S1, _, S2, R1, W.ext x1, e2, fun r2 H2 u x2 R2 q2 => ?_⟩
        split at h
        · rename_i c fs e3
          split at h
          · rename_i hm
            cases h
            obtain ⟨a, ea, rfl⟩ := dv_loc q2
            obtain ⟨dx, vs, h1, q3⟩ := R2.at_ _ _ _ e3 ea
            obtain ⟨x3, R3⟩ := R2.wr (o' := .ins c (putD f y fs)) (u := .ins (ca c) dx (putF f v vs)) e3 ea fun x => ⟨dx, _, upd_same, flds_put (DV.ext (x2.trans x) _ _ q1) (q3.ext x.w)⟩
            exact ⟨a, _, dx, vs, rfl, h1, (hc c hm.1).1, (hc c hm.1).2, by rw [flds_len q3]; exact hm.2, k _ σ _ (x1.trans (x2.trans x3)) R3 (W.ext (x1.trans (x2.trans x3)))⟩
          · cases h
        · cases h
      · cases h
    · cases h
structure MethOk (K : PySem.W.Frag) (ca : CAx) (a : Nat → Addr) (fd : Nat → FuncData) (psN : Nat → List Str) (m : Str) (n : Nat) (p : Nat × Nat) : Prop where
  c : Cls K (ca p.1)
  m : Meth K (ca p.1) m (a p.2)
  b : Binds K (fd p.2) (psN p.2) []
  l : (psN p.2).length = n + 1
theorem look_mem {l : List (Nat × Nat)} {c g : Nat} (h : l.lookup c = some g) : (c, g) ∈ l := by
  induction l with
  | nil => cases h
  | cons p l ih =>
    obtain ⟨a, b⟩ := p
    simp only [List.lookup] at h
    split at h
    · rename_i e
      cases h
      rw [beq_iff_eq] at e
      rw [e]
      exact List.mem_cons_self
    · exact List.mem_cons_of_mem _ (ih h)
section
variable {k n : Nat} {a : Nat → Addr} {fd : Nat → FuncData} {psN : Nat → List Str} {cl : Nat → FM} {cands : List (Nat × Nat)} {pl : Sem Bool}
theorem meth_run {pins : List (Addr × Obj)} {σ : L2.St} {s : Shared} {H : Hp} {Q : VK} {us : List Value} {vs : List V} {x : Addr} {c g nn : Nat} {r : List Addr} {S S' : Sto} {xs : List D} {d : D}
    (F : ∀ g, FnOk X.prog X.w X.K X.mg X.base CX0 k (a g) (fd g) (psN g) (spD (gx X ca) (psN g).length (cl g))) (hr : Room k X.A) (M : MethOk X.K ca a fd psN m n (c, g)) (I : Inv X pins σ H s) (R : RepS (gx X ca) r S H) (qo : DV X.K r H (.loc nn) (.ref x)) (qx : DVs X.K r H xs vs) (rv : Vals vs us) (hl : xs.length = n)
    (hm : cl g (.loc nn :: xs) S = some (d, S')) (hq : ∀ r' H' w, Ext X.K r H r' H' → RepS (gx X ca) r' S' H' → DV X.K r' H' d w → Q w H') : wpAny (model X.prog X.w) X.A (call (.ref (a g)) (.ref x :: us)) (EP X pins σ Q) X.xe s := by
  have sp : spD (gx X ca) (psN g).length (cl g) (V.ref x :: vs ++ []) H Q E0 := ⟨r, S, .loc nn :: xs, d, S', R, by rw [List.append_nil]; exact DVs.cons qo qx, by rw [M.l, List.length_cons, hl], hm, hq⟩
  exact run_fn (us := .ref x :: us) (vs := V.ref x :: vs) (F g) hr M.b .nil pass0 I (.cons rfl rv) sp
theorem de_meth (hc : ∀ p ∈ cands, MethOk X.K ca a fd psN m n p) (F : ∀ g, FnOk X.prog X.w X.K X.mg X.base CX0 k (a g) (fd g) (psN g) (spD (gx X ca) (psN g).length (cl g))) (hr : Room k X.A) (ho : PE X o (liftE (gx X ca) mo)) (hl : Len la n) (ha : PA X (e :: es) (liftL (gx X ca) la))
    (hst : starEach (e :: es) X.env = (false, eval e X.env) :: starEach es X.env := by rfl) (hpl : (backTo pos (starEach es X.env)).any (·.1) = false := by rfl)
    (ht : eval (.Call (.Attribute o m apos) (e :: es) [] pos) X.env = (do let ov ← eval o X.env
                                                                          standAt apos.atName
                                                                          let (f, first) ← holding [ov] (getMethod ov m pl)
                                                                          callWith pos f first (backTo pos (starEach (e :: es) X.env)) (backToKw pos (keywordEach [] X.env))) := by rfl) :
    PE X (.Call (.Attribute o m apos) (e :: es) [] pos) (liftE (gx X ca) (mMeth m cands cl mo la)) := by
  refine ⟨fun pins s σ H Q I ⟨r, env, S, d, S', R, W, h, k⟩ => ?_⟩
  unfold mMeth at h
  split at h
  · rename_i nn S1 e1
    refine PySem.W.methodCall_KW (pl := pl) (thn (ho.run pins s σ H (fun v H1 => ∃ r1, Ext X.K r H r1 H1 ∧ RepS (gx X ca) r1 S1 H1 ∧ DV X.K r1 H1 (.loc nn) v) I ⟨r, env, S, _, S1, R, W, e1, fun r1 H1 v x1 R1 q1 => ⟨r1, x1, R1, q1⟩⟩) fun u s1 ⟨v, H1, I1, rv, r1, x1, R1, q1⟩ => ?_) ht
    obtain ⟨x, ea, rfl⟩ := dv_loc q1
    obtain rfl : u = Value.ref x := rv
    split at h
    · rename_i c fs e2
      split at h
      · rename_i g hn hg
        have M := hc _ (look_mem hg)
        obtain ⟨dx, ws, h1, q2⟩ := R1.at_ _ _ _ e2 ea
        refine getmeth_ok I1 h1 M.c M.m (flds_none q2 hn) ?_
        split at h
        · rename_i xs S2 e3
          refine PySem.W.callWith_K (first := [.ref x]) (h₀ := X.base) I.ok.mod.kin M.m.kp (thn (ha.run pos pins s1 σ H1 (fun vs H2 => ∃ r2, Ext X.K r1 H1 r2 H2 ∧ RepS (gx X ca) r2 S2 H2 ∧ DVs X.K r2 H2 xs vs) I1 ⟨r1, env, S1, xs, S2, R1, W.ext x1, e3, fun r2 H2 vs x2 R2 q3 => ⟨r2, x2, R2, q3⟩⟩) fun us s2 ⟨vs, H2, I2, rvs, r2, x2, R2, q3⟩ => ⟨I2.kIn, ?_⟩) hst hpl
          exact meth_run F hr M I2 R2 (DV.ext x2 _ _ q1) q3 rvs (hl.ok _ _ _ _ e3) h fun r' H' w x3 R3 q4 => k r' H' w (x1.trans (x2.trans x3)) R3 q4
        · cases h
      · cases h
    · cases h
  · cases h
theorem de_make {c : Nat} {g : Addr} {fdi : FuncData} {ps : List Str} {mi : FM} {x : Str} (M : Mk X.K (ca c) g) (F : FnOk X.prog X.w X.K X.mg X.base CX0 (k - 2) g fdi ps (spD (gx X ca) (n + 1) mi)) (hz : k < 2 → ∀ ds S, mi ds S = none) (hr : Room k X.A) (hb : Binds X.K fdi ps []) (hm : X.mg x = some (.ref (ca c)))
    (hl : Len la n) (ha : PA X (e :: es) (liftL (gx X ca) la)) (hg : Gl X x := by rfl) (hdb : (x == ("__debug__" : Str)) = false := by decide) (he : starEach (e :: es) X.env = (false, eval e X.env) :: starEach es X.env := by rfl) (hpl : (backTo pos (starEach es X.env)).any (·.1) = false := by rfl) :
    PE X (.Call (.Name x p) (e :: es) [] pos) (liftE (gx X ca) (mMake c mi la)) := by
  refine ⟨fun pins s σ H Q I hh => ?_⟩
  have k2 : 2 ≤ k := by
    obtain ⟨r, env, S, d, S', R, W, h, _⟩ := hh
    unfold mMake at h
    split at h
    · rename_i xs S1 e1
      by_cases hk : k < 2
      · rw [hz hk] at h; cases h
      · omega
    · cases h
  refine (pe_make (E := E0) M F (hr.mono (by omega)) hg hm hb .nil pass0 ha hdb he hpl).run pins s σ H Q I ?_
  obtain ⟨r, env, S, d, S', R, W, h, k⟩ := hh
  unfold mMake at h
  split at h
  · rename_i xs S1 e1
    refine ⟨r, env, S, xs, S1, R, W, e1, fun r1 H1 vs x1 R1 q1 => ?_⟩
    intro x dx hx hdx hne
    split at h
    · rename_i S2 e2
      cases h
      obtain ⟨x2, R2⟩ := R1.side (u := .own x) hdx
      have hx2 : upd H1 dx (.own x) x = none := by rw [upd_ne hne.symm]; exact hx
      obtain ⟨x3, R3⟩ := R2.new (u := .ins (ca c) dx []) (o := .ins c []) hx2 fun y => ⟨dx, [], upd_same, .nil⟩
      refine ⟨_, S1 ++ [.ins c []], .loc S1.length :: xs, .non, _, R3, by rw [List.append_nil]; exact DVs.cons R2.newLoc (DVs.ext (x2.trans x3) _ _ q1), by rw [List.length_cons, hl.ok _ _ _ _ e1], e2, fun r' H' v x4 R4 q4 => ?_⟩
      unfold DV at q4
      refine ⟨q4, k r' H' _ (x1.trans (x2.trans (x3.trans x4))) R4 ?_⟩
      exact DV.ext x4 _ _ R2.newLoc
    · cases h
  · cases h
theorem de_make0 {c : Nat} {g : Addr} {fdi : FuncData} {ps : List Str} {mi : FM} {x : Str} (M : Mk X.K (ca c) g) (F : FnOk X.prog X.w X.K X.mg X.base CX0 (k - 2) g fdi ps (spD (gx X ca) 1 mi)) (hz : k < 2 → ∀ ds S, mi ds S = none) (hr : Room k X.A) (hb : Binds X.K fdi ps []) (hm : X.mg x = some (.ref (ca c)))
    (hg : Gl X x := by rfl) (hdb : (x == ("__debug__" : Str)) = false := by decide) : PE X (.Call (.Name x p) [] [] pos) (liftE (gx X ca) (mMake c mi lNil)) := by
  refine ⟨fun pins s σ H Q I hh => ?_⟩
  have k2 : 2 ≤ k := by
    obtain ⟨r, env, S, d, S', R, W, h, _⟩ := hh
    simp only [mMake, lNil] at h
    by_cases hk : k < 2
    · rw [hz hk] at h; cases h
    · omega
  refine (pe_make0 (E := E0) M F (hr.mono (by omega)) hg hm hb .nil pass0 hdb).run pins s σ H Q I ?_
  obtain ⟨r, env, S, d, S', R, W, h, k⟩ := hh
  simp only [mMake, lNil] at h
  show ∀ x dx, H x = none → H dx = none → dx ≠ x → _
  intro x dx hx hdx hne
  split at h
  · rename_i S2 e2
    cases h
    obtain ⟨x2, R2⟩ := R.side (u := .own x) hdx
    have hx2 : upd H dx (.own x) x = none := by rw [upd_ne hne.symm]; exact hx
    obtain ⟨x3, R3⟩ := R2.new (u := .ins (ca c) dx []) (o := .ins c []) hx2 fun y => ⟨dx, [], upd_same, .nil⟩
    refine ⟨_, S ++ [.ins c []], [.loc S.length], .non, _, R3, DVs.cons R2.newLoc DVs.nil, rfl, e2, fun r' H' v x4 R4 q4 => ?_⟩
    unfold DV at q4
    exact ⟨q4, k r' H' _ (x2.trans (x3.trans x4)) R4 (DV.ext x4 _ _ R2.newLoc)⟩
  · cases h
end
end
end DL
namespace DL
open PySem PySem.Spec L2
open PyProof.Rows hiding St
def mMG (ty : D → Sto → Bool) (p : D → List D → Sto → Option (D × Sto)) (a : EM) (l : LM) : EM := fun env S => match a env S with
  | some (x, S1) => if ty x S1 = true then (match l env S1 with
    | some (xs, S2) => p x xs S2
    | none => none) else none
  | none => none
def TyG (X : Cx) (ca : CAx) (T : String) (ty : D → Sto → Bool) : Prop := ∀ (pins : List (Addr × Obj)) (σ : L2.St) (H : Hp) (s : Shared) (r : List Addr) (S : Sto) (x : D) (v : V) (u : Value), Inv X pins σ H s → RepS (gx X ca) r S H → DV X.K r H x v → RelV v u → ty x S = true →
  s.TypeIs u T ∧ ∀ a, u = .ref a → ∃ ob, s.heap.get? a = some ob ∧ ob.dict = none
def PrimG (X : Cx) (ca : CAx) (id : String) (p : D → List D → Sto → Option (D × Sto)) : Prop := ∀ (pins : List (Addr × Obj)) (σ : L2.St) (H : Hp) (s : Shared) (r : List Addr) (S : Sto) (x : D) (v : V) (u : Value) (xs : List D) (vs : List V) (us : List Value) (d : D) (S' : Sto) (Q : VK),
  Inv X pins σ H s → RepS (gx X ca) r S H → DV X.K r H x v → RelV v u → DVs X.K r H xs vs → Vals vs us → p x xs S = some (d, S') → (∀ r' H' w, Ext X.K r H r' H' → RepS (gx X ca) r' S' H' → DV X.K r' H' d w → Q w H') →
  wpAny (model X.prog X.w) X.A (call (.builtin id) (u :: us)) (EP X pins σ Q) X.xe s
section
variable {X : Cx} {ca : CAx} {o e : Expr} {es : List Expr} {ma : EM} {la : LM} {name : Str} {apos cpos : Pos} {T id : String} {ty : D → Sto → Bool} {q : D → List D → Sto → Option (D × Sto)}
theorem de_bmG (hp : PrimG X ca id q) (ht : TyG X ca T ty) (pa : PlainAttrs T) (slot : Slot T name id) (hty : typeOf (.builtin id) = pure (.type "method_descriptor")) (ho : PE X o (liftE (gx X ca) ma)) (ha : PA X (e :: es) (liftL (gx X ca) la))
    (hbase : attributeBase o name X.env (eval o X.env) = eval o X.env := by rfl)
    (hfew : ((backTo cpos (starEach (e :: es) X.env)).all (fun x => !x.1) && (backToKw cpos (keywordEach [] X.env)).all (fun x => x.1.isSome) && decide ((e :: es).length + ([] : List Keyword).length + (if ([] : List Keyword).isEmpty then 0 else 1) < 30)) = true := by rfl)
    (hline : (apos.endLine == cpos.line) = true := by rfl) (hs : starEach (e :: es) X.env = (false, eval e X.env) :: starEach es X.env := by rfl) (hplain : (backTo cpos (starEach es X.env)).any (·.1) = false := by rfl) :
    PE X (.Call (.Attribute o name apos) (e :: es) [] cpos) (liftE (gx X ca) (mMG ty q ma la)) := by
  refine ⟨fun pins s σ H Q I ⟨r, env, S, d, S', R, W, h, k⟩ => ?_⟩
  unfold mMG at h
  split at h
  · rename_i x S1 e1
    split at h
    · rename_i hx
      split at h
      · rename_i xs S2 e2
        refine wpAny_Call_method_late hbase hfew hline rfl (thn (ho.run pins s σ H (fun v H1 => ∃ r1, Ext X.K r H r1 H1 ∧ RepS (gx X ca) r1 S1 H1 ∧ DV X.K r1 H1 x v) I ⟨r, env, S, x, S1, R, W, e1, fun r1 H1 v x1 R1 q1 => ⟨r1, x1, R1, q1⟩⟩) fun u s1 ⟨v, H1, I1, rv, r1, x1, R1, q1⟩ => ?_)
        obtain ⟨h1, h2⟩ := ht pins σ H1 s1 r1 S1 x v u I1 R1 q1 rv hx
        refine ⟨T, id, pa, slot, hty, h1, h2, ?_⟩
        have hA := ha.run cpos pins s1 σ H1 (fun vs H2 => ∃ r2, Ext X.K r1 H1 r2 H2 ∧ RepS (gx X ca) r2 S2 H2 ∧ DVs X.K r2 H2 xs vs) I1 ⟨r1, env, S1, xs, S2, R1, W.ext x1, e2, fun r2 H2 vs x2 R2 q2 => ⟨r2, x2, R2, q2⟩⟩
        rw [hs] at hA ⊢
        refine Calls.callWith_builtin (by show (false || (backTo cpos (starEach es X.env)).any (·.1)) = false; rw [hplain] <;> rfl) (Calls.evalArgs_plain ?_)
        exact thn hA fun us s2 ⟨vs, H2, I2, rvs, r2, x2, R2, q2⟩ => hp pins σ H2 s2 r2 S2 x v u xs vs us d S' Q I2 R2 (DV.ext x2 _ _ q1) rv q2 rvs h fun r3 H3 w x3 R3 q3 => k r3 H3 w (x1.trans (x2.trans x3)) R3 q3
      · cases h
    · cases h
  · cases h
end
def isDct (x : D) (S : Sto) : Bool := (dctD S x).isSome
def getP : D → List D → Sto → Option (D × Sto) := fun x xs S => match dctD S x, xs with
  | some kvs, [k] => if okKey k = true then some ((dget kvs k).getD .non, S) else none
  | some kvs, [k, df] => if okKey k = true then some ((dget kvs k).getD df, S) else none
  | _, _ => none
def setdefP : D → List D → Sto → Option (D × Sto) := fun x xs S => match x, dctD S x, xs with
  | .loc n, some kvs, [k, df] => if okKey k = true ∧ kvs.length < sizeLine then (match dget kvs k with
    | some d => some (d, S)
    | none => some (df, S.set n (.dct (dput kvs k df)))) else none
  | _, _, _ => none
section
variable {X : Cx} {ca : CAx} {k : Nat}
theorem ty_dct : TyG X ca "dict" isDct := fun pins σ H s r S x v u I R q rv h => by
  obtain ⟨kvs, e⟩ := Option.isSome_iff_exists.mp h
  obtain ⟨n, a, rfl, rfl, ea, e1, hov⟩ := dct_at R q e
  cases rv
  obtain ⟨es, ob, ents, ep, L⟩ := dlies_of I hov
  exact ⟨L.ty, fun b hb => by cases hb; exact ⟨ob, L.ob, L.ex.2.1⟩⟩
theorem getm2 {A : Around} {E : Value → Shared → Prop} {s : Shared} {H : Hp} {r : List Addr} {a : Addr} {kvs : List (D × D)} {es : List Ent} {o : Obj} {ents : Array DictEntry} {ep : Nat} {k : D} {u : Value} {Q : Value → Shared → Prop} (hu : A.in1.units + 8 < cLine) (L : DLies X r H s a kvs es o ents ep) (hk : KV8 s.heap k.key u)
    (q : ∀ t, match dget kvs k with | some d => ∀ v w', DV X.K r H d v → RelV v w' → Q w' { s with toks := t } | none => Q .none { s with toks := t }) : wpAny (model X.prog X.w) A (call (.builtin "dict.get") [.ref a, u]) Q E s := by
  refine wpAny_call_entry F.slot_dict_get L.ty F.entry_dict_get ?_ (F.args_dict_get_2 _ _)
  show wpAny _ _ (dictGet a u >>= _) _ _ s
  refine wpAny_bind (dict_get hu L hk fun t => ?_)
  have q := q t
  split
  · rename_i d e
    rw [e] at q
    intro v w' qv rv
    exact wpAny_pure ⟨w', rfl, q v w' qv rv⟩
  · rename_i e
    rw [e] at q
    show wpAny _ _ (Builtin.Dict.missed a u >>= _) _ _ _
    refine wpAny_bind (wpAny_missed_other L.sm ?_)
    exact wpAny_pure ⟨_, rfl, q⟩
theorem prim_get (hr : Room k X.A) : PrimG X ca "dict.get" getP := by
  intro pins σ H s r S x v u xs vs us d S' Q I R q rv qx rvs h kq
  unfold getP at h
  split at h
  · rename_i kvs ky e
    split at h
    · rename_i ok
      obtain ⟨n, a, rfl, rfl, ea, e1, hov⟩ := dct_at R q e
      cases rv
      obtain ⟨kv, rfl, qk⟩ := qx.one
      obtain ⟨ku, rfl, rk⟩ := vals1 rvs
      obtain ⟨es, ob, ents, ep, L⟩ := dlies_of I hov
      refine getm2 (u8 hr) L (kv8_of I qk rk ok) fun t => ?_
      split
      · rename_i d' e2
        rw [e2] at h
        cases h
        exact fun v w' qv rv => ⟨v, H, I.tok t, rv, kq r H v Ext.refl R qv⟩
      · rename_i e2
        rw [e2] at h
        cases h
        exact ⟨.non, H, I.tok t, rfl, kq r H .non Ext.refl R mk_non⟩
    · cases h
  · rename_i kvs ky df e
    split at h
    · rename_i ok
      obtain ⟨n, a, rfl, rfl, ea, e1, hov⟩ := dct_at R q e
      cases rv
      obtain ⟨kv, dv, rfl, qk, qd⟩ := qx.two
      obtain ⟨ku, du, rfl, rk, rd⟩ := vals2 rvs
      obtain ⟨es, ob, ents, ep, L⟩ := dlies_of I hov
      refine dict_getm (u8 hr) L (kv8_of I qk rk ok) du fun t => ?_
      split
      · rename_i d' e2
        rw [e2] at h
        cases h
        exact fun v w' qv rv => ⟨v, H, I.tok t, rv, kq r H v Ext.refl R qv⟩
      · rename_i e2
        rw [e2] at h
        cases h
        exact ⟨dv, H, I.tok t, rd, kq r H dv Ext.refl R qd⟩
    · cases h
  · cases h
theorem prim_setdef (hr : Room k X.A) : PrimG X ca "dict.setdefault" setdefP := by
  intro pins σ H s r S x v u xs vs us d S' Q I R q rv qx rvs h kq
  unfold setdefP at h
  split at h
  · rename_i n kvs ky df e
    split at h
    · rename_i ok
      obtain ⟨n', a, hn, rfl, ea, e1, hov⟩ := dct_at R q e
      cases hn
      cases rv
      obtain ⟨kv, dv, rfl, qk, qd⟩ := qx.two
      obtain ⟨ku, du, rfl, rk, rd⟩ := vals2 rvs
      obtain ⟨es, ob, ents, ep, L⟩ := dlies_of I hov
      refine dict_setdefault (u8 hr) I L (kv8_of I qk rk ok.1) rk rd (fun t d' v' w' e2 qv rv => ?_) fun s' e2 I' => ?_
      · rw [e2] at h
        cases h
        exact ⟨v', H, I.tok t, rv, kq r H v' Ext.refl R qv⟩
      · rw [e2] at h
        cases h
        obtain ⟨x', R'⟩ := R.dct e1 ea ok.2 L.ev ok.1 qk qd
        exact ⟨dv, _, I', rd, kq r _ dv x' R' (DV.ext x' _ _ qd)⟩
    · cases h
  · cases h
end
end DL
namespace DL
open PySem PySem.Spec L2
open PyProof.Rows hiding St
def dcN (it : DIt) (vs : List Nat) (t : Tgt) (tt : BM) (tk tv : EM) (env : Vars) : Nat → Nat → List (D × D) → Sto → Option (List (D × D) × Sto)
  | 0, _, _, _ => none
  | f + 1, i, acc, S => match itAt S it i with
    | none => none
    | some none => some (acc, S)
    | some (some d) => match t.put (wipeD env vs) d with
      | none => none
      | some env1 => match tt env1 S with
        | none => none
        | some (false, S1) => dcN it vs t tt tk tv env f (i + 1) acc S1
        | some (true, S1) => match tk env1 S1 with
          | none => none
          | some (y, S2) => match tv env1 S2 with
            | none => none
            | some (z, S3) => if okKey y = true ∧ acc.length < sizeLine then dcN it vs t tt tk tv env f (i + 1) (dput acc y z) S3 else none
theorem dcN_up {it : DIt} {vs : List Nat} {t : Tgt} {tt : BM} {tk tv : EM} {env : Vars} : ∀ (n i : Nat) (acc : List (D × D)) (S : Sto) a, dcN it vs t tt tk tv env n i acc S = some a → dcN it vs t tt tk tv env (n + 1) i acc S = some a
  | 0, _, _, _, _, h => by simp [dcN] at h
  | n + 1, i, acc, S, a, h => by
    unfold dcN at h ⊢
    split at h
    · cases h
    · exact h
    · rename_i d e1
      try simp only [e1]
      split at h
      · cases h
      · rename_i env1 e2
        try simp only [e2]
        split at h
        · cases h
        · rename_i S1 e3
          try simp only [e3]
          exact dcN_up n _ _ _ _ h
        · rename_i S1 e3
          try simp only [e3]
          split at h
          · cases h
          · rename_i y S2 e4
            try simp only [e4]
            split at h
            · cases h
            · rename_i z S3 e5
              try simp only [e5]
              split at h
              · rename_i hz
                rw [if_pos hz]
                exact dcN_up n _ _ _ _ h
              · cases h
noncomputable def dcL (it : DIt) (vs : List Nat) (t : Tgt) (tt : BM) (tk tv : EM) (env : Vars) (i : Nat) (acc : List (D × D)) (S : Sto) : Option (List (D × D) × Sto) := lim fun n => dcN it vs t tt tk tv env n i acc S
theorem dcL_eq (it : DIt) (vs : List Nat) (t : Tgt) (tt : BM) (tk tv : EM) (env : Vars) (i : Nat) (acc : List (D × D)) (S : Sto) : dcL it vs t tt tk tv env i acc S = match itAt S it i with
    | none => none
    | some none => some (acc, S)
    | some (some d) => match t.put (wipeD env vs) d with
      | none => none
      | some env1 => match tt env1 S with
        | none => none
        | some (false, S1) => dcL it vs t tt tk tv env (i + 1) acc S1
        | some (true, S1) => match tk env1 S1 with
          | none => none
          | some (y, S2) => match tv env1 S2 with
            | none => none
            | some (z, S3) => if okKey y = true ∧ acc.length < sizeLine then dcL it vs t tt tk tv env (i + 1) (dput acc y z) S3 else none := by
  unfold dcL
  rw [lim_shift (fun n a h => dcN_up n _ _ _ _ h) rfl]
  simp only [dcN]
  cases itAt S it i with
  | none => exact lim_const
  | some o =>
    cases o with
    | none => exact lim_const
    | some d =>
      try simp only
      cases t.put (wipeD env vs) d with
      | none => exact lim_const
      | some env1 =>
        try simp only
        cases tt env1 S with
        | none => exact lim_const
        | some q =>
          obtain ⟨b, S1⟩ := q
          cases b with
          | false => rfl
          | true =>
            try simp only
            cases tk env1 S1 with
            | none => exact lim_const
            | some y =>
              try simp only
              cases tv env1 y.2 with
              | none => exact lim_const
              | some z =>
                try simp only
                split
                · rfl
                · exact lim_const
noncomputable def mDc (mi : IM) (vs : List Nat) (t : Tgt) (tt : BM) (tk tv : EM) : EM := fun env S => match mi env S with
  | some (it, S1) => match dcL it vs t tt tk tv env 0 [] S1 with
    | some (kvs, S2) => some (.loc S2.length, S2 ++ [.dct kvs])
    | none => none
  | none => none
section
variable {X : Cx} {ca : CAx} {kx vx tg iter : Expr} {ifs : List Expr} {scope : Scope} {own : List (Str × Nat)} {mi : IM} {t : Tgt} {tt : BM} {tk tv : EM} {pos : Pos}
structure DcI (X : Cx) (ca : CAx) (B : Cx) (fp : List Addr) (tn : Nat → Heap → Prop) (Da : Addr) (r0 : List Addr) (H0 : Hp) (it : DIt) (vs : List Nat) (t : Tgt) (tt : BM) (tk tv : EM) (env : Vars) (res : List (D × D)) (S9 : Sto) (ω : L2.St) (n i : Nat) (H : Hp) (s : Shared) : Prop where
  inv : Inv B [] ω H s
  tn_ : tn i s.heap
  nfp : ∀ b ∈ fp, H b = none
  st : ∃ r S acc es, Ext X.K r0 H0 r H ∧ RepS (gx X ca) r S H ∧ H Da = some (.ext (RawD X.w Da es)) ∧ Da ∉ r ∧ EntsV X.K r H acc es ∧ (dkeys acc).Nodup ∧ acc.length ≤ sizeLine ∧ dcN it vs t tt tk tv env n i acc S = some (res, S9)
theorem ext_up {K : PySem.W.Frag} {r0 r : List Addr} {H0 H : Hp} {Da : Addr} {o : HO} (x : Ext K r0 H0 r H) (h0 : H0 Da = none) (w : ExtW K r H r (upd H Da o)) : Ext K r0 H0 r (upd H Da o) :=
  ⟨x.pre, fun a vs h => w.tups a vs (x.tups a vs h), fun a vs h => w.scrs a vs (x.scrs a vs h), fun a u h n nt => ⟨by rw [upd_ne (ne_of_none h h0)]; exact (x.frame a u h n nt).1, (x.frame a u h n nt).2⟩, fun a od u h => by rw [upd_ne (ne_of_none h h0)]; exact x.frzs a od u h⟩
theorem RepS.off {G : Ctx} {r : List Addr} {S : Sto} {H : Hp} {Da : Addr} {o u0 : HO} (R : RepS G r S H) (nD : Da ∉ r) (hp : H Da = some u0) (h1 : ∀ ps, u0 ≠ .tbl ps) (h2 : ∀ q, u0 ≠ LamX.CodeO Da q) (y : ExtW G.K r H r (upd H Da o)) (h3 : ∀ od, u0 ≠ .frz od (.own Da) := by intro _ z; cases z) : RepS G r S (upd H Da o) :=
  ⟨R.len, R.nd, fun n o' b z1 z2 => (R.at_ n o' b z1 z2).ext y (upd_ne (by rintro rfl; exact nD (List.mem_of_getElem? z2))), fun q hq => (R.tabs q hq).wr hp h1 h2, fun q hq => (R.clos q hq).wr hp h3 h2⟩
theorem dc_loop {σ ω : L2.St} {s3 s4 : Shared} {H3 H1 : Hp} {ce : Env} {fp : List Addr} {itA Da : Addr} {tn : Nat → Heap → Prop} {J : It} {r1 : List Addr} {it : DIt} {env : Vars} {res : List (D × D)} {S9 : Sto} {n0 : Nat} {Rr : Result → Shared → Prop} {k : Nat} {W0 : VarsV X.K r1 H1 env σ}
    (hr : Room k X.A) (hc : X.calm = true) (hm : ∀ i ∈ t.slots, i ∈ own.map (·.2)) (sm : (Da == sysModules) = false) (hD1 : H1 Da = none) (T : Turn X.prog X.w X.K tg J fp itA tn) (J1 : ItOk (gx X ca) r1 H1 it J) (hω : ω = wipe σ (own.map (·.2)))
    (pg : PG (X.blk s3 H3 scope ce fp) tg (gTgt X.K t)) (pt : PTs (X.blk s3 H3 scope ce fp) ifs (liftB (gx X ca) tt)) (pk : PE (X.blk s3 H3 scope ce fp) kx (liftE (gx X ca) tk)) (pe : PE (X.blk s3 H3 scope ce fp) vx (liftE (gx X ca) tv))
    (C0 : DcI X ca (X.blk s3 H3 scope ce fp) fp tn Da r1 H1 it (own.map (·.2)) t tt tk tv env res S9 ω n0 0 H3 s4)
    (fin : ∀ s' H' r' es, Inv (X.blk s3 H3 scope ce fp) [] ω H' s' → Ext X.K r1 H1 r' H' → RepS (gx X ca) r' S9 H' → H' Da = some (.ext (RawD X.w Da es)) → Da ∉ r' → EntsV X.K r' H' res es → (dkeys res).Nodup → res.length ≤ sizeLine → Rr (.ok .next) s') :
    codeAny (model X.prog X.w) X.A (.compLoop (.DictComp kx vx [⟨tg, iter, ifs, 0⟩] scope pos) 0 (.ref itA) (.ref Da) ce) Rr s4 := by
  have stat : ∀ {ω' : L2.St} {H' : Hp} {s' : Shared}, Inv (X.blk s3 H3 scope ce fp) [] ω' H' s' → (∀ b ∈ fp, H' b = none) → ∀ b ∈ fp, FpOk (X.blk s3 H3 scope ce fp) [] H' b := by
    intro ω' H' s' I' hn b hb
    refine ⟨hn b hb, (I'.ok.exf b hb).1, I'.ok.exfs b hb, .inl hb, fun x c e => (I'.ok.exf b hb).2 x c e, fun p hp => ?_⟩
    cases hp
  refine compLoop_anyD (fun n s' => ∃ i H', DcI X ca (X.blk s3 H3 scope ce fp) fp tn Da r1 H1 it (own.map (·.2)) t tt tk tv env res S9 ω n i H' s') ?_ n0 ⟨0, H3, C0⟩
  rintro n s5 ⟨i, H5, ⟨I5, st5, n5, r5, S5, acc, es, x5, R5, hD5, nD5, ev5, nd5, sz5, h5⟩⟩
  cases n with
  | zero => simp [dcN] at h5
  | succ n =>
    unfold dcN at h5
    split at h5
    · cases h5
    · rename_i e5
      cases h5
      refine thnF (T.done (X.blk s3 H3 scope ce fp) rfl rfl rfl hc i [] s5 _ H5 (fun _ _ => False) I5 (stat I5 n5) st5 (J1.stop r5 _ H5 i x5.f R5 e5)) fun r s6 ⟨hr6, I6⟩ => ?_
      subst hr6
      exact fin s6 H5 r5 es I6 x5 R5 hD5 nD5 ev5 nd5 sz5
    · rename_i d e5
      obtain ⟨go, yl⟩ := J1.go r5 S5 H5 i d x5.f R5 e5
      refine thnF (T.item (X.blk s3 H3 scope ce fp) rfl rfl rfl hc i [] s5 _ H5 (fun _ _ => False) I5 (stat I5 n5) st5 go) fun r s6 ⟨u, hr6, h6⟩ => ?_
      subst hr6
      refine thnF h6 fun _ s7 ⟨x, H7, I7, rv7, y7, st7, n7⟩ => ?_
      obtain ⟨r7, x7, R7, q7⟩ := yl x H7 y7
      obtain ⟨hD7, nD7⟩ := x7.frame _ _ hD5 nD5
      have I7' := I7.pinned (stat I7 n7) (T.obj _ _ st7)
      split at h5
      · cases h5
      · rename_i env1 e7
        have W7 : VarsV X.K r7 H7 (wipeD env (own.map (·.2))) ω := by rw [hω]; exact (W0.ext (x5.trans x7)).wipe _
        refine thnF (pg.run _ s7 _ H7 x u (fun σ8 H8 => H8 = H7 ∧ VarsV X.K r7 H7 env1 σ8 ∧ wipe σ8 (own.map (·.2)) = wipe ω (own.map (·.2))) I7' rv7 (gTgt_ok e7 q7 W7 hm fun σ2 W2 hw => ⟨rfl, W2, hw⟩)) fun _ s8 ⟨σ8, H8, I8, hH8, W8, hw8⟩ => ?_
        subst hH8
        -- the turn's end
        have fin8 : ∀ {s' : Shared} {H' : Hp} {i' m' : Nat}, Inv (X.blk s3 H3 scope ce fp) ([] ++ pinsAt fp s7.heap) σ8 H' s' → (∃ r S acc es, Ext X.K r1 H1 r H' ∧ RepS (gx X ca) r S H' ∧ H' Da = some (.ext (RawD X.w Da es)) ∧ Da ∉ r ∧ EntsV X.K r H' acc es ∧ (dkeys acc).Nodup ∧ acc.length ≤ sizeLine ∧ dcN it (own.map (·.2)) t tt tk tv env n (i + 1) acc S = some (res, S9)) →
            ∃ m, m < n + 1 ∧ ∃ i H', DcI X ca (X.blk s3 H3 scope ce fp) fp tn Da r1 H1 it (own.map (·.2)) t tt tk tv env res S9 ω m i H' s' := by
          intro s' H' _ _ I' st'
          have pin' : ∀ b ∈ fp, ∀ o, s7.heap.get? b = some o → s'.heap.get? b = some o ∧ H' b = none := fun b hb o e => by
            have z := I'.pin (b, o) (List.mem_append_right _ (List.mem_append_right _ (mem_pinsAt hb e)))
            exact ⟨z.1, z.2.1⟩
          have ww : ω = wipe σ8 (own.map (·.2)) := by rw [hw8, hω, wipe_wipe]
          refine ⟨n, Nat.lt_succ_self n, i + 1, H', (I'.unpinned (pins := [])).weak (by rw [ww, wipe_length]) (fun j v e => ?_), T.keep _ _ _ st7 fun b hb o e => (pin' b hb o e).1, fun b hb => ?_, st'⟩
          · rw [ww] at e
            exact (wipe_some e).1
          · obtain ⟨o, e, _⟩ := T.obj _ _ st7 b hb
            exact (pin' b hb o e).2
        split at h5
        · cases h5
        · rename_i S8 e8
          refine thnF (pt.run _ s8 σ8 H8 (fun b H9 => b = false ∧ ∃ r9, Ext X.K r7 H8 r9 H9 ∧ RepS (gx X ca) r9 S8 H9) I8 ⟨r7, env1, S5, false, S8, R7, W8, e8, fun r9 H9 x9 R9 => ⟨rfl, r9, x9, R9⟩⟩) fun b s9 ⟨H9, I9, hb, r9, x9, R9⟩ => ?_
          subst hb
          simp only [Bool.false_eq_true, if_false]
          obtain ⟨hD9, nD9⟩ := x9.frame _ _ hD7 nD7
          exact fin8 (i' := 0) (m' := 0) I9 ⟨r9, S8, acc, es, x5.trans (x7.trans x9), R9, hD9, nD9, ev5.ext (x7.trans x9).w, nd5, sz5, h5⟩
        · rename_i S8 e8
          refine thnF (pt.run _ s8 σ8 H8 (fun b H9 => b = true ∧ ∃ r9, Ext X.K r7 H8 r9 H9 ∧ RepS (gx X ca) r9 S8 H9) I8 ⟨r7, env1, S5, true, S8, R7, W8, e8, fun r9 H9 x9 R9 => ⟨rfl, r9, x9, R9⟩⟩) fun b s9 ⟨H9, I9, hb, r9, x9, R9⟩ => ?_
          subst hb
          simp only [if_true]
          obtain ⟨hD9, nD9⟩ := x9.frame _ _ hD7 nD7
          split at h5
          · cases h5
          · rename_i y S10 e10
            refine thnF (pk.run _ s9 σ8 H9 (fun v H10 => ∃ r10, Ext X.K r9 H9 r10 H10 ∧ RepS (gx X ca) r10 S10 H10 ∧ DV X.K r10 H10 y v) I9 ⟨r9, env1, S8, y, S10, R9, W8.ext x9, e10, fun r10 H10 v x10 R10 q10 => ⟨r10, x10, R10, q10⟩⟩) fun ku s10 ⟨kv, H10, I10, rk, r10, x10, R10, q10⟩ => ?_
            obtain ⟨hD10, nD10⟩ := x10.frame _ _ hD9 nD9
            split at h5
            · cases h5
            · rename_i z S11 e11
              refine thnF (pe.run _ s10 σ8 H10 (fun v H11 => ∃ r11, Ext X.K r10 H10 r11 H11 ∧ RepS (gx X ca) r11 S11 H11 ∧ DV X.K r11 H11 z v) I10 ⟨r10, env1, S10, z, S11, R10, W8.ext (x9.trans x10), e11, fun r11 H11 v x11 R11 q11 => ⟨r11, x11, R11, q11⟩⟩) fun zu s11 ⟨zv, H11, I11, rz, r11, x11, R11, q11⟩ => ?_
              obtain ⟨hD11, nD11⟩ := x11.frame _ _ hD10 nD10
              split at h5
              · rename_i hz
                have xx := x7.trans (x9.trans (x10.trans x11))
                have ev11 := ev5.ext xx.w
                obtain ⟨o, ents, ep, L⟩ := dlies_mk I11 hD11 sm sz5 nd5 ev11
                refine dict_put (X := X.blk s3 H3 scope ce fp) (show X.A.units + 8 < cLine by have := hr.un; omega) I11 L (kv8_of I11 (DV.ext x11 _ _ q10) rk hz.1) rk rz fun s12 I12 => ?_
                have w12 := extW_raw (r := r11) (K := X.K) (es' := eput es y.key kv zv) hD11
                refine fin8 (i' := 0) (m' := 0) I12 ⟨r11, S11, dput acc y z, eput es y.key kv zv, ext_up (x5.trans xx) hD1 w12, R11.off nD11 hD11 (fun _ z => by cases z) (fun _ z => codeO_raw rfl z.symm) w12, upd_same, nD11, (ents_put ev11 hz.1 (DV.ext x11 _ _ q10) q11).ext w12, nodup_put nd5 _ _, ?_, h5⟩
                have := length_put acc y z
                omega
              · cases h5
theorem dc_core {k : Nat} {pins : List (Addr × Obj)} {s : Shared} {σ : L2.St} {H : Hp} {use : Option (Value → Sem Unit)} {Qf : Value → Shared → Prop} {pos' : Pos} {r : List Addr} {env : Vars} {S S' : Sto} {d : D} (hr : Room k X.A) (hN : X.N.Nodup) (ok : BlkOk X.N X.env.scope scope own) (hm : ∀ i ∈ t.slots, i ∈ own.map (·.2)) (hi : PI X tg iter (liftI (gx X ca) mi))
    (hg : ∀ (s : Shared) (H : Hp) (C : Addr) (cl : List (Str × Addr)) (fp : List Addr), PG (X.blk s H scope (compEnvC scope cl C X.env) fp) tg (gTgt X.K t)) (ht : ∀ (s : Shared) (H : Hp) (C : Addr) (cl : List (Str × Addr)) (fp : List Addr), PTs (X.blk s H scope (compEnvC scope cl C X.env) fp) ifs (liftB (gx X ca) tt))
    (hk : ∀ (s : Shared) (H : Hp) (C : Addr) (cl : List (Str × Addr)) (fp : List Addr), PE (X.blk s H scope (compEnvC scope cl C X.env) fp) kx (liftE (gx X ca) tk)) (he : ∀ (s : Shared) (H : Hp) (C : Addr) (cl : List (Str × Addr)) (fp : List Addr), PE (X.blk s H scope (compEnvC scope cl C X.env) fp) vx (liftE (gx X ca) tv))
    (hc : X.calm = true ) (hs : ∀ x, foldedSetIterable iter X.env x = pure x )
    (I : Inv X pins σ H s) (R : RepS (gx X ca) r S H) (W : VarsV X.K r H env σ) (h : mDc mi (own.map (·.2)) t tt tk tv env S = some (d, S'))
    (post : ∀ Da C r' H' s' m, Inv X pins σ H' s' → Ext X.K r H r' H' → RepS (gx X ca) r' S' H' → DV X.K r' H' d (.ref Da) → s'.heap.Ns C m → FpOk X pins H' C → compPost (model X.prog X.w) X.A X.xe use Qf (.ref Da) C (.ok .next) s') :
    wpAny (model X.prog X.w) X.A (comprehension (.DictComp kx vx [⟨tg, iter, ifs, 0⟩] scope pos) scope X.env pos' newDict false (eval iter X.env) use) Qf X.xe s := by
  unfold mDc at h
  split at h
  · rename_i it0 S1 e1
    split at h
    · rename_i kvs S2 e2
      cases h
      obtain ⟨n0, h0⟩ := lim_some e2
      have hfree : ∀ y ∈ scope.names, y.2 = .free → ∃ c, X.env.cells.lookup y.1 = some c := by
        intro y hy e
        exact (ok.free y hy e).elim (fun z => I.ok.has _ (.inl z)) fun z => I.ok.has _ (.inr z)
      refine wpAny_comprehension_free (use := use) rfl hs (closure_ok hfree) ok.kind (fun y hy e => by rw [ok.uniq y hy, e])
        (thn (hi.run pins s σ H (fun J H1 => ∃ r1, Ext X.K r H r1 H1 ∧ RepS (gx X ca) r1 S1 H1 ∧ ItOk (gx X ca) r1 H1 it0 J) I ⟨r, env, S, it0, S1, R, W, e1, fun r1 H1 J x1 R1 J1 => ⟨r1, x1, R1, J1⟩⟩) fun xv s1 hx => thn hx fun itv s2 h2 => ?_)
      obtain ⟨itA, fp, tn, J, H1, rfl, I1, T, tn0, fok, r1, x1, R1, J1⟩ := h2
      refine wpAny_newObj_type (newEnv_comp ?_)
      have hD1 : H1 s2.heap.objs.size = none := I1.hok.fresh (Nat.le_refl _)
      have sm : (s2.heap.objs.size == sysModules) = false := (dk_empty (P := X.prog) (w := X.w) (H := H1) s2.heap I1.big).2.1
      have I3 : Inv X pins σ (upd H1 s2.heap.objs.size (.ext (RawD X.w s2.heap.objs.size []))) { s2 with heap := s2.heap.push { cls := .type "dict", data := .dict #[] } } := I1.laid (t' := s2.toks) (fun _ _ q => Heap.get?_push_of_some _ q) (Nat.le_refl _) raw_empty.ok
      have lt2 : ∀ b ∈ fp, b < s2.heap.objs.size := fun b hb => by
        obtain ⟨o, e, _⟩ := T.obj _ _ tn0 b hb
        exact Heap.lt_size e
      have f3 : ∀ b ∈ fp, FpOk X pins (upd H1 s2.heap.objs.size (.ext (RawD X.w s2.heap.objs.size []))) b ∧ b < (s2.heap.push { cls := .type "dict", data := .dict #[] }).objs.size := fun b hb => by
        have hlt := lt2 b hb
        exact ⟨⟨by rw [upd_ne (Nat.ne_of_lt hlt)]; exact (fok b hb).1, (fok b hb).2⟩, by rw [Heap.size_push]; exact Nat.lt_succ_of_lt hlt⟩
      have I4 := block_start I3 ok hN f3
      obtain ⟨x3, R3⟩ := R1.side (u := .ext (RawD X.w s2.heap.objs.size [])) hD1
      have st4 : tn 0 (pushCells ((s2.heap.push { cls := .type "dict", data := .dict #[] }).push { cls := .type "dict", data := .dict #[] }) scope.names) := T.keep _ _ _ tn0 fun b _ o e => pushCells_keeps _ _ _ _ (Heap.get?_push_of_some _ (Heap.get?_push_of_some _ e))
      have loop := dc_loop (own := own) (kx := kx) (vx := vx) (iter := iter) (ifs := ifs) (scope := scope) (pos := pos) (it := it0) (res := kvs) (S9 := S2) (n0 := n0) (W0 := W.ext x1) (Rr := compPost (model X.prog X.w) X.A X.xe use Qf (.ref s2.heap.objs.size) (s2.heap.push { cls := .type "dict", data := .dict #[] }).objs.size) hr hc hm sm hD1 T J1 rfl
        (hg { s2 with heap := s2.heap.push { cls := .type "dict", data := .dict #[] } } (upd H1 s2.heap.objs.size (.ext (RawD X.w s2.heap.objs.size []))) (s2.heap.push { cls := .type "dict", data := .dict #[] }).objs.size (cellsFrom ((s2.heap.push { cls := .type "dict", data := .dict #[] }).objs.size + 1) scope.names (cloFrom X.env.cells scope.names [])) fp) (ht _ _ _ _ _) (hk _ _ _ _ _) (he _ _ _ _ _)
        ⟨I4, st4, fun b hb => (f3 b hb).1.1, r1, S1, [], [], x3, R3, upd_same, R1.free hD1, .nil, List.nodup_nil, Nat.zero_le _, h0⟩
        (fun s6 H6 r6 es I6 x6 R6 hD6 nD6 ev6 nd6 sz6 => by
          have I7 : Inv X pins σ H6 s6 := I3.call' (ch := fp) I6.os I6.base I6.hok I6.bare fun b hb => ⟨(f3 b hb).1.2.2.2.1, (f3 b hb).1.2.1, (f3 b hb).1.2.2.2.2.1, (f3 b hb).1.2.2.2.2.2⟩
          have nC : H6 (s2.heap.push { cls := .type "dict", data := .dict #[] }).objs.size = none := I6.free
          obtain ⟨m, hn, _⟩ := I6.loc
          obtain ⟨y6, R7⟩ := R6.regD hD6 nD6 sm sz6 nd6 ev6
          refine post s2.heap.objs.size _ (r6 ++ [s2.heap.objs.size]) H6 s6 m I7 ⟨(x1.trans x6).pre.trans y6.pre, (x1.trans x6).tups, (x1.trans x6).scrs, fun a u hu hn nt => ?_, (x1.trans x6).frzs⟩ R7 R6.newLoc hn (I3.fpOk (Nat.le_refl _) nC)
          obtain ⟨z1, z2⟩ := x1.frame a u hu hn nt
          exact ⟨(x6.frame a u z1 z2 nt).1, by simp [(x6.frame a u z1 z2 nt).2, ne_of_none z1 hD1]⟩)
      exact codeAny_compStart_dict loop (T.self X.A 0 _ _ _ st4 loop)
    · cases h
  · cases h
theorem ds_setDc {k : Nat} {i : Nat} {y : Str} {py spos : Pos} (hsw : swapsWith (.DictComp kx vx [⟨tg, iter, ifs, 0⟩] scope pos) (some (.Name y py)) spos.line X.env = pure true) (hr : Room k X.A) (hN : X.N.Nodup) (ok : BlkOk X.N X.env.scope scope own) (hm : ∀ i ∈ t.slots, i ∈ own.map (·.2)) (hi : PI X tg iter (liftI (gx X ca) mi))
    (hg : ∀ (s : Shared) (H : Hp) (C : Addr) (cl : List (Str × Addr)) (fp : List Addr), PG (X.blk s H scope (compEnvC scope cl C X.env) fp) tg (gTgt X.K t)) (ht : ∀ (s : Shared) (H : Hp) (C : Addr) (cl : List (Str × Addr)) (fp : List Addr), PTs (X.blk s H scope (compEnvC scope cl C X.env) fp) ifs (liftB (gx X ca) tt))
    (hk : ∀ (s : Shared) (H : Hp) (C : Addr) (cl : List (Str × Addr)) (fp : List Addr), PE (X.blk s H scope (compEnvC scope cl C X.env) fp) kx (liftE (gx X ca) tk)) (he : ∀ (s : Shared) (H : Hp) (C : Addr) (cl : List (Str × Addr)) (fp : List Addr), PE (X.blk s H scope (compEnvC scope cl C X.env) fp) vx (liftE (gx X ca) tv))
    (hy : X.N[i]? = some y := by rfl) (hyl : X.env.scope.names.lookup y = some .local := by rfl) (hc : X.calm = true := by rfl) (hs : ∀ x, foldedSetIterable iter X.env x = pure x := by intro _; rfl) :
    PS X (.Assign [.Name y py] (.DictComp kx vx [⟨tg, iter, ifs, 0⟩] scope pos) spos) (liftS (gx X ca) (sAsg (mDc mi (own.map (·.2)) t tt tk tv) (gVar i))) := by
  refine ⟨fun pins s σ H E I ⟨r, env, S, fl, env', S', R, W, h, kq⟩ => ?_⟩
  unfold sAsg gVar at h
  split at h
  · rename_i d S1 e1
    cases h
    rw [exec_Assign_Name_used _ _ _ _ hsw]
    refine wpAny_bind (wpAny_standAt (wpAny_bind ?_))
    show wpAny _ X.A (do let _ ← comprehension (.DictComp kx vx [⟨tg, iter, ifs, 0⟩] scope pos) scope X.env (firstIterPos [⟨tg, iter, ifs, 0⟩] pos) newDict false (eval iter X.env) (some (assign (.Name y py) X.env))) _ _ s
    refine wpAny_bind (thn (dc_core (Qf := fun _ s' => SP X pins E .next s') hr hN ok hm hi hg ht hk he hc hs I R W e1 fun Da C r' H' s' m I' x' R' q' hn f => ?_) fun _ s' hq => wpAny_pure (wpAny_pure hq))
    show wpAny _ _ (assign (.Name y py) X.env (.ref Da)) _ _ _
    refine wpAny_assign_Name (store_ok2 (v := V.ref Da) I' hN hy (.inl hyl) rfl (fun s2 I2 ⟨a, sb, ha⟩ => ?_) (.inr hyl))
    obtain ⟨f0, f1, f2, f3, f4, f5⟩ := f
    have haC : C ≠ a := ha.elim (fun z => by rw [z]; exact f1) fun z e => f4 y a z e.symm
    refine ⟨m, hn.sameBut sb haC, fun h3 sb3 => ⟨_, H', I2.turned (t' := s2.toks) (fun b o hb e => (sb3.2 b hb).trans e) f0 f1 f3 f4 f5, kq r' _ H' x' R' ((W.ext x').set i q')⟩⟩
  · cases h
end
theorem swd_true {k v : Expr} {gs : List Comprehension} {scope : Scope} {pos py : Pos} {y : Str} {l : Nat} {env : Env} (hk : env.scope.kind = .function) (hy : env.scope.names.lookup y = some .local) (hl : (py.line == pos.line) = true)
    (ha : (scope.names.any fun (n, k) => n == y && (k == .local || k == .cell)) = false) : swapsWith (.DictComp k v gs scope pos) (some (.Name y py)) l env = pure true := by
  have k1 : env.kindOf y = some .local := hy
  have k2 : env.blockKind = .function := by
    unfold Env.blockKind
    rw [hk]
    rfl
  unfold swapsWith
  simp only [k1, k2, ha, hl, Expr.pos]
  rfl
end DL
namespace DL
open PySem PySem.Spec L2
open PyProof.Rows hiding St
section
variable {X : Cx} {ca : CAx} {r : List Addr} {H : Hp} {s : Shared} {a : Addr} {kvs : List (D × D)} {es : List Ent} {o : Obj} {ents : Array DictEntry} {ep : Nat}
theorem DLies.raw (L : DLies X r H s a kvs es o ents ep) : s.heap.DictRaw a ents ep := ⟨o, L.ob, L.ex, L.dt⟩
theorem DLies.size (L : DLies X r H s a kvs es o ents ep) : ents.size = kvs.length := by
  have h1 := paired_len L.ev
  have h2 := paired_len L.le
  have h3 : ents.toList.length = ents.size := Array.length_toList
  omega
theorem RLies.raw (L : RLies X r H s a kvs es o ents ep) : s.heap.DictRaw a ents ep := ⟨o, L.ob, L.ex, L.dt⟩
theorem RLies.size (L : RLies X r H s a kvs es o ents ep) : ents.size = kvs.length := by
  have h1 := paired_len L.ev
  have h2 := paired_len L.le
  have h3 : ents.toList.length = ents.size := Array.length_toList
  omega
theorem lies_keys (ev : EntsV X.K r H kvs es) (le : LiesE X.w es ents.toList) : ∃ vs, DVs X.K r H (kvs.map (·.1)) vs ∧ Vals vs (ents.toList.map (·.key)) := by
  have go : ∀ {kvs : List (D × D)} {es : List Ent} {xs : List DictEntry}, EntsV X.K r H kvs es → LiesE X.w es xs → ∃ vs, DVs X.K r H (kvs.map (·.1)) vs ∧ Vals vs (xs.map (·.key)) := by
    intro kvs es xs h1
    induction h1 generalizing xs with
    | nil =>
      intro h2
      cases h2
      exact ⟨[], DVs.nil, .nil⟩
    | cons q _ ih =>
      intro h2
      cases h2 with
      | cons p t =>
        obtain ⟨vs, i1, i2⟩ := ih t
        exact ⟨_ :: vs, DVs.cons q.2.2.2.1 i1, .cons p.2.1 i2⟩
  exact go ev le
theorem DLies.keys (L : DLies X r H s a kvs es o ents ep) : ∃ vs, DVs X.K r H (kvs.map (·.1)) vs ∧ Vals vs (ents.toList.map (·.key)) := lies_keys L.ev L.le
theorem RLies.keys (L : RLies X r H s a kvs es o ents ep) : ∃ vs, DVs X.K r H (kvs.map (·.1)) vs ∧ Vals vs (ents.toList.map (·.key)) := lies_keys L.ev L.le
end
def rDct (G : Ctx) (P : List Addr → List (D × D) → Hp → VK → Prop) : List V → Hp → VK → Prop := fun xs H Q => ∃ r S d v kvs, xs = [v] ∧ RepS G r S H ∧ DV G.K r H d v ∧ dctD S d = some kvs ∧ P r kvs H Q
section
variable {X : Cx} {ca : CAx}
theorem cr_listD (hc : X.calm = true) : CallR X (.type "list") (rDct (gx X ca) fun r kvs H Q => ∀ l vs, H l = none → DVs X.K r H (kvs.map (·.1)) vs → Q (.ref l) (upd H l (.lst vs))) := by
  intro pins s σ H xs us Q I rr h
  obtain ⟨r, S, d, v, kvs, rfl, R, q, e, k⟩ := h
  obtain ⟨u, rfl, rx⟩ := vals1 rr
  obtain ⟨n, a, rfl, rfl, ea, e1, hov⟩ := dct_at R q e
  cases rx
  obtain ⟨es, ob, ents, ep, L⟩ := dlies_of I hov
  obtain ⟨vs, q1, rv⟩ := L.keys
  have hz : ents.size ≤ sizeLine := by rw [L.size]; exact L.sz
  refine PySem.W.kdl_call (PySem.KdlSrc.rawDict (es := ents) (ep := ep) L.sm) (I.ok.hd hc) L.raw hz fun h' tk acc c kp e2 it => ?_
  have hl : acc.toList = ents.toList.map (·.key) := by
    apply List.ext_getElem?
    intro j
    rw [Array.getElem?_toList, List.getElem?_map, Array.getElem?_toList]
    by_cases hj : j < ents.size
    · have hj' : j < acc.size := by rw [it.1]; exact hj
      obtain ⟨_, hv⟩ := it.2 j acc[j] (Array.getElem?_eq_getElem hj')
      rw [Array.getElem?_eq_getElem hj', Array.getElem?_eq_getElem hj, hv]
      rfl
    · rw [Array.getElem?_eq_none (by rw [it.1]; omega), Array.getElem?_eq_none (by omega)]
      rfl
  rw [← hl] at rv
  refine ⟨.ref _, _, I.laid (t' := tk) kp (Nat.le_refl _) (show ObjOk X.prog X.w _ h' _ (.lst vs) from ⟨?_, acc.toList, c, rv, ?_⟩), rfl, k _ vs (I.hok.fresh (Nat.le_refl _)) q1⟩
  · rw [rv.length, Array.length_toList, it.1]
    exact hz
  · rw [Array.toArray_toList]
    exact e2
theorem cr_lenD : CallR X (.builtin "len") (rDct (gx X ca) fun r kvs H Q => Q (.int kvs.length) H) := by
  intro pins s σ H xs us Q I rr h
  obtain ⟨r, S, d, v, kvs, rfl, R, q, e, k⟩ := h
  obtain ⟨u, rfl, rx⟩ := vals1 rr
  obtain ⟨n, a, rfl, rfl, ea, e1, hov⟩ := dct_at R q e
  cases rx
  obtain ⟨es, ob, ents, ep, L⟩ := dlies_of I hov
  have hsz := L.size
  have hz := L.sz
  have hfit : ((ents.size : Nat) : Int) < 2 ^ 63 := by
    have : sizeLine = 16777216 := sizeLine_eq
    omega
  refine Calls.call_function_entry kind_len plain_len entry_len (args_len1 _) ?_
  unfold Builtin.«len»
  refine wpAny_bind (m := oneArg "len" _) (wpAny_pure ?_)
  refine wpAny_bind (m := callSpecial? (.ref a) (Str.ofString "__len__")) ?_
  refine wpAny_callSpecial?_slot (name := Str.ofString "__len__") L.ty F.slot_dict_len (PySem.call_len_raw L.sm L.raw ?_)
  show wpAny _ _ _ _ _ { s with toks := s.toks + 1 }
  refine wpAny_bind (wpAny_holding (wpAny_pure ?_))
  refine wpAny_bind (wpAny_letGo ?_)
  show wpAny _ _ (if ((ents.size : Nat) : Int) < 0 then _ else _) _ _ _
  rw [if_neg (by omega)]
  show wpAny _ _ (if ((ents.size : Nat) : Int) ≥ 2 ^ 63 then _ else _) _ _ _
  rw [if_neg (by omega)]
  refine wpAny_bind (wpAny_mkInt (wpAny_pure ⟨_, rfl, ?_⟩))
  exact ⟨.int kvs.length, H, I.tok _, ⟨_, by rw [hsz]⟩, k⟩
def listQ : List D → Sto → Option (D × Sto) := fun xs S => match xs with
  | [d] => match dctD S d with
    | some kvs => some (.loc S.length, S ++ [.lst (kvs.map (·.1))])
    | none => listP [d] S
  | _ => none
def lenQ : List D → Sto → Option (D × Sto) := fun xs S => match xs with
  | [d] => match dctD S d with
    | some kvs => some (.int kvs.length, S)
    | none => lenP [d] S
  | _ => none
def rList1 (X : Cx) (ca : CAx) : List V → Hp → VK → Prop := fun xs H Q => (∃ p ys, xs = [.ref p] ∧ (SqL X.K H p ys ∨ SqT X.K H p ys) ∧ ∀ l, H l = none → Q (.ref l) (upd H l (.lst ys))) ∨ rDct (gx X ca) (fun r kvs H Q => ∀ l vs, H l = none → DVs X.K r H (kvs.map (·.1)) vs → Q (.ref l) (upd H l (.lst vs))) xs H Q
theorem call_list1 (hc : X.calm = true := by rfl) : CallR X (.type "list") (rList1 X ca) := call_list_of.or (cr_listD hc)
theorem prim_list1 : PrimL (gx X ca) (rList1 X ca) listQ := by
  intro r S H xs vs d S' Q R hv h k
  unfold listQ at h
  split at h
  · split at h
    · rename_i kvs e
      cases h
      obtain ⟨v, rfl, q⟩ := hv.one
      refine .inr ⟨r, S, _, v, kvs, rfl, R, q, e, fun l vs hl q1 => ?_⟩
      obtain ⟨x, R'⟩ := R.lst hl q1
      exact k _ _ _ x R' R.newLoc
    · exact .inl (prim_list r S H _ vs d S' Q R hv h k)
  · cases h
def rLen1 (X : Cx) (ca : CAx) : List V → Hp → VK → Prop := fun xs H Q => (∃ x n, xs = [x] ∧ LenV X.K x H n ∧ Q (.int n) H) ∨ rDct (gx X ca) (fun r kvs H Q => Q (.int kvs.length) H) xs H Q
theorem call_len1 : CallR X (.builtin "len") (rLen1 X ca) := call_len.or cr_lenD
theorem prim_len1 : PrimL (gx X ca) (rLen1 X ca) lenQ := by
  intro r S H xs vs d S' Q R hv h k
  unfold lenQ at h
  split at h
  · split at h
    · rename_i kvs e
      cases h
      obtain ⟨v, rfl, q⟩ := hv.one
      exact .inr ⟨r, _, _, v, kvs, rfl, R, q, e, k r H _ Ext.refl R mk_int⟩
    · exact .inl (prim_len r S H _ vs d S' Q R hv h k)
  · cases h
end
end DL
namespace DL
open PySem PySem.Spec L2
open PyProof.Rows hiding St
structure Tab where
  n : Nat
  nC : Nat
  nm : Nat → Str
  ql : Nat → Str
  ps : Nat → List Str
  st : Nat → Stmt
  cl : Nat → Option Nat
  nmC : Nat → Str
  ini : Nat → Nat
  flds : List (Nat × Str)
  meths : List (Nat × Nat)
  csts : List (Str × D)
  blts : List Str
  imps : List (Str × String) := []
  gn : Nat → Str := nm
def CstOk (K : PySem.W.Frag) (mg : Str → Option Value) (x : Str) (d : D) : Prop := ∃ v u, mg x = some u ∧ RelV v u ∧ ∀ r H, DV K r H d v
structure TxC (T : Tab) (K : PySem.W.Frag) (mg : Str → Option Value) (a : Nat → Addr) (fd : Nat → FuncData) (ca : CAx) : Prop where
  fn : ∀ g (_ : g < T.n := by decide) (_ : T.cl g = none := by rfl), mg (T.gn g) = some (.ref (a g))
  fu : ∀ g (_ : g < T.n := by decide), Fun K (T.nm g) (T.ql g) (T.st g) (a g) (fd g)
  kp : ∀ g (_ : g < T.n := by decide), PySem.W.keepIn K (.ref (a g)) = true
  bn : ∀ g (_ : g < T.n := by decide), Binds K (fd g) (T.ps g) []
  no : ∀ x (_ : x ∈ T.blts), mg x = none
  cg : ∀ c (_ : c < T.nC := by decide), mg (T.nmC c) = some (.ref (ca c))
  ck : ∀ c (_ : c < T.nC := by decide), Cls K (ca c)
  mk_ : ∀ c (_ : c < T.nC := by decide), Mk K (ca c) (a (T.ini c))
  na : ∀ p ∈ T.flds, p.1 < T.nC ∧ NoAttr K (ca p.1) p.2
  me : ∀ p ∈ T.meths, p.1 < T.nC ∧ p.2 < T.n ∧ Meth K (ca p.1) (T.nm p.2) (a p.2)
  ks : ∀ p ∈ T.csts, CstOk K mg p.1 p.2
  im : ∀ p ∈ T.imps, mg p.1 = some (.builtin p.2)
section
variable {T : Tab} {K : PySem.W.Frag} {mg : Str → Option Value} {a : Nat → Addr} {fd : Nat → FuncData} {ca : CAx}
theorem TxC.fo (x : TxC T K mg a fd ca) {cs : List Nat} {f : Str} (h : ∀ c ∈ cs, (c, f) ∈ T.flds) : FldOk K ca cs f := fun c hc => let ⟨h1, h2⟩ := x.na (c, f) (h c hc); ⟨x.ck c h1, h2⟩
theorem TxC.mo (x : TxC T K mg a fd ca) {c g n : Nat} {m : Str} (h : (c, g) ∈ T.meths) (hm : T.nm g = m) (hl : (T.ps g).length = n + 1) : MethOk K ca a fd T.ps m n (c, g) := by
  obtain ⟨h1, h2, h3⟩ := x.me (c, g) h
  subst hm
  exact ⟨x.ck c h1, h3, x.bn g h2, hl⟩
theorem TxC.m1 (x : TxC T K mg a fd ca) {c g n : Nat} {m : Str} (h : (c, g) ∈ T.meths) (hm : T.nm g = m) (hl : (T.ps g).length = n + 1) : ∀ p ∈ [(c, g)], MethOk K ca a fd T.ps m n p := fun p hp => by
  rw [List.mem_singleton.mp hp]
  exact x.mo h hm hl
theorem TxC.mc (x : TxC T K mg a fd ca) {c g n : Nat} {m : Str} {l : List (Nat × Nat)} (h : (c, g) ∈ T.meths) (hm : T.nm g = m) (hl : (T.ps g).length = n + 1) (t : ∀ p ∈ l, MethOk K ca a fd T.ps m n p) : ∀ p ∈ (c, g) :: l, MethOk K ca a fd T.ps m n p := fun p hp => by
  rcases List.mem_cons.mp hp with rfl | hp
  · exact x.mo h hm hl
  · exact t p hp
theorem TxC.kc (x : TxC T K mg a fd ca) {y : Str} {d : D} (h : (y, d) ∈ T.csts) : CstOk K mg y d := x.ks (y, d) h
def spA (K : PySem.W.Frag) (w : World) (n : Nat) (m : FM) (tb : List (Addr × Str) := []) (lm : Nat → Option LamI := fun _ => none) : Sp := fun vs H Q E => ∀ cf : Nat → Addr, spD ⟨K, w, ⟨cf, tb, lm, []⟩⟩ n m vs H Q E
theorem fn_spA {P : Program} {w : World} {base : Heap} {k : Nat} {f : Addr} {fdl : FuncData} {ps : List Str} {n : Nat} {m : FM} {cf : Nat → Addr} {tb : List (Addr × Str)} {lm : Nat → Option LamI} (F : FnOk P w K mg base CX0 k f fdl ps (spD ⟨K, w, ⟨cf, tb, lm, []⟩⟩ n m)) : FnOk P w K mg base CX0 k f fdl ps (spA K w n m tb lm) := F.imp fun vs H Q E h => h cf
end
end DL
namespace DL
open PySem
section
variable {env : Vars} {S : Sto} {Q : D × Sto → Prop} {T : Fl × Vars × Sto → Prop} {a b : EM} {l : LM}
@[simp] theorem ow_mMG {ty : D → Sto → Bool} {p : D → List D → Sto → Option (D × Sto)} : Ow (mMG ty p a l env S) Q ↔ Ow (a env S) fun x => ty x.1 x.2 = true ∧ Ow (l env x.2) fun y => Ow (p x.1 y.1 y.2) Q := by
  unfold mMG
  cases a env S with
  | none => simp
  | some x =>
    obtain ⟨d, S1⟩ := x
    simp only [ow_some]
    by_cases h : ty d S1 = true
    · simp only [h, if_true, true_and]
      cases l env S1 <;> simp
    · simp [h]
@[simp] theorem ow_mFld {cs : List Nat} {f : Str} : Ow (mFld cs f a env S) Q ↔ Ow (a env S) fun x => Ow (fldP cs f x.1 x.2) Q := ow_m1
def stF (cs : List Nat) (f : Str) (o v : D) (S : Sto) : Option Sto := match o with
  | .loc n => match S[n]? with
    | some (.ins c fs) => if c ∈ cs ∧ fs.length < 1000 then some (S.set n (.ins c (putD f v fs))) else none
    | _ => none
  | _ => none
@[simp] theorem ow_sFldD {cs : List Nat} {f : Str} : Ow (sFldD cs f a b env S) T ↔ Ow (a env S) fun y => Ow (b env y.2) fun x => Ow (stF cs f x.1 y.1 x.2) fun S3 => T (.nx, env, S3) := by
  unfold sFldD
  cases a env S with
  | none => simp
  | some y =>
    obtain ⟨v, S1⟩ := y
    simp only [ow_some]
    cases b env S1 with
    | none => simp
    | some x =>
      obtain ⟨o, S2⟩ := x
      simp only [ow_some]
      unfold stF
      cases o with
      | loc n =>
        simp only
        cases S2[n]? with
        | none => simp
        | some ob =>
          cases ob with
          | ins c fs =>
            simp only
            by_cases h : c ∈ cs ∧ fs.length < 1000
            · simp [h]
            · simp [h]
          | _ => simp
      | _ => simp
def methOf (m : Str) (cands : List (Nat × Nat)) (o : D) (S : Sto) : Option (Nat × Nat) := match o with
  | .loc n => match S[n]? with
    | some (.ins c fs) => match fs.lookup m, cands.lookup c with
      | none, some g => some (n, g)
      | _, _ => none
    | _ => none
  | _ => none
@[simp] theorem ow_mMeth {m : Str} {cands : List (Nat × Nat)} {cl : Nat → FM} : Ow (mMeth m cands cl a l env S) Q ↔ Ow (a env S) fun x => Ow (methOf m cands x.1 x.2) fun g => Ow (l env x.2) fun y => Ow (cl g.2 (.loc g.1 :: y.1) y.2) Q := by
  unfold mMeth methOf
  cases a env S with
  | none => simp
  | some x =>
    obtain ⟨o, S1⟩ := x
    cases o with
    | loc n =>
      simp only [ow_some]
      cases S1[n]? with
      | none => simp
      | some ob =>
        cases ob with
        | ins c fs =>
          simp only
          cases fs.lookup m with
          | some _ => simp
          | none =>
            cases cands.lookup c with
            | none => simp
            | some g =>
              simp only [ow_some]
              cases l env S1 <;> simp
        | _ => simp
    | _ => simp
def asN : D → Option Unit
  | .non => some ()
  | _ => none
@[simp] theorem asN_non : asN .non = some () := rfl
@[simp] theorem ow_mMake {c : Nat} {m : FM} : Ow (mMake c m l env S) Q ↔ Ow (l env S) fun y => Ow (m (.loc y.2.length :: y.1) (y.2 ++ [.ins c []])) fun z => Ow (asN z.1) fun _ => Q (.loc y.2.length, z.2) := by
  unfold mMake
  cases l env S with
  | none => simp
  | some y =>
    obtain ⟨xs, S1⟩ := y
    simp only [ow_some]
    cases m (.loc S1.length :: xs) (S1 ++ [.ins c []]) with
    | none => simp
    | some z =>
      obtain ⟨d, S2⟩ := z
      cases d <;> simp [asN]
theorem ow_dc {mi : IM} {vs : List Nat} {t : Tgt} {tt : BM} {tk tv : EM} : Ow (mDc mi vs t tt tk tv env S) Q ↔ Ow (mi env S) fun x => Ow (dcL x.1 vs t tt tk tv env 0 [] x.2) fun y => Q (.loc y.2.length, y.2 ++ [.dct y.1]) := by
  unfold mDc
  cases mi env S with
  | none => simp
  | some x =>
    obtain ⟨it, S1⟩ := x
    simp only [ow_some]
    cases dcL it vs t tt tk tv env 0 [] S1 <;> simp
end
theorem dcL_inv {it : DIt} {vs : List Nat} {t : Tgt} {tt : BM} {tk tv : EM} {env : Vars} (its : List D) (I : Nat → List (D × D) → Sto → Prop) (hit : ∀ j acc S, I j acc S → itAt S it j = some its[j]?)
    (step : ∀ j d acc S, its[j]? = some d → I j acc S → ∃ env1, t.put (wipeD env vs) d = some env1 ∧ Ow (tt env1 S) fun x => if x.1 = true then Ow (tk env1 x.2) fun y => Ow (tv env1 y.2) fun z => (okKey y.1 = true ∧ acc.length < sizeLine) ∧ I (j + 1) (dput acc y.1 z.1) z.2 else I (j + 1) acc x.2) :
    ∀ (n j : Nat) (acc : List (D × D)) (S : Sto), its.length - j = n → j ≤ its.length → I j acc S → Ow (dcL it vs t tt tk tv env j acc S) fun x => I its.length x.1 x.2
  | 0, j, acc, S, hn, hj, h => by
    have e : j = its.length := by omega
    rw [dcL_eq, hit j acc S h, List.getElem?_eq_none (by omega)]
    simp only [ow_some]
    rw [← e]
    exact h
  | n + 1, j, acc, S, hn, hj, h => by
    have hlt : j < its.length := by omega
    rw [dcL_eq, hit j acc S h, List.getElem?_eq_getElem hlt]
    obtain ⟨env1, e1, ⟨b, S1⟩, e3, e4⟩ := step j _ acc S (List.getElem?_eq_getElem hlt) h
    simp only [e1, e3]
    cases b with
    | false => exact dcL_inv its I hit step n (j + 1) acc S1 (by omega) (by omega) (by simpa using e4)
    | true =>
      simp only [if_true] at e4
      obtain ⟨⟨y, S2⟩, e5, ⟨z, S3⟩, e6, e7, e8⟩ := e4
      simp only at e6 e7 e8
      simp only [e5, e6, if_pos e7]
      exact dcL_inv its I hit step n (j + 1) _ S3 (by omega) (by omega) e8
end DL
namespace DL
open PySem PySem.Spec L2
open PyProof.Rows hiding St
section
variable {P : Program} {w : World} {A : Around} {E : Value → Shared → Prop} {s : Shared}
end
section
variable {X : Cx} {e : Expr} {te : TE} {k : Nat} {q1 q2 q3 pos : Pos}
end
theorem list_extend_tupW (l : Addr) (items : Array Value) (n : Nat) (b : Addr) (items2 : Array Value) (n2 : Nat) (dd : Option Addr) (sl : Array (Option Value)) (hs0 : ¬(!items.isEmpty && Builtin.List.listTooLong (items.size + items2.size)) = true) (hs1 : items.size ≤ sizeLine) (hs2 : items.size + items2.size ≤ sizeLine + 1) :
    Meets (Builtin.«list.extend» ⟨[.ref l, .ref b], []⟩) (fun _ R s => (s.heap.get? l = some { cls := .type "list", dict := none, data := .seq items n, slots := #[] } ∧ s.heap.get? b = some { cls := .type "tuple", dict := dd, data := .seq items2 n2, slots := sl }) ∧ R (.ok (.ret Value.none)) { s with heap := s.heap.update l (Obj.mapSeq fun x => x ++ items2), toks := s.toks }) :=
  .of_wp fun prog w A R s h => by
    obtain ⟨hp, g, d, tk, os⟩ := s
    obtain ⟨⟨hl, hb⟩, h⟩ := h
    have g1 := AutoSeq1.idx_int
    have g2 := AutoSeq1.sub_tuple_tuple
    have g3 := AutoSeq1.sub_list_list
    have g4 := AutoSeq1.sub_tuple_list
    have g5 := AutoSeq1.sub_list_tuple
    have hz' : (items ++ items2).size ≤ sizeLine + 1 := by
      rw [Array.size_append]
      exact hs2
    wp_walk using (wpAny_updateSeq hl rfl (hz := hs1) (_hz' := hz')), wpAny_loadPart' hl, wpAny_loadPart' hb
    exact ⟨_, rfl, h⟩
def rExtT (K : PySem.W.Frag) : V → List V → Hp → VK → Prop := fun x vs H Q => ∃ l b xs zs, x = .ref l ∧ vs = [.ref b] ∧ H l = some (.lst xs) ∧ SqT K H b zs ∧ xs.length + zs.length ≤ sizeLine ∧ Q .non (upd H l (.lst (xs ++ zs)))
theorem mt_extT {X : Cx} : MtR X "list.extend" (rExtT X.K) := by
  intro pins s σ H x vs v us Q I rx rv h
  obtain ⟨l, b, xs, zs, rfl, rfl, hH, hT, hz, cont⟩ := h
  cases rx
  obtain ⟨u, rfl, ru⟩ := rv.one
  cases ru
  obtain ⟨z, its, n, rr, hl, e⟩ := I.lstM hH
  obtain ⟨its2, r2, ⟨⟨cls, dd, data, sl⟩, e2, hc, n2, hd⟩, hl2⟩ := I.tuple hT
  simp only at hc hd
  subst hc hd
  have hx1 := rr.length
  have hx2 := r2.length
  have tot : its.toArray.size + its2.toArray.size ≤ sizeLine := by
    simp only [List.size_toArray]
    omega
  refine call_meets F.slot_list_extend ⟨_, e, rfl⟩ F.entry_list_extend (F.args_list_extend_2 _ _)
    (list_extend_tupW l its.toArray n b its2.toArray n2 dd sl ?_ (by omega) (by omega)) ⟨⟨e, e2⟩, ?_⟩
  · rw [notLongL tot, Bool.and_false]
    exact Bool.false_ne_true
  · refine ⟨.non, _, I.lset (its' := its ++ its2) hH e (by simp) (rr.append r2) ?_, rfl, cont⟩
    simp only [List.length_append]
    omega
def extTP : D → List D → Sto → Option (D × Sto)
  | .loc n, [.tup es], S => match S[n]? with
    | some (.lst ds) => if ds.length + es.length ≤ sizeLine then some (.non, S.set n (.lst (ds ++ es))) else none
    | _ => none
  | _, _, _ => none
theorem prim_extT {G : Ctx} : PrimM G (rExtT G.K) extTP := by
  intro r S H x xs v vs d S' Q R hv hvs h k
  unfold extTP at h
  split at h
  · split at h
    · rename_i n es S ds e1
      split at h
      · rename_i hz
        cases h
        obtain ⟨a, ea, rfl⟩ := dv_loc hv
        obtain ⟨ws, h1, p1⟩ := R.lstAt e1 ea
        obtain ⟨y, rfl, qy⟩ := hvs.one
        obtain ⟨b, us, rfl, h2, p2⟩ := dv_tup qy
        obtain ⟨x, R'⟩ := R.wr (o' := .lst (ds ++ es)) (u := .lst (ws ++ us)) e1 ea fun x => ⟨_, upd_same, (DVs.ext x _ _ p1).append (DVs.ext x _ _ p2)⟩
        exact ⟨a, b, ws, us, rfl, rfl, h1, h2, by rw [p1.length, p2.length]; exact hz, k r _ _ x R' mk_non⟩
      · cases h
    · cases h
  · cases h
def rExtA (K : PySem.W.Frag) : V → List V → Hp → VK → Prop := fun x vs H Q => rExtend x vs H Q ∨ rExtT K x vs H Q
theorem mt_extA {X : Cx} : MtR X "list.extend" (rExtA X.K) := MtR.or (mt_extend (X := X)) mt_extT
def extQ : D → List D → Sto → Option (D × Sto)
  | x, [.tup es], S => extTP x [.tup es] S
  | x, xs, S => extP x xs S
theorem prim_extQ {G : Ctx} : PrimM G (rExtA G.K) extQ := by
  intro r S H x xs v vs d S' Q R hv hvs h k
  unfold extQ at h
  split at h
  · exact .inr (prim_extT r S H _ _ v vs d S' Q R hv hvs h k)
  · exact .inl (prim_ext r S H _ _ v vs d S' Q R hv hvs h k)
section
end
section
variable {Q : D × Sto → Prop}
end
def relIn (scope sc : Scope) : Scope :=
  { scope with names := scope.names.map fun p => if (p.2 == .free && sc.kind == .function && sc.names.lookup p.1 == some .cell) then (p.1, .cell) else (p.1, p.2) }
theorem blk_in {N : List Str} {sc scope s0 : Scope} {own : List (Str × Nat)} {env : Env} (hs : env.scope = sc) (h : blkC N (relIn s0 sc) scope own = true) : blkC N (PySem.relabel s0 env) scope own = true := by
  subst hs
  exact h
end DL
namespace DL
open PySem PySem.Spec L2
open PyProof.Rows hiding St
def IteN (K : PySem.W.Frag) (a : Addr) : It :=
  ⟨(Ite K a).go, fun i H v H' => ∃ T x od, v = .ref T ∧ H T = none ∧ od.dict = none ∧ H' = upd H T (.frz od (.tup [.int (i : Nat), x])) ∧ ∀ us, SqL K H a us → us[i]? = some x, (Ite K a).stop⟩
theorem turn_enumN {P : Program} {w : World} {K : PySem.W.Frag} {elts : List Expr} {kk : Nat} {tpos : Pos} (a e it : Addr) :
    Turn P w K (.Tuple elts kk tpos) (IteN K a) [e, it] e (fun i h => (∃ old, IsEnum h e it ((i : Nat) : Int) old) ∧ h.IsListIter it a i ∧ e ≠ it) :=
  have T := turn_enum (P := P) (w := w) (K := K) (elts := elts) (kk := kk) (tpos := tpos) a e it
  { mem := T.mem, obj := T.obj, keep := T.keep, done := T.done, self := T.self, item := by
      intro X hP hw hK hc i pins s σ H E I hf st hg
      subst hP hw hK
      obtain ⟨⟨old, en⟩, li, apart⟩ := st
      obtain ⟨us, x, hL, hx⟩ := hg
      obtain ⟨is, ri, lay, _⟩ := I.list hL
      obtain ⟨u, hu, ru⟩ := ri.get hx
      have l1 : e < s.heap.objs.size := Heap.lt_size en
      have l2 : it < s.heap.objs.size := by
        obtain ⟨_, q, _⟩ := li
        exact Heap.lt_size q
      refine wpAny_pyNext_enum_item en li lay.isList (x := u) (by simpa using hu) apart fun g own li2 pair _ old2 => ?_
      refine ⟨_, rfl, wpAny_letOwnedTupleGo_enum (s := { s with heap := g, toks := s.toks + 1 }) own fun g2 en2 but => ?_⟩
      have there : g2.get? s.heap.objs.size = some { cls := .type "tuple", data := .seq #[.int i s.toks, u] } := (but.2 _ (Nat.ne_of_gt l1)).trans pair
      have ok : ObjOk X.prog X.w (upd H s.heap.objs.size (.frz { cls := .type "tuple", data := .seq #[.int i s.toks, u] } (.tup [.int (i : Nat), x]))) g2 s.heap.objs.size (.frz { cls := .type "tuple", data := .seq #[.int i s.toks, u] } (.tup [.int (i : Nat), x])) :=
        ⟨there, by show 2 ≤ sizeLine; decide, [.int i s.toks, u], .cons ⟨_, rfl⟩ (.cons ru .nil), ⟨_, there, rfl, _, rfl⟩⟩
      have J := I.turnedNew (ch := [e, it]) (t' := s.toks + 1) (h' := g2) (fun b ob hb q => by
        simp only [List.mem_cons, List.not_mem_nil, or_false, not_or] at hb
        exact (but.2 b hb.1).trans (old2 b ob hb.1 hb.2 q)) hf (Nat.le_refl _) ok
      refine ⟨.ref s.heap.objs.size, _, J, rfl, ⟨_, x, _, rfl, I.hok.fresh (Nat.le_refl _), rfl, rfl, fun vs hv => by rw [I.list_inj hv hL]; exact hx⟩, ⟨⟨u, ?_⟩, li2.at fun o q => (but.2 it (Ne.symm apart)).trans q, apart⟩, fun b hb => ?_⟩
      · rw [show ((i + 1 : Nat) : Int) = (i : Int) + 1 by omega]
        exact en2
      · have lb : b < s.heap.objs.size := by
          simp only [List.mem_cons, List.not_mem_nil, or_false] at hb
          rcases hb with rfl | rfl
          · exact l1
          · exact l2
        rw [upd_ne (Nat.ne_of_lt lb)]
        exact (hf b hb).1 }
section
variable {G : Ctx} {r : List Addr} {S : Sto} {H : Hp}
theorem itok_enm {d0 : D} {a : Addr} (h1 : DV G.K r H d0 (.ref a)) (nt : ∀ es, d0 ≠ .tup es) : ItOk G r H (.enm d0) (IteN G.K a) where
  go := fun r1 S1 H1 i d x R e => by
    simp only [itAt] at e
    split at e
    · rename_i ds e1
      have ed := Option.some.inj e
      have q : DV G.K r1 H1 d0 (.ref a) := DV.extW x.w _ _ h1
      obtain ⟨a', vs, ea, h2, h3⟩ := seq_cases R q e1
      cases ea
      rcases h3 with ⟨z, _⟩ | ⟨_, _, _, hs⟩
      · exact absurd z (nt _)
      · split at ed
        · rename_i y hy
          cases ed
          obtain ⟨v, ev, qv⟩ := h2.get hy
          refine ⟨⟨vs, v, hs, ev⟩, fun z H' hz => ?_⟩
          obtain ⟨T, u, od, rfl, hT, ho, rfl, hu⟩ := hz
          have := hu vs hs
          rw [ev] at this
          cases this
          obtain ⟨x2, R2⟩ := R.tup (vs := [.int (i : Nat), v]) (od := od) hT
          exact ⟨r1, x2, R2, DV.tup_mk (TpN.of ho) (DVs.cons mk_int (DVs.cons (DV.ext x2 _ _ qv) DVs.nil))⟩
        · cases ed
    · cases e
  stop := fun r1 S1 H1 i x R e => by
    simp only [itAt] at e
    split at e
    · rename_i ds e1
      have ed := Option.some.inj e
      have q : DV G.K r1 H1 d0 (.ref a) := DV.extW x.w _ _ h1
      obtain ⟨a', vs, ea, h2, h3⟩ := seq_cases R q e1
      cases ea
      rcases h3 with ⟨z, _⟩ | ⟨_, _, _, hs⟩
      · exact absurd z (nt _)
      · split at ed
        · cases ed
        · rename_i hy
          exact ⟨vs, hs, by rw [h2.length]; exact List.getElem?_eq_none_iff.mp hy⟩
    · cases e
end
section
variable {X : Cx} {ca : CAx} {e : Expr} {ma : EM} {pos p tpos : Pos} {elts : List Expr} {kk : Nat}
end
end DL
namespace DL
open PySem PySem.Spec L2
open PyProof.Rows hiding St
section
variable {G : Ctx} {r : List Addr} {S : Sto} {H : Hp}
end
section
variable {X : Cx} {ca : CAx} {tg e : Expr} {ma : EM}
end
def rgD (n : Int) : List D := (List.range (n - 0).toNat).map fun i => D.int (0 + (i : Nat))
def iRevRgM (m : EM) : IM := fun env S => match m env S with
  | some (.int n, S1) => if 0 ≤ n ∧ n ≤ 16777216 then some (.seq (.tup (rgD n).reverse), S1) else none
  | _ => none
section
variable {X : Cx} {ca : CAx} {tg e : Expr} {ma : EM} {p p2 pos pos2 : Pos}
theorem itok_rev {G : Ctx} {r : List Addr} {H : Hp} {n : Int} (h0 : 0 ≤ n) : ItOk G r H (.seq (.tup (rgD n).reverse)) (Itc (0 + (((n - 0).toNat : Nat) : Int) - 1) (-1) (n - 0).toNat) where
  go := fun r1 S1 H1 i d y R e => by
    simp only [itAt, seqD, Option.some.injEq] at e
    have hl : (rgD n).length = (n - 0).toNat := by simp [rgD]
    have hi := (List.getElem?_eq_some_iff.mp e).1
    rw [List.length_reverse, hl] at hi
    rw [List.getElem?_reverse (by rw [hl]; exact hi), hl] at e
    refine ⟨hi, fun z H' hz => ?_⟩
    obtain ⟨rfl, rfl⟩ := hz
    refine ⟨r1, Ext.refl, R, ?_⟩
    have : d = .int (0 + (((n - 0).toNat : Nat) : Int) - 1 + (i : Nat) * (-1)) := by
      simp only [rgD, List.getElem?_map, List.getElem?_range (show (n - 0).toNat - 1 - i < (n - 0).toNat by omega), Option.map_some, Option.some.injEq] at e
      rw [← e]
      congr 1
      omega
    rw [this]
    exact mk_int
  stop := fun r1 S1 H1 i y R e => by
    simp only [itAt, seqD, Option.some.injEq] at e
    have hl : (rgD n).length = (n - 0).toNat := by simp [rgD]
    have := List.getElem?_eq_none_iff.mp e
    rw [List.length_reverse, hl] at this
    exact this
theorem di_revRg (hmv : X.mg "reversed" = none) (hmr : X.mg "range" = none) (h : PE X e (liftE (gx X ca) ma)) (hg : Gl X "reversed" := by rfl) (hg2 : Gl X "range" := by rfl) (na : starEach [e] X.env = (false, eval e X.env) :: starEach [] X.env := by rfl) (nb : starEach [Expr.Call (.Name "range" p2) [e] [] pos2] X.env = (false, eval (.Call (.Name "range" p2) [e] [] pos2) X.env) :: starEach [] X.env := by rfl) :
    PI X tg (.Call (.Name "reversed" p) [.Call (.Name "range" p2) [e] [] pos2] [] pos) (liftI (gx X ca) (iRevRgM ma)) :=
  wkI (pi_revR hg hmv (prg_1 hg2 hmr h na) nb) fun σ H Q ⟨r, env, S, it, S', R, W, h, k⟩ => by
    unfold iRevRgM at h
    split at h
    · rename_i n S1 e1
      split at h
      · rename_i hz
        cases h
        exact ⟨r, env, S, _, _, R, W, e1, fun r1 H1 v x1 R1 q1 => ⟨n, dv_int q1, by omega, by omega, by omega, by omega, k r1 H1 _ x1 R1 (itok_rev hz.1)⟩⟩
      · cases h
    · cases h
end
end DL
namespace DL
open PySem PySem.Spec L2
open PyProof.Rows hiding St
structure KTb (K : PySem.W.Frag) (w : World) (d : Addr) (t : List (Str × D)) : Prop where
  kd : ∃ es n, KDict K w d es n
  at_ : ∀ z : Str, match t.lookup z with
    | some x => ∃ u v, PySem.W.nsIn K d z = some (some u) ∧ RelV v u ∧ ∀ r H, DV K r H x v
    | none => PySem.W.nsIn K d z = some none
section
variable {X : Cx} {ca : CAx} {o e1 e2 : Expr} {la : LM} {apos cpos : Pos} {d : Addr} {t : List (Str × D)}
end
section
variable {X : Cx} {ca : CAx} {x : Str} {e1 e2 : Expr} {la : LM} {npos apos cpos : Pos} {t : List (Str × D)}
end
inductive RelTb (P : Params) (K : PySem.W.Frag) : List DictEntry → List (Str × D) → Prop
  | nil : RelTb P K [] []
  | cons {x : Str} {t : Tok} {u : Value} {v : V} {y : D} {es : List DictEntry} {ts : List (Str × D)} (hv : RelV v u) (hd : ∀ r H, DV K r H y v) (h : RelTb P K es ts) : RelTb P K (⟨PyData.keyHash P x, .str x t, u⟩ :: es) ((x, y) :: ts)
theorem RelTb.lit {P : Params} {K : PySem.W.Frag} {es : List DictEntry} {ts : List (Str × D)} (h : RelTb P K es ts) : PySem.W.KeysLit P es := by
  induction h with
  | nil => exact trivial
  | cons _ _ _ ih => exact ⟨⟨_, _, rfl, rfl⟩, ih⟩
theorem RelTb.find {P : Params} {K : PySem.W.Frag} {es : List DictEntry} {ts : List (Str × D)} (h : RelTb P K es ts) (z : Str) :
    es.any (·.refKey) = false ∧ match ts.lookup z with
    | some x => ∃ e v, es.find? (·.key.isStr z) = some e ∧ RelV v e.val ∧ ∀ r H, DV K r H x v
    | none => es.find? (·.key.isStr z) = none := by
  induction h with
  | nil => exact ⟨rfl, rfl⟩
  | @cons x t u v y es ts hv hd h ih =>
    refine ⟨by rw [List.any_cons, ih.1]; rfl, ?_⟩
    have e1 : (Value.str x t).isStr z = (z == x) := by
      show (x == z) = (z == x)
      exact Bool.beq_comm
    rw [List.lookup_cons, List.find?_cons]
    dsimp only
    rw [e1]
    cases z == x with
    | true => exact ⟨_, v, rfl, hv, hd⟩
    | false => exact ih.2
theorem KTb.of {K : PySem.W.Frag} {w : World} {d : Addr} {es : List DictEntry} {n : Nat} {ts : List (Str × D)} (hl : K.lookup d = some ⟨.type "dict", none, .dict es.toArray n, #[]⟩) (low : (d == sysModules) = false) (h : RelTb w.params K es ts) : KTb K w d ts where
  kd := ⟨_, n, hl, by simpa using h.lit, low⟩
  at_ := fun z => by
    have hz := (h.find z).2
    have ha := (h.find z).1
    have en : PySem.W.nsIn K d z = (match es.find? (·.key.isStr z) with
      | some e => some (some e.val)
      | none => if es.any (·.refKey) then none else some none) := by
      unfold PySem.W.nsIn
      rw [hl]
      rfl
    rw [en]
    cases q : ts.lookup z with
    | none =>
      rw [q] at hz
      dsimp only at hz ⊢
      rw [hz, ha]
      rfl
    | some x =>
      rw [q] at hz
      obtain ⟨e, v, h1, h2, h3⟩ := hz
      dsimp only
      rw [h1]
      exact ⟨_, v, rfl, h2, h3⟩
end DL
namespace DL
open PySem PySem.Spec L2
open PyProof.Rows hiding St
section
variable {X : Cx} {pins : List (Addr × Obj)} {σ : L2.St} {H : Hp} {s : Shared} {a : Addr} {o : Obj} {es : List Ent}
end
section
variable {X : Cx} {ca : CAx} {tg e : Expr} {ma : EM}
end
end DL
namespace DL
open PySem PySem.Spec L2
open PyProof.Rows hiding St
section
variable {it : DIt} {vs : List Nat} {t : Tgt} {tt : BM} {mi1 : IM} {vs1 : List Nat} {t1 : Tgt} {tt1 : BM} {te : EM} {env : Vars}
end
theorem VarsV.extW {K : PySem.W.Frag} {r r' : List Addr} {H H' : Hp} (x : ExtW K r H r' H') {env : Vars} {σ : L2.St} (h : VarsV K r H env σ) : VarsV K r' H' env σ :=
  ⟨h.len, fun i d e => let ⟨v, e1, q⟩ := h.at_ i d e; ⟨v, e1, DV.extW x _ _ q⟩⟩
section
variable {X : Cx} {ca : CAx} {elt tg iter tg1 iter1 : Expr} {ifs ifs1 : List Expr} {scope : Scope} {own : List (Str × Nat)} {mi mi1 : IM} {t t1 : Tgt} {tt tt1 : BM} {te : EM} {pos : Pos}
end
end DL
namespace DL
open PySem PySem.Spec L2
open PyProof.Rows hiding St
abbrev IP := Int × Int
def lI (p : IP) : List Int := [p.1, p.2]
section
variable {X : Cx} {ca : CAx} {e : Expr} {ma : EM} {p p2 pos pos2 : Pos}
end
end DL
namespace DL
open PySem PySem.Calls PyProof.Rows
section
variable {P : Program} {w : World} {A : Around} {E : Value → Shared → Prop} {s : Shared}
theorem sorted_dict {a : Addr} {ents : Array DictEntry} {ep : Nat} {kw : List (Str × Value)} {Q : Value → Shared → Prop} (hh : A.handled = none) (sm : (a == sysModules) = false) (raw : s.heap.DictRaw a ents ep) (hz : ents.size ≤ sizeLine)
    (h1 : argsOk "sorted" ⟨[.ref a], kw⟩) (h2 : ∀ x, argsOk "list.sort" ⟨[.ref x], kw⟩)
    (run : ∀ (hp : Heap) (tk : Nat), (∀ b o, s.heap.get? b = some o → hp.get? b = some o) → ∀ E2 : Value → Shared → Prop, wpAny (model P w) A.in1.in1 (Builtin.«list.sort» ⟨[.ref hp.objs.size], kw⟩) (fun f s2 => f = .done (.ret .none) ∧ Q (.ref hp.objs.size) s2) E2 { s with heap := hp.push (seqObj "list" (ents.toList.map (·.key)).toArray 0), toks := tk }) :
    wpAny (model P w) A (call (.builtin "sorted") [.ref a] kw) Q E s := by
  refine call_function_entry_kw kind_sorted plain_sorted entry_sorted h1 ?_
  unfold Builtin.«sorted»
  refine wpAny_bind (m := checkCount "sorted" 1 1 _) (wpAny_pure (wpAny_bind (PySem.W.kdu_collect (PySem.KdlSrc.rawDict (es := ents) (ep := ep) sm) hh raw hz fun hp tk acc kp it => ?_)))
  have hl : acc.toList = ents.toList.map (·.key) := by
    apply List.ext_getElem?
    intro j
    rw [Array.getElem?_toList, List.getElem?_map, Array.getElem?_toList]
    by_cases hj : j < ents.size
    · have hj' : j < acc.size := by rw [it.1]; exact hj
      obtain ⟨_, hv⟩ := it.2 j acc[j] (Array.getElem?_eq_getElem hj')
      rw [Array.getElem?_eq_getElem hj', Array.getElem?_eq_getElem hj, hv]
      rfl
    · rw [Array.getElem?_eq_none (by rw [it.1]; omega), Array.getElem?_eq_none (by omega)]
      rfl
  rw [hl]
  refine wpAny_bind (wpAny_newList ?_ (by rw [List.length_map, Array.length_toList]; exact hz))
  refine wpAny_bind (wpAny_holding (wpAny_call_entry_kw slot_list_sort ⟨_, Heap.get?_push_size _ rfl, rfl⟩ entry_list_sort ?go (h2 _)))
  case go =>
    refine wpAny_mono (run hp tk kp _) (fun f s2 ⟨ef, hq⟩ => ?_) fun _ _ e => e
    subst ef
    exact ⟨_, rfl, wpAny_pure ⟨_, rfl, hq⟩⟩
end
section
open PySem PySem.Spec L2
variable {X : Cx} {ca : CAx} {pins : List (Addr × Obj)} {σ : L2.St} {f : Addr} {k : Nat} {fd : FuncData} {ps : List Str} {m : FM}
def sortKQ (m : FM) (x : D) (S : Sto) : Option (D × Sto) := match dctD S x with
  | some kvs => match keysD m (kvs.map (·.1)) S with
    | some (ks, S2) => if sortOk ks = true then some (.loc S2.length, S2 ++ [.lst (sortD ks (kvs.map (·.1)))]) else none
    | none => none
  | none => sortKP m x S
def mSortQ (m : FM) (a : EM) : EM := m1 (sortKQ m) a
end
@[simp] theorem ow_sortQ {m : FM} {a : EM} {env : Vars} {S : Sto} {Q : D × Sto → Prop} : Ow (mSortQ m a env S) Q ↔ Ow (a env S) fun x => Ow (sortKQ m x.1 x.2) Q := ow_m1
end DL
set_option maxHeartbeats 2000000
namespace DL
open PySem PySem.Spec L2
open PyProof.Rows hiding St
def cq : Nat → Nat
  | 0 => 0
  | n + 1 => 5 * cq n + 1
theorem cq_add (a : Nat) : ∀ b, cq (a + b) = 5 ^ b * cq a + cq b
  | 0 => by simp [cq]
  | b + 1 => by
    have ih := cq_add a b
    have e : 5 ^ (b + 1) * cq a = 5 * (5 ^ b * cq a) := by rw [Nat.pow_succ, Nat.mul_comm (5 ^ b) 5, Nat.mul_assoc]
    rw [e, ← Nat.add_assoc]
    simp only [cq]
    omega
theorem cq_par : ∀ n, cq n % 2 = n % 2
  | 0 => rfl
  | n + 1 => by
    have := cq_par n
    simp only [cq]
    omega
theorem five_four : ∀ n, 5 ^ n % 4 = 1
  | 0 => rfl
  | n + 1 => by
    have := five_four n
    rw [Nat.pow_succ]
    omega
theorem cq_dvd : ∀ k d : Nat, 2 ^ k ∣ cq d → 2 ^ k ∣ d
  | 0, d, _ => by simp
  | k + 1, d, h => by
    have h2 : 2 ∣ cq d := Nat.dvd_trans ⟨2 ^ k, by rw [Nat.pow_succ, Nat.mul_comm]⟩ h
    have hp := cq_par d
    obtain ⟨e, rfl⟩ : ∃ e, d = e + e := ⟨d / 2, by omega⟩
    have h4 := five_four e
    obtain ⟨o, ho⟩ : ∃ o, 5 ^ e + 1 = 2 * (2 * o + 1) := ⟨(5 ^ e - 1) / 4, by
      clear hp h2 h
      generalize 5 ^ e = z at h4 ⊢
      omega⟩
    have hd : cq (e + e) = 2 * ((2 * o + 1) * cq e) := by
      rw [cq_add, ← Nat.succ_mul, Nat.succ_eq_add_one, ho, Nat.mul_assoc]
    rw [hd, Nat.pow_succ, Nat.mul_comm (2 ^ k) 2] at h
    have h5 : 2 ^ k ∣ (2 * o + 1) * cq e := Nat.dvd_of_mul_dvd_mul_left (by decide) h
    have hco : Nat.Coprime (2 ^ k) (2 * o + 1) := Nat.Coprime.pow_left k (by
      unfold Nat.Coprime
      rw [Nat.gcd_rec]
      simp)
    obtain ⟨q, hq⟩ := cq_dvd k e (hco.dvd_of_dvd_mul_left h5)
    exact ⟨q, by rw [Nat.pow_succ, hq, Nat.mul_assoc (2 ^ k) 2 q, Nat.mul_left_comm]; generalize 2 ^ k * q = z; omega⟩
theorem cq_inj {k a x y : Nat} (hx : x < 2 ^ k) (hy : y < 2 ^ k) (e : cq (a + x) % 2 ^ k = cq (a + y) % 2 ^ k) : x = y := by
  have go : ∀ x y, x ≤ y → y < 2 ^ k → cq (a + x) % 2 ^ k = cq (a + y) % 2 ^ k → x = y := by
    intro x y hxy hy e
    have h1 : cq (a + y) = 5 ^ (a + x) * cq (y - x) + cq (a + x) := by
      rw [← cq_add]
      congr 1
      omega
    have h2 : 2 ^ k ∣ 5 ^ (a + x) * cq (y - x) := by
      have h3 : (cq (a + y) - cq (a + x)) % 2 ^ k = 0 := Nat.sub_mod_eq_zero_of_mod_eq e.symm
      rw [h1, Nat.add_sub_cancel] at h3
      exact Nat.dvd_of_mod_eq_zero h3
    have hco : Nat.Coprime (2 ^ k) (5 ^ (a + x)) := Nat.Coprime.pow k (a + x) (by decide)
    obtain ⟨q, hq⟩ := cq_dvd k _ (hco.dvd_of_dvd_mul_left h2)
    cases q with
    | zero => rw [Nat.mul_zero] at hq; omega
    | succ q =>
      rw [Nat.mul_succ] at hq
      omega
  rcases Nat.le_total x y with h | h
  · exact go x y h hy e
  · exact (go y x h hx e.symm).symm
theorem cq_sur {k : Nat} (a : Nat) {j : Nat} (hj : j < 2 ^ k) : ∃ t, t < 2 ^ k ∧ cq (a + t) % 2 ^ k = j := by
  rcases Classical.em (∃ t, t < 2 ^ k ∧ cq (a + t) % 2 ^ k = j) with c | c
  · exact c
  · exfalso
    have nd : (j :: (List.range (2 ^ k)).map fun t => cq (a + t) % 2 ^ k).Nodup := by
      rw [List.nodup_cons]
      refine ⟨fun hm => ?_, ?_⟩
      · obtain ⟨t, ht, e⟩ := List.mem_map.mp hm
        exact c ⟨t, List.mem_range.mp ht, e⟩
      · refine List.Pairwise.map _ (R := fun x y => x < 2 ^ k ∧ y < 2 ^ k ∧ x ≠ y) (fun x y hh e => hh.2.2 (cq_inj hh.1 hh.2.1 e)) ?_
        refine List.Pairwise.imp_of_mem (fun {x y} hx hy hn => ⟨List.mem_range.mp hx, List.mem_range.mp hy, hn⟩) (List.nodup_range (n := 2 ^ k))
    have := nat_nodup_len _ (List.range (2 ^ k)) nd fun x hx => by
      rcases List.mem_cons.mp hx with rfl | hx
      · exact List.mem_range.mpr hj
      · obtain ⟨t, _, rfl⟩ := List.mem_map.mp hx
        exact List.mem_range.mpr (Nat.mod_lt _ (Nat.pow_pos (by decide)))
    simp at this
    omega
def MskA (m : Nat) : Prop := m = 7 ∨ m = 31 ∨ m = 127 ∨ m = 511 ∨ m = 2047 ∨ m = 8191
theorem MskA.le {m : Nat} (h : MskA m) : m ≤ 8191 ∧ 7 ≤ m := by
  unfold MskA at h
  omega
theorem MskA.pw {m : Nat} (h : MskA m) : ∃ k, m + 1 = 2 ^ k := by
  rcases h with e | e | e | e | e | e <;> subst e
  · exact ⟨3, by decide⟩
  · exact ⟨5, by decide⟩
  · exact ⟨7, by decide⟩
  · exact ⟨9, by decide⟩
  · exact ⟨11, by decide⟩
  · exact ⟨13, by decide⟩
theorem lcg_cq {m : Nat} : ∀ n, lcgN m n = cq n % (m + 1)
  | 0 => by simp [lcgN, cq]
  | n + 1 => by
    show (lcgN m n * 5 + 1) % (m + 1) = (5 * cq n + 1) % (m + 1)
    rw [lcg_cq n, Nat.mul_comm 5, Nat.add_mod, Nat.mul_mod, Nat.mod_mod, ← Nat.mul_mod, ← Nat.add_mod]
theorem runs_meet {m : Nat} (hm : MskA m) (h : Int) {j : Nat} (hj : j ≤ m) : ∃ n, n ≤ m + 12 ∧ runI m (SetTable.bits h) n = j := by
  obtain ⟨k, e⟩ := hm.pw
  have hi := runI_le m (SetTable.bits h) 12
  obtain ⟨a, _, ea⟩ := cq_sur (k := k) 0 (j := runI m (SetTable.bits h) 12) (by omega)
  rw [Nat.zero_add, ← e, ← lcg_cq] at ea
  obtain ⟨t, ht, et⟩ := cq_sur (k := k) a (j := j) (by omega)
  rw [← e, ← lcg_cq] at et
  exact ⟨12 + t, by omega, by rw [runI_tail (bits_lt h), ← ea, lcgN_add, et]⟩
theorem way_meet {m : Nat} (hm : MskA m) (h : Int) {j : Nat} (hj : j ≤ m) : ∃ c, c < 10 * SetTable.turns m ∧ way m h c = j := by
  obtain ⟨n, hn, e⟩ := runs_meet hm h hj
  obtain ⟨c, hc, e2⟩ := run_nth m (SetTable.bits h) n
  refine ⟨c, by unfold SetTable.turns; omega, ?_⟩
  unfold way
  rw [e2, ← e]
  rfl
theorem way_in (m : Nat) (h : Int) (c : Nat) : way m h c ≤ m := by
  have hi : SetTable.bits h % (m + 1) < m + 1 := Nat.mod_lt _ (Nat.succ_pos _)
  have q := nth_in (m := m) c (runAt m (SetTable.bits h % (m + 1)) (SetTable.bits h)) (by
    have r := runEnd_bd (Nat.le_of_lt_succ hi)
    simp only [runAt]
    omega)
  exact Nat.le_trans (Nat.le_add_right _ _) q
structure TabA (t : SetTable) (hs : List Int) : Prop where
  ris : Ris t.place.toList
  dm : t.dummies = #[]
  sz : t.place.size = hs.length
  mok : MskA t.mask
  low : ∀ x ∈ t.place.toList, x ≤ t.mask
  met : ∀ (i : Nat) (h : Int) (j : Nat), hs[i]? = some h → t.place.toList[i]? = some j → ∃ c, way t.mask h c = j ∧ ∀ b, b < c → way t.mask h b ∈ t.place.toList
theorem TabA.first {t : SetTable} {hs : List Int} (T : TabA t hs) (hl : hs.length ≤ t.mask) (h : Int) : ∃ c, c < 10 * SetTable.turns t.mask ∧ way t.mask h c ∉ t.place.toList ∧ ∀ b, b < c → way t.mask h b ∈ t.place.toList := by
  obtain ⟨j, h1, h2⟩ := st_missing t.place.toList (t.mask + 1) (by have := T.sz; simp; omega)
  obtain ⟨c0, h3, h4⟩ := way_meet T.mok h (show j ≤ t.mask by omega)
  obtain ⟨c, h5, h6, h7⟩ := st_least (p := fun c => way t.mask h c ∉ t.place.toList) c0 (by rw [h4]; exact h2)
  exact ⟨c, by omega, h6, fun b hb => Classical.not_not.mp (h7 b hb)⟩
theorem TabA.ins {t : SetTable} {hs : List Int} (T : TabA t hs) {h : Int} {c j p : Nat} (hj : way t.mask h c = j) (hp : SetTable.below t.place j = p) (hc : j ∉ t.place.toList) (hb : ∀ b, b < c → way t.mask h b ∈ t.place.toList) :
    (t.put j).2 = p ∧ p ≤ hs.length ∧ TabA (t.put j).1 (hs.take p ++ h :: hs.drop p) ∧ (t.put j).1.mask = t.mask ∧ (t.put j).1.led = t.led ∧ (t.put j).1.fill = hs.length + 1 := by
  have hl : t.place.toList.length = hs.length := by rw [Array.length_toList, T.sz]
  have hp1 : p ≤ t.place.toList.length := hp ▸ (by simpa using (below_cut T.ris j).1)
  have hp2 : p ≤ hs.length := hl ▸ hp1
  have hpl : (t.put j).1.place.toList = t.place.toList.take p ++ j :: t.place.toList.drop p := hp ▸ put_place t j
  have hin : ∀ {x}, x ∈ (t.put j).1.place.toList ↔ x = j ∨ x ∈ t.place.toList := fun {x} => by rw [hpl]; exact mem_ins
  have hsz : (t.put j).1.place.size = hs.length + 1 := by
    have := congrArg List.length hpl
    rw [len_ins _ hp1] at this
    simpa [hl] using this
  refine ⟨hp, hp2, ⟨?_, put_dm T.dm j, by rw [hsz, len_ins _ hp2], T.mok, fun x hx => ?_, fun i h' j' e1 e2 => ?_⟩, rfl, rfl, ?_⟩
  · exact ris_insert T.ris fun e => hc (by
      have := List.mem_of_getElem? (l := t.place.toList) (by rw [Array.getElem?_toList]; exact e)
      exact this)
  · rcases hin.mp hx with e | hx
    · show x ≤ t.mask
      rw [e, ← hj]
      exact way_in _ _ _
    · exact T.low x hx
  · have more : ∀ {h'' : Int} {n : Nat}, (∀ b, b < n → way t.mask h'' b ∈ t.place.toList) → ∀ b, b < n → way t.mask h'' b ∈ (t.put j).1.place.toList := fun q b hb => hin.mpr (.inr (q b hb))
    rw [hpl, tins_get _ hp1] at e2
    rw [tins_get _ hp2] at e1
    show ∃ n, way t.mask h' n = j' ∧ _
    rcases Nat.lt_trichotomy i p with z | z | z
    · rw [if_pos z] at e1 e2
      obtain ⟨n, a1, a2⟩ := T.met i h' j' e1 e2
      exact ⟨n, a1, more a2⟩
    · rw [if_neg (by omega), if_pos z] at e1 e2
      cases e1
      cases e2
      exact ⟨c, hj, more hb⟩
    · rw [if_neg (by omega), if_neg (by omega)] at e1 e2
      obtain ⟨n, a1, a2⟩ := T.met _ h' j' e1 e2
      exact ⟨n, a1, more a2⟩
  · simp only [SetTable.fill]
    rw [hsz, put_dm T.dm j]
    rfl
theorem grows : SetTable.sizeAbove (SetTable.grown 5) = 32 ∧ SetTable.sizeAbove (SetTable.grown 19) = 128 ∧ SetTable.sizeAbove (SetTable.grown 77) = 512 ∧ SetTable.sizeAbove (SetTable.grown 307) = 2048 ∧ SetTable.sizeAbove (SetTable.grown 1229) = 8192 := by
  refine ⟨by decide +kernel, by decide +kernel, by decide +kernel, by decide +kernel, by decide +kernel⟩
end DL
set_option maxHeartbeats 2000000
namespace DL
open PySem PySem.Spec L2
open PyProof.Rows hiding St
noncomputable section
section
variable {P : Program} {w : World} {A : Around} {E : Value → Shared → Prop} {s : Shared}
abbrev KA := Addr × NestedKey
def KIs (h : Heap) (k : NestedKey) (b : Addr) : Prop := NestedIs h k (.ref b) ∧ k.depth ≤ 8
def kRow (w : World) (p : KA) : Int × Value := (p.2.hash w, Value.ref p.1)
theorem KIs.keep {h h' : Heap} {k : NestedKey} {b : Addr} (x : KIs h k b) (hk : ∀ c o, h.get? c = some o → h'.get? c = some o) : KIs h' k b :=
  ⟨NestedIs.at (fun a o vs n e _ => hk a o e) _ _ x.1, x.2⟩
theorem KIs.same {h h' : Heap} {k : NestedKey} {a b : Addr} {o : Obj} {es : Array (Int × Value)} {ep : Nat} {t : SetTable} (x : KIs h k b) (ho : h.get? a = some o) (hd : o.data = .set es ep t) (hs : Heap.SameBut a h h') : KIs h' k b :=
  ⟨NestedIs.at (fun c q vs n e d => (hs.2 c fun z => by
    subst z
    rw [ho] at e
    cases e
    rw [hd] at d
    cases d).trans e) _ _ x.1, x.2⟩
theorem KIs.at {h : Heap} {k : NestedKey} {b : Addr} (x : KIs h k b) : ∃ (ks : List NestedKey) (o : Obj) (vs : Array Value) (n : Nat), k = .tup ks ∧ h.get? b = some o ∧ o.cls = .type "tuple" ∧ o.data = .seq vs n ∧ NestedAll h ks vs.toList := by
  obtain ⟨x, _⟩ := x
  cases x with
  | tup a b c d => exact ⟨_, _, _, _, rfl, a, b, c, d⟩
structure KSet (w : World) (h : Heap) (a : Addr) (L : List KA) (es : Array (Int × Value)) (ep : Nat) (t : SetTable) : Prop where
  ob : ∃ o, h.get? a = some o ∧ o.ExactSet ∧ o.data = .set es ep t
  rows : es.toList = L.map (kRow w)
  tab : TabA t (L.map fun p => p.2.hash w)
  nd : (L.map (·.2)).Nodup
  tup : ∀ p ∈ L, KIs h p.2 p.1
  led : w.params.followText "set-order" = true ∨ t.led = true
  room : L.length * 5 < t.mask * 3
  few : L.length < 4000
section
variable {a : Addr} {L : List KA} {es : Array (Int × Value)} {ep : Nat} {t : SetTable} (R : KSet w s.heap a L es ep t)
include R
theorem KSet.size : es.size = L.length := by
  have h := congrArg List.length R.rows
  simpa using h
theorem KSet.fits : t.fits es.size = true := by
  have h1 := R.tab.sz
  rw [List.length_map] at h1
  have h2 := R.size
  have h3 := R.room
  unfold SetTable.fits SetTable.fill
  rw [R.tab.dm, Bool.and_eq_true, beq_iff_eq, decide_eq_true_eq]
  exact ⟨by omega, by show t.place.size + 0 ≤ t.mask; omega⟩
theorem KSet.get {i : Nat} {p : KA} (h : L[i]? = some p) : es[i]? = some (kRow w p) := by
  rw [← Array.getElem?_toList, R.rows, List.getElem?_map, h]
  rfl
end
structure Upto (ks : List KA) (i : Nat) (L : List KA) : Prop where
  sub : ∀ p ∈ L, p ∈ ks.take i
  all : ∀ p ∈ ks.take i, p.2 ∈ L.map (·.2)
theorem Upto.next {ks L : List KA} {i : Nat} {q : KA} (u : Upto ks i L) (h : ks[i]? = some q) (hm : q.2 ∈ L.map (·.2)) : Upto ks (i + 1) L := by
  have e : ks.take (i + 1) = ks.take i ++ [q] := by rw [List.take_add_one, h]; rfl
  refine ⟨fun p hp => by rw [e]; exact List.mem_append_left _ (u.sub p hp), fun p hp => ?_⟩
  rw [e] at hp
  rcases List.mem_append.mp hp with hp | hp
  · exact u.all p hp
  · rw [List.mem_singleton.mp hp]; exact hm
theorem Upto.put {ks L L' : List KA} {i : Nat} {q : KA} (u : Upto ks i L) (h : ks[i]? = some q) (pm : L'.Perm (q :: L)) : Upto ks (i + 1) L' := by
  have e : ks.take (i + 1) = ks.take i ++ [q] := by rw [List.take_add_one, h]; rfl
  refine ⟨fun p hp => ?_, fun p hp => ?_⟩
  · rw [e]
    rcases List.mem_cons.mp (pm.mem_iff.mp hp) with rfl | hp
    · exact List.mem_append_right _ (List.mem_singleton.mpr rfl)
    · exact List.mem_append_left _ (u.sub p hp)
  · rw [(pm.map (·.2)).mem_iff, List.map_cons]
    rw [e] at hp
    rcases List.mem_append.mp hp with hp | hp
    · exact List.mem_cons_of_mem _ (u.all p hp)
    · rw [List.mem_singleton.mp hp]; exact List.mem_cons_self
theorem KSet.keep {h h' : Heap} {a : Addr} {L : List KA} {es : Array (Int × Value)} {ep : Nat} {t : SetTable} (R : KSet w h a L es ep t) (ha : ∀ o, h.get? a = some o → h'.get? a = some o) (ht : ∀ p ∈ L, KIs h' p.2 p.1) : KSet w h' a L es ep t :=
  let ⟨o, ho, r⟩ := R.ob
  ⟨⟨o, ha o ho, r⟩, R.rows, R.tab, R.nd, ht, R.led, R.room, R.few⟩
def newSet (w : World) : Obj := { cls := .type "set", dict := none, data := .set #[] 0 (.fresh 0 0 (!w.params.followText "set-order")) }
theorem KSet.new {h : Heap} {a : Addr} (ho : h.get? a = some (newSet w)) : KSet w h a [] #[] 0 (.fresh 0 0 (!w.params.followText "set-order")) where
  ob := ⟨_, ho, ⟨rfl, rfl, rfl⟩, rfl⟩
  rows := rfl
  tab := ⟨List.Pairwise.nil, rfl, rfl, .inl rfl, fun x hx => (by cases hx), fun i h j hi => (by simp at hi)⟩
  nd := List.nodup_nil
  tup := fun p hp => (by cases hp)
  led := by
    show _ ∨ (!w.params.followText "set-order") = true
    cases w.params.followText "set-order"
    · exact .inr rfl
    · exact .inl rfl
  room := by show 0 * 5 < 7 * 3; decide
  few := by show 0 < 4000; decide
end
end
end DL
namespace DL
open PySem
mutual
def D.nb : D → Bool
  | .non => true
  | .int _ => true
  | .str _ => true
  | .tup ds => D.nbs ds
  | .bl _ => false
  | .loc _ => false
  | .scr _ => false
  | .fn _ => false
  | .clo _ _ => false
def D.nbs : List D → Bool
  | [] => true
  | d :: ds => D.nb d && D.nbs ds
end
theorem nbs_all : ∀ {ds : List D}, D.nbs ds = true ↔ ∀ d ∈ ds, d.nb = true
  | [] => by simp [D.nbs]
  | d :: ds => by simp [D.nbs, nbs_all (ds := ds)]
mutual
theorem nb_pure : ∀ d : D, d.nb = true → d.pure = true
  | .non, _ => rfl
  | .int _, _ => rfl
  | .str _, _ => rfl
  | .tup ds, h => by
    simp only [D.nb] at h
    simp only [D.pure]
    exact nbs_pure ds h
  | .bl _, h => by simp [D.nb] at h
  | .loc _, h => by simp [D.nb] at h
  | .scr _, h => by simp [D.nb] at h
  | .fn _, h => by simp [D.nb] at h
  | .clo _ _, h => by simp [D.nb] at h
theorem nbs_pure : ∀ ds : List D, D.nbs ds = true → D.pures ds = true
  | [], _ => rfl
  | d :: ds, h => by
    simp only [D.nbs, Bool.and_eq_true] at h
    simp only [D.pures, Bool.and_eq_true]
    exact ⟨nb_pure d h.1, nbs_pure ds h.2⟩
end
mutual
theorem nb_eqv : ∀ x y : D, x.nb = true → y.nb = true → (PyData.eqv x.py y.py = true ↔ x = y)
  | .non, y, _, hy => by cases y <;> simp [D.py, PyData.eqv, D.nb] at hy ⊢
  | .int i, y, _, hy => by cases y <;> simp [D.py, PyData.eqv, D.nb] at hy ⊢
  | .str i, y, _, hy => by cases y <;> simp [D.py, PyData.eqv, D.nb] at hy ⊢
  | .tup xs, y, hx, hy => by
    cases y with
    | tup ys =>
      simp only [D.nb] at hx hy
      simp only [D.py, PyData.eqv, D.tup.injEq]
      exact nbs_eqv xs ys hx hy
    | _ => simp [D.py, PyData.eqv, D.nb] at hy ⊢
  | .bl _, _, h, _ => by simp [D.nb] at h
  | .loc _, _, h, _ => by simp [D.nb] at h
  | .scr _, _, h, _ => by simp [D.nb] at h
  | .fn _, _, h, _ => by simp [D.nb] at h
  | .clo _ _, _, h, _ => by simp [D.nb] at h
theorem nbs_eqv : ∀ xs ys : List D, D.nbs xs = true → D.nbs ys = true → (PyData.eqvAll (D.pys xs) (D.pys ys) = true ↔ xs = ys)
  | [], [], _, _ => by simp [D.pys, PyData.eqvAll]
  | [], y :: ys, _, _ => by simp [D.pys, PyData.eqvAll]
  | x :: xs, [], _, _ => by simp [D.pys, PyData.eqvAll]
  | x :: xs, y :: ys, hx, hy => by
    simp only [D.nbs, Bool.and_eq_true] at hx hy
    simp only [D.pys, PyData.eqvAll, Bool.and_eq_true, List.cons.injEq]
    rw [nb_eqv x y hx.1 hy.1, nbs_eqv xs ys hx.2 hy.2]
end
mutual
theorem nb_key : ∀ x y : D, x.nb = true → y.nb = true → (x.key = y.key ↔ x = y)
  | .non, y, _, hy => by cases y <;> simp [D.key, D.nb] at hy ⊢
  | .int i, y, _, hy => by cases y <;> simp [D.key, D.nb] at hy ⊢
  | .str i, y, _, hy => by cases y <;> simp [D.key, D.nb] at hy ⊢
  | .tup xs, y, hx, hy => by
    cases y with
    | tup ys =>
      simp only [D.nb] at hx hy
      simp only [D.key, NestedKey.tup.injEq, D.tup.injEq]
      exact nbs_key xs ys hx hy
    | _ => simp [D.key, D.nb] at hy ⊢
  | .bl _, _, h, _ => by simp [D.nb] at h
  | .loc _, _, h, _ => by simp [D.nb] at h
  | .scr _, _, h, _ => by simp [D.nb] at h
  | .fn _, _, h, _ => by simp [D.nb] at h
  | .clo _ _, _, h, _ => by simp [D.nb] at h
theorem nbs_key : ∀ xs ys : List D, D.nbs xs = true → D.nbs ys = true → (D.keys xs = D.keys ys ↔ xs = ys)
  | [], [], _, _ => by simp
  | [], y :: ys, _, _ => by simp [D.keys]
  | x :: xs, [], _, _ => by simp [D.keys]
  | x :: xs, y :: ys, hx, hy => by
    simp only [D.nbs, Bool.and_eq_true] at hx hy
    simp only [D.keys, List.cons.injEq]
    rw [nb_key x y hx.1 hy.1, nbs_key xs ys hx.2 hy.2]
end
noncomputable instance : DecidableEq D := fun _ _ => Classical.propDecidable _
noncomputable def lookD (kvs : List (D × D)) (k : D) : Option D := match kvs with
  | [] => none
  | (x, v) :: r => if x = k then some v else lookD r k
def nbK (kvs : List (D × D)) : Prop := ∀ p ∈ kvs, p.1.nb = true
theorem kIx_cons {x : NestedKey} {ks : List NestedKey} {k : NestedKey} : kIx (x :: ks) k = if x = k then some 0 else (kIx ks k).map (· + 1) := by
  unfold kIx
  rw [List.findIdx?_cons]
  by_cases h : x = k
  · simp [h]
  · simp [h]
theorem dget_cons {x v k : D} {r : List (D × D)} (hx : x.nb = true) (hk : k.nb = true) : dget ((x, v) :: r) k = if x = k then some v else dget r k := by
  unfold dget dIx dkeys
  simp only [List.map_cons, kIx_cons, nb_key x k hx hk]
  by_cases h : x = k
  · simp [h]
  · simp only [h, if_false]
    cases kIx (r.map (·.1.key)) k.key <;> simp
theorem dput_cons {x v k w : D} {r : List (D × D)} (hx : x.nb = true) (hk : k.nb = true) : dput ((x, v) :: r) k w = if x = k then (x, w) :: r else (x, v) :: dput r k w := by
  unfold dput dIx dkeys
  simp only [List.map_cons, kIx_cons, nb_key x k hx hk]
  by_cases h : x = k
  · simp [h]
  · simp only [h, if_false]
    cases kIx (r.map (·.1.key)) k.key <;> simp
theorem dput_nil {k w : D} : dput [] k w = [(k, w)] := rfl
theorem dget_look : ∀ {kvs : List (D × D)} {k : D}, nbK kvs → k.nb = true → dget kvs k = lookD kvs k
  | [], k, _, _ => rfl
  | (x, v) :: r, k, h, hk => by
    rw [dget_cons (h _ List.mem_cons_self) hk, lookD, dget_look (fun p hp => h p (List.mem_cons_of_mem _ hp)) hk]
theorem look_put : ∀ {kvs : List (D × D)} {k w y : D}, nbK kvs → k.nb = true → lookD (dput kvs k w) y = if k = y then some w else lookD kvs y
  | [], k, w, y, _, _ => by rw [dput_nil]; simp [lookD]
  | (x, v) :: r, k, w, y, h, hk => by
    rw [dput_cons (h _ List.mem_cons_self) hk]
    by_cases e : x = k
    · subst e
      simp only [if_true, lookD]
      by_cases e2 : x = y <;> simp [e2]
    · simp only [e, if_false, lookD]
      rw [look_put (fun p hp => h p (List.mem_cons_of_mem _ hp)) hk]
      by_cases e2 : x = y
      · subst e2
        simp [e, Ne.symm (show k ≠ x from fun z => e z.symm)]
        intro z
        exact absurd z.symm e
      · simp [e2]
theorem nbK_put : ∀ {kvs : List (D × D)} {k w : D}, nbK kvs → k.nb = true → nbK (dput kvs k w)
  | [], k, w, _, hk => by rw [dput_nil]; intro p hp; rw [List.mem_singleton.mp hp]; exact hk
  | (x, v) :: r, k, w, h, hk => by
    rw [dput_cons (h _ List.mem_cons_self) hk]
    by_cases e : x = k
    · simp only [e, if_true]
      intro p hp
      rcases List.mem_cons.mp hp with rfl | hp
      · exact hk
      · exact h p (List.mem_cons_of_mem _ hp)
    · simp only [e, if_false]
      intro p hp
      rcases List.mem_cons.mp hp with rfl | hp
      · exact h _ List.mem_cons_self
      · exact nbK_put (fun p hp => h p (List.mem_cons_of_mem _ hp)) hk p hp
def mkSet (xs : List D) : List (D × D) := xs.map fun x => (x, .bl true)
noncomputable def ins (xs : List D) (k : D) : List D := if k ∈ xs then xs else xs ++ [k]
theorem nbK_set {xs : List D} (h : ∀ x ∈ xs, x.nb = true) : nbK (mkSet xs) := by
  intro p hp
  obtain ⟨x, hx, rfl⟩ := List.mem_map.mp hp
  exact h x hx
theorem look_set : ∀ {xs : List D} {k : D}, lookD (mkSet xs) k = if k ∈ xs then some (.bl true) else none
  | [], k => by simp [mkSet, lookD]
  | x :: xs, k => by
    have ih := look_set (xs := xs) (k := k)
    simp only [mkSet, List.map_cons, lookD] at ih ⊢
    rw [ih]
    by_cases e : x = k
    · simp [e]
    · simp [e, show k ≠ x from fun z => e z.symm]
theorem has_set {xs : List D} {k : D} (h : ∀ x ∈ xs, x.nb = true) (hk : k.nb = true) : (dget (mkSet xs) k).isSome = decide (k ∈ xs) := by
  rw [dget_look (nbK_set h) hk, look_set]
  by_cases e : k ∈ xs <;> simp [e]
theorem put_set : ∀ {xs : List D} {k : D}, (∀ x ∈ xs, x.nb = true) → k.nb = true → dput (mkSet xs) k (.bl true) = mkSet (ins xs k)
  | [], k, _, _ => by simp [mkSet, ins, dput_nil]
  | x :: xs, k, h, hk => by
    have ih := put_set (xs := xs) (k := k) (fun y hy => h y (List.mem_cons_of_mem _ hy)) hk
    simp only [mkSet, List.map_cons, ins] at ih ⊢
    rw [dput_cons (h x List.mem_cons_self) hk, ih]
    by_cases e : x = k
    · simp [e]
    · have e' : k ≠ x := fun z => e z.symm
      by_cases e2 : k ∈ xs <;> simp [e, e', e2]
theorem keys_set {xs : List D} : (mkSet xs).map (·.1) = xs := by
  rw [mkSet, List.map_map, show ((fun x : D × D => x.1) ∘ fun x => (x, D.bl true)) = id from rfl, List.map_id]
theorem mem_ins {xs : List D} {k y : D} : y ∈ ins xs k ↔ y ∈ xs ∨ y = k := by
  unfold ins
  by_cases e : k ∈ xs
  · simp only [e, if_true]
    exact ⟨.inl, fun z => z.elim id fun z => z ▸ e⟩
  · simp [e]
theorem nodup_ins {xs : List D} {k : D} (h : xs.Nodup) : (ins xs k).Nodup := by
  unfold ins
  by_cases e : k ∈ xs
  · simp only [e, if_true]
    exact h
  · simp only [e, if_false]
    rw [List.nodup_append]
    exact ⟨h, by simp, fun a ha b hb => by simp at hb; subst hb; exact fun z => e (z ▸ ha)⟩
end DL
namespace DL
open PySem
abbrev Ed := D × D × D
def enc (p : Ed) : D := .tup [p.1, p.2.1, p.2.2]
def Ed.nb (p : Ed) : Prop := p.1.nb = true ∧ p.2.1.nb = true ∧ p.2.2.nb = true
theorem enc_inj {p q : Ed} : enc p = enc q ↔ p = q := by
  obtain ⟨a, b, c⟩ := p
  obtain ⟨x, y, z⟩ := q
  simp [enc]
theorem enc_nb {p : Ed} (h : p.nb) : (enc p).nb = true := by
  simp [enc, D.nb, D.nbs, h.1, h.2.1, h.2.2]
noncomputable def tg (E : List Ed) (x s : D) : List D := (E.filter fun p => decide (p.1 = x ∧ p.2.1 = s)).map (·.2.2)
theorem mem_tg {E : List Ed} {x s y : D} : y ∈ tg E x s ↔ (x, s, y) ∈ E := by
  simp only [tg, List.mem_map, List.mem_filter, decide_eq_true_eq]
  constructor
  · rintro ⟨⟨a, b, c⟩, ⟨h, rfl, rfl⟩, rfl⟩
    exact h
  · intro h
    exact ⟨_, ⟨h, rfl, rfl⟩, rfl⟩
structure WAt (c : Nat) (S : Sto) (n : Nat) (E : List Ed) (F : Nat → Prop) : Prop where
  nb : ∀ p ∈ E, p.nb
  nd : E.Nodup
  ex : ∃ (e t : Nat) (kvs : List (D × D)), S[n]? = some (.ins c [("_edges", .loc e), ("_to", .loc t)]) ∧ S[e]? = some (.dct (mkSet (E.map enc))) ∧ S[t]? = some (.dct kvs) ∧ nbK kvs ∧ F n ∧ F e ∧ F t ∧ e ≠ t ∧ E.length ≤ 1000 ∧ kvs.length ≤ E.length ∧
    (∀ x s, x.nb = true → s.nb = true → match lookD kvs (.tup [x, s]) with
      | none => tg E x s = []
      | some d => ∃ l, d = .loc l ∧ F l ∧ S[l]? = some (.lst (tg E x s))) ∧
    ∀ x s x' s' l, x.nb = true → s.nb = true → x'.nb = true → s'.nb = true → lookD kvs (.tup [x, s]) = some (.loc l) → lookD kvs (.tup [x', s']) = some (.loc l) → x = x' ∧ s = s'
theorem WAt.frame {c n : Nat} {S S' : Sto} {E : List Ed} {F : Nat → Prop} (w : WAt c S n E F) (h : ∀ j, F j → S'[j]? = S[j]?) : WAt c S' n E F := by
  obtain ⟨nb, nd, e, t, kvs, h1, h2, h3, h4, h5, h6, h7, h8, h9, h9', h10, h11⟩ := w
  refine ⟨nb, nd, e, t, kvs, (h n h5).trans h1, (h e h6).trans h2, (h t h7).trans h3, h4, h5, h6, h7, h8, h9, h9', fun x s hx hs => ?_, h11⟩
  have := h10 x s hx hs
  split
  · rename_i q
    rw [q] at this
    exact this
  · rename_i d q
    rw [q] at this
    obtain ⟨l, r1, r2, r3⟩ := this
    exact ⟨l, r1, r2, (h l r2).trans r3⟩
theorem get_app {S U : Sto} {j : Nat} {o : Ob} (h : S[j]? = some o) : (S ++ U)[j]? = some o := by
  rw [List.getElem?_append_left (List.getElem?_eq_some_iff.mp h).1]
  exact h
theorem WAt.app {c n : Nat} {S : Sto} {E : List Ed} {F : Nat → Prop} (w : WAt c S n E F) (U : Sto) : WAt c (S ++ U) n E F := by
  obtain ⟨nb, nd, e, t, kvs, h1, h2, h3, h4, h5, h6, h7, h8, h9, h9', h10, h11⟩ := w
  refine ⟨nb, nd, e, t, kvs, get_app h1, get_app h2, get_app h3, h4, h5, h6, h7, h8, h9, h9', fun x s hx hs => ?_, h11⟩
  have := h10 x s hx hs
  split
  · rename_i q
    rw [q] at this
    exact this
  · rename_i d q
    rw [q] at this
    obtain ⟨l, r1, r2, r3⟩ := this
    exact ⟨l, r1, r2, get_app r3⟩
@[simp] theorem fld_at {c n : Nat} {S : Sto} {fs : List (Str × D)} {f : Str} {d : D} {cs : List Nat} (h : S[n]? = some (.ins c fs)) (hc : c ∈ cs) (hl : fs.lookup f = some d) : fldP cs f (.loc n) S = some (d, S) := by
  simp [fldP, h, hc, hl]
theorem key2 {x s : D} (hx : x.nb = true) (hs : s.nb = true) (h2 : x.depth ≤ 6) (h3 : s.depth ≤ 6) : okKey (.tup [x, s]) = true := by
  have : (D.tup [x, s]).pure = true := nb_pure _ (by simp [D.nb, D.nbs, hx, hs])
  simp [okKey, this, D.depth, D.depths]
  omega
end DL
namespace DL
open PySem
theorem len_sub : ∀ {fs l : List D}, fs.Nodup → (∀ y ∈ fs, y ∈ l) → fs.length ≤ l.length
  | [], _, _, _ => Nat.zero_le _
  | y :: fs, l, nd, h => by
    have hy : y ∈ l := h y List.mem_cons_self
    have nd' := List.nodup_cons.mp nd
    have e := List.length_erase_of_mem hy
    have hp : 0 < l.length := List.length_pos_of_mem hy
    have := len_sub (fs := fs) (l := l.erase y) nd'.2 fun z hz => (List.mem_erase_of_ne (by rintro rfl; exact nd'.1 hz)).mpr (h z (List.mem_cons_of_mem _ hz))
    simp only [List.length_cons]
    omega
noncomputable def afterB (c : Nat) : SM := (sSeq (sAsg mDNew (gVar 3)) (sSeq (sFor (iSeq (mVar 1)) (gVar 4) (sFor (iSeq (mMG isDct getP (mFld [c] "_to" (mVar 0)) (lCons (mL tupP (lCons (mVar 4) (lCons (mVar 2) lNil))) (lCons (mL lstP lNil) lNil)))) (gVar 5) (sAsg (mC (.bl true)) (gSubM (mVar 3) (mVar 5))))) (sRet (mL listQ (lCons (mVar 3) lNil)))))
theorem set_app {S U : Sto} {o o' : Ob} : (S ++ o :: U).set S.length o' = S ++ o' :: U := by simp
theorem at_app {S U : Sto} {o : Ob} : (S ++ o :: U)[S.length]? = some o := by simp
theorem setP_set {S U : Sto} {fs : List D} {y : D} (h : ∀ x ∈ fs, x.nb = true) (hy : y.nb = true) (hd : y.depth ≤ 8) (hz : fs.length ≤ 1000) : setP (.loc S.length) y (.bl true) (S ++ .dct (mkSet fs) :: U) = some (S ++ .dct (mkSet (ins fs y)) :: U) := by
  have ok : okKey y = true := by simp [okKey, nb_pure y hy, hd]
  have e : dctD (S ++ .dct (mkSet fs) :: U) (.loc S.length) = some (mkSet fs) := by simp [dctD]
  simp only [setP, e, ok, true_and]
  rw [if_pos (by rw [mkSet, List.length_map]; exact fits_lt hz), put_set h hy, set_app]
theorem lay_ok {S : Sto} {l : Nat} {its : List D} {o0 o1 o2 o4 : Option D} {fs : List D} {U : Sto} {o5 : Option D} (hl : (S ++ .dct (mkSet fs) :: U)[l]? = some (.lst its)) (hls : l ≠ S.length) (hi : ∀ y ∈ its, y.nb = true ∧ y.depth ≤ 6) (hf : ∀ y ∈ fs, y.nb = true) (nd : fs.Nodup) (M : List D) (hM : ∀ y, y ∈ fs ∨ y ∈ its → y ∈ M) (hMl : M.length ≤ 1000) :
    Ow (forL (.seq (.loc l)) (gVar 5) (sAsg (mC (.bl true)) (gSubM (mVar 3) (mVar 5))) 0 [o0, o1, o2, some (.loc S.length), o4, o5] (S ++ .dct (mkSet fs) :: U)) fun x => x.1 = .nx ∧ ∃ fs' o5', x.2 = ([o0, o1, o2, some (.loc S.length), o4, o5'], S ++ .dct (mkSet fs') :: U) ∧ fs'.Nodup ∧ ∀ y, y ∈ fs' ↔ y ∈ fs ∨ y ∈ its := by
  have key : ∀ (fs1 : List D), (S ++ .dct (mkSet fs1) :: U)[l]? = some (.lst its) := fun fs1 => by
    rw [← hl]
    by_cases h : l < S.length
    · rw [List.getElem?_append_left h, List.getElem?_append_left h]
    · rw [List.getElem?_append_right (by omega), List.getElem?_append_right (by omega)]
      obtain ⟨k, hk⟩ : ∃ k, l - S.length = k + 1 := ⟨l - S.length - 1, by omega⟩
      rw [hk]
      rfl
  refine forL_inv its (fun j env S1 => ∃ fs1 o5', env = [o0, o1, o2, some (.loc S.length), o4, o5'] ∧ S1 = S ++ .dct (mkSet fs1) :: U ∧ fs1.Nodup ∧ ∀ y, y ∈ fs1 ↔ y ∈ fs ∨ y ∈ its.take j) _ (fun j env S1 ⟨fs1, o5', _, e2, _⟩ => by rw [e2]; simp [itAt, seqD, key fs1]) (fun env S1 ⟨fs1, o5', e1, e2, e3, e4⟩ => ⟨rfl, fs1, o5', by rw [e1, e2], e3, by simpa using e4⟩)
    (fun j d env S1 hj ⟨fs1, o5', e1, e2, e3, e4⟩ => ?_) its.length 0 _ _ (by simp) (by simp) ⟨fs, o5, rfl, rfl, nd, by simp⟩
  subst e1 e2
  have hd := hi d (List.mem_of_getElem? hj)
  have h1 : ∀ x ∈ fs1, x.nb = true := fun x hx => ((e4 x).mp hx).elim (hf x) fun z => (hi x (List.mem_of_mem_take z)).1
  have h2 : fs1.length ≤ 1000 := Nat.le_trans (len_sub e3 fun y hy => hM y (((e4 y).mp hy).imp id List.mem_of_mem_take)) hMl
  simp [setP_set h1 hd.1 (by omega) h2]
  refine ⟨ins fs1 d, rfl, nodup_ins e3, fun y => ?_⟩
  rw [mem_ins, e4, List.take_add_one, hj]
  simp [or_assoc]
theorem to_get {c n : Nat} {S : Sto} {E : List Ed} {F : Nat → Prop} (w : WAt c S n E F) {x s : D} (hx : x.nb = true) (hs : s.nb = true) (dx : x.depth ≤ 6) (ds : s.depth ≤ 6) :
    ∃ t kvs, fldP [c] "_to" (.loc n) S = some (.loc t, S) ∧ S[t]? = some (.dct kvs) ∧ ∀ U df, ∃ d, getP (.loc t) [.tup [x, s], df] (S ++ U) = some (d, S ++ U) ∧ ((d = df ∧ tg E x s = []) ∨ ∃ l, d = .loc l ∧ F l ∧ S[l]? = some (.lst (tg E x s))) := by
  obtain ⟨nb, nd, e, t, kvs, h1, h2, h3, h4, h5, h6, h7, h8, h9, h9', h10, h11⟩ := w
  have ok := key2 hx hs dx ds
  have hk : (D.tup [x, s]).nb = true := by simp [D.nb, D.nbs, hx, hs]
  refine ⟨t, kvs, fld_at h1 (by simp) (by rfl), h3, fun U df => ?_⟩
  have hd : dctD (S ++ U) (.loc t) = some kvs := by simp [dctD, get_app h3]
  have hl := h10 x s hx hs
  simp only [getP, hd, ok, if_true, dget_look h4 hk]
  split at hl
  · rename_i q
    rw [q]
    exact ⟨df, rfl, .inl ⟨rfl, hl⟩⟩
  · rename_i d q
    rw [q]
    obtain ⟨l, rfl, r2, r3⟩ := hl
    exact ⟨.loc l, rfl, .inr ⟨l, rfl, r2, r3⟩⟩
theorem after_ok {c n : Nat} {S : Sto} {E : List Ed} {F : Nat → Prop} (w : WAt c S n E F) (hF : ∀ p ∈ E, p.2.2.depth ≤ 6) {d s : D} {xs : List D} (hd : seqD S d = some xs) (hx : ∀ x ∈ xs, x.nb = true ∧ x.depth ≤ 6) (hs : s.nb = true) (ds : s.depth ≤ 6) :
    Ow (runB 6 (afterB c) [.loc n, d, s] S) fun x => ∃ ys U, x.1 = .loc (S.length + U.length) ∧ x.2 = S ++ (U ++ [.lst ys]) ∧ ys.Nodup ∧ ∀ y, y ∈ ys ↔ ∃ x ∈ xs, (x, s, y) ∈ E := by
  have hE : E.length ≤ 1000 := by
    obtain ⟨_, _, e, t, kvs, _, _, _, _, _, _, _, _, h, _⟩ := w
    exact h
  have tn : ∀ x y, y ∈ tg E x s → y.nb = true ∧ y.depth ≤ 6 := fun x y hy => ⟨(w.nb _ (mem_tg.mp hy)).2.2, hF _ (mem_tg.mp hy)⟩
  have hd' : ∀ U, seqD (S ++ U) d = some xs := fun U => by
    cases d with
    | tup es => simpa [seqD] using hd
    | scr ns => simpa [seqD] using hd
    | loc m =>
      simp only [seqD] at hd ⊢
      cases q : S[m]? with
      | none => rw [q] at hd; cases hd
      | some o => rw [get_app q]; rw [q] at hd; exact hd
    | _ => cases hd
  rw [ow_runB]
  unfold afterB
  simp [ow_for, hd']
  refine (forL_inv xs (fun j env S1 => ∃ fs U o4 o5, env = [some (.loc n), some d, some s, some (.loc S.length), o4, o5] ∧ S1 = S ++ .dct (mkSet fs) :: U ∧ fs.Nodup ∧ ∀ y, y ∈ fs ↔ ∃ x ∈ xs.take j, (x, s, y) ∈ E)
    (fun x => x.1 = .nx ∧ ∃ fs U o4 o5, x.2.1 = [some (.loc n), some d, some s, some (.loc S.length), o4, o5] ∧ x.2.2 = S ++ .dct (mkSet fs) :: U ∧ fs.Nodup ∧ ∀ y, y ∈ fs ↔ ∃ x ∈ xs, (x, s, y) ∈ E)
    (fun j env S1 ⟨fs, U, o4, o5, _, e2, _⟩ => by rw [e2]; simp [itAt, hd']) (fun env S1 ⟨fs, U, o4, o5, e1, e2, e3, e4⟩ => ⟨rfl, fs, U, o4, o5, e1, e2, e3, by simpa using e4⟩)
    (fun j x env S1 hj ⟨fs, U, o4, o5, e1, e2, e3, e4⟩ => ?_) xs.length 0 _ _ (by simp) (by simp) ⟨[], [], none, none, rfl, by simp [mkSet], List.nodup_nil, by simp⟩).imp ?_
  · subst e1 e2
    have hxx := hx x (List.mem_of_getElem? hj)
    obtain ⟨t, kvs, f1, f2, f3⟩ := to_get (w.app (.dct (mkSet fs) :: U)) hxx.1 hs hxx.2 ds
    simp [f1, tup_ok, lst_ok, ow_for]
    obtain ⟨d', g1, g2⟩ := f3 [.lst []] (.loc (S.length + (U.length + 1)))
    simp only [List.append_assoc, List.cons_append] at g1
    refine ⟨by simp [isDct, dctD, f2], ?_⟩
    rw [g1]
    simp only [ow_some]
    have lay : ∀ l its, (S ++ .dct (mkSet fs) :: (U ++ [.lst []]))[l]? = some (.lst its) → its = tg E x s → d' = .loc l → (seqD (S ++ .dct (mkSet fs) :: (U ++ [.lst []])) d').isSome = true ∧ Ow (forL (.seq d') (gVar 5) (sAsg (mC (.bl true)) (gSubM (mVar 3) (mVar 5))) 0 [some (.loc n), some d, some s, some (.loc S.length), some x, o5] (S ++ .dct (mkSet fs) :: (U ++ [.lst []])))
        fun y => y.1 = .nx ∧ ∃ fs' o5', y.2 = ([some (.loc n), some d, some s, some (.loc S.length), some x, o5'], S ++ .dct (mkSet fs') :: (U ++ [.lst []])) ∧ fs'.Nodup ∧ ∀ y, y ∈ fs' ↔ y ∈ fs ∨ y ∈ its := by
      intro l its hl hi hd
      subst hi hd
      have hne : l ≠ S.length := by
        rintro rfl
        rw [at_app] at hl
        cases hl
      refine ⟨by simp [seqD, hl], lay_ok hl hne (fun y hy => tn x y hy) (fun y hy => ?_) e3 (E.map (·.2.2)) (fun y hy => ?_) (by rw [List.length_map]; exact hE)⟩
      · obtain ⟨x', _, h2⟩ := (e4 y).mp hy
        exact (w.nb _ h2).2.2
      · rcases hy with hy | hy
        · obtain ⟨x', _, h2⟩ := (e4 y).mp hy
          exact List.mem_map.mpr ⟨_, h2, rfl⟩
        · exact List.mem_map.mpr ⟨_, mem_tg.mp hy, rfl⟩
    have fin : (seqD (S ++ .dct (mkSet fs) :: (U ++ [.lst []])) d').isSome = true ∧ Ow (forL (.seq d') (gVar 5) (sAsg (mC (.bl true)) (gSubM (mVar 3) (mVar 5))) 0 [some (.loc n), some d, some s, some (.loc S.length), some x, o5] (S ++ .dct (mkSet fs) :: (U ++ [.lst []])))
        fun y => y.1 = .nx ∧ ∃ fs' o5', y.2 = ([some (.loc n), some d, some s, some (.loc S.length), some x, o5'], S ++ .dct (mkSet fs') :: (U ++ [.lst []])) ∧ fs'.Nodup ∧ ∀ y, y ∈ fs' ↔ y ∈ fs ∨ y ∈ tg E x s := by
      rcases g2 with ⟨rfl, g2⟩ | ⟨l, rfl, _, g2⟩
      · refine lay (S.length + (U.length + 1)) _ ?_ rfl rfl
        rw [List.getElem?_append_right (by omega), show S.length + (U.length + 1) - S.length = U.length + 1 by omega, g2]
        simp
      · refine lay l _ ?_ rfl rfl
        have := get_app (U := [.lst []]) g2
        simpa using this
    refine ⟨fin.1, fin.2.imp ?_⟩
    rintro ⟨fl, env, S2⟩ ⟨rfl, fs', o5', he, nd', hm⟩
    cases he
    refine ⟨⟨_, _, rfl⟩, fs', ⟨_, rfl⟩, nd', fun y => ?_⟩
    rw [hm, e4, mem_tg, List.take_add_one, hj]
    simp only [List.mem_append, Option.toList_some, List.mem_singleton]
    constructor
    · rintro (⟨x', h1, h2⟩ | h)
      · exact ⟨x', .inl h1, h2⟩
      · exact ⟨x, .inr rfl, h⟩
    · rintro ⟨x', h1 | rfl, h2⟩
      · exact .inl ⟨x', h1, h2⟩
      · exact .inr h2
  · rintro ⟨fl, env, S1⟩ ⟨rfl, fs, U, o4, o5, rfl, rfl, e3, e4⟩
    simp [listQ, dctD, keys_set]
    refine ⟨fs, .dct (mkSet fs) :: U, by simp, by simp, e3, e4⟩
end DL
namespace DL
open PySem
inductive Fr (E : List Ed) (x : D) : D → Prop where
  | refl : Fr E x x
  | step {y z : D} : Fr E x y → (y, .non, z) ∈ E → Fr E x z
noncomputable def nf (E : List Ed) (fs : List D) : Nat := ((E.map (·.2.2)).filter fun y => decide (y ∉ fs)).length
theorem nf_app {E : List Ed} {fs : List D} {y : D} (h : y ∈ E.map (·.2.2)) (hn : y ∉ fs) : nf E (fs ++ [y]) + 1 ≤ nf E fs := by
  unfold nf
  generalize E.map (·.2.2) = T at h
  induction T with
  | nil => cases h
  | cons t T ih =>
    have mono : ∀ T : List D, (T.filter fun z => decide (z ∉ fs ++ [y])).length ≤ (T.filter fun z => decide (z ∉ fs)).length := fun T => by
      induction T with
      | nil => simp
      | cons a T ih =>
        by_cases h1 : a ∈ fs
        · have : a ∈ fs ++ [y] := by simp [h1]
          simp [List.filter_cons, h1] at ih ⊢
          exact ih
        · by_cases h2 : a = y
          · subst h2
            simp [List.filter_cons, h1] at ih ⊢
            omega
          · simp [List.filter_cons, h1, h2] at ih ⊢
            omega
    by_cases ht : t = y
    · subst ht
      have := mono T
      simp [List.filter_cons, hn] at this ⊢
      omega
    · have hT : y ∈ T := by
        rcases List.mem_cons.mp h with z | z
        · exact absurd z.symm ht
        · exact z
      have := ih hT
      by_cases h1 : t ∈ fs
      · simp [List.filter_cons, h1] at this ⊢
        omega
      · simp [List.filter_cons, h1, ht] at this ⊢
        omega
noncomputable def freelyB (c gA : Nat) (cl : Nat → FM) : SM := (sSeq (sAsg (mDc (iSeq (mVar 1)) [5] (.nm 5) bYes (mVar 5) (mC (.bl true))) (gVar 2)) (sSeq (sAsg (mL listQ (lCons (mVar 1) lNil)) (gVar 3)) (sSeq (sWhile (bTru (mVar 3)) (sFor (iSeq (mMeth "after" [(c, gA)] cl (mVar 0) (lCons (mL lstP (lCons (mM0 "list" popP (mVar 3)) lNil)) (lCons (mC .non) lNil)))) (gVar 4) (sIf (bV (m2 notInQ (mVar 4) (mVar 2))) (sSeq (sAsg (mC (.bl true)) (gSubM (mVar 2) (mVar 4))) (sExpr (mM "list" appP (mVar 3) (lCons (mVar 4) lNil)))) sNext))) (sRet (mL listQ (lCons (mVar 2) lNil))))))
abbrev fwS (S : Sto) (fs ws : List D) (U : Sto) : Sto := S ++ .dct (mkSet fs) :: .lst ws :: U
theorem fw_dct {S U : Sto} {fs ws : List D} : (fwS S fs ws U)[S.length]? = some (.dct (mkSet fs)) := by simp [fwS]
theorem fw_lst {S U : Sto} {fs ws : List D} : (fwS S fs ws U)[S.length + 1]? = some (.lst ws) := by
  rw [fwS, List.getElem?_append_right (by omega), show S.length + 1 - S.length = 1 by omega]
  rfl
theorem fw_set {S U : Sto} {fs ws ws' : List D} : (fwS S fs ws U).set (S.length + 1) (.lst ws') = fwS S fs ws' U := by
  simp [fwS, List.set_append]
theorem fw_add {S U : Sto} {fs ws : List D} {y : D} (h : ∀ x ∈ fs, x.nb = true) (hy : y.nb = true) (hd : y.depth ≤ 8) (hz : fs.length ≤ 1000) : setP (.loc S.length) y (.bl true) (fwS S fs ws U) = some (fwS S (ins fs y) ws U) := setP_set h hy hd hz
theorem fw_app {S U : Sto} {fs ws : List D} {y : D} (hz : ws.length ≤ 1000) : appP (.loc (S.length + 1)) [y] (fwS S fs ws U) = some (.non, fwS S fs (ws ++ [y]) U) := by
  simp only [appP, fw_lst]
  rw [if_pos (fits_lt hz), fw_set]
theorem fw_pop {S U : Sto} {fs ws : List D} {y : D} (h : ws[ws.length - 1]? = some y) : popP (.loc (S.length + 1)) [] (fwS S fs ws U) = some (y, fwS S fs ws.dropLast U) := by
  simp only [popP, fw_lst, h, fw_set]
theorem fw_notIn {S U : Sto} {fs ws : List D} {y : D} (h : ∀ x ∈ fs, x.nb = true) (hy : y.nb = true) (hd : y.depth ≤ 8) : notInQ y (.loc S.length) (fwS S fs ws U) = some (.bl (!decide (y ∈ fs)), fwS S fs ws U) := by
  have ok : okKey y = true := by simp [okKey, nb_pure y hy, hd]
  have e : dctD (fwS S fs ws U) (.loc S.length) = some (mkSet fs) := by simp [dctD, fwS]
  simp only [notInQ, e, ok, if_true, has_set h hy]
theorem fr_turn {S U : Sto} {l : Nat} {its : List D} {o0 o1 : Option D} {fs ws : List D} {o4 o5 : Option D} {E : List Ed} (hl : (fwS S fs ws U)[l]? = some (.lst its)) (hls : S.length + 1 < l) (hi : ∀ y ∈ its, (y.nb = true ∧ y.depth ≤ 6) ∧ y ∈ E.map (·.2.2)) (hf : ∀ y ∈ fs, y.nb = true) (nd : fs.Nodup) (M : List D) (hM : ∀ y, y ∈ fs ∨ y ∈ its → y ∈ M) (hMl : M.length ≤ 1000)
    (hw : ws.length + 2 * nf E fs ≤ 900) :
    Ow (forL (.seq (.loc l)) (gVar 4) (sIf (bV (m2 notInQ (mVar 4) (mVar 2))) (sSeq (sAsg (mC (.bl true)) (gSubM (mVar 2) (mVar 4))) (sExpr (mM "list" appP (mVar 3) (lCons (mVar 4) lNil)))) sNext) 0 [o0, o1, some (.loc S.length), some (.loc (S.length + 1)), o4, o5] (fwS S fs ws U))
      fun x => x.1 = .nx ∧ ∃ fs' new o4', x.2 = ([o0, o1, some (.loc S.length), some (.loc (S.length + 1)), o4', o5], fwS S fs' (ws ++ new) U) ∧ fs'.Nodup ∧ (∀ y, y ∈ fs' ↔ y ∈ fs ∨ y ∈ its) ∧ (∀ y, y ∈ fs' → y ∈ fs ∨ y ∈ new) ∧ (∀ y ∈ new, y ∈ its) ∧ new.length + 2 * nf E fs' ≤ 2 * nf E fs := by
  have key : ∀ (fs1 ws1 : List D), (fwS S fs1 ws1 U)[l]? = some (.lst its) := fun fs1 ws1 => by
    rw [← hl]
    simp only [fwS]
    rw [List.getElem?_append_right (by omega), List.getElem?_append_right (by omega)]
    obtain ⟨k, hk⟩ : ∃ k, l - S.length = k + 2 := ⟨l - S.length - 2, by omega⟩
    rw [hk]
    rfl
  refine forL_inv its (fun j env S1 => ∃ fs1 new o4', env = [o0, o1, some (.loc S.length), some (.loc (S.length + 1)), o4', o5] ∧ S1 = fwS S fs1 (ws ++ new) U ∧ fs1.Nodup ∧ (∀ y, y ∈ fs1 ↔ y ∈ fs ∨ y ∈ its.take j) ∧ (∀ y, y ∈ fs1 → y ∈ fs ∨ y ∈ new) ∧ (∀ y ∈ new, y ∈ its) ∧ new.length + 2 * nf E fs1 ≤ 2 * nf E fs) _ (fun j env S1 ⟨fs1, new, o4', _, e2, _⟩ => by rw [e2]; simp only [itAt, seqD, key])
    (fun env S1 ⟨fs1, new, o4', e1, e2, e3, e4, e5, e6, e7⟩ => ⟨rfl, fs1, new, o4', by rw [e1, e2], e3, by simpa using e4, e5, e6, e7⟩)
    (fun j d env S1 hj ⟨fs1, new, o4', e1, e2, e3, e4, e5, e6, e7⟩ => ?_) its.length 0 _ _ (by simp) (by simp) ⟨fs, [], o4, rfl, by simp, nd, by simp, fun y hy => .inl hy, by simp, by simp⟩
  subst e1 e2
  have hdm := List.mem_of_getElem? hj
  have hd := hi d hdm
  have h1 : ∀ x ∈ fs1, x.nb = true := fun x hx => ((e4 x).mp hx).elim (hf x) fun z => (hi x (List.mem_of_mem_take z)).1.1
  have h2 : fs1.length ≤ 1000 := Nat.le_trans (len_sub e3 fun y hy => hM y (((e4 y).mp hy).imp id List.mem_of_mem_take)) hMl
  have ht : ∀ y, y ∈ its.take (j + 1) ↔ y ∈ its.take j ∨ y = d := fun y => by rw [List.take_add_one, hj]; simp
  have hwl : (ws ++ new).length ≤ 1000 := by rw [List.length_append]; omega
  have tyl : tyD "list" (fwS S (ins fs1 d) (ws ++ new) U) (.loc (S.length + 1)) = true := by
    simp only [tyD, seqD, fw_lst, Option.isSome_some]
  by_cases hin : d ∈ fs1
  · simp [fw_notIn h1 hd.1.1 (show d.depth ≤ 8 by omega), hin]
    refine ⟨fs1, new, ⟨rfl, rfl⟩, e3, fun y => ?_, e5, e6, e7⟩
    rw [e4, ht]
    constructor
    · exact fun z => z.imp id .inl
    · rintro (z | z | rfl)
      · exact .inl z
      · exact .inr z
      · exact (e4 _).mp hin
  · simp [fw_notIn h1 hd.1.1 (show d.depth ≤ 8 by omega), hin, fw_add h1 hd.1.1 (show d.depth ≤ 8 by omega) h2, tyl, fw_app hwl]
    have hins : ins fs1 d = fs1 ++ [d] := by simp [ins, hin]
    refine ⟨ins fs1 d, new ++ [d], by simp, nodup_ins e3, fun y => ?_, fun y hy => ?_, fun y hy => ?_, ?_⟩
    · rw [mem_ins, e4, ht, or_assoc]
    · rcases mem_ins.mp hy with z | rfl
      · exact (e5 y z).imp id fun z => by simp [z]
      · exact .inr (by simp)
    · rcases List.mem_append.mp hy with z | z
      · exact e6 y z
      · rw [List.mem_singleton.mp z]; exact hdm
    · rw [hins, List.length_append]
      have := nf_app (E := E) hd.2 hin
      simp only [List.length_singleton]
      omega
end DL
namespace DL
open PySem
theorem meth_at {c n g : Nat} {S : Sto} {E : List Ed} {F : Nat → Prop} {m : Str} {cands : List (Nat × Nat)} (w : WAt c S n E F) (h1 : m ≠ "_edges") (h2 : m ≠ "_to") (hg : cands.lookup c = some g) : methOf m cands (.loc n) S = some (n, g) := by
  obtain ⟨_, _, e, t, kvs, h3, _⟩ := w
  have hl : List.lookup m [(("_edges" : Str), D.loc e), ("_to", .loc t)] = none := by
    simp [List.lookup, beq_eq_false_iff_ne.mpr h1, beq_eq_false_iff_ne.mpr h2]
  simp [methOf, h3, hl, hg]
theorem fw_tru {S U : Sto} {fs ws : List D} : truD (fwS S fs ws U) (.loc (S.length + 1)) = some (!ws.isEmpty) := by
  simp only [truD, fw_lst]
theorem fr_while {c n gA : Nat} {cl : Nat → FM} {S : Sto} {E : List Ed} {F : Nat → Prop} (w : WAt c S n E F) (hF : ∀ p ∈ E, p.2.2.depth ≤ 6) (hE : E.length ≤ 300) (hcl : cl gA = runB 6 (afterB c)) {d : D} {xs : List D} (hx : ∀ x ∈ xs, x.nb = true ∧ x.depth ≤ 6) (hlen : xs.length ≤ 300)
    {fs0 : List D} (h0 : ∀ y, y ∈ fs0 ↔ y ∈ xs) (nd0 : fs0.Nodup) {o4 o5 : Option D} :
    Ow (sWhile (bTru (mVar 3)) (sFor (iSeq (mMeth "after" [(c, gA)] cl (mVar 0) (lCons (mL lstP (lCons (mM0 "list" popP (mVar 3)) lNil)) (lCons (mC .non) lNil)))) (gVar 4) (sIf (bV (m2 notInQ (mVar 4) (mVar 2))) (sSeq (sAsg (mC (.bl true)) (gSubM (mVar 2) (mVar 4))) (sExpr (mM "list" appP (mVar 3) (lCons (mVar 4) lNil)))) sNext))
      [some (.loc n), some d, some (.loc S.length), some (.loc (S.length + 1)), o4, o5] (fwS S fs0 xs [])) fun x => x.1 = .nx ∧ ∃ fs U o4 o5, x.2 = ([some (.loc n), some d, some (.loc S.length), some (.loc (S.length + 1)), o4, o5], fwS S fs [] U) ∧ fs.Nodup ∧ ∀ y, y ∈ fs ↔ ∃ x ∈ xs, Fr E x y := by
  refine sWhile_inv (fun m env S1 => ∃ fs ws U o4 o5, env = [some (.loc n), some d, some (.loc S.length), some (.loc (S.length + 1)), o4, o5] ∧ S1 = fwS S fs ws U ∧ fs.Nodup ∧ (∀ y ∈ xs, y ∈ fs) ∧ (∀ y ∈ fs, ∃ x ∈ xs, Fr E x y) ∧ (∀ y ∈ ws, y ∈ fs) ∧ (∀ y ∈ fs, y ∉ ws → ∀ z, (y, .non, z) ∈ E → z ∈ fs) ∧ m = ws.length + 2 * nf E fs ∧ m ≤ 900) _ (fun m env S1 hI => ?_) (xs.length + 2 * nf E fs0) _ _ ⟨fs0, xs, [], o4, o5, rfl, rfl, nd0, fun y hy => (h0 y).mpr hy, fun y hy => ⟨y, (h0 y).mp hy, .refl⟩, fun y hy => (h0 y).mpr hy, fun y hy hn => absurd ((h0 y).mp hy) hn, rfl, ?_⟩
  · obtain ⟨fs, ws, U, o4, o5, rfl, rfl, nd, hxs, hre, hws, hcl2, hm, hb⟩ := hI
    simp only [ow_Tru, ow_var, List.getElem?_cons_succ, List.getElem?_cons_zero, Option.some.injEq, exists_eq_left', fw_tru, ow_some]
    have frb : ∀ x y, (x.nb = true ∧ x.depth ≤ 6) → Fr E x y → y.nb = true ∧ y.depth ≤ 6 := fun x y hx h => by
      cases h with
      | refl => exact hx
      | step _ h2 => exact ⟨(w.nb _ h2).2.2, hF _ h2⟩
    have hfb : ∀ y ∈ fs, y.nb = true ∧ y.depth ≤ 6 := fun y hy => by
      obtain ⟨x, h1, h2⟩ := hre y hy
      exact frb x y (hx x h1) h2
    cases hw : ws with
    | nil =>
      subst hw
      simp only [List.isEmpty_nil, Bool.not_true, Bool.false_eq_true, if_false]
      refine ⟨trivial, fs, U, o4, o5, rfl, nd, fun y => ⟨hre y, ?_⟩⟩
      rintro ⟨x, h1, h2⟩
      induction h2 with
      | refl => exact hxs x h1
      | step _ h3 ih => exact hcl2 _ ih (by simp) _ h3
    | cons w0 wr =>
      rw [← hw]
      have hne : ws.isEmpty = false := by rw [hw]; rfl
      rw [hne]
      simp only [Bool.not_false, if_true]
      have hwl : 0 < ws.length := by rw [hw]; simp
      obtain ⟨y, hy⟩ : ∃ y, ws[ws.length - 1]? = some y := ⟨ws[ws.length - 1], List.getElem?_eq_getElem (by omega)⟩
      have hym : y ∈ ws := List.mem_of_getElem? hy
      have hyb := hfb y (hws y hym)
      have tyl : tyD "list" (fwS S fs ws U) (.loc (S.length + 1)) = true := by simp only [tyD, seqD, fw_lst, Option.isSome_some]
      have hmt := meth_at (m := "after") (cands := [(c, gA)]) (g := gA) (w.app (.dct (mkSet fs) :: .lst ws :: U)) (by decide) (by decide) (by simp [List.lookup])
      have w2 : WAt c (fwS S fs ws.dropLast U ++ [.lst [y]]) n E F := by
        have := w.app (.dct (mkSet fs) :: .lst ws.dropLast :: U ++ [.lst [y]])
        simpa [fwS] using this
      have aft := after_ok w2 hF (d := .loc (fwS S fs ws.dropLast U).length) (s := .non) (xs := [y]) (by simp only [seqD, List.getElem?_append_right (Nat.le_refl _), Nat.sub_self, List.getElem?_cons_zero]) (fun x hx => by rw [List.mem_singleton.mp hx]; exact hyb) rfl (by simp [D.depth])
      have lok : lstP [y] (fwS S fs ws.dropLast U) = some (.loc (fwS S fs ws.dropLast U).length, fwS S fs ws.dropLast U ++ [.lst [y]]) := lst_ok (by simp)
      rw [ow_for]
      simp only [ow_iSeq, ow_mMeth, ow_var, List.getElem?_cons_succ, List.getElem?_cons_zero, Option.some.injEq, exists_eq_left', hmt, ow_some, ow_cons, ow_nil, ow_mL, ow_mM0, tyl, true_and, fw_pop hy, lok, ow_C, hcl]
      refine aft.imp ?_
      rintro ⟨r, S2⟩ ⟨ys, U2, hr, hS, hnd, hys⟩
      simp only at hr hS
      subst hr hS
      have eS : fwS S fs ws.dropLast U ++ [Ob.lst [y]] ++ (U2 ++ [Ob.lst ys]) = fwS S fs ws.dropLast (U ++ [Ob.lst [y]] ++ U2 ++ [Ob.lst ys]) := by simp [fwS]
      have el : (fwS S fs ws.dropLast U ++ [Ob.lst [y]]).length + U2.length = (fwS S fs ws.dropLast (U ++ [Ob.lst [y]] ++ U2)).length := by simp [fwS]; omega
      rw [eS, el]
      have hat : (fwS S fs ws.dropLast (U ++ [Ob.lst [y]] ++ U2 ++ [Ob.lst ys]))[(fwS S fs ws.dropLast (U ++ [Ob.lst [y]] ++ U2)).length]? = some (.lst ys) := by
        have : fwS S fs ws.dropLast (U ++ [Ob.lst [y]] ++ U2 ++ [Ob.lst ys]) = fwS S fs ws.dropLast (U ++ [Ob.lst [y]] ++ U2) ++ [Ob.lst ys] := by simp [fwS]
        rw [this, List.getElem?_append_right (Nat.le_refl _), Nat.sub_self]
        rfl
      refine ⟨by simp only [seqD, hat, Option.isSome_some], ?_⟩
      have hyE : ∀ z ∈ ys, (y, D.non, z) ∈ E := fun z hz => by
        obtain ⟨x, h1, h2⟩ := (hys z).mp hz
        rw [List.mem_singleton.mp h1] at h2
        exact h2
      have dl : ws.dropLast.length = ws.length - 1 := List.length_dropLast
      refine (fr_turn (E := E) hat (by simp [fwS]) (fun z hz => ⟨⟨(w.nb _ (hyE z hz)).2.2, hF _ (hyE z hz)⟩, List.mem_map.mpr ⟨_, hyE z hz, rfl⟩⟩) (fun z hz => (hfb z hz).1) nd (xs ++ E.map (·.2.2)) (fun z hz => ?_) (by simp; omega) (by omega)).imp ?_
      · rcases hz with hz | hz
        · obtain ⟨x, h1, h2⟩ := hre z hz
          cases h2 with
          | refl => exact List.mem_append_left _ h1
          | step _ h3 => exact List.mem_append_right _ (List.mem_map.mpr ⟨_, h3, rfl⟩)
        · exact List.mem_append_right _ (List.mem_map.mpr ⟨_, hyE z hz, rfl⟩)
      · rintro ⟨fl, env, S3⟩ ⟨rfl, fs', new, o4', he, nd', m1, m2, m3, m4⟩
        cases he
        have hwd : ∀ z ∈ ws, z ∈ ws.dropLast ∨ z = y := fun z hz => by
          have e : ws = ws.dropLast ++ [y] := by
            have := List.dropLast_concat_getLast (l := ws) (by intro q; rw [q] at hwl; simp at hwl)
            have hl : ws.getLast (by intro q; rw [q] at hwl; simp at hwl) = y := by
              rw [List.getLast_eq_getElem]
              rw [List.getElem?_eq_getElem (by omega)] at hy
              exact Option.some.inj hy
            rw [hl] at this
            exact this.symm
          rw [e] at hz
          simpa using hz
        refine ⟨_, ?_, fs', ws.dropLast ++ new, _, o4', o5, rfl, rfl, nd', fun z hz => (m1 z).mpr (.inl (hxs z hz)), fun z hz => ?_, fun z hz => ?_, fun z hz hn z2 h2 => ?_, rfl, ?_⟩
        · rw [List.length_append]
          omega
        · rcases (m1 z).mp hz with h | h
          · exact hre z h
          · obtain ⟨x, h1, h2⟩ := hre y (hws y hym)
            exact ⟨x, h1, .step h2 (hyE z h)⟩
        · rcases List.mem_append.mp hz with h | h
          · exact (m1 z).mpr (.inl (hws z ((List.dropLast_sublist ws).subset h)))
          · exact (m1 z).mpr (.inr (m3 z h))
        · rw [List.mem_append, not_or] at hn
          by_cases hzy : z = y
          · subst hzy
            exact (m1 z2).mpr (.inr ((hys z2).mpr ⟨z, by simp, h2⟩))
          · have hzf : z ∈ fs := (m2 z hz).elim id fun h => absurd h hn.2
            have hzw : z ∉ ws := fun h => (hwd z h).elim hn.1 hzy
            exact (m1 z2).mpr (.inl (hcl2 z hzf hzw z2 h2))
        · rw [List.length_append]
          omega
  · have : nf E fs0 ≤ 300 := by
      unfold nf
      refine Nat.le_trans (List.length_filter_le _ _) ?_
      rw [List.length_map]
      exact hE
    omega
theorem seq_app {S U : Sto} {d : D} {xs : List D} (hd : seqD S d = some xs) : seqD (S ++ U) d = some xs := by
  cases d with
  | tup es => simpa [seqD] using hd
  | scr ns => simpa [seqD] using hd
  | loc m =>
    simp only [seqD] at hd ⊢
    cases q : S[m]? with
    | none => rw [q] at hd; cases hd
    | some o => rw [get_app q]; rw [q] at hd; exact hd
  | _ => cases hd
theorem list_seq {S : Sto} {d : D} {xs : List D} (hd : seqD S d = some xs) : listQ [d] S = some (.loc S.length, S ++ [.lst xs]) := by
  have h1 : dctD S d = none := by
    cases d with
    | loc m =>
      simp only [seqD] at hd
      simp only [dctD]
      split at hd
      · rename_i q
        rw [q]
      · cases hd
    | _ => rfl
  simp [listQ, h1, listP, hd]
theorem freely_ok {c n gA : Nat} {cl : Nat → FM} {S : Sto} {E : List Ed} {F : Nat → Prop} (w : WAt c S n E F) (hF : ∀ p ∈ E, p.2.2.depth ≤ 6) (hE : E.length ≤ 300) (hcl : cl gA = runB 6 (afterB c)) {d : D} {xs : List D} (hd : seqD S d = some xs) (hx : ∀ x ∈ xs, x.nb = true ∧ x.depth ≤ 6) (hlen : xs.length ≤ 300) :
    Ow (runB 6 (freelyB c gA cl) [.loc n, d] S) fun x => ∃ ys U, x.1 = .loc (S.length + U.length) ∧ x.2 = S ++ (U ++ [.lst ys]) ∧ ys.Nodup ∧ ∀ y, y ∈ ys ↔ ∃ x ∈ xs, Fr E x y := by
  rw [ow_runB]
  unfold freelyB
  rw [ow_seq]
  simp [-ow_seq, ow_dc, hd]
  refine (dcL_inv xs (fun j acc S1 => S1 = S ∧ ∃ fs, acc = mkSet fs ∧ fs.Nodup ∧ ∀ y, y ∈ fs ↔ y ∈ xs.take j) (fun j acc S1 ⟨e, _⟩ => by rw [e]; simp [itAt, hd]) (fun j x acc S1 hj ⟨e, fs, ea, nd, hm⟩ => ?_) xs.length 0 [] S (by simp) (by simp) ⟨rfl, [], rfl, List.nodup_nil, by simp⟩).imp ?_
  · subst e ea
    have hxx := hx x (List.mem_of_getElem? hj)
    have hfs : ∀ y ∈ fs, y.nb = true := fun y hy => (hx y (List.mem_of_mem_take ((hm y).mp hy))).1
    have hl : fs.length ≤ 300 := Nat.le_trans (len_sub nd fun y hy => List.mem_of_mem_take ((hm y).mp hy)) hlen
    refine ⟨_, rfl, ?_⟩
    simp [bYes, wipeD]
    refine ⟨⟨by simp [okKey, nb_pure x hxx.1]; omega, by rw [mkSet, List.length_map]; exact fits_lt (by omega)⟩, ins fs x, put_set hfs hxx.1, nodup_ins nd, fun y => ?_⟩
    rw [mem_ins, hm, List.take_add_one, hj]
    simp
  · rintro ⟨acc, S1⟩ ⟨rfl, fs0, rfl, nd0, h0⟩
    simp only [List.take_length] at h0
    rw [ow_seq]
    simp [-ow_seq, list_seq (seq_app (U := [.dct (mkSet fs0)]) hd)]
    rw [ow_seq]
    refine (fr_while w hF hE hcl hx hlen h0 nd0).imp ?_
    rintro ⟨fl, env, S2⟩ ⟨rfl, fs, U, o4, o5, he, nd, hm⟩
    cases he
    simp [listQ, dctD, fw_dct, keys_set]
    exact ⟨fs, .dct (mkSet fs) :: .lst [] :: U, by simp [fwS], by simp [fwS], nd, hm⟩
end DL
namespace DL
open PySem
inductive Al (E : List Ed) : List D → D → D → Prop where
  | nil {x : D} : Al E [] x x
  | cons {s : D} {w : List D} {x y z u : D} : Fr E x y → (y, s, z) ∈ E → Al E w z u → Al E (s :: w) x u
end DL
namespace DL
open PySem
def Gr (S S' : Sto) : Prop := ∃ U, S' = S ++ U
theorem Gr.refl {S : Sto} : Gr S S := ⟨[], by simp⟩
theorem Gr.trans {S S' S'' : Sto} (h : Gr S S') (k : Gr S' S'') : Gr S S'' := by
  obtain ⟨U, rfl⟩ := h
  obtain ⟨V, rfl⟩ := k
  exact ⟨U ++ V, by simp⟩
theorem Gr.app {S U : Sto} : Gr S (S ++ U) := ⟨U, rfl⟩
theorem Gr.get {S S' : Sto} (h : Gr S S') {j : Nat} {o : Ob} (k : S[j]? = some o) : S'[j]? = some o := by
  obtain ⟨U, rfl⟩ := h
  exact get_app k
theorem Gr.seq {S S' : Sto} (h : Gr S S') {d : D} {xs : List D} (k : seqD S d = some xs) : seqD S' d = some xs := by
  obtain ⟨U, rfl⟩ := h
  exact seq_app k
theorem Gr.len {S S' : Sto} (h : Gr S S') : S.length ≤ S'.length := by
  obtain ⟨U, rfl⟩ := h
  simp
theorem WAt.gr {c n : Nat} {S S' : Sto} {E : List Ed} {F : Nat → Prop} (w : WAt c S n E F) (h : Gr S S') : WAt c S' n E F := by
  obtain ⟨U, rfl⟩ := h
  exact w.app U
theorem seq_last {S : Sto} {ys : List D} : seqD (S ++ [.lst ys]) (.loc S.length) = some ys := by
  simp [seqD]
theorem seq_tup {S : Sto} {ys : List D} : seqD S (.tup ys) = some ys := rfl
theorem fr_good {E : List Ed} {P : D → Prop} (hE : ∀ p ∈ E, P p.2.2) {x y : D} (h : Fr E x y) (hx : P x) : P y := by
  cases h with
  | refl => exact hx
  | step _ h2 => exact hE _ h2
theorem WAt.len {c n : Nat} {S : Sto} {E : List Ed} {F : Nat → Prop} (w : WAt c S n E F) : E.length ≤ 1000 := by
  obtain ⟨_, _, e, t, kvs, _, _, _, _, _, _, _, _, h, _⟩ := w
  exact h
end DL
namespace DL
open PySem
inductive Th : Nat → D → Prop where
  | non {n : Nat} : Th n .non
  | int {n : Nat} {i : Int} : Th n (.int i)
  | str {n : Nat} {x : Str} : (PyData.str x).canLay0 = true → Th n (.str x)
  | tup {n : Nat} {ds : List D} : ds.length ≤ 900 → (∀ d ∈ ds, Th n d) → Th (n + 1) (.tup ds)
theorem Th.up {n : Nat} {d : D} (h : Th n d) : Th (n + 1) d := by
  induction h with
  | non => exact .non
  | int => exact .int
  | str h => exact .str h
  | tup h _ ih => exact .tup h ih
theorem Th.mono {n m : Nat} {d : D} (h : Th n d) (hm : n ≤ m) : Th m d := by
  obtain ⟨k, rfl⟩ : ∃ k, m = n + k := ⟨m - n, by omega⟩
  clear hm
  induction k with
  | zero => exact h
  | succ k ih => exact ih.up
theorem Th.pure {n : Nat} {d : D} (h : Th n d) : d.pure = true ∧ d.py.canLay0 = true ∧ d.py.depth ≤ n := by
  induction h with
  | non => simp [D.pure, D.py, PyData.canLay0, PyData.depth]
  | int => simp [D.pure, D.py, PyData.canLay0, PyData.depth]
  | str hx => exact ⟨by simp [D.pure], by simpa [D.py] using hx, by simp [D.py, PyData.depth]⟩
  | @tup n ds hl hd ih =>
    have go : ∀ l : List D, (∀ d ∈ l, d ∈ ds) → D.pures l = true ∧ PyData.canLayAll0 (D.pys l) = true ∧ PyData.depthAll (D.pys l) ≤ n := by
      intro l
      induction l with
      | nil => intro _; simp [D.pures, D.pys, PyData.canLayAll0, PyData.depthAll]
      | cons a l ih2 =>
        intro hm
        obtain ⟨i1, i2, i3⟩ := ih a (hm a List.mem_cons_self)
        obtain ⟨j1, j2, j3⟩ := ih2 fun d hd => hm d (List.mem_cons_of_mem _ hd)
        simp only [D.pures, D.pys, PyData.canLayAll0, PyData.depthAll, i1, i2, j1, j2, Bool.and_self, true_and]
        omega
    obtain ⟨g1, g2, g3⟩ := go ds fun _ h => h
    simp only [D.pure, D.py, PyData.canLay0, PyData.depth, g1, g2, true_and]
    omega
theorem Th.shaped {n : Nat} {d : D} (h : Th n d) (hn : n ≤ 64) : SeqAt.shaped d.py = true := by
  obtain ⟨_, h2, h3⟩ := h.pure
  simp [SeqAt.shaped, h2]
  omega
theorem Th.nb {n : Nat} {d : D} (h : Th n d) : d.nb = true := by
  induction h with
  | non => rfl
  | int => rfl
  | str _ => rfl
  | tup _ _ ih => simp only [D.nb]; exact nbs_all.mpr ih
theorem Th.depth {n : Nat} {d : D} (h : Th n d) : d.depth ≤ n := by
  induction h with
  | non => simp [D.depth]
  | int => simp [D.depth]
  | str _ => simp [D.depth]
  | @tup n ds hl hd ih =>
    have go : ∀ l : List D, (∀ d ∈ l, d ∈ ds) → D.depths l ≤ n := by
      intro l
      induction l with
      | nil => intro _; simp [D.depths]
      | cons a l ih2 =>
        intro hm
        simp only [D.depths]
        have := ih a (hm a List.mem_cons_self)
        have := ih2 fun d hd => hm d (List.mem_cons_of_mem _ hd)
        omega
    simp only [D.depth]
    have := go ds fun _ h => h
    omega
theorem Th.key {n : Nat} {d : D} (h : Th n d) (hn : n ≤ 8) : okKey d = true := by
  have := h.depth
  simp [okKey, h.pure.1]
  omega
theorem Th.eqv {n m : Nat} {a b : D} (ha : Th n a) (hb : Th m b) : PyData.eqv a.py b.py = decide (a = b) := by
  have := nb_eqv a b ha.nb hb.nb
  by_cases e : a = b
  · simp [e, this.mpr e]
    exact (nb_eqv b b hb.nb hb.nb).mpr rfl
  · have : ¬ PyData.eqv a.py b.py = true := fun z => e (this.mp z)
    simp [e, this]
theorem ne_th {n m : Nat} {a b : D} {S : Sto} (ha : Th n a) (hb : Th m b) (hn : n ≤ 64) (hm : m ≤ 64) : neP a b S = some (.bl (!decide (a = b)), S) := by
  simp [neP, pyOf, ha.pure.1, hb.pure.1, ha.shaped hn, hb.shaped hm, ha.eqv hb]
theorem eq_th {n m : Nat} {a b : D} {S : Sto} (ha : Th n a) (hb : Th m b) (hn : n ≤ 64) (hm : m ≤ 64) : eqP a b S = some (.bl (decide (a = b)), S) := by
  simp [eqP, pyOf, ha.pure.1, hb.pure.1, ha.shaped hn, hb.shaped hm, ha.eqv hb]
theorem ths_pure {n : Nat} : ∀ {l : List D}, (∀ d ∈ l, Th n d) → D.pures l = true ∧ PyData.canLayAll0 (D.pys l) = true ∧ PyData.depthAll (D.pys l) ≤ n
  | [], _ => by simp [D.pures, D.pys, PyData.canLayAll0, PyData.depthAll]
  | a :: l, hm => by
    obtain ⟨i1, i2, i3⟩ := (hm a List.mem_cons_self).pure
    obtain ⟨j1, j2, j3⟩ := ths_pure fun d hd => hm d (List.mem_cons_of_mem _ hd)
    simp only [D.pures, D.pys, PyData.canLayAll0, PyData.depthAll, i1, i2, j1, j2, Bool.and_self, true_and]
    omega
theorem any_eqv {n m : Nat} {a : D} (ha : Th n a) : ∀ {l : List D}, (∀ d ∈ l, Th m d) → (l.any fun z => PyData.eqv z.py a.py) = decide (a ∈ l)
  | [], _ => by simp
  | b :: l, h => by
    rw [List.any_cons, (h b List.mem_cons_self).eqv ha, any_eqv ha fun d hd => h d (List.mem_cons_of_mem _ hd)]
    by_cases e : b = a
    · simp [e]
    · simp [e, show a ≠ b from fun z => e z.symm]
theorem in_ths {n m : Nat} {a d : D} {l : List D} {S : Sto} (ha : Th n a) (hl : seqD S d = some l) (h : ∀ d ∈ l, Th m d) (hn : n ≤ 60) (hm : m ≤ 60) : inQ a d S = some (.bl (decide (a ∈ l)), S) := by
  obtain ⟨h1, h2, h3⟩ := ths_pure h
  have e1 : dctD S d = none := by
    cases d with
    | loc m =>
      simp only [seqD] at hl
      simp only [dctD]
      split at hl
      · rename_i q
        rw [q]
      · cases hl
    | _ => rfl
  have e1' : lckD S d = none := by
    cases d with
    | loc m =>
      simp only [seqD] at hl
      simp only [lckD]
      split at hl
      · rename_i q
        rw [q]
      · cases hl
    | _ => rfl
  have sh : SeqAt.shaped (.list (D.pys l)) = true := by
    simp [SeqAt.shaped, PyData.canLay0, PyData.depth, h2]
    omega
  have e2 : inP a d S = some (.bl (decide (a ∈ l)), S) := by
    simp [inP, hl, ha.pure.1, h1, ha.shaped (show n ≤ 64 by omega), sh, any_eqv ha h]
  simp only [inQ, e1, e1']
  split
  · cases hl
  · exact e2
theorem notIn_ths {n m : Nat} {a d : D} {l : List D} {S : Sto} (ha : Th n a) (hl : seqD S d = some l) (h : ∀ d ∈ l, Th m d) (hn : n ≤ 60) (hm : m ≤ 60) : notInQ a d S = some (.bl (!decide (a ∈ l)), S) := by
  obtain ⟨h1, h2, h3⟩ := ths_pure h
  have e1 : dctD S d = none := by
    cases d with
    | loc m =>
      simp only [seqD] at hl
      simp only [dctD]
      split at hl
      · rename_i q
        rw [q]
      · cases hl
    | _ => rfl
  have e1' : lckD S d = none := by
    cases d with
    | loc m =>
      simp only [seqD] at hl
      simp only [lckD]
      split at hl
      · rename_i q
        rw [q]
      · cases hl
    | _ => rfl
  have sh : SeqAt.shaped (.list (D.pys l)) = true := by
    simp [SeqAt.shaped, PyData.canLay0, PyData.depth, h2]
    omega
  have e2 : notInP a d S = some (.bl (!decide (a ∈ l)), S) := by
    simp [notInP, hl, ha.pure.1, h1, ha.shaped (show n ≤ 64 by omega), sh, any_eqv ha h]
  simp only [notInQ, e1, e1']
  split
  · cases hl
  · exact e2
mutual
def rankD : D → D
  | .non => .tup [.int 0]
  | .tup ds => .tup (.int 3 :: rankDs ds)
  | .str x => .tup [.int 2, .str x]
  | .int i => .tup [.int 1, .int i]
  | .bl b => .tup [.int 1, .bl b]
  | .loc n => .tup [.int 1, .loc n]
  | .scr ns => .tup [.int 1, .scr ns]
  | .fn x => .tup [.int 1, .fn x]
  | .clo i x => .tup [.int 1, .clo i x]
def rankDs : List D → List D
  | [] => []
  | d :: ds => rankD d :: rankDs ds
end
theorem rankDs_map : ∀ ds : List D, rankDs ds = ds.map rankD
  | [] => by simp [rankDs]
  | d :: ds => by simp [rankDs, rankDs_map ds]
theorem rank_shape {n : Nat} {d : D} (h : Th n d) : (rankD d).pure = true ∧ (rankD d).py.canLay0 = true ∧ (rankD d).py.depth ≤ n + 1 := by
  induction h with
  | non => simp [rankD, D.pure, D.pures, D.py, D.pys, PyData.canLay0, PyData.canLayAll0, PyData.depth, PyData.depthAll]
  | int => simp [rankD, D.pure, D.pures, D.py, D.pys, PyData.canLay0, PyData.canLayAll0, PyData.depth, PyData.depthAll]
  | str hx =>
    simp [rankD, D.pure, D.pures, D.py, D.pys, PyData.canLayAll0, PyData.depth, PyData.depthAll, hx]
    simp [PyData.canLay0, PyData.canLayAll0, hx]
    simpa [PyData.canLay0] using hx
  | @tup n ds hl hd ih =>
    have go : ∀ l : List D, (∀ d ∈ l, d ∈ ds) → D.pures (rankDs l) = true ∧ PyData.canLayAll0 (D.pys (rankDs l)) = true ∧ PyData.depthAll (D.pys (rankDs l)) ≤ n + 1 := by
      intro l
      induction l with
      | nil => intro _; simp [rankDs, D.pures, D.pys, PyData.canLayAll0, PyData.depthAll]
      | cons a l ih2 =>
        intro hm
        obtain ⟨i1, i2, i3⟩ := ih a (hm a List.mem_cons_self)
        obtain ⟨j1, j2, j3⟩ := ih2 fun d hd => hm d (List.mem_cons_of_mem _ hd)
        simp only [rankDs, D.pures, D.pys, PyData.canLayAll0, PyData.depthAll, i1, i2, j1, j2, Bool.and_self, true_and]
        omega
    obtain ⟨g1, g2, g3⟩ := go ds fun _ h => h
    simp [rankD, D.pure, D.pures, D.py, D.pys, PyData.canLay0, PyData.canLayAll0, PyData.depth, PyData.depthAll, g1, g2]
    omega
theorem rank_nb {n : Nat} {d : D} (h : Th n d) : (rankD d).nb = true := by
  induction h with
  | non => rfl
  | int => rfl
  | str _ => rfl
  | @tup n ds _ _ ih =>
    simp only [rankD, D.nb, D.nbs, rankDs_map, Bool.true_and]
    exact nbs_all.mpr fun d hd => by
      obtain ⟨x, hx, rfl⟩ := List.mem_map.mp hd
      exact ih x hx
theorem rank_inj {n : Nat} {a : D} (ha : Th n a) : ∀ {m : Nat} {b : D}, Th m b → rankD a = rankD b → a = b := by
  induction ha with
  | non => intro m b hb; cases hb <;> simp [rankD]
  | int => intro m b hb; cases hb <;> simp [rankD]
  | str hx => intro m b hb; cases hb <;> simp [rankD]
  | @tup n ds hl hd ih =>
    intro m b hb
    cases hb with
    | @tup m es hl2 he =>
      have go : ∀ xs ys : List D, (∀ d ∈ xs, d ∈ ds) → (∀ d ∈ ys, d ∈ es) → rankDs xs = rankDs ys → xs = ys := by
        intro xs
        induction xs with
        | nil => intro ys _ _; cases ys <;> simp [rankDs]
        | cons x xs ih2 =>
          intro ys hx hy
          cases ys with
          | nil => simp [rankDs]
          | cons y ys =>
            simp only [rankDs, List.cons.injEq]
            rintro ⟨e1, e2⟩
            exact ⟨ih x (hx x List.mem_cons_self) (he y (hy y List.mem_cons_self)) e1, ih2 ys (fun d hd => hx d (List.mem_cons_of_mem _ hd)) (fun d hd => hy d (List.mem_cons_of_mem _ hd)) e2⟩
      simp only [rankD, D.tup.injEq, List.cons.injEq, true_and]
      exact fun e => go ds es (fun _ h => h) (fun _ h => h) e
    | _ => simp [rankD]
theorem rank_tot {n : Nat} {a : D} (ha : Th n a) : ∀ {m : Nat} {b : D}, Th m b → ∃ c c', ltD (rankD a) (rankD b) = some c ∧ ltD (rankD b) (rankD a) = some c' ∧ (c = false → c' = false → a = b) := by
  induction ha with
  | non => intro m b hb; cases hb <;> simp [rankD, ltD, ltDs, D.py, PyData.eqv]
  | @int n i =>
    intro m b hb
    cases hb with
    | @int m j =>
      by_cases e : i = j
      · simp [rankD, ltD, ltDs, D.py, PyData.eqv, e]
      · simp [rankD, ltD, ltDs, D.py, PyData.eqv, e, show j ≠ i from fun z => e z.symm]
        omega
    | _ => simp [rankD, ltD, ltDs, D.py, PyData.eqv]
  | @str n x hx =>
    intro m b hb
    cases hb with
    | @str m y hy =>
      by_cases e : x = y
      · simp [rankD, ltD, ltDs, D.py, PyData.eqv, e]
      · simp [rankD, ltD, ltDs, D.py, PyData.eqv, e, show y ≠ x from fun z => e z.symm]
        intro h1
        by_cases h2 : y.cps < x.cps
        · exact h2
        · exfalso
          have h3 : x.cps = y.cps := Array.le_antisymm h2 h1
          obtain ⟨x⟩ := x
          obtain ⟨y⟩ := y
          simp at h3 e
          exact e h3
    | _ => simp [rankD, ltD, ltDs, D.py, PyData.eqv]
  | @tup n ds hl hd ih =>
    intro m b hb
    cases hb with
    | @tup m es hl2 he =>
      have go : ∀ xs ys : List D, (∀ d ∈ xs, d ∈ ds) → (∀ d ∈ ys, d ∈ es) → ∃ c c', ltDs (rankDs xs) (rankDs ys) = some c ∧ ltDs (rankDs ys) (rankDs xs) = some c' ∧ (c = false → c' = false → xs = ys) := by
        intro xs
        induction xs with
        | nil => intro ys _ _; cases ys <;> simp [rankDs, ltDs]
        | cons x xs ih2 =>
          intro ys hx hy
          cases ys with
          | nil => simp [rankDs, ltDs]
          | cons y ys =>
            have tx := hx x List.mem_cons_self
            have ty := hy y List.mem_cons_self
            obtain ⟨c, c', h1, h2, h3⟩ := ih x tx (he y ty)
            obtain ⟨d, d', g1, g2, g3⟩ := ih2 ys (fun d hd => hx d (List.mem_cons_of_mem _ hd)) fun d hd => hy d (List.mem_cons_of_mem _ hd)
            have q1 := nb_eqv _ _ (rank_nb (hd x tx)) (rank_nb (he y ty))
            have q2 := nb_eqv _ _ (rank_nb (he y ty)) (rank_nb (hd x tx))
            simp only [rankDs, ltDs]
            by_cases e : rankD x = rankD y
            · rw [if_pos (q1.mpr e), if_pos (q2.mpr e.symm)]
              have := rank_inj (hd x tx) (he y ty) e
              exact ⟨d, d', g1, g2, fun z z' => by rw [this, g3 z z']⟩
            · rw [if_neg (fun z => e (q1.mp z)), if_neg (fun z => e (q2.mp z).symm)]
              exact ⟨c, c', h1, h2, fun z z' => absurd (by rw [h3 z z']) e⟩
      obtain ⟨c, c', h1, h2, h3⟩ := go ds es (fun _ h => h) fun _ h => h
      simp only [rankD, ltD, ltDs, D.py, PyData.eqv, beq_self_eq_true, if_true]
      exact ⟨c, c', h1, h2, fun z z' => by rw [h3 z z']⟩
    | _ => simp [rankD, ltD, ltDs, D.py, PyData.eqv]
theorem leT_total : ∀ a b : D × D, leT a.1 b.1 || leT b.1 a.1 := fun a b => by
  simp only [leT, tokLt]
  cases h : PyProof.Rows.lexLt PyProof.Rows.itemOrd (PySem.W.keyToks b.1.py) (PySem.W.keyToks a.1.py) with
  | false => rfl
  | true =>
    have := (PyProof.Rows.listOrd PyProof.Rows.itemOrd).trans (PySem.W.keyToks b.1.py) (PySem.W.keyToks a.1.py) (PySem.W.keyToks b.1.py) h
    cases h2 : PyProof.Rows.lexLt PyProof.Rows.itemOrd (PySem.W.keyToks a.1.py) (PySem.W.keyToks b.1.py) with
    | false => rfl
    | true =>
      have z := this h2
      rw [(PyProof.Rows.listOrd PyProof.Rows.itemOrd).irrefl] at z
      cases z
theorem leT_trans : ∀ a b c : D × D, leT a.1 b.1 = true → leT b.1 c.1 = true → leT a.1 c.1 = true := fun a b c h1 h2 => by
  simp only [leT, tokLt, Bool.not_eq_true'] at *
  cases h : PyProof.Rows.lexLt PyProof.Rows.itemOrd (PySem.W.keyToks c.1.py) (PySem.W.keyToks a.1.py) with
  | false => rfl
  | true =>
    rcases (PyProof.Rows.listOrd PyProof.Rows.itemOrd).negTrans (PySem.W.keyToks c.1.py) (PySem.W.keyToks b.1.py) (PySem.W.keyToks a.1.py) h with z | z
    · exact absurd (show PyProof.Rows.lexLt PyProof.Rows.itemOrd (PySem.W.keyToks c.1.py) (PySem.W.keyToks b.1.py) = true from z) (by rw [h2]; simp)
    · exact absurd (show PyProof.Rows.lexLt PyProof.Rows.itemOrd (PySem.W.keyToks b.1.py) (PySem.W.keyToks a.1.py) = true from z) (by rw [h1]; simp)
theorem sortD_ok {f : D → D} {xs : List D} : (sortD (xs.map f) xs).Perm xs ∧ (sortD (xs.map f) xs).Pairwise fun a b => tokLt (f b) (f a) = false := by
  have e0 : ∀ l : List D, (l.map f).zip l = l.map fun x => (f x, x) := fun l => by
    induction l with
    | nil => rfl
    | cons a l ih => simp [ih]
  have e := e0 xs
  have p := List.mergeSort_perm ((xs.map f).zip xs) fun p q => leT p.1 q.1
  have s := List.pairwise_mergeSort (le := fun p q : D × D => leT p.1 q.1) leT_trans leT_total ((xs.map f).zip xs)
  refine ⟨?_, ?_⟩
  · unfold sortD
    refine (p.map (·.2)).trans ?_
    rw [e, List.map_map, show ((fun x : D × D => x.2) ∘ fun x => (f x, x)) = id from rfl, List.map_id]
  · unfold sortD
    rw [List.pairwise_map]
    refine List.Pairwise.imp_of_mem (fun {a b} ha hb h => ?_) s
    have m1 : ∀ p ∈ ((xs.map f).zip xs).mergeSort (fun p q => leT p.1 q.1), p.1 = f p.2 := fun q hq => by
      have := p.mem_iff.mp hq
      rw [e] at this
      obtain ⟨x, _, rfl⟩ := List.mem_map.mp this
      rfl
    rw [← m1 a ha, ← m1 b hb]
    simpa [leT] using h
def ordD (xs : List D) : List D := sortD (xs.map rankD) xs
theorem ord_perm {xs : List D} : (ordD xs).Perm xs := sortD_ok.1
theorem ord_sorted {xs : List D} : (ordD xs).Pairwise fun a b => tokLt (rankD b) (rankD a) = false := sortD_ok.2
theorem ord_anti {n m : Nat} {a b : D} (ha : Th n a) (hb : Th m b) (h1 : tokLt (rankD b) (rankD a) = false) (h2 : tokLt (rankD a) (rankD b) = false) : a = b := by
  obtain ⟨c, c', e1, e2, e3⟩ := rank_tot ha hb
  rw [tokLt_of e2] at h1
  rw [tokLt_of e1] at h2
  exact e3 h2 h1
theorem ord_eq {n : Nat} {xs ys : List D} (hx : ∀ d ∈ xs, Th n d) (h : xs.Perm ys) : ordD xs = ordD ys :=
  List.Perm.eq_of_pairwise (le := fun a b => tokLt (rankD b) (rankD a) = false) (fun a b ha hb h1 h2 => ord_anti (hx a (ord_perm.mem_iff.mp ha)) (hx b (h.mem_iff.mpr (ord_perm.mem_iff.mp hb))) h1 h2) ord_sorted ord_sorted ((ord_perm.trans h).trans ord_perm.symm)
theorem ord_set {n : Nat} {xs ys : List D} (hx : ∀ d ∈ xs, Th n d) (n1 : xs.Nodup) (n2 : ys.Nodup) (h : ∀ d, d ∈ xs ↔ d ∈ ys) : ordD xs = ordD ys :=
  ord_eq hx ((List.perm_ext_iff_of_nodup n1 n2).mpr h)
theorem kTy_rank {n : Nat} {d : D} (h : Th n d) : kTy (rankD d) = some 2 := by
  cases h <;> simp [rankD, kTy]
theorem sortOk_rank {n : Nat} {xs : List D} (hn : n ≤ 60) (h : ∀ d ∈ xs, Th n d) : sortOk (xs.map rankD) = true := by
  unfold sortOk
  simp only [List.all_map, List.all_eq_true, Function.comp, Bool.and_eq_true, decide_eq_true_eq]
  intro x hx
  have hx := h x hx
  obtain ⟨a1, a2, a3⟩ := rank_shape hx
  refine ⟨⟨⟨a1, ?_⟩, by rw [kTy_rank hx]; rfl⟩, fun y hy => ?_⟩
  · simp [SeqAt.shaped, a2]
    omega
  · have hy := h y hy
    obtain ⟨c, _, hc, _⟩ := rank_tot hx hy
    exact ⟨by rw [hc]; rfl, by rw [kTy_rank hx, kTy_rank hy]⟩
def RankOk (m : FM) (n : Nat) : Prop := ∀ d S, Th n d → Ow (m [d] S) fun x => x.1 = rankD d ∧ Gr S x.2
theorem keys_ok {m : FM} {n : Nat} (hm : RankOk m n) : ∀ (xs : List D) (S : Sto), (∀ d ∈ xs, Th n d) → ∃ S', keysD m xs S = some (xs.map rankD, S') ∧ Gr S S'
  | [], S, _ => ⟨S, by simp [keysD], .refl⟩
  | x :: xs, S, h => by
    obtain ⟨⟨y, S1⟩, e1, h1, h2⟩ := hm x S (h x List.mem_cons_self)
    simp only at h1 h2
    subst h1
    obtain ⟨S2, e2, h3⟩ := keys_ok hm xs S1 fun d hd => h d (List.mem_cons_of_mem _ hd)
    exact ⟨S2, by simp [keysD, e1, e2], h2.trans h3⟩
theorem sort_ok {m : FM} {n l : Nat} {xs : List D} {S : Sto} (hm : RankOk m n) (hn : n ≤ 60) (hl : S[l]? = some (.lst xs)) (h : ∀ d ∈ xs, Th n d) : Ow (sortKP m (.loc l) S) fun x => ∃ r, x.1 = .loc r ∧ Gr S x.2 ∧ x.2[r]? = some (.lst (ordD xs)) ∧ S.length ≤ r := by
  obtain ⟨S', e, g⟩ := keys_ok hm xs S h
  simp only [sortKP, isLst, seqD, hl, e, sortOk_rank hn h, if_true, ow_some]
  exact ⟨S'.length, rfl, g.trans .app, by simp [ordD], g.len⟩
end DL
set_option maxHeartbeats 2000000
namespace DL
open PySem PySem.Spec L2
open PyProof.Rows hiding St
open PySem.W (keyToks EachIs dataLe alike AllAlike)
noncomputable section
section
variable {X : Cx}
end
section
variable {X : Cx} {ca : CAx} {e : Expr} {ma : EM} {p p2 pos pos2 : Pos}
end
end
end DL
namespace DL
open PySem PySem.Spec L2
open PyProof.Rows hiding St
section
variable {G : Ctx}
def max3P : List D → Sto → Option (D × Sto)
  | [.int i, .int j, .int l], S => some (.int (max (max i j) l), S)
  | _, _ => none
@[simp] theorem max3_iii {i j l : Int} {S : Sto} : max3P [.int i, .int j, .int l] S = some (.int (max (max i j) l), S) := rfl
end
section
variable {X : Cx} {ca : CAx}
variable {elt tg iter : Expr} {ifs : List Expr} {scope : Scope} {own : List (Str × Nat)} {mi : EM} {t : Tgt} {tt : BM} {te : EM} {pos : Pos}
end
end DL
set_option maxHeartbeats 2000000
namespace DL
open PySem PySem.Spec L2 PySem.Calls
open PyProof.Rows hiding St
def ltQ (a b : D) : Option Bool := if a.pure = true ∧ b.pure = true ∧ SeqAt.shaped a.py = true ∧ SeqAt.shaped b.py = true then ltD a b else none
section
variable {X : Cx} {ca : CAx} {pins : List (Addr × Obj)} {σ : L2.St} {A : Around} {r : List Addr} {H : Hp} {s : Shared} {S : Sto}
end
section
variable {X : Cx} {ca : CAx} {A : Around} {E : Value → Shared → Prop} {s : Shared} {P : Program} {w : World}
end
end DL
namespace DL
open PySem PySem.Spec L2
open PyProof.Rows hiding St
section
variable {X : Cx} {ca : CAx} {e o value : Expr} {es : List Expr} {la : LM} {mo mv : EM} {x f : Str} {p pos tpos : Pos} {k n i : Nat} {a : Nat → Addr} {fd : Nat → FuncData} {ps : Nat → List Str} {cl : Nat → FM} {cs : List (Str × Nat)}
end
section
variable {env : Vars} {S : Sto} {Q : D × Sto → Prop} {T : Fl × Vars × Sto → Prop} {a b : EM} {l : LM}
def valOf (cs : List (Str × Nat)) : Option (Option D) → Option Nat
  | some (some (.fn x)) => cs.lookup x
  | _ => none
@[simp] theorem valOf_fn {cs : List (Str × Nat)} {x : Str} : valOf cs (some (some (.fn x))) = cs.lookup x := rfl
end
end DL
namespace DL
open PySem
noncomputable def rankB (f : FM) : SM := (sSeq (sIf (bV (mIsN (mVar 0))) (sRet (mL tupP (lCons (mC (.int 0)) lNil))) sNext) (sSeq (sIf (bTru (m1 (isiP "tuple") (mVar 0))) (sRet (mL tupP (lCons (mC (.int 3)) (lStar (mLc (iSeq (mVar 0)) [1] (.nm 1) bYes (mL f (lCons (mVar 1) lNil))) lNil)))) sNext) (sSeq (sIf (bTru (m1 (isiP "str") (mVar 0))) (sRet (mL tupP (lCons (mC (.int 2)) (lCons (mVar 0) lNil)))) sNext) (sRet (mL tupP (lCons (mC (.int 1)) (lCons (mVar 0) lNil)))))))
theorem parts_ok {f : FM} {n : Nat} (hf : RankOk f n) {ds : List D} (hl : ds.length ≤ 900) (hd : ∀ d ∈ ds, Th n d) {o1 : Option D} (S : Sto) : Ow (lcL (.seq (.tup ds)) [1] (.nm 1) bYes (mL f (lCons (mVar 1) lNil)) [some (.tup ds), o1] 0 [] S) fun x => x.1 = ds.map rankD ∧ Gr S x.2 := by
  refine (lcL_inv ds (fun j acc S1 => acc = (ds.take j).map rankD ∧ Gr S S1) (fun j acc S _ => by simp [itAt, seqD]) (fun j d acc S1 hj hI => ?_) ds.length 0 [] S (by simp) (by simp) ⟨by simp, .refl⟩).imp ?_
  · obtain ⟨rfl, g⟩ := hI
    have hjl : j < ds.length := (List.getElem?_eq_some_iff.mp hj).1
    refine ⟨_, rfl, ?_⟩
    simp [bYes, wipeD]
    refine (hf d _ (hd d (List.mem_of_getElem? hj))).imp ?_
    rintro ⟨y, S2⟩ ⟨rfl, g2⟩
    refine ⟨fits_lt (by omega), ?_, g.trans g2⟩
    simp [List.take_add_one, hj]
  · rintro ⟨ks, S1⟩ ⟨h1, g⟩
    simp only [List.take_length] at h1 g
    exact ⟨h1, g⟩
theorem rankB_ok {r : Nat → FM} (hr : ∀ k, r (k + 1) = runB 2 (rankB (r k))) : ∀ n k, n < k → RankOk (r k) n := by
  intro n
  induction n with
  | zero =>
    intro k hk d S hd
    obtain ⟨j, rfl⟩ : ∃ j, k = j + 1 := ⟨k - 1, by omega⟩
    rw [hr, ow_runB]
    unfold rankB
    cases hd <;> simp [tup_ok, rankD, Gr.refl]
  | succ n ih =>
    intro k hk d S hd
    obtain ⟨j, rfl⟩ : ∃ j, k = j + 1 := ⟨k - 1, by omega⟩
    rw [hr, ow_runB]
    unfold rankB
    cases hd with
    | tup hl hd =>
      simp [ow_lc, seqD]
      refine (parts_ok (ih j (by omega)) hl hd S).imp ?_
      rintro ⟨ks, S1⟩ ⟨rfl, g⟩
      simp [seqD]
      rw [tup_ok (by simp; omega)]
      simp [rankD, rankDs_map, g.trans Gr.app]
    | _ => simp [tup_ok, rankD, Gr.refl]
end DL
namespace DL
open PySem
theorem fitsM {n : Nat} (h : n ≤ 1000000) : n ≤ sizeLine := Nat.le_trans h (by decide)
theorem fitsM_lt {n : Nat} (h : n ≤ 1000000) : n < sizeLine := Nat.lt_of_le_of_lt h (by decide)
theorem Gr.set {S S1 : Sto} {l : Nat} {o : Ob} (g : Gr S S1) (h : S.length ≤ l) : Gr S (S1.set l o) := by
  obtain ⟨U, rfl⟩ := g
  exact ⟨U.set (l - S.length) o, by rw [List.set_append_right _ _ h]⟩
theorem Gr.snoc {S S1 : Sto} {o : Ob} (g : Gr S S1) : Gr S (S1 ++ [o]) := g.trans .app
theorem get_snoc {S : Sto} {o : Ob} : (S ++ [o])[S.length]? = some o := by simp
section
variable {S : Sto} {a b c : D} {l : List D}
@[simp] theorem ix_0 : ixQ (.tup (a :: l)) (.int 0) S = some (a, S) := ix_tup (by omega) rfl
@[simp] theorem ix_1' : ixQ (.tup (a :: b :: l)) (.int 1) S = some (b, S) := ix_tup (by omega) rfl
@[simp] theorem ix_2 : ixQ (.tup (a :: b :: c :: l)) (.int 2) S = some (c, S) := ix_tup (by omega) rfl
end
theorem len_lst {n : Nat} {ds : List D} {S : Sto} (h : S[n]? = some (.lst ds)) : lenQ [.loc n] S = some (.int ds.length, S) := by simp [lenQ, dctD, h, lenP, seqD]
@[simp] theorem len_tupQ {ds : List D} {S : Sto} : lenQ [.tup ds] S = some (.int ds.length, S) := rfl
theorem app_lst {n : Nat} {ds : List D} {y : D} {S : Sto} (h : S[n]? = some (.lst ds)) (hz : ds.length ≤ 1000000) : appP (.loc n) [y] S = some (.non, S.set n (.lst (ds ++ [y]))) := by
  simp only [appP, h]
  rw [if_pos (fitsM_lt hz)]
theorem ext_lst {n m : Nat} {ds es : List D} {S : Sto} (h : S[n]? = some (.lst ds)) (h2 : S[m]? = some (.lst es)) (hz : ds.length + es.length ≤ 1000000) : extP (.loc n) [.loc m] S = some (.non, S.set n (.lst (ds ++ es))) := by
  simp only [extP, h, h2]
  rw [if_pos (fitsM hz)]
theorem ty_lst {n : Nat} {ds : List D} {S : Sto} (h : S[n]? = some (.lst ds)) : tyD "list" S (.loc n) = true := by simp only [tyD, seqD, h, Option.isSome_some]
theorem get_set {S : Sto} {n : Nat} {o o' : Ob} (h : S[n]? = some o) : (S.set n o')[n]? = some o' := List.getElem?_set_self (List.getElem?_eq_some_iff.mp h).1
theorem get_set_ne {S : Sto} {n m : Nat} {o' : Ob} (h : n ≠ m) : (S.set n o')[m]? = S[m]? := List.getElem?_set_ne h
theorem seq_loc {S : Sto} {n : Nat} {ds : List D} (h : S[n]? = some (.lst ds)) : seqD S (.loc n) = some ds := by simp [seqD, h]
theorem lcG {d : D} {vs : List Nat} {t : Tgt} {tt : BM} {te : EM} {env : Vars} {S : Sto} {its : List D} (hd : seqD S d = some its) (hl : its.length ≤ 1000000) (p : D → Bool) (f : D → D)
    (step : ∀ x ∈ its, ∃ env1, t.put (wipeD env vs) x = some env1 ∧ ∀ S1, Gr S S1 → Ow (tt env1 S1) fun b => b.1 = p x ∧ Gr S1 b.2 ∧ (p x = true → Ow (te env1 b.2) fun y => y.1 = f x ∧ Gr b.2 y.2)) :
    Ow (lcL (.seq d) vs t tt te env 0 [] S) fun r => r.1 = (its.filter p).map f ∧ Gr S r.2 := by
  refine (lcL_inv its (fun j acc S1 => acc = ((its.take j).filter p).map f ∧ Gr S S1) (fun j acc S1 ⟨_, g⟩ => by simp [itAt, g.seq hd]) (fun j x acc S1 hj ⟨ha, g⟩ => ?_) its.length 0 [] S (by simp) (by simp) ⟨by simp, .refl⟩).imp ?_
  · subst ha
    obtain ⟨env1, e1, h⟩ := step x (List.mem_of_getElem? hj)
    refine ⟨env1, e1, (h S1 g).imp ?_⟩
    rintro ⟨b, S2⟩ ⟨rfl, g2, k⟩
    have hlt : ((its.take j).filter p).length ≤ 1000000 := by
      have := List.length_filter_le p (its.take j)
      have : (its.take j).length ≤ its.length := by simp; omega
      omega
    by_cases hp : p x = true
    · simp only [hp, if_true]
      refine (k hp).imp ?_
      rintro ⟨y, S3⟩ ⟨rfl, g3⟩
      refine ⟨by rw [List.length_map]; exact fitsM_lt hlt, ?_, g.trans (g2.trans g3)⟩
      simp [List.take_add_one, hj, hp]
    · simp only [hp]
      refine ⟨?_, g.trans g2⟩
      simp [List.take_add_one, hj, hp]
  · rintro ⟨ys, S1⟩ ⟨h1, g⟩
    simp only [List.take_length] at h1 g
    exact ⟨h1, g⟩
theorem forR_inv {lo : Int} {n : Nat} {g : GM} {b : SM} (I : Nat → Vars → Sto → Prop) (R : Fl × Vars × Sto → Prop)
    (fin : ∀ env S, I n env S → R (.nx, env, S))
    (step : ∀ j env S, j < n → I j env S → Ow (g (.int (lo + j)) env S) fun x => Ow (b x.1 x.2) fun y => match y.1 with
      | .nx => I (j + 1) y.2.1 y.2.2
      | .ct => I (j + 1) y.2.1 y.2.2
      | .bk => R (.nx, y.2)
      | .rt d => R (.rt d, y.2))
    {env : Vars} {S : Sto} (h : I 0 env S) : Ow (forL (.rng lo n) g b 0 env S) R := by
  have hl : ((List.range n).map fun i => D.int (lo + (i : Nat))).length = n := by simp
  refine forL_inv ((List.range n).map fun i => D.int (lo + (i : Nat))) I R (fun j env S _ => ?_) (fun env S h => fin env S (by rw [hl] at h; exact h)) (fun j d env S hj hI => ?_) n 0 env S (by rw [hl]; omega) (by omega) h
  · simp only [itAt, List.getElem?_map]
    by_cases hj : j < n
    · simp [hj, List.getElem?_range hj]
    · simp [hj]
  · have hjn : j < n := by
      have := (List.getElem?_eq_some_iff.mp hj).1
      simpa using this
    have : d = .int (lo + j) := by
      rw [List.getElem?_map, List.getElem?_range hjn] at hj
      simpa using hj.symm
    subst this
    exact step j env S hjn hI
@[simp] theorem bls_nil : blsOf [] = some [] := rfl
theorem bls_map {f : D → Bool} : ∀ {xs : List D}, blsOf (xs.map fun x => .bl (f x)) = some (xs.map f)
  | [] => rfl
  | x :: xs => by simp [blsOf, bls_map (xs := xs)]
theorem any_loc {n : Nat} {f : D → Bool} {xs : List D} {S : Sto} (h : S[n]? = some (.lst (xs.map fun x => .bl (f x)))) : anyP [.loc n] S = some (.bl (xs.any f), S) := by
  simp only [anyP, seqD, h, bls_map, List.any_map]
  rfl
theorem all_loc {n : Nat} {f : D → Bool} {xs : List D} {S : Sto} (h : S[n]? = some (.lst (xs.map fun x => .bl (f x)))) : allP [.loc n] S = some (.bl (xs.all f), S) := by
  simp only [allP, seqD, h, bls_map, List.all_map]
  rfl
def EdT (n : Nat) (E : List Ed) : Prop := ∀ p ∈ E, Th n p.1 ∧ Th n p.2.1 ∧ Th n p.2.2
def e1 : D → D | .tup (a :: _) => a | _ => .non
def e2 : D → D | .tup (_ :: b :: _) => b | _ => .non
def e3 : D → D | .tup (_ :: _ :: c :: _) => c | _ => .non
@[simp] theorem e1_enc {p : Ed} : e1 (enc p) = p.1 := rfl
@[simp] theorem e2_enc {p : Ed} : e2 (enc p) = p.2.1 := rfl
@[simp] theorem e3_enc {p : Ed} : e3 (enc p) = p.2.2 := rfl
end DL
namespace DL
open PySem
def Acc (E : List Ed) (fin : List D) (p : D) (st : List D) : Prop := ∃ u v, Al E st p u ∧ Fr E u v ∧ v ∈ fin
noncomputable instance {E : List Ed} {fin : List D} {p : D} {st : List D} : Decidable (Acc E fin p st) := Classical.propDecidable _
theorem filter_yes {l : List D} : (l.filter fun _ => true) = l := by simp
end DL
namespace DL
open PySem
theorem put_new : ∀ {kvs : List (D × D)} {k w : D}, nbK kvs → k.nb = true → lookD kvs k = none → dput kvs k w = kvs ++ [(k, w)]
  | [], k, w, _, _, _ => by rw [dput_nil]; rfl
  | (x, v) :: r, k, w, h, hk, hl => by
    rw [dput_cons (h _ List.mem_cons_self) hk]
    simp only [lookD] at hl
    by_cases e : x = k
    · simp [e] at hl
    · simp only [e, if_false] at hl ⊢
      rw [put_new (fun p hp => h p (List.mem_cons_of_mem _ hp)) hk hl]
      rfl
theorem tg_snoc {E : List Ed} {p : Ed} {x s : D} : tg (E ++ [p]) x s = tg E x s ++ (if p.1 = x ∧ p.2.1 = s then [p.2.2] else []) := by
  simp only [tg, List.filter_append, List.map_append]
  by_cases h : p.1 = x ∧ p.2.1 = s <;> simp [h]
noncomputable def addB (c : Nat) : SM := (sSeq (sIf (bV (m2 inQ (mVar 1) (mFld [c] "_edges" (mVar 0)))) (sRet (mC (.bl false))) sNext) (sSeq (sAsg (mC (.bl true)) (gSubM (mFld [c] "_edges" (mVar 0)) (mVar 1))) (sSeq (sAsg (mVar 1) (gTupD 3 (gsCons (gVar 2) (gsCons (gVar 3) (gsCons (gVar 4) gsNil))))) (sSeq (sExpr (mM "list" appP (mMG isDct setdefP (mFld [c] "_to" (mVar 0)) (lCons (mL tupP (lCons (mVar 2) (lCons (mVar 3) lNil))) (lCons (mL lstP lNil) lNil))) (lCons (mVar 4) lNil))) (sRet (mC (.bl true)))))))
theorem WAt.F' {c n : Nat} {S : Sto} {E : List Ed} {F F' : Nat → Prop} (w : WAt c S n E F) (h : ∀ j, F j → F' j) : WAt c S n E F' := by
  obtain ⟨nb, nd, e, t, kvs, h1, h2, h3, h4, h5, h6, h7, h8, h9, h9', h10, h11⟩ := w
  refine ⟨nb, nd, e, t, kvs, h1, h2, h3, h4, h _ h5, h _ h6, h _ h7, h8, h9, h9', fun x s hx hs => ?_, h11⟩
  have := h10 x s hx hs
  split
  · rename_i q
    rw [q] at this
    exact this
  · rename_i d q
    rw [q] at this
    obtain ⟨l, r1, r2, r3⟩ := this
    exact ⟨l, r1, h _ r2, r3⟩
def AddTo (S S' : Sto) (F : Nat → Prop) : Prop := S.length ≤ S'.length ∧ ∀ j, j < S.length → ¬ F j → S'[j]? = S[j]?
theorem addP_in {c n : Nat} {S : Sto} {E : List Ed} {F : Nat → Prop} (w : WAt c S n E F) {p : Ed} (hp : p.nb) (hd : p.1.depth ≤ 6 ∧ p.2.1.depth ≤ 6 ∧ p.2.2.depth ≤ 6) (hE : E.length ≤ 900) :
    Ow (runB 5 (addB c) [.loc n, enc p] S) fun x => x.1 = .bl (decide (p ∉ E)) ∧ AddTo S x.2 F ∧ WAt c x.2 n (if p ∈ E then E else E ++ [p]) fun j => F j ∨ (S.length ≤ j ∧ j < x.2.length) := by
  have w0 := w
  obtain ⟨nb, nd, e, t, kvs, h1, h2, h3, h4, h5, h6, h7, h8, h9, h9', h10, h11⟩ := w
  have ok : okKey (enc p) = true := by
    simp only [okKey, nb_pure _ (enc_nb hp), Bool.true_and, decide_eq_true_eq]
    simp only [enc, D.depth, D.depths]
    omega
  have hEn : ∀ x ∈ E.map enc, x.nb = true := fun x hx => by
    obtain ⟨q, hq, rfl⟩ := List.mem_map.mp hx
    exact enc_nb (nb q hq)
  have hmem : (enc p ∈ E.map enc) ↔ p ∈ E := by
    rw [List.mem_map]
    exact ⟨fun ⟨q, hq, e⟩ => enc_inj.mp e ▸ hq, fun h => ⟨p, h, rfl⟩⟩
  have fe := fld_at (cs := [c]) (f := "_edges") (d := .loc e) h1 (by simp) (by rfl)
  have de : dctD S (.loc e) = some (mkSet (E.map enc)) := by simp [dctD, h2]
  have hin : inQ (enc p) (.loc e) S = some (.bl (decide (p ∈ E)), S) := by
    simp only [inQ, de, ok, if_true, has_set hEn (enc_nb hp), hmem]
  rw [ow_runB]
  unfold addB
  rw [ow_seq]
  simp [-ow_seq, fe, hin]
  by_cases hpE : p ∈ E
  · simp [hpE]
    exact ⟨⟨Nat.le_refl _, fun _ _ _ => rfl⟩, w0.F' fun j hj => .inl hj⟩
  · simp [-ow_seq, hpE]
    rw [ow_seq]
    simp [-ow_seq, fe]
    have hset : setP (.loc e) (enc p) (.bl true) S = some (S.set e (.dct (mkSet ((E ++ [p]).map enc)))) := by
      simp only [setP, de, ok, true_and]
      rw [if_pos (by rw [mkSet, List.length_map, List.length_map]; exact fits_lt (by omega)), put_set hEn (enc_nb hp)]
      have : ins (E.map enc) (enc p) = (E ++ [p]).map enc := by
        simp only [ins, hmem, hpE, if_false, List.map_append, List.map_cons, List.map_nil]
      rw [this]
    rw [hset]
    have hne1 : e ≠ n := by
      rintro rfl
      rw [h1] at h2
      cases h2
    have hne2 : t ≠ n := by
      rintro rfl
      rw [h1] at h3
      cases h3
    generalize hS1 : S.set e (.dct (mkSet ((E ++ [p]).map enc))) = S1
    have l1 : S1.length = S.length := by rw [← hS1]; simp
    have le : e < S.length := (List.getElem?_eq_some_iff.mp h2).1
    have g1 : ∀ j, j ≠ e → S1[j]? = S[j]? := fun j hj => by rw [← hS1]; exact get_set_ne (Ne.symm hj)
    have ge : S1[e]? = some (.dct (mkSet ((E ++ [p]).map enc))) := by rw [← hS1]; exact get_set h2
    have f1 : S1[n]? = some (.ins c [("_edges", .loc e), ("_to", .loc t)]) := (g1 n (Ne.symm hne1)).trans h1
    have f3 : S1[t]? = some (.dct kvs) := (g1 t (Ne.symm h8)).trans h3
    simp only [ow_some]
    rw [ow_seq]
    simp [-ow_seq, enc]
    rw [ow_seq]
    have ft := fld_at (cs := [c]) (f := "_to") (d := .loc t) f1 (by simp) (by rfl)
    have k2 := key2 hp.1 hp.2.1 hd.1 hd.2.1
    have kn : (D.tup [p.1, p.2.1]).nb = true := by simp [D.nb, D.nbs, hp.1, hp.2.1]
    have td : dctD (S1 ++ [.lst []]) (.loc t) = some kvs := by simp [dctD, get_app f3]
    have it : isDct (.loc t) S1 = true := by simp [isDct, dctD, f3]
    simp [-ow_seq, ft, it, tup_ok, lst_ok]
    have kl : kvs.length < sizeLine := fits_lt (by omega)
    have hlk := h10 p.1 p.2.1 hp.1 hp.2.1
    simp only [setdefP, td, k2, kl, true_and, if_true, dget_look h4 kn]
    have aF : ∀ {S' : Sto}, S1.length ≤ S'.length → (∀ j, j < S.length → ¬ F j → S'[j]? = S1[j]?) → AddTo S S' F := fun hl h => ⟨by omega, fun j hj hn => by
      rw [h j hj hn]
      exact g1 j (fun z => hn (z ▸ h6))⟩
    have hnb' : ∀ q ∈ E ++ [p], q.nb := fun q hq => (List.mem_append.mp hq).elim (nb q) fun h => by rw [List.mem_singleton.mp h]; exact hp
    have hnd' : (E ++ [p]).Nodup := by
      rw [List.nodup_append]
      exact ⟨nd, by simp, fun a ha b hb => by simp at hb; subst hb; exact fun z => hpE (z ▸ ha)⟩
    cases hk : lookD kvs (.tup [p.1, p.2.1]) with
    | some d =>
      rw [hk] at hlk
      obtain ⟨l, rfl, fl, sl⟩ := hlk
      have hle : l ≠ e := by rintro rfl; rw [h2] at sl; cases sl
      have hlt : l ≠ t := by rintro rfl; rw [h3] at sl; cases sl
      have hln : l ≠ n := by rintro rfl; rw [h1] at sl; cases sl
      have sl1 : S1[l]? = some (.lst (tg E p.1 p.2.1)) := (g1 l hle).trans sl
      have sl2 : (S1 ++ [.lst []])[l]? = some (.lst (tg E p.1 p.2.1)) := get_app sl1
      have tl : (tg E p.1 p.2.1).length ≤ 1000000 := by
        unfold tg
        rw [List.length_map]
        have := List.length_filter_le (fun q : Ed => decide (q.1 = p.1 ∧ q.2.1 = p.2.1)) E
        omega
      simp [ty_lst sl2, app_lst sl2 tl]
      have G : ∀ j, j < S.length → j ≠ l → ((S1 ++ [Ob.lst []]).set l (.lst (tg E p.1 p.2.1 ++ [p.2.2])))[j]? = S1[j]? := fun j hj hn => by
        rw [get_set_ne (Ne.symm hn), List.getElem?_append_left (by omega)]
      have lt : ∀ {j o}, S[j]? = some o → j < S.length := fun h => (List.getElem?_eq_some_iff.mp h).1
      refine ⟨aF (by simp) fun j hj hn => G j hj fun z => hn (z ▸ fl), hnb', hnd', e, t, kvs, (G n (lt h1) hln.symm).trans f1, (G e (lt h2) hle.symm).trans ge, (G t (lt h3) hlt.symm).trans f3, h4, .inl h5, .inl h6, .inl h7, h8, by simp; omega, by simp; omega, fun x s hx hs => ?_, h11⟩
      have hh := h10 x s hx hs
      rw [tg_snoc]
      cases hk2 : lookD kvs (.tup [x, s]) with
      | none =>
        rw [hk2] at hh
        simp only at hh ⊢
        have : ¬ (p.1 = x ∧ p.2.1 = s) := by
          rintro ⟨rfl, rfl⟩
          rw [hk] at hk2
          cases hk2
        simp [hh, this]
      | some d =>
        rw [hk2] at hh
        obtain ⟨m, rfl, fm, sm⟩ := hh
        refine ⟨m, rfl, .inl fm, ?_⟩
        by_cases hml : m = l
        · subst hml
          obtain ⟨rfl, rfl⟩ := h11 _ _ _ _ _ hp.1 hp.2.1 hx hs hk hk2
          simp only [and_self, if_true]
          exact get_set sl2
        · have : ¬ (p.1 = x ∧ p.2.1 = s) := by
            rintro ⟨rfl, rfl⟩
            rw [hk] at hk2
            cases hk2
            exact hml rfl
          have hme : m ≠ e := by rintro rfl; rw [h2] at sm; cases sm
          simp only [this, if_false, List.append_nil]
          rw [G m (lt sm) hml, g1 m hme]
          exact sm
    | none =>
      rw [hk] at hlk
      simp only at hlk
      rw [put_new h4 kn hk]
      have hlt : t < S1.length := (List.getElem?_eq_some_iff.mp f3).1
      generalize hS2 : (S1 ++ [Ob.lst []]).set t (.dct (kvs ++ [(.tup [p.1, p.2.1], .loc S1.length)])) = S2
      have sl2 : S2[S1.length]? = some (.lst []) := by
        rw [← hS2, get_set_ne (by omega)]
        exact get_snoc
      simp [ty_lst sl2, app_lst sl2]
      have lt : ∀ {j o}, S[j]? = some o → j < S.length := fun h => (List.getElem?_eq_some_iff.mp h).1
      have G : ∀ j, j < S.length → j ≠ t → (S2.set S1.length (.lst [p.2.2]))[j]? = S1[j]? := fun j hj hn => by
        rw [get_set_ne (by omega), ← hS2, get_set_ne (Ne.symm hn), List.getElem?_append_left (by omega)]
      have Gt : (S2.set S1.length (.lst [p.2.2]))[t]? = some (.dct (kvs ++ [(.tup [p.1, p.2.1], .loc S1.length)])) := by
        rw [get_set_ne (by omega), ← hS2]
        exact get_set (get_app f3)
      have l2 : (S2.set S1.length (.lst [p.2.2])).length = S.length + 1 := by rw [← hS2]; simp [l1]
      have l3 : S2.length = S.length + 1 := by rw [← hS2]; simp [l1]
      have e0 : tg E p.1 p.2.1 = [] := hlk
      have lk : ∀ k, k.nb = true → lookD (kvs ++ [(.tup [p.1, p.2.1], .loc S1.length)]) k = if D.tup [p.1, p.2.1] = k then some (.loc S1.length) else lookD kvs k := fun k hkn => by
        have := look_put (y := k) (w := .loc S1.length) h4 kn
        rw [put_new h4 kn hk] at this
        exact this
      refine ⟨aF (by omega) fun j hj hn => G j hj fun z => hn (z ▸ h7), hnb', hnd', e, t, kvs ++ [(.tup [p.1, p.2.1], .loc S1.length)], (G n (lt h1) hne2.symm).trans f1, (G e (lt h2) h8).trans ge, Gt, ?_, .inl h5, .inl h6, .inl h7, h8, by simp; omega, by simp; omega, fun x s hx hs => ?_, ?_⟩
      · intro q hq
        rcases List.mem_append.mp hq with h | h
        · exact h4 q h
        · rw [List.mem_singleton.mp h]; exact kn
      · have kn2 : (D.tup [x, s]).nb = true := by simp [D.nb, D.nbs, hx, hs]
        rw [lk _ kn2, tg_snoc]
        by_cases hc : p.1 = x ∧ p.2.1 = s
        · obtain ⟨rfl, rfl⟩ := hc
          simp only [if_true, and_self]
          refine ⟨_, rfl, .inr ⟨by omega, by omega⟩, ?_⟩
          rw [e0]
          exact get_set sl2
        · have hc2 : ¬ (D.tup [p.1, p.2.1] = D.tup [x, s]) := by simpa using hc
          rw [if_neg hc2]
          simp only [hc, if_false, List.append_nil]
          have hh := h10 x s hx hs
          cases hk2 : lookD kvs (.tup [x, s]) with
          | none =>
            rw [hk2] at hh
            exact hh
          | some d =>
            rw [hk2] at hh
            obtain ⟨m, rfl, fm, sm⟩ := hh
            have hme : m ≠ e := by rintro rfl; rw [h2] at sm; cases sm
            have hmt : m ≠ t := by rintro rfl; rw [h3] at sm; cases sm
            exact ⟨m, rfl, .inl fm, by rw [G m (lt sm) hmt, g1 m hme]; exact sm⟩
      · intro x s x' s' l hx hs hx' hs' a1 a2
        have kn2 : (D.tup [x, s]).nb = true := by simp [D.nb, D.nbs, hx, hs]
        have kn3 : (D.tup [x', s']).nb = true := by simp [D.nb, D.nbs, hx', hs']
        rw [lk _ kn2] at a1
        rw [lk _ kn3] at a2
        have old : ∀ {x s}, x.nb = true → s.nb = true → lookD kvs (.tup [x, s]) = some (.loc S1.length) → False := fun {x s} hx hs h => by
          have hh := h10 x s hx hs
          rw [h] at hh
          obtain ⟨m, hm, _, sm⟩ := hh
          cases hm
          have := lt sm
          omega
        by_cases c1 : D.tup [p.1, p.2.1] = D.tup [x, s]
        · by_cases c2 : D.tup [p.1, p.2.1] = D.tup [x', s']
          · rw [c1] at c2
            simpa using c2
          · rw [if_pos c1] at a1
            rw [if_neg c2] at a2
            cases a1
            exact (old hx' hs' a2).elim
        · by_cases c2 : D.tup [p.1, p.2.1] = D.tup [x', s']
          · rw [if_neg c1] at a1
            rw [if_pos c2] at a2
            cases a2
            exact (old hx hs a1).elim
          · rw [if_neg c1] at a1
            rw [if_neg c2] at a2
            exact h11 _ _ _ _ _ hx hs hx' hs' a1 a2
end DL
namespace DL
open PySem
theorem Gr.of {S S' : Sto} (hl : S.length ≤ S'.length) (h : ∀ j, j < S.length → S'[j]? = S[j]?) : Gr S S' := by
  refine ⟨S'.drop S.length, ?_⟩
  refine List.ext_getElem? fun j => ?_
  by_cases hj : j < S.length
  · rw [List.getElem?_append_left hj, h j hj]
  · rw [List.getElem?_append_right (by omega), List.getElem?_drop]
    congr 1
    omega
theorem Gr.trans' {S S1 S2 : Sto} (g : Gr S S1) (hl : S1.length ≤ S2.length) (h : ∀ j, j < S.length → S2[j]? = S1[j]?) : Gr S S2 :=
  Gr.of (Nat.le_trans g.len hl) fun j hj => (h j hj).trans (by obtain ⟨U, rfl⟩ := g; exact List.getElem?_append_left hj)
theorem EdT.nb {n : Nat} {E : List Ed} (h : EdT n E) : ∀ p ∈ E, p.nb := fun p hp => ⟨(h p hp).1.nb, (h p hp).2.1.nb, (h p hp).2.2.nb⟩
theorem EdT.dep {E : List Ed} (h : EdT 4 E) : ∀ p ∈ E, p.2.2.depth ≤ 6 := fun p hp => Nat.le_trans (h p hp).2.2.depth (by omega)
noncomputable def initB (c gAdd : Nat) (cl : Nat → FM) : SM := (sSeq (sFldD [c] "_edges" mDNew (mVar 0)) (sSeq (sFldD [c] "_to" mDNew (mVar 0)) (sFor (iSeq (mVar 1)) (gVar 2) (sExpr (mMeth "add" [(c, gAdd)] cl (mVar 0) (lCons (mVar 2) lNil))))))
theorem init_ok {c gAdd : Nat} {cl : Nat → FM} (hadd : cl gAdd = runB 5 (addB c)) {S : Sto} {E : List Ed} (tE : EdT 4 E) (nd : E.Nodup) (lE : E.length ≤ 300) :
    Ow (runB 3 (initB c gAdd cl) [.loc S.length, .tup (E.map enc)] (S ++ [.ins c []])) fun x => x.1 = .non ∧ Gr S x.2 ∧ WAt c x.2 S.length E fun j => S.length ≤ j ∧ j < x.2.length := by
  have hse : ¬ (Str.ofString "_edges") = Str.ofString "_to" := by decide
  rw [ow_runB]
  unfold initB
  rw [ow_seq]
  simp [-ow_seq, stF, putD]
  rw [ow_seq]
  simp [-ow_seq, stF, putD, List.set_append, ow_for, seqD, hse]
  generalize hS3 : S ++ [Ob.ins c [(("_edges" : Str), D.loc (S.length + 1)), (("_to" : Str), .loc (S.length + 2))], .dct [], .dct []] = S3
  have hl3 : S3.length = S.length + 3 := by rw [← hS3]; simp
  have g3 : Gr S S3 := ⟨_, hS3.symm⟩
  have w0 : WAt c S3 S.length [] fun j => S.length ≤ j ∧ j < S3.length := by
    refine ⟨by simp, List.nodup_nil, S.length + 1, S.length + 2, [], ?_, ?_, ?_, (fun p hp => nomatch hp), ⟨by omega, by omega⟩, ⟨by omega, by omega⟩, ⟨by omega, by omega⟩, by omega, by simp, by simp, fun x s _ _ => by simp [lookD, tg], ?_⟩
    · rw [← hS3]; simp
    · rw [← hS3, List.getElem?_append_right (by omega), show S.length + 1 - S.length = 1 by omega]; rfl
    · rw [← hS3, List.getElem?_append_right (by omega), show S.length + 2 - S.length = 2 by omega]; rfl
    · intro x s x' s' l _ _ _ _ h; simp [lookD] at h
  refine (forL_inv (E.map enc) (fun j env S1 => ∃ o2, env = [some (.loc S.length), some (.tup (E.map enc)), o2] ∧ Gr S S1 ∧ WAt c S1 S.length (E.take j) fun j => S.length ≤ j ∧ j < S1.length)
    (fun x => x.1 = .nx ∧ Gr S x.2.2 ∧ WAt c x.2.2 S.length E fun j => S.length ≤ j ∧ j < x.2.2.length) (fun j env S1 _ => by simp [itAt, seqD]) (fun env S1 ⟨o2, _, g, w⟩ => ⟨rfl, g, by simpa using w⟩)
    (fun j d env S1 hj ⟨o2, e, g, w⟩ => ?_) (E.map enc).length 0 _ _ (by simp) (by simp) ⟨none, rfl, g3, by simpa using w0⟩).imp ?_
  · subst e
    obtain ⟨p, hp, rfl⟩ : ∃ p, E[j]? = some p ∧ d = enc p := by
      rw [List.getElem?_map] at hj
      cases q : E[j]? with
      | none => rw [q] at hj; cases hj
      | some p => rw [q] at hj; exact ⟨p, rfl, by simpa using hj.symm⟩
    have hpE := List.mem_of_getElem? hp
    have tp := tE p hpE
    have hnew : p ∉ E.take j := fun hm => by
      have hjl := (List.getElem?_eq_some_iff.mp hp).1
      have e1 : E.take (j + 1) = E.take j ++ [p] := by simp [List.take_add_one, hp]
      have := (List.take_sublist (j + 1) E).nodup nd
      rw [e1, List.nodup_append] at this
      exact this.2.2 p hm p (by simp) rfl
    have hm := meth_at (m := "add") (cands := [(c, gAdd)]) (g := gAdd) w (by decide) (by decide) (by simp [List.lookup])
    simp [hm, hadd]
    have hle : (E.take j).length ≤ 900 := by
      have : (E.take j).length ≤ E.length := by simp; omega
      omega
    refine (addP_in w (tE.nb p hpE) ⟨Nat.le_trans tp.1.depth (by omega), Nat.le_trans tp.2.1.depth (by omega), Nat.le_trans tp.2.2.depth (by omega)⟩ hle).imp ?_
    rintro ⟨r, S2⟩ ⟨_, ⟨a1, a2⟩, w2⟩
    simp only at a1 a2 w2
    rw [if_neg hnew] at w2
    have gl := g.len
    refine ⟨g.trans' a1 fun j hj => a2 j (by omega) (by omega), ?_⟩
    have e1 : E.take (j + 1) = E.take j ++ [p] := by simp [List.take_add_one, hp]
    rw [e1]
    exact w2.F' fun i hi => by
      have hi : (S.length ≤ i ∧ i < S1.length) ∨ (S1.length ≤ i ∧ i < S2.length) := hi
      show S.length ≤ i ∧ i < S2.length
      omega
  · rintro ⟨fl, env, S1⟩ ⟨rfl, g, w⟩
    exact ⟨g, w⟩
end DL
namespace DL
open PySem
theorem enc_th {n : Nat} {p : Ed} (h : Th n p.1 ∧ Th n p.2.1 ∧ Th n p.2.2) : Th (n + 1) (enc p) := .tup (by simp) fun d hd => by
  simp at hd
  rcases hd with rfl | rfl | rfl
  · exact h.1
  · exact h.2.1
  · exact h.2.2
theorem encs_th {n : Nat} {E : List Ed} (h : EdT n E) : ∀ d ∈ E.map enc, Th (n + 1) d := fun d hd => by
  obtain ⟨p, hp, rfl⟩ := List.mem_map.mp hd
  exact enc_th (h p hp)
theorem tuple_lst {n : Nat} {ds : List D} {S : Sto} (h : S[n]? = some (.lst ds)) : tupleP [.loc n] S = some (.tup ds, S) := by simp [tupleP, seqD, h]
structure Rl where
  p : D
  s : D
  q : D
  w : List D
  m : D
def RlT (R : List Rl) : Prop := ∀ r ∈ R, Th 3 r.p ∧ Th 3 r.s ∧ Th 3 r.q ∧ (∀ d ∈ r.w, Th 3 d) ∧ r.w.length ≤ 2
end DL
namespace DL
open PySem
theorem nodup_enc {E : List Ed} (h : E.Nodup) : (E.map enc).Nodup := by
  rw [List.nodup_iff_pairwise_ne, List.pairwise_map]
  exact (List.nodup_iff_pairwise_ne.mp h).imp fun h e => h (enc_inj.mp e)
theorem len_subE {E U : List Ed} (nd : E.Nodup) (h : ∀ e ∈ E, e ∈ U) : E.length ≤ U.length := by
  have := len_sub (nodup_enc nd) (l := U.map enc) fun y hy => by
    obtain ⟨e, he, rfl⟩ := List.mem_map.mp hy
    exact List.mem_map.mpr ⟨e, h e he, rfl⟩
  simpa using this
def Sat (Dv : List Ed → Ed → Prop) (E0 E : List Ed) : Prop := (∀ e ∈ E0, e ∈ E) ∧ (∀ e, Dv E e → e ∈ E) ∧ ∀ E2, (∀ e ∈ E0, e ∈ E2) → (∀ e, Dv E2 e → e ∈ E2) → ∀ e ∈ E, e ∈ E2
theorem Sat.uniq {Dv : List Ed → Ed → Prop} {E0 E E' : List Ed} (a : Sat Dv E0 E) (b : Sat Dv E0 E') : ∀ e, e ∈ E ↔ e ∈ E' := fun e => ⟨a.2.2 E' b.1 b.2.1 e, b.2.2 E a.1 a.2.1 e⟩
theorem EdT.sub {n : Nat} {E U : List Ed} (h : EdT n U) (s : ∀ e ∈ E, e ∈ U) : EdT n E := fun p hp => h p (s p hp)
end DL
namespace DL
open PySem
end DL
namespace DL
open PySem
noncomputable def startQ : SM := (sRet (mDisp [((mC (.str "cells")), (mLc (iSeq (mVar 0)) [1] (.nm 1) bYes (mL absP (lCons (mL toIntP (lCons (mVar 1) lNil)) lNil)))), ((mC (.str "at")), (mC (.int 0))), ((mC (.str "left")), (mC (.int 0))), ((mC (.str "mix")), (m2 addP (mC (.int 7)) (mL lenQ (lCons (mVar 0) lNil))))]))
noncomputable def pickQ (dr : FM) : SM := (sRet (m2 ixQ (mVar 1) (mL dr (lCons (mVar 0) (lCons (mL lenQ (lCons (mVar 1) lNil)) lNil)))))
@[simp] theorem s_lenQ {cells : List Int} {a l m : Int} {T : Sto} : lenQ [.loc 0] (mkS cells a l m T) = some (.int cells.length, mkS cells a l m T) := by rw [len_lst (ds := cells.map D.int) rfl]; simp
@[simp] theorem len_scrQ {ns : List Int} {S : Sto} : lenQ [.scr ns] S = some (.int ns.length, S) := rfl
theorem startQ_ok {ns : List Int} (h : ns.length ≤ 63) : Ow (runB 2 startQ [.scr ns] []) fun x => x.1 = .loc 1 ∧ DSt [] x.2 := by
  rw [ow_runB]
  unfold startQ
  simp [ow_lc, seqD]
  refine (lcL_inv (ns.map D.int) (fun j acc S => S = [] ∧ ∃ cs : List Int, acc = cs.map D.int ∧ cs.length = j) (fun j acc S _ => by simp [itAt, seqD]) (fun j d acc S hd hI => ?_) ns.length 0 [] [] (by simp) (by simp) ⟨rfl, [], rfl, rfl⟩).imp ?_
  · obtain ⟨rfl, cs, rfl, hcs⟩ := hI
    have hj : j < ns.length := by
      have := (List.getElem?_eq_some_iff.mp hd).1
      simpa using this
    obtain ⟨c, rfl⟩ : ∃ c, d = .int c := by
      rw [List.getElem?_map] at hd
      cases e : ns[j]? with
      | none => rw [e] at hd; cases hd
      | some c => rw [e] at hd; exact ⟨c, by simpa using hd.symm⟩
    refine ⟨_, rfl, ?_⟩
    simp [bYes, wipeD]
    refine ⟨?_, cs ++ [if c < 0 then -c else c], by simp, by simp [hcs]⟩
    show cs.length < 2 ^ 24
    omega
  · rintro ⟨ds, S1⟩ ⟨hS, cs, hd, hl⟩
    simp only at hS hd
    subst hS hd
    simp
    refine ⟨?_, cs, 0, 0, 7 + ns.length, by simp, rfl⟩
    rintro a b (⟨rfl, _⟩ | ⟨rfl, _⟩ | ⟨rfl, _⟩ | ⟨rfl, _⟩) <;> exact okStr
theorem pickQ_loc {dr : FM} (hd : DrawOk dr) {T S : Sto} {k : Nat} {ds : List D} (h : DSt T S) (hk : T[k]? = some (.lst ds)) (h0 : ds ≠ []) (h1 : ds.length < 1073741824) : Ow (runB 2 (pickQ dr) [.loc 1, .loc (k + 2)] S) fun x => x.1 ∈ ds ∧ DSt T x.2 := by
  rw [ow_runB]
  unfold pickQ
  simp [len_lst ((h.at k).trans hk)]
  have hp : 0 < ds.length := List.length_pos_iff.mpr h0
  refine (hd T S ds.length h (by omega) (by omega)).imp ?_
  rintro ⟨d, S1⟩ ⟨i, hi, i0, i1, h2⟩
  simp only at hi h2
  subst hi
  have hl : i.toNat < ds.length := by omega
  simp [ix_lst ((h2.at k).trans hk) i0 (List.getElem?_eq_getElem hl), h2]
theorem DSt.gr {T S S' : Sto} (h : DSt T S) (g : Gr S S') : ∃ T', Gr T T' ∧ DSt T' S' := by
  obtain ⟨U, rfl⟩ := g
  exact ⟨T ++ U, .app, h.app U⟩
theorem DSt.get {T S : Sto} (h : DSt T S) {k : Nat} {o : Ob} (e : T[k]? = some o) : S[k + 2]? = some o := (h.at k).trans e
theorem lcR_inv {lo : Int} {n : Nat} {vs : List Nat} {t : Tgt} {tt : BM} {te : EM} {env : Vars} (I : Nat → List D → Sto → Prop)
    (step : ∀ j acc S, j < n → I j acc S → ∃ env1, t.put (wipeD env vs) (.int (lo + j)) = some env1 ∧ Ow (tt env1 S) fun x => if x.1 = true then Ow (te env1 x.2) fun y => acc.length < sizeLine ∧ I (j + 1) (acc ++ [y.1]) y.2 else I (j + 1) acc x.2)
    {S : Sto} (h : I 0 [] S) : Ow (lcL (.rng lo n) vs t tt te env 0 [] S) fun x => I n x.1 x.2 := by
  have hl : ((List.range n).map fun i => D.int (lo + (i : Nat))).length = n := by simp
  have := lcL_inv (it := .rng lo n) (vs := vs) (t := t) (tt := tt) (te := te) (env := env) ((List.range n).map fun i => D.int (lo + (i : Nat))) I (fun j acc S _ => by
    simp only [itAt, List.getElem?_map]
    by_cases hj : j < n
    · simp [hj, List.getElem?_range hj]
    · simp [hj]) (fun j d acc S hj hI => by
    have hjn : j < n := by
      have := (List.getElem?_eq_some_iff.mp hj).1
      simpa using this
    have : d = .int (lo + j) := by
      rw [List.getElem?_map, List.getElem?_range hjn] at hj
      simpa using hj.symm
    subst this
    exact step j acc S hjn hI) n 0 [] S (by rw [hl]; omega) (by omega) h
  rw [hl] at this
  exact this
noncomputable def onceB : SM := (sSeq (sAsg (mL lstP lNil) (gVar 1)) (sSeq (sFor (iSeq (mVar 0)) (gVar 2) (sIf (bV (m2 notInQ (mVar 2) (mVar 1))) (sExpr (mM "list" appP (mVar 1) (lCons (mVar 2) lNil))) sNext)) (sRet (mVar 1))))
def OnceOf (xs ys : List D) : Prop := ys.Nodup ∧ ∀ y, y ∈ ys ↔ y ∈ xs
theorem once_ok {n : Nat} {S : Sto} {d : D} {xs : List D} (hd : seqD S d = some xs) (hx : ∀ x ∈ xs, Th n x) (hn : n ≤ 60) (lx : xs.length ≤ 100000) :
    Ow (runB 3 onceB [d] S) fun x => Gr S x.2 ∧ ∃ l ys, x.1 = .loc l ∧ S.length ≤ l ∧ x.2[l]? = some (.lst ys) ∧ OnceOf xs ys := by
  rw [ow_runB]
  unfold onceB
  rw [ow_seq]
  simp [-ow_seq, lst_ok]
  rw [ow_seq, ow_for]
  have g0 : Gr S (S ++ [.lst []]) := .app
  simp [-ow_seq, g0.seq hd]
  refine (forL_inv xs (fun j env S1 => ∃ ys o2, env = [some d, some (.loc S.length), o2] ∧ Gr S S1 ∧ S1[S.length]? = some (.lst ys) ∧ OnceOf (xs.take j) ys)
    (fun x => x.1 = .nx ∧ ∃ ys o2, x.2.1 = [some d, some (.loc S.length), o2] ∧ Gr S x.2.2 ∧ x.2.2[S.length]? = some (.lst ys) ∧ OnceOf xs ys)
    (fun j env S1 ⟨ys, o2, _, g, _⟩ => by simp [itAt, g.seq hd]) (fun env S1 ⟨ys, o2, e, g, h1, h2⟩ => ⟨rfl, ys, o2, e, g, h1, by simpa using h2⟩)
    (fun j x env S1 hj ⟨ys, o2, e, g, h1, h2⟩ => ?step) xs.length 0 _ _ (by simp) (by simp) ⟨[], none, rfl, g0, get_snoc, List.nodup_nil, fun y => by simp⟩).imp ?imp
  case step =>
    subst e
    have hxm := List.mem_of_getElem? hj
    have ty : ∀ y ∈ ys, Th n y := fun y hy => hx y (List.mem_of_mem_take ((h2.2 y).mp hy))
    have ly : ys.length ≤ 100000 := Nat.le_trans (len_sub h2.1 fun y hy => List.mem_of_mem_take ((h2.2 y).mp hy)) lx
    simp [notIn_ths (hx x hxm) (seq_loc h1) ty hn hn]
    by_cases hc : x ∈ ys
    · simp [hc]
      refine ⟨g, ys, h1, h2.1, fun y => ?_⟩
      rw [h2.2, List.take_add_one, hj]
      simp only [Option.toList_some, List.mem_append, List.mem_singleton]
      exact ⟨.inl, fun z => z.elim id fun z => z ▸ (h2.2 x).mp hc⟩
    · simp [hc, ty_lst h1, app_lst h1 (by omega)]
      refine ⟨g.set (Nat.le_refl _), ys ++ [x], get_set h1, ?_, fun y => ?_⟩
      · rw [List.nodup_append]
        exact ⟨h2.1, by simp, fun a ha b hb => by simp at hb; subst hb; exact fun z => hc (z ▸ ha)⟩
      · rw [List.mem_append, h2.2, List.take_add_one, hj]
        simp
  case imp =>
    rintro ⟨fl, env, S1⟩ ⟨rfl, ys, o2, rfl, g, h1, h2⟩
    simp
    exact ⟨g, ys, h1, h2⟩
end DL
set_option maxHeartbeats 2000000
namespace DL
open PySem PySem.Spec L2
def divWP : D → D → Sto → Option (D × Sto)
  | .int i, .int j, S => if 0 < j ∧ j.natAbs.log2 < 9000 then some (.int (i / j), S) else none
  | _, _, _ => none
theorem prim_divW {G : Ctx} : Prim2 G (rI CDivW fun i j => .int (i / j)) divWP := by
  intro r S H x y v w d S' Q R hv hw h k
  unfold divWP at h
  split at h
  · split at h
    · rename_i hz
      cases h
      rw [dv_int hv, dv_int hw]
      exact ⟨_, _, rfl, rfl, hz, k r H _ Ext.refl R mk_int⟩
    · cases h
  · cases h
theorem divW_ii {i j : Int} {S : Sto} (h : 0 < j) (h2 : j.natAbs.log2 < 9000) : divWP (.int i) (.int j) S = some (.int (i / j), S) := by simp [divWP, h, h2]
noncomputable def drawW : SM := (sSeq (sIf (bAnd (bV (m2 eqP (m2 ixQ (mVar 0) (mC (.str "left"))) (mC (.int 0)))) (bV (m2 ltP (m2 ixQ (mVar 0) (mC (.str "at"))) (mL lenQ (lCons (m2 ixQ (mVar 0) (mC (.str "cells"))) lNil))))) (sSeq (sAsg (m2 ixQ (m2 ixQ (mVar 0) (mC (.str "cells"))) (m2 ixQ (mVar 0) (mC (.str "at")))) (gVar 2)) (sSeq (sAsg (m2 addP (m2 ixQ (mVar 0) (mC (.str "at"))) (mC (.int 1))) (gSubM (mVar 0) (mC (.str "at")))) (sSeq (sAsg (m2 modP (mL toIntP (lCons (m2 addP (m2 addP (m2 mulP (m2 ixQ (mVar 0) (mC (.str "mix"))) (mC (.int 48271))) (mVar 2)) (mC (.int 11))) lNil)) (mC (.int 2147483647))) (gSubM (mVar 0) (mC (.str "mix")))) (sSeq (sIf (bV (m2 ltP (mVar 2) (m2 powP (mC (.int 10)) (mC (.int 18))))) (sRet (m2 modP (mL toIntP (lCons (mVar 2) lNil)) (mVar 1))) sNext) (sAsg (mVar 2) (gSubM (mVar 0) (mC (.str "left")))))))) sNext) (sSeq (sIf (bV (m2 gtP (m2 ixQ (mVar 0) (mC (.str "left"))) (mC (.int 0)))) (sSeq (sAsg (m2 modP (mL toIntP (lCons (m2 ixQ (mVar 0) (mC (.str "left"))) lNil)) (mVar 1)) (gVar 3)) (sSeq (sAsg (m2 divWP (m2 ixQ (mVar 0) (mC (.str "left"))) (mVar 1)) (gSubM (mVar 0) (mC (.str "left")))) (sRet (mVar 3)))) sNext) (sSeq (sAsg (m2 modP (mL toIntP (lCons (m2 addP (m2 mulP (m2 ixQ (mVar 0) (mC (.str "mix"))) (mC (.int 48271))) (mC (.int 11))) lNil)) (mC (.int 2147483647))) (gSubM (mVar 0) (mC (.str "mix")))) (sRet (m2 modP (mL toIntP (lCons (m2 modP (mL toIntP (lCons (m2 addP (m2 mulP (m2 ixQ (mVar 0) (mC (.str "mix"))) (mC (.int 69621))) (mC (.int 5))) lNil)) (mC (.int 2147483629))) lNil)) (mVar 1))))))
theorem drawW_ok {T S : Sto} {b : Int} (h : DSt T S) (h0 : 0 < b) (h1 : b.natAbs.log2 < 9000) : Ow (runB 4 drawW [.loc 1, .int b] S) fun x => ∃ i, x.1 = .int i ∧ 0 ≤ i ∧ i < b ∧ DSt T x.2 := by
  obtain ⟨cells, a, l, m, ha, rfl⟩ := h
  have k1 : small 48271 = true := by decide
  have k2 : small 69621 = true := by decide
  have k3 : ∀ x : Int, 0 ≤ x % b := fun x => Int.emod_nonneg _ (by omega)
  have k4 : ∀ x : Int, x % b < b := fun x => Int.emod_lt_of_pos _ h0
  have k5 : ∀ {a l m : Int}, 0 ≤ a → DSt T (mkS cells a l m T) := fun {a l m} ha => ⟨cells, a, l, m, ha, rfl⟩
  rw [ow_runB]
  unfold drawW
  simp [mul_ii, k1, k2, mod_ii, h0, divW_ii, h1, pow18, k3, k4, k5 ha]
  intro hl hc
  obtain ⟨c, hcell⟩ := s_cell (l := l) (m := m) (T := T) ha hc
  subst hl
  rw [hcell]
  simp [mul_ii, k1, k2, mod_ii, h0, divW_ii, h1, pow18, k3, k4, k5 (show (0 : Int) ≤ a + 1 by omega)]
theorem drawOkW : DrawOk (runB 4 drawW) := fun _ _ b h h0 h1 => drawW_ok h h0 (by
  have e : (2 : Nat) ^ 31 = 2147483648 := by decide
  have h2 : b.natAbs < 2 ^ 31 := by omega
  have h3 : b.natAbs.log2 < 31 := PySem.Flt.log2_lt_of (by decide) h2
  omega)
end DL
namespace DL
open PySem PySem.Spec L2
open PyProof.Rows hiding St
open LamX (CodeO TabB lamEnv lamCx)
structure LamP (sc scope : Scope) (p : Str) : Prop where
  kind : scope.kind = .function
  co : scope.isCoroutine = false
  gen : scope.isGenerator = false
  par : scope.names.lookup p = some .local
  own : ∀ y ∈ scope.names, y.2 ≠ .cell ∧ (y.2 = .local → y.1 = p)
  free : ∀ y ∈ scope.names, y.2 = .free → sc.names.lookup y.1 = some .cell ∨ sc.names.lookup y.1 = some .free
section
variable {X : Cx} {pins : List (Addr × Obj)} {σ : L2.St} {H : Hp} {s : Shared}
theorem LamP.has {scope : Scope} {p : Str} (L : LamP X.env.scope scope p) (ok : X.Ok) : ∀ y ∈ scope.names, y.2 = .free → ∃ c, X.env.cells.lookup y.1 = some c := fun y hy e =>
  ok.has _ (L.free y hy e)
end
structure RoomS (k : Nat) (A : Around) : Prop where
  hd : A.handled = none
  dp : A.depth + 3 * k + 7 < recursionLimit
  un : A.units + 16 * k + 210 < cLine
theorem RoomS.room {k : Nat} {A : Around} (r : RoomS k A) : Room k A := ⟨r.hd, by have := r.dp; omega, by have := r.un; omega⟩
theorem RoomS.of {k : Nat} {A : Around} (r : Room (k + 1) A) (env : Env) : RoomS k (A.deeper env) :=
  ⟨r.hd, by have := r.dp; show A.depth + 1 + 3 * k + 7 < _; omega, by have := r.un; show A.units + 3 + 16 * k + 210 < _; omega⟩
theorem RoomS.low {k : Nat} {A : Around} (r : RoomS k A) (env : Env) : Room 0 (A.in1.in1.deeper env) :=
  ⟨r.hd, by have := r.dp; show A.depth + 1 + 3 * 0 + 5 < _; omega, by have := r.un; show A.units + 1 + 1 + 3 + 16 * 0 + 200 < _; omega⟩
theorem CAx_tab {G : Ctx} {r : List Addr} {S : Sto} {H : Hp} (R : RepS G r S H) : LamX.Tabs G.ca.tb H := fun p hp => by
  obtain ⟨_, ps, h1, h2, h3⟩ := R.tabs p hp
  exact ⟨ps, h1, h2, fun pos cv hc => let ⟨c, e1, _, e2⟩ := h3 pos cv hc; ⟨c, e1, e2⟩⟩
section
variable {X : Cx} {ca : CAx} {k : Nat}
theorem ext_tab {G : Ctx} {r : List Addr} {S : Sto} {H H1 : Hp} (R : RepS G r S H) (eN : LamX.ExtN H H1) (T1 : LamX.Tabs G.ca.tb H1) (hn : ∀ p ∈ G.ca.tb, ∀ (ps : Array Value), H1 p.1 = some (.tbl ps) → ∀ (pos : Pos) (c : Addr), codeAmong pos ps.toList = some (.ref c) → c ∉ r) : Ext G.K r H r H1 ∧ RepS G r S H1 := by
  have sq : ∀ a vs, SqT G.K H a vs → SqT G.K H1 a vs := fun a vs h => by
    rcases h with (h | ⟨o, h⟩) | h
    · exact .inl (.inl (eN _ _ h fun _ z => by cases z))
    · exact .inl (.inr ⟨o, eN _ _ h fun _ z => by cases z⟩)
    · exact .inr h
  have sl : ∀ a vs, ScL G.K H a vs → ScL G.K H1 a vs := fun a vs h => by
    obtain ⟨b, vs⟩ := vs
    cases b with
    | scr =>
      rcases h with ⟨o, h⟩ | h
      · exact .inl ⟨o, eN _ _ h fun _ z => by cases z⟩
      · exact .inr h
    | tup =>
      rcases h with ⟨od, h, h2⟩ | h
      · exact .inl ⟨od, ⟨eN _ _ h fun _ z => (by cases z), h2⟩⟩
      · exact .inr h
    | clo i => exact h.elim
  have x : Ext G.K r H r H1 := ⟨List.prefix_refl _, sq, sl, fun a u h n nt => ⟨eN _ _ h nt, n⟩, fun a od u h => eN _ _ h fun _ z => by cases z⟩
  refine ⟨x, R.len, R.nd, fun n o a e1 e2 => ?_, fun p hp => ?_, fun p hp => (R.clos p hp).keep (fun a od h => eN _ _ h fun _ z => by cases z) fun c q h n => ⟨eN _ _ h LamX.codeO_ne, n⟩⟩
  · obtain ⟨u, q1, q2, _⟩ := (R.at_ n o a e1 e2).held
    refine (R.at_ n o a e1 e2).ext x.w ?_
    rw [q1]
    refine eN _ _ q1 fun ps z => ?_
    subst z
    have := (R.at_ n o a e1 e2)
    cases o with
    | lst ds => obtain ⟨vs, e, _⟩ := this; rw [q1] at e; cases e
    | dct kvs => obtain ⟨_, _, _, es, e, _⟩ := this; rw [q1] at e; cases e
    | ins c fs => obtain ⟨dx, vs, e, _⟩ := this; rw [q1] at e; cases e
    | lck kvs => obtain ⟨_, _, _, od, es, e, _⟩ := this; rw [q1] at e; cases e
    | clo i ds => obtain ⟨⟨od, e⟩, _⟩ := this; rw [q1] at e; cases e
    | dead => obtain ⟨od, e, _⟩ := this; rw [q1] at e; cases e
  · obtain ⟨ps, h1, h2, h3⟩ := T1 p hp
    refine ⟨(R.tabs p hp).1, ps, h1, h2, fun pos cv hc => ?_⟩
    obtain ⟨c, e1, e2⟩ := h3 pos cv hc
    subst e1
    exact ⟨c, rfl, hn p hp ps h1 pos c hc, e2⟩
theorem OV.code {G : Ctx} {r : List Addr} {H : Hp} {a : Addr} {o : Ob} {q : Str} (h : OV G r H a o) (e : H a = some (CodeO a q)) : False := by
  cases o with
  | lst ds => obtain ⟨vs, e2, _⟩ := h; rw [e2] at e; exact codeO_lst (Option.some.inj e).symm
  | dct kvs => obtain ⟨_, _, _, es, e2, _⟩ := h; rw [e2] at e; exact codeO_raw rfl (Option.some.inj e).symm
  | ins c fs =>
    obtain ⟨dx, vs, e2, _⟩ := h
    rw [e2] at e
    have := Option.some.inj e
    unfold LamX.CodeO at this
    cases this
  | lck kvs => obtain ⟨_, _, _, od, es, e2, _⟩ := h; rw [e2] at e; exact codeO_frz (Option.some.inj e).symm
  | clo i ds => obtain ⟨⟨od, e2⟩, _⟩ := h; rw [e2] at e; exact codeO_frz (Option.some.inj e).symm
  | dead => obtain ⟨od, e2, _⟩ := h; rw [e2] at e; exact codeO_frz (Option.some.inj e).symm
theorem lam_ext {G : Ctx} {r : List Addr} {S : Sto} {H H1 : Hp} (R : RepS G r S H) (eN : LamX.ExtN H H1) (T1 : LamX.Tabs G.ca.tb H1) : Ext G.K r H r H1 ∧ RepS G r S H1 := by
  refine ext_tab R eN T1 fun p hp ps h1 pos c hc hr => ?_
  obtain ⟨ps', h1', _, h3⟩ := T1 p hp
  rw [h1] at h1'
  cases h1'
  obtain ⟨c2, e1, e2⟩ := h3 pos _ hc
  cases e1
  obtain ⟨n, hn, hlt⟩ := List.mem_iff_getElem.mp hr
  have hn' : n < S.length := by rw [← R.len]; exact hn
  have ov := R.at_ n S[n] c (List.getElem?_eq_getElem hn') (by rw [List.getElem?_eq_getElem hn, hlt])
  obtain ⟨u, q1, q2, _⟩ := ov.held
  have : H1 c = some u := eN _ _ q1 fun ps z => by
    subst z
    revert ov
    cases S[n] with
    | lst ds => rintro ⟨vs, e, _⟩; rw [q1] at e; cases e
    | dct kvs => rintro ⟨_, _, _, es, e, _⟩; rw [q1] at e; cases e
    | ins c fs => rintro ⟨dx, vs, e, _⟩; rw [q1] at e; cases e
    | lck kvs => rintro ⟨_, _, _, od, es, e, _⟩; rw [q1] at e; cases e
    | clo i ds => rintro ⟨⟨od, e⟩, _⟩; rw [q1] at e; cases e
    | dead => rintro ⟨od, e, _⟩; rw [q1] at e; cases e
  rw [e2] at this
  exact ov.code (q1.trans this.symm)
end
theorem funC_ok {P : Program} {w : World} {K : PySem.W.Frag} {mg : Str → Option Value} {base : Heap} {ca : CAx} {x qual : Str} {st : Stmt} {f c : Addr} {fd : FuncData} {N ps : List Str} {k : Nat} {b : SM} (F : Fun K x qual st f fd) (hc : fd.code = .ref c) (S : FnScope N ps (defScope st))
    (hb : ∀ (A : Around) (outer : List Env) (s : Shared) (H : Hp) (E : XK), RoomS k (A.deeper (envOfC qual (defScope st) s.heap.objs.size f (.ref c))) → PSs (bx P w K mg base N qual (defScope st) f (.ref c) A outer s H E) (defBody st) (liftS ⟨K, w, ca⟩ b)) :
    FnOk P w K mg base CX0 (k + 1) f fd ps (spD ⟨K, w, ca⟩ ps.length (runB N.length b)) := by
  obtain ⟨oc, od, kV, doc, pm, an, cdv, ct, osl, efd, here, code⟩ := F.ex
  subst efd
  obtain rfl : cdv = .ref c := hc
  have len : ∀ vs H Q E, spD ⟨K, w, ca⟩ ps.length (runB N.length b) vs H Q E → vs.length = ps.length := fun vs H Q E ⟨r, S, ds, d, S', R, q, hl, _⟩ => by rw [q.length, hl]
  refine ⟨len, fun A outer s H args us vs Q E hr e0 hbd rv hsp => ?_⟩
  have hl := len _ _ _ _ hsp
  refine LamX.run_ofS here code S hr e0 hbd rv hl fun _ => ⟨_, (hb A outer s H E (RoomS.of hr _)).nox, ?_⟩
  obtain ⟨r, S0, ds, d, S', R, q, hl2, e, k⟩ := hsp
  unfold runB at e
  split at e
  · rename_i d2 env2 S2 e1
    cases e
    exact ⟨r, _, S0, _, env2, _, R, vars_start q, e1, fun r1 σ1 H1 x1 R1 W1 v qv => k r1 H1 v x1 R1 qv⟩
  · rename_i env2 S2 e1
    cases e
    exact ⟨r, _, S0, _, env2, _, R, vars_start q, e1, fun r1 σ1 H1 x1 R1 W1 => k r1 H1 .non x1 R1 (by unfold DV; rfl)⟩
  · cases e
end DL
namespace DL
open PySem PySem.Spec L2
open PyProof.Rows hiding St
structure FnG (P : Program) (w : World) (K : PySem.W.Frag) (mg : Str → Option Value) (base : Heap) (k : Nat) (f : Addr) (fd : FuncData) (ps : List Str) (sp : Sp) : Prop where
  go : ∀ (A : Around) (outer : List Env) (s : Shared) (H : Hp) (args : Args) (us : List Value) (vs : List V) (Q : VK), A.guards = some [] → Room k A → Env0 P w K mg base A outer s H → BindsTo s fd args (ps.zip us) → Vals vs us → vs.length = ps.length → sp vs H Q (fun _ _ _ => False) →
    codeAny (model P w) A (.call (.ref f) args) (CR CX0 outer P w H s Q fun _ _ _ => False) s
section
variable {P : Program} {w : World} {K : PySem.W.Frag} {mg : Str → Option Value} {base : Heap}
noncomputable def scrH (K : PySem.W.Frag) (a : Addr) (us : List Value) (ns : List Int) : Hp := open Classical in fun b => if K.lookup a = none ∧ b = a then some (.frz { cls := .type "list", data := .seq us.toArray } (.lst (ns.map V.int))) else none
theorem scrH_on {a b : Addr} {us : List Value} {ns : List Int} {u : HO} (h : scrH K a us ns b = some u) : (K.lookup a = none ∧ b = a) ∧ u = .frz { cls := .type "list", data := .seq us.toArray } (.lst (ns.map V.int)) := by
  unfold scrH at h
  split at h
  · rename_i q
    exact ⟨q, (Option.some.inj h).symm⟩
  · cases h
end
end DL
namespace DL
open PySem PySem.Spec L2
open PyProof.Rows hiding St
section
variable {X : Cx} {ca : CAx}
def neS : D → D → Sto → Option (D × Sto)
  | .str x, .str y, S => some (.bl (!decide (x = y)), S)
  | _, _, _ => none
end
@[simp] theorem neS_same {x : Str} {S : Sto} : neS (.str x) (.str x) S = some (.bl false, S) := by simp [neS]
end DL
namespace DL
open PySem PySem.Spec L2
open PyProof.Rows hiding St
open LamX (TabB)
section
variable {P : Program} {w : World} {K : PySem.W.Frag} {mg : Str → Option Value}
noncomputable def scrT (K : PySem.W.Frag) (a : Addr) (us : List Value) (ns : List Int) (ts : List Addr) : Hp := open Classical in fun b => if b ∈ ts then some (.tbl #[]) else scrH K a us ns b
theorem scrT_on {a b : Addr} {us : List Value} {ns : List Int} {ts : List Addr} {u : HO} (h : scrT K a us ns ts b = some u) : (b ∈ ts ∧ u = .tbl #[]) ∨ (b ∉ ts ∧ scrH K a us ns b = some u) := by
  unfold scrT at h
  split at h
  · rename_i q
    exact .inl ⟨q, (Option.some.inj h).symm⟩
  · rename_i q
    exact .inr ⟨q, h⟩
theorem scrT_no {a b : Addr} {us : List Value} {ns : List Int} {ts : List Addr} {h : Heap} {o : Obj} (obj : h.get? a = some { cls := .type "list", data := .seq us.toArray }) (tabs : ∀ t ∈ ts, h.get? t = some { cls := .none, data := .fields #[] }) (e : h.get? b = some o)
    (h1 : ∀ vs n, o.data ≠ .seq vs n) (h2 : o.data ≠ .fields #[]) : scrT K a us ns ts b = none := by
  cases q : scrT K a us ns ts b with
  | none => rfl
  | some u =>
    rcases scrT_on q with ⟨q1, _⟩ | ⟨_, q1⟩
    · rw [tabs b q1] at e
      cases e
      exact (h2 rfl).elim
    · obtain ⟨⟨_, rfl⟩, _⟩ := scrH_on q1
      rw [obj] at e
      cases e
      exact (h1 _ _ rfl).elim
theorem law_callT {mb : Str → Option Value} {k : Nat} {fa a : Addr} {fd : FuncData} {x : Str} {sp : Sp} {s1 : Shared} {us : List Value} {ns : List Int} {cs : List (Addr × Addr)} (inK : K.In s1.heap) (main : s1.heap.Ns mainGlobals mg) (blts : s1.heap.Ns builtinsNs mb) (boot : ∀ x : Str, x ≠ "__name__" → mb x = bootBuiltins x) (lim : s1.heap.NoLimit) (gens : s1.gens = #[])
    (tabs : ∀ p ∈ cs, s1.heap.get? p.2 = some { cls := .none, data := .fields #[] }) (notK : ∀ p ∈ cs, K.lookup p.2 = none) (code : ∀ p ∈ cs, PySem.W.CodeHd s1.heap p.1 p.2)
    (bmain : ∃ (bm : Addr) (ob : Obj), mg "__builtins__" = some (.ref bm) ∧ bm ≠ builtinsNs ∧ s1.heap.get? bm = some ob ∧ ob.cls = .type "module" ∧ ob.dict = some builtinsNs ∧ ob.data = .plain)
    (obj : s1.heap.get? a = some { cls := .type "list", data := .seq us.toArray }) (nums : IntsAre us ns) (size : ns.length ≤ sizeLine) (room : Room k callerA) (F : ∀ base : Heap, K.In base → base.Ns mainGlobals mg → (∀ p ∈ cs, TabB base mg p.1 p.2) → FnG P w K mg base k fa fd [x] sp) (bind : ∀ (s : Shared) (u : Value), BindsTo s fd ⟨[u], []⟩ [(x, u)])
    (prom : ∀ H : Hp, OnlyT (cs.map fun p => (p.2, "")) H → SqL K H a (ns.map V.int) → sp [.ref a] H (fun v _ => v = .bl true) fun _ _ _ => False) :
    codeAny (model P w) callerA (.call (.ref fa) ⟨[.ref a], []⟩) (fun r s2 => r = .ok (.ret (.bool true)) ∧ OldK s1.heap s2.heap ∧ s2.os = s1.os ∧ AllBare s2.gens) s1 := by
  have rel := vals_ints nums
  have same := nums.length
  have tabs' : ∀ t ∈ cs.map (·.2), s1.heap.get? t = some { cls := .none, data := .fields #[] } := fun t ht => by
    obtain ⟨p, hp, rfl⟩ := List.mem_map.mp ht
    exact tabs p hp
  have aT : a ∉ cs.map (·.2) := fun z => by
    have q := tabs' a z
    rw [obj] at q
    cases q
  generalize hH : scrT K a us ns (cs.map (·.2)) = H
  have on : ∀ {b u}, H b = some u → (b ∈ cs.map (·.2) ∧ u = .tbl #[]) ∨ (b ∉ cs.map (·.2) ∧ scrH K a us ns b = some u) := fun {b u} e => scrT_on (hH ▸ e)
  have off : ∀ {b : Addr} {o : Obj}, s1.heap.get? b = some o → (∀ vs n, o.data ≠ .seq vs n) → o.data ≠ .fields #[] → H b = none := fun {b o} e h1 h2 => hH ▸ scrT_no obj tabs' e h1 h2
  have isT : ∀ p ∈ cs, H p.2 = some (.tbl #[]) := fun p hp => by
    rw [← hH]
    unfold scrT
    exact if_pos (List.mem_map.mpr ⟨p, hp, rfl⟩)
  have at_a : H a = scrH K a us ns a := by
    rw [← hH]
    unfold scrT
    exact if_neg aT
  have only : OnlyT (cs.map fun p => (p.2, "")) H := ⟨fun b => by
    cases q : H b with
    | none => exact .inl rfl
    | some u =>
      rcases on q with ⟨_, rfl⟩ | ⟨_, q2⟩
      · exact .inr (.inl rfl)
      · exact .inr (.inr ⟨_, _, congrArg some (scrH_on q2).2⟩), fun p hp => by
    obtain ⟨q, hq, rfl⟩ := List.mem_map.mp hp
    exact isT q hq⟩
  have lies : SqL K H a (ns.map V.int) := by
    cases q : K.lookup a with
    | none => exact .inl (.inr ⟨_, by rw [at_a]; unfold scrH; exact if_pos ⟨q, rfl⟩⟩)
    | some o =>
      have := inK a o q
      rw [obj] at this
      cases this
      exact .inr ⟨_, us.toArray, _, q, rfl, rfl, rfl, by rw [List.size_toArray, same]; exact size, by simpa using rel⟩
  have hok : HOk P w H s1.heap := fun b u q => by
    rcases on q with ⟨q1, rfl⟩ | ⟨_, q1⟩
    · exact tabs' b q1
    · obtain ⟨⟨_, rfl⟩, rfl⟩ := scrH_on q1
      exact ⟨obj, by rw [List.length_map]; exact size, us, _, rel, obj⟩
  have notDict : ∀ {b : Addr} {m : Str → Option Value}, s1.heap.Ns b m → (hidT s1.heap H).Ns b m := fun {b m} ⟨o, es, ep, e, d, rest⟩ => by
    exact ⟨o, es, ep, hidT_get e (off e (fun _ _ z => by rw [d] at z; cases z) fun z => by rw [d] at z; cases z), d, rest⟩
  have kin : K.In (hidT s1.heap H) := fun b o e => hidT_get (inK b o e) (by
    cases q : H b with
    | none => rfl
    | some u =>
      rcases on q with ⟨q1, _⟩ | ⟨_, q1⟩
      · obtain ⟨p, hp, rfl⟩ := List.mem_map.mp q1
        rw [notK p hp] at e
        cases e
      · obtain ⟨⟨z, rfl⟩, _⟩ := scrH_on q1
        rw [z] at e
        cases e)
  have tb : ∀ p ∈ cs, TabB (hidT s1.heap H) mg p.1 p.2 := fun p hp => by
    have tp := tabs p hp
    refine ⟨?_, ?_, fun z => ?_⟩
    · obtain ⟨o, vs, file, tf, flags, tg, inF, text, tt, e1, r1, r2, r3, rest⟩ := code p hp
      refine ⟨o, vs, file, tf, flags, tg, inF, text, tt, hidT_get e1 (off e1 (fun vs n z => ?_) fun z => ?_), r1, r2, r3, rest⟩
      · rw [r2] at z
        cases z
      · rw [r2] at z
        cases z
        simp at r3
    · obtain ⟨bm, ob, b1, b2, b3, b4, b5, b6⟩ := bmain
      refine ⟨bm, ob, b1, b2, fun q => ?_, fun q => ?_, hidT_get b3 (off b3 (fun vs n z => ?_) fun z => ?_), b4, b5, b6⟩
      · obtain ⟨o, es, ep, e, hd, _⟩ := main
        rw [q, e] at b3
        cases b3
        rw [hd] at b6
        cases b6
      · rw [q, tp] at b3
        cases b3
        cases b6
      · rw [b6] at z
        cases z
      · rw [b6] at z
        cases z
    · obtain ⟨o, es, ep, e, hd, _⟩ := main
      rw [z, tp] at e
      cases e
      cases hd
  have env : Env0 P w K mg (hidT s1.heap H) callerA [] s1 H := {
    frames := rfl
    mod := ⟨kin, notDict main, ⟨mb, notDict blts, boot⟩, lim.elim fun mc z => ⟨mc, notDict z.1, z.2⟩⟩
    bs := fun b o z => of_hidT z
    bsz := Nat.le_of_eq (hidT_size _ _)
    funs := trivial
    frf := fun b z => by cases z
    hok := hok
    bare := .of_eq gens }
  refine codeAny_mono ((F _ kin (notDict main) tb).go callerA [] s1 _ ⟨[.ref a], []⟩ [.ref a] [.ref a] _ rfl room env (bind s1 (.ref a)) (.cons rfl .nil) rfl (prom _ only lies)) fun r s2 h => ?_
  match r, h with
  | .error e, h => exact h.elim
  | .ok .next, h => exact h.elim
  | .ok .brk, h => exact h.elim
  | .ok .cont, h => exact h.elim
  | .ok (.ret u), ⟨v, H2, os, bare, un, hok2, ru, q⟩ =>
    subst q
    obtain rfl : u = Value.bool true := ru
    have key : ∀ b o, b ∉ cs.map (·.2) → s1.heap.get? b = some o → s2.heap.get? b = some o := fun b o nb e => by
      cases q : H b with
      | none => exact un.keep b o e q (fun z => by cases z) (by simp)
      | some u =>
        rcases on q with ⟨q1, _⟩ | ⟨_, q1⟩
        · exact absurd q1 nb
        · have e2 := (scrH_on q1).2
          subst e2
          have k1 := (hok b _ q).1
          have k2 := (hok2 b _ (un.frzs b _ _ q)).1
          rw [e] at k1
          cases k1
          exact k2
    have grown : ∀ p ∈ cs, ∃ more : Array Value, s2.heap.get? p.2 = some { cls := .none, data := .fields more } := fun p hp => by
      obtain ⟨more, z⟩ := un.tbls p.2 #[] (isT p hp)
      exact ⟨_, hok2 p.2 _ z⟩
    refine ⟨rfl, ⟨fun b o e => ?_, fun b o e => ?_⟩, os, bare⟩
    · by_cases hb : b ∈ cs.map (·.2)
      · obtain ⟨p, hp, rfl⟩ := List.mem_map.mp hb
        obtain ⟨more, hm⟩ := grown p hp
        rw [tabs p hp] at e
        cases e
        exact .inr (.inl ⟨((code p hp).tab (tabs p hp)).isCodeTable, rfl, #[], more, rfl, by rw [Array.empty_append]; exact hm⟩)
      · exact .inl (key b o hb e)
    · by_cases hb : b ∈ cs.map (·.2)
      · obtain ⟨p, hp, rfl⟩ := List.mem_map.mp hb
        obtain ⟨more, hm⟩ := grown p hp
        exact ⟨_, hm⟩
      · exact ⟨o, key b o hb e⟩
end
theorem walk_ofT {l : PySem.W.OpenLaw} {n k : Nat} {q : Program} {loose : List Str} {XP : (Str → Option Value) → Heap → Prop} {YP : World → Heap → Prop} {d : DefRec} {K : Params → PySem.W.Frag} {sp : World → Sp} {x : Str} {cs : List (Addr × Addr)}
    (hn : l.most = some n) (hn2 : n ≤ sizeLine) (hdf : d.params.defaults = []) (room : Room k callerA) (hY : ∀ (w : World) (h : Heap), YP w h → (K w.params).In h)
    (tabs : ∀ (w : World) (h : Heap), YP w h → ∀ p ∈ cs, h.get? p.2 = some { cls := .none, data := .fields #[] }) (notK : ∀ (w : World), ∀ p ∈ cs, (K w.params).lookup p.2 = none) (code : ∀ (w : World), ∀ p ∈ cs, PySem.W.codeHdIn (K w.params) p.1 p.2 = true)
    (F : ∀ (w : World) (mg : Str → Option Value) (fa : Addr) (h : Heap), (K w.params).In h → h.Ns mainGlobals mg → mg d.name = some (.ref fa) →
      ∃ fd : FuncData, (∀ (s : Shared) (u : Value), BindsTo s fd ⟨[u], []⟩ [(x, u)]) ∧ ∀ base : Heap, (K w.params).In base → base.Ns mainGlobals mg → (∀ p ∈ cs, TabB base mg p.1 p.2) → FnG l.prog w (K w.params) mg base k fa fd [x] (sp w))
    (prom : ∀ (w : World) (H : Hp) (a : Addr) (ns : List Int), ns.length ≤ n → OnlyT (cs.map fun p => (p.2, "")) H → SqL (K w.params) H a (ns.map V.int) → sp w [.ref a] H (fun v _ => v = .bl true) fun _ _ _ => False) :
    PySem.W.WalkO q loose XP YP l.row.toRowW d [] (fun f vs => PySem.call f vs) := by
  refine Att.attach_call hn hdf fun w s0 s1 mg mb fa o pm cd doc a us ns G Y _ _ _ named obj nums len gens => ?_
  obtain ⟨fd, bind, run⟩ := F w mg fa _ (hY w _ Y) G.T.g named
  exact law_callT (hY w _ Y) G.T.g G.T.b G.T.builtins G.T.nolimit gens (tabs w _ Y) (notK w) (fun p hp => PySem.W.codeHd_of_K (hY w _ Y) (code w p hp)) G.T.bmain obj nums (Nat.le_trans len hn2) room run bind fun H hO hS => prom w H a ns len hO hS
theorem fnG_of_ok {P : Program} {w : World} {K : PySem.W.Frag} {mg : Str → Option Value} {base : Heap} {k : Nat} {f : Addr} {fd : FuncData} {ps : List Str} {sp : Sp} (F : FnOk P w K mg base CX0 k f fd ps sp) : FnG P w K mg base k f fd ps sp :=
  ⟨fun A outer s H args us vs Q _ room env bind rel _ h => F.run A outer s H args us vs Q _ room env bind rel h⟩
theorem OnlyT.ren {cs : List (Addr × Addr)} {tb : List (Addr × Str)} {H : Hp} (h : OnlyT (cs.map fun p => (p.2, "")) H) (e : tb.map (·.1) = cs.map (·.2)) : OnlyT tb H := ⟨h.1, fun p hp => by
  have : p.1 ∈ cs.map (·.2) := by rw [← e]; exact List.mem_map.mpr ⟨p, hp, rfl⟩
  obtain ⟨q, hq, hqe⟩ := List.mem_map.mp this
  rw [← hqe]
  exact h.2 (q.2, "") (List.mem_map.mpr ⟨q, hq, rfl⟩)⟩
end DL
namespace DL
open PySem PySem.Spec L2
open PyProof.Rows hiding St
open LamX (CodeO TabB TabS Tabs ExtN codeO_ne inv_table among_app)
open NdefX (NScope CellsAt inv_startN startF ncx envF)
abbrev lamO (L : LamI) (cl : List (Str × Addr)) (pm : Value) (c : Addr) (ctv : Value) : Obj := PySem.W.kla_obj "<lambda>" L.qual L.params L.body L.scope cl pm c ctv
def CAx.wv (ca : CAx) (cv : List CloI) : CAx := ⟨ca.f, ca.tb, ca.lm, cv⟩
section
open Classical
noncomputable def mix (C : Addr → Prop) (H0 H : Hp) : Hp := fun b => if C b then H0 b else H b
variable {C : Addr → Prop} {H0 H : Hp} {b : Addr}
theorem mix_in (h : C b) : mix C H0 H b = H0 b := if_pos h
theorem mix_out (h : ¬ C b) : mix C H0 H b = H b := if_neg h
end
def Cel (C : Addr → Prop) (H : Hp) : Prop := ∀ b, C b → H b = none ∨ ∃ oc ov, H b = some (.frz oc (.own b)) ∧ oc.data = .cell ov
section
variable {C : Addr → Prop} {H0 H : Hp} {K : PySem.W.Frag} {P : Program} {w : World} {h : Heap}
theorem Cel.own (c : Cel C H) {b y : Addr} (e : H b = some (.own y)) : ¬ C b := fun z => by
  rcases c b z with q | ⟨oc, ov, q, _⟩ <;> rw [e] at q <;> cases q
theorem Cel.tup (c : Cel C H) {b : Addr} {xs : List V} (e : H b = some (.tup xs)) : ¬ C b := fun z => by
  rcases c b z with q | ⟨oc, ov, q, _⟩ <;> rw [e] at q <;> cases q
theorem Cel.frz (c : Cel C H) {b : Addr} {od : Obj} {u : HO} (e : H b = some (.frz od u)) (n : (∀ y, u ≠ .own y) ∨ ∀ ov, od.data ≠ .cell ov) : ¬ C b := fun z => by
  rcases c b z with q | ⟨oc, ov, q, d⟩ <;> rw [e] at q <;> cases q
  rcases n with n | n
  · exact n _ rfl
  · exact n _ d
theorem Cel.code (c : Cel C H) {b : Addr} {q : Str} (e : H b = some (CodeO b q)) : ¬ C b := fun z => by
  rcases c b z with y | ⟨oc, ov, y, d⟩ <;> rw [e] at y
  · cases y
  · exact codeO_frz (Option.some.inj y)
theorem Cel.tbl (c : Cel C H) {b : Addr} {ps : Array Value} (e : H b = some (.tbl ps)) : ¬ C b := fun z => by
  rcases c b z with y | ⟨oc, ov, y, d⟩ <;> rw [e] at y <;> cases y
theorem hok_mix (hok : HOk P w H h) (c : Cel C H) (h0 : ∀ b u, C b → H0 b = some u → ObjOk P w (mix C H0 H) h b u) : HOk P w (mix C H0 H) h := fun b u e => by
  by_cases z : C b
  · rw [mix_in z] at e
    exact h0 b u z e
  · rw [mix_out z] at e
    exact (hok b u e).stay (fun _ _ _ q => q) (fun d q => by rw [mix_out (c.own q)]; exact q) fun d xs q => by rw [mix_out (c.tup q)]; exact q
theorem sqT_mix (c : Cel C H) {a : Addr} {vs : List V} (q : SqT K H a vs) : SqT K (mix C H0 H) a vs := by
  rcases q with (q | ⟨o, q⟩) | q
  · exact .inl (.inl (by rw [mix_out (c.tup q)]; exact q))
  · exact .inl (.inr ⟨o, by rw [mix_out (c.frz q (.inl fun _ z => by cases z))]; exact q⟩)
  · exact .inr q
theorem scL_mix (c : Cel C H) {a : Addr} {vs : SK × List V} (q : ScL K H a vs) : ScL K (mix C H0 H) a vs := by
  obtain ⟨b, vs⟩ := vs
  cases b with
  | tup =>
    rcases q with ⟨u, q, n⟩ | q
    · exact .inl ⟨u, by rw [mix_out (c.frz q (.inl fun _ z => by cases z))]; exact q, n⟩
    · exact .inr q
  | scr =>
    rcases q with ⟨u, q⟩ | q
    · exact .inl ⟨u, by rw [mix_out (c.frz q (.inl fun _ z => by cases z))]; exact q⟩
    · exact .inr q
  | clo i => exact q.elim
theorem extW_mix {r : List Addr} (c : Cel C H) : ExtW K r H r (mix C H0 H) := ⟨List.prefix_refl _, fun _ _ q => sqT_mix c q, fun _ _ q => scL_mix c q⟩
theorem tabR_mix {r : List Addr} {T : Addr} {q : Str} (c : Cel C H) (t : TabR r H T q) : TabR r (mix C H0 H) T q := by
  obtain ⟨n, ps, h1, h2, h3⟩ := t
  refine ⟨n, ps, by rw [mix_out (c.tbl h1)]; exact h1, h2, fun pos cv e => ?_⟩
  obtain ⟨d, e1, e2, e3⟩ := h3 pos cv e
  exact ⟨d, e1, e2, by rw [mix_out (c.code e3)]; exact e3⟩
theorem CloR.keepC {lm : Nat → Option LamI} {r r' : List Addr} {H H' : Hp} {p : CloI} (t : CloR lm r H p) (hf : ∀ (a : Addr) (od : Obj), (a = p.f ∨ ∃ y, p.cl.lookup y = some a) → H a = some (.frz od (.own a)) → H' a = some (.frz od (.own a))) (hc : ∀ c q, H c = some (CodeO c q) → c ∉ r → H' c = some (CodeO c q) ∧ c ∉ r') : CloR lm r' H' p := by
  obtain ⟨L, pm, ctv, h1, h2, h3, h4, h5, h6⟩ := t.fn
  obtain ⟨k1, k2⟩ := hc _ _ h3 h4
  refine ⟨⟨L, pm, ctv, h1, hf _ _ (.inl rfl) h2, k1, k2, h5, fun j y v e1 e2 => ?_⟩, fun y c e => ?_, t.inj, t.nil⟩
  · obtain ⟨c, oc, u, q1, q2, q3, q4⟩ := h6 j y v e1 e2
    exact ⟨c, oc, u, q1, hf _ _ (.inr ⟨_, q1⟩) q2, q3, q4⟩
  · obtain ⟨oc, ov, q1, q2⟩ := t.ce y c e
    exact ⟨oc, ov, hf _ _ (.inr ⟨_, e⟩) q1, q2⟩
theorem CloR.obj {lm : Nat → Option LamI} {r : List Addr} {p : CloI} (t : CloR lm r H p) : ∃ od, H p.f = some (.frz od (.own p.f)) ∧ ∀ ov, od.data ≠ .cell ov := by
  obtain ⟨L, pm, ctv, h1, h2, _⟩ := t.fn
  exact ⟨_, h2, fun ov z => by cases z⟩
theorem RepS.cel {G : Ctx} {r : List Addr} {S : Sto} (R : RepS G r S H) (c : Cel C H) {b : Addr} (z : C b) : b ∉ r := fun hm => by
  rcases c b z with q | ⟨oc, ov, q, d⟩
  · exact R.free q hm
  · obtain ⟨n, hn, hlt⟩ := List.mem_iff_getElem.mp hm
    have hn' : n < S.length := by rw [← R.len]; exact hn
    have ov := R.at_ n S[n] b (List.getElem?_eq_getElem hn') (by rw [List.getElem?_eq_getElem hn, hlt])
    revert ov
    cases S[n] with
    | lst ds => rintro ⟨vs, e, _⟩; rw [q] at e; cases e
    | dct kvs => rintro ⟨_, _, _, es, e, _⟩; rw [q] at e; cases e
    | ins c fs => rintro ⟨dx, vs, e, _⟩; rw [q] at e; cases e
    | lck kvs => rintro ⟨_, _, _, od, es, e, _⟩; rw [q] at e; cases e
    | clo i ds =>
      rintro ⟨_, p, hp, e, _⟩
      subst e
      obtain ⟨od, e2, n⟩ := (R.clos p hp).obj
      rw [q] at e2
      cases e2
      exact n _ d
    | dead =>
      rintro ⟨od, e, n⟩
      rw [q] at e
      cases e
      exact n _ d
theorem OV.wv {ca : CAx} {cv' : List CloI} {r r' : List Addr} {H H' : Hp} (x : ExtW K r H r' H') {a : Addr} (k : H' a = H a) : ∀ {o : Ob}, (∀ i ds, o = .clo i ds → ∀ p ∈ ca.cv, p.f = a → p.i = i → DVs K r H ds p.vs → p ∈ cv') → OV ⟨K, w, ca⟩ r H a o → OV ⟨K, w, ca.wv cv'⟩ r' H' a o
  | .lst ds, _, h => OV.ext (G := ⟨K, w, ca⟩) (o := .lst ds) x k h
  | .dct kvs, _, h => OV.ext (G := ⟨K, w, ca⟩) (o := .dct kvs) x k h
  | .ins c fs, _, h => OV.ext (G := ⟨K, w, ca⟩) (o := .ins c fs) x k h
  | .lck kvs, _, h => OV.ext (G := ⟨K, w, ca⟩) (o := .lck kvs) x k h
  | .clo i ds, hc, h => by
    obtain ⟨⟨od, e⟩, p, hp, e1, e2, q⟩ := h
    exact ⟨⟨od, k.trans e⟩, p, hc i ds rfl p hp e1 e2 q, e1, e2, DVs.extW x _ _ q⟩
  | .dead, _, h => OV.ext (G := ⟨K, w, ca⟩) (o := .dead) x k h
end
def maskO : Ob → Ob
  | .clo i [] => .clo i []
  | .clo i (_ :: _) => .dead
  | .lst ds => .lst ds
  | .dct kvs => .dct kvs
  | .ins c fs => .ins c fs
  | .lck kvs => .lck kvs
  | .dead => .dead
def maskS (S : Sto) : Sto := S.map maskO
def backO (S1 : Sto) (n : Nat) (o : Ob) : Ob := match S1[n]? with
  | some (.clo i ds) => .clo i ds
  | _ => o
def backS (S1 S2 : Sto) : Sto := S2.mapIdx (backO S1)
def cellsC (cl : List (Str × Addr)) : Addr → Prop := fun b => ∃ y, cl.lookup y = some b
def noCl (cv : List CloI) : List CloI := cv.filter fun q => q.cl.isEmpty
theorem mem_noCl {cv : List CloI} {q : CloI} : q ∈ noCl cv ↔ q ∈ cv ∧ q.cl = [] := by
  unfold noCl
  rw [List.mem_filter, List.isEmpty_iff]
section
variable {K : PySem.W.Frag} {w : World} {ca : CAx} {r r2 : List Addr} {S S2 : Sto} {H H2 : Hp} {p : CloI}
theorem CloR.cel (t : CloR ca.lm r H p) : Cel (cellsC p.cl) H := fun b ⟨y, e⟩ => by
  obtain ⟨oc, ov, q1, q2⟩ := t.ce y b e
  exact .inr ⟨oc, ov, q1, q2⟩
theorem rep_utk (R : RepS ⟨K, w, ca⟩ r S H) (hp : p ∈ ca.cv) : RepS ⟨K, w, ca.wv (noCl ca.cv)⟩ r (maskS S) (mix (cellsC p.cl) (fun _ => none) H) := by
  have c : Cel (cellsC p.cl) H := (R.clos p hp).cel
  refine ⟨by unfold maskS; rw [List.length_map]; exact R.len, R.nd, fun n o a e1 e2 => ?_, fun q hq => tabR_mix c (R.tabs q hq), fun q hq => ?_⟩
  · unfold maskS at e1
    rw [List.getElem?_map] at e1
    cases e3 : S[n]? with
    | none => rw [e3] at e1; cases e1
    | some o1 =>
      rw [e3] at e1
      cases e1
      have h := R.at_ n o1 a e3 e2
      have nc : ¬ cellsC p.cl a := fun z => R.cel c z (List.mem_of_getElem? e2)
      have hk : mix (cellsC p.cl) (fun _ => none) H a = H a := mix_out nc
      cases o1 with
      | lst ds => exact OV.wv (extW_mix c) hk (o := .lst ds) (fun _ _ z => by cases z) h
      | dct kvs => exact OV.wv (extW_mix c) hk (o := .dct kvs) (fun _ _ z => by cases z) h
      | ins c2 fs => exact OV.wv (extW_mix c) hk (o := .ins c2 fs) (fun _ _ z => by cases z) h
      | lck kvs => exact OV.wv (extW_mix c) hk (o := .lck kvs) (fun _ _ z => by cases z) h
      | dead => exact OV.wv (extW_mix c) hk (o := .dead) (fun _ _ z => by cases z) h
      | clo i ds =>
        cases ds with
        | nil =>
          refine OV.wv (extW_mix c) hk (o := .clo i []) (fun i2 ds2 z q hq _ _ dv => ?_) h
          cases z
          refine mem_noCl.mpr ⟨hq, ?_⟩
          obtain ⟨L, pm, ctv, k1, _, _, _, k5, _⟩ := (R.clos q hq).fn
          unfold DVs at dv
          rw [dv] at k5
          exact (R.clos q hq).nil L k1 (List.length_eq_zero_iff.mp k5.symm)
        | cons d ds =>
          obtain ⟨_, q, hq, e4, _⟩ := h
          subst e4
          obtain ⟨od, e5, n5⟩ := (R.clos q hq).obj
          exact ⟨od, hk.trans e5, n5⟩
  · obtain ⟨hq, e⟩ := mem_noCl.mp hq
    refine (R.clos q hq).keepC (fun a od ha h => ?_) fun d x h n => ⟨by rw [mix_out (c.code h)]; exact h, n⟩
    rcases ha with rfl | ⟨y, hy⟩
    · obtain ⟨od2, e5, n5⟩ := (R.clos q hq).obj
      rw [mix_out (c.frz e5 (.inr n5))]
      exact h
    · rw [e] at hy
      cases hy
theorem ext_rtk {C : Addr → Prop} {G G' : Ctx} (hG : G'.K = K) {H : Hp} (c : Cel C H) (x : Ext K r (mix C (fun _ => none) H) r2 H2) (R2 : RepS G' r2 S2 H2) (hn : ∀ b, C b → H2 b = none) : Ext K r H r2 (mix C H H2) := by
  have c2 : Cel C H2 := fun b z => .inl (hn b z)
  refine ⟨x.pre, fun a vs q => sqT_mix c2 (x.tups _ _ (sqT_mix c q)), fun a vs q => scL_mix c2 (x.scrs _ _ (scL_mix c q)), fun a u e n nt => ?_, fun a od u e => ?_⟩
  · by_cases z : C a
    · exact ⟨by rw [mix_in z]; exact e, R2.free (hn a z)⟩
    · obtain ⟨h1, h2⟩ := x.frame a u (by rw [mix_out z]; exact e) n nt
      exact ⟨by rw [mix_out z]; exact h1, h2⟩
  · by_cases z : C a
    · rw [mix_in z]; exact e
    · rw [mix_out z]; exact x.frzs a od u (by rw [mix_out z]; exact e)
theorem rep_rtk {C : Addr → Prop} (R : RepS ⟨K, w, ca⟩ r S H) (c : Cel C H) {cv' : List CloI} (hs : ∀ q ∈ cv', q ∈ ca.cv) (x : Ext K r (mix C (fun _ => none) H) r2 H2) (R2 : RepS ⟨K, w, ca.wv cv'⟩ r2 S2 H2) (hn : ∀ b, C b → H2 b = none) :
    RepS ⟨K, w, ca⟩ r2 (backS S S2) (mix C H H2) := by
  have c2 : Cel C H2 := fun b z => .inl (hn b z)
  have X := ext_rtk (K := K) (G := ⟨K, w, ca⟩) rfl c x R2 hn
  refine ⟨by unfold backS; rw [List.length_mapIdx]; exact R2.len, R2.nd, fun n o a e1 e2 => ?_, fun q hq => tabR_mix c2 (R2.tabs q hq), fun q hq => (R.clos q hq).keep (fun a od h => X.frzs a od _ h) fun d y h n => X.frame d _ h n codeO_ne⟩
  unfold backS at e1
  rw [List.getElem?_mapIdx] at e1
  cases e3 : S2[n]? with
  | none => rw [e3] at e1; cases e1
  | some o2 =>
    rw [e3] at e1
    have e1 : backO S n o2 = o := Option.some.inj e1
    have h2 := R2.at_ n o2 a e3 e2
    have nc : ¬ C a := fun z => R2.cel c2 z (List.mem_of_getElem? e2)
    have dflt : OV ⟨K, w, ca⟩ r2 (mix C H H2) a o2 := OV.wv (ca := ca.wv cv') (cv' := ca.cv) (extW_mix c2) (mix_out nc) (fun i ds _ q hq _ _ _ => hs q hq) h2
    unfold backO at e1
    split at e1
    · rename_i i ds e4
      subst e1
      have hlt : n < r.length := by rw [R.len]; exact (List.getElem?_eq_some_iff.mp e4).1
      obtain ⟨a0, ea0⟩ : ∃ a0, r[n]? = some a0 := ⟨_, List.getElem?_eq_getElem hlt⟩
      have := pre_get x.pre ea0
      rw [e2] at this
      cases this
      obtain ⟨⟨od, e5⟩, q, hq, e6, e7, dv⟩ := R.at_ n _ a e4 ea0
      exact ⟨⟨od, X.frzs _ _ _ e5⟩, q, hq, e6, e7, DVs.ext X _ _ dv⟩
    · subst e1
      exact dflt
end
structure LamOk (P : Program) (w : World) (K : PySem.W.Frag) (mg : Str → Option Value) (base : Heap) (k : Nat) (L : LamI) (n : Nat) (G : Ctx) (m : FM) : Prop where
  run : ∀ (A : Around) (outer : List Env) (s : Shared) (H : Hp) (f c : Addr) (cl : List (Str × Addr)) (pm ctv : Value) (us : List Value) (vs ws : List V) (Q : VK), Room k A → Env0 P w K mg base A outer s H →
    s.heap.get? f = some (lamO L cl pm c ctv) → H c = some (CodeO c L.qual) → CellsAt cl L.fr (ws.map some) s.heap H → Vals vs us → vs.length = n → spD G (n + L.fr.length) m (vs ++ ws) H Q (fun _ _ _ => False) →
    codeAny (model P w) A (.call (.ref f) ⟨us, []⟩) (CR CX0 outer P w H s Q E0) s
def runE (m n : Nat) (te : EM) : FM := fun ds S => if ds.length = m then te (ds.map some ++ List.replicate (n - ds.length) none) S else none
abbrev lamN (L : LamI) (cl : List (Str × Addr)) (c : Addr) : NdefX.NF := ⟨"<lambda>", L.qual, L.params, [], L.scope, cl, c⟩
section
variable {P : Program} {w : World} {K : PySem.W.Frag} {mg : Str → Option Value} {base : Heap} {k : Nat} {L : LamI} {ca : CAx}
theorem lam_zero {n : Nat} {G : Ctx} {m : FM} (h : ∀ ds S, m ds S = none) : LamOk P w K mg base k L n G m :=
  ⟨fun A outer s H f c cl pm ctv us vs ws Q hr e0 hf hc C rv hl ⟨_, S, ds, d, S', R, q, hl2, e, _⟩ => by rw [h] at e; cases e⟩
theorem start_eq {N : List Str} {vs ws : List V} : startF N vs (ws.map some) = L2.start N (vs ++ ws) := by
  unfold startF L2.start
  simp [Nat.sub_add_eq]
theorem lam_ok {N ps : List Str} {te : EM} (S : NScope N ps L.fr L.scope) (hb : ∀ (cl : List (Str × Addr)) (pm cv ctv : Value) (us : List Value), us.length = ps.length → bindArgs (PySem.W.kla_fn "<lambda>" L.qual L.params L.body L.scope cl pm cv ctv) ⟨us, []⟩ = pure (ps.zip us))
    (hbody : ∀ (A : Around) (outer : List Env) (s : Shared) (H : Hp) (f c : Addr) (cl : List (Str × Addr)), Room k (A.deeper (envF (lamN L cl c) f s.heap.objs.size)) → PE (ncx CX0 P w K mg base N (lamN L cl c) f A outer s H E0) L.body (liftE ⟨K, w, ca⟩ te)) :
    LamOk P w K mg base (k + 1) L ps.length ⟨K, w, ca⟩ (runE (ps.length + L.fr.length) N.length te) := by
  refine ⟨fun A outer s H f c cl pm ctv us vs ws Q hr e0 ho hc C r hl h => ?_⟩
  have lim : s.heap.NoLimit := e0.mod.nolimit.keeps fun b o e => (e0.bs b o e).1
  refine PySem.W.kla_callFunE hr.depth ho rfl S.co S.gen rfl (NdefX.codeO_at e0.hok hc) ?_
  rw [hb _ _ _ _ us (by rw [← r.length]; exact hl)]
  refine wpAny_pure (wpAny_newFunctionEnv S.nocell (fun ⟨n, _⟩ hy => S.par n (List.of_mem_zip hy).1) (fun h₁ hns hsb => ⟨lim.fresh _ hsb, ?_⟩) S.kind)
  have kp : ∀ b o, s.heap.get? b = some o → h₁.get? b = some o := fun b o e => hsb.extBut b o (Nat.ne_of_lt (Heap.lt_size e)) (Heap.get?_push_of_some _ e)
  have I : Inv (ncx CX0 P w K mg base N (lamN L cl c) f A outer s H E0) [] (startF N vs (ws.map some)) H { s with heap := h₁, toks := s.toks + (ps.zip us).length } := inv_startN S hr.hd e0 hl r C hns kp
  show codeAny _ _ (.expr L.body (envF (lamN L cl c) f s.heap.objs.size)) _ _
  obtain ⟨r0, S0, ds, d, S', R, q, hl2, e, kq⟩ := h
  unfold runE at e
  rw [if_pos hl2] at e
  refine PySem.W.kla_codeExpr (wpAny_mono ((hbody A outer s H f c cl (hr.deeper _)).run [] _ _ H Q I ?_) (fun v s' hq => ?_) fun e s' hq => hq)
  · refine ⟨r0, _, S0, d, S', R, ?_, e, kq⟩
    rw [start_eq]
    exact vars_start q
  · obtain ⟨w', H', J', rv, q⟩ := hq
    exact ⟨w', H', J'.os, J'.bare, J'.base, J'.hok, rv, q⟩
end
section
variable {X : Cx} {ca : CAx} {pins : List (Addr × Obj)} {σ : L2.St} {r : List Addr} {S : Sto} {H : Hp} {s : Shared} {p : CloI} {n : Nat} {k : Nat} {m : FM}
theorem run_clo {L : LamI} {us : List Value} {vs : List V} {xs ds : List D} {d : D} {S2 : Sto} {Q : VK} (F : LamOk X.prog X.w X.K X.mg X.base k L n ⟨X.K, X.w, ca.wv (noCl ca.cv)⟩ m) (hr : Room k X.A) (I : Inv X pins σ H s) (R : RepS (gx X ca) r S H) (hp : p ∈ ca.cv) (hL : ca.lm p.i = some L)
    (rv : Vals vs us) (dx : DVs X.K r H xs vs) (hx : xs.length = n) (dv : DVs X.K r H ds p.vs) (e : m (xs ++ ds) (maskS S) = some (d, S2)) (kq : ∀ r' H' v, Ext X.K r H r' H' → RepS (gx X ca) r' (backS S S2) H' → DV X.K r' H' d v → Q v H') :
    codeAny (model X.prog X.w) X.A (.call (.ref p.f) ⟨us, []⟩) (CR CX0 X.stack X.prog X.w H s Q E0) s := by
  have t := R.clos p hp
  have c : Cel (cellsC p.cl) H := t.cel
  have e0 := I.env0
  obtain ⟨L', pm, ctv, h1, h2, h3, h4, h5, h6⟩ := t.fn
  rw [hL] at h1
  cases h1
  have ho : s.heap.get? p.f = some (lamO L p.cl pm p.c ctv) := (I.hok _ _ h2).1
  have hokU : HOk X.prog X.w (mix (cellsC p.cl) (fun _ => none) H) s.heap := hok_mix I.hok c fun b u z e => by cases e
  have nU : ∀ b, H b = none → mix (cellsC p.cl) (fun _ => none) H b = none := fun b e => by
    by_cases z : cellsC p.cl b
    · exact mix_in z
    · rw [mix_out z]; exact e
  have e1 : Env0 X.prog X.w X.K X.mg X.base X.A X.stack s (mix (cellsC p.cl) (fun _ => none) H) := ⟨e0.frames, e0.mod, fun b o q => ⟨(e0.bs b o q).1, nU b (e0.bs b o q).2⟩, e0.bsz, e0.funs, fun b hb => nU b (e0.frf b hb), hokU, e0.bare⟩
  have cellH : ∀ y b, p.cl.lookup y = some b → ∃ oc ov, H b = some (.frz oc (.own b)) ∧ s.heap.get? b = some oc ∧ oc.data = .cell ov := fun y b q => by
    obtain ⟨oc, ov, q1, q2⟩ := t.ce y b q
    exact ⟨oc, ov, q1, (I.hok _ _ q1).1, q2⟩
  have C : CellsAt p.cl L.fr (p.vs.map some) s.heap (mix (cellsC p.cl) (fun _ => none) H) := by
    refine ⟨by rw [List.length_map]; exact h5, fun y b q => ?_, t.inj, fun i y q => ?_⟩
    · obtain ⟨oc, ov, _, q2, q3⟩ := cellH y b q
      exact ⟨mix_in ⟨y, q⟩, ov, oc, q2, q3⟩
    · have hi : i < p.vs.length := by rw [h5]; exact (List.getElem?_eq_some_iff.mp q).1
      obtain ⟨b, oc, u, q1, q2, q3, q4⟩ := h6 i y p.vs[i] q (List.getElem?_eq_getElem hi)
      refine ⟨b, q1, fun v ev => ?_⟩
      rw [List.getElem?_map, List.getElem?_eq_getElem hi] at ev
      cases ev
      exact ⟨u, q4, oc, (I.hok _ _ q2).1, q3⟩
  have R1 := rep_utk R hp
  have xw : ExtW X.K r H r (mix (cellsC p.cl) (fun _ => none) H) := extW_mix c
  refine codeAny_mono (F.run X.A X.stack s _ p.f p.c p.cl pm ctv us vs p.vs (fun v H2 => ∃ r2, Ext X.K r (mix (cellsC p.cl) (fun _ => none) H) r2 H2 ∧ RepS ⟨X.K, X.w, ca.wv (noCl ca.cv)⟩ r2 S2 H2 ∧ DV X.K r2 H2 d v) hr e1 ho ?_ C rv (by rw [dx.length]; exact hx) ?_) fun res s' hq => ?_
  · rw [mix_out (c.code h3)]
    exact h3
  · refine ⟨r, maskS S, xs ++ ds, d, S2, R1, (DVs.extW xw _ _ dx).append (DVs.extW xw _ _ dv), ?_, e, fun r2 H2 v x2 R2 q2 => ⟨r2, x2, R2, q2⟩⟩
    rw [List.length_append, hx, ← dv.length, h5]
  · match res, hq with
    | .error e, hq => exact hq
    | .ok .next, hq => exact hq
    | .ok .brk, hq => exact hq
    | .ok .cont, hq => exact hq
    | .ok (.ret u), ⟨v, H2, os, bare, un, hok2, ru, r2, x2, R2, q2⟩ =>
      have inH : ∀ b, cellsC p.cl b → ∃ oc ov, H b = some (.frz oc (.own b)) ∧ s.heap.get? b = some oc ∧ oc.data = .cell ov := fun b ⟨y, q⟩ => cellH y b q
      have hn : ∀ b, cellsC p.cl b → H2 b = none := fun b z => by
        obtain ⟨oc, ov, _, q2, _⟩ := inH b z
        exact un.free b oc q2 (mix_in z) (by simp)
      have c2 : Cel (cellsC p.cl) H2 := fun b z => .inl (hn b z)
      have kc : ∀ b, cellsC p.cl b → ∃ oc, H b = some (.frz oc (.own b)) ∧ s'.heap.get? b = some oc := fun b z => by
        obtain ⟨oc, ov, q1, q2, _⟩ := inH b z
        exact ⟨oc, q1, un.keep b oc q2 (mix_in z) (fun hb => by rw [e0.frf b hb] at q1; cases q1) (by simp)⟩
      have nz : ∀ b, H b = none → ¬ cellsC p.cl b := fun b e z => by
        obtain ⟨oc, q1, _⟩ := kc b z
        rw [e] at q1
        cases q1
      refine ⟨v, mix (cellsC p.cl) H H2, os, bare, ⟨fun b o q n hb hx => un.keep b o q (nU b n) hb hx, fun b o q n hb hx => un.slot b o q (nU b n) hb hx, fun b o q n hx => ?_, un.there, fun b us q => ?_, fun b o u q => ?_, fun b ps q => ?_⟩, ?_, ru, ?_⟩
      · rw [mix_out (nz b n)]
        exact un.free b o q (nU b n) hx
      · rw [mix_out (c.tup q)]
        exact un.tups b us (by rw [mix_out (c.tup q)]; exact q)
      · by_cases z : cellsC p.cl b
        · rw [mix_in z]; exact q
        · rw [mix_out z]; exact un.frzs b o u (by rw [mix_out z]; exact q)
      · have z := c.tbl q
        obtain ⟨more, q2⟩ := un.tbls b ps (by rw [mix_out z]; exact q)
        exact ⟨more, by rw [mix_out z]; exact q2⟩
      · refine hok_mix hok2 c2 fun b u z q => ?_
        obtain ⟨oc, q1, q2⟩ := kc b z
        rw [q] at q1
        cases q1
        exact ⟨q2, oc, q2⟩
      · refine kq r2 _ v (ext_rtk (G := gx X ca) rfl c x2 R2 hn) (rep_rtk R c (fun q hq => (mem_noCl.mp hq).1) x2 R2 hn) ?_
        exact DV.extW (extW_mix c2) _ _ q2
end
structure AllL (P : Program) (w : World) (K : PySem.W.Frag) (mg : Str → Option Value) (base : Heap) (ca : CAx) (ar : Nat → Nat) (k : Nat) (cl : Nat → FM) : Prop where
  F : ∀ (cv : List CloI) (i : Nat) (L : LamI), ca.lm i = some L → LamOk P w K mg base k L (ar i) ⟨K, w, ca.wv cv⟩ (cl (1000 + i))
def mClo (j : Nat) (ar : Nat → Nat) (cl : Nat → FM) (la : LM) : EM := fun env S => match env[j]? with
  | some (some (.loc n)) => match S[n]? with
    | some (.clo i ds) => match la env S with
      | some (xs, S1) => if xs.length = ar i then match cl (1000 + i) (xs ++ ds) (maskS S1) with
        | some (d, S2) => some (d, backS S1 S2)
        | none => none
        else none
      | none => none
    | _ => none
  | _ => none
section
variable {X : Cx} {ca : CAx} {e : Expr} {es : List Expr} {la : LM} {x : Str} {p pos : Pos} {k j : Nat} {ar : Nat → Nat} {cl : Nat → FM}
theorem de_clo (C : AllL X.prog X.w X.K X.mg X.base ca ar k cl) (hr : Room k X.A) (ha : PA X (e :: es) (liftL (gx X ca) la)) (hN : X.N[j]? = some x := by rfl) (hv : Vis X.env.scope x := by first | exact Or.inl rfl | exact Or.inr (Or.inl rfl) | exact Or.inr (Or.inr rfl))
    (hdb : (x == ("__debug__" : Str)) = false := by decide) (hcd : (x == ("__classdict__" : Str)) = false := by decide)
    (he : starEach (e :: es) X.env = (false, eval e X.env) :: starEach es X.env := by rfl) (hpl : (backTo pos (starEach es X.env)).any (·.1) = false := by rfl) :
    PE X (.Call (.Name x p) (e :: es) [] pos) (liftE (gx X ca) (mClo j ar cl la)) := ⟨fun pins s σ H Q I h => by
  obtain ⟨r, env, S, d, S', R, W, h, kq⟩ := h
  unfold mClo at h
  split at h
  · rename_i n en
    split at h
    · rename_i i ds e1
      split at h
      · rename_i xs S1 e2
        split at h
        · rename_i hx
          split at h
          · rename_i d2 S2 e3
            cases h
            obtain ⟨v0, ev, qv⟩ := W.at_ j _ en
            unfold DV at qv
            obtain ⟨b, eb, rfl⟩ := qv
            obtain ⟨⟨od, e4⟩, q, hq, rfl, rfl, dv⟩ := R.at_ _ _ _ e1 eb
            have fnat : ∀ {H1 : Hp} {s1 : Shared} {r1 : List Addr} {S1 : Sto}, RepS (gx X ca) r1 S1 H1 → Inv X pins σ H1 s1 → PySem.W.FnAt q.f s1.heap := fun R1 I1 => by
              obtain ⟨L', pm, ctv, h1, h2, _⟩ := (R1.clos q hq).fn
              exact ⟨_, _, _, _, (I1.hok _ _ h2).1⟩
            refine wpAny_Call_Name_kw (thn ((pe_var (pos := p) hN hv hdb hcd).run pins s σ H (fun v H1 => v = .ref q.f ∧ H1 = H) I ⟨.ref q.f, ev, rfl, rfl⟩) fun u s1 ⟨v, H1, I1, r1, q1⟩ => ?_)
            obtain ⟨ev1, eH⟩ := q1
            subst ev1
            rw [eH] at I1
            obtain rfl : u = Value.ref q.f := r1
            refine PySem.W.callWith_F (first := []) (fnat R I1) (thn (ha.run pos pins s1 σ H (fun vs H1 => ∃ r1, Ext X.K r H r1 H1 ∧ RepS (gx X ca) r1 S1 H1 ∧ DVs X.K r1 H1 xs vs) I1 ⟨r, env, S, xs, S1, R, W, e2, fun r1 H1 vs x1 R1 q1 => ⟨r1, x1, R1, q1⟩⟩) fun us s2 ⟨vs, H2, I2, rv, r1, x1, R1, q1⟩ => ⟨fnat R1 I2, ?_⟩) he hpl
            show wpAny _ _ (call (.ref q.f) us) _ _ _
            obtain ⟨L', pm, ctv, h1, _⟩ := (R1.clos q hq).fn
            refine wpAny_call (codeAny_mono (run_clo (Q := Q) (C.F (noCl ca.cv) q.i L' h1) hr I2 R1 hq h1 rv q1 hx (DVs.ext x1 _ _ dv) e3 fun r' H' v x2 R2 q2 => kq r' H' v (x1.trans x2) R2 q2) fun r s' hq => ?_)
            cases r with
            | error e => exact pass0 pins σ H2 s2 e s' I2 hq
            | ok fl =>
              cases fl with
              | ret u => exact I2.after hq
              | next => exact False.elim hq
              | brk => exact False.elim hq
              | cont => exact False.elim hq
          · cases h
        · cases h
      · cases h
    · cases h
  · cases h⟩
end
end DL
namespace DL
open PySem PySem.Spec L2
open PyProof.Rows hiding St
open LamX (CodeO TabB TabS Tabs ExtN codeO_ne inv_table among_app)
open NdefX (NScope CellsAt clo_cm clo_has)
section
variable {X : Cx} {pins : List (Addr × Obj)} {σ : L2.St} {H : Hp} {s : Shared}
theorem inv_frz {o : Obj} {t' : Nat} (I : Inv X pins σ H s) (hf : o.isFreed = false := by rfl) : Inv X pins σ (upd H s.heap.objs.size (.frz o (.own s.heap.objs.size))) { s with heap := s.heap.push o, toks := t' } := by
  refine I.laid (a := s.heap.objs.size) (fun b u e => Heap.get?_push_of_some _ e) (Nat.le_refl _) ?_
  have e : (s.heap.push o).get? s.heap.objs.size = some o := Heap.get?_push_size _ hf
  exact ⟨e, ⟨_, e⟩⟩
theorem lam_make3 {T : List (Addr × Str)} {c P : Addr} {params : Arguments} {body : Expr} {scope : Scope} {pos : Pos} {E : Value → Shared → Prop} {Q : Value → Shared → Prop} (I : Inv X pins σ H s) (TB : TabB X.base X.mg c P) (hcode : X.env.code = .ref c)
    (hm : (P, X.env.qual ++ "<lambda>") ∈ T) (hu : ∀ p ∈ T, p.1 = P → p.2 = X.env.qual ++ "<lambda>") (hT : Tabs T H) (hdef : defaultsOf params X.env = ([], [])) (hfree : ∀ y ∈ scope.names, y.2 = .free → ∃ c, X.env.cells.lookup y.1 = some c)
    (h : ∀ (f c' : Addr) (pm ctv : Value) (H1 : Hp) (s' : Shared), Inv X pins σ H1 s' → ExtN H H1 → Tabs T H1 → H f = none →
      H1 f = some (.frz (PySem.W.kla_obj "<lambda>" (X.env.qual ++ "<lambda>") params body scope (cloFrom X.env.cells scope.names []) pm c' ctv) (.own f)) → H1 c' = some (CodeO c' (X.env.qual ++ "<lambda>")) → Q (.ref f) s') :
    wpAny (model X.prog X.w) X.A (eval (.Lambda params body scope pos) X.env) Q E s := by
  obtain ⟨ps, hP, ht, ha⟩ := hT _ hm
  refine PySem.W.kla_eval hdef ?_
  have bP : s.heap.BuiltinsAt X.mg P := TB.bm.keeps I.bk
  have hP' : s.heap.get? P = some { cls := .none, data := .fields ps } := I.hok P _ hP
  cases hc : codeAmong pos ps.toList with
  | none =>
    refine PySem.W.kla_makeFunction (mg := X.mg) (c := c) (P := P) (ps := ps) (closure_ok hfree) I.ok.glob (I.mod.glob.keeps I.bk) hcode (TB.code.keeps I.bk) hP' ht hc TB.gP bP fun c' ctv h' tk hx hge hlt hrec htb => ?_
    obtain ⟨c2, oc, vs, t, e2, hoc, hd, hv⟩ := hrec
    cases e2
    have hsz : s.heap.objs.size ≤ h'.objs.size := Nat.le_trans hge (Nat.le_of_lt hlt)
    have nC : H c' = none := I.hok.fresh hge
    have I1 := inv_table (t' := tk) (more := #[rawInt pos.line, rawInt pos.col, .ref c']) (h' := h') I hP (fun b o hb e => hx b o hb e) htb hge ⟨oc, vs, t, hoc, hd, hv⟩
    have hE : ExtN H (upd (upd H P (.tbl (ps ++ #[rawInt pos.line, rawInt pos.col, .ref c']))) c' (CodeO c' (X.env.qual ++ "<lambda>"))) := fun b o e n => by
      rw [upd_ne (ne_of_none e nC), upd_ne (fun z => n ps (Option.some.inj (e.symm.trans (by rw [z]; exact hP))))]
      exact e
    have eL : (ps ++ #[rawInt pos.line, rawInt pos.col, .ref c']).toList = ps.toList ++ [rawInt pos.line, rawInt pos.col, .ref c'] := by simp
    have T1 : Tabs T (upd (upd H P (.tbl (ps ++ #[rawInt pos.line, rawInt pos.col, .ref c']))) c' (CodeO c' (X.env.qual ++ "<lambda>"))) := fun p hp => by
      by_cases hb : p.1 = P
      · rw [hu p hp hb, hb]
        refine ⟨_, by rw [upd_ne (ne_of_none hP nC), upd_same], by rw [eL]; exact PySem.TriplesOk_snoc _ _ _ _ ht, fun p' cv hcv => ?_⟩
        rw [eL] at hcv
        rcases among_app _ ht hcv with z | z
        · obtain ⟨c0, e1, e2⟩ := ha p' cv z
          exact ⟨c0, e1, hE _ _ e2 codeO_ne⟩
        · exact ⟨c', z, upd_same⟩
      · obtain ⟨ps', a1, a2, a3⟩ := hT p hp
        refine ⟨ps', by rw [upd_ne (ne_of_none a1 nC), upd_ne hb]; exact a1, a2, fun p' cv hcv => ?_⟩
        obtain ⟨c0, e1, e2⟩ := a3 p' cv hcv
        exact ⟨c0, e1, hE _ _ e2 codeO_ne⟩
    have nF := I1.hok.fresh (Nat.le_refl _)
    refine h h'.objs.size c' ((X.mg "__name__").getD .none) ctv _ _ (inv_frz (t' := tk) I1) (fun b o e n => ?_) (T1.ext fun b o e => ?_) (I.hok.fresh hsz) upd_same ?_
    · exact (upd_ne (ne_of_none (hE b o e n) nF)).trans (hE b o e n)
    · exact (upd_ne (ne_of_none e nF)).trans e
    · exact (upd_ne (Nat.ne_of_lt hlt)).trans upd_same
  | some cv =>
    obtain ⟨c', e, hco⟩ := ha pos cv hc
    subst e
    refine PySem.W.kla_makeFunctionHit (mg := X.mg) (c := c) (P := P) (ps := ps) (closure_ok hfree) I.ok.glob (I.mod.glob.keeps I.bk) hcode (TB.code.keeps I.bk) hP' ht hc bP fun ctv h' tk hx hsz => ?_
    have I1 : Inv X pins σ H { s with heap := h', toks := tk } := I.kept hx
    have nF : H h'.objs.size = none := I1.hok.fresh (Nat.le_refl _)
    refine h h'.objs.size c' ((X.mg "__name__").getD .none) ctv _ _ (inv_frz (t' := tk) I1) (fun b o e n => ?_) (hT.ext fun b o e => ?_) nF upd_same ?_
    · exact (upd_ne (ne_of_none e nF)).trans e
    · exact (upd_ne (ne_of_none e nF)).trans e
    · exact (upd_ne (ne_of_none hco nF)).trans hco
end
inductive CA where
  | d (x : D)
  | c (i : Nat) (ds : List D)
abbrev CM := Vars → Sto → Option (List CA × Sto)
def cNil : CM := fun _ S => some ([], S)
def cCons (a : EM) (l : CM) : CM := fun env S => match a env S with
  | some (x, S1) => match l env S1 with
    | some (xs, S2) => some (.d x :: xs, S2)
    | none => none
  | none => none
def slotsD (env : Vars) : List Nat → Option (List D)
  | [] => some []
  | j :: js => match env[j]? with
    | some (some d) => match slotsD env js with
      | some ds => some (d :: ds)
      | none => none
    | _ => none
def cLam (i : Nat) (js : List Nat) (l : CM) : CM := fun env S => match slotsD env js with
  | some ds => match l env S with
    | some (xs, S2) => some (.c i ds :: xs, S2)
    | none => none
  | none => none
structure Made (X : Cx) (σ : L2.St) (lm : Nat → Option LamI) (H : Hp) (p : CloI) : Prop where
  fn : ∃ L pm ctv, lm p.i = some L ∧ H p.f = some (.frz (lamO L p.cl pm p.c ctv) (.own p.f)) ∧ H p.c = some (CodeO p.c L.qual) ∧ p.vs.length = L.fr.length ∧
    ∀ (j : Nat) (y : Str) (v : V), L.fr[j]? = some y → p.vs[j]? = some v → ∃ (jj : Nat) (c : Addr), X.N[jj]? = some y ∧ σ[jj]? = some (some v) ∧ X.env.cells.lookup y = some c ∧ p.cl.lookup y = some c ∧ (X.env.scope.names.lookup y = some .cell ∨ X.env.scope.names.lookup y = some .free)
  cl : ∀ y c, p.cl.lookup y = some c → X.env.cells.lookup y = some c
  nil : ∀ L, lm p.i = some L → L.fr = [] → p.cl = []
theorem Made.ext {X : Cx} {σ : L2.St} {lm : Nat → Option LamI} {K : PySem.W.Frag} {r r' : List Addr} {H H' : Hp} {p : CloI} (m : Made X σ lm H p) (x : Ext K r H r' H') (hc : p.c ∉ r) : Made X σ lm H' p := by
  obtain ⟨L, pm, ctv, h1, h2, h3, h4, h5⟩ := m.fn
  exact ⟨⟨L, pm, ctv, h1, x.frzs _ _ _ h2, (x.frame _ _ h3 hc codeO_ne).1, h4, h5⟩, m.cl, m.nil⟩
inductive ArgsV (X : Cx) (σ : L2.St) (lm : Nat → Option LamI) (r : List Addr) (H : Hp) : List CA → List V → List CloI → Prop where
  | nil : ArgsV X σ lm r H [] [] []
  | d {x v as vs ps} : DV X.K r H x v → ArgsV X σ lm r H as vs ps → ArgsV X σ lm r H (.d x :: as) (v :: vs) ps
  | c {p i ds as vs ps} : Made X σ lm H p → p.i = i → DVs X.K r H ds p.vs → p.f ∉ r → p.c ∉ r → (∀ q ∈ ps, q.f ≠ p.f) → ArgsV X σ lm r H as vs ps → ArgsV X σ lm r H (.c i ds :: as) (.ref p.f :: vs) (p :: ps)
def liftC (X : Cx) (ca : CAx) (m : CM) : TA := fun σ H Q => ∃ r env S as S', RepS (gx X ca) r S H ∧ VarsV X.K r H env σ ∧ m env S = some (as, S') ∧
  ∀ r' H' vs ps, Ext X.K r H r' H' → RepS (gx X ca) r' S' H' → ArgsV X σ ca.lm r' H' as vs ps → (∀ q ∈ ps, ∀ od u, H q.f ≠ some (.frz od u)) → Q vs H'
section
variable {X : Cx} {ca : CAx} {e : Expr} {es : List Expr} {ma : EM} {la : CM}
theorem ca_nil : PA X [] (liftC X ca cNil) := wkA pa_nil fun σ H Q ⟨r, env, S, ds, S', R, W, h, k⟩ => by
  unfold cNil at h
  cases h
  exact k r H [] [] Ext.refl R .nil (fun q hq => by cases hq)
theorem ca_cons (ha : PE X e (liftE (gx X ca) ma)) (hr : PA X es (liftC X ca la)) (hs : starEach (e :: es) X.env = (false, eval e X.env) :: starEach es X.env := by rfl) : PA X (e :: es) (liftC X ca (cCons ma la)) :=
  wkA (pa_cons ha hr hs) fun σ H Q ⟨r, env, S, ds, S', R, W, h, k⟩ => by
    unfold cCons at h
    split at h
    · rename_i x S1 e1
      refine ⟨r, env, S, x, S1, R, W, e1, fun r1 H1 v x1 R1 q1 => ?_⟩
      split at h
      · rename_i xs S2 e2
        cases h
        exact ⟨r1, env, S1, xs, _, R1, W.ext x1, e2, fun r2 H2 w ps x2 R2 q2 q3 => k r2 H2 _ ps (x1.trans x2) R2 (.d (DV.ext x2 _ _ q1) q2) fun q hq od u z => q3 q hq od u (x1.frzs _ _ _ z)⟩
      · cases h
    · cases h
theorem slots_ok {K : PySem.W.Frag} {r : List Addr} {H : Hp} {env : Vars} {σ : L2.St} (W : VarsV K r H env σ) : ∀ {js : List Nat} {ds : List D}, slotsD env js = some ds → ∃ vs, DVs K r H ds vs ∧ vs.length = js.length ∧ ∀ (j : Nat) (v : V), vs[j]? = some v → ∃ jj : Nat, js[j]? = some jj ∧ σ[jj]? = some (some v)
  | [], ds, h => by
    cases h
    exact ⟨[], DVs.nil, rfl, fun j v e => by simp at e⟩
  | i :: js, ds, h => by
    unfold slotsD at h
    split at h
    · rename_i d e1
      split at h
      · rename_i ds2 e2
        cases h
        obtain ⟨vs, h1, h2, h3⟩ := slots_ok W e2
        obtain ⟨v, ev, qv⟩ := W.at_ i d e1
        refine ⟨v :: vs, DVs.cons qv h1, by simp [h2], fun j w e => ?_⟩
        cases j with
        | zero => simp at e; subst e; exact ⟨i, rfl, ev⟩
        | succ j => simpa using h3 j w (by simpa using e)
      · cases h
    · cases h
theorem ca_lam {c P : Addr} {params : Arguments} {body : Expr} {scope : Scope} {lpos : Pos} {i : Nat} {js : List Nat} {L : LamI} (hL : ca.lm i = some L) (eL : L = ⟨X.env.qual ++ "<lambda>", params, body, scope, L.fr⟩) (TB : TabB X.base X.mg c P) (hmem : (P, X.env.qual ++ "<lambda>") ∈ ca.tb) (hu : ∀ q ∈ ca.tb, q.1 = P → q.2 = X.env.qual ++ "<lambda>")
    (hfree : ∀ y ∈ scope.names, y.2 = .free → X.env.scope.names.lookup y.1 = some .cell ∨ X.env.scope.names.lookup y.1 = some .free) (hfr : ∀ y ∈ L.fr, (y, NameKind.free) ∈ scope.names) (hno : ∀ y ∈ scope.names, y.2 = .free → y.1 ∈ L.fr) (hjs : js.map (fun j => X.N[j]?) = L.fr.map some)
    (hr : PA X es (liftC X ca la)) (hcode : X.env.code = .ref c := by rfl) (hdef : defaultsOf params X.env = ([], []) := by rfl) (hs : starEach (.Lambda params body scope lpos :: es) X.env = (false, eval (.Lambda params body scope lpos) X.env) :: starEach es X.env := by rfl) :
    PA X (.Lambda params body scope lpos :: es) (liftC X ca (cLam i js la)) := by
  refine ⟨fun pos pins s σ H Q I ⟨r, env, S, as, S', R, W, h, k⟩ => ?_⟩
  unfold cLam at h
  split at h
  · rename_i ds e1
    split at h
    · rename_i xs S2 e2
      cases h
      rw [hs]
      show wpAny _ _ (spliced ((false, eval (.Lambda params body scope lpos) X.env) :: backTo pos (starEach es X.env))) _ _ s
      have hf : ∀ y ∈ scope.names, y.2 = .free → ∃ c, X.env.cells.lookup y.1 = some c := fun y hy e => (hfree y hy e).elim (fun z => I.ok.has _ (.inl z)) fun z => I.ok.has _ (.inr z)
      refine Calls.spliced_cons (lam_make3 I TB hcode hmem hu (CAx_tab R) hdef hf fun f c' pm ctv H1 s1 I1 eN T1 f0 f1 c1 => ?_)
      obtain ⟨x1, R1⟩ := lam_ext R eN T1
      obtain ⟨vs, d1, d2, d3⟩ := slots_ok W e1
      have nf : f ∉ r := R.free f0
      have nc : c' ∉ r := fun hr => by
        obtain ⟨n, hn, hlt⟩ := List.mem_iff_getElem.mp hr
        have hn' : n < S.length := by rw [← R1.len]; exact hn
        have ov := R1.at_ n S[n] c' (List.getElem?_eq_getElem hn') (by rw [List.getElem?_eq_getElem hn, hlt])
        exact ov.code c1
      have lj : js.length = L.fr.length := by simpa using congrArg List.length hjs
      have md : Made X σ ca.lm H1 ⟨i, f, c', cloFrom X.env.cells scope.names [], vs⟩ := by
        refine ⟨⟨L, pm, ctv, hL, ?_, ?_, d2.trans lj, fun j y v e3 e4 => ?_⟩, fun y c e => clo_cm hf e, fun L' h1 h2 => ?_⟩
        · rw [eL]; exact f1
        · rw [eL]; exact c1
        · obtain ⟨jj, e5, e6⟩ := d3 j v e4
          have hy := List.mem_of_getElem? e3
          have q : (js.map fun j => X.N[j]?)[j]? = some (some y) := by rw [hjs, List.getElem?_map, e3]; rfl
          rw [List.getElem?_map, e5] at q
          have hN : X.N[jj]? = some y := by simpa using q
          obtain ⟨c0, hc0⟩ := hf _ (hfr y hy) rfl
          exact ⟨jj, c0, hN, e6, hc0, clo_has hf (hfr y hy) hc0, hfree _ (hfr y hy) rfl⟩
        · rw [hL] at h1
          cases h1
          refine List.eq_nil_iff_forall_not_mem.mpr fun ⟨y, c⟩ hm => ?_
          rcases cloFrom_mem hm with hm | ⟨q1, _⟩
          · cases hm
          · have := hno _ q1 rfl
            rw [h2] at this
            cases this
      refine thn (hr.run pos pins s1 σ H1 (fun vs2 H2 => Q (.ref f :: vs2) H2) I1 ⟨r, env, S, xs, _, R1, W.ext x1, e2, fun r2 H2 vs2 ps x2 R2 q2 q3 => ?_⟩) fun us s2 ⟨vs2, H2, I2, rv, q⟩ => ⟨.ref f :: vs2, H2, I2, .cons rfl rv, q⟩
      have nf2 := (x2.frame _ _ f1 nf fun _ z => by cases z).2
      have nc2 := (x2.frame _ _ c1 nc codeO_ne).2
      refine k r2 H2 _ _ (x1.trans x2) R2 (.c (md.ext x2 nc) rfl (DVs.ext (x1.trans x2) _ _ d1) nf2 nc2 (fun q hq z => ?_) q2) fun q hq od u z => ?_
      · exact q3 q hq _ _ (by rw [z]; exact f1)
      · rcases List.mem_cons.mp hq with rfl | hq
        · have z : H f = _ := z
          rw [f0] at z
          cases z
        · exact q3 q hq od u (x1.frzs _ _ _ z)
    · cases h
  · cases h
end
def argD : Nat → List CA → List D
  | _, [] => []
  | n, .d x :: as => x :: argD n as
  | n, .c _ _ :: as => .loc n :: argD (n + 1) as
def cloS : List CA → Sto
  | [] => []
  | .d _ :: as => cloS as
  | .c i ds :: as => .clo i ds :: cloS as
def killO (n k m : Nat) (o : Ob) : Ob := if n ≤ m ∧ m < n + k then .dead else o
def killS (n k : Nat) (S : Sto) : Sto := S.mapIdx (killO n k)
def mMk (m : FM) (la : CM) : EM := fun env S => match la env S with
  | some (as, S1) => match m (argD S1.length as) (S1 ++ cloS as) with
    | some (d, S2) => some (d, killS S1.length (cloS as).length S2)
    | none => none
  | none => none
inductive CLen : CM → Nat → Prop where
  | nil : CLen cNil 0
  | d {a : EM} {l : CM} {n : Nat} : CLen l n → CLen (cCons a l) (n + 1)
  | c {i : Nat} {js : List Nat} {l : CM} {n : Nat} : CLen l n → CLen (cLam i js l) (n + 1)
theorem CLen.ok {l : CM} {n : Nat} (h : CLen l n) : ∀ env S as S', l env S = some (as, S') → ∀ m, (argD m as).length = n := by
  induction h with
  | nil => intro env S as S' e m; cases e; rfl
  | d h ih =>
    intro env S as S' e m
    unfold cCons at e
    split at e
    · split at e
      · rename_i e2
        cases e
        simp [argD, ih _ _ _ _ e2]
      · cases e
    · cases e
  | c h ih =>
    intro env S as S' e m
    unfold cLam at e
    split at e
    · split at e
      · rename_i e2
        cases e
        simp [argD, ih _ _ _ _ e2]
      · cases e
    · cases e
section
variable {X : Cx} {σ : L2.St} {lm : Nat → Option LamI} {r : List Addr} {H : Hp}
theorem ArgsV.clo : ∀ {as : List CA} {vs : List V} {ps : List CloI}, ArgsV X σ lm r H as vs ps → (cloS as).length = ps.length ∧ ∀ (j : Nat) (o : Ob), (cloS as)[j]? = some o → ∃ p ds, ps[j]? = some p ∧ o = .clo p.i ds ∧ DVs X.K r H ds p.vs
  | _, _, _, .nil => ⟨rfl, fun j o e => by simp [cloS] at e⟩
  | _, _, _, .d _ t => t.clo
  | _, _, _, .c (p := p) m e dv n1 n2 n3 t => by
    obtain ⟨h1, h2⟩ := t.clo
    refine ⟨by simp [cloS, h1], fun j o q => ?_⟩
    cases j with
    | zero =>
      simp [cloS] at q
      subst q
      exact ⟨p, _, rfl, by rw [e], dv⟩
    | succ j => simpa using h2 j o (by simpa [cloS] using q)
theorem ArgsV.all : ∀ {as : List CA} {vs : List V} {ps : List CloI}, ArgsV X σ lm r H as vs ps → ∀ p ∈ ps, Made X σ lm H p ∧ p.f ∉ r ∧ p.c ∉ r
  | _, _, _, .nil => fun p hp => by cases hp
  | _, _, _, .d _ t => t.all
  | _, _, _, .c m e dv n1 n2 n3 t => fun p hp => by
    rcases List.mem_cons.mp hp with rfl | hp
    · exact ⟨m, n1, n2⟩
    · exact t.all p hp
theorem ArgsV.nd : ∀ {as : List CA} {vs : List V} {ps : List CloI}, ArgsV X σ lm r H as vs ps → (ps.map (·.f)).Nodup
  | _, _, _, .nil => List.nodup_nil
  | _, _, _, .d _ t => t.nd
  | _, _, _, .c m e dv n1 n2 n3 t => by
    rw [List.map_cons, List.nodup_cons]
    refine ⟨fun z => ?_, t.nd⟩
    obtain ⟨q, hq, e⟩ := List.mem_map.mp z
    exact n3 q hq e
theorem ArgsV.dvs {r' : List Addr} {H' : Hp} (x : ExtW X.K r H r' H') : ∀ {as : List CA} {vs : List V} {ps : List CloI} (n : Nat), ArgsV X σ lm r H as vs ps → (∀ j p, ps[j]? = some p → r'[n + j]? = some p.f) → DVs X.K r' H' (argD n as) vs
  | _, _, _, n, .nil, _ => DVs.nil
  | _, _, _, n, .d q t, h => DVs.cons (DV.extW x _ _ q) (t.dvs x n h)
  | _, _, _, n, .c (p := p) m e dv n1 n2 n3 t, h => by
    refine DVs.cons ?_ (t.dvs x (n + 1) fun j p e => by rw [Nat.add_assoc, Nat.add_comm 1 j]; exact h (j + 1) p e)
    unfold DV
    exact ⟨p.f, h 0 p rfl, rfl⟩
end
section
open Classical
noncomputable def asLie (h : Heap) : Hp := fun b => (h.get? b).map fun o => .frz o (.own b)
end
section
variable {X : Cx} {ca : CAx} {pins : List (Addr × Obj)} {σ : L2.St} {r : List Addr} {S : Sto} {H : Hp} {s : Shared} {as : List CA} {vs : List V} {ps : List CloI}
theorem cel_none (I : Inv X pins σ H s) : Cel (cellsC X.env.cells) H := fun b ⟨y, e⟩ => .inl (I.freeC y b e)
theorem cel_out (I : Inv X pins σ H s) {b : Addr} {u : HO} (e : H b = some u) : ¬ cellsC X.env.cells b := fun ⟨y, z⟩ => by
  rw [I.freeC y b z] at e
  cases e
theorem cel_lie (I : Inv X pins σ H s) {b : Addr} (z : cellsC X.env.cells b) : ∃ o ov, s.heap.get? b = some o ∧ o.data = .cell ov ∧ mix (cellsC X.env.cells) (asLie s.heap) H b = some (.frz o (.own b)) := by
  obtain ⟨y, e⟩ := z
  obtain ⟨v, o, ho, hd⟩ := I.cell y b e
  refine ⟨o, v, ho, hd, ?_⟩
  rw [mix_in ⟨y, e⟩]
  unfold asLie
  rw [ho]
  rfl
theorem rep_mk (I : Inv X pins σ H s) (R : RepS (gx X ca) r S H) (a : ArgsV X σ ca.lm r H as vs ps) :
    ExtW X.K r H (r ++ ps.map (·.f)) (mix (cellsC X.env.cells) (asLie s.heap) H) ∧ RepS ⟨X.K, X.w, ca.wv (ca.cv ++ ps)⟩ (r ++ ps.map (·.f)) (S ++ cloS as) (mix (cellsC X.env.cells) (asLie s.heap) H) := by
  have c := cel_none I
  have x : ExtW X.K r H (r ++ ps.map (·.f)) (mix (cellsC X.env.cells) (asLie s.heap) H) := ⟨List.prefix_append _ _, fun a us h => sqT_mix c h, fun a us h => scL_mix c h⟩
  have frzF : ∀ p ∈ ps, ∃ od, H p.f = some (.frz od (.own p.f)) := fun p hp => by
    obtain ⟨L, pm, ctv, h1, h2, _⟩ := (a.all p hp).1.fn
    exact ⟨_, h2⟩
  have nF : ∀ {b : Addr} {u : HO}, H b = some u → (∀ od, u ≠ .frz od (.own b)) → b ∉ ps.map (·.f) := fun {b u} e n z => by
    obtain ⟨p, hp, rfl⟩ := List.mem_map.mp z
    obtain ⟨od, e2⟩ := frzF p hp
    rw [e] at e2
    exact n od (Option.some.inj e2)
  have cd : ∀ {b : Addr} {q : Str}, H b = some (CodeO b q) → b ∉ r → mix (cellsC X.env.cells) (asLie s.heap) H b = some (CodeO b q) ∧ b ∉ r ++ ps.map (·.f) := fun {b q} e n => by
    refine ⟨by rw [mix_out (cel_out I e)]; exact e, fun z => ?_⟩
    rcases List.mem_append.mp z with z | z
    · exact n z
    · exact nF e (fun od => codeO_frz) z
  obtain ⟨l1, l2⟩ := a.clo
  refine ⟨x, by simp [R.len, l1], ?_, fun n o b e1 e2 => ?_, fun q hq => ?_, fun q hq => ?_⟩
  · rw [List.nodup_append]
    refine ⟨R.nd, a.nd, fun y hy z hz e => ?_⟩
    subst e
    obtain ⟨p, hp, rfl⟩ := List.mem_map.mp hz
    exact (a.all p hp).2.1 hy
  · by_cases hn : n < S.length
    · rw [List.getElem?_append_left hn] at e1
      rw [List.getElem?_append_left (by rw [R.len]; exact hn)] at e2
      obtain ⟨u, hu, _⟩ := (R.at_ n o b e1 e2).held
      exact OV.wv (ca := ca) x (mix_out (cel_out I hu)) (fun i ds _ p hp _ _ _ => List.mem_append_left _ hp) (R.at_ n o b e1 e2)
    · rw [List.getElem?_append_right (by omega)] at e1
      rw [List.getElem?_append_right (by rw [R.len]; omega), R.len, List.getElem?_map] at e2
      obtain ⟨p, ds, e3, rfl, dv⟩ := l2 _ _ e1
      rw [e3] at e2
      cases e2
      have hp := List.mem_of_getElem? e3
      obtain ⟨od, e4⟩ := frzF p hp
      exact ⟨⟨od, by rw [mix_out (cel_out I e4)]; exact e4⟩, p, List.mem_append_right _ hp, rfl, rfl, DVs.extW x _ _ dv⟩
  · have hq : q ∈ ca.tb := hq
    obtain ⟨n, qs, h1, h2, h3⟩ := R.tabs q hq
    refine ⟨fun z => ?_, qs, by rw [mix_out (cel_out I h1)]; exact h1, h2, fun pos cv e => ?_⟩
    · rcases List.mem_append.mp z with z | z
      · exact n z
      · exact nF h1 (fun od y => by cases y) z
    · obtain ⟨d, e1, e2, e3⟩ := h3 pos cv e
      obtain ⟨k1, k2⟩ := cd e3 e2
      exact ⟨d, e1, k2, k1⟩
  · rcases List.mem_append.mp (show q ∈ ca.cv ++ ps from hq) with hq | hq
    · exact (R.clos q hq).keep (fun b od h => by rw [mix_out (cel_out I h)]; exact h) fun b y h n => cd h n
    · obtain ⟨m, n1, n2⟩ := a.all q hq
      obtain ⟨L, pm, ctv, h1, h2, h3, h4, h5⟩ := m.fn
      obtain ⟨k1, k2⟩ := cd h3 n2
      refine ⟨⟨L, pm, ctv, h1, by rw [mix_out (cel_out I h2)]; exact h2, k1, k2, h4, fun j y v e1 e2 => ?_⟩, fun y b e => ?_, fun y z b e1 e2 => I.ok.inj y z b (m.cl y b e1) (m.cl z b e2), m.nil⟩
      · obtain ⟨jj, b, q1, q2, q3, q4, q5⟩ := h5 j y v e1 e2
        obtain ⟨mm, hn, hl⟩ := I.loc
        obtain ⟨u, ru, l⟩ := hl jj y v q1 q2 (.inr q5)
        rcases l with ⟨z, _⟩ | ⟨_, b', hb', oc, ho, hd⟩
        · have z' : X.env.scope.names.lookup y = some .local := z
          rcases q5 with q5 | q5 <;> rw [q5] at z' <;> cases z'
        · rw [q3] at hb'
          cases hb'
          obtain ⟨o, ov, h6, h7, h8⟩ := cel_lie I ⟨y, q3⟩
          rw [ho] at h6
          cases h6
          exact ⟨b, oc, u, q4, h8, hd, ru⟩
      · obtain ⟨o, ov, h6, h7, h8⟩ := cel_lie I ⟨y, m.cl y b e⟩
        exact ⟨o, ov, h8, h7⟩
theorem run_mk {k n : Nat} {m : FM} {f : Addr} {fd : FuncData} {prs : List Str} {us : List Value} {d : D} {S2 : Sto} {Q : VK} {r0 : List Addr} {H0 : Hp} (F : FnOk X.prog X.w X.K X.mg X.base CX0 k f fd prs (spD ⟨X.K, X.w, ca.wv (ca.cv ++ ps)⟩ n m)) (hr : Room k X.A) (hb : Binds X.K fd prs []) (hfn : ∀ x, X.fn x = true)
    (I : Inv X pins σ H s) (R : RepS (gx X ca) r S H) (a : ArgsV X σ ca.lm r H as vs ps) (rv : Vals vs us) (hl : (argD S.length as).length = n) (e : m (argD S.length as) (S ++ cloS as) = some (d, S2)) (x0 : Ext X.K r0 H0 r H) (hq0 : ∀ q ∈ ps, ∀ od u, H0 q.f ≠ some (.frz od u))
    (kq : ∀ r' H' v, Ext X.K r0 H0 r' H' → RepS (gx X ca) r' (killS S.length (cloS as).length S2) H' → DV X.K r' H' d v → Q v H') : wpAny (model X.prog X.w) X.A (call (.ref f) us) (EP X pins σ Q) X.xe s := by
  have c := cel_none I
  have e0 := I.env0
  obtain ⟨l1, l2⟩ := a.clo
  obtain ⟨x1, R1⟩ := rep_mk I R a
  have above : ∀ b, cellsC X.env.cells b → X.s_0.heap.objs.size ≤ b := fun b ⟨y, z⟩ => I.ok.cab y b (hfn y) z
  have nstk : ∀ b ∈ frs X.stack, ¬ cellsC X.env.cells b := fun b hb z => by
    rcases List.mem_cons.mp (I.stkSub b hb) with q | q
    · obtain ⟨y, z⟩ := z
      exact I.cne y b z q
    · obtain ⟨_, o, ho, _⟩ := I.ok.funs.mem q
      exact absurd (Nat.lt_of_lt_of_le (Heap.lt_size ho) (above b z)) (Nat.lt_irrefl _)
  have hokP : HOk X.prog X.w (mix (cellsC X.env.cells) (asLie s.heap) H) s.heap := hok_mix I.hok c fun b u z q => by
    obtain ⟨o, ov, h1, h2, h3⟩ := cel_lie I z
    rw [mix_in z, q] at h3
    cases h3
    exact ⟨h1, o, h1⟩
  have e1 : Env0 X.prog X.w X.K X.mg X.base X.A X.stack s (mix (cellsC X.env.cells) (asLie s.heap) H) := ⟨e0.frames, e0.mod, fun b o q => ⟨(e0.bs b o q).1, by
    rw [mix_out fun z => ?_]
    · exact (e0.bs b o q).2
    · exact absurd (Nat.lt_of_lt_of_le (Heap.lt_size q) (Nat.le_trans I.ok.bsz (above b z))) (Nat.lt_irrefl _)⟩, e0.bsz, e0.funs, fun b hb => by rw [mix_out (nstk b hb)]; exact e0.frf b hb, hokP, e0.bare⟩
  have dv : DVs X.K (r ++ ps.map (·.f)) (mix (cellsC X.env.cells) (asLie s.heap) H) (argD S.length as) vs := a.dvs x1 S.length fun j p q => by
    rw [List.getElem?_append_right (by rw [R.len]; omega), R.len, Nat.add_sub_cancel_left, List.getElem?_map, q]
    rfl
  have sp : spD ⟨X.K, X.w, ca.wv (ca.cv ++ ps)⟩ n m vs (mix (cellsC X.env.cells) (asLie s.heap) H) (fun v H2 => ∃ r2, Ext X.K (r ++ ps.map (·.f)) (mix (cellsC X.env.cells) (asLie s.heap) H) r2 H2 ∧ RepS ⟨X.K, X.w, ca.wv (ca.cv ++ ps)⟩ r2 S2 H2 ∧ DV X.K r2 H2 d v) E0 :=
    ⟨_, _, _, d, S2, R1, dv, hl, e, fun r2 H2 v x2 R2 q2 => ⟨r2, x2, R2, q2⟩⟩
  have hlu : (us ++ []).length = prs.length := by
    rw [List.append_nil, ← rv.length]
    exact F.len _ _ _ _ sp
  refine wpAny_call (codeAny_mono (F.run X.A X.stack s _ ⟨us, []⟩ (us ++ []) vs _ E0 hr e1 (hb s us I.kIn hlu) (by rw [List.append_nil]; exact rv) sp) fun res s' hq => ?_)
  match res, hq with
  | .error e, hq => exact pass0 pins σ _ s e s' I hq
  | .ok .next, hq => exact False.elim hq
  | .ok .brk, hq => exact False.elim hq
  | .ok .cont, hq => exact False.elim hq
  | .ok (.ret u), ⟨v, H2, os, bare, un, hok2, ru, r2, x2, R2, q2⟩ =>
    have lie2 : ∀ b, cellsC X.env.cells b → ∃ o ov, s.heap.get? b = some o ∧ o.data = .cell ov ∧ H2 b = some (.frz o (.own b)) := fun b z => by
      obtain ⟨o, ov, h1, h2, h3⟩ := cel_lie I z
      exact ⟨o, ov, h1, h2, un.frzs b o _ h3⟩
    have c2 : Cel (cellsC X.env.cells) H2 := fun b z => by
      obtain ⟨o, ov, h1, h2, h3⟩ := lie2 b z
      exact .inr ⟨o, ov, h3, h2⟩
    have up : ∀ {b : Addr} {u : HO}, H b = some u → mix (cellsC X.env.cells) (asLie s.heap) H b = some u := fun {b u} q => by
      rw [mix_out (cel_out I q)]
      exact q
    have dn : ∀ {b : Addr} {u : HO}, H b = some u → ∀ {u2 : HO}, H2 b = some u2 → mix (cellsC X.env.cells) (fun _ => none) H2 b = some u2 := fun {b u} q {u2} q2 => by
      rw [mix_out (cel_out I q)]
      exact q2
    have fr : ∀ {b : Addr} {u : HO}, H b = some u → b ∉ r → b ∉ ps.map (·.f) → (∀ qs, u ≠ .tbl qs) → mix (cellsC X.env.cells) (fun _ => none) H2 b = some u ∧ b ∉ r2 := fun {b u} q n1 n2 nt => by
      obtain ⟨h1, h2⟩ := x2.frame b u (up q) (fun z => (List.mem_append.mp z).elim n1 n2) nt
      exact ⟨dn q h1, h2⟩
    have fz : ∀ {b : Addr} {od : Obj} {u : HO}, H b = some (.frz od u) → mix (cellsC X.env.cells) (fun _ => none) H2 b = some (.frz od u) := fun {b od u} q => dn q (x2.frzs b od u (up q))
    have frzF : ∀ p ∈ ps, ∃ od, H p.f = some (.frz od (.own p.f)) ∧ ∀ ov, od.data ≠ .cell ov := fun p hp => by
      obtain ⟨L, pm, ctv, h1, h2, _⟩ := (a.all p hp).1.fn
      exact ⟨_, h2, fun ov z => by cases z⟩
    have xx : Ext X.K r0 H0 r2 (mix (cellsC X.env.cells) (fun _ => none) H2) := by
      refine ⟨x0.pre.trans ((List.prefix_append _ _).trans x2.pre), fun b ws q => sqT_mix c2 (x2.tups _ _ (x1.tups _ _ (x0.tups _ _ q))), fun b ws q => scL_mix c2 (x2.scrs _ _ (x1.scrs _ _ (x0.scrs _ _ q))), fun b u q n nt => ?_, fun b od u q => fz (x0.frzs b od u q)⟩
      obtain ⟨h1, h2⟩ := x0.frame b u q n nt
      refine fr h1 h2 (fun z => ?_) nt
      obtain ⟨p, hp, rfl⟩ := List.mem_map.mp z
      obtain ⟨od, h3, _⟩ := frzF p hp
      rw [h1] at h3
      cases h3
      exact hq0 p hp _ _ q
    have RR : RepS (gx X ca) r2 (killS S.length (cloS as).length S2) (mix (cellsC X.env.cells) (fun _ => none) H2) := by
      refine ⟨by unfold killS; rw [List.length_mapIdx]; exact R2.len, R2.nd, fun i o b q1 q2 => ?_, fun q hq => tabR_mix c2 (R2.tabs q hq), fun q hq => ?_⟩
      · unfold killS at q1
        rw [List.getElem?_mapIdx] at q1
        cases q3 : S2[i]? with
        | none => rw [q3] at q1; cases q1
        | some o2 =>
          rw [q3] at q1
          have q1 : killO S.length (cloS as).length i o2 = o := Option.some.inj q1
          have slot : ∀ j p, ps[j]? = some p → r2[S.length + j]? = some p.f := fun j p q => pre_get x2.pre (by
            rw [List.getElem?_append_right (by rw [R.len]; omega), R.len, Nat.add_sub_cancel_left, List.getElem?_map, q]
            rfl)
          unfold killO at q1
          split at q1
          · rename_i hz
            subst q1
            have hj : i - S.length < ps.length := by rw [← l1]; omega
            have h1 := slot (i - S.length) _ (List.getElem?_eq_getElem hj)
            rw [show S.length + (i - S.length) = i by omega, q2] at h1
            cases h1
            obtain ⟨od, h3, h4⟩ := frzF _ (List.getElem_mem hj)
            exact ⟨od, fz h3, h4⟩
          · rename_i hz
            subst q1
            refine OV.wv (ca := ca.wv (ca.cv ++ ps)) (cv' := ca.cv) (extW_mix c2) (mix_out fun z => R2.cel c2 z (List.mem_of_getElem? q2)) (fun j ds _ p hp h1 _ _ => ?_) (R2.at_ i o2 b q3 q2)
            rcases List.mem_append.mp (show p ∈ ca.cv ++ ps from hp) with hp | hp
            · exact hp
            · obtain ⟨j2, hj2⟩ := List.mem_iff_getElem?.mp hp
              have h2 := slot j2 p hj2
              rw [h1] at h2
              obtain ⟨z1, z2⟩ := List.getElem?_eq_some_iff.mp h2
              obtain ⟨z3, z4⟩ := List.getElem?_eq_some_iff.mp q2
              have := (List.getElem_inj R2.nd).mp (z2.trans z4.symm)
              have hj3 := (List.getElem?_eq_some_iff.mp hj2).1
              exact absurd (show S.length ≤ i ∧ i < S.length + (cloS as).length by rw [l1]; omega) hz
      · refine (R.clos q hq).keep (fun b od h => fz h) fun b y h n => fr h n (fun z => ?_) codeO_ne
        obtain ⟨p, hp, rfl⟩ := List.mem_map.mp z
        obtain ⟨od, h3, _⟩ := frzF p hp
        rw [h] at h3
        exact codeO_frz (Option.some.inj h3)
    refine I.after ⟨v, mix (cellsC X.env.cells) (fun _ => none) H2, os, bare, ⟨fun b o q n hb hx => ?_, fun b o q n hb hx => ?_, fun b o q n hx => ?_, un.there, fun b ws q => ?_, fun b o u q => fz q, fun b qs q => ?_⟩, hok_mix hok2 c2 fun b u z q => (by cases q), ru, kq r2 _ v xx RR (DV.extW (extW_mix c2) _ _ q2)⟩
    · by_cases z : cellsC X.env.cells b
      · obtain ⟨o2, ov, h1, h2, h3⟩ := lie2 b z
        rw [q] at h1
        cases h1
        exact (hok2 b _ h3).1
      · exact un.keep b o q (by rw [mix_out z]; exact n) hb hx
    · exact un.slot b o q (by rw [mix_out (nstk b hb)]; exact n) hb hx
    · by_cases z : cellsC X.env.cells b
      · exact mix_in z
      · rw [mix_out z]
        exact un.free b o q (by rw [mix_out z]; exact n) hx
    · exact dn q (un.tups b ws (up q))
    · obtain ⟨more, h1⟩ := un.tbls b qs (up q)
      exact ⟨more, dn q h1⟩
end
section
variable {X : Cx} {ca : CAx} {k n : Nat} {f : Addr} {fd : FuncData} {prs : List Str} {m : FM} {x : Str} {p pos : Pos} {e : Expr} {es : List Expr} {la : CM}
theorem de_mk (F : ∀ cv, FnOk X.prog X.w X.K X.mg X.base CX0 k f fd prs (spD ⟨X.K, X.w, ca.wv cv⟩ n m)) (hr : Room k X.A) (hm : X.mg x = some (.ref f)) (hk : PySem.W.keepIn X.K (.ref f) = true) (hb : Binds X.K fd prs []) (hl : CLen la n) (ha : PA X (e :: es) (liftC X ca la)) (hfn : ∀ x, X.fn x = true := by exact fun _ => rfl) (hg : Gl X x := by rfl)
    (hdb : (x == ("__debug__" : Str)) = false := by decide) (he : starEach (e :: es) X.env = (false, eval e X.env) :: starEach es X.env := by rfl) (hpl : (backTo pos (starEach es X.env)).any (·.1) = false := by rfl) :
    PE X (.Call (.Name x p) (e :: es) [] pos) (liftE (gx X ca) (mMk m la)) := ⟨fun pins s σ H Q I h => by
  obtain ⟨r, env, S, d, S', R, W, h, kq⟩ := h
  unfold mMk at h
  split at h
  · rename_i as S1 e1
    split at h
    · rename_i d2 S2 e2
      cases h
      refine wpAny_Call_Name_kw (ld_glob I hg hm ?_ hdb)
      refine PySem.W.callWith_K (h₀ := X.base) I.ok.mod.kin hk (thn (ha.run pos pins s σ H (fun vs H1 => ∃ r1 ps, Ext X.K r H r1 H1 ∧ RepS (gx X ca) r1 S1 H1 ∧ ArgsV X σ ca.lm r1 H1 as vs ps ∧ ∀ q ∈ ps, ∀ od u, H q.f ≠ some (.frz od u)) I ⟨r, env, S, as, S1, R, W, e1, fun r1 H1 vs ps x1 R1 q1 q2 => ⟨r1, ps, x1, R1, q1, q2⟩⟩) fun us s1 ⟨vs, H1, I1, rv, r1, ps, x1, R1, q1, q2⟩ => ⟨I1.kIn, ?_⟩) he hpl
      exact run_mk (F (ca.cv ++ ps)) hr hb hfn I1 R1 q1 rv (hl.ok _ _ _ _ e1 _) e2 x1 q2 kq
    · cases h
  · cases h⟩
end
def dfltS : Stmt := .Pass ⟨0, 0, 0, 0⟩
def dfltE : Expr := .Constant .none 0 ⟨0, 0, 0, 0⟩
def callOf : Stmt → Expr
  | .Return (some e) _ => e
  | .Assign _ e _ => e
  | .Expr e _ => e
  | _ => dfltE
def argOf (i : Nat) : Expr → Expr
  | .Call _ args _ _ => args.getD i dfltE
  | _ => dfltE
def lamPar : Expr → Arguments
  | .Lambda a _ _ _ => a
  | _ => { posonlyargs := [], args := [], vararg := none, kwonlyargs := [], kw_defaults := [], kwarg := none, defaults := [] }
def lamBody : Expr → Expr
  | .Lambda _ b _ _ => b
  | _ => dfltE
def lamScope : Expr → Scope
  | .Lambda _ _ sc _ => sc
  | _ => { kind := .function, names := [], isGenerator := false, isCoroutine := false }
theorem TxC.wv {T : Tab} {K : PySem.W.Frag} {mg : Str → Option Value} {a : Nat → Addr} {fd : Nat → FuncData} {ca : CAx} (x : TxC T K mg a fd ca) (cv : List CloI) : TxC T K mg a fd (ca.wv cv) :=
  ⟨fun g h1 h2 => x.fn g h1 h2, fun g h => x.fu g h, fun g h => x.kp g h, fun g h => x.bn g h, x.no, fun c h => x.cg c h, fun c h => x.ck c h, fun c h => x.mk_ c h, x.na, x.me, x.ks, x.im⟩
theorem AllL.wv {P : Program} {w : World} {K : PySem.W.Frag} {mg : Str → Option Value} {base : Heap} {ca : CAx} {ar : Nat → Nat} {k : Nat} {cl : Nat → FM} (x : AllL P w K mg base ca ar k cl) (cv : List CloI) : AllL P w K mg base (ca.wv cv) ar k cl :=
  ⟨fun cv' i L h => x.F cv' i L h⟩
theorem fn_nil {P : Program} {w : World} {K : PySem.W.Frag} {mg : Str → Option Value} {base : Heap} {k : Nat} {f : Addr} {fd : FuncData} {G : Ctx} {m : FM} (h : ∀ S, m [] S = none) : FnOk P w K mg base CX0 k f fd [] (spD G 0 m) :=
  ⟨fun vs H Q E ⟨r, S, ds, d, S', R, q, hl, e, _⟩ => by rw [q.length, hl]; rfl, fun A outer s H args us vs Q E hr e0 hb r ⟨_, S, ds, d, S', R, q, hl, e, _⟩ => by
    rw [List.length_eq_zero_iff.mp hl, h] at e
    cases e⟩
theorem allFv {P : Program} {w : World} {K : PySem.W.Frag} {mg : Str → Option Value} {base : Heap} {ca : CAx} {psN : Nat → List Str} {ar : Nat → Nat} {a : Nat → Addr} {fd : Nat → FuncData} {bd : (Nat → FM) → (Nat → FM) → Nat → FM}
    (B : ∀ (k : Nat) (cl cl2 : Nat → FM), (∀ cv, AllF P w K mg base (ca.wv cv) psN a fd k cl) → (∀ cv, AllF2 P w K mg base (ca.wv cv) psN a fd k cl2) → AllL P w K mg base ca ar k cl →
      (∀ cv, AllF P w K mg base (ca.wv cv) psN a fd (k + 1) (bd cl cl2)) ∧ AllL P w K mg base ca ar (k + 1) (bd cl cl2)) : ∀ k, (∀ cv, AllF P w K mg base (ca.wv cv) psN a fd k (callsOf bd k)) ∧ AllL P w K mg base ca ar k (callsOf bd k)
  | 0 => ⟨fun cv => ⟨fun g => fn_zero fun _ _ => by unfold callsOf; rfl⟩, ⟨fun cv i L h => lam_zero fun _ _ => by unfold callsOf; rfl⟩⟩
  | 1 => by
    have A := allFv B 0
    unfold callsOf
    exact B 0 _ _ A.1 (fun cv => ⟨(A.1 cv).F, fun _ g ds S => by unfold callsOf; rfl⟩) A.2
  | 2 => by
    have A := allFv B 1
    have A0 := allFv B 0
    unfold callsOf
    exact B 1 _ _ A.1 (fun cv => ⟨(A0.1 cv).F, fun _ g ds S => by unfold callsOf; rfl⟩) A.2
  | k + 3 => by
    have A := allFv B (k + 2)
    have A0 := allFv B k
    unfold callsOf
    exact B (k + 2) _ _ A.1 (fun cv => ⟨(A0.1 cv).F, fun z => absurd z (by omega)⟩) A.2
end DL
set_option maxHeartbeats 2000000
namespace DL
open PySem PySem.Spec L2
open PyProof.Rows hiding St
open AutoSeq1 (wpAny_loadPart')
theorem draws_tup {P : Program} {w : World} {A : Around} (hh : A.handled = none) (it l : Addr) (hne : l ≠ it) (items : Array Value) :
    Draws P w A it [it, l] items.size (fun i v => items[i]? = some v) (fun i h => h.IsTupleIter it l i ∧ h.IsTuple l items) where
  live := fun i h st => by
    obtain ⟨⟨o, ho, _⟩, _⟩ := st
    exact ⟨o, ho⟩
  frame := fun i h h' st hk => by
    obtain ⟨h1, o2, h2⟩ := st
    exact ⟨h1.at fun o e => hk it (by simp) o e, o2, hk l (by simp) o2 h2.1, h2.2⟩
  item := fun i s Q E hi st hQ => by
    refine RZ.nextOf_tuple_item st.1 st.2 (Array.getElem?_eq_getElem hi) fun h' h1 h2 => hQ _ h' s.toks (Array.getElem?_eq_getElem hi) ⟨h1, ?_⟩ h2
    obtain ⟨o2, q1, q2⟩ := st.2
    exact ⟨o2, (h2.2 l hne).trans q1, q2⟩
  done := fun s Q E st hE => RZ.nextOf_tuple_end hh st.1 st.2 (Array.getElem?_eq_none (Nat.le_refl _)) hE
theorem draws_end {P : Program} {w : World} {A : Around} (hh : A.handled = none) (it l : Addr) (n : Nat) (items : Array Value) (hn : items.size ≤ n) :
    Draws P w A it [it, l] n (fun _ _ => False) (fun i h => (h.IsTupleIter it l n ∧ h.IsTuple l items) ∧ i = n) where
  live := fun i h st => by
    obtain ⟨⟨⟨o, ho, _⟩, _⟩, _⟩ := st
    exact ⟨o, ho⟩
  frame := fun i h h' st hk => by
    obtain ⟨⟨h1, o2, h2⟩, e⟩ := st
    exact ⟨⟨h1.at fun o e => hk it (by simp) o e, o2, hk l (by simp) o2 h2.1, h2.2⟩, e⟩
  item := fun i s Q E hi st hQ => absurd st.2 (Nat.ne_of_lt hi)
  done := fun s Q E st hE => RZ.nextOf_tuple_end hh st.1.1 st.1.2 (Array.getElem?_eq_none hn) hE
theorem enum_new_tup (l : Addr) (items : Array Value) (n : Nat) (dct : Option Addr) (sl : Array (Option Value)) :
    Meets (Builtin.«enumerate.__new__» ⟨[.type "enumerate", .ref l], []⟩) (fun _ R s => s.heap.get? l = some { cls := .type "tuple", dict := dct, data := .seq items n, slots := sl } ∧
      R (.ok (.ret (.ref (s.heap.push { cls := .type "tuple_iterator", data := .fields #[.ref l, .int 0 0] }).objs.size)))
        { s with heap := (s.heap.push { cls := .type "tuple_iterator", data := .fields #[.ref l, .int 0 0] }).push { cls := .type "enumerate", data := .fields #[.none, .bool false, .ref s.heap.objs.size, rawInt 0, .none, .none] } }) :=
  .of_wp fun prog w A R st hyp => by
    obtain ⟨hp, g, d, tk, os⟩ := st
    obtain ⟨hl, fin⟩ := hyp
    have e1 := sub_enumerate
    have hT : Heap.IsTuple (Shared.heap ⟨hp, g, d, tk, os⟩) l items := ⟨_, hl, rfl, n, rfl⟩
    wp_walk using wpAny_loadPart' hl
    refine wpAny_stack_any fun _ => wpAny_pure ?_
    split
    · rename_i c _ _ _ _ _
      cases (c == Value.type "enumerate")
      · wp_walk using wpAny_loadPart' hl, wpAny_pyIter_tuple hT
        exact ⟨_, rfl, fin⟩
      · wp_walk using wpAny_loadPart' hl, wpAny_pyIter_tuple hT
        exact ⟨_, rfl, fin⟩
    · wp_walk using wpAny_loadPart' hl, wpAny_pyIter_tuple hT
      exact ⟨_, rfl, fin⟩
section
variable {P : Program} {w : World} {A : Around} {E : Value → Shared → Prop} {s : Shared}
theorem call_enum_tup {l : Addr} {items : Array Value} {Q : Value → Shared → Prop} (hT : s.heap.IsTuple l items)
    (h : ∀ h', IsEnum h' (s.heap.objs.size + 1) s.heap.objs.size 0 .none → h'.IsTupleIter s.heap.objs.size l 0 → h'.objs.size = s.heap.objs.size + 2 → (∀ b o, s.heap.get? b = some o → h'.get? b = some o) → Q (.ref (s.heap.objs.size + 1)) { s with heap := h' }) :
    wpAny (model P w) A (call (.type "enumerate") [.ref l]) Q E s := by
  obtain ⟨⟨c, dct, dt, sl⟩, hl, hc, n, hd⟩ := hT
  simp only at hc hd
  subst hc hd
  refine callType_new F.called_enumerate (by decide) (F.typeCall_enumerate_1 _) (F.newCall_enumerate_1 _) (fun obj => F.args_object_init_2 obj _) F.entry_enumerate_new (enum_new_tup l items n dct sl) ⟨hl, ?_⟩
  generalize hi : ({ cls := .type "tuple_iterator", data := .fields #[.ref l, .int 0 0] } : Obj) = io
  have hz : (s.heap.push io).objs.size = s.heap.objs.size + 1 := Heap.size_push ..
  have g0 : (s.heap.push io).get? s.heap.objs.size = some io := Heap.get?_push_size _ (by rw [← hi]; rfl)
  generalize he : ({ cls := .type "enumerate", data := .fields #[.none, .bool false, .ref s.heap.objs.size, rawInt 0, .none, .none] } : Obj) = eo
  have g1 : ((s.heap.push io).push eo).get? (s.heap.objs.size + 1) = some eo := by
    rw [← hz]
    exact Heap.get?_push_size _ (by rw [← he]; rfl)
  show _ ∧ _
  rw [hz]
  refine ⟨⟨_, g1, by rw [← he]⟩, h _ (by rw [← he] at g1 ⊢; exact g1) ⟨io, Heap.get?_push_of_some _ g0, by rw [← hi], by rw [← hi]; rfl⟩ (by rw [Heap.size_push, hz]) fun b o x => Heap.get?_push_of_some _ (Heap.get?_push_of_some _ x)⟩
end
def Itet (K : PySem.W.Frag) (a : Addr) : It :=
  ⟨fun i H => ∃ (xs : List V) (x : V), SqT K H a xs ∧ xs[i]? = some x, fun i H v H' => ∃ T x od, v = .ref T ∧ H T = none ∧ od.dict = none ∧ H' = upd H T (.frz od (.tup [.int (i : Nat), x])) ∧ ∀ xs, SqT K H a xs → xs[i]? = some x, fun i H => ∃ xs : List V, SqT K H a xs ∧ xs.length ≤ i⟩
theorem turn_enumT {P : Program} {w : World} {K : PySem.W.Frag} {elts : List Expr} {kk : Nat} {tpos : Pos} (a e it : Addr) (ha : a ≠ it) (hae : a ≠ e) :
    Turn P w K (.Tuple elts kk tpos) (Itet K a) [e, it] e (fun i h => (∃ old, IsEnum h e it ((i : Nat) : Int) old) ∧ h.IsTupleIter it a i ∧ e ≠ it) where
  mem := by simp
  obj := fun i h st b hb => by
    obtain ⟨⟨old, he⟩, ⟨o, ho, hc, hd⟩, _⟩ := st
    simp only [List.mem_cons, List.not_mem_nil, or_false] at hb
    rcases hb with rfl | rfl
    · exact ⟨_, he, fun v q => nomatch q⟩
    · exact ⟨o, ho, fun v q => by rw [hd] at q; cases q⟩
  keep := fun i h h' st k => by
    obtain ⟨⟨old, he⟩, hi, hne⟩ := st
    exact ⟨⟨old, k e (by simp) _ he⟩, hi.at fun o q => k it (by simp) o q, hne⟩
  item := by
    intro X hP hw hK hc i pins s σ H E I hf st hg
    subst hP hw hK
    obtain ⟨⟨old, he⟩, hit, hne⟩ := st
    obtain ⟨xs, x, hq, hx⟩ := hg
    obtain ⟨its, rv, p, hz⟩ := I.tuple hq
    obtain ⟨u, hu, ru⟩ := rv.get hx
    have hel : e < s.heap.objs.size := Heap.lt_size he
    have hil : it < s.heap.objs.size := by obtain ⟨_, q, _⟩ := hit; exact Heap.lt_size q
    have hlt : i < its.toArray.size := by
      have := (List.getElem?_eq_some_iff.mp hu).1
      simpa using this
    have D := draws_tup (P := X.prog) (w := X.w) (A := X.A.in1) (I.ok.hd hc) it a ha its.toArray
    refine wpAny_pyNext_enum_itemD D he ⟨hit, p⟩ hlt hne (by simp [hne, Ne.symm hae]) fun y h' tk hy ho hst hT hsz hk => ?_
    have hyu : y = u := by
      have : its[i]? = some y := by simpa using hy
      rw [hu] at this
      exact (Option.some.inj this).symm
    subst hyu
    refine ⟨_, rfl, wpAny_letOwnedTupleGo_enum (s := { s with heap := h', toks := tk + 1 }) ho fun h'' he' sb => ?_⟩
    have hT2 : h''.get? s.heap.objs.size = some { cls := .type "tuple", data := .seq #[.int i tk, y] } := (sb.2 _ (Nat.ne_of_gt hel)).trans hT
    have new : ObjOk X.prog X.w (upd H s.heap.objs.size (.frz { cls := .type "tuple", data := .seq #[.int i tk, y] } (.tup [.int (i : Nat), x]))) h'' s.heap.objs.size (.frz { cls := .type "tuple", data := .seq #[.int i tk, y] } (.tup [.int (i : Nat), x])) :=
      ⟨hT2, by show 2 ≤ sizeLine; decide, [.int i tk, y], .cons ⟨_, rfl⟩ (.cons ru .nil), ⟨_, hT2, rfl, _, rfl⟩⟩
    have I1 : Inv X pins σ (upd H s.heap.objs.size (.frz { cls := .type "tuple", data := .seq #[.int i tk, y] } (.tup [.int (i : Nat), x]))) { s with heap := h'', toks := tk + 1 } :=
      I.turnedNew (ch := [e, it]) (fun b ob hb q => by
        simp only [List.mem_cons, List.not_mem_nil, or_false, not_or] at hb
        exact (sb.2 b hb.1).trans (hk b ob hb.1 hb.2 q)) hf (Nat.le_refl _) new
    refine ⟨.ref s.heap.objs.size, _, I1, rfl, ⟨_, x, _, rfl, I.hok.fresh (Nat.le_refl _), rfl, rfl, fun ys hy => by rw [I.tuple_inj hy hq]; exact hx⟩, ⟨⟨y, ?_⟩, hst.1.at fun o q => (sb.2 it (Ne.symm hne)).trans q, hne⟩, fun b hb => ?_⟩
    · rw [show ((i + 1 : Nat) : Int) = (i : Int) + 1 by omega]
      exact he'
    · have hb' : b < s.heap.objs.size := by
        simp only [List.mem_cons, List.not_mem_nil, or_false] at hb
        rcases hb with rfl | rfl
        · exact hel
        · exact hil
      rw [upd_ne (Nat.ne_of_lt hb')]
      exact (hf b hb).1
  done := by
    intro X hP hw hK hc i pins s σ H E I hf st hg
    subst hP hw hK
    obtain ⟨⟨old, he⟩, hit, hne⟩ := st
    obtain ⟨xs, hq, hx⟩ := hg
    obtain ⟨its, rv, p, hz⟩ := I.tuple hq
    obtain ⟨f0, f1, f2, f3, f4, f5⟩ := hf it (by simp)
    have hl := rv.length
    obtain ⟨o, ho, hc2, n2, hd⟩ := p
    have D := draws_end (P := X.prog) (w := X.w) (A := X.A.in1) (I.ok.hd hc) it a i its.toArray (by simp; omega)
    exact wpAny_pyNext_enum_endD D he ⟨⟨hit, o, ho, hc2, n2, hd⟩, rfl⟩ fun h' eb => ⟨rfl, I.turned (t' := s.toks) (fun b o hb q => eb b o hb q) f0 f1 f3 f4 f5⟩
  self := fun A i s Q E st h => let ⟨⟨_, he⟩, _⟩ := st; wpAny_pyIter_enum he h
def iEnumA (K : PySem.W.Frag) (ta : TA) : TI := fun σ H R => ta σ H fun vs H1 => ∃ a xs, vs = [.ref a] ∧ ((SqL K H1 a xs ∧ R (IteN K a) H1) ∨ (SqT K H1 a xs ∧ R (Itet K a) H1))
theorem pi_enumA {X : Cx} {e : Expr} {ta : TA} {p pos tpos : Pos} {elts : List Expr} {kk : Nat} (hg : Gl X "enumerate") (hm : X.mg "enumerate" = none) (ha : PA X [e] ta) (hs : starEach [e] X.env = [(false, eval e X.env)] := by rfl) :
    PI X (.Tuple elts kk tpos) (.Call (.Name "enumerate" p) [e] [] pos) (iEnumA X.K ta) := by
  refine ⟨fun pins s σ H R I h => ?_⟩
  refine Call_ (ld_blt I hg hm boot_enumerate (PyProof.Rows.callWith_type1 (thn (ha.run pos pins s σ H _ I h) fun us s1 ⟨vs, H1, I1, r1, q1⟩ => ?_) hs rfl))
  obtain ⟨a, xs, rfl, q⟩ := q1
  rw [Vals.ref1 r1]
  have fp : ∀ b ∈ [s1.heap.objs.size + 1, s1.heap.objs.size], s1.heap.objs.size ≤ b := fun b hb => by
    simp only [List.mem_cons, List.not_mem_nil, or_false] at hb
    omega
  rcases q with ⟨hq, q⟩ | ⟨hq, q⟩
  · obtain ⟨its, rv, p', hz⟩ := I1.list hq
    refine call_enumerate_list p'.isList fun h' he hit hsz hk => wpAny_pyIter_enum he ?_
    have I2 : Inv X pins σ H1 { s1 with heap := h' } := I1.kept (t' := s1.toks) hk
    exact ⟨s1.heap.objs.size + 1, [s1.heap.objs.size + 1, s1.heap.objs.size], _, _, H1, rfl, I2, turn_enumN a (s1.heap.objs.size + 1) s1.heap.objs.size, ⟨⟨.none, he⟩, hit, Nat.succ_ne_self _⟩, fun b hb => I1.fpOk (fp b hb) (I1.hok.fresh (fp b hb)), q⟩
  · obtain ⟨its, rv, p', hz⟩ := I1.tuple hq
    have hal : a < s1.heap.objs.size := by obtain ⟨o, ho, _⟩ := p'; exact Heap.lt_size ho
    refine call_enum_tup p' fun h' he hit hsz hk => wpAny_pyIter_enum he ?_
    have I2 : Inv X pins σ H1 { s1 with heap := h' } := I1.kept (t' := s1.toks) hk
    exact ⟨s1.heap.objs.size + 1, [s1.heap.objs.size + 1, s1.heap.objs.size], _, _, H1, rfl, I2, turn_enumT a (s1.heap.objs.size + 1) s1.heap.objs.size (Nat.ne_of_lt hal) (Nat.ne_of_lt (Nat.lt_succ_of_lt hal)), ⟨⟨.none, he⟩, hit, Nat.succ_ne_self _⟩, fun b hb => I1.fpOk (fp b hb) (I1.hok.fresh (fp b hb)), q⟩
section
variable {G : Ctx} {r : List Addr} {S : Sto} {H : Hp}
theorem itok_enmT {ds : List D} {a : Addr} {vs : List V} (h1 : SqT G.K H a vs) (h2 : DVs G.K r H ds vs) : ItOk G r H (.enm (.tup ds)) (Itet G.K a) where
  go := fun r1 S1 H1 i d x R e => by
    simp only [itAt, seqD] at e
    have ed := Option.some.inj e
    split at ed
    · rename_i y hy
      cases ed
      obtain ⟨v, ev, qv⟩ := (DVs.extW x.w _ _ h2).get hy
      refine ⟨⟨vs, v, x.w.tups _ _ h1, ev⟩, fun z H' hz => ?_⟩
      obtain ⟨T, u, od, rfl, hT, ho, rfl, hu⟩ := hz
      have := hu vs (x.w.tups _ _ h1)
      rw [ev] at this
      cases this
      obtain ⟨x2, R2⟩ := R.tup (vs := [.int (i : Nat), v]) (od := od) hT
      exact ⟨r1, x2, R2, DV.tup_mk (TpN.of ho) (DVs.cons mk_int (DVs.cons (DV.ext x2 _ _ qv) DVs.nil))⟩
    · cases ed
  stop := fun r1 S1 H1 i x R e => by
    simp only [itAt, seqD] at e
    have ed := Option.some.inj e
    split at ed
    · cases ed
    · rename_i hy
      exact ⟨vs, x.w.tups _ _ h1, by rw [h2.length]; exact List.getElem?_eq_none_iff.mp hy⟩
end
def iEnmA (m : EM) : IM := fun env S => match m env S with
  | some (.loc n, S1) => match seqD S1 (.loc n) with
    | some _ => some (.enm (.loc n), S1)
    | none => none
  | some (.tup ds, S1) => some (.enm (.tup ds), S1)
  | _ => none
section
variable {X : Cx} {ca : CAx} {e : Expr} {ma : EM} {pos p tpos : Pos} {elts : List Expr} {kk : Nat}
theorem di_enmA (hm : X.mg "enumerate" = none) (h : PE X e (liftE (gx X ca) ma)) (hg : Gl X "enumerate" := by rfl) (hs : starEach [e] X.env = [(false, eval e X.env)] := by rfl) (hs1 : starEach [e] X.env = (false, eval e X.env) :: starEach [] X.env := by rfl) : PI X (.Tuple elts kk tpos) (.Call (.Name "enumerate" p) [e] [] pos) (liftI (gx X ca) (iEnmA ma)) :=
  wkI (pi_enumA hg hm (pa_cons h pa_nil hs1) hs) fun σ H Q ⟨r, env, S, it, S', R, W, h, k⟩ => by
    unfold iEnmA at h
    split at h
    · rename_i n S1 e1
      split at h
      · rename_i ds e2
        cases h
        refine ⟨r, env, S, _, _, R, W, e1, fun r1 H1 v x1 R1 q1 => ?_⟩
        obtain ⟨a, vs, rfl, h2, hs⟩ := loc_list R1 q1 e2
        exact ⟨a, vs, rfl, .inl ⟨hs, k r1 H1 _ x1 R1 (itok_enm q1 (fun es z => by cases z))⟩⟩
      · cases h
    · rename_i ds S1 e1
      cases h
      refine ⟨r, env, S, _, _, R, W, e1, fun r1 H1 v x1 R1 q1 => ?_⟩
      obtain ⟨a, vs, rfl, hs, h2⟩ := dv_tup q1
      exact ⟨a, vs, rfl, .inr ⟨hs, k r1 H1 _ x1 R1 (itok_enmT hs h2)⟩⟩
    · cases h
end
def enmD (S : Sto) : D → Bool
  | .loc n => (seqD S (.loc n)).isSome
  | .tup _ => true
  | _ => false
theorem ow_iEnmA {m : EM} {env : Vars} {S : Sto} {Q : DIt × Sto → Prop} : Ow (iEnmA m env S) Q ↔ Ow (m env S) fun x => enmD x.2 x.1 = true ∧ Q (.enm x.1, x.2) := by
  unfold iEnmA
  cases m env S with
  | none => simp
  | some x =>
    obtain ⟨d, S1⟩ := x
    simp only [ow_some]
    cases d with
    | loc n =>
      simp only [enmD]
      cases seqD S1 (.loc n) <;> simp
    | tup ds => simp [enmD]
    | _ => simp [enmD]
end DL
set_option maxHeartbeats 1600000
namespace DL
open PySem PySem.Spec L2
open PyProof.Rows hiding St
noncomputable section
variable {X : Cx} {ca : CAx} {G : Ctx}
theorem TpN.obj {pins : List (Addr × Obj)} {σ : L2.St} {H : Hp} {s : Shared} {a : Addr} {vs : List V} (I : Inv X pins σ H s) (h : TpN X.K H a vs) : ∃ (o : Obj) (its : List Value) (n : Nat), s.heap.get? a = some o ∧ o.cls = .type "tuple" ∧ o.dict = none ∧ o.data = .seq its.toArray n ∧ Vals vs its ∧ vs.length ≤ sizeLine := by
  rcases h with ⟨od, h1, h2⟩ | ⟨o, its, n, h1, h2, h3, h4, h5, h6⟩
  · obtain ⟨e, hz, its, rv, o, e2, hc, n, hd⟩ := I.hok a _ h1
    have eo : o = od := Option.some.inj (e2.symm.trans e)
    subst eo
    exact ⟨o, its, n, e, hc, h2, hd, rv, hz⟩
  · refine ⟨o, its.toList, n, I.kIn a o h1, h2, h3, by simpa using h4, h6, ?_⟩
    have := h6.length
    simp only [Array.length_toList] at this
    omega
section
variable {pins : List (Addr × Obj)} {σ : L2.St} {H : Hp} {s : Shared} {r : List Addr} {a : Addr} {kvs : List (D × D)} {es : List Ent} {o : Obj} {ents : Array DictEntry} {ep : Nat} {k : D} {y : V} {u : Value} {A : Around} {E : Value → Shared → Prop}
end
end
end DL
set_option maxHeartbeats 1600000
namespace DL
open PySem PySem.Spec L2
open PyProof.Rows hiding St
section
variable {X : Cx} {ca : CAx} {G : Ctx}
def tBMT (K : PySem.W.Frag) (r : V → List V → Hp → VK → Prop) (to : TE) (t : TA) : TE := fun σ H Q => to σ H fun x H1 => (∃ a vs, x = .ref a ∧ TpN K H1 a vs) ∧ t σ H1 fun xs H2 => r x xs H2 Q
variable {name : Str} {id : String} {r : V → List V → Hp → VK → Prop} {o e : Expr} {es : List Expr} {to : TE} {t : TA} {apos cpos : Pos}
theorem pe_bmT (slot : Slot "tuple" name id) (hty : typeOf (.builtin id) = pure (.type "method_descriptor")) (hm : MtR X id r) (ho : PE X o to) (ha : PA X (e :: es) t)
    (hbase : attributeBase o name X.env (eval o X.env) = eval o X.env := by rfl)
    (hfew : ((backTo cpos (starEach (e :: es) X.env)).all (fun x => !x.1) && (backToKw cpos (keywordEach [] X.env)).all (fun x => x.1.isSome)
      && decide ((e :: es).length + ([] : List Keyword).length + (if ([] : List Keyword).isEmpty then 0 else 1) < 30)) = true := by rfl)
    (hline : (apos.endLine == cpos.line) = true := by rfl) (hs : starEach (e :: es) X.env = (false, eval e X.env) :: starEach es X.env := by rfl) (hplain : (backTo cpos (starEach es X.env)).any (·.1) = false := by rfl) :
    PE X (.Call (.Attribute o name apos) (e :: es) [] cpos) (tBMT X.K r to t) := by
  constructor
  intro pins s σ H Q I h
  refine wpAny_Call_method_late hbase hfew hline rfl (thn (ho.run pins s σ H _ I h) ?_)
  rintro v s1 ⟨x, H1, I1, r1, ⟨a, vs, rfl, tp⟩, q1⟩
  cases r1
  obtain ⟨ob, its, n, g1, g2, g3, _⟩ := tp.obj I1
  refine ⟨"tuple", id, PySem.F.plainAttrs_tuple, slot, hty, ⟨ob, g1, g2⟩, fun b eb => ?_, ?_⟩
  · cases eb
    exact ⟨ob, g1, g3⟩
  have hA := ha.run cpos pins s1 σ H1 _ I1 q1
  rw [hs] at hA ⊢
  refine Calls.callWith_builtin (by show (false || (backTo cpos (starEach es X.env)).any (·.1)) = false; rw [hplain] <;> rfl) (Calls.evalArgs_plain ?_)
  exact thn hA fun us s2 ⟨ws, H2, I2, r2, q2⟩ => hm pins s2 σ H2 (V.ref a) ws _ us Q I2 rfl r2 q2
def rIdxT (K : PySem.W.Frag) : V → List V → Hp → VK → Prop := fun x xs H Q => ∃ (a : Addr) (y : V) (d : PyData) (ds : List PyData) (j : Nat) (z : PyData), x = V.ref a ∧ xs = [y] ∧ Dp K H (V.ref a) (.tuple ds) ∧ Dp K H y d ∧
  SeqAt.shaped (.list ds) = true ∧ SeqAt.shaped d = true ∧ ds[j]? = some z ∧ PyData.eqv z d = true ∧ (∀ (m : Nat) (z' : PyData), m < j → ds[m]? = some z' → PyData.eqv z' d = false) ∧ Q (.int (j : Nat)) H
theorem mt_idxT (hu : X.A.units + 65 < cLine) : MtR X "tuple.index" (rIdxT X.K) := by
  intro pins s σ H x xs v us Q I rx rxs h
  obtain ⟨a, y, d, ds, j, z, rfl, rfl, hl, hy, sl, sd, hz, hzj, hno, q⟩ := h
  cases rx
  obtain ⟨uy, rfl, ry⟩ := vals1 rxs
  obtain ⟨bs, r1⟩ := Dp.reads I d y uy hy ry
  have lay : PyData.canLayAll0 ds = true := SeqAt.canLay_of_shaped sl
  have room : X.A.units + 1 + min (PyData.depthAll ds) d.depth < cLine := room_in_shaped sd hu
  cases hl with
  | tup hs ha =>
    obtain ⟨its, rv, ⟨⟨cls, dd, data, sls⟩, ho, hc, n, hd⟩, hlen⟩ := I.tuple hs
    simp only at hc hd
    subst hc hd
    obtain ⟨as, h4⟩ := Dp.readsAll I ds _ its ha rv
    have same : its.length = ds.length := SeqAt.ReadsAll.length ds its as h4
    have told : its.map (SeqAt.readOf s.heap) = ds := SeqAt.readsAll_map ds its as lay h4
    obtain ⟨hjd, _⟩ := List.getElem?_eq_some_iff.mp hz
    have hj : j < its.toArray.size := by
      rw [List.size_toArray]
      omega
    have read : ∀ (m : Nat) (hm : m < its.toArray.size) (z' : PyData), ds[m]? = some z' → SeqAt.readOf s.heap its.toArray[m] = z' := by
      intro m hm z' e
      have hml : m < its.length := by simpa using hm
      rw [← told, List.getElem?_map, List.getElem?_eq_getElem hml, Option.map_some] at e
      simpa using Option.some.inj e
    refine call_meets PySem.F.slot_tuple_index ⟨_, ho, rfl⟩ PySem.F.entry_tuple_index (PySem.F.args_tuple_index_2 _ _)
      (TI.tuple_indexAt a its.toArray n dd sls uy (fun u => PyData.eqv (SeqAt.readOf s.heap u) d) j hj ?_ ?_) ⟨ho, SeqAt.items_eqAt (vs := its.toArray) (show ReadsAll s.heap its.toArray.toList ds as from h4) r1 lay (SeqAt.canLay_of_shaped sd) room, ?_⟩
    · show PyData.eqv (SeqAt.readOf s.heap its.toArray[j]) d = true
      rw [read j hj z hz]
      exact hzj
    · intro m hm hmj
      have hmd : m < ds.length := by omega
      show PyData.eqv (SeqAt.readOf s.heap its.toArray[m]) d = false
      rw [read m hm _ (List.getElem?_eq_getElem hmd)]
      exact hno m _ hmj (List.getElem?_eq_getElem hmd)
    · exact ⟨.int (j : Nat), H, I.tok _, ⟨_, rfl⟩, q⟩
def firstIx (d : D) : List D → Nat → Option Nat
  | [], _ => none
  | z :: ds, j => if PyData.eqv z.py d.py = true then some j else firstIx d ds (j + 1)
theorem firstIx_some {d : D} : ∀ {ds : List D} {k j : Nat}, firstIx d ds k = some j → ∃ m z, j = k + m ∧ ds[m]? = some z ∧ PyData.eqv z.py d.py = true ∧ ∀ n w, n < m → ds[n]? = some w → PyData.eqv w.py d.py = false
  | [], _, _, h => by cases h
  | z :: ds, k, j, h => by
    unfold firstIx at h
    split at h
    · rename_i e
      cases h
      exact ⟨0, z, rfl, rfl, e, fun n w hn => absurd hn (Nat.not_lt_zero _)⟩
    · rename_i e
      obtain ⟨m, w, rfl, h1, h2, h3⟩ := firstIx_some h
      refine ⟨m + 1, w, by omega, by simpa using h1, h2, fun n u hn hu => ?_⟩
      cases n with
      | zero =>
        simp at hu
        subst hu
        simpa using e
      | succ n => exact h3 n u (by omega) (by simpa using hu)
theorem pys_get : ∀ (ds : List D) (m : Nat), (D.pys ds)[m]? = ds[m]?.map D.py
  | [], m => by simp [D.pys]
  | d :: ds, 0 => by simp [D.pys]
  | d :: ds, m + 1 => by simp [D.pys, pys_get ds m]
def idxP : D → List D → Sto → Option (D × Sto)
  | .tup ds, [d], S => if d.pure = true ∧ D.pures ds = true ∧ SeqAt.shaped d.py = true ∧ SeqAt.shaped (.list (D.pys ds)) = true then (match firstIx d ds 0 with | some j => some (.int (j : Nat), S) | none => none) else none
  | _, _, _ => none
def idxLP : D → List D → Sto → Option (D × Sto)
  | .loc n, [d], S => match S[n]? with
    | some (.lst ds) => if d.pure = true ∧ D.pures ds = true ∧ SeqAt.shaped d.py = true ∧ SeqAt.shaped (.list (D.pys ds)) = true then (match firstIx d ds 0 with | some j => some (.int (j : Nat), S) | none => none) else none
    | _ => none
  | _, _, _ => none
theorem prim_idxT : PrimM G (rIdxT G.K) idxP := by
  intro r S H x xs v vs d S' Q R hv hx h k
  unfold idxP at h
  split at h
  · rename_i S0 ds y
    split at h
    · rename_i hc
      split at h
      · rename_i j ej
        cases h
        obtain ⟨w, rfl, q⟩ := hx.one
        obtain ⟨a, us, rfl, _, _⟩ := dv_tup hv
        obtain ⟨m, z, hm, h1, h2, h3⟩ := firstIx_some ej
        have em : j = m := by omega
        subst em
        refine ⟨a, w, y.py, D.pys ds, j, z.py, rfl, rfl, dp_of (.tup ds) _ hv (by simpa [D.pure] using hc.2.1), dp_of y _ q hc.1, hc.2.2.2, hc.2.2.1, by rw [pys_get, h1]; rfl, h2, fun n w' hn hw => ?_, k r H _ Ext.refl R mk_int⟩
        rw [pys_get] at hw
        cases e : ds[n]? with
        | none => rw [e] at hw; cases hw
        | some u =>
          rw [e] at hw
          cases hw
          exact h3 n u hn e
      · cases h
    · cases h
  · cases h
theorem prim_idxL : PrimM G (rIndexD G.K) idxLP := by
  intro r S H x xs v vs d S' Q R hv hx h k
  unfold idxLP at h
  split at h
  · rename_i S0 n y
    split at h
    · rename_i ds e0
      split at h
      · rename_i hc
        split at h
        · rename_i j ej
          cases h
          obtain ⟨w, rfl, q⟩ := hx.one
          obtain ⟨a, us, rfl, h5, h6⟩ := loc_list R hv (show seqD S (.loc n) = some ds by simp [seqD, e0])
          obtain ⟨m, z, hm, h1, h2, h3⟩ := firstIx_some ej
          have em : j = m := by omega
          subst em
          refine ⟨a, w, y.py, D.pys ds, j, z.py, rfl, rfl, .lst h6 (dps_of ds us h5 hc.2.1), dp_of y _ q hc.1, hc.2.2.2, hc.2.2.1, by rw [pys_get, h1]; rfl, h2, fun n w' hn hw => ?_, k r H _ Ext.refl R mk_int⟩
          rw [pys_get] at hw
          cases e : ds[n]? with
          | none => rw [e] at hw; cases hw
          | some u =>
            rw [e] at hw
            cases hw
            exact h3 n u hn e
        · cases h
      · cases h
    · cases h
  · cases h
def mIdxT (a : EM) (l : LM) : EM := fun env S => match a env S with
  | some (.tup ds, S1) => match l env S1 with
    | some (xs, S2) => idxP (.tup ds) xs S2
    | none => none
  | _ => none
theorem de_idxT {k : Nat} {ma : EM} {la : LM} (hr : Room k X.A) (ho : PE X o (liftE (gx X ca) ma)) (ha : PA X (e :: es) (liftL (gx X ca) la))
    (hbase : attributeBase o "index" X.env (eval o X.env) = eval o X.env := by rfl)
    (hfew : ((backTo cpos (starEach (e :: es) X.env)).all (fun x => !x.1) && (backToKw cpos (keywordEach [] X.env)).all (fun x => x.1.isSome)
      && decide ((e :: es).length + ([] : List Keyword).length + (if ([] : List Keyword).isEmpty then 0 else 1) < 30)) = true := by rfl)
    (hline : (apos.endLine == cpos.line) = true := by rfl) (hs : starEach (e :: es) X.env = (false, eval e X.env) :: starEach es X.env := by rfl) (hplain : (backTo cpos (starEach es X.env)).any (·.1) = false := by rfl) :
    PE X (.Call (.Attribute o "index" apos) (e :: es) [] cpos) (liftE (gx X ca) (mIdxT ma la)) :=
  wkE (pe_bmT PySem.F.slot_tuple_index PySem.F.type_tuple_index (mt_idxT (DL.Room.u65 hr)) ho ha hbase hfew hline hs hplain) fun σ H Q ⟨r, env, S, d, S', R, W, h, k⟩ => by
    unfold mIdxT at h
    split at h
    · rename_i ds S1 e1
      split at h
      · rename_i xs S2 e2
        refine ⟨r, env, S, _, _, R, W, e1, fun r1 H1 v x1 R1 q1 => ⟨?_, r1, env, S1, xs, S2, R1, W.ext x1, e2, fun r2 H2 vs x2 R2 q2 => prim_idxT r2 S2 H2 _ xs v vs d S' Q R2 (DV.ext x2 _ _ q1) q2 h fun r3 H3 u x3 R3 q3 => k r3 H3 u (x1.trans (x2.trans x3)) R3 q3⟩⟩
        obtain ⟨a, us, rfl, tp, _⟩ := dv_tupN q1
        exact ⟨a, us, rfl, tp⟩
      · cases h
    · cases h
end
theorem ow_mIdxT {a : EM} {l : LM} {env : Vars} {S : Sto} {Q : D × Sto → Prop} : Ow (mIdxT a l env S) Q ↔ Ow (a env S) fun x => ∃ ds, x.1 = .tup ds ∧ Ow (l env x.2) fun y => Ow (idxP (.tup ds) y.1 y.2) Q := by
  unfold mIdxT
  constructor
  · rintro ⟨z, h, q⟩
    split at h
    · rename_i ds S1 e1
      split at h
      · rename_i xs S2 e2
        exact ⟨_, e1, ds, rfl, _, e2, z, h, q⟩
      · cases h
    · cases h
  · rintro ⟨⟨x, S1⟩, e1, ds, e, ⟨xs, S2⟩, e2, z, h, q⟩
    dsimp only at e
    subst e
    exact ⟨z, by rw [e1]; simp only [e2]; exact h, q⟩
end DL
set_option maxHeartbeats 1600000
namespace DL
open PySem PySem.Spec L2
open PyProof.Rows hiding St
section
variable {G : Ctx} {r : List Addr} {S : Sto} {H : Hp}
end
section
variable {X : Cx} {ca : CAx} {e e2 : Expr} {ma mb : EM} {pos p tpos : Pos} {elts : List Expr} {kk : Nat}
end
end DL
namespace DL
open PySem PySem.Spec L2
open PyProof.Rows hiding St
section
variable {X : Cx} {ca : CAx} {x : Str} {e : Expr} {me : EM} {npos pos : Pos} {t : List (Str × D)}
end
end DL
namespace DL
open PySem PySem.Spec L2
open PyProof.Rows hiding St
section
variable {X : Cx} {ca : CAx} {kx vx tg iter : Expr} {ifs : List Expr} {scope : Scope} {own : List (Str × Nat)} {mi : EM} {t : Tgt} {tt : BM} {tk tv : EM} {pos : Pos}
end
end DL
namespace DL
open PySem PySem.Spec L2
open PyProof.Rows hiding St
open PySem.W (keyToks EachIs dataKind)
def itemsD (S : Sto) (x : D) : Option (List D) := match dctD S x with
  | some kvs => some (kvs.map (·.1))
  | none => match lckD S x with
    | some kvs => some (kvs.map (·.1))
    | none => isLst S x
def sortNP (x : D) (S : Sto) : Option (D × Sto) := match itemsD S x with
  | some xs => if sortOk xs = true then some (.loc S.length, S ++ [.lst (sortD xs xs)]) else none
  | none => none
def mSortN (a : EM) : EM := m1 sortNP a
section
variable {X : Cx} {ca : CAx} {pins : List (Addr × Obj)} {σ : L2.St}
variable {k : Nat} {e : Expr} {ma : EM} {p pos : Pos}
def maxDP (x n : D) (S : Sto) : Option (D × Sto) := match x, n with
  | .loc m, .int n => match seqD S (.loc m) with
    | some ds => match intsOf ds with
      | some [] => some (.int n, S)
      | some (b :: bs) => some (.int (bs.foldl max b), S)
      | none => none
    | none => none
  | _, _ => none
def mMaxD (a b : EM) : EM := m2 maxDP a b
end
@[simp] theorem ow_sortN {a : EM} {env : Vars} {S : Sto} {Q : D × Sto → Prop} : Ow (mSortN a env S) Q ↔ Ow (a env S) fun x => Ow (sortNP x.1 x.2) Q := ow_m1
@[simp] theorem ow_maxD {a b : EM} {env : Vars} {S : Sto} {Q : D × Sto → Prop} : Ow (mMaxD a b env S) Q ↔ Ow (a env S) fun x => Ow (b env x.2) fun y => Ow (maxDP x.1 y.1 y.2) Q := ow_m2
end DL
namespace DL
open PySem
def Sx (x : Str) : Prop := (PyData.str x).canLay0 = true ∧ x.length ≤ 20
theorem Sx.th {x : Str} (h : Sx x) {n : Nat} : Th n (.str x) := .str h.1
theorem sum_loc {n : Nat} {S : Sto} {is : List Int} (h : S[n]? = some (.lst (is.map D.int))) : sumP [.loc n] S = some (.int is.sum, S) := by
  have e : ∀ l : List Int, intsOf (l.map D.int) = some l := fun l => by
    induction l with
    | nil => rfl
    | cons x l ih => simp [intsOf, ih]
  simp only [sumP, seqD, h, e]
end DL
set_option maxHeartbeats 2000000
namespace PySem
namespace OwnX
open PySem.W PySem.Calls PyProof.Rows PySem.HandSPX
section
variable {prog : Program} {w : World} {A : Around} {E : Value → Shared → Prop} {env : Env}
end
section
variable {prog : Program} {w : World} {A : Around} {E : Value → Shared → Prop} {h : Heap} {g : Array GenState} {d : Drawn} {t : Nat} {os : OsState}
variable {nm q : Str} {C N : Addr} {bs bm : List Value} {hdct : Bool} {sn : List Str} {sub : List Value} {ab : Bool} {col : Option Bool} {dd : Option Addr} {k0 k1 k2 k3 k5 : Option Value}
end
structure Made (f : Str) (h h' : Heap) (e C d : Addr) (v : Value) : Prop where
  keep : ∀ b o, h.get? b = some o → h'.get? b = some o
  new : h.objs.size ≤ e
  obj : ∃ oe vs, h'.get? e = some oe ∧ oe.cls = .ref C ∧ oe.dict = some d ∧ oe.data = .fields vs ∧ vs[1]? = some .none ∧ vs[2]? = some .none
  dbig : h.objs.size ≤ d
  dne : d ≠ e
  ns : h'.Ns1 d (fun y => if y = f then some v else none)
section
variable {prog : Program} {w : World} {A : Around} {E : Value → Shared → Prop} {R : Result → Shared → Prop} {s : Shared} {K : Frag} {mg : Str → Option Value} {name : Str} {C fI : Addr}
end
section
variable {prog : Program} {w : World} {A : Around} {E : Value → Shared → Prop} {R : Result → Shared → Prop} {s : Shared} {K : Frag} {mg : Str → Option Value} {name : Str} {C fI : Addr}
end
end OwnX
end PySem
namespace L2
open PySem PySem.Spec PyProof.Rows
section
variable {X : Cx} {name : Str} {C fI : Addr}
end
section
variable {X : Cx} {name : Str} {C fI : Addr}
end
end L2
namespace DL
open PySem PySem.Spec L2
open PyProof.Rows hiding St
inductive FX where
  | fl (f : Fl)
  | ex (d : D)
abbrev XM := Vars → Sto → Option (FX × Vars × Sto)
abbrev FMX := List D → Sto → Option (Except D D × Sto)
section
variable (G : Ctx) (W : WX) (C : Addr) (f : Str)
end
section
variable {X : Cx} {ca : CAx} {W : WX} {C : Addr} {f : Str} {a c e tg iter : Expr} {es : List Expr} {st : Stmt} {sts body : List Stmt} {ma : EM} {la : LM} {ba : BM} {sm : SM} {xa xb : XM} {mi : IM} {g : GM} {pos p p2 : Pos}
end
section
variable {P : Program} {w : World} {K : PySem.W.Frag} {mg : Str → Option Value} {base : Heap} {ca : CAx}
end
section
variable {X : Cx} {ca : CAx} {W : WX} {C : Addr} {f : Str} {k : Nat} {fa : Addr} {fd : FuncData} {ps : List Str} {m : FMX} {x : Str} {p pos p2 : Pos} {e : Expr} {es : List Expr} {la : LM} {n : Nat}
end
end DL
namespace DL
open PySem PySem.Spec L2
open PyProof.Rows hiding St
section
variable {X : Cx} {ca : CAx} {pins : List (Addr × Obj)} {σ : L2.St} {r : List Addr} {H : Hp} {s : Shared} {f : Nat → Option PyData}
end
section
variable {X : Cx} {ca : CAx}
end
end DL
namespace DL
open PySem PySem.Spec L2
open PyProof.Rows hiding St
abbrev EMX := Vars → Sto → Option (Except D D × Sto)
section
variable {X : Cx} {ca : CAx} {W : WX} {C : Addr} {f : Str} {e o : Expr} {es : List Expr} {mo : EM} {la : LM} {me : EMX} {pos p p2 apos : Pos} {k n c g : Nat} {a : Nat → Addr} {fd : Nat → FuncData} {psN : Nat → List Str} {fx : FMX} {m x : Str} {pl : Sem Bool}
end
end DL
namespace DL
open PySem PySem.Spec L2
open PyProof.Rows hiding St
open PySem.W (keyToks EachIs dataKind)
section
open PySem.W
variable {prog : Program} {w : World} {A : Around} {s : Shared}
theorem sortsAt_e {vs : List Value} (e : EachIs (fun v (d : D) => ∃ as, Reads s.heap v d.py as) vs [D.tup []]) (hu : A.units + 66 < cLine) : SortsAt prog w A s (dataKind s.heap ([D.tup []].map D.py)) vs := by
  have hc : ∀ d ∈ [D.tup []].map D.py, d.canLay0 = true := fun d hd => by
    obtain ⟨k, hk, rfl⟩ := List.mem_map.mp hd
    rw [List.mem_singleton.mp hk]
    rfl
  have inv : ∀ {v : Value} {a : List (Int ⊕ List Nat)}, (dataKind s.heap ([D.tup []].map D.py)).keyOf v = some a → ∃ as, Reads s.heap v (D.tup []).py as ∧ a = keyToks (D.tup []).py := fun {v a} h => by
    obtain ⟨d, as, hd, r, rfl⟩ := dataKind_inv h
    obtain ⟨k, hk, rfl⟩ := List.mem_map.mp hd
    rw [List.mem_singleton.mp hk] at r ⊢
    exact ⟨as, r, rfl⟩
  refine ⟨fun v hv => ?_, tuples' true, ?_, fun h2 => ?_⟩
  · obtain ⟨d, hd, as, r⟩ := e.left v hv
    exact ⟨_, kind_some hc (List.mem_map_of_mem hd) r⟩
  · intro E x y a b Q ha hb hq
    obtain ⟨as, ra, rfl⟩ := inv ha
    obtain ⟨as', rb, rfl⟩ := inv hb
    have hl : ltDs [] [] = some false := rfl
    have hq' : Q (tokLt (.tup []) (.tup [])) s := hq
    rw [tokLt_of (c := false) (show ltD (.tup []) (.tup []) = some false from rfl)] at hq'
    simp only [D.py, D.pys] at ra rb
    cases ra with
    | @tuple l o xs n _ _ h1 h2 h3 h4 =>
      cases rb with
      | @tuple l' o' xs' n' _ _ k1 k2 k3 k4 =>
        have n1 : xs.size = 0 := by
          have q := SeqAt.ReadsAll.length _ _ _ h4
          simpa using q
        have n2 : xs'.size = 0 := by
          have q := SeqAt.ReadsAll.length _ _ _ k4
          simpa using q
        refine kat_lt h1 h3 k1 k3 (katLex_of (c := false) [] [] 0 _ _ _ _ h4 k4 rfl rfl (by have z0 : PyData.depthAll (D.pys []) = 0 := rfl; omega) hl ?_ (by rw [n1, n2]; rfl) hq')
        intro hb _ x r y t ex
        cases ex
  · cases e with
    | cons _ t => cases t; simp at h2
end
def okE (xs : List D) : Prop := sortOk xs = true ∨ xs = [.tup []]
instance (xs : List D) : Decidable (xs = [D.tup []]) := match xs with
  | [.tup []] => isTrue rfl
  | [] => isFalse (by intro h; cases h)
  | .tup (_ :: _) :: _ => isFalse (by intro h; cases h)
  | .non :: _ => isFalse (by intro h; cases h)
  | .bl _ :: _ => isFalse (by intro h; cases h)
  | .int _ :: _ => isFalse (by intro h; cases h)
  | .str _ :: _ => isFalse (by intro h; cases h)
  | .loc _ :: _ => isFalse (by intro h; cases h)
  | .scr _ :: _ => isFalse (by intro h; cases h)
  | .fn _ :: _ => isFalse (by intro h; cases h)
  | .clo _ _ :: _ => isFalse (by intro h; cases h)
  | .tup [] :: _ :: _ => isFalse (by intro h; cases h)
instance (xs : List D) : Decidable (okE xs) := by unfold okE; infer_instance
theorem okE_at {ks : List D} (h : okE ks) {a : D} (ha : a ∈ ks) : a.pure = true ∧ SeqAt.shaped a.py = true := by
  rcases h with h | h
  · exact ⟨(sortOk_at h ha).1, (sortOk_at h ha).2.1⟩
  · subst h
    rw [List.mem_singleton.mp ha]
    exact ⟨rfl, by decide⟩
theorem sortsAt_E {prog : Program} {w : World} {A : Around} {s : Shared} {ks : List D} {vs : List Value} (ok : okE ks) (e : EachIs (fun v (d : D) => ∃ as, Reads s.heap v d.py as) vs ks) (hu : A.units + 66 < cLine) : PySem.W.SortsAt prog w A s (dataKind s.heap (ks.map D.py)) vs := by
  rcases ok with h | h
  · exact sortsAt_of h e hu
  · subst h
    exact sortsAt_e e hu
def sortNPE (x : D) (S : Sto) : Option (D × Sto) := match itemsD S x with
  | some xs => if okE xs then some (.loc S.length, S ++ [.lst (sortD xs xs)]) else none
  | none => none
def mSortE (a : EM) : EM := m1 sortNPE a
section
variable {X : Cx} {ca : CAx} {pins : List (Addr × Obj)} {σ : L2.St}
theorem sort_inE {A : Around} {P : PySem.Fin → Shared → Prop} {E : Value → Shared → Prop} {H : Hp} {s : Shared} {h0 : Heap} {tk a : Nat} {r : List Addr} {S : Sto} {xs : List D} {vs : List V} {its : List Value} (hu : A.units + 66 < cLine) (I : Inv X pins σ H s) (R : RepS (gx X ca) r S H)
    (ho : h0.get? a = some (seqObj "list" its.toArray 0)) (kp : ∀ b o, s.heap.get? b = some o → h0.get? b = some o) (ha : s.heap.objs.size ≤ a) (qx : DVs X.K r H xs vs) (rv : Vals vs its) (hz : its.length ≤ sizeLine) (ok : okE xs)
    (post : ∀ r' H' s', Inv X pins σ H' s' → Ext X.K r H r' H' → RepS (gx X ca) r' (S ++ [.lst (sortD xs xs)]) H' → DV X.K r' H' (.loc S.length) (.ref a) → P (.done (.ret .none)) s') :
    wpAny (model X.prog X.w) A (Builtin.«list.sort» ⟨[.ref a], []⟩) P E { s with heap := h0, toks := tk } := by
  have ne : ∀ b o, s.heap.get? b = some o → b ≠ a := fun b o e => Nat.ne_of_lt (Nat.lt_of_lt_of_le (Heap.lt_size e) ha)
  have k1 : ∀ b o, s.heap.get? b = some o → (PySem.W.sortingHeap h0 a its).get? b = some o := fun b o e => PySem.W.sortingHeap_old (ne b o e) (kp b o e)
  have I1 : Inv X pins σ H { s with heap := PySem.W.sortingHeap h0 a its, toks := tk } := I.kept k1
  have each := each_of_dvs qx rv
  have rd := reads_each I1 each fun k hk => (okE_at ok hk).1
  have hn : H a = none := I.hok.fresh ha
  refine PySem.W.list_sort_vals (κ := dataKind (PySem.W.sortingHeap h0 a its) (xs.map D.py)) ho (sortsAt_E (s := { s with heap := PySem.W.sortingHeap h0 a its, toks := tk }) ok rd hu) hz ?_
  have hc : ∀ d ∈ xs.map D.py, d.canLay0 = true := fun d hd => by
    obtain ⟨k, hk, rfl⟩ := List.mem_map.mp hd
    exact SeqAt.canLay_of_shaped (okE_at ok hk).2
  have hkeys : EachIs (fun v (d : D) => (dataKind (PySem.W.sortingHeap h0 a its) (xs.map D.py)).keyOf v = some (keyToks d.py)) its xs := by
    have go : ∀ {as : List Value} {bs : List D}, EachIs (fun v (d : D) => ∃ as, Reads (PySem.W.sortingHeap h0 a its) v d.py as) as bs → (∀ b ∈ bs, b ∈ xs) → EachIs (fun v (d : D) => (dataKind (PySem.W.sortingHeap h0 a its) (xs.map D.py)).keyOf v = some (keyToks d.py)) as bs := by
      intro as bs h
      induction h with
      | nil => intro _; exact .nil
      | @cons a b as bs h1 _ ih =>
        intro hm
        obtain ⟨_, h1⟩ := h1
        exact .cons (kind_some hc (List.mem_map_of_mem (hm b List.mem_cons_self)) h1) (ih fun b hb => hm b (List.mem_cons_of_mem _ hb))
    exact go rd fun _ h => h
  have hout := sorted_each rfl each hkeys
  obtain ⟨ov, rvo, qo⟩ := each_vals hout
  have qo' : DVs X.K r H (sortD xs xs) ov := dvs_of_each qo
  have hol : ov.length ≤ sizeLine := by
    rw [rvo.length, PySem.W.sortVals_length false rfl]
    exact hz
  obtain ⟨cc, hcc⟩ := sortedHeap_at (out := (PySem.W.sortVals (dataKind (PySem.W.sortingHeap h0 a its) (xs.map D.py)) false its its).toArray) ho
  have k2 : ∀ b o, s.heap.get? b = some o → (sortedHeap h0 a its (PySem.W.sortVals (dataKind (PySem.W.sortingHeap h0 a its) (xs.map D.py)) false its its).toArray).get? b = some o := fun b o e => by
    rw [sortedHeap_old (ne b o e) (Heap.lt_size (kp b o e))]
    exact kp b o e
  have I2 : Inv X pins σ (upd H a (.lst ov)) { s with heap := sortedHeap h0 a its (PySem.W.sortVals (dataKind (PySem.W.sortingHeap h0 a its) (xs.map D.py)) false its its).toArray, toks := tk } := I.laid k2 ha ⟨hol, _, cc, rvo, hcc⟩
  obtain ⟨x3, R3⟩ := R.lst hn qo'
  exact post _ _ _ I2 x3 R3 R.newLoc
theorem sortE_run (hk2 : X.A.units + 68 < cLine) (hc : X.calm = true) {H : Hp} {s : Shared} {r : List Addr} {S S' : Sto} {x d : D} {v : V} {u : Value} {Q : VK}
    (I : Inv X pins σ H s) (R : RepS (gx X ca) r S H) (q : DV X.K r H x v) (rv : RelV v u) (h : sortNPE x S = some (d, S')) (hq : ∀ r' H' w, Ext X.K r H r' H' → RepS (gx X ca) r' S' H' → DV X.K r' H' d w → Q w H') :
    wpAny (model X.prog X.w) X.A (call (.builtin "sorted") [u]) (EP X pins σ Q) X.xe s := by
  have hu : X.A.in1.in1.units + 66 < cLine := by
    show X.A.units + 1 + 1 + 66 < cLine
    omega
  unfold sortNPE itemsD at h
  split at h
  · rename_i xs e0
    split at h
    · rename_i ok
      cases h
      split at e0
      · rename_i kvs e1
        cases e0
        obtain ⟨n, a, rfl, rfl, ea, e3, hov⟩ := dct_at R q e1
        cases rv
        obtain ⟨es, ob, ents, ep, L⟩ := dlies_of I hov
        obtain ⟨vs, q1, rvs⟩ := L.keys
        have hz2 : ents.size ≤ sizeLine := by rw [L.size]; exact L.sz
        generalize hits : ents.toList.map (·.key) = its at rvs
        have hL : its.length ≤ sizeLine := by rw [← hits, List.length_map, Array.length_toList]; exact hz2
        refine sorted_dict (I.ok.hd hc) L.sm L.raw hz2 (args_sorted1 _) (fun _ => args_list_sort _) fun hp tk kp E' => ?_
        rw [hits]
        have I1 : Inv X pins σ H { s with heap := hp, toks := tk } := I.kept (t' := tk) kp
        exact sort_inE (s := { s with heap := hp, toks := tk }) (tk := tk) hu I1 R (Heap.get?_push_size _ rfl) (fun b o e => Heap.get?_push_of_some _ e) (Nat.le_refl _) q1 rvs hL ok fun r' H' s' I' x' R' q' => ⟨rfl, .ref _, H', I', rfl, hq r' H' _ x' R' q'⟩
      · split at e0
        · rename_i kvs e1
          cases e0
          obtain ⟨n, a, rfl, rfl, ea, e3, hov⟩ := lck_at R q e1
          cases rv
          obtain ⟨es, ob, ents, ep, L⟩ := rlies_of I hov
          obtain ⟨vs, q1, rvs⟩ := L.keys
          have hz2 : ents.size ≤ sizeLine := by rw [L.size]; exact L.sz
          generalize hits : ents.toList.map (·.key) = its at rvs
          have hL : its.length ≤ sizeLine := by rw [← hits, List.length_map, Array.length_toList]; exact hz2
          refine sorted_dict (I.ok.hd hc) L.sm L.raw hz2 (args_sorted1 _) (fun _ => args_list_sort _) fun hp tk kp E' => ?_
          rw [hits]
          have I1 : Inv X pins σ H { s with heap := hp, toks := tk } := I.kept (t' := tk) kp
          exact sort_inE (s := { s with heap := hp, toks := tk }) (tk := tk) hu I1 R (Heap.get?_push_size _ rfl) (fun b o e => Heap.get?_push_of_some _ e) (Nat.le_refl _) q1 rvs hL ok fun r' H' s' I' x' R' q' => ⟨rfl, .ref _, H', I', rfl, hq r' H' _ x' R' q'⟩
        · obtain ⟨a, vs, rfl, qx, hl⟩ := lst_of R q e0
          cases rv
          obtain ⟨its, rvs, hli, hzz⟩ : ∃ its : List Value, Vals vs its ∧ SeqHas s.heap a its ∧ vs.length ≤ sizeLine := by
            rcases hl with hl | hl
            · obtain ⟨its, rvs, hli, hzz⟩ := I.list hl
              exact ⟨its, rvs, .inl hli.isList, hzz⟩
            · obtain ⟨its, rvs, hli, hzz⟩ := I.tuple hl
              exact ⟨its, rvs, .inr hli, hzz⟩
          have hL : its.length ≤ sizeLine := by rw [← rvs.length]; exact hzz
          refine sorted_of_sort2 hli hL (args_sorted1 _) (fun _ => args_list_sort _) fun E' => ?_
          exact sort_inE (tk := s.toks) hu I R (PySem.W.copyHeap_at s.heap its) (fun b o e => PySem.W.copyHeap_old e) (Nat.le_succ _) qx rvs hL ok fun r' H' s' I' x' R' q' => ⟨rfl, .ref _, H', I', rfl, hq r' H' _ x' R' q'⟩
    · cases h
  · cases h
def rSE (G : Ctx) : List V → Hp → VK → Prop := fun vs H Q => ∃ r S x v d S', vs = [v] ∧ RepS G r S H ∧ DV G.K r H x v ∧ sortNPE x S = some (d, S') ∧ ∀ r' H' w, Ext G.K r H r' H' → RepS G r' S' H' → DV G.K r' H' d w → Q w H'
variable {k : Nat} {e : Expr} {ma : EM} {p pos : Pos}
theorem de_sortE (hr : Room k X.A) (hs : X.mg "sorted" = none) (h : PE X e (liftE (gx X ca) ma)) (hc : X.calm = true := by rfl) (hg : Gl X "sorted" := by rfl) (na : starEach [e] X.env = (false, eval e X.env) :: starEach [] X.env := by rfl) :
    PE X (.Call (.Name "sorted" p) [e] [] pos) (liftE (gx X ca) (mSortE ma)) :=
  wkE (pe_callB (r := rSE (gx X ca)) (fun pins s σ H xs us Q I r1 hh => by
    obtain ⟨r, S, x, v, d, S', rfl, R, q, e, k⟩ := hh
    obtain ⟨u, rfl, r3⟩ := vals1 r1
    exact sortE_run (by have := hr.un; omega) hc I R q r3 e k) hg hs boot_sorted (pa_cons h pa_nil na) (he := na)) fun σ H Q hh => by
    obtain ⟨r, env, S, d, S', R, W, e1, k⟩ := hh
    unfold mSortE m1 at e1
    split at e1
    · rename_i y S1 e2
      refine ⟨r, env, S, y, S1, R, W, e2, fun r1 H1 v x1 R1 q1 => ?_⟩
      exact ⟨r1, S1, y, v, d, S', rfl, R1, q1, e1, fun r2 H2 w x2 R2 q2 => k r2 H2 w (x1.trans x2) R2 q2⟩
    · cases e1
end
end DL
namespace DL
open PySem
section
variable {α : Type}
end
section
variable {lt : D → D → Prop} [DecidableRel lt]
def Lnk (lt : D → D → Prop) (ds : List D) (i j : Nat) : Prop := ∀ p x, ds[i]? = some p → ds[j]? = some x → ¬ lt x p
def HeapD (lt : D → D → Prop) (ds : List D) : Prop := ∀ i, 0 < i → Lnk lt ds ((i - 1) / 2) i
def Told (lt : D → D → Prop) [DecidableRel lt] (ds : List D) : Prop := ds.Nodup ∧ ∀ a ∈ ds, ∀ b ∈ ds, a ≠ b → ltQ a b = some (decide (lt a b))
theorem Told.at {ds : List D} (h : Told lt ds) {i j : Nat} {x y : D} (hi : ds[i]? = some x) (hj : ds[j]? = some y) (hn : i ≠ j) : ltQ x y = some (decide (lt x y)) := by
  refine h.2 x (List.mem_of_getElem? hi) y (List.mem_of_getElem? hj) fun e => hn ?_
  subst e
  obtain ⟨a1, a2⟩ := List.getElem?_eq_some_iff.mp hi
  obtain ⟨b1, b2⟩ := List.getElem?_eq_some_iff.mp hj
  exact (List.getElem_inj h.1).mp (a2.trans b2.symm)
end
end DL
namespace DL
open PySem
abbrev AB : List D := [.str "a", .str "b"]
abbrev ABN : List D := [.str "a", .str "b", .str "a", .str "b", .non]
abbrev NN : List D := [.int 0, .int 1, .int 2, .str "m", .str "n"]
abbrev MN : List D := [.str "m", .str "n"]
def D3 (d : D) : Prop := d = .int 0 ∨ d = .int 1 ∨ d = .int 2
structure RlD (r : Rl) : Prop where
  p : D3 r.p
  s : r.s ∈ AB
  q : D3 r.q
  w : ∀ d ∈ r.w, d ∈ AB
  lw : r.w.length ≤ 2
  m : r.m = .int 0 ∨ r.m = .int 1
theorem d3_th {n : Nat} {d : D} (h : D3 d) : Th n d := by rcases h with rfl | rfl | rfl <;> exact .int
theorem ab_th {n : Nat} {d : D} (h : d ∈ AB) : Th n d := by
  simp at h
  rcases h with rfl | rfl <;> exact .str (by decide +kernel)
theorem nn_th {n : Nat} {d : D} (h : d ∈ NN) : Th n d := by
  simp at h
  rcases h with rfl | rfl | rfl | rfl | rfl
  all_goals first | exact .int | exact .str (by decide +kernel)
theorem abn_th {n : Nat} {d : D} (h : d ∈ ABN) : Th n d := by
  simp at h
  rcases h with rfl | rfl | rfl | rfl | rfl
  all_goals first | exact .non | exact .str (by decide +kernel)
theorem RlD.th {R : List Rl} (h : ∀ r ∈ R, RlD r) : RlT R := fun r hr => ⟨d3_th (h r hr).p, ab_th (h r hr).s, d3_th (h r hr).q, fun d hd => ab_th ((h r hr).w d hd), (h r hr).lw⟩
@[simp] theorem toInt_b {b : Bool} {S : Sto} : toIntP [.bl b] S = some (.int (if b then 1 else 0), S) := rfl
end DL
namespace DL
open PySem
noncomputable def machB1 (dr pk once : FM) : SM := (sSeq (sFor (iRng1M (mL dr (lCons (mVar 0) (lCons (mC (.int 8)) lNil)))) (gVar 6) (sExpr (mM "list" appP (mVar 5) (lCons (mL tupP (lCons (mL pk (lCons (mVar 0) (lCons (mVar 2) lNil))) (lCons (mL pk (lCons (mVar 0) (lCons (mVar 4) lNil))) (lCons (mL pk (lCons (mVar 0) (lCons (mVar 3) lNil))) lNil)))) lNil)))) (sSeq (sAsg (mLc (iSeq (mVar 2)) [8] (.nm 8) (bV (m2 eqP (mL dr (lCons (mVar 0) (lCons (mC (.int 3)) lNil))) (mC (.int 0)))) (mVar 8)) (gVar 7)) (sRet (mL tupP (lCons (mL tupleP (lCons (mL once (lCons (mVar 5) lNil)) lNil)) (lCons (mL tupleP (lCons (mVar 7) lNil)) lNil))))))
noncomputable def machB (dr pk once : FM) : SM := (sSeq (sAsg (mL lstP (lCons (mC (.int 0)) (lCons (mC (.int 1)) (lCons (mC (.int 2)) (lCons (mC (.str "m")) (lCons (mC (.str "n")) lNil)))))) (gVar 2)) (sSeq (sAsg (mIf (bTru (mVar 1)) (mL lstP (lCons (mC (.str "m")) (lCons (mC (.str "n")) lNil))) (mVar 2)) (gVar 3)) (sSeq (sAsg (mIf (bTru (mVar 1)) (mL lstP (lCons (mC (.str "a")) (lCons (mC (.str "b")) lNil))) (mL lstP (lCons (mC (.str "a")) (lCons (mC (.str "b")) (lCons (mC (.str "a")) (lCons (mC (.str "b")) (lCons (mC .non) lNil))))))) (gVar 4)) (sSeq (sAsg (mL lstP lNil) (gVar 5)) (machB1 dr pk once)))))
structure MachD (sy tg : List D) (E : List Ed) (fin : List D) : Prop where
  nd : E.Nodup
  ed : ∀ e ∈ E, e.1 ∈ NN ∧ e.2.1 ∈ sy ∧ e.2.2 ∈ tg
  len : E.length ≤ 7
  fnd : fin.Nodup
  fin : ∀ x ∈ fin, x ∈ NN
def MachR (sy tg : List D) (T : Sto) (d : D) (S : Sto) : Prop := ∃ (E : List Ed) (fin : List D), d = .tup [.tup (E.map enc), .tup fin] ∧ MachD sy tg E fin ∧ ∃ T', Gr T T' ∧ DSt T' S
theorem mach1_ok {dr pk once : FM} (hd : DrawOk dr) (hp : pk = runB 2 (pickQ dr)) (ho : once = runB 3 onceB) {T0 T S : Sto} {a b c e : Nat} {sy tg : List D} {o1 o6 o7 o8 : Option D} (g0 : Gr T0 T) (h : DSt T S) (ha : T[a]? = some (.lst NN)) (hb : T[b]? = some (.lst tg)) (hc : T[c]? = some (.lst sy)) (he : T[e]? = some (.lst [])) (le : T0.length ≤ e) (ntg : tg ≠ []) (nsy : sy ≠ [])
    (tsy : ∀ d ∈ sy, Th 3 d) (ttg : ∀ d ∈ tg, Th 3 d) (ltg : tg.length ≤ 5) (lsy : sy.length ≤ 5) :
    Ow (machB1 dr pk once [some (.loc 1), o1, some (.loc (a + 2)), some (.loc (b + 2)), some (.loc (c + 2)), some (.loc (e + 2)), o6, o7, o8] S) fun x => ∃ d, x.1 = .rt d ∧ MachR sy tg T0 d x.2.2 := by
  have nea : e ≠ a := by rintro rfl; rw [ha] at he; simp at he
  have neb : e ≠ b := by rintro rfl; rw [hb] at he; simp at he; exact ntg he
  have nec : e ≠ c := by rintro rfl; rw [hc] at he; simp at he; exact nsy he
  unfold machB1
  rw [ow_seq, ow_for]
  simp [-ow_seq]
  refine (hd _ _ 8 h (by decide) (by decide)).imp ?_
  rintro ⟨d, S1⟩ ⟨i, rfl, i0, i1, h1⟩
  simp [-ow_seq]
  refine ⟨by omega, ?_⟩
  have hn : i.toNat ≤ 7 := by omega
  generalize i.toNat = n at hn
  refine (forR_inv (n := n) (fun j env S1 => ∃ o6 T1 Es, env = [some (.loc 1), o1, some (.loc (a + 2)), some (.loc (b + 2)), some (.loc (c + 2)), some (.loc (e + 2)), o6, o7, o8] ∧ Gr T0 T1 ∧ DSt T1 S1 ∧ T1[a]? = some (.lst NN) ∧ T1[b]? = some (.lst tg) ∧ T1[c]? = some (.lst sy) ∧ T1[e]? = some (.lst (Es.map enc)) ∧ Es.length = j ∧ ∀ p : Ed, p ∈ Es → p.1 ∈ NN ∧ p.2.1 ∈ sy ∧ p.2.2 ∈ tg)
    (fun x => x.1 = .nx ∧ ∃ o6 T1 Es, x.2.1 = [some (.loc 1), o1, some (.loc (a + 2)), some (.loc (b + 2)), some (.loc (c + 2)), some (.loc (e + 2)), o6, o7, o8] ∧ Gr T0 T1 ∧ DSt T1 x.2.2 ∧ T1[a]? = some (.lst NN) ∧ T1[e]? = some (.lst (Es.map enc)) ∧ Es.length = n ∧ ∀ p : Ed, p ∈ Es → p.1 ∈ NN ∧ p.2.1 ∈ sy ∧ p.2.2 ∈ tg)
    (fun env S1 ⟨o6, T1, Es, e1, g, h2, q1, q2, q3, q4, q5, q6⟩ => ⟨rfl, o6, T1, Es, e1, g, h2, q1, q4, q5, q6⟩) (fun j env S1 hj ⟨o6, T1, Es, e1, g, h2, q1, q2, q3, q4, q5, q6⟩ => ?step) ⟨o6, T, [], rfl, g0, h1, ha, hb, hc, he, rfl, by simp⟩).imp ?imp
  case step =>
    subst e1
    subst hp
    simp [ty_lst (h2.get q4)]
    refine (pickQ_loc hd h2 q1 (by simp) (by simp)).imp ?_
    rintro ⟨x, S2⟩ ⟨hx, h3⟩
    dsimp only
    refine (pickQ_loc hd h3 q3 nsy (by omega)).imp ?_
    rintro ⟨s, S3⟩ ⟨hs, h4⟩
    dsimp only
    refine (pickQ_loc hd h4 q2 ntg (by omega)).imp ?_
    rintro ⟨y, S4⟩ ⟨hy, h5⟩
    simp [tup_ok]
    rw [app_lst (h5.get q4) (by simp; omega)]
    simp only [ow_some]
    refine ⟨_, g.set le, h5.set _ _, by rw [get_set_ne nea]; exact q1, by rw [get_set_ne neb]; exact q2, by rw [get_set_ne nec]; exact q3, Es ++ [(x, s, y)], by rw [get_set q4]; simp [enc], by simp [q5], fun u v w hp => ?_⟩
    rcases List.mem_append.mp hp with hp | hp
    · simpa using q6 _ hp
    · have := List.mem_singleton.mp hp
      cases this
      exact ⟨by simpa using hx, hs, hy⟩
  case imp =>
    rintro ⟨fl, env, S2⟩ ⟨rfl, o6, T1, Es, rfl, g, h2, q1, q4, q5, q6⟩
    dsimp only at *
    rw [ow_seq]
    simp [-ow_seq, ow_lc, seq_loc (h2.get q1)]
    refine (lcL_inv NN (fun j acc S1 => acc.Sublist (NN.take j) ∧ DSt T1 S1) (fun j acc S1 ⟨_, h⟩ => by simp [itAt, seq_loc (h.get q1)]) (fun j d acc S1 hj ⟨h3, h4⟩ => ?step2) NN.length 0 [] _ (by simp) (by simp) ⟨by simp, h2⟩).imp ?imp2
    case step2 =>
      refine ⟨_, rfl, ?_⟩
      simp [wipeD]
      refine (hd _ _ 3 h4 (by decide) (by decide)).imp ?_
      rintro ⟨d', S4⟩ ⟨i, rfl, i0, i1, h5⟩
      have e1 : NN.take (j + 1) = NN.take j ++ [d] := by rw [List.take_add_one, hj]; rfl
      have hl := h3.length_le
      have hj5 := (List.getElem?_eq_some_iff.mp hj).1
      simp at hj5
      by_cases hi : i = 0
      · simp [-List.take_succ_cons, hi]
        refine ⟨fits_lt ?_, ?_, h5⟩
        · rw [List.length_take] at hl
          omega
        · show (acc ++ [d]).Sublist (NN.take (j + 1))
          rw [e1]
          exact h3.append (List.Sublist.refl _)
      · simp [-List.take_succ_cons, hi]
        refine ⟨?_, h5⟩
        show acc.Sublist (NN.take (j + 1))
        rw [e1]
        exact h3.trans (List.sublist_append_left _ _)
    case imp2 =>
      rintro ⟨fs, S3⟩ ⟨h3, h4⟩
      dsimp only at *
      have h5 := h4.app [.lst fs]
      have q7 : (T1 ++ [Ob.lst fs])[e]? = some (.lst (Es.map enc)) := get_app q4
      have tE : EdT 3 Es := fun p hp => ⟨nn_th (q6 p hp).1, tsy _ (q6 p hp).2.1, ttg _ (q6 p hp).2.2⟩
      subst ho
      refine (once_ok (seq_loc (h5.get q7)) (encs_th tE) (by omega) (by simp; omega)).imp ?_
      rintro ⟨r, S5⟩ ⟨g5, l, ys, rfl, hl, h6, h7⟩
      obtain ⟨T2, g6, h8⟩ := h5.gr g5
      dsimp only at *
      have q8 : (S3 ++ [Ob.lst fs])[S3.length]? = some (.lst fs) := get_snoc
      simp [tuple_lst h6, tuple_lst (g5.get q8), tup_ok]
      have hdec : ∀ y ∈ ys, enc (e1 y, e2 y, e3 y) = y := fun y hy => by
        obtain ⟨p, _, rfl⟩ := List.mem_map.mp ((h7.2 y).mp hy)
        rfl
      have hys : ys = (ys.map fun y => (e1 y, e2 y, e3 y)).map enc := by
        rw [List.map_map]
        conv => lhs; rw [← List.map_id ys]
        exact List.map_congr_left fun y hy => (hdec y hy).symm
      have hmem : ∀ p : Ed, p ∈ (ys.map fun y => (e1 y, e2 y, e3 y)) → p ∈ Es := fun p hp => by
        obtain ⟨y, hy, rfl⟩ := List.mem_map.mp hp
        obtain ⟨p, hp2, rfl⟩ := List.mem_map.mp ((h7.2 y).mp hy)
        exact hp2
      have hnd : (ys.map fun y => (e1 y, e2 y, e3 y)).Nodup := by
        have := h7.1
        rw [hys, List.nodup_iff_pairwise_ne, List.pairwise_map] at this
        rw [List.nodup_iff_pairwise_ne]
        exact this.imp fun h e => h (by rw [e])
      refine ⟨ys.map fun y => (e1 y, e2 y, e3 y), fs, by rw [← hys], ⟨hnd, fun p hp => q6 p (hmem p hp), by have := len_subE hnd hmem; omega, ?_, fun x hx => ?_⟩, T2, (g.trans .app).trans g6, h8⟩
      · exact h3.nodup (by simp [NN]; decide)
      · exact h3.subset hx
theorem mach_ok {dr pk once : FM} (hd : DrawOk dr) (hp : pk = runB 2 (pickQ dr)) (ho : once = runB 3 onceB) {T S : Sto} (h : DSt T S) (pl : Bool) :
    Ow (runB 9 (machB dr pk once) [.loc 1, .bl pl] S) fun x => MachR (if pl then AB else ABN) (if pl then MN else NN) T x.1 x.2 := by
  have hl := h.len
  rw [ow_runB]
  unfold machB
  rw [ow_seq]
  simp [-ow_seq, lst_ok]
  rw [ow_seq]
  cases pl with
  | true =>
    simp [-ow_seq, lst_ok]
    rw [ow_seq]
    simp [-ow_seq, lst_ok]
    rw [ow_seq]
    simp [-ow_seq, lst_ok]
    have h4 := h.app [.lst NN, .lst MN, .lst AB, .lst []]
    rw [hl]
    refine (mach1_ok (T0 := T) (a := T.length) (b := T.length + 1) (c := T.length + 2) (e := T.length + 3) hd hp ho .app h4 (sy := AB) (tg := MN) (by simp) ?_ ?_ ?_ (by omega) (by simp) (by simp) (fun d hd => ab_th hd) (fun d hd => nn_th (by simp at hd ⊢; rcases hd with rfl | rfl <;> simp)) (by simp) (by simp)).imp ?_
    · rw [List.getElem?_append_right (by omega), show T.length + 1 - T.length = 1 by omega]; rfl
    · rw [List.getElem?_append_right (by omega), show T.length + 2 - T.length = 2 by omega]; rfl
    · rw [List.getElem?_append_right (by omega), show T.length + 3 - T.length = 3 by omega]; rfl
    · rintro ⟨fl, env, S2⟩ ⟨d, rfl, h5⟩
      exact h5
  | false =>
    simp [-ow_seq, lst_ok]
    rw [ow_seq]
    simp [-ow_seq, lst_ok]
    rw [ow_seq]
    simp [-ow_seq, lst_ok]
    have h4 := h.app [.lst NN, .lst ABN, .lst []]
    rw [hl]
    refine (mach1_ok (T0 := T) (a := T.length) (b := T.length) (c := T.length + 1) (e := T.length + 2) hd hp ho .app h4 (sy := ABN) (tg := NN) (by simp) (by simp) ?_ ?_ (by omega) (by simp) (by simp) (fun d hd => abn_th hd) (fun d hd => nn_th hd) (by simp) (by simp)).imp ?_
    · rw [List.getElem?_append_right (by omega), show T.length + 1 - T.length = 1 by omega]; rfl
    · rw [List.getElem?_append_right (by omega), show T.length + 2 - T.length = 2 by omega]; rfl
    · rintro ⟨fl, env, S2⟩ ⟨d, rfl, h5⟩
      exact h5
end DL
namespace DL
open PySem
abbrev Cf := D × List D
def encC (c : Cf) : D := .tup [c.1, .tup c.2]
def CfT (n : Nat) (c : Cf) : Prop := Th n c.1 ∧ (∀ d ∈ c.2, Th n d) ∧ c.2.length ≤ 900
theorem cf_th {n : Nat} {c : Cf} (h : CfT n c) : Th (n + 2) (encC c) := .tup (by simp) fun d hd => by
  simp at hd
  rcases hd with rfl | rfl
  · exact h.1.mono (by omega)
  · exact .tup h.2.2 h.2.1
@[simp] theorem sl_tup {ds : List D} {i j : Option Int} {S : Sto} : slP (.tup ds) i j S = some (.tup (cutD ds i j), S) := rfl
end DL
namespace DL
open PySem
def lvl : Nat → List (List D)
  | 0 => [[]]
  | n + 1 => (lvl n).map (· ++ [.str "a"]) ++ (lvl n).map (· ++ [.str "b"])
def stk : Nat → List (List D)
  | 0 => [[]]
  | n + 1 => stk n ++ lvl (n + 1)
theorem lvl_len : ∀ n, (lvl n).length = 2 ^ n
  | 0 => rfl
  | n + 1 => by simp [lvl, lvl_len n, Nat.pow_succ]; omega
theorem stk_len : ∀ n, (stk n).length + 1 = 2 ^ (n + 1)
  | 0 => rfl
  | n + 1 => by
    have := stk_len n
    simp only [stk, List.length_append, lvl_len]
    rw [Nat.pow_succ 2 (n + 1)]
    omega
theorem mem_lvl : ∀ {n : Nat} {st : List D}, st ∈ lvl n → st.length = n ∧ ∀ d ∈ st, d ∈ AB
  | 0, st, h => by simp [lvl] at h; subst h; simp
  | n + 1, st, h => by
    simp only [lvl, List.mem_append, List.mem_map] at h
    rcases h with ⟨u, hu, rfl⟩ | ⟨u, hu, rfl⟩
    all_goals
      obtain ⟨h1, h2⟩ := mem_lvl hu
      refine ⟨by simp [h1], fun d hd => ?_⟩
      rcases List.mem_append.mp hd with hd | hd
      · exact h2 d hd
      · rw [List.mem_singleton.mp hd]; simp
theorem mem_stk : ∀ {n : Nat} {st : List D}, st ∈ stk n → st.length ≤ n ∧ ∀ d ∈ st, d ∈ AB
  | 0, st, h => by simp [stk] at h; subst h; simp
  | n + 1, st, h => by
    rcases List.mem_append.mp h with h | h
    · have := mem_stk h
      exact ⟨by omega, this.2⟩
    · have := mem_lvl h
      exact ⟨by omega, this.2⟩
theorem add_lst {m n : Nat} {xs ys : List D} {S : Sto} (h1 : S[m]? = some (.lst xs)) (h2 : S[n]? = some (.lst ys)) (hz : xs.length + ys.length ≤ 1000000) : addP (.loc m) (.loc n) S = some (.loc S.length, S ++ [.lst (xs ++ ys)]) := by
  simp only [addP, h1, h2]
  rw [if_pos (fitsM hz)]
theorem app_ok {d1 d2 : Option D} {o0 o3 o4 : Option D} {l : Nat} {S : Sto} {Ws : List (List D)} {x : D} (hl : S[l]? = some (.lst (Ws.map .tup))) (h1 : Ws.length ≤ 10000) (h2 : ∀ w ∈ Ws, w.length ≤ 100) :
    Ow (lcL (.seq (.loc l)) [4] (.nm 4) bYes (m2 addP (mVar 4) (mL tupP (lCons (mC x) lNil))) [o0, d1, d2, o3, o4] 0 [] S) fun r => r.1 = (Ws.map (· ++ [x])).map .tup ∧ Gr S r.2 := by
  refine (lcG (seq_loc hl) (by simp; omega) (fun _ => true) (fun d => match d with | .tup w => .tup (w ++ [x]) | _ => .non) (fun y hy => ?_)).imp ?_
  · obtain ⟨w, hw, rfl⟩ := List.mem_map.mp hy
    refine ⟨_, rfl, fun S1 g => ?_⟩
    have := h2 w hw
    have lw : w.length + 1 ≤ sizeLine := fits (by omega)
    simp [bYes, wipeD, tup_ok, lw, Gr.refl]
  · rintro ⟨r, S1⟩ ⟨rfl, g⟩
    refine ⟨?_, g⟩
    rw [filter_yes, List.map_map, List.map_map]
    rfl
end DL
namespace DL
open PySem
def OffS (O : List Nat) (S S' : Sto) : Prop := S.length ≤ S'.length ∧ ∀ j, j < S.length → j ∉ O → S'[j]? = S[j]?
theorem OffS.refl {O : List Nat} {S : Sto} : OffS O S S := ⟨Nat.le_refl _, fun _ _ _ => rfl⟩
theorem OffS.trans {O : List Nat} {S S1 S2 : Sto} (h : OffS O S S1) (k : OffS O S1 S2) : OffS O S S2 :=
  ⟨Nat.le_trans h.1 k.1, fun j hj hn => (k.2 j (Nat.lt_of_lt_of_le hj h.1) hn).trans (h.2 j hj hn)⟩
theorem OffS.more {O O' : List Nat} {S S' : Sto} (h : OffS O S S') (k : ∀ j, j ∈ O → j < S.length → j ∈ O') : OffS O' S S' := ⟨h.1, fun j hj hn => h.2 j hj fun z => hn (k j z hj)⟩
theorem OffS.gr {O : List Nat} {S S' : Sto} (h : Gr S S') : OffS O S S' := ⟨h.len, fun j hj _ => by obtain ⟨U, rfl⟩ := h; exact List.getElem?_append_left hj⟩
theorem OffS.get {O : List Nat} {S S' : Sto} (h : OffS O S S') {j : Nat} {o : Ob} (hn : j ∉ O) (e : S[j]? = some o) : S'[j]? = some o := (h.2 j (List.getElem?_eq_some_iff.mp e).1 hn).trans e
theorem OffS.set {O : List Nat} {S : Sto} {n : Nat} {o : Ob} (h : n ∈ O) : OffS O S (S.set n o) := ⟨by simp, fun j hj hn => get_set_ne fun z : n = j => hn (by rw [← z]; exact h)⟩
theorem OffS.grow {S0 S S' : Sto} {O : List Nat} (g : Gr S0 S) (h : OffS O S S') (hO : ∀ j ∈ O, S0.length ≤ j) : Gr S0 S' :=
  g.trans' h.1 fun j hj => h.2 j (Nat.lt_of_lt_of_le hj g.len) fun z => absurd (hO j z) (by omega)
structure DoL (f : D → List D) (d : Nat) (T : List (D × Nat)) (S : Sto) : Prop where
  kv : S[d]? = some (.dct (T.map fun p => (p.1, .loc p.2)))
  nb : ∀ p ∈ T, p.1.nb = true
  nd : (T.map (·.1)).Nodup
  at_ : ∀ p ∈ T, S[p.2]? = some (.lst (f p.1))
  no : ∀ k, k ∉ T.map (·.1) → f k = []
theorem nbK_T {T : List (D × Nat)} (h : ∀ p ∈ T, p.1.nb = true) : nbK (T.map fun p => (p.1, D.loc p.2)) := fun q hq => by
  obtain ⟨p, hp, rfl⟩ := List.mem_map.mp hq
  exact h p hp
theorem look_T {T : List (D × Nat)} {k : D} : lookD (T.map fun p => (p.1, D.loc p.2)) k = none ↔ k ∉ T.map (·.1) := by
  induction T with
  | nil => simp [lookD]
  | cons p T ih =>
    simp only [List.map_cons, lookD]
    by_cases h : p.1 = k
    · simp [h]
    · rw [if_neg h, ih]
      simp [Ne.symm h]
theorem look_T' {T : List (D × Nat)} {k v : D} (h : lookD (T.map fun p => (p.1, D.loc p.2)) k = some v) : ∃ l, v = .loc l ∧ (k, l) ∈ T := by
  induction T with
  | nil => simp [lookD] at h
  | cons p T ih =>
    simp only [List.map_cons, lookD] at h
    by_cases e : p.1 = k
    · rw [if_pos e] at h
      cases h
      exact ⟨p.2, rfl, by rw [← e]; exact List.mem_cons_self⟩
    · rw [if_neg e] at h
      obtain ⟨l, h1, h2⟩ := ih h
      exact ⟨l, h1, List.mem_cons_of_mem _ h2⟩
theorem dput_new : ∀ {kvs : List (D × D)} {k v : D}, nbK kvs → k.nb = true → lookD kvs k = none → dput kvs k v = kvs ++ [(k, v)]
  | [], k, v, _, _, _ => dput_nil
  | (x, y) :: r, k, v, hn, hk, h => by
    have hx : x.nb = true := hn _ List.mem_cons_self
    simp only [lookD] at h
    split at h
    · cases h
    · rename_i e
      rw [dput_cons hx hk, if_neg e, dput_new (fun p hp => hn p (List.mem_cons_of_mem _ hp)) hk h]
      rfl
theorem setdef_dct' {n : Nat} {kvs : List (D × D)} {k df : D} {S : Sto} (h : S[n]? = some (.dct kvs)) (hk : okKey k = true) (hz : kvs.length ≤ 100000) : setdefP (.loc n) [k, df] S = some (match dget kvs k with
    | some d => (d, S)
    | none => (df, S.set n (.dct (dput kvs k df)))) := by
  have e : dctD S (.loc n) = some kvs := by simp [dctD, h]
  simp only [setdefP, e, hk, true_and]
  rw [if_pos (fitsM_lt (by omega))]
  cases dget kvs k <;> rfl
section
variable {f : D → List D} {d : Nat} {T : List (D × Nat)} {S : Sto}
theorem DoL.off (h : DoL f d T S) {S' : Sto} {O : List Nat} (x : OffS O S S') (h1 : d ∉ O) (h2 : ∀ p ∈ T, p.2 ∉ O) : DoL f d T S' :=
  ⟨x.get h1 h.kv, h.nb, h.nd, fun p hp => x.get (h2 p hp) (h.at_ p hp), h.no⟩
theorem DoL.lt (h : DoL f d T S) : d < S.length ∧ ∀ p ∈ T, p.2 < S.length := ⟨(List.getElem?_eq_some_iff.mp h.kv).1, fun p hp => (List.getElem?_eq_some_iff.mp (h.at_ p hp)).1⟩
theorem DoL.get (h : DoL f d T S) {k : D} (hk : okKey k = true) (hb : k.nb = true) : ∃ l, getP (.loc d) [k, .loc S.length] (S ++ [.lst []]) = some (.loc l, S ++ [.lst []]) ∧ (S ++ [Ob.lst []])[l]? = some (.lst (f k)) ∧ ((k, l) ∈ T ∨ l = S.length) := by
  have e1 : (S ++ [Ob.lst []])[d]? = some (.dct (T.map fun p => (p.1, .loc p.2))) := get_app h.kv
  have e2 : dctD (S ++ [Ob.lst []]) (.loc d) = some (T.map fun p => (p.1, .loc p.2)) := by simp [dctD, e1]
  simp only [getP, e2, hk, if_true]
  rw [dget_look (nbK_T h.nb) hb]
  cases e : lookD (T.map fun p => (p.1, D.loc p.2)) k with
  | none =>
    refine ⟨S.length, rfl, ?_, .inr rfl⟩
    rw [h.no k (look_T.mp e)]
    exact get_snoc
  | some v =>
    obtain ⟨l, rfl, hm⟩ := look_T' e
    exact ⟨l, rfl, get_app (h.at_ _ hm), .inl hm⟩
theorem DoL.add (h : DoL f d T S) (hd : d ∉ T.map (·.2)) (hT : (T.map (·.2)).Nodup) {k v : D} (hk : okKey k = true) (hb : k.nb = true) (hz : T.length ≤ 100000) (hl : (f k).length ≤ 1000000) :
    ∃ l S1 T', setdefP (.loc d) [k, .loc S.length] (S ++ [.lst []]) = some (.loc l, S1) ∧ S1[l]? = some (.lst (f k)) ∧ appP (.loc l) [v] S1 = some (.non, S1.set l (.lst (f k ++ [v]))) ∧ DoL (fun x => if x = k then f k ++ [v] else f x) d T' (S1.set l (.lst (f k ++ [v]))) ∧
      (S1.set l (.lst (f k ++ [v]))).length = S.length + 1 ∧ OffS (d :: T.map (·.2)) S (S1.set l (.lst (f k ++ [v]))) ∧ (T' = T ∨ T' = T ++ [(k, S.length)]) := by
  have e1 : (S ++ [Ob.lst []])[d]? = some (.dct (T.map fun p => (p.1, .loc p.2))) := get_app h.kv
  have hlt := h.lt
  rw [setdef_dct' e1 hk (by simpa using hz), dget_look (nbK_T h.nb) hb]
  cases e : lookD (T.map fun p => (p.1, D.loc p.2)) k with
  | some v0 =>
    obtain ⟨l, rfl, hm⟩ := look_T' e
    have hl1 : (S ++ [Ob.lst []])[l]? = some (.lst (f k)) := get_app (h.at_ _ hm)
    have hl2 := hlt.2 _ hm
    refine ⟨l, _, T, rfl, hl1, app_lst hl1 hl, ⟨?_, h.nb, h.nd, fun p hp => ?_, fun x hx => ?_⟩, by simp, ⟨by simp, fun j hj hn => ?_⟩, .inl rfl⟩
    · rw [get_set_ne (fun z => hd (List.mem_map.mpr ⟨_, hm, z⟩))]
      exact e1
    · by_cases hp2 : p.1 = k
      · have : p = (k, l) := by
          obtain ⟨a, b⟩ := p
          dsimp only at hp2
          subst hp2
          have q : lookD (T.map fun p => (p.1, D.loc p.2)) a = some (.loc b) := by
            have go : ∀ T : List (D × Nat), (T.map (·.1)).Nodup → (a, b) ∈ T → lookD (T.map fun p => (p.1, D.loc p.2)) a = some (.loc b) := by
              intro T
              induction T with
              | nil => intro _ h; cases h
              | cons q T ih =>
                intro nd hm
                rw [List.map_cons, List.nodup_cons] at nd
                rcases List.mem_cons.mp hm with rfl | hm
                · simp [lookD]
                · simp only [List.map_cons, lookD]
                  rw [if_neg (fun z => nd.1 (by rw [z]; exact List.mem_map.mpr ⟨_, hm, rfl⟩))]
                  exact ih nd.2 hm
            exact go T h.nd hp
          rw [q] at e
          cases e
          rfl
        subst this
        rw [get_set hl1]
        simp
      · have hne : l ≠ p.2 := fun z => by
          obtain ⟨i, hi⟩ := List.mem_iff_getElem?.mp hm
          obtain ⟨j, hj⟩ := List.mem_iff_getElem?.mp hp
          have e3 : (T.map (·.2))[i]? = some l := by rw [List.getElem?_map, hi]; rfl
          have e4 : (T.map (·.2))[j]? = some l := by rw [List.getElem?_map, hj, z]; rfl
          obtain ⟨a1, a2⟩ := List.getElem?_eq_some_iff.mp e3
          obtain ⟨b1, b2⟩ := List.getElem?_eq_some_iff.mp e4
          have := (List.getElem_inj hT).mp (a2.trans b2.symm)
          subst this
          rw [hi] at hj
          cases hj
          exact hp2 rfl
        rw [get_set_ne hne, if_neg hp2]
        exact get_app (h.at_ p hp)
    · have : x ≠ k := fun z => hx (by rw [z]; exact List.mem_map.mpr ⟨_, hm, rfl⟩)
      rw [if_neg this]
      exact h.no x hx
    · have : l ≠ j := fun z => hn (List.mem_cons_of_mem _ (by rw [← z]; exact List.mem_map.mpr ⟨_, hm, rfl⟩))
      rw [get_set_ne this, List.getElem?_append_left hj]
  | none =>
    have hkT := look_T.mp e
    have hfk := h.no k hkT
    have e3 : ((S ++ [Ob.lst []]).set d (.dct (dput (T.map fun p => (p.1, D.loc p.2)) k (.loc S.length))))[S.length]? = some (.lst (f k)) := by
      rw [get_set_ne (by omega), hfk]
      exact get_snoc
    refine ⟨S.length, _, T ++ [(k, S.length)], rfl, e3, app_lst e3 hl, ⟨?_, fun p hp => ?_, ?_, fun p hp => ?_, fun x hx => ?_⟩, by simp, ⟨by simp, fun j hj hn => ?_⟩, .inr rfl⟩
    · rw [get_set_ne (by omega), get_set e1, dput_new (nbK_T h.nb) hb e]
      simp
    · rcases List.mem_append.mp hp with hp | hp
      · exact h.nb p hp
      · rw [List.mem_singleton.mp hp]
        exact hb
    · rw [List.map_append, List.nodup_append]
      refine ⟨h.nd, by simp, fun a ha b hb2 => ?_⟩
      simp at hb2
      subst hb2
      exact fun z => hkT (z ▸ ha)
    · rcases List.mem_append.mp hp with hp | hp
      · have hp1 : p.1 ≠ k := fun z => hkT (by rw [← z]; exact List.mem_map.mpr ⟨p, hp, rfl⟩)
        have hp2 := hlt.2 p hp
        have hp3 : d ≠ p.2 := fun z => hd (by rw [z]; exact List.mem_map.mpr ⟨p, hp, rfl⟩)
        rw [if_neg hp1, get_set_ne (by omega), get_set_ne hp3]
        exact get_app (h.at_ p hp)
      · rw [List.mem_singleton.mp hp]
        dsimp only
        rw [if_pos rfl, get_set e3]
    · rw [List.map_append] at hx
      have h1 : x ∉ T.map (·.1) := fun z => hx (List.mem_append_left _ z)
      have h2 : x ≠ k := fun z => hx (List.mem_append_right _ (by simp [z]))
      rw [if_neg h2]
      exact h.no x h1
    · have : d ≠ j := fun z => hn (by rw [z]; exact List.mem_cons_self)
      rw [get_set_ne (by omega), get_set_ne this, List.getElem?_append_left hj]
end
end DL
namespace DL
open PySem
structure GR where
  p : D
  s : D
  q : D
  w : List D
  m : Int
def GR.enc (r : GR) : D := .tup [r.p, r.s, r.q, .tup r.w, .int r.m]
structure En where
  p : D
  s : D
  q : D
  f : Int
def En.enc (e : En) : D := .tup [e.p, e.s, e.q, .int e.f]
theorem En.inj {a b : En} : a.enc = b.enc ↔ a = b := by
  obtain ⟨p, s, q, f⟩ := a
  obtain ⟨p', s', q', f'⟩ := b
  simp [En.enc]
inductive Md where
  | nil (i : Nat)
  | one (i : Nat) (e : En)
  | two (i : Nat) (e f : En)
def Md.enc : Md → D
  | .nil i => .tup [.int i]
  | .one i e => .tup [.int i, e.enc]
  | .two i e f => .tup [.int i, e.enc, f.enc]
structure AE where
  e : En
  l : Nat
  md : Md
structure XE where
  l : Nat
  o : Nat
  e : En
  md : Md
def XE.enc (x : XE) : D := .tup [.int x.l, .int x.o, x.e.enc, x.md.enc]
structure EnOk (e : En) : Prop where
  p : Th 6 e.p
  s : Th 6 e.s
  q : Th 6 e.q
def MdOk : Md → Prop
  | .nil _ => True
  | .one _ e => EnOk e
  | .two _ e f => EnOk e ∧ EnOk f
theorem EnOk.th {e : En} (h : EnOk e) : Th 7 e.enc := .tup (by simp) fun d hd => by
  simp at hd
  rcases hd with rfl | rfl | rfl | rfl
  · exact h.p
  · exact h.s
  · exact h.q
  · exact .int
theorem MdOk.th {m : Md} (h : MdOk m) : Th 8 m.enc := by
  have one : ∀ {l : List D}, l.length ≤ 900 → (∀ d ∈ l, Th 7 d) → Th 8 (.tup l) := fun h1 h2 => .tup h1 h2
  have int : ∀ i : Int, Th 7 (.int i) := fun i => .int
  cases m with
  | nil i =>
    refine one (by simp) fun d hd => ?_
    simp at hd
    subst hd
    exact int _
  | one i e =>
    refine one (by simp) fun d hd => ?_
    simp at hd
    rcases hd with rfl | rfl
    · exact int _
    · exact EnOk.th h
  | two i e f =>
    refine one (by simp) fun d hd => ?_
    simp at hd
    rcases hd with rfl | rfl | rfl
    · exact int _
    · exact EnOk.th h.1
    · exact EnOk.th h.2
def kx : D → Int × Int
  | .tup (.int l :: .int o :: _) => (l, o)
  | _ => (0, 0)
def ltX (a b : D) : Prop := (kx a).1 < (kx b).1 ∨ ((kx a).1 = (kx b).1 ∧ (kx a).2 < (kx b).2)
instance : DecidableRel ltX := fun a b => by unfold ltX; infer_instance
@[simp] theorem kx_enc {x : XE} : kx x.enc = ((x.l : Int), (x.o : Int)) := rfl
structure XsOk (X : List XE) : Prop where
  e : ∀ x ∈ X, EnOk x.e
  m : ∀ x ∈ X, MdOk x.md
  nd : (X.map (·.o)).Nodup
structure GPar where
  c : Nat
  Fr : List Nat
  Fw : List Nat
  Fl : List Nat
  Fm : List Nat
  Fo : List Nat
  Ff : List Nat
  Fbt : List Nat
  Fbs : List Nat
  Fst : List Nat
  Fsp : List Nat
  Mo : List (Nat × Nat)
  Mj : List (Nat × Nat)
  Mg : List (Nat × Nat)
  iO : Nat
  iJ : Nat
  iG : Nat
structure GPar.Ok (P : GPar) : Prop where
  r : P.c ∈ P.Fr := by decide
  w : P.c ∈ P.Fw := by decide
  l : P.c ∈ P.Fl := by decide
  m : P.c ∈ P.Fm := by decide
  o : P.c ∈ P.Fo := by decide
  f : P.c ∈ P.Ff := by decide
  bt : P.c ∈ P.Fbt := by decide
  bs : P.c ∈ P.Fbs := by decide
  st : P.c ∈ P.Fst := by decide
  sp : P.c ∈ P.Fsp := by decide
  mo : P.Mo.lookup P.c = some P.iO := by rfl
  mj : P.Mj.lookup P.c = some P.iJ := by rfl
  mg : P.Mg.lookup P.c = some P.iG := by rfl
structure GL where
  n : Nat
  w : Nat
  dl : Nat
  dm : Nat
  lo : Nat
  bt : Nat
  bs : Nat
  st : Nat
  sp : Nat
def GL.B (G : GL) : List Nat := [G.n, G.w, G.dl, G.dm, G.lo, G.bt, G.bs, G.st, G.sp]
structure GTs where
  t1 : List (D × Nat)
  t2 : List (D × Nat)
  t3 : List (D × Nat)
  t4 : List (D × Nat)
def GTs.L (T : GTs) : List Nat := T.t1.map (·.2) ++ (T.t2.map (·.2) ++ (T.t3.map (·.2) ++ T.t4.map (·.2)))
def rsD (R : List GR) : D := .tup (R.map GR.enc)
def fsG (G : GL) (R : List GR) (o : Nat) : List (Str × D) := [("rules", rsD R), ("weights", .loc G.w), ("length", .loc G.dl), ("made_of", .loc G.dm), ("_open", .loc G.lo), ("_offers", .int o), ("_by_target", .loc G.bt), ("_by_second", .loc G.bs), ("_starts", .loc G.st), ("_stops", .loc G.sp)]
noncomputable def numsOf (R : List GR) (p : GR → Prop) : List Nat := open Classical in (List.range R.length).filter fun i => decide (∃ r, R[i]? = some r ∧ p r)
def pT (k : D) (r : GR) : Prop := ∃ x y, r.w = x :: y ∧ k = .tup [r.q, x]
def pS (k : D) (r : GR) : Prop := ∃ x, r.w = [x, k]
noncomputable def byT (R : List GR) (k : D) : List D := (numsOf R (pT k)).map fun i => .int (i : Nat)
noncomputable def byS (R : List GR) (k : D) : List D := (numsOf R (pS k)).map fun i => .int (i : Nat)
noncomputable def startsA (A : List AE) (k : D) : List AE := A.filter fun a => decide (k = .tup [a.e.p, a.e.s])
noncomputable def stopsA (A : List AE) (k : D) : List AE := A.filter fun a => decide (k = .tup [a.e.q, a.e.s])
noncomputable def staD (A : List AE) (k : D) : List D := (startsA A k).map fun a => a.e.enc
noncomputable def stoD (A : List AE) (k : D) : List D := (stopsA A k).map fun a => a.e.enc
structure GSt (P : GPar) (R : List GR) (wt : List Nat) (G : GL) (T : GTs) (A As Az : List AE) (X : List XE) (o : Nat) (S : Sto) : Prop where
  obj : S[G.n]? = some (.ins P.c (fsG G R o))
  wts : S[G.w]? = some (.lst (wt.map fun i => .int (i : Nat)))
  len : S[G.dl]? = some (.dct (A.map fun a => (a.e.enc, .int a.l)))
  mad : S[G.dm]? = some (.dct (A.map fun a => (a.e.enc, a.md.enc)))
  opn : S[G.lo]? = some (.lst (X.map XE.enc))
  b1 : DoL (byT R) G.bt T.t1 S
  b2 : DoL (byS R) G.bs T.t2 S
  s1 : DoL (staD As) G.st T.t3 S
  s2 : DoL (stoD Az) G.sp T.t4 S
  sep : (G.B ++ T.L).Nodup
structure RsOk (R : List GR) (wt : List Nat) : Prop where
  th : ∀ r ∈ R, Th 6 r.p ∧ Th 6 r.s ∧ Th 6 r.q ∧ (∀ x ∈ r.w, Th 6 x) ∧ r.w.length ≤ 2
  len : R.length ≤ 100000
  wl : wt.length = R.length
structure AsOk (A : List AE) : Prop where
  e : ∀ a ∈ A, EnOk a.e
  m : ∀ a ∈ A, MdOk a.md
  nd : (A.map (·.e)).Nodup
  len : A.length ≤ 100000
theorem AsOk.nbK {A : List AE} (h : AsOk A) {f : AE → D} : nbK (A.map fun a => (a.e.enc, f a)) := fun q hq => by
  obtain ⟨a, ha, rfl⟩ := List.mem_map.mp hq
  exact (h.e a ha).th.nb
section
variable {P : GPar} {R : List GR} {wt : List Nat} {G : GL} {T : GTs} {A As Az : List AE} {X : List XE} {o : Nat} {S : Sto}
theorem GSt.bn (h : GSt P R wt G T A As Az X o S) : G.B.Nodup := (List.nodup_append.mp h.sep).1
theorem GSt.bt_ (h : GSt P R wt G T A As Az X o S) : ∀ j ∈ T.L, j ∉ G.B := fun j hj hb => (List.nodup_append.mp h.sep).2.2 j hb j hj rfl
theorem GSt.tn (h : GSt P R wt G T A As Az X o S) : T.L.Nodup := (List.nodup_append.mp h.sep).2.1
theorem GSt.ne (h : GSt P R wt G T A As Az X o S) : (G.n ≠ G.w ∧ G.n ≠ G.dl ∧ G.n ≠ G.dm ∧ G.n ≠ G.lo ∧ G.n ≠ G.bt ∧ G.n ≠ G.bs ∧ G.n ≠ G.st ∧ G.n ≠ G.sp) ∧ (G.w ≠ G.dl ∧ G.w ≠ G.dm ∧ G.w ≠ G.lo ∧ G.w ≠ G.bt ∧ G.w ≠ G.bs ∧ G.w ≠ G.st ∧ G.w ≠ G.sp) ∧
    (G.dl ≠ G.dm ∧ G.dl ≠ G.lo ∧ G.dl ≠ G.bt ∧ G.dl ≠ G.bs ∧ G.dl ≠ G.st ∧ G.dl ≠ G.sp) ∧ (G.dm ≠ G.lo ∧ G.dm ≠ G.bt ∧ G.dm ≠ G.bs ∧ G.dm ≠ G.st ∧ G.dm ≠ G.sp) ∧ (G.lo ≠ G.bt ∧ G.lo ≠ G.bs ∧ G.lo ≠ G.st ∧ G.lo ≠ G.sp) ∧ (G.bt ≠ G.bs ∧ G.bt ≠ G.st ∧ G.bt ≠ G.sp) ∧ (G.bs ≠ G.st ∧ G.bs ≠ G.sp) ∧ G.st ≠ G.sp := by
  have := h.bn
  simp only [GL.B, List.nodup_cons, List.mem_cons, List.not_mem_nil, or_false, not_or, List.nodup_nil, and_true, not_false_eq_true] at this
  obtain ⟨⟨a1, a2, a3, a4, a5, a6, a7, a8⟩, ⟨b2, b3, b4, b5, b6, b7, b8⟩, ⟨c3, c4, c5, c6, c7, c8⟩, ⟨d4, d5, d6, d7, d8⟩, ⟨e5, e6, e7, e8⟩, ⟨f6, f7, f8⟩, ⟨g7, g8⟩, h8⟩ := this
  exact ⟨⟨a1, a2, a3, a4, a5, a6, a7, a8⟩, ⟨b2, b3, b4, b5, b6, b7, b8⟩, ⟨c3, c4, c5, c6, c7, c8⟩, ⟨d4, d5, d6, d7, d8⟩, ⟨e5, e6, e7, e8⟩, ⟨f6, f7, f8⟩, ⟨g7, g8⟩, h8⟩
theorem GSt.t1 (h : GSt P R wt G T A As Az X o S) : ∀ p ∈ T.t1, p.2 ∉ G.B := fun p hp => h.bt_ _ (List.mem_append_left _ (List.mem_map.mpr ⟨p, hp, rfl⟩))
theorem GSt.t2 (h : GSt P R wt G T A As Az X o S) : ∀ p ∈ T.t2, p.2 ∉ G.B := fun p hp => h.bt_ _ (List.mem_append_right _ (List.mem_append_left _ (List.mem_map.mpr ⟨p, hp, rfl⟩)))
theorem GSt.t3 (h : GSt P R wt G T A As Az X o S) : ∀ p ∈ T.t3, p.2 ∉ G.B := fun p hp => h.bt_ _ (List.mem_append_right _ (List.mem_append_right _ (List.mem_append_left _ (List.mem_map.mpr ⟨p, hp, rfl⟩))))
theorem GSt.t4 (h : GSt P R wt G T A As Az X o S) : ∀ p ∈ T.t4, p.2 ∉ G.B := fun p hp => h.bt_ _ (List.mem_append_right _ (List.mem_append_right _ (List.mem_append_right _ (List.mem_map.mpr ⟨p, hp, rfl⟩))))
theorem GSt.off (h : GSt P R wt G T A As Az X o S) {S' : Sto} (x : OffS [G.n, G.lo] S S') {X' : List XE} {o' : Nat} (h1 : S'[G.n]? = some (.ins P.c (fsG G R o'))) (h2 : S'[G.lo]? = some (.lst (X'.map XE.enc))) : GSt P R wt G T A As Az X' o' S' := by
  obtain ⟨⟨a1, a2, a3, a4, a5, a6, a7, a8⟩, ⟨b2, b3, b4, b5, b6, b7, b8⟩, ⟨c3, c4, c5, c6, c7, c8⟩, ⟨d4, d5, d6, d7, d8⟩, ⟨e5, e6, e7, e8⟩, _⟩ := h.ne
  have ng : ∀ j, j ∉ G.B → j ∉ [G.n, G.lo] := fun j hj hm => hj (by
    simp at hm
    rcases hm with rfl | rfl <;> simp [GL.B])
  exact ⟨h1, x.get (by simp [a1.symm, b4]) h.wts, x.get (by simp [a2.symm, c4]) h.len, x.get (by simp [a3.symm, d4]) h.mad, h2, h.b1.off x (by simp [a5.symm, e5.symm]) fun p hp => ng _ (h.t1 p hp), h.b2.off x (by simp [a6.symm, e6.symm]) fun p hp => ng _ (h.t2 p hp),
    h.s1.off x (by simp [a7.symm, e7.symm]) fun p hp => ng _ (h.t3 p hp), h.s2.off x (by simp [a8.symm, e8.symm]) fun p hp => ng _ (h.t4 p hp), h.sep⟩
theorem GSt.gr (h : GSt P R wt G T A As Az X o S) {S' : Sto} (g : Gr S S') : GSt P R wt G T A As Az X o S' := h.off (OffS.gr g) (g.get h.obj) (g.get h.opn)
structure XInv (X : List XE) (o : Nat) : Prop where
  ok : XsOk X
  hp : HeapD ltX (X.map XE.enc)
  le : ∀ x ∈ X, x.o ≤ o
end
end DL
set_option maxHeartbeats 1600000
namespace DL
open PySem
def wtN (wt : List Nat) (i : Nat) : Nat := wt.getD i 0
def VM (R : List GR) (wt : List Nat) (A : List AE) : Md → En → Nat → Prop
  | .nil i, e, l => ∃ r, R[i]? = some r ∧ r.w = [] ∧ e = ⟨r.p, r.s, r.q, r.m⟩ ∧ l = wtN wt i
  | .one i e1, e, l => ∃ r x a, R[i]? = some r ∧ r.w = [x] ∧ a ∈ A ∧ a.e = e1 ∧ a.e.p = r.q ∧ a.e.s = x ∧ e = ⟨r.p, r.s, a.e.q, max r.m a.e.f⟩ ∧ l = wtN wt i + a.l
  | .two i e1 e2, e, l => ∃ r x y a b, R[i]? = some r ∧ r.w = [x, y] ∧ a ∈ A ∧ a.e = e1 ∧ b ∈ A ∧ b.e = e2 ∧ a.e.p = r.q ∧ a.e.s = x ∧ b.e.p = a.e.q ∧ b.e.s = y ∧ e = ⟨r.p, r.s, b.e.q, max r.m (max a.e.f b.e.f)⟩ ∧ l = wtN wt i + a.l + b.l
theorem VM.mono {R : List GR} {wt : List Nat} {A A' : List AE} (hs : ∀ a ∈ A, a ∈ A') {md : Md} {e : En} {l : Nat} (h : VM R wt A md e l) : VM R wt A' md e l := by
  cases md with
  | nil i => exact h
  | one i e1 =>
    obtain ⟨r, x, a, h1, h2, h3, h4⟩ := h
    exact ⟨r, x, a, h1, h2, hs a h3, h4⟩
  | two i e1 e2 =>
    obtain ⟨r, x, y, a, b, h1, h2, h3, h4, h5, h6⟩ := h
    exact ⟨r, x, y, a, b, h1, h2, hs a h3, h4, hs b h5, h6⟩
theorem VM.ok {R : List GR} {wt : List Nat} {A : List AE} (hR : RsOk R wt) (hA : ∀ a ∈ A, EnOk a.e) {md : Md} {e : En} {l : Nat} (h : VM R wt A md e l) : EnOk e ∧ MdOk md := by
  cases md with
  | nil i =>
    obtain ⟨r, h1, h2, rfl, _⟩ := h
    obtain ⟨t1, t2, t3, _⟩ := hR.th r (List.mem_of_getElem? h1)
    exact ⟨⟨t1, t2, t3⟩, trivial⟩
  | one i e1 =>
    obtain ⟨r, x, a, h1, h2, h3, rfl, h5, h6, rfl, _⟩ := h
    obtain ⟨t1, t2, t3, _⟩ := hR.th r (List.mem_of_getElem? h1)
    exact ⟨⟨t1, t2, (hA a h3).q⟩, hA a h3⟩
  | two i e1 e2 =>
    obtain ⟨r, x, y, a, b, h1, h2, h3, rfl, h5, rfl, h7, h8, h9, h10, rfl, _⟩ := h
    obtain ⟨t1, t2, t3, _⟩ := hR.th r (List.mem_of_getElem? h1)
    exact ⟨⟨t1, t2, (hA b h5).q⟩, hA a h3, hA b h5⟩
def cov (A : List AE) (X : List XE) (e : En) (L : Nat) : Prop := (∃ a ∈ A, a.e = e ∧ a.l ≤ L) ∨ ∃ x ∈ X, x.e = e ∧ x.l ≤ L
theorem cov.mono {A A' : List AE} {X X' : List XE} (h1 : ∀ a ∈ A, a ∈ A') (h2 : ∀ x ∈ X, x ∈ X') {e : En} {L : Nat} (h : cov A X e L) : cov A' X' e L :=
  h.imp (fun ⟨a, q, r⟩ => ⟨a, h1 a q, r⟩) (fun ⟨a, q, r⟩ => ⟨a, h2 a q, r⟩)
structure GInv (R : List GR) (wt : List Nat) (A : List AE) (cur : Nat) (X : List XE) (o : Nat) : Prop where
  x : XInv X o
  a : AsOk A
  src : ∀ x ∈ X, VM R wt A x.md x.e x.l ∧ cur ≤ x.l
  acc : ∀ A1 a A2, A = A1 ++ a :: A2 → VM R wt A1 a.md a.e a.l
  top : ∀ a ∈ A, a.l ≤ cur
section
variable {P : GPar} {R : List GR} {wt : List Nat} {G : GL} {T : GTs} {A As Az : List AE} {cur : Nat} {X : List XE} {o : Nat} {S : Sto}
def Aft (P : GPar) (R : List GR) (wt : List Nat) (G : GL) (T : GTs) (A As Az : List AE) (cur : Nat) (X : List XE) (S : Sto) (k : Nat) (C : List XE → Prop) (S' : Sto) : Prop :=
  OffS [G.n, G.lo] S S' ∧ ∃ X' o', (∀ x ∈ X, x ∈ X') ∧ X'.length ≤ X.length + k ∧ GInv R wt A cur X' o' ∧ GSt P R wt G T A As Az X' o' S' ∧ C X'
@[simp] theorem ix_3e {a b c d : D} {S : Sto} : ixQ (.tup [a, b, c, d]) (.int 3) S = some (d, S) := ix_tup (by omega) rfl
theorem Aft.refl (h : GSt P R wt G T A As Az X o S) (g : GInv R wt A cur X o) {C : List XE → Prop} (c : C X) : Aft P R wt G T A As Az cur X S 0 C S := ⟨OffS.refl, X, o, fun _ h => h, Nat.le_refl _, g, h, c⟩
theorem Aft.next {k1 k2 : Nat} {C1 C2 C : List XE → Prop} {S1 S2 : Sto} (h : Aft P R wt G T A As Az cur X S k1 C1 S1) (m : ∀ X1 X2 : List XE, (∀ x ∈ X1, x ∈ X2) → C1 X1 → C2 X2 → C X2)
    (k : ∀ X1 o1, GInv R wt A cur X1 o1 → GSt P R wt G T A As Az X1 o1 S1 → X1.length ≤ X.length + k1 → C1 X1 → Aft P R wt G T A As Az cur X1 S1 k2 C2 S2) : Aft P R wt G T A As Az cur X S (k1 + k2) C S2 := by
  obtain ⟨x1, X1, o1, a1, a2, a3, a4, a5⟩ := h
  obtain ⟨x2, X2, o2, b1, b2, b3, b4, b5⟩ := k X1 o1 a3 a4 a2 a5
  exact ⟨x1.trans x2, X2, o2, fun x hx => b1 x (a1 x hx), by omega, b3, b4, m X1 X2 b1 a5 b5⟩
theorem Aft.imp {k k' : Nat} {C C' : List XE → Prop} {S1 : Sto} (h : Aft P R wt G T A As Az cur X S k C S1) (hk : k ≤ k') (m : ∀ X1, C X1 → C' X1) : Aft P R wt G T A As Az cur X S k' C' S1 := by
  obtain ⟨x1, X1, o1, a1, a2, a3, a4, a5⟩ := h
  exact ⟨x1, X1, o1, a1, by omega, a3, a4, m _ a5⟩
end
end DL
set_option maxHeartbeats 1600000
namespace DL
open PySem
section
variable {P : GPar} {R : List GR} {wt : List Nat} {G : GL} {T : GTs} {A As Az : List AE} {cur : Nat} {X : List XE} {o : Nat} {S : Sto}
theorem GSt.lt (h : GSt P R wt G T A As Az X o S) : ∀ j ∈ G.B ++ T.L, j < S.length := by
  have g : ∀ {j : Nat} {ob : Ob}, S[j]? = some ob → j < S.length := fun e => (List.getElem?_eq_some_iff.mp e).1
  intro j hj
  rcases List.mem_append.mp hj with hj | hj
  · simp [GL.B] at hj
    rcases hj with rfl | rfl | rfl | rfl | rfl | rfl | rfl | rfl | rfl
    · exact g h.obj
    · exact g h.wts
    · exact g h.len
    · exact g h.mad
    · exact g h.opn
    · exact g h.b1.kv
    · exact g h.b2.kv
    · exact g h.s1.kv
    · exact g h.s2.kv
  · simp only [GTs.L, List.mem_append, List.mem_map] at hj
    rcases hj with ⟨p, hp, rfl⟩ | ⟨p, hp, rfl⟩ | ⟨p, hp, rfl⟩ | ⟨p, hp, rfl⟩
    · exact h.b1.lt.2 p hp
    · exact h.b2.lt.2 p hp
    · exact h.s1.lt.2 p hp
    · exact h.s2.lt.2 p hp
def C1 (R : List GR) (wt : List Nat) (A As : List AE) (a : AE) (i : Nat) (X : List XE) : Prop := ∀ r, R[i]? = some r → (∀ x, r.w = [x] → cov A X ⟨r.p, r.s, a.e.q, max r.m a.e.f⟩ (wtN wt i + a.l)) ∧
  ∀ x y, r.w = [x, y] → ∀ b ∈ startsA As (.tup [a.e.q, y]), cov A X ⟨r.p, r.s, b.e.q, max r.m (max a.e.f b.e.f)⟩ (wtN wt i + a.l + b.l)
def C2 (R : List GR) (wt : List Nat) (A Az : List AE) (a : AE) (i : Nat) (X : List XE) : Prop := ∀ r, R[i]? = some r → ∀ x y, r.w = [x, y] → ∀ b ∈ stopsA Az (.tup [a.e.p, x]), b.e.p = r.q → cov A X ⟨r.p, r.s, a.e.q, max r.m (max b.e.f a.e.f)⟩ (wtN wt i + b.l + a.l)
theorem C1.mono {a : AE} {i : Nat} {X X' : List XE} (hs : ∀ x ∈ X, x ∈ X') (h : C1 R wt A As a i X) : C1 R wt A As a i X' := fun r hr =>
  ⟨fun x hw => ((h r hr).1 x hw).mono (fun _ z => z) hs, fun x y hw b hb => ((h r hr).2 x y hw b hb).mono (fun _ z => z) hs⟩
theorem C2.mono {a : AE} {i : Nat} {X X' : List XE} (hs : ∀ x ∈ X, x ∈ X') (h : C2 R wt A Az a i X) : C2 R wt A Az a i X' := fun r hr x y hw b hb e => (h r hr x y hw b hb e).mono (fun _ z => z) hs
theorem Aft.gr {k : Nat} {C : List XE → Prop} {S0 S' : Sto} (gr : Gr S S0) (h : Aft P R wt G T A As Az cur X S0 k C S') : Aft P R wt G T A As Az cur X S k C S' := by
  obtain ⟨x, q⟩ := h
  exact ⟨(OffS.gr gr).trans x, q⟩
end
end DL
set_option maxHeartbeats 1600000
namespace DL
open PySem
section
variable {P : GPar} {R : List GR} {wt : List Nat} {G : GL} {T : GTs} {A As Az : List AE} {cur : Nat} {X : List XE} {o : Nat} {S : Sto}
structure TB (T : GTs) (As Az : List AE) : Prop where
  a : T.t3.length ≤ As.length
  b : T.t4.length ≤ Az.length
def CvA (R : List GR) (wt : List Nat) (A : List AE) (a : AE) (X : List XE) : Prop := (∀ i, (∃ r, R[i]? = some r ∧ pT (.tup [a.e.p, a.e.s]) r) → C1 R wt A A a i X) ∧ ∀ i, (∃ r, R[i]? = some r ∧ pS a.e.s r) → C2 R wt A A a i X
def Lb (b0 : Nat) (G : GL) (T : GTs) : Prop := ∀ j ∈ G.B ++ T.L, b0 ≤ j
theorem Lb.t3 {b0 n : Nat} {t3 : List (D × Nat)} (h : Lb b0 G T) (hn : b0 ≤ n) (ht : ∀ j ∈ t3.map (·.2), j ∈ T.t3.map (·.2) ∨ j = n) : Lb b0 G { T with t3 := t3 } := fun j hj => by
  rcases List.mem_append.mp hj with hj | hj
  · exact h j (List.mem_append_left _ hj)
  · have hT : ∀ j ∈ T.L, b0 ≤ j := fun j hj => h j (List.mem_append_right _ hj)
    simp only [GTs.L, List.mem_append] at hj hT
    rcases hj with hj | hj | hj | hj
    · exact hT j (.inl hj)
    · exact hT j (.inr (.inl hj))
    · rcases ht j hj with hj | rfl
      · exact hT j (.inr (.inr (.inl hj)))
      · exact hn
    · exact hT j (.inr (.inr (.inr hj)))
theorem Lb.t4 {b0 n : Nat} {t4 : List (D × Nat)} (h : Lb b0 G T) (hn : b0 ≤ n) (ht : ∀ j ∈ t4.map (·.2), j ∈ T.t4.map (·.2) ∨ j = n) : Lb b0 G { T with t4 := t4 } := fun j hj => by
  rcases List.mem_append.mp hj with hj | hj
  · exact h j (List.mem_append_left _ hj)
  · have hT : ∀ j ∈ T.L, b0 ≤ j := fun j hj => h j (List.mem_append_right _ hj)
    simp only [GTs.L, List.mem_append] at hj hT
    rcases hj with hj | hj | hj | hj
    · exact hT j (.inl hj)
    · exact hT j (.inr (.inl hj))
    · exact hT j (.inr (.inr (.inl hj)))
    · rcases ht j hj with hj | rfl
      · exact hT j (.inr (.inr (.inr hj)))
      · exact hn
def Low (b0 : Nat) (S S' : Sto) : Prop := S.length ≤ S'.length ∧ ∀ j, j < b0 → S'[j]? = S[j]?
theorem Low.refl {b0 : Nat} : Low b0 S S := ⟨Nat.le_refl _, fun _ _ => rfl⟩
theorem Low.trans {b0 : Nat} {S1 S2 : Sto} (h : Low b0 S S1) (k : Low b0 S1 S2) : Low b0 S S2 := ⟨Nat.le_trans h.1 k.1, fun j hj => (k.2 j hj).trans (h.2 j hj)⟩
theorem Low.off {b0 : Nat} {O : List Nat} {S' : Sto} (h : OffS O S S') (hO : ∀ j ∈ O, b0 ≤ j) (hb : b0 ≤ S.length) : Low b0 S S' := ⟨h.1, fun j hj => h.2 j (by omega) fun z => absurd (hO j z) (by omega)⟩
theorem Low.gr {b0 : Nat} {S' : Sto} (h : Gr S S') (hb : b0 ≤ S.length) : Low b0 S S' := ⟨h.len, fun j hj => by obtain ⟨U, rfl⟩ := h; exact List.getElem?_append_left (by omega)⟩
theorem Lb.len {b0 : Nat} (h : Lb b0 G T) (g : GSt P R wt G T A As Az X o S) : b0 ≤ S.length := by
  have := h G.n (by simp [GL.B])
  have := g.lt G.n (by simp [GL.B])
  omega
theorem Lb.two {b0 : Nat} (h : Lb b0 G T) : ∀ j ∈ [G.n, G.lo], b0 ≤ j := fun j hj => h j (List.mem_append_left _ (by
  simp at hj
  rcases hj with rfl | rfl <;> simp [GL.B]))
end
end DL
set_option maxHeartbeats 1600000
namespace DL
open PySem
structure FC (R : List GR) (wt : List Nat) (A : List AE) (X : List XE) : Prop where
  c0 : ∀ i r, R[i]? = some r → r.w = [] → cov A X ⟨r.p, r.s, r.q, r.m⟩ (wtN wt i)
  c1 : ∀ i r x a, R[i]? = some r → r.w = [x] → a ∈ A → a.e.p = r.q → a.e.s = x → cov A X ⟨r.p, r.s, a.e.q, max r.m a.e.f⟩ (wtN wt i + a.l)
  c2 : ∀ i r x y a b, R[i]? = some r → r.w = [x, y] → a ∈ A → b ∈ A → a.e.p = r.q → a.e.s = x → b.e.p = a.e.q → b.e.s = y → cov A X ⟨r.p, r.s, b.e.q, max r.m (max a.e.f b.e.f)⟩ (wtN wt i + a.l + b.l)
theorem FC.next {R : List GR} {wt : List Nat} {A A' : List AE} {X X' : List XE} {a : AE} (h : FC R wt A X) (hA : A' = A ++ [a]) (hm : ∀ e L, cov A X e L → cov A' X' e L) (hc : CvA R wt A' a X') : FC R wt A' X' := by
  have mem : ∀ b ∈ A', b ∈ A ∨ b = a := fun b hb => by rw [hA] at hb; simpa using hb
  refine ⟨fun i r hr hw => hm _ _ (h.c0 i r hr hw), fun i r x b hr hw hb h1 h2 => ?_, fun i r x y b c hr hw hb hcc h1 h2 h3 h4 => ?_⟩
  · rcases mem b hb with hb | rfl
    · exact hm _ _ (h.c1 i r x b hr hw hb h1 h2)
    · exact (hc.1 i ⟨r, hr, x, [], hw, by rw [h1, h2]⟩ r hr).1 x hw
  · rcases mem b hb with hb1 | rfl
    · rcases mem c hcc with hc1 | rfl
      · exact hm _ _ (h.c2 i r x y b c hr hw hb1 hc1 h1 h2 h3 h4)
      · refine hc.2 i ⟨r, hr, x, by rw [h4]; exact hw⟩ r hr x y hw b ?_ h1
        unfold stopsA
        refine List.mem_filter.mpr ⟨hb, ?_⟩
        simp [h3, h2]
    · refine (hc.1 i ⟨r, hr, x, [y], hw, by rw [h1, h2]⟩ r hr).2 x y hw c ?_
      unfold startsA
      refine List.mem_filter.mpr ⟨hcc, ?_⟩
      simp [h3, h4]
section
variable {P : GPar} {R : List GR} {wt : List Nat} {G : GL} {T : GTs} {A As Az : List AE} {cur : Nat} {X : List XE} {o : Nat} {S : Sto}
theorem len_subB {α : Type} : ∀ {fs l : List α}, fs.Nodup → (∀ y ∈ fs, y ∈ l) → fs.length ≤ l.length
  | [], l, _, _ => Nat.zero_le _
  | x :: fs, l, h, hm => by
    classical
    rw [List.nodup_cons] at h
    have hx := hm x List.mem_cons_self
    have := len_subB (fs := fs) (l := l.erase x) h.2 fun y hy => (List.mem_erase_of_ne (fun z => h.1 (by rw [← z]; exact hy))).mpr (hm y (List.mem_cons_of_mem _ hy))
    rw [List.length_erase_of_mem hx] at this
    have : 0 < l.length := List.length_pos_of_mem hx
    simp
    omega
end
end DL
set_option maxHeartbeats 1600000
namespace DL
open PySem
theorem OffS.comp {O O' : List Nat} {S S1 S2 : Sto} (h : OffS O S S1) (k : OffS O' S1 S2) (hO : ∀ j ∈ O', j ∈ O ∨ S.length ≤ j) : OffS O S S2 :=
  ⟨Nat.le_trans h.1 k.1, fun j hj hn => (k.2 j (Nat.lt_of_lt_of_le hj h.1) fun z => (hO j z).elim hn (by omega)).trans (h.2 j hj hn)⟩
section
variable {P : GPar} {R : List GR} {wt : List Nat} {env : Vars} {S : Sto} {T : Fl × Vars × Sto → Prop}
theorem set_val {F : List Nat} {f : Str} {n c i : Nat} {fs : List (Str × D)} {m : EM} {d : D} {S' : Sto} (hm : Ow (m env S) fun x => x = (d, S')) (e : env[i]? = some (some (.loc n))) (h : S'[n]? = some (.ins c fs)) (hc : c ∈ F) (hz : fs.length < 1000)
    (t : T (.nx, env, S'.set n (.ins c (putD f d fs)))) : Ow (sFldD F f m (mVar i) env S) T := by
  have : stF F f (.loc n) d S' = some (S'.set n (.ins c (putD f d fs))) := by
    simp only [stF, h]
    rw [if_pos ⟨hc, hz⟩]
  rw [ow_sFldD]
  refine hm.imp ?_
  rintro x rfl
  simp [e, this, t]
end
end DL
set_option maxHeartbeats 1600000
namespace DL
open PySem
structure HD where
  tq : D
  ts : D
  mark : Int
  grows : Bool
  made : D
  len : Nat
def HD.fs (h : HD) : List (Str × D) := [("target", .tup [h.tq, h.ts]), ("mark", .int h.mark), ("grows", .bl h.grows), ("made_of", h.made), ("length", .int h.len)]
structure HPar where
  cH : Nat
  cK : Nat
  Gga : List Nat
  Gat : List Nat
  Gen : List Nat
  Gho : List Nat
  Ht : List Nat
  Hm : List Nat
  Hg : List Nat
  Hd : List Nat
  Hl : List Nat
  Mf : List (Nat × Nat)
  Mh : List (Nat × Nat)
  iF : Nat
  iHo : Nat
  iHI : Nat
  iOr : Nat
  iGa : Nat
structure HPar.Ok (Q : HPar) : Prop where
  ga : Q.cK ∈ Q.Gga := by decide
  at_ : Q.cK ∈ Q.Gat := by decide
  en : Q.cK ∈ Q.Gen := by decide
  ho : Q.cK ∈ Q.Gho := by decide
  t : Q.cH ∈ Q.Ht := by decide
  m : Q.cH ∈ Q.Hm := by decide
  g : Q.cH ∈ Q.Hg := by decide
  d : Q.cH ∈ Q.Hd := by decide
  l : Q.cH ∈ Q.Hl := by decide
  mf : Q.Mf.lookup Q.cK = some Q.iF := by rfl
  mh : Q.Mh.lookup Q.cK = some Q.iHo := by rfl
noncomputable def hopIB (Q : HPar) : SM := (sSeq (sFldD Q.Ht "target" (mVar 1) (mVar 0)) (sSeq (sFldD Q.Hm "mark" (mVar 2) (mVar 0)) (sSeq (sFldD Q.Hg "grows" (mVar 3) (mVar 0)) (sSeq (sFldD Q.Hd "made_of" (mVar 4) (mVar 0)) (sFldD Q.Hl "length" (mVar 5) (mVar 0))))))
section
variable {Q : HPar} {S : Sto}
theorem set_var {env : Vars} {T : Fl × Vars × Sto → Prop} {F : List Nat} {f : Str} {n c i j : Nat} {fs fs' : List (Str × D)} {d : D} (hj : env[j]? = some (some d)) (e : env[i]? = some (some (.loc n))) (h : S[n]? = some (.ins c fs)) (hc : c ∈ F) (hz : fs.length < 1000) (hf : putD f d fs = fs')
    (t : T (.nx, env, S.set n (.ins c fs'))) : Ow (sFldD F f (mVar j) (mVar i) env S) T := by
  refine set_val (d := d) (S' := S) (by simp [hj]) e h hc hz ?_
  rw [hf]
  exact t
theorem hopI_ok (hQ : Q.Ok) {h : HD} : Ow (runB 6 (hopIB Q) [.loc S.length, .tup [h.tq, h.ts], .int h.mark, .bl h.grows, h.made, .int (h.len : Nat)] (S ++ [.ins Q.cH []])) fun z => z.1 = .non ∧ z.2 = S ++ [.ins Q.cH h.fs] := by
  have up : ∀ {a b : List (Str × D)}, (S ++ [Ob.ins Q.cH a]).set S.length (.ins Q.cH b) = S ++ [.ins Q.cH b] := fun {a b} => by simp
  rw [ow_runB]
  unfold hopIB
  rw [ow_seq]
  refine set_var rfl rfl get_snoc hQ.t (by simp) (fs' := [("target", .tup [h.tq, h.ts])]) (by with_unfolding_all rfl) ?_
  dsimp only
  rw [up, ow_seq]
  refine set_var rfl rfl get_snoc hQ.m (by simp) (fs' := [("target", .tup [h.tq, h.ts]), ("mark", .int h.mark)]) (by with_unfolding_all rfl) ?_
  dsimp only
  rw [up, ow_seq]
  refine set_var rfl rfl get_snoc hQ.g (by simp) (fs' := [("target", .tup [h.tq, h.ts]), ("mark", .int h.mark), ("grows", .bl h.grows)]) (by with_unfolding_all rfl) ?_
  dsimp only
  rw [up, ow_seq]
  refine set_var rfl rfl get_snoc hQ.d (by simp) (fs' := [("target", .tup [h.tq, h.ts]), ("mark", .int h.mark), ("grows", .bl h.grows), ("made_of", h.made)]) (by with_unfolding_all rfl) ?_
  dsimp only
  rw [up]
  refine set_var rfl rfl get_snoc hQ.l (by simp) (fs' := h.fs) (by with_unfolding_all rfl) ?_
  rw [up]
  exact ⟨rfl, rfl⟩
def HopsAt (Q : HPar) (S : Sto) (ls : List Nat) (hs : List HD) : Prop := ls.length = hs.length ∧ ∀ (i l : Nat) (h : HD), ls[i]? = some l → hs[i]? = some h → S[l]? = some (.ins Q.cH h.fs)
theorem HopsAt.gr {ls : List Nat} {hs : List HD} {S' : Sto} (h : HopsAt Q S ls hs) (g : Gr S S') : HopsAt Q S' ls hs := ⟨h.1, fun i l d h1 h2 => g.get (h.2 i l d h1 h2)⟩
theorem HopsAt.off {ls : List Nat} {hs : List HD} {S' : Sto} {O : List Nat} (h : HopsAt Q S ls hs) (x : OffS O S S') (hO : ∀ j ∈ O, ∀ c fs, S[j]? ≠ some (.ins c fs)) : HopsAt Q S' ls hs := ⟨h.1, fun i l d h1 h2 => x.get (fun hm => hO l hm _ _ (h.2 i l d h1 h2)) (h.2 i l d h1 h2)⟩
theorem HopsAt.snoc {ls : List Nat} {hs : List HD} {l : Nat} {d : HD} (h : HopsAt Q S ls hs) (hd : S[l]? = some (.ins Q.cH d.fs)) : HopsAt Q S (ls ++ [l]) (hs ++ [d]) := by
  refine ⟨by simp [h.1], fun i l' d' h1 h2 => ?_⟩
  by_cases hi : i < ls.length
  · rw [List.getElem?_append_left hi] at h1
    rw [List.getElem?_append_left (by rw [← h.1]; exact hi)] at h2
    exact h.2 i l' d' h1 h2
  · have h3 := (List.getElem?_eq_some_iff.mp h1).1
    simp at h3
    have : i = ls.length := by omega
    subst this
    rw [List.getElem?_append_right (Nat.le_refl _)] at h1
    rw [h.1, List.getElem?_append_right (Nat.le_refl _)] at h2
    simp at h1 h2
    rw [← h1, ← h2]
    exact hd
theorem hop_add (hQ : Q.Ok) {cl2 : Nat → FM} (hi : cl2 Q.iHI = runB 6 (hopIB Q)) {env : Vars} {i hl : Nat} {ls : List Nat} {hs : List HD} {lm : LM} {d : HD} (e : env[i]? = some (some (.loc hl))) (hS : S[hl]? = some (.lst (ls.map D.loc))) (hA : HopsAt Q S ls hs) (hz : ls.length ≤ 100000)
    (hm : Ow (lm env S) fun y => y = ([.tup [d.tq, d.ts], .int d.mark, .bl d.grows, d.made, .int (d.len : Nat)], S)) {T : Fl × Vars × Sto → Prop}
    (k : ∀ S', OffS [hl] S S' → S'[hl]? = some (.lst ((ls ++ [S.length]).map D.loc)) → HopsAt Q S' (ls ++ [S.length]) (hs ++ [d]) → T (.nx, env, S')) : Ow (sExpr (mM "list" appP (mVar i) (lCons (mMake Q.cH (cl2 Q.iHI) lm) lNil)) env S) T := by
  have e1 : (S ++ [Ob.ins Q.cH d.fs])[hl]? = some (.lst (ls.map D.loc)) := get_app hS
  simp [e, ty_lst hS, hi]
  refine hm.imp ?_
  rintro ⟨ds, S1⟩ hy
  cases hy
  refine (hopI_ok hQ (h := d)).imp ?_
  rintro ⟨r, S2⟩ ⟨rfl, rfl⟩
  simp [app_lst e1 (by simpa using Nat.le_trans hz (by decide))]
  have x : OffS [hl] S ((S ++ [Ob.ins Q.cH d.fs]).set hl (.lst ((ls ++ [S.length]).map D.loc))) := (OffS.gr .app).trans (OffS.set (by simp))
  have hlt := (List.getElem?_eq_some_iff.mp hS).1
  have := k ((S ++ [Ob.ins Q.cH d.fs]).set hl (.lst ((ls ++ [S.length]).map D.loc))) x (get_set e1) ((hA.off x fun j hj c fs => by
    have : j = hl := by simpa using hj
    rw [this, hS]
    simp).snoc (by rw [get_set_ne (by omega)]; exact get_snoc))
  simpa using this
def pH (k : D) (r : GR) : Prop := k = .tup [r.p, r.s]
noncomputable def endsK (A : List AE) (k : D) : List AE := A.filter fun a => decide (k = .tup [a.e.p, a.e.s])
noncomputable def hopR (wt : List Nat) (A : List AE) (i : Nat) (r : GR) : List HD := match r.w with
  | [] => []
  | [x] => [⟨r.q, x, r.m, false, .tup [.int i], wtN wt i⟩]
  | x :: y :: _ => ⟨r.q, x, r.m, true, .tup [.int i], wtN wt i⟩ :: (endsK A (.tup [r.q, x])).map fun a => ⟨a.e.q, y, max r.m a.e.f, false, .tup [.int i, a.e.enc], wtN wt i + a.l⟩
noncomputable def hopI (R : List GR) (wt : List Nat) (A : List AE) (i : Nat) : List HD := match R[i]? with
  | some r => hopR wt A i r
  | none => []
noncomputable def hopsF (R : List GR) (wt : List Nat) (A : List AE) (k : D) : List HD := (numsOf R (pH k)).flatMap (hopI R wt A)
structure HL where
  n : Nat
  at_ : Nat
  en : Nat
  ho : Nat
def fsH (G : GL) (K : HL) : List (Str × D) := [("gatherer", .loc G.n), ("_at", .loc K.at_), ("_ends", .loc K.en), ("hops", .loc K.ho)]
noncomputable def atD (R : List GR) (k : D) : List D := (numsOf R (pH k)).map fun i => .int (i : Nat)
noncomputable def enD (A : List AE) (k : D) : List D := (endsK A k).map fun a => a.e.enc
structure HSt (P : GPar) (Q : HPar) (R : List GR) (wt : List Nat) (G : GL) (T : GTs) (A A' : List AE) (o : Nat) (K : HL) (T1 T2 : List (D × Nat)) (S : Sto) : Prop where
  g : GSt P R wt G T A A A [] o S
  pm : A'.Perm A
  aok : AsOk A
  obj : S[K.n]? = some (.ins Q.cK (fsH G K))
  at_ : DoL (atD R) K.at_ T1 S
  en : DoL (enD A') K.en T2 S
  apart : K.ho ∉ K.n :: K.at_ :: K.en :: (G.B ++ T.L ++ (T1.map (·.2) ++ T2.map (·.2)))
end
section
variable {P : GPar} {Q : HPar} {R : List GR} {wt : List Nat} {G : GL} {T : GTs} {A A' : List AE} {o : Nat} {K : HL} {T1 T2 : List (D × Nat)} {S : Sto}
theorem HSt.gr {S' : Sto} (h : HSt P Q R wt G T A A' o K T1 T2 S) (g : Gr S S') : HSt P Q R wt G T A A' o K T1 T2 S' :=
  ⟨h.g.gr g, h.pm, h.aok, g.get h.obj, ⟨g.get h.at_.kv, h.at_.nb, h.at_.nd, fun p hp => g.get (h.at_.at_ p hp), h.at_.no⟩, ⟨g.get h.en.kv, h.en.nb, h.en.nd, fun p hp => g.get (h.en.at_ p hp), h.en.no⟩, h.apart⟩
structure HMk (Q : HPar) (S0 : Sto) (hl : Nat) (hs : List HD) (S : Sto) : Prop where
  ge : S0.length ≤ hl
  gr : Gr S0 S
  ex : ∃ ls : List Nat, S[hl]? = some (.lst (ls.map D.loc)) ∧ HopsAt Q S ls hs
theorem HMk.add (hQ : Q.Ok) {cl2 : Nat → FM} (hi : cl2 Q.iHI = runB 6 (hopIB Q)) {env : Vars} {i hl : Nat} {hs : List HD} {lm : LM} {d : HD} {S0 : Sto} (h : HMk Q S0 hl hs S) (e : env[i]? = some (some (.loc hl))) (hz : hs.length ≤ 100000)
    (hm : Ow (lm env S) fun y => y = ([.tup [d.tq, d.ts], .int d.mark, .bl d.grows, d.made, .int (d.len : Nat)], S)) {T : Fl × Vars × Sto → Prop} (k : ∀ S', HMk Q S0 hl (hs ++ [d]) S' → OffS [hl] S S' → T (.nx, env, S')) : Ow (sExpr (mM "list" appP (mVar i) (lCons (mMake Q.cH (cl2 Q.iHI) lm) lNil)) env S) T := by
  obtain ⟨ls, h1, h2⟩ := h.ex
  exact hop_add hQ hi e h1 h2 (by rw [h2.1]; exact hz) hm fun S' x q1 q2 => k S' ⟨h.ge, OffS.grow h.gr x fun j hj => by
    have : j = hl := by simpa using hj
    rw [this]
    exact h.ge, _, q1, q2⟩ x
end
end DL
set_option maxHeartbeats 1600000
namespace DL
open PySem
section
variable {P : GPar} {Q : HPar} {R : List GR} {wt : List Nat} {G : GL} {T : GTs} {A A' : List AE} {o : Nat} {K : HL} {T1 T2 : List (D × Nat)} {S : Sto}
def HStep (R : List GR) (wt : List Nat) (A' : List AE) (h k : D) : Prop := ∃ d ∈ hopsF R wt A' h, k = .tup [d.tq, d.ts]
inductive Met (R : List GR) (wt : List Nat) (A' : List AE) (h : D) : D → Prop where
  | refl : Met R wt A' h h
  | step {x y : D} : Met R wt A' h x → HStep R wt A' x y → Met R wt A' h y
theorem HSt.off {S' : Sto} (h : HSt P Q R wt G T A A' o K T1 T2 S) (x : OffS [K.ho] S S') : HSt P Q R wt G T A A' o K T1 T2 S' := by
  have ap := h.apart
  simp only [List.mem_cons, List.mem_append, not_or] at ap
  obtain ⟨a1, a2, a3, ⟨a4, a5⟩, a6, a7⟩ := ap
  have ne : ∀ j, K.ho ≠ j → j ∉ [K.ho] := fun j hj => by simp [Ne.symm hj]
  have nB : ∀ j ∈ G.B, j ∉ [K.ho] := fun j hj => ne j fun e => a4 (e ▸ hj)
  have nL : ∀ j ∈ T.L, j ∉ [K.ho] := fun j hj => ne j fun e => a5 (e ▸ hj)
  have m1 : ∀ p ∈ T.t1, p.2 ∈ T.L := fun p hp => List.mem_append_left _ (List.mem_map.mpr ⟨p, hp, rfl⟩)
  have m2 : ∀ p ∈ T.t2, p.2 ∈ T.L := fun p hp => List.mem_append_right _ (List.mem_append_left _ (List.mem_map.mpr ⟨p, hp, rfl⟩))
  have m3 : ∀ p ∈ T.t3, p.2 ∈ T.L := fun p hp => List.mem_append_right _ (List.mem_append_right _ (List.mem_append_left _ (List.mem_map.mpr ⟨p, hp, rfl⟩)))
  have m4 : ∀ p ∈ T.t4, p.2 ∈ T.L := fun p hp => List.mem_append_right _ (List.mem_append_right _ (List.mem_append_right _ (List.mem_map.mpr ⟨p, hp, rfl⟩)))
  have g := h.g
  refine ⟨⟨x.get (nB _ (by simp [GL.B])) g.obj, x.get (nB _ (by simp [GL.B])) g.wts, x.get (nB _ (by simp [GL.B])) g.len, x.get (nB _ (by simp [GL.B])) g.mad, x.get (nB _ (by simp [GL.B])) g.opn, g.b1.off x (nB _ (by simp [GL.B])) fun p hp => nL _ (m1 p hp), g.b2.off x (nB _ (by simp [GL.B])) fun p hp => nL _ (m2 p hp),
    g.s1.off x (nB _ (by simp [GL.B])) fun p hp => nL _ (m3 p hp), g.s2.off x (nB _ (by simp [GL.B])) fun p hp => nL _ (m4 p hp), g.sep⟩, h.pm, h.aok, x.get (ne _ a1) h.obj, h.at_.off x (ne _ a2) fun p hp => ne _ fun e => a6 (by rw [e]; exact List.mem_map.mpr ⟨p, hp, rfl⟩), h.en.off x (ne _ a3) fun p hp => ne _ fun e => a7 (by rw [e]; exact List.mem_map.mpr ⟨p, hp, rfl⟩), h.apart⟩
end
end DL
set_option maxHeartbeats 1600000
namespace DL
open PySem
structure D1 (f : D → List D) (d : Nat) (S1 : Sto) (j : Nat) (S : Sto) : Prop where
  off : OffS [d] S1 S
  ex : ∃ t, DoL f d t S ∧ t.length ≤ j ∧ (t.map (·.2)).Nodup ∧ ∀ l ∈ t.map (·.2), S1.length ≤ l
theorem D1.add {f : D → List D} {d j : Nat} {S1 S : Sto} (h : D1 f d S1 j S) (hd : d < S1.length) {k v : D} (hk : okKey k = true) (hb : k.nb = true) (hj : j ≤ 100000) (hl : (f k).length ≤ 1000000) :
    ∃ l S2 S3, setdefP (.loc d) [k, .loc S.length] (S ++ [.lst []]) = some (.loc l, S2) ∧ S2[l]? = some (.lst (f k)) ∧ appP (.loc l) [v] S2 = some (.non, S3) ∧ D1 (fun x => if x = k then f k ++ [v] else f x) d S1 (j + 1) S3 := by
  obtain ⟨off, t, d1, l1, nd, lo⟩ := h
  obtain ⟨l, S2, T', p1, p2, p3, p4, p5, p6, p7⟩ := d1.add (fun z => by
    have := lo d z
    omega) nd hk hb (v := v) (by omega) hl
  have hSl : S1.length ≤ S.length := off.1
  refine ⟨l, S2, _, p1, p2, p3, off.comp p6 fun i hi => ?_, T', p4, ?_, ?_, fun i hi => ?_⟩
  · rcases List.mem_cons.mp hi with rfl | hi
    · exact .inl (by simp)
    · exact .inr (lo i hi)
  · rcases p7 with rfl | rfl
    · omega
    · simp
      omega
  · rcases p7 with rfl | rfl
    · exact nd
    · rw [List.map_append, List.nodup_append]
      refine ⟨nd, by simp, fun i hi k hk e => ?_⟩
      simp at hk
      subst hk
      obtain ⟨p, hp, rfl⟩ := List.mem_map.mp hi
      have := d1.lt.2 p hp
      omega
  · rcases p7 with rfl | rfl
    · exact lo i hi
    · rw [List.map_append] at hi
      rcases List.mem_append.mp hi with hi | hi
      · exact lo i hi
      · simp at hi
        omega
section
variable {P : GPar} {Q : HPar} {R : List GR} {wt : List Nat} {S : Sto}
end
end DL
set_option maxHeartbeats 1600000
namespace DL
open PySem PySem.Spec
inductive Der (R : List GR) : En → Prop where
  | nil {r : GR} : r ∈ R → r.w = [] → Der R ⟨r.p, r.s, r.q, r.m⟩
  | one {r : GR} {x : D} {e : En} : r ∈ R → r.w = [x] → Der R e → e.p = r.q → e.s = x → Der R ⟨r.p, r.s, e.q, max r.m e.f⟩
  | two {r : GR} {x y : D} {e f : En} : r ∈ R → r.w = [x, y] → Der R e → Der R f → e.p = r.q → e.s = x → f.p = e.q → f.s = y → Der R ⟨r.p, r.s, f.q, max r.m (max e.f f.f)⟩
structure GRD (r : GR) : Prop where
  p : D3 r.p
  s : r.s ∈ AB
  q : D3 r.q
  w : ∀ d ∈ r.w, d ∈ AB
  lw : r.w.length ≤ 2
  m : r.m = 0 ∨ r.m = 1
abbrev D3L' : List D := [.int 0, .int 1, .int 2]
theorem d3_memH {d : D} : D3 d ↔ d ∈ D3L' := by simp [D3]
def UE : List En := D3L'.flatMap fun p => AB.flatMap fun s => D3L'.flatMap fun q => [⟨p, s, q, 0⟩, ⟨p, s, q, 1⟩]
theorem mem_UE {e : En} : e ∈ UE ↔ D3 e.p ∧ e.s ∈ AB ∧ D3 e.q ∧ (e.f = 0 ∨ e.f = 1) := by
  obtain ⟨p, s, q, f⟩ := e
  simp only [d3_memH, UE, List.mem_flatMap, List.mem_cons, List.not_mem_nil, or_false, En.mk.injEq]
  constructor
  · rintro ⟨a, ha, b, hb, c, hc, h⟩
    rcases h with ⟨rfl, rfl, rfl, rfl⟩ | ⟨rfl, rfl, rfl, rfl⟩
    · exact ⟨ha, hb, hc, .inl rfl⟩
    · exact ⟨ha, hb, hc, .inr rfl⟩
  · rintro ⟨ha, hb, hc, h⟩
    refine ⟨p, ha, s, hb, q, hc, ?_⟩
    rcases h with rfl | rfl <;> simp
theorem UE_len : UE.length = 36 := by rfl
theorem der_UE {R : List GR} (hR : ∀ r ∈ R, GRD r) {e : En} (h : Der R e) : e ∈ UE := by
  induction h with
  | nil hr hw =>
    have := hR _ hr
    exact mem_UE.mpr ⟨this.p, this.s, this.q, this.m⟩
  | one hr hw _ h1 h2 ih =>
    have := hR _ hr
    obtain ⟨_, _, i3, i4⟩ := mem_UE.mp ih
    refine mem_UE.mpr ⟨this.p, this.s, i3, ?_⟩
    have := this.m
    dsimp only
    omega
  | two hr hw _ _ h1 h2 h3 h4 ih1 ih2 =>
    have := hR _ hr
    obtain ⟨_, _, i3, i4⟩ := mem_UE.mp ih1
    obtain ⟨_, _, j3, j4⟩ := mem_UE.mp ih2
    refine mem_UE.mpr ⟨this.p, this.s, j3, ?_⟩
    have := this.m
    dsimp only
    omega
noncomputable def nxA (r : GR) (F : List En) (a : En) : List En := open Classical in match r.w with
  | [] => []
  | [x] => if a.p = r.q ∧ a.s = x then [⟨r.p, r.s, a.q, max r.m a.f⟩] else []
  | x :: y :: _ => if a.p = r.q ∧ a.s = x then (F.filter fun b => decide (b.p = a.q ∧ b.s = y)).map fun b => ⟨r.p, r.s, b.q, max (max r.m a.f) b.f⟩ else []
noncomputable def nxR (F : List En) (r : GR) : List En := open Classical in (if r.w = [] then [⟨r.p, r.s, r.q, r.m⟩] else []) ++ F.flatMap (nxA r F)
noncomputable def nxt (R : List GR) (F : List En) : List En := R.flatMap (nxR F)
section
variable {R : List GR} {F : List En} {r : GR} {S : Sto} {lf lm : Nat} {o0 o2 o9 o10 o11 o12 o13 : Option D}
theorem t2 {n : Nat} {x y : D} (h1 : Th n x) (h2 : Th n y) : Th (n + 1) (.tup [x, y]) := .tup (by simp) fun d hd => by
  simp at hd
  rcases hd with rfl | rfl
  · exact h1
  · exact h2
def EndsAre (R : List GR) (F : List En) : Prop := F.Nodup ∧ ∀ e, e ∈ F ↔ Der R e
theorem EndsAre.ue {R : List GR} (hR : ∀ r ∈ R, GRD r) {F : List En} (h : EndsAre R F) : ∀ e ∈ F, e ∈ UE := fun e he => der_UE hR ((h.2 e).mp he)
theorem EndsAre.len {R : List GR} (hR : ∀ r ∈ R, GRD r) {F : List En} (h : EndsAre R F) : F.length ≤ 36 := by
  have := len_subB h.1 (l := UE) (h.ue hR)
  rw [UE_len] at this
  exact this
end
end DL
set_option maxHeartbeats 1600000
namespace DL
open PySem PySem.Spec
structure SE where
  tq : D
  ts : D
  m : Int
def SE.enc (e : SE) : D := .tup [.tup [e.tq, e.ts], .int e.m]
theorem SE.inj {a b : SE} : a.enc = b.enc ↔ a = b := by
  obtain ⟨p, s, q⟩ := a
  obtain ⟨p', s', q'⟩ := b
  simp [SE.enc, and_assoc]
def HdOk (h : D) : Prop := ∃ p s, h = .tup [p, s] ∧ D3 p ∧ s ∈ AB
theorem HdOk.th {h : D} (k : HdOk h) : Th 7 h := by
  obtain ⟨p, s, rfl, hp, hs⟩ := k
  exact t2 (d3_th hp) (ab_th hs)
def SEOk (e : SE) : Prop := D3 e.tq ∧ e.ts ∈ AB ∧ (e.m = 0 ∨ e.m = 1)
theorem SEOk.th {e : SE} (h : SEOk e) : Th 8 e.enc := .tup (by simp) fun d hd => by
  simp at hd
  rcases hd with rfl | rfl
  · exact t2 (d3_th h.1) (ab_th h.2.1)
  · exact .int
end DL
set_option maxHeartbeats 2000000
namespace DL
namespace tb
open PySem
structure TbP where
  iNumbers___init__ : Nat
  f_numbers : List Nat
  fthings : List Nat
  iNumbers_of : Nat
  imade : Nat
  cNumbers : Nat
  mof : List (Nat × Nat)
  ar : Nat → Nat
  iclosed : Nat
  irank : Nat
  mfreely : List (Nat × Nat)
  itable_of : Nat
  iWays___init__ : Nat
  cWays : Nat
  ltable_of_0 : Nat
  ltable_of_1 : Nat
  mafter : List (Nat × Nat)
  ihas : Nat
noncomputable def bNumbers___init__ (P : TbP) (cl : Nat → FM) : SM := (sSeq (sFldD P.f_numbers "_numbers" mDNew (mVar 0)) (sFldD P.fthings "things" (mL lstP lNil) (mVar 0)))
noncomputable def bNumbers_of (P : TbP) (cl : Nat → FM) : SM := (sSeq (sIf (bV (m2 notInQ (mVar 1) (mFld P.f_numbers "_numbers" (mVar 0)))) (sSeq (sAsg (mL lenQ (lCons (mFld P.fthings "things" (mVar 0)) lNil)) (gSubM (mFld P.f_numbers "_numbers" (mVar 0)) (mVar 1))) (sExpr (mM "list" appP (mFld P.fthings "things" (mVar 0)) (lCons (mVar 1) lNil)))) sNext) (sRet (m2 ixQ (mFld P.f_numbers "_numbers" (mVar 0)) (mVar 1))))
noncomputable def bmade (P : TbP) (cl cl2 : Nat → FM) : SM := (sSeq (sAsg (mMake P.cNumbers (cl2 P.iNumbers___init__) lNil) (gVar 5)) (sSeq (sAsg (mL tupleP (lCons (mLc (iSeq (mVar 2)) [11] (.nm 11) bYes (mMeth "of" P.mof cl (mVar 5) (lCons (mVar 11) lNil))) lNil)) (gVar 6)) (sSeq (sAsg (mL lstP lNil) (gVar 7)) (sSeq (sWhile (bV (m2 ltP (mL lenQ (lCons (mVar 7) lNil)) (mL lenQ (lCons (mFld P.fthings "things" (mVar 5)) lNil)))) (sSeq (sAsg (m2 ixQ (mFld P.fthings "things" (mVar 5)) (mL lenQ (lCons (mVar 7) lNil))) (gVar 8)) (sExpr (mM "list" appP (mVar 7) (lCons (mL tupleP (lCons (mLc (iSeq (mVar 1)) [12] (.nm 12) bYes (mMeth "of" P.mof cl (mVar 5) (lCons (mClo 3 P.ar cl (lCons (mVar 8) (lCons (mVar 12) lNil))) lNil))) lNil)) lNil))))) (sSeq (sAsg (mL tupleP (lCons (mLc (iEnmA (mFld P.fthings "things" (mVar 5))) [10, 8] (.tp [10, 8]) (bTru (mClo 4 P.ar cl (lCons (mVar 8) lNil))) (mVar 10)) lNil)) (gVar 9)) (sRet (mL tupP (lCons (mVar 0) (lCons (mVar 1) (lCons (mVar 6) (lCons (mL tupleP (lCons (mVar 7) lNil)) (lCons (mVar 9) lNil))))))))))))
noncomputable def bclosed (P : TbP) (cl cl2 : Nat → FM) : SM := (sRet (mL tupleP (lCons (mSortK (cl2 P.irank) (mMeth "freely" P.mfreely cl (mVar 0) (lCons (mVar 1) lNil))) lNil)))
noncomputable def btable_of (P : TbP) (cl cl2 : Nat → FM) : SM := (sSeq (sAsg (mVar 0) (gTupD 2 (gsCons (gVar 3) (gsCons (gVar 4) gsNil)))) (sSeq (sAsg (mMake P.cWays (cl2 P.iWays___init__) (lCons (mVar 3) lNil)) (gVar 5)) (sRet (mMk (cl P.imade) (cCons (mVar 1) (cCons (mVar 2) (cCons (mLc (iSeq (mVar 1)) [6] (.nm 6) bYes (mL (cl P.iclosed) (lCons (mVar 5) (lCons (mL lstP (lCons (mVar 6) lNil)) lNil)))) (cLam P.ltable_of_0 [5] (cLam P.ltable_of_1 [4] cNil)))))))))
noncomputable def bhas (P : TbP) (cl : Nat → FM) : SM := (sSeq (sAsg (mVar 0) (gTupD 5 (gsCons (gVar 2) (gsCons (gVar 3) (gsCons (gVar 4) (gsCons (gVar 5) (gsCons (gVar 6) gsNil))))))) (sSeq (sAsg (mVar 1) (gTupD 2 (gsCons (gVar 7) (gsCons (gVar 8) gsNil)))) (sSeq (sIf (bOr (bV (m2 notInQ (mVar 7) (mVar 2))) (bNot (bTru (mL allP (lCons (mLc (iSeq (mVar 8)) [10] (.nm 10) bYes (m2 inQ (mVar 10) (mVar 3))) lNil))))) (sRet (mC (.bl false))) sNext) (sSeq (sAsg (m2 ixQ (mVar 4) (mIdxT (mVar 2) (lCons (mVar 7) lNil))) (gVar 9)) (sSeq (sFor (iSeq (mVar 8)) (gVar 10) (sAsg (m2 ixQ (m2 ixQ (mVar 5) (mVar 9)) (mIdxT (mVar 3) (lCons (mVar 10) lNil))) (gVar 9))) (sRet (m2 inQ (mVar 9) (mVar 6))))))))
noncomputable def bl_table_of_0 (P : TbP) (cl : Nat → FM) : EM := (mL (cl P.iclosed) (lCons (mVar 2) (lCons (mMeth "after" P.mafter cl (mVar 2) (lCons (mVar 0) (lCons (mVar 1) lNil))) lNil)))
noncomputable def bl_table_of_1 (P : TbP) (cl : Nat → FM) : EM := (mL anyP (lCons (mLc (iSeq (mVar 0)) [2] (.nm 2) bYes (m2 inQ (mVar 2) (mVar 1))) lNil))
structure TbPF (P : TbP) (F : Nat → Nat → FM) : Prop where
  etable_of_0 : ∀ k, F (k + 1) (1000 + P.ltable_of_0) = runE 3 3 (bl_table_of_0 P (F k))
  etable_of_1 : ∀ k, F (k + 1) (1000 + P.ltable_of_1) = runE 2 3 (bl_table_of_1 P (F k))
  eNumbers___init__ : ∀ k, F (k + 1) P.iNumbers___init__ = runB 1 (bNumbers___init__ P (F k))
  eNumbers_of : ∀ k, F (k + 1) P.iNumbers_of = runB 2 (bNumbers_of P (F k))
  emade : ∀ k, F (k + 3) P.imade = runB 13 (bmade P (F (k + 2)) (F k))
  eclosed : ∀ k, F (k + 3) P.iclosed = runB 2 (bclosed P (F (k + 2)) (F k))
  etable_of : ∀ k, F (k + 3) P.itable_of = runB 7 (btable_of P (F (k + 2)) (F k))
  ehas : ∀ k, F (k + 1) P.ihas = runB 11 (bhas P (F k))
structure TbK (T : TbP) (F : Nat → Nat → FM) : Prop where
  nm : T.cNumbers ∈ T.f_numbers
  nt : T.cNumbers ∈ T.fthings
  of : T.mof.lookup T.cNumbers = some T.iNumbers_of
theorem notIn_dct {n : Nat} {kvs : List (D × D)} {k : D} {S : Sto} (h : S[n]? = some (.dct kvs)) (hk : okKey k = true) : notInQ k (.loc n) S = some (.bl (!(dget kvs k).isSome), S) := by
  have e : dctD S (.loc n) = some kvs := by simp [dctD, h]
  simp only [notInQ, e, hk, if_true]
theorem stF_at {cs : List Nat} {n q : Nat} {fs : List (Str × D)} {S : Sto} {f : Str} {v : D} (h : S[n]? = some (.ins q fs)) (hq : q ∈ cs) (hz : fs.length < 1000) : stF cs f (.loc n) v S = some (S.set n (.ins q (putD f v fs))) := by
  simp only [stF, h]
  rw [if_pos ⟨hq, hz⟩]
theorem nw_set_dct {n : Nat} {kvs : List (D × D)} {k v : D} {S : Sto} (h : S[n]? = some (.dct kvs)) (hk : okKey k = true) (hz : kvs.length ≤ 950000) : setP (.loc n) k v S = some (S.set n (.dct (dput kvs k v))) := by
  have e : dctD S (.loc n) = some kvs := by simp [dctD, h]
  simp only [setP, e, hk, true_and]
  rw [if_pos (fitsM_lt (by omega))]
def At (xs : List D) (i : Int) (y : D) : Prop := ∃ n : Nat, i = n ∧ xs[n]? = some y
structure NumAt (xs : List D) (d l : Nat) (S : Sto) : Prop where
  ex : ∃ kvs, S[d]? = some (.dct kvs) ∧ nbK kvs ∧ kvs.length ≤ xs.length ∧ (∀ y v, lookD kvs y = some v → ∃ i : Nat, v = .int i ∧ xs[i]? = some y) ∧ ∀ y, y ∈ xs → ∃ v, lookD kvs y = some v
  ls : S[l]? = some (.lst xs)
theorem NumAt.fr {xs : List D} {d l : Nat} {S S1 : Sto} (h : NumAt xs d l S) (e1 : S1[d]? = S[d]?) (e2 : S1[l]? = S[l]?) : NumAt xs d l S1 := by
  obtain ⟨⟨kvs, h1, h2⟩, h3⟩ := h
  exact ⟨⟨kvs, e1.trans h1, h2⟩, e2.trans h3⟩
def NumO (c : Nat) (xs : List D) (q : Nat) (S : Sto) : Prop := S[q]? = some (.ins c [("_numbers", .loc (q + 1)), ("things", .loc (q + 2))]) ∧ NumAt xs (q + 1) (q + 2) S
theorem NumO.off {c : Nat} {xs : List D} {q : Nat} {S S' : Sto} {O : List Nat} (h : NumO c xs q S) (x : OffS O S S') (h0 : q ∉ O) (h1 : q + 1 ∉ O) (h2 : q + 2 ∉ O) : NumO c xs q S' := by
  obtain ⟨a, b⟩ := h
  have l1 := (List.getElem?_eq_some_iff.mp b.ls).1
  obtain ⟨kvs, c1, _⟩ := b.ex
  have l2 := (List.getElem?_eq_some_iff.mp c1).1
  exact ⟨x.get h0 a, b.fr (x.2 _ l2 h1) (x.2 _ l1 h2)⟩
theorem NumO.gr {c : Nat} {xs : List D} {q : Nat} {S S' : Sto} (h : NumO c xs q S) (g : Gr S S') : NumO c xs q S' := h.off (O := []) (OffS.gr g) (by simp) (by simp) (by simp)
theorem NumO.lt {c : Nat} {xs : List D} {q : Nat} {S : Sto} (h : NumO c xs q S) : q + 2 < S.length := (List.getElem?_eq_some_iff.mp h.2.ls).1
theorem ins_pre {xs : List D} {d : D} : xs <+: ins xs d := by
  unfold ins
  split
  · exact List.prefix_refl _
  · exact List.prefix_append _ _
section
variable {T : TbP} {F : Nat → Nat → FM} (G : TbPF T F) (K : TbK T F)
include K in
theorem NumO.meth {xs : List D} {q : Nat} {S : Sto} (h : NumO T.cNumbers xs q S) : methOf "of" T.mof (.loc q) S = some (q, T.iNumbers_of) := by
  have l1 : ([(("_numbers" : Str), D.loc (q + 1)), ("things", .loc (q + 2))] : List (Str × D)).lookup (show Str from "of") = none := rfl
  simp only [methOf, h.1, K.of, l1]
include K in
theorem NumO.things {xs : List D} {q : Nat} {S : Sto} (h : NumO T.cNumbers xs q S) : fldP T.fthings "things" (.loc q) S = some (.loc (q + 2), S) := fld_at h.1 K.nt rfl
include G K
theorem numof_ok (k : Nat) {xs : List D} {q : Nat} {y : D} {S : Sto} (h : NumO T.cNumbers xs q S) (hy : Th 6 y) (lx : xs.length ≤ 900000) :
    Ow (F (k + 1) T.iNumbers_of [.loc q, y] S) fun r => ∃ i : Int, r.1 = .int i ∧ At (ins xs y) i y ∧ NumO T.cNumbers (ins xs y) q r.2 ∧ r.2.length = S.length ∧ OffS [q + 1, q + 2] S r.2 := by
  obtain ⟨hq, ⟨kvs, h1, h2, h3, h4, h5⟩, h6⟩ := h
  rw [G.eNumbers_of, ow_runB]
  have hk : okKey y = true := hy.key (by decide)
  have f1 : ∀ {S1 : Sto}, S1[q]? = S[q]? → fldP T.f_numbers "_numbers" (.loc q) S1 = some (.loc (q + 1), S1) := fun e => fld_at (e.trans hq) K.nm rfl
  have f2 : ∀ {S1 : Sto}, S1[q]? = S[q]? → fldP T.fthings "things" (.loc q) S1 = some (.loc (q + 2), S1) := fun e => fld_at (e.trans hq) K.nt rfl
  unfold bNumbers_of
  rw [ow_seq]
  simp [-ow_seq, f1 rfl, notIn_dct h1 hk]
  rw [dget_look h2 hy.nb]
  cases ee : lookD kvs y with
  | some v =>
    obtain ⟨i, rfl, hi⟩ := h4 _ _ ee
    have hm : y ∈ xs := List.mem_of_getElem? hi
    simp [-ow_seq, f1 rfl]
    rw [ix_dct h1 hk (by rw [dget_look h2 hy.nb, ee])]
    simp [ins, hm]
    exact ⟨⟨i, rfl, hi⟩, ⟨hq, ⟨kvs, h1, h2, h3, h4, h5⟩, h6⟩, .refl⟩
  | none =>
    have hm : y ∉ xs := fun z => by
      obtain ⟨v, hv⟩ := h5 y z
      rw [ee] at hv
      cases hv
    have hl0 := (List.getElem?_eq_some_iff.mp h6).1
    have s1 : setP (.loc (q + 1)) y (.int xs.length) S = some (S.set (q + 1) (.dct (dput kvs y (.int xs.length)))) := nw_set_dct h1 hk (by omega)
    have h6' : (S.set (q + 1) (.dct (dput kvs y (.int xs.length))))[q + 2]? = some (.lst xs) := by rw [get_set_ne (by omega), h6]
    have h1' : ((S.set (q + 1) (.dct (dput kvs y (.int xs.length)))).set (q + 2) (.lst (xs ++ [y])))[q + 1]? = some (.dct (dput kvs y (.int xs.length))) := by rw [get_set_ne (by omega), get_set h1]
    have lk : lookD (dput kvs y (.int xs.length)) y = some (.int xs.length) := by rw [look_put h2 hy.nb, if_pos rfl]
    have nb' := nbK_put (w := .int xs.length) h2 hy.nb
    simp [-ow_seq]
    rw [ow_seq]
    simp [-ow_seq, f1 rfl, f2 rfl, len_lst h6, s1]
    rw [f2 (get_set_ne (by omega))]
    simp [-ow_seq, ty_lst h6', app_lst h6' (show xs.length ≤ 1000000 by omega)]
    rw [f1 (by rw [get_set_ne (by omega), get_set_ne (by omega)])]
    simp only [ow_some]
    rw [ix_dct h1' hk (by rw [dget_look nb' hy.nb, lk])]
    simp [ins, hm]
    refine ⟨⟨xs.length, rfl, by simp⟩, ⟨by rw [get_set_ne (by omega), get_set_ne (by omega)]; exact hq, ⟨_, h1', nb', ?_, fun z v ez => ?_, fun z hz => ?_⟩, get_set h6'⟩, (OffS.set (by simp)).trans (OffS.set (by simp))⟩
    · have := length_put kvs y (.int xs.length)
      simp
      omega
    · rw [look_put h2 hy.nb] at ez
      by_cases hz : y = z
      · rw [if_pos hz] at ez
        cases ez
        exact ⟨xs.length, rfl, by simp [hz]⟩
      · rw [if_neg hz] at ez
        obtain ⟨i, rfl, hi⟩ := h4 _ _ ez
        exact ⟨i, rfl, by rw [List.getElem?_append_left (List.getElem?_eq_some_iff.mp hi).1, hi]⟩
    · rw [look_put h2 hy.nb]
      by_cases hz' : y = z
      · exact ⟨_, by rw [if_pos hz']⟩
      · rw [if_neg hz']
        rcases List.mem_append.mp hz with hz | hz
        · exact h5 z hz
        · exact absurd (List.mem_singleton.mp hz).symm hz'
theorem ninit_ok (k : Nat) {S : Sto} : Ow (F (k + 1) T.iNumbers___init__ [.loc S.length] (S ++ [.ins T.cNumbers []])) fun r => r.1 = .non ∧ Gr S r.2 ∧ NumO T.cNumbers [] S.length r.2 ∧ r.2.length = S.length + 3 := by
  rw [G.eNumbers___init__, ow_runB]
  unfold bNumbers___init__
  have s1 : (S ++ [Ob.ins T.cNumbers [], .dct []]).set S.length (.ins T.cNumbers (putD "_numbers" (.loc (S.length + 1)) [])) = S ++ [.ins T.cNumbers [("_numbers", .loc (S.length + 1))], .dct []] := by simp [putD]
  have s2 : (S ++ [Ob.ins T.cNumbers [("_numbers", .loc (S.length + 1))], .dct [], .lst []]).set S.length (.ins T.cNumbers (putD "things" (.loc (S.length + 2)) [("_numbers", .loc (S.length + 1))])) = S ++ [.ins T.cNumbers [("_numbers", .loc (S.length + 1)), ("things", .loc (S.length + 2))], .dct [], .lst []] := by
    rw [show putD "things" (.loc (S.length + 2)) [("_numbers", .loc (S.length + 1))] = ([("_numbers", .loc (S.length + 1)), ("things", .loc (S.length + 2))] : List (Str × D)) from rfl]
    simp
  rw [ow_seq]
  simp [-ow_seq]
  rw [stF_at (q := T.cNumbers) (fs := []) (by simp) K.nm (by decide), s1]
  simp [lst_ok]
  rw [stF_at (q := T.cNumbers) (fs := [("_numbers", .loc (S.length + 1))]) (by simp) K.nt (by simp), s2]
  simp
  refine ⟨.app, by simp, ⟨[], by simp, (by intro p hp; cases hp), by simp, fun y v h => (by cases h), fun y h => (by cases h)⟩, by simp⟩
end
theorem mask_get {S : Sto} {j : Nat} {o : Ob} (h : S[j]? = some o) (e : maskO o = o) : (maskS S)[j]? = some o := by
  unfold maskS
  rw [List.getElem?_map, h]
  exact congrArg some e
theorem mask_len {S : Sto} : (maskS S).length = S.length := by simp [maskS]
theorem back_mask {S S2 : Sto} (h : Gr (maskS S) S2) : Gr S (backS S S2) := by
  obtain ⟨U, rfl⟩ := h
  refine Gr.of (by unfold backS; rw [List.length_mapIdx, List.length_append, mask_len]; omega) fun j hj => ?_
  unfold backS
  rw [List.getElem?_mapIdx, List.getElem?_append_left (by rw [mask_len]; exact hj)]
  unfold maskS
  rw [List.getElem?_map, List.getElem?_eq_getElem hj]
  show some (backO S j (maskO S[j])) = some S[j]
  unfold backO
  rw [List.getElem?_eq_getElem hj]
  cases S[j] with
  | clo i ds => cases ds <;> rfl
  | _ => rfl
theorem ow_clo {j : Nat} {ar : Nat → Nat} {cl : Nat → FM} {la : LM} {env : Vars} {S : Sto} {Q : D × Sto → Prop} {n i : Nat} {ds : List D} (e1 : env[j]? = some (some (.loc n))) (e2 : S[n]? = some (.clo i ds)) :
    Ow (mClo j ar cl la env S) Q ↔ Ow (la env S) fun x => x.1.length = ar i ∧ Ow (cl (1000 + i) (x.1 ++ ds) (maskS x.2)) fun y => Q (y.1, backS x.2 y.2) := by
  unfold mClo
  simp only [e1, e2]
  cases la env S with
  | none => simp
  | some x =>
    obtain ⟨xs, S1⟩ := x
    simp only [ow_some]
    by_cases h : xs.length = ar i
    · simp only [h, if_true, true_and]
      cases cl (1000 + i) (xs ++ ds) (maskS S1) with
      | none => simp
      | some y => simp
    · simp [h]
theorem kill_gr {S S2 : Sto} {k : Nat} (h : Gr S S2) : Gr S (killS S.length k S2) := by
  obtain ⟨U, rfl⟩ := h
  refine Gr.of (by unfold killS; rw [List.length_mapIdx, List.length_append]; omega) fun j hj => ?_
  unfold killS
  rw [List.getElem?_mapIdx, List.getElem?_append_left hj, List.getElem?_eq_getElem hj]
  show some (killO S.length k j S[j]) = some S[j]
  unfold killO
  rw [if_neg (by omega)]
theorem ow_mk {m : FM} {la : CM} {env : Vars} {S : Sto} {Q : D × Sto → Prop} : Ow (mMk m la env S) Q ↔ Ow (la env S) fun x => Ow (m (argD x.2.length x.1) (x.2 ++ cloS x.1)) fun y => Q (y.1, killS x.2.length (cloS x.1).length y.2) := by
  unfold mMk
  cases la env S with
  | none => simp
  | some x =>
    obtain ⟨as, S1⟩ := x
    simp only [ow_some]
    cases m (argD S1.length as) (S1 ++ cloS as) <;> simp
@[simp] theorem ow_cNil {env : Vars} {S : Sto} {L : List CA × Sto → Prop} : Ow (cNil env S) L ↔ L ([], S) := ow_some
@[simp] theorem ow_cCons {a : EM} {l : CM} {env : Vars} {S : Sto} {L : List CA × Sto → Prop} : Ow (cCons a l env S) L ↔ Ow (a env S) fun x => Ow (l env x.2) fun y => L (.d x.1 :: y.1, y.2) := by
  unfold cCons
  cases a env S with
  | none => simp
  | some x =>
    obtain ⟨d, S1⟩ := x
    simp only [ow_some]
    cases l env S1 <;> simp
@[simp] theorem ow_cLam {i : Nat} {js : List Nat} {l : CM} {env : Vars} {S : Sto} {L : List CA × Sto → Prop} : Ow (cLam i js l env S) L ↔ Ow (slotsD env js) fun ds => Ow (l env S) fun y => L (.c i ds :: y.1, y.2) := by
  unfold cLam
  cases slotsD env js with
  | none => simp
  | some ds =>
    simp only [ow_some]
    cases l env S <;> simp
section
open Classical
noncomputable def num (T : List D) (x : D) : Nat := T.findIdx fun z => decide (z = x)
end
theorem num_at {T : List D} {x : D} (h : x ∈ T) : T[num T x]? = some x := by
  unfold num
  have hl : T.findIdx (fun z => decide (z = x)) < T.length := List.findIdx_lt_length_of_exists ⟨x, h, by simp⟩
  rw [List.getElem?_eq_getElem hl]
  have := List.findIdx_getElem (w := hl)
  simpa using this
theorem num_lt {T : List D} {x : D} (h : x ∈ T) : num T x < T.length := (List.getElem?_eq_some_iff.mp (num_at h)).1
theorem num_eq {T : List D} {x : D} {i : Nat} (nd : T.Nodup) (h : T[i]? = some x) : num T x = i := by
  obtain ⟨h1, e1⟩ := List.getElem?_eq_some_iff.mp h
  obtain ⟨h2, e2⟩ := List.getElem?_eq_some_iff.mp (num_at (List.mem_of_getElem? h))
  exact (List.getElem_inj nd).mp (e2.trans e1.symm)
theorem num_pre {T T' : List D} {x : D} (nd : T'.Nodup) (p : T <+: T') (h : x ∈ T) : num T' x = num T x := num_eq nd (pre_get p (num_at h))
noncomputable def insA (T : List D) (xs : List D) : List D := xs.foldl ins T
theorem insA_snoc {T xs : List D} {x : D} : insA T (xs ++ [x]) = ins (insA T xs) x := by simp [insA]
theorem mem_ins {T : List D} {x y : D} : y ∈ ins T x ↔ y ∈ T ∨ y = x := by
  unfold ins
  split
  · rename_i h
    exact ⟨.inl, fun z => z.elim id fun e => e ▸ h⟩
  · simp
theorem ins_nodup {T : List D} {x : D} (h : T.Nodup) : (ins T x).Nodup := by
  unfold ins
  split
  · exact h
  · rename_i hn
    rw [List.nodup_append]
    exact ⟨h, by simp, fun a ha b hb => by simp at hb; subst hb; exact fun z => hn (z ▸ ha)⟩
theorem insA_nodup {T : List D} (h : T.Nodup) : ∀ {xs : List D}, (insA T xs).Nodup := fun {xs} => by
  induction xs generalizing T with
  | nil => exact h
  | cons x xs ih => exact ih (ins_nodup h)
theorem insA_pre {T : List D} : ∀ {xs : List D}, T <+: insA T xs := fun {xs} => by
  induction xs generalizing T with
  | nil => exact List.prefix_refl _
  | cons x xs ih => exact ins_pre.trans ih
theorem mem_insA {T : List D} {y : D} : ∀ {xs : List D}, y ∈ insA T xs ↔ y ∈ T ∨ y ∈ xs := fun {xs} => by
  induction xs generalizing T with
  | nil => simp [insA]
  | cons x xs ih =>
    show y ∈ insA (ins T x) xs ↔ _
    rw [ih, mem_ins, List.mem_cons, or_assoc]
noncomputable def nms (T : List D) (xs : List D) : List D := xs.map fun x => .int (num T x)
theorem nms_pre {T T' xs : List D} (nd : T'.Nodup) (p : T <+: T') (h : ∀ x ∈ xs, x ∈ T) : nms T' xs = nms T xs := List.map_congr_left fun x hx => by rw [num_pre nd p (h x hx)]
inductive Met (fo : D → D → D) (ys : List D) : Nat → List D → List D → Prop where
  | done {T : List D} : Met fo ys T.length T T
  | step {m : Nat} {T T' : List D} {x : D} : T[m]? = some x → Met fo ys (m + 1) (insA T (ys.map (fo x))) T' → Met fo ys m T T'
noncomputable def rowD (fo : D → D → D) (ys T : List D) (x : D) : D := .tup (nms T (ys.map (fo x)))
open Classical in
noncomputable def finD (fi : D → Bool) (T : List D) : List D := ((List.range T.length).filter fun i => match T[i]? with | some x => fi x | none => false).map fun i => .int (i : Nat)
noncomputable def tabD (fo : D → D → D) (fi : D → Bool) (sa : D) (ys xs T : List D) : D := .tup [sa, .tup ys, .tup (nms T xs), .tup (T.map (rowD fo ys T)), .tup (finD fi T)]
structure Fol (S : Sto) (cl : FM) (ds : List D) (Dom : D → Prop) (ys : List D) (fo : D → D → D) : Prop where
  ok : ∀ S1, Gr S S1 → ∀ x y, Dom x → y ∈ ys → Ow (cl ([x, y] ++ ds) (maskS S1)) fun r => r.1 = fo x y ∧ Gr (maskS S1) r.2
  dom : ∀ x y, Dom x → y ∈ ys → Dom (fo x y)
def Tst (S : Sto) (cl : FM) (ds : List D) (Dom : D → Prop) (fi : D → Bool) : Prop := ∀ S1, Gr S S1 → ∀ x, Dom x → Ow (cl ([x] ++ ds) (maskS S1)) fun r => r.1 = .bl (fi x) ∧ Gr (maskS S1) r.2
section
variable {T : TbP} {F : Nat → Nat → FM} (G : TbPF T F) (K : TbK T F)
include G K
theorem num_ok (k : Nat) {xs : List D} {q : Nat} {y : D} {S : Sto} (h : NumO T.cNumbers xs q S) (nd : xs.Nodup) (hy : Th 6 y) (lx : xs.length ≤ 900000) :
    Ow (F (k + 1) T.iNumbers_of [.loc q, y] S) fun r => r.1 = .int (num (ins xs y) y) ∧ NumO T.cNumbers (ins xs y) q r.2 ∧ OffS [q + 1, q + 2] S r.2 := by
  refine (numof_ok G K k h hy lx).imp ?_
  rintro ⟨d, S1⟩ h1
  obtain ⟨i, e, ⟨n, rfl, hn⟩, h2, _, h3⟩ := h1
  refine ⟨?_, h2, h3⟩
  rw [num_eq (ins_nodup nd) hn]
  exact e
end
end tb
end DL
set_option maxHeartbeats 2000000
namespace DL
namespace tb
open PySem
section
variable {T : TbP} {F : Nat → Nat → FM} (G : TbPF T F) (K : TbK T F)
include G K
theorem ofs_ok (k : Nat) {T0 its : List D} {q v : Nat} {S : Sto} {d : D} {env : Vars} {ta : EM} {f : D → D} (hq : env[5]? = some (some (.loc q))) (hv : v ≠ 5) (h : NumO T.cNumbers T0 q S) (nd : T0.Nodup) (hd : ∀ S', OffS [q + 1, q + 2] S S' → seqD S' d = some its) (hl : its.length ≤ 1000) (lT : T0.length ≤ 100000) (hf : ∀ x ∈ its, Th 6 (f x))
    (step : ∀ x ∈ its, ∀ S1, OffS [q + 1, q + 2] S S1 → Ow (ta ((env.set v none).set v (some x)) S1) fun y => y.1 = f x ∧ Gr S1 y.2) :
    Ow (lcL (.seq d) [v] (.nm v) bYes (mMeth "of" T.mof (F (k + 1)) (mVar 5) (lCons ta lNil)) env 0 [] S) fun r => r.1 = nms (insA T0 (its.map f)) (its.map f) ∧ NumO T.cNumbers (insA T0 (its.map f)) q r.2 ∧ OffS [q + 1, q + 2] S r.2 := by
  refine (lcL_inv its (fun j acc S1 => acc = nms (insA T0 ((its.take j).map f)) ((its.take j).map f) ∧ NumO T.cNumbers (insA T0 ((its.take j).map f)) q S1 ∧ OffS [q + 1, q + 2] S S1) (fun j acc S1 ⟨_, _, o⟩ => by simp [itAt, hd S1 o]) (fun j x acc S1 hj ⟨ha, hn, o⟩ => ?_) its.length 0 [] S (by simp) (by simp) ⟨by simp [nms], by simpa [insA] using h, .refl⟩).imp ?_
  · have hx := List.mem_of_getElem? hj
    have hjl : j < its.length := (List.getElem?_eq_some_iff.mp hj).1
    refine ⟨(env.set v none).set v (some x), rfl, ?_⟩
    have e5 : ((env.set v none).set v (some x))[5]? = some (some (.loc q)) := by rw [List.getElem?_set_ne hv, List.getElem?_set_ne hv, hq]
    simp only [bYes, ow_some, if_true, ow_mMeth, ow_var, e5, Option.some.injEq, ow_cons, ow_nil]
    refine ⟨.loc q, rfl, ?_⟩
    rw [hn.meth K]
    simp only [ow_some]
    refine (step x hx S1 o).imp ?_
    rintro ⟨y, S2⟩ ⟨rfl, g⟩
    dsimp only at g ⊢
    have lI : (insA T0 ((its.take j).map f)).length ≤ 900000 := by
      have : ∀ (xs : List D) (U : List D), (insA U xs).length ≤ U.length + xs.length := fun xs => by
        induction xs with
        | nil => intro U; simp [insA]
        | cons z zs ih =>
          intro U
          have := ih (ins U z)
          have : (ins U z).length ≤ U.length + 1 := by unfold ins; split <;> simp
          show (insA (ins U z) zs).length ≤ _
          simp only [List.length_cons]
          omega
      have := this ((its.take j).map f) T0
      rw [List.length_map, List.length_take] at this
      omega
    refine (num_ok G K k (hn.gr g) (insA_nodup nd) (hf x hx) lI).imp ?_
    rintro ⟨z, S3⟩ ⟨rfl, h2, o2⟩
    dsimp only at h2 o2 ⊢
    have et : (its.take (j + 1)).map f = (its.take j).map f ++ [f x] := by simp [List.take_add_one, hj]
    have ei : insA T0 ((its.take (j + 1)).map f) = ins (insA T0 ((its.take j).map f)) (f x) := by rw [et, insA_snoc]
    refine ⟨?_, ?_, ?_, o.trans ((OffS.gr g).trans o2)⟩
    · rw [ha]
      unfold nms
      simp only [List.length_map, List.length_take]
      have : (1000 : Nat) < sizeLine := by decide
      omega
    · rw [ha, ei, et]
      show _ = nms _ _
      unfold nms
      rw [List.map_append]
      congr 1
      refine (nms_pre (ins_nodup (insA_nodup nd)) ins_pre fun z hz => mem_insA.mpr (.inr hz)).symm
    · rw [ei]
      exact h2
  · rintro ⟨ys, S1⟩ h1
    simpa using h1
end
theorem fins_ok {ar : Nat → Nat} {cl : Nat → FM} {env : Vars} {S : Sto} {U : List D} {m b j : Nat} {ds : List D} {Dom : D → Prop} {fi : D → Bool} (l12 : 13 ≤ env.length) (h4 : env[4]? = some (some (.loc b))) (hb : S[b]? = some (.clo j ds)) (hS : S[m]? = some (.lst U)) (lU : U.length ≤ 900000) (har : ar j = 1) (hU : ∀ x ∈ U, Dom x)
    (ht : ∀ S1, Gr S S1 → ∀ x, Dom x → Ow (cl (1000 + j) ([x] ++ ds) (maskS S1)) fun r => r.1 = .bl (fi x) ∧ Gr (maskS S1) r.2) :
    Ow (lcL (.enm (.loc m)) [10, 8] (.tp [10, 8]) (bTru (mClo 4 ar cl (lCons (mVar 8) lNil))) (mVar 10) env 0 [] S) fun r => r.1 = finD fi U ∧ Gr S r.2 := by
  classical
  let g : Nat → Bool := fun i => match U[i]? with | some x => fi x | none => false
  have hl : ((List.range U.length).map fun i => match U[i]? with | some x => D.tup [.int (i : Nat), x] | none => .non).length = U.length := by simp
  refine (lcL_inv ((List.range U.length).map fun i => match U[i]? with | some x => D.tup [.int (i : Nat), x] | none => .non) (fun i acc S1 => acc = ((List.range i).filter g).map (fun i : Nat => D.int i) ∧ Gr S S1) (fun i acc S1 ⟨_, gr⟩ => ?_) (fun i x acc S1 hj ⟨ha, gr⟩ => ?_) U.length 0 [] S (by rw [hl]; omega) (by omega) ⟨by simp, .refl⟩).imp ?_
  · simp only [itAt, seq_loc (gr.get hS)]
    by_cases hi : i < U.length
    · simp [hi]
    · simp [hi]
  · rw [List.getElem?_map] at hj
    have hi : i < U.length := by
      rcases Nat.lt_or_ge i U.length with h | h
      · exact h
      · rw [List.getElem?_eq_none (by simpa using h)] at hj
        cases hj
    rw [List.getElem?_range hi] at hj
    simp only [Option.map_some, List.getElem?_eq_getElem hi, Option.some.injEq] at hj
    subst hj
    have hx : U[i] ∈ U := List.getElem_mem hi
    refine ⟨(((env.set 8 none).set 10 none).set 10 (some (.int (i : Nat)))).set 8 (some U[i]), by simp [Tgt.put, wipeD, setAll], ?_⟩
    have e8 : ((((env.set 8 none).set 10 none).set 10 (some (.int (i : Nat)))).set 8 (some U[i]))[8]? = some (some U[i]) := List.getElem?_set_self (by simp; omega)
    have e10 : ((((env.set 8 none).set 10 none).set 10 (some (.int (i : Nat)))).set 8 (some U[i]))[10]? = some (some (.int (i : Nat))) := by rw [List.getElem?_set_ne (by decide)]; exact List.getElem?_set_self (by simp; omega)
    have e4 : ((((env.set 8 none).set 10 none).set 10 (some (.int (i : Nat)))).set 8 (some U[i]))[4]? = some (some (.loc b)) := by rw [List.getElem?_set_ne (by decide), List.getElem?_set_ne (by decide), List.getElem?_set_ne (by decide), List.getElem?_set_ne (by decide), h4]
    rw [ow_Tru, ow_clo e4 (gr.get hb)]
    simp only [ow_cons, ow_var, e8, Option.some.injEq, ow_nil]
    refine ⟨_, rfl, by simp [har], ?_⟩
    refine (ht S1 gr _ (hU _ hx)).imp ?_
    rintro ⟨y, S2⟩ ⟨rfl, g2⟩
    dsimp only at g2 ⊢
    have g3 := back_mask g2
    have hg : g i = fi U[i] := by simp only [g, List.getElem?_eq_getElem hi]
    simp only [truD, ow_some]
    have hlen : acc.length < sizeLine := by
      rw [ha, List.length_map]
      have := List.length_filter_le g (List.range i)
      simp at this
      have : (900000 : Nat) < sizeLine := by decide
      omega
    by_cases hfi : fi U[i] = true
    · simp only [hfi, if_true, ow_var, e10, Option.some.injEq]
      refine ⟨_, rfl, hlen, ?_, gr.trans g3⟩
      rw [ha, List.range_succ, List.filter_append, List.map_append]
      simp [hg, hfi]
    · simp only [hfi, if_false]
      refine ⟨?_, gr.trans g3⟩
      rw [ha, List.range_succ, List.filter_append, List.map_append]
      simp [hg, hfi]
  · rintro ⟨ys, S1⟩ ⟨h1, g1⟩
    dsimp only at h1 g1 ⊢
    rw [hl] at h1
    exact ⟨h1, g1⟩
structure ME (sa sy st : D) (a b q : Nat) (fst : D) (l : Nat) (env : Vars) : Prop where
  len : env.length = 13
  e0 : env[0]? = some (some sa)
  e1 : env[1]? = some (some sy)
  e2 : env[2]? = some (some st)
  e3 : env[3]? = some (some (.loc a))
  e4 : env[4]? = some (some (.loc b))
  e5 : env[5]? = some (some (.loc q))
  e6 : env[6]? = some (some fst)
  e7 : env[7]? = some (some (.loc l))
theorem ME.set {sa sy st : D} {a b q : Nat} {fst : D} {l : Nat} {env : Vars} (h : ME sa sy st a b q fst l env) {i : Nat} {d : Option D} (hi : 8 ≤ i) : ME sa sy st a b q fst l (env.set i d) := by
  have n : ∀ j, j < 8 → (env.set i d)[j]? = env[j]? := fun j hj => List.getElem?_set_ne (by omega)
  exact ⟨by rw [List.length_set]; exact h.len, (n 0 (by decide)).trans h.e0, (n 1 (by decide)).trans h.e1, (n 2 (by decide)).trans h.e2, (n 3 (by decide)).trans h.e3, (n 4 (by decide)).trans h.e4, (n 5 (by decide)).trans h.e5, (n 6 (by decide)).trans h.e6, (n 7 (by decide)).trans h.e7⟩
noncomputable def madeW (P : TbP) (cl : Nat → FM) : SM := (sWhile (bV (m2 ltP (mL lenQ (lCons (mVar 7) lNil)) (mL lenQ (lCons (mFld P.fthings "things" (mVar 5)) lNil)))) (sSeq (sAsg (m2 ixQ (mFld P.fthings "things" (mVar 5)) (mL lenQ (lCons (mVar 7) lNil))) (gVar 8)) (sExpr (mM "list" appP (mVar 7) (lCons (mL tupleP (lCons (mLc (iSeq (mVar 1)) [12] (.nm 12) bYes (mMeth "of" P.mof cl (mVar 5) (lCons (mClo 3 P.ar cl (lCons (mVar 8) (lCons (mVar 12) lNil))) lNil))) lNil)) lNil)))))
section
variable {T : TbP} {F : Nat → Nat → FM} (G : TbPF T F) (K : TbK T F)
include G K
theorem madeW_ok (k : Nat) {S0 : Sto} {sa st fst : D} {ys T0 : List D} {a b i : Nat} {ds : List D} {Dom : D → Prop} {fo : D → D → D} {B q l : Nat} (hi : S0[a]? = some (.clo i ds)) (har : T.ar i = 2) (fol : Fol S0 (F (k + 1) (1000 + i)) ds Dom ys fo)
    (hB : ∀ U : List D, U.Nodup → (∀ x ∈ U, Dom x) → U.length ≤ B) (hB9 : B ≤ 50000) (hth : ∀ x, Dom x → Th 6 x) (lys : ys.length ≤ 100) (hq : S0.length ≤ q) (hl : S0.length ≤ l) (ql : l ≠ q ∧ l ≠ q + 1 ∧ l ≠ q + 2)
    {env : Vars} {S : Sto} (me : ME sa (.tup ys) st a b q fst l env) (g0 : Gr S0 S) (n0 : NumO T.cNumbers T0 q S) (nd0 : T0.Nodup) (d0 : ∀ x ∈ T0, Dom x) (hm : S[l]? = some (.lst [])) :
    Ow (madeW T (F (k + 1)) env S) fun x => x.1 = .nx ∧ ∃ U, ME sa (.tup ys) st a b q fst l x.2.1 ∧ Gr S0 x.2.2 ∧ NumO T.cNumbers U q x.2.2 ∧ U.Nodup ∧ T0 <+: U ∧ (∀ x ∈ U, Dom x) ∧ Met fo ys 0 T0 U ∧ x.2.2[l]? = some (.lst (U.map (rowD fo ys U))) ∧ ∀ x ∈ U, ∀ y ∈ ys, fo x y ∈ U := by
  unfold madeW
  refine sWhile_inv (fun n env S => ∃ m U, n = B - m ∧ m ≤ U.length ∧ ME sa (.tup ys) st a b q fst l env ∧ Gr S0 S ∧ NumO T.cNumbers U q S ∧ U.Nodup ∧ T0 <+: U ∧ (∀ x ∈ U, Dom x) ∧ (∀ U', Met fo ys m U U' → Met fo ys 0 T0 U') ∧ S[l]? = some (.lst ((U.take m).map (rowD fo ys U))) ∧ ∀ x ∈ U.take m, ∀ y ∈ ys, fo x y ∈ U) _ (fun n env S hI => ?_) B env S ⟨0, T0, rfl, Nat.zero_le _, me, g0, n0, nd0, List.prefix_refl _, d0, fun _ h => h, by simpa using hm, by simp⟩
  obtain ⟨m, U, rfl, hmU, me, g, hn, nd, pre, dm, met, hmv, cl⟩ := hI
  have lU := hB U nd dm
  have e1 : fldP T.fthings "things" (.loc q) S = some (.loc (q + 2), S) := hn.things K
  have ml : ((U.take m).map (rowD fo ys U)).length = m := by simp [hmU]
  simp only [ow_V, ow_m2, ow_mL, ow_cons, ow_var, me.e7, me.e5, Option.some.injEq, ow_nil, ow_mFld]
  refine ⟨_, rfl, ?_⟩
  rw [len_lst hmv]
  simp only [ow_some]
  refine ⟨_, rfl, ?_⟩
  rw [e1]
  simp only [ow_some]
  rw [len_lst hn.2.ls]
  simp only [ow_some, lt_ii, asB_bl, ml]
  by_cases hlt : m < U.length
  · have hlt' : ((m : Int) < (U.length : Int)) := by omega
    simp only [hlt', decide_true, if_true]
    rw [ow_seq]
    simp only [ow_asg, ow_m2, ow_mFld, ow_var, me.e5, Option.some.injEq, ow_mL, ow_cons, ow_nil, me.e7]
    refine ⟨_, rfl, ?_⟩
    rw [e1]
    simp only [ow_some]
    refine ⟨_, rfl, ?_⟩
    rw [len_lst hmv]
    simp only [ow_some, ml]
    rw [ix_lst hn.2.ls (by omega) (d := U[m]) (by simpa using List.getElem?_eq_getElem hlt)]
    simp only [ow_some, ow_gVar]
    have hxU : U[m] ∈ U := List.getElem_mem hlt
    have me2 := me.set (i := 8) (d := some U[m]) (by omega)
    have e8 : (env.set 8 (some U[m]))[8]? = some (some U[m]) := List.getElem?_set_self (by rw [me.len]; decide)
    simp only [ow_expr, ow_mM, ow_var, me2.e7, Option.some.injEq, ow_cons, ow_nil, ow_mL, ow_lc, ow_iSeq, me2.e1, seq_tup, Option.isSome_some, true_and]
    refine ⟨_, rfl, ty_lst hmv, _, rfl, rfl, ?_⟩
    refine (ofs_ok G K k (d := .tup ys) (its := ys) (v := 12) (f := fo U[m]) me2.e5 (by decide) hn nd (fun _ _ => rfl) (by omega) (by omega) (fun y hy => hth _ (fol.dom _ _ (dm _ hxU) hy)) fun y hy S1 o => ?_).imp ?_
    · have o1 : Gr S0 S1 := OffS.grow g o (by intro j hj; simp at hj; omega)
      have e3 : (((env.set 8 (some U[m])).set 12 none).set 12 (some y))[3]? = some (some (.loc a)) := by
        rw [List.getElem?_set_ne (by decide), List.getElem?_set_ne (by decide)]
        exact me2.e3
      have e8' : (((env.set 8 (some U[m])).set 12 none).set 12 (some y))[8]? = some (some U[m]) := by
        rw [List.getElem?_set_ne (by decide), List.getElem?_set_ne (by decide)]
        exact e8
      have e12 : (((env.set 8 (some U[m])).set 12 none).set 12 (some y))[12]? = some (some y) := List.getElem?_set_self (by simp [me.len])
      rw [ow_clo e3 (o1.get hi)]
      simp only [ow_cons, ow_var, e8', e12, Option.some.injEq, ow_nil]
      refine ⟨_, rfl, _, rfl, by simp [har], ?_⟩
      refine (fol.ok S1 o1 _ _ (dm _ hxU) hy).imp ?_
      rintro ⟨z, S2⟩ ⟨rfl, g2⟩
      exact ⟨rfl, back_mask g2⟩
    · rintro ⟨rs, S2⟩ ⟨rfl, h2, o2⟩
      dsimp only at h2 o2 ⊢
      have o3 : Gr S0 S2 := OffS.grow g o2 (by intro j hj; simp at hj; omega)
      have hl2 : S2[l]? = some (.lst ((U.take m).map (rowD fo ys U))) := o2.get (by simp; omega) hmv
      have hl3 : l < S2.length := (List.getElem?_eq_some_iff.mp hl2).1
      rw [tuple_lst get_snoc]
      simp only [ow_some]
      rw [app_lst (get_app hl2) (by rw [ml]; omega)]
      simp only [ow_some]
      have nd' : (insA U (ys.map (fo U[m]))).Nodup := insA_nodup nd
      have pre' : U <+: insA U (ys.map (fo U[m])) := insA_pre
      have dm' : ∀ x ∈ insA U (ys.map (fo U[m])), Dom x := fun x hx => by
        rcases mem_insA.mp hx with hx | hx
        · exact dm x hx
        · obtain ⟨y, hy, rfl⟩ := List.mem_map.mp hx
          exact fol.dom _ _ (dm _ hxU) hy
      have lU' := hB _ nd' dm'
      have htk : (insA U (ys.map (fo U[m]))).take (m + 1) = U.take m ++ [U[m]] := by
        obtain ⟨V, hV⟩ := pre'
        rw [← hV, List.take_append_of_le_length (by omega), List.take_add_one, List.getElem?_eq_getElem hlt]
        rfl
      have hlt2 : m + 1 ≤ (insA U (ys.map (fo U[m]))).length := by
        have := pre'.length_le
        omega
      refine ⟨B - (m + 1), by omega, m + 1, _, rfl, hlt2, me2, ?_, ?_, nd', pre.trans pre', dm', fun U' h => met U' (.step (List.getElem?_eq_getElem hlt) h), ?_, ?_⟩
      · exact (o3.trans .app).set hl
      · exact (h2.gr .app).off (O := [l]) (OffS.set (by simp)) (by simp; omega) (by simp; omega) (by simp; omega)
      · rw [List.getElem?_set_self (by simp; omega), htk, List.map_append]
        have hr : (U.take m).map (rowD fo ys (insA U (ys.map (fo U[m])))) = (U.take m).map (rowD fo ys U) := List.map_congr_left fun x hx => by
          unfold rowD
          rw [nms_pre nd' pre' fun z hz => ?_]
          obtain ⟨y, hy, rfl⟩ := List.mem_map.mp hz
          exact cl x hx y hy
        rw [hr]
        rfl
      · rw [htk]
        intro x hx y hy
        rcases List.mem_append.mp hx with hx | hx
        · exact pre'.subset (cl x hx y hy)
        · rw [List.mem_singleton.mp hx]
          exact mem_insA.mpr (.inr (List.mem_map.mpr ⟨y, hy, rfl⟩))
  · have hlt' : ¬ ((m : Int) < (U.length : Int)) := by omega
    have em : m = U.length := by omega
    subst em
    simp only [hlt', decide_false, if_false]
    rw [List.take_length] at hmv cl
    exact ⟨trivial, U, me, g, hn, nd, pre, dm, met _ .done, hmv, cl⟩
theorem made_ok (k : Nat) {S : Sto} {sa st : D} {ys xs : List D} {a b i j : Nat} {ds es : List D} {Dom : D → Prop} {fo : D → D → D} {fi : D → Bool} {B : Nat} (hst : seqD S st = some xs) (hi : S[a]? = some (.clo i ds)) (hj : S[b]? = some (.clo j es)) (har : T.ar i = 2) (har2 : T.ar j = 1)
    (fol : Fol S (F (k + 3) (1000 + i)) ds Dom ys fo) (tst : Tst S (F (k + 3) (1000 + j)) es Dom fi) (hB : ∀ U : List D, U.Nodup → (∀ x ∈ U, Dom x) → U.length ≤ B) (hB9 : B ≤ 50000) (hth : ∀ x, Dom x → Th 6 x) (hx : ∀ x ∈ xs, Dom x) (lys : ys.length ≤ 100) (lxs : xs.length ≤ 1000) :
    Ow (F (k + 4) T.imade [sa, .tup ys, st, .loc a, .loc b] S) fun r => Gr S r.2 ∧ ∃ U : List D, r.1 = tabD fo fi sa ys xs U ∧ U.Nodup ∧ (∀ x ∈ U, Dom x) ∧ (∀ x ∈ xs, x ∈ U) ∧ (∀ x ∈ U, ∀ y ∈ ys, fo x y ∈ U) ∧ Met fo ys 0 (insA [] xs) U := by
  rw [G.emade (k + 1), ow_runB]
  unfold bmade
  rw [show (sWhile (bV (m2 ltP (mL lenQ (lCons (mVar 7) lNil)) (mL lenQ (lCons (mFld T.fthings "things" (mVar 5)) lNil)))) (sSeq (sAsg (m2 ixQ (mFld T.fthings "things" (mVar 5)) (mL lenQ (lCons (mVar 7) lNil))) (gVar 8)) (sExpr (mM "list" appP (mVar 7) (lCons (mL tupleP (lCons (mLc (iSeq (mVar 1)) [12] (.nm 12) bYes (mMeth "of" T.mof (F (k + 1 + 2)) (mVar 5) (lCons (mClo 3 T.ar (F (k + 1 + 2)) (lCons (mVar 8) (lCons (mVar 12) lNil))) lNil))) lNil)) lNil))))) = madeW T (F (k + 1 + 2)) from rfl]
  rw [ow_seq]
  simp [-ow_seq]
  refine (ninit_ok G K k).imp ?_
  rintro ⟨d0, S1⟩ ⟨rfl, g1, n1, l1⟩
  dsimp only at g1 n1 l1
  simp [-ow_seq, asN]
  rw [ow_seq]
  simp [-ow_seq, ow_lc]
  have hs1 : ∀ S', OffS [S.length + 1, S.length + 2] S1 S' → seqD S' st = some xs := fun S' o => (OffS.grow g1 o (by intro j hj; simp at hj; omega)).seq hst
  refine ⟨by rw [g1.seq hst]; rfl, ?_⟩
  refine (ofs_ok G K (k + 2) (v := 11) (f := id) (by rfl) (by decide) n1 List.nodup_nil hs1 lxs (by simp) (fun x hx' => hth _ (hx _ hx')) fun x _ S2 o => by simp [Gr.refl]).imp ?_
  rintro ⟨rs, S2⟩ ⟨rfl, n2, o2⟩
  dsimp only at n2 o2 ⊢
  rw [List.map_id] at n2 ⊢
  rw [tuple_lst get_snoc]
  simp only [ow_some]
  have g2 : Gr S S2 := OffS.grow g1 o2 (by intro j hj; simp at hj; omega)
  have d2 : ∀ x ∈ insA [] xs, Dom x := fun x h => by
    rcases mem_insA.mp h with h | h
    · cases h
    · exact hx x h
  have q2 : S.length + 2 < S2.length := n2.lt
  rw [ow_seq]
  simp [-ow_seq, lst_ok]
  rw [ow_seq]
  refine (madeW_ok G K (k + 2) (sa := sa) (st := st) (ys := ys) (a := a) (b := b) (q := S.length) (l := S2.length + 1) (fst := .tup (nms (insA [] xs) xs)) hi har fol hB hB9 hth lys (Nat.le_refl _) (by have := g2.len; omega) (by omega) (env := [some sa, some (.tup ys), some st, some (.loc a), some (.loc b), some (.loc S.length), some (.tup (nms (insA [] xs) xs)), some (.loc (S2.length + 1)), none, none, none, none, none]) (S := S2 ++ [.lst (nms (insA [] xs) xs), .lst []]) ⟨rfl, rfl, rfl, rfl, rfl, rfl, rfl, rfl, rfl⟩ (g2.trans .app) (n2.gr .app) (insA_nodup List.nodup_nil) d2 (by simp)).imp ?_
  rintro ⟨fl, env, S3⟩ ⟨rfl, U, me, g3, n3, nd3, pre, dm, met, hmv, cl⟩
  dsimp only at me g3 n3 hmv ⊢
  rw [ow_seq]
  simp only [ow_asg, ow_mL, ow_cons, ow_nil, ow_lc, ow_iEnmA, ow_mFld, ow_var, me.e5, Option.some.injEq]
  refine ⟨_, rfl, ?_⟩
  rw [n3.things K]
  simp only [ow_some, enmD, seq_loc n3.2.ls, Option.isSome_some, true_and]
  refine (fins_ok (by rw [me.len]; decide) me.e4 (g3.get hj) n3.2.ls (by have := hB U nd3 dm; omega) har2 dm fun S4 g4 x hx' => tst S4 (g3.trans g4) x hx').imp ?_
  rintro ⟨fs, S4⟩ ⟨rfl, g4⟩
  dsimp only at g4 ⊢
  rw [tuple_lst get_snoc]
  simp only [ow_some, ow_gVar]
  have e9 : (env.set 9 (some (.tup (finD fi U))))[9]? = some (some (.tup (finD fi U))) := List.getElem?_set_self (by rw [me.len]; decide)
  have me2 := me.set (i := 9) (d := some (.tup (finD fi U))) (by omega)
  simp only [ow_ret, ow_mL, ow_cons, ow_var, me2.e0, me2.e1, me2.e6, me2.e7, e9, Option.some.injEq, ow_nil]
  refine ⟨_, rfl, _, rfl, _, rfl, _, rfl, ?_⟩
  rw [tuple_lst (get_app (g4.get hmv))]
  simp only [ow_some]
  refine ⟨_, rfl, ?_⟩
  rw [tup_ok (by simp)]
  simp only [ow_some]
  refine ⟨g3.trans (g4.trans .app), U, ?_, nd3, dm, fun x hx' => pre.subset (mem_insA.mpr (.inr hx')), cl, met⟩
  unfold tabD
  rw [nms_pre nd3 pre fun x hx' => mem_insA.mpr (.inr hx')]
end
end tb
end DL
set_option maxHeartbeats 2000000
namespace DL
namespace tb
open PySem
structure WyK (T : TbP) (F : Nat → Nat → FM) (iFr iAf iAd : Nat) : Prop where
  fr : T.mfreely.lookup T.cWays = some iFr
  af : T.mafter.lookup T.cWays = some iAf
  efr : ∀ k, F (k + 1) iFr = runB 6 (freelyB T.cWays iAf (F k))
  eaf : ∀ k, F (k + 1) iAf = runB 6 (afterB T.cWays)
  ein : ∀ k, F (k + 1) T.iWays___init__ = runB 3 (initB T.cWays iAd (F k))
  ead : ∀ k, F (k + 1) iAd = runB 5 (addB T.cWays)
  erk : ∀ k, F (k + 1) T.irank = runB 2 (rankB (F k T.irank))
  a0 : T.ar T.ltable_of_0 = 2
  a1 : T.ar T.ltable_of_1 = 1
structure NdOk (V : List D) : Prop where
  th : ∀ v ∈ V, Th 4 v
  nd : V.Nodup
  len : V.length ≤ 12
section
open Classical
noncomputable def clD (V : List D) (E : List Ed) (xs : List D) : D := .tup (ordD (V.filter fun y => decide (∃ x ∈ xs, Fr E x y)))
def unT : D → List D
  | .tup ds => ds
  | _ => []
noncomputable def foD (V : List D) (E : List Ed) (x s : D) : D := clD V E (V.filter fun y => decide (∃ z ∈ unT x, (z, s, y) ∈ E))
noncomputable def fiD (fin : List D) (x : D) : Bool := (unT x).any fun z => decide (z ∈ fin)
noncomputable def subs : List D → List (List D)
  | [] => [[]]
  | v :: vs => subs vs ++ (subs vs).map (v :: ·)
theorem subs_len : ∀ {V : List D}, (subs V).length = 2 ^ V.length
  | [] => rfl
  | v :: vs => by simp [subs, subs_len (V := vs), Nat.pow_succ]; omega
theorem filter_subs {p : D → Bool} : ∀ {V : List D}, V.filter p ∈ subs V
  | [] => by simp [subs]
  | v :: vs => by
    have := filter_subs (p := p) (V := vs)
    rw [List.filter_cons]
    split
    · exact List.mem_append_right _ (List.mem_map.mpr ⟨_, this, rfl⟩)
    · exact List.mem_append_left _ this
end
def DomD (V : List D) (x : D) : Prop := ∃ zs ∈ subs V, x = .tup (ordD zs)
theorem subs_sub : ∀ {V zs : List D}, zs ∈ subs V → zs.Sublist V
  | [], zs, h => by simp [subs] at h; subst h; exact List.Sublist.refl _
  | v :: vs, zs, h => by
    rcases List.mem_append.mp h with h | h
    · exact (subs_sub h).trans (List.sublist_cons_self _ _)
    · obtain ⟨ws, hw, rfl⟩ := List.mem_map.mp h
      exact (subs_sub hw).cons_cons v
theorem dom_len {V : List D} : ∀ U : List D, U.Nodup → (∀ x ∈ U, DomD V x) → U.length ≤ 2 ^ V.length := fun U nd h => by
  have : U.length ≤ ((subs V).map fun zs => D.tup (ordD zs)).length := len_sub nd fun x hx => by
    obtain ⟨zs, hz, rfl⟩ := h x hx
    exact List.mem_map.mpr ⟨zs, hz, rfl⟩
  simpa [subs_len] using this
theorem clD_dom {V : List D} {E : List Ed} {xs : List D} : DomD V (clD V E xs) := ⟨_, filter_subs, rfl⟩
theorem dom_mem {V zs : List D} {x : D} (h : zs ∈ subs V) : ∀ z ∈ ordD zs, z ∈ V := fun z hz => (subs_sub h).subset (ord_perm.subset hz)
theorem dom_th {V : List D} (hV : NdOk V) {x : D} (h : DomD V x) : Th 6 x := by
  obtain ⟨zs, hz, rfl⟩ := h
  refine Th.mono (n := 5) (.tup ?_ fun d hd => hV.th d (dom_mem (x := .non) hz d hd)) (by decide)
  have h1 := (subs_sub hz).length_le
  have h2 := ord_perm (xs := zs).length_eq
  have := hV.len
  omega
theorem fr_in {V : List D} {E : List Ed} (hE : ∀ e ∈ E, e.2.2 ∈ V) {x y : D} (h : Fr E x y) (hx : x ∈ V) : y ∈ V := fr_good (P := fun z => z ∈ V) hE h hx
section
variable {T : TbP} {F : Nat → Nat → FM} {iFr iAf iAd : Nat} (G : TbPF T F) (K : TbK T F) (Y : WyK T F iFr iAf iAd)
include G Y in
theorem closed_ok (k : Nat) {V : List D} (hV : NdOk V) {S : Sto} {n : Nat} {E : List Ed} {Fp : Nat → Prop} (w : WAt T.cWays S n E Fp) (tE : EdT 4 E) (hE : ∀ e ∈ E, e.2.2 ∈ V) (lE : E.length ≤ 300) {d : D} {xs : List D} (hd : seqD S d = some xs) (hx : ∀ x ∈ xs, x ∈ V) (lx : xs.length ≤ 300) :
    Ow (F (k + 9) T.iclosed [.loc n, d] S) fun r => r.1 = clD V E xs ∧ Gr S r.2 := by
  classical
  rw [G.eclosed (k + 6), ow_runB]
  unfold bclosed
  have m1 := meth_at (m := "freely") (cands := T.mfreely) w (by decide) (by decide) Y.fr
  simp only [List.map_cons, List.map_nil, List.length_cons, List.length_nil, ow_ret, ow_mL, ow_cons, ow_nil, ow_sortK, ow_mMeth]
  simp [m1]
  rw [Y.efr (k + 6 + 1)]
  refine (freely_ok w tE.dep lE (Y.eaf _) hd (fun x h => ⟨(hV.th x (hx x h)).nb, Nat.le_trans (hV.th x (hx x h)).depth (by decide)⟩) lx).imp ?_
  rintro ⟨y, S1⟩ ⟨ys, U, rfl, rfl, nd, hy⟩
  dsimp only
  have hyV : ∀ y ∈ ys, y ∈ V := fun y h => by
    obtain ⟨x, h1, h2⟩ := (hy y).mp h
    exact fr_in hE h2 (hx x h1)
  have rk : RankOk (F (k + 6) T.irank) 4 := rankB_ok (r := fun k => F k T.irank) Y.erk 4 (k + 6) (by omega)
  refine (sort_ok rk (by decide) (l := S.length + U.length) (by simp) fun y h => hV.th y (hyV y h)).imp ?_
  rintro ⟨z, S2⟩ ⟨r, rfl, g, h1, _⟩
  dsimp only at g h1 ⊢
  rw [tuple_lst h1]
  simp only [ow_some]
  refine ⟨?_, Gr.trans ⟨_, rfl⟩ g⟩
  unfold clD
  rw [ord_set (n := 4) (fun y h => hV.th y (hyV y h)) nd (hV.nd.filter _) fun y => ?_]
  rw [List.mem_filter, decide_eq_true_eq, hy]
  exact ⟨fun h => ⟨hyV y ((hy y).mpr h), h⟩, fun h => h.2⟩
theorem wat_mask {c n : Nat} {S : Sto} {E : List Ed} {Fp : Nat → Prop} (w : WAt c S n E Fp) : WAt c (maskS S) n E Fp := by
  obtain ⟨nb, nd, e, t, kvs, h1, h2, h3, h4, h5, h6, h7, h8, h9, h9', h10, h11⟩ := w
  refine ⟨nb, nd, e, t, kvs, mask_get h1 rfl, mask_get h2 rfl, mask_get h3 rfl, h4, h5, h6, h7, h8, h9, h9', fun x s hx hs => ?_, h11⟩
  have := h10 x s hx hs
  split
  · rename_i q
    rw [q] at this
    exact this
  · rename_i d q
    rw [q] at this
    obtain ⟨l, r1, r2, r3⟩ := this
    exact ⟨l, r1, r2, mask_get r3 rfl⟩
include G Y in
theorem fol_ok (k : Nat) {V : List D} (hV : NdOk V) {S : Sto} {n : Nat} {E : List Ed} {Fp : Nat → Prop} (w : WAt T.cWays S n E Fp) (tE : EdT 4 E) (hE : ∀ e ∈ E, e.2.2 ∈ V) (lE : E.length ≤ 300) {ys : List D} (hy : ∀ y ∈ ys, Th 4 y) :
    Fol S (F (k + 10) (1000 + T.ltable_of_0)) [.loc n] (DomD V) ys (foD V E) := by
  classical
  refine ⟨fun S1 g x s hx hs => ?_, fun x s hx hs => clD_dom⟩
  obtain ⟨zs, hz, rfl⟩ := hx
  obtain ⟨S2, rfl⟩ := g
  have w1 : WAt T.cWays (maskS (S ++ S2)) n E Fp := wat_mask (w.app S2)
  rw [G.etable_of_0]
  show Ow (runE 3 3 (bl_table_of_0 T (F (k + 9))) [.tup (ordD zs), s, .loc n] (maskS (S ++ S2))) _
  unfold runE bl_table_of_0
  simp only [List.length_cons, List.length_nil, if_true, List.map_cons, List.map_nil, Nat.sub_self, List.replicate_zero, List.append_nil]
  have m1 := meth_at (m := "after") (cands := T.mafter) w1 (by decide) (by decide) Y.af
  simp [m1]
  rw [Y.eaf (k + 8)]
  have hm : ∀ z ∈ ordD zs, z ∈ V := dom_mem (x := .non) hz
  refine (after_ok w1 tE.dep (d := .tup (ordD zs)) rfl (fun x h => ⟨(hV.th x (hm x h)).nb, Nat.le_trans (hV.th x (hm x h)).depth (by decide)⟩) (hy s hs).nb (Nat.le_trans (hy s hs).depth (by decide))).imp ?_
  rintro ⟨y, S3⟩ ⟨as, U, rfl, rfl, nd, ha⟩
  dsimp only
  have haV : ∀ y ∈ as, y ∈ V := fun y h => by
    obtain ⟨x, _, h2⟩ := (ha y).mp h
    exact hE _ h2
  have w2 := w1.app (U ++ [.lst as])
  have las : as.length ≤ 300 := by
    have := len_sub nd haV
    have := hV.len
    omega
  refine (closed_ok G Y k hV w2 tE hE lE (d := .loc ((maskS (S ++ S2)).length + U.length)) (xs := as) (by simp [seqD]) haV las).imp ?_
  rintro ⟨z, S4⟩ ⟨rfl, g4⟩
  dsimp only at g4 ⊢
  refine ⟨?_, Gr.trans .app g4⟩
  unfold foD clD unT
  congr 2
  refine List.filter_congr fun y _ => ?_
  rw [decide_eq_decide]
  constructor
  · rintro ⟨a, h1, h2⟩
    exact ⟨a, List.mem_filter.mpr ⟨haV a h1, by simpa using (ha a).mp h1⟩, h2⟩
  · rintro ⟨a, h1, h2⟩
    exact ⟨a, (ha a).mpr (by simpa using (List.mem_filter.mp h1).2), h2⟩
include G Y in
theorem tst_ok (k : Nat) {V : List D} (hV : NdOk V) {S : Sto} {fin : List D} (hf : ∀ x ∈ fin, Th 4 x) : Tst S (F (k + 1) (1000 + T.ltable_of_1)) [.tup fin] (DomD V) (fiD fin) := by
  classical
  intro S1 g x hx
  obtain ⟨zs, hz, rfl⟩ := hx
  have hm : ∀ z ∈ ordD zs, z ∈ V := dom_mem (x := .non) hz
  rw [G.etable_of_1]
  show Ow (runE 2 3 (bl_table_of_1 T (F k)) [.tup (ordD zs), .tup fin] (maskS S1)) _
  unfold runE bl_table_of_1
  have lz : (ordD zs).length ≤ 1000000 := by
    have h1 := (subs_sub hz).length_le
    have h2 := ord_perm (xs := zs).length_eq
    have := hV.len
    omega
  simp [ow_lc]
  refine ⟨rfl, ?_⟩
  refine (lcG (d := .tup (ordD zs)) (its := ordD zs) (vs := [2]) (t := .nm 2) (env := [some (.tup (ordD zs)), some (.tup fin), none]) rfl lz (fun _ => true) (fun z => .bl (decide (z ∈ fin))) fun z hz => ⟨[some (.tup (ordD zs)), some (.tup fin), some z], rfl, fun S2 _ => ?_⟩).imp ?_
  · simp only [bYes, ow_some]
    refine ⟨trivial, .refl, fun _ => ?_⟩
    simp
    rw [in_ths (hV.th z (hm z hz)) (l := fin) rfl hf (by decide) (by decide)]
    simp only [ow_some]
    exact ⟨trivial, .refl⟩
  · rintro ⟨bs, S2⟩ ⟨rfl, g2⟩
    dsimp only at g2 ⊢
    rw [any_loc (f := fun z => decide (z ∈ fin)) (xs := ordD zs) (by rw [List.filter_eq_self.mpr fun _ _ => rfl]; exact get_snoc)]
    simp only [ow_some]
    exact ⟨rfl, g2.trans .app⟩
include G K Y in
theorem table_ok (k : Nat) {V : List D} (hV : NdOk V) {S : Sto} {E : List Ed} {fin sts ys : List D} (tE : EdT 4 E) (nE : E.Nodup) (hE : ∀ e ∈ E, e.2.2 ∈ V) (lE : E.length ≤ 300) (hf : ∀ x ∈ fin, Th 4 x) (hs : ∀ x ∈ sts, x ∈ V) (ls : sts.length ≤ 300) (hy : ∀ y ∈ ys, Th 4 y) (ly : ys.length ≤ 100) :
    Ow (F (k + 12) T.itable_of [.tup [.tup (E.map enc), .tup fin], .tup sts, .tup ys] S) fun r => Gr S r.2 ∧ ∃ U : List D, r.1 = tabD (foD V E) (fiD fin) (.tup sts) ys (sts.map fun s => clD V E [s]) U ∧ U.Nodup ∧ (∀ x ∈ U, DomD V x) ∧
      (∀ x ∈ sts.map fun s => clD V E [s], x ∈ U) ∧ (∀ x ∈ U, ∀ y ∈ ys, foD V E x y ∈ U) ∧ Met (foD V E) ys 0 (insA [] (sts.map fun s => clD V E [s])) U := by
  rw [G.etable_of (k + 9), ow_runB]
  unfold btable_of
  rw [ow_seq]
  simp [-ow_seq]
  rw [ow_seq]
  simp [-ow_seq]
  rw [Y.ein (k + 8)]
  refine (init_ok (Y.ead _) tE nE lE).imp ?_
  rintro ⟨d0, S1⟩ ⟨rfl, g1, w⟩
  dsimp only at g1 w
  simp [-ow_seq, asN, ow_mk, ow_lc, seqD]
  refine (lcG (d := .tup sts) rfl (by omega) (fun _ => true) (fun s => clD V E [s]) fun s hs' => ⟨[some (.tup [.tup (E.map enc), .tup fin]), some (.tup sts), some (.tup ys), some (.tup (E.map enc)), some (.tup fin), some (.loc S.length), some s], rfl, fun S2 g2 => ?_⟩).imp ?_
  · simp only [bYes, ow_some]
    refine ⟨trivial, .refl, fun _ => ?_⟩
    simp [lst_ok]
    have w2 : WAt T.cWays (S2 ++ [.lst [s]]) S.length E _ := (w.gr g2).app _
    refine (closed_ok G Y (k + 2) hV w2 tE hE lE (d := .loc S2.length) (xs := [s]) (by simp [seqD]) (fun x h => by rw [List.mem_singleton.mp h]; exact hs s hs') (by simp)).imp ?_
    rintro ⟨z, S3⟩ ⟨rfl, g3⟩
    exact ⟨rfl, Gr.trans .app g3⟩
  · rintro ⟨bs, S2⟩ ⟨rfl, g2⟩
    dsimp only at g2 ⊢
    rw [List.filter_eq_self.mpr fun _ _ => rfl]
    simp only [slotsD, List.getElem?_cons_succ, List.getElem?_cons_zero, ow_some, argD, cloS, List.length_append, List.length_cons, List.length_nil]
    have g3 : Gr S (S2 ++ [.lst (sts.map fun s => clD V E [s])]) := g1.trans (g2.trans .app)
    have w3 : WAt T.cWays (S2 ++ [.lst (sts.map fun s => clD V E [s]), .clo T.ltable_of_0 [.loc S.length], .clo T.ltable_of_1 [.tup fin]]) S.length E _ := (w.gr g2).app _
    refine (made_ok G K (k + 7) (sa := .tup sts) (S := S2 ++ [.lst (sts.map fun s => clD V E [s]), .clo T.ltable_of_0 [.loc S.length], .clo T.ltable_of_1 [.tup fin]]) (st := .loc S2.length) (xs := sts.map fun s => clD V E [s]) (a := S2.length + 1) (b := S2.length + 1 + 1) (Dom := DomD V) (fo := foD V E) (fi := fiD fin) (B := 2 ^ V.length) ?_ ?_ ?_ Y.a0 Y.a1 (fol_ok G Y k hV w3 tE hE lE hy) (tst_ok G Y (k + 9) hV hf) dom_len ?_ (fun x h => dom_th hV h) ?_ ly (by simpa using (by omega : sts.length ≤ 1000))).imp ?_
    · simp [seqD]
    · simp
    · rw [List.getElem?_append_right (by omega), show S2.length + 1 + 1 - S2.length = 2 by omega]
      rfl
    · have : 2 ^ V.length ≤ 2 ^ 12 := Nat.pow_le_pow_right (by decide) hV.len
      omega
    · intro x h
      obtain ⟨s, _, rfl⟩ := List.mem_map.mp h
      exact clD_dom
    · rintro ⟨z, S4⟩ ⟨g4, U, h1, h2, h3, h5, h6, h7⟩
      dsimp only at g4 h1 ⊢
      refine ⟨?_, U, h1, h2, h3, fun a ha => h5 _ (List.mem_map.mpr ⟨a, ha, rfl⟩), h6, h7⟩
      refine g3.trans ?_
      have g5 : Gr (S2 ++ [.lst (sts.map fun s => clD V E [s])]) (S2 ++ [.lst (sts.map fun s => clD V E [s]), .clo T.ltable_of_0 [.loc S.length], .clo T.ltable_of_1 [.tup fin]]) := ⟨[.clo T.ltable_of_0 [.loc S.length], .clo T.ltable_of_1 [.tup fin]], by simp⟩
      have := kill_gr (S := S2 ++ [.lst (sts.map fun s => clD V E [s])]) (k := 2) (g5.trans g4)
      simpa using this
end
end tb
end DL
set_option maxHeartbeats 2000000
namespace DL
namespace tb
open PySem
def iD (n : Nat) : D := .int (n : Nat)
theorem iD_inj {a b : Nat} : iD a = iD b ↔ a = b := by
  unfold iD
  rw [D.int.injEq]
  omega
theorem mem_iD {v : Nat} {l : List Nat} : iD v ∈ l.map iD ↔ v ∈ l := by
  rw [List.mem_map]
  exact ⟨fun ⟨q, h1, h2⟩ => iD_inj.mp h2 ▸ h1, fun h => ⟨v, h, rfl⟩⟩
theorem iD_th {n v : Nat} : Th n (iD v) := .int
theorem iDs_th {n : Nat} {l : List Nat} : ∀ d ∈ l.map iD, Th n d := fun d h => by
  obtain ⟨v, _, rfl⟩ := List.mem_map.mp h
  exact iD_th
structure NT where
  sts : List D
  ys : List D
  st : List Nat
  mv : List (List Nat)
  fn : List Nat
noncomputable def NT.enc (t : NT) : D := .tup [.tup t.sts, .tup t.ys, .tup (t.st.map iD), .tup (t.mv.map fun r => .tup (r.map iD)), .tup (t.fn.map iD)]
def NT.row (t : NT) (v : Nat) : List Nat := t.mv.getD v []
noncomputable def NT.nx (t : NT) (v : Nat) (s : D) : Nat := (t.row v).getD (num t.ys s) 0
noncomputable def NT.go (t : NT) (v : Nat) (w : List D) : Nat := w.foldl t.nx v
noncomputable def NT.sv (t : NT) (p : D) : Nat := t.st.getD (num t.sts p) 0
structure NT.Ok (t : NT) : Prop where
  ts : ∀ s ∈ t.sts, Th 4 s
  ty : ∀ y ∈ t.ys, Th 4 y
  nds : t.sts.Nodup
  ndy : t.ys.Nodup
  ls : t.st.length = t.sts.length
  l3 : t.sts.length ≤ 300
  ly : t.ys.length ≤ 100
  row : ∀ r ∈ t.mv, r.length = t.ys.length ∧ ∀ v ∈ r, v < t.mv.length
  st : ∀ v ∈ t.st, v < t.mv.length
  lm : t.mv.length ≤ 50000
  fnd : t.fn.Nodup
  fn : ∀ v ∈ t.fn, v < t.mv.length
section
variable {t : NT}
theorem NT.Ok.at (h : t.Ok) {v : Nat} (hv : v < t.mv.length) : t.mv[v]? = some (t.row v) := by
  unfold NT.row
  rw [List.getD_eq_getElem?_getD, List.getElem?_eq_getElem hv]
  rfl
theorem NT.Ok.rl (h : t.Ok) {v : Nat} (hv : v < t.mv.length) : (t.row v).length = t.ys.length ∧ ∀ u ∈ t.row v, u < t.mv.length := h.row _ (List.mem_of_getElem? (h.at hv))
theorem NT.Ok.nxt (h : t.Ok) {v : Nat} (hv : v < t.mv.length) {s : D} (hs : s ∈ t.ys) : (t.row v)[num t.ys s]? = some (t.nx v s) ∧ t.nx v s < t.mv.length := by
  obtain ⟨h1, h2⟩ := h.rl hv
  have hn : num t.ys s < (t.row v).length := by rw [h1]; exact num_lt hs
  unfold NT.nx
  rw [List.getD_eq_getElem?_getD, List.getElem?_eq_getElem hn]
  exact ⟨rfl, h2 _ (List.getElem_mem hn)⟩
theorem NT.Ok.go (h : t.Ok) : ∀ {w : List D} {v : Nat}, v < t.mv.length → (∀ s ∈ w, s ∈ t.ys) → t.go v w < t.mv.length
  | [], v, hv, _ => hv
  | s :: w, v, hv, hw => NT.Ok.go h (w := w) (h.nxt hv (hw s List.mem_cons_self)).2 fun s hs => hw s (List.mem_cons_of_mem _ hs)
theorem NT.go_snoc {v : Nat} {w : List D} {s : D} : t.go v (w ++ [s]) = t.nx (t.go v w) s := by simp [NT.go]
theorem NT.Ok.sv' (h : t.Ok) {p : D} (hp : p ∈ t.sts) : t.st[num t.sts p]? = some (t.sv p) ∧ t.sv p < t.mv.length := by
  have hn : num t.sts p < t.st.length := by rw [h.ls]; exact num_lt hp
  unfold NT.sv
  rw [List.getD_eq_getElem?_getD, List.getElem?_eq_getElem hn]
  exact ⟨rfl, h.st _ (List.getElem_mem hn)⟩
theorem NT.Ok.lf (h : t.Ok) : t.fn.length ≤ 50000 := by
  have : (t.fn.map iD).length ≤ ((List.range t.mv.length).map iD).length := len_sub (List.Pairwise.map _ (fun a b hn e => hn (iD_inj.mp e)) h.fnd) fun x hx => by
    obtain ⟨v, hv, rfl⟩ := List.mem_map.mp hx
    exact List.mem_map.mpr ⟨v, List.mem_range.mpr (h.fn v hv), rfl⟩
  simp at this
  have := h.lm
  omega
end
theorem first_num {n m : Nat} {d : D} (hd : Th n d) : ∀ {ds : List D} (k : Nat), (∀ z ∈ ds, Th m z) → d ∈ ds → firstIx d ds k = some (k + num ds d)
  | z :: ds, k, h, hm => by
    unfold firstIx num
    rw [List.findIdx_cons, Th.eqv (h z List.mem_cons_self) hd]
    by_cases e : z = d
    · subst e
      simp
    · have hm' : d ∈ ds := (List.mem_cons.mp hm).resolve_left fun z => e z.symm
      have ih := first_num hd (ds := ds) (k + 1) (fun z hz => h z (List.mem_cons_of_mem _ hz)) hm'
      simp only [e, decide_false, cond_false]
      rw [if_neg (by simp), ih]
      unfold num
      congr 1
      omega
theorem ths_shaped {m : Nat} {ds : List D} (h : ∀ z ∈ ds, Th m z) (hm : m ≤ 60) : D.pures ds = true ∧ SeqAt.shaped (.list (D.pys ds)) = true := by
  obtain ⟨h1, h2, h3⟩ := ths_pure h
  refine ⟨h1, ?_⟩
  simp only [SeqAt.shaped, PyData.canLay0, PyData.depth, h2, Bool.true_and]
  exact decide_eq_true (by omega)
theorem idx_tup {n m : Nat} {d : D} {ds : List D} {S : Sto} (hd : Th n d) (h : ∀ z ∈ ds, Th m z) (hn : n ≤ 60) (hm : m ≤ 60) (hmem : d ∈ ds) : idxP (.tup ds) [d] S = some (iD (num ds d), S) := by
  obtain ⟨h1, h2⟩ := ths_shaped h hm
  simp only [idxP, hd.pure.1, h1, hd.shaped (by omega), h2, and_self, if_true, first_num hd 0 h hmem, Nat.zero_add]
  rfl
theorem ix_tupN {l : List D} {i : Nat} {x : D} {S : Sto} (h : l[i]? = some x) : ixQ (.tup l) (iD i) S = some (x, S) := by
  have hl : i < l.length := (List.getElem?_eq_some_iff.mp h).1
  unfold iD
  simp only [ixQ, dctD, lckD, ixP, L2.atI, L2.ixN]
  rw [if_pos (show (0 : Int) ≤ (i : Nat) by omega), if_pos (show ((i : Nat) : Int) < (l.length : Int) by omega)]
  simp [h]
theorem ix_row {t : NT} (h : t.Ok) {v : Nat} (hv : v < t.mv.length) {S : Sto} : ixQ (.tup (t.mv.map fun r => .tup (r.map iD))) (iD v) S = some (.tup ((t.row v).map iD), S) := ix_tupN (by rw [List.getElem?_map, h.at hv]; rfl)
section
variable {T : TbP} {F : Nat → Nat → FM} (G : TbPF T F)
include G
theorem has_ok (k : Nat) {t : NT} (ht : t.Ok) {p : D} {w : List D} {S : Sto} (hp : Th 4 p) (hw : ∀ s ∈ w, Th 4 s) (lw : w.length ≤ 1000) :
    Ow (F (k + 1) T.ihas [t.enc, .tup [p, .tup w]] S) fun r => r.1 = .bl (decide (p ∈ t.sts ∧ (∀ s ∈ w, s ∈ t.ys) ∧ t.go (t.sv p) w ∈ t.fn)) ∧ Gr S r.2 := by
  classical
  rw [G.ehas, ow_runB]
  unfold bhas NT.enc
  rw [ow_seq]
  simp [-ow_seq]
  rw [ow_seq]
  simp [-ow_seq]
  rw [ow_seq]
  simp [-ow_seq]
  rw [notIn_ths hp (l := t.sts) rfl ht.ts (by decide) (by decide)]
  simp only [ow_some, asB_bl]
  by_cases hps : p ∈ t.sts
  · simp [-ow_seq, hps, ow_lc]
    refine ⟨rfl, ?_⟩
    refine (lcG (d := .tup w) (its := w) (vs := [10]) (t := .nm 10) (env := [some t.enc, some (.tup [p, .tup w]), some (.tup t.sts), some (.tup t.ys), some (.tup (t.st.map iD)), some (.tup (t.mv.map fun r => .tup (r.map iD))), some (.tup (t.fn.map iD)), some p, some (.tup w), none, none]) rfl (by omega) (fun _ => true) (fun s => .bl (decide (s ∈ t.ys))) fun s hs => ⟨_, rfl, fun S2 _ => ?_⟩).imp ?_
    · simp only [bYes, ow_some]
      refine ⟨trivial, .refl, fun _ => ?_⟩
      simp [wipeD]
      rw [in_ths (hw s hs) (l := t.ys) rfl ht.ty (by decide) (by decide)]
      simp only [ow_some]
      exact ⟨trivial, .refl⟩
    · rintro ⟨bs, S2⟩ ⟨rfl, g2⟩
      dsimp only at g2 ⊢
      rw [all_loc (f := fun s => decide (s ∈ t.ys)) (xs := w) (by rw [List.filter_eq_self.mpr fun _ _ => rfl]; exact get_snoc)]
      simp only [ow_some, truD]
      by_cases hws : ∀ s ∈ w, s ∈ t.ys
      · have e1 : (w.all fun s => decide (s ∈ t.ys)) = true := by simpa using hws
        simp only [e1, Bool.not_true, if_false, ow_next]
        obtain ⟨s1, s2⟩ := ht.sv' hps
        rw [ow_seq]
        simp [-ow_seq, ow_mIdxT]
        rw [idx_tup hp ht.ts (by decide) (by decide) hps]
        simp only [ow_some]
        rw [ix_tupN (x := iD (t.sv p)) (by rw [List.getElem?_map, s1]; rfl)]
        simp only [ow_some]
        rw [ow_seq, ow_for]
        simp [-ow_seq]
        refine ⟨rfl, ?_⟩
        refine (forL_inv w (fun j env S3 => (∃ o10, env = [some t.enc, some (.tup [p, .tup w]), some (.tup t.sts), some (.tup t.ys), some (.tup (t.st.map iD)), some (.tup (t.mv.map fun r => .tup (r.map iD))), some (.tup (t.fn.map iD)), some p, some (.tup w), some (iD (t.go (t.sv p) (w.take j))), o10]) ∧ Gr S S3)
          (fun x => x.1 = .nx ∧ (∃ o10, x.2.1 = [some t.enc, some (.tup [p, .tup w]), some (.tup t.sts), some (.tup t.ys), some (.tup (t.st.map iD)), some (.tup (t.mv.map fun r => .tup (r.map iD))), some (.tup (t.fn.map iD)), some p, some (.tup w), some (iD (t.go (t.sv p) w)), o10]) ∧ Gr S x.2.2) (fun j env S3 _ => rfl) (fun env S3 ⟨⟨o10, e⟩, g⟩ => ⟨rfl, ⟨o10, by rw [e, List.take_length]⟩, g⟩) (fun j s env S3 hj ⟨⟨o10, e⟩, g⟩ => ?_) w.length 0 _ _ (by omega) (by omega) ⟨⟨none, rfl⟩, g2.trans .app⟩).imp ?_
        · subst e
          have hsw := List.mem_of_getElem? hj
          have hv : t.go (t.sv p) (w.take j) < t.mv.length := ht.go s2 fun s hs => hws s (List.mem_of_mem_take hs)
          simp [ow_mIdxT]
          rw [ix_row ht hv]
          simp only [ow_some]
          rw [idx_tup (hw s hsw) ht.ty (by decide) (by decide) (hws s hsw)]
          simp only [ow_some]
          rw [ix_tupN (x := iD (t.nx (t.go (t.sv p) (w.take j)) s)) (by rw [List.getElem?_map, (ht.nxt hv (hws s hsw)).1]; rfl)]
          simp only [ow_some]
          refine ⟨?_, g⟩
          rw [List.take_add_one, hj]
          simp [NT.go_snoc]
        · rintro ⟨fl, env, S3⟩ ⟨rfl, ⟨o10, rfl⟩, g⟩
          dsimp only at g ⊢
          simp
          rw [in_ths iD_th (n := 0) (m := 0) (l := t.fn.map iD) rfl iDs_th (by decide) (by decide)]
          simp only [ow_some]
          refine ⟨?_, g⟩
          simp [mem_iD]
          exact fun _ => hws
      · have e1 : (w.all fun s => decide (s ∈ t.ys)) = false := by
          rw [Bool.eq_false_iff]
          exact fun h => hws (by simpa using h)
        simp only [e1, Bool.not_false, if_true]
        simp
        exact ⟨fun h => absurd h hws, g2.trans .app⟩
  · simp [hps]
    exact .refl
end
end tb
end DL
set_option maxHeartbeats 2000000
namespace DL
namespace tb
open PySem
structure CtP where
  iways_to_end : Nat
  icount : Nat
  iplace_of : Nat
  ipick : Nat
  iconfiguration_at : Nat
noncomputable def bways_to_end (P : CtP) (cl : Nat → FM) : SM := (sSeq (sAsg (mVar 0) (gTupD 5 (gsCons (gVar 2) (gsCons (gVar 2) (gsCons (gVar 2) (gsCons (gVar 3) (gsCons (gVar 4) gsNil))))))) (sSeq (sAsg (mL lstP (lCons (mLc (iRng1M (mL lenQ (lCons (mVar 3) lNil))) [7] (.nm 7) bYes (mL toIntP (lCons (m2 inQ (mVar 7) (mVar 4)) lNil))) lNil)) (gVar 5)) (sSeq (sFor (iRng1M (mVar 1)) (gVar 2) (sSeq (sAsg (m2 ixQ (mVar 5) (m1 negP (mC (.int 1)))) (gVar 6)) (sExpr (mM "list" appP (mVar 5) (lCons (mLc (iSeq (mVar 3)) [9] (.nm 9) bYes (mL sumP (lCons (mLc (iSeq (mVar 9)) [8] (.nm 8) bYes (m2 ixQ (mVar 6) (mVar 8))) lNil))) lNil))))) (sRet (mVar 5)))))
noncomputable def bcount (P : CtP) (cl : Nat → FM) : SM := (sSeq (sAsg (m2 ixQ (mL (cl P.iways_to_end) (lCons (mVar 0) (lCons (mVar 1) lNil))) (mVar 1)) (gVar 2)) (sRet (mL sumP (lCons (mLc (iSeq (m2 ixQ (mVar 0) (mC (.int 2)))) [3] (.nm 3) bYes (m2 ixQ (mVar 2) (mVar 3))) lNil))))
noncomputable def bplace_of (P : CtP) (cl : Nat → FM) : SM := (sSeq (sAsg (mVar 0) (gTupD 5 (gsCons (gVar 2) (gsCons (gVar 3) (gsCons (gVar 4) (gsCons (gVar 5) (gsCons (gVar 6) gsNil))))))) (sSeq (sAsg (mVar 1) (gTupD 2 (gsCons (gVar 7) (gsCons (gVar 8) gsNil)))) (sSeq (sIf (bOr (bV (m2 notInQ (mVar 7) (mVar 2))) (bNot (bTru (mL allP (lCons (mLc (iSeq (mVar 8)) [14] (.nm 14) bYes (m2 inQ (mVar 14) (mVar 3))) lNil))))) (sRet (mC .non)) sNext) (sSeq (sAsg (mL (cl P.iways_to_end) (lCons (mVar 0) (lCons (mL lenQ (lCons (mVar 8) lNil)) lNil))) (gVar 9)) (sSeq (sAsg (mIdxT (mVar 2) (lCons (mVar 7) lNil)) (gVar 10)) (sSeq (sAsg (mL sumP (lCons (mLc (iSeq (mSl slP (mVar 4) oNone (oSome (mVar 10)))) [17] (.nm 17) bYes (m2 ixQ (m2 ixQ (mVar 9) (mL lenQ (lCons (mVar 8) lNil))) (mVar 17))) lNil)) (gVar 11)) (sSeq (sAsg (m2 ixQ (mVar 4) (mVar 10)) (gVar 12)) (sSeq (sFor (iEnmA (mVar 8)) (gTupD 2 (gsCons (gVar 13) (gsCons (gVar 14) gsNil))) (sSeq (sAsg (mIdxT (mVar 3) (lCons (mVar 14) lNil)) (gVar 15)) (sSeq (sAsg (m2 (intP fun i j => i - j) (m2 (intP fun i j => i - j) (mL lenQ (lCons (mVar 8) lNil)) (mVar 13)) (mC (.int 1))) (gVar 16)) (sSeq (sAug 11 (intP fun i j => i + j) (mL sumP (lCons (mLc (iSeq (mSl slP (m2 ixQ (mVar 5) (mVar 12)) oNone (oSome (mVar 15)))) [18] (.nm 18) bYes (m2 ixQ (m2 ixQ (mVar 9) (mVar 16)) (mVar 18))) lNil))) (sAsg (m2 ixQ (m2 ixQ (mVar 5) (mVar 12)) (mVar 15)) (gVar 12)))))) (sRet (mIf (bV (m2 inQ (mVar 12) (mVar 6))) (mVar 11) (mC .non)))))))))))
noncomputable def bpick (P : CtP) (cl : Nat → FM) : SM := (sSeq (sFor (iEnmA (mVar 0)) (gTupD 2 (gsCons (gVar 3) (gsCons (gVar 4) gsNil))) (sSeq (sIf (bV (m2 ltP (mVar 2) (m2 ixQ (mVar 1) (mVar 4)))) (sRet (mL tupP (lCons (mVar 3) (lCons (mVar 2) lNil)))) sNext) (sAug 2 (intP fun i j => i - j) (m2 ixQ (mVar 1) (mVar 4))))) (sRet (mL tupP (lCons (mC .non) (lCons (mVar 2) lNil)))))
noncomputable def bconfiguration_at (P : CtP) (cl : Nat → FM) : SM := (sSeq (sAsg (mVar 0) (gTupD 5 (gsCons (gVar 3) (gsCons (gVar 4) (gsCons (gVar 5) (gsCons (gVar 6) (gsCons (gVar 7) gsNil))))))) (sSeq (sIf (bNot (bV (mChain leP ltP (mC (.int 0)) (mVar 2) (mL (cl P.icount) (lCons (mVar 0) (lCons (mVar 1) lNil)))))) (sRet (mC .non)) sNext) (sSeq (sAsg (mL (cl P.iways_to_end) (lCons (mVar 0) (lCons (mVar 1) lNil))) (gVar 8)) (sSeq (sAsg (mL (cl P.ipick) (lCons (mVar 5) (lCons (m2 ixQ (mVar 8) (mVar 1)) (lCons (mVar 2) lNil)))) (gTupD 2 (gsCons (gVar 9) (gsCons (gVar 2) gsNil)))) (sSeq (sAsg (m2 ixQ (mVar 5) (mVar 9)) (gVar 10)) (sSeq (sAsg (mL lstP lNil) (gVar 11)) (sSeq (sFor (iRevRgM (mVar 1)) (gVar 12) (sSeq (sAsg (mL (cl P.ipick) (lCons (m2 ixQ (mVar 6) (mVar 10)) (lCons (m2 ixQ (mVar 8) (mVar 12)) (lCons (mVar 2) lNil)))) (gTupD 2 (gsCons (gVar 13) (gsCons (gVar 2) gsNil)))) (sSeq (sExpr (mM "list" appP (mVar 11) (lCons (m2 ixQ (mVar 4) (mVar 13)) lNil))) (sAsg (m2 ixQ (m2 ixQ (mVar 6) (mVar 10)) (mVar 13)) (gVar 10))))) (sRet (mL tupP (lCons (m2 ixQ (mVar 3) (mVar 9)) (lCons (mL tupleP (lCons (mVar 11) lNil)) lNil)))))))))))
structure CtPF (P : CtP) (F : Nat → Nat → FM) : Prop where
  eways_to_end : ∀ k, F (k + 1) P.iways_to_end = runB 10 (bways_to_end P (F k))
  ecount : ∀ k, F (k + 1) P.icount = runB 4 (bcount P (F k))
  eplace_of : ∀ k, F (k + 1) P.iplace_of = runB 19 (bplace_of P (F k))
  epick : ∀ k, F (k + 1) P.ipick = runB 5 (bpick P (F k))
  econfiguration_at : ∀ k, F (k + 1) P.iconfiguration_at = runB 14 (bconfiguration_at P (F k))
open Classical in
noncomputable def NT.W (t : NT) : Nat → Nat → Nat
  | 0, v => if v ∈ t.fn then 1 else 0
  | n + 1, v => ((t.row v).map (t.W n)).sum
noncomputable def wv (t : NT) (n : Nat) : List D := (List.range t.mv.length).map fun v => iD (t.W n v)
def unI : D → Nat
  | .int v => v.toNat
  | _ => 0
@[simp] theorem unI_iD {v : Nat} : unI (iD v) = v := by simp [unI, iD]
theorem sum_cast {α : Type} {f : α → Nat} : ∀ {l : List α}, (l.map fun v => ((f v : Nat) : Int)).sum = ((l.map f).sum : Nat)
  | [] => rfl
  | a :: l => by simp [sum_cast (l := l)]
theorem lcRg {n : Nat} {vs : List Nat} {t : Tgt} {te : EM} {env : Vars} {S : Sto} (hl : n ≤ 1000000) (f : Nat → D) (step : ∀ i, i < n → ∃ env1, t.put (wipeD env vs) (iD i) = some env1 ∧ ∀ S1, Gr S S1 → Ow (te env1 S1) fun y => y.1 = f i ∧ Gr S1 y.2) :
    Ow (lcL (.rng 0 n) vs t bYes te env 0 [] S) fun r => r.1 = (List.range n).map f ∧ Gr S r.2 := by
  refine (lcR_inv (fun j acc S1 => acc = (List.range j).map f ∧ Gr S S1) (fun j acc S1 hj ⟨ha, g⟩ => ?_) ⟨by simp, .refl⟩).imp fun r h => h
  obtain ⟨env1, e1, h⟩ := step j hj
  refine ⟨env1, by rw [← e1]; simp [iD], ?_⟩
  simp only [bYes, ow_some, if_true]
  refine (h S1 g).imp ?_
  rintro ⟨y, S2⟩ ⟨rfl, g2⟩
  subst ha
  exact ⟨by rw [List.length_map, List.length_range]; exact fitsM_lt (by omega), by rw [List.range_succ, List.map_append]; rfl, g.trans g2⟩
theorem wsum_ok {r : List Nat} {f : Nat → Nat} {x : Nat} {env : Vars} {S : Sto} {d : D} {te : EM} (lr : r.length ≤ 50000) (hd : seqD S d = some (r.map iD)) (hte : ∀ S1, Gr S S1 → ∀ v ∈ r, Ow (te ((env.set x none).set x (some (iD v))) S1) fun y => y.1 = iD (f v) ∧ Gr S1 y.2) :
    Ow (lcL (.seq d) [x] (.nm x) bYes te env 0 [] S) fun y => Ow (sumP [.loc y.2.length] (y.2 ++ [.lst y.1])) fun z => z.1 = iD ((r.map f).sum) ∧ Gr S z.2 := by
  refine (lcG hd (by simpa using (by omega : r.length ≤ 1000000)) (fun _ => true) (fun z => iD (f (unI z))) fun z hz => ⟨_, rfl, fun S2 g2 => ?_⟩).imp ?_
  · simp only [bYes, ow_some]
    refine ⟨trivial, .refl, fun _ => ?_⟩
    obtain ⟨v, hv, rfl⟩ := List.mem_map.mp hz
    rw [unI_iD]
    exact hte S2 g2 v hv
  · rintro ⟨bs, S2⟩ ⟨rfl, g2⟩
    dsimp only at g2 ⊢
    have e : ((r.map iD).filter fun _ => true).map (fun z => iD (f (unI z))) = (r.map fun v => ((f v : Nat) : Int)).map D.int := by
      rw [List.filter_eq_self.mpr fun _ _ => rfl, List.map_map, List.map_map]
      exact List.map_congr_left fun v _ => by show iD (f (unI (iD v))) = D.int ((f v : Nat) : Int); rw [unI_iD]; rfl
    rw [e, sum_loc get_snoc]
    simp only [ow_some]
    exact ⟨by rw [sum_cast]; rfl, g2.trans .app⟩
theorem wv_ix {t : NT} {n v m : Nat} {S : Sto} (h : S[m]? = some (.lst (wv t n))) (hv : v < t.mv.length) : ixQ (.loc m) (iD v) S = some (iD (t.W n v), S) := by
  unfold iD
  rw [ix_lst h (by omega) (d := iD (t.W n v)) (by simp [wv, hv])]
  rfl
def WaysAt (t : NT) (n l : Nat) (S : Sto) : Prop := ∃ ms : List Nat, S[l]? = some (.lst (ms.map D.loc)) ∧ ms.length = n + 1 ∧ ∀ k, k ≤ n → ∃ m, ms[k]? = some m ∧ S[m]? = some (.lst (wv t k))
theorem WaysAt.gr {t : NT} {n l : Nat} {S S' : Sto} (h : WaysAt t n l S) (g : Gr S S') : WaysAt t n l S' := by
  obtain ⟨ms, h1, h2, h3⟩ := h
  exact ⟨ms, g.get h1, h2, fun k hk => let ⟨m, e1, e2⟩ := h3 k hk; ⟨m, e1, g.get e2⟩⟩
theorem WaysAt.ix {t : NT} {n l k : Nat} {S : Sto} (h : WaysAt t n l S) (hk : k ≤ n) : ∃ m, ixQ (.loc l) (iD k) S = some (.loc m, S) ∧ S[m]? = some (.lst (wv t k)) := by
  obtain ⟨ms, h1, h2, h3⟩ := h
  obtain ⟨m, e1, e2⟩ := h3 k hk
  refine ⟨m, ?_, e2⟩
  unfold iD
  rw [ix_lst h1 (by omega) (d := .loc m) (by simp [e1])]
section
variable {P : CtP} {F : Nat → Nat → FM} (G : CtPF P F)
include G
theorem ways_ok (k : Nat) {t : NT} (ht : t.Ok) {n : Nat} (hn : n ≤ 1000) {S : Sto} : Ow (F (k + 1) P.iways_to_end [t.enc, iD n] S) fun r => Gr S r.2 ∧ ∃ l, r.1 = .loc l ∧ WaysAt t n l r.2 := by
  classical
  rw [G.eways_to_end, ow_runB]
  unfold bways_to_end NT.enc
  rw [ow_seq]
  simp [-ow_seq]
  rw [ow_seq]
  simp [-ow_seq, ow_lc, lenQ, dctD, lenP, seqD]
  refine ⟨by have := ht.lm; omega, ?_⟩
  refine (lcRg (by have := ht.lm; omega) (fun v => iD (t.W 0 v)) fun v hv => ⟨_, rfl, fun S1 g1 => ?_⟩).imp ?_
  · simp [wipeD]
    rw [in_ths iD_th (n := 0) (m := 0) (l := t.fn.map iD) rfl iDs_th (by decide) (by decide)]
    rw [show decide (iD v ∈ t.fn.map iD) = decide (v ∈ t.fn) from decide_eq_decide.mpr mem_iD]
    simp only [ow_some, toIntP]
    refine ⟨?_, .refl⟩
    by_cases h : v ∈ t.fn
    · simp [h, NT.W]; rfl
    · simp [h, NT.W]; rfl
  · rintro ⟨ds, S1⟩ ⟨rfl, g1⟩
    dsimp only at g1 ⊢
    simp [-ow_seq, lst_ok]
    rw [ow_seq, ow_for]
    simp [-ow_seq, iD]
    refine ⟨by omega, ?_⟩
    refine (forR_inv (n := n) (fun j env S3 => Gr S S3 ∧ (∃ o2 o6 o7 o8 o9, env = [some t.enc, some (iD n), o2, some (.tup (t.mv.map fun r => .tup (r.map iD))), some (.tup (t.fn.map iD)), some (.loc (S1.length + 1)), o6, o7, o8, o9]) ∧ S.length ≤ S1.length + 1 ∧ WaysAt t j (S1.length + 1) S3 ∧ ∃ ms : List Nat, S3[S1.length + 1]? = some (.lst (ms.map D.loc)) ∧ S1.length + 1 ∉ ms) (fun x => x.1 = .nx ∧ Gr S x.2.2 ∧ (∃ o2 o6 o7 o8 o9, x.2.1 = [some t.enc, some (iD n), o2, some (.tup (t.mv.map fun r => .tup (r.map iD))), some (.tup (t.fn.map iD)), some (.loc (S1.length + 1)), o6, o7, o8, o9]) ∧ WaysAt t n (S1.length + 1) x.2.2)
      (fun env S3 ⟨h1, h2, _, h3, _⟩ => ⟨rfl, h1, h2, h3⟩) (fun j env S3 hj ⟨g3, ⟨o2, o6, o7, o8, o9, e⟩, hl, hW, ms2, hms, hnot⟩ => ?_) ⟨g1.trans .app, ⟨_, _, _, _, _, rfl⟩, by have := g1.len; omega, ⟨[S1.length], by simp, rfl, fun k hk => ⟨S1.length, by rw [show k = 0 by omega]; rfl, by rw [show k = 0 by omega]; simp [wv]; exact fun _ _ => rfl⟩⟩, [S1.length], by simp, by simp⟩).imp ?_
    · subst e
      obtain ⟨ms, w1, w2, w3⟩ := hW
      have ems : ms2 = ms := by
        rw [w1] at hms
        have := Ob.lst.inj (Option.some.inj hms)
        have inj : ∀ (a b : List Nat), a.map D.loc = b.map D.loc → a = b := fun a => by
          induction a with
          | nil => intro b h; cases b with | nil => rfl | cons _ _ => cases h
          | cons x a ih => intro b h; cases b with | nil => cases h | cons y b => simp at h; rw [h.1, ih b (by simpa using h.2)]
        exact (inj _ _ this).symm
      subst ems
      obtain ⟨m, m1, m2⟩ := w3 j (Nat.le_refl _)
      simp only [ow_gVar]
      rw [ow_seq]
      simp [-ow_seq]
      have e1 : ixQ (.loc (S1.length + 1)) (.int (-1)) S3 = some (.loc m, S3) := by
        have hm : ms2.map D.loc ≠ [] := by intro z; have := congrArg List.length z; simp at this; subst this; simp at w2
        simp only [ixQ, dctD, lckD, w1, ixP, seqD, L2.atI, L2.ixN]
        have hl2 : (ms2.map D.loc).length = j + 1 := by simp [w2]
        rw [if_neg (by omega), hl2]
        simp
        rw [if_pos (by omega)]
        simp
        rw [show ((-1 : Int) + ((j : Int) + 1)).toNat = j by omega, m1]
        rfl
      rw [e1]
      simp [-ow_seq, ty_lst w1, ow_lc, seqD]
      refine (lcG (d := .tup (t.mv.map fun r => .tup (r.map iD))) (its := t.mv.map fun r => .tup (r.map iD)) (vs := [9]) (t := .nm 9) (env := [some t.enc, some (iD n), some (.int (j : Nat)), some (.tup (t.mv.map fun r => .tup (r.map iD))), some (.tup (t.fn.map iD)), some (.loc (S1.length + 1)), some (.loc m), o7, o8, o9]) rfl (by simpa using (by have := ht.lm; omega : t.mv.length ≤ 1000000)) (fun _ => true) (fun z => iD (((unT z).map fun v => t.W j (unI v)).sum)) fun z hz => ⟨_, rfl, fun S4 g4 => ?_⟩).imp ?_
      · simp only [bYes, ow_some]
        refine ⟨trivial, .refl, fun _ => ?_⟩
        obtain ⟨r, hr, rfl⟩ := List.mem_map.mp hz
        obtain ⟨r1, r2⟩ := ht.row r hr
        simp [wipeD, ow_lc, seqD]
        refine (wsum_ok (r := r) (f := t.W j) (x := 8) (d := .tup (r.map iD)) (by have := ht.ly; omega) rfl fun S5 g5 v hv => ?_).imp ?_
        · simp
          rw [wv_ix ((g4.trans g5).get m2) (r2 v hv)]
          simp only [ow_some]
          exact ⟨trivial, .refl⟩
        · rintro ⟨y, S5⟩ h
          refine h.imp ?_
          rintro ⟨z, S6⟩ ⟨h1, h2⟩
          refine ⟨h1.trans ?_, h2⟩
          simp [unT, Function.comp_def]
      · rintro ⟨ds, S4⟩ ⟨rfl, g4⟩
        dsimp only at g4 ⊢
        have hw4 : (S4 ++ [.lst ((((t.mv.map fun r => D.tup (r.map iD))).filter fun _ => true).map fun z => iD (((unT z).map fun v => t.W j (unI v)).sum))])[S1.length + 1]? = some (.lst (ms2.map D.loc)) := get_app (g4.get w1)
        rw [app_lst hw4 (by simp [w2]; omega)]
        simp only [ow_some]
        have l4 : S1.length + 1 < S4.length := (List.getElem?_eq_some_iff.mp (g4.get w1)).1
        refine ⟨?_, hl, ⟨ms2 ++ [S4.length], ?_, by simp [w2], fun k hk => ?_⟩, ms2 ++ [S4.length], ?_, ?_⟩
        · exact ((g3.trans g4).trans .app).set hl
        · rw [get_set hw4]; simp
        · by_cases hk2 : k ≤ j
          · obtain ⟨m', p1, p2⟩ := w3 k hk2
            refine ⟨m', by rw [List.getElem?_append_left (by omega), p1], ?_⟩
            have ne : S1.length + 1 ≠ m' := fun z => hnot (z ▸ List.mem_of_getElem? p1)
            rw [get_set_ne ne]
            exact get_app (g4.get p2)
          · have : k = j + 1 := by omega
            subst this
            refine ⟨S4.length, by rw [← w2]; simp, ?_⟩
            rw [get_set_ne (by omega), get_snoc, List.filter_eq_self.mpr fun _ _ => rfl, List.map_map]
            congr 2
            unfold wv
            refine List.ext_getElem (by simp) fun i h1 h2 => ?_
            simp [NT.W, unT, Function.comp_def]
            have hi : i < t.mv.length := by simpa using h1
            have := ht.at hi
            rw [List.getElem?_eq_getElem hi] at this
            rw [Option.some.inj this]
        · rw [get_set hw4]; simp
        · simp [hnot]; omega
    · rintro ⟨fl, env, S3⟩ ⟨rfl, g3, ⟨o2, o6, o7, o8, o9, rfl⟩, hW⟩
      simp
      exact ⟨g3, hW⟩
end
end tb
end DL
set_option maxHeartbeats 2000000
namespace DL
namespace tb
open PySem
noncomputable def NT.P (t : NT) : Nat → List D → Nat
  | _, [] => 0
  | v, s :: w => (((t.row v).take (num t.ys s)).map (t.W w.length)).sum + t.P (t.nx v s) w
noncomputable def NT.C (t : NT) (n : Nat) : Nat := (t.st.map (t.W n)).sum
noncomputable def NT.pl (t : NT) (p : D) (w : List D) : Nat := ((t.st.take (num t.sts p)).map (t.W w.length)).sum + t.P (t.sv p) w
theorem cut_toN {ds : List D} {i : Nat} (h : i ≤ ds.length) : cutD ds none (some ((i : Nat) : Int)) = ds.take i := by
  unfold cutD HT.sIx
  simp
  split <;> first | omega | skip
  all_goals (first | (congr 1; omega) | skip)
theorem sl_tup {l : List D} {i : Nat} {S : Sto} (h : i ≤ l.length) : slP (.tup l) none (some ((i : Nat) : Int)) S = some (.tup (l.take i), S) := by
  show some (D.tup (cutD l none (some (i : Int))), S) = _
  rw [cut_toN h]
structure PV (t : NT) (w : List D) (l pl nd : Nat) (env : Vars) : Prop where
  len : env.length = 19
  e3 : env[3]? = some (some (.tup t.ys))
  e5 : env[5]? = some (some (.tup (t.mv.map fun r => .tup (r.map iD))))
  e6 : env[6]? = some (some (.tup (t.fn.map iD)))
  e8 : env[8]? = some (some (.tup w))
  e9 : env[9]? = some (some (.loc l))
  e11 : env[11]? = some (some (iD pl))
  e12 : env[12]? = some (some (iD nd))
theorem PV.set {t : NT} {w : List D} {l pl nd : Nat} {env : Vars} (h : PV t w l pl nd env) {i : Nat} {d : Option D} (hi : 13 ≤ i) : PV t w l pl nd (env.set i d) := by
  have n : ∀ j, j < 13 → (env.set i d)[j]? = env[j]? := fun j hj => List.getElem?_set_ne (by omega)
  exact ⟨by rw [List.length_set]; exact h.len, (n 3 (by decide)).trans h.e3, (n 5 (by decide)).trans h.e5, (n 6 (by decide)).trans h.e6, (n 8 (by decide)).trans h.e8, (n 9 (by decide)).trans h.e9, (n 11 (by decide)).trans h.e11, (n 12 (by decide)).trans h.e12⟩
theorem PV.set11 {t : NT} {w : List D} {l pl nd pl' : Nat} {env : Vars} (h : PV t w l pl nd env) : PV t w l pl' nd (env.set 11 (some (iD pl'))) := by
  have n : ∀ j, j ≠ 11 → (env.set 11 (some (iD pl')))[j]? = env[j]? := fun j hj => List.getElem?_set_ne (Ne.symm hj)
  exact ⟨by rw [List.length_set]; exact h.len, (n 3 (by decide)).trans h.e3, (n 5 (by decide)).trans h.e5, (n 6 (by decide)).trans h.e6, (n 8 (by decide)).trans h.e8, (n 9 (by decide)).trans h.e9, List.getElem?_set_self (by rw [h.len]; decide), (n 12 (by decide)).trans h.e12⟩
theorem PV.set12 {t : NT} {w : List D} {l pl nd nd' : Nat} {env : Vars} (h : PV t w l pl nd env) : PV t w l pl nd' (env.set 12 (some (iD nd'))) := by
  have n : ∀ j, j ≠ 12 → (env.set 12 (some (iD nd')))[j]? = env[j]? := fun j hj => List.getElem?_set_ne (Ne.symm hj)
  exact ⟨by rw [List.length_set]; exact h.len, (n 3 (by decide)).trans h.e3, (n 5 (by decide)).trans h.e5, (n 6 (by decide)).trans h.e6, (n 8 (by decide)).trans h.e8, (n 9 (by decide)).trans h.e9, (n 11 (by decide)).trans h.e11, List.getElem?_set_self (by rw [h.len]; decide)⟩
theorem set_self {env : Vars} {i : Nat} {d : Option D} (h : i < env.length) : (env.set i d)[i]? = some d := List.getElem?_set_self h
@[simp] theorem asI_iD {n : Nat} : asI (iD n) = some ((n : Nat) : Int) := rfl
theorem int_iD {f : Int → Int → Int} {a b c : Nat} {S : Sto} (h : f a b = c) : intP f (iD a) (iD b) S = some (iD c, S) := by
  show intP f (.int a) (.int b) S = _
  simp only [intP, h]
  rfl
section
variable {P : CtP} {F : Nat → Nat → FM} (G : CtPF P F)
include G
theorem count_ok (k : Nat) {t : NT} (ht : t.Ok) {n : Nat} (hn : n ≤ 1000) {S : Sto} : Ow (F (k + 2) P.icount [t.enc, iD n] S) fun r => r.1 = iD (t.C n) ∧ Gr S r.2 := by
  rw [G.ecount, ow_runB]
  unfold bcount
  rw [ow_seq]
  simp [-ow_seq]
  refine (ways_ok G k ht hn).imp ?_
  rintro ⟨d, S1⟩ ⟨g1, l, rfl, hW⟩
  dsimp only at g1 hW
  obtain ⟨m, h1, h2⟩ := hW.ix (Nat.le_refl _)
  rw [h1]
  have h3 : ixQ t.enc (.int 2) S1 = some (.tup (t.st.map iD), S1) := ix_tupN (i := 2) rfl
  simp [ow_lc, h3]
  refine ⟨rfl, ?_⟩
  refine (wsum_ok (r := t.st) (f := t.W n) (x := 3) (d := .tup (t.st.map iD)) (by have := ht.ls; have := ht.l3; omega) rfl fun S5 g5 v hv => ?_).imp ?_
  · simp
    rw [wv_ix (g5.get h2) (ht.st v hv)]
    simp only [ow_some]
    exact ⟨trivial, .refl⟩
  · rintro ⟨y, S5⟩ h
    refine h.imp ?_
    rintro ⟨z, S6⟩ ⟨h3, h4⟩
    exact ⟨h3, g1.trans h4⟩
noncomputable def placeL (P : CtP) (cl : Nat → FM) : SM := (sFor (iEnmA (mVar 8)) (gTupD 2 (gsCons (gVar 13) (gsCons (gVar 14) gsNil))) (sSeq (sAsg (mIdxT (mVar 3) (lCons (mVar 14) lNil)) (gVar 15)) (sSeq (sAsg (m2 (intP fun i j => i - j) (m2 (intP fun i j => i - j) (mL lenQ (lCons (mVar 8) lNil)) (mVar 13)) (mC (.int 1))) (gVar 16)) (sSeq (sAug 11 (intP fun i j => i + j) (mL sumP (lCons (mLc (iSeq (mSl slP (m2 ixQ (mVar 5) (mVar 12)) oNone (oSome (mVar 15)))) [18] (.nm 18) bYes (m2 ixQ (m2 ixQ (mVar 9) (mVar 16)) (mVar 18))) lNil))) (sAsg (m2 ixQ (m2 ixQ (mVar 5) (mVar 12)) (mVar 15)) (gVar 12))))))
omit G in
theorem placeL_ok {cl : Nat → FM} {t : NT} (ht : t.Ok) {w : List D} (hw : ∀ s ∈ w, s ∈ t.ys) (lw : w.length ≤ 1000) {l pl0 v0 : Nat} {env : Vars} {S : Sto} (hv0 : v0 < t.mv.length) (pv : PV t w l pl0 v0 env) (hW : WaysAt t w.length l S) :
    Ow (placeL P cl env S) fun x => x.1 = .nx ∧ PV t w l (pl0 + t.P v0 w) (t.go v0 w) x.2.1 ∧ Gr S x.2.2 := by
  unfold placeL
  rw [ow_for]
  simp only [ow_iEnmA, ow_var, pv.e8, Option.some.injEq]
  refine ⟨_, rfl, rfl, ?_⟩
  have hit : ∀ (j : Nat) (S3 : Sto), itAt S3 (.enm (.tup w)) j = some ((w.mapIdx fun i x => D.tup [.int (i : Nat), x])[j]?) := fun j S3 => by
    simp only [itAt, seqD, List.getElem?_mapIdx]
    cases w[j]? <;> rfl
  refine (forL_inv (w.mapIdx fun i x => D.tup [.int (i : Nat), x]) (fun j env S3 => ∃ pl, PV t w l pl (t.go v0 (w.take j)) env ∧ Gr S S3 ∧ pl + t.P (t.go v0 (w.take j)) (w.drop j) = pl0 + t.P v0 w) (fun x => x.1 = .nx ∧ PV t w l (pl0 + t.P v0 w) (t.go v0 w) x.2.1 ∧ Gr S x.2.2)
    (fun j env S3 _ => hit j S3) (fun env S3 ⟨pl, h1, h2, h3⟩ => ?_) (fun j d env S3 hj ⟨pl, h1, g3, h3⟩ => ?_) w.length 0 _ _ (by simp) (by simp) ⟨pl0, by simpa [NT.go] using pv, .refl, by simp [NT.go]⟩)
  · simp only [List.length_mapIdx, List.take_length, List.drop_length, NT.P, Nat.add_zero] at h1 h3
    subst h3
    exact ⟨rfl, h1, h2⟩
  · rw [List.getElem?_mapIdx] at hj
    have hjl : j < w.length := by
      rcases Nat.lt_or_ge j w.length with h | h
      · exact h
      · rw [List.getElem?_eq_none h] at hj; cases hj
    rw [List.getElem?_eq_getElem hjl] at hj
    cases hj
    have hs : w[j] ∈ t.ys := hw _ (List.getElem_mem hjl)
    have hv : t.go v0 (w.take j) < t.mv.length := ht.go hv0 fun s hs => hw s (List.mem_of_mem_take hs)
    have edr : w.drop j = w[j] :: w.drop (j + 1) := List.drop_eq_getElem_cons hjl
    have etk : w.take (j + 1) = w.take j ++ [w[j]] := by rw [List.take_add_one, List.getElem?_eq_getElem hjl]; rfl
    simp only [ow_gTup, ow_gsCons, ow_gVar, ow_gsNil, List.length_cons, List.length_nil, true_and]
    have p1 := (h1.set (i := 13) (d := some (iD j)) (by omega)).set (i := 14) (d := some w[j]) (by omega)
    have q13 : ((env.set 13 (some (iD j))).set 14 (some w[j]))[13]? = some (some (iD j)) := by rw [List.getElem?_set_ne (by decide)]; exact set_self (by rw [h1.len]; decide)
    have q14 : ((env.set 13 (some (iD j))).set 14 (some w[j]))[14]? = some (some w[j]) := set_self (by rw [List.length_set, h1.len]; decide)
    show Ow (sSeq _ _ ((env.set 13 (some (iD j))).set 14 (some w[j])) S3) _
    generalize ((env.set 13 (some (iD j))).set 14 (some w[j])) = env2 at p1 q13 q14
    rw [ow_seq]
    simp only [ow_asg, ow_mIdxT, ow_var, p1.e3, Option.some.injEq, ow_cons, q14, ow_nil]
    refine ⟨_, rfl, _, rfl, _, rfl, ?_⟩
    rw [idx_tup (ht.ty _ hs) ht.ty (by decide) (by decide) hs]
    simp only [ow_some, ow_gVar]
    have p2 := p1.set (i := 15) (d := some (iD (num t.ys w[j]))) (by omega)
    have r15 := set_self (env := env2) (i := 15) (d := some (iD (num t.ys w[j]))) (by rw [p1.len]; decide)
    have r13 : (env2.set 15 (some (iD (num t.ys w[j]))))[13]? = some (some (iD j)) := by rw [List.getElem?_set_ne (by decide)]; exact q13
    generalize env2.set 15 (some (iD (num t.ys w[j]))) = env3 at p2 r15 r13
    rw [ow_seq]
    simp only [ow_asg, ow_m2, ow_mL, ow_cons, ow_var, p2.e8, Option.some.injEq, ow_nil, r13, ow_C]
    refine ⟨_, rfl, ?_⟩
    have el : lenQ [.tup w] S3 = some (iD w.length, S3) := by simp [lenQ, dctD, lenP, seqD, iD]
    rw [el]
    simp only [ow_some]
    refine ⟨_, rfl, ?_⟩
    rw [int_iD (c := w.length - j) (by omega)]
    simp only [ow_some]
    rw [show D.int 1 = iD 1 from rfl, int_iD (c := w.length - j - 1) (by omega)]
    simp only [ow_some, ow_gVar]
    have p3 := p2.set (i := 16) (d := some (iD (w.length - j - 1))) (by omega)
    have t16 := set_self (env := env3) (i := 16) (d := some (iD (w.length - j - 1))) (by rw [p2.len]; decide)
    have t15 : (env3.set 16 (some (iD (w.length - j - 1))))[15]? = some (some (iD (num t.ys w[j]))) := by rw [List.getElem?_set_ne (by decide)]; exact r15
    generalize env3.set 16 (some (iD (w.length - j - 1))) = env4 at p3 t16 t15
    rw [ow_seq]
    simp only [ow_aug, p3.e11, Option.some.injEq, ow_mL, ow_cons, ow_lc, ow_iSeq, ow_mSl, ow_m2, ow_var, p3.e5, p3.e12, ow_oNone, ow_oSome, t15]
    refine ⟨_, rfl, _, rfl, _, rfl, ?_⟩
    rw [ix_row ht hv]
    simp only [ow_some]
    refine ⟨_, rfl, ?_⟩
    rw [asI_iD]
    simp only [ow_some]
    have hrl := ht.rl hv
    have hnl : num t.ys w[j] ≤ ((t.row (t.go v0 (w.take j))).map iD).length := by
      rw [List.length_map, hrl.1]
      exact Nat.le_of_lt (num_lt hs)
    rw [sl_tup hnl]
    simp only [ow_some, seq_tup, Option.isSome_some, true_and]
    have hst : ((t.row (t.go v0 (w.take j))).map iD).take (num t.ys w[j]) = ((t.row (t.go v0 (w.take j))).take (num t.ys w[j])).map iD := by rw [List.map_take]
    rw [hst]
    refine (wsum_ok (r := (t.row (t.go v0 (w.take j))).take (num t.ys w[j])) (f := t.W (w.length - j - 1)) (x := 18) (by have := ht.ly; simp; omega) rfl fun S5 g5 v hv2 => ?_).imp ?_
    · obtain ⟨m, m1, m2⟩ := (hW.gr (g3.trans g5)).ix (k := w.length - j - 1) (by omega)
      have s9 : ((env4.set 18 none).set 18 (some (iD v)))[9]? = some (some (.loc l)) := by rw [List.getElem?_set_ne (by decide), List.getElem?_set_ne (by decide)]; exact p3.e9
      have s16 : ((env4.set 18 none).set 18 (some (iD v)))[16]? = some (some (iD (w.length - j - 1))) := by rw [List.getElem?_set_ne (by decide), List.getElem?_set_ne (by decide)]; exact t16
      have s18 : ((env4.set 18 none).set 18 (some (iD v)))[18]? = some (some (iD v)) := set_self (by rw [List.length_set, p3.len]; decide)
      simp only [ow_m2, ow_var, s9, s16, s18, Option.some.injEq]
      refine ⟨_, rfl, _, rfl, ?_⟩
      rw [m1]
      simp only [ow_some]
      refine ⟨_, rfl, ?_⟩
      rw [wv_ix m2 (hrl.2 v (List.mem_of_mem_take hv2))]
      simp only [ow_some]
      exact ⟨trivial, .refl⟩
    · rintro ⟨y, S5⟩ h
      simp only [ow_nil]
      refine h.imp ?_
      rintro ⟨z, S6⟩ ⟨rfl, g6⟩
      dsimp only at g6 ⊢
      rw [int_iD (c := pl + (((t.row (t.go v0 (w.take j))).take (num t.ys w[j])).map (t.W (w.length - j - 1))).sum) (by omega)]
      simp only [ow_some]
      generalize hp2 : pl + (((t.row (t.go v0 (w.take j))).take (num t.ys w[j])).map (t.W (w.length - j - 1))).sum = pl2
      have p4 := p3.set11 (pl' := pl2)
      have u15 : (env4.set 11 (some (iD pl2)))[15]? = some (some (iD (num t.ys w[j]))) := by rw [List.getElem?_set_ne (by decide)]; exact t15
      generalize env4.set 11 (some (iD pl2)) = env5 at p4 u15
      simp only [ow_asg, ow_m2, ow_var, p4.e5, p4.e12, u15, Option.some.injEq]
      refine ⟨_, rfl, _, rfl, ?_⟩
      rw [ix_row ht hv]
      simp only [ow_some]
      refine ⟨_, rfl, ?_⟩
      rw [ix_tupN (x := iD (t.nx (t.go v0 (w.take j)) w[j])) (by rw [List.getElem?_map, (ht.nxt hv hs).1]; rfl)]
      simp only [ow_some, ow_gVar]
      refine ⟨pl2, ?_, g3.trans g6, ?_⟩
      · rw [etk, NT.go_snoc]
        exact p4.set12
      · rw [etk, NT.go_snoc, ← h3, edr, ← hp2]
        simp only [NT.P, List.length_drop]
        rw [show w.length - (j + 1) = w.length - j - 1 by omega]
        omega
theorem place_ok (k : Nat) {t : NT} (ht : t.Ok) {p : D} {w : List D} {S : Sto} (hp : Th 4 p) (hw : ∀ s ∈ w, Th 4 s) (lw : w.length ≤ 1000) :
    Ow (F (k + 2) P.iplace_of [t.enc, .tup [p, .tup w]] S) fun r => (p ∈ t.sts ∧ (∀ s ∈ w, s ∈ t.ys) ∧ t.go (t.sv p) w ∈ t.fn → r.1 = iD (t.pl p w)) ∧ (¬ (p ∈ t.sts ∧ (∀ s ∈ w, s ∈ t.ys) ∧ t.go (t.sv p) w ∈ t.fn) → r.1 = .non) ∧ Gr S r.2 := by
  classical
  rw [G.eplace_of, ow_runB]
  unfold bplace_of
  rw [show (sFor (iEnmA (mVar 8)) (gTupD 2 (gsCons (gVar 13) (gsCons (gVar 14) gsNil))) (sSeq (sAsg (mIdxT (mVar 3) (lCons (mVar 14) lNil)) (gVar 15)) (sSeq (sAsg (m2 (intP fun i j => i - j) (m2 (intP fun i j => i - j) (mL lenQ (lCons (mVar 8) lNil)) (mVar 13)) (mC (.int 1))) (gVar 16)) (sSeq (sAug 11 (intP fun i j => i + j) (mL sumP (lCons (mLc (iSeq (mSl slP (m2 ixQ (mVar 5) (mVar 12)) oNone (oSome (mVar 15)))) [18] (.nm 18) bYes (m2 ixQ (m2 ixQ (mVar 9) (mVar 16)) (mVar 18))) lNil))) (sAsg (m2 ixQ (m2 ixQ (mVar 5) (mVar 12)) (mVar 15)) (gVar 12)))))) = placeL P (F (k + 1)) from rfl]
  rw [ow_seq]
  have el : ∀ S : Sto, lenQ [.tup w] S = some (iD w.length, S) := fun S => by simp [lenQ, dctD, lenP, seqD, iD]
  simp [-ow_seq, NT.enc]
  rw [ow_seq]
  simp [-ow_seq]
  rw [ow_seq]
  simp [-ow_seq]
  rw [notIn_ths hp (l := t.sts) rfl ht.ts (by decide) (by decide)]
  simp only [ow_some, asB_bl]
  by_cases hps : p ∈ t.sts
  · simp [-ow_seq, hps, ow_lc]
    refine ⟨rfl, ?_⟩
    refine (lcG (d := .tup w) (its := w) (vs := [14]) (t := .nm 14) (env := [some t.enc, some (.tup [p, .tup w]), some (.tup t.sts), some (.tup t.ys), some (.tup (t.st.map iD)), some (.tup (t.mv.map fun r => .tup (r.map iD))), some (.tup (t.fn.map iD)), some p, some (.tup w), none, none, none, none, none, none, none, none, none, none]) rfl (by omega) (fun _ => true) (fun s => .bl (decide (s ∈ t.ys))) fun s hs => ⟨_, rfl, fun S2 _ => ?_⟩).imp ?_
    · simp only [bYes, ow_some]
      refine ⟨trivial, .refl, fun _ => ?_⟩
      simp [wipeD]
      rw [in_ths (hw s hs) (l := t.ys) rfl ht.ty (by decide) (by decide)]
      simp only [ow_some]
      exact ⟨trivial, .refl⟩
    · rintro ⟨bs, S2⟩ ⟨rfl, g2⟩
      dsimp only at g2 ⊢
      rw [all_loc (f := fun s => decide (s ∈ t.ys)) (xs := w) (by rw [List.filter_eq_self.mpr fun _ _ => rfl]; exact get_snoc)]
      simp only [ow_some, truD]
      by_cases hws : ∀ s ∈ w, s ∈ t.ys
      · have e1 : (w.all fun s => decide (s ∈ t.ys)) = true := by simpa using hws
        simp only [e1, Bool.not_true, if_false, ow_next]
        obtain ⟨s1, s2⟩ := ht.sv' hps
        rw [ow_seq]
        simp [-ow_seq, el]
        refine (ways_ok G k ht lw).imp ?_
        rintro ⟨d, S3⟩ ⟨g3, l, rfl, hW⟩
        dsimp only at g3 hW ⊢
        rw [ow_seq]
        simp [-ow_seq, ow_mIdxT]
        rw [idx_tup hp ht.ts (by decide) (by decide) hps]
        simp only [ow_some]
        rw [ow_seq]
        have hnl : num t.sts p ≤ (t.st.map iD).length := by rw [List.length_map, ht.ls]; exact Nat.le_of_lt (num_lt hps)
        simp [-ow_seq, ow_lc, sl_tup hnl]
        refine ⟨rfl, ?_⟩
        refine (wsum_ok (r := t.st.take (num t.sts p)) (f := t.W w.length) (x := 17) (d := .tup ((t.st.map iD).take (num t.sts p))) (by have := ht.ls; have := ht.l3; simp; omega) (by rw [seq_tup, List.map_take]) fun S5 g5 v hv2 => ?_).imp ?_
        · obtain ⟨m, m1, m2⟩ := (hW.gr g5).ix (Nat.le_refl _)
          simp [el, m1]
          rw [wv_ix m2 (ht.st v (List.mem_of_mem_take hv2))]
          simp only [ow_some]
          exact ⟨trivial, .refl⟩
        · rintro ⟨y, S5⟩ h
          simp only
          refine h.imp ?_
          rintro ⟨z, S6⟩ ⟨rfl, g6⟩
          dsimp only at g6 ⊢
          rw [ow_seq]
          simp [-ow_seq]
          rw [ix_tupN (x := iD (t.sv p)) (by rw [List.getElem?_map, s1]; rfl)]
          simp only [ow_some]
          rw [ow_seq]
          refine (placeL_ok ht hws lw (l := l) (pl0 := ((t.st.take (num t.sts p)).map (t.W w.length)).sum) (v0 := t.sv p) s2 ⟨rfl, rfl, rfl, rfl, rfl, rfl, by rw [List.map_take]; rfl, rfl⟩ (hW.gr g6)).imp ?_
          rintro ⟨fl, env, S7⟩ ⟨rfl, pv, g7⟩
          dsimp only at pv g7 ⊢
          simp only [ow_ret, ow_mIf, ow_V, ow_m2, ow_var, pv.e12, pv.e6, Option.some.injEq]
          refine ⟨_, rfl, _, rfl, ?_⟩
          rw [in_ths iD_th (n := 0) (m := 0) (l := t.fn.map iD) rfl iDs_th (by decide) (by decide)]
          rw [show decide (iD (t.go (t.sv p) w) ∈ t.fn.map iD) = decide (t.go (t.sv p) w ∈ t.fn) from decide_eq_decide.mpr mem_iD]
          simp only [ow_some, asB_bl]
          have gg : Gr S S7 := g2.trans (Gr.trans .app (g3.trans (g6.trans g7)))
          by_cases hf : t.go (t.sv p) w ∈ t.fn
          · simp [hf, pv.e11]
            refine ⟨fun _ => ?_, fun s hs hn => absurd (hws s hs) hn, gg⟩
            unfold NT.pl
            rw [List.map_take]
          · simp [hf]
            exact gg
      · have e1 : (w.all fun s => decide (s ∈ t.ys)) = false := by
          rw [Bool.eq_false_iff]
          exact fun h => hws (by simpa using h)
        simp only [e1, Bool.not_false, if_true]
        simp
        exact ⟨fun h => absurd h hws, g2.trans .app⟩
  · simp [hps]
    exact .refl
end
end tb
end DL
set_option maxHeartbeats 2000000
namespace DL
namespace tb
open PySem
noncomputable def NT.Pp (t : NT) : Nat → List D → Nat → Nat
  | _, [], _ => 0
  | v, s :: w, m => (((t.row v).take (num t.ys s)).map (t.W (w.length + m))).sum + t.Pp (t.nx v s) w m
theorem P_Pp {t : NT} : ∀ {w : List D} {v : Nat}, t.P v w = t.Pp v w 0
  | [], _ => rfl
  | s :: w, v => by simp [NT.P, NT.Pp, P_Pp (w := w)]
theorem Pp_snoc {t : NT} {s : D} {m : Nat} : ∀ {w : List D} {v : Nat}, t.Pp v (w ++ [s]) m = t.Pp v w (m + 1) + (((t.row (t.go v w)).take (num t.ys s)).map (t.W m)).sum
  | [], v => by simp [NT.Pp, NT.go]
  | a :: w, v => by
    show (((t.row v).take (num t.ys a)).map (t.W ((w ++ [s]).length + m))).sum + t.Pp (t.nx v a) (w ++ [s]) m = _
    rw [Pp_snoc (w := w)]
    simp only [NT.Pp, List.length_append, List.length_cons, List.length_nil]
    rw [show w.length + (0 + 1) + m = w.length + (m + 1) by omega]
    show _ = _ + _ + (((t.row (t.go (t.nx v a) w)).take _).map _).sum
    omega
section
variable {P : CtP} {F : Nat → Nat → FM} (G : CtPF P F)
include G
theorem pick_ok (k : Nat) {t : NT} {os : List Nat} {n m p : Nat} {S : Sto} (ho : ∀ v ∈ os, v < t.mv.length) (hm : S[m]? = some (.lst (wv t n))) (hp : p < (os.map (t.W n)).sum) :
    Ow (F (k + 1) P.ipick [.tup (os.map iD), .loc m, iD p] S) fun r => ∃ (i p' v : Nat), r = (.tup [iD i, iD p'], S) ∧ os[i]? = some v ∧ p = ((os.take i).map (t.W n)).sum + p' ∧ p' < t.W n v := by
  rw [G.epick, ow_runB]
  unfold bpick
  rw [ow_seq, ow_for]
  simp [-ow_seq, ow_iEnmA]
  refine ⟨rfl, ?_⟩
  have hit : ∀ (j : Nat) (S3 : Sto), itAt S3 (.enm (.tup (os.map iD))) j = some (((os.map iD).mapIdx fun i x => D.tup [.int (i : Nat), x])[j]?) := fun j S3 => by
    simp only [itAt, seqD, List.getElem?_mapIdx]
    cases (os.map iD)[j]? <;> rfl
  refine (forL_inv ((os.map iD).mapIdx fun i x => D.tup [.int (i : Nat), x]) (fun j env S3 => S3 = S ∧ ∃ pj o3 o4, env = [some (.tup (os.map iD)), some (.loc m), some (iD pj), o3, o4] ∧ p = ((os.take j).map (t.W n)).sum + pj)
    (fun x => ∃ (i p' v : Nat), x.1 = .rt (.tup [iD i, iD p']) ∧ x.2.2 = S ∧ os[i]? = some v ∧ p = ((os.take i).map (t.W n)).sum + p' ∧ p' < t.W n v) (fun j env S3 _ => hit j S3) (fun env S3 ⟨h1, pj, o3, o4, h2, h3⟩ => ?_) (fun j d env S3 hj ⟨h1, pj, o3, o4, h2, h3⟩ => ?_) os.length 0 _ _ (by simp) (by simp) ⟨rfl, p, none, none, rfl, by simp⟩).imp ?_
  · simp at h3
    omega
  · subst h1 h2
    rw [List.getElem?_mapIdx, List.getElem?_map] at hj
    cases ev : os[j]? with
    | none => rw [ev] at hj; cases hj
    | some v =>
      rw [ev] at hj
      cases hj
      have hv := ho v (List.mem_of_getElem? ev)
      simp [-ow_seq]
      rw [ow_seq]
      simp [-ow_seq]
      rw [wv_ix hm hv]
      simp only [ow_some]
      rw [show ltP (iD pj) (iD (t.W n v)) S3 = some (.bl (decide (((pj : Nat) : Int) < ((t.W n v : Nat) : Int))), S3) from lt_ii]
      simp only [ow_some, asB_bl]
      by_cases hlt : pj < t.W n v
      · have h' : ((pj : Nat) : Int) < ((t.W n v : Nat) : Int) := by omega
        simp only [h', decide_true, if_true]
        rw [tup_ok (by simp)]
        simp only [ow_some]
        exact ⟨j, pj, rfl, trivial, v, ev, by rw [← List.map_take]; exact h3, hlt⟩
      · have h' : ¬ ((pj : Nat) : Int) < ((t.W n v : Nat) : Int) := by omega
        simp only [h', decide_false, if_false]
        simp
        rw [wv_ix hm hv]
        simp only [ow_some]
        rw [int_iD (c := pj - t.W n v) (by omega)]
        simp only [ow_some]
        refine ⟨trivial, pj - t.W n v, ?_, ?_⟩
        · first | exact ⟨_, _, rfl⟩ | rfl
        · rw [← List.map_take, List.take_add_one, ev]
          simp
          rw [← List.map_take]
          omega
  · rintro ⟨fl, env, S3⟩ ⟨i, p', v, rfl, rfl, h1, h2, h3⟩
    simp
    exact ⟨i, p', ⟨rfl, rfl⟩, v, h1, by rw [← List.map_take]; exact h2, h3⟩
end
theorem ow_iRevT {m : EM} {env : Vars} {S : Sto} {Q : DIt × Sto → Prop} : Ow (iRevRgM m env S) Q ↔ Ow (m env S) fun y => ∃ n, y.1 = .int n ∧ (0 ≤ n ∧ n ≤ 16777216) ∧ Q (.seq (.tup (rgD n).reverse), y.2) := by
  unfold iRevRgM
  constructor
  · rintro ⟨z, h, q⟩
    split at h
    · rename_i x S1 e
      split at h
      · rename_i hz
        cases h
        exact ⟨_, e, x, rfl, hz, q⟩
      · cases h
    · cases h
  · rintro ⟨⟨d, S1⟩, h, x, e, hz, q⟩
    dsimp only at e
    subst e
    refine ⟨_, ?_, q⟩
    rw [h]
    simp [hz]
theorem rgD_len {n : Nat} : (rgD (n : Int)).reverse.length = n := by simp [rgD]
theorem rgD_at {n j : Nat} (hj : j < n) : (rgD (n : Int)).reverse[j]? = some (iD (n - 1 - j)) := by
  rw [List.getElem?_reverse (by simpa [rgD] using hj)]
  unfold rgD
  rw [List.getElem?_map]
  simp
  rw [List.getElem?_range (by omega)]
  simp [iD]
structure QV (t : NT) (n l wl pl nd ix : Nat) (env : Vars) : Prop where
  len : env.length = 14
  e3 : env[3]? = some (some (.tup t.sts))
  e4 : env[4]? = some (some (.tup t.ys))
  e6 : env[6]? = some (some (.tup (t.mv.map fun r => .tup (r.map iD))))
  e8 : env[8]? = some (some (.loc wl))
  e9 : env[9]? = some (some (iD ix))
  e11 : env[11]? = some (some (.loc l))
  e2 : env[2]? = some (some (iD pl))
  e10 : env[10]? = some (some (iD nd))
theorem QV.set {t : NT} {n l wl pl nd ix : Nat} {env : Vars} (h : QV t n l wl pl nd ix env) {i : Nat} {d : Option D} (hi : 12 ≤ i) : QV t n l wl pl nd ix (env.set i d) := by
  have n : ∀ j, j < 12 → (env.set i d)[j]? = env[j]? := fun j hj => List.getElem?_set_ne (by omega)
  exact ⟨by rw [List.length_set]; exact h.len, (n 3 (by decide)).trans h.e3, (n 4 (by decide)).trans h.e4, (n 6 (by decide)).trans h.e6, (n 8 (by decide)).trans h.e8, (n 9 (by decide)).trans h.e9, (n 11 (by decide)).trans h.e11, (n 2 (by decide)).trans h.e2, (n 10 (by decide)).trans h.e10⟩
theorem QV.set2 {t : NT} {n l wl pl nd ix pl' : Nat} {env : Vars} (h : QV t n l wl pl nd ix env) : QV t n l wl pl' nd ix (env.set 2 (some (iD pl'))) := by
  have n : ∀ j, j ≠ 2 → (env.set 2 (some (iD pl')))[j]? = env[j]? := fun j hj => List.getElem?_set_ne (Ne.symm hj)
  exact ⟨by rw [List.length_set]; exact h.len, (n 3 (by decide)).trans h.e3, (n 4 (by decide)).trans h.e4, (n 6 (by decide)).trans h.e6, (n 8 (by decide)).trans h.e8, (n 9 (by decide)).trans h.e9, (n 11 (by decide)).trans h.e11, set_self (by rw [h.len]; decide), (n 10 (by decide)).trans h.e10⟩
theorem QV.set10 {t : NT} {n l wl pl nd ix nd' : Nat} {env : Vars} (h : QV t n l wl pl nd ix env) : QV t n l wl pl nd' ix (env.set 10 (some (iD nd'))) := by
  have n : ∀ j, j ≠ 10 → (env.set 10 (some (iD nd')))[j]? = env[j]? := fun j hj => List.getElem?_set_ne (Ne.symm hj)
  exact ⟨by rw [List.length_set]; exact h.len, (n 3 (by decide)).trans h.e3, (n 4 (by decide)).trans h.e4, (n 6 (by decide)).trans h.e6, (n 8 (by decide)).trans h.e8, (n 9 (by decide)).trans h.e9, (n 11 (by decide)).trans h.e11, (n 2 (by decide)).trans h.e2, set_self (by rw [h.len]; decide)⟩
noncomputable def confL (P : CtP) (cl : Nat → FM) : SM := (sFor (iRevRgM (mVar 1)) (gVar 12) (sSeq (sAsg (mL (cl P.ipick) (lCons (m2 ixQ (mVar 6) (mVar 10)) (lCons (m2 ixQ (mVar 8) (mVar 12)) (lCons (mVar 2) lNil)))) (gTupD 2 (gsCons (gVar 13) (gsCons (gVar 2) gsNil)))) (sSeq (sExpr (mM "list" appP (mVar 11) (lCons (m2 ixQ (mVar 4) (mVar 13)) lNil))) (sAsg (m2 ixQ (m2 ixQ (mVar 6) (mVar 10)) (mVar 13)) (gVar 10)))))
section
variable {P : CtP} {F : Nat → Nat → FM} (G : CtPF P F)
include G
theorem confL_ok (k : Nat) {t : NT} (ht : t.Ok) {n l wl p0 v0 ix : Nat} (hn : n ≤ 1000) {env : Vars} {S0 S : Sto} (hv0 : v0 < t.mv.length) (hp0 : p0 < t.W n v0) (qv : QV t n l wl p0 v0 ix env) (e1 : env[1]? = some (some (iD n))) (hW : WaysAt t n wl S0) (g0 : Gr S0 S) (hl : S0.length ≤ l) (hS : S[l]? = some (.lst [])) :
    Ow (confL P (F (k + 1)) env S) fun x => x.1 = .nx ∧ Gr S0 x.2.2 ∧ ∃ (w : List D) (pj : Nat), w.length = n ∧ (∀ s ∈ w, s ∈ t.ys) ∧ QV t n l wl pj (t.go v0 w) ix x.2.1 ∧ x.2.2[l]? = some (.lst w) ∧ t.go v0 w ∈ t.fn ∧ t.P v0 w = p0 := by
  unfold confL
  rw [ow_for]
  simp only [ow_iRevT, ow_var, e1, Option.some.injEq]
  refine ⟨_, rfl, (n : Int), rfl, ⟨by omega, by omega⟩, ?_⟩
  refine (forL_inv (rgD (n : Int)).reverse (fun j env S3 => Gr S0 S3 ∧ ∃ (w : List D) (pj : Nat), w.length = j ∧ (∀ s ∈ w, s ∈ t.ys) ∧ QV t n l wl pj (t.go v0 w) ix env ∧ S3[l]? = some (.lst w) ∧ pj < t.W (n - j) (t.go v0 w) ∧ t.Pp v0 w (n - j) + pj = p0)
    (fun x => x.1 = .nx ∧ Gr S0 x.2.2 ∧ ∃ (w : List D) (pj : Nat), w.length = n ∧ (∀ s ∈ w, s ∈ t.ys) ∧ QV t n l wl pj (t.go v0 w) ix x.2.1 ∧ x.2.2[l]? = some (.lst w) ∧ t.go v0 w ∈ t.fn ∧ t.P v0 w = p0) (fun j env S3 _ => rfl) (fun env S3 ⟨h1, w, pj, h2, h3, h4, h5, h6, h7⟩ => ?_) (fun j d env S3 hj ⟨h1, w, pj, h2, h3, h4, h5, h6, h7⟩ => ?_) n 0 _ _ (by rw [rgD_len]; omega) (by omega) ⟨g0, [], p0, rfl, by simp, qv, hS, by simpa [NT.go] using hp0, by simp [NT.Pp]⟩)
  · rw [rgD_len] at h2 h6 h7
    rw [Nat.sub_self] at h6 h7
    have hf : t.go v0 w ∈ t.fn := by
      by_cases h : t.go v0 w ∈ t.fn
      · exact h
      · simp [NT.W, h] at h6
    have h0 : pj = 0 := by
      simp [NT.W, hf] at h6
      exact h6
    exact ⟨rfl, h1, w, pj, h2, h3, h4, h5, hf, by rw [P_Pp]; omega⟩
  · have hjn : j < n := by
      rcases Nat.lt_or_ge j n with h | h
      · exact h
      · rw [List.getElem?_eq_none (by rw [rgD_len]; exact h)] at hj; cases hj
    rw [rgD_at hjn] at hj
    cases hj
    have hv : t.go v0 w < t.mv.length := ht.go hv0 h3
    have hrl := ht.rl hv
    obtain ⟨m, m1, m2⟩ := (hW.gr h1).ix (k := n - 1 - j) (by omega)
    simp only [ow_gVar]
    have q1 := h4.set (i := 12) (d := some (iD (n - 1 - j))) (by omega)
    have r12 := set_self (env := env) (i := 12) (d := some (iD (n - 1 - j))) (by rw [h4.len]; decide)
    generalize env.set 12 (some (iD (n - 1 - j))) = env2 at q1 r12
    rw [ow_seq]
    simp only [ow_asg, ow_mL, ow_cons, ow_m2, ow_var, q1.e6, q1.e10, q1.e8, r12, q1.e2, Option.some.injEq, ow_nil]
    refine ⟨_, rfl, _, rfl, ?_⟩
    rw [ix_row ht hv]
    simp only [ow_some]
    refine ⟨_, rfl, _, rfl, ?_⟩
    rw [m1]
    simp only [ow_some]
    refine ⟨_, rfl, ?_⟩
    have hs : t.W (n - j) (t.go v0 w) = ((t.row (t.go v0 w)).map (t.W (n - 1 - j))).sum := by
      rw [show n - j = (n - 1 - j) + 1 by omega]
      rfl
    refine (pick_ok G k (os := t.row (t.go v0 w)) (n := n - 1 - j) hrl.2 m2 (by rw [← hs]; exact h6)).imp ?_
    rintro ⟨d, S4⟩ ⟨i, p', v, e, hi, h8, h9⟩
    cases e
    have hil : i < t.ys.length := by rw [← hrl.1]; exact (List.getElem?_eq_some_iff.mp hi).1
    have hys : t.ys[i]? = some t.ys[i] := List.getElem?_eq_getElem hil
    have hmem : t.ys[i] ∈ t.ys := List.getElem_mem hil
    have hnum : num t.ys t.ys[i] = i := num_eq ht.ndy hys
    have hnx : t.nx (t.go v0 w) t.ys[i] = v := by
      have := (ht.nxt hv hmem).1
      rw [hnum, hi] at this
      exact (Option.some.inj this).symm
    simp only [ow_gTup, ow_gsCons, ow_gVar, ow_gsNil, List.length_cons, List.length_nil, true_and]
    have q2 := (q1.set (i := 13) (d := some (iD i)) (by omega)).set2 (pl' := p')
    have r13 : ((env2.set 13 (some (iD i))).set 2 (some (iD p')))[13]? = some (some (iD i)) := by
      rw [List.getElem?_set_ne (by decide)]
      exact set_self (by rw [q1.len]; decide)
    generalize (env2.set 13 (some (iD i))).set 2 (some (iD p')) = env3 at q2 r13
    rw [ow_seq]
    simp only [ow_expr, ow_mM, ow_var, q2.e11, Option.some.injEq, ow_cons, ow_m2, q2.e4, r13, ow_nil]
    refine ⟨_, rfl, ty_lst h5, _, rfl, _, rfl, ?_⟩
    rw [ix_tupN hys]
    simp only [ow_some]
    rw [app_lst h5 (by omega)]
    simp only [ow_some, ow_asg, ow_m2, ow_var, q2.e6, q2.e10, r13, Option.some.injEq]
    refine ⟨_, rfl, _, rfl, ?_⟩
    rw [ix_row ht hv]
    simp only [ow_some]
    refine ⟨_, rfl, ?_⟩
    rw [ix_tupN (x := iD v) (by rw [List.getElem?_map, hi]; rfl)]
    simp only [ow_some, ow_gVar]
    refine ⟨h1.set hl, w ++ [t.ys[i]], p', by simp [h2], fun s hs => ?_, ?_, ?_, ?_, ?_⟩
    · rcases List.mem_append.mp hs with hs | hs
      · exact h3 s hs
      · rw [List.mem_singleton.mp hs]; exact hmem
    · rw [NT.go_snoc, hnx]
      exact q2.set10
    · rw [get_set h5]
    · rw [NT.go_snoc, hnx, show n - (j + 1) = n - 1 - j by omega]
      exact h9
    · rw [Pp_snoc, hnum, show n - (j + 1) + 1 = n - j by omega, show n - (j + 1) = n - 1 - j by omega]
      omega
theorem conf_ok (k : Nat) {t : NT} (ht : t.Ok) {n : Nat} (hn : n ≤ 1000) {pl : Int} {S : Sto} :
    Ow (F (k + 3) P.iconfiguration_at [t.enc, iD n, .int pl] S) fun r => Gr S r.2 ∧ (¬ (0 ≤ pl ∧ pl < (t.C n : Nat)) → r.1 = .non) ∧ (0 ≤ pl ∧ pl < (t.C n : Nat) → ∃ (p : D) (w : List D), r.1 = .tup [p, .tup w] ∧ p ∈ t.sts ∧ w.length = n ∧ (∀ s ∈ w, s ∈ t.ys) ∧ t.go (t.sv p) w ∈ t.fn ∧ ((t.pl p w : Nat) : Int) = pl) := by
  rw [G.econfiguration_at, ow_runB]
  unfold bconfiguration_at
  rw [show (sFor (iRevRgM (mVar 1)) (gVar 12) (sSeq (sAsg (mL (F (k + 2) P.ipick) (lCons (m2 ixQ (mVar 6) (mVar 10)) (lCons (m2 ixQ (mVar 8) (mVar 12)) (lCons (mVar 2) lNil)))) (gTupD 2 (gsCons (gVar 13) (gsCons (gVar 2) gsNil)))) (sSeq (sExpr (mM "list" appP (mVar 11) (lCons (m2 ixQ (mVar 4) (mVar 13)) lNil))) (sAsg (m2 ixQ (m2 ixQ (mVar 6) (mVar 10)) (mVar 13)) (gVar 10))))) = confL P (F (k + 2)) from rfl]
  rw [ow_seq]
  simp [-ow_seq, NT.enc]
  rw [ow_seq]
  have non : ¬ (0 ≤ pl ∧ pl < (t.C n : Nat)) → ∀ S1, Gr S S1 → Gr S S1 ∧ (¬ (0 ≤ pl ∧ pl < (t.C n : Nat)) → D.non = .non) ∧ (0 ≤ pl ∧ pl < (t.C n : Nat) → ∃ (p : D) (w : List D), D.non = .tup [p, .tup w] ∧ p ∈ t.sts ∧ w.length = n ∧ (∀ s ∈ w, s ∈ t.ys) ∧ t.go (t.sv p) w ∈ t.fn ∧ ((t.pl p w : Nat) : Int) = pl) := fun h S1 g => ⟨g, fun _ => rfl, fun z => absurd z h⟩
  simp [-ow_seq]
  by_cases h0 : 0 ≤ pl
  · simp [-ow_seq, h0]
    refine (count_ok G k ht hn).imp ?_
    rintro ⟨d, S1⟩ ⟨rfl, g1⟩
    dsimp only at g1 ⊢
    rw [show ltP (.int pl) (iD (t.C n)) S1 = some (.bl (decide (pl < ((t.C n : Nat) : Int))), S1) from lt_ii]
    simp only [ow_some, asB_bl]
    by_cases h1 : pl < ((t.C n : Nat) : Int)
    · simp [-ow_seq, h1]
      rw [ow_seq]
      simp [-ow_seq]
      refine (ways_ok G (k + 1) ht hn).imp ?_
      rintro ⟨d, S2⟩ ⟨g2, wl, rfl, hW⟩
      dsimp only at g2 hW ⊢
      obtain ⟨m, m1, m2⟩ := hW.ix (Nat.le_refl _)
      rw [ow_seq]
      simp [-ow_seq, m1]
      obtain ⟨p0, rfl⟩ : ∃ p0 : Nat, pl = p0 := ⟨pl.toNat, by omega⟩
      refine (pick_ok G (k + 1) (os := t.st) (n := n) (p := p0) ht.st m2 (by show p0 < t.C n; omega)).imp ?_
      rintro ⟨d, S3⟩ ⟨i, p', v, e, hi, h8, h9⟩
      cases e
      have hil : i < t.sts.length := by rw [← ht.ls]; exact (List.getElem?_eq_some_iff.mp hi).1
      have hys : t.sts[i]? = some t.sts[i] := List.getElem?_eq_getElem hil
      have hmem : t.sts[i] ∈ t.sts := List.getElem_mem hil
      have hnum : num t.sts t.sts[i] = i := num_eq ht.nds hys
      have hsv : t.sv t.sts[i] = v := by
        have := (ht.sv' hmem).1
        rw [hnum, hi] at this
        exact (Option.some.inj this).symm
      simp [-ow_seq]
      rw [ow_seq]
      simp [-ow_seq]
      rw [ix_tupN (x := iD v) (by rw [List.getElem?_map, hi]; rfl)]
      simp only [ow_some]
      rw [ow_seq]
      simp [-ow_seq, lst_ok]
      rw [ow_seq]
      refine (confL_ok G (k + 1) ht (n := n) (l := S2.length) (wl := wl) (p0 := p') (v0 := v) (ix := i) hn (ht.st v (List.mem_of_getElem? hi)) h9 (env := [some t.enc, some (iD n), some (iD p'), some (.tup t.sts), some (.tup t.ys), some (.tup (t.st.map iD)), some (.tup (t.mv.map fun r => .tup (r.map iD))), some (.tup (t.fn.map iD)), some (.loc wl), some (iD i), some (iD v), some (.loc S2.length), none, none]) (S := S2 ++ [.lst []]) ⟨rfl, rfl, rfl, rfl, rfl, rfl, rfl, rfl, rfl⟩ rfl hW .app (Nat.le_refl _) get_snoc).imp ?_
      rintro ⟨fl, env, S4⟩ ⟨rfl, g4, w, pj, w1, w2, qv, w3, w4, w5⟩
      dsimp only at g4 qv w3 ⊢
      simp only [ow_ret, ow_mL, ow_cons, ow_m2, ow_var, qv.e3, qv.e9, qv.e11, Option.some.injEq, ow_nil]
      refine ⟨_, rfl, _, rfl, ?_⟩
      rw [ix_tupN hys]
      simp only [ow_some]
      refine ⟨_, rfl, ?_⟩
      rw [tuple_lst w3]
      simp only [ow_some]
      rw [tup_ok (by simp)]
      simp only [ow_some]
      refine ⟨g1.trans (g2.trans g4), fun h => absurd h1 (by simpa using h), t.sts[i], w, rfl, hmem, w1, w2, ?_, ?_⟩
      · rw [hsv]; exact w4
      · unfold NT.pl
        rw [hsv, hnum, w5, w1]
        have := h8
        omega
    · simp [-ow_seq, h1]
      refine ⟨g1, ?_⟩
      omega
  · simp [-ow_seq, h0]
    exact .refl
end
end tb
end DL
set_option maxHeartbeats 2000000
namespace DL
namespace tb
open PySem
def wds (ys : List D) : Nat → List (List D)
  | 0 => [[]]
  | n + 1 => ys.flatMap fun s => (wds ys n).map (s :: ·)
theorem mem_wds {ys : List D} : ∀ {n : Nat} {w : List D}, w ∈ wds ys n ↔ w.length = n ∧ ∀ s ∈ w, s ∈ ys
  | 0, w => by simp [wds, List.length_eq_zero_iff]; intro h; subst h; simp
  | n + 1, w => by
    simp only [wds, List.mem_flatMap, List.mem_map]
    constructor
    · rintro ⟨s, hs, u, hu, rfl⟩
      obtain ⟨h1, h2⟩ := mem_wds.mp hu
      exact ⟨by simp [h1], fun z hz => by
        rcases List.mem_cons.mp hz with rfl | hz
        · exact hs
        · exact h2 z hz⟩
    · rintro ⟨h1, h2⟩
      cases w with
      | nil => simp at h1
      | cons s u => exact ⟨s, h2 s List.mem_cons_self, u, mem_wds.mpr ⟨by simpa using h1, fun z hz => h2 z (List.mem_cons_of_mem _ hz)⟩, rfl⟩
theorem wds_nodup {ys : List D} (nd : ys.Nodup) : ∀ {n : Nat}, (wds ys n).Nodup
  | 0 => by simp [wds]
  | n + 1 => by
    unfold wds List.Nodup
    rw [List.pairwise_flatMap]
    refine ⟨fun s _ => ?_, List.Pairwise.imp (fun {a b} h x hx y hy e => ?_) nd⟩
    · exact List.Pairwise.map _ (fun a b h e => h (by simpa using e)) (wds_nodup nd (n := n))
    · obtain ⟨u, _, rfl⟩ := List.mem_map.mp hx
      obtain ⟨v, _, rfl⟩ := List.mem_map.mp hy
      simp at e
      exact h e.1
theorem lvl_nodup : ∀ {n : Nat}, (lvl n).Nodup
  | 0 => by simp [lvl]
  | n + 1 => by
    unfold lvl
    rw [List.nodup_append]
    refine ⟨List.Pairwise.map _ (fun a b h e => h (List.append_cancel_right e)) lvl_nodup, List.Pairwise.map _ (fun a b h e => h (List.append_cancel_right e)) lvl_nodup, fun a ha b hb e => ?_⟩
    obtain ⟨u, _, rfl⟩ := List.mem_map.mp ha
    obtain ⟨v, _, rfl⟩ := List.mem_map.mp hb
    have := (List.append_inj' e rfl).2
    simp at this
    exact absurd this (by decide)
theorem lvl_full : ∀ {n : Nat} {w : List D}, w.length = n → (∀ s ∈ w, s ∈ AB) → w ∈ lvl n
  | 0, w, h, _ => by simp [lvl]; exact List.length_eq_zero_iff.mp h
  | n + 1, w, h, hw => by
    have hne : w ≠ [] := by intro z; subst z; simp at h
    have e := List.dropLast_concat_getLast hne
    have h1 : w.dropLast ∈ lvl n := lvl_full (by simp [h]) fun s hs => hw s ((List.dropLast_sublist w).subset hs)
    have h2 := hw _ (List.getLast_mem hne)
    unfold lvl
    rw [← e]
    simp only [AB, List.mem_cons, List.not_mem_nil, or_false] at h2
    rcases h2 with h2 | h2 <;> rw [h2]
    · exact List.mem_append_left _ (List.mem_map.mpr ⟨_, h1, rfl⟩)
    · exact List.mem_append_right _ (List.mem_map.mpr ⟨_, h1, rfl⟩)
theorem stk_filter {n : Nat} : ∀ {m : Nat}, n ≤ m → (stk m).filter (fun w => decide (w.length = n)) = lvl n
  | 0, h => by
    obtain rfl : n = 0 := by omega
    simp [stk, lvl]
  | m + 1, h => by
    show (stk m ++ lvl (m + 1)).filter _ = _
    rw [List.filter_append]
    by_cases hn : n = m + 1
    · subst hn
      rw [List.filter_eq_nil_iff.mpr fun w hw => by have := (mem_stk hw).1; simp; omega, List.filter_eq_self.mpr fun w hw => by simp [(mem_lvl hw).1]]
      rfl
    · rw [stk_filter (m := m) (by omega), List.filter_eq_nil_iff.mpr fun w hw => by have := (mem_lvl hw).1; simp; omega, List.append_nil]
theorem pair_ix {α : Type} {R : α → α → Prop} {l : List α} (h : l.Pairwise R) {a b : α} (ha : a ∈ l) (hb : b ∈ l) : R a b ∨ R b a ∨ a = b := by
  obtain ⟨i, hi, rfl⟩ := List.mem_iff_getElem.mp ha
  obtain ⟨j, hj, rfl⟩ := List.mem_iff_getElem.mp hb
  rw [List.pairwise_iff_getElem] at h
  rcases Nat.lt_trichotomy i j with h1 | h1 | h1
  · exact .inl (h i j hi hj h1)
  · subst h1; exact .inr (.inr rfl)
  · exact .inr (.inl (h j i hj hi h1))
def ordB (l : List D) : Bool := match l with
  | [] => true
  | a :: l => (l.all fun b => tokLt a b && !tokLt b a) && ordB l
theorem ordB_pw : ∀ {l : List D}, ordB l = true → l.Pairwise fun a b => tokLt a b = true ∧ tokLt b a = false
  | [], _ => .nil
  | a :: l, h => by
    simp only [ordB, Bool.and_eq_true, List.all_eq_true, Bool.not_eq_true'] at h
    exact .cons h.1 (ordB_pw h.2)
theorem ab_ord : ∀ {n : Nat}, n ≤ 5 → ordB ((wds AB n).map .tup) = true ∧ okE ((lvl n).map .tup)
  | 0, _ => ⟨by decide +kernel, .inr rfl⟩
  | 1, _ => ⟨by decide +kernel, .inl (by decide +kernel)⟩
  | 2, _ => ⟨by decide +kernel, .inl (by decide +kernel)⟩
  | 3, _ => ⟨by decide +kernel, .inl (by decide +kernel)⟩
  | 4, _ => ⟨by decide +kernel, .inl (by decide +kernel)⟩
  | 5, _ => ⟨by decide +kernel, .inl (by decide +kernel)⟩
  | n + 6, h => by omega
theorem srt_stk {n : Nat} (hn : n ≤ 5) : sortD ((lvl n).map .tup) ((lvl n).map .tup) = (wds AB n).map .tup := by
  have pw := ordB_pw (ab_ord hn).1
  have h := sortD_ok (f := id) (xs := (lvl n).map D.tup)
  rw [List.map_id] at h
  have nd : AB.Nodup := by
    simp [AB]
    decide
  have pm : ((lvl n).map D.tup).Perm ((wds AB n).map D.tup) := by
    refine List.Perm.map _ ((List.perm_ext_iff_of_nodup lvl_nodup (wds_nodup nd)).mpr fun w => ?_)
    rw [mem_wds]
    exact ⟨mem_lvl, fun z => lvl_full z.1 z.2⟩
  refine List.Perm.eq_of_pairwise (le := fun a b => tokLt b a = false) (fun a b ha hb h1 h2 => ?_) h.2 (pw.imp fun z => z.2) (h.1.trans pm)
  have ha' : a ∈ (wds AB n).map D.tup := pm.mem_iff.mp (h.1.mem_iff.mp ha)
  rcases pair_ix pw ha' hb with z | z | z
  · rw [z.1] at h2; cases h2
  · rw [z.1] at h1; cases h1
  · exact z
section
variable {t : NT}
noncomputable def accL (t : NT) (n v : Nat) : List (List D) := by
  classical
  exact (wds t.ys n).filter fun w => decide (t.go v w ∈ t.fn)
theorem mem_acc {n v : Nat} {w : List D} : w ∈ accL t n v ↔ (w.length = n ∧ ∀ s ∈ w, s ∈ t.ys) ∧ t.go v w ∈ t.fn := by
  unfold accL
  rw [List.mem_filter, mem_wds]
  simp
theorem acc_succ {n v : Nat} : accL t (n + 1) v = t.ys.flatMap fun s => (accL t n (t.nx v s)).map (s :: ·) := by
  classical
  unfold accL
  rw [show wds t.ys (n + 1) = t.ys.flatMap fun s => (wds t.ys n).map (s :: ·) from rfl, List.filter_flatMap]
  congr 1
  funext s
  rw [List.filter_map]
  rfl
theorem row_eq (ht : t.Ok) {v : Nat} (hv : v < t.mv.length) : t.row v = t.ys.map (t.nx v) := by
  obtain ⟨h1, _⟩ := ht.rl hv
  refine List.ext_getElem (by simp [h1]) fun i h2 h3 => ?_
  have hi : i < t.ys.length := by rw [← h1]; exact h2
  have hn : num t.ys t.ys[i] = i := num_eq ht.ndy (List.getElem?_eq_getElem hi)
  have := (ht.nxt hv (List.getElem_mem hi)).1
  rw [hn, List.getElem?_eq_getElem h2] at this
  simpa using this
theorem acc_len (ht : t.Ok) : ∀ {n v : Nat}, v < t.mv.length → (accL t n v).length = t.W n v
  | 0, v, hv => by
    by_cases h : v ∈ t.fn
    · simp [accL, wds, NT.go, NT.W, h]
    · simp [accL, wds, NT.go, NT.W, h]
  | n + 1, v, hv => by
    rw [acc_succ, List.length_flatMap]
    simp only [NT.W]
    rw [row_eq ht hv, List.map_map]
    congr 1
    refine List.map_congr_left fun s hs => ?_
    simp only [List.length_map, Function.comp]
    exact acc_len ht (ht.nxt hv hs).2
theorem flat_at {α β : Type} {f : α → List β} : ∀ {l : List α} {i j : Nat} {x : α}, l[i]? = some x → j < (f x).length → (l.flatMap f)[((l.take i).map fun y => (f y).length).sum + j]? = (f x)[j]?
  | a :: l, 0, j, x, h, hj => by
    simp at h
    subst h
    simp [List.getElem?_append_left hj]
  | a :: l, i + 1, j, x, h, hj => by
    have ih := flat_at (l := l) (i := i) (j := j) (x := x) (by simpa using h) hj
    simp only [List.flatMap_cons, List.take_succ_cons, List.map_cons, List.sum_cons]
    rw [List.getElem?_append_right (by omega), ← ih]
    congr 1
    omega
theorem acc_at (ht : t.Ok) : ∀ {n v : Nat} {w : List D}, v < t.mv.length → w ∈ accL t n v → (accL t n v)[t.P v w]? = some w ∧ t.P v w < (accL t n v).length
  | 0, v, w, hv, h => by
    obtain ⟨⟨h1, _⟩, h3⟩ := mem_acc.mp h
    obtain rfl := List.length_eq_zero_iff.mp h1
    have : v ∈ t.fn := by simpa [NT.go] using h3
    simp [accL, wds, NT.go, NT.P, this]
  | n + 1, v, w, hv, h => by
    obtain ⟨⟨h1, h2⟩, h3⟩ := mem_acc.mp h
    cases w with
    | nil => simp at h1
    | cons s u =>
      have hs := h2 s List.mem_cons_self
      have hv' := (ht.nxt hv hs).2
      have hu : u ∈ accL t n (t.nx v s) := mem_acc.mpr ⟨⟨by simpa using h1, fun z hz => h2 z (List.mem_cons_of_mem _ hz)⟩, h3⟩
      obtain ⟨e1, e2⟩ := acc_at ht hv' hu
      have lu : u.length = n := by simpa using h1
      have key := flat_at (f := fun s => (accL t n (t.nx v s)).map (s :: ·)) (l := t.ys) (i := num t.ys s) (j := t.P (t.nx v s) u) (num_at hs) (by simpa using e2)
      have hsum : ((t.ys.take (num t.ys s)).map fun y => ((accL t n (t.nx v y)).map (y :: ·)).length).sum = (((t.row v).take (num t.ys s)).map (t.W u.length)).sum := by
        rw [row_eq ht hv, ← List.map_take, List.map_map]
        congr 1
        refine List.map_congr_left fun y hy => ?_
        simp only [List.length_map, Function.comp]
        rw [lu]
        exact acc_len ht (ht.nxt hv (List.mem_of_mem_take hy)).2
      have hP : t.P v (s :: u) = ((t.ys.take (num t.ys s)).map fun y => ((accL t n (t.nx v y)).map (y :: ·)).length).sum + t.P (t.nx v s) u := by rw [hsum]; rfl
      have r : (accL t (n + 1) v)[t.P v (s :: u)]? = some (s :: u) := by
        rw [acc_succ, hP, key, List.getElem?_map, e1]
        rfl
      exact ⟨r, (List.getElem?_eq_some_iff.mp r).1⟩
def cfD (p : D) (w : List D) : D := .tup [p, .tup w]
theorem cf_inj {p q : D} {w u : List D} : cfD p w = cfD q u ↔ p = q ∧ w = u := by simp [cfD]
noncomputable def dueL (t : NT) (n : Nat) : List D := t.sts.flatMap fun p => (accL t n (t.sv p)).map (cfD p)
theorem mem_due {n : Nat} {p : D} {w : List D} : cfD p w ∈ dueL t n ↔ p ∈ t.sts ∧ w ∈ accL t n (t.sv p) := by
  simp only [dueL, List.mem_flatMap, List.mem_map]
  constructor
  · rintro ⟨q, hq, u, hu, e⟩
    obtain ⟨rfl, rfl⟩ := cf_inj.mp e
    exact ⟨hq, hu⟩
  · rintro ⟨h1, h2⟩
    exact ⟨p, h1, w, h2, rfl⟩
theorem st_eq (ht : t.Ok) : t.st = t.sts.map t.sv := by
  refine List.ext_getElem (by simp [ht.ls]) fun i h2 h3 => ?_
  have hi : i < t.sts.length := by rw [← ht.ls]; exact h2
  have hn : num t.sts t.sts[i] = i := num_eq ht.nds (List.getElem?_eq_getElem hi)
  have := (ht.sv' (List.getElem_mem hi)).1
  rw [hn, List.getElem?_eq_getElem h2] at this
  simpa using this
theorem due_len (ht : t.Ok) {n : Nat} : (dueL t n).length = t.C n := by
  unfold dueL NT.C
  rw [List.length_flatMap, st_eq ht, List.map_map]
  congr 1
  refine List.map_congr_left fun p hp => ?_
  simp only [List.length_map, Function.comp]
  exact acc_len ht (ht.sv' hp).2
theorem due_at (ht : t.Ok) {n : Nat} {p : D} {w : List D} (h : cfD p w ∈ dueL t n) : (dueL t n)[t.pl p w]? = some (cfD p w) := by
  obtain ⟨hp, hw⟩ := mem_due.mp h
  obtain ⟨e1, e2⟩ := acc_at ht (ht.sv' hp).2 hw
  have lw := (mem_acc.mp hw).1.1
  have key := flat_at (f := fun p => (accL t n (t.sv p)).map (cfD p)) (l := t.sts) (i := num t.sts p) (j := t.P (t.sv p) w) (num_at hp) (by simpa using e2)
  have hsum : ((t.sts.take (num t.sts p)).map fun y => ((accL t n (t.sv y)).map (cfD y)).length).sum = ((t.st.take (num t.sts p)).map (t.W w.length)).sum := by
    rw [st_eq ht, ← List.map_take, List.map_map]
    congr 1
    refine List.map_congr_left fun y hy => ?_
    simp only [List.length_map, Function.comp]
    rw [lw]
    exact acc_len ht (ht.sv' (List.mem_of_mem_take hy)).2
  have hP : t.pl p w = ((t.sts.take (num t.sts p)).map fun y => ((accL t n (t.sv y)).map (cfD y)).length).sum + t.P (t.sv p) w := by rw [hsum]; rfl
  unfold dueL
  rw [hP, key, List.getElem?_map, e1]
  rfl
theorem due_nodup (ht : t.Ok) {n : Nat} : (dueL t n).Nodup := by
  classical
  unfold dueL List.Nodup
  rw [List.pairwise_flatMap]
  refine ⟨fun p _ => ?_, List.Pairwise.imp (fun {a b} h x hx y hy e => ?_) ht.nds⟩
  · have nd : (accL t n (t.sv p)).Nodup := by
      unfold accL
      exact (wds_nodup ht.ndy).filter _
    exact List.Pairwise.map _ (fun a b h e => h (cf_inj.mp e).2) nd
  · obtain ⟨u, _, rfl⟩ := List.mem_map.mp hx
    obtain ⟨v, _, rfl⟩ := List.mem_map.mp hy
    exact h (cf_inj.mp e).1
theorem due_num (ht : t.Ok) {n : Nat} {p : D} {w : List D} (h : cfD p w ∈ dueL t n) : num (dueL t n) (cfD p w) = t.pl p w := num_eq (due_nodup ht) (due_at ht h)
end
end tb
end DL
namespace DL
namespace k24
open PySem PySem.Spec L2
open PyProof.Rows hiding St
abbrev prg : Program := PySem.Challenge.pw_calltowers_k24_places_of_configurations
abbrev st0 : Stmt := topOf prg 2
abbrev nm0 : List Str := ["table", "n", "_", "moves", "finals", "counts", "before", "node", "target", "targets"]
abbrev ps0 : List Str := ["table", "n"]
theorem sc0 : FnScope nm0 ps0 (defScope st0) := ⟨rfl, rfl, rfl, by decide +kernel, rfl, by decide +kernel, by decide +kernel⟩
abbrev st1 : Stmt := topOf prg 3
abbrev nm1 : List Str := ["table", "n", "ways", "start"]
abbrev ps1 : List Str := ["table", "n"]
theorem sc1 : FnScope nm1 ps1 (defScope st1) := ⟨rfl, rfl, rfl, by decide +kernel, rfl, by decide +kernel, by decide +kernel⟩
abbrev st2 : Stmt := topOf prg 4
abbrev nm2 : List Str := ["table", "configuration", "states", "symbols", "starts", "moves", "finals", "p", "stack", "ways", "at", "place", "node", "done", "symbol", "number", "rest", "start", "target"]
abbrev ps2 : List Str := ["table", "configuration"]
theorem sc2 : FnScope nm2 ps2 (defScope st2) := ⟨rfl, rfl, rfl, by decide +kernel, rfl, by decide +kernel, by decide +kernel⟩
abbrev st3 : Stmt := topOf prg 5
abbrev nm3 : List Str := ["options", "counts", "place", "index", "option"]
abbrev ps3 : List Str := ["options", "counts", "place"]
theorem sc3 : FnScope nm3 ps3 (defScope st3) := ⟨rfl, rfl, rfl, by decide +kernel, rfl, by decide +kernel, by decide +kernel⟩
abbrev st4 : Stmt := topOf prg 6
abbrev nm4 : List Str := ["table", "n", "place", "states", "symbols", "starts", "moves", "_", "ways", "index", "node", "stack", "rest", "number"]
abbrev ps4 : List Str := ["table", "n", "place"]
theorem sc4 : FnScope nm4 ps4 (defScope st4) := ⟨rfl, rfl, rfl, by decide +kernel, rfl, by decide +kernel, by decide +kernel⟩
abbrev st5 : Stmt := topOf prg 8
abbrev nm5 : List Str := ["thing", "part"]
abbrev ps5 : List Str := ["thing"]
theorem sc5 : FnScope nm5 ps5 (defScope st5) := ⟨rfl, rfl, rfl, by decide +kernel, rfl, by decide +kernel, by decide +kernel⟩
abbrev st6 : Stmt := inClass (topOf prg 11) 0
abbrev nm6 : List Str := ["self", "edges", "edge"]
abbrev ps6 : List Str := ["self", "edges"]
theorem sc6 : FnScope nm6 ps6 (defScope st6) := ⟨rfl, rfl, rfl, by decide +kernel, rfl, by decide +kernel, by decide +kernel⟩
abbrev st7 : Stmt := inClass (topOf prg 11) 1
abbrev nm7 : List Str := ["self", "edge", "node", "symbol", "target"]
abbrev ps7 : List Str := ["self", "edge"]
theorem sc7 : FnScope nm7 ps7 (defScope st7) := ⟨rfl, rfl, rfl, by decide +kernel, rfl, by decide +kernel, by decide +kernel⟩
abbrev st8 : Stmt := inClass (topOf prg 11) 3
abbrev nm8 : List Str := ["self", "nodes", "symbol", "found", "node", "target"]
abbrev ps8 : List Str := ["self", "nodes", "symbol"]
theorem sc8 : FnScope nm8 ps8 (defScope st8) := ⟨rfl, rfl, rfl, by decide +kernel, rfl, by decide +kernel, by decide +kernel⟩
abbrev st9 : Stmt := inClass (topOf prg 11) 4
abbrev nm9 : List Str := ["self", "nodes", "found", "waiting", "target", "node"]
abbrev ps9 : List Str := ["self", "nodes"]
theorem sc9 : FnScope nm9 ps9 (defScope st9) := ⟨rfl, rfl, rfl, by decide +kernel, rfl, by decide +kernel, by decide +kernel⟩
abbrev st10 : Stmt := inClass (topOf prg 13) 0
abbrev nm10 : List Str := ["self"]
abbrev ps10 : List Str := ["self"]
theorem sc10 : FnScope nm10 ps10 (defScope st10) := ⟨rfl, rfl, rfl, by decide +kernel, rfl, by decide +kernel, by decide +kernel⟩
abbrev st11 : Stmt := inClass (topOf prg 13) 1
abbrev nm11 : List Str := ["self", "thing"]
abbrev ps11 : List Str := ["self", "thing"]
theorem sc11 : FnScope nm11 ps11 (defScope st11) := ⟨rfl, rfl, rfl, by decide +kernel, rfl, by decide +kernel, by decide +kernel⟩
abbrev st12 : Stmt := topOf prg 14
abbrev nm12 : List Str := ["states", "symbols", "starts", "follow", "is_final", "numbers", "first", "moves", "thing", "finals", "number", "start", "symbol"]
abbrev ps12 : List Str := ["states", "symbols", "starts", "follow", "is_final"]
theorem sc12 : FnScope nm12 ps12 (defScope st12) := ⟨rfl, rfl, rfl, by decide +kernel, rfl, by decide +kernel, by decide +kernel⟩
abbrev st13 : Stmt := topOf prg 15
abbrev nm13 : List Str := ["ways", "nodes"]
abbrev ps13 : List Str := ["ways", "nodes"]
theorem sc13 : FnScope nm13 ps13 (defScope st13) := ⟨rfl, rfl, rfl, by decide +kernel, rfl, by decide +kernel, by decide +kernel⟩
abbrev st14 : Stmt := topOf prg 16
abbrev nm14 : List Str := ["machine", "states", "symbols", "edges", "finals", "ways", "state"]
abbrev ps14 : List Str := ["machine", "states", "symbols"]
theorem sc14 : FnScope nm14 ps14 (defScope st14) := ⟨rfl, rfl, rfl, by decide +kernel, rfl, by decide +kernel, by decide +kernel⟩
abbrev st15 : Stmt := topOf prg 17
abbrev nm15 : List Str := ["table", "configuration", "states", "symbols", "starts", "moves", "finals", "p", "stack", "node", "symbol"]
abbrev ps15 : List Str := ["table", "configuration"]
theorem sc15 : FnScope nm15 ps15 (defScope st15) := ⟨rfl, rfl, rfl, by decide +kernel, rfl, by decide +kernel, by decide +kernel⟩
abbrev st16 : Stmt := topOf prg 19
abbrev nm16 : List Str := ["_law_script", "_law_cell"]
abbrev ps16 : List Str := ["_law_script"]
theorem sc16 : FnScope nm16 ps16 (defScope st16) := ⟨rfl, rfl, rfl, by decide +kernel, rfl, by decide +kernel, by decide +kernel⟩
abbrev st17 : Stmt := topOf prg 20
abbrev nm17 : List Str := ["_law_state", "_law_bound", "_law_cell", "_law_number"]
abbrev ps17 : List Str := ["_law_state", "_law_bound"]
theorem sc17 : FnScope nm17 ps17 (defScope st17) := ⟨rfl, rfl, rfl, by decide +kernel, rfl, by decide +kernel, by decide +kernel⟩
abbrev st18 : Stmt := topOf prg 21
abbrev nm18 : List Str := ["_law_state", "_law_things"]
abbrev ps18 : List Str := ["_law_state", "_law_things"]
theorem sc18 : FnScope nm18 ps18 (defScope st18) := ⟨rfl, rfl, rfl, by decide +kernel, rfl, by decide +kernel, by decide +kernel⟩
abbrev st19 : Stmt := topOf prg 24
abbrev nm19 : List Str := ["_law_things", "_law_kept", "_law_thing"]
abbrev ps19 : List Str := ["_law_things"]
theorem sc19 : FnScope nm19 ps19 (defScope st19) := ⟨rfl, rfl, rfl, by decide +kernel, rfl, by decide +kernel, by decide +kernel⟩
abbrev st20 : Stmt := topOf prg 25
abbrev nm20 : List Str := ["_law_state", "_law_plainly", "_law_nodes", "_law_targets", "_law_symbols", "_law_edges", "_law_k", "_law_finals", "_law_node"]
abbrev ps20 : List Str := ["_law_state", "_law_plainly"]
theorem sc20 : FnScope nm20 ps20 (defScope st20) := ⟨rfl, rfl, rfl, by decide +kernel, rfl, by decide +kernel, by decide +kernel⟩
abbrev st21 : Stmt := topOf prg 26
abbrev nm21 : List Str := ["_law_most", "_law_stacks_here", "_law_level", "_law_k", "_law_stack"]
abbrev ps21 : List Str := ["_law_most"]
theorem sc21 : FnScope nm21 ps21 (defScope st21) := ⟨rfl, rfl, rfl, by decide +kernel, rfl, by decide +kernel, by decide +kernel⟩
abbrev st22 : Stmt := topOf prg 27
abbrev nm22 : List Str := ["_law_script", "_law_state", "_law_table", "_law_n", "_law_stacks_here", "_law_due", "_law_p", "_law_k", "_law_configuration", "_law_place", "_law_at", "_law_ways", "_law_total", "_law_node", "_law_stack", "_law_start_here", "_law_target", "_law_targets"]
abbrev ps22 : List Str := ["_law_script"]
theorem sc22 : FnScope nm22 ps22 (defScope st22) := ⟨rfl, rfl, rfl, by decide +kernel, rfl, by decide +kernel, by decide +kernel⟩
abbrev stN : Nat → Stmt
  | 0 => st0
  | 1 => st1
  | 2 => st2
  | 3 => st3
  | 4 => st4
  | 5 => st5
  | 6 => st6
  | 7 => st7
  | 8 => st8
  | 9 => st9
  | 10 => st10
  | 11 => st11
  | 12 => st12
  | 13 => st13
  | 14 => st14
  | 15 => st15
  | 16 => st16
  | 17 => st17
  | 18 => st18
  | 19 => st19
  | 20 => st20
  | 21 => st21
  | 22 => st22
  | _ => st0
abbrev psN : Nat → List Str
  | 0 => ps0
  | 1 => ps1
  | 2 => ps2
  | 3 => ps3
  | 4 => ps4
  | 5 => ps5
  | 6 => ps6
  | 7 => ps7
  | 8 => ps8
  | 9 => ps9
  | 10 => ps10
  | 11 => ps11
  | 12 => ps12
  | 13 => ps13
  | 14 => ps14
  | 15 => ps15
  | 16 => ps16
  | 17 => ps17
  | 18 => ps18
  | 19 => ps19
  | 20 => ps20
  | 21 => ps21
  | 22 => ps22
  | _ => []
abbrev nmN : Nat → Str
  | 0 => "ways_to_end"
  | 1 => "count"
  | 2 => "place_of"
  | 3 => "pick"
  | 4 => "configuration_at"
  | 5 => "rank"
  | 6 => "__init__"
  | 7 => "add"
  | 8 => "after"
  | 9 => "freely"
  | 10 => "__init__"
  | 11 => "of"
  | 12 => "made"
  | 13 => "closed"
  | 14 => "table_of"
  | 15 => "has"
  | 16 => "_law_start"
  | 17 => "_law_draw"
  | 18 => "_law_pick"
  | 19 => "_law_once"
  | 20 => "_law_machine"
  | 21 => "_law_stacks"
  | 22 => "law"
  | _ => "ways_to_end"
abbrev lex0 : Expr := argOf 3 (callOf ((defBody st14).getD 2 dfltS))
abbrev lam0 : LamI := ⟨(("table_of" : Str) ++ (".<locals>." : Str) ++ ("<lambda>" : Str)), lamPar lex0, lamBody lex0, lamScope lex0, ["ways"]⟩
abbrev lnm0 : List Str := ["nodes", "symbol", "ways"]
theorem lsc0 : NdefX.NScope lnm0 ["nodes", "symbol"] (LamI.fr lam0) (LamI.scope lam0) := NdefX.nscope_by (by decide +kernel)
abbrev lex1 : Expr := argOf 4 (callOf ((defBody st14).getD 2 dfltS))
abbrev lam1 : LamI := ⟨(("table_of" : Str) ++ (".<locals>." : Str) ++ ("<lambda>" : Str)), lamPar lex1, lamBody lex1, lamScope lex1, ["finals"]⟩
abbrev lnm1 : List Str := ["nodes", "finals", "node"]
theorem lsc1 : NdefX.NScope lnm1 ["nodes"] (LamI.fr lam1) (LamI.scope lam1) := NdefX.nscope_by (by decide +kernel)
abbrev lmN : Nat → Option LamI
  | 0 => some lam0
  | 1 => some lam1
  | _ => none
abbrev arN : Nat → Nat
  | 0 => 2
  | 1 => 1
  | _ => 0
structure LamT (mg : Str → Option Value) (base : Heap) (fd : Nat → FuncData) (ca : CAx) (cc pp : Nat → Addr) : Prop where
  m14 : (pp 14, (("table_of" : Str) ++ (".<locals>." : Str) ++ ("<lambda>" : Str))) ∈ ca.tb
  u14 : ∀ q ∈ ca.tb, q.1 = pp 14 → q.2 = (("table_of" : Str) ++ (".<locals>." : Str) ++ ("<lambda>" : Str))
  c14 : (fd 14).code = .ref (cc 14)
  b14 : LamX.TabB base mg (cc 14) (pp 14)
  lm : ca.lm = lmN
theorem LamT.wv {mg : Str → Option Value} {base : Heap} {fd : Nat → FuncData} {ca : CAx} {cc pp : Nat → Addr} (t : LamT mg base fd ca cc pp) (cv : List CloI) : LamT mg base fd (ca.wv cv) cc pp := ⟨t.m14, t.u14, t.c14, t.b14, t.lm⟩
noncomputable def bd0 (cl cl2 : Nat → FM) : SM := (sSeq (sAsg (mVar 0) (gTupD 5 (gsCons (gVar 2) (gsCons (gVar 2) (gsCons (gVar 2) (gsCons (gVar 3) (gsCons (gVar 4) gsNil))))))) (sSeq (sAsg (mL lstP (lCons (mLc (iRng1M (mL lenQ (lCons (mVar 3) lNil))) [7] (.nm 7) bYes (mL toIntP (lCons (m2 inQ (mVar 7) (mVar 4)) lNil))) lNil)) (gVar 5)) (sSeq (sFor (iRng1M (mVar 1)) (gVar 2) (sSeq (sAsg (m2 ixQ (mVar 5) (m1 negP (mC (.int 1)))) (gVar 6)) (sExpr (mM "list" appP (mVar 5) (lCons (mLc (iSeq (mVar 3)) [9] (.nm 9) bYes (mL sumP (lCons (mLc (iSeq (mVar 9)) [8] (.nm 8) bYes (m2 ixQ (mVar 6) (mVar 8))) lNil))) lNil))))) (sRet (mVar 5)))))
noncomputable def bd1 (cl cl2 : Nat → FM) : SM := (sSeq (sAsg (m2 ixQ (mL (cl 0) (lCons (mVar 0) (lCons (mVar 1) lNil))) (mVar 1)) (gVar 2)) (sRet (mL sumP (lCons (mLc (iSeq (m2 ixQ (mVar 0) (mC (.int 2)))) [3] (.nm 3) bYes (m2 ixQ (mVar 2) (mVar 3))) lNil))))
noncomputable def bd2 (cl cl2 : Nat → FM) : SM := (sSeq (sAsg (mVar 0) (gTupD 5 (gsCons (gVar 2) (gsCons (gVar 3) (gsCons (gVar 4) (gsCons (gVar 5) (gsCons (gVar 6) gsNil))))))) (sSeq (sAsg (mVar 1) (gTupD 2 (gsCons (gVar 7) (gsCons (gVar 8) gsNil)))) (sSeq (sIf (bOr (bV (m2 notInQ (mVar 7) (mVar 2))) (bNot (bTru (mL allP (lCons (mLc (iSeq (mVar 8)) [14] (.nm 14) bYes (m2 inQ (mVar 14) (mVar 3))) lNil))))) (sRet (mC .non)) sNext) (sSeq (sAsg (mL (cl 0) (lCons (mVar 0) (lCons (mL lenQ (lCons (mVar 8) lNil)) lNil))) (gVar 9)) (sSeq (sAsg (mIdxT (mVar 2) (lCons (mVar 7) lNil)) (gVar 10)) (sSeq (sAsg (mL sumP (lCons (mLc (iSeq (mSl slP (mVar 4) oNone (oSome (mVar 10)))) [17] (.nm 17) bYes (m2 ixQ (m2 ixQ (mVar 9) (mL lenQ (lCons (mVar 8) lNil))) (mVar 17))) lNil)) (gVar 11)) (sSeq (sAsg (m2 ixQ (mVar 4) (mVar 10)) (gVar 12)) (sSeq (sFor (iEnmA (mVar 8)) (gTupD 2 (gsCons (gVar 13) (gsCons (gVar 14) gsNil))) (sSeq (sAsg (mIdxT (mVar 3) (lCons (mVar 14) lNil)) (gVar 15)) (sSeq (sAsg (m2 (intP fun i j => i - j) (m2 (intP fun i j => i - j) (mL lenQ (lCons (mVar 8) lNil)) (mVar 13)) (mC (.int 1))) (gVar 16)) (sSeq (sAug 11 (intP fun i j => i + j) (mL sumP (lCons (mLc (iSeq (mSl slP (m2 ixQ (mVar 5) (mVar 12)) oNone (oSome (mVar 15)))) [18] (.nm 18) bYes (m2 ixQ (m2 ixQ (mVar 9) (mVar 16)) (mVar 18))) lNil))) (sAsg (m2 ixQ (m2 ixQ (mVar 5) (mVar 12)) (mVar 15)) (gVar 12)))))) (sRet (mIf (bV (m2 inQ (mVar 12) (mVar 6))) (mVar 11) (mC .non)))))))))))
noncomputable def bd3 (cl cl2 : Nat → FM) : SM := (sSeq (sFor (iEnmA (mVar 0)) (gTupD 2 (gsCons (gVar 3) (gsCons (gVar 4) gsNil))) (sSeq (sIf (bV (m2 ltP (mVar 2) (m2 ixQ (mVar 1) (mVar 4)))) (sRet (mL tupP (lCons (mVar 3) (lCons (mVar 2) lNil)))) sNext) (sAug 2 (intP fun i j => i - j) (m2 ixQ (mVar 1) (mVar 4))))) (sRet (mL tupP (lCons (mC .non) (lCons (mVar 2) lNil)))))
noncomputable def bd4 (cl cl2 : Nat → FM) : SM := (sSeq (sAsg (mVar 0) (gTupD 5 (gsCons (gVar 3) (gsCons (gVar 4) (gsCons (gVar 5) (gsCons (gVar 6) (gsCons (gVar 7) gsNil))))))) (sSeq (sIf (bNot (bV (mChain leP ltP (mC (.int 0)) (mVar 2) (mL (cl 1) (lCons (mVar 0) (lCons (mVar 1) lNil)))))) (sRet (mC .non)) sNext) (sSeq (sAsg (mL (cl 0) (lCons (mVar 0) (lCons (mVar 1) lNil))) (gVar 8)) (sSeq (sAsg (mL (cl 3) (lCons (mVar 5) (lCons (m2 ixQ (mVar 8) (mVar 1)) (lCons (mVar 2) lNil)))) (gTupD 2 (gsCons (gVar 9) (gsCons (gVar 2) gsNil)))) (sSeq (sAsg (m2 ixQ (mVar 5) (mVar 9)) (gVar 10)) (sSeq (sAsg (mL lstP lNil) (gVar 11)) (sSeq (sFor (iRevRgM (mVar 1)) (gVar 12) (sSeq (sAsg (mL (cl 3) (lCons (m2 ixQ (mVar 6) (mVar 10)) (lCons (m2 ixQ (mVar 8) (mVar 12)) (lCons (mVar 2) lNil)))) (gTupD 2 (gsCons (gVar 13) (gsCons (gVar 2) gsNil)))) (sSeq (sExpr (mM "list" appP (mVar 11) (lCons (m2 ixQ (mVar 4) (mVar 13)) lNil))) (sAsg (m2 ixQ (m2 ixQ (mVar 6) (mVar 10)) (mVar 13)) (gVar 10))))) (sRet (mL tupP (lCons (m2 ixQ (mVar 3) (mVar 9)) (lCons (mL tupleP (lCons (mVar 11) lNil)) lNil)))))))))))
noncomputable def bd5 (cl cl2 : Nat → FM) : SM := (sSeq (sIf (bV (mIsN (mVar 0))) (sRet (mL tupP (lCons (mC (.int 0)) lNil))) sNext) (sSeq (sIf (bTru (m1 (isiP "tuple") (mVar 0))) (sRet (mL tupP (lCons (mC (.int 3)) (lStar (mLc (iSeq (mVar 0)) [1] (.nm 1) bYes (mL (cl 5) (lCons (mVar 1) lNil))) lNil)))) sNext) (sSeq (sIf (bTru (m1 (isiP "str") (mVar 0))) (sRet (mL tupP (lCons (mC (.int 2)) (lCons (mVar 0) lNil)))) sNext) (sRet (mL tupP (lCons (mC (.int 1)) (lCons (mVar 0) lNil)))))))
noncomputable def bd6 (cl cl2 : Nat → FM) : SM := (sSeq (sFldD [0] "_edges" mDNew (mVar 0)) (sSeq (sFldD [0] "_to" mDNew (mVar 0)) (sFor (iSeq (mVar 1)) (gVar 2) (sExpr (mMeth "add" [(0, 7)] cl (mVar 0) (lCons (mVar 2) lNil))))))
noncomputable def bd7 (cl cl2 : Nat → FM) : SM := (sSeq (sIf (bV (m2 inQ (mVar 1) (mFld [0] "_edges" (mVar 0)))) (sRet (mC (.bl false))) sNext) (sSeq (sAsg (mC (.bl true)) (gSubM (mFld [0] "_edges" (mVar 0)) (mVar 1))) (sSeq (sAsg (mVar 1) (gTupD 3 (gsCons (gVar 2) (gsCons (gVar 3) (gsCons (gVar 4) gsNil))))) (sSeq (sExpr (mM "list" appP (mMG isDct setdefP (mFld [0] "_to" (mVar 0)) (lCons (mL tupP (lCons (mVar 2) (lCons (mVar 3) lNil))) (lCons (mL lstP lNil) lNil))) (lCons (mVar 4) lNil))) (sRet (mC (.bl true)))))))
noncomputable def bd8 (cl cl2 : Nat → FM) : SM := (sSeq (sAsg mDNew (gVar 3)) (sSeq (sFor (iSeq (mVar 1)) (gVar 4) (sFor (iSeq (mMG isDct getP (mFld [0] "_to" (mVar 0)) (lCons (mL tupP (lCons (mVar 4) (lCons (mVar 2) lNil))) (lCons (mL lstP lNil) lNil)))) (gVar 5) (sAsg (mC (.bl true)) (gSubM (mVar 3) (mVar 5))))) (sRet (mL listQ (lCons (mVar 3) lNil)))))
noncomputable def bd9 (cl cl2 : Nat → FM) : SM := (sSeq (sAsg (mDc (iSeq (mVar 1)) [5] (.nm 5) bYes (mVar 5) (mC (.bl true))) (gVar 2)) (sSeq (sAsg (mL listQ (lCons (mVar 1) lNil)) (gVar 3)) (sSeq (sWhile (bTru (mVar 3)) (sFor (iSeq (mMeth "after" [(0, 8)] cl (mVar 0) (lCons (mL lstP (lCons (mM0 "list" popP (mVar 3)) lNil)) (lCons (mC .non) lNil)))) (gVar 4) (sIf (bV (m2 notInQ (mVar 4) (mVar 2))) (sSeq (sAsg (mC (.bl true)) (gSubM (mVar 2) (mVar 4))) (sExpr (mM "list" appP (mVar 3) (lCons (mVar 4) lNil)))) sNext))) (sRet (mL listQ (lCons (mVar 2) lNil))))))
noncomputable def bd10 (cl cl2 : Nat → FM) : SM := (sSeq (sFldD [1] "_numbers" mDNew (mVar 0)) (sFldD [1] "things" (mL lstP lNil) (mVar 0)))
noncomputable def bd11 (cl cl2 : Nat → FM) : SM := (sSeq (sIf (bV (m2 notInQ (mVar 1) (mFld [1] "_numbers" (mVar 0)))) (sSeq (sAsg (mL lenQ (lCons (mFld [1] "things" (mVar 0)) lNil)) (gSubM (mFld [1] "_numbers" (mVar 0)) (mVar 1))) (sExpr (mM "list" appP (mFld [1] "things" (mVar 0)) (lCons (mVar 1) lNil)))) sNext) (sRet (m2 ixQ (mFld [1] "_numbers" (mVar 0)) (mVar 1))))
noncomputable def bd12 (cl cl2 : Nat → FM) : SM := (sSeq (sAsg (mMake 1 (cl2 10) lNil) (gVar 5)) (sSeq (sAsg (mL tupleP (lCons (mLc (iSeq (mVar 2)) [11] (.nm 11) bYes (mMeth "of" [(1, 11)] cl (mVar 5) (lCons (mVar 11) lNil))) lNil)) (gVar 6)) (sSeq (sAsg (mL lstP lNil) (gVar 7)) (sSeq (sWhile (bV (m2 ltP (mL lenQ (lCons (mVar 7) lNil)) (mL lenQ (lCons (mFld [1] "things" (mVar 5)) lNil)))) (sSeq (sAsg (m2 ixQ (mFld [1] "things" (mVar 5)) (mL lenQ (lCons (mVar 7) lNil))) (gVar 8)) (sExpr (mM "list" appP (mVar 7) (lCons (mL tupleP (lCons (mLc (iSeq (mVar 1)) [12] (.nm 12) bYes (mMeth "of" [(1, 11)] cl (mVar 5) (lCons (mClo 3 arN cl (lCons (mVar 8) (lCons (mVar 12) lNil))) lNil))) lNil)) lNil))))) (sSeq (sAsg (mL tupleP (lCons (mLc (iEnmA (mFld [1] "things" (mVar 5))) [10, 8] (.tp [10, 8]) (bTru (mClo 4 arN cl (lCons (mVar 8) lNil))) (mVar 10)) lNil)) (gVar 9)) (sRet (mL tupP (lCons (mVar 0) (lCons (mVar 1) (lCons (mVar 6) (lCons (mL tupleP (lCons (mVar 7) lNil)) (lCons (mVar 9) lNil))))))))))))
noncomputable def bd13 (cl cl2 : Nat → FM) : SM := (sRet (mL tupleP (lCons (mSortK (cl2 5) (mMeth "freely" [(0, 9)] cl (mVar 0) (lCons (mVar 1) lNil))) lNil)))
noncomputable def bd14 (cl cl2 : Nat → FM) : SM := (sSeq (sAsg (mVar 0) (gTupD 2 (gsCons (gVar 3) (gsCons (gVar 4) gsNil)))) (sSeq (sAsg (mMake 0 (cl2 6) (lCons (mVar 3) lNil)) (gVar 5)) (sRet (mMk (cl 12) (cCons (mVar 1) (cCons (mVar 2) (cCons (mLc (iSeq (mVar 1)) [6] (.nm 6) bYes (mL (cl 13) (lCons (mVar 5) (lCons (mL lstP (lCons (mVar 6) lNil)) lNil)))) (cLam 0 [5] (cLam 1 [4] cNil)))))))))
noncomputable def bd15 (cl cl2 : Nat → FM) : SM := (sSeq (sAsg (mVar 0) (gTupD 5 (gsCons (gVar 2) (gsCons (gVar 3) (gsCons (gVar 4) (gsCons (gVar 5) (gsCons (gVar 6) gsNil))))))) (sSeq (sAsg (mVar 1) (gTupD 2 (gsCons (gVar 7) (gsCons (gVar 8) gsNil)))) (sSeq (sIf (bOr (bV (m2 notInQ (mVar 7) (mVar 2))) (bNot (bTru (mL allP (lCons (mLc (iSeq (mVar 8)) [10] (.nm 10) bYes (m2 inQ (mVar 10) (mVar 3))) lNil))))) (sRet (mC (.bl false))) sNext) (sSeq (sAsg (m2 ixQ (mVar 4) (mIdxT (mVar 2) (lCons (mVar 7) lNil))) (gVar 9)) (sSeq (sFor (iSeq (mVar 8)) (gVar 10) (sAsg (m2 ixQ (m2 ixQ (mVar 5) (mVar 9)) (mIdxT (mVar 3) (lCons (mVar 10) lNil))) (gVar 9))) (sRet (m2 inQ (mVar 9) (mVar 6))))))))
noncomputable def bd16 (cl cl2 : Nat → FM) : SM := (sRet (mDisp [((mC (.str "cells")), (mLc (iSeq (mVar 0)) [1] (.nm 1) bYes (mL absP (lCons (mL toIntP (lCons (mVar 1) lNil)) lNil)))), ((mC (.str "at")), (mC (.int 0))), ((mC (.str "left")), (mC (.int 0))), ((mC (.str "mix")), (m2 addP (mC (.int 7)) (mL lenQ (lCons (mVar 0) lNil))))]))
noncomputable def bd17 (cl cl2 : Nat → FM) : SM := (sSeq (sIf (bAnd (bV (m2 eqP (m2 ixQ (mVar 0) (mC (.str "left"))) (mC (.int 0)))) (bV (m2 ltP (m2 ixQ (mVar 0) (mC (.str "at"))) (mL lenQ (lCons (m2 ixQ (mVar 0) (mC (.str "cells"))) lNil))))) (sSeq (sAsg (m2 ixQ (m2 ixQ (mVar 0) (mC (.str "cells"))) (m2 ixQ (mVar 0) (mC (.str "at")))) (gVar 2)) (sSeq (sAsg (m2 addP (m2 ixQ (mVar 0) (mC (.str "at"))) (mC (.int 1))) (gSubM (mVar 0) (mC (.str "at")))) (sSeq (sAsg (m2 modP (mL toIntP (lCons (m2 addP (m2 addP (m2 mulP (m2 ixQ (mVar 0) (mC (.str "mix"))) (mC (.int 48271))) (mVar 2)) (mC (.int 11))) lNil)) (mC (.int 2147483647))) (gSubM (mVar 0) (mC (.str "mix")))) (sSeq (sIf (bV (m2 ltP (mVar 2) (m2 powP (mC (.int 10)) (mC (.int 18))))) (sRet (m2 modP (mL toIntP (lCons (mVar 2) lNil)) (mVar 1))) sNext) (sAsg (mVar 2) (gSubM (mVar 0) (mC (.str "left")))))))) sNext) (sSeq (sIf (bV (m2 gtP (m2 ixQ (mVar 0) (mC (.str "left"))) (mC (.int 0)))) (sSeq (sAsg (m2 modP (mL toIntP (lCons (m2 ixQ (mVar 0) (mC (.str "left"))) lNil)) (mVar 1)) (gVar 3)) (sSeq (sAsg (m2 divWP (m2 ixQ (mVar 0) (mC (.str "left"))) (mVar 1)) (gSubM (mVar 0) (mC (.str "left")))) (sRet (mVar 3)))) sNext) (sSeq (sAsg (m2 modP (mL toIntP (lCons (m2 addP (m2 mulP (m2 ixQ (mVar 0) (mC (.str "mix"))) (mC (.int 48271))) (mC (.int 11))) lNil)) (mC (.int 2147483647))) (gSubM (mVar 0) (mC (.str "mix")))) (sRet (m2 modP (mL toIntP (lCons (m2 modP (mL toIntP (lCons (m2 addP (m2 mulP (m2 ixQ (mVar 0) (mC (.str "mix"))) (mC (.int 69621))) (mC (.int 5))) lNil)) (mC (.int 2147483629))) lNil)) (mVar 1))))))
noncomputable def bd18 (cl cl2 : Nat → FM) : SM := (sRet (m2 ixQ (mVar 1) (mL (cl 17) (lCons (mVar 0) (lCons (mL lenQ (lCons (mVar 1) lNil)) lNil)))))
noncomputable def bd19 (cl cl2 : Nat → FM) : SM := (sSeq (sAsg (mL lstP lNil) (gVar 1)) (sSeq (sFor (iSeq (mVar 0)) (gVar 2) (sIf (bV (m2 notInQ (mVar 2) (mVar 1))) (sExpr (mM "list" appP (mVar 1) (lCons (mVar 2) lNil))) sNext)) (sRet (mVar 1))))
noncomputable def bd20 (cl cl2 : Nat → FM) : SM := (sSeq (sAsg (mL lstP (lCons (mC (.int 0)) (lCons (mC (.int 1)) (lCons (mC (.int 2)) (lCons (mC (.str "m")) (lCons (mC (.str "n")) lNil)))))) (gVar 2)) (sSeq (sAsg (mIf (bTru (mVar 1)) (mL lstP (lCons (mC (.str "m")) (lCons (mC (.str "n")) lNil))) (mVar 2)) (gVar 3)) (sSeq (sAsg (mIf (bTru (mVar 1)) (mL lstP (lCons (mC (.str "a")) (lCons (mC (.str "b")) lNil))) (mL lstP (lCons (mC (.str "a")) (lCons (mC (.str "b")) (lCons (mC (.str "a")) (lCons (mC (.str "b")) (lCons (mC .non) lNil))))))) (gVar 4)) (sSeq (sAsg (mL lstP lNil) (gVar 5)) (sSeq (sFor (iRng1M (mL (cl 17) (lCons (mVar 0) (lCons (mC (.int 8)) lNil)))) (gVar 6) (sExpr (mM "list" appP (mVar 5) (lCons (mL tupP (lCons (mL (cl 18) (lCons (mVar 0) (lCons (mVar 2) lNil))) (lCons (mL (cl 18) (lCons (mVar 0) (lCons (mVar 4) lNil))) (lCons (mL (cl 18) (lCons (mVar 0) (lCons (mVar 3) lNil))) lNil)))) lNil)))) (sSeq (sAsg (mLc (iSeq (mVar 2)) [8] (.nm 8) (bV (m2 eqP (mL (cl 17) (lCons (mVar 0) (lCons (mC (.int 3)) lNil))) (mC (.int 0)))) (mVar 8)) (gVar 7)) (sRet (mL tupP (lCons (mL tupleP (lCons (mL (cl 19) (lCons (mVar 5) lNil)) lNil)) (lCons (mL tupleP (lCons (mVar 7) lNil)) lNil))))))))))
noncomputable def bd21 (cl cl2 : Nat → FM) : SM := (sSeq (sAsg (mL lstP (lCons (mL tupP lNil) lNil)) (gVar 1)) (sSeq (sAsg (mL lstP (lCons (mL tupP lNil) lNil)) (gVar 2)) (sSeq (sFor (iRng1M (mVar 0)) (gVar 3) (sSeq (sAsg (m2 addP (mLc (iSeq (mVar 2)) [4] (.nm 4) bYes (m2 addP (mVar 4) (mL tupP (lCons (mC (.str "a")) lNil)))) (mLc (iSeq (mVar 2)) [4] (.nm 4) bYes (m2 addP (mVar 4) (mL tupP (lCons (mC (.str "b")) lNil))))) (gVar 2)) (sExpr (mM "list" extQ (mVar 1) (lCons (mVar 2) lNil))))) (sRet (mVar 1)))))
noncomputable def bd22 (cl cl2 : Nat → FM) : SM := (sSeq (sAsg (mL (cl 16) (lCons (mVar 0) lNil)) (gVar 1)) (sSeq (sAsg (mL (cl 14) (lCons (mL (cl 20) (lCons (mVar 1) (lCons (m2 eqP (mL (cl 17) (lCons (mVar 1) (lCons (mC (.int 2)) lNil))) (mC (.int 0))) lNil))) (lCons (mL tupP (lCons (mC (.int 0)) (lCons (mC (.int 1)) (lCons (mC (.int 2)) lNil)))) (lCons (mL tupP (lCons (mC (.str "a")) (lCons (mC (.str "b")) lNil))) lNil)))) (gVar 2)) (sSeq (sAsg (mL (cl 17) (lCons (mVar 1) (lCons (mC (.int 6)) lNil))) (gVar 3)) (sSeq (sAsg (mLc (iSeq (mL (cl 21) (lCons (mC (.int 5)) lNil))) [14] (.nm 14) (bV (m2 eqP (mL lenQ (lCons (mVar 14) lNil)) (mVar 3))) (mVar 14)) (gVar 4)) (sSeq (sAsg (mL lstP lNil) (gVar 5)) (sSeq (sFor (iSeq (mL lstP (lCons (mC (.int 0)) (lCons (mC (.int 1)) (lCons (mC (.int 2)) lNil))))) (gVar 6) (sExpr (mM "list" extQ (mVar 5) (lCons (mLc (iSeq (mSortE (mVar 4))) [14] (.nm 14) (bTru (mL (cl 15) (lCons (mVar 2) (lCons (mL tupP (lCons (mVar 6) (lCons (mVar 14) lNil))) lNil)))) (mL tupP (lCons (mVar 6) (lCons (mVar 14) lNil)))) lNil)))) (sSeq (sIf (bV (m2 neP (mL (cl 1) (lCons (mVar 2) (lCons (mVar 3) lNil))) (mL lenQ (lCons (mVar 5) lNil)))) (sRet (mC (.bl false))) sNext) (sSeq (sFor (iRng1M (mC (.int 6))) (gVar 7) (sSeq (sAsg (mL tupP (lCons (mL (cl 17) (lCons (mVar 1) (lCons (mC (.int 3)) lNil))) (lCons (mL (cl 18) (lCons (mVar 1) (lCons (mVar 4) lNil))) lNil))) (gVar 8)) (sSeq (sAsg (mIf (bV (m2 inQ (mVar 8) (mVar 5))) (mM "list" idxLP (mVar 5) (lCons (mVar 8) lNil)) (mC .non)) (gVar 9)) (sSeq (sIf (bV (m2 neP (mL (cl 2) (lCons (mVar 2) (lCons (mVar 8) lNil))) (mVar 9))) (sRet (mC (.bl false))) sNext) (sSeq (sAsg (m2 (intP fun i j => i - j) (mL (cl 17) (lCons (mVar 1) (lCons (m2 addP (mL lenQ (lCons (mVar 5) lNil)) (mC (.int 2))) lNil))) (mC (.int 1))) (gVar 10)) (sIf (bV (m2 neP (mL (cl 4) (lCons (mVar 2) (lCons (mVar 3) (lCons (mVar 10) lNil)))) (mIf (bV (mChain leP ltP (mC (.int 0)) (mVar 10) (mL lenQ (lCons (mVar 5) lNil)))) (m2 ixQ (mVar 5) (mVar 10)) (mC .non)))) (sRet (mC (.bl false))) sNext)))))) (sSeq (sIf (bOr (bV (mNotN (mL (cl 2) (lCons (mVar 2) (lCons (mL tupP (lCons (mC (.int 0)) (lCons (mL tupP (lCons (mC (.str "c")) lNil)) lNil))) lNil))))) (bV (mNotN (mL (cl 2) (lCons (mVar 2) (lCons (mL tupP (lCons (mC (.str "m")) (lCons (mL tupP lNil) lNil))) lNil)))))) (sRet (mC (.bl false))) sNext) (sSeq (sAsg (m2 addP (mC (.int 20)) (mL (cl 17) (lCons (mVar 1) (lCons (mC (.int 41)) lNil)))) (gVar 3)) (sSeq (sAsg (mLc (iRng1M (mL lenQ (lCons (m2 ixQ (mVar 2) (mC (.int 3))) lNil))) [13] (.nm 13) bYes (mL toIntP (lCons (m2 inQ (mVar 13) (m2 ixQ (mVar 2) (mC (.int 4)))) lNil))) (gVar 11)) (sSeq (sFor (iRng1M (mVar 3)) (gVar 7) (sAsg (mLc (iSeq (m2 ixQ (mVar 2) (mC (.int 3)))) [17] (.nm 17) bYes (mL sumP (lCons (mLc (iSeq (mVar 17)) [16] (.nm 16) bYes (m2 ixQ (mVar 11) (mVar 16))) lNil))) (gVar 11))) (sSeq (sAsg (mL sumP (lCons (mLc (iSeq (m2 ixQ (mVar 2) (mC (.int 2)))) [15] (.nm 15) bYes (m2 ixQ (mVar 11) (mVar 15))) lNil)) (gVar 12)) (sSeq (sIf (bV (m2 neP (mL (cl 1) (lCons (mVar 2) (lCons (mVar 3) lNil))) (mVar 12))) (sRet (mC (.bl false))) sNext) (sSeq (sIf (bV (m2 eqP (mVar 12) (mC (.int 0)))) (sRet (mIsN (mL (cl 4) (lCons (mVar 2) (lCons (mVar 3) (lCons (mC (.int 0)) lNil)))))) sNext) (sSeq (sAsg (mL (cl 17) (lCons (mVar 1) (lCons (mVar 12) lNil))) (gVar 9)) (sRet (m2 eqP (mL (cl 2) (lCons (mVar 2) (lCons (mL (cl 4) (lCons (mVar 2) (lCons (mVar 3) (lCons (mVar 9) lNil)))) lNil))) (mVar 9)))))))))))))))))))
noncomputable def bl0 (cl cl2 : Nat → FM) : EM := (mL (cl 13) (lCons (mVar 2) (lCons (mMeth "after" [(0, 8)] cl (mVar 2) (lCons (mVar 0) (lCons (mVar 1) lNil))) lNil)))
noncomputable def bl1 (cl cl2 : Nat → FM) : EM := (mL anyP (lCons (mLc (iSeq (mVar 0)) [2] (.nm 2) bYes (m2 inQ (mVar 2) (mVar 1))) lNil))
noncomputable def bdL (cl cl2 : Nat → FM) : Nat → FM
  | 0 => runE 3 lnm0.length (bl0 cl cl2)
  | 1 => runE 2 lnm1.length (bl1 cl cl2)
  | _ => fun _ _ => none
noncomputable def bdD (cl cl2 : Nat → FM) : Nat → FM
  | 0 => runB nm0.length (bd0 cl cl2)
  | 1 => runB nm1.length (bd1 cl cl2)
  | 2 => runB nm2.length (bd2 cl cl2)
  | 3 => runB nm3.length (bd3 cl cl2)
  | 4 => runB nm4.length (bd4 cl cl2)
  | 5 => runB nm5.length (bd5 cl cl2)
  | 6 => runB nm6.length (bd6 cl cl2)
  | 7 => runB nm7.length (bd7 cl cl2)
  | 8 => runB nm8.length (bd8 cl cl2)
  | 9 => runB nm9.length (bd9 cl cl2)
  | 10 => runB nm10.length (bd10 cl cl2)
  | 11 => runB nm11.length (bd11 cl cl2)
  | 12 => runB nm12.length (bd12 cl cl2)
  | 13 => runB nm13.length (bd13 cl cl2)
  | 14 => runB nm14.length (bd14 cl cl2)
  | 15 => runB nm15.length (bd15 cl cl2)
  | 16 => runB nm16.length (bd16 cl cl2)
  | 17 => runB nm17.length (bd17 cl cl2)
  | 18 => runB nm18.length (bd18 cl cl2)
  | 19 => runB nm19.length (bd19 cl cl2)
  | 20 => runB nm20.length (bd20 cl cl2)
  | 21 => runB nm21.length (bd21 cl cl2)
  | 22 => runB nm22.length (bd22 cl cl2)
  | _ => fun _ _ => none
theorem bdL_nil (cl cl2 : Nat → FM) : ∀ i S, bdL cl cl2 i [] S = none
  | 0, _ => rfl
  | 1, _ => rfl
  | _ + 2, _ => rfl
noncomputable def bdN (cl cl2 : Nat → FM) (g : Nat) : FM := cond (Nat.blt g 1000) (bdD cl cl2 g) (bdL cl cl2 (g - 1000))
noncomputable def calls := callsOf bdN
abbrev qlN : Nat → Str
  | 0 => "ways_to_end"
  | 1 => "count"
  | 2 => "place_of"
  | 3 => "pick"
  | 4 => "configuration_at"
  | 5 => "rank"
  | 6 => "Ways.__init__"
  | 7 => "Ways.add"
  | 8 => "Ways.after"
  | 9 => "Ways.freely"
  | 10 => "Numbers.__init__"
  | 11 => "Numbers.of"
  | 12 => "made"
  | 13 => "closed"
  | 14 => "table_of"
  | 15 => "has"
  | 16 => "_law_start"
  | 17 => "_law_draw"
  | 18 => "_law_pick"
  | 19 => "_law_once"
  | 20 => "_law_machine"
  | 21 => "_law_stacks"
  | 22 => "law"
  | _ => "none"
abbrev clN : Nat → Option Nat
  | 0 => none
  | 1 => none
  | 2 => none
  | 3 => none
  | 4 => none
  | 5 => none
  | 6 => some 0
  | 7 => some 0
  | 8 => some 0
  | 9 => some 0
  | 10 => some 1
  | 11 => some 1
  | 12 => none
  | 13 => none
  | 14 => none
  | 15 => none
  | 16 => none
  | 17 => none
  | 18 => none
  | 19 => none
  | 20 => none
  | 21 => none
  | 22 => none
  | _ => none
abbrev nmC : Nat → Str
  | 0 => "Ways"
  | 1 => "Numbers"
  | _ => "none"
abbrev gnN : Nat → Str
  | 0 => "ways_to_end"
  | 1 => "count"
  | 2 => "place_of"
  | 3 => "pick"
  | 4 => "configuration_at"
  | 5 => "rank"
  | 6 => "__init__"
  | 7 => "add"
  | 8 => "after"
  | 9 => "freely"
  | 10 => "__init__"
  | 11 => "of"
  | 12 => "made"
  | 13 => "closed"
  | 14 => "table_of"
  | 15 => "has"
  | 16 => "_law_start"
  | 17 => "_law_draw"
  | 18 => "_law_pick"
  | 19 => "_law_once"
  | 20 => "_law_machine"
  | 21 => "_law_stacks"
  | 22 => "law"
  | _ => "none"
abbrev inN : Nat → Nat
  | 0 => 6
  | 1 => 10
  | _ => 0
abbrev tab : Tab := { n := 23, nC := 2, nm := nmN, ql := qlN, ps := psN, st := stN, cl := clN, nmC := nmC, ini := inN, flds := [(0, "_edges"), (0, "_to"), (1, "_numbers"), (1, "things")], meths := [(0, 7), (0, 8), (0, 9), (1, 11)], csts := [], blts := ["len", "range", "int", "sum", "all", "enumerate", "reversed", "tuple", "isinstance", "str", "list", "sorted", "abs", "any"], imps := [], gn := gnN }
section
variable {P : Program} {w : World} {K : PySem.W.Frag} {mg : Str → Option Value} {base : Heap} {ca : CAx} {a : Nat → Addr} {fd : Nat → FuncData} {cl cl2 : Nat → FM} {k : Nat} {cc pp : Nat → Addr}
abbrev Tx (K : PySem.W.Frag) (mg : Str → Option Value) (a : Nat → Addr) (fd : Nat → FuncData) (ca : CAx) := TxC tab K mg a fd ca
theorem ok0 (T : Tx K mg a fd ca) (TL : LamT mg base fd ca cc pp) (CV : ∀ cv, AllF P w K mg base (ca.wv cv) psN a fd k cl) (CL : AllL P w K mg base ca arN k cl) (C : AllF P w K mg base ca psN a fd k cl) (C2 : AllF2 P w K mg base ca psN a fd k cl2) (cdv : Value) (A : Around) (outer : List Env) (s : Shared) (H : Hp) (E : XK) (hr : Room k (A.deeper (envOfC "ways_to_end" (defScope st0) s.heap.objs.size (a 0) cdv))) :
    PSs (bx P w K mg base nm0 "ways_to_end" (defScope st0) (a 0) cdv A outer s H E) (defBody st0) (liftS ⟨K, w, ca⟩ (bd0 cl cl2)) := by
  unfold bd0
  exact (ds_cons (ds_asg (de_var (i := 0)) (dg_tup (dgs_cons (dg_name (i := 2) (sc0).nd) (dgs_cons (dg_name (i := 2) (sc0).nd) (dgs_cons (dg_name (i := 2) (sc0).nd) (dgs_cons (dg_name (i := 3) (sc0).nd) (dgs_cons (dg_name (i := 4) (sc0).nd) dgs_nil))))))) (ds_cons (ds_set (i := 5) (sc0).nd (de_lst (la_cons (de_lc (own := [("node", 7)]) (t := (.nm 7)) (sc0).nd (blkOk_by (own := [("node", 7)]) (by first | (show blkC nm0 (defScope st0) _ _ = true; decide +kernel) | (exact blk_in (N := nm0) (sc := (defScope st0)) rfl (by decide +kernel)))) (by decide) (di_rng1 (T.no "range" (by decide)) (de_callB call_len1 prim_len1 (T.no "len" (by decide)) PySem.boot_len (la_cons (de_var (i := 3)) la_nil))) (fun _ _ _ _ _ => (pg_name (i := 7) (sc0).nd rfl (Or.inl rfl))) (fun _ _ _ _ _ => dts_nil) (fun _ _ _ _ _ => (de_callTy call_int1 prim_toInt (T.no "int" (by decide)) PyProof.Rows.boot_int (la_cons (de_cmp (op_in1 hr) prim_in1 (de_var (i := 7)) (de_var (i := 4))) la_nil)))) la_nil))) (ds_cons (ds_for (di_rng1 (T.no "range" (by decide)) (de_var (i := 1))) (dg_name (i := 2) (sc0).nd) (ds_cons (ds_set (i := 6) (sc0).nd (de_ix (ix_1 hr) prim_ix1 (de_var (i := 5)) (de_un un_neg prim_neg de_int))) (ds_one (ds_expr (de_bm prim_app PySem.F.plainAttrs_list PySem.F.slot_list_append PySem.F.type_list_append mt_append (de_var (i := 5)) (la_cons (de_lc (own := [("targets", 9)]) (t := (.nm 9)) (sc0).nd (blkOk_by (own := [("targets", 9)]) (by first | (show blkC nm0 (defScope st0) _ _ = true; decide +kernel) | (exact blk_in (N := nm0) (sc := (defScope st0)) rfl (by decide +kernel)))) (by decide) (di_seq (de_var (i := 3))) (fun _ _ _ _ _ => (pg_name (i := 9) (sc0).nd rfl (Or.inl rfl))) (fun _ _ _ _ _ => dts_nil) (fun _ _ _ _ _ => (de_callB (cr_sum rfl) prim_sum (T.no "sum" (by decide)) boot_sum (la_cons (de_lc (own := [("target", 8)]) (t := (.nm 8)) (sc0).nd (blkOk_by (own := [("target", 8)]) (by first | (show blkC nm0 (defScope st0) _ _ = true; decide +kernel) | (exact blk_in (N := nm0) (sc := (defScope st0)) rfl (by decide +kernel)))) (by decide) (di_seq (de_var (i := 9))) (fun _ _ _ _ _ => (pg_name (i := 8) (sc0).nd rfl (Or.inl rfl))) (fun _ _ _ _ _ => dts_nil) (fun _ _ _ _ _ => (de_ix (ix_1 hr) prim_ix1 (de_var (i := 6)) (de_var (i := 8))))) la_nil)))) la_nil)))))) (ds_one (ds_ret (de_var (i := 5)))))))
theorem ok1 (T : Tx K mg a fd ca) (TL : LamT mg base fd ca cc pp) (CV : ∀ cv, AllF P w K mg base (ca.wv cv) psN a fd k cl) (CL : AllL P w K mg base ca arN k cl) (C : AllF P w K mg base ca psN a fd k cl) (C2 : AllF2 P w K mg base ca psN a fd k cl2) (cdv : Value) (A : Around) (outer : List Env) (s : Shared) (H : Hp) (E : XK) (hr : Room k (A.deeper (envOfC "count" (defScope st1) s.heap.objs.size (a 1) cdv))) :
    PSs (bx P w K mg base nm1 "count" (defScope st1) (a 1) cdv A outer s H E) (defBody st1) (liftS ⟨K, w, ca⟩ (bd1 cl cl2)) := by
  unfold bd1
  exact (ds_cons (ds_set (i := 2) (sc1).nd (de_ix (ix_1 hr) prim_ix1 (de_call (C.F 0) hr (T.fn 0) (T.kp 0) (T.bn 0) (.cons (.cons .nil)) (la_cons (de_var (i := 0)) (la_cons (de_var (i := 1)) la_nil))) (de_var (i := 1)))) (ds_one (ds_ret (de_callB (cr_sum rfl) prim_sum (T.no "sum" (by decide)) boot_sum (la_cons (de_lc (own := [("start", 3)]) (t := (.nm 3)) (sc1).nd (blkOk_by (own := [("start", 3)]) (by first | (show blkC nm1 (defScope st1) _ _ = true; decide +kernel) | (exact blk_in (N := nm1) (sc := (defScope st1)) rfl (by decide +kernel)))) (by decide) (di_seq (de_ix (ix_1 hr) prim_ix1 (de_var (i := 0)) de_int)) (fun _ _ _ _ _ => (pg_name (i := 3) (sc1).nd rfl (Or.inl rfl))) (fun _ _ _ _ _ => dts_nil) (fun _ _ _ _ _ => (de_ix (ix_1 hr) prim_ix1 (de_var (i := 2)) (de_var (i := 3))))) la_nil)))))
theorem ok2 (T : Tx K mg a fd ca) (TL : LamT mg base fd ca cc pp) (CV : ∀ cv, AllF P w K mg base (ca.wv cv) psN a fd k cl) (CL : AllL P w K mg base ca arN k cl) (C : AllF P w K mg base ca psN a fd k cl) (C2 : AllF2 P w K mg base ca psN a fd k cl2) (cdv : Value) (A : Around) (outer : List Env) (s : Shared) (H : Hp) (E : XK) (hr : Room k (A.deeper (envOfC "place_of" (defScope st2) s.heap.objs.size (a 2) cdv))) :
    PSs (bx P w K mg base nm2 "place_of" (defScope st2) (a 2) cdv A outer s H E) (defBody st2) (liftS ⟨K, w, ca⟩ (bd2 cl cl2)) := by
  unfold bd2
  exact (ds_cons (ds_asg (de_var (i := 0)) (dg_tup (dgs_cons (dg_name (i := 2) (sc2).nd) (dgs_cons (dg_name (i := 3) (sc2).nd) (dgs_cons (dg_name (i := 4) (sc2).nd) (dgs_cons (dg_name (i := 5) (sc2).nd) (dgs_cons (dg_name (i := 6) (sc2).nd) dgs_nil))))))) (ds_cons (ds_asg (de_var (i := 1)) (dg_tup (dgs_cons (dg_name (i := 7) (sc2).nd) (dgs_cons (dg_name (i := 8) (sc2).nd) dgs_nil)))) (ds_cons (ds_if (PW.pt (dw_or (dt_cmp (op_notIn1 hr) prim_notIn1 (de_var (i := 7)) (de_var (i := 2))) (dw_or1 (dt_not (dt_tru (de_callB (cr_all rfl) prim_all (T.no "all" (by decide)) boot_all (la_cons (de_lc (own := [("symbol", 14)]) (t := (.nm 14)) (sc2).nd (blkOk_by (own := [("symbol", 14)]) (by first | (show blkC nm2 (defScope st2) _ _ = true; decide +kernel) | (exact blk_in (N := nm2) (sc := (defScope st2)) rfl (by decide +kernel)))) (by decide) (di_seq (de_var (i := 8))) (fun _ _ _ _ _ => (pg_name (i := 14) (sc2).nd rfl (Or.inl rfl))) (fun _ _ _ _ _ => dts_nil) (fun _ _ _ _ _ => (de_cmp (op_in1 hr) prim_in1 (de_var (i := 14)) (de_var (i := 3))))) la_nil))))))) (ds_one (ds_ret de_non)) ds_nil) (ds_cons (ds_set (i := 9) (sc2).nd (de_call (C.F 0) hr (T.fn 0) (T.kp 0) (T.bn 0) (.cons (.cons .nil)) (la_cons (de_var (i := 0)) (la_cons (de_callB call_len1 prim_len1 (T.no "len" (by decide)) PySem.boot_len (la_cons (de_var (i := 8)) la_nil)) la_nil)))) (ds_cons (ds_set (i := 10) (sc2).nd (de_idxT hr (de_var (i := 2)) (la_cons (de_var (i := 7)) la_nil))) (ds_cons (ds_set (i := 11) (sc2).nd (de_callB (cr_sum rfl) prim_sum (T.no "sum" (by decide)) boot_sum (la_cons (de_lc (own := [("start", 17)]) (t := (.nm 17)) (sc2).nd (blkOk_by (own := [("start", 17)]) (by first | (show blkC nm2 (defScope st2) _ _ = true; decide +kernel) | (exact blk_in (N := nm2) (sc := (defScope st2)) rfl (by decide +kernel)))) (by decide) (di_seq (de_slice (de_var (i := 4)) do_none (do_some (de_var (i := 10))))) (fun _ _ _ _ _ => (pg_name (i := 17) (sc2).nd rfl (Or.inl rfl))) (fun _ _ _ _ _ => dts_nil) (fun _ _ _ _ _ => (de_ix (ix_1 hr) prim_ix1 (de_ix (ix_1 hr) prim_ix1 (de_var (i := 9)) (de_callB call_len1 prim_len1 (T.no "len" (by decide)) PySem.boot_len (la_cons (de_var (i := 8)) la_nil))) (de_var (i := 17))))) la_nil))) (ds_cons (ds_set (i := 12) (sc2).nd (de_ix (ix_1 hr) prim_ix1 (de_var (i := 4)) (de_var (i := 10)))) (ds_cons (ds_for (di_enmA (T.no "enumerate" (by decide)) (de_var (i := 8))) (dg_tup (dgs_cons (dg_name (i := 13) (sc2).nd) (dgs_cons (dg_name (i := 14) (sc2).nd) dgs_nil))) (ds_cons (ds_set (i := 15) (sc2).nd (de_idxT hr (de_var (i := 3)) (la_cons (de_var (i := 14)) la_nil))) (ds_cons (ds_set (i := 16) (sc2).nd (de_op op_sub (prim_int fun _ _ => rfl) (de_op op_sub (prim_int fun _ _ => rfl) (de_callB call_len1 prim_len1 (T.no "len" (by decide)) PySem.boot_len (la_cons (de_var (i := 8)) la_nil)) (de_var (i := 13))) de_int)) (ds_cons (ds_aug (i := 11) (sc2).nd iop_add (prim_int fun _ _ => rfl) (de_callB (cr_sum rfl) prim_sum (T.no "sum" (by decide)) boot_sum (la_cons (de_lc (own := [("target", 18)]) (t := (.nm 18)) (sc2).nd (blkOk_by (own := [("target", 18)]) (by first | (show blkC nm2 (defScope st2) _ _ = true; decide +kernel) | (exact blk_in (N := nm2) (sc := (defScope st2)) rfl (by decide +kernel)))) (by decide) (di_seq (de_slice (de_ix (ix_1 hr) prim_ix1 (de_var (i := 5)) (de_var (i := 12))) do_none (do_some (de_var (i := 15))))) (fun _ _ _ _ _ => (pg_name (i := 18) (sc2).nd rfl (Or.inl rfl))) (fun _ _ _ _ _ => dts_nil) (fun _ _ _ _ _ => (de_ix (ix_1 hr) prim_ix1 (de_ix (ix_1 hr) prim_ix1 (de_var (i := 9)) (de_var (i := 16))) (de_var (i := 18))))) la_nil))) (ds_one (ds_set (i := 12) (sc2).nd (de_ix (ix_1 hr) prim_ix1 (de_ix (ix_1 hr) prim_ix1 (de_var (i := 5)) (de_var (i := 12))) (de_var (i := 15))))))))) (ds_one (ds_ret (de_if (dt_cmp (op_in1 hr) prim_in1 (de_var (i := 12)) (de_var (i := 6))) (de_var (i := 11)) de_non)))))))))))
theorem ok3 (T : Tx K mg a fd ca) (TL : LamT mg base fd ca cc pp) (CV : ∀ cv, AllF P w K mg base (ca.wv cv) psN a fd k cl) (CL : AllL P w K mg base ca arN k cl) (C : AllF P w K mg base ca psN a fd k cl) (C2 : AllF2 P w K mg base ca psN a fd k cl2) (cdv : Value) (A : Around) (outer : List Env) (s : Shared) (H : Hp) (E : XK) (hr : Room k (A.deeper (envOfC "pick" (defScope st3) s.heap.objs.size (a 3) cdv))) :
    PSs (bx P w K mg base nm3 "pick" (defScope st3) (a 3) cdv A outer s H E) (defBody st3) (liftS ⟨K, w, ca⟩ (bd3 cl cl2)) := by
  unfold bd3
  exact (ds_cons (ds_for (di_enmA (T.no "enumerate" (by decide)) (de_var (i := 0))) (dg_tup (dgs_cons (dg_name (i := 3) (sc3).nd) (dgs_cons (dg_name (i := 4) (sc3).nd) dgs_nil))) (ds_cons (ds_if (dt_cmp (op_ltA (DL.Room.u65 hr)) prim_lt (de_var (i := 2)) (de_ix (ix_1 hr) prim_ix1 (de_var (i := 1)) (de_var (i := 4)))) (ds_one (ds_ret (de_tup (la_cons (de_var (i := 3)) (la_cons (de_var (i := 2)) la_nil))))) ds_nil) (ds_one (ds_aug (i := 2) (sc3).nd iop_sub (prim_int fun _ _ => rfl) (de_ix (ix_1 hr) prim_ix1 (de_var (i := 1)) (de_var (i := 4))))))) (ds_one (ds_ret (de_tup (la_cons de_non (la_cons (de_var (i := 2)) la_nil))))))
theorem ok4 (T : Tx K mg a fd ca) (TL : LamT mg base fd ca cc pp) (CV : ∀ cv, AllF P w K mg base (ca.wv cv) psN a fd k cl) (CL : AllL P w K mg base ca arN k cl) (C : AllF P w K mg base ca psN a fd k cl) (C2 : AllF2 P w K mg base ca psN a fd k cl2) (cdv : Value) (A : Around) (outer : List Env) (s : Shared) (H : Hp) (E : XK) (hr : Room k (A.deeper (envOfC "configuration_at" (defScope st4) s.heap.objs.size (a 4) cdv))) :
    PSs (bx P w K mg base nm4 "configuration_at" (defScope st4) (a 4) cdv A outer s H E) (defBody st4) (liftS ⟨K, w, ca⟩ (bd4 cl cl2)) := by
  unfold bd4
  exact (ds_cons (ds_asg (de_var (i := 0)) (dg_tup (dgs_cons (dg_name (i := 3) (sc4).nd) (dgs_cons (dg_name (i := 4) (sc4).nd) (dgs_cons (dg_name (i := 5) (sc4).nd) (dgs_cons (dg_name (i := 6) (sc4).nd) (dgs_cons (dg_name (i := 7) (sc4).nd) dgs_nil))))))) (ds_cons (ds_if (dt_not (dt_chain op_le prim_le (op_ltA (DL.Room.u65 hr)) prim_lt de_int (de_var (i := 2)) (de_call (C.F 1) hr (T.fn 1) (T.kp 1) (T.bn 1) (.cons (.cons .nil)) (la_cons (de_var (i := 0)) (la_cons (de_var (i := 1)) la_nil))))) (ds_one (ds_ret de_non)) ds_nil) (ds_cons (ds_set (i := 8) (sc4).nd (de_call (C.F 0) hr (T.fn 0) (T.kp 0) (T.bn 0) (.cons (.cons .nil)) (la_cons (de_var (i := 0)) (la_cons (de_var (i := 1)) la_nil)))) (ds_cons (ds_asg (de_call (C.F 3) hr (T.fn 3) (T.kp 3) (T.bn 3) (.cons (.cons (.cons .nil))) (la_cons (de_var (i := 5)) (la_cons (de_ix (ix_1 hr) prim_ix1 (de_var (i := 8)) (de_var (i := 1))) (la_cons (de_var (i := 2)) la_nil)))) (dg_tup (dgs_cons (dg_name (i := 9) (sc4).nd) (dgs_cons (dg_name (i := 2) (sc4).nd) dgs_nil)))) (ds_cons (ds_set (i := 10) (sc4).nd (de_ix (ix_1 hr) prim_ix1 (de_var (i := 5)) (de_var (i := 9)))) (ds_cons (ds_set (i := 11) (sc4).nd (de_lst la_nil)) (ds_cons (ds_for (di_revRg (T.no "reversed" (by decide)) (T.no "range" (by decide)) (de_var (i := 1))) (dg_name (i := 12) (sc4).nd) (ds_cons (ds_asg (de_call (C.F 3) hr (T.fn 3) (T.kp 3) (T.bn 3) (.cons (.cons (.cons .nil))) (la_cons (de_ix (ix_1 hr) prim_ix1 (de_var (i := 6)) (de_var (i := 10))) (la_cons (de_ix (ix_1 hr) prim_ix1 (de_var (i := 8)) (de_var (i := 12))) (la_cons (de_var (i := 2)) la_nil)))) (dg_tup (dgs_cons (dg_name (i := 13) (sc4).nd) (dgs_cons (dg_name (i := 2) (sc4).nd) dgs_nil)))) (ds_cons (ds_expr (de_bm prim_app PySem.F.plainAttrs_list PySem.F.slot_list_append PySem.F.type_list_append mt_append (de_var (i := 11)) (la_cons (de_ix (ix_1 hr) prim_ix1 (de_var (i := 4)) (de_var (i := 13))) la_nil))) (ds_one (ds_set (i := 10) (sc4).nd (de_ix (ix_1 hr) prim_ix1 (de_ix (ix_1 hr) prim_ix1 (de_var (i := 6)) (de_var (i := 10))) (de_var (i := 13)))))))) (ds_one (ds_ret (de_tup (la_cons (de_ix (ix_1 hr) prim_ix1 (de_var (i := 3)) (de_var (i := 9))) (la_cons (de_callTy cr_tupN prim_tuple (T.no "tuple" (by decide)) PyProof.Rows.boot_tuple (la_cons (de_var (i := 11)) la_nil)) la_nil))))))))))))
theorem ok5 (T : Tx K mg a fd ca) (TL : LamT mg base fd ca cc pp) (CV : ∀ cv, AllF P w K mg base (ca.wv cv) psN a fd k cl) (CL : AllL P w K mg base ca arN k cl) (C : AllF P w K mg base ca psN a fd k cl) (C2 : AllF2 P w K mg base ca psN a fd k cl2) (cdv : Value) (A : Around) (outer : List Env) (s : Shared) (H : Hp) (E : XK) (hr : Room k (A.deeper (envOfC "rank" (defScope st5) s.heap.objs.size (a 5) cdv))) :
    PSs (bx P w K mg base nm5 "rank" (defScope st5) (a 5) cdv A outer s H E) (defBody st5) (liftS ⟨K, w, ca⟩ (bd5 cl cl2)) := by
  unfold bd5
  exact (ds_cons (ds_if (dt_isN (de_var (i := 0))) (ds_one (ds_ret (de_tup (la_cons de_int la_nil)))) ds_nil) (ds_cons (ds_if (dt_tru (de_isi (Ts := "tuple") (de_var (i := 0)) (T.no "isinstance" (by decide)) (T.no "tuple" (by decide)) (by decide +kernel))) (ds_one (ds_ret (de_tup (la_cons de_int (la_star (de_lc (own := [("part", 1)]) (t := (.nm 1)) (sc5).nd (blkOk_by (own := [("part", 1)]) (by first | (show blkC nm5 (defScope st5) _ _ = true; decide +kernel) | (exact blk_in (N := nm5) (sc := (defScope st5)) rfl (by decide +kernel)))) (by decide) (di_seq (de_var (i := 0))) (fun _ _ _ _ _ => (pg_name (i := 1) (sc5).nd rfl (Or.inl rfl))) (fun _ _ _ _ _ => dts_nil) (fun _ _ _ _ _ => (de_call (C.F 5) hr (T.fn 5) (T.kp 5) (T.bn 5) (.cons .nil) (la_cons (de_var (i := 1)) la_nil)))) la_nil))))) ds_nil) (ds_cons (ds_if (dt_tru (de_isi (Ts := "str") (de_var (i := 0)) (T.no "isinstance" (by decide)) (T.no "str" (by decide)) (by decide +kernel))) (ds_one (ds_ret (de_tup (la_cons de_int (la_cons (de_var (i := 0)) la_nil))))) ds_nil) (ds_one (ds_ret (de_tup (la_cons de_int (la_cons (de_var (i := 0)) la_nil))))))))
theorem ok6 (T : Tx K mg a fd ca) (TL : LamT mg base fd ca cc pp) (CV : ∀ cv, AllF P w K mg base (ca.wv cv) psN a fd k cl) (CL : AllL P w K mg base ca arN k cl) (C : AllF P w K mg base ca psN a fd k cl) (C2 : AllF2 P w K mg base ca psN a fd k cl2) (cdv : Value) (A : Around) (outer : List Env) (s : Shared) (H : Hp) (E : XK) (hr : Room k (A.deeper (envOfC "Ways.__init__" (defScope st6) s.heap.objs.size (a 6) cdv))) :
    PSs (bx P w K mg base nm6 "Ways.__init__" (defScope st6) (a 6) cdv A outer s H E) (defBody st6) (liftS ⟨K, w, ca⟩ (bd6 cl cl2)) := by
  unfold bd6
  exact (ds_cons (ds_fld (T.fo (cs := [0]) (by decide)) (de_dnew (k := k)) (de_var (i := 0))) (ds_cons (ds_fld (T.fo (cs := [0]) (by decide)) (de_dnew (k := k)) (de_var (i := 0))) (ds_one (ds_for (di_seq (de_var (i := 1))) (dg_name (i := 2) (sc6).nd) (ds_one (ds_expr (de_meth (cands := [(0, 7)]) (T.m1 (by decide) rfl rfl) C.F hr (de_var (i := 0)) (.cons .nil) (la_cons (de_var (i := 2)) la_nil))))))))
theorem ok7 (T : Tx K mg a fd ca) (TL : LamT mg base fd ca cc pp) (CV : ∀ cv, AllF P w K mg base (ca.wv cv) psN a fd k cl) (CL : AllL P w K mg base ca arN k cl) (C : AllF P w K mg base ca psN a fd k cl) (C2 : AllF2 P w K mg base ca psN a fd k cl2) (cdv : Value) (A : Around) (outer : List Env) (s : Shared) (H : Hp) (E : XK) (hr : Room k (A.deeper (envOfC "Ways.add" (defScope st7) s.heap.objs.size (a 7) cdv))) :
    PSs (bx P w K mg base nm7 "Ways.add" (defScope st7) (a 7) cdv A outer s H E) (defBody st7) (liftS ⟨K, w, ca⟩ (bd7 cl cl2)) := by
  unfold bd7
  exact (ds_cons (ds_if (dt_cmp (op_in1 hr) prim_in1 (de_var (i := 1)) (de_fld (T.fo (cs := [0]) (by decide)) (de_var (i := 0)))) (ds_one (ds_ret de_bl)) ds_nil) (ds_cons (ds_asg de_bl (dg_sub hr (de_fld (T.fo (cs := [0]) (by decide)) (de_var (i := 0))) (de_var (i := 1)))) (ds_cons (ds_asg (de_var (i := 1)) (dg_tup (dgs_cons (dg_name (i := 2) (sc7).nd) (dgs_cons (dg_name (i := 3) (sc7).nd) (dgs_cons (dg_name (i := 4) (sc7).nd) dgs_nil))))) (ds_cons (ds_expr (de_bm prim_app PySem.F.plainAttrs_list PySem.F.slot_list_append PySem.F.type_list_append mt_append (de_bmG (prim_setdef hr) ty_dct PySem.F.plainAttrs_dict PySem.F.slot_dict_setdefault PySem.F.type_dict_setdefault (de_fld (T.fo (cs := [0]) (by decide)) (de_var (i := 0))) (la_cons (de_tup (la_cons (de_var (i := 2)) (la_cons (de_var (i := 3)) la_nil))) (la_cons (de_lst la_nil) la_nil))) (la_cons (de_var (i := 4)) la_nil))) (ds_one (ds_ret de_bl))))))
theorem ok8 (T : Tx K mg a fd ca) (TL : LamT mg base fd ca cc pp) (CV : ∀ cv, AllF P w K mg base (ca.wv cv) psN a fd k cl) (CL : AllL P w K mg base ca arN k cl) (C : AllF P w K mg base ca psN a fd k cl) (C2 : AllF2 P w K mg base ca psN a fd k cl2) (cdv : Value) (A : Around) (outer : List Env) (s : Shared) (H : Hp) (E : XK) (hr : Room k (A.deeper (envOfC "Ways.after" (defScope st8) s.heap.objs.size (a 8) cdv))) :
    PSs (bx P w K mg base nm8 "Ways.after" (defScope st8) (a 8) cdv A outer s H E) (defBody st8) (liftS ⟨K, w, ca⟩ (bd8 cl cl2)) := by
  unfold bd8
  exact (ds_cons (ds_set (i := 3) (sc8).nd (de_dnew (k := k))) (ds_cons (ds_for (di_seq (de_var (i := 1))) (dg_name (i := 4) (sc8).nd) (ds_one (ds_for (di_seq (de_bmG (prim_get hr) ty_dct PySem.F.plainAttrs_dict PySem.F.slot_dict_get PySem.F.type_dict_get (de_fld (T.fo (cs := [0]) (by decide)) (de_var (i := 0))) (la_cons (de_tup (la_cons (de_var (i := 4)) (la_cons (de_var (i := 2)) la_nil))) (la_cons (de_lst la_nil) la_nil)))) (dg_name (i := 5) (sc8).nd) (ds_one (ds_asg de_bl (dg_sub hr (de_var (i := 3)) (de_var (i := 5)))))))) (ds_one (ds_ret (de_callTy call_list1 prim_list1 (T.no "list" (by decide)) PyProof.Rows.boot_list (la_cons (de_var (i := 3)) la_nil))))))
theorem ok9 (T : Tx K mg a fd ca) (TL : LamT mg base fd ca cc pp) (CV : ∀ cv, AllF P w K mg base (ca.wv cv) psN a fd k cl) (CL : AllL P w K mg base ca arN k cl) (C : AllF P w K mg base ca psN a fd k cl) (C2 : AllF2 P w K mg base ca psN a fd k cl2) (cdv : Value) (A : Around) (outer : List Env) (s : Shared) (H : Hp) (E : XK) (hr : Room k (A.deeper (envOfC "Ways.freely" (defScope st9) s.heap.objs.size (a 9) cdv))) :
    PSs (bx P w K mg base nm9 "Ways.freely" (defScope st9) (a 9) cdv A outer s H E) (defBody st9) (liftS ⟨K, w, ca⟩ (bd9 cl cl2)) := by
  unfold bd9
  exact (ds_cons (ds_setDc (k := k) (own := [("node", 5)]) (t := (.nm 5)) (i := 2) (swd_true rfl rfl rfl (by decide +kernel)) hr (sc9).nd (blkOk_by (own := [("node", 5)]) (by first | (show blkC nm9 (defScope st9) _ _ = true; decide +kernel) | (exact blk_in (N := nm9) (sc := (defScope st9)) rfl (by decide +kernel)))) (by decide) (di_seq (de_var (i := 1))) (fun _ _ _ _ _ => (pg_name (i := 5) (sc9).nd rfl (Or.inl rfl))) (fun _ _ _ _ _ => dts_nil) (fun _ _ _ _ _ => (de_var (i := 5))) (fun _ _ _ _ _ => de_bl)) (ds_cons (ds_set (i := 3) (sc9).nd (de_callTy call_list1 prim_list1 (T.no "list" (by decide)) PyProof.Rows.boot_list (la_cons (de_var (i := 1)) la_nil))) (ds_cons (ds_while (dt_tru (de_var (i := 3))) (ds_one (ds_for (di_seq (de_meth (cands := [(0, 8)]) (T.m1 (by decide) rfl rfl) C.F hr (de_var (i := 0)) (.cons (.cons .nil)) (la_cons (de_lst (la_cons (de_bm0 prim_pop PySem.F.plainAttrs_list PySem.F.slot_list_pop PySem.F.type_list_pop mt_pop (de_var (i := 3))) la_nil)) (la_cons de_non la_nil)))) (dg_name (i := 4) (sc9).nd) (ds_one (ds_if (dt_cmp (op_notIn1 hr) prim_notIn1 (de_var (i := 4)) (de_var (i := 2))) (ds_cons (ds_asg de_bl (dg_sub hr (de_var (i := 2)) (de_var (i := 4)))) (ds_one (ds_expr (de_bm prim_app PySem.F.plainAttrs_list PySem.F.slot_list_append PySem.F.type_list_append mt_append (de_var (i := 3)) (la_cons (de_var (i := 4)) la_nil))))) ds_nil))))) (ds_one (ds_ret (de_callTy call_list1 prim_list1 (T.no "list" (by decide)) PyProof.Rows.boot_list (la_cons (de_var (i := 2)) la_nil)))))))
theorem ok10 (T : Tx K mg a fd ca) (TL : LamT mg base fd ca cc pp) (CV : ∀ cv, AllF P w K mg base (ca.wv cv) psN a fd k cl) (CL : AllL P w K mg base ca arN k cl) (C : AllF P w K mg base ca psN a fd k cl) (C2 : AllF2 P w K mg base ca psN a fd k cl2) (cdv : Value) (A : Around) (outer : List Env) (s : Shared) (H : Hp) (E : XK) (hr : Room k (A.deeper (envOfC "Numbers.__init__" (defScope st10) s.heap.objs.size (a 10) cdv))) :
    PSs (bx P w K mg base nm10 "Numbers.__init__" (defScope st10) (a 10) cdv A outer s H E) (defBody st10) (liftS ⟨K, w, ca⟩ (bd10 cl cl2)) := by
  unfold bd10
  exact (ds_cons (ds_fld (T.fo (cs := [1]) (by decide)) (de_dnew (k := k)) (de_var (i := 0))) (ds_one (ds_fld (T.fo (cs := [1]) (by decide)) (de_lst la_nil) (de_var (i := 0)))))
theorem ok11 (T : Tx K mg a fd ca) (TL : LamT mg base fd ca cc pp) (CV : ∀ cv, AllF P w K mg base (ca.wv cv) psN a fd k cl) (CL : AllL P w K mg base ca arN k cl) (C : AllF P w K mg base ca psN a fd k cl) (C2 : AllF2 P w K mg base ca psN a fd k cl2) (cdv : Value) (A : Around) (outer : List Env) (s : Shared) (H : Hp) (E : XK) (hr : Room k (A.deeper (envOfC "Numbers.of" (defScope st11) s.heap.objs.size (a 11) cdv))) :
    PSs (bx P w K mg base nm11 "Numbers.of" (defScope st11) (a 11) cdv A outer s H E) (defBody st11) (liftS ⟨K, w, ca⟩ (bd11 cl cl2)) := by
  unfold bd11
  exact (ds_cons (ds_if (dt_cmp (op_notIn1 hr) prim_notIn1 (de_var (i := 1)) (de_fld (T.fo (cs := [1]) (by decide)) (de_var (i := 0)))) (ds_cons (ds_asg (de_callB call_len1 prim_len1 (T.no "len" (by decide)) PySem.boot_len (la_cons (de_fld (T.fo (cs := [1]) (by decide)) (de_var (i := 0))) la_nil)) (dg_sub hr (de_fld (T.fo (cs := [1]) (by decide)) (de_var (i := 0))) (de_var (i := 1)))) (ds_one (ds_expr (de_bm prim_app PySem.F.plainAttrs_list PySem.F.slot_list_append PySem.F.type_list_append mt_append (de_fld (T.fo (cs := [1]) (by decide)) (de_var (i := 0))) (la_cons (de_var (i := 1)) la_nil))))) ds_nil) (ds_one (ds_ret (de_ix (ix_1 hr) prim_ix1 (de_fld (T.fo (cs := [1]) (by decide)) (de_var (i := 0))) (de_var (i := 1))))))
theorem ok12 (T : Tx K mg a fd ca) (TL : LamT mg base fd ca cc pp) (CV : ∀ cv, AllF P w K mg base (ca.wv cv) psN a fd k cl) (CL : AllL P w K mg base ca arN k cl) (C : AllF P w K mg base ca psN a fd k cl) (C2 : AllF2 P w K mg base ca psN a fd k cl2) (cdv : Value) (A : Around) (outer : List Env) (s : Shared) (H : Hp) (E : XK) (hr : Room k (A.deeper (envOfC "made" (defScope st12) s.heap.objs.size (a 12) cdv))) :
    PSs (bx P w K mg base nm12 "made" (defScope st12) (a 12) cdv A outer s H E) (defBody st12) (liftS ⟨K, w, ca⟩ (bd12 cl cl2)) := by
  unfold bd12
  exact (ds_cons (ds_set (i := 5) (sc12).nd (de_make0 (T.mk_ 1) (C2.F 10) (fun z => C2.z z 10) hr (T.bn 10) (T.cg 1))) (ds_cons (ds_set (i := 6) (sc12).nd (de_callTy cr_tupN prim_tuple (T.no "tuple" (by decide)) PyProof.Rows.boot_tuple (la_cons (de_lc (own := [("start", 11)]) (t := (.nm 11)) (sc12).nd (blkOk_by (own := [("start", 11)]) (by first | (show blkC nm12 (defScope st12) _ _ = true; decide +kernel) | (exact blk_in (N := nm12) (sc := (defScope st12)) rfl (by decide +kernel)))) (by decide) (di_seq (de_var (i := 2))) (fun _ _ _ _ _ => (pg_name (i := 11) (sc12).nd rfl (Or.inl rfl))) (fun _ _ _ _ _ => dts_nil) (fun _ _ _ _ _ => (de_meth (cands := [(1, 11)]) (T.m1 (by decide) rfl rfl) C.F hr (de_var (i := 5)) (.cons .nil) (la_cons (de_var (i := 11)) la_nil)))) la_nil))) (ds_cons (ds_set (i := 7) (sc12).nd (de_lst la_nil)) (ds_cons (ds_while (dt_cmp (op_ltA (DL.Room.u65 hr)) prim_lt (de_callB call_len1 prim_len1 (T.no "len" (by decide)) PySem.boot_len (la_cons (de_var (i := 7)) la_nil)) (de_callB call_len1 prim_len1 (T.no "len" (by decide)) PySem.boot_len (la_cons (de_fld (T.fo (cs := [1]) (by decide)) (de_var (i := 5))) la_nil))) (ds_cons (ds_set (i := 8) (sc12).nd (de_ix (ix_1 hr) prim_ix1 (de_fld (T.fo (cs := [1]) (by decide)) (de_var (i := 5))) (de_callB call_len1 prim_len1 (T.no "len" (by decide)) PySem.boot_len (la_cons (de_var (i := 7)) la_nil)))) (ds_one (ds_expr (de_bm prim_app PySem.F.plainAttrs_list PySem.F.slot_list_append PySem.F.type_list_append mt_append (de_var (i := 7)) (la_cons (de_callTy cr_tupN prim_tuple (T.no "tuple" (by decide)) PyProof.Rows.boot_tuple (la_cons (de_lc (own := [("symbol", 12)]) (t := (.nm 12)) (sc12).nd (blkOk_by (own := [("symbol", 12)]) (by first | (show blkC nm12 (defScope st12) _ _ = true; decide +kernel) | (exact blk_in (N := nm12) (sc := (defScope st12)) rfl (by decide +kernel)))) (by decide) (di_seq (de_var (i := 1))) (fun _ _ _ _ _ => (pg_name (i := 12) (sc12).nd rfl (Or.inl rfl))) (fun _ _ _ _ _ => dts_nil) (fun _ _ _ _ _ => (de_meth (cands := [(1, 11)]) (T.m1 (by decide) rfl rfl) C.F hr (de_var (i := 5)) (.cons .nil) (la_cons (de_clo (j := 3) CL hr (la_cons (de_var (i := 8)) (la_cons (de_var (i := 12)) la_nil))) la_nil)))) la_nil)) la_nil)))))) (ds_cons (ds_set (i := 9) (sc12).nd (de_callTy cr_tupN prim_tuple (T.no "tuple" (by decide)) PyProof.Rows.boot_tuple (la_cons (de_lc (own := [("number", 10), ("thing", 8)]) (t := (.tp [10, 8])) (sc12).nd (blkOk_by (own := [("number", 10), ("thing", 8)]) (by first | (show blkC nm12 (defScope st12) _ _ = true; decide +kernel) | (exact blk_in (N := nm12) (sc := (defScope st12)) rfl (by decide +kernel)))) (by decide) (di_enmA (T.no "enumerate" (by decide)) (de_fld (T.fo (cs := [1]) (by decide)) (de_var (i := 5)))) (fun _ _ _ _ _ => (pg_tup rfl (pgs_cons (pg_name (i := 10) (sc12).nd rfl (Or.inl rfl)) (pgs_cons (pg_name (i := 8) (sc12).nd rfl (Or.inl rfl)) pgs_nil)))) (fun _ _ _ _ _ => (dts_one (dt_tru (de_clo (j := 4) CL hr (la_cons (de_var (i := 8)) la_nil))))) (fun _ _ _ _ _ => (de_var (i := 10)))) la_nil))) (ds_one (ds_ret (de_tup (la_cons (de_var (i := 0)) (la_cons (de_var (i := 1)) (la_cons (de_var (i := 6)) (la_cons (de_callTy cr_tupN prim_tuple (T.no "tuple" (by decide)) PyProof.Rows.boot_tuple (la_cons (de_var (i := 7)) la_nil)) (la_cons (de_var (i := 9)) la_nil)))))))))))))
theorem ok13 (T : Tx K mg a fd ca) (TL : LamT mg base fd ca cc pp) (CV : ∀ cv, AllF P w K mg base (ca.wv cv) psN a fd k cl) (CL : AllL P w K mg base ca arN k cl) (C : AllF P w K mg base ca psN a fd k cl) (C2 : AllF2 P w K mg base ca psN a fd k cl2) (cdv : Value) (A : Around) (outer : List Env) (s : Shared) (H : Hp) (E : XK) (hr : Room k (A.deeper (envOfC "closed" (defScope st13) s.heap.objs.size (a 13) cdv))) :
    PSs (bx P w K mg base nm13 "closed" (defScope st13) (a 13) cdv A outer s H E) (defBody st13) (liftS ⟨K, w, ca⟩ (bd13 cl cl2)) := by
  unfold bd13
  exact (ds_one (ds_ret (de_callTy cr_tupN prim_tuple (T.no "tuple" (by decide)) PyProof.Rows.boot_tuple (la_cons (de_sortK (C2.F 5) (fun z => C2.z z 5) hr (T.bn 5) (T.no "sorted" (by decide)) (T.fn 5) (de_meth (cands := [(0, 9)]) (T.m1 (by decide) rfl rfl) C.F hr (de_var (i := 0)) (.cons .nil) (la_cons (de_var (i := 1)) la_nil))) la_nil))))
theorem ok14 (T : Tx K mg a fd ca) (TL : LamT mg base fd ca cc pp) (CV : ∀ cv, AllF P w K mg base (ca.wv cv) psN a fd k cl) (CL : AllL P w K mg base ca arN k cl) (C : AllF P w K mg base ca psN a fd k cl) (C2 : AllF2 P w K mg base ca psN a fd k cl2) (A : Around) (outer : List Env) (s : Shared) (H : Hp) (E : XK) (hrS : RoomS k (A.deeper (envOfC "table_of" (defScope st14) s.heap.objs.size (a 14) (.ref (cc 14))))) :
    PSs (bx P w K mg base nm14 "table_of" (defScope st14) (a 14) (.ref (cc 14)) A outer s H E) (defBody st14) (liftS ⟨K, w, ca⟩ (bd14 cl cl2)) := by
  have hr := hrS.room
  unfold bd14
  exact (ds_cons (ds_asg (de_var (i := 0)) (dg_tup (dgs_cons (dg_name (i := 3) (sc14).nd) (dgs_cons (dg_name (i := 4) (sc14).nd) dgs_nil)))) (ds_cons (ds_set (i := 5) (sc14).nd (de_make (T.mk_ 0) (C2.F 6) (fun z => C2.z z 6) hr (T.bn 6) (T.cg 0) (.cons .nil) (la_cons (de_var (i := 3)) la_nil))) (ds_one (ds_ret (de_mk (fun cv => (CV cv).F 12) hr (T.fn 12) (T.kp 12) (T.bn 12) (.d (.d (.d (.c (.c .nil))))) (ca_cons (de_var (i := 1)) (ca_cons (de_var (i := 2)) (ca_cons (de_lc (own := [("state", 6)]) (t := (.nm 6)) (sc14).nd (blkOk_by (own := [("state", 6)]) (by first | (show blkC nm14 (defScope st14) _ _ = true; decide +kernel) | (exact blk_in (N := nm14) (sc := (defScope st14)) rfl (by decide +kernel)))) (by decide) (di_seq (de_var (i := 1))) (fun _ _ _ _ _ => (pg_name (i := 6) (sc14).nd rfl (Or.inl rfl))) (fun _ _ _ _ _ => dts_nil) (fun _ _ _ _ _ => (de_call (C.F 13) hr (T.fn 13) (T.kp 13) (T.bn 13) (.cons (.cons .nil)) (la_cons (de_var (i := 5)) (la_cons (de_lst (la_cons (de_var (i := 6)) la_nil)) la_nil))))) (ca_lam (c := cc 14) (P := pp 14) (js := [5]) (L := lam0) (show ca.lm 0 = some lam0 from congrFun TL.lm 0) rfl TL.b14 TL.m14 TL.u14 (NdefX.ndef_free (fr := []) (by show NdefX.ndefB (defScope st14) (lamScope lex0) [] = true; decide +kernel)) (NdefX.ndef_fr (sc := defScope st14) (by show NdefX.ndefB (defScope st14) (lamScope lex0) lam0.fr = true; decide +kernel)) (lsc0).free rfl (ca_lam (c := cc 14) (P := pp 14) (js := [4]) (L := lam1) (show ca.lm 1 = some lam1 from congrFun TL.lm 1) rfl TL.b14 TL.m14 TL.u14 (NdefX.ndef_free (fr := []) (by show NdefX.ndefB (defScope st14) (lamScope lex1) [] = true; decide +kernel)) (NdefX.ndef_fr (sc := defScope st14) (by show NdefX.ndefB (defScope st14) (lamScope lex1) lam1.fr = true; decide +kernel)) (lsc1).free rfl ca_nil))))))))))
theorem ok15 (T : Tx K mg a fd ca) (TL : LamT mg base fd ca cc pp) (CV : ∀ cv, AllF P w K mg base (ca.wv cv) psN a fd k cl) (CL : AllL P w K mg base ca arN k cl) (C : AllF P w K mg base ca psN a fd k cl) (C2 : AllF2 P w K mg base ca psN a fd k cl2) (cdv : Value) (A : Around) (outer : List Env) (s : Shared) (H : Hp) (E : XK) (hr : Room k (A.deeper (envOfC "has" (defScope st15) s.heap.objs.size (a 15) cdv))) :
    PSs (bx P w K mg base nm15 "has" (defScope st15) (a 15) cdv A outer s H E) (defBody st15) (liftS ⟨K, w, ca⟩ (bd15 cl cl2)) := by
  unfold bd15
  exact (ds_cons (ds_asg (de_var (i := 0)) (dg_tup (dgs_cons (dg_name (i := 2) (sc15).nd) (dgs_cons (dg_name (i := 3) (sc15).nd) (dgs_cons (dg_name (i := 4) (sc15).nd) (dgs_cons (dg_name (i := 5) (sc15).nd) (dgs_cons (dg_name (i := 6) (sc15).nd) dgs_nil))))))) (ds_cons (ds_asg (de_var (i := 1)) (dg_tup (dgs_cons (dg_name (i := 7) (sc15).nd) (dgs_cons (dg_name (i := 8) (sc15).nd) dgs_nil)))) (ds_cons (ds_if (PW.pt (dw_or (dt_cmp (op_notIn1 hr) prim_notIn1 (de_var (i := 7)) (de_var (i := 2))) (dw_or1 (dt_not (dt_tru (de_callB (cr_all rfl) prim_all (T.no "all" (by decide)) boot_all (la_cons (de_lc (own := [("symbol", 10)]) (t := (.nm 10)) (sc15).nd (blkOk_by (own := [("symbol", 10)]) (by first | (show blkC nm15 (defScope st15) _ _ = true; decide +kernel) | (exact blk_in (N := nm15) (sc := (defScope st15)) rfl (by decide +kernel)))) (by decide) (di_seq (de_var (i := 8))) (fun _ _ _ _ _ => (pg_name (i := 10) (sc15).nd rfl (Or.inl rfl))) (fun _ _ _ _ _ => dts_nil) (fun _ _ _ _ _ => (de_cmp (op_in1 hr) prim_in1 (de_var (i := 10)) (de_var (i := 3))))) la_nil))))))) (ds_one (ds_ret de_bl)) ds_nil) (ds_cons (ds_set (i := 9) (sc15).nd (de_ix (ix_1 hr) prim_ix1 (de_var (i := 4)) (de_idxT hr (de_var (i := 2)) (la_cons (de_var (i := 7)) la_nil)))) (ds_cons (ds_for (di_seq (de_var (i := 8))) (dg_name (i := 10) (sc15).nd) (ds_one (ds_set (i := 9) (sc15).nd (de_ix (ix_1 hr) prim_ix1 (de_ix (ix_1 hr) prim_ix1 (de_var (i := 5)) (de_var (i := 9))) (de_idxT hr (de_var (i := 3)) (la_cons (de_var (i := 10)) la_nil)))))) (ds_one (ds_ret (de_cmp (op_in1 hr) prim_in1 (de_var (i := 9)) (de_var (i := 6))))))))))
theorem ok16 (T : Tx K mg a fd ca) (TL : LamT mg base fd ca cc pp) (CV : ∀ cv, AllF P w K mg base (ca.wv cv) psN a fd k cl) (CL : AllL P w K mg base ca arN k cl) (C : AllF P w K mg base ca psN a fd k cl) (C2 : AllF2 P w K mg base ca psN a fd k cl2) (cdv : Value) (A : Around) (outer : List Env) (s : Shared) (H : Hp) (E : XK) (hr : Room k (A.deeper (envOfC "_law_start" (defScope st16) s.heap.objs.size (a 16) cdv))) :
    PSs (bx P w K mg base nm16 "_law_start" (defScope st16) (a 16) cdv A outer s H E) (defBody st16) (liftS ⟨K, w, ca⟩ (bd16 cl cl2)) := by
  unfold bd16
  exact (ds_one (ds_ret (de_disp hr (pps_cons de_str (de_lc (own := [("_law_cell", 1)]) (t := (.nm 1)) (sc16).nd (blkOk_by (own := [("_law_cell", 1)]) (by first | (show blkC nm16 (defScope st16) _ _ = true; decide +kernel) | (exact blk_in (N := nm16) (sc := (defScope st16)) rfl (by decide +kernel)))) (by decide) (di_seq (de_var (i := 0))) (fun _ _ _ _ _ => (pg_name (i := 1) (sc16).nd rfl (Or.inl rfl))) (fun _ _ _ _ _ => dts_nil) (fun _ _ _ _ _ => (de_callB call_abs prim_abs (T.no "abs" (by decide)) boot_abs (la_cons (de_callTy call_int1 prim_toInt (T.no "int" (by decide)) PyProof.Rows.boot_int (la_cons (de_var (i := 1)) la_nil)) la_nil)))) (pps_cons de_str de_int (pps_cons de_str de_int (pps_cons de_str (de_op op_addAll prim_add de_int (de_callB call_len1 prim_len1 (T.no "len" (by decide)) PySem.boot_len (la_cons (de_var (i := 0)) la_nil))) pps_nil)))))))
theorem ok17 (T : Tx K mg a fd ca) (TL : LamT mg base fd ca cc pp) (CV : ∀ cv, AllF P w K mg base (ca.wv cv) psN a fd k cl) (CL : AllL P w K mg base ca arN k cl) (C : AllF P w K mg base ca psN a fd k cl) (C2 : AllF2 P w K mg base ca psN a fd k cl2) (cdv : Value) (A : Around) (outer : List Env) (s : Shared) (H : Hp) (E : XK) (hr : Room k (A.deeper (envOfC "_law_draw" (defScope st17) s.heap.objs.size (a 17) cdv))) :
    PSs (bx P w K mg base nm17 "_law_draw" (defScope st17) (a 17) cdv A outer s H E) (defBody st17) (liftS ⟨K, w, ca⟩ (bd17 cl cl2)) := by
  unfold bd17
  exact (ds_cons (ds_if (PW.pt (dw_and (dt_cmp (op_eqD hr.units) prim_eq (de_ix (ix_1 hr) prim_ix1 (de_var (i := 0)) de_str) de_int) (dw_and1 (dt_cmp (op_ltA (DL.Room.u65 hr)) prim_lt (de_ix (ix_1 hr) prim_ix1 (de_var (i := 0)) de_str) (de_callB call_len1 prim_len1 (T.no "len" (by decide)) PySem.boot_len (la_cons (de_ix (ix_1 hr) prim_ix1 (de_var (i := 0)) de_str) la_nil)))))) (ds_cons (ds_set (i := 2) (sc17).nd (de_ix (ix_1 hr) prim_ix1 (de_ix (ix_1 hr) prim_ix1 (de_var (i := 0)) de_str) (de_ix (ix_1 hr) prim_ix1 (de_var (i := 0)) de_str))) (ds_cons (ds_asg (de_op op_addAll prim_add (de_ix (ix_1 hr) prim_ix1 (de_var (i := 0)) de_str) de_int) (dg_sub hr (de_var (i := 0)) de_str)) (ds_cons (ds_asg (de_op op_mod prim_mod (de_callTy call_int1 prim_toInt (T.no "int" (by decide)) PyProof.Rows.boot_int (la_cons (de_op op_addAll prim_add (de_op op_addAll prim_add (de_op op_mul prim_mul (de_ix (ix_1 hr) prim_ix1 (de_var (i := 0)) de_str) de_int) (de_var (i := 2))) de_int) la_nil)) de_int) (dg_sub hr (de_var (i := 0)) de_str)) (ds_cons (ds_if (dt_cmp (op_ltA (DL.Room.u65 hr)) prim_lt (de_var (i := 2)) (de_op op_pow prim_pow de_int de_int)) (ds_one (ds_ret (de_op op_mod prim_mod (de_callTy call_int1 prim_toInt (T.no "int" (by decide)) PyProof.Rows.boot_int (la_cons (de_var (i := 2)) la_nil)) (de_var (i := 1))))) ds_nil) (ds_one (ds_asg (de_var (i := 2)) (dg_sub hr (de_var (i := 0)) de_str))))))) ds_nil) (ds_cons (ds_if (dt_cmp op_gt prim_gt (de_ix (ix_1 hr) prim_ix1 (de_var (i := 0)) de_str) de_int) (ds_cons (ds_set (i := 3) (sc17).nd (de_op op_mod prim_mod (de_callTy call_int1 prim_toInt (T.no "int" (by decide)) PyProof.Rows.boot_int (la_cons (de_ix (ix_1 hr) prim_ix1 (de_var (i := 0)) de_str) la_nil)) (de_var (i := 1)))) (ds_cons (ds_asg (de_op L2.op_fdivW prim_divW (de_ix (ix_1 hr) prim_ix1 (de_var (i := 0)) de_str) (de_var (i := 1))) (dg_sub hr (de_var (i := 0)) de_str)) (ds_one (ds_ret (de_var (i := 3)))))) ds_nil) (ds_cons (ds_asg (de_op op_mod prim_mod (de_callTy call_int1 prim_toInt (T.no "int" (by decide)) PyProof.Rows.boot_int (la_cons (de_op op_addAll prim_add (de_op op_mul prim_mul (de_ix (ix_1 hr) prim_ix1 (de_var (i := 0)) de_str) de_int) de_int) la_nil)) de_int) (dg_sub hr (de_var (i := 0)) de_str)) (ds_one (ds_ret (de_op op_mod prim_mod (de_callTy call_int1 prim_toInt (T.no "int" (by decide)) PyProof.Rows.boot_int (la_cons (de_op op_mod prim_mod (de_callTy call_int1 prim_toInt (T.no "int" (by decide)) PyProof.Rows.boot_int (la_cons (de_op op_addAll prim_add (de_op op_mul prim_mul (de_ix (ix_1 hr) prim_ix1 (de_var (i := 0)) de_str) de_int) de_int) la_nil)) de_int) la_nil)) (de_var (i := 1))))))))
theorem ok18 (T : Tx K mg a fd ca) (TL : LamT mg base fd ca cc pp) (CV : ∀ cv, AllF P w K mg base (ca.wv cv) psN a fd k cl) (CL : AllL P w K mg base ca arN k cl) (C : AllF P w K mg base ca psN a fd k cl) (C2 : AllF2 P w K mg base ca psN a fd k cl2) (cdv : Value) (A : Around) (outer : List Env) (s : Shared) (H : Hp) (E : XK) (hr : Room k (A.deeper (envOfC "_law_pick" (defScope st18) s.heap.objs.size (a 18) cdv))) :
    PSs (bx P w K mg base nm18 "_law_pick" (defScope st18) (a 18) cdv A outer s H E) (defBody st18) (liftS ⟨K, w, ca⟩ (bd18 cl cl2)) := by
  unfold bd18
  exact (ds_one (ds_ret (de_ix (ix_1 hr) prim_ix1 (de_var (i := 1)) (de_call (C.F 17) hr (T.fn 17) (T.kp 17) (T.bn 17) (.cons (.cons .nil)) (la_cons (de_var (i := 0)) (la_cons (de_callB call_len1 prim_len1 (T.no "len" (by decide)) PySem.boot_len (la_cons (de_var (i := 1)) la_nil)) la_nil))))))
theorem ok19 (T : Tx K mg a fd ca) (TL : LamT mg base fd ca cc pp) (CV : ∀ cv, AllF P w K mg base (ca.wv cv) psN a fd k cl) (CL : AllL P w K mg base ca arN k cl) (C : AllF P w K mg base ca psN a fd k cl) (C2 : AllF2 P w K mg base ca psN a fd k cl2) (cdv : Value) (A : Around) (outer : List Env) (s : Shared) (H : Hp) (E : XK) (hr : Room k (A.deeper (envOfC "_law_once" (defScope st19) s.heap.objs.size (a 19) cdv))) :
    PSs (bx P w K mg base nm19 "_law_once" (defScope st19) (a 19) cdv A outer s H E) (defBody st19) (liftS ⟨K, w, ca⟩ (bd19 cl cl2)) := by
  unfold bd19
  exact (ds_cons (ds_set (i := 1) (sc19).nd (de_lst la_nil)) (ds_cons (ds_for (di_seq (de_var (i := 0))) (dg_name (i := 2) (sc19).nd) (ds_one (ds_if (dt_cmp (op_notIn1 hr) prim_notIn1 (de_var (i := 2)) (de_var (i := 1))) (ds_one (ds_expr (de_bm prim_app PySem.F.plainAttrs_list PySem.F.slot_list_append PySem.F.type_list_append mt_append (de_var (i := 1)) (la_cons (de_var (i := 2)) la_nil)))) ds_nil))) (ds_one (ds_ret (de_var (i := 1))))))
theorem ok20 (T : Tx K mg a fd ca) (TL : LamT mg base fd ca cc pp) (CV : ∀ cv, AllF P w K mg base (ca.wv cv) psN a fd k cl) (CL : AllL P w K mg base ca arN k cl) (C : AllF P w K mg base ca psN a fd k cl) (C2 : AllF2 P w K mg base ca psN a fd k cl2) (cdv : Value) (A : Around) (outer : List Env) (s : Shared) (H : Hp) (E : XK) (hr : Room k (A.deeper (envOfC "_law_machine" (defScope st20) s.heap.objs.size (a 20) cdv))) :
    PSs (bx P w K mg base nm20 "_law_machine" (defScope st20) (a 20) cdv A outer s H E) (defBody st20) (liftS ⟨K, w, ca⟩ (bd20 cl cl2)) := by
  unfold bd20
  exact (ds_cons (ds_set (i := 2) (sc20).nd (de_lst (la_cons de_int (la_cons de_int (la_cons de_int (la_cons de_str (la_cons de_str la_nil))))))) (ds_cons (ds_set (i := 3) (sc20).nd (de_if (dt_tru (de_var (i := 1))) (de_lst (la_cons de_str (la_cons de_str la_nil))) (de_var (i := 2)))) (ds_cons (ds_set (i := 4) (sc20).nd (de_if (dt_tru (de_var (i := 1))) (de_lst (la_cons de_str (la_cons de_str la_nil))) (de_lst (la_cons de_str (la_cons de_str (la_cons de_str (la_cons de_str (la_cons de_non la_nil)))))))) (ds_cons (ds_set (i := 5) (sc20).nd (de_lst la_nil)) (ds_cons (ds_for (di_rng1 (T.no "range" (by decide)) (de_call (C.F 17) hr (T.fn 17) (T.kp 17) (T.bn 17) (.cons (.cons .nil)) (la_cons (de_var (i := 0)) (la_cons de_int la_nil)))) (dg_name (i := 6) (sc20).nd) (ds_one (ds_expr (de_bm prim_app PySem.F.plainAttrs_list PySem.F.slot_list_append PySem.F.type_list_append mt_append (de_var (i := 5)) (la_cons (de_tup (la_cons (de_call (C.F 18) hr (T.fn 18) (T.kp 18) (T.bn 18) (.cons (.cons .nil)) (la_cons (de_var (i := 0)) (la_cons (de_var (i := 2)) la_nil))) (la_cons (de_call (C.F 18) hr (T.fn 18) (T.kp 18) (T.bn 18) (.cons (.cons .nil)) (la_cons (de_var (i := 0)) (la_cons (de_var (i := 4)) la_nil))) (la_cons (de_call (C.F 18) hr (T.fn 18) (T.kp 18) (T.bn 18) (.cons (.cons .nil)) (la_cons (de_var (i := 0)) (la_cons (de_var (i := 3)) la_nil))) la_nil)))) la_nil))))) (ds_cons (ds_setLc (own := [("_law_node", 8)]) (t := (.nm 8)) (i := 7) (sc20).nd (sw_true rfl rfl rfl (by decide +kernel)) (blkOk_by (own := [("_law_node", 8)]) (by first | (show blkC nm20 (defScope st20) _ _ = true; decide +kernel) | (exact blk_in (N := nm20) (sc := (defScope st20)) rfl (by decide +kernel)))) (by decide) (di_seq (de_var (i := 2))) (fun _ _ _ _ _ => (pg_name (i := 8) (sc20).nd rfl (Or.inl rfl))) (fun _ _ _ _ _ => (dts_one (dt_cmp (op_eqD hr.units) prim_eq (de_call (C.F 17) hr (T.fn 17) (T.kp 17) (T.bn 17) (.cons (.cons .nil)) (la_cons (de_var (i := 0)) (la_cons de_int la_nil))) de_int))) (fun _ _ _ _ _ => (de_var (i := 8)))) (ds_one (ds_ret (de_tup (la_cons (de_callTy cr_tupN prim_tuple (T.no "tuple" (by decide)) PyProof.Rows.boot_tuple (la_cons (de_call (C.F 19) hr (T.fn 19) (T.kp 19) (T.bn 19) (.cons .nil) (la_cons (de_var (i := 5)) la_nil)) la_nil)) (la_cons (de_callTy cr_tupN prim_tuple (T.no "tuple" (by decide)) PyProof.Rows.boot_tuple (la_cons (de_var (i := 7)) la_nil)) la_nil)))))))))))
theorem ok21 (T : Tx K mg a fd ca) (TL : LamT mg base fd ca cc pp) (CV : ∀ cv, AllF P w K mg base (ca.wv cv) psN a fd k cl) (CL : AllL P w K mg base ca arN k cl) (C : AllF P w K mg base ca psN a fd k cl) (C2 : AllF2 P w K mg base ca psN a fd k cl2) (cdv : Value) (A : Around) (outer : List Env) (s : Shared) (H : Hp) (E : XK) (hr : Room k (A.deeper (envOfC "_law_stacks" (defScope st21) s.heap.objs.size (a 21) cdv))) :
    PSs (bx P w K mg base nm21 "_law_stacks" (defScope st21) (a 21) cdv A outer s H E) (defBody st21) (liftS ⟨K, w, ca⟩ (bd21 cl cl2)) := by
  unfold bd21
  exact (ds_cons (ds_set (i := 1) (sc21).nd (de_lst (la_cons (de_tup la_nil) la_nil))) (ds_cons (ds_set (i := 2) (sc21).nd (de_lst (la_cons (de_tup la_nil) la_nil))) (ds_cons (ds_for (di_rng1 (T.no "range" (by decide)) (de_var (i := 0))) (dg_name (i := 3) (sc21).nd) (ds_cons (ds_set (i := 2) (sc21).nd (de_op op_addAll prim_add (de_lc (own := [("_law_stack", 4)]) (t := (.nm 4)) (sc21).nd (blkOk_by (own := [("_law_stack", 4)]) (by first | (show blkC nm21 (defScope st21) _ _ = true; decide +kernel) | (exact blk_in (N := nm21) (sc := (defScope st21)) rfl (by decide +kernel)))) (by decide) (di_seq (de_var (i := 2))) (fun _ _ _ _ _ => (pg_name (i := 4) (sc21).nd rfl (Or.inl rfl))) (fun _ _ _ _ _ => dts_nil) (fun _ _ _ _ _ => (de_op op_addAll prim_add (de_var (i := 4)) (de_tup (la_cons de_str la_nil))))) (de_lc (own := [("_law_stack", 4)]) (t := (.nm 4)) (sc21).nd (blkOk_by (own := [("_law_stack", 4)]) (by first | (show blkC nm21 (defScope st21) _ _ = true; decide +kernel) | (exact blk_in (N := nm21) (sc := (defScope st21)) rfl (by decide +kernel)))) (by decide) (di_seq (de_var (i := 2))) (fun _ _ _ _ _ => (pg_name (i := 4) (sc21).nd rfl (Or.inl rfl))) (fun _ _ _ _ _ => dts_nil) (fun _ _ _ _ _ => (de_op op_addAll prim_add (de_var (i := 4)) (de_tup (la_cons de_str la_nil))))))) (ds_one (ds_expr (de_bm prim_extQ PySem.F.plainAttrs_list PySem.F.slot_list_extend PySem.F.type_list_extend mt_extA (de_var (i := 1)) (la_cons (de_var (i := 2)) la_nil)))))) (ds_one (ds_ret (de_var (i := 1)))))))
theorem ok22 (T : Tx K mg a fd ca) (TL : LamT mg base fd ca cc pp) (CV : ∀ cv, AllF P w K mg base (ca.wv cv) psN a fd k cl) (CL : AllL P w K mg base ca arN k cl) (C : AllF P w K mg base ca psN a fd k cl) (C2 : AllF2 P w K mg base ca psN a fd k cl2) (cdv : Value) (A : Around) (outer : List Env) (s : Shared) (H : Hp) (E : XK) (hr : Room k (A.deeper (envOfC "law" (defScope st22) s.heap.objs.size (a 22) cdv))) :
    PSs (bx P w K mg base nm22 "law" (defScope st22) (a 22) cdv A outer s H E) (defBody st22) (liftS ⟨K, w, ca⟩ (bd22 cl cl2)) := by
  unfold bd22
  exact (ds_cons (ds_set (i := 1) (sc22).nd (de_call (C.F 16) hr (T.fn 16) (T.kp 16) (T.bn 16) (.cons .nil) (la_cons (de_var (i := 0)) la_nil))) (ds_cons (ds_set (i := 2) (sc22).nd (de_call (C.F 14) hr (T.fn 14) (T.kp 14) (T.bn 14) (.cons (.cons (.cons .nil))) (la_cons (de_call (C.F 20) hr (T.fn 20) (T.kp 20) (T.bn 20) (.cons (.cons .nil)) (la_cons (de_var (i := 1)) (la_cons (de_cmp (op_eqD hr.units) prim_eq (de_call (C.F 17) hr (T.fn 17) (T.kp 17) (T.bn 17) (.cons (.cons .nil)) (la_cons (de_var (i := 1)) (la_cons de_int la_nil))) de_int) la_nil))) (la_cons (de_tup (la_cons de_int (la_cons de_int (la_cons de_int la_nil)))) (la_cons (de_tup (la_cons de_str (la_cons de_str la_nil))) la_nil))))) (ds_cons (ds_set (i := 3) (sc22).nd (de_call (C.F 17) hr (T.fn 17) (T.kp 17) (T.bn 17) (.cons (.cons .nil)) (la_cons (de_var (i := 1)) (la_cons de_int la_nil)))) (ds_cons (ds_setLc (own := [("_law_stack", 14)]) (t := (.nm 14)) (i := 4) (sc22).nd (sw_true rfl rfl rfl (by decide +kernel)) (blkOk_by (own := [("_law_stack", 14)]) (by first | (show blkC nm22 (defScope st22) _ _ = true; decide +kernel) | (exact blk_in (N := nm22) (sc := (defScope st22)) rfl (by decide +kernel)))) (by decide) (di_seq (de_call (C.F 21) hr (T.fn 21) (T.kp 21) (T.bn 21) (.cons .nil) (la_cons de_int la_nil))) (fun _ _ _ _ _ => (pg_name (i := 14) (sc22).nd rfl (Or.inl rfl))) (fun _ _ _ _ _ => (dts_one (dt_cmp (op_eqD hr.units) prim_eq (de_callB call_len1 prim_len1 (T.no "len" (by decide)) PySem.boot_len (la_cons (de_var (i := 14)) la_nil)) (de_var (i := 3))))) (fun _ _ _ _ _ => (de_var (i := 14)))) (ds_cons (ds_set (i := 5) (sc22).nd (de_lst la_nil)) (ds_cons (ds_for (di_seq (de_lst (la_cons de_int (la_cons de_int (la_cons de_int la_nil))))) (dg_name (i := 6) (sc22).nd) (ds_one (ds_expr (de_bm prim_extQ PySem.F.plainAttrs_list PySem.F.slot_list_extend PySem.F.type_list_extend mt_extA (de_var (i := 5)) (la_cons (de_lc (own := [("_law_stack", 14)]) (t := (.nm 14)) (sc22).nd (blkOk_by (own := [("_law_stack", 14)]) (by first | (show blkC nm22 (defScope st22) _ _ = true; decide +kernel) | (exact blk_in (N := nm22) (sc := (defScope st22)) rfl (by decide +kernel)))) (by decide) (di_seq (de_sortE hr (T.no "sorted" (by decide)) (de_var (i := 4)))) (fun _ _ _ _ _ => (pg_name (i := 14) (sc22).nd rfl (Or.inl rfl))) (fun _ _ _ _ _ => (dts_one (dt_tru (de_call (C.F 15) hr (T.fn 15) (T.kp 15) (T.bn 15) (.cons (.cons .nil)) (la_cons (de_var (i := 2)) (la_cons (de_tup (la_cons (de_var (i := 6)) (la_cons (de_var (i := 14)) la_nil))) la_nil)))))) (fun _ _ _ _ _ => (de_tup (la_cons (de_var (i := 6)) (la_cons (de_var (i := 14)) la_nil))))) la_nil))))) (ds_cons (ds_if (dt_cmp (op_neD hr.units) prim_ne (de_call (C.F 1) hr (T.fn 1) (T.kp 1) (T.bn 1) (.cons (.cons .nil)) (la_cons (de_var (i := 2)) (la_cons (de_var (i := 3)) la_nil))) (de_callB call_len1 prim_len1 (T.no "len" (by decide)) PySem.boot_len (la_cons (de_var (i := 5)) la_nil))) (ds_one (ds_ret de_bl)) ds_nil) (ds_cons (ds_for (di_rng1 (T.no "range" (by decide)) de_int) (dg_name (i := 7) (sc22).nd) (ds_cons (ds_set (i := 8) (sc22).nd (de_tup (la_cons (de_call (C.F 17) hr (T.fn 17) (T.kp 17) (T.bn 17) (.cons (.cons .nil)) (la_cons (de_var (i := 1)) (la_cons de_int la_nil))) (la_cons (de_call (C.F 18) hr (T.fn 18) (T.kp 18) (T.bn 18) (.cons (.cons .nil)) (la_cons (de_var (i := 1)) (la_cons (de_var (i := 4)) la_nil))) la_nil)))) (ds_cons (ds_set (i := 9) (sc22).nd (de_if (dt_cmp (op_in1 hr) prim_in1 (de_var (i := 8)) (de_var (i := 5))) (de_bm prim_idxL PySem.F.plainAttrs_list PySem.F.slot_list_index PySem.F.type_list_index (mt_indexD (DL.Room.u65 hr)) (de_var (i := 5)) (la_cons (de_var (i := 8)) la_nil)) de_non)) (ds_cons (ds_if (dt_cmp (op_neD hr.units) prim_ne (de_call (C.F 2) hr (T.fn 2) (T.kp 2) (T.bn 2) (.cons (.cons .nil)) (la_cons (de_var (i := 2)) (la_cons (de_var (i := 8)) la_nil))) (de_var (i := 9))) (ds_one (ds_ret de_bl)) ds_nil) (ds_cons (ds_set (i := 10) (sc22).nd (de_op op_sub (prim_int fun _ _ => rfl) (de_call (C.F 17) hr (T.fn 17) (T.kp 17) (T.bn 17) (.cons (.cons .nil)) (la_cons (de_var (i := 1)) (la_cons (de_op op_addAll prim_add (de_callB call_len1 prim_len1 (T.no "len" (by decide)) PySem.boot_len (la_cons (de_var (i := 5)) la_nil)) de_int) la_nil))) de_int)) (ds_one (ds_if (dt_cmp (op_neD hr.units) prim_ne (de_call (C.F 4) hr (T.fn 4) (T.kp 4) (T.bn 4) (.cons (.cons (.cons .nil))) (la_cons (de_var (i := 2)) (la_cons (de_var (i := 3)) (la_cons (de_var (i := 10)) la_nil)))) (de_if (dt_chain op_le prim_le (op_ltA (DL.Room.u65 hr)) prim_lt de_int (de_var (i := 10)) (de_callB call_len1 prim_len1 (T.no "len" (by decide)) PySem.boot_len (la_cons (de_var (i := 5)) la_nil))) (de_ix (ix_1 hr) prim_ix1 (de_var (i := 5)) (de_var (i := 10))) de_non)) (ds_one (ds_ret de_bl)) ds_nil))))))) (ds_cons (ds_if (PW.pt (dw_or (dt_notN (de_call (C.F 2) hr (T.fn 2) (T.kp 2) (T.bn 2) (.cons (.cons .nil)) (la_cons (de_var (i := 2)) (la_cons (de_tup (la_cons de_int (la_cons (de_tup (la_cons de_str la_nil)) la_nil))) la_nil)))) (dw_or1 (dt_notN (de_call (C.F 2) hr (T.fn 2) (T.kp 2) (T.bn 2) (.cons (.cons .nil)) (la_cons (de_var (i := 2)) (la_cons (de_tup (la_cons de_str (la_cons (de_tup la_nil) la_nil))) la_nil))))))) (ds_one (ds_ret de_bl)) ds_nil) (ds_cons (ds_set (i := 3) (sc22).nd (de_op op_addAll prim_add de_int (de_call (C.F 17) hr (T.fn 17) (T.kp 17) (T.bn 17) (.cons (.cons .nil)) (la_cons (de_var (i := 1)) (la_cons de_int la_nil))))) (ds_cons (ds_set (i := 11) (sc22).nd (de_lc (own := [("_law_node", 13)]) (t := (.nm 13)) (sc22).nd (blkOk_by (own := [("_law_node", 13)]) (by first | (show blkC nm22 (defScope st22) _ _ = true; decide +kernel) | (exact blk_in (N := nm22) (sc := (defScope st22)) rfl (by decide +kernel)))) (by decide) (di_rng1 (T.no "range" (by decide)) (de_callB call_len1 prim_len1 (T.no "len" (by decide)) PySem.boot_len (la_cons (de_ix (ix_1 hr) prim_ix1 (de_var (i := 2)) de_int) la_nil))) (fun _ _ _ _ _ => (pg_name (i := 13) (sc22).nd rfl (Or.inl rfl))) (fun _ _ _ _ _ => dts_nil) (fun _ _ _ _ _ => (de_callTy call_int1 prim_toInt (T.no "int" (by decide)) PyProof.Rows.boot_int (la_cons (de_cmp (op_in1 hr) prim_in1 (de_var (i := 13)) (de_ix (ix_1 hr) prim_ix1 (de_var (i := 2)) de_int)) la_nil))))) (ds_cons (ds_for (di_rng1 (T.no "range" (by decide)) (de_var (i := 3))) (dg_name (i := 7) (sc22).nd) (ds_one (ds_set (i := 11) (sc22).nd (de_lc (own := [("_law_targets", 17)]) (t := (.nm 17)) (sc22).nd (blkOk_by (own := [("_law_targets", 17)]) (by first | (show blkC nm22 (defScope st22) _ _ = true; decide +kernel) | (exact blk_in (N := nm22) (sc := (defScope st22)) rfl (by decide +kernel)))) (by decide) (di_seq (de_ix (ix_1 hr) prim_ix1 (de_var (i := 2)) de_int)) (fun _ _ _ _ _ => (pg_name (i := 17) (sc22).nd rfl (Or.inl rfl))) (fun _ _ _ _ _ => dts_nil) (fun _ _ _ _ _ => (de_callB (cr_sum rfl) prim_sum (T.no "sum" (by decide)) boot_sum (la_cons (de_lc (own := [("_law_target", 16)]) (t := (.nm 16)) (sc22).nd (blkOk_by (own := [("_law_target", 16)]) (by first | (show blkC nm22 (defScope st22) _ _ = true; decide +kernel) | (exact blk_in (N := nm22) (sc := (defScope st22)) rfl (by decide +kernel)))) (by decide) (di_seq (de_var (i := 17))) (fun _ _ _ _ _ => (pg_name (i := 16) (sc22).nd rfl (Or.inl rfl))) (fun _ _ _ _ _ => dts_nil) (fun _ _ _ _ _ => (de_ix (ix_1 hr) prim_ix1 (de_var (i := 11)) (de_var (i := 16))))) la_nil))))))) (ds_cons (ds_set (i := 12) (sc22).nd (de_callB (cr_sum rfl) prim_sum (T.no "sum" (by decide)) boot_sum (la_cons (de_lc (own := [("_law_start_here", 15)]) (t := (.nm 15)) (sc22).nd (blkOk_by (own := [("_law_start_here", 15)]) (by first | (show blkC nm22 (defScope st22) _ _ = true; decide +kernel) | (exact blk_in (N := nm22) (sc := (defScope st22)) rfl (by decide +kernel)))) (by decide) (di_seq (de_ix (ix_1 hr) prim_ix1 (de_var (i := 2)) de_int)) (fun _ _ _ _ _ => (pg_name (i := 15) (sc22).nd rfl (Or.inl rfl))) (fun _ _ _ _ _ => dts_nil) (fun _ _ _ _ _ => (de_ix (ix_1 hr) prim_ix1 (de_var (i := 11)) (de_var (i := 15))))) la_nil))) (ds_cons (ds_if (dt_cmp (op_neD hr.units) prim_ne (de_call (C.F 1) hr (T.fn 1) (T.kp 1) (T.bn 1) (.cons (.cons .nil)) (la_cons (de_var (i := 2)) (la_cons (de_var (i := 3)) la_nil))) (de_var (i := 12))) (ds_one (ds_ret de_bl)) ds_nil) (ds_cons (ds_if (dt_cmp (op_eqD hr.units) prim_eq (de_var (i := 12)) de_int) (ds_one (ds_ret (de_isN (de_call (C.F 4) hr (T.fn 4) (T.kp 4) (T.bn 4) (.cons (.cons (.cons .nil))) (la_cons (de_var (i := 2)) (la_cons (de_var (i := 3)) (la_cons de_int la_nil))))))) ds_nil) (ds_cons (ds_set (i := 9) (sc22).nd (de_call (C.F 17) hr (T.fn 17) (T.kp 17) (T.bn 17) (.cons (.cons .nil)) (la_cons (de_var (i := 1)) (la_cons (de_var (i := 12)) la_nil)))) (ds_one (ds_ret (de_cmp (op_eqD hr.units) prim_eq (de_call (C.F 2) hr (T.fn 2) (T.kp 2) (T.bn 2) (.cons (.cons .nil)) (la_cons (de_var (i := 2)) (la_cons (de_call (C.F 4) hr (T.fn 4) (T.kp 4) (T.bn 4) (.cons (.cons (.cons .nil))) (la_cons (de_var (i := 2)) (la_cons (de_var (i := 3)) (la_cons (de_var (i := 9)) la_nil)))) la_nil))) (de_var (i := 9)))))))))))))))))))))
theorem okl0 (T : Tx K mg a fd ca) (TL : LamT mg base fd ca cc pp) (CV : ∀ cv, AllF P w K mg base (ca.wv cv) psN a fd k cl) (CL : AllL P w K mg base ca arN k cl) (C : AllF P w K mg base ca psN a fd k cl) (C2 : AllF2 P w K mg base ca psN a fd k cl2) (A : Around) (outer : List Env) (s : Shared) (H : Hp) (f c : Addr) (clo : List (Str × Addr)) (hr : Room k (A.deeper (NdefX.envF (lamN lam0 clo c) f s.heap.objs.size))) :
    PE (NdefX.ncx CX0 P w K mg base lnm0 (lamN lam0 clo c) f A outer s H E0) (LamI.body lam0) (liftE ⟨K, w, ca⟩ (bl0 cl cl2)) := by
  unfold bl0
  exact (de_call (C.F 13) hr (T.fn 13) (T.kp 13) (T.bn 13) (.cons (.cons .nil)) (la_cons (de_var (i := 2)) (la_cons (de_meth (cands := [(0, 8)]) (T.m1 (by decide) rfl rfl) C.F hr (de_var (i := 2)) (.cons (.cons .nil)) (la_cons (de_var (i := 0)) (la_cons (de_var (i := 1)) la_nil))) la_nil)))
theorem okl1 (T : Tx K mg a fd ca) (TL : LamT mg base fd ca cc pp) (CV : ∀ cv, AllF P w K mg base (ca.wv cv) psN a fd k cl) (CL : AllL P w K mg base ca arN k cl) (C : AllF P w K mg base ca psN a fd k cl) (C2 : AllF2 P w K mg base ca psN a fd k cl2) (A : Around) (outer : List Env) (s : Shared) (H : Hp) (f c : Addr) (clo : List (Str × Addr)) (hr : Room k (A.deeper (NdefX.envF (lamN lam1 clo c) f s.heap.objs.size))) :
    PE (NdefX.ncx CX0 P w K mg base lnm1 (lamN lam1 clo c) f A outer s H E0) (LamI.body lam1) (liftE ⟨K, w, ca⟩ (bl1 cl cl2)) := by
  unfold bl1
  exact (de_callB (cr_any rfl) prim_any (T.no "any" (by decide)) boot_any (la_cons (de_lc (own := [("node", 2)]) (t := (.nm 2)) (lsc1).nd (blkOk_by (own := [("node", 2)]) (by first | (show blkC lnm1 (lamScope lex1) _ _ = true; decide +kernel) | (exact blk_in (N := lnm1) (sc := (lamScope lex1)) rfl (by decide +kernel)))) (by decide) (di_seq (de_var (i := 0))) (fun _ _ _ _ _ => (pg_name (i := 2) (lsc1).nd rfl (Or.inl rfl))) (fun _ _ _ _ _ => dts_nil) (fun _ _ _ _ _ => (de_cmp (op_in1 hr) prim_in1 (de_var (i := 2)) (de_var (i := 1))))) la_nil))
theorem stepF (T : Tx K mg a fd ca) (TL : LamT mg base fd ca cc pp) (CV : ∀ cv, AllF P w K mg base (ca.wv cv) psN a fd k cl) (CL : AllL P w K mg base ca arN k cl) (C : AllF P w K mg base ca psN a fd k cl) (C2 : AllF2 P w K mg base ca psN a fd k cl2) : AllF P w K mg base ca psN a fd (k + 1) (bdN cl cl2) := ⟨fun g => by
  match g with
  | 0 => exact fun_ok (T.fu 0) sc0 fun cdv A outer s H E hr => ok0 T TL CV CL C C2 cdv A outer s H E hr
  | 1 => exact fun_ok (T.fu 1) sc1 fun cdv A outer s H E hr => ok1 T TL CV CL C C2 cdv A outer s H E hr
  | 2 => exact fun_ok (T.fu 2) sc2 fun cdv A outer s H E hr => ok2 T TL CV CL C C2 cdv A outer s H E hr
  | 3 => exact fun_ok (T.fu 3) sc3 fun cdv A outer s H E hr => ok3 T TL CV CL C C2 cdv A outer s H E hr
  | 4 => exact fun_ok (T.fu 4) sc4 fun cdv A outer s H E hr => ok4 T TL CV CL C C2 cdv A outer s H E hr
  | 5 => exact fun_ok (T.fu 5) sc5 fun cdv A outer s H E hr => ok5 T TL CV CL C C2 cdv A outer s H E hr
  | 6 => exact fun_ok (T.fu 6) sc6 fun cdv A outer s H E hr => ok6 T TL CV CL C C2 cdv A outer s H E hr
  | 7 => exact fun_ok (T.fu 7) sc7 fun cdv A outer s H E hr => ok7 T TL CV CL C C2 cdv A outer s H E hr
  | 8 => exact fun_ok (T.fu 8) sc8 fun cdv A outer s H E hr => ok8 T TL CV CL C C2 cdv A outer s H E hr
  | 9 => exact fun_ok (T.fu 9) sc9 fun cdv A outer s H E hr => ok9 T TL CV CL C C2 cdv A outer s H E hr
  | 10 => exact fun_ok (T.fu 10) sc10 fun cdv A outer s H E hr => ok10 T TL CV CL C C2 cdv A outer s H E hr
  | 11 => exact fun_ok (T.fu 11) sc11 fun cdv A outer s H E hr => ok11 T TL CV CL C C2 cdv A outer s H E hr
  | 12 => exact fun_ok (T.fu 12) sc12 fun cdv A outer s H E hr => ok12 T TL CV CL C C2 cdv A outer s H E hr
  | 13 => exact fun_ok (T.fu 13) sc13 fun cdv A outer s H E hr => ok13 T TL CV CL C C2 cdv A outer s H E hr
  | 14 => exact funC_ok (T.fu 14) TL.c14 sc14 fun A outer s H E hr => ok14 T TL CV CL C C2 A outer s H E hr
  | 15 => exact fun_ok (T.fu 15) sc15 fun cdv A outer s H E hr => ok15 T TL CV CL C C2 cdv A outer s H E hr
  | 16 => exact fun_ok (T.fu 16) sc16 fun cdv A outer s H E hr => ok16 T TL CV CL C C2 cdv A outer s H E hr
  | 17 => exact fun_ok (T.fu 17) sc17 fun cdv A outer s H E hr => ok17 T TL CV CL C C2 cdv A outer s H E hr
  | 18 => exact fun_ok (T.fu 18) sc18 fun cdv A outer s H E hr => ok18 T TL CV CL C C2 cdv A outer s H E hr
  | 19 => exact fun_ok (T.fu 19) sc19 fun cdv A outer s H E hr => ok19 T TL CV CL C C2 cdv A outer s H E hr
  | 20 => exact fun_ok (T.fu 20) sc20 fun cdv A outer s H E hr => ok20 T TL CV CL C C2 cdv A outer s H E hr
  | 21 => exact fun_ok (T.fu 21) sc21 fun cdv A outer s H E hr => ok21 T TL CV CL C C2 cdv A outer s H E hr
  | 22 => exact fun_ok (T.fu 22) sc22 fun cdv A outer s H E hr => ok22 T TL CV CL C C2 cdv A outer s H E hr
  | m + 23 =>
    have e : ∃ b : Bool, bdN cl cl2 (m + 23) = cond b (fun _ _ => none) (bdL cl cl2 (m + 23 - 1000)) := ⟨_, rfl⟩
    obtain ⟨b, e⟩ := e
    rw [e]
    exact fn_nil fun S => by cases b with | true => rfl | false => exact bdL_nil cl cl2 _ S⟩
theorem stepL (T : Tx K mg a fd ca) (TL : LamT mg base fd ca cc pp) (CV : ∀ cv, AllF P w K mg base (ca.wv cv) psN a fd k cl) (CL : AllL P w K mg base ca arN k cl) (C : AllF P w K mg base ca psN a fd k cl) (C2 : AllF2 P w K mg base ca psN a fd k cl2) (i : Nat) (L : LamI) (hL : ca.lm i = some L) : LamOk P w K mg base (k + 1) L (arN i) ⟨K, w, ca⟩ (bdN cl cl2 (1000 + i)) := by
  rw [TL.lm] at hL
  match i, hL with
  | 0, hL => cases hL; exact lam_ok lsc0 (fun _ _ _ _ us hl => match us, hl with | [_, _], _ => rfl) fun A outer s H f c clo hr => okl0 T TL CV CL C C2 A outer s H f c clo hr
  | 1, hL => cases hL; exact lam_ok lsc1 (fun _ _ _ _ us hl => match us, hl with | [_], _ => rfl) fun A outer s H f c clo hr => okl1 T TL CV CL C C2 A outer s H f c clo hr
  | _ + 2, hL => cases hL
theorem step (T : Tx K mg a fd ca) (TL : LamT mg base fd ca cc pp) (k : Nat) (cl cl2 : Nat → FM) (CV : ∀ cv, AllF P w K mg base (ca.wv cv) psN a fd k cl) (CV2 : ∀ cv, AllF2 P w K mg base (ca.wv cv) psN a fd k cl2) (CL : AllL P w K mg base ca arN k cl) :
    (∀ cv, AllF P w K mg base (ca.wv cv) psN a fd (k + 1) (bdN cl cl2)) ∧ AllL P w K mg base ca arN (k + 1) (bdN cl cl2) :=
  ⟨fun cv => stepF (ca := ca.wv cv) (T.wv cv) (TL.wv cv) CV (CL.wv cv) (CV cv) (CV2 cv), ⟨fun cv i L hL => stepL (ca := ca.wv cv) (T.wv cv) (TL.wv cv) CV (CL.wv cv) (CV cv) (CV2 cv) i L hL⟩⟩
end
theorem calls_succ : ∀ k, ∃ c2, calls (k + 1) = bdN (calls k) c2
  | 0 => ⟨_, rfl⟩
  | 1 => ⟨_, rfl⟩
  | _ + 2 => ⟨_, rfl⟩
theorem c0 (k : Nat) : ∃ c2, calls (k + 1) 0 = runB 10 (bd0 (calls k) c2) := let ⟨c2, e⟩ := calls_succ k; ⟨c2, by rw [e]; rfl⟩
theorem c1 (k : Nat) : ∃ c2, calls (k + 1) 1 = runB 4 (bd1 (calls k) c2) := let ⟨c2, e⟩ := calls_succ k; ⟨c2, by rw [e]; rfl⟩
theorem c2 (k : Nat) : ∃ c2, calls (k + 1) 2 = runB 19 (bd2 (calls k) c2) := let ⟨c2, e⟩ := calls_succ k; ⟨c2, by rw [e]; rfl⟩
theorem c3 (k : Nat) : ∃ c2, calls (k + 1) 3 = runB 5 (bd3 (calls k) c2) := let ⟨c2, e⟩ := calls_succ k; ⟨c2, by rw [e]; rfl⟩
theorem c4 (k : Nat) : ∃ c2, calls (k + 1) 4 = runB 14 (bd4 (calls k) c2) := let ⟨c2, e⟩ := calls_succ k; ⟨c2, by rw [e]; rfl⟩
theorem c5 (k : Nat) : ∃ c2, calls (k + 1) 5 = runB 2 (bd5 (calls k) c2) := let ⟨c2, e⟩ := calls_succ k; ⟨c2, by rw [e]; rfl⟩
theorem c6 (k : Nat) : ∃ c2, calls (k + 1) 6 = runB 3 (bd6 (calls k) c2) := let ⟨c2, e⟩ := calls_succ k; ⟨c2, by rw [e]; rfl⟩
theorem c7 (k : Nat) : ∃ c2, calls (k + 1) 7 = runB 5 (bd7 (calls k) c2) := let ⟨c2, e⟩ := calls_succ k; ⟨c2, by rw [e]; rfl⟩
theorem c8 (k : Nat) : ∃ c2, calls (k + 1) 8 = runB 6 (bd8 (calls k) c2) := let ⟨c2, e⟩ := calls_succ k; ⟨c2, by rw [e]; rfl⟩
theorem c9 (k : Nat) : ∃ c2, calls (k + 1) 9 = runB 6 (bd9 (calls k) c2) := let ⟨c2, e⟩ := calls_succ k; ⟨c2, by rw [e]; rfl⟩
theorem c10 (k : Nat) : ∃ c2, calls (k + 1) 10 = runB 1 (bd10 (calls k) c2) := let ⟨c2, e⟩ := calls_succ k; ⟨c2, by rw [e]; rfl⟩
theorem c11 (k : Nat) : ∃ c2, calls (k + 1) 11 = runB 2 (bd11 (calls k) c2) := let ⟨c2, e⟩ := calls_succ k; ⟨c2, by rw [e]; rfl⟩
theorem c12 (k : Nat) : ∃ c2, calls (k + 1) 12 = runB 13 (bd12 (calls k) c2) := let ⟨c2, e⟩ := calls_succ k; ⟨c2, by rw [e]; rfl⟩
theorem c13 (k : Nat) : ∃ c2, calls (k + 1) 13 = runB 2 (bd13 (calls k) c2) := let ⟨c2, e⟩ := calls_succ k; ⟨c2, by rw [e]; rfl⟩
theorem c14 (k : Nat) : ∃ c2, calls (k + 1) 14 = runB 7 (bd14 (calls k) c2) := let ⟨c2, e⟩ := calls_succ k; ⟨c2, by rw [e]; rfl⟩
theorem c15 (k : Nat) : ∃ c2, calls (k + 1) 15 = runB 11 (bd15 (calls k) c2) := let ⟨c2, e⟩ := calls_succ k; ⟨c2, by rw [e]; rfl⟩
theorem c16 (k : Nat) : ∃ c2, calls (k + 1) 16 = runB 2 (bd16 (calls k) c2) := let ⟨c2, e⟩ := calls_succ k; ⟨c2, by rw [e]; rfl⟩
theorem c17 (k : Nat) : ∃ c2, calls (k + 1) 17 = runB 4 (bd17 (calls k) c2) := let ⟨c2, e⟩ := calls_succ k; ⟨c2, by rw [e]; rfl⟩
theorem c18 (k : Nat) : ∃ c2, calls (k + 1) 18 = runB 2 (bd18 (calls k) c2) := let ⟨c2, e⟩ := calls_succ k; ⟨c2, by rw [e]; rfl⟩
theorem c19 (k : Nat) : ∃ c2, calls (k + 1) 19 = runB 3 (bd19 (calls k) c2) := let ⟨c2, e⟩ := calls_succ k; ⟨c2, by rw [e]; rfl⟩
theorem c20 (k : Nat) : ∃ c2, calls (k + 1) 20 = runB 9 (bd20 (calls k) c2) := let ⟨c2, e⟩ := calls_succ k; ⟨c2, by rw [e]; rfl⟩
theorem c21 (k : Nat) : ∃ c2, calls (k + 1) 21 = runB 5 (bd21 (calls k) c2) := let ⟨c2, e⟩ := calls_succ k; ⟨c2, by rw [e]; rfl⟩
theorem c22 (k : Nat) : ∃ c2, calls (k + 1) 22 = runB 18 (bd22 (calls k) c2) := let ⟨c2, e⟩ := calls_succ k; ⟨c2, by rw [e]; rfl⟩
section
variable {w : World} {K : PySem.W.Frag} {h : Heap} {mg : Str → Option Value} {base : Heap}
set_option maxHeartbeats 0 in
theorem all_mk {fa : Addr} (X : K.In h) (G : h.Ns mainGlobals mg) (hfa : mg "law" = some (.ref fa)) {f0 f1 f2 f3 f4 f5 f6 f7 f8 f9 f10 f11 f12 f13 f14 f15 f16 f17 f18 f19 f20 f21 f22 : Addr} {C0 C1 : Addr}
    {od0 an0 od1 an1 od2 an2 od3 an3 od4 an4 od5 an5 od6 an6 od7 an7 od8 an8 od9 an9 od10 an10 od11 an11 od12 an12 od13 an13 od14 an14 od15 an15 od16 an16 od17 an17 od18 an18 od19 an19 od20 an20 od21 an21 od22 an22 : Option Addr} {sl0 sl1 sl2 sl3 sl4 sl5 sl6 sl7 sl8 sl9 sl10 sl11 sl12 sl13 sl14 sl15 sl16 sl17 sl18 sl19 sl20 sl21 sl22 : Array (Option Value)} {oc0 kV0 dc0 pm0 cd0 ct0 oc1 kV1 dc1 pm1 cd1 ct1 oc2 kV2 dc2 pm2 cd2 ct2 oc3 kV3 dc3 pm3 cd3 ct3 oc4 kV4 dc4 pm4 cd4 ct4 oc5 kV5 dc5 pm5 cd5 ct5 oc6 kV6 dc6 pm6 cd6 ct6 oc7 kV7 dc7 pm7 cd7 ct7 oc8 kV8 dc8 pm8 cd8 ct8 oc9 kV9 dc9 pm9 cd9 ct9 oc10 kV10 dc10 pm10 cd10 ct10 oc11 kV11 dc11 pm11 cd11 ct11 oc12 kV12 dc12 pm12 cd12 ct12 oc13 kV13 dc13 pm13 cd13 ct13 oc14 kV14 dc14 pm14 ct14 oc15 kV15 dc15 pm15 cd15 ct15 oc16 kV16 dc16 pm16 cd16 ct16 oc17 kV17 dc17 pm17 cd17 ct17 oc18 kV18 dc18 pm18 cd18 ct18 oc19 kV19 dc19 pm19 cd19 ct19 oc20 kV20 dc20 pm20 cd20 ct20 oc21 kV21 dc21 pm21 cd21 ct21 oc22 kV22 dc22 pm22 cd22 ct22 : Value} {cA14 pA14 : Addr} {ce14 : Value} {cy14 : Option Addr} {cv14 : Array Value} {cz14 : Array (Option Value)}
    (aC0 : PySem.W.nsIn K mainGlobals "Ways" = some (some (.ref C0)))
    (pg0 : PySem.W.plainGet K C0 Str.empty = true)
    (hd0 : PySem.W.hasDictIn K C0 = true)
    (po0 : PySem.W.plainOver K C0 = true)
    (sa0 : PySem.W.findIn K (.ref C0) "__setattr__" = some (some (.builtin "object.__setattr__")))
    (mk0 : PySem.W.makesIn K C0 = true)
    (kc0 : PySem.W.keepIn K (.ref C0) = true)
    (aC1 : PySem.W.nsIn K mainGlobals "Numbers" = some (some (.ref C1)))
    (pg1 : PySem.W.plainGet K C1 Str.empty = true)
    (hd1 : PySem.W.hasDictIn K C1 = true)
    (po1 : PySem.W.plainOver K C1 = true)
    (sa1 : PySem.W.findIn K (.ref C1) "__setattr__" = some (some (.builtin "object.__setattr__")))
    (mk1 : PySem.W.makesIn K C1 = true)
    (kc1 : PySem.W.keepIn K (.ref C1) = true)
    (a0 : PySem.W.nsIn K mainGlobals "ways_to_end" = some (some (.ref f0)))
    (l0 : K.lookup f0 = some ⟨oc0, od0, .func (PySem.W.fnOf "ways_to_end" "ways_to_end" (defArgs st0) (defBody st0) (defScope st0) .none kV0 dc0 pm0 an0 cd0 ct0), sl0⟩)
    (c0 : PySem.W.codeIn K cd0 "ways_to_end" = true)
    (k0 : PySem.W.keepIn K (.ref f0) = true)
    (a1 : PySem.W.nsIn K mainGlobals "count" = some (some (.ref f1)))
    (l1 : K.lookup f1 = some ⟨oc1, od1, .func (PySem.W.fnOf "count" "count" (defArgs st1) (defBody st1) (defScope st1) .none kV1 dc1 pm1 an1 cd1 ct1), sl1⟩)
    (c1 : PySem.W.codeIn K cd1 "count" = true)
    (k1 : PySem.W.keepIn K (.ref f1) = true)
    (a2 : PySem.W.nsIn K mainGlobals "place_of" = some (some (.ref f2)))
    (l2 : K.lookup f2 = some ⟨oc2, od2, .func (PySem.W.fnOf "place_of" "place_of" (defArgs st2) (defBody st2) (defScope st2) .none kV2 dc2 pm2 an2 cd2 ct2), sl2⟩)
    (c2 : PySem.W.codeIn K cd2 "place_of" = true)
    (k2 : PySem.W.keepIn K (.ref f2) = true)
    (a3 : PySem.W.nsIn K mainGlobals "pick" = some (some (.ref f3)))
    (l3 : K.lookup f3 = some ⟨oc3, od3, .func (PySem.W.fnOf "pick" "pick" (defArgs st3) (defBody st3) (defScope st3) .none kV3 dc3 pm3 an3 cd3 ct3), sl3⟩)
    (c3 : PySem.W.codeIn K cd3 "pick" = true)
    (k3 : PySem.W.keepIn K (.ref f3) = true)
    (a4 : PySem.W.nsIn K mainGlobals "configuration_at" = some (some (.ref f4)))
    (l4 : K.lookup f4 = some ⟨oc4, od4, .func (PySem.W.fnOf "configuration_at" "configuration_at" (defArgs st4) (defBody st4) (defScope st4) .none kV4 dc4 pm4 an4 cd4 ct4), sl4⟩)
    (c4 : PySem.W.codeIn K cd4 "configuration_at" = true)
    (k4 : PySem.W.keepIn K (.ref f4) = true)
    (a5 : PySem.W.nsIn K mainGlobals "rank" = some (some (.ref f5)))
    (l5 : K.lookup f5 = some ⟨oc5, od5, .func (PySem.W.fnOf "rank" "rank" (defArgs st5) (defBody st5) (defScope st5) .none kV5 dc5 pm5 an5 cd5 ct5), sl5⟩)
    (c5 : PySem.W.codeIn K cd5 "rank" = true)
    (k5 : PySem.W.keepIn K (.ref f5) = true)
    (a6 : PySem.W.findIn K (.ref C0) "__init__" = some (some (.ref f6)))
    (i6 : PySem.W.isFn K (.ref f6) = true)
    (l6 : K.lookup f6 = some ⟨oc6, od6, .func (PySem.W.fnOf "__init__" "Ways.__init__" (defArgs st6) (defBody st6) (defScope st6) .none kV6 dc6 pm6 an6 cd6 ct6), sl6⟩)
    (c6 : PySem.W.codeIn K cd6 "Ways.__init__" = true)
    (k6 : PySem.W.keepIn K (.ref f6) = true)
    (a7 : PySem.W.findIn K (.ref C0) "add" = some (some (.ref f7)))
    (i7 : PySem.W.isFn K (.ref f7) = true)
    (l7 : K.lookup f7 = some ⟨oc7, od7, .func (PySem.W.fnOf "add" "Ways.add" (defArgs st7) (defBody st7) (defScope st7) .none kV7 dc7 pm7 an7 cd7 ct7), sl7⟩)
    (c7 : PySem.W.codeIn K cd7 "Ways.add" = true)
    (k7 : PySem.W.keepIn K (.ref f7) = true)
    (a8 : PySem.W.findIn K (.ref C0) "after" = some (some (.ref f8)))
    (i8 : PySem.W.isFn K (.ref f8) = true)
    (l8 : K.lookup f8 = some ⟨oc8, od8, .func (PySem.W.fnOf "after" "Ways.after" (defArgs st8) (defBody st8) (defScope st8) .none kV8 dc8 pm8 an8 cd8 ct8), sl8⟩)
    (c8 : PySem.W.codeIn K cd8 "Ways.after" = true)
    (k8 : PySem.W.keepIn K (.ref f8) = true)
    (a9 : PySem.W.findIn K (.ref C0) "freely" = some (some (.ref f9)))
    (i9 : PySem.W.isFn K (.ref f9) = true)
    (l9 : K.lookup f9 = some ⟨oc9, od9, .func (PySem.W.fnOf "freely" "Ways.freely" (defArgs st9) (defBody st9) (defScope st9) .none kV9 dc9 pm9 an9 cd9 ct9), sl9⟩)
    (c9 : PySem.W.codeIn K cd9 "Ways.freely" = true)
    (k9 : PySem.W.keepIn K (.ref f9) = true)
    (a10 : PySem.W.findIn K (.ref C1) "__init__" = some (some (.ref f10)))
    (i10 : PySem.W.isFn K (.ref f10) = true)
    (l10 : K.lookup f10 = some ⟨oc10, od10, .func (PySem.W.fnOf "__init__" "Numbers.__init__" (defArgs st10) (defBody st10) (defScope st10) .none kV10 dc10 pm10 an10 cd10 ct10), sl10⟩)
    (c10 : PySem.W.codeIn K cd10 "Numbers.__init__" = true)
    (k10 : PySem.W.keepIn K (.ref f10) = true)
    (a11 : PySem.W.findIn K (.ref C1) "of" = some (some (.ref f11)))
    (i11 : PySem.W.isFn K (.ref f11) = true)
    (l11 : K.lookup f11 = some ⟨oc11, od11, .func (PySem.W.fnOf "of" "Numbers.of" (defArgs st11) (defBody st11) (defScope st11) .none kV11 dc11 pm11 an11 cd11 ct11), sl11⟩)
    (c11 : PySem.W.codeIn K cd11 "Numbers.of" = true)
    (k11 : PySem.W.keepIn K (.ref f11) = true)
    (a12 : PySem.W.nsIn K mainGlobals "made" = some (some (.ref f12)))
    (l12 : K.lookup f12 = some ⟨oc12, od12, .func (PySem.W.fnOf "made" "made" (defArgs st12) (defBody st12) (defScope st12) .none kV12 dc12 pm12 an12 cd12 ct12), sl12⟩)
    (c12 : PySem.W.codeIn K cd12 "made" = true)
    (k12 : PySem.W.keepIn K (.ref f12) = true)
    (a13 : PySem.W.nsIn K mainGlobals "closed" = some (some (.ref f13)))
    (l13 : K.lookup f13 = some ⟨oc13, od13, .func (PySem.W.fnOf "closed" "closed" (defArgs st13) (defBody st13) (defScope st13) .none kV13 dc13 pm13 an13 cd13 ct13), sl13⟩)
    (c13 : PySem.W.codeIn K cd13 "closed" = true)
    (k13 : PySem.W.keepIn K (.ref f13) = true)
    (a14 : PySem.W.nsIn K mainGlobals "table_of" = some (some (.ref f14)))
    (l14 : K.lookup f14 = some ⟨oc14, od14, .func (PySem.W.fnOf "table_of" "table_of" (defArgs st14) (defBody st14) (defScope st14) .none kV14 dc14 pm14 an14 (.ref cA14) ct14), sl14⟩)
    (c14 : PySem.W.codeIn K (.ref cA14) "table_of" = true)
    (lc14 : K.lookup cA14 = some ⟨ce14, cy14, .fields cv14, cz14⟩)
    (lp14 : cv14[11]? = some (.ref pA14))
    (k14 : PySem.W.keepIn K (.ref f14) = true)
    (a15 : PySem.W.nsIn K mainGlobals "has" = some (some (.ref f15)))
    (l15 : K.lookup f15 = some ⟨oc15, od15, .func (PySem.W.fnOf "has" "has" (defArgs st15) (defBody st15) (defScope st15) .none kV15 dc15 pm15 an15 cd15 ct15), sl15⟩)
    (c15 : PySem.W.codeIn K cd15 "has" = true)
    (k15 : PySem.W.keepIn K (.ref f15) = true)
    (a16 : PySem.W.nsIn K mainGlobals "_law_start" = some (some (.ref f16)))
    (l16 : K.lookup f16 = some ⟨oc16, od16, .func (PySem.W.fnOf "_law_start" "_law_start" (defArgs st16) (defBody st16) (defScope st16) .none kV16 dc16 pm16 an16 cd16 ct16), sl16⟩)
    (c16 : PySem.W.codeIn K cd16 "_law_start" = true)
    (k16 : PySem.W.keepIn K (.ref f16) = true)
    (a17 : PySem.W.nsIn K mainGlobals "_law_draw" = some (some (.ref f17)))
    (l17 : K.lookup f17 = some ⟨oc17, od17, .func (PySem.W.fnOf "_law_draw" "_law_draw" (defArgs st17) (defBody st17) (defScope st17) .none kV17 dc17 pm17 an17 cd17 ct17), sl17⟩)
    (c17 : PySem.W.codeIn K cd17 "_law_draw" = true)
    (k17 : PySem.W.keepIn K (.ref f17) = true)
    (a18 : PySem.W.nsIn K mainGlobals "_law_pick" = some (some (.ref f18)))
    (l18 : K.lookup f18 = some ⟨oc18, od18, .func (PySem.W.fnOf "_law_pick" "_law_pick" (defArgs st18) (defBody st18) (defScope st18) .none kV18 dc18 pm18 an18 cd18 ct18), sl18⟩)
    (c18 : PySem.W.codeIn K cd18 "_law_pick" = true)
    (k18 : PySem.W.keepIn K (.ref f18) = true)
    (a19 : PySem.W.nsIn K mainGlobals "_law_once" = some (some (.ref f19)))
    (l19 : K.lookup f19 = some ⟨oc19, od19, .func (PySem.W.fnOf "_law_once" "_law_once" (defArgs st19) (defBody st19) (defScope st19) .none kV19 dc19 pm19 an19 cd19 ct19), sl19⟩)
    (c19 : PySem.W.codeIn K cd19 "_law_once" = true)
    (k19 : PySem.W.keepIn K (.ref f19) = true)
    (a20 : PySem.W.nsIn K mainGlobals "_law_machine" = some (some (.ref f20)))
    (l20 : K.lookup f20 = some ⟨oc20, od20, .func (PySem.W.fnOf "_law_machine" "_law_machine" (defArgs st20) (defBody st20) (defScope st20) .none kV20 dc20 pm20 an20 cd20 ct20), sl20⟩)
    (c20 : PySem.W.codeIn K cd20 "_law_machine" = true)
    (k20 : PySem.W.keepIn K (.ref f20) = true)
    (a21 : PySem.W.nsIn K mainGlobals "_law_stacks" = some (some (.ref f21)))
    (l21 : K.lookup f21 = some ⟨oc21, od21, .func (PySem.W.fnOf "_law_stacks" "_law_stacks" (defArgs st21) (defBody st21) (defScope st21) .none kV21 dc21 pm21 an21 cd21 ct21), sl21⟩)
    (c21 : PySem.W.codeIn K cd21 "_law_stacks" = true)
    (k21 : PySem.W.keepIn K (.ref f21) = true)
    (a22 : PySem.W.nsIn K mainGlobals "law" = some (some (.ref f22)))
    (l22 : K.lookup f22 = some ⟨oc22, od22, .func (PySem.W.fnOf "law" "law" (defArgs st22) (defBody st22) (defScope st22) .none kV22 dc22 pm22 an22 cd22 ct22), sl22⟩)
    (c22 : PySem.W.codeIn K cd22 "law" = true)
    (k22 : PySem.W.keepIn K (.ref f22) = true)
    (z0 : PySem.W.nsIn K mainGlobals "len" = some none)
    (z1 : PySem.W.nsIn K mainGlobals "range" = some none)
    (z2 : PySem.W.nsIn K mainGlobals "int" = some none)
    (z3 : PySem.W.nsIn K mainGlobals "sum" = some none)
    (z4 : PySem.W.nsIn K mainGlobals "all" = some none)
    (z5 : PySem.W.nsIn K mainGlobals "enumerate" = some none)
    (z6 : PySem.W.nsIn K mainGlobals "reversed" = some none)
    (z7 : PySem.W.nsIn K mainGlobals "tuple" = some none)
    (z8 : PySem.W.nsIn K mainGlobals "isinstance" = some none)
    (z9 : PySem.W.nsIn K mainGlobals "str" = some none)
    (z10 : PySem.W.nsIn K mainGlobals "list" = some none)
    (z11 : PySem.W.nsIn K mainGlobals "sorted" = some none)
    (z12 : PySem.W.nsIn K mainGlobals "abs" = some none)
    (z13 : PySem.W.nsIn K mainGlobals "any" = some none)
    (n0 : PySem.W.findIn K (.ref C0) "_edges" = some none)
    (n1 : PySem.W.findIn K (.ref C0) "_to" = some none)
    (n2 : PySem.W.findIn K (.ref C1) "_numbers" = some none)
    (n3 : PySem.W.findIn K (.ref C1) "things" = some none)
    : ∃ (a : Nat → Addr) (fd : Nat → FuncData) (cf : Nat → Addr), Tx K mg a fd ⟨cf, [(pA14, (("table_of" : Str) ++ (".<locals>." : Str) ++ ("<lambda>" : Str)))], lmN, []⟩ ∧ (fd 14).code = .ref cA14 ∧ a 22 = fa ∧ ∀ (s : Shared) (u : Value), BindsTo s (fd 22) ⟨[u], []⟩ [("_law_script", u)] := by
  have e := hfa.symm.trans (PySem.W.mg_of X G a22)
  have e2 : f22 = fa := by cases e; rfl
  subst e2
  have F0 := fun_mk (st := st0) l0 c0 k0
  have F1 := fun_mk (st := st1) l1 c1 k1
  have F2 := fun_mk (st := st2) l2 c2 k2
  have F3 := fun_mk (st := st3) l3 c3 k3
  have F4 := fun_mk (st := st4) l4 c4 k4
  have F5 := fun_mk (st := st5) l5 c5 k5
  have F6 := fun_mk (st := st6) l6 c6 k6
  have F7 := fun_mk (st := st7) l7 c7 k7
  have F8 := fun_mk (st := st8) l8 c8 k8
  have F9 := fun_mk (st := st9) l9 c9 k9
  have F10 := fun_mk (st := st10) l10 c10 k10
  have F11 := fun_mk (st := st11) l11 c11 k11
  have F12 := fun_mk (st := st12) l12 c12 k12
  have F13 := fun_mk (st := st13) l13 c13 k13
  have F14 := fun_mk (st := st14) l14 c14 k14
  have F15 := fun_mk (st := st15) l15 c15 k15
  have F16 := fun_mk (st := st16) l16 c16 k16
  have F17 := fun_mk (st := st17) l17 c17 k17
  have F18 := fun_mk (st := st18) l18 c18 k18
  have F19 := fun_mk (st := st19) l19 c19 k19
  have F20 := fun_mk (st := st20) l20 c20 k20
  have F21 := fun_mk (st := st21) l21 c21 k21
  have F22 := fun_mk (st := st22) l22 c22 k22
  refine ⟨(fun g => match g with | 0 => f0 | 1 => f1 | 2 => f2 | 3 => f3 | 4 => f4 | 5 => f5 | 6 => f6 | 7 => f7 | 8 => f8 | 9 => f9 | 10 => f10 | 11 => f11 | 12 => f12 | 13 => f13 | 14 => f14 | 15 => f15 | 16 => f16 | 17 => f17 | 18 => f18 | 19 => f19 | 20 => f20 | 21 => f21 | 22 => f22 | _ => f0 : Nat → Addr), (fun g => match g with | 0 => PySem.W.fnOf "ways_to_end" "ways_to_end" (defArgs st0) (defBody st0) (defScope st0) .none kV0 dc0 pm0 an0 cd0 ct0 | 1 => PySem.W.fnOf "count" "count" (defArgs st1) (defBody st1) (defScope st1) .none kV1 dc1 pm1 an1 cd1 ct1 | 2 => PySem.W.fnOf "place_of" "place_of" (defArgs st2) (defBody st2) (defScope st2) .none kV2 dc2 pm2 an2 cd2 ct2 | 3 => PySem.W.fnOf "pick" "pick" (defArgs st3) (defBody st3) (defScope st3) .none kV3 dc3 pm3 an3 cd3 ct3 | 4 => PySem.W.fnOf "configuration_at" "configuration_at" (defArgs st4) (defBody st4) (defScope st4) .none kV4 dc4 pm4 an4 cd4 ct4 | 5 => PySem.W.fnOf "rank" "rank" (defArgs st5) (defBody st5) (defScope st5) .none kV5 dc5 pm5 an5 cd5 ct5 | 6 => PySem.W.fnOf "__init__" "Ways.__init__" (defArgs st6) (defBody st6) (defScope st6) .none kV6 dc6 pm6 an6 cd6 ct6 | 7 => PySem.W.fnOf "add" "Ways.add" (defArgs st7) (defBody st7) (defScope st7) .none kV7 dc7 pm7 an7 cd7 ct7 | 8 => PySem.W.fnOf "after" "Ways.after" (defArgs st8) (defBody st8) (defScope st8) .none kV8 dc8 pm8 an8 cd8 ct8 | 9 => PySem.W.fnOf "freely" "Ways.freely" (defArgs st9) (defBody st9) (defScope st9) .none kV9 dc9 pm9 an9 cd9 ct9 | 10 => PySem.W.fnOf "__init__" "Numbers.__init__" (defArgs st10) (defBody st10) (defScope st10) .none kV10 dc10 pm10 an10 cd10 ct10 | 11 => PySem.W.fnOf "of" "Numbers.of" (defArgs st11) (defBody st11) (defScope st11) .none kV11 dc11 pm11 an11 cd11 ct11 | 12 => PySem.W.fnOf "made" "made" (defArgs st12) (defBody st12) (defScope st12) .none kV12 dc12 pm12 an12 cd12 ct12 | 13 => PySem.W.fnOf "closed" "closed" (defArgs st13) (defBody st13) (defScope st13) .none kV13 dc13 pm13 an13 cd13 ct13 | 14 => PySem.W.fnOf "table_of" "table_of" (defArgs st14) (defBody st14) (defScope st14) .none kV14 dc14 pm14 an14 (.ref cA14) ct14 | 15 => PySem.W.fnOf "has" "has" (defArgs st15) (defBody st15) (defScope st15) .none kV15 dc15 pm15 an15 cd15 ct15 | 16 => PySem.W.fnOf "_law_start" "_law_start" (defArgs st16) (defBody st16) (defScope st16) .none kV16 dc16 pm16 an16 cd16 ct16 | 17 => PySem.W.fnOf "_law_draw" "_law_draw" (defArgs st17) (defBody st17) (defScope st17) .none kV17 dc17 pm17 an17 cd17 ct17 | 18 => PySem.W.fnOf "_law_pick" "_law_pick" (defArgs st18) (defBody st18) (defScope st18) .none kV18 dc18 pm18 an18 cd18 ct18 | 19 => PySem.W.fnOf "_law_once" "_law_once" (defArgs st19) (defBody st19) (defScope st19) .none kV19 dc19 pm19 an19 cd19 ct19 | 20 => PySem.W.fnOf "_law_machine" "_law_machine" (defArgs st20) (defBody st20) (defScope st20) .none kV20 dc20 pm20 an20 cd20 ct20 | 21 => PySem.W.fnOf "_law_stacks" "_law_stacks" (defArgs st21) (defBody st21) (defScope st21) .none kV21 dc21 pm21 an21 cd21 ct21 | 22 => PySem.W.fnOf "law" "law" (defArgs st22) (defBody st22) (defScope st22) .none kV22 dc22 pm22 an22 cd22 ct22 | _ => PySem.W.fnOf "ways_to_end" "ways_to_end" (defArgs st0) (defBody st0) (defScope st0) .none kV0 dc0 pm0 an0 cd0 ct0 : Nat → FuncData), (fun g => match g with | 0 => C0 | 1 => C1 | _ => 0 : Nat → Addr), ⟨fun g hg hc => ?_, fun g hg => ?_, fun g hg => ?_, fun g hg => ?_, fun x hx => ?_, fun c hc => ?_, fun c hc => ?_, fun c hc => ?_, fun p hp => ?_, fun p hp => ?_, fun p hp => ?_, fun p hp => ?_⟩, rfl, rfl, fun s v => .of_eq rfl⟩
  · match g, hg, hc with
    | 0, _, _ => exact PySem.W.mg_of X G a0
    | 1, _, _ => exact PySem.W.mg_of X G a1
    | 2, _, _ => exact PySem.W.mg_of X G a2
    | 3, _, _ => exact PySem.W.mg_of X G a3
    | 4, _, _ => exact PySem.W.mg_of X G a4
    | 5, _, _ => exact PySem.W.mg_of X G a5
    | 6, _, z => cases z
    | 7, _, z => cases z
    | 8, _, z => cases z
    | 9, _, z => cases z
    | 10, _, z => cases z
    | 11, _, z => cases z
    | 12, _, _ => exact PySem.W.mg_of X G a12
    | 13, _, _ => exact PySem.W.mg_of X G a13
    | 14, _, _ => exact PySem.W.mg_of X G a14
    | 15, _, _ => exact PySem.W.mg_of X G a15
    | 16, _, _ => exact PySem.W.mg_of X G a16
    | 17, _, _ => exact PySem.W.mg_of X G a17
    | 18, _, _ => exact PySem.W.mg_of X G a18
    | 19, _, _ => exact PySem.W.mg_of X G a19
    | 20, _, _ => exact PySem.W.mg_of X G a20
    | 21, _, _ => exact PySem.W.mg_of X G a21
    | 22, _, _ => exact PySem.W.mg_of X G a22
    | n + 23, z, _ => exact absurd z (by show ¬ n + 23 < 23; omega)
  · match g, hg with
    | 0, _ => exact F0
    | 1, _ => exact F1
    | 2, _ => exact F2
    | 3, _ => exact F3
    | 4, _ => exact F4
    | 5, _ => exact F5
    | 6, _ => exact F6
    | 7, _ => exact F7
    | 8, _ => exact F8
    | 9, _ => exact F9
    | 10, _ => exact F10
    | 11, _ => exact F11
    | 12, _ => exact F12
    | 13, _ => exact F13
    | 14, _ => exact F14
    | 15, _ => exact F15
    | 16, _ => exact F16
    | 17, _ => exact F17
    | 18, _ => exact F18
    | 19, _ => exact F19
    | 20, _ => exact F20
    | 21, _ => exact F21
    | 22, _ => exact F22
    | n + 23, z => exact absurd z (by show ¬ n + 23 < 23; omega)
  · match g, hg with
    | 0, _ => exact k0
    | 1, _ => exact k1
    | 2, _ => exact k2
    | 3, _ => exact k3
    | 4, _ => exact k4
    | 5, _ => exact k5
    | 6, _ => exact k6
    | 7, _ => exact k7
    | 8, _ => exact k8
    | 9, _ => exact k9
    | 10, _ => exact k10
    | 11, _ => exact k11
    | 12, _ => exact k12
    | 13, _ => exact k13
    | 14, _ => exact k14
    | 15, _ => exact k15
    | 16, _ => exact k16
    | 17, _ => exact k17
    | 18, _ => exact k18
    | 19, _ => exact k19
    | 20, _ => exact k20
    | 21, _ => exact k21
    | 22, _ => exact k22
    | n + 23, z => exact absurd z (by show ¬ n + 23 < 23; omega)
  · match g, hg with
    | 0, _ => exact F0.binds (ps := ps0) fun _ _ _ _ _ _ us hl => match us, hl with | [_, _], _ => rfl
    | 1, _ => exact F1.binds (ps := ps1) fun _ _ _ _ _ _ us hl => match us, hl with | [_, _], _ => rfl
    | 2, _ => exact F2.binds (ps := ps2) fun _ _ _ _ _ _ us hl => match us, hl with | [_, _], _ => rfl
    | 3, _ => exact F3.binds (ps := ps3) fun _ _ _ _ _ _ us hl => match us, hl with | [_, _, _], _ => rfl
    | 4, _ => exact F4.binds (ps := ps4) fun _ _ _ _ _ _ us hl => match us, hl with | [_, _, _], _ => rfl
    | 5, _ => exact F5.binds (ps := ps5) fun _ _ _ _ _ _ us hl => match us, hl with | [_], _ => rfl
    | 6, _ => exact F6.binds (ps := ps6) fun _ _ _ _ _ _ us hl => match us, hl with | [_, _], _ => rfl
    | 7, _ => exact F7.binds (ps := ps7) fun _ _ _ _ _ _ us hl => match us, hl with | [_, _], _ => rfl
    | 8, _ => exact F8.binds (ps := ps8) fun _ _ _ _ _ _ us hl => match us, hl with | [_, _, _], _ => rfl
    | 9, _ => exact F9.binds (ps := ps9) fun _ _ _ _ _ _ us hl => match us, hl with | [_, _], _ => rfl
    | 10, _ => exact F10.binds (ps := ps10) fun _ _ _ _ _ _ us hl => match us, hl with | [_], _ => rfl
    | 11, _ => exact F11.binds (ps := ps11) fun _ _ _ _ _ _ us hl => match us, hl with | [_, _], _ => rfl
    | 12, _ => exact F12.binds (ps := ps12) fun _ _ _ _ _ _ us hl => match us, hl with | [_, _, _, _, _], _ => rfl
    | 13, _ => exact F13.binds (ps := ps13) fun _ _ _ _ _ _ us hl => match us, hl with | [_, _], _ => rfl
    | 14, _ => exact F14.binds (ps := ps14) fun _ _ _ _ _ _ us hl => match us, hl with | [_, _, _], _ => rfl
    | 15, _ => exact F15.binds (ps := ps15) fun _ _ _ _ _ _ us hl => match us, hl with | [_, _], _ => rfl
    | 16, _ => exact F16.binds (ps := ps16) fun _ _ _ _ _ _ us hl => match us, hl with | [_], _ => rfl
    | 17, _ => exact F17.binds (ps := ps17) fun _ _ _ _ _ _ us hl => match us, hl with | [_, _], _ => rfl
    | 18, _ => exact F18.binds (ps := ps18) fun _ _ _ _ _ _ us hl => match us, hl with | [_, _], _ => rfl
    | 19, _ => exact F19.binds (ps := ps19) fun _ _ _ _ _ _ us hl => match us, hl with | [_], _ => rfl
    | 20, _ => exact F20.binds (ps := ps20) fun _ _ _ _ _ _ us hl => match us, hl with | [_, _], _ => rfl
    | 21, _ => exact F21.binds (ps := ps21) fun _ _ _ _ _ _ us hl => match us, hl with | [_], _ => rfl
    | 22, _ => exact F22.binds (ps := ps22) fun _ _ _ _ _ _ us hl => match us, hl with | [_], _ => rfl
    | n + 23, z => exact absurd z (by show ¬ n + 23 < 23; omega)
  · simp only [tab, List.mem_cons, List.not_mem_nil, or_false] at hx
    rcases hx with rfl | rfl | rfl | rfl | rfl | rfl | rfl | rfl | rfl | rfl | rfl | rfl | rfl | rfl
    · exact PySem.W.mg_none_of X G z0
    · exact PySem.W.mg_none_of X G z1
    · exact PySem.W.mg_none_of X G z2
    · exact PySem.W.mg_none_of X G z3
    · exact PySem.W.mg_none_of X G z4
    · exact PySem.W.mg_none_of X G z5
    · exact PySem.W.mg_none_of X G z6
    · exact PySem.W.mg_none_of X G z7
    · exact PySem.W.mg_none_of X G z8
    · exact PySem.W.mg_none_of X G z9
    · exact PySem.W.mg_none_of X G z10
    · exact PySem.W.mg_none_of X G z11
    · exact PySem.W.mg_none_of X G z12
    · exact PySem.W.mg_none_of X G z13
  · match c, hc with
    | 0, _ => exact PySem.W.mg_of X G aC0
    | 1, _ => exact PySem.W.mg_of X G aC1
    | n + 2, z => exact absurd z (by show ¬ n + 2 < 2; omega)
  · match c, hc with
    | 0, _ => exact ⟨pg0, hd0, po0, sa0⟩
    | 1, _ => exact ⟨pg1, hd1, po1, sa1⟩
    | n + 2, z => exact absurd z (by show ¬ n + 2 < 2; omega)
  · match c, hc with
    | 0, _ => exact ⟨mk0, a6, i6, kc0⟩
    | 1, _ => exact ⟨mk1, a10, i10, kc1⟩
    | n + 2, z => exact absurd z (by show ¬ n + 2 < 2; omega)
  · simp only [tab, List.mem_cons, List.not_mem_nil, or_false] at hp
    rcases hp with rfl | rfl | rfl | rfl
    · exact ⟨by decide, n0⟩
    · exact ⟨by decide, n1⟩
    · exact ⟨by decide, n2⟩
    · exact ⟨by decide, n3⟩
  · simp only [tab, List.mem_cons, List.not_mem_nil, or_false] at hp
    rcases hp with rfl | rfl | rfl | rfl
    · exact ⟨by decide, by decide, ⟨a7, i7, k7⟩⟩
    · exact ⟨by decide, by decide, ⟨a8, i8, k8⟩⟩
    · exact ⟨by decide, by decide, ⟨a9, i9, k9⟩⟩
    · exact ⟨by decide, by decide, ⟨a11, i11, k11⟩⟩
  · cases hp
  · cases hp
theorem walk {cA14 pA14 : Addr} {l : PySem.W.OpenLaw} {q : Program} {loose : List Str} {XP : (Str → Option Value) → Heap → Prop} {YP : World → Heap → Prop} {d : DefRec} {K : Params → PySem.W.Frag} (hn : l.most = some 63) (hdf : d.params.defaults = [])
    (pure_law : ∀ ns : List Int, ns.length ≤ 63 → ∃ S', calls 100 22 [.scr ns] [] = some (.bl true, S')) (hY : ∀ (w : World) (h : Heap), YP w h → (K w.params).In h)
    (F : ∀ (w : World) (mg : Str → Option Value) (fa : Addr) (h : Heap), (K w.params).In h → h.Ns mainGlobals mg → mg d.name = some (.ref fa) →
      ∃ (a : Nat → Addr) (fd : Nat → FuncData) (cf : Nat → Addr), Tx (K w.params) mg a fd ⟨cf, [(pA14, (("table_of" : Str) ++ (".<locals>." : Str) ++ ("<lambda>" : Str)))], lmN, []⟩ ∧ (fd 14).code = .ref cA14 ∧ a 22 = fa ∧ ∀ (s : Shared) (u : Value), BindsTo s (fd 22) ⟨[u], []⟩ [("_law_script", u)])
    (tabs : ∀ (w : World) (h : Heap), YP w h → ∀ p ∈ ([(cA14, pA14)] : List (Addr × Addr)), h.get? p.2 = some { cls := .none, data := .fields #[] }) (notK : ∀ (w : World), ∀ p ∈ ([(cA14, pA14)] : List (Addr × Addr)), (K w.params).lookup p.2 = none) (code : ∀ (w : World), ∀ p ∈ ([(cA14, pA14)] : List (Addr × Addr)), PySem.W.codeHdIn (K w.params) p.1 p.2 = true) :
    PySem.W.WalkO q loose XP YP l.row.toRowW d [] (fun f vs => PySem.call f vs) :=
  walk_ofT (n := 63) (k := 100) (x := "_law_script") (sp := fun w => spA (K w.params) w 1 (calls 100 22) [(pA14, (("table_of" : Str) ++ (".<locals>." : Str) ++ ("<lambda>" : Str)))] lmN) (cs := [(cA14, pA14)]) hn (by decide) hdf ⟨rfl, by decide, by decide⟩ hY tabs notK code (fun w mg fa h X G hm => by
    obtain ⟨a, fd, cf, T, hcd14, ea, hb⟩ := F w mg fa h X G hm
    subst ea
    refine ⟨fd 22, hb, fun base _ _ TB => ?_⟩
    have TL : LamT mg base fd ⟨cf, [(pA14, (("table_of" : Str) ++ (".<locals>." : Str) ++ ("<lambda>" : Str)))], lmN, []⟩ (fun g => match g with | 14 => cA14 | _ => 0) (fun g => match g with | 14 => pA14 | _ => 0) := by
      constructor
      · exact (List.Mem.head _)
      · intro q hq e
        simp only [List.mem_cons, List.not_mem_nil, or_false] at hq
        rcases hq with rfl <;> (first | rfl | exact absurd e (by assumption) | exact absurd e.symm (by assumption))
      · exact hcd14
      · exact TB _ (List.Mem.head _)
      · exact rfl
    exact fnG_of_ok (fn_spA (cf := cf) (((allFv (step T TL) 100).1 []).F 22))) (fun w H a ns hl hO hS cf => sp_law (G := ⟨K w.params, w, ⟨cf, [(pA14, (("table_of" : Str) ++ (".<locals>." : Str) ++ ("<lambda>" : Str)))], lmN, []⟩⟩) pure_law H a ns hl (hO.ren rfl) hS)
end
end k24
end DL
set_option maxHeartbeats 2000000
namespace DL
namespace k24
open PySem
open tb
abbrev theTbP : TbP := { iNumbers___init__ := 10, f_numbers := [1], fthings := [1], iNumbers_of := 11, imade := 12, cNumbers := 1, mof := [(1, 11)], ar := arN, iclosed := 13, irank := 5, mfreely := [(0, 9)], itable_of := 14, iWays___init__ := 6, cWays := 0, ltable_of_0 := 0, ltable_of_1 := 1, mafter := [(0, 8)], ihas := 15 }
theorem eTbP_Numbers___init__ (k : Nat) : calls (k + 1) 10 = runB 1 (bNumbers___init__ theTbP (calls k)) := by
  obtain ⟨c2, e⟩ := c10 k
  exact e
theorem eTbP_Numbers_of (k : Nat) : calls (k + 1) 11 = runB 2 (bNumbers_of theTbP (calls k)) := by
  obtain ⟨c2, e⟩ := c11 k
  exact e
theorem eTbP_made (k : Nat) : calls (k + 3) 12 = runB 13 (bmade theTbP (calls (k + 2)) (calls k)) := rfl
theorem eTbP_closed (k : Nat) : calls (k + 3) 13 = runB 2 (bclosed theTbP (calls (k + 2)) (calls k)) := rfl
theorem eTbP_table_of (k : Nat) : calls (k + 3) 14 = runB 7 (btable_of theTbP (calls (k + 2)) (calls k)) := rfl
theorem eTbP_has (k : Nat) : calls (k + 1) 15 = runB 11 (bhas theTbP (calls k)) := by
  obtain ⟨c2, e⟩ := c15 k
  exact e
theorem eTbP_table_of_0 (k : Nat) : calls (k + 1) 1000 = runE 3 3 (bl_table_of_0 theTbP (calls k)) := by
  obtain ⟨c2, e⟩ := calls_succ k
  rw [e]
  rfl
theorem eTbP_table_of_1 (k : Nat) : calls (k + 1) 1001 = runE 2 3 (bl_table_of_1 theTbP (calls k)) := by
  obtain ⟨c2, e⟩ := calls_succ k
  rw [e]
  rfl
theorem theTbPF : TbPF theTbP calls := ⟨eTbP_table_of_0, eTbP_table_of_1, eTbP_Numbers___init__, eTbP_Numbers_of, eTbP_made, eTbP_closed, eTbP_table_of, eTbP_has⟩
abbrev theCtP : CtP := { iways_to_end := 0, icount := 1, iplace_of := 2, ipick := 3, iconfiguration_at := 4 }
theorem eCtP_ways_to_end (k : Nat) : calls (k + 1) 0 = runB 10 (bways_to_end theCtP (calls k)) := by
  obtain ⟨c2, e⟩ := c0 k
  exact e
theorem eCtP_count (k : Nat) : calls (k + 1) 1 = runB 4 (bcount theCtP (calls k)) := by
  obtain ⟨c2, e⟩ := c1 k
  exact e
theorem eCtP_place_of (k : Nat) : calls (k + 1) 2 = runB 19 (bplace_of theCtP (calls k)) := by
  obtain ⟨c2, e⟩ := c2 k
  exact e
theorem eCtP_pick (k : Nat) : calls (k + 1) 3 = runB 5 (bpick theCtP (calls k)) := by
  obtain ⟨c2, e⟩ := c3 k
  exact e
theorem eCtP_configuration_at (k : Nat) : calls (k + 1) 4 = runB 14 (bconfiguration_at theCtP (calls k)) := by
  obtain ⟨c2, e⟩ := c4 k
  exact e
theorem theCtPF : CtPF theCtP calls := ⟨eCtP_ways_to_end, eCtP_count, eCtP_place_of, eCtP_pick, eCtP_configuration_at⟩
theorem theTbK : TbK theTbP calls := ⟨by decide, by decide, by decide⟩
theorem theWyK : WyK theTbP calls 9 8 7 := ⟨by decide, by decide, fun k => let ⟨_, e⟩ := c9 k; e, fun k => let ⟨_, e⟩ := c8 k; e, fun k => let ⟨_, e⟩ := c6 k; e, fun k => let ⟨_, e⟩ := c7 k; e, fun k => let ⟨_, e⟩ := c5 k; e, rfl, rfl⟩
noncomputable abbrev DR : FM := runB 4 drawW
noncomputable abbrev PK : FM := runB 2 (pickQ DR)
theorem e_start (k : Nat) : calls (k + 3) 16 = runB 2 startQ := rfl
theorem e_draw (k : Nat) : calls (k + 3) 17 = DR := rfl
theorem e_pick (k : Nat) : calls (k + 6) 18 = PK := by
  rw [show calls (k + 6) 18 = runB 2 (pickQ (calls (k + 5) 17)) from rfl, e_draw (k + 2)]
theorem e_once (k : Nat) : calls (k + 3) 19 = runB 3 onceB := rfl
theorem e_mach (k : Nat) : calls (k + 9) 20 = runB 9 (machB DR PK (runB 3 onceB)) := by
  rw [show calls (k + 9) 20 = runB 9 (machB (calls (k + 8) 17) (calls (k + 8) 18) (calls (k + 8) 19)) from rfl, e_draw (k + 5), e_pick (k + 2), e_once (k + 5)]
noncomputable def stacksQ : SM := (sSeq (sAsg (mL lstP (lCons (mL tupP lNil) lNil)) (gVar 1)) (sSeq (sAsg (mL lstP (lCons (mL tupP lNil) lNil)) (gVar 2)) (sSeq (sFor (iRng1M (mVar 0)) (gVar 3) (sSeq (sAsg (m2 addP (mLc (iSeq (mVar 2)) [4] (.nm 4) bYes (m2 addP (mVar 4) (mL tupP (lCons (mC (.str "a")) lNil)))) (mLc (iSeq (mVar 2)) [4] (.nm 4) bYes (m2 addP (mVar 4) (mL tupP (lCons (mC (.str "b")) lNil))))) (gVar 2)) (sExpr (mM "list" extQ (mVar 1) (lCons (mVar 2) lNil))))) (sRet (mVar 1)))))
theorem stacksQ_ok {S : Sto} {n : Nat} (hn : n ≤ 10) : Ow (runB 5 stacksQ [.int n] S) fun x => Gr S x.2 ∧ ∃ l : Nat, x.1 = .loc l ∧ S.length ≤ l ∧ x.2[l]? = some (.lst ((stk n).map .tup)) := by
  have p10 : ∀ {k : Nat}, k ≤ 11 → 2 ^ k ≤ 2048 := fun {k} hk => Nat.pow_le_pow_right (by omega) hk
  rw [ow_runB]
  unfold stacksQ
  rw [ow_seq]
  simp [-ow_seq, lst_ok, tup_ok]
  rw [ow_seq]
  simp [-ow_seq, lst_ok, tup_ok]
  rw [ow_seq, ow_for]
  simp [-ow_seq]
  refine ⟨by omega, ?_⟩
  refine (forR_inv (n := n) (fun j env S1 => ∃ l o3 o4, env = [some (.int n), some (.loc S.length), some (.loc l), o3, o4] ∧ Gr S S1 ∧ S.length < l ∧ S1[S.length]? = some (.lst ((stk j).map .tup)) ∧ S1[l]? = some (.lst ((lvl j).map .tup)))
    (fun x => x.1 = .nx ∧ ∃ l o3 o4, x.2.1 = [some (.int n), some (.loc S.length), some (.loc l), o3, o4] ∧ Gr S x.2.2 ∧ x.2.2[S.length]? = some (.lst ((stk n).map .tup)))
    (fun env S1 ⟨l, o3, o4, e, g, h1, h2, h3⟩ => ⟨rfl, l, o3, o4, e, g, h2⟩) (fun j env S1 hj ⟨l, o3, o4, e, g, h1, h2, h3⟩ => ?step) ⟨S.length + 1, none, none, rfl, ⟨[.lst [.tup []], .lst [.tup []]], rfl⟩, by omega, by simp [stk], ?_⟩).imp ?imp
  case step =>
    subst e
    have lj : (lvl j).length ≤ 2048 := by rw [lvl_len]; exact p10 (by omega)
    have lj1 : (lvl (j + 1)).length ≤ 2048 := by rw [lvl_len]; exact p10 (by omega)
    have sj : (stk j).length ≤ 2048 := by
      have := stk_len j
      have := p10 (show j + 1 ≤ 11 by omega)
      omega
    have wj : ∀ w ∈ lvl j, w.length ≤ 100 := fun w hw => by have := (mem_lvl hw).1; omega
    rw [ow_gVar, ow_seq]
    simp [-ow_seq, ow_lc, seq_loc h3]
    refine (app_ok h3 (by omega) wj).imp ?_
    rintro ⟨r, S2⟩ ⟨rfl, g2⟩
    dsimp only at *
    have q3 : (S2 ++ [Ob.lst (((lvl j).map (· ++ [.str "a"])).map .tup)])[l]? = some (.lst ((lvl j).map .tup)) := get_app (g2.get h3)
    refine ⟨by have := seq_loc q3; simp only [List.map_map] at this ⊢; rw [this]; rfl, (app_ok q3 (by omega) wj).imp ?_⟩
    rintro ⟨r, S3⟩ ⟨rfl, g3⟩
    dsimp only at *
    have q4 : (S3 ++ [Ob.lst (((lvl j).map (· ++ [.str "b"])).map .tup)])[S2.length]? = some (.lst (((lvl j).map (· ++ [.str "a"])).map .tup)) := get_app (g3.get get_snoc)
    rw [add_lst q4 get_snoc (by simp; omega)]
    simp only [ow_some]
    generalize hS4 : S3 ++ [Ob.lst (((lvl j).map (· ++ [.str "b"])).map .tup)] = S4
    have g4 : Gr S1 S4 := by rw [← hS4]; exact ((g2.trans .app).trans g3).trans .app
    rw [← List.map_append, show (lvl j).map (· ++ [.str "a"]) ++ (lvl j).map (· ++ [.str "b"]) = lvl (j + 1) from rfl]
    have q5 : (S4 ++ [Ob.lst ((lvl (j + 1)).map .tup)])[S.length]? = some (.lst ((stk j).map .tup)) := get_app (g4.get h2)
    simp only [ty_lst q5, true_and]
    rw [show ∀ (a b : Nat) (S : Sto), extQ (.loc a) [.loc b] S = extP (.loc a) [.loc b] S from fun _ _ _ => rfl, ext_lst q5 get_snoc (by simp; omega)]
    simp only [ow_some]
    have hne : S.length < S4.length := by
      have := (List.getElem?_eq_some_iff.mp h2).1
      have := g4.len
      omega
    refine ⟨S4.length, rfl, ((g.trans g4).trans .app).set (Nat.le_refl _), hne, ?_, ?_⟩
    · rw [get_set q5, ← List.map_append]
      rfl
    · rw [get_set_ne (by omega)]
      exact get_snoc
  case imp =>
    rintro ⟨fl, env, S1⟩ ⟨rfl, l, o3, o4, rfl, g, h2⟩
    simp
    exact ⟨g, h2⟩
  · rw [List.getElem?_append_right (by omega), show S.length + 1 - S.length = 1 by omega]
    rfl
theorem e_stacks (k : Nat) : calls (k + 3) 21 = runB 5 stacksQ := rfl
abbrev S3 : List D := [.int 0, .int 1, .int 2]
theorem nn_ok : NdOk NN := ⟨fun v h => by
  simp only [NN, List.mem_cons, List.not_mem_nil, or_false] at h
  rcases h with rfl | rfl | rfl | rfl | rfl
  · exact .int
  · exact .int
  · exact .int
  · exact .str (by decide +kernel)
  · exact .str (by decide +kernel), by simp [NN]; decide, by decide⟩
structure LT (t : NT) : Prop extends t.Ok where
  s3 : t.sts = S3
  ab : t.ys = AB
theorem nms_iD {U : List D} : ∀ {xs : List D}, nms U xs = (xs.map (num U)).map iD := fun {xs} => by simp [nms, iD, Function.comp_def]
theorem tab_nt {fo : D → D → D} {fi : D → Bool} {xs U : List D} (nd : U.Nodup) (lx : xs.length = 3) (h1 : ∀ x ∈ xs, x ∈ U) (h2 : ∀ x ∈ U, ∀ y ∈ AB, fo x y ∈ U) (lU : U.length ≤ 50000) : ∃ t : NT, tabD fo fi (.tup S3) AB xs U = t.enc ∧ LT t := by
  classical
  refine ⟨⟨S3, AB, xs.map (num U), U.map fun x => (AB.map (fo x)).map (num U), (List.range U.length).filter fun i => match U[i]? with | some x => fi x | none => false⟩, ?_, ⟨⟨?_, ?_, ?_, ?_, ?_, ?_, ?_, ?_, ?_, ?_, ?_, ?_⟩, rfl, rfl⟩⟩
  · unfold tabD NT.enc
    simp only [nms_iD, List.map_map]
    congr 1
  · intro s h
    simp only [S3, List.mem_cons, List.not_mem_nil, or_false] at h
    rcases h with rfl | rfl | rfl <;> exact .int
  · intro y h
    exact ab_th h
  · simp [S3]
  · simp [AB]
    decide
  · simp [lx]
  · simp
  · simp
  · intro r hr
    obtain ⟨x, hx, rfl⟩ := List.mem_map.mp hr
    refine ⟨by simp, fun v hv => ?_⟩
    obtain ⟨z, hz, rfl⟩ := List.mem_map.mp hv
    obtain ⟨y, hy, rfl⟩ := List.mem_map.mp hz
    simpa using num_lt (h2 x hx y hy)
  · intro v hv
    obtain ⟨x, hx, rfl⟩ := List.mem_map.mp hv
    simpa using num_lt (h1 x hx)
  · simpa using lU
  · exact List.nodup_range.filter _
  · intro v hv
    simpa using List.mem_range.mp (List.mem_filter.mp hv).1
theorem ltab_ok (k : Nat) {T S : Sto} {sy tg : List D} {d : D} (hm : MachR sy tg T d S) (hsy : ∀ s ∈ sy, Th 4 s) (htg : ∀ x ∈ tg, x ∈ NN) : Ow (calls (k + 12) 14 [d, .tup S3, .tup AB] S) fun r => ∃ t : NT, r.1 = t.enc ∧ LT t ∧ ∃ T', Gr T T' ∧ DSt T' r.2 := by
  obtain ⟨E, fin, rfl, md, T1, g1, h1⟩ := hm
  have tE : EdT 4 E := fun e he => ⟨nn_ok.th _ (md.ed e he).1, hsy _ (md.ed e he).2.1, nn_ok.th _ (htg _ (md.ed e he).2.2)⟩
  refine (table_ok theTbPF theTbK theWyK k (V := NN) nn_ok tE md.nd (fun e he => htg _ (md.ed e he).2.2) (by have := md.len; omega) (fun x hx => nn_ok.th x (md.fin x hx)) (sts := S3) (fun x hx => ?_) (by decide) (ys := AB) (fun y hy => ab_th hy) (by decide)).imp ?_
  · simp only [S3, List.mem_cons, List.not_mem_nil, or_false] at hx
    rcases hx with rfl | rfl | rfl <;> simp [NN]
  · rintro ⟨z, S2⟩ ⟨g2, U, e, nd, dm, m1, m2, _⟩
    dsimp only at g2 e ⊢
    obtain ⟨t, et, ht⟩ := tab_nt (fo := foD NN E) (fi := fiD fin) (xs := S3.map fun s => clD NN E [s]) nd (by simp) m1 m2 (by have := dom_len (V := NN) U nd dm; simp at this; omega)
    obtain ⟨T2, gT, h2⟩ := h1.gr g2
    exact ⟨t, e.trans et, ht, T2, g1.trans gT, h2⟩
end k24
end DL
set_option maxHeartbeats 2000000
namespace DL
namespace k24
open PySem
open tb
theorem wds_len : ∀ {n : Nat}, (wds AB n).length = 2 ^ n
  | 0 => rfl
  | n + 1 => by
    unfold wds
    rw [List.length_flatMap]
    simp [AB, wds_len (n := n), Nat.pow_succ]
    omega
section
variable {t : NT}
theorem LT.C_le (ht : LT t) {n : Nat} : t.C n ≤ 3 * 2 ^ n := by
  rw [← due_len ht.toOk]
  unfold dueL
  rw [List.length_flatMap, ht.s3]
  have h : ∀ p, ((accL t n (t.sv p)).map (cfD p)).length ≤ 2 ^ n := fun p => by
    rw [List.length_map, ← wds_len, ← ht.ab]
    unfold accL
    exact List.length_filter_le _ _
  have h0 := h (.int 0)
  have h1 := h (.int 1)
  have h2 := h (.int 2)
  simp only [S3, List.map_cons, List.map_nil, List.sum_cons, List.sum_nil]
  omega
theorem cf_th {p : D} {w : List D} (hp : Th 4 p) (hw : ∀ s ∈ w, s ∈ AB) (lw : w.length ≤ 900) : Th 6 (cfD p w) :=
  .tup (by simp) fun d hd => by
    simp only [List.mem_cons, List.not_mem_nil, or_false] at hd
    rcases hd with rfl | rfl
    · exact hp.mono (by decide)
    · exact .tup lw fun s hs => ab_th (hw s hs)
theorem due_th (ht : LT t) {n : Nat} (hn : n ≤ 900) : ∀ d ∈ dueL t n, Th 6 d := fun d hd => by
  unfold dueL at hd
  obtain ⟨p, hp, h⟩ := List.mem_flatMap.mp hd
  obtain ⟨w, hw, rfl⟩ := List.mem_map.mp h
  obtain ⟨⟨h1, h2⟩, _⟩ := mem_acc.mp hw
  exact cf_th (ht.ts p hp) (by rw [← ht.ab]; exact h2) (by omega)
end
theorem idx_lst {n m l : Nat} {d : D} {ds : List D} {S : Sto} (h0 : S[l]? = some (.lst ds)) (hd : Th n d) (h : ∀ z ∈ ds, Th m z) (hn : n ≤ 60) (hm : m ≤ 60) (hmem : d ∈ ds) : idxLP (.loc l) [d] S = some (iD (num ds d), S) := by
  obtain ⟨h1, h2⟩ := ths_shaped h hm
  simp only [idxLP, h0, hd.pure.1, h1, hd.shaped (by omega), h2, and_self, if_true, first_num hd 0 h hmem, Nat.zero_add]
  rfl
structure LV (t : NT) (n : Nat) (a b : Nat) (env : Vars) : Prop where
  len : env.length = 18
  e1 : env[1]? = some (some (.loc 1))
  e2 : env[2]? = some (some t.enc)
  e3 : env[3]? = some (some (iD n))
  e4 : env[4]? = some (some (.loc (a + 2)))
  e5 : env[5]? = some (some (.loc (b + 2)))
theorem LV.set {t : NT} {n a b : Nat} {env : Vars} (h : LV t n a b env) {i : Nat} {d : Option D} (hi : 6 ≤ i) : LV t n a b (env.set i d) := by
  have n : ∀ j, j < 6 → (env.set i d)[j]? = env[j]? := fun j hj => List.getElem?_set_ne (by omega)
  exact ⟨by rw [List.length_set]; exact h.len, (n 1 (by decide)).trans h.e1, (n 2 (by decide)).trans h.e2, (n 3 (by decide)).trans h.e3, (n 4 (by decide)).trans h.e4, (n 5 (by decide)).trans h.e5⟩
noncomputable def loopS (cl : Nat → FM) : SM := (sSeq (sAsg (mL tupP (lCons (mL (cl 17) (lCons (mVar 1) (lCons (mC (.int 3)) lNil))) (lCons (mL (cl 18) (lCons (mVar 1) (lCons (mVar 4) lNil))) lNil))) (gVar 8)) (sSeq (sAsg (mIf (bV (m2 inQ (mVar 8) (mVar 5))) (mM "list" idxLP (mVar 5) (lCons (mVar 8) lNil)) (mC .non)) (gVar 9)) (sSeq (sIf (bV (m2 neP (mL (cl 2) (lCons (mVar 2) (lCons (mVar 8) lNil))) (mVar 9))) (sRet (mC (.bl false))) sNext) (sSeq (sAsg (m2 (intP fun i j => i - j) (mL (cl 17) (lCons (mVar 1) (lCons (m2 addP (mL lenQ (lCons (mVar 5) lNil)) (mC (.int 2))) lNil))) (mC (.int 1))) (gVar 10)) (sIf (bV (m2 neP (mL (cl 4) (lCons (mVar 2) (lCons (mVar 3) (lCons (mVar 10) lNil)))) (mIf (bV (mChain leP ltP (mC (.int 0)) (mVar 10) (mL lenQ (lCons (mVar 5) lNil)))) (m2 ixQ (mVar 5) (mVar 10)) (mC .non)))) (sRet (mC (.bl false))) sNext)))))
theorem loopS_ok (k : Nat) {t : NT} (ht : LT t) {n a b : Nat} (hn : n ≤ 5) {env : Vars} {T0 T S : Sto} (lv : LV t n a b env) (g : Gr T0 T) (h : DSt T S) (ha : T0[a]? = some (.lst ((lvl n).map .tup))) (hb : T0[b]? = some (.lst (dueL t n))) :
    Ow (loopS (calls (k + 20)) env S) fun x => x.1 = .nx ∧ LV t n a b x.2.1 ∧ ∃ T', Gr T0 T' ∧ DSt T' x.2.2 := by
  have lC : t.C n ≤ 96 := by
    have := ht.C_le (n := n)
    have : 2 ^ n ≤ 2 ^ 5 := Nat.pow_le_pow_right (by decide) hn
    omega
  unfold loopS
  rw [ow_seq]
  simp only [ow_asg, ow_mL, ow_cons, ow_var, lv.e1, lv.e4, Option.some.injEq, ow_C, ow_nil]
  refine ⟨_, rfl, ?_⟩
  rw [e_draw (k + 17)]
  refine (drawOkW _ _ 3 h (by decide) (by decide)).imp ?_
  rintro ⟨d, S1⟩ ⟨i, rfl, i0, i1, h1⟩
  dsimp only
  refine ⟨_, rfl, _, rfl, ?_⟩
  rw [e_pick (k + 14)]
  refine (pickQ_loc drawOkW h1 (g.get ha) (by intro z; have := congrArg List.length z; simp [lvl_len] at this) (by simp [lvl_len]; have : 2 ^ n ≤ 2 ^ 5 := Nat.pow_le_pow_right (by decide) hn; omega)).imp ?_
  rintro ⟨x, S2⟩ ⟨hx, h2⟩
  obtain ⟨w, hw, rfl⟩ := List.mem_map.mp hx
  obtain ⟨w1, w2⟩ := mem_lvl hw
  dsimp only at h2 ⊢
  rw [tup_ok (by simp)]
  simp only [ow_some, ow_gVar]
  have hp3 : D.int i ∈ S3 := by
    have : i = 0 ∨ i = 1 ∨ i = 2 := by omega
    rcases this with rfl | rfl | rfl <;> simp [S3]
  have hps : D.int i ∈ t.sts := by rw [ht.s3]; exact hp3
  have hcf : Th 6 (cfD (.int i) w) := cf_th .int w2 (by omega)
  have lv1 := lv.set (i := 8) (d := some (cfD (.int i) w)) (by omega)
  have q8 := set_self (env := env) (i := 8) (d := some (cfD (.int i) w)) (by rw [lv.len]; decide)
  show Ow (sSeq _ _ (env.set 8 (some (cfD (.int i) w))) S2) _
  generalize env.set 8 (some (cfD (.int i) w)) = env2 at lv1 q8
  have hd2 : S2[b + 2]? = some (.lst (dueL t n)) := h2.get (g.get hb)
  have key : ∃ pv : D, (pv = .non ∨ ∃ v : Nat, pv = iD v) ∧ (cfD (.int i) w ∈ dueL t n → pv = iD (t.pl (.int i) w)) ∧ (cfD (.int i) w ∉ dueL t n → pv = .non) ∧ Ow (sAsg (mIf (bV (m2 inQ (mVar 8) (mVar 5))) (mM "list" idxLP (mVar 5) (lCons (mVar 8) lNil)) (mC .non)) (gVar 9) env2 S2) fun x => x = (.nx, env2.set 9 (some pv), S2) := by
    classical
    simp only [ow_asg, ow_mIf, ow_V, ow_m2, ow_var, q8, lv1.e5, Option.some.injEq]
    by_cases hm : cfD (.int i) w ∈ dueL t n
    · refine ⟨iD (t.pl (.int i) w), .inr ⟨_, rfl⟩, fun _ => rfl, fun z => absurd hm z, _, rfl, _, rfl, ?_⟩
      rw [in_ths hcf (seq_loc hd2) (due_th ht (by omega)) (by decide) (by decide)]
      simp only [ow_some, asB_bl, hm, decide_true, if_true, ow_mM, ow_var, lv1.e5, Option.some.injEq, ow_cons, q8, ow_nil]
      refine ⟨_, rfl, ty_lst hd2, _, rfl, ?_⟩
      rw [idx_lst hd2 hcf (due_th ht (by omega)) (by decide) (by decide) hm, due_num ht.toOk hm]
      simp only [ow_some, ow_gVar]
    · refine ⟨.non, .inl rfl, fun z => absurd z hm, fun _ => rfl, _, rfl, _, rfl, ?_⟩
      rw [in_ths hcf (seq_loc hd2) (due_th ht (by omega)) (by decide) (by decide)]
      simp [hm]
  obtain ⟨pv, pv0, pv1, pv2, key⟩ := key
  have tpv : Th 6 pv := by
    rcases pv0 with rfl | ⟨v, rfl⟩
    · exact .non
    · exact iD_th
  rw [ow_seq]
  refine key.imp ?_
  rintro _ rfl
  dsimp only
  have lv2 := lv1.set (i := 9) (d := some pv) (by omega)
  have q9 := set_self (env := env2) (i := 9) (d := some pv) (by rw [lv1.len]; decide)
  have q8' : (env2.set 9 (some pv))[8]? = some (some (cfD (.int i) w)) := by rw [List.getElem?_set_ne (by decide)]; exact q8
  generalize env2.set 9 (some pv) = env3 at lv2 q9 q8'
  rw [ow_seq]
  simp only [ow_sIf, ow_V, ow_m2, ow_mL, ow_cons, ow_var, lv2.e2, q8', q9, Option.some.injEq, ow_nil]
  refine ⟨_, rfl, _, rfl, ?_⟩
  refine (place_ok theCtPF (k + 18) ht.toOk (p := .int i) (w := w) .int (fun s hs => ab_th (w2 s hs)) (by omega)).imp ?_
  rintro ⟨r, S4⟩ ⟨r1, r2, g4⟩
  dsimp only at r1 r2 g4 ⊢
  have er : r = pv := by
    by_cases hm : cfD (.int i) w ∈ dueL t n
    · obtain ⟨m1, m2⟩ := mem_due.mp hm
      obtain ⟨⟨_, m3⟩, m4⟩ := mem_acc.mp m2
      rw [pv1 hm, r1 ⟨m1, m3, m4⟩]
    · rw [pv2 hm, r2 fun z => hm (mem_due.mpr ⟨hps, mem_acc.mpr ⟨⟨w1, z.2.1⟩, z.2.2⟩⟩)]
  subst er
  refine ⟨_, rfl, ?_⟩
  rw [ne_th tpv tpv (by decide) (by decide)]
  simp only [ow_some, asB_bl, decide_true, Bool.not_true, if_false, ow_next]
  obtain ⟨T4, gT4, h4⟩ := h2.gr g4
  have hd4 : S4[b + 2]? = some (.lst (dueL t n)) := h4.get ((g.trans gT4).get hb)
  rw [ow_seq]
  simp only [ow_asg, ow_m2, ow_mL, ow_cons, ow_var, lv2.e1, lv2.e5, Option.some.injEq, ow_nil, ow_C]
  refine ⟨_, rfl, _, rfl, ?_⟩
  rw [len_lst hd4]
  simp only [ow_some]
  rw [show addP (.int ((dueL t n).length : Nat)) (.int 2) S4 = some (.int (((dueL t n).length : Nat) + 2), S4) from rfl, due_len ht.toOk]
  simp only [ow_some]
  refine (drawOkW _ _ _ h4 (by omega) (by omega)).imp ?_
  rintro ⟨d, S5⟩ ⟨j, rfl, j0, j1, h5⟩
  dsimp only at h5 ⊢
  rw [show intP (fun i j => i - j) (.int j) (.int 1) S5 = some (.int (j - 1), S5) from rfl]
  simp only [ow_some, ow_gVar]
  have lv3 := lv2.set (i := 10) (d := some (.int (j - 1))) (by omega)
  have q10 := set_self (env := env3) (i := 10) (d := some (.int (j - 1))) (by rw [lv2.len]; decide)
  generalize env3.set 10 (some (.int (j - 1))) = env4 at lv3 q10
  simp only [ow_sIf, ow_V, ow_m2, ow_mL, ow_cons, ow_var, lv3.e2, lv3.e3, lv3.e5, q10, Option.some.injEq, ow_nil, ow_mIf, ow_chain, ow_C]
  refine ⟨_, rfl, _, rfl, _, rfl, ?_⟩
  refine (conf_ok theCtPF (k + 17) ht.toOk (n := n) (by omega) (pl := j - 1)).imp ?_
  rintro ⟨r, S6⟩ ⟨g6, c1, c2⟩
  dsimp only at g6 c1 c2 ⊢
  obtain ⟨T6, gT6, h6⟩ := h5.gr g6
  have hd6 : S6[b + 2]? = some (.lst (dueL t n)) := h6.get (((g.trans gT4).trans gT6).get hb)
  have fin : ∀ env, LV t n a b env → LV t n a b env ∧ ∃ T', Gr T0 T' ∧ DSt T' S6 := fun env l => ⟨l, T6, (g.trans gT4).trans gT6, h6⟩
  refine ⟨_, rfl, ?_⟩
  by_cases hj : 0 ≤ j - 1
  · have le1 : leP (.int 0) (.int (j - 1)) S6 = some (.bl true, S6) := by
      rw [show leP (.int 0) (.int (j - 1)) S6 = some (.bl (decide ((0 : Int) ≤ j - 1)), S6) from rfl]
      rw [decide_eq_true hj]
    rw [le1]
    simp only [ow_some, asB_bl, if_true]
    refine ⟨_, rfl, ?_⟩
    rw [len_lst hd6]
    simp only [ow_some, lt_ii, asB_bl, due_len ht.toOk]
    by_cases hj2 : j - 1 < ((t.C n : Nat) : Int)
    · simp only [hj2, decide_true, if_true]
      refine ⟨_, rfl, _, rfl, ?_⟩
      obtain ⟨p, u, rfl, u1, u2, u3, u4, u5⟩ := c2 ⟨hj, hj2⟩
      have hm : cfD p u ∈ dueL t n := mem_due.mpr ⟨u1, mem_acc.mpr ⟨⟨u2, u3⟩, u4⟩⟩
      have hat := due_at ht.toOk hm
      rw [ix_lst hd6 hj (d := cfD p u) (by rw [← u5]; simpa using hat)]
      have tc : Th 6 (cfD p u) := due_th ht (by omega) _ hm
      simp only [ow_some]
      rw [show D.tup [p, .tup u] = cfD p u from rfl, ne_th tc tc (by decide) (by decide)]
      simp only [ow_some, asB_bl, decide_true, Bool.not_true, if_false, ow_next]
      exact ⟨trivial, fin _ lv3⟩
    · simp only [hj2, decide_false, if_false]
      rw [c1 fun z => hj2 z.2, ne_th (n := 0) (m := 0) .non .non (by decide) (by decide)]
      simp only [ow_some, asB_bl, decide_true, Bool.not_true, if_false, ow_next]
      exact ⟨trivial, fin _ lv3⟩
  · have le1 : leP (.int 0) (.int (j - 1)) S6 = some (.bl false, S6) := by
      rw [show leP (.int 0) (.int (j - 1)) S6 = some (.bl (decide ((0 : Int) ≤ j - 1)), S6) from rfl]
      rw [decide_eq_false hj]
    rw [le1]
    simp only [ow_some, asB_bl, if_false]
    rw [c1 fun z => hj z.1, ne_th (n := 0) (m := 0) .non .non (by decide) (by decide)]
    simp only [ow_some, asB_bl, decide_true, Bool.not_true, if_false, ow_next]
    exact ⟨trivial, fin _ lv3⟩
end k24
end DL
set_option maxHeartbeats 2000000
namespace DL
namespace k24
open PySem
open tb
structure LW (t : NT) (N : Nat) (env : Vars) : Prop where
  len : env.length = 18
  e1 : env[1]? = some (some (.loc 1))
  e2 : env[2]? = some (some t.enc)
  e3 : env[3]? = some (some (iD N))
theorem LW.set {t : NT} {N : Nat} {env : Vars} (h : LW t N env) {i : Nat} {d : Option D} (hi : 4 ≤ i) : LW t N (env.set i d) := by
  have n : ∀ j, j < 4 → (env.set i d)[j]? = env[j]? := fun j hj => List.getElem?_set_ne (by omega)
  exact ⟨by rw [List.length_set]; exact h.len, (n 1 (by decide)).trans h.e1, (n 2 (by decide)).trans h.e2, (n 3 (by decide)).trans h.e3⟩
noncomputable def wayB : SM := (sAsg (mLc (iSeq (m2 ixQ (mVar 2) (mC (.int 3)))) [17] (.nm 17) bYes (mL sumP (lCons (mLc (iSeq (mVar 17)) [16] (.nm 16) bYes (m2 ixQ (mVar 11) (mVar 16))) lNil))) (gVar 11))
theorem wayB_ok {t : NT} (ht : LT t) {N j m : Nat} {env : Vars} {S : Sto} (lw : LW t N env) (e11 : env[11]? = some (some (.loc m))) (hm : S[m]? = some (.lst (wv t j))) :
    Ow (wayB env S) fun x => x.1 = .nx ∧ Gr S x.2.2 ∧ LW t N x.2.1 ∧ ∃ m', x.2.1[11]? = some (some (.loc m')) ∧ x.2.2[m']? = some (.lst (wv t (j + 1))) := by
  unfold wayB
  simp only [ow_asg, ow_lc, ow_iSeq, ow_m2, ow_var, lw.e2, Option.some.injEq, ow_C]
  refine ⟨_, rfl, ?_⟩
  rw [show ixQ t.enc (.int 3) S = some (.tup (t.mv.map fun r => .tup (r.map iD)), S) from ix_tupN (i := 3) rfl]
  simp only [ow_some, seq_tup, Option.isSome_some, true_and]
  refine (lcG (d := .tup (t.mv.map fun r => .tup (r.map iD))) (its := t.mv.map fun r => .tup (r.map iD)) (vs := [17]) (t := .nm 17) (env := env) rfl (by simpa using (by have := ht.lm; omega : t.mv.length ≤ 1000000)) (fun _ => true) (fun z => iD (((unT z).map fun v => t.W j (unI v)).sum)) fun z hz => ⟨_, rfl, fun S4 g4 => ?_⟩).imp ?_
  · simp only [bYes, ow_some]
    refine ⟨trivial, .refl, fun _ => ?_⟩
    obtain ⟨r, hr, rfl⟩ := List.mem_map.mp hz
    obtain ⟨r1, r2⟩ := ht.row r hr
    have q17 : ((wipeD env [17]).set 17 (some (.tup (r.map iD))))[17]? = some (some (.tup (r.map iD))) := set_self (by simp [wipeD, lw.len])
    have q11 : ((wipeD env [17]).set 17 (some (.tup (r.map iD))))[11]? = some (some (.loc m)) := by
      rw [List.getElem?_set_ne (by decide)]
      show (env.set 17 none)[11]? = _
      rw [List.getElem?_set_ne (by decide)]
      exact e11
    have ql : ((wipeD env [17]).set 17 (some (.tup (r.map iD)))).length = 18 := by simp [wipeD, lw.len]
    generalize (wipeD env [17]).set 17 (some (.tup (r.map iD))) = env2 at q17 q11 ql
    simp only [ow_mL, ow_cons, ow_lc, ow_iSeq, ow_var, q17, Option.some.injEq]
    refine ⟨_, rfl, rfl, ?_⟩
    refine (wsum_ok (r := r) (f := t.W j) (x := 16) (d := .tup (r.map iD)) (by have := ht.ly; omega) rfl fun S5 g5 v hv => ?_).imp ?_
    · have s11 : ((env2.set 16 none).set 16 (some (iD v)))[11]? = some (some (.loc m)) := by rw [List.getElem?_set_ne (by decide), List.getElem?_set_ne (by decide)]; exact q11
      have s16 : ((env2.set 16 none).set 16 (some (iD v)))[16]? = some (some (iD v)) := set_self (by simp [ql])
      simp only [ow_m2, ow_var, s11, s16, Option.some.injEq]
      refine ⟨_, rfl, _, rfl, ?_⟩
      rw [wv_ix ((g4.trans g5).get hm) (r2 v hv)]
      simp only [ow_some]
      exact ⟨trivial, .refl⟩
    · rintro ⟨y, S5⟩ h
      simp only [ow_nil]
      refine h.imp ?_
      rintro ⟨z, S6⟩ ⟨h1, h2⟩
      refine ⟨h1.trans ?_, h2⟩
      simp [unT, Function.comp_def]
  · rintro ⟨ds, S4⟩ ⟨rfl, g4⟩
    dsimp only at g4 ⊢
    simp only [ow_gVar]
    refine ⟨g4.trans .app, lw.set (i := 11) (by decide), S4.length, set_self (by rw [lw.len]; decide), ?_⟩
    rw [get_snoc, List.filter_eq_self.mpr fun _ _ => rfl, List.map_map]
    congr 2
    unfold wv
    refine List.ext_getElem (by simp) fun i h1 h2 => ?_
    simp [NT.W, unT, Function.comp_def]
    have hi : i < t.mv.length := by simpa using h1
    have := ht.at hi
    rw [List.getElem?_eq_getElem hi] at this
    rw [Option.some.inj this]
noncomputable def tailD (cl : Nat → FM) : SM := (sSeq (sAsg (mLc (iRng1M (mL lenQ (lCons (m2 ixQ (mVar 2) (mC (.int 3))) lNil))) [13] (.nm 13) bYes (mL toIntP (lCons (m2 inQ (mVar 13) (m2 ixQ (mVar 2) (mC (.int 4)))) lNil))) (gVar 11)) (sSeq (sFor (iRng1M (mVar 3)) (gVar 7) wayB) (sSeq (sAsg (mL sumP (lCons (mLc (iSeq (m2 ixQ (mVar 2) (mC (.int 2)))) [15] (.nm 15) bYes (m2 ixQ (mVar 11) (mVar 15))) lNil)) (gVar 12)) (sSeq (sIf (bV (m2 neP (mL (cl 1) (lCons (mVar 2) (lCons (mVar 3) lNil))) (mVar 12))) (sRet (mC (.bl false))) sNext) (sSeq (sIf (bV (m2 eqP (mVar 12) (mC (.int 0)))) (sRet (mIsN (mL (cl 4) (lCons (mVar 2) (lCons (mVar 3) (lCons (mC (.int 0)) lNil)))))) sNext) (sSeq (sAsg (mL (cl 17) (lCons (mVar 1) (lCons (mVar 12) lNil))) (gVar 9)) (sRet (m2 eqP (mL (cl 2) (lCons (mVar 2) (lCons (mL (cl 4) (lCons (mVar 2) (lCons (mVar 3) (lCons (mVar 9) lNil)))) lNil))) (mVar 9)))))))))
theorem tailD_ok (k : Nat) {t : NT} (ht : LT t) {N : Nat} (hN : N ≤ 60) {env : Vars} {T S : Sto} (lw : LW t N env) (h : DSt T S) : Ow (tailD (calls (k + 20)) env S) fun x => x.1 = .rt (.bl true) := by
  classical
  have lC : t.C N ≤ 3 * 2 ^ 60 := by
    have := ht.C_le (n := N)
    have : 2 ^ N ≤ 2 ^ 60 := Nat.pow_le_pow_right (by decide) hN
    omega
  have lmv := ht.lm
  unfold tailD
  rw [ow_seq]
  simp only [ow_asg, ow_lc, ow_iRng1, ow_mL, ow_cons, ow_m2, ow_var, lw.e2, Option.some.injEq, ow_C, ow_nil]
  refine ⟨_, rfl, ?_⟩
  rw [show ixQ t.enc (.int 3) S = some (.tup (t.mv.map fun r => .tup (r.map iD)), S) from ix_tupN (i := 3) rfl]
  simp only [ow_some]
  rw [show lenQ [D.tup (t.mv.map fun r => .tup (r.map iD))] S = some (.int (t.mv.length : Nat), S) by simp [lenQ, dctD, lenP, seqD]]
  simp only [ow_some, asI_int, Int.toNat_natCast]
  refine ⟨⟨by omega, by omega⟩, ?_⟩
  refine (lcRg (vs := [13]) (t := .nm 13) (env := env) (by omega) (fun v => iD (t.W 0 v)) fun v hv => ⟨_, rfl, fun S1 g1 => ?_⟩).imp ?_
  · have q13 : ((wipeD env [13]).set 13 (some (iD v)))[13]? = some (some (iD v)) := set_self (by simp [wipeD, lw.len])
    have q2 : ((wipeD env [13]).set 13 (some (iD v)))[2]? = some (some t.enc) := by
      rw [List.getElem?_set_ne (by decide)]
      show (env.set 13 none)[2]? = _
      rw [List.getElem?_set_ne (by decide)]
      exact lw.e2
    simp only [ow_mL, ow_cons, ow_m2, ow_var, q13, q2, ow_C, ow_nil, Option.some.injEq]
    refine ⟨_, rfl, _, rfl, ?_⟩
    rw [show ixQ t.enc (.int 4) S1 = some (.tup (t.fn.map iD), S1) from ix_tupN (i := 4) rfl]
    simp only [ow_some]
    rw [in_ths iD_th (n := 0) (m := 0) (l := t.fn.map iD) rfl iDs_th (by decide) (by decide)]
    rw [show decide (iD v ∈ t.fn.map iD) = decide (v ∈ t.fn) from decide_eq_decide.mpr mem_iD]
    simp only [ow_some, toIntP]
    refine ⟨?_, .refl⟩
    by_cases h : v ∈ t.fn
    · simp [h, NT.W]; rfl
    · simp [h, NT.W]; rfl
  · rintro ⟨ds, S1⟩ ⟨rfl, g1⟩
    dsimp only at g1 ⊢
    simp only [ow_gVar]
    have lw1 := lw.set (i := 11) (d := some (.loc S1.length)) (by decide)
    have q11 := set_self (env := env) (i := 11) (d := some (.loc S1.length)) (by rw [lw.len]; decide)
    generalize env.set 11 (some (.loc S1.length)) = env1 at lw1 q11
    rw [ow_seq, ow_for]
    simp only [ow_iRng1, ow_var, lw1.e3, Option.some.injEq]
    refine ⟨_, rfl, ?_⟩
    rw [asI_iD]
    simp only [ow_some, Int.toNat_natCast]
    refine ⟨⟨by omega, by omega⟩, ?_⟩
    refine (forR_inv (n := N) (fun j env S3 => Gr S S3 ∧ LW t N env ∧ ∃ m, env[11]? = some (some (.loc m)) ∧ S3[m]? = some (.lst (wv t j))) (fun x => x.1 = .nx ∧ Gr S x.2.2 ∧ LW t N x.2.1 ∧ ∃ m, x.2.1[11]? = some (some (.loc m)) ∧ x.2.2[m]? = some (.lst (wv t N)))
      (fun env S3 h => ⟨rfl, h⟩) (fun j env S3 hj ⟨g3, l3, m, m1, m2⟩ => ?_) ⟨g1.trans .app, lw1, S1.length, q11, get_snoc⟩).imp ?_
    · simp only [ow_gVar]
      have l4 := l3.set (i := 7) (d := some (.int (0 + (j : Nat)))) (by decide)
      have m4 : (env.set 7 (some (.int (0 + (j : Nat)))))[11]? = some (some (.loc m)) := by rw [List.getElem?_set_ne (by decide)]; exact m1
      refine (wayB_ok ht l4 m4 m2).imp ?_
      rintro ⟨fl, env2, S4⟩ ⟨rfl, g4, l5, m', m5, m6⟩
      exact ⟨g3.trans g4, l5, m', m5, m6⟩
    · rintro ⟨fl, env2, S3⟩ ⟨rfl, g3, l3, m, m1, m2⟩
      dsimp only at g3 l3 m1 m2 ⊢
      rw [ow_seq]
      simp only [ow_asg, ow_mL, ow_cons, ow_lc, ow_iSeq, ow_m2, ow_var, l3.e2, Option.some.injEq, ow_C]
      refine ⟨_, rfl, ?_⟩
      rw [show ixQ t.enc (.int 2) S3 = some (.tup (t.st.map iD), S3) from ix_tupN (i := 2) rfl]
      simp only [ow_some, seq_tup, Option.isSome_some, true_and]
      refine (wsum_ok (r := t.st) (f := t.W N) (x := 15) (d := .tup (t.st.map iD)) (by have := ht.ls; have := ht.l3; omega) rfl fun S5 g5 v hv => ?_).imp ?_
      · have s11 : ((env2.set 15 none).set 15 (some (iD v)))[11]? = some (some (.loc m)) := by rw [List.getElem?_set_ne (by decide), List.getElem?_set_ne (by decide)]; exact m1
        have s15 : ((env2.set 15 none).set 15 (some (iD v)))[15]? = some (some (iD v)) := set_self (by simp [l3.len])
        simp only [ow_m2, ow_var, s11, s15, Option.some.injEq]
        refine ⟨_, rfl, _, rfl, ?_⟩
        rw [wv_ix (g5.get m2) (ht.st v hv)]
        simp only [ow_some]
        exact ⟨trivial, .refl⟩
      · rintro ⟨y, S5⟩ hh
        simp only [ow_nil]
        refine hh.imp ?_
        rintro ⟨z, S6⟩ ⟨rfl, g6⟩
        dsimp only at g6 ⊢
        simp only [ow_gVar]
        have eC : iD ((t.st.map (t.W N)).sum) = iD (t.C N) := rfl
        rw [eC]
        have l6 := l3.set (i := 12) (d := some (iD (t.C N))) (by decide)
        have q12 := set_self (env := env2) (i := 12) (d := some (iD (t.C N))) (by rw [l3.len]; decide)
        generalize env2.set 12 (some (iD (t.C N))) = env3 at l6 q12
        rw [ow_seq]
        simp only [ow_sIf, ow_V, ow_m2, ow_mL, ow_cons, ow_var, l6.e2, l6.e3, q12, Option.some.injEq, ow_nil]
        refine ⟨_, rfl, _, rfl, ?_⟩
        refine (count_ok theCtPF (k + 18) ht.toOk (n := N) (by omega)).imp ?_
        rintro ⟨r, S7⟩ ⟨rfl, g7⟩
        dsimp only at g7 ⊢
        refine ⟨_, rfl, ?_⟩
        rw [ne_th (n := 0) (m := 0) iD_th iD_th (by decide) (by decide)]
        simp only [ow_some, asB_bl, decide_true, Bool.not_true, if_false, ow_next]
        rw [ow_seq]
        simp only [ow_sIf, ow_V, ow_m2, ow_var, q12, Option.some.injEq, ow_C]
        refine ⟨_, rfl, ?_⟩
        rw [eq_th (n := 0) (m := 0) iD_th .int (by decide) (by decide)]
        simp only [ow_some, asB_bl]
        have gg := g3.trans (g6.trans g7)
        obtain ⟨T7, gT, h7⟩ := h.gr gg
        by_cases h0 : t.C N = 0
        · rw [decide_eq_true (show iD (t.C N) = .int 0 by rw [h0]; rfl)]
          simp only [if_true, ow_ret, ow_mIsN, ow_mL, ow_cons, ow_var, l6.e2, l6.e3, Option.some.injEq, ow_C, ow_nil]
          refine ⟨_, rfl, _, rfl, ?_⟩
          refine (conf_ok theCtPF (k + 17) ht.toOk (n := N) (by omega) (pl := 0)).imp ?_
          rintro ⟨r, S8⟩ ⟨g8, c1, c2⟩
          dsimp only at c1 ⊢
          rw [c1 (by rw [h0]; simp)]
          rfl
        · rw [decide_eq_false (show ¬ iD (t.C N) = .int 0 from fun z => h0 (by have := iD_inj.mp (show iD (t.C N) = iD 0 from z); exact this))]
          simp only [if_false, ow_next]
          rw [ow_seq]
          simp only [ow_asg, ow_mL, ow_cons, ow_var, l6.e1, q12, Option.some.injEq, ow_nil]
          refine ⟨_, rfl, _, rfl, ?_⟩
          rw [e_draw (k + 17)]
          refine (drawW_ok h7 (b := ((t.C N : Nat) : Int)) (by omega) (by
            have e : (2 : Nat) ^ 62 = 4 * 2 ^ 60 := by decide
            have h2 : (((t.C N : Nat) : Int)).natAbs < 2 ^ 62 := by
              rw [Int.natAbs_natCast, e]
              have : 0 < 2 ^ 60 := by decide
              omega
            have h3 : (((t.C N : Nat) : Int)).natAbs.log2 < 62 := PySem.Flt.log2_lt_of (by decide) h2
            omega)).imp ?_
          rintro ⟨d, S8⟩ ⟨i, rfl, i0, i1, h8⟩
          dsimp only at h8 ⊢
          simp only [ow_gVar]
          have l8 := l6.set (i := 9) (d := some (.int i)) (by decide)
          have q9 := set_self (env := env3) (i := 9) (d := some (.int i)) (by rw [l6.len]; decide)
          generalize env3.set 9 (some (.int i)) = env4 at l8 q9
          simp only [ow_ret, ow_m2, ow_mL, ow_cons, ow_var, l8.e2, l8.e3, q9, Option.some.injEq, ow_nil]
          refine ⟨_, rfl, _, rfl, _, rfl, _, rfl, ?_⟩
          refine (conf_ok theCtPF (k + 17) ht.toOk (n := N) (by omega) (pl := i)).imp ?_
          rintro ⟨r, S9⟩ ⟨g9, c1, c2⟩
          dsimp only at g9 c2 ⊢
          obtain ⟨p, u, rfl, u1, u2, u3, u4, u5⟩ := c2 ⟨i0, i1⟩
          refine (place_ok theCtPF (k + 18) ht.toOk (p := p) (w := u) (ht.ts p u1) (fun s hs => ht.ty s (u3 s hs)) (by omega)).imp ?_
          rintro ⟨r, S10⟩ ⟨r1, r2, g10⟩
          dsimp only at r1 ⊢
          rw [r1 ⟨u1, u3, u4⟩]
          refine ⟨_, rfl, ?_⟩
          rw [show D.int i = iD (t.pl p u) by rw [← u5]; rfl, eq_th (n := 0) (m := 0) iD_th iD_th (by decide) (by decide)]
          simp
end k24
end DL
set_option maxHeartbeats 2000000
namespace DL
namespace k24
open PySem
open tb
theorem duesP_ok (k : Nat) {t : NT} (ht : LT t) {n a2 : Nat} (hn : n ≤ 5) {p : D} (hp : p ∈ t.sts) {env : Vars} {S : Sto} (e2 : env[2]? = some (some t.enc)) (e4 : env[4]? = some (some (.loc a2))) (e6 : env[6]? = some (some p)) (l14 : env.length = 18) (ha : S[a2]? = some (.lst ((lvl n).map .tup))) :
    Ow (mLc (iSeq (mSortE (mVar 4))) [14] (.nm 14) (bTru (mL (calls (k + 29) 15) (lCons (mVar 2) (lCons (mL tupP (lCons (mVar 6) (lCons (mVar 14) lNil))) lNil)))) (mL tupP (lCons (mVar 6) (lCons (mVar 14) lNil))) env S) fun x => Gr S x.2 ∧ ∃ l, x.1 = .loc l ∧ S.length ≤ l ∧ x.2[l]? = some (.lst ((accL t n (t.sv p)).map (cfD p))) := by
  classical
  unfold mSortE
  simp only [ow_lc, ow_iSeq, ow_m1, ow_var, e4, Option.some.injEq]
  refine ⟨_, rfl, ?_⟩
  have es : sortNPE (.loc a2) S = some (.loc S.length, S ++ [.lst ((wds AB n).map .tup)]) := by
    have e1 : itemsD S (.loc a2) = some ((lvl n).map .tup) := by simp [itemsD, dctD, lckD, isLst, seqD, ha]
    simp only [sortNPE, e1, if_pos (ab_ord hn).2, srt_stk hn]
  rw [es]
  simp only [ow_some]
  refine ⟨by rw [seq_last]; rfl, ?_⟩
  have l32 : (wds AB n).length ≤ 32 := by
    rw [wds_len]
    exact Nat.pow_le_pow_right (by decide) hn
  refine (lcG (d := .loc S.length) (its := (wds AB n).map .tup) (vs := [14]) (t := .nm 14) (env := env) seq_last (by simp; omega) (fun x => decide (t.go (t.sv p) (unT x) ∈ t.fn)) (fun x => cfD p (unT x)) fun x hx => ⟨_, rfl, fun S6 g6 => ?_⟩).imp ?_
  · obtain ⟨w, hw, rfl⟩ := List.mem_map.mp hx
    obtain ⟨w1, w2⟩ := mem_wds.mp hw
    have q2 : ((wipeD env [14]).set 14 (some (.tup w)))[2]? = some (some t.enc) := by
      rw [List.getElem?_set_ne (by decide)]
      show (env.set 14 none)[2]? = _
      rw [List.getElem?_set_ne (by decide)]
      exact e2
    have q6 : ((wipeD env [14]).set 14 (some (.tup w)))[6]? = some (some p) := by
      rw [List.getElem?_set_ne (by decide)]
      show (env.set 14 none)[6]? = _
      rw [List.getElem?_set_ne (by decide)]
      exact e6
    have q14 : ((wipeD env [14]).set 14 (some (.tup w)))[14]? = some (some (.tup w)) := set_self (by simp [wipeD, l14])
    generalize (wipeD env [14]).set 14 (some (.tup w)) = env2 at q2 q6 q14
    simp only [ow_Tru, ow_mL, ow_cons, ow_var, q2, q6, q14, Option.some.injEq, ow_nil]
    refine ⟨_, rfl, _, rfl, _, rfl, ?_⟩
    rw [tup_ok (by simp)]
    simp only [ow_some]
    refine (has_ok theTbPF (k + 28) ht.toOk (p := p) (w := w) (ht.ts p hp) (fun s hs => ab_th (w2 s hs)) (by omega)).imp ?_
    rintro ⟨r, S7⟩ ⟨rfl, g7⟩
    dsimp only at g7 ⊢
    simp only [truD, ow_some]
    refine ⟨?_, g7, fun _ => ⟨_, rfl, _, rfl, ?_⟩⟩
    · exact decide_eq_decide.mpr ⟨fun z => z.2.2, fun z => ⟨hp, by rw [ht.ab]; exact w2, z⟩⟩
    · rw [tup_ok (by simp)]
      simp only [ow_some]
      exact ⟨rfl, .refl⟩
  · rintro ⟨bs, S6⟩ ⟨rfl, g6⟩
    dsimp only at g6 ⊢
    refine ⟨Gr.trans .app (g6.trans .app), S6.length, rfl, by have := g6.len; simp at this; omega, ?_⟩
    rw [get_snoc]
    congr 2
    unfold accL
    rw [List.filter_map, List.map_map, ht.ab]
    rfl
theorem law_ok (k : Nat) {ns : List Int} (hns : ns.length ≤ 63) : Ow (calls (k + 30) 22 [.scr ns] []) fun x => x.1 = .bl true := by
  classical
  obtain ⟨c2, e⟩ := c22 (k + 29)
  rw [e, ow_runB]
  clear e
  unfold bd22
  rw [ow_seq]
  simp [-ow_seq]
  rw [e_start (k + 26)]
  refine (startQ_ok hns).imp ?_
  rintro ⟨d, S⟩ ⟨rfl, h0⟩
  dsimp only at h0 ⊢
  rw [ow_seq]
  simp [-ow_seq]
  rw [e_draw (k + 26)]
  refine (drawOkW _ _ 2 h0 (by decide) (by decide)).imp ?_
  rintro ⟨d, S1⟩ ⟨i, rfl, i0, i1, h1⟩
  simp [-ow_seq]
  rw [show calls (k + 29) 20 = runB 9 (machB DR PK (runB 3 onceB)) from e_mach (k + 20)]
  refine (mach_ok drawOkW rfl rfl h1 (decide (i = 0))).imp ?_
  rintro ⟨d, S2⟩ hM
  dsimp only at hM
  simp [-ow_seq, tup_ok]
  refine (ltab_ok (k + 17) hM (fun s hs => ?_) (fun x hx => ?_)).imp ?_
  · split at hs
    · exact ab_th hs
    · simp only [ABN, List.mem_cons, List.not_mem_nil, or_false] at hs
      rcases hs with rfl | rfl | rfl | rfl | rfl
      · exact ab_th (by simp)
      · exact ab_th (by simp)
      · exact ab_th (by simp)
      · exact ab_th (by simp)
      · exact .non
  · split at hx
    · simp only [MN, List.mem_cons, List.not_mem_nil, or_false] at hx
      rcases hx with rfl | rfl <;> simp [NN]
    · exact hx
  rintro ⟨d, Sx⟩ ⟨t, rfl, ht, T3, g3, h3⟩
  dsimp only at g3 h3 ⊢
  rw [ow_seq]
  simp [-ow_seq]
  refine (drawOkW _ _ 6 h3 (by decide) (by decide)).imp ?_
  rintro ⟨d, S4⟩ ⟨n', rfl, n0, n1, h4⟩
  obtain ⟨n, rfl⟩ : ∃ n : Nat, n' = n := ⟨n'.toNat, by omega⟩
  have hn : n ≤ 5 := by omega
  dsimp only at h4 ⊢
  rw [ow_seq]
  simp [-ow_seq, ow_lc]
  rw [e_stacks (k + 26)]
  refine (stacksQ_ok (n := 5) (by decide)).imp ?_
  rintro ⟨d, S5⟩ ⟨g5, l, rfl, ll, hl⟩
  dsimp only at g5 hl ⊢
  obtain ⟨T5, gT5, h5⟩ := h4.gr g5
  rw [seq_loc hl]
  simp only [Option.isSome_some, true_and]
  refine (lcG (d := .loc l) (its := (stk 5).map .tup) (vs := [14]) (t := .nm 14) (seq_loc hl) (by have := stk_len 5; simp; omega) (fun x => decide ((unT x).length = n)) id fun x hx => ⟨_, by rfl, fun S6 g6 => ?_⟩).imp ?_
  · obtain ⟨w, hw, rfl⟩ := List.mem_map.mp hx
    have el : lenQ [.tup w] S6 = some (iD w.length, S6) := by simp [lenQ, dctD, lenP, seqD, iD]
    simp [wipeD, el]
    rw [show D.int (n : Nat) = iD n from rfl, eq_th (n := 0) (m := 0) iD_th iD_th (by decide) (by decide)]
    simp [unT, iD_inj, Gr.refl]
    exact decide_eq_decide.mpr Iff.rfl
  · rintro ⟨bs, S6⟩ ⟨rfl, g6⟩
    dsimp only at g6 ⊢
    have ebs : (((stk 5).map D.tup).filter fun x => decide ((unT x).length = n)).map id = (lvl n).map .tup := by
      rw [List.map_id, List.filter_map, ← stk_filter hn]
      rfl
    rw [ebs]
    obtain ⟨T6, gT6, h6⟩ := h5.gr g6
    rw [ow_seq]
    simp [-ow_seq, lst_ok]
    rw [ow_seq, ow_for]
    simp [-ow_seq, lst_ok]
    have e6 : S6.length = T6.length + 2 := h6.len
    have h7 := h6.app [.lst ((lvl n).map .tup), .lst [], .lst [.int 0, .int 1, .int 2]]
    refine ⟨by rw [seq_loc (ds := S3) (by rw [List.getElem?_append_right (by omega), show S6.length + 2 - S6.length = 2 by omega]; rfl)]; rfl, ?_⟩
    refine (forL_inv S3 (fun j env S7 => (∃ o6, env = [some (.scr ns), some (.loc 1), some t.enc, some (.int n), some (.loc S6.length), some (.loc (S6.length + 1)), o6, none, none, none, none, none, none, none, none, none, none, none]) ∧ ∃ T', DSt T' S7 ∧ T'[T6.length]? = some (.lst ((lvl n).map .tup)) ∧ T'[T6.length + 1]? = some (.lst ((S3.take j).flatMap fun p => (accL t n (t.sv p)).map (cfD p))) ∧ T'[T6.length + 2]? = some (.lst S3))
      (fun x => x.1 = .nx ∧ LV t n T6.length (T6.length + 1) x.2.1 ∧ ∃ T', DSt T' x.2.2 ∧ T'[T6.length]? = some (.lst ((lvl n).map .tup)) ∧ T'[T6.length + 1]? = some (.lst (dueL t n))) (fun j env S7 ⟨_, T', h8, _, _, q3⟩ => ?_) (fun env S7 ⟨⟨o6, e⟩, T', h8, q1, q2, q3⟩ => ?_) (fun j p env S7 hj ⟨⟨o6, e⟩, T', h8, q1, q2, q3⟩ => ?_) 3 0 _ _ (by simp) (by omega) ⟨⟨none, rfl⟩, _, h7, by simp, by rw [List.getElem?_append_right (by omega), show T6.length + 1 - T6.length = 1 by omega]; rfl, by rw [List.getElem?_append_right (by omega), show T6.length + 2 - T6.length = 2 by omega]; rfl⟩).imp ?_
    · have := h8.get q3
      rw [show T6.length + 2 + 2 = S6.length + 2 by omega] at this
      simp only [itAt, seq_loc this]
    · subst e
      refine ⟨rfl, ⟨rfl, rfl, rfl, rfl, by rw [e6]; rfl, by rw [e6]; rfl⟩, T', h8, q1, ?_⟩
      rw [q2]
      unfold dueL
      rw [ht.s3]
      rfl
    · subst e
      have hps : p ∈ t.sts := by rw [ht.s3]; exact List.mem_of_getElem? hj
      have w1 := h8.get q1
      have w2 := h8.get q2
      rw [show T6.length + 2 = S6.length by omega] at w1
      rw [show T6.length + 1 + 2 = S6.length + 1 by omega] at w2
      simp only [ow_gVar, ow_expr, ow_mM, ow_cons, ow_nil]
      simp only [ow_var]
      refine ⟨_, rfl, ty_lst w2, ?_⟩
      refine (duesP_ok k ht hn hps (a2 := S6.length) rfl rfl rfl rfl w1).imp ?_
      rintro ⟨d, S8⟩ ⟨g8, l', rfl, ll', hl'⟩
      dsimp only at g8 hl' ⊢
      obtain ⟨T8, gT8, h9⟩ := h8.gr g8
      have lacc : ∀ q, ((accL t n (t.sv q)).map (cfD q)).length ≤ 32 := fun q => by
        rw [List.length_map]
        unfold accL
        refine Nat.le_trans (List.length_filter_le _ _) ?_
        rw [ht.ab, wds_len]
        exact Nat.pow_le_pow_right (by decide) hn
      have lfl : ((S3.take j).flatMap fun p => (accL t n (t.sv p)).map (cfD p)).length ≤ 1000 := by
        rw [List.length_flatMap]
        have : ∀ (l : List D), ((l.map fun a => ((accL t n (t.sv a)).map (cfD a)).length).sum) ≤ l.length * 32 := fun l => by
          induction l with
          | nil => simp
          | cons x l ih => have := lacc x; simp only [List.map_cons, List.sum_cons, List.length_cons]; omega
        have := this (S3.take j)
        have l3 : (S3.take j).length ≤ 3 := by simp; omega
        omega
      rw [show ∀ (a b : Nat) (S : Sto), extQ (.loc a) [.loc b] S = extP (.loc a) [.loc b] S from fun _ _ _ => rfl, ext_lst (g8.get w2) hl' (by have := lacc p; omega)]
      simp only [ow_some]
      have h10 := h9.set (T6.length + 1) (.lst (((S3.take j).flatMap fun p => (accL t n (t.sv p)).map (cfD p)) ++ (accL t n (t.sv p)).map (cfD p)))
      rw [show T6.length + 1 + 2 = S6.length + 1 by omega] at h10
      refine ⟨⟨_, rfl⟩, _, h10, ?_, ?_, ?_⟩
      · rw [get_set_ne (by omega)]; exact gT8.get q1
      · rw [get_set (gT8.get q2), List.take_add_one, hj]
        simp
      · rw [get_set_ne (by omega)]; exact gT8.get q3
    · rintro ⟨fl, env, S7⟩ ⟨rfl, lv, T7, h8, q1, q2⟩
      dsimp only at lv h8 ⊢
      rw [ow_seq]
      simp only [ow_sIf, ow_V, ow_m2, ow_mL, ow_cons, ow_var, lv.e2, lv.e3, lv.e5, Option.some.injEq, ow_nil]
      refine ⟨_, rfl, _, rfl, ?_⟩
      refine (count_ok theCtPF (k + 27) ht.toOk (n := n) (by omega)).imp ?_
      rintro ⟨r, S8⟩ ⟨rfl, g8⟩
      dsimp only at g8 ⊢
      obtain ⟨T8, gT8, h9⟩ := h8.gr g8
      refine ⟨_, rfl, ?_⟩
      rw [len_lst (h9.get (gT8.get q2)), due_len ht.toOk]
      simp only [ow_some]
      rw [show D.int ((t.C n : Nat) : Int) = iD (t.C n) from rfl, ne_th (n := 0) (m := 0) iD_th iD_th (by decide) (by decide)]
      simp only [ow_some, asB_bl, decide_true, Bool.not_true, if_false, ow_next]
      rw [ow_seq, ow_for]
      simp only [ow_iRng1, ow_C, asI_int, ow_some]
      refine ⟨by decide, ?_⟩
      refine (forR_inv (n := 6) (fun j env S => LV t n T6.length (T6.length + 1) env ∧ ∃ T', Gr T8 T' ∧ DSt T' S) (fun x => x.1 = .nx ∧ LV t n T6.length (T6.length + 1) x.2.1 ∧ ∃ T', Gr T8 T' ∧ DSt T' x.2.2) (fun env S h => ⟨rfl, h⟩) (fun j env S hj ⟨l1, T', g1, h10⟩ => ?_) ⟨lv, T8, .refl, h9⟩).imp ?_
      · simp only [ow_gVar]
        have l2 := l1.set (i := 7) (d := some (.int (0 + (j : Nat)))) (by decide)
        refine (show Ow (loopS (calls (k + 29)) _ _) _ from (loopS_ok (k + 9) ht hn l2 g1 h10 (gT8.get q1) (gT8.get q2)).imp ?_)
        rintro ⟨fl, env2, S9⟩ ⟨rfl, l3, T9, g9, h11⟩
        exact ⟨l3, T9, g9, h11⟩
      · rintro ⟨fl, env2, S9⟩ ⟨rfl, l3, T9, g9, h11⟩
        dsimp only at l3 h11 ⊢
        rw [ow_seq]
        simp only [ow_sIf, ow_Or, ow_V, ow_mNotN, ow_mL, ow_cons, ow_var, l3.e2, Option.some.injEq, ow_C, ow_nil]
        refine ⟨_, rfl, ?_⟩
        rw [tup_ok (by simp)]
        simp only [ow_some]
        rw [tup_ok (by simp)]
        simp only [ow_some]
        refine (place_ok theCtPF (k + 27) ht.toOk (p := .int 0) (w := [.str "c"]) .int (fun s hs => by rw [List.mem_singleton.mp hs]; exact .str (by decide +kernel)) (by decide)).imp ?_
        rintro ⟨r, S10⟩ ⟨r1, r2, g10⟩
        dsimp only at r2 g10 ⊢
        rw [r2 (fun z => by
          have := z.2.1 (.str "c") (by simp)
          rw [ht.ab] at this
          simp only [AB, List.mem_cons, List.not_mem_nil, or_false] at this
          rcases this with h | h <;> exact absurd h (by simp; decide))]
        simp only [D.isNon, Bool.not_true, asB_bl, ow_some, if_false]
        refine ⟨_, rfl, ?_⟩
        rw [tup_ok (by simp)]
        simp only [ow_some]
        rw [tup_ok (by simp)]
        simp only [ow_some]
        refine (place_ok theCtPF (k + 27) ht.toOk (p := .str "m") (w := []) (.str (by decide +kernel)) (by simp) (by decide)).imp ?_
        rintro ⟨r, S11⟩ ⟨r3, r4, g11⟩
        dsimp only at r4 g11 ⊢
        rw [r4 (fun z => by
          have := z.1
          rw [ht.s3] at this
          simp [S3] at this)]
        simp only [D.isNon, Bool.not_true, asB_bl, ow_some, if_false, ow_next]
        obtain ⟨T11, gT11, h12⟩ := h11.gr (g10.trans g11)
        rw [ow_seq]
        simp only [ow_asg, ow_m2, ow_mL, ow_cons, ow_var, l3.e1, Option.some.injEq, ow_C, ow_nil]
        refine ⟨_, rfl, ?_⟩
        refine (drawOkW _ _ 41 h12 (by decide) (by decide)).imp ?_
        rintro ⟨d, S12⟩ ⟨u, rfl, u0, u1, h13⟩
        dsimp only at h13 ⊢
        obtain ⟨m, rfl⟩ : ∃ m : Nat, u = m := ⟨u.toNat, by omega⟩
        rw [show addP (.int 20) (.int (m : Nat)) S12 = some (iD (20 + m), S12) by
          show some (D.int (20 + (m : Nat)), S12) = _
          unfold iD
          congr 3]
        simp only [ow_some, ow_gVar]
        have n3 : ∀ j, j ≠ 3 → (env2.set 3 (some (iD (20 + m))))[j]? = env2[j]? := fun j hj => List.getElem?_set_ne (Ne.symm hj)
        refine (show Ow (tailD (calls (k + 29)) _ _) _ from (tailD_ok (k + 9) ht (N := 20 + m) (by omega) ⟨by rw [List.length_set]; exact l3.len, (n3 1 (by decide)).trans l3.e1, (n3 2 (by decide)).trans l3.e2, set_self (by rw [l3.len]; decide)⟩ h13).imp ?_)
        rintro ⟨fl, env3, S13⟩ rfl
        rfl
theorem pure_law (ns : List Int) (h : ns.length ≤ 63) : ∃ S', calls 100 22 [.scr ns] [] = some (.bl true, S') := by
  obtain ⟨⟨d, S⟩, e, q⟩ := law_ok 70 h
  dsimp only at q
  subst q
  exact ⟨S, e⟩
end k24
end DL
open PySem PySem.W PyProof.Rows in
set_option maxRecDepth 100000 in
set_option maxHeartbeats 0 in
theorem PySem.Challenge.cw_calltowers_k24_places_of_configurations_holds : PySem.Challenge.rw_calltowers_k24_places_of_configurations.Holds := by
  w_on; o_law; k_head; (case hw => w_witness2)
  k_fill
  refine' DL.k24.walk (l := PySem.Challenge.rw_calltowers_k24_places_of_configurations) rfl rfl DL.k24.pure_law (fun w h Y => PySem.W.km_in_of Y) ?F  ?tabs ?notK ?code
  case F =>
    intro w mg fa h KX G hmg
    refine' DL.k24.all_mk KX G hmg ?aC0 ?pg0 ?hd0 ?po0 ?sa0 ?mk0 ?kc0 ?aC1 ?pg1 ?hd1 ?po1 ?sa1 ?mk1 ?kc1 ?a0 ?l0 ?c0 ?k0 ?a1 ?l1 ?c1 ?k1 ?a2 ?l2 ?c2 ?k2 ?a3 ?l3 ?c3 ?k3 ?a4 ?l4 ?c4 ?k4 ?a5 ?l5 ?c5 ?k5 ?a6 ?i6 ?l6 ?c6 ?k6 ?a7 ?i7 ?l7 ?c7 ?k7 ?a8 ?i8 ?l8 ?c8 ?k8 ?a9 ?i9 ?l9 ?c9 ?k9 ?a10 ?i10 ?l10 ?c10 ?k10 ?a11 ?i11 ?l11 ?c11 ?k11 ?a12 ?l12 ?c12 ?k12 ?a13 ?l13 ?c13 ?k13 ?a14 ?l14 ?c14 ?lc14 ?lp14 ?k14 ?a15 ?l15 ?c15 ?k15 ?a16 ?l16 ?c16 ?k16 ?a17 ?l17 ?c17 ?k17 ?a18 ?l18 ?c18 ?k18 ?a19 ?l19 ?c19 ?k19 ?a20 ?l20 ?c20 ?k20 ?a21 ?l21 ?c21 ?k21 ?a22 ?l22 ?c22 ?k22 ?z0 ?z1 ?z2 ?z3 ?z4 ?z5 ?z6 ?z7 ?z8 ?z9 ?z10 ?z11 ?z12 ?z13 ?n0 ?n1 ?n2 ?n3
    (case aC0 => k_is)
    (case pg0 => k_is)
    (case hd0 => k_is)
    (case po0 => k_is)
    (case sa0 => k_is)
    (case mk0 => k_is)
    (case kc0 => k_is)
    (case aC1 => k_is)
    (case pg1 => k_is)
    (case hd1 => k_is)
    (case po1 => k_is)
    (case sa1 => k_is)
    (case mk1 => k_is)
    (case kc1 => k_is)
    (case a0 => k_is)
    (case l0 => k_is)
    (case c0 => k_is)
    (case k0 => k_is)
    (case a1 => k_is)
    (case l1 => k_is)
    (case c1 => k_is)
    (case k1 => k_is)
    (case a2 => k_is)
    (case l2 => k_is)
    (case c2 => k_is)
    (case k2 => k_is)
    (case a3 => k_is)
    (case l3 => k_is)
    (case c3 => k_is)
    (case k3 => k_is)
    (case a4 => k_is)
    (case l4 => k_is)
    (case c4 => k_is)
    (case k4 => k_is)
    (case a5 => k_is)
    (case l5 => k_is)
    (case c5 => k_is)
    (case k5 => k_is)
    (case a6 => k_is)
    (case i6 => k_is)
    (case l6 => k_is)
    (case c6 => k_is)
    (case k6 => k_is)
    (case a7 => k_is)
    (case i7 => k_is)
    (case l7 => k_is)
    (case c7 => k_is)
    (case k7 => k_is)
    (case a8 => k_is)
    (case i8 => k_is)
    (case l8 => k_is)
    (case c8 => k_is)
    (case k8 => k_is)
    (case a9 => k_is)
    (case i9 => k_is)
    (case l9 => k_is)
    (case c9 => k_is)
    (case k9 => k_is)
    (case a10 => k_is)
    (case i10 => k_is)
    (case l10 => k_is)
    (case c10 => k_is)
    (case k10 => k_is)
    (case a11 => k_is)
    (case i11 => k_is)
    (case l11 => k_is)
    (case c11 => k_is)
    (case k11 => k_is)
    (case a12 => k_is)
    (case l12 => k_is)
    (case c12 => k_is)
    (case k12 => k_is)
    (case a13 => k_is)
    (case l13 => k_is)
    (case c13 => k_is)
    (case k13 => k_is)
    (case a14 => k_is)
    (case l14 => k_is)
    (case c14 => k_is)
    (case lc14 => k_is)
    (case lp14 => exact rfl)
    (case k14 => k_is)
    (case a15 => k_is)
    (case l15 => k_is)
    (case c15 => k_is)
    (case k15 => k_is)
    (case a16 => k_is)
    (case l16 => k_is)
    (case c16 => k_is)
    (case k16 => k_is)
    (case a17 => k_is)
    (case l17 => k_is)
    (case c17 => k_is)
    (case k17 => k_is)
    (case a18 => k_is)
    (case l18 => k_is)
    (case c18 => k_is)
    (case k18 => k_is)
    (case a19 => k_is)
    (case l19 => k_is)
    (case c19 => k_is)
    (case k19 => k_is)
    (case a20 => k_is)
    (case l20 => k_is)
    (case c20 => k_is)
    (case k20 => k_is)
    (case a21 => k_is)
    (case l21 => k_is)
    (case c21 => k_is)
    (case k21 => k_is)
    (case a22 => k_is)
    (case l22 => k_is)
    (case c22 => k_is)
    (case k22 => k_is)
    (case z0 => k_is)
    (case z1 => k_is)
    (case z2 => k_is)
    (case z3 => k_is)
    (case z4 => k_is)
    (case z5 => k_is)
    (case z6 => k_is)
    (case z7 => k_is)
    (case z8 => k_is)
    (case z9 => k_is)
    (case z10 => k_is)
    (case z11 => k_is)
    (case z12 => k_is)
    (case z13 => k_is)
    (case n0 => k_is)
    (case n1 => k_is)
    (case n2 => k_is)
    (case n3 => k_is)
  case tabs =>
    intro w h Y p hp
    refine PySem.W.km_tabs_of Y p.2 ?_
    simp only [List.mem_cons, List.not_mem_nil, or_false] at hp
    rcases hp with rfl <;> decide
  case notK =>
    intro w p hp
    simp only [List.mem_cons, List.not_mem_nil, or_false] at hp
    rcases hp with rfl <;> kernel_rfl
  case code =>
    intro w p hp
    simp only [List.mem_cons, List.not_mem_nil, or_false] at hp
    rcases hp with rfl <;> kernel_rfl
