import PyProof.Rows.All
import Wide.All
import OpenK.AllK
import Wide.FinOn
import HandS.ForMost
import HandS.Deep
import HandS.IsInst
import HandS.TupAny
import KE.KeyNested
import KE.LtSeq
import PyProof.DictDisplay
import HandS.Star
import KE.SortCalls
import KE.SortKeyHeap
import HandS.SortKw
import HandS.Keys
import PyProof.TupleOfSeq
import PyProof.SeqIndex
import HandS.DictComp
import KE.KDictCopyH
import HandS.Style
import HandS.TupMul
import HandS.Iter
import HandS.RevRange
import HandS.Conv
import HandS.More
import PyProof.MeetsDict
import PySem.Challenge.RW_calltowers_k12_truth_on_round_runs
set_option Elab.async false
set_option linter.all false
set_option maxRecDepth 100000
set_option maxHeartbeats 800000
/-! DLa: data as trees, a store of mutable objects, and how the abstract heap bears them. -/
namespace DL
open PySem PySem.Spec L2

/-- a value: data as a tree; a list, a dict, an instance by its number in the store -/
inductive D where
  | non
  | bl (b : Bool)
  | int (i : Int)
  | str (x : Str)
  | tup (ds : List D)
  | loc (n : Nat)
  /-- the script -/
  | scr (ns : List Int)

/-- what stands in the store -/
inductive Ob where
  | lst (xs : List D)
  | dct (kvs : List (D × D))
  | ins (c : Nat) (fs : List (Str × D))

abbrev Sto := List Ob
abbrev Vars := List (Option D)

/-! ### keys -/
mutual
def D.key : D → NestedKey
  | .non => .none
  | .bl b => .num (if b = true then 1 else 0)
  | .int i => .num i
  | .str x => .text x
  | .tup ds => .tup (D.keys ds)
  | .loc _ => .none
  | .scr _ => .none
def D.keys : List D → List NestedKey
  | [] => []
  | d :: ds => D.key d :: D.keys ds
end
mutual
/-- no list, dict or instance in it -/
def D.pure : D → Bool
  | .loc _ => false
  | .scr _ => false
  | .tup ds => D.pures ds
  | .non => true
  | .bl _ => true
  | .int _ => true
  | .str _ => true
def D.pures : List D → Bool
  | [] => true
  | d :: ds => D.pure d && D.pures ds
end
mutual
def D.depth : D → Nat
  | .tup ds => D.depths ds + 1
  | .non => 0
  | .bl _ => 0
  | .int _ => 0
  | .str _ => 0
  | .loc _ => 0
  | .scr _ => 0
def D.depths : List D → Nat
  | [] => 0
  | d :: ds => max (D.depth d) (D.depths ds)
end

/-! ### what the module is -/
structure Ctx where
  K : PySem.W.Frag
  w : World
  /-- the classes' addresses -/
  ca : Nat → Addr

/-- the script: a frozen list, or the module's own -/
def ScL (K : PySem.W.Frag) (H : Hp) (a : Addr) (vs : List V) : Prop := (∃ o, H a = some (.frz o (.lst vs))) ∨ ∃ (o : Obj) (its : Array Value) (n : Nat), K.lookup a = some o ∧ o.cls = .type "list" ∧ o.dict = none ∧ o.data = .seq its n ∧ its.size ≤ sizeLine ∧ Vals vs its.toList
theorem ScL.sq {K : PySem.W.Frag} {H : Hp} {a : Addr} {vs : List V} (h : ScL K H a vs) : SqL K H a vs := h.elim (fun ⟨o, q⟩ => .inl (.inr ⟨o, q⟩)) .inr

/-! ### a tree at a value -/
mutual
def DV (K : PySem.W.Frag) (r : List Addr) (H : Hp) : D → V → Prop
  | .non, v => v = .non
  | .bl b, v => v = .bl b
  | .int i, v => v = .int i
  | .str x, v => v = .str x
  | .tup ds, v => ∃ a vs, v = .ref a ∧ SqT K H a vs ∧ DVs K r H ds vs
  | .loc n, v => ∃ a, r[n]? = some a ∧ v = .ref a
  | .scr ns, v => ∃ a, v = .ref a ∧ ScL K H a (ns.map V.int)
def DVs (K : PySem.W.Frag) (r : List Addr) (H : Hp) : List D → List V → Prop
  | [], vs => vs = []
  | d :: ds, vs => ∃ v us, vs = v :: us ∧ DV K r H d v ∧ DVs K r H ds us
end

/-- later: more addresses, the tuples as they were -/
structure Ext (K : PySem.W.Frag) (r : List Addr) (H : Hp) (r' : List Addr) (H' : Hp) : Prop where
  pre : r <+: r'
  tups : ∀ a vs, SqT K H a vs → SqT K H' a vs
  scrs : ∀ a vs, ScL K H a vs → ScL K H' a vs
  frame : ∀ a u, H a = some u → a ∉ r → H' a = some u ∧ a ∉ r'
theorem Ext.refl {K r H} : Ext K r H r H := ⟨List.prefix_refl _, fun _ _ h => h, fun _ _ h => h, fun _ _ h n => ⟨h, n⟩⟩
theorem Ext.trans {K r H r1 H1 r2 H2} (a : Ext K r H r1 H1) (b : Ext K r1 H1 r2 H2) : Ext K r H r2 H2 :=
  ⟨a.pre.trans b.pre, fun x vs h => b.tups x vs (a.tups x vs h), fun x vs h => b.scrs x vs (a.scrs x vs h), fun x u h n => let ⟨h1, n1⟩ := a.frame x u h n; b.frame x u h1 n1⟩
theorem pre_get {α : Type} {l l' : List α} (h : l <+: l') {n : Nat} {a : α} (e : l[n]? = some a) : l'[n]? = some a := by
  obtain ⟨t, rfl⟩ := h
  rw [List.getElem?_append_left (List.getElem?_eq_some_iff.mp e).1]
  exact e
/-- .. without the frame -/
structure ExtW (K : PySem.W.Frag) (r : List Addr) (H : Hp) (r' : List Addr) (H' : Hp) : Prop where
  pre : r <+: r'
  tups : ∀ a vs, SqT K H a vs → SqT K H' a vs
  scrs : ∀ a vs, ScL K H a vs → ScL K H' a vs
theorem Ext.w {K r H r' H'} (x : Ext K r H r' H') : ExtW K r H r' H' := ⟨x.pre, x.tups, x.scrs⟩
mutual
theorem DV.extW {K r H r' H'} (x : ExtW K r H r' H') : ∀ (d : D) (v : V), DV K r H d v → DV K r' H' d v
  | .non, _, h => h
  | .bl _, _, h => h
  | .int _, _, h => h
  | .str _, _, h => h
  | .tup ds, _, h => by
    obtain ⟨a, vs, e, h1, h2⟩ := h
    exact ⟨a, vs, e, x.tups _ _ h1, DVs.extW x ds vs h2⟩
  | .loc n, _, h => by
    obtain ⟨a, e, h1⟩ := h
    exact ⟨a, pre_get x.pre e, h1⟩
  | .scr ns, _, h => by
    obtain ⟨a, e, h1⟩ := h
    exact ⟨a, e, x.scrs _ _ h1⟩
theorem DVs.extW {K r H r' H'} (x : ExtW K r H r' H') : ∀ (ds : List D) (vs : List V), DVs K r H ds vs → DVs K r' H' ds vs
  | [], _, h => h
  | d :: ds, _, h => by
    obtain ⟨v, us, e, h1, h2⟩ := h
    exact ⟨v, us, e, DV.extW x d v h1, DVs.extW x ds us h2⟩
end
theorem DV.ext {K r H r' H'} (x : Ext K r H r' H') (d : D) (v : V) (h : DV K r H d v) : DV K r' H' d v := DV.extW x.w d v h
theorem DVs.ext {K r H r' H'} (x : Ext K r H r' H') (ds : List D) (vs : List V) (h : DVs K r H ds vs) : DVs K r' H' ds vs := DVs.extW x.w ds vs h
section
variable {K : PySem.W.Frag} {r : List Addr} {H : Hp}
theorem DVs.nil : DVs K r H [] [] := by unfold DVs; rfl
theorem DVs.cons {d : D} {v : V} {ds : List D} {vs : List V} (h : DV K r H d v) (t : DVs K r H ds vs) : DVs K r H (d :: ds) (v :: vs) := by unfold DVs; exact ⟨v, vs, rfl, h, t⟩
theorem DVs.length : ∀ {ds : List D} {vs : List V}, DVs K r H ds vs → vs.length = ds.length
  | [], _, h => by unfold DVs at h; rw [h]; rfl
  | _ :: ds, _, h => by
    unfold DVs at h
    obtain ⟨v, us, rfl, _, t⟩ := h
    simp [DVs.length t]
theorem DVs.get : ∀ {ds : List D} {vs : List V} {i : Nat} {d : D}, DVs K r H ds vs → ds[i]? = some d → ∃ v, vs[i]? = some v ∧ DV K r H d v
  | [], _, _, _, _, e => by simp at e
  | x :: ds, _, i, d, h, e => by
    unfold DVs at h
    obtain ⟨v, us, rfl, h1, t⟩ := h
    cases i with
    | zero => simp at e; subst e; exact ⟨v, rfl, h1⟩
    | succ i => simpa using DVs.get (i := i) t (by simpa using e)
theorem DVs.getV : ∀ {ds : List D} {vs : List V} {i : Nat} {v : V}, DVs K r H ds vs → vs[i]? = some v → ∃ d, ds[i]? = some d ∧ DV K r H d v
  | [], _, _, _, h, e => by unfold DVs at h; subst h; simp at e
  | x :: ds, _, i, v, h, e => by
    unfold DVs at h
    obtain ⟨w, us, rfl, h1, t⟩ := h
    cases i with
    | zero => simp at e; subst e; exact ⟨x, rfl, h1⟩
    | succ i => simpa using DVs.getV (i := i) t (by simpa using e)
theorem DVs.append : ∀ {ds es : List D} {vs us : List V}, DVs K r H ds vs → DVs K r H es us → DVs K r H (ds ++ es) (vs ++ us)
  | [], _, _, _, h, t => by unfold DVs at h; subst h; exact t
  | d :: ds, _, _, _, h, t => by
    unfold DVs at h
    obtain ⟨v, us, rfl, h1, h2⟩ := h
    exact DVs.cons h1 (DVs.append h2 t)
theorem DVs.take : ∀ {ds : List D} {vs : List V} (n : Nat), DVs K r H ds vs → DVs K r H (ds.take n) (vs.take n)
  | ds, vs, 0, _ => DVs.nil
  | [], _, n + 1, h => by unfold DVs at h; subst h; exact DVs.nil
  | d :: ds, _, n + 1, h => by
    unfold DVs at h
    obtain ⟨v, us, rfl, h1, h2⟩ := h
    exact DVs.cons h1 (DVs.take n h2)
theorem DVs.drop : ∀ {ds : List D} {vs : List V} (n : Nat), DVs K r H ds vs → DVs K r H (ds.drop n) (vs.drop n)
  | _, _, 0, h => h
  | [], _, n + 1, h => by unfold DVs at h; subst h; exact DVs.nil
  | d :: ds, _, n + 1, h => by
    unfold DVs at h
    obtain ⟨v, us, rfl, h1, h2⟩ := h
    exact DVs.drop n h2
theorem DVs.set : ∀ {ds : List D} {vs : List V} {d : D} {v : V} (i : Nat), DVs K r H ds vs → DV K r H d v → DVs K r H (ds.set i d) (vs.set i v)
  | [], _, _, _, _, h, _ => by unfold DVs at h; subst h; exact DVs.nil
  | x :: ds, _, d, v, i, h, t => by
    unfold DVs at h
    obtain ⟨w, us, rfl, h1, h2⟩ := h
    cases i with
    | zero => exact DVs.cons t h2
    | succ i => exact DVs.cons h1 (DVs.set i h2 t)
theorem DVs.dropLast {ds : List D} {vs : List V} (h : DVs K r H ds vs) : DVs K r H ds.dropLast vs.dropLast := by
  rw [List.dropLast_eq_take, List.dropLast_eq_take, h.length]
  exact h.take _
theorem DVs.reverse : ∀ {ds : List D} {vs : List V}, DVs K r H ds vs → DVs K r H ds.reverse vs.reverse
  | [], _, h => by unfold DVs at h; subst h; exact DVs.nil
  | d :: ds, _, h => by
    unfold DVs at h
    obtain ⟨v, us, rfl, h1, h2⟩ := h
    rw [List.reverse_cons, List.reverse_cons]
    exact (DVs.reverse h2).append (DVs.cons h1 DVs.nil)
theorem DVs.ints : ∀ (ns : List Int), DVs K r H (ns.map D.int) (ns.map V.int)
  | [] => DVs.nil
  | n :: ns => DVs.cons (by unfold DV; rfl) (DVs.ints ns)
theorem DVs.one {d : D} {vs : List V} (h : DVs K r H [d] vs) : ∃ v, vs = [v] ∧ DV K r H d v := by
  unfold DVs at h
  obtain ⟨v, us, rfl, h1, h2⟩ := h
  unfold DVs at h2
  subst h2
  exact ⟨v, rfl, h1⟩
theorem DV.tup_mk {a : Addr} {ds : List D} {vs : List V} (h : SqT K H a vs) (t : DVs K r H ds vs) : DV K r H (.tup ds) (.ref a) := by unfold DV; exact ⟨a, vs, rfl, h, t⟩
end

/-! ### a dict as it lies: entries by key, the key's value, the value -/
abbrev Ent := NestedKey × V × V
def RawD (w : World) (a : Addr) (es : List Ent) (h : Heap) : Prop :=
  ∃ o ents ep, h.get? a = some o ∧ o.ExactDict ∧ o.data = .dict ents ep ∧ Paired (fun (e : Ent) (x : DictEntry) => x.hash = e.1.hash w ∧ RelV e.2.1 x.key ∧ RelV e.2.2 x.val) es ents.toList
theorem RawD.ok {w : World} {a : Addr} {es : List Ent} {P : Program} {H : Hp} {h : Heap} (x : RawD w a es h) : ObjOk P w H h a (.ext (RawD w a es)) := by
  refine ⟨x, ?_, fun h1 h2 y k => ?_⟩
  · obtain ⟨o, _, _, e, _⟩ := x
    exact ⟨o, e⟩
  · obtain ⟨o, ents, ep, e, q⟩ := y
    exact ⟨o, ents, ep, k o e, q⟩
def EntsV (K : PySem.W.Frag) (r : List Addr) (H : Hp) (kvs : List (D × D)) (es : List Ent) : Prop :=
  Paired (fun (p : D × D) (e : Ent) => p.1.pure = true ∧ p.1.depth ≤ 8 ∧ e.1 = p.1.key ∧ DV K r H p.1 e.2.1 ∧ DV K r H p.2 e.2.2) kvs es
def FldsV (K : PySem.W.Frag) (r : List Addr) (H : Hp) (fs : List (Str × D)) (vs : List (Str × V)) : Prop :=
  Paired (fun (p : Str × D) (q : Str × V) => p.1 = q.1 ∧ DV K r H p.2 q.2) fs vs

/-- an object of the store at an address -/
def OV (G : Ctx) (r : List Addr) (H : Hp) (a : Addr) : Ob → Prop
  | .lst ds => ∃ vs, H a = some (.lst vs) ∧ DVs G.K r H ds vs
  | .dct kvs => kvs.length ≤ sizeLine ∧ (a == sysModules) = false ∧ (kvs.map (·.1.key)).Nodup ∧ ∃ es, H a = some (.ext (RawD G.w a es)) ∧ EntsV G.K r H kvs es
  | .ins c fs => ∃ dx vs, H a = some (.ins (G.ca c) dx vs) ∧ FldsV G.K r H fs vs
theorem EntsV.ext {K r H r' H'} (x : ExtW K r H r' H') {kvs : List (D × D)} {es : List Ent} (h : EntsV K r H kvs es) : EntsV K r' H' kvs es :=
  Paired.mapP h fun p e ⟨q0, q1, q2, q3, q4⟩ => ⟨q0, q1, q2, DV.extW x _ _ q3, DV.extW x _ _ q4⟩
theorem FldsV.ext {K r H r' H'} (x : ExtW K r H r' H') {fs : List (Str × D)} {vs : List (Str × V)} (h : FldsV K r H fs vs) : FldsV K r' H' fs vs :=
  Paired.mapP h fun p e ⟨q0, q1⟩ => ⟨q0, DV.extW x _ _ q1⟩
theorem OV.ext {G : Ctx} {r r' : List Addr} {H H' : Hp} (x : ExtW G.K r H r' H') {a : Addr} (k : H' a = H a) : ∀ {o : Ob}, OV G r H a o → OV G r' H' a o
  | .lst ds, h => by
    obtain ⟨vs, e, q⟩ := h
    exact ⟨vs, k.trans e, DVs.extW x _ _ q⟩
  | .dct kvs, h => by
    obtain ⟨z, n, nd, es, e, q⟩ := h
    exact ⟨z, n, nd, es, k.trans e, q.ext x⟩
  | .ins c fs, h => by
    obtain ⟨dx, vs, e, q⟩ := h
    exact ⟨dx, vs, k.trans e, q.ext x⟩
theorem OV.held {G : Ctx} {r : List Addr} {H : Hp} {a : Addr} : ∀ {o : Ob}, OV G r H a o → ∃ u, H a = some u ∧ (∀ xs, u ≠ .tup xs) ∧ ∀ ob z, u ≠ .frz ob z
  | .lst _, h => by obtain ⟨vs, e, _⟩ := h; exact ⟨_, e, (fun _ z => by cases z), (fun _ _ z => by cases z)⟩
  | .dct _, h => by obtain ⟨_, _, _, es, e, _⟩ := h; exact ⟨_, e, (fun _ z => by cases z), (fun _ _ z => by cases z)⟩
  | .ins _ _, h => by obtain ⟨dx, vs, e, _⟩ := h; exact ⟨_, e, (fun _ z => by cases z), (fun _ _ z => by cases z)⟩

/-- the store is borne -/
structure RepS (G : Ctx) (r : List Addr) (S : Sto) (H : Hp) : Prop where
  len : r.length = S.length
  nd : r.Nodup
  at_ : ∀ (n : Nat) (o : Ob) (a : Addr), S[n]? = some o → r[n]? = some a → OV G r H a o

section
variable {G : Ctx} {r : List Addr} {S : Sto} {H : Hp}
theorem RepS.get (R : RepS G r S H) {n : Nat} {o : Ob} (e : S[n]? = some o) : ∃ a, r[n]? = some a ∧ OV G r H a o := by
  have hn : n < r.length := by rw [R.len]; exact (List.getElem?_eq_some_iff.mp e).1
  exact ⟨r[n], List.getElem?_eq_getElem hn, R.at_ n o _ e (List.getElem?_eq_getElem hn)⟩
theorem RepS.free (R : RepS G r S H) {p : Addr} (hp : H p = none) : p ∉ r := fun hm => by
  obtain ⟨n, e⟩ := List.mem_iff_getElem?.mp hm
  have hn : n < S.length := by rw [← R.len]; exact (List.getElem?_eq_some_iff.mp e).1
  obtain ⟨u, e', _⟩ := (R.at_ n _ p (List.getElem?_eq_getElem hn) e).held
  rw [hp] at e'; cases e'
theorem sqT_upd {K : PySem.W.Frag} {p : Addr} {o : HO} (hp : H p = none) {a : Addr} {vs : List V} (h : SqT K H a vs) : SqT K (upd H p o) a vs := by
  rcases h with (h | ⟨u, h⟩) | h
  · exact .inl (.inl (by rw [upd_ne (ne_of_none h hp)]; exact h))
  · exact .inl (.inr ⟨u, by rw [upd_ne (ne_of_none h hp)]; exact h⟩)
  · exact .inr h
theorem sqT_wr {K : PySem.W.Frag} {p : Addr} {o u : HO} (hu : H p = some u) (h1 : ∀ xs, u ≠ .tup xs) (h2 : ∀ ob z, u ≠ .frz ob z) {a : Addr} {vs : List V} (h : SqT K H a vs) : SqT K (upd H p o) a vs := by
  rcases h with (h | ⟨ob, h⟩) | h
  · refine .inl (.inl ?_)
    rw [upd_ne]; exact h
    rintro rfl; rw [hu] at h; exact h1 _ (Option.some.inj h)
  · refine .inl (.inr ⟨ob, ?_⟩)
    rw [upd_ne]; exact h
    rintro rfl; rw [hu] at h; exact h2 _ _ (Option.some.inj h)
  · exact .inr h
theorem scL_upd {K : PySem.W.Frag} {p : Addr} {o : HO} (hp : H p = none) {a : Addr} {vs : List V} (h : ScL K H a vs) : ScL K (upd H p o) a vs := by
  rcases h with ⟨u, h⟩ | h
  · exact .inl ⟨u, by rw [upd_ne (ne_of_none h hp)]; exact h⟩
  · exact .inr h
theorem scL_wr {K : PySem.W.Frag} {p : Addr} {o u : HO} (hu : H p = some u) (h2 : ∀ ob z, u ≠ .frz ob z) {a : Addr} {vs : List V} (h : ScL K H a vs) : ScL K (upd H p o) a vs := by
  rcases h with ⟨ob, h⟩ | h
  · refine .inl ⟨ob, ?_⟩
    rw [upd_ne]; exact h
    rintro rfl; rw [hu] at h; exact h2 _ _ (Option.some.inj h)
  · exact .inr h
/-- a new object that the store does not name (a tuple, a list in the making) -/
theorem RepS.side (R : RepS G r S H) {p : Addr} {u : HO} (hp : H p = none) : Ext G.K r H r (upd H p u) ∧ RepS G r S (upd H p u) := by
  have x : Ext G.K r H r (upd H p u) := ⟨List.prefix_refl _, fun a us h => sqT_upd hp h, fun a us h => scL_upd hp h, fun a u h n => ⟨by rw [upd_ne (ne_of_none h hp)]; exact h, n⟩⟩
  refine ⟨x, R.len, R.nd, fun n o a e1 e2 => (R.at_ n o a e1 e2).ext x.w (upd_ne fun z => ?_)⟩
  exact R.free hp (z ▸ List.mem_of_getElem? e2)
theorem RepS.tup (R : RepS G r S H) {p : Addr} {vs : List V} (hp : H p = none) : Ext G.K r H r (upd H p (.tup vs)) ∧ RepS G r S (upd H p (.tup vs)) := R.side hp
/-- such a list is written -/
theorem RepS.sideW (R : RepS G r S H) {p : Addr} {vs us : List V} (hp : H p = some (.lst vs)) (hr : p ∉ r) : ExtW G.K r H r (upd H p (.lst us)) ∧ RepS G r S (upd H p (.lst us)) := by
  have x : ExtW G.K r H r (upd H p (.lst us)) := ⟨List.prefix_refl _, fun a ws h => sqT_wr hp (fun _ z => by cases z) (fun _ _ z => by cases z) h, fun a ws h => scL_wr hp (fun _ _ z => by cases z) h⟩
  exact ⟨x, R.len, R.nd, fun n o a e1 e2 => (R.at_ n o a e1 e2).ext x (upd_ne fun z => hr (z ▸ List.mem_of_getElem? e2))⟩
/-- such a list is named by the store -/
theorem RepS.reg (R : RepS G r S H) {p : Addr} {ds : List D} {vs : List V} (hp : H p = some (.lst vs)) (hr : p ∉ r) (q : DVs G.K r H ds vs) : ExtW G.K r H (r ++ [p]) H ∧ RepS G (r ++ [p]) (S ++ [.lst ds]) H := by
  have x : ExtW G.K r H (r ++ [p]) H := ⟨List.prefix_append _ _, fun a ws h => h, fun a ws h => h⟩
  refine ⟨x, by simp [R.len], ?_, fun n o' a e1 e2 => ?_⟩
  · rw [List.nodup_append]
    exact ⟨R.nd, by simp, fun y hy z hz => by simp at hz; subst hz; exact fun q => hr (q ▸ hy)⟩
  · by_cases hn : n < S.length
    · rw [List.getElem?_append_left hn] at e1
      rw [List.getElem?_append_left (by rw [R.len]; exact hn)] at e2
      exact (R.at_ n o' a e1 e2).ext x rfl
    · have hn' : n = S.length := by
        have := (List.getElem?_eq_some_iff.mp e1).1
        simp at this; omega
      subst hn'
      simp at e1
      rw [← R.len] at e2
      simp at e2
      subst e1 e2
      exact ⟨vs, hp, DVs.extW x _ _ q⟩
/-- a new object of the store; more may be tracked that the store does not name -/
theorem RepS.new (R : RepS G r S H) {p : Addr} {u : HO} {o : Ob} (hp : H p = none) (x : Ext G.K r H (r ++ [p]) (upd H p u) → OV G (r ++ [p]) (upd H p u) p o) :
    Ext G.K r H (r ++ [p]) (upd H p u) ∧ RepS G (r ++ [p]) (S ++ [o]) (upd H p u) := by
  have e : Ext G.K r H (r ++ [p]) (upd H p u) := ⟨List.prefix_append _ _, fun a us h => sqT_upd hp h, fun a us h => scL_upd hp h, fun a u h n => ⟨by rw [upd_ne (ne_of_none h hp)]; exact h, by simp [n, ne_of_none h hp]⟩⟩
  have hf := R.free hp
  refine ⟨e, by simp [R.len], ?_, fun n o' a e1 e2 => ?_⟩
  · rw [List.nodup_append]
    exact ⟨R.nd, by simp, fun y hy z hz => by simp at hz; subst hz; exact fun q => hf (q ▸ hy)⟩
  · by_cases hn : n < S.length
    · rw [List.getElem?_append_left hn] at e1
      rw [List.getElem?_append_left (by rw [R.len]; exact hn)] at e2
      exact (R.at_ n o' a e1 e2).ext e.w (upd_ne fun z => hf (z ▸ List.mem_of_getElem? e2))
    · have hn' : n = S.length := by
        have := (List.getElem?_eq_some_iff.mp e1).1
        simp at this; omega
      subst hn'
      simp at e1
      rw [← R.len] at e2
      simp at e2
      subst e1 e2
      exact x e
theorem RepS.lst (R : RepS G r S H) {p : Addr} {ds : List D} {vs : List V} (hp : H p = none) (h : DVs G.K r H ds vs) :
    Ext G.K r H (r ++ [p]) (upd H p (.lst vs)) ∧ RepS G (r ++ [p]) (S ++ [.lst ds]) (upd H p (.lst vs)) :=
  R.new hp fun x => ⟨vs, upd_same, DVs.ext x _ _ h⟩
theorem RepS.newLoc (R : RepS G r S H) {K : PySem.W.Frag} {p : Addr} {H' : Hp} : DV K (r ++ [p]) H' (.loc S.length) (.ref p) := by
  unfold DV
  exact ⟨p, by rw [← R.len]; simp, rfl⟩
/-- an object of the store is written -/
theorem RepS.wr (R : RepS G r S H) {n : Nat} {a : Addr} {o o' : Ob} {u : HO} (e : S[n]? = some o) (ea : r[n]? = some a) (x : Ext G.K r H r (upd H a u) → OV G r (upd H a u) a o') :
    Ext G.K r H r (upd H a u) ∧ RepS G r (S.set n o') (upd H a u) := by
  obtain ⟨u0, e0, h1, h2⟩ := (R.at_ n o a e ea).held
  have ex : Ext G.K r H r (upd H a u) := ⟨List.prefix_refl _, fun b us h => sqT_wr e0 h1 h2 h, fun b us h => scL_wr e0 h2 h, fun b v h n => ⟨by
    have hne : b ≠ a := by rintro rfl; exact n (List.mem_of_getElem? ea)
    rw [upd_ne hne]; exact h, n⟩⟩
  refine ⟨ex, by simp [R.len], R.nd, fun m o1 b e1 e2 => ?_⟩
  by_cases hm : n = m
  · subst hm
    rw [ea] at e2; cases e2
    have hlt := (List.getElem?_eq_some_iff.mp e).1
    rw [List.getElem?_set_self hlt] at e1
    cases e1
    exact x ex
  · rw [List.getElem?_set_ne hm] at e1
    refine (R.at_ m o1 b e1 e2).ext ex.w (upd_ne fun z => hm ?_)
    subst z
    obtain ⟨q1, r1⟩ := List.getElem?_eq_some_iff.mp ea
    obtain ⟨q2, r2⟩ := List.getElem?_eq_some_iff.mp e2
    exact (List.getElem_inj R.nd).mp (r1.trans r2.symm)
end

/-! ### names -/
structure VarsV (K : PySem.W.Frag) (r : List Addr) (H : Hp) (env : Vars) (σ : St) : Prop where
  len : env.length = σ.length
  at_ : ∀ (i : Nat) (d : D), env[i]? = some (some d) → ∃ v, σ[i]? = some (some v) ∧ DV K r H d v
theorem VarsV.ext {K r H r' H'} (x : Ext K r H r' H') {env : Vars} {σ : St} (h : VarsV K r H env σ) : VarsV K r' H' env σ :=
  ⟨h.len, fun i d e => let ⟨v, e1, q⟩ := h.at_ i d e; ⟨v, e1, DV.ext x _ _ q⟩⟩
theorem VarsV.set {K r H} {env : Vars} {σ : St} (h : VarsV K r H env σ) {d : D} {v : V} (i : Nat) (q : DV K r H d v) : VarsV K r H (env.set i (some d)) (σ.set i (some v)) := by
  refine ⟨by simp [h.len], fun j e hj => ?_⟩
  by_cases hij : i = j
  · subst hij
    have hlt : i < env.length := by
      have := (List.getElem?_eq_some_iff.mp hj).1
      simpa using this
    rw [List.getElem?_set_self hlt] at hj
    cases hj
    exact ⟨v, List.getElem?_set_self (by rw [← h.len]; exact hlt), q⟩
  · rw [List.getElem?_set_ne hij] at hj
    rw [List.getElem?_set_ne hij]
    exact h.at_ j e hj
end DL
/-! DLb: what a piece of code does to names and store (a function), and that the abstract readings follow from it. -/
namespace DL
open PySem PySem.Spec L2

abbrev EM := Vars → Sto → Option (D × Sto)
abbrev BM := Vars → Sto → Option (Bool × Sto)
abbrev LM := Vars → Sto → Option (List D × Sto)
inductive Fl where
  | nx
  | rt (d : D)
  | bk
  | ct
abbrev SM := Vars → Sto → Option (Fl × Vars × Sto)
abbrev GM := D → Vars → Sto → Option (Vars × Sto)
abbrev GMs := List D → Vars → Sto → Option (Vars × Sto)

section
variable (G : Ctx)
def liftE (m : EM) : TE := fun σ H Q => ∃ r env S d S', RepS G r S H ∧ VarsV G.K r H env σ ∧ m env S = some (d, S') ∧ ∀ r' H' v, Ext G.K r H r' H' → RepS G r' S' H' → DV G.K r' H' d v → Q v H'
def liftB (m : BM) : TT := fun σ H Q => ∃ r env S b S', RepS G r S H ∧ VarsV G.K r H env σ ∧ m env S = some (b, S') ∧ ∀ r' H', Ext G.K r H r' H' → RepS G r' S' H' → Q b H'
def liftL (m : LM) : TA := fun σ H Q => ∃ r env S ds S', RepS G r S H ∧ VarsV G.K r H env σ ∧ m env S = some (ds, S') ∧ ∀ r' H' vs, Ext G.K r H r' H' → RepS G r' S' H' → DVs G.K r' H' ds vs → Q vs H'
def EndF (r : List Addr) (H : Hp) (fl : Fl) (env' : Vars) (S' : Sto) (E : Ends) : Prop := ∀ r' σ' H', Ext G.K r H r' H' → RepS G r' S' H' → VarsV G.K r' H' env' σ' →
  match fl with
  | .nx => E.nx σ' H'
  | .rt d => ∀ v, DV G.K r' H' d v → E.rt v H'
  | .bk => E.bk σ' H'
  | .ct => E.ct σ' H'
def liftS (m : SM) : TS := fun E σ H => ∃ r env S fl env' S', RepS G r S H ∧ VarsV G.K r H env σ ∧ m env S = some (fl, env', S') ∧ EndF G r H fl env' S' E
def liftG (m : GM) : TG := fun v σ H Q => ∃ r env S d env' S', RepS G r S H ∧ VarsV G.K r H env σ ∧ DV G.K r H d v ∧ m d env S = some (env', S') ∧ ∀ r' σ' H', Ext G.K r H r' H' → RepS G r' S' H' → VarsV G.K r' H' env' σ' → Q σ' H'
def liftGs (m : GMs) : TGs := fun vs σ H Q => ∃ r env S ds env' S', RepS G r S H ∧ VarsV G.K r H env σ ∧ DVs G.K r H ds vs ∧ m ds env S = some (env', S') ∧ ∀ r' σ' H', Ext G.K r H r' H' → RepS G r' S' H' → VarsV G.K r' H' env' σ' → Q σ' H'
end
abbrev gx (X : Cx) (ca : Nat → Addr) : Ctx := ⟨X.K, X.w, ca⟩

theorem wkE {X : Cx} {e : Expr} {t t' : TE} (h : PE X e t) (w : ∀ σ H Q, t' σ H Q → t σ H Q) : PE X e t' := ⟨fun pins s σ H Q I q => h.run pins s σ H Q I (w σ H Q q)⟩
theorem wkT {X : Cx} {e : Expr} {t t' : TT} (h : PT X e t) (w : ∀ σ H Q, t' σ H Q → t σ H Q) : PT X e t' := ⟨fun pins s σ H Q I q => h.run pins s σ H Q I (w σ H Q q)⟩
theorem wkW {X : Cx} {e : Expr} {t t' : TT} (h : PW X e t) (w : ∀ σ H Q, t' σ H Q → t σ H Q) : PW X e t' := ⟨fun wh pins s σ H Q I q => h.run wh pins s σ H Q I (w σ H Q q)⟩
theorem wkA {X : Cx} {es : List Expr} {t t' : TA} (h : PA X es t) (w : ∀ σ H Q, t' σ H Q → t σ H Q) : PA X es t' := ⟨fun p pins s σ H Q I q => h.run p pins s σ H Q I (w σ H Q q)⟩
theorem wkS {X : Cx} {st : Stmt} {t t' : TS} (h : PS X st t) (w : ∀ E σ H, t' E σ H → t E σ H) : PS X st t' := ⟨fun pins s σ H E I q => h.run pins s σ H E I (w E σ H q)⟩
theorem wkSs {X : Cx} {st : List Stmt} {t t' : TS} (h : PSs X st t) (w : ∀ E σ H, t' E σ H → t E σ H) : PSs X st t' := ⟨fun pins s σ H E I q => h.run pins s σ H E I (w E σ H q)⟩
theorem wkG {X : Cx} {e : Expr} {t t' : TG} (h : PG X e t) (w : ∀ v σ H Q, t' v σ H Q → t v σ H Q) : PG X e t' := ⟨fun pins s σ H v u Q I r q => h.run pins s σ H v u Q I r (w v σ H Q q)⟩
theorem wkGs {X : Cx} {es : List Expr} {t t' : TGs} (h : PGs X es t) (w : ∀ v σ H Q, t' v σ H Q → t v σ H Q) : PGs X es t' := ⟨fun pins s σ H v u Q I r q => h.run pins s σ H v u Q I r (w v σ H Q q)⟩

/-! ### expressions -/
def mVar (i : Nat) : EM := fun env S => match env[i]? with
  | some (some d) => some (d, S)
  | _ => none
def mC (d : D) : EM := fun _ S => some (d, S)
def m1 (p : D → Sto → Option (D × Sto)) (a : EM) : EM := fun env S => match a env S with
  | some (x, S1) => p x S1
  | none => none
def m2 (p : D → D → Sto → Option (D × Sto)) (a b : EM) : EM := fun env S => match a env S with
  | some (x, S1) => match b env S1 with
    | some (y, S2) => p x y S2
    | none => none
  | none => none
def mL (p : List D → Sto → Option (D × Sto)) (l : LM) : EM := fun env S => match l env S with
  | some (xs, S1) => p xs S1
  | none => none
def lNil : LM := fun _ S => some ([], S)
def lCons (a : EM) (l : LM) : LM := fun env S => match a env S with
  | some (x, S1) => match l env S1 with
    | some (xs, S2) => some (x :: xs, S2)
    | none => none
  | none => none
/-- a bool as a test -/
def bV (a : EM) : BM := fun env S => match a env S with
  | some (.bl b, S1) => some (b, S1)
  | _ => none
/-- truth -/
def truD (S : Sto) : D → Option Bool
  | .non => some false
  | .bl b => some b
  | .int i => some (i != 0)
  | .str x => if x.length ≤ sizeLine then some ((x.length : Int) != 0) else none
  | .tup ds => some (!ds.isEmpty)
  | .loc n => match S[n]? with
    | some (.lst ds) => some (!ds.isEmpty)
    | _ => none
  | .scr _ => none
def bTru (a : EM) : BM := fun env S => match a env S with
  | some (d, S1) => match truD S1 d with
    | some b => some (b, S1)
    | none => none
  | none => none
def bNot (a : BM) : BM := fun env S => match a env S with
  | some (b, S1) => some (!b, S1)
  | none => none
def bAnd (a b : BM) : BM := fun env S => match a env S with
  | some (true, S1) => b env S1
  | some (false, S1) => some (false, S1)
  | none => none
def bOr (a b : BM) : BM := fun env S => match a env S with
  | some (true, S1) => some (true, S1)
  | some (false, S1) => b env S1
  | none => none
/-- as values: all but the last a bool -/
def mAnd (a b : EM) : EM := fun env S => match a env S with
  | some (.bl true, S1) => b env S1
  | some (.bl false, S1) => some (.bl false, S1)
  | _ => none
def mOr (a b : EM) : EM := fun env S => match a env S with
  | some (.bl true, S1) => some (.bl true, S1)
  | some (.bl false, S1) => b env S1
  | _ => none
def mNot (a : EM) : EM := fun env S => match a env S with
  | some (.bl b, S1) => some (.bl (!b), S1)
  | _ => none
def mIf (c : BM) (a b : EM) : EM := fun env S => match c env S with
  | some (true, S1) => a env S1
  | some (false, S1) => b env S1
  | none => none
def D.isNon : D → Bool
  | .non => true
  | .bl _ => false
  | .int _ => false
  | .str _ => false
  | .tup _ => false
  | .loc _ => false
  | .scr _ => false
def mIsN (a : EM) : EM := m1 (fun x S => some (.bl x.isNon, S)) a
def mNotN (a : EM) : EM := m1 (fun x S => some (.bl (!x.isNon), S)) a

section
variable {X : Cx} {ca : Nat → Addr} {a b c e : Expr} {es : List Expr} {ma mb : EM} {ba bb : BM} {la : LM} {pos p : Pos}

theorem vars_get {K r H} {env : Vars} {σ : L2.St} {i : Nat} {d : D} {S S' : Sto} (W : VarsV K r H env σ) (h : mVar i env S = some (d, S')) : S' = S ∧ ∃ v, σ[i]? = some (some v) ∧ DV K r H d v := by
  unfold mVar at h
  split at h
  · rename_i d' e
    cases h
    exact ⟨rfl, W.at_ i _ e⟩
  · cases h
theorem de_var {i : Nat} {x : Str} (hN : X.N[i]? = some x := by rfl) (hv : Vis X.env.scope x := by first | exact Or.inl rfl | exact Or.inr (Or.inl rfl) | exact Or.inr (Or.inr rfl)) (hd : (x == ("__debug__" : Str)) = false := by decide)
    (hcd : (x == ("__classdict__" : Str)) = false := by decide) : PE X (.Name x pos) (liftE (gx X ca) (mVar i)) :=
  wkE (pe_var hN hv hd hcd) fun σ H Q ⟨r, env, S, d, S', R, W, h, k⟩ => by
    obtain ⟨rfl, v, e, q⟩ := vars_get W h
    exact ⟨v, e, k r H v Ext.refl R q⟩
theorem de_const {d : D} {v : V} (h : PE X e (tC v)) (q : ∀ K r H, DV K r H d v) : PE X e (liftE (gx X ca) (mC d)) :=
  wkE h fun σ H Q ⟨r, env, S, d', S', R, W, h, k⟩ => by
    unfold mC at h
    cases h
    exact k r H v Ext.refl R (q _ _ _)
theorem de_int {i j} : PE X (.Constant (.int i) j pos) (liftE (gx X ca) (mC (.int i))) := de_const pe_int fun _ _ _ => by unfold DV; rfl
theorem de_bl {i j} : PE X (.Constant (.bool i) j pos) (liftE (gx X ca) (mC (.bl i))) := de_const pe_bl fun _ _ _ => by unfold DV; rfl
theorem de_non {j} : PE X (.Constant .none j pos) (liftE (gx X ca) (mC .non)) := de_const pe_non fun _ _ _ => by unfold DV; rfl
theorem de_str {x j} : PE X (.Constant (.str x) j pos) (liftE (gx X ca) (mC (.str x))) := de_const pe_str fun _ _ _ => by unfold DV; rfl

/-! primitives: by trees, and by the readings -/
def Prim1 (G : Ctx) (t : V → Hp → VK → Prop) (p : D → Sto → Option (D × Sto)) : Prop :=
  ∀ (r : List Addr) (S : Sto) (H : Hp) (x : D) (v : V) (d : D) (S' : Sto) (Q : VK), RepS G r S H → DV G.K r H x v → p x S = some (d, S') →
    (∀ r' H' u, Ext G.K r H r' H' → RepS G r' S' H' → DV G.K r' H' d u → Q u H') → t v H Q
def Prim2 (G : Ctx) (t : R2) (p : D → D → Sto → Option (D × Sto)) : Prop :=
  ∀ (r : List Addr) (S : Sto) (H : Hp) (x y : D) (v w : V) (d : D) (S' : Sto) (Q : VK), RepS G r S H → DV G.K r H x v → DV G.K r H y w → p x y S = some (d, S') →
    (∀ r' H' u, Ext G.K r H r' H' → RepS G r' S' H' → DV G.K r' H' d u → Q u H') → t v w H Q
def PrimL (G : Ctx) (t : List V → Hp → VK → Prop) (p : List D → Sto → Option (D × Sto)) : Prop :=
  ∀ (r : List Addr) (S : Sto) (H : Hp) (xs : List D) (vs : List V) (d : D) (S' : Sto) (Q : VK), RepS G r S H → DVs G.K r H xs vs → p xs S = some (d, S') →
    (∀ r' H' u, Ext G.K r H r' H' → RepS G r' S' H' → DV G.K r' H' d u → Q u H') → t vs H Q

theorem lift1 {G : Ctx} {t : V → Hp → VK → Prop} {p : D → Sto → Option (D × Sto)} (hp : Prim1 G t p) {σ : L2.St} {H : Hp} {Q : VK} (h : liftE G (m1 p ma) σ H Q) : liftE G ma σ H fun x H1 => t x H1 Q := by
  obtain ⟨r, env, S, d, S', R, W, h, k⟩ := h
  unfold m1 at h
  split at h
  · rename_i x S1 e1
    refine ⟨r, env, S, x, S1, R, W, e1, fun r1 H1 v x1 R1 q1 => ?_⟩
    exact hp r1 S1 H1 x v d S' Q R1 q1 h fun r' H' u x2 R2 q2 => k r' H' u (x1.trans x2) R2 q2
  · cases h
theorem lift2 {G : Ctx} {t : R2} {p : D → D → Sto → Option (D × Sto)} (hp : Prim2 G t p) {σ : L2.St} {H : Hp} {Q : VK} (h : liftE G (m2 p ma mb) σ H Q) : liftE G ma σ H fun x H1 => liftE G mb σ H1 fun y H2 => t x y H2 Q := by
  obtain ⟨r, env, S, d, S', R, W, h, k⟩ := h
  unfold m2 at h
  split at h
  · rename_i x S1 e1
    refine ⟨r, env, S, x, S1, R, W, e1, fun r1 H1 v x1 R1 q1 => ?_⟩
    split at h
    · rename_i y S2 e2
      refine ⟨r1, env, S1, y, S2, R1, W.ext x1, e2, fun r2 H2 w x2 R2 q2 => ?_⟩
      exact hp r2 S2 H2 x y v w d S' Q R2 (DV.ext x2 _ _ q1) q2 h fun r' H' u x3 R3 q3 => k r' H' u (x1.trans (x2.trans x3)) R3 q3
    · cases h
  · cases h
theorem liftLp {G : Ctx} {t : List V → Hp → VK → Prop} {p : List D → Sto → Option (D × Sto)} (hp : PrimL G t p) {σ : L2.St} {H : Hp} {Q : VK} (h : liftE G (mL p la) σ H Q) : liftL G la σ H fun xs H1 => t xs H1 Q := by
  obtain ⟨r, env, S, d, S', R, W, h, k⟩ := h
  unfold mL at h
  split at h
  · rename_i x S1 e1
    refine ⟨r, env, S, x, S1, R, W, e1, fun r1 H1 v x1 R1 q1 => ?_⟩
    exact hp r1 S1 H1 x v d S' Q R1 q1 h fun r' H' u x2 R2 q2 => k r' H' u (x1.trans x2) R2 q2
  · cases h
theorem la_nil : PA X [] (liftL (gx X ca) lNil) := wkA pa_nil fun σ H Q ⟨r, env, S, ds, S', R, W, h, k⟩ => by
  unfold lNil at h
  cases h
  exact k r H [] Ext.refl R DVs.nil
theorem la_cons (ha : PE X e (liftE (gx X ca) ma)) (hr : PA X es (liftL (gx X ca) la)) (hs : starEach (e :: es) X.env = (false, eval e X.env) :: starEach es X.env := by rfl) : PA X (e :: es) (liftL (gx X ca) (lCons ma la)) :=
  wkA (pa_cons ha hr hs) fun σ H Q ⟨r, env, S, ds, S', R, W, h, k⟩ => by
    unfold lCons at h
    split at h
    · rename_i x S1 e1
      refine ⟨r, env, S, x, S1, R, W, e1, fun r1 H1 v x1 R1 q1 => ?_⟩
      split at h
      · rename_i xs S2 e2
        cases h
        exact ⟨r1, env, S1, xs, _, R1, W.ext x1, e2, fun r2 H2 w x2 R2 q2 => k r2 H2 _ (x1.trans x2) R2 (DVs.cons (DV.ext x2 _ _ q1) q2)⟩
      · cases h
    · cases h
theorem de_op {op : Operator} {t : R2} {q : D → D → Sto → Option (D × Sto)} (ho : OpR X (binaryOp op) t) (hp : Prim2 (gx X ca) t q) (ha : PE X a (liftE (gx X ca) ma)) (hb : PE X b (liftE (gx X ca) mb)) : PE X (.BinOp a op b pos) (liftE (gx X ca) (m2 q ma mb)) :=
  wkE (pe_op ho ha hb) fun _ _ _ h => lift2 hp h
theorem de_cmp {op : CmpOp} {t : R2} {q : D → D → Sto → Option (D × Sto)} (ho : OpR X (compareOp op) t) (hp : Prim2 (gx X ca) t q) (ha : PE X a (liftE (gx X ca) ma)) (hb : PE X b (liftE (gx X ca) mb)) (hm : behindInMarks op b = false := by first | exact nomark _ | rfl) : PE X (.Compare a [op] [b] pos) (liftE (gx X ca) (m2 q ma mb)) :=
  wkE (pe_cmpR ho ha hb hm) fun _ _ _ h => lift2 hp h
theorem de_ix {t : R2} {q : D → D → Sto → Option (D × Sto)} (ho : IxR X t) (hp : Prim2 (gx X ca) t q) (ha : PE X a (liftE (gx X ca) ma)) (hb : PE X b (liftE (gx X ca) mb)) (hs : PlainIx b := by exact fun _ _ => rfl) : PE X (.Subscript a b pos) (liftE (gx X ca) (m2 q ma mb)) :=
  wkE (pe_ix ho ha hb hs) fun _ _ _ h => lift2 hp h
theorem de_un {op : UnaryOp} {t : V → Hp → VK → Prop} {q : D → Sto → Option (D × Sto)} (ho : UnR X (unaryOp op) t) (hp : Prim1 (gx X ca) t q) (ha : PE X a (liftE (gx X ca) ma)) : PE X (.UnaryOp op a pos) (liftE (gx X ca) (m1 q ma)) :=
  wkE (pe_un ho ha) fun _ _ _ h => lift1 hp h
/-- a built-in function, a built-in class, called -/
theorem de_callB {x : Str} {id : String} {t : List V → Hp → VK → Prop} {q : List D → Sto → Option (D × Sto)} (ho : CallR X (.builtin id) t) (hp : PrimL (gx X ca) t q) (hm : X.mg x = none) (hv : bootBuiltins x = some (.builtin id)) (ha : PA X (e :: es) (liftL (gx X ca) la)) (hg : Gl X x := by rfl) (hn : x ≠ "__name__" := by decide) (hdb : (x == ("__debug__" : Str)) = false := by decide)
    (he : starEach (e :: es) X.env = (false, eval e X.env) :: starEach es X.env := by rfl) (hpl : (backTo pos (starEach es X.env)).any (·.1) = false := by rfl) : PE X (.Call (.Name x p) (e :: es) [] pos) (liftE (gx X ca) (mL q la)) :=
  wkE (pe_callB ho hg hm hv ha hn hdb he hpl) fun _ _ _ h => liftLp hp h
theorem de_callTy {x : Str} {T : String} {t : List V → Hp → VK → Prop} {q : List D → Sto → Option (D × Sto)} (ho : CallR X (.type T) t) (hp : PrimL (gx X ca) t q) (hm : X.mg x = none) (hv : bootBuiltins x = some (.type T)) (ha : PA X (e :: es) (liftL (gx X ca) la)) (hg : Gl X x := by rfl) (hn : x ≠ "__name__" := by decide) (hdb : (x == ("__debug__" : Str)) = false := by decide)
    (he : starEach (e :: es) X.env = (false, eval e X.env) :: starEach es X.env := by rfl) (hpl : (backTo pos (starEach es X.env)).any (·.1) = false := by rfl) : PE X (.Call (.Name x p) (e :: es) [] pos) (liftE (gx X ca) (mL q la)) :=
  wkE (pe_callTy ho hg hm hv ha hn hdb he hpl) fun _ _ _ h => liftLp hp h
/-- a display -/
def tupP : List D → Sto → Option (D × Sto) := fun ds S => if ds.length ≤ sizeLine then some (.tup ds, S) else none
def lstP : List D → Sto → Option (D × Sto) := fun ds S => if ds.length ≤ sizeLine then some (.loc S.length, S ++ [.lst ds]) else none
theorem prim_tup {G : Ctx} : PrimL G (fun xs H Q => xs.length ≤ sizeLine ∧ ∀ p, H p = none → Q (.ref p) (upd H p (.tup xs))) tupP := by
  intro r S H xs vs d S' Q R hv h k
  unfold tupP at h
  split at h
  · rename_i hz
    cases h
    refine ⟨by rw [hv.length]; exact hz, fun p hp => ?_⟩
    obtain ⟨x, R'⟩ := R.tup (vs := vs) hp
    exact k r _ _ x R' (DV.tup_mk (SqT.of upd_same) (DVs.ext x _ _ hv))
  · cases h
theorem prim_lst {G : Ctx} : PrimL G (fun xs H Q => xs.length ≤ sizeLine ∧ ∀ p, H p = none → Q (.ref p) (upd H p (.lst xs))) lstP := by
  intro r S H xs vs d S' Q R hv h k
  unfold lstP at h
  split at h
  · rename_i hz
    cases h
    refine ⟨by rw [hv.length]; exact hz, fun p hp => ?_⟩
    obtain ⟨x, R'⟩ := R.lst hp hv
    exact k _ _ _ x R' R.newLoc
  · cases h
theorem de_tup {i} (h : PA X es (liftL (gx X ca) la)) : PE X (.Tuple es i pos) (liftE (gx X ca) (mL tupP la)) := wkE (pe_tup h) fun _ _ _ h => liftLp prim_tup h
theorem de_lst (h : PA X es (liftL (gx X ca) la)) : PE X (.List es pos) (liftE (gx X ca) (mL lstP la)) := wkE (pe_lst h) fun _ _ _ h => liftLp prim_lst h

/-! is None -/
theorem dv_non {K r H} {d : D} {v : V} (h : DV K r H d v) : decide (v = .non) = d.isNon := by
  cases d with
  | non => unfold DV at h; subst h; rfl
  | bl b => unfold DV at h; subst h; rfl
  | int b => unfold DV at h; subst h; rfl
  | str b => unfold DV at h; subst h; rfl
  | tup ds => unfold DV at h; obtain ⟨_, _, rfl, _⟩ := h; rfl
  | loc n => unfold DV at h; obtain ⟨_, _, rfl⟩ := h; rfl
  | scr n => unfold DV at h; obtain ⟨_, rfl, _⟩ := h; rfl
theorem de_isN {j p'} (ha : PE X a (liftE (gx X ca) ma)) : PE X (.Compare a [.Is] [.Constant .none j p'] pos) (liftE (gx X ca) (mIsN ma)) :=
  wkE (pe_cmp (pc_isN ha) rfl) fun σ H Q h => lift1 (t := fun x H1 Q => Q (.bl (decide (x = .non))) H1) (fun r S H x v d S' Q R hv e k => by
    cases e
    rw [dv_non hv]
    exact k r H _ Ext.refl R (by unfold DV; rfl)) h
theorem de_notN {j p'} (ha : PE X a (liftE (gx X ca) ma)) : PE X (.Compare a [.IsNot] [.Constant .none j p'] pos) (liftE (gx X ca) (mNotN ma)) :=
  wkE (pe_cmp (pc_notN ha) rfl) fun σ H Q h => lift1 (t := fun x H1 Q => Q (.bl (!decide (x = .non))) H1) (fun r S H x v d S' Q R hv e k => by
    cases e
    rw [dv_non hv]
    exact k r H _ Ext.refl R (by unfold DV; rfl)) h

/-! tests -/
theorem liftV {G : Ctx} {σ : L2.St} {H : Hp} {Q : Bool → Hp → Prop} (h : liftB G (bV ma) σ H Q) : liftE G ma σ H fun x H1 => ∃ c, x = .bl c ∧ Q c H1 := by
  obtain ⟨r, env, S, b, S', R, W, h, k⟩ := h
  unfold bV at h
  split at h
  · rename_i b' S1 e1
    cases h
    refine ⟨r, env, S, _, _, R, W, e1, fun r1 H1 v x1 R1 q1 => ?_⟩
    unfold DV at q1
    exact ⟨b, q1, k r1 H1 x1 R1⟩
  · cases h
theorem dt_val (h : PE X e (liftE (gx X ca) ma)) (he : ∀ whole, isTrue e X.env whole = (do let v ← whole; standAt e.pos; holding [v] (truthy v)) := by intro _; rfl) : PT X e (liftB (gx X ca) (bV ma)) := wkT (pt_val h he) fun _ _ _ h => liftV h
theorem dt_cmp {op : CmpOp} {t : R2} {q : D → D → Sto → Option (D × Sto)} (ho : OpR X (compareOp op) t) (hp : Prim2 (gx X ca) t q) (ha : PE X a (liftE (gx X ca) ma)) (hb : PE X b (liftE (gx X ca) mb)) (hm : behindInMarks op b = false := by first | exact nomark _ | rfl) : PT X (.Compare a [op] [b] pos) (liftB (gx X ca) (bV (m2 q ma mb))) :=
  wkT (pt_cmpR ho ha hb hm) fun σ H Q h => by
    have h1 := liftV h
    exact lift2 hp h1
theorem dt_isN {j p'} (ha : PE X a (liftE (gx X ca) ma)) : PT X (.Compare a [.Is] [.Constant .none j p'] pos) (liftB (gx X ca) (bV (mIsN ma))) :=
  wkT (pt_cmp (pc_isN ha) rfl) fun σ H Q h => lift1 (t := fun x H1 Q => Q (.bl (decide (x = .non))) H1) (fun r S H x v d S' Q R hv e k => by
    cases e
    rw [dv_non hv]
    exact k r H _ Ext.refl R (by unfold DV; rfl)) (liftV h)
theorem dt_notN {j p'} (ha : PE X a (liftE (gx X ca) ma)) : PT X (.Compare a [.IsNot] [.Constant .none j p'] pos) (liftB (gx X ca) (bV (mNotN ma))) :=
  wkT (pt_cmp (pc_notN ha) rfl) fun σ H Q h => lift1 (t := fun x H1 Q => Q (.bl (!decide (x = .non))) H1) (fun r S H x v d S' Q R hv e k => by
    cases e
    rw [dv_non hv]
    exact k r H _ Ext.refl R (by unfold DV; rfl)) (liftV h)
theorem tru_of {G : Ctx} {r : List Addr} {S : Sto} {H : Hp} {d : D} {v : V} {b : Bool} (R : RepS G r S H) (q : DV G.K r H d v) (h : truD S d = some b) : TruV G.K v H b := by
  have len_e : ∀ {ds : List D} {vs : List V}, DVs G.K r H ds vs → ds.isEmpty = vs.isEmpty := fun {ds vs} h => by
    have := h.length
    cases ds <;> cases vs <;> simp_all
  cases d with
  | non => unfold DV at q; subst q; cases h; rfl
  | bl c => unfold DV at q; subst q; cases h; rfl
  | int c => unfold DV at q; subst q; cases h; rfl
  | str c =>
    unfold DV at q; subst q
    simp only [truD] at h
    split at h
    · rename_i z; cases h; exact ⟨z, rfl⟩
    · cases h
  | tup ds =>
    unfold DV at q
    obtain ⟨a, vs, rfl, h1, h2⟩ := q
    cases h
    exact .inr (.inl ⟨vs, h1, by rw [len_e h2]⟩)
  | loc n =>
    unfold DV at q
    obtain ⟨a, e, rfl⟩ := q
    simp only [truD] at h
    split at h
    · rename_i ds e1
      cases h
      obtain ⟨vs, e2, h2⟩ := R.at_ _ _ _ e1 e
      exact .inl ⟨vs, SqL.of e2, by rw [len_e h2]⟩
    · cases h
  | scr n => cases h
theorem dt_tru (h : PE X e (liftE (gx X ca) ma)) (he : ∀ whole, isTrue e X.env whole = (do let v ← whole; standAt e.pos; holding [v] (truthy v)) := by intro _; rfl) : PT X e (liftB (gx X ca) (bTru ma)) :=
  wkT (pt_truth h he) fun σ H Q ⟨r, env, S, b, S', R, W, h, k⟩ => by
    unfold bTru at h
    split at h
    · rename_i d S1 e1
      split at h
      · rename_i b' e2
        cases h
        exact ⟨r, env, S, _, _, R, W, e1, fun r1 H1 v x1 R1 q1 => ⟨_, tru_of R1 q1 e2, k r1 H1 x1 R1⟩⟩
      · cases h
    · cases h
theorem dt_not (ha : PT X a (liftB (gx X ca) ba)) : PT X (.UnaryOp .Not a pos) (liftB (gx X ca) (bNot ba)) :=
  wkT (pt_not ha) fun σ H Q ⟨r, env, S, b, S', R, W, h, k⟩ => by
    unfold bNot at h
    split at h
    · rename_i b' S1 e1
      cases h
      exact ⟨r, env, S, _, _, R, W, e1, fun r1 H1 x1 R1 => k r1 H1 x1 R1⟩
    · cases h
theorem dw_and1 {q : Pos} (ha : PT X a (liftB (gx X ca) ba)) : PW X (.BoolOp .And [a] q) (liftB (gx X ca) ba) := pw_and1 ha
theorem dw_or1 {q : Pos} (ha : PT X a (liftB (gx X ca) ba)) : PW X (.BoolOp .Or [a] q) (liftB (gx X ca) ba) := pw_or1 ha
theorem dw_and {rest : List Expr} (ha : PT X a (liftB (gx X ca) ba)) (hb : PW X (.BoolOp .And (b :: rest) pos) (liftB (gx X ca) bb)) : PW X (.BoolOp .And (a :: b :: rest) pos) (liftB (gx X ca) (bAnd ba bb)) :=
  wkW (pw_and ha hb) fun σ H Q ⟨r, env, S, d, S', R, W, h, k⟩ => by
    unfold bAnd at h
    split at h
    · rename_i S1 e1
      exact ⟨r, env, S, _, _, R, W, e1, fun r1 H1 x1 R1 => by
        refine iteT ?_
        exact ⟨r1, env, S1, d, S', R1, W.ext x1, h, fun r2 H2 x2 R2 => k r2 H2 (x1.trans x2) R2⟩⟩
    · rename_i S1 e1
      cases h
      exact ⟨r, env, S, _, _, R, W, e1, fun r1 H1 x1 R1 => by
        refine iteF ?_
        exact k r1 H1 x1 R1⟩
    · cases h
theorem dw_or {rest : List Expr} (ha : PT X a (liftB (gx X ca) ba)) (hb : PW X (.BoolOp .Or (b :: rest) pos) (liftB (gx X ca) bb)) : PW X (.BoolOp .Or (a :: b :: rest) pos) (liftB (gx X ca) (bOr ba bb)) :=
  wkW (pw_or ha hb) fun σ H Q ⟨r, env, S, d, S', R, W, h, k⟩ => by
    unfold bOr at h
    split at h
    · rename_i S1 e1
      cases h
      exact ⟨r, env, S, _, _, R, W, e1, fun r1 H1 x1 R1 => by
        refine iteT ?_
        exact k r1 H1 x1 R1⟩
    · rename_i S1 e1
      exact ⟨r, env, S, _, _, R, W, e1, fun r1 H1 x1 R1 => by
        refine iteF ?_
        exact ⟨r1, env, S1, d, S', R1, W.ext x1, h, fun r2 H2 x2 R2 => k r2 H2 (x1.trans x2) R2⟩⟩
    · cases h
theorem de_one {op} (h : PE X a (liftE (gx X ca) ma)) : PE X (.BoolOp op [a] pos) (liftE (gx X ca) ma) := pe_one h
theorem de_and {rest : List Expr} (ha : PE X a (liftE (gx X ca) ma)) (hb : PE X (.BoolOp .And (b :: rest) pos) (liftE (gx X ca) mb)) : PE X (.BoolOp .And (a :: b :: rest) pos) (liftE (gx X ca) (mAnd ma mb)) :=
  wkE (pe_and ha hb) fun σ H Q ⟨r, env, S, d, S', R, W, h, k⟩ => by
    unfold mAnd at h
    split at h
    · rename_i S1 e1
      exact ⟨r, env, S, _, _, R, W, e1, fun r1 H1 v x1 R1 q1 => by
        unfold DV at q1
        exact ⟨true, q1, by
          refine iteT ?_
          exact ⟨r1, env, S1, d, S', R1, W.ext x1, h, fun r2 H2 v2 x2 R2 q2 => k r2 H2 v2 (x1.trans x2) R2 q2⟩⟩⟩
    · rename_i S1 e1
      cases h
      exact ⟨r, env, S, _, _, R, W, e1, fun r1 H1 v x1 R1 q1 => by
        unfold DV at q1
        exact ⟨false, q1, by
          refine iteF ?_
          exact k r1 H1 _ x1 R1 (by unfold DV; rfl)⟩⟩
    · cases h
theorem de_or {rest : List Expr} (ha : PE X a (liftE (gx X ca) ma)) (hb : PE X (.BoolOp .Or (b :: rest) pos) (liftE (gx X ca) mb)) : PE X (.BoolOp .Or (a :: b :: rest) pos) (liftE (gx X ca) (mOr ma mb)) :=
  wkE (pe_or ha hb) fun σ H Q ⟨r, env, S, d, S', R, W, h, k⟩ => by
    unfold mOr at h
    split at h
    · rename_i S1 e1
      cases h
      exact ⟨r, env, S, _, _, R, W, e1, fun r1 H1 v x1 R1 q1 => by
        unfold DV at q1
        exact ⟨true, q1, by
          refine iteT ?_
          exact k r1 H1 _ x1 R1 (by unfold DV; rfl)⟩⟩
    · rename_i S1 e1
      exact ⟨r, env, S, _, _, R, W, e1, fun r1 H1 v x1 R1 q1 => by
        unfold DV at q1
        exact ⟨false, q1, by
          refine iteF ?_
          exact ⟨r1, env, S1, d, S', R1, W.ext x1, h, fun r2 H2 v2 x2 R2 q2 => k r2 H2 v2 (x1.trans x2) R2 q2⟩⟩⟩
    · cases h
theorem de_not (ha : PE X a (liftE (gx X ca) ma)) : PE X (.UnaryOp .Not a pos) (liftE (gx X ca) (mNot ma)) :=
  wkE (pe_not ha) fun σ H Q ⟨r, env, S, d, S', R, W, h, k⟩ => by
    unfold mNot at h
    split at h
    · rename_i b S1 e1
      cases h
      exact ⟨r, env, S, _, _, R, W, e1, fun r1 H1 v x1 R1 q1 => by
        unfold DV at q1
        exact ⟨b, q1, k r1 H1 _ x1 R1 (by unfold DV; rfl)⟩⟩
    · cases h
theorem de_if {c : Expr} (hc : PT X c (liftB (gx X ca) ba)) (ha : PE X a (liftE (gx X ca) ma)) (hb : PE X b (liftE (gx X ca) mb)) : PE X (.IfExp c a b pos) (liftE (gx X ca) (mIf ba ma mb)) :=
  wkE (pe_ifExp hc ha hb) fun σ H Q ⟨r, env, S, d, S', R, W, h, k⟩ => by
    unfold mIf at h
    split at h
    · rename_i S1 e1
      exact ⟨r, env, S, _, _, R, W, e1, fun r1 H1 x1 R1 => by
        refine iteT ?_
        exact ⟨r1, env, S1, d, S', R1, W.ext x1, h, fun r2 H2 v2 x2 R2 q2 => k r2 H2 v2 (x1.trans x2) R2 q2⟩⟩
    · rename_i S1 e1
      exact ⟨r, env, S, _, _, R, W, e1, fun r1 H1 x1 R1 => by
        refine iteF ?_
        exact ⟨r1, env, S1, d, S', R1, W.ext x1, h, fun r2 H2 v2 x2 R2 q2 => k r2 H2 v2 (x1.trans x2) R2 q2⟩⟩
    · cases h
end

/-! ### statements -/
def sNext : SM := fun env S => some (.nx, env, S)
def sBreak : SM := fun env S => some (.bk, env, S)
def sCont : SM := fun env S => some (.ct, env, S)
def sSeq (a b : SM) : SM := fun env S => match a env S with
  | some (.nx, env1, S1) => b env1 S1
  | r => r
def sExpr (a : EM) : SM := fun env S => match a env S with
  | some (_, S1) => some (.nx, env, S1)
  | none => none
def sRet (a : EM) : SM := fun env S => match a env S with
  | some (d, S1) => some (.rt d, env, S1)
  | none => none
def sRetN : SM := fun env S => some (.rt .non, env, S)
def sIf (c : BM) (a b : SM) : SM := fun env S => match c env S with
  | some (true, S1) => a env S1
  | some (false, S1) => b env S1
  | none => none
def sAsg (a : EM) (g : GM) : SM := fun env S => match a env S with
  | some (d, S1) => match g d env S1 with
    | some (env2, S2) => some (.nx, env2, S2)
    | none => none
  | none => none
def sNever : SM := fun _ _ => none
def gVar (i : Nat) : GM := fun d env S => some (env.set i (some d), S)
def gsNil : GMs := fun ds env S => match ds with
  | [] => some (env, S)
  | _ => none
def gsCons (g : GM) (gs : GMs) : GMs := fun ds env S => match ds with
  | [] => none
  | d :: r => match g d env S with
    | some (env1, S1) => gs r env1 S1
    | none => none
/-- a tuple taken apart -/
def gTupD (n : Nat) (gs : GMs) : GM := fun d env S => match d with
  | .tup ds => if ds.length = n then gs ds env S else none
  | _ => none
section
variable {X : Cx} {ca : Nat → Addr} {a b c e : Expr} {st : Stmt} {sts : List Stmt} {ma mb : EM} {ba bb : BM} {sa sb : SM} {pos p : Pos}

theorem ds_nil : PSs X [] (liftS (gx X ca) sNext) := wkSs pss_nil fun E σ H ⟨r, env, S, fl, env', S', R, W, h, k⟩ => by
  cases h
  exact k r σ H Ext.refl R W
theorem endF_mono {G : Ctx} {r : List Addr} {H : Hp} {r1 : List Addr} {H1 : Hp} {fl : Fl} {env : Vars} {S : Sto} {E : Ends} (x : Ext G.K r H r1 H1) (k : EndF G r H fl env S E) : EndF G r1 H1 fl env S E :=
  fun r' σ' H' x' R' W' => k r' σ' H' (x.trans x') R' W'
theorem endF_nx {G : Ctx} {r : List Addr} {H : Hp} {fl : Fl} {env : Vars} {S : Sto} {E : Ends} {N : L2.St → Hp → Prop} (hn : fl ≠ .nx) (k : EndF G r H fl env S E) : EndF G r H fl env S { E with nx := N } := by
  intro r' σ' H' x' R' W'
  have := k r' σ' H' x' R' W'
  cases fl with
  | nx => exact absurd rfl hn
  | rt d => exact this
  | bk => exact this
  | ct => exact this
theorem liftSeq {G : Ctx} {E : Ends} {σ : L2.St} {H : Hp} (h : liftS G (sSeq sa sb) E σ H) : liftS G sa { E with nx := liftS G sb E } σ H := by
  obtain ⟨r, env, S, fl, env', S', R, W, h, k⟩ := h
  unfold sSeq at h
  split at h
  · rename_i env1 S1 e1
    exact ⟨r, env, S, _, env1, S1, R, W, e1, fun r1 σ1 H1 x1 R1 W1 => ⟨r1, env1, S1, fl, env', S', R1, W1, h, endF_mono x1 k⟩⟩
  · rename_i o hne
    refine ⟨r, env, S, fl, env', S', R, W, h, endF_nx ?_ k⟩
    rintro rfl
    exact hne env' S' h
theorem ds_cons (h1 : PS X st (liftS (gx X ca) sa)) (h2 : PSs X sts (liftS (gx X ca) sb)) : PSs X (st :: sts) (liftS (gx X ca) (sSeq sa sb)) := wkSs (pss_cons h1 h2) fun _ _ _ h => liftSeq h
theorem ds_one (h1 : PS X st (liftS (gx X ca) sa)) : PSs X [st] (liftS (gx X ca) sa) := pss_one h1
theorem ds_pass : PS X (.Pass pos) (liftS (gx X ca) sNext) := wkS ps_pass fun E σ H ⟨r, env, S, fl, env', S', R, W, h, k⟩ => by
  cases h
  exact k r σ H Ext.refl R W
theorem ds_break : PS X (.Break pos) (liftS (gx X ca) sBreak) := wkS ps_break fun E σ H ⟨r, env, S, fl, env', S', R, W, h, k⟩ => by
  cases h
  exact k r σ H Ext.refl R W
theorem ds_continue : PS X (.Continue pos) (liftS (gx X ca) sCont) := wkS ps_continue fun E σ H ⟨r, env, S, fl, env', S', R, W, h, k⟩ => by
  cases h
  exact k r σ H Ext.refl R W
theorem ds_never : PS X st (liftS (gx X ca) sNever) := wkS ps_never fun E σ H ⟨r, env, S, fl, env', S', R, W, h, k⟩ => nomatch h
theorem ds_expr (h : PE X e (liftE (gx X ca) ma)) (hs : swapsWith e none pos.line X.env = pure false := by rfl) : PS X (.Expr e pos) (liftS (gx X ca) (sExpr ma)) :=
  wkS (ps_expr h hs) fun E σ H ⟨r, env, S, fl, env', S', R, W, h, k⟩ => by
    unfold sExpr at h
    split at h
    · rename_i d S1 e1
      cases h
      exact ⟨r, env, S, d, _, R, W, e1, fun r1 H1 v x1 R1 q1 => k r1 σ H1 x1 R1 (W.ext x1)⟩
    · cases h
theorem ds_ret (h : PE X e (liftE (gx X ca) ma)) : PS X (.Return (some e) pos) (liftS (gx X ca) (sRet ma)) :=
  wkS (ps_ret h) fun E σ H ⟨r, env, S, fl, env', S', R, W, h, k⟩ => by
    unfold sRet at h
    split at h
    · rename_i d S1 e1
      cases h
      exact ⟨r, env, S, d, _, R, W, e1, fun r1 H1 v x1 R1 q1 => k r1 σ H1 x1 R1 (W.ext x1) v q1⟩
    · cases h
theorem ds_retN : PS X (.Return none pos) (liftS (gx X ca) sRetN) := wkS ps_retN fun E σ H ⟨r, env, S, fl, env', S', R, W, h, k⟩ => by
  cases h
  exact k r σ H Ext.refl R W .non (by unfold DV; rfl)
theorem ds_if {sts2 : List Stmt} (hc : PT X c (liftB (gx X ca) ba)) (ha : PSs X sts (liftS (gx X ca) sa)) (hb : PSs X sts2 (liftS (gx X ca) sb)) : PS X (.If c sts sts2 pos) (liftS (gx X ca) (sIf ba sa sb)) :=
  wkS (ps_if hc ha hb) fun E σ H ⟨r, env, S, fl, env', S', R, W, h, k⟩ => by
    unfold sIf at h
    split at h
    · rename_i S1 e1
      exact ⟨r, env, S, _, _, R, W, e1, fun r1 H1 x1 R1 => by
        refine iteT ?_
        exact ⟨r1, env, S1, fl, env', S', R1, W.ext x1, h, endF_mono x1 k⟩⟩
    · rename_i S1 e1
      exact ⟨r, env, S, _, _, R, W, e1, fun r1 H1 x1 R1 => by
        refine iteF ?_
        exact ⟨r1, env, S1, fl, env', S', R1, W.ext x1, h, endF_mono x1 k⟩⟩
    · cases h
theorem dg_name {i : Nat} {x : Str} (hN : X.N.Nodup) (hi : X.N[i]? = some x := by rfl) (hx : Loc X.env.scope x := by first | exact Or.inl rfl | exact Or.inr rfl) (hf : X.fn x = true ∨ X.env.scope.names.lookup x = some .local := by first | exact .inl rfl | exact .inr rfl | assumption) : PG X (.Name x pos) (liftG (gx X ca) (gVar i)) :=
  wkG (pg_name hN hi hx hf) fun v σ H Q ⟨r, env, S, d, env', S', R, W, q, h, k⟩ => by
    cases h
    exact k r _ H Ext.refl R (W.set i q)
theorem dgs_nil : PGs X [] (liftGs (gx X ca) gsNil) := wkGs pgs_nil fun vs σ H Q ⟨r, env, S, ds, env', S', R, W, q, h, k⟩ => by
  unfold gsNil at h
  split at h
  · cases h
    unfold DVs at q
    exact ⟨q, k r σ H Ext.refl R W⟩
  · cases h
theorem dgs_cons {es : List Expr} {g : GM} {gs : GMs} (h1 : PG X e (liftG (gx X ca) g)) (h2 : PGs X es (liftGs (gx X ca) gs)) (hs : (assignEach (e :: es) X.env).map (·.2) = assign e X.env :: (assignEach es X.env).map (·.2) := by rfl) : PGs X (e :: es) (liftGs (gx X ca) (gsCons g gs)) :=
  wkGs (pgs_cons h1 h2 hs) fun vs σ H Q ⟨r, env, S, ds, env', S', R, W, q, h, k⟩ => by
    unfold gsCons at h
    split at h
    · cases h
    · rename_i d rest
      unfold DVs at q
      obtain ⟨v, us, rfl, q1, q2⟩ := q
      split at h
      · rename_i env1 S1 e1
        exact ⟨v, us, rfl, r, env, S, d, env1, S1, R, W, q1, e1, fun r1 σ1 H1 x1 R1 W1 => ⟨r1, env1, S1, rest, env', S', R1, W1, DVs.ext x1 _ _ q2, h, fun r2 σ2 H2 x2 R2 W2 => k r2 σ2 H2 (x1.trans x2) R2 W2⟩⟩
      · cases h
theorem dg_tup {es : List Expr} {i : Nat} {n : Nat} {gs : GMs} (h : PGs X es (liftGs (gx X ca) gs)) (hn : (assignEach es X.env).length = n := by rfl) (hc : X.calm = true := by rfl) (hst : (assignEach es X.env).findIdx? (·.1) = none := by rfl) : PG X (.Tuple es i pos) (liftG (gx X ca) (gTupD n gs)) :=
  wkG (pg_tup hc h hn hst) fun v σ H Q ⟨r, env, S, d, env', S', R, W, q, h, k⟩ => by
    unfold gTupD at h
    split at h
    · rename_i ds
      split at h
      · rename_i hl
        unfold DV at q
        obtain ⟨a, vs, rfl, q1, q2⟩ := q
        exact ⟨a, vs, rfl, q1, by rw [q2.length, hl], r, env, S, ds, env', S', R, W, q2, h, k⟩
      · cases h
    · cases h
theorem ds_asg {tg : Expr} {g : GM} (he : PE X e (liftE (gx X ca) ma)) (hg : PG X tg (liftG (gx X ca) g)) (hs : swapsWithSole [tg] e pos.line X.env = pure false := by rfl) (hw : swappedStores [tg] e X.env = pure none := by rfl)
    (h1 : (assignEach [tg] X.env).map (·.2) = [assign tg X.env] := by rfl) : PS X (.Assign [tg] e pos) (liftS (gx X ca) (sAsg ma g)) :=
  wkS (ps_asg he hg hs hw h1) fun E σ H ⟨r, env, S, fl, env', S', R, W, h, k⟩ => by
    unfold sAsg at h
    split at h
    · rename_i d S1 e1
      split at h
      · rename_i env2 S2 e2
        cases h
        exact ⟨r, env, S, d, S1, R, W, e1, fun r1 H1 v x1 R1 q1 => ⟨r1, env, S1, d, _, _, R1, W.ext x1, q1, e2, fun r2 σ2 H2 x2 R2 W2 => k r2 σ2 H2 (x1.trans x2) R2 W2⟩⟩
      · cases h
    · cases h
theorem ds_set {i : Nat} {x : Str} {q : Pos} (hN : X.N.Nodup) (he : PE X e (liftE (gx X ca) ma)) (hi : X.N[i]? = some x := by rfl) (hx : Loc X.env.scope x := by first | exact Or.inl rfl | exact Or.inr rfl) (hs : swapsWith e (some (.Name x q)) pos.line X.env = pure false := by rfl) (hf : X.fn x = true ∨ X.env.scope.names.lookup x = some .local := by first | exact .inl rfl | exact .inr rfl | assumption) :
    PS X (.Assign [.Name x q] e pos) (liftS (gx X ca) (sAsg ma (gVar i))) :=
  wkS (ps_set hN hi hx he hs hf) fun E σ H ⟨r, env, S, fl, env', S', R, W, h, k⟩ => by
    unfold sAsg gVar at h
    split at h
    · rename_i d S1 e1
      cases h
      exact ⟨r, env, S, d, _, R, W, e1, fun r1 H1 v x1 R1 q1 => k r1 _ H1 x1 R1 ((W.ext x1).set i q1)⟩
    · cases h
end
end DL
/-! DLc: loops, comprehensions, calls. -/
namespace DL
open PySem PySem.Spec L2

/-! ### the value that a run with enough fuel gives -/
section
open Classical in
noncomputable def lim {α : Type} (f : Nat → Option α) : Option α := if h : ∃ n a, f n = some a then f h.choose else none
variable {α : Type} {f : Nat → Option α}
def Up (f : Nat → Option α) : Prop := ∀ n a, f n = some a → f (n + 1) = some a
theorem Up.le (u : Up f) {n : Nat} {a : α} (h : f n = some a) : ∀ {m : Nat}, n ≤ m → f m = some a := by
  intro m hm
  induction hm with
  | refl => exact h
  | step _ ih => exact u _ _ ih
theorem lim_of (u : Up f) {n : Nat} {a : α} (h : f n = some a) : lim f = some a := by
  have q : ∃ n a, f n = some a := ⟨n, a, h⟩
  unfold lim
  rw [dif_pos q]
  obtain ⟨b, hb⟩ := q.choose_spec
  have h1 := u.le h (Nat.le_max_left n q.choose)
  have h2 := u.le hb (Nat.le_max_right n q.choose)
  rw [h1] at h2
  rw [hb, ← h2]
theorem lim_some {a : α} (h : lim f = some a) : ∃ n, f n = some a := by
  unfold lim at h
  split at h
  · rename_i q
    exact ⟨_, h⟩
  · cases h
theorem lim_none (h : ∀ n, f n = none) : lim f = none := by
  cases e : lim f with
  | none => rfl
  | some a => obtain ⟨n, q⟩ := lim_some e; rw [h] at q; cases q
theorem lim_shift (u : Up f) (h0 : f 0 = none) : lim f = lim fun n => f (n + 1) := by
  cases e : lim f with
  | some a =>
    obtain ⟨n, q⟩ := lim_some e
    exact (lim_of (f := fun n => f (n + 1)) (fun n a h => u _ _ h) (n := n) (u _ _ q)).symm
  | none =>
    refine (lim_none fun n => ?_).symm
    cases q : f (n + 1) with
    | none => rfl
    | some a => rw [lim_of u q] at e; cases e
theorem lim_const {o : Option α} : lim (fun _ => o) = o := by
  cases o with
  | none => exact lim_none fun _ => rfl
  | some a => exact lim_of (f := fun _ => some a) (fun _ _ h => h) (n := 0) rfl
end

/-! ### what is walked -/
inductive DIt where
  | seq (d : D)
  | rng (lo : Int) (n : Nat)
  | enm (d : D)
  | zp (d e : D)
/-- the items of a list or tuple -/
def seqD (S : Sto) : D → Option (List D)
  | .tup ds => some ds
  | .loc n => match S[n]? with
    | some (.lst ds) => some ds
    | _ => none
  | .scr ns => some (ns.map D.int)
  | _ => none
/-- bad; at the end; an item -/
def itAt (S : Sto) : DIt → Nat → Option (Option D)
  | .seq d, i => match seqD S d with
    | some ds => some ds[i]?
    | none => none
  | .rng lo n, i => some (if i < n then some (.int (lo + i)) else none)
  | .enm d, i => match seqD S d with
    | some ds => some (match ds[i]? with | some x => some (.tup [.int (i : Nat), x]) | none => none)
    | none => none
  | .zp d e, i => match seqD S d, seqD S e with
    | some ds, some es => some (match ds[i]?, es[i]? with | some x, some y => some (.tup [x, y]) | _, _ => none)
    | _, _ => none
abbrev IM := Vars → Sto → Option (DIt × Sto)
structure ItOk (G : Ctx) (r0 : List Addr) (H0 : Hp) (it : DIt) (J : It) : Prop where
  go : ∀ r S H i d, Ext G.K r0 H0 r H → RepS G r S H → itAt S it i = some (some d) → J.go i H ∧ ∀ x H', J.yld i H x H' → ∃ r', Ext G.K r H r' H' ∧ RepS G r' S H' ∧ DV G.K r' H' d x
  stop : ∀ r S H i, Ext G.K r0 H0 r H → RepS G r S H → itAt S it i = some none → J.stop i H
def liftI (G : Ctx) (m : IM) : TI := fun σ H R => ∃ r env S it S', RepS G r S H ∧ VarsV G.K r H env σ ∧ m env S = some (it, S') ∧ ∀ r' H' J, Ext G.K r H r' H' → RepS G r' S' H' → ItOk G r' H' it J → R J H'
theorem ItOk.later {G : Ctx} {r0 r1 : List Addr} {H0 H1 : Hp} {it : DIt} {J : It} (x : Ext G.K r0 H0 r1 H1) (k : ItOk G r0 H0 it J) : ItOk G r1 H1 it J :=
  ⟨fun r S H i d x1 R e => k.go r S H i d (x.trans x1) R e, fun r S H i x1 R e => k.stop r S H i (x.trans x1) R e⟩
theorem wkI {X : Cx} {tg e : Expr} {t t' : TI} (h : PI X tg e t) (w : ∀ σ H R, t' σ H R → t σ H R) : PI X tg e t' := ⟨fun pins s σ H R I q => h.run pins s σ H R I (w σ H R q)⟩

section
variable {G : Ctx} {r : List Addr} {S : Sto} {H : Hp}
/-- a tree that is a list or a tuple, borne -/
theorem seq_cases {d : D} {v : V} {ds : List D} (R : RepS G r S H) (q : DV G.K r H d v) (h : seqD S d = some ds) : ∃ a vs, v = .ref a ∧ DVs G.K r H ds vs ∧
    ((d = .tup ds ∧ SqT G.K H a vs) ∨ ((∀ es, d ≠ .tup es) ∧ True ∧ True ∧ SqL G.K H a vs)) := by
  cases d with
  | tup es =>
    simp only [seqD, Option.some.injEq] at h
    subst h
    unfold DV at q
    obtain ⟨a, vs, rfl, h1, h2⟩ := q
    exact ⟨a, vs, rfl, h2, .inl ⟨rfl, h1⟩⟩
  | loc n =>
    unfold DV at q
    obtain ⟨a, e, rfl⟩ := q
    simp only [seqD] at h
    split at h
    · rename_i es e1
      cases h
      obtain ⟨vs, e2, h2⟩ := R.at_ _ _ _ e1 e
      exact ⟨a, vs, rfl, h2, .inr ⟨fun _ z => (by cases z), trivial, trivial, SqL.of e2⟩⟩
    · cases h
  | scr ns =>
    unfold DV at q
    obtain ⟨a, rfl, e⟩ := q
    simp only [seqD, Option.some.injEq] at h
    subst h
    exact ⟨a, _, rfl, DVs.ints ns, .inr ⟨fun _ z => (by cases z), trivial, trivial, e.sq⟩⟩
  | non => cases h
  | bl _ => cases h
  | int _ => cases h
  | str _ => cases h
theorem itok_tup {ds : List D} {a : Addr} {vs : List V} (h1 : SqT G.K H a vs) (h2 : DVs G.K r H ds vs) : ItOk G r H (.seq (.tup ds)) (Itt G.K a) where
  go := fun r1 S1 H1 i d x R e => by
    simp only [itAt, seqD, Option.some.injEq] at e
    obtain ⟨v, ev, qv⟩ := (DVs.ext x _ _ h2).get e
    refine ⟨⟨vs, v, x.tups _ _ h1, ev⟩, fun y H' hy => ?_⟩
    obtain ⟨rfl, hy⟩ := hy
    have := hy vs (x.tups _ _ h1)
    rw [ev] at this; cases this
    exact ⟨r1, Ext.refl, R, qv⟩
  stop := fun r1 S1 H1 i x R e => by
    simp only [itAt, seqD, Option.some.injEq] at e
    exact ⟨vs, x.tups _ _ h1, by rw [h2.length]; exact List.getElem?_eq_none_iff.mp e⟩
theorem itok_ref {d0 : D} {a : Addr} (h1 : DV G.K r H d0 (.ref a)) (nt : ∀ es, d0 ≠ .tup es) : ItOk G r H (.seq d0) (Itl G.K a) where
  go := fun r1 S1 H1 i d x R e => by
    simp only [itAt] at e
    split at e
    · rename_i ds e1
      have ed := Option.some.inj e
      have q : DV G.K r1 H1 d0 (.ref a) := DV.ext x _ _ h1
      obtain ⟨a', vs, ea, h2, h3⟩ := seq_cases R q e1
      cases ea
      rcases h3 with ⟨z, _⟩ | ⟨_, _, _, hs⟩
      · exact absurd z (nt _)
      · obtain ⟨v, ev, qv⟩ := h2.get ed
        refine ⟨⟨vs, v, hs, ev⟩, fun y H' hy => ?_⟩
        obtain ⟨rfl, hy⟩ := hy
        have := hy vs hs
        rw [ev] at this; cases this
        exact ⟨r1, Ext.refl, R, qv⟩
    · cases e
  stop := fun r1 S1 H1 i x R e => by
    simp only [itAt] at e
    split at e
    · rename_i ds e1
      have ed := Option.some.inj e
      have q : DV G.K r1 H1 d0 (.ref a) := DV.ext x _ _ h1
      obtain ⟨a', vs, ea, h2, h3⟩ := seq_cases R q e1
      cases ea
      rcases h3 with ⟨z, _⟩ | ⟨_, _, _, hs⟩
      · exact absurd z (nt _)
      · exact ⟨vs, hs, by rw [h2.length]; exact List.getElem?_eq_none_iff.mp ed⟩
    · cases e
theorem itok_rng {lo : Int} {n : Nat} : ItOk G r H (.rng lo n) (Itr lo n) where
  go := fun r1 S1 H1 i d x R e => by
    simp only [itAt, Option.some.injEq] at e
    split at e
    · rename_i hi
      cases e
      refine ⟨hi, fun y H' hy => ?_⟩
      obtain ⟨rfl, rfl⟩ := hy
      exact ⟨r1, Ext.refl, R, by unfold DV; rfl⟩
    · cases e
  stop := fun r1 S1 H1 i x R e => by
    simp only [itAt, Option.some.injEq] at e
    split at e
    · cases e
    · rename_i hi
      exact Nat.le_of_not_lt hi
end

/-- a list or a tuple, walked -/
def iSeq (m : EM) : IM := fun env S => match m env S with
  | some (d, S1) => match seqD S1 d with
    | some _ => some (.seq d, S1)
    | none => none
  | none => none
def iRng1M (m : EM) : IM := fun env S => match m env S with
  | some (.int j, S1) => if -(2 ^ 62) ≤ j ∧ j < 2 ^ 62 then some (.rng 0 j.toNat, S1) else none
  | _ => none
def iRng2M (m m2 : EM) : IM := fun env S => match m env S with
  | some (.int i, S1) => match m2 env S1 with
    | some (.int j, S2) => if -(2 ^ 62) ≤ i ∧ i < 2 ^ 62 ∧ -(2 ^ 62) ≤ j ∧ j < 2 ^ 62 then some (.rng i (j - i).toNat, S2) else none
    | _ => none
  | _ => none
section
variable {X : Cx} {ca : Nat → Addr} {tg e e2 : Expr} {ma mb : EM} {pos p : Pos}
def iLT (K : PySem.W.Frag) (tl : TE) : TI := fun σ H R => tl σ H fun x H1 => ∃ a, x = .ref a ∧ (((∃ xs, SqL K H1 a xs) ∧ R (Itl K a) H1) ∨ ((∃ xs, SqT K H1 a xs) ∧ R (Itt K a) H1))
theorem pi_lt {l : Expr} {tl : TE} (hl : PE X l tl) : PI X tg l (iLT X.K tl) := by
  refine ⟨fun pins s σ H R I h => ?_⟩
  refine thn (hl.run pins s σ H _ I h) fun v s1 ⟨x, H1, I1, r1, q1⟩ => ?_
  obtain ⟨a, e, q⟩ := q1
  subst e
  cases r1
  have fp : ∀ b ∈ [s1.heap.objs.size], FpOk X pins H1 b := fun b hb => by
    have e : b = s1.heap.objs.size := by simpa using hb
    subst e
    exact I1.fpOk (Nat.le_refl _) (I1.hok.fresh (Nat.le_refl _))
  rcases q with ⟨⟨xs, hq⟩, q⟩ | ⟨⟨xs, hq⟩, q⟩
  · obtain ⟨its, rv, p, hz⟩ := I1.list hq
    refine wpAny_pyIter_list p.isList ?_
    exact ⟨s1.heap.objs.size, [s1.heap.objs.size], _, _, H1, rfl, I1.kept (t' := s1.toks) fun b o e => Heap.get?_push_of_some _ e, turn_list a _, ⟨_, Heap.get?_push_size _ rfl, rfl, rfl⟩, fp, q⟩
  · obtain ⟨its, rv, p, hz⟩ := I1.tuple hq
    refine wpAny_pyIter_tuple (show s1.heap.IsTuple a its.toArray from p) ?_
    exact ⟨s1.heap.objs.size, [s1.heap.objs.size], _, _, H1, rfl, I1.kept (t' := s1.toks) fun b o e => Heap.get?_push_of_some _ e, turn_tuple a _, ⟨_, Heap.get?_push_size _ rfl, rfl, rfl⟩, fp, q⟩
theorem di_seq (h : PE X e (liftE (gx X ca) ma)) : PI X tg e (liftI (gx X ca) (iSeq ma)) :=
  wkI (pi_lt h) fun σ H Q ⟨r, env, S, it, S', R, W, h, k⟩ => by
    unfold iSeq at h
    split at h
    · rename_i d S1 e1
      split at h
      · rename_i ds e2
        cases h
        refine ⟨r, env, S, d, _, R, W, e1, fun r1 H1 v x1 R1 q1 => ?_⟩
        obtain ⟨a, vs, rfl, h2, h3⟩ := seq_cases R1 q1 e2
        rcases h3 with ⟨rfl, h4⟩ | ⟨nt, _, _, h5⟩
        · exact ⟨a, rfl, .inr ⟨⟨vs, h4⟩, k r1 H1 _ x1 R1 (itok_tup h4 h2)⟩⟩
        · exact ⟨a, rfl, .inl ⟨⟨vs, h5⟩, k r1 H1 _ x1 R1 (itok_ref q1 nt)⟩⟩
      · cases h
    · cases h
theorem di_rng1 (hm : X.mg "range" = none) (h : PE X e (liftE (gx X ca) ma)) (hg : Gl X "range" := by rfl) (hs : starEach [e] X.env = [(false, eval e X.env)] := by rfl) (hs1 : starEach [e] X.env = (false, eval e X.env) :: starEach [] X.env := by rfl) : PI X tg (.Call (.Name "range" p) [e] [] pos) (liftI (gx X ca) (iRng1M ma)) :=
  wkI (pi_range1 hg hm (pa_cons h pa_nil hs1) hs) fun σ H Q ⟨r, env, S, it, S', R, W, h, k⟩ => by
    unfold iRng1M at h
    split at h
    · rename_i j S1 e1
      split at h
      · rename_i hj
        cases h
        refine ⟨r, env, S, _, _, R, W, e1, fun r1 H1 v x1 R1 q1 => ?_⟩
        unfold DV at q1
        subst q1
        exact ⟨j, rfl, hj.1, hj.2, k r1 H1 _ x1 R1 itok_rng⟩
      · cases h
    · cases h
theorem di_rng2 (hm : X.mg "range" = none) (h : PE X e (liftE (gx X ca) ma)) (h2 : PE X e2 (liftE (gx X ca) mb)) (hg : Gl X "range" := by rfl) (hs : starEach [e, e2] X.env = [(false, eval e X.env), (false, eval e2 X.env)] := by rfl) (hs2 : starEach [e2] X.env = [(false, eval e2 X.env)] := by rfl) (hs1 : starEach [e, e2] X.env = (false, eval e X.env) :: starEach [e2] X.env := by rfl) (hs3 : starEach [e2] X.env = (false, eval e2 X.env) :: starEach [] X.env := by rfl) : PI X tg (.Call (.Name "range" p) [e, e2] [] pos) (liftI (gx X ca) (iRng2M ma mb)) :=
  wkI (pi_range2 hg hm (pa_cons h (pa_cons h2 pa_nil hs3) hs1) hs hs2) fun σ H Q ⟨r, env, S, it, S', R, W, h, k⟩ => by
    unfold iRng2M at h
    split at h
    · rename_i j S1 e1
      split at h
      · rename_i j2 S2 e2
        split at h
        · rename_i hj
          cases h
          refine ⟨r, env, S, _, _, R, W, e1, fun r1 H1 v x1 R1 q1 => ⟨r1, env, S1, _, _, R1, W.ext x1, e2, fun r2 H2 v2 x2 R2 q2 => ?_⟩⟩
          unfold DV at q1 q2
          subst q1 q2
          exact ⟨j, j2, rfl, hj, k r2 H2 _ (x1.trans x2) R2 itok_rng⟩
        · cases h
      · cases h
    · cases h
end

/-! ### for -/
def forN (it : DIt) (g : GM) (b : SM) : Nat → Nat → SM
  | 0, _ => fun _ _ => none
  | f + 1, i => fun env S => match itAt S it i with
    | none => none
    | some none => some (.nx, env, S)
    | some (some d) => match g d env S with
      | none => none
      | some (env1, S1) => match b env1 S1 with
        | some (.nx, env2, S2) => forN it g b f (i + 1) env2 S2
        | some (.ct, env2, S2) => forN it g b f (i + 1) env2 S2
        | some (.bk, env2, S2) => some (.nx, env2, S2)
        | some (.rt d, env2, S2) => some (.rt d, env2, S2)
        | none => none
theorem forN_up {it : DIt} {g : GM} {b : SM} : ∀ (n i : Nat) (env : Vars) (S : Sto) a, forN it g b n i env S = some a → forN it g b (n + 1) i env S = some a
  | 0, _, _, _, _, h => by simp [forN] at h
  | n + 1, i, env, S, a, h => by
    unfold forN at h ⊢
    split at h
    · cases h
    · exact h
    · rename_i d e1
      try simp only [e1]
      split at h
      · cases h
      · rename_i env1 S1 e2
        try simp only [e2]
        split at h
        · rename_i env2 S2 e3
          try simp only [e3]
          exact forN_up n _ _ _ _ h
        · rename_i env2 S2 e3
          try simp only [e3]
          exact forN_up n _ _ _ _ h
        · rename_i env2 S2 e3
          try simp only [e3]
          exact h
        · rename_i d env2 S2 e3
          try simp only [e3]
          exact h
        · cases h
noncomputable def forL (it : DIt) (g : GM) (b : SM) (i : Nat) : SM := fun env S => lim fun n => forN it g b n i env S
noncomputable def sFor (m : IM) (g : GM) (b : SM) : SM := fun env S => match m env S with
  | some (it, S1) => forL it g b 0 env S1
  | none => none
/-- one turn -/
theorem forL_eq (it : DIt) (g : GM) (b : SM) (i : Nat) (env : Vars) (S : Sto) : forL it g b i env S = match itAt S it i with
    | none => none
    | some none => some (.nx, env, S)
    | some (some d) => match g d env S with
      | none => none
      | some (env1, S1) => match b env1 S1 with
        | some (.nx, env2, S2) => forL it g b (i + 1) env2 S2
        | some (.ct, env2, S2) => forL it g b (i + 1) env2 S2
        | some (.bk, env2, S2) => some (.nx, env2, S2)
        | some (.rt d, env2, S2) => some (.rt d, env2, S2)
        | none => none := by
  unfold forL
  rw [lim_shift (fun n a h => forN_up n _ _ _ _ h) rfl]
  simp only [forN]
  cases itAt S it i with
  | none => exact lim_const
  | some o =>
    cases o with
    | none => exact lim_const
    | some d =>
      try simp only
      cases g d env S with
      | none => exact lim_const
      | some q =>
        try simp only
        cases b q.1 q.2 with
        | none => exact lim_const
        | some z =>
          obtain ⟨fl, env2, S2⟩ := z
          cases fl with
          | nx => rfl
          | ct => rfl
          | bk => exact lim_const
          | rt d => exact lim_const
section
variable {X : Cx} {ca : Nat → Addr} {tg iter : Expr} {mi : IM} {g : GM} {sb : SM} {body : List Stmt} {pos : Pos}
theorem ds_for (hi : PI X tg iter (liftI (gx X ca) mi)) (hg : PG X tg (liftG (gx X ca) g)) (hb : PSs X body (liftS (gx X ca) sb)) (hp : PassesOwn (model X.prog X.w) X.A X.env X.xe := by exact PassesOwn.never) (hc : X.calm = true := by rfl)
    (hs : ∀ x, foldedSetIterable iter X.env x = pure x := by intro _; rfl) : PS X (.For tg iter body [] pos) (liftS (gx X ca) (sFor mi g sb)) :=
  wkS (ps_for hp hc hi hg hb hs) fun E σ H ⟨r, env, S, fl, env', S', R, W, h, k⟩ => by
    unfold sFor at h
    split at h
    · rename_i it S1 e1
      refine ⟨r, env, S, it, S1, R, W, e1, fun r1 H1 J x1 R1 J1 => ?_⟩
      obtain ⟨n0, h0⟩ := lim_some h
      refine ⟨fun i m σ2 H2 => ∃ r2 env2 S2, Ext (gx X ca).K r1 H1 r2 H2 ∧ RepS (gx X ca) r2 S2 H2 ∧ VarsV (gx X ca).K r2 H2 env2 σ2 ∧ forN it g sb m i env2 S2 = some (fl, env', S'), ⟨n0, r1, env, S1, Ext.refl, R1, W.ext x1, h0⟩, ?_⟩
      rintro i m σ2 H2 ⟨r2, env2, S2, x2, R2, W2, h2⟩
      cases m with
      | zero => simp [forN] at h2
      | succ m =>
        unfold forN at h2
        split at h2
        · cases h2
        · rename_i e2
          cases h2
          exact .inl ⟨J1.stop r2 _ H2 i x2 R2 e2, k r2 σ2 H2 (x1.trans x2) R2 W2⟩
        · rename_i d e2
          obtain ⟨go, yl⟩ := J1.go r2 S2 H2 i d x2 R2 e2
          refine .inr ⟨go, fun σ3 H3 => ∃ r3 env3 S3, Ext (gx X ca).K r1 H1 r3 H3 ∧ RepS (gx X ca) r3 S3 H3 ∧ VarsV (gx X ca).K r3 H3 env3 σ3 ∧ forN it g sb m (i + 1) env3 S3 = some (fl, env', S'), fun σ3 H3 q => ⟨m, Nat.lt_succ_self _, q⟩, fun y H3 hy => ?_⟩
          obtain ⟨r3, x3, R3, q3⟩ := yl y H3 hy
          split at h2
          · cases h2
          · rename_i env4 S4 e4
            refine ⟨r3, env2, S2, d, env4, S4, R3, W2.ext x3, q3, e4, fun r5 σ5 H5 x5 R5 W5 => ?_⟩
            split at h2
            · rename_i env6 S6 e6
              exact ⟨r5, env4, S4, .nx, env6, S6, R5, W5, e6, fun r7 σ7 H7 x7 R7 W7 => ⟨r7, env6, S6, x2.trans (x3.trans (x5.trans x7)), R7, W7, h2⟩⟩
            · rename_i env6 S6 e6
              exact ⟨r5, env4, S4, .ct, env6, S6, R5, W5, e6, fun r7 σ7 H7 x7 R7 W7 => ⟨r7, env6, S6, x2.trans (x3.trans (x5.trans x7)), R7, W7, h2⟩⟩
            · rename_i env6 S6 e6
              cases h2
              exact ⟨r5, env4, S4, .bk, _, _, R5, W5, e6, fun r7 σ7 H7 x7 R7 W7 => k r7 σ7 H7 (x1.trans (x2.trans (x3.trans (x5.trans x7)))) R7 W7⟩
            · rename_i d env6 S6 e6
              cases h2
              exact ⟨r5, env4, S4, .rt d, _, _, R5, W5, e6, fun r7 σ7 H7 x7 R7 W7 => k r7 σ7 H7 (x1.trans (x2.trans (x3.trans (x5.trans x7)))) R7 W7⟩
            · cases h2
    · cases h
end

/-! ### while -/
def whileN (c : BM) (b : SM) : Nat → SM
  | 0 => fun _ _ => none
  | f + 1 => fun env S => match c env S with
    | none => none
    | some (false, S1) => some (.nx, env, S1)
    | some (true, S1) => match b env S1 with
      | some (.nx, env2, S2) => whileN c b f env2 S2
      | some (.ct, env2, S2) => whileN c b f env2 S2
      | some (.bk, env2, S2) => some (.nx, env2, S2)
      | some (.rt d, env2, S2) => some (.rt d, env2, S2)
      | none => none
theorem whileN_up {c : BM} {b : SM} : ∀ (n : Nat) (env : Vars) (S : Sto) a, whileN c b n env S = some a → whileN c b (n + 1) env S = some a
  | 0, _, _, _, h => by simp [whileN] at h
  | n + 1, env, S, a, h => by
    unfold whileN at h ⊢
    split at h
    · cases h
    · rename_i S1 e1
      try simp only [e1]
      exact h
    · rename_i S1 e1
      try simp only [e1]
      split at h
      · rename_i env2 S2 e3
        try simp only [e3]
        exact whileN_up n _ _ _ h
      · rename_i env2 S2 e3
        try simp only [e3]
        exact whileN_up n _ _ _ h
      · rename_i env2 S2 e3
        try simp only [e3]
        exact h
      · rename_i d env2 S2 e3
        try simp only [e3]
        exact h
      · cases h
noncomputable def sWhile (c : BM) (b : SM) : SM := fun env S => lim fun n => whileN c b n env S
theorem sWhile_eq (c : BM) (b : SM) (env : Vars) (S : Sto) : sWhile c b env S = match c env S with
    | none => none
    | some (false, S1) => some (.nx, env, S1)
    | some (true, S1) => match b env S1 with
      | some (.nx, env2, S2) => sWhile c b env2 S2
      | some (.ct, env2, S2) => sWhile c b env2 S2
      | some (.bk, env2, S2) => some (.nx, env2, S2)
      | some (.rt d, env2, S2) => some (.rt d, env2, S2)
      | none => none := by
  unfold sWhile
  rw [lim_shift (fun n a h => whileN_up n _ _ _ h) rfl]
  simp only [whileN]
  cases c env S with
  | none => exact lim_const
  | some q =>
    obtain ⟨t, S1⟩ := q
    cases t with
    | false => exact lim_const
    | true =>
      try simp only
      cases b env S1 with
      | none => exact lim_const
      | some z =>
        obtain ⟨fl, env2, S2⟩ := z
        cases fl with
        | nx => rfl
        | ct => rfl
        | bk => exact lim_const
        | rt d => exact lim_const
section
variable {X : Cx} {ca : Nat → Addr} {c : Expr} {bc : BM} {sb : SM} {body : List Stmt} {pos : Pos}
theorem ds_while (hc : PT X c (liftB (gx X ca) bc)) (hb : PSs X body (liftS (gx X ca) sb)) (hp : PassesOwn (model X.prog X.w) X.A X.env X.xe := by exact PassesOwn.never) : PS X (.While c body [] pos) (liftS (gx X ca) (sWhile bc sb)) :=
  wkS (ps_while hp hc hb) fun E σ H ⟨r, env, S, fl, env', S', R, W, h, k⟩ => by
    obtain ⟨n0, h0⟩ := lim_some h
    refine ⟨fun m σ2 H2 => ∃ r2 env2 S2, Ext (gx X ca).K r H r2 H2 ∧ RepS (gx X ca) r2 S2 H2 ∧ VarsV (gx X ca).K r2 H2 env2 σ2 ∧ whileN bc sb m env2 S2 = some (fl, env', S'), ⟨n0, r, env, S, Ext.refl, R, W, h0⟩, ?_⟩
    rintro m σ2 H2 ⟨r2, env2, S2, x2, R2, W2, h2⟩
    cases m with
    | zero => simp [whileN] at h2
    | succ m =>
      unfold whileN at h2
      split at h2
      · cases h2
      · rename_i S3 e3
        cases h2
        refine ⟨r2, _, S2, false, _, R2, W2, e3, fun r3 H3 x3 R3 => ?_⟩
        exact iteF (k r3 σ2 H3 (x2.trans x3) R3 (W2.ext x3))
      · rename_i S3 e3
        refine ⟨r2, env2, S2, true, S3, R2, W2, e3, fun r3 H3 x3 R3 => ?_⟩
        refine iteT ⟨fun σ4 H4 => ∃ r4 env4 S4, Ext (gx X ca).K r H r4 H4 ∧ RepS (gx X ca) r4 S4 H4 ∧ VarsV (gx X ca).K r4 H4 env4 σ4 ∧ whileN bc sb m env4 S4 = some (fl, env', S'), fun σ4 H4 q => ⟨m, Nat.lt_succ_self _, q⟩, ?_⟩
        split at h2
        · rename_i env6 S6 e6
          exact ⟨r3, _, S3, .nx, env6, S6, R3, W2.ext x3, e6, fun r7 σ7 H7 x7 R7 W7 => ⟨r7, env6, S6, x2.trans (x3.trans x7), R7, W7, h2⟩⟩
        · rename_i env6 S6 e6
          exact ⟨r3, env2, S3, .ct, env6, S6, R3, W2.ext x3, e6, fun r7 σ7 H7 x7 R7 W7 => ⟨r7, env6, S6, x2.trans (x3.trans x7), R7, W7, h2⟩⟩
        · rename_i env6 S6 e6
          cases h2
          exact ⟨r3, env2, S3, .bk, _, _, R3, W2.ext x3, e6, fun r7 σ7 H7 x7 R7 W7 => k r7 σ7 H7 (x2.trans (x3.trans x7)) R7 W7⟩
        · rename_i d env6 S6 e6
          cases h2
          exact ⟨r3, env2, S3, .rt d, _, _, R3, W2.ext x3, e6, fun r7 σ7 H7 x7 R7 W7 => k r7 σ7 H7 (x2.trans (x3.trans x7)) R7 W7⟩
        · cases h2
end

/-! ### comprehensions -/
inductive Tgt where
  | nm (i : Nat)
  | tp (is : List Nat)
def Tgt.slots : Tgt → List Nat
  | .nm i => [i]
  | .tp is => is
def setAll (env : Vars) : List Nat → List D → Vars
  | i :: is, d :: ds => setAll (env.set i (some d)) is ds
  | _, _ => env
def Tgt.put (env : Vars) : Tgt → D → Option Vars
  | .nm i, d => some (env.set i (some d))
  | .tp is, .tup ds => if ds.length = is.length then some (setAll env is ds) else none
  | .tp _, _ => none
def wipeD (env : Vars) : List Nat → Vars
  | [] => env
  | v :: vs => (wipeD env vs).set v none
def bYes : BM := fun _ S => some (true, S)
def lcN (it : DIt) (vs : List Nat) (t : Tgt) (tt : BM) (te : EM) (env : Vars) : Nat → Nat → List D → Sto → Option (List D × Sto)
  | 0, _, _, _ => none
  | f + 1, i, acc, S => match itAt S it i with
    | none => none
    | some none => some (acc, S)
    | some (some d) => match t.put (wipeD env vs) d with
      | none => none
      | some env1 => match tt env1 S with
        | none => none
        | some (false, S1) => lcN it vs t tt te env f (i + 1) acc S1
        | some (true, S1) => match te env1 S1 with
          | none => none
          | some (y, S2) => if acc.length < sizeLine then lcN it vs t tt te env f (i + 1) (acc ++ [y]) S2 else none
theorem lcN_up {it : DIt} {vs : List Nat} {t : Tgt} {tt : BM} {te : EM} {env : Vars} : ∀ (n i : Nat) (acc : List D) (S : Sto) a, lcN it vs t tt te env n i acc S = some a → lcN it vs t tt te env (n + 1) i acc S = some a
  | 0, _, _, _, _, h => by simp [lcN] at h
  | n + 1, i, acc, S, a, h => by
    unfold lcN at h ⊢
    split at h
    · cases h
    · exact h
    · rename_i d e1
      try simp only [e1]
      split at h
      · cases h
      · rename_i env1 e2
        try simp only [e2]
        split at h
        · cases h
        · rename_i S1 e3
          try simp only [e3]
          exact lcN_up n _ _ _ _ h
        · rename_i S1 e3
          try simp only [e3]
          split at h
          · cases h
          · rename_i y S2 e4
            try simp only [e4]
            split at h
            · rename_i hz
              rw [if_pos hz]
              exact lcN_up n _ _ _ _ h
            · cases h
noncomputable def lcL (it : DIt) (vs : List Nat) (t : Tgt) (tt : BM) (te : EM) (env : Vars) (i : Nat) (acc : List D) (S : Sto) : Option (List D × Sto) := lim fun n => lcN it vs t tt te env n i acc S
theorem lcL_eq (it : DIt) (vs : List Nat) (t : Tgt) (tt : BM) (te : EM) (env : Vars) (i : Nat) (acc : List D) (S : Sto) : lcL it vs t tt te env i acc S = match itAt S it i with
    | none => none
    | some none => some (acc, S)
    | some (some d) => match t.put (wipeD env vs) d with
      | none => none
      | some env1 => match tt env1 S with
        | none => none
        | some (false, S1) => lcL it vs t tt te env (i + 1) acc S1
        | some (true, S1) => match te env1 S1 with
          | none => none
          | some (y, S2) => if acc.length < sizeLine then lcL it vs t tt te env (i + 1) (acc ++ [y]) S2 else none := by
  unfold lcL
  rw [lim_shift (fun n a h => lcN_up n _ _ _ _ h) rfl]
  simp only [lcN]
  cases itAt S it i with
  | none => exact lim_const
  | some o =>
    cases o with
    | none => exact lim_const
    | some d =>
      try simp only
      cases t.put (wipeD env vs) d with
      | none => exact lim_const
      | some env1 =>
        try simp only
        cases tt env1 S with
        | none => exact lim_const
        | some q =>
          obtain ⟨b, S1⟩ := q
          cases b with
          | false => rfl
          | true =>
            try simp only
            cases te env1 S1 with
            | none => exact lim_const
            | some z =>
              try simp only
              split
              · rfl
              · exact lim_const
/-- the list is laid behind the turns -/
noncomputable def mLc (mi : IM) (vs : List Nat) (t : Tgt) (tt : BM) (te : EM) : EM := fun env S => match mi env S with
  | some (it, S1) => match lcL it vs t tt te env 0 [] S1 with
    | some (ds, S2) => some (.loc S2.length, S2 ++ [.lst ds])
    | none => none
  | none => none
end DL
/-! DLd: comprehensions, defs, calls. -/
namespace DL
open PySem PySem.Spec L2
open PyProof.Rows hiding St

theorem wipe_get (σ : L2.St) : ∀ (vs : List Nat) (j : Nat), (wipe σ vs)[j]? = if j ∈ vs then (σ[j]?).map (fun _ => none) else σ[j]?
  | [], j => by simp [wipe]
  | v :: vs, j => by
    have ih := wipe_get σ vs
    unfold wipe
    rw [List.getElem?_set]
    by_cases hj : v = j
    · subst hj
      rw [if_pos rfl, wipe_length]
      by_cases hl : v < σ.length
      · simp [hl]
      · simp [hl, List.getElem?_eq_none (Nat.le_of_not_lt hl)]
    · rw [if_neg hj, ih]
      have : j ∈ v :: vs ↔ j ∈ vs := by
        rw [List.mem_cons]
        exact ⟨fun q => q.elim (fun e => absurd e.symm hj) id, .inr⟩
      by_cases hm : j ∈ vs
      · rw [if_pos hm, if_pos (this.mpr hm)]
      · rw [if_neg hm, if_neg (fun q => hm (this.mp q))]
theorem wipe_set {σ : L2.St} {vs : List Nat} {i : Nat} {a : Option V} (h : i ∈ vs) : wipe (σ.set i a) vs = wipe σ vs := by
  apply List.ext_getElem?
  intro j
  rw [wipe_get, wipe_get, List.getElem?_set]
  by_cases hj : j ∈ vs
  · rw [if_pos hj, if_pos hj]
    by_cases e : i = j
    · subst e
      rw [if_pos rfl]
      by_cases hl : i < σ.length
      · simp [hl]
      · simp [hl]
    · rw [if_neg e]
  · rw [if_neg hj, if_neg hj, if_neg (show ¬ i = j by rintro rfl; exact hj h)]
theorem wipe_wipe {σ : L2.St} {vs : List Nat} : wipe (wipe σ vs) vs = wipe σ vs := by
  apply List.ext_getElem?
  intro j
  rw [wipe_get, wipe_get]
  by_cases hj : j ∈ vs
  · rw [if_pos hj, if_pos hj]; cases σ[j]? <;> rfl
  · rw [if_neg hj]
theorem wipeD_length (env : Vars) : ∀ vs : List Nat, (wipeD env vs).length = env.length
  | [] => rfl
  | v :: vs => by unfold wipeD; rw [List.length_set, wipeD_length env vs]
theorem VarsV.wipe {K r H} {env : Vars} {σ : L2.St} (h : VarsV K r H env σ) : ∀ vs : List Nat, VarsV K r H (wipeD env vs) (L2.wipe σ vs)
  | [] => h
  | v :: vs => by
    have ih := VarsV.wipe h vs
    unfold wipeD L2.wipe
    refine ⟨by simp [ih.len], fun j e hj => ?_⟩
    by_cases hij : v = j
    · subst hij
      rw [List.getElem?_set] at hj
      rw [if_pos rfl] at hj
      split at hj <;> cases hj
    · rw [List.getElem?_set_ne hij] at hj
      rw [List.getElem?_set_ne hij]
      exact ih.at_ j e hj

/-- the target's reading by values -/
def gNms : List Nat → TGs
  | [] => gNil
  | i :: is => gCons (gName i) (gNms is)
def gTgt (K : PySem.W.Frag) : Tgt → TG
  | .nm i => gName i
  | .tp is => gTup K is.length (gNms is)
theorem gNms_ok {K r H} {vs : List Nat} {Q : L2.St → Hp → Prop} : ∀ (is : List Nat) (ds : List D) (us : List V) (env : Vars) (σ : L2.St), DVs K r H ds us → ds.length = is.length → VarsV K r H env σ → (∀ i ∈ is, i ∈ vs) →
    (∀ σ2, VarsV K r H (setAll env is ds) σ2 → wipe σ2 vs = wipe σ vs → Q σ2 H) → gNms is us σ H Q
  | [], [], us, env, σ, h, _, W, _, k => by
    unfold DVs at h
    subst h
    exact ⟨rfl, k σ W rfl⟩
  | i :: is, d :: ds, us, env, σ, h, hl, W, hm, k => by
    unfold DVs at h
    obtain ⟨v, us', rfl, h1, h2⟩ := h
    refine ⟨v, us', rfl, ?_⟩
    exact gNms_ok is ds us' _ _ h2 (by simpa using hl) (W.set i h1) (fun j hj => hm j (List.mem_cons_of_mem _ hj)) fun σ2 W2 e => k σ2 W2 (e.trans (wipe_set (hm i List.mem_cons_self)))
  | [], _ :: _, _, _, _, _, hl, _, _, _ => by simp at hl
  | _ :: _, [], _, _, _, _, hl, _, _, _ => by simp at hl
theorem gTgt_ok {K r H} {vs : List Nat} {Q : L2.St → Hp → Prop} {t : Tgt} {d : D} {x : V} {env env1 : Vars} {σ : L2.St} (h : t.put env d = some env1) (q : DV K r H d x) (W : VarsV K r H env σ) (hm : ∀ i ∈ t.slots, i ∈ vs)
    (k : ∀ σ2, VarsV K r H env1 σ2 → wipe σ2 vs = wipe σ vs → Q σ2 H) : gTgt K t x σ H Q := by
  cases t with
  | nm i =>
    simp only [Tgt.put, Option.some.injEq] at h
    subst h
    exact k _ (W.set i q) (wipe_set (hm i (by simp [Tgt.slots])))
  | tp is =>
    cases d with
    | tup ds =>
      simp only [Tgt.put] at h
      split at h
      · rename_i hl
        cases h
        unfold DV at q
        obtain ⟨a, us, rfl, q1, q2⟩ := q
        exact ⟨a, us, rfl, q1, by rw [q2.length, hl], gNms_ok is ds us env σ q2 hl W hm k⟩
      · cases h
    | non => cases h
    | bl _ => cases h
    | int _ => cases h
    | str _ => cases h
    | loc _ => cases h
    | scr _ => cases h
section
variable {X : Cx} {ca : Nat → Addr} {elt tg iter : Expr} {ifs : List Expr} {scope : Scope} {own : List (Str × Nat)} {mi : IM} {t : Tgt} {tt : BM} {te : EM} {pos : Pos}
/-- what a clause's tests read -/
theorem dts_nil : PTs X [] (liftB (gx X ca) bYes) := ⟨fun pins s σ H Q I ⟨r, env, S, b, S', R, W, h, k⟩ => by
  cases h
  exact pts_nil.run pins s σ H Q I (k r H Ext.refl R)⟩
theorem dts_one {c : Expr} {bc : BM} (h : PT X c (liftB (gx X ca) bc)) : PTs X [c] (liftB (gx X ca) bc) := pts_one h
theorem lc_lift {vs : List Nat} {σ : L2.St} {H : Hp} {Q : VK} (hm : ∀ i ∈ t.slots, i ∈ vs) (h : liftE (gx X ca) (mLc mi vs t tt te) σ H Q) :
    tLc (liftI (gx X ca) mi) (gTgt X.K t) (liftB (gx X ca) tt) (liftE (gx X ca) te) vs σ H Q := by
  obtain ⟨r, env, S, d, S', R, W, h, k⟩ := h
  unfold mLc at h
  split at h
  · rename_i it S1 e1
    split at h
    · rename_i ds S2 e2
      cases h
      obtain ⟨n0, h0⟩ := lim_some e2
      refine ⟨r, env, S, it, S1, R, W, e1, fun r1 H1 J x1 R1 J1 Da hD => ?_⟩
      -- what holds between the turns
      refine ⟨fun i m H2 => ∃ r2 S3 acc accV, Ext X.K r1 H1 r2 H2 ∧ RepS (gx X ca) r2 S3 H2 ∧ H2 Da = some (.lst accV) ∧ Da ∉ r2 ∧ DVs X.K r2 H2 acc accV ∧ lcN it vs t tt te env m i acc S3 = some (ds, S2), ?_, ?_⟩
      · obtain ⟨x2, R2⟩ := R1.side (u := .lst []) hD
        exact ⟨n0, r1, S1, [], [], x2, R2, upd_same, R1.free hD, DVs.nil, h0⟩
      rintro i m H2 ⟨r2, S3, acc, accV, x2, R2, hA, nA, qA, h2⟩
      cases m with
      | zero => simp [lcN] at h2
      | succ m =>
        unfold lcN at h2
        split at h2
        · cases h2
        · rename_i e3
          cases h2
          refine .inl ⟨J1.stop r2 _ H2 i x2 R2 e3, ?_⟩
          obtain ⟨y, R3⟩ := R2.reg hA nA qA
          refine k (r2 ++ [Da]) H2 _ (x1.trans ⟨x2.pre.trans y.pre, x2.tups, x2.scrs, fun a u hu hn => ?_⟩) R3 R2.newLoc
          obtain ⟨z1, z2⟩ := x2.frame a u hu hn
          exact ⟨z1, by simp [z2, ne_of_none hu hD]⟩
        · rename_i d e3
          obtain ⟨go, yl⟩ := J1.go r2 S3 H2 i d x2 R2 e3
          refine .inr ⟨go, fun H9 => ∃ r2 S3 acc accV, Ext X.K r1 H1 r2 H9 ∧ RepS (gx X ca) r2 S3 H9 ∧ H9 Da = some (.lst accV) ∧ Da ∉ r2 ∧ DVs X.K r2 H9 acc accV ∧ lcN it vs t tt te env m (i + 1) acc S3 = some (ds, S2), fun H9 q => ⟨m, Nat.lt_succ_self _, q⟩, fun x H3 hy => ?_⟩
          obtain ⟨r3, x3, R3, q3⟩ := yl x H3 hy
          obtain ⟨hA3, nA3⟩ := x3.frame _ _ hA nA
          split at h2
          · cases h2
          · rename_i env1 e4
            refine gTgt_ok e4 q3 ((W.ext (x1.trans (x2.trans x3))).wipe vs) hm fun σ2 W2 hw => ⟨hw.trans wipe_wipe, ?_⟩
            split at h2
            · cases h2
            · rename_i S4 e5
              refine ⟨r3, env1, S3, _, _, R3, W2, e5, fun r5 H5 x5 R5 => iteF ?_⟩
              obtain ⟨hA5, nA5⟩ := x5.frame _ _ hA3 nA3
              exact ⟨r5, S4, acc, accV, x2.trans (x3.trans x5), R5, hA5, nA5, DVs.ext (x3.trans x5) _ _ qA, h2⟩
            · rename_i S4 e5
              refine ⟨r3, env1, S3, _, _, R3, W2, e5, fun r5 H5 x5 R5 => iteT ?_⟩
              obtain ⟨hA5, nA5⟩ := x5.frame _ _ hA3 nA3
              split at h2
              · cases h2
              · rename_i y S6 e6
                split at h2
                · rename_i hz
                  refine ⟨r5, env1, S4, _, _, R5, W2.ext x5, e6, fun r7 H7 v7 x7 R7 q7 => ?_⟩
                  obtain ⟨hA7, nA7⟩ := x7.frame _ _ hA5 nA5
                  have qA7 : DVs X.K r7 H7 acc accV := DVs.ext (x3.trans (x5.trans x7)) _ _ qA
                  obtain ⟨y8, R8⟩ := R7.sideW (us := accV ++ [v7]) hA7 nA7
                  refine ⟨accV, hA7, by rw [qA7.length]; exact hz, r7, S6, acc ++ [y], accV ++ [v7], ⟨(x2.trans (x3.trans (x5.trans x7))).pre, fun a us hh => y8.tups _ _ ((x2.trans (x3.trans (x5.trans x7))).tups _ _ hh), fun a us hh => y8.scrs _ _ ((x2.trans (x3.trans (x5.trans x7))).scrs _ _ hh), fun a u hu hn => ?_⟩, R8, upd_same, nA7, (DVs.extW y8 _ _ qA7).append (DVs.cons (DV.extW y8 _ _ q7) DVs.nil), h2⟩
                  obtain ⟨z1, z2⟩ := (x2.trans (x3.trans (x5.trans x7))).frame a u hu hn
                  exact ⟨by rw [upd_ne (ne_of_none hu hD)]; exact z1, z2⟩
                · cases h2
    · cases h
  · cases h
theorem de_lc (hN : X.N.Nodup) (ok : BlkOk X.N X.env.scope scope own) (hm : ∀ i ∈ t.slots, i ∈ own.map (·.2)) (hi : PI X tg iter (liftI (gx X ca) mi))
    (hg : ∀ (s : Shared) (H : Hp) (C : Addr) (cl : List (Str × Addr)) (fp : List Addr), PG (X.blk s H scope (compEnvC scope cl C X.env) fp) tg (gTgt X.K t)) (ht : ∀ (s : Shared) (H : Hp) (C : Addr) (cl : List (Str × Addr)) (fp : List Addr), PTs (X.blk s H scope (compEnvC scope cl C X.env) fp) ifs (liftB (gx X ca) tt))
    (he : ∀ (s : Shared) (H : Hp) (C : Addr) (cl : List (Str × Addr)) (fp : List Addr), PE (X.blk s H scope (compEnvC scope cl C X.env) fp) elt (liftE (gx X ca) te)) (hc : X.calm = true := by rfl) (hs : ∀ x, foldedSetIterable iter X.env x = pure x := by intro _; rfl) :
    PE X (.ListComp elt [⟨tg, iter, ifs, 0⟩] scope pos) (liftE (gx X ca) (mLc mi (own.map (·.2)) t tt te)) := wkE (pe_lc hc hN hi ok hg ht he hs) fun _ _ _ h => lc_lift hm h
theorem ds_setLc {i : Nat} {y : Str} {py spos : Pos} (hN : X.N.Nodup) (hsw : swapsWith (.ListComp elt [⟨tg, iter, ifs, 0⟩] scope pos) (some (.Name y py)) spos.line X.env = pure true) (ok : BlkOk X.N X.env.scope scope own) (hm : ∀ i ∈ t.slots, i ∈ own.map (·.2)) (hi : PI X tg iter (liftI (gx X ca) mi))
    (hg : ∀ (s : Shared) (H : Hp) (C : Addr) (cl : List (Str × Addr)) (fp : List Addr), PG (X.blk s H scope (compEnvC scope cl C X.env) fp) tg (gTgt X.K t)) (ht : ∀ (s : Shared) (H : Hp) (C : Addr) (cl : List (Str × Addr)) (fp : List Addr), PTs (X.blk s H scope (compEnvC scope cl C X.env) fp) ifs (liftB (gx X ca) tt))
    (he : ∀ (s : Shared) (H : Hp) (C : Addr) (cl : List (Str × Addr)) (fp : List Addr), PE (X.blk s H scope (compEnvC scope cl C X.env) fp) elt (liftE (gx X ca) te)) (hy : X.N[i]? = some y := by rfl) (hyl : X.env.scope.names.lookup y = some .local := by rfl) (hc : X.calm = true := by rfl) (hs : ∀ x, foldedSetIterable iter X.env x = pure x := by intro _; rfl) :
    PS X (.Assign [.Name y py] (.ListComp elt [⟨tg, iter, ifs, 0⟩] scope pos) spos) (liftS (gx X ca) (sAsg (mLc mi (own.map (·.2)) t tt te) (gVar i))) :=
  wkS (ps_setLc hc hN hy hyl hsw hi ok hg ht he hs) fun E σ H ⟨r, env, S, fl, env', S', R, W, h, k⟩ => by
    unfold sAsg gVar at h
    split at h
    · rename_i d S1 e1
      cases h
      exact lc_lift hm ⟨r, env, S, d, _, R, W, e1, fun r1 H1 v x1 R1 q1 => k r1 _ H1 x1 R1 ((W.ext x1).set i q1)⟩
    · cases h
end

/-! ### defs and calls -/
abbrev FM := List D → Sto → Option (D × Sto)
def spD (G : Ctx) (n : Nat) (m : FM) : Sp := fun vs H Q _ => ∃ r S ds d S', RepS G r S H ∧ DVs G.K r H ds vs ∧ ds.length = n ∧ m ds S = some (d, S') ∧ ∀ r' H' v, Ext G.K r H r' H' → RepS G r' S' H' → DV G.K r' H' d v → Q v H'
/-- a def's body run at its arguments, n names in all -/
def runB (n : Nat) (b : SM) : FM := fun ds S => match b (ds.map some ++ List.replicate (n - ds.length) none) S with
  | some (.rt d, _, S') => some (d, S')
  | some (.nx, _, S') => some (.non, S')
  | _ => none
theorem vars_start {K r H} {N : List Str} : ∀ {ds : List D} {vs : List V}, DVs K r H ds vs → VarsV K r H (ds.map some ++ List.replicate (N.length - ds.length) none) (L2.start N vs) := by
  intro ds vs h
  unfold L2.start
  refine ⟨by simp [h.length], fun i d e => ?_⟩
  by_cases hi : i < ds.length
  · rw [List.getElem?_append_left (by simpa using hi)] at e
    rw [List.getElem?_map] at e
    have e' : ds[i]? = some d := by
      cases q : ds[i]? with
      | none => rw [q] at e; cases e
      | some x => rw [q] at e; cases e; rfl
    obtain ⟨v, ev, qv⟩ := h.get e'
    exact ⟨v, by rw [List.getElem?_append_left (by simpa [h.length] using hi), List.getElem?_map, ev]; rfl, qv⟩
  · rw [List.getElem?_append_right (by simpa using hi), List.getElem?_replicate] at e
    split at e <;> cases e
section
variable {P : Program} {w : World} {K : PySem.W.Frag} {mg : Str → Option Value} {base : Heap} {ca : Nat → Addr}
abbrev bx (P : Program) (w : World) (K : PySem.W.Frag) (mg : Str → Option Value) (base : Heap) (N : List Str) (qual : Str) (sc : Scope) (f : Addr) (cdv : Value) (A : Around) (outer : List Env) (s : Shared) (H : Hp) (E : XK) : Cx :=
  (cxOf CX0 P w K mg base N qual sc f cdv A outer s H E).nox
theorem fun_ok {x qual : Str} {st : Stmt} {f : Addr} {fd : FuncData} {N ps : List Str} {k : Nat} {b : SM} (F : Fun K x qual st f fd) (S : FnScope N ps (defScope st))
    (hb : ∀ (cdv : Value) (A : Around) (outer : List Env) (s : Shared) (H : Hp) (E : XK), Room k (A.deeper (envOfC qual (defScope st) s.heap.objs.size f cdv)) → PSs (bx P w K mg base N qual (defScope st) f cdv A outer s H E) (defBody st) (liftS ⟨K, w, ca⟩ b)) :
    FnOk P w K mg base CX0 (k + 1) f fd ps (spD ⟨K, w, ca⟩ ps.length (runB N.length b)) := by
  refine F.ok S (fun vs H Q E h => ?_) (fun cdv A outer s H vs Q E hr h => ⟨_, hb cdv A outer s H E hr, ?_⟩)
  · obtain ⟨r, S, ds, d, S', R, q, hl, _⟩ := h
    rw [q.length, hl]
  · obtain ⟨r, S, ds, d, S', R, q, hl, e, k⟩ := h
    unfold runB at e
    split at e
    · rename_i d' env' S1 e1
      cases e
      exact ⟨r, _, S, _, env', _, R, vars_start q, e1, fun r1 σ1 H1 x1 R1 W1 v qv => k r1 H1 v x1 R1 qv⟩
    · rename_i env' S1 e1
      cases e
      exact ⟨r, _, S, _, env', _, R, vars_start q, e1, fun r1 σ1 H1 x1 R1 W1 => k r1 H1 .non x1 R1 (by unfold DV; rfl)⟩
    · cases e
/-- at level 0 nothing is promised -/
theorem fn_zero {k : Nat} {f : Addr} {fd : FuncData} {ps : List Str} {m : FM} (h : ∀ ds S, m ds S = none) : FnOk P w K mg base CX0 k f fd ps (spD ⟨K, w, ca⟩ ps.length m) :=
  ⟨fun vs H Q E ⟨r, S, ds, d, S', R, q, hl, e, _⟩ => by rw [q.length, hl], fun A outer s H args us vs Q E hr e0 hb r ⟨_, S, ds, d, S', R, q, hl, e, _⟩ => by rw [h] at e; cases e⟩
end
section
variable {X : Cx} {ca : Nat → Addr} {k : Nat} {f : Addr} {fd : FuncData} {ps : List Str} {m : FM} {x : Str} {p pos : Pos} {e : Expr} {es : List Expr} {la : LM} {n : Nat}
theorem liftCall {G : Ctx} {σ : L2.St} {H : Hp} {Q : VK} {E : XK} (hl : ∀ env S ds S', la env S = some (ds, S') → ds.length = n) (h : liftE G (mL m la) σ H Q) : liftL G la σ H fun vs H1 => spD G n m vs H1 Q E := by
  obtain ⟨r, env, S, d, S', R, W, h, k⟩ := h
  unfold mL at h
  split at h
  · rename_i ds S1 e1
    exact ⟨r, env, S, ds, S1, R, W, e1, fun r1 H1 vs x1 R1 q1 => ⟨r1, S1, ds, d, S', R1, q1, hl _ _ _ _ e1, h, fun r2 H2 v x2 R2 q2 => k r2 H2 v (x1.trans x2) R2 q2⟩⟩
  · cases h
/-- how many an argument list gives -/
inductive Len : LM → Nat → Prop where
  | nil : Len lNil 0
  | cons {a : EM} {l : LM} {n : Nat} : Len l n → Len (lCons a l) (n + 1)
theorem Len.ok {l : LM} {n : Nat} (h : Len l n) : ∀ env S ds S', l env S = some (ds, S') → ds.length = n := by
  induction h with
  | nil => intro env S ds S' e; cases e; rfl
  | cons h ih =>
    intro env S ds S' e
    unfold lCons at e
    split at e
    · split at e
      · rename_i e2
        cases e
        simp [ih _ _ _ _ e2]
      · cases e
    · cases e
theorem de_call (F : FnOk X.prog X.w X.K X.mg X.base CX0 k f fd ps (spD (gx X ca) n m)) (hr : Room k X.A) (hm : X.mg x = some (.ref f)) (hk : PySem.W.keepIn X.K (.ref f) = true) (hb : Binds X.K fd ps []) (hl : Len la n) (ha : PA X (e :: es) (liftL (gx X ca) la)) (hg : Gl X x := by rfl)
    (hdb : (x == ("__debug__" : Str)) = false := by decide) (he : starEach (e :: es) X.env = (false, eval e X.env) :: starEach es X.env := by rfl) (hpl : (backTo pos (starEach es X.env)).any (·.1) = false := by rfl) :
    PE X (.Call (.Name x p) (e :: es) [] pos) (liftE (gx X ca) (mL m la)) :=
  wkE (pe_call (E := E0) F hr hg hm hk hb .nil pass0 ha hdb he hpl) fun σ H Q h => by
    show liftL _ la σ H fun vs H1 => spD _ n m (vs ++ []) H1 Q E0
    simp only [List.append_nil]
    exact liftCall hl.ok h
theorem de_call0 (F : FnOk X.prog X.w X.K X.mg X.base CX0 k f fd ps (spD (gx X ca) 0 m)) (hr : Room k X.A) (hm : X.mg x = some (.ref f)) (hk : PySem.W.keepIn X.K (.ref f) = true) (hb : Binds X.K fd ps []) (hg : Gl X x := by rfl)
    (hdb : (x == ("__debug__" : Str)) = false := by decide) :
    PE X (.Call (.Name x p) [] [] pos) (liftE (gx X ca) (mL m lNil)) :=
  wkE (pe_call0 (E := E0) F hr hg hm hk hb .nil pass0 hdb) fun σ H Q h => by
    obtain ⟨r, env, S, d, S', R, W, h, k⟩ := h
    exact ⟨r, S, [], d, S', R, DVs.nil, rfl, h, fun r2 H2 v x2 R2 q2 => k r2 H2 v x2 R2 q2⟩
end
end DL
/-! DLe: operators, comparisons, built-ins, methods of lists. -/
namespace DL
open PySem PySem.Spec L2
open PyProof.Rows hiding St

/-! ### arithmetic -/
def addP : D → D → Sto → Option (D × Sto)
  | .int i, .int j, S => some (.int (i + j), S)
  | .str x, .str y, S => if x.length + y.length ≤ sizeLine then some (.str (x ++ y), S) else none
  | .tup xs, .tup ys, S => if xs.length + ys.length ≤ sizeLine then some (.tup (xs ++ ys), S) else none
  | .loc m, .loc n, S => match S[m]?, S[n]? with
    | some (.lst xs), some (.lst ys) => if xs.length + ys.length ≤ sizeLine then some (.loc S.length, S ++ [.lst (xs ++ ys)]) else none
    | _, _ => none
  | _, _, _ => none
def intP (f : Int → Int → Int) : D → D → Sto → Option (D × Sto)
  | .int i, .int j, S => some (.int (f i j), S)
  | _, _, _ => none
def small (i : Int) : Bool := decide (-(2 ^ 64) < i) && decide (i < 2 ^ 64)
def mulP : D → D → Sto → Option (D × Sto)
  | .int i, .int j, S => if small i || small j then some (.int (i * j), S) else none
  | _, _, _ => none
def divP : D → D → Sto → Option (D × Sto)
  | .int i, .int j, S => if decide (0 < j) && decide (j < 1073741824) then some (.int (i / j), S) else none
  | _, _, _ => none
def modP : D → D → Sto → Option (D × Sto)
  | .int i, .int j, S => if 0 < j then some (.int (i % j), S) else none
  | _, _, _ => none
def powP : D → D → Sto → Option (D × Sto)
  | .int i, .int j, S => if decide (0 ≤ j) && decide (j ≤ 1000000) && decide (i.natAbs < 2 ^ 64) then some (.int (i ^ j.toNat), S) else none
  | _, _, _ => none
def negP : D → Sto → Option (D × Sto)
  | .int i, S => some (.int (-i), S)
  | _, _ => none
section
variable {X : Cx} {ca : Nat → Addr} {G : Ctx}
theorem dv_int {K r H} {i : Int} {v : V} (h : DV K r H (.int i) v) : v = .int i := by unfold DV at h; exact h
theorem dv_bl {K r H} {i : Bool} {v : V} (h : DV K r H (.bl i) v) : v = .bl i := by unfold DV at h; exact h
theorem dv_str {K r H} {i : Str} {v : V} (h : DV K r H (.str i) v) : v = .str i := by unfold DV at h; exact h
theorem dv_tup {K r H} {ds : List D} {v : V} (h : DV K r H (.tup ds) v) : ∃ a vs, v = .ref a ∧ SqT K H a vs ∧ DVs K r H ds vs := by unfold DV at h; exact h
theorem dv_loc {K r H} {n : Nat} {v : V} (h : DV K r H (.loc n) v) : ∃ a, r[n]? = some a ∧ v = .ref a := by unfold DV at h; exact h
theorem mk_int {K r H} {i : Int} : DV K r H (.int i) (.int i) := by unfold DV; rfl
theorem mk_bl {K r H} {i : Bool} : DV K r H (.bl i) (.bl i) := by unfold DV; rfl
theorem mk_str {K r H} {i : Str} : DV K r H (.str i) (.str i) := by unfold DV; rfl
theorem mk_non {K r H} : DV K r H .non .non := by unfold DV; rfl
theorem RepS.lstAt {r : List Addr} {S : Sto} {H : Hp} (R : RepS G r S H) {n : Nat} {a : Addr} {ds : List D} (e : S[n]? = some (.lst ds)) (ea : r[n]? = some a) : ∃ vs, H a = some (.lst vs) ∧ DVs G.K r H ds vs := R.at_ n _ a e ea

def rAddAll (K : PySem.W.Frag) : R2 := fun x y H Q => (rI0 fun i j => .int (i + j)) x y H Q ∨ (fun x y H Q => ∃ i j, x = V.str i ∧ y = V.str j ∧ i.length + j.length ≤ sizeLine ∧ Q (V.str (i ++ j)) H) x y H Q ∨ rCatA K x y H Q ∨ rCat x y H Q
theorem op_addAll : OpR X (binaryOp .Add) (rAddAll X.K) := op_add.or (op_add_str.or (op_catA.or op_cat))
theorem prim_add : Prim2 G (rAddAll G.K) addP := by
  intro r S H x y v w d S' Q R hv hw h k
  unfold addP at h
  split at h
  · cases h
    rw [dv_int hv, dv_int hw]
    exact .inl ⟨_, _, rfl, rfl, k r H _ Ext.refl R mk_int⟩
  · split at h
    · rename_i hz
      cases h
      rw [dv_str hv, dv_str hw]
      exact .inr (.inl ⟨_, _, rfl, rfl, hz, k r H _ Ext.refl R mk_str⟩)
    · cases h
  · rename_i xs ys
    split at h
    · rename_i hz
      cases h
      obtain ⟨a, vs, rfl, h1, h2⟩ := dv_tup hv
      obtain ⟨b, ws, rfl, h3, h4⟩ := dv_tup hw
      refine .inr (.inr (.inl ⟨a, b, vs, ws, rfl, rfl, h1, h3, by rw [h2.length, h4.length]; exact hz, fun e => ?_, fun _ e => ?_, fun _ _ p hp => ?_⟩))
      · have hx : xs = [] := by have := h2.length; rw [e] at this; exact List.length_eq_zero_iff.mp this.symm
        subst hx
        exact k r H _ Ext.refl R hw
      · have hy : ys = [] := by have := h4.length; rw [e] at this; exact List.length_eq_zero_iff.mp this.symm
        subst hy
        rw [List.append_nil] at k
        exact k r H _ Ext.refl R hv
      · obtain ⟨x, R'⟩ := R.tup (vs := vs ++ ws) hp
        exact k r _ _ x R' (DV.tup_mk (SqT.of upd_same) (DVs.ext x _ _ (h2.append h4)))
    · cases h
  · split at h
    · rename_i m n S xs ys e1 e2
      split at h
      · rename_i hz
        cases h
        obtain ⟨a, ea, rfl⟩ := dv_loc hv
        obtain ⟨b, eb, rfl⟩ := dv_loc hw
        obtain ⟨vs, h1, q1⟩ := R.lstAt e1 ea
        obtain ⟨ws, h2, q2⟩ := R.lstAt e2 eb
        refine .inr (.inr (.inr ⟨a, b, vs, ws, rfl, rfl, h1, h2, by rw [q1.length, q2.length]; exact hz, fun p hp => ?_⟩))
        obtain ⟨x, R'⟩ := R.lst hp (q1.append q2)
        exact k _ _ _ x R' R.newLoc
      · cases h
    · cases h
  · cases h
theorem prim_int {f : Int → Int → Int} {g : Int → Int → V} (hg : ∀ i j, g i j = .int (f i j)) : Prim2 G (rI0 g) (intP f) := by
  intro r S H x y v w d S' Q R hv hw h k
  unfold intP at h
  split at h
  · cases h
    rw [dv_int hv, dv_int hw]
    exact ⟨_, _, rfl, rfl, by rw [hg]; exact k r H _ Ext.refl R mk_int⟩
  · cases h
theorem prim_mul : Prim2 G (rI CMul fun i j => .int (i * j)) mulP := by
  intro r S H x y v w d S' Q R hv hw h k
  unfold mulP at h
  split at h
  · split at h
    · rename_i hz
      cases h
      rw [dv_int hv, dv_int hw]
      refine ⟨_, _, rfl, rfl, ?_, k r H _ Ext.refl R mk_int⟩
      simp only [small, Bool.or_eq_true, Bool.and_eq_true, decide_eq_true_eq] at hz
      exact hz
    · cases h
  · cases h
theorem prim_div : Prim2 G (rI CDiv fun i j => .int (i / j)) divP := by
  intro r S H x y v w d S' Q R hv hw h k
  unfold divP at h
  split at h
  · split at h
    · rename_i hz
      cases h
      rw [dv_int hv, dv_int hw]
      refine ⟨_, _, rfl, rfl, ?_, k r H _ Ext.refl R mk_int⟩
      simp only [Bool.and_eq_true, decide_eq_true_eq] at hz
      exact hz
    · cases h
  · cases h
theorem prim_mod : Prim2 G (rI (fun _ j => 0 < j) fun i j => .int (i % j)) modP := by
  intro r S H x y v w d S' Q R hv hw h k
  unfold modP at h
  split at h
  · split at h
    · rename_i hz
      cases h
      rw [dv_int hv, dv_int hw]
      exact ⟨_, _, rfl, rfl, hz, k r H _ Ext.refl R mk_int⟩
    · cases h
  · cases h
theorem prim_pow : Prim2 G (rI CPow fun i j => .int (i ^ j.toNat)) powP := by
  intro r S H x y v w d S' Q R hv hw h k
  unfold powP at h
  split at h
  · split at h
    · rename_i hz
      cases h
      rw [dv_int hv, dv_int hw]
      refine ⟨_, _, rfl, rfl, ?_, k r H _ Ext.refl R mk_int⟩
      simp only [Bool.and_eq_true, decide_eq_true_eq] at hz
      exact ⟨hz.1.1, hz.1.2, hz.2⟩
    · cases h
  · cases h
theorem prim_neg : Prim1 G (rU fun i => .int (-i)) negP := by
  intro r S H x v d S' Q R hv h k
  unfold negP at h
  split at h
  · cases h
    rw [dv_int hv]
    exact ⟨_, rfl, k r H _ Ext.refl R mk_int⟩
  · cases h
end

/-! ### equality and order of data -/
mutual
def D.py : D → PyData
  | .non => .none
  | .bl b => .bool b
  | .int i => .int i
  | .str x => .str x
  | .tup ds => .tuple (D.pys ds)
  | .loc _ => .none
  | .scr _ => .none
def D.pys : List D → List PyData
  | [] => []
  | d :: ds => D.py d :: D.pys ds
end
def pyOf (S : Sto) (d : D) : Option PyData := if d.pure = true then some d.py else match seqD S d with
  | some ds => if D.pures ds = true then (match d with | .loc _ => some (.list (D.pys ds)) | _ => none) else none
  | none => none
mutual
theorem dp_of {K r H} : ∀ (d : D) (v : V), DV K r H d v → d.pure = true → Dp K H v d.py
  | .non, v, h, _ => by unfold DV at h; subst h; exact .non
  | .bl b, v, h, _ => by unfold DV at h; subst h; exact .bl b
  | .int b, v, h, _ => by unfold DV at h; subst h; exact .int b
  | .str b, v, h, _ => by unfold DV at h; subst h; exact .str b
  | .tup ds, v, h, p => by
    unfold DV at h
    obtain ⟨a, vs, rfl, h1, h2⟩ := h
    exact .tup h1 (dps_of ds vs h2 (by simpa [D.pure] using p))
  | .loc _, _, _, p => by simp [D.pure] at p
  | .scr _, _, _, p => by simp [D.pure] at p
theorem dps_of {K r H} : ∀ (ds : List D) (vs : List V), DVs K r H ds vs → D.pures ds = true → DpAll K H vs (D.pys ds)
  | [], _, h, _ => by unfold DVs at h; subst h; exact .nil
  | d :: ds, _, h, p => by
    unfold DVs at h
    obtain ⟨v, us, rfl, h1, h2⟩ := h
    simp only [D.pures, Bool.and_eq_true] at p
    exact .cons (dp_of d v h1 p.1) (dps_of ds us h2 p.2)
end
theorem dp_pyOf {G : Ctx} {r : List Addr} {S : Sto} {H : Hp} {d : D} {v : V} {p : PyData} (R : RepS G r S H) (q : DV G.K r H d v) (h : pyOf S d = some p) : Dp G.K H v p := by
  unfold pyOf at h
  split at h
  · rename_i hp
    cases h
    exact dp_of d v q hp
  · split at h
    · rename_i ds e
      split at h
      · rename_i hp
        split at h
        · cases h
          obtain ⟨a, vs, rfl, q2, h3⟩ := seq_cases R q e
          rcases h3 with ⟨z, _⟩ | ⟨n, _, _, hs⟩
          · cases z
          · exact .lst hs (dps_of ds vs q2 hp)
        · cases h
      · cases h
    · cases h
def eqP : D → D → Sto → Option (D × Sto) := fun a b S => match pyOf S a, pyOf S b with
  | some p, some q => if SeqAt.shaped p = true ∧ SeqAt.shaped q = true then some (.bl (PyData.eqv p q), S) else none
  | _, _ => none
def neP : D → D → Sto → Option (D × Sto) := fun a b S => match pyOf S a, pyOf S b with
  | some p, some q => if SeqAt.shaped p = true ∧ SeqAt.shaped q = true then some (.bl (!PyData.eqv p q), S) else none
  | _, _ => none
/-- in a list or a tuple -/
def inP : D → D → Sto → Option (D × Sto) := fun a b S => match seqD S b with
  | some ds => if a.pure = true ∧ D.pures ds = true ∧ SeqAt.shaped a.py = true ∧ SeqAt.shaped (.list (D.pys ds)) = true then some (.bl (ds.any fun z => PyData.eqv z.py a.py), S) else none
  | none => none
def notInP : D → D → Sto → Option (D × Sto) := fun a b S => match seqD S b with
  | some ds => if a.pure = true ∧ D.pures ds = true ∧ SeqAt.shaped a.py = true ∧ SeqAt.shaped (.list (D.pys ds)) = true then some (.bl (!ds.any fun z => PyData.eqv z.py a.py), S) else none
  | none => none
theorem pys_any (f : PyData → Bool) : ∀ ds : List D, (D.pys ds).any f = ds.any fun z => f z.py
  | [] => rfl
  | d :: ds => by simp only [D.pys, List.any_cons, pys_any f ds]
section
variable {X : Cx} {G : Ctx}
def rInT (K : PySem.W.Frag) : R2 := fun x y H Q => ∃ d ds, Dp K H x d ∧ Dp K H y (.tuple ds) ∧ SeqAt.shaped d = true ∧ SeqAt.shaped (.list ds) = true ∧ Q (.bl (ds.any fun z => PyData.eqv z d)) H
def rNotInT (K : PySem.W.Frag) : R2 := fun x y H Q => ∃ d ds, Dp K H x d ∧ Dp K H y (.tuple ds) ∧ SeqAt.shaped d = true ∧ SeqAt.shaped (.list ds) = true ∧ Q (.bl (!ds.any fun z => PyData.eqv z d)) H
theorem shaped_lay {ds : List PyData} (h : SeqAt.shaped (.list ds) = true) : PyData.canLayAll0 ds = true := SeqAt.canLay_of_shaped h
theorem op_inT (hu : X.A.units + 65 < cLine) : OpR X (compareOp .In) (rInT X.K) := by
  intro pins s σ H x y v u Q I rx ry h
  obtain ⟨d, ds, hd, he, sd, se, q⟩ := h
  obtain ⟨as, r1⟩ := Dp.reads I d x v hd rx
  obtain ⟨bs, r2⟩ := Dp.reads I (.tuple ds) y u he ry
  exact SeqAt.in_tuple_reads r2 r1 (shaped_lay se) (SeqAt.canLay_of_shaped sd) (room_in_shaped sd hu) ⟨.bl _, H, I, rfl, q⟩
theorem op_notInT (hu : X.A.units + 65 < cLine) : OpR X (compareOp .NotIn) (rNotInT X.K) := by
  intro pins s σ H x y v u Q I rx ry h
  obtain ⟨d, ds, hd, he, sd, se, q⟩ := h
  obtain ⟨as, r1⟩ := Dp.reads I d x v hd rx
  obtain ⟨bs, r2⟩ := Dp.reads I (.tuple ds) y u he ry
  exact SeqAt.notIn_tuple_reads r2 r1 (shaped_lay se) (SeqAt.canLay_of_shaped sd) (room_in_shaped sd hu) ⟨.bl _, H, I, rfl, q⟩
theorem Room.u65 {k : Nat} {A : Around} (hr : Room k A) : A.units + 65 < cLine := by have := hr.un; omega
def rInLT (K : PySem.W.Frag) : R2 := fun x y H Q => rInD K x y H Q ∨ rInT K x y H Q
def rNotInLT (K : PySem.W.Frag) : R2 := fun x y H Q => rNotInD K x y H Q ∨ rNotInT K x y H Q
theorem op_inLT (hu : X.A.units + 65 < cLine) : OpR X (compareOp .In) (rInLT X.K) := (op_inD hu).or (op_inT hu)
theorem op_notInLT (hu : X.A.units + 65 < cLine) : OpR X (compareOp .NotIn) (rNotInLT X.K) := (op_notInD hu).or (op_notInT hu)
theorem prim_eq : Prim2 G (rEqD G.K) eqP := by
  intro r S H x y v w d S' Q R hv hw h k
  unfold eqP at h
  split at h
  · rename_i p q e1 e2
    split at h
    · rename_i hs
      cases h
      exact ⟨p, q, dp_pyOf R hv e1, dp_pyOf R hw e2, hs.1, hs.2, k r H _ Ext.refl R mk_bl⟩
    · cases h
  · cases h
theorem prim_ne : Prim2 G (rNeD G.K) neP := by
  intro r S H x y v w d S' Q R hv hw h k
  unfold neP at h
  split at h
  · rename_i p q e1 e2
    split at h
    · rename_i hs
      cases h
      exact ⟨p, q, dp_pyOf R hv e1, dp_pyOf R hw e2, hs.1, hs.2, k r H _ Ext.refl R mk_bl⟩
    · cases h
  · cases h
theorem prim_in : Prim2 G (rInLT G.K) inP := by
  intro r S H x y v w d S' Q R hv hw h k
  unfold inP at h
  split at h
  · rename_i ds e1
    split at h
    · rename_i hs
      obtain ⟨p1, p2, s1, s2⟩ := hs
      cases h
      rw [← pys_any (fun z => PyData.eqv z x.py)] at k
      obtain ⟨a, vs, rfl, q2, h3⟩ := seq_cases R hw e1
      rcases h3 with ⟨rfl, ht⟩ | ⟨n, _, _, hl⟩
      · exact .inr ⟨x.py, D.pys ds, dp_of x v hv p1, .tup ht (dps_of ds vs q2 p2), s1, s2, k r H _ Ext.refl R mk_bl⟩
      · exact .inl ⟨x.py, D.pys ds, dp_of x v hv p1, .lst hl (dps_of ds vs q2 p2), s1, s2, k r H _ Ext.refl R mk_bl⟩
    · cases h
  · cases h
theorem prim_notIn : Prim2 G (rNotInLT G.K) notInP := by
  intro r S H x y v w d S' Q R hv hw h k
  unfold notInP at h
  split at h
  · rename_i ds e1
    split at h
    · rename_i hs
      obtain ⟨p1, p2, s1, s2⟩ := hs
      cases h
      rw [← pys_any (fun z => PyData.eqv z x.py)] at k
      obtain ⟨a, vs, rfl, q2, h3⟩ := seq_cases R hw e1
      rcases h3 with ⟨rfl, ht⟩ | ⟨n, _, _, hl⟩
      · exact .inr ⟨x.py, D.pys ds, dp_of x v hv p1, .tup ht (dps_of ds vs q2 p2), s1, s2, k r H _ Ext.refl R mk_bl⟩
      · exact .inl ⟨x.py, D.pys ds, dp_of x v hv p1, .lst hl (dps_of ds vs q2 p2), s1, s2, k r H _ Ext.refl R mk_bl⟩
    · cases h
  · cases h
end

/-! a < b -/
mutual
/-- None where Python raises -/
def ltD : D → D → Option Bool
  | .int i, .int j => some (decide (i < j))
  | .str x, .str y => some (decide (x.cps.toList < y.cps.toList))
  | .tup xs, .tup ys => ltDs xs ys
  | _, _ => none
def ltDs : List D → List D → Option Bool
  | [], [] => some false
  | [], _ :: _ => some true
  | _ :: _, [] => some false
  | x :: xs, y :: ys => if PyData.eqv x.py y.py = true then ltDs xs ys else ltD x y
end
def ltP : D → D → Sto → Option (D × Sto) := fun a b S => match ltD a b with
  | some c => if a.pure = true ∧ b.pure = true ∧ SeqAt.shaped a.py = true ∧ SeqAt.shaped b.py = true then some (.bl c, S) else none
  | none => none
/-- two rows of values compared from the left -/
inductive CmpL (A : Around) (s : Shared) : List Value → List Value → Bool → Prop where
  | nn : CmpL A s [] [] false
  | nc {y : Value} {ys : List Value} : CmpL A s [] (y :: ys) true
  | cn {x : Value} {xs : List Value} : CmpL A s (x :: xs) [] false
  | eq {x y : Value} {xs ys : List Value} {c : Bool} : SeqAt.EqAt A s x y true → CmpL A s xs ys c → CmpL A s (x :: xs) (y :: ys) c
  | lt {x y : Value} {xs ys : List Value} {c : Bool} : SeqAt.EqAt A s x y false → SeqAt.RcLt A s x y c → CmpL A s (x :: xs) (y :: ys) c
section
open PySem.SeqAt
open PySem.AutoSeq1 (wpAny_loadPart')
open PySem.MeetsSeq PySem.MeetsSeq2 PySem.MeetsSeq3 PySem.SeqRoads2
theorem tup_cmp (p q : Addr) (us ws : Array Value) (e1 e2 : Nat) (d1 d2 : Option Addr) (z1 z2 : Array (Option Value)) (c : Bool) :
    Meets (Builtin.«tuple.__lt__» ⟨[.ref p, .ref q], []⟩) (fun A R s => s.heap.get? p = some { cls := .type "tuple", dict := d1, data := .seq us e1, slots := z1 } ∧
      s.heap.get? q = some { cls := .type "tuple", dict := d2, data := .seq ws e2, slots := z2 } ∧ CmpL A.in1 s us.toList ws.toList c ∧ R (.ok (.ret (.bool c))) s) :=
  .of_wp fun prog w A R st hyp => by
    obtain ⟨hp, gn, dr, tk, os⟩ := st
    obtain ⟨gp, gq, cm, fin⟩ := hyp
    have tt := AutoSeq1.sub_tuple_tuple
    wp_walk using wpAny_loadPart' gp, wpAny_loadPart' gq, wpAny_forIn_list _ (fun todo acc st' => acc.1 = none ∧ st' = ⟨hp, gn, dr, tk, os⟩ ∧ ∃ as bs, todo = as.zip bs ∧ CmpL A.in1 ⟨hp, gn, dr, tk, os⟩ as bs c ∧
      decide (as.length < bs.length) = decide (us.size < ws.size)) _
    case turn =>
      rintro ⟨a, b⟩ todo acc st' ⟨ha, rfl, as, bs, hz, hc, hl⟩
      cases hc with
      | nn => simp at hz
      | nc => simp at hz
      | cn => simp at hz
      | @eq x y xs ys _ h1 h2 =>
        simp only [List.zip_cons_cons, List.cons.injEq, Prod.mk.injEq] at hz
        obtain ⟨⟨rfl, rfl⟩, rfl⟩ := hz
        refine wpAny_bind (h1 prog w _ _ ?_)
        wp_walk
        refine ⟨rfl, rfl, xs, ys, rfl, h2, ?_⟩
        rw [← hl]
        simp
      | @lt x y xs ys _ h1 h2 =>
        simp only [List.zip_cons_cons, List.cons.injEq, Prod.mk.injEq] at hz
        obtain ⟨⟨rfl, rfl⟩, rfl⟩ := hz
        refine wpAny_bind (h1 prog w _ _ ?_)
        have hri := h2 prog w
        wp_walk using hri
        exact ⟨_, rfl, by simpa using fin⟩
    case fin =>
      rintro ⟨o1, o2⟩ st' ⟨ho, rfl, as, bs, hz, hc, hl⟩
      simp only at ho
      subst ho
      have key : decide (us.size < ws.size) = c := by
        rw [← hl]
        cases hc with
        | nn => rfl
        | nc => simp
        | cn => simp
        | eq _ _ => simp at hz
        | lt _ _ => simp at hz
      wp_walk
      refine ⟨_, rfl, ?_⟩
      simpa [Builtin.Tuple.tupleCompareSizes, key] using fin
    case h =>
      exact ⟨rfl, rfl, us.toList, ws.toList, rfl, cm, by simp⟩
end
end DL
/-! DLf: a < b of data; built-in functions; indices, slices; methods of lists. -/
namespace DL
open PySem PySem.Spec L2
open PyProof.Rows hiding St

theorem rcLt_tup {A : Around} {s : Shared} {p q : Addr} {us ws : Array Value} {c : Bool} (h1 : s.heap.IsTuple p us) (h2 : s.heap.IsTuple q ws) (hu : A.units < cLine) (h : CmpL A.in1 s us.toList ws.toList c) : SeqAt.RcLt A s (.ref p) (.ref q) c := fun prog w E Q k => by
  obtain ⟨⟨c1, d1, t1, z1⟩, g1, e1, n1, q1⟩ := id h1
  obtain ⟨⟨c2, d2, t2, z2⟩, g2, e2, n2, q2⟩ := id h2
  simp only at e1 q1 e2 q2
  subst e1 q1 e2 q2
  exact richCompare_meets_room (op := .Lt) ⟨_, g1, rfl⟩ ⟨_, g2, rfl⟩ PySem.F.slot_tuple_lt PySem.F.entry_tuple_lt (PySem.F.args_tuple_lt_2 _ _) (tup_cmp p q us ws n1 n2 d1 d2 z1 z2 c)
    ⟨g1, g2, h, show Value.bool c ≠ Value.notImplemented ∧ Q (.bool c) s from ⟨(fun x => nomatch x), k⟩⟩ hu
mutual
theorem rcLt_of : ∀ (x y : D) (c : Bool) (A : Around) (s : Shared) (a b : Value) (as bs : List Addr), Reads s.heap a x.py as → Reads s.heap b y.py bs → x.py.canLay0 = true → y.py.canLay0 = true →
    ltD x y = some c → A.units + min x.py.depth y.py.depth < cLine → SeqAt.RcLt A s a b c
  | .int i, y, c, A, s, a, b, as, bs, ra, rb, _, _, h, _ => by
    cases y with
    | int j =>
      simp only [ltD, Option.some.injEq] at h
      subst h
      simp only [D.py] at ra rb
      cases ra
      cases rb
      exact fun prog w E Q k => PySem.P.lt_int k
    | non => cases h
    | bl _ => cases h
    | str _ => cases h
    | tup _ => cases h
    | loc _ => cases h
    | scr _ => cases h
  | .str i, y, c, A, s, a, b, as, bs, ra, rb, _, _, h, _ => by
    cases y with
    | str j =>
      simp only [ltD, Option.some.injEq] at h
      subst h
      simp only [D.py] at ra rb
      cases ra
      cases rb
      exact fun prog w E Q k => PySem.P.lt_str k
    | non => cases h
    | bl _ => cases h
    | int _ => cases h
    | tup _ => cases h
    | loc _ => cases h
    | scr _ => cases h
  | .tup xs, y, c, A, s, a, b, as, bs, ra, rb, la, lb, h, hu => by
    cases y with
    | tup ys =>
      simp only [ltD] at h
      simp only [D.py] at ra rb la lb hu
      cases ra with
      | @tuple l o vs n _ _ g1 g2 g3 r1 =>
        cases rb with
        | @tuple l' o' vs' n' _ _ k1 k2 k3 r2 =>
          simp only [PyData.depth] at hu
          refine rcLt_tup ⟨_, g1, g2, _, g3⟩ ⟨_, k1, k2, _, k3⟩ (by omega) (cmpL_of xs ys c A.in1 s _ _ _ _ r1 r2 (by simpa [PyData.canLay0] using la) (by simpa [PyData.canLay0] using lb) h ?_)
          show A.units + 1 + _ < _
          omega
    | non => cases h
    | bl _ => cases h
    | str _ => cases h
    | int _ => cases h
    | loc _ => cases h
    | scr _ => cases h
  | .non, y, _, _, _, _, _, _, _, _, _, _, _, h, _ => by cases y <;> cases h
  | .bl _, y, _, _, _, _, _, _, _, _, _, _, _, h, _ => by cases y <;> cases h
  | .loc _, y, _, _, _, _, _, _, _, _, _, _, _, h, _ => by cases y <;> cases h
  | .scr _, y, _, _, _, _, _, _, _, _, _, _, _, h, _ => by cases y <;> cases h
theorem cmpL_of : ∀ (xs ys : List D) (c : Bool) (A : Around) (s : Shared) (us ws : List Value) (as bs : List Addr), ReadsAll s.heap us (D.pys xs) as → ReadsAll s.heap ws (D.pys ys) bs → PyData.canLayAll0 (D.pys xs) = true → PyData.canLayAll0 (D.pys ys) = true →
    ltDs xs ys = some c → A.units + min (PyData.depthAll (D.pys xs)) (PyData.depthAll (D.pys ys)) < cLine → CmpL A s us ws c
  | [], ys, c, A, s, us, ws, as, bs, ra, rb, _, _, h, _ => by
    simp only [D.pys] at ra
    cases ra
    cases ys with
    | nil =>
      simp only [D.pys] at rb
      cases rb
      simp only [ltDs, Option.some.injEq] at h
      subst h
      exact .nn
    | cons y ys =>
      simp only [D.pys] at rb
      cases rb
      simp only [ltDs, Option.some.injEq] at h
      subst h
      exact .nc
  | x :: xs, ys, c, A, s, us, ws, as, bs, ra, rb, la, lb, h, hu => by
    simp only [D.pys] at ra la hu
    cases ra with
    | cons r1 r2 =>
      cases ys with
      | nil =>
        simp only [D.pys] at rb
        cases rb
        simp only [ltDs, Option.some.injEq] at h
        subst h
        exact .cn
      | cons y ys =>
        simp only [D.pys] at rb lb hu
        cases rb with
        | cons k1 k2 =>
          simp only [PyData.canLayAll0, Bool.and_eq_true] at la lb
          simp only [PyData.depthAll] at hu
          have eq := SeqAt.eqAt_reads x.py y.py A s _ _ _ _ r1 k1 la.1 lb.1 (by omega)
          simp only [ltDs] at h
          split at h
          · rename_i hq
            rw [hq] at eq
            exact .eq eq (cmpL_of xs ys c A s _ _ _ _ r2 k2 la.2 lb.2 h (by omega))
          · rename_i hq
            rw [Bool.not_eq_true] at hq
            rw [hq] at eq
            exact .lt eq (rcLt_of x y c A s _ _ _ _ r1 k1 la.1 lb.1 h (by omega))
end
section
variable {X : Cx} {G : Ctx}
def rLtA (K : PySem.W.Frag) : R2 := fun x y H Q => ∃ (a b : D) (c : Bool), Dp K H x a.py ∧ Dp K H y b.py ∧ SeqAt.shaped a.py = true ∧ SeqAt.shaped b.py = true ∧ ltD a b = some c ∧ Q (.bl c) H
theorem op_ltA (hu : X.A.units + 65 < cLine) : OpR X (compareOp .Lt) (rLtA X.K) := by
  intro pins s σ H x y v u Q I rx ry h
  obtain ⟨a, b, c, ha, hb, sa, sb, hl, q⟩ := h
  obtain ⟨as, r1⟩ := Dp.reads I _ x v ha rx
  obtain ⟨bs, r2⟩ := Dp.reads I _ y u hb ry
  have h1 := SeqAt.depth_of_shaped sa
  have h2 := SeqAt.depth_of_shaped sb
  exact rcLt_of a b c X.A s v u as bs r1 r2 (SeqAt.canLay_of_shaped sa) (SeqAt.canLay_of_shaped sb) hl (by omega) X.prog X.w X.xe _ ⟨.bl c, H, I, rfl, q⟩
theorem prim_lt : Prim2 G (rLtA G.K) ltP := by
  intro r S H x y v w d S' Q R hv hw h k
  unfold ltP at h
  split at h
  · rename_i c e
    split at h
    · rename_i hs
      obtain ⟨p1, p2, s1, s2⟩ := hs
      cases h
      exact ⟨x, y, c, dp_of x v hv p1, dp_of y w hw p2, s1, s2, e, k r H _ Ext.refl R mk_bl⟩
    · cases h
  · cases h
def cmpP (f : Int → Int → Bool) : D → D → Sto → Option (D × Sto)
  | .int i, .int j, S => some (.bl (f i j), S)
  | _, _, _ => none
theorem prim_cmp {f : Int → Int → Bool} {g : Int → Int → V} (hg : ∀ i j, g i j = .bl (f i j)) : Prim2 G (rI0 g) (cmpP f) := by
  intro r S H x y v w d S' Q R hv hw h k
  unfold cmpP at h
  split at h
  · cases h
    rw [dv_int hv, dv_int hw]
    exact ⟨_, _, rfl, rfl, by rw [hg]; exact k r H _ Ext.refl R mk_bl⟩
  · cases h
def leP := cmpP fun i j => decide (i ≤ j)
def gtP := cmpP fun i j => decide (j < i)
def geP := cmpP fun i j => decide (j ≤ i)
theorem prim_le : Prim2 G (rI0 fun i j => .bl (decide (i ≤ j))) leP := prim_cmp fun _ _ => rfl
theorem prim_gt : Prim2 G (rI0 fun i j => .bl (decide (j < i))) gtP := prim_cmp fun _ _ => rfl
theorem prim_ge : Prim2 G (rI0 fun i j => .bl (decide (j ≤ i))) geP := prim_cmp fun _ _ => rfl

/-! ### chains a < b < c -/
def mChain (p q : D → D → Sto → Option (D × Sto)) (a b c : EM) : EM := fun env S => match a env S with
  | some (x, S1) => match b env S1 with
    | some (y, S2) => match p x y S2 with
      | some (.bl true, S3) => match c env S3 with
        | some (z, S4) => q y z S4
        | none => none
      | some (.bl false, S3) => some (.bl false, S3)
      | _ => none
    | none => none
  | none => none
end

/-! ### indices -/
def ixP : D → D → Sto → Option (D × Sto)
  | .str x, .int i, S => if x.length ≤ sizeLine then match atI x.cps.toList i with
    | some c => some (.str ⟨#[c]⟩, S)
    | none => none else none
  | .tup ds, .int i, S => match atI ds i with
    | some d => some (d, S)
    | none => none
  | .loc n, .int i, S => match seqD S (.loc n) with
    | some ds => match atI ds i with
      | some d => some (d, S)
      | none => none
    | none => none
  | _, _, _ => none
section
variable {X : Cx} {G : Ctx}
theorem DVs.atI {K r H} {ds : List D} {vs : List V} {i : Int} {d : D} (h : DVs K r H ds vs) (e : atI ds i = some d) : ∃ v, L2.atI vs i = some v ∧ DV K r H d v := by
  unfold L2.atI at e ⊢
  rw [h.length]
  cases q : ixN ds.length i with
  | none => rw [q] at e; cases e
  | some j =>
    rw [q] at e
    exact h.get (i := j) e
theorem prim_ix : Prim2 G (rIx G.K) ixP := by
  intro r S H x y v w d S' Q R hv hw h k
  unfold ixP at h
  split at h
  · split at h
    · rename_i hz
      split at h
      · rename_i c e
        cases h
        rw [dv_str hv, dv_int hw]
        exact .inr (.inr ⟨_, _, c, rfl, rfl, hz, e, k r H _ Ext.refl R mk_str⟩)
      · cases h
    · cases h
  · split at h
    · rename_i e
      cases h
      obtain ⟨a, vs, rfl, h1, h2⟩ := dv_tup hv
      obtain ⟨u, eu, qu⟩ := h2.atI e
      rw [dv_int hw]
      exact .inr (.inl ⟨a, vs, _, u, rfl, rfl, h1, eu, k r H _ Ext.refl R qu⟩)
    · cases h
  · split at h
    · rename_i ds e1
      split at h
      · rename_i e
        cases h
        obtain ⟨a, vs, rfl, h2, h3⟩ := seq_cases R hv e1
        rcases h3 with ⟨z, _⟩ | ⟨n, _, _, hl⟩
        · cases z
        · obtain ⟨u, eu, qu⟩ := h2.atI e
          rw [dv_int hw]
          exact .inl ⟨a, vs, _, u, rfl, rfl, hl, eu, k r H _ Ext.refl R qu⟩
      · cases h
    · cases h
  · cases h
end

/-! ### built-in functions -/
def lenP : List D → Sto → Option (D × Sto)
  | [.str x], S => if x.length ≤ sizeLine then some (.int x.length, S) else none
  | [.tup ds], S => some (.int ds.length, S)
  | [.loc n], S => match seqD S (.loc n) with
    | some ds => some (.int ds.length, S)
    | none => none
  | [.scr ns], S => some (.int ns.length, S)
  | _, _ => none
def absP : List D → Sto → Option (D × Sto)
  | [.int i], S => some (.int (if i < 0 then -i else i), S)
  | _, _ => none
def toIntP : List D → Sto → Option (D × Sto)
  | [.int i], S => some (.int i, S)
  | [.bl b], S => some (.int (if b then 1 else 0), S)
  | _, _ => none
def min2P : List D → Sto → Option (D × Sto)
  | [.int i, .int j], S => some (.int (if j < i then j else i), S)
  | _, _ => none
def max2P : List D → Sto → Option (D × Sto)
  | [.int i, .int j], S => some (.int (if j > i then j else i), S)
  | _, _ => none
def listP : List D → Sto → Option (D × Sto)
  | [d], S => match seqD S d with
    | some ds => some (.loc S.length, S ++ [.lst ds])
    | none => none
  | _, _ => none
def tupleP : List D → Sto → Option (D × Sto)
  | [.tup ds], S => some (.tup ds, S)
  | [.loc n], S => match seqD S (.loc n) with
    | some ds => some (.tup ds, S)
    | none => none
  | _, _ => none
def blsOf : List D → Option (List Bool)
  | [] => some []
  | .bl b :: ds => (blsOf ds).map (b :: ·)
  | _ :: _ => none
def intsOf : List D → Option (List Int)
  | [] => some []
  | .int b :: ds => (intsOf ds).map (b :: ·)
  | _ :: _ => none
def anyP : List D → Sto → Option (D × Sto)
  | [.loc n], S => match seqD S (.loc n) with
    | some ds => match blsOf ds with
      | some bs => some (.bl (bs.any id), S)
      | none => none
    | none => none
  | _, _ => none
def allP : List D → Sto → Option (D × Sto)
  | [.loc n], S => match seqD S (.loc n) with
    | some ds => match blsOf ds with
      | some bs => some (.bl (bs.all id), S)
      | none => none
    | none => none
  | _, _ => none
def sumP : List D → Sto → Option (D × Sto)
  | [.loc n], S => match seqD S (.loc n) with
    | some ds => match intsOf ds with
      | some bs => some (.int bs.sum, S)
      | none => none
    | none => none
  | _, _ => none
/-- the name of a type -/
def tyN (S : Sto) : D → Option String
  | .non => some "NoneType"
  | .bl _ => some "bool"
  | .int _ => some "int"
  | .str _ => some "str"
  | .tup _ => some "tuple"
  | .loc n => match S[n]? with
    | some (.lst _) => some "list"
    | _ => none
  | .scr _ => none
def isiP (T : String) (x : D) (S : Sto) : Option (D × Sto) := match tyN S x with
  | some t => match kitB t T with
    | some b => some (.bl b, S)
    | none => none
  | none => none
section
variable {X : Cx} {ca : Nat → Addr} {G : Ctx}
theorem bls_of {K r H} : ∀ {ds : List D} {vs : List V} {bs : List Bool}, DVs K r H ds vs → blsOf ds = some bs → vs = bs.map V.bl
  | [], _, _, h, e => by unfold DVs at h; subst h; cases e; rfl
  | d :: ds, _, bs, h, e => by
    unfold DVs at h
    obtain ⟨v, us, rfl, h1, h2⟩ := h
    cases d with
    | bl b =>
      simp only [blsOf] at e
      cases q : blsOf ds with
      | none => rw [q] at e; cases e
      | some cs =>
        rw [q] at e
        cases e
        rw [bls_of h2 q, dv_bl h1]
        rfl
    | non => cases e
    | int _ => cases e
    | str _ => cases e
    | tup _ => cases e
    | loc _ => cases e
    | scr _ => cases e
theorem ints_of {K r H} : ∀ {ds : List D} {vs : List V} {bs : List Int}, DVs K r H ds vs → intsOf ds = some bs → vs = bs.map V.int
  | [], _, _, h, e => by unfold DVs at h; subst h; cases e; rfl
  | d :: ds, _, bs, h, e => by
    unfold DVs at h
    obtain ⟨v, us, rfl, h1, h2⟩ := h
    cases d with
    | int b =>
      simp only [intsOf] at e
      cases q : intsOf ds with
      | none => rw [q] at e; cases e
      | some cs =>
        rw [q] at e
        cases e
        rw [ints_of h2 q, dv_int h1]
        rfl
    | non => cases e
    | bl _ => cases e
    | str _ => cases e
    | tup _ => cases e
    | loc _ => cases e
    | scr _ => cases e
theorem loc_list {r : List Addr} {S : Sto} {H : Hp} {n : Nat} {v : V} {ds : List D} (R : RepS G r S H) (q : DV G.K r H (.loc n) v) (h : seqD S (.loc n) = some ds) : ∃ a vs, v = .ref a ∧ DVs G.K r H ds vs ∧ SqL G.K H a vs := by
  obtain ⟨a, vs, e, h2, h3⟩ := seq_cases R q h
  rcases h3 with ⟨z, _⟩ | ⟨n, _, _, hl⟩
  · cases z
  · exact ⟨a, vs, e, h2, hl⟩
theorem prim_len : PrimL G (fun xs H Q => ∃ x n, xs = [x] ∧ LenV G.K x H n ∧ Q (.int n) H) lenP := by
  intro r S H xs vs d S' Q R hv h k
  unfold lenP at h
  split at h
  · split at h
    · rename_i hz
      cases h
      obtain ⟨v, rfl, q⟩ := hv.one
      rw [dv_str q]
      exact ⟨_, _, rfl, ⟨hz, rfl⟩, k r H _ Ext.refl R mk_int⟩
    · cases h
  · cases h
    obtain ⟨v, rfl, q⟩ := hv.one
    obtain ⟨a, vs, rfl, h1, h2⟩ := dv_tup q
    exact ⟨_, _, rfl, .inr ⟨vs, h1, h2.length.symm⟩, k r H _ Ext.refl R mk_int⟩
  · split at h
    · rename_i ds e
      cases h
      obtain ⟨v, rfl, q⟩ := hv.one
      obtain ⟨a, vs, rfl, h2, hl⟩ := loc_list R q e
      exact ⟨_, _, rfl, .inl ⟨vs, hl, h2.length.symm⟩, k r H _ Ext.refl R mk_int⟩
    · cases h
  · cases h
    obtain ⟨v, rfl, q⟩ := hv.one
    unfold DV at q
    obtain ⟨a, rfl, q⟩ := q
    exact ⟨_, _, rfl, .inl ⟨_, q.sq, by simp⟩, k r H _ Ext.refl R mk_int⟩
  · cases h
theorem DVs.two {K r H} {d e : D} {vs : List V} (h : DVs K r H [d, e] vs) : ∃ v w, vs = [v, w] ∧ DV K r H d v ∧ DV K r H e w := by
  unfold DVs at h
  obtain ⟨v, us, rfl, h1, h2⟩ := h
  obtain ⟨w, rfl, h3⟩ := h2.one
  exact ⟨v, w, rfl, h1, h3⟩
theorem prim_abs : PrimL G (fun xs H Q => ∃ i, xs = [.int i] ∧ Q (.int (if i < 0 then -i else i)) H) absP := by
  intro r S H xs vs d S' Q R hv h k
  unfold absP at h
  split at h
  · cases h
    obtain ⟨v, rfl, q⟩ := hv.one
    rw [dv_int q]
    exact ⟨_, rfl, k r H _ Ext.refl R mk_int⟩
  · cases h
theorem prim_toInt : PrimL G (fun xs H Q => (∃ i, xs = [.int i] ∧ Q (.int i) H) ∨ ∃ k, xs = [.bl k] ∧ Q (.int (if k then 1 else 0)) H) toIntP := by
  intro r S H xs vs d S' Q R hv h k
  unfold toIntP at h
  split at h
  · cases h
    obtain ⟨v, rfl, q⟩ := hv.one
    rw [dv_int q]
    exact .inl ⟨_, rfl, k r H _ Ext.refl R mk_int⟩
  · cases h
    obtain ⟨v, rfl, q⟩ := hv.one
    rw [dv_bl q]
    exact .inr ⟨_, rfl, k r H _ Ext.refl R mk_int⟩
  · cases h
theorem prim_min2 : PrimL G (fun xs H Q => ∃ i j, xs = [.int i, .int j] ∧ Q (.int (if j < i then j else i)) H) min2P := by
  intro r S H xs vs d S' Q R hv h k
  unfold min2P at h
  split at h
  · cases h
    obtain ⟨v, w, rfl, q1, q2⟩ := hv.two
    rw [dv_int q1, dv_int q2]
    exact ⟨_, _, rfl, k r H _ Ext.refl R mk_int⟩
  · cases h
theorem prim_max2 : PrimL G (fun xs H Q => ∃ i j, xs = [.int i, .int j] ∧ Q (.int (if j > i then j else i)) H) max2P := by
  intro r S H xs vs d S' Q R hv h k
  unfold max2P at h
  split at h
  · cases h
    obtain ⟨v, w, rfl, q1, q2⟩ := hv.two
    rw [dv_int q1, dv_int q2]
    exact ⟨_, _, rfl, k r H _ Ext.refl R mk_int⟩
  · cases h
theorem prim_list : PrimL G (fun xs H Q => ∃ p ys, xs = [.ref p] ∧ (SqL G.K H p ys ∨ SqT G.K H p ys) ∧ ∀ l, H l = none → Q (.ref l) (upd H l (.lst ys))) listP := by
  intro r S H xs vs d S' Q R hv h k
  unfold listP at h
  split at h
  · split at h
    · rename_i ds e
      cases h
      obtain ⟨v, rfl, q⟩ := hv.one
      obtain ⟨a, vs, rfl, h2, h3⟩ := seq_cases R q e
      refine ⟨a, vs, rfl, ?_, fun p hp => ?_⟩
      · rcases h3 with ⟨_, z⟩ | ⟨n, _, _, hl⟩
        · exact .inr z
        · exact .inl hl
      · obtain ⟨x, R'⟩ := R.lst hp h2
        exact k _ _ _ x R' R.newLoc
    · cases h
  · cases h
theorem prim_tuple : PrimL G (fun xs H Q => ∃ p ys, xs = [.ref p] ∧ ((SqL G.K H p ys ∧ ∀ l, H l = none → Q (.ref l) (upd H l (.tup ys))) ∨ (SqT G.K H p ys ∧ Q (.ref p) H))) tupleP := by
  intro r S H xs vs d S' Q R hv h k
  unfold tupleP at h
  split at h
  · cases h
    obtain ⟨v, rfl, q⟩ := hv.one
    obtain ⟨a, vs, rfl, h1, h2⟩ := dv_tup q
    exact ⟨a, vs, rfl, .inr ⟨h1, k r H _ Ext.refl R q⟩⟩
  · split at h
    · rename_i ds e
      cases h
      obtain ⟨v, rfl, q⟩ := hv.one
      obtain ⟨a, vs, rfl, h2, hl⟩ := loc_list R q e
      refine ⟨a, vs, rfl, .inl ⟨hl, fun p hp => ?_⟩⟩
      obtain ⟨x, R'⟩ := R.tup (vs := vs) hp
      exact k r _ _ x R' (DV.tup_mk (SqT.of upd_same) (DVs.ext x _ _ h2))
    · cases h
  · cases h
theorem prim_any : PrimL G (rAny G.K) anyP := by
  intro r S H xs vs d S' Q R hv h k
  unfold anyP at h
  split at h
  · split at h
    · rename_i ds e
      split at h
      · rename_i bs eb
        cases h
        obtain ⟨v, rfl, q⟩ := hv.one
        obtain ⟨a, vs, rfl, h2, hl⟩ := loc_list R q e
        rw [bls_of h2 eb] at hl
        exact ⟨a, bs, rfl, hl, k r H _ Ext.refl R mk_bl⟩
      · cases h
    · cases h
  · cases h
theorem prim_all : PrimL G (rAll G.K) allP := by
  intro r S H xs vs d S' Q R hv h k
  unfold allP at h
  split at h
  · split at h
    · rename_i ds e
      split at h
      · rename_i bs eb
        cases h
        obtain ⟨v, rfl, q⟩ := hv.one
        obtain ⟨a, vs, rfl, h2, hl⟩ := loc_list R q e
        rw [bls_of h2 eb] at hl
        exact ⟨a, bs, rfl, hl, k r H _ Ext.refl R mk_bl⟩
      · cases h
    · cases h
  · cases h
theorem prim_sum : PrimL G (rSum G.K) sumP := by
  intro r S H xs vs d S' Q R hv h k
  unfold sumP at h
  split at h
  · split at h
    · rename_i ds e
      split at h
      · rename_i bs eb
        cases h
        obtain ⟨v, rfl, q⟩ := hv.one
        obtain ⟨a, vs, rfl, h2, hl⟩ := loc_list R q e
        rw [ints_of h2 eb] at hl
        exact ⟨a, bs, rfl, hl, k r H _ Ext.refl R mk_int⟩
      · cases h
    · cases h
  · cases h
theorem ty_of {r : List Addr} {S : Sto} {H : Hp} {d : D} {v : V} {t : String} (R : RepS G r S H) (q : DV G.K r H d v) (h : tyN S d = some t) : TyX G.K H v (.type t) := by
  cases d with
  | non => unfold DV at q; subst q; cases h; exact .base .non
  | bl b => rw [dv_bl q]; cases h; exact .base (.bl b)
  | int b => rw [dv_int q]; cases h; exact .base (.int b)
  | str b => rw [dv_str q]; cases h; exact .base (.str b)
  | tup ds =>
    obtain ⟨a, vs, rfl, h1, h2⟩ := dv_tup q
    cases h
    rcases h1 with (h1 | ⟨o, h1⟩) | ⟨o, its, n, h1, h3, _⟩
    · exact .base (.tup h1)
    · exact .fTuple h1
    · exact .kTuple h1 h3
  | loc n =>
    obtain ⟨a, e, rfl⟩ := dv_loc q
    simp only [tyN] at h
    split at h
    · rename_i e1
      cases h
      obtain ⟨vs, h1, _⟩ := R.at_ _ _ _ e1 e
      exact .base (.lst h1)
    · cases h
  | scr n => cases h
theorem de_isi {T : Str} {Ts : String} {e : Expr} {ma : EM} {p p2 pos : Pos} (he : PE X e (liftE (gx X ca) ma)) (hm : X.mg "isinstance" = none) (hm2 : X.mg T = none) (hv : bootBuiltins T = some (.type Ts)) (hg : Gl X "isinstance" := by rfl) (hg2 : Gl X T := by rfl) (hn : T ≠ "__name__" := by decide) (hdb : (T == ("__debug__" : Str)) = false := by decide)
    (hs1 : starEach [e, .Name T p2] X.env = (false, eval e X.env) :: starEach [.Name T p2] X.env := by rfl) (hs2 : starEach [.Name T p2] X.env = (false, eval (.Name T p2) X.env) :: starEach [] X.env := by rfl) (hpl : (backTo pos (starEach [.Name T p2] X.env)).any (·.1) = false := by rfl) :
    PE X (.Call (.Name "isinstance" p) [e, .Name T p2] [] pos) (liftE (gx X ca) (m1 (isiP Ts) ma)) :=
  wkE (pe_callB call_isi hg hm boot_isinstance (pa_cons he (pa_cons (pe_bltn hg2 hm2 hv (v := .ty Ts) rfl hn hdb) pa_nil hs2) hs1) (by decide) (by decide) hs1 hpl) fun σ H Q h =>
    lift1 (t := fun x H1 Q => ∃ (y c : V) (t u : Value) (b : Bool), [x, V.ty Ts] = [y, c] ∧ ClsV c u ∧ TyX X.K H1 y t ∧ PySem.W.kitOne X.K t u = some b ∧ Q (.bl b) H1) (fun r S H x v d S' Q R hv e k => by
      unfold isiP at e
      split at e
      · rename_i t e1
        split at e
        · rename_i b e2
          cases e
          exact ⟨v, .ty Ts, .type t, .type Ts, b, rfl, .ty Ts, ty_of R hv e1, kit_ty e2, k r H _ Ext.refl R mk_bl⟩
        · cases e
      · cases e) h
end

/-! ### slices -/
abbrev OM := Vars → Sto → Option (Option Int × Sto)
def oNone : OM := fun _ S => some (none, S)
def oSome (m : EM) : OM := fun env S => match m env S with
  | some (.int i, S1) => some (some i, S1)
  | _ => none
def liftO (G : Ctx) (m : OM) : TO := fun σ H Q => ∃ r env S o S', RepS G r S H ∧ VarsV G.K r H env σ ∧ m env S = some (o, S') ∧ ∀ r' H', Ext G.K r H r' H' → RepS G r' S' H' → Q o H'
def mSl (p : D → Option Int → Option Int → Sto → Option (D × Sto)) (a : EM) (l u : OM) : EM := fun env S => match a env S with
  | some (x, S1) => match l env S1 with
    | some (i, S2) => match u env S2 with
      | some (j, S3) => p x i j S3
      | none => none
    | none => none
  | none => none
def cutD (ds : List D) (lo hi : Option Int) : List D := (ds.drop (HT.sIx ds.length 0 lo)).take (HT.sIx ds.length ds.length hi - HT.sIx ds.length 0 lo)
def slP : D → Option Int → Option Int → Sto → Option (D × Sto)
  | .str x, i, j, S => if x.length ≤ sizeLine then some (.str (cutS x i j), S) else none
  | .tup ds, i, j, S => some (.tup (cutD ds i j), S)
  | .loc n, i, j, S => match seqD S (.loc n) with
    | some ds => some (.loc S.length, S ++ [.lst (cutD ds i j)])
    | none => none
  | _, _, _, _ => none
section
variable {X : Cx} {ca : Nat → Addr} {G : Ctx} {e : Expr} {ma : EM}
theorem wkO {e : Option Expr} {t t' : TO} (h : PO X e t) (w : ∀ σ H Q, t' σ H Q → t σ H Q) : PO X e t' := ⟨fun pins s σ H Q I q => h.run pins s σ H Q I (w σ H Q q)⟩
theorem do_none : PO X none (liftO (gx X ca) oNone) := wkO po_none fun σ H Q ⟨r, env, S, o, S', R, W, h, k⟩ => by
  unfold oNone at h
  cases h
  exact k r H Ext.refl R
theorem do_some (h : PE X e (liftE (gx X ca) ma)) : PO X (some e) (liftO (gx X ca) (oSome ma)) := wkO (po_some h) fun σ H Q ⟨r, env, S, o, S', R, W, h, k⟩ => by
  unfold oSome at h
  split at h
  · rename_i i S1 e1
    cases h
    refine ⟨r, env, S, _, _, R, W, e1, fun r1 H1 v x1 R1 q1 => ?_⟩
    exact ⟨i, dv_int q1, k r1 H1 x1 R1⟩
  · cases h
def rSlAll (K : PySem.W.Frag) : V → Option Int → Option Int → Hp → VK → Prop := fun x lo hi H Q => rSlS x lo hi H Q ∨ rSlA K x lo hi H Q ∨ rSlL K x lo hi H Q
theorem sl_all : SlR X (rSlAll X.K) := sl_str.or (sl_tupA.or sl_list)
theorem cutV_ok {K r H} {ds : List D} {vs : List V} {i j : Option Int} (h : DVs K r H ds vs) : DVs K r H (cutD ds i j) (cutV vs i j) := by
  unfold cutD cutV
  rw [h.length]
  exact (h.drop _).take _
theorem prim_sl {r : List Addr} {S : Sto} {H : Hp} {x d : D} {v : V} {i j : Option Int} {S' : Sto} {Q : VK} (R : RepS G r S H) (hv : DV G.K r H x v) (h : slP x i j S = some (d, S'))
    (k : ∀ r' H' u, Ext G.K r H r' H' → RepS G r' S' H' → DV G.K r' H' d u → Q u H') : rSlAll G.K v i j H Q := by
  unfold slP at h
  split at h
  · split at h
    · rename_i hz
      cases h
      rw [dv_str hv]
      exact .inl ⟨_, rfl, hz, k r H _ Ext.refl R mk_str⟩
    · cases h
  · rename_i ds
    cases h
    obtain ⟨a, vs, rfl, h1, h2⟩ := dv_tup hv
    refine .inr (.inl ⟨a, vs, rfl, h1, fun hw => ?_, fun hw p hp => ?_⟩)
    · have e : cutD ds i j = ds := by
        unfold cutD
        rw [h2.length] at hw
        rw [hw.1, hw.2]
        simp
      rw [e] at k
      exact k r H _ Ext.refl R hv
    · obtain ⟨x, R'⟩ := R.tup (vs := cutV vs i j) hp
      exact k r _ _ x R' (DV.tup_mk (SqT.of upd_same) (DVs.ext x _ _ (cutV_ok h2)))
  · split at h
    · rename_i ds e
      cases h
      obtain ⟨a, vs, rfl, h2, hl⟩ := loc_list R hv e
      refine .inr (.inr ⟨a, vs, rfl, hl, fun p hp => ?_⟩)
      obtain ⟨x, R'⟩ := R.lst hp (cutV_ok (i := i) (j := j) h2)
      exact k _ _ _ x R' R.newLoc
    · cases h
  · cases h
theorem de_slice {lo hi : Option Expr} {l u : OM} {pos p2 : Pos} (he : PE X e (liftE (gx X ca) ma)) (hl : PO X lo (liftO (gx X ca) l)) (hu : PO X hi (liftO (gx X ca) u)) : PE X (.Subscript e (.Slice lo hi none p2) pos) (liftE (gx X ca) (mSl slP ma l u)) :=
  wkE (pe_slice sl_all he hl hu) fun σ H Q ⟨r, env, S, d, S', R, W, h, k⟩ => by
    unfold mSl at h
    split at h
    · rename_i x S1 e1
      refine ⟨r, env, S, x, S1, R, W, e1, fun r1 H1 v x1 R1 q1 => ?_⟩
      split at h
      · rename_i i S2 e2
        refine ⟨r1, env, S1, i, S2, R1, W.ext x1, e2, fun r2 H2 x2 R2 => ?_⟩
        split at h
        · rename_i j S3 e3
          refine ⟨r2, env, S2, j, S3, R2, W.ext (x1.trans x2), e3, fun r3 H3 x3 R3 => ?_⟩
          exact prim_sl R3 (DV.ext (x2.trans x3) _ _ q1) h fun r4 H4 u x4 R4 q4 => k r4 H4 u (x1.trans (x2.trans (x3.trans x4))) R4 q4
        · cases h
      · cases h
    · cases h
end

/-! ### methods of lists and texts -/
def tyD : String → Sto → D → Bool
  | "list", S, .loc n => (seqD S (.loc n)).isSome
  | "str", _, .str _ => true
  | _, _, _ => false
def mM0 (T : String) (p : D → List D → Sto → Option (D × Sto)) (a : EM) : EM := fun env S => match a env S with
  | some (x, S1) => if tyD T S1 x = true then p x [] S1 else none
  | none => none
def mM (T : String) (p : D → List D → Sto → Option (D × Sto)) (a : EM) (l : LM) : EM := fun env S => match a env S with
  | some (x, S1) => if tyD T S1 x = true then (match l env S1 with
    | some (xs, S2) => p x xs S2
    | none => none) else none
  | none => none
def PrimM (G : Ctx) (t : V → List V → Hp → VK → Prop) (p : D → List D → Sto → Option (D × Sto)) : Prop :=
  ∀ (r : List Addr) (S : Sto) (H : Hp) (x : D) (xs : List D) (v : V) (vs : List V) (d : D) (S' : Sto) (Q : VK), RepS G r S H → DV G.K r H x v → DVs G.K r H xs vs → p x xs S = some (d, S') →
    (∀ r' H' u, Ext G.K r H r' H' → RepS G r' S' H' → DV G.K r' H' d u → Q u H') → t v vs H Q
section
variable {X : Cx} {ca : Nat → Addr} {G : Ctx} {o e : Expr} {es : List Expr} {ma : EM} {la : LM} {name : Str} {apos cpos : Pos} {T id : String} {t : V → List V → Hp → VK → Prop} {q : D → List D → Sto → Option (D × Sto)}
theorem tyV_of {r : List Addr} {S : Sto} {H : Hp} {x : D} {v : V} (R : RepS G r S H) (hv : DV G.K r H x v) (h : tyD T S x = true) : tyV G.K T v H := by
  unfold tyD at h
  split at h
  · cases e : seqD _ (D.loc _) with
    | none => rw [e] at h; cases h
    | some ds =>
      obtain ⟨a, vs, rfl, h2, hl⟩ := loc_list R hv e
      exact .inl ⟨rfl, vs, hl⟩
  · rw [dv_str hv]; rfl
  · cases h
theorem de_bm0 (hp : PrimM (gx X ca) t q) (pa : PlainAttrs T) (slot : Slot T name id) (hty : typeOf (.builtin id) = pure (.type "method_descriptor")) (hm : MtR X id t) (ho : PE X o (liftE (gx X ca) ma))
    (hbase : attributeBase o name X.env (eval o X.env) = eval o X.env := by rfl) (hline : (apos.endLine == cpos.line) = true := by rfl) : PE X (.Call (.Attribute o name apos) [] [] cpos) (liftE (gx X ca) (mM0 T q ma)) :=
  wkE (pe_bm0 pa slot hty hm ho hbase hline) fun σ H Q ⟨r, env, S, d, S', R, W, h, k⟩ => by
    unfold mM0 at h
    split at h
    · rename_i x S1 e1
      split at h
      · rename_i ht
        exact ⟨r, env, S, x, S1, R, W, e1, fun r1 H1 v x1 R1 q1 => ⟨tyV_of R1 q1 ht, hp r1 S1 H1 x [] v [] d S' Q R1 q1 DVs.nil h fun r2 H2 u x2 R2 q2 => k r2 H2 u (x1.trans x2) R2 q2⟩⟩
      · cases h
    · cases h
theorem de_bm (hp : PrimM (gx X ca) t q) (pa : PlainAttrs T) (slot : Slot T name id) (hty : typeOf (.builtin id) = pure (.type "method_descriptor")) (hm : MtR X id t) (ho : PE X o (liftE (gx X ca) ma)) (ha : PA X (e :: es) (liftL (gx X ca) la))
    (hbase : attributeBase o name X.env (eval o X.env) = eval o X.env := by rfl)
    (hfew : ((backTo cpos (starEach (e :: es) X.env)).all (fun x => !x.1) && (backToKw cpos (keywordEach [] X.env)).all (fun x => x.1.isSome)
      && decide ((e :: es).length + ([] : List Keyword).length + (if ([] : List Keyword).isEmpty then 0 else 1) < 30)) = true := by rfl)
    (hline : (apos.endLine == cpos.line) = true := by rfl) (hs : starEach (e :: es) X.env = (false, eval e X.env) :: starEach es X.env := by rfl) (hplain : (backTo cpos (starEach es X.env)).any (·.1) = false := by rfl) :
    PE X (.Call (.Attribute o name apos) (e :: es) [] cpos) (liftE (gx X ca) (mM T q ma la)) :=
  wkE (pe_bm pa slot hty hm ho ha hbase hfew hline hs hplain) fun σ H Q ⟨r, env, S, d, S', R, W, h, k⟩ => by
    unfold mM at h
    split at h
    · rename_i x S1 e1
      split at h
      · rename_i ht
        split at h
        · rename_i xs S2 e2
          exact ⟨r, env, S, x, S1, R, W, e1, fun r1 H1 v x1 R1 q1 => ⟨tyV_of R1 q1 ht, r1, env, S1, xs, S2, R1, W.ext x1, e2, fun r2 H2 vs x2 R2 q2 => hp r2 S2 H2 x xs v vs d S' Q R2 (DV.ext x2 _ _ q1) q2 h fun r3 H3 u x3 R3 q3 => k r3 H3 u (x1.trans (x2.trans x3)) R3 q3⟩⟩
        · cases h
      · cases h
    · cases h
def appP : D → List D → Sto → Option (D × Sto)
  | .loc n, [d], S => match S[n]? with
    | some (.lst ds) => if ds.length < sizeLine then some (.non, S.set n (.lst (ds ++ [d]))) else none
    | _ => none
  | _, _, _ => none
def extP : D → List D → Sto → Option (D × Sto)
  | .loc n, [.loc m], S => match S[n]?, S[m]? with
    | some (.lst ds), some (.lst es) => if ds.length + es.length ≤ sizeLine then some (.non, S.set n (.lst (ds ++ es))) else none
    | _, _ => none
  | _, _, _ => none
def popP : D → List D → Sto → Option (D × Sto)
  | .loc n, [], S => match S[n]? with
    | some (.lst ds) => match ds[ds.length - 1]? with
      | some d => some (d, S.set n (.lst ds.dropLast))
      | none => none
    | _ => none
  | _, _, _ => none
theorem prim_app : PrimM G rAppend appP := by
  intro r S H x xs v vs d S' Q R hv hvs h k
  unfold appP at h
  split at h
  · split at h
    · rename_i n d0 S ds e
      split at h
      · rename_i hz
        cases h
        obtain ⟨a, ea, rfl⟩ := dv_loc hv
        obtain ⟨ws, h1, q1⟩ := R.lstAt e ea
        obtain ⟨y, rfl, qy⟩ := hvs.one
        obtain ⟨x, R'⟩ := R.wr (o' := .lst (ds ++ [d0])) (u := .lst (ws ++ [y])) e ea fun x => ⟨_, upd_same, (DVs.ext x _ _ q1).append (DVs.cons (DV.ext x _ _ qy) DVs.nil)⟩
        exact ⟨a, ws, y, rfl, rfl, h1, by rw [q1.length]; exact hz, k r _ _ x R' mk_non⟩
      · cases h
    · cases h
  · cases h
theorem prim_ext : PrimM G rExtend extP := by
  intro r S H x xs v vs d S' Q R hv hvs h k
  unfold extP at h
  split at h
  · split at h
    · rename_i n m S ds es e1 e2
      split at h
      · rename_i hz
        cases h
        obtain ⟨a, ea, rfl⟩ := dv_loc hv
        obtain ⟨ws, h1, q1⟩ := R.lstAt e1 ea
        obtain ⟨y, rfl, qy⟩ := hvs.one
        obtain ⟨b, eb, rfl⟩ := dv_loc qy
        obtain ⟨us, h2, q2⟩ := R.lstAt e2 eb
        obtain ⟨x, R'⟩ := R.wr (o' := .lst (ds ++ es)) (u := .lst (ws ++ us)) e1 ea fun x => ⟨_, upd_same, (DVs.ext x _ _ q1).append (DVs.ext x _ _ q2)⟩
        exact ⟨a, b, ws, us, rfl, rfl, h1, h2, by rw [q1.length, q2.length]; exact hz, k r _ _ x R' mk_non⟩
      · cases h
    · cases h
  · cases h
theorem prim_pop : PrimM G rPop popP := by
  intro r S H x xs v vs d S' Q R hv hvs h k
  unfold popP at h
  split at h
  · split at h
    · rename_i n S ds e
      split at h
      · rename_i d0 ed
        cases h
        obtain ⟨a, ea, rfl⟩ := dv_loc hv
        obtain ⟨ws, h1, q1⟩ := R.lstAt e ea
        unfold DVs at hvs
        subst hvs
        obtain ⟨y, ey, qy⟩ := q1.get ed
        obtain ⟨x, R'⟩ := R.wr (o' := .lst ds.dropLast) (u := .lst ws.dropLast) e ea fun x => ⟨_, upd_same, DVs.ext x _ _ q1.dropLast⟩
        exact ⟨a, ws, y, rfl, rfl, h1, by rw [q1.length]; exact ey, k r _ _ x R' (DV.ext x _ _ qy)⟩
      · cases h
    · cases h
  · cases h
end
end DL
/-! DLg: dicts whose keys are any data (numbers, texts, None, tuples of these, mixed): the look-up in the model. -/
namespace DL
open PySem PySem.Spec L2
open PyProof.Rows hiding St

/-- a key's value in the heap -/
structure KV8 (h : Heap) (k : NestedKey) (v : Value) : Prop where
  is : NestedIs h k v
  dp : k.depth ≤ 8
/-- the entries that stand for the keys ks -/
abbrev KsOf (w : World) (h : Heap) : List NestedKey → List DictEntry → Prop := Paired fun k x => x.hash = k.hash w ∧ KV8 h k x.key
section
variable {w : World} {h : Heap}
theorem KsOf.get : ∀ {ks : List NestedKey} {es : List DictEntry}, KsOf w h ks es → ∀ {i : Nat} {x : DictEntry}, es[i]? = some x → ∃ k, ks[i]? = some k ∧ x.hash = k.hash w ∧ KV8 h k x.key
  | _, _, .nil, i, x, e => by simp at e
  | _, _, .cons p t, i, x, e => by
    cases i with
    | zero => simp at e; subst e; exact ⟨_, rfl, p⟩
    | succ i => simpa using KsOf.get t (i := i) (by simpa using e)
theorem KsOf.getK : ∀ {ks : List NestedKey} {es : List DictEntry}, KsOf w h ks es → ∀ {i : Nat} {k : NestedKey}, ks[i]? = some k → ∃ x, es[i]? = some x ∧ x.hash = k.hash w ∧ KV8 h k x.key
  | _, _, .nil, i, x, e => by simp at e
  | _, _, .cons p t, i, x, e => by
    cases i with
    | zero => simp at e; subst e; exact ⟨_, rfl, p⟩
    | succ i => simpa using KsOf.getK t (i := i) (by simpa using e)
/-- the place of a key -/
def kIx (ks : List NestedKey) (k : NestedKey) : Option Nat := ks.findIdx? fun x => decide (x = k)
theorem kIx_some {ks : List NestedKey} {k : NestedKey} {i : Nat} (nd : ks.Nodup) (e : ks[i]? = some k) : kIx ks k = some i := by
  unfold kIx
  rw [List.findIdx?_eq_some_iff_getElem]
  obtain ⟨hi, he⟩ := List.getElem?_eq_some_iff.mp e
  refine ⟨hi, by simp [he], fun j hj => ?_⟩
  simp only [decide_eq_true_eq]
  intro q
  have : j = i := (List.getElem_inj nd).mp (q.trans he.symm)
  omega
theorem kIx_none {ks : List NestedKey} {k : NestedKey} (h : k ∉ ks) : kIx ks k = none := by
  unfold kIx
  rw [List.findIdx?_eq_none_iff]
  intro x hx
  simp only [decide_eq_false_iff_not]
  rintro rfl
  exact h hx
theorem mem_of_kIx {ks : List NestedKey} {k : NestedKey} (h : kIx ks k = none) : k ∉ ks := by
  unfold kIx at h
  rw [List.findIdx?_eq_none_iff] at h
  intro hk
  simpa using h k hk
theorem get_of_kIx {ks : List NestedKey} {k : NestedKey} {i : Nat} (h : kIx ks k = some i) : ks[i]? = some k := by
  unfold kIx at h
  rw [List.findIdx?_eq_some_iff_getElem] at h
  obtain ⟨hi, he, _⟩ := h
  rw [List.getElem?_eq_getElem hi]
  simpa using he
theorem is_str {k : NestedKey} {v : Value} {x : Str} (q : NestedIs h k v) : v.isStr x = decide (k = .text x) := by
  cases q with
  | none => rfl
  | bool e => rfl
  | int i t => rfl
  | text y t =>
    show (y == x) = _
    by_cases e : y = x
    · subst e; simp
    · rw [decide_eq_false (fun z => e (by cases z; rfl))]
      exact beq_eq_false_iff_ne.mpr e
  | tup _ _ _ _ => rfl
end

section
variable {prog : Program} {w : World} {A : Around} {E : Value → Shared → Prop} {s : Shared} {ks : List NestedKey} {k : NestedKey} {v : Value} {d : Addr} {o : Obj} {es : Array DictEntry} {ep : Nat}
theorem eq_keys {a b : NestedKey} {x y : Value} {Q : Bool → Shared → Prop} (hu : A.units + 8 < cLine) (hx : KV8 s.heap a x) (hy : KV8 s.heap b y) (q : Q (decide (a = b)) s) : wpAny (model prog w) A (eqBool x y) Q E s := by
  have l1 := hx.dp
  exact eqAt_key a b A s x y hx.is hy.is (by omega) prog w _ _ (by rw [← NestedKey.decide_eq]; exact q)
theorem hash_key {Q : Int → Shared → Prop} (hu : A.units + 8 < cLine) (hk : KV8 s.heap k v) (q : Q (k.hash w) { s with toks := s.toks + k.draws }) : wpAny (model prog w) A (pyHash v) Q E s := by
  have l1 := hk.dp
  exact pyHash_key k v A s Q hk.is (by omega) q
theorem quiet8 {Q : Bool → Shared → Prop} (hk : KV8 s.heap k v) (q : Q true s) : wpAny (model prog w) A (eqIsQuiet 8 v) Q E s := quiet_key k v 8 s hk.is hk.dp A E Q q
theorem tells_not {st : List Value} {Q : Bool → Shared → Prop} (hk : KV8 s.heap k v) (hs : ∀ u ∈ st, ∃ k', KV8 s.heap k' u) (q : Q false s) : wpAny (model prog w) A (tableMayTell v st) Q E s := by
  unfold tableMayTell
  split
  · exact wpAny_pure q
  · refine wpAny_bind (quiet8 hk ?_)
    simp only [Bool.not_true, Bool.false_eq_true, if_false]
    refine wpAny_bind (wpAny_forIn_list _ (fun todo acc st' => acc = (none, ()) ∧ st' = s ∧ ∀ u ∈ todo, ∃ k', KV8 s.heap k' u) _ ?_ ?_ _ _ ⟨rfl, rfl, hs⟩)
    · rintro u todo acc st' ⟨rfl, rfl, hall⟩
      obtain ⟨k', hk'⟩ := hall u List.mem_cons_self
      refine wpAny_bind (quiet8 hk' ?_)
      simp only [Bool.not_true, Bool.false_eq_true, if_false]
      exact wpAny_pure ⟨rfl, rfl, fun z hz => hall z (List.mem_cons_of_mem _ hz)⟩
    · rintro acc st' ⟨rfl, rfl, _⟩
      exact wpAny_pure q

/-- the places with the key's hash -/
def plc (w : World) (es : Array DictEntry) (k : NestedKey) : List Nat := placesWithHash es.size (fun i => es[i]?.map (·.hash)) (k.hash w)
theorem plc_mem {i : Nat} (h : i ∈ plc w es k) : ∃ x, es[i]? = some x ∧ x.hash = k.hash w := by
  unfold plc placesWithHash at h
  rw [List.mem_filter] at h
  obtain ⟨h1, h2⟩ := h
  cases e : es[i]? with
  | none => simp [e] at h2
  | some x =>
    simp only [e, Option.map_some] at h2
    exact ⟨x, rfl, by simpa using h2⟩
theorem plc_of {i : Nat} {x : DictEntry} (e : es[i]? = some x) (h : x.hash = k.hash w) : i ∈ plc w es k := by
  unfold plc placesWithHash
  rw [List.mem_filter]
  refine ⟨List.mem_range.mpr ?_, by simp [e, h]⟩
  rw [← Array.getElem?_toList] at e
  have := (List.getElem?_eq_some_iff.mp e).1
  simpa using this
theorem plc_nodup : (plc w es k).Nodup := by
  unfold plc placesWithHash
  exact List.Nodup.sublist List.filter_sublist List.nodup_range
/-- among these places the key's is the one -/
theorem plc_find (h : KsOf w s.heap ks es.toList) (nd : ks.Nodup) : ((plc w es k).find? fun i => decide (ks[i]? = some k)) = kIx ks k := by
  by_cases hm : k ∈ ks
  · obtain ⟨i, e⟩ := List.mem_iff_getElem?.mp hm
    rw [kIx_some nd e]
    obtain ⟨x, ex, hx, _⟩ := h.getK e
    rw [Array.getElem?_toList] at ex
    have hi := plc_of ex hx
    cases q : (plc w es k).find? fun i => decide (ks[i]? = some k) with
    | none =>
      rw [List.find?_eq_none] at q
      exact absurd e (by simpa using q i hi)
    | some j =>
      have hj := List.find?_some q
      simp only [decide_eq_true_eq] at hj
      rw [← kIx_some nd e, ← kIx_some nd hj]
  · rw [kIx_none hm, List.find?_eq_none]
    intro i hi
    simp only [decide_eq_true_eq]
    exact fun e => hm (List.mem_of_getElem? e)

theorem find_key {Q : Option Nat → Shared → Prop} (hu : A.units + 8 < cLine) (hk : KV8 s.heap k v) (ho : s.heap.get? d = some o) (hd : o.data = .dict es ep) (hks : KsOf w s.heap ks es.toList) (nd : ks.Nodup) (q : Q (kIx ks k) s) :
    wpAny (model prog w) A (dictFind d v (k.hash w)) Q E s := by
  rw [← plc_find hks nd] at q
  have at_ : ∀ i ∈ plc w es k, ∃ x k', es[i]? = some x ∧ ks[i]? = some k' ∧ x.hash = k.hash w ∧ KV8 s.heap k' x.key := fun i hi => by
    obtain ⟨x, ex, hx⟩ := plc_mem hi
    obtain ⟨k', e1, _, e3⟩ := hks.get (by rw [Array.getElem?_toList]; exact ex)
    exact ⟨x, k', ex, e1, hx, e3⟩
  -- the walk where all are carried by value
  have plain : wpAny (model prog w) A (dictWalkPlain d v (k.hash w) es (plc w es k)) Q E s := by
    unfold dictWalkPlain
    refine wpAny_bind (wpAny_forIn_list _ (fun todo acc st' => acc = (none, ()) ∧ st' = s ∧ (∀ i ∈ todo, i ∈ plc w es k) ∧ Q (todo.find? fun i => decide (ks[i]? = some k)) s) _ ?_ ?_ _ _ ⟨rfl, rfl, fun _ z => z, q⟩)
    · rintro i todo acc st' ⟨rfl, rfl, hin, hq⟩
      obtain ⟨x, k', ex, ek, hx, hk'⟩ := at_ i (hin i List.mem_cons_self)
      have hin' : ∀ j ∈ todo, j ∈ plc w es k := fun j hj => hin j (List.mem_cons_of_mem _ hj)
      simp only [ex]
      rw [if_pos (by rw [hx]; exact beq_self_eq_true _)]
      refine wpAny_bind (wpAny_dictEpoch ho hd (wpAny_bind (eq_keys hu hk' hk (wpAny_bind (wpAny_dictEpoch ho hd ?_)))))
      rw [if_neg (by simp)]
      rw [List.find?_cons] at hq
      rw [ek] at hq
      by_cases e : k' = k
      · subst e
        simp only [decide_true] at hq ⊢
        exact wpAny_bind (wpAny_rule (wpAny_pure (wpAny_pure hq)))
      · have z : ¬ (some k' = some k) := fun z => e (Option.some.inj z)
        rw [decide_eq_false z] at hq
        rw [decide_eq_false e]
        exact wpAny_bind (wpAny_rule (wpAny_pure ⟨rfl, rfl, hin', hq⟩))
    · rintro acc st' ⟨rfl, rfl, _, hq⟩
      exact wpAny_pure hq
  unfold dictFind
  try with_reducible refine wpAny_holding ?_
  refine wpAny_bind (wpAny_dictEntries ho hd ?_)
  dsimp only
  change wpAny _ _ _ _ _ _ at *
  have hstored : ∀ u ∈ (plc w es k).filterMap (fun i => es[i]?.map (·.key)), ∃ k', KV8 s.heap k' u := by
    intro u hm
    obtain ⟨i, hi, e⟩ := List.mem_filterMap.mp hm
    obtain ⟨x, k', ex, _, _, h3⟩ := at_ i hi
    simp only [ex, Option.map_some, Option.some.injEq] at e
    subst e
    exact ⟨k', h3⟩
  have hany : ∀ a, v = .ref a → ¬ (es.any fun e => e.key == Value.ref a && e.hash != k.hash w) = true := by
    rintro a rfl
    rw [← Array.any_toList, List.any_eq_true]
    rintro ⟨x, hx, hc⟩
    obtain ⟨i, ei⟩ := List.mem_iff_getElem?.mp hx
    obtain ⟨k', _, hh, h3⟩ := hks.get ei
    simp only [Bool.and_eq_true, beq_iff_eq, bne_iff_ne, ne_eq] at hc
    rw [hc.1] at h3
    have e := NestedIs.inj _ _ _ h3.is hk.is
    subst e
    exact hc.2 hh
  by_cases hall : ((v :: (plc w es k).filterMap fun i => es[i]?.map (·.key)).all carriedByValue) = true
  · unfold plc at hall
    rw [if_pos hall]
    split
    · rename_i y t
      split
      · rename_i hs
        have hkx : k = .text y := by have := hk.is; cases this; rfl
        subst hkx
        have hf : es.findIdx? (fun e => e.key.isStr y) = kIx ks (.text y) := by
          cases e : kIx ks (.text y) with
          | none =>
            rw [Array.findIdx?_eq_none_iff]
            intro x hx
            obtain ⟨i, ei⟩ := List.mem_iff_getElem?.mp (Array.mem_toList_iff.mpr hx)
            obtain ⟨k', e1, _, h3⟩ := hks.get ei
            show x.key.isStr y = false
            rw [is_str h3.is]
            exact decide_eq_false fun z => mem_of_kIx e (z ▸ List.mem_of_getElem? e1)
          | some i =>
            have e1 := get_of_kIx e
            obtain ⟨x, ex, _, h3⟩ := hks.getK e1
            rw [Array.getElem?_toList] at ex
            have hi : i < es.size := by
              rw [← Array.getElem?_toList] at ex
              have := (List.getElem?_eq_some_iff.mp ex).1
              simpa using this
            rw [Array.findIdx?_eq_some_iff_getElem]
            refine ⟨hi, ?_, fun j hj => ?_⟩
            · rw [Array.getElem?_eq_getElem hi] at ex
              rw [Option.some.inj ex, is_str h3.is]
              simp
            · have hj' : j < es.size := by omega
              obtain ⟨k', e4, _, h5⟩ := hks.get (i := j) (x := es[j]) (by rw [Array.getElem?_toList]; exact Array.getElem?_eq_getElem hj')
              rw [is_str h5.is]
              simp only [decide_eq_true_eq]
              rintro rfl
              have := kIx_some nd e4
              rw [e] at this
              cases this
              omega
        unfold foundByValue
        rw [hf]
        cases e : kIx ks (.text y) with
        | none =>
          rw [plc_find hks nd, e] at q
          exact wpAny_pure q
        | some i =>
          rw [plc_find hks nd, e] at q
          obtain ⟨x, ex, _, h3⟩ := hks.getK (get_of_kIx e)
          rw [Array.getElem?_toList] at ex
          simp only [ex]
          refine wpAny_bind (wpAny_dictEpoch ho hd (wpAny_bind (eq_keys hu h3 hk (wpAny_bind (wpAny_dictEpoch ho hd ?_)))))
          rw [if_neg (by simp), decide_eq_true rfl]
          exact wpAny_bind (wpAny_rule (wpAny_pure q))
      · exact plain
    · exact plain
  · have hns : ∀ y t, v = .str y t → ¬ (es.all fun e => isExactStrKey e.key) = true := by
      rintro y t rfl z
      refine hall ?_
      rw [List.all_cons]
      refine (Bool.and_eq_true _ _).mpr ⟨rfl, List.all_eq_true.mpr fun u hm => ?_⟩
      obtain ⟨i, hi, e⟩ := List.mem_filterMap.mp hm
      obtain ⟨x, k', ex, _, _, h3⟩ := at_ i hi
      simp only [ex, Option.map_some, Option.some.injEq] at e
      subst e
      rw [← Array.all_toList, List.all_eq_true] at z
      have zz := z x (List.mem_of_getElem? (by rw [Array.getElem?_toList]; exact ex))
      cases hx : x.key <;> first | rfl | (rw [hx] at zz; simp [isExactStrKey] at zz)
    unfold plc at hall
    rw [if_neg hall]
    have fin : ∀ (i : Nat), decide (ks[i]? = some k) = true → i ∈ plc w es k → ∀ todo, ((i :: todo).find? fun i => decide (ks[i]? = some k)) = some i := fun i h _ todo => by
      rw [List.find?_cons, h]
    by_cases hone : (((placesWithHash es.size (fun i => es[i]?.map (·.hash)) (k.hash w)).filterMap (fun i => es[i]?.map (·.key))) == [v]) = true
    all_goals cases v
    all_goals try dsimp only
    all_goals try rw [if_neg (hany _ rfl)]
    all_goals try rw [if_neg (hns _ _ rfl)]
    all_goals first
      | (rw [if_pos hone]; first | refine wpAny_bind (wpAny_pure ?_) | skip)
      | (rw [if_neg hone]; refine wpAny_bind (tells_not hk hstored ?_))
    all_goals rw [if_neg (by simp)]
    all_goals refine wpAny_bind (wpAny_forIn_list _ (fun todo (acc : Option (Option Nat) × Option Nat) st' => acc.1 = none ∧ st' = s ∧ (∀ i ∈ todo, i ∈ plc w es k) ∧ todo.Nodup ∧ ((acc.2 = none ∧ Q (todo.find? fun i => decide (ks[i]? = some k)) s) ∨ ∃ j, acc.2 = some j ∧ ks[j]? = some k ∧ j ∉ todo ∧ Q (some j) s)) _ ?_ ?_ _ _ ⟨rfl, rfl, fun _ z => z, plc_nodup, .inl ⟨rfl, q⟩⟩)
    all_goals first
      | (rintro i todo ⟨acc1, acc2⟩ st' ⟨h0, rfl, hin, hdp, hacc⟩
         have h0' : acc1 = none := h0
         subst h0'
         obtain ⟨x, k', ex, ek, hx, hk'⟩ := at_ i (hin i List.mem_cons_self)
         have hin' : ∀ j ∈ todo, j ∈ plc w es k := fun j hj => hin j (List.mem_cons_of_mem _ hj)
         obtain ⟨hit, hdt⟩ := List.nodup_cons.mp hdp
         simp only [ex]
         rw [if_pos (by rw [hx]; exact beq_self_eq_true _)]
         refine wpAny_bind (wpAny_dictEpoch ho hd (wpAny_bind (eq_keys hu hk' hk (wpAny_bind (wpAny_dictEpoch ho hd ?_)))))
         rw [if_neg (by simp)]
         by_cases e : k' = k
         · subst e
           have hnone : acc2 = none ∧ Q (some i) st' := by
             rcases hacc with ⟨h1, h2⟩ | ⟨j, _, h2, h3, _⟩
             · rw [List.find?_cons, ek] at h2
               simp only [decide_true] at h2
               exact ⟨h1, h2⟩
             · exact absurd (by
                 obtain ⟨q1, q2⟩ := List.getElem?_eq_some_iff.mp h2
                 obtain ⟨q3, q4⟩ := List.getElem?_eq_some_iff.mp ek
                 have : j = i := (List.getElem_inj nd).mp (q2.trans q4.symm)
                 rw [this]
                 exact List.mem_cons_self) h3
           obtain ⟨rfl, hq⟩ := hnone
           rw [if_pos (decide_eq_true rfl), if_neg (by simp)]
           refine wpAny_bind (wpAny_rule ?_)
           split
           · exact wpAny_pure (wpAny_pure hq)
           · exact wpAny_pure ⟨rfl, rfl, hin', hdt, .inr ⟨i, rfl, ek, hit, hq⟩⟩
         · rw [if_neg (by rw [decide_eq_false e]; exact Bool.false_ne_true)]
           refine wpAny_bind (wpAny_rule ?_)
           rw [if_neg (by simp)]
           refine wpAny_pure ⟨rfl, rfl, hin', hdt, ?_⟩
           rcases hacc with ⟨h1, h2⟩ | ⟨j, h1, h2, h3, h4⟩
           · refine .inl ⟨h1, ?_⟩
             have z : ¬ (some k' = some k) := fun z => e (Option.some.inj z)
             rw [List.find?_cons, ek, decide_eq_false z] at h2
             exact h2
           · exact .inr ⟨j, h1, h2, fun z => h3 (List.mem_cons_of_mem _ z), h4⟩)
      | (rintro ⟨acc1, acc2⟩ st' ⟨h0, rfl, _, _, hacc⟩
         have h0' : acc1 = none := h0
         subst h0'
         rcases hacc with ⟨h1, h2⟩ | ⟨j, h1, _, _, h2⟩
         · have h1' : acc2 = none := h1
           subst h1'
           exact wpAny_pure h2
         · have h1' : acc2 = some j := h1
           subst h1'
           exact wpAny_pure h2)
end
end DL
/-! DLh: dicts in the store. -/
namespace DL
open PySem PySem.Spec L2
open PyProof.Rows hiding St

def okKey (k : D) : Bool := k.pure && decide (k.depth ≤ 8)
def dkeys (kvs : List (D × D)) : List NestedKey := kvs.map (·.1.key)
def dIx (kvs : List (D × D)) (k : D) : Option Nat := kIx (dkeys kvs) k.key
def dget (kvs : List (D × D)) (k : D) : Option D := match dIx kvs k with
  | some i => (kvs[i]?).map (·.2)
  | none => none
def dput (kvs : List (D × D)) (k v : D) : List (D × D) := match dIx kvs k with
  | some i => kvs.modify i fun p => (p.1, v)
  | none => kvs ++ [(k, v)]
def eput (es : List Ent) (k : NestedKey) (y v : V) : List Ent := match kIx (es.map (·.1)) k with
  | some i => es.modify i fun e => (e.1, e.2.1, v)
  | none => es ++ [(k, y, v)]
/-- the entries as they lie -/
abbrev LiesE (w : World) : List Ent → List DictEntry → Prop := Paired fun (e : Ent) (x : DictEntry) => x.hash = e.1.hash w ∧ RelV e.2.1 x.key ∧ RelV e.2.2 x.val

mutual
theorem key_depth : ∀ d : D, d.key.depth = d.depth
  | .non => by simp [D.key, D.depth, NestedKey.depth]
  | .bl _ => by simp [D.key, D.depth, NestedKey.depth]
  | .int _ => by simp [D.key, D.depth, NestedKey.depth]
  | .str _ => by simp [D.key, D.depth, NestedKey.depth]
  | .loc _ => by simp [D.key, D.depth, NestedKey.depth]
  | .scr _ => by simp [D.key, D.depth, NestedKey.depth]
  | .tup ds => by simp only [D.key, D.depth, NestedKey.depth]; rw [keys_depth ds]
theorem keys_depth : ∀ ds : List D, NestedKey.depthAll (D.keys ds) = D.depths ds
  | [] => by simp [D.keys, D.depths, NestedKey.depthAll]
  | d :: ds => by simp only [D.keys, D.depths, NestedKey.depthAll]; rw [key_depth d, keys_depth ds]
end
section
variable {X : Cx} {ca : Nat → Addr} {pins : List (Addr × Obj)} {σ : L2.St} {H : Hp} {s : Shared} {r : List Addr}
mutual
theorem nested_of (I : Inv X pins σ H s) : ∀ (d : D) (v : V) (u : Value), DV X.K r H d v → RelV v u → d.pure = true → NestedIs s.heap d.key u
  | .non, v, u, h, rv, _ => by unfold DV at h; subst h; cases rv; exact .none
  | .bl b, v, u, h, rv, _ => by unfold DV at h; subst h; cases rv; exact .bool rfl
  | .int i, v, u, h, rv, _ => by unfold DV at h; subst h; obtain ⟨t, rfl⟩ := rv; exact .int _ _
  | .str i, v, u, h, rv, _ => by unfold DV at h; subst h; obtain ⟨t, rfl⟩ := rv; exact .text _ _
  | .loc _, _, _, _, _, p => by simp [D.pure] at p
  | .scr _, _, _, _, _, p => by simp [D.pure] at p
  | .tup ds, v, u, h, rv, p => by
    unfold DV at h
    obtain ⟨a, vs, rfl, h1, h2⟩ := h
    cases rv
    obtain ⟨its, q, ⟨o, g1, g2, n, g3⟩, _⟩ := I.tuple h1
    exact .tup g1 g2 g3 (nesteds_of I ds vs its h2 q (by simpa [D.pure] using p))
theorem nesteds_of (I : Inv X pins σ H s) : ∀ (ds : List D) (vs : List V) (us : List Value), DVs X.K r H ds vs → Vals vs us → D.pures ds = true → NestedAll s.heap (D.keys ds) us
  | [], _, _, h, q, _ => by unfold DVs at h; subst h; cases q; exact .nil
  | d :: ds, _, _, h, q, p => by
    unfold DVs at h
    obtain ⟨v, ws, rfl, h1, h2⟩ := h
    simp only [D.pures, Bool.and_eq_true] at p
    cases q with
    | cons q1 q2 => exact .cons (nested_of I d v _ h1 q1 p.1) (nesteds_of I ds ws _ h2 q2 p.2)
end
theorem kv8_of (I : Inv X pins σ H s) {k : D} {y : V} {u : Value} (q : DV X.K r H k y) (ry : RelV y u) (ok : okKey k = true) : KV8 s.heap k.key u := by
  simp only [okKey, Bool.and_eq_true, decide_eq_true_eq] at ok
  exact ⟨nested_of I k y u q ry ok.1, by rw [key_depth]; exact ok.2⟩
theorem paired_len {α β : Type} {F : α → β → Prop} : ∀ {l : List α} {m : List β}, Paired F l m → l.length = m.length
  | _, _, .nil => rfl
  | _, _, .cons _ t => by simp [paired_len t]
theorem keys_of_ents : ∀ {kvs : List (D × D)} {es : List Ent}, EntsV X.K r H kvs es → es.map (·.1) = dkeys kvs
  | _, _, .nil => rfl
  | _, _, .cons p t => by
    obtain ⟨_, _, e, _⟩ := p
    simp only [dkeys, List.map_cons]
    rw [e]
    exact congrArg _ (keys_of_ents t)
theorem ksOf_of (I : Inv X pins σ H s) : ∀ {kvs : List (D × D)} {es : List Ent} {ents : List DictEntry}, EntsV X.K r H kvs es → LiesE X.w es ents → KsOf X.w s.heap (dkeys kvs) ents
  | _, _, _, .nil, .nil => .nil
  | _, _, _, .cons p t, .cons q u => by
    obtain ⟨p0, p1, p2, p3, _⟩ := p
    obtain ⟨q1, q2, _⟩ := q
    exact .cons ⟨by rw [q1, p2], kv8_of I p3 q2 (by simp [okKey, p0, p1])⟩ (ksOf_of I t u)
theorem paired_get {α β : Type} {F : α → β → Prop} : ∀ {l : List α} {m : List β}, Paired F l m → ∀ {i : Nat} {a : α}, l[i]? = some a → ∃ b, m[i]? = some b ∧ F a b
  | _, _, .nil, i, a, e => by simp at e
  | _, _, .cons p t, i, a, e => by
    cases i with
    | zero => simp at e; subst e; exact ⟨_, rfl, p⟩
    | succ i => simpa using paired_get t (i := i) (by simpa using e)
theorem paired_modify {α β : Type} {F : α → β → Prop} {f : α → α} {g : β → β} (h : ∀ a b, F a b → F (f a) (g b)) : ∀ {l : List α} {m : List β} (i : Nat), Paired F l m → Paired F (l.modify i f) (m.modify i g)
  | _, _, i, .nil => by simpa using Paired.nil
  | _, _, i, .cons p t => by
    cases i with
    | zero => simpa using Paired.cons (h _ _ p) t
    | succ i => simpa using Paired.cons p (paired_modify h i t)
theorem paired_snoc {α β : Type} {F : α → β → Prop} {a : α} {b : β} (h : F a b) : ∀ {l : List α} {m : List β}, Paired F l m → Paired F (l ++ [a]) (m ++ [b])
  | _, _, .nil => .cons h .nil
  | _, _, .cons p t => .cons p (paired_snoc h t)

/-- a dict of the store, as it lies -/
structure DLies (X : Cx) (r : List Addr) (H : Hp) (s : Shared) (a : Addr) (kvs : List (D × D)) (es : List Ent) (o : Obj) (ents : Array DictEntry) (ep : Nat) : Prop where
  hp : H a = some (.ext (RawD X.w a es))
  sm : (a == sysModules) = false
  sz : kvs.length ≤ sizeLine
  nd : (dkeys kvs).Nodup
  ev : EntsV X.K r H kvs es
  ob : s.heap.get? a = some o
  ex : o.ExactDict
  dt : o.data = .dict ents ep
  le : LiesE X.w es ents.toList
  ks : KsOf X.w s.heap (dkeys kvs) ents.toList
theorem DLies.ty {a : Addr} {kvs es o ents ep} (L : DLies X r H s a kvs es o ents ep) : s.TypeIs (.ref a) "dict" := ⟨o, L.ob, L.ex.1⟩
theorem dlies_of (I : Inv X pins σ H s) {a : Addr} {kvs : List (D × D)} (h : OV (gx X ca) r H a (.dct kvs)) : ∃ es o ents ep, DLies X r H s a kvs es o ents ep := by
  obtain ⟨z, sm, nd, es, e, ev⟩ := h
  obtain ⟨⟨o, ents, ep, g1, g2, g3, g4⟩, _⟩ := I.hok a _ e
  exact ⟨es, o, ents, ep, e, sm, z, nd, ev, g1, g2, g3, g4, ksOf_of I ev g4⟩
variable {A : Around} {E : Value → Shared → Prop} {a : Addr} {kvs : List (D × D)} {es : List Ent} {o : Obj} {ents : Array DictEntry} {ep : Nat} {k : D} {y : V} {u : Value}
theorem DLies.tok (L : DLies X r H s a kvs es o ents ep) (t : Nat) : DLies X r H { s with toks := t } a kvs es o ents ep := ⟨L.hp, L.sm, L.sz, L.nd, L.ev, L.ob, L.ex, L.dt, L.le, L.ks⟩
theorem DLies.at_ (L : DLies X r H s a kvs es o ents ep) {i : Nat} {p : D × D} (e : kvs[i]? = some p) : ∃ x v, ents[i]? = some x ∧ RelV v x.val ∧ DV X.K r H p.2 v := by
  obtain ⟨z, ez, _, _, _, _, qv⟩ := paired_get L.ev e
  obtain ⟨x, ex, _, _, rv⟩ := paired_get L.le ez
  exact ⟨x, z.2.2, by rw [Array.getElem?_toList] at ex; exact ex, rv, qv⟩
/-- d.get -/
theorem dict_get {Q : Option Value → Shared → Prop} (hu : A.units + 8 < cLine) (L : DLies X r H s a kvs es o ents ep) (hk : KV8 s.heap k.key u)
    (q : ∀ t, match dget kvs k with
      | some d => ∀ v w', DV X.K r H d v → RelV v w' → Q (some w') { s with toks := t }
      | none => Q none { s with toks := t }) : wpAny (model X.prog X.w) A (dictGet a u) Q E s := by
  unfold dictGet
  refine wpAny_holding (wpAny_bind (hash_key hu hk (wpAny_bind (find_key (s := { s with toks := s.toks + k.key.draws }) hu hk L.ob L.dt L.ks L.nd ?_))))
  have q := q (s.toks + k.key.draws)
  unfold dget dIx at q
  cases e : kIx (dkeys kvs) k.key with
  | none =>
    rw [e] at q
    exact wpAny_pure q
  | some i =>
    rw [e] at q
    have e1 := get_of_kIx e
    unfold dkeys at e1
    rw [List.getElem?_map] at e1
    cases e2 : kvs[i]? with
    | none => rw [e2] at e1; cases e1
    | some p =>
      simp only [e2, Option.map_some] at q
      obtain ⟨x, v, ex, rv, qv⟩ := L.at_ e2
      refine wpAny_bind (wpAny_dictEntries (s := { s with toks := s.toks + k.key.draws }) L.ob L.dt ?_)
      rw [ex]
      exact wpAny_pure (q v _ qv rv)
theorem isSome_dget : (dget kvs k).isSome = (dIx kvs k).isSome := by
  unfold dget
  cases e : dIx kvs k with
  | none => rfl
  | some i =>
    have e1 := get_of_kIx e
    unfold dkeys at e1
    rw [List.getElem?_map] at e1
    cases e2 : kvs[i]? with
    | none => rw [e2] at e1; cases e1
    | some p => simp only [e2]; rfl
/-- k in d, by the answer of get -/
theorem dict_has {Q : Bool → Shared → Prop} (hu : A.in1.units + 8 < cLine) (L : DLies X r H s a kvs es o ents ep) (hk : KV8 s.heap k.key u) (q : ∀ t, Q (dget kvs k).isSome { s with toks := t }) : wpAny (model X.prog X.w) A (contains (.ref a) u) Q E s := by
  refine wpAny_contains_slot L.ty F.slot_dict_contains ?_
  refine wpAny_call_entry F.slot_dict_contains L.ty F.entry_dict_contains ?_ (F.args_dict_contains_2 _ _)
  show wpAny _ _ (dictGet a u >>= _) _ _ s
  refine wpAny_bind (dict_get hu L hk fun t => ?_)
  have q := q t
  split
  · rename_i d e
    rw [e] at q
    exact fun v w' _ _ => wpAny_pure ⟨_, rfl, wpAny_truthy_bool q⟩
  · rename_i e
    rw [e] at q
    show wpAny _ _ (Builtin.Dict.pendingKey? a u >>= _) _ _ _
    exact wpAny_bind (wpAny_pendingKey_other L.sm (wpAny_pure ⟨_, rfl, wpAny_truthy_bool q⟩))
theorem dict_item {Q : Value → Shared → Prop} {d : D} (hu : A.in1.units + 8 < cLine) (L : DLies X r H s a kvs es o ents ep) (hk : KV8 s.heap k.key u) (hd : dget kvs k = some d) (q : ∀ t v w', DV X.K r H d v → RelV v w' → Q w' { s with toks := t }) :
    wpAny (model X.prog X.w) A (getItem (.ref a) u) Q E s := by
  unfold getItem
  refine wpAny_holding (wpAny_bind (wpAny_sequenceKey L.ty (by decide) (wpAny_bind ?_)))
  refine wpAny_callSpecial?_slot L.ty F.slot_dict_getitem (wpAny_call_entry F.slot_dict_getitem L.ty F.entry_dict_getitem ?_ (F.args_dict_getitem_2 _ _))
  show wpAny _ _ (dictGet a u >>= _) _ _ s
  refine wpAny_bind (dict_get hu L hk fun t => ?_)
  rw [hd]
  exact fun v w' qv rv => wpAny_pure ⟨w', rfl, wpAny_pure (q t v w' qv rv)⟩
theorem dict_getm {Q : Value → Shared → Prop} (hu : A.in1.units + 8 < cLine) (L : DLies X r H s a kvs es o ents ep) (hk : KV8 s.heap k.key u) (df : Value)
    (q : ∀ t, match dget kvs k with
      | some d => ∀ v w', DV X.K r H d v → RelV v w' → Q w' { s with toks := t }
      | none => Q df { s with toks := t }) : wpAny (model X.prog X.w) A (call (.builtin "dict.get") [.ref a, u, df]) Q E s := by
  refine wpAny_call_entry F.slot_dict_get L.ty F.entry_dict_get ?_ (F.args_dict_get_3 _ _ _)
  show wpAny _ _ (dictGet a u >>= _) _ _ s
  refine wpAny_bind (dict_get hu L hk fun t => ?_)
  have q := q t
  split
  · rename_i d e
    rw [e] at q
    exact fun v w' qv rv => wpAny_pure ⟨w', rfl, q v w' qv rv⟩
  · rename_i e
    rw [e] at q
    show wpAny _ _ (Builtin.Dict.missed a u >>= _) _ _ _
    exact wpAny_bind (wpAny_missed_other L.sm (wpAny_pure ⟨_, rfl, q⟩))

theorem lies_put {v : V} {rv : Value} (L : DLies X r H s a kvs es o ents ep) (ry : RelV y u) (qv : RelV v rv) : match kIx (dkeys kvs) k.key with
    | some i => LiesE X.w (eput es k.key y v) (ents.modify i fun e => { e with val := rv }).toList
    | none => LiesE X.w (eput es k.key y v) (ents.push ⟨k.key.hash X.w, u, rv⟩).toList := by
  unfold eput
  rw [keys_of_ents L.ev]
  cases e : kIx (dkeys kvs) k.key with
  | some i =>
    have := paired_modify (F := fun (e : Ent) (x : DictEntry) => x.hash = e.1.hash X.w ∧ RelV e.2.1 x.key ∧ RelV e.2.2 x.val) (f := fun e => (e.1, e.2.1, v)) (g := fun x => { x with val := rv }) (fun a b h => ⟨h.1, h.2.1, qv⟩) i L.le
    show LiesE X.w _ (ents.modify i _).toList
    rw [Array.toList_modify]
    exact this
  | none =>
    show LiesE X.w _ (ents.push _).toList
    rw [Array.toList_push]
    exact paired_snoc ⟨rfl, ry, qv⟩ L.le
theorem write_raw {h' : Heap} {t' : Nat} (I : Inv X pins σ H s) (L : DLies X r H s a kvs es o ents ep) {es' : List Ent} (sb : Heap.SameBut a s.heap h') (raw : RawD X.w a es' h') :
    Inv X pins σ (upd H a (.ext (RawD X.w a es'))) { s with heap := h', toks := t' } := by
  refine I.write (x := a) (e := a) (by rw [L.hp]; exact True.intro) (.inl rfl) (fun b z hb e => (sb.2 b hb).trans e) ?_ raw.ok
  obtain ⟨o', _, _, e, _⟩ := raw
  exact ⟨o', e⟩
/-- d[k] = v at the table -/
theorem dict_put {v : V} {rv : Value} {Q : Unit → Shared → Prop} (hu : A.units + 8 < cLine) (I : Inv X pins σ H s) (L : DLies X r H s a kvs es o ents ep) (hk : KV8 s.heap k.key u) (ry : RelV y u) (qv : RelV v rv)
    (q : ∀ s', Inv X pins σ (upd H a (.ext (RawD X.w a (eput es k.key y v)))) s' → Q () s') : wpAny (model X.prog X.w) A (dictSet a u rv) Q E s := by
  have hl := lies_put (k := k) L ry qv
  have hsz : ents.size ≤ sizeLine := by
    have e1 : es.length = ents.size := (paired_len L.le).trans Array.length_toList
    have e2 : kvs.length = es.length := paired_len L.ev
    have e3 := L.sz
    omega
  unfold dictSet dictSetHashed
  refine wpAny_holding (wpAny_bind (hash_key hu hk (wpAny_holding (wpAny_bind (find_key (s := { s with toks := s.toks + k.key.draws }) hu hk L.ob L.dt L.ks L.nd ?_)))))
  cases e : kIx (dkeys kvs) k.key with
  | none =>
    rw [e] at hl
    refine wpAny_bind (wpAny_rule (wpAny_updateDictKeys (s := { s with toks := s.toks + k.key.draws }) L.ob L.dt ?_ (hz := hsz)))
    refine q _ (write_raw I L (Heap.SameBut.update ..) ⟨_, _, ep + 1, Heap.get?_update_self _ L.ob (Obj.isFreed_of_dict (Obj.data_mapDictKeys L.dt _)), L.ex.mapDictKeys _, Obj.data_mapDictKeys L.dt _, hl⟩)
  | some i =>
    rw [e] at hl
    refine wpAny_bind (wpAny_rule (wpAny_bind (wpAny_updateDict (s := { s with toks := s.toks + k.key.draws }) L.ob L.dt (wpAny_point ?_))))
    refine q _ (write_raw I L (Heap.SameBut.update ..) ⟨_, _, ep, Heap.get?_update_self _ L.ob (Obj.isFreed_of_dict (Obj.data_mapDict L.dt _)), L.ex.mapDict _, Obj.data_mapDict L.dt _, hl⟩)
theorem dict_setItem {v : V} {rv : Value} {Q : Unit → Shared → Prop} (hu : A.in1.units + 8 < cLine) (I : Inv X pins σ H s) (L : DLies X r H s a kvs es o ents ep) (hk : KV8 s.heap k.key u) (ry : RelV y u) (qv : RelV v rv)
    (q : ∀ s', Inv X pins σ (upd H a (.ext (RawD X.w a (eput es k.key y v)))) s' → Q () s') : wpAny (model X.prog X.w) A (setItem (.ref a) u rv) Q E s := by
  unfold setItem
  refine wpAny_holding (wpAny_bind (wpAny_sequenceKey L.ty (by decide) (wpAny_bind ?_)))
  refine wpAny_callSpecial?_slot L.ty F.slot_dict_setitem (wpAny_call_entry F.slot_dict_setitem L.ty F.entry_dict_setitem ?_ (F.args_dict_setitem_3 _ _ _))
  show wpAny _ _ (Builtin.Dict.notOrdered "__setitem__" ⟨[.ref a, u, rv], []⟩ >>= _) _ _ s
  refine wpAny_bind (wpAny_notOrdered_dict L.ty ?_)
  show wpAny _ _ (dictSet a u rv >>= _) _ _ s
  exact wpAny_bind (dict_put hu I L hk ry qv fun s' I' => wpAny_pure ⟨.none, rfl, wpAny_pure (q s' I')⟩)
/-- d.setdefault(k, x) -/
theorem dict_setdefault {v : V} {rv : Value} {Q : Value → Shared → Prop} (hu : A.in1.units + 8 < cLine) (I : Inv X pins σ H s) (L : DLies X r H s a kvs es o ents ep) (hk : KV8 s.heap k.key u) (ry : RelV y u) (qv : RelV v rv)
    (q1 : ∀ t d v w', dget kvs k = some d → DV X.K r H d v → RelV v w' → Q w' { s with toks := t })
    (q2 : ∀ s', dget kvs k = none → Inv X pins σ (upd H a (.ext (RawD X.w a (eput es k.key y v)))) s' → Q rv s') : wpAny (model X.prog X.w) A (call (.builtin "dict.setdefault") [.ref a, u, rv]) Q E s := by
  have hl := lies_put (k := k) L ry qv
  have hsz : ents.size ≤ sizeLine := by
    have e1 : es.length = ents.size := (paired_len L.le).trans Array.length_toList
    have e2 : kvs.length = es.length := paired_len L.ev
    have e3 := L.sz
    omega
  refine wpAny_call_entry F.slot_dict_setdefault L.ty F.entry_dict_setdefault ?_ (F.args_dict_setdefault_3 _ _ _)
  unfold Builtin.«dict.setdefault»
  refine wpAny_bind ?_
  unfold Builtin.Dict.keyAndDefault
  refine wpAny_bind (wpAny_notOrdered_dict L.ty ?_)
  show wpAny _ _ (pure (a, u, some rv)) _ _ s
  refine wpAny_pure ?_
  show wpAny _ _ (if (a == sysModules) = true then _ else (dictSetDefault a u rv >>= _)) _ _ s
  rw [if_neg (by rw [L.sm]; exact Bool.false_ne_true)]
  unfold dictSetDefault
  refine wpAny_bind (wpAny_holding (wpAny_bind (hash_key hu hk (wpAny_bind (find_key (s := { s with toks := s.toks + k.key.draws }) hu hk L.ob L.dt L.ks L.nd ?_)))))
  unfold dget dIx at q1 q2
  cases e : kIx (dkeys kvs) k.key with
  | none =>
    rw [e] at hl q2
    refine wpAny_bind (wpAny_rule (wpAny_bind (wpAny_updateDictKeys (s := { s with toks := s.toks + k.key.draws }) L.ob L.dt (wpAny_pure (wpAny_pure ⟨_, rfl, ?_⟩)) (hz := hsz))))
    exact q2 _ rfl (write_raw I L (Heap.SameBut.update ..) ⟨_, _, ep + 1, Heap.get?_update_self _ L.ob (Obj.isFreed_of_dict (Obj.data_mapDictKeys L.dt _)), L.ex.mapDictKeys _, Obj.data_mapDictKeys L.dt _, hl⟩)
  | some i =>
    rw [e] at q1
    have e1 := get_of_kIx e
    unfold dkeys at e1
    rw [List.getElem?_map] at e1
    cases e2 : kvs[i]? with
    | none => rw [e2] at e1; cases e1
    | some p =>
      simp only [e2, Option.map_some] at q1
      obtain ⟨x, v, ex, rv, qv⟩ := L.at_ e2
      refine wpAny_bind (wpAny_dictEntries (s := { s with toks := s.toks + k.key.draws }) L.ob L.dt ?_)
      rw [ex]
      exact wpAny_bind (wpAny_rule (wpAny_pure (wpAny_pure ⟨_, rfl, q1 _ p.2 v _ rfl qv rv⟩)))
end
end DL
/-! DLi: the rules for dicts. -/
namespace DL
open PySem PySem.Spec L2
open PyProof.Rows hiding St

theorem ents_put {K : PySem.W.Frag} {r : List Addr} {H : Hp} {kvs : List (D × D)} {es : List Ent} {k v : D} {y z : V} (h : EntsV K r H kvs es) (ok : okKey k = true) (qk : DV K r H k y) (qv : DV K r H v z) : EntsV K r H (dput kvs k v) (eput es k.key y z) := by
  have hk : es.map (·.1) = dkeys kvs := by
    clear ok qk qv
    induction h with
    | nil => rfl
    | cons p t ih =>
      obtain ⟨_, _, e, _⟩ := p
      simp only [dkeys, List.map_cons] at ih ⊢
      rw [e, ih]
  simp only [okKey, Bool.and_eq_true, decide_eq_true_eq] at ok
  unfold dput eput dIx
  rw [hk]
  cases kIx (dkeys kvs) k.key with
  | some i => exact paired_modify (f := fun p => (p.1, v)) (g := fun e => (e.1, e.2.1, z)) (F := fun (p : D × D) (e : Ent) => p.1.pure = true ∧ p.1.depth ≤ 8 ∧ e.1 = p.1.key ∧ DV K r H p.1 e.2.1 ∧ DV K r H p.2 e.2.2) (fun a b h => ⟨h.1, h.2.1, h.2.2.1, h.2.2.2.1, qv⟩) i h
  | none => exact paired_snoc ⟨ok.1, ok.2, rfl, qk, qv⟩ h
theorem dkeys_put (kvs : List (D × D)) (k v : D) : dkeys (dput kvs k v) = match dIx kvs k with
    | some _ => dkeys kvs
    | none => dkeys kvs ++ [k.key] := by
  unfold dput
  cases dIx kvs k with
  | none => simp [dkeys]
  | some i =>
    show dkeys (kvs.modify i _) = dkeys kvs
    unfold dkeys
    apply List.ext_getElem?
    intro j
    rw [List.getElem?_map, List.getElem?_map, List.getElem?_modify]
    by_cases e : i = j
    · subst e; cases kvs[i]? <;> simp
    · simp [e]
theorem nodup_put {kvs : List (D × D)} (nd : (dkeys kvs).Nodup) (k v : D) : (dkeys (dput kvs k v)).Nodup := by
  rw [dkeys_put]
  cases e : dIx kvs k with
  | some i => exact nd
  | none =>
    show (dkeys kvs ++ [k.key]).Nodup
    rw [List.nodup_append]
    refine ⟨nd, by simp, fun a ha b hb => ?_⟩
    simp at hb
    subst hb
    rintro rfl
    exact mem_of_kIx e ha
theorem length_put (kvs : List (D × D)) (k v : D) : (dput kvs k v).length ≤ kvs.length + 1 := by
  unfold dput
  cases dIx kvs k <;> simp

/-! ### what is read of a dict -/
def dctD (S : Sto) : D → Option (List (D × D))
  | .loc n => match S[n]? with
    | some (.dct kvs) => some kvs
    | _ => none
  | _ => none
section
variable {X : Cx} {ca : Nat → Addr}
/-- d[k], k in d .. : the store says it -/
def RdD (G : Ctx) (x y : V) (H : Hp) (P : List (D × D) → D → List Addr → Prop) : Prop := ∃ (r : List Addr) (S : Sto) (d k : D) (kvs : List (D × D)), RepS G r S H ∧ DV G.K r H d x ∧ DV G.K r H k y ∧ dctD S d = some kvs ∧ okKey k = true ∧ P kvs k r
def rIxD (G : Ctx) : R2 := fun x y H Q => RdD G x y H fun kvs k r => ∃ d, dget kvs k = some d ∧ ∀ v, DV G.K r H d v → Q v H
def rInDct (G : Ctx) : R2 := fun x y H Q => RdD G y x H fun kvs k r => Q (.bl (dget kvs k).isSome) H
def rNotInDct (G : Ctx) : R2 := fun x y H Q => RdD G y x H fun kvs k r => Q (.bl (!(dget kvs k).isSome)) H
theorem dct_at {G : Ctx} {r : List Addr} {S : Sto} {H : Hp} {d : D} {x : V} {kvs : List (D × D)} (R : RepS G r S H) (q : DV G.K r H d x) (e : dctD S d = some kvs) : ∃ n a, d = .loc n ∧ x = .ref a ∧ r[n]? = some a ∧ S[n]? = some (.dct kvs) ∧ OV G r H a (.dct kvs) := by
  unfold dctD at e
  split at e
  · rename_i n
    split at e
    · rename_i kvs' e1
      cases e
      obtain ⟨a, ea, rfl⟩ := dv_loc q
      exact ⟨n, a, rfl, rfl, ea, e1, R.at_ _ _ _ e1 ea⟩
    · cases e
  · cases e
theorem u8 {k : Nat} {A : Around} (hr : Room k A) : A.in1.units + 8 < cLine := by
  have := hr.un
  show A.units + 1 + 8 < cLine
  omega
theorem ix_dict (hu : X.A.in1.units + 8 < cLine) : IxR X (rIxD (gx X ca)) := by
  intro value slice pins s σ H x y v u Q I rx ry h hs
  obtain ⟨r, S, d, k, kvs, R, q1, q2, e, ok, d', e', q⟩ := h
  obtain ⟨n, a, rfl, rfl, ea, e1, ov⟩ := dct_at R q1 e
  cases rx
  obtain ⟨es, o, ents, ep, L⟩ := dlies_of I ov
  obtain ⟨i, hi, dv⟩ : ∃ i : Nat, True ∧ True := ⟨0, trivial, trivial⟩
  unfold subscriptTail
  refine wpAny_bind ?_
  rw [getitemInPython_of_ne L.ty.not_modules]
  refine wpAny_bind (wpAny_specialOf L.ty PySem.F.slot_dict_getitem.lookup ?_)
  have fin : wpAny (model X.prog X.w) X.A (subscripted slice false (.ref a) u) (fun z s3 => wpAny (model X.prog X.w) X.A (letTemporaryGo value (.ref a) z >>= fun _ => pure z) (EP X pins σ Q) X.xe s3) X.xe s := by
    rw [hs]
    refine wpAny_operating (dict_item hu L (kv8_of I q2 ry ok) e' fun t w z qw rz => wpAny_bind (wpAny_letTemporaryGo (wpAny_pure ⟨w, H, I.tok t, rz, q w qw⟩)))
  first
    | exact wpAny_bind fin
    | exact wpAny_pure (wpAny_bind fin)
theorem op_inDct (hu : X.A.in1.units + 8 < cLine) : OpR X (compareOp .In) (rInDct (gx X ca)) := by
  intro pins s σ H x y v u Q I rx ry h
  obtain ⟨r, S, d, k, kvs, R, q1, q2, e, ok, q⟩ := h
  obtain ⟨n, a, rfl, rfl, ea, e1, ov⟩ := dct_at R q1 e
  cases ry
  obtain ⟨es, o, ents, ep, L⟩ := dlies_of I ov
  show wpAny _ _ (contains (.ref a) v >>= fun b => pure (Value.bool b)) _ _ s
  exact wpAny_bind (dict_has hu L (kv8_of I q2 rx ok) fun t => wpAny_pure ⟨.bl _, H, I.tok t, rfl, q⟩)
theorem op_notInDct (hu : X.A.in1.units + 8 < cLine) : OpR X (compareOp .NotIn) (rNotInDct (gx X ca)) := by
  intro pins s σ H x y v u Q I rx ry h
  obtain ⟨r, S, d, k, kvs, R, q1, q2, e, ok, q⟩ := h
  obtain ⟨n, a, rfl, rfl, ea, e1, ov⟩ := dct_at R q1 e
  cases ry
  obtain ⟨es, o, ents, ep, L⟩ := dlies_of I ov
  show wpAny _ _ (contains (.ref a) v >>= fun b => pure (Value.bool (!b))) _ _ s
  exact wpAny_bind (dict_has hu L (kv8_of I q2 rx ok) fun t => wpAny_pure ⟨.bl _, H, I.tok t, rfl, q⟩)
/-- one sign in a text; a text in a text -/
def rIn1 (G : Ctx) : R2 := fun x y H Q => rInLT G.K x y H Q ∨ rInDct G x y H Q ∨ (fun x y H Q => ∃ i j, x = V.str i ∧ y = V.str j ∧ Q (V.bl (!(Builtin.Str.occurrences j i 0 j.length 1).isEmpty)) H) x y H Q
def rNotIn1 (G : Ctx) : R2 := fun x y H Q => rNotInLT G.K x y H Q ∨ rNotInDct G x y H Q ∨ (fun x y H Q => ∃ i j, x = V.str i ∧ y = V.str j ∧ Q (V.bl (!(!(Builtin.Str.occurrences j i 0 j.length 1).isEmpty))) H) x y H Q
theorem op_in1 {k : Nat} (hr : Room k X.A) : OpR X (compareOp .In) (rIn1 (gx X ca)) := (op_inLT (DL.Room.u65 hr)).or ((op_inDct (u8 hr)).or op_in_str)
theorem op_notIn1 {k : Nat} (hr : Room k X.A) : OpR X (compareOp .NotIn) (rNotIn1 (gx X ca)) := (op_notInLT (DL.Room.u65 hr)).or ((op_notInDct (u8 hr)).or op_notin_str)
def rIx1 (G : Ctx) : R2 := fun x y H Q => rIx G.K x y H Q ∨ rIxD G x y H Q
theorem ix_1 {k : Nat} (hr : Room k X.A) : IxR X (rIx1 (gx X ca)) := ix_seq.or (ix_dict (u8 hr))
def ixQ : D → D → Sto → Option (D × Sto) := fun a b S => match dctD S a with
  | some kvs => if okKey b = true then (match dget kvs b with
    | some d => some (d, S)
    | none => none) else none
  | none => ixP a b S
def inQ : D → D → Sto → Option (D × Sto) := fun a b S => match dctD S b with
  | some kvs => if okKey a = true then some (.bl (dget kvs a).isSome, S) else none
  | none => match a, b with
    | .str x, .str y => some (.bl (!(Builtin.Str.occurrences y x 0 y.length 1).isEmpty), S)
    | _, _ => inP a b S
def notInQ : D → D → Sto → Option (D × Sto) := fun a b S => match dctD S b with
  | some kvs => if okKey a = true then some (.bl (!(dget kvs a).isSome), S) else none
  | none => match a, b with
    | .str x, .str y => some (.bl (!(!(Builtin.Str.occurrences y x 0 y.length 1).isEmpty)), S)
    | _, _ => notInP a b S
variable {G : Ctx}
theorem prim_ix1 : Prim2 G (rIx1 G) ixQ := by
  intro r S H x y v w d S' Q R hv hw h k
  unfold ixQ at h
  split at h
  · rename_i kvs e
    split at h
    · rename_i ok
      split at h
      · rename_i d' e'
        cases h
        exact .inr ⟨r, _, x, y, kvs, R, hv, hw, e, ok, d, e', fun z qz => k r H z Ext.refl R qz⟩
      · cases h
    · cases h
  · exact .inl (prim_ix r S H x y v w d S' Q R hv hw h k)
theorem prim_in1 : Prim2 G (rIn1 G) inQ := by
  intro r S H x y v w d S' Q R hv hw h k
  unfold inQ at h
  split at h
  · rename_i kvs e
    split at h
    · rename_i ok
      cases h
      exact .inr (.inl ⟨r, _, y, x, kvs, R, hw, hv, e, ok, k r H _ Ext.refl R mk_bl⟩)
    · cases h
  · split at h
    · cases h
      rw [dv_str hv, dv_str hw]
      exact .inr (.inr ⟨_, _, rfl, rfl, k r H _ Ext.refl R mk_bl⟩)
    · exact .inl (prim_in r S H x y v w d S' Q R hv hw h k)
theorem prim_notIn1 : Prim2 G (rNotIn1 G) notInQ := by
  intro r S H x y v w d S' Q R hv hw h k
  unfold notInQ at h
  split at h
  · rename_i kvs e
    split at h
    · rename_i ok
      cases h
      exact .inr (.inl ⟨r, _, y, x, kvs, R, hw, hv, e, ok, k r H _ Ext.refl R mk_bl⟩)
    · cases h
  · split at h
    · cases h
      rw [dv_str hv, dv_str hw]
      exact .inr (.inr ⟨_, _, rfl, rfl, k r H _ Ext.refl R mk_bl⟩)
    · exact .inl (prim_notIn r S H x y v w d S' Q R hv hw h k)

/-! ### o[i] = v -/
def setP : D → D → D → Sto → Option Sto := fun o i v S => match dctD S o with
  | some kvs => if okKey i = true ∧ kvs.length < sizeLine then (match o with
    | .loc n => some (S.set n (.dct (dput kvs i v)))
    | _ => none) else none
  | none => match o, i with
    | .loc n, .int j => match S[n]? with
      | some (.lst ds) => match ixN ds.length j with
        | some m => some (S.set n (.lst (ds.set m v)))
        | none => none
      | _ => none
    | _, _ => none
def rSetD (G : Ctx) : V → V → V → Hp → (Hp → Prop) → Prop := fun o i v H Q => ∃ (r : List Addr) (S : Sto) (d k z : D) (kvs : List (D × D)), RepS G r S H ∧ DV G.K r H d o ∧ DV G.K r H k i ∧ DV G.K r H z v ∧ dctD S d = some kvs ∧ okKey k = true ∧
  ∀ a es, o = .ref a → H a = some (.ext (RawD G.w a es)) → EntsV G.K r H kvs es → Q (upd H a (.ext (RawD G.w a (eput es k.key i v))))
theorem set_dict (hu : X.A.in1.units + 8 < cLine) : PSet X (rSetD (gx X ca)) := by
  intro pins s σ H o i v ov iv u Q I ro ri rv h
  obtain ⟨r, S, d, k, z, kvs, R, q1, q2, q3, e, ok, q⟩ := h
  obtain ⟨n, a, rfl, rfl, ea, e1, hov⟩ := dct_at R q1 e
  cases ro
  obtain ⟨es, ob, ents, ep, L⟩ := dlies_of I hov
  exact dict_setItem hu I L (kv8_of I q2 ri ok) ri rv fun s' I' => ⟨_, I', q a es rfl L.hp L.ev⟩
def rSet1 (G : Ctx) : V → V → V → Hp → (Hp → Prop) → Prop := fun o i v H Q => rSetL o i v H Q ∨ rSetD G o i v H Q
theorem set_1 {k : Nat} (hr : Room k X.A) : PSet X (rSet1 (gx X ca)) := by
  intro pins s σ H o i v ov iv u Q I ro ri rv h
  rcases h with h | h
  · exact set_list pins s σ H o i v ov iv u Q I ro ri rv h
  · exact set_dict (u8 hr) pins s σ H o i v ov iv u Q I ro ri rv h
theorem RepS.dct {r : List Addr} {S : Sto} {H : Hp} (R : RepS G r S H) {n : Nat} {a : Addr} {kvs : List (D × D)} {es : List Ent} {k z : D} {y v : V} (e : S[n]? = some (.dct kvs)) (ea : r[n]? = some a) (hz : kvs.length < sizeLine) (ev : EntsV G.K r H kvs es) (ok : okKey k = true) (q2 : DV G.K r H k y) (q3 : DV G.K r H z v) :
    Ext G.K r H r (upd H a (.ext (RawD G.w a (eput es k.key y v)))) ∧ RepS G r (S.set n (.dct (dput kvs k z))) (upd H a (.ext (RawD G.w a (eput es k.key y v)))) := by
  obtain ⟨_, sm, nd, _⟩ := R.at_ _ _ _ e ea
  refine R.wr e ea fun x => ⟨?_, sm, nodup_put nd k z, _, upd_same, (ents_put ev ok q2 q3).ext x.w⟩
  have := length_put kvs k z
  omega
theorem prim_set {r : List Addr} {S S' : Sto} {H : Hp} {o i z : D} {x y v : V} {Q : Hp → Prop} (R : RepS G r S H) (q1 : DV G.K r H o x) (q2 : DV G.K r H i y) (q3 : DV G.K r H z v) (h : setP o i z S = some S')
    (k : ∀ r' H', Ext G.K r H r' H' → RepS G r' S' H' → Q H') : rSet1 G x y v H Q := by
  unfold setP at h
  split at h
  · rename_i kvs e
    split at h
    · rename_i ok
      obtain ⟨n, a, rfl, rfl, ea, e1, ov⟩ := dct_at R q1 e
      cases h
      refine .inr ⟨r, S, _, i, z, kvs, R, q1, q2, q3, e, ok.1, fun b es hb he hev => ?_⟩
      cases hb
      obtain ⟨x', R'⟩ := R.dct e1 ea ok.2 hev ok.1 q2 q3
      exact k r _ x' R'
    · cases h
  · split at h
    · split at h
      · rename_i ds e
        split at h
        · rename_i m em
          cases h
          obtain ⟨a, ea, rfl⟩ := dv_loc q1
          obtain ⟨ws, h1, qs⟩ := R.lstAt e ea
          obtain ⟨x', R'⟩ := R.wr (o' := .lst (ds.set m z)) (u := .lst (ws.set m v)) e ea fun x => ⟨_, upd_same, (DVs.ext x _ _ qs).set m (DV.ext x _ _ q3)⟩
          rw [dv_int q2]
          exact .inl ⟨a, ws, _, m, rfl, rfl, h1, by rw [qs.length]; exact em, k r _ x' R'⟩
        · cases h
      · cases h
    · cases h
def gSubM (a b : EM) : GM := fun d env S => match a env S with
  | some (o, S1) => match b env S1 with
    | some (i, S2) => match setP o i d S2 with
      | some S3 => some (env, S3)
      | none => none
    | none => none
  | none => none
theorem dg_sub {k : Nat} {o i : Expr} {ma mb : EM} {pos : Pos} (hr : Room k X.A) (ho : PE X o (liftE (gx X ca) ma)) (hi : PE X i (liftE (gx X ca) mb)) (ha : ∀ v, assign (.Subscript o i pos) X.env v = (do
      let ov ← holding [v] (eval o X.env)
      let iv ← holding [v, ov] (eval i X.env)
      standAt pos
      holding [v, ov, iv] (setItem ov iv v)
      release [v, ov, iv] []) := by intro _; rfl) : PG X (.Subscript o i pos) (liftG (gx X ca) (gSubM ma mb)) :=
  wkG (pg_sub ho hi (set_1 hr) ha) fun v σ H Q ⟨r, env, S, d, env', S', R, W, q, h, k⟩ => by
    unfold gSubM at h
    split at h
    · rename_i x S1 e1
      refine ⟨r, env, S, x, S1, R, W, e1, fun r1 H1 u x1 R1 q1 => ?_⟩
      split at h
      · rename_i y S2 e2
        refine ⟨r1, env, S1, y, S2, R1, W.ext x1, e2, fun r2 H2 w x2 R2 q2 => ?_⟩
        split at h
        · rename_i S3 e3
          cases h
          exact prim_set R2 (DV.ext x2 _ _ q1) q2 (DV.ext (x1.trans x2) _ _ q) e3 fun r3 H3 x3 R3 => k r3 σ H3 (x1.trans (x2.trans x3)) R3 (W.ext (x1.trans (x2.trans x3)))
        · cases h
      · cases h
    · cases h

/-! ### {k: v, ..} -/
abbrev PMs := List (EM × EM)
def evPairs : PMs → Vars → Sto → Option (List (D × D) × Sto)
  | [], _, S => some ([], S)
  | (a, b) :: ps, env, S => match a env S with
    | some (x, S1) => match b env S1 with
      | some (y, S2) => match evPairs ps env S2 with
        | some (r, S3) => some ((x, y) :: r, S3)
        | none => none
      | none => none
    | none => none
def mDisp (ps : PMs) : EM := fun env S => match evPairs ps env S with
  | some (kvs, S1) => if kvs.all (fun p => okKey p.1) = true then some (.loc S1.length, S1 ++ [.dct (kvs.foldl (fun d p => dput d p.1 p.2) [])]) else none
  | none => none
theorem lift_pairs : ∀ (ps : PMs) (r : List Addr) (env : Vars) (S : Sto) (kvs : List (D × D)) (S' : Sto) (σ : L2.St) (H : Hp) (Q : List (V × V) → Hp → Prop), RepS G r S H → VarsV G.K r H env σ → evPairs ps env S = some (kvs, S') →
    (∀ r' H' vs, Ext G.K r H r' H' → RepS G r' S' H' → Paired (fun (p : D × D) (q : V × V) => DV G.K r' H' p.1 q.1 ∧ DV G.K r' H' p.2 q.2) kvs vs → Q vs H') → tPairs (ps.map fun p => (liftE G p.1, liftE G p.2)) σ H Q
  | [], r, env, S, kvs, S', σ, H, Q, R, W, h, k => by
    cases h
    exact k r H [] Ext.refl R .nil
  | (a, b) :: ps, r, env, S, kvs, S', σ, H, Q, R, W, h, k => by
    unfold evPairs at h
    split at h
    · rename_i x S1 e1
      refine ⟨r, env, S, x, S1, R, W, e1, fun r1 H1 v x1 R1 q1 => ?_⟩
      split at h
      · rename_i y S2 e2
        refine ⟨r1, env, S1, y, S2, R1, W.ext x1, e2, fun r2 H2 w x2 R2 q2 => ?_⟩
        split at h
        · rename_i rr S3 e3
          cases h
          refine lift_pairs ps r2 env S2 rr _ σ H2 _ R2 (W.ext (x1.trans x2)) e3 fun r3 H3 vs x3 R3 q3 => ?_
          exact k r3 H3 _ (x1.trans (x2.trans x3)) R3 (.cons ⟨DV.ext (x2.trans x3) _ _ q1, DV.ext x3 _ _ q2⟩ q3)
        · cases h
      · cases h
    · cases h
end
/-- pairs of trees at pairs of values -/
abbrev PrV (K : PySem.W.Frag) (r : List Addr) (H : Hp) : List (D × D) → List (V × V) → Prop := Paired fun (p : D × D) (q : V × V) => DV K r H p.1 q.1 ∧ DV K r H p.2 q.2
theorem PrV.ext {K r H r' H'} (x : ExtW K r H r' H') {l : List (D × D)} {m : List (V × V)} (h : PrV K r H l m) : PrV K r' H' l m := Paired.mapP h fun _ _ q => ⟨DV.extW x _ _ q.1, DV.extW x _ _ q.2⟩
section
variable {X : Cx} {ca : Nat → Addr} {pins : List (Addr × Obj)} {σ : L2.St} {r : List Addr} {a : Addr} {A : Around} {E : Value → Shared → Prop}
theorem dlies_mk {H : Hp} {s : Shared} {kvs : List (D × D)} {es : List Ent} (I : Inv X pins σ H s) (hp : H a = some (.ext (RawD X.w a es))) (sm : (a == sysModules) = false) (sz : kvs.length ≤ sizeLine) (nd : (dkeys kvs).Nodup) (ev : EntsV X.K r H kvs es) : ∃ o ents ep, DLies X r H s a kvs es o ents ep := by
  obtain ⟨⟨o, ents, ep, g1, g2, g3, g4⟩, _⟩ := I.hok a _ hp
  exact ⟨o, ents, ep, hp, sm, sz, nd, ev, g1, g2, g3, g4, ksOf_of I ev g4⟩
theorem extW_raw {H : Hp} {es es' : List Ent} {w : World} {K : PySem.W.Frag} (hp : H a = some (.ext (RawD w a es))) : ExtW K r H r (upd H a (.ext (RawD w a es'))) := ⟨List.prefix_refl _, fun _ _ h => sqT_wr hp (fun _ z => by cases z) (fun _ _ z => by cases z) h, fun _ _ h => scL_wr hp (fun _ _ z => by cases z) h⟩
/-- the pairs stored one after the other -/
def StoreGoal (X : Cx) (pins : List (Addr × Obj)) (σ : L2.St) (r : List Addr) (a : Addr) (acc : List (D × D)) (Q : Shared → Prop) : Prop :=
  ∀ es' H' s', Inv X pins σ H' s' → H' a = some (.ext (RawD X.w a es')) → EntsV X.K r H' acc es' → (dkeys acc).Nodup → Q s'
theorem upd_self {H : Hp} {o : HO} (h : H a = some o) : upd H a o = H := by
  funext b
  unfold upd
  by_cases hb : b = a
  · rw [if_pos hb, hb, h]
  · rw [if_neg hb]
theorem store_pairs (hu : A.units + 8 < cLine) (sm : (a == sysModules) = false) (H0 : Hp) (kvs : List (D × D)) : ∀ (vs : List (V × V)) (us : List (Value × Value)) (acc : List (D × D)) (es : List Ent) (s : Shared) (Q : PUnit → Shared → Prop),
    Inv X pins σ (upd H0 a (.ext (RawD X.w a es))) s → (∃ u, H0 a = some u ∧ (∀ xs, u ≠ .tup xs) ∧ ∀ ob z, u ≠ .frz ob z) → EntsV X.K r H0 acc es → (dkeys acc).Nodup → PrV X.K r H0 kvs vs → VV vs us → kvs.all (fun p => okKey p.1) = true → acc.length + kvs.length ≤ sizeLine →
    (∀ es' s', Inv X pins σ (upd H0 a (.ext (RawD X.w a es'))) s' → EntsV X.K r H0 (kvs.foldl (fun d p => dput d p.1 p.2) acc) es' → (dkeys (kvs.foldl (fun d p => dput d p.1 p.2) acc)).Nodup → Q PUnit.unit s') →
    wpAny (model X.prog X.w) A (forIn us PUnit.unit fun (x : Value × Value) (_ : PUnit) => (do dictSet a x.1 x.2; pure (ForInStep.yield PUnit.unit) : Sem (ForInStep PUnit))) Q E s := by
  induction kvs with
  | nil =>
    intro vs us acc es s Q I hp ev nd hv hw _ _ k
    cases hv
    cases hw
    rw [List.forIn_nil]
    exact wpAny_pure (k es s I ev nd)
  | cons p kvs ih =>
    intro vs us acc es s Q I hp ev nd hv hw ok hz k
    cases hv with
    | @cons _ pv _ vs q qs =>
      cases hw with
      | @cons _ pu _ us u1 us1 =>
        rw [List.all_cons, Bool.and_eq_true] at ok
        rw [List.length_cons] at hz
        obtain ⟨z0, hz0, hz1, hz2⟩ := hp
        have x : ExtW X.K r H0 r (upd H0 a (.ext (RawD X.w a es))) := ⟨List.prefix_refl _, fun _ _ h => sqT_wr hz0 hz1 hz2 h, fun _ _ h => scL_wr hz0 hz2 h⟩
        obtain ⟨o, ents, ep, L⟩ := dlies_mk (r := r) I upd_same sm (by omega) nd (ev.ext x)
        rw [List.forIn_cons]
        refine wpAny_bind (wpAny_bind (dict_put hu I L (kv8_of I (DV.extW x _ _ q.1) u1.1 ok.1) u1.1 u1.2 fun s1 I1 => wpAny_pure ?_))
        rw [upd_upd] at I1
        exact ih _ _ (dput acc p.1 p.2) _ s1 Q I1 ⟨z0, hz0, hz1, hz2⟩ (ents_put ev ok.1 q.1 q.2) (nodup_put nd _ _) qs us1 ok.2 (by have := length_put acc p.1 p.2; omega) k
theorem ext_new {G : Ctx} {H : Hp} {S : Sto} (R : RepS G r S H) (hp : H a = none) : Ext G.K r H r (upd H a (.ext (RawD G.w a []))) ∧ RepS G r S (upd H a (.ext (RawD G.w a []))) := R.side hp
theorem raw_empty {w : World} {h : Heap} : RawD w h.objs.size [] (h.push { cls := .type "dict", data := .dict #[] }) := ⟨_, #[], 0, Heap.get?_push_size _ rfl, ⟨rfl, rfl, rfl⟩, rfl, .nil⟩
/-- a dict in the making is named by the store -/
theorem RepS.regD {G : Ctx} {H : Hp} {S : Sto} (R : RepS G r S H) {es : List Ent} {kvs : List (D × D)} (hp : H a = some (.ext (RawD G.w a es))) (hr : a ∉ r) (sm : (a == sysModules) = false) (hz : kvs.length ≤ sizeLine) (nd : (dkeys kvs).Nodup) (ev : EntsV G.K r H kvs es) : ExtW G.K r H (r ++ [a]) H ∧ RepS G (r ++ [a]) (S ++ [.dct kvs]) H := by
  have x : ExtW G.K r H (r ++ [a]) H := ⟨List.prefix_append _ _, fun _ _ h => h, fun _ _ h => h⟩
  refine ⟨x, by simp [R.len], ?_, fun n o' b e1 e2 => ?_⟩
  · rw [List.nodup_append]
    exact ⟨R.nd, by simp, fun y hy z hz => by simp at hz; subst hz; exact fun q => hr (q ▸ hy)⟩
  · by_cases hn : n < S.length
    · rw [List.getElem?_append_left hn] at e1
      rw [List.getElem?_append_left (by rw [R.len]; exact hn)] at e2
      exact (R.at_ n o' b e1 e2).ext x rfl
    · have hn' : n = S.length := by
        have := (List.getElem?_eq_some_iff.mp e1).1
        simp at this; omega
      subst hn'
      simp at e1
      rw [← R.len] at e2
      simp at e2
      subst e1 e2
      exact ⟨hz, sm, nd, es, hp, ev.ext x⟩
theorem paired_len' {α β : Type} {F : α → β → Prop} {l : List α} {m : List β} (h : Paired F l m) : l.length = m.length := paired_len h
theorem fold_len (kvs : List (D × D)) : ∀ acc : List (D × D), (kvs.foldl (fun d p => dput d p.1 p.2) acc).length ≤ acc.length + kvs.length := by
  induction kvs with
  | nil => intro acc; exact Nat.le_refl _
  | cons p kvs ih =>
    intro acc
    have h1 := ih (dput acc p.1 p.2)
    have h2 := length_put acc p.1 p.2
    rw [List.foldl_cons, List.length_cons]
    omega
theorem de_disp {k : Nat} {keys : List (Option Expr)} {values : List Expr} {ps : PMs} {pos : Pos} (hr : Room k X.A) (h : PPs X pos keys values (ps.map fun p => (liftE (gx X ca) p.1, liftE (gx X ca) p.2))) (hall : keys.all (·.isSome) = true := by rfl) (hl : keys.length = values.length := by rfl) (h0 : keys ≠ [] := by (intro z; cases z))
    (h15 : keys.length ≤ 15 := by decide) : PE X (.Dict keys values pos) (liftE (gx X ca) (mDisp ps)) := by
  refine ⟨fun pins s σ H Q I ⟨r, env, S, d, S', R, W, hm, kq⟩ => ?_⟩
  unfold mDisp at hm
  split at hm
  · rename_i kvs S1 e1
    split at hm
    · rename_i ok
      cases hm
      have hn := I.hok.fresh (Nat.le_refl s.heap.objs.size)
      have hpl := pairTrees_length keys values X.env pos hall hl
      have I1 : Inv X pins σ (upd H s.heap.objs.size (.ext (RawD X.w s.heap.objs.size []))) { s with heap := s.heap.push { cls := .type "dict", data := .dict #[] } } :=
        I.laid (t' := s.toks) (fun _ _ q => Heap.get?_push_of_some _ q) (Nat.le_refl _) raw_empty.ok
      have sm : (s.heap.objs.size == sysModules) = false := (dk_empty (P := X.prog) (w := X.w) (H := H) s.heap I.big).2.1
      obtain ⟨x1, R1⟩ := R.side (u := .ext (RawD X.w s.heap.objs.size [])) hn
      rw [arm_eval_Dict, zip_pairTrees keys values X.env pos hall hl, dictDisplay_pairs _ (by intro z; rw [z] at hpl; exact h0 (List.length_eq_zero_iff.mp hpl.symm)) (by omega)]
      refine wpAny_bind (wpAny_standAt (wpAny_bind ?_))
      unfold subDict
      refine wpAny_bind (wpAny_alloc (wpAny_bind (wpAny_holding ?_)))
      rw [if_pos (by omega)]
      refine wpAny_bind (wpAny_mono (wpAny_evalPairs_len (h.run pins _ σ _ (fun vs H2 => ∃ r2, Ext X.K r H r2 H2 ∧ RepS (gx X ca) r2 S1 H2 ∧ H2 s.heap.objs.size = some (.ext (RawD X.w s.heap.objs.size [])) ∧ s.heap.objs.size ∉ r2 ∧ PrV X.K r2 H2 kvs vs) I1 ?_)) (fun us s2 hq => ?_) fun _ _ e => e)
      · refine lift_pairs ps r env S kvs _ σ _ _ R1 (W.ext x1) e1 fun r2 H2 vs x2 R2 q2 => ?_
        obtain ⟨f1, f2⟩ := x2.frame _ _ upd_same (R.free hn)
        exact ⟨r2, x1.trans x2, R2, f1, f2, q2⟩
      · obtain ⟨hlen, vs, H2, I2, rel, r2, x2, R2, f1, f2, q2⟩ := hq
        have hle := paired_len q2
        have hle2 := paired_len rel
        have sl : (sizeLine : Nat) = 16777216 := sizeLine_eq
        have hk15 : kvs.length ≤ 15 := by omega
        have I2' : Inv X pins σ (upd H2 s.heap.objs.size (.ext (RawD X.w s.heap.objs.size []))) s2 := by rw [upd_self f1]; exact I2
        refine wpAny_holding (wpAny_bind (store_pairs (r := r2) (by have := hr.un; omega) sm H2 kvs vs us [] [] s2 _ I2' ⟨_, f1, (fun _ z => by cases z), (fun _ _ z => by cases z)⟩ .nil List.nodup_nil q2 rel ok (by simp; omega) fun es' s' I' ev0 nd' => wpAny_pure (wpAny_pure (wpAny_pure ?_))))
        have ev' := ev0.ext (extW_raw (r := r2) (K := X.K) (es' := es') f1)
        have y := extW_raw (r := r2) (K := X.K) (es' := es') f1
        have R3 : RepS (gx X ca) r2 S1 (upd H2 s.heap.objs.size (.ext (RawD X.w s.heap.objs.size es'))) :=
          ⟨R2.len, R2.nd, fun n o b z1 z2 => (R2.at_ n o b z1 z2).ext y (upd_ne (by rintro rfl; exact f2 (List.mem_of_getElem? z2)))⟩
        have hfl := fold_len kvs []
        obtain ⟨y2, R4⟩ := R3.regD upd_same f2 sm (by simp at hfl; omega) nd' ev'
        refine ⟨.ref s.heap.objs.size, _, I', rfl, kq (r2 ++ [s.heap.objs.size]) _ _ ⟨x2.pre.trans y2.pre, fun b us hb => y2.tups _ _ (y.tups _ _ (x2.tups _ _ hb)), fun b us hb => y2.scrs _ _ (y.scrs _ _ (x2.scrs _ _ hb)), fun b z hb hn2 => ?_⟩ R4 R3.newLoc⟩
        obtain ⟨z1, z2⟩ := x2.frame b z hb hn2
        have hne := ne_of_none hb hn
        exact ⟨by rw [upd_ne hne]; exact z1, by simp [z2, hne]⟩
    · cases hm
  · cases hm
theorem de_dnew {k : Nat} {pos : Pos} : PE X (.Dict [] [] pos) (liftE (gx X ca) (fun _ S => some (.loc S.length, S ++ [.dct []]))) := by
  refine ⟨fun pins s σ H Q I ⟨r, env, S, d, S', R, W, hm, kq⟩ => ?_⟩
  cases hm
  have hn := I.hok.fresh (Nat.le_refl s.heap.objs.size)
  have I1 : Inv X pins σ (upd H s.heap.objs.size (.ext (RawD X.w s.heap.objs.size []))) { s with heap := s.heap.push { cls := .type "dict", data := .dict #[] } } :=
    I.laid (t' := s.toks) (fun _ _ q => Heap.get?_push_of_some _ q) (Nat.le_refl _) raw_empty.ok
  have sm : (s.heap.objs.size == sysModules) = false := (dk_empty (P := X.prog) (w := X.w) (H := H) s.heap I.big).2.1
  obtain ⟨x1, R1⟩ := R.new (u := .ext (RawD X.w s.heap.objs.size [])) (o := .dct []) hn fun x => ⟨Nat.zero_le _, sm, List.nodup_nil, [], upd_same, .nil⟩
  exact wpAny_Dict_empty ⟨.ref s.heap.objs.size, _, I1, rfl, kq _ _ _ x1 R1 R.newLoc⟩
end
end DL
/-! DLj: star items, name op= e, chains of comparisons. -/
namespace DL
open PySem PySem.Spec L2
open PyProof.Rows hiding St

def lStar (a : EM) (l : LM) : LM := fun env S => match a env S with
  | some (d, S1) => match seqD S1 d with
    | some ds => match l env S1 with
      | some (es, S2) => some (ds ++ es, S2)
      | none => none
    | none => none
  | none => none
section
variable {X : Cx} {ca : Nat → Addr} {e a b c : Expr} {es : List Expr} {ma mb mc : EM} {la : LM} {p pos : Pos}
theorem la_star (he : PE X e (liftE (gx X ca) ma)) (hr : PA X es (liftL (gx X ca) la)) (hs : starEach (.Starred e p :: es) X.env = (true, eval e X.env) :: starEach es X.env := by rfl) : PA X (.Starred e p :: es) (liftL (gx X ca) (lStar ma la)) :=
  wkA (StX.pa_star he hr hs) fun σ H Q ⟨r, env, S, ds, S', R, W, h, k⟩ => by
    unfold lStar at h
    split at h
    · rename_i d S1 e1
      split at h
      · rename_i ds1 e2
        split at h
        · rename_i es1 S2 e3
          cases h
          refine ⟨r, env, S, d, S1, R, W, e1, fun r1 H1 v x1 R1 q1 => ?_⟩
          obtain ⟨ad, vs, rfl, h2, h3⟩ := seq_cases R1 q1 e2
          refine ⟨ad, vs, rfl, ?_, r1, env, S1, es1, _, R1, W.ext x1, e3, fun r2 H2 us x2 R2 q2 => ?_⟩
          · rcases h3 with ⟨_, z⟩ | ⟨_, _, _, z⟩
            · exact .inl z
            · exact .inr z
          · exact k r2 H2 _ (x1.trans x2) R2 ((DVs.ext x2 _ _ h2).append q2)
        · cases h
      · cases h
    · cases h
/-- name op= e -/
def sAug (i : Nat) (p : D → D → Sto → Option (D × Sto)) (m : EM) : SM := fun env S => match env[i]? with
  | some (some x) => match m env S with
    | some (y, S1) => match p x y S1 with
      | some (z, S2) => some (.nx, env.set i (some z), S2)
      | none => none
    | none => none
  | _ => none
theorem ds_aug {i : Nat} {x : Str} {op : Operator} {t : R2} {q : D → D → Sto → Option (D × Sto)} {pos' : Pos} (hN : X.N.Nodup) (ho : OpR X (inplaceOp op) t) (hp : Prim2 (gx X ca) t q) (he : PE X e (liftE (gx X ca) ma)) (hi : X.N[i]? = some x := by rfl) (hx : Loc X.env.scope x := by first | exact Or.inl rfl | exact Or.inr rfl) (hf : X.fn x = true ∨ X.env.scope.names.lookup x = some .local := by first | exact .inl rfl | exact .inr rfl | assumption) :
    PS X (.AugAssign (.Name x pos') op e pos) (liftS (gx X ca) (sAug i q ma)) :=
  wkS (ps_aug hN hi hx he (ti := t) (fun pins s σ H x y v u Q I r1 r2 h => ho pins s σ H x y v u Q I r1 r2 h) hf) fun E σ H ⟨r, env, S, fl, env', S', R, W, h, k⟩ => by
    unfold sAug at h
    split at h
    · rename_i x e0
      split at h
      · rename_i y S1 e1
        split at h
        · rename_i z S2 e2
          cases h
          obtain ⟨v, ev, qv⟩ := W.at_ i x e0
          refine ⟨v, ev, r, env, S, y, S1, R, W, e1, fun r1 H1 w x1 R1 q1 => ?_⟩
          exact hp r1 S1 H1 x y v w z _ _ R1 (DV.ext x1 _ _ qv) q1 e2 fun r2 H2 u x2 R2 q2 => k r2 _ H2 (x1.trans x2) R2 ((W.ext (x1.trans x2)).set i q2)
        · cases h
      · cases h
    · cases h
/-- a < b < c -/
theorem lift_chain {G : Ctx} {t t' : R2} {p q : D → D → Sto → Option (D × Sto)} (hp : Prim2 G t p) (hq : Prim2 G t' q) {σ : L2.St} {H : Hp} {Q : VK} (h : liftE G (mChain p q ma mb mc) σ H Q) :
    liftE G ma σ H fun x H1 => liftE G mb σ H1 fun y H2 => t x y H2 fun z H3 => ∃ k, z = .bl k ∧ if k = true then liftE G mc σ H3 fun w H4 => t' y w H4 Q else Q (.bl false) H3 := by
  obtain ⟨r, env, S, d, S', R, W, h, k⟩ := h
  unfold mChain at h
  split at h
  · rename_i x S1 e1
    refine ⟨r, env, S, x, S1, R, W, e1, fun r1 H1 v x1 R1 q1 => ?_⟩
    split at h
    · rename_i y S2 e2
      refine ⟨r1, env, S1, y, S2, R1, W.ext x1, e2, fun r2 H2 w x2 R2 q2 => ?_⟩
      split at h
      · rename_i S3 e3
        refine hp r2 S2 H2 x y v w _ S3 _ R2 (DV.ext x2 _ _ q1) q2 e3 fun r3 H3 u x3 R3 q3 => ⟨true, dv_bl q3, iteT ?_⟩
        split at h
        · rename_i z S4 e4
          refine ⟨r3, env, S3, z, S4, R3, W.ext (x1.trans (x2.trans x3)), e4, fun r4 H4 u4 x4 R4 q4 => ?_⟩
          exact hq r4 S4 H4 y z w u4 d S' Q R4 (DV.ext (x3.trans x4) _ _ q2) q4 h fun r5 H5 u5 x5 R5 q5 => k r5 H5 u5 (x1.trans (x2.trans (x3.trans (x4.trans x5)))) R5 q5
        · cases h
      · rename_i S3 e3
        cases h
        refine hp r2 S2 H2 x y v w _ _ _ R2 (DV.ext x2 _ _ q1) q2 e3 fun r3 H3 u x3 R3 q3 => ⟨false, dv_bl q3, iteF ?_⟩
        exact k r3 H3 _ (x1.trans (x2.trans x3)) R3 mk_bl
      · cases h
    · cases h
  · cases h
end
/-- a statement of the program's top, by its place -/
def topOf (p : Program) (i : Nat) : Stmt := p.main.body.getD i (.Pass ⟨0, 0, 0, 0⟩)
end DL
/-! DLk: chains, the defs of a text all at once. -/
namespace DL
open PySem PySem.Spec L2
open PyProof.Rows hiding St

section
variable {X : Cx} {ca : Nat → Addr} {a b c : Expr} {ma mb mc : EM} {pos : Pos}
theorem de_chain {op op' : CmpOp} {t t' : R2} {p q : D → D → Sto → Option (D × Sto)} (ho : OpR X (compareOp op) t) (hp : Prim2 (gx X ca) t p) (ho' : OpR X (compareOp op') t') (hq : Prim2 (gx X ca) t' q) (ha : PE X a (liftE (gx X ca) ma)) (hb : PE X b (liftE (gx X ca) mb)) (hc : PE X c (liftE (gx X ca) mc))
    (hm : lastMarks [op, op'] [b, c] = false := by with_unfolding_all rfl) : PE X (.Compare a [op, op'] [b, c] pos) (liftE (gx X ca) (mChain p q ma mb mc)) :=
  wkE (pe_chain ho ho' ha hb hc hm) fun _ _ _ h => lift_chain hp hq h
theorem dt_chain {op op' : CmpOp} {t t' : R2} {p q : D → D → Sto → Option (D × Sto)} (ho : OpR X (compareOp op) t) (hp : Prim2 (gx X ca) t p) (ho' : OpR X (compareOp op') t') (hq : Prim2 (gx X ca) t' q) (ha : PE X a (liftE (gx X ca) ma)) (hb : PE X b (liftE (gx X ca) mb)) (hc : PE X c (liftE (gx X ca) mc))
    (hm : lastMarks [op, op'] [b, c] = false := by with_unfolding_all rfl) : PT X (.Compare a [op, op'] [b, c] pos) (liftB (gx X ca) (bV (mChain p q ma mb mc))) :=
  wkT (pt_chain ho ho' ha hb hc hm) fun σ H Q h => by
    have h1 := liftV h
    exact lift_chain hp hq h1
end
def mDNew : EM := fun _ S => some (.loc S.length, S ++ [.dct []])

/-! ### the defs of a text -/
structure TxD (n : Nat) (nmN : Nat → Str) (psN : Nat → List Str) (stN : Nat → Stmt) (blts : List Str) (K : PySem.W.Frag) (mg : Str → Option Value) (a : Nat → Addr) (fd : Nat → FuncData) : Prop where
  fn : ∀ g (_ : g < n := by decide), mg (nmN g) = some (.ref (a g))
  fu : ∀ g (_ : g < n := by decide), Fun K (nmN g) (nmN g) (stN g) (a g) (fd g)
  kp : ∀ g (_ : g < n := by decide), PySem.W.keepIn K (.ref (a g)) = true
  bn : ∀ g (_ : g < n := by decide), Binds K (fd g) (psN g) []
  no : ∀ x (_ : x ∈ blts), mg x = none
/-- each def at a level -/
structure AllF (P : Program) (w : World) (K : PySem.W.Frag) (mg : Str → Option Value) (base : Heap) (ca : Nat → Addr) (psN : Nat → List Str) (a : Nat → Addr) (fd : Nat → FuncData) (k : Nat) (cl : Nat → FM) : Prop where
  F : ∀ g, FnOk P w K mg base CX0 k (a g) (fd g) (psN g) (spD ⟨K, w, ca⟩ (psN g).length (cl g))
/-- .. two levels below -/
structure AllF2 (P : Program) (w : World) (K : PySem.W.Frag) (mg : Str → Option Value) (base : Heap) (ca : Nat → Addr) (psN : Nat → List Str) (a : Nat → Addr) (fd : Nat → FuncData) (k : Nat) (cl : Nat → FM) : Prop where
  F : ∀ g, FnOk P w K mg base CX0 (k - 2) (a g) (fd g) (psN g) (spD ⟨K, w, ca⟩ (psN g).length (cl g))
  z : k < 2 → ∀ g ds S, cl g ds S = none
/-- what the defs answer, to a depth of calls; what a key or a method of a kit call calls lies two deeper -/
noncomputable def callsOf (bd : (Nat → FM) → (Nat → FM) → Nat → FM) : Nat → Nat → FM
  | 0 => fun _ _ _ => none
  | 1 => bd (callsOf bd 0) (callsOf bd 0)
  | 2 => bd (callsOf bd 1) (callsOf bd 0)
  | k + 3 => bd (callsOf bd (k + 2)) (callsOf bd k)
theorem allF {P : Program} {w : World} {K : PySem.W.Frag} {mg : Str → Option Value} {base : Heap} {ca : Nat → Addr} {psN : Nat → List Str} {a : Nat → Addr} {fd : Nat → FuncData} {bd : (Nat → FM) → (Nat → FM) → Nat → FM}
    (B : ∀ (k : Nat) (cl cl2 : Nat → FM), AllF P w K mg base ca psN a fd k cl → AllF2 P w K mg base ca psN a fd k cl2 → AllF P w K mg base ca psN a fd (k + 1) (bd cl cl2)) : ∀ k, AllF P w K mg base ca psN a fd k (callsOf bd k)
  | 0 => ⟨fun g => fn_zero fun _ _ => by unfold callsOf; rfl⟩
  | 1 => by unfold callsOf; exact B 0 _ _ (allF B 0) ⟨(allF B 0).F, fun _ g ds S => by unfold callsOf; rfl⟩
  | 2 => by unfold callsOf; exact B 1 _ _ (allF B 1) ⟨(allF B 0).F, fun _ g ds S => by unfold callsOf; rfl⟩
  | k + 3 => by unfold callsOf; exact B (k + 2) _ _ (allF B (k + 2)) ⟨(allF B k).F, fun z => absurd z (by omega)⟩
/-- nothing is promised of a number that is no def -/
theorem fn_no {P : Program} {w : World} {K : PySem.W.Frag} {mg : Str → Option Value} {base : Heap} {k : Nat} {f : Addr} {fd : FuncData} {ps : List Str} {G : Ctx} {n : Nat} (hn : n = ps.length) : FnOk P w K mg base CX0 k f fd ps (spD G n fun _ _ => none) := by
  subst hn
  exact ⟨fun vs H Q E ⟨r, S, ds, d, S', R, q, hl, e, _⟩ => (by cases e), fun A outer s H args us vs Q E hr e0 hb r ⟨_, S, ds, d, S', R, q, hl, e, _⟩ => by cases e⟩
/-- the law's call, from the answer -/
theorem sp_law {G : Ctx} {m : FM} {n : Nat} (hm : ∀ ns : List Int, ns.length ≤ n → ∃ S', m [.scr ns] [] = some (.bl true, S')) (H : Hp) (a : Addr) (ns : List Int) (hl : ns.length ≤ n) (ho : Only H) (hS : SqL G.K H a (ns.map V.int)) :
    spD G 1 m [.ref a] H (fun v _ => v = .bl true) fun _ _ _ => False := by
  obtain ⟨S', e⟩ := hm ns hl
  refine ⟨[], [], [.scr ns], .bl true, S', ⟨rfl, List.nodup_nil, fun n o a h => by simp at h⟩, DVs.cons ?_ DVs.nil, rfl, e, fun r' H' v _ _ q => dv_bl q⟩
  unfold DV
  refine ⟨a, rfl, ?_⟩
  rcases hS with (h | h) | h
  · rcases ho a with z | ⟨o, xs, z⟩ <;> rw [h] at z <;> cases z
  · exact .inl h
  · exact .inr h
end DL
/-! DLm: sorting data by data, the keys compared place by place. -/
namespace DL
open PySem PySem.Spec L2
open PyProof.Rows hiding St
open PySem.W (keyToks keyToksAll dataLt EachIs dataKind)

/-! ### the order -/
def tokLt (x y : D) : Bool := PyProof.Rows.lexLt itemOrd (keyToks x.py) (keyToks y.py)
def leT (x y : D) : Bool := !tokLt y x
mutual
theorem toks_eqv : ∀ (x y : PyData), PyData.eqv x y = true → keyToks x = keyToks y
  | .none, y, h => by cases y <;> first | rfl | (simp [PyData.eqv] at h)
  | .bool a, y, h => by
    cases y with
    | bool b => have e : a = b := by simpa [PyData.eqv] using h
                rw [e]
    | int j => have e : (if a then 1 else 0) = j := by simpa [PyData.eqv] using h
               simp only [keyToks, ← e]
    | _ => simp [PyData.eqv] at h
  | .int i, y, h => by
    cases y with
    | bool b => have e : i = (if b then 1 else 0) := by simpa [PyData.eqv] using h
                simp only [keyToks, e]
    | int j => have e : i = j := by simpa [PyData.eqv] using h
               rw [e]
    | _ => simp [PyData.eqv] at h
  | .str x, y, h => by
    cases y with
    | str j => have e : x = j := by simpa [PyData.eqv] using h
               rw [e]
    | _ => simp [PyData.eqv] at h
  | .list xs, y, h => by
    cases y with
    | list ys => simp only [keyToks]; exact toks_eqvAll xs ys (by simpa [PyData.eqv] using h)
    | _ => simp [PyData.eqv] at h
  | .tuple xs, y, h => by
    cases y with
    | tuple ys => simp only [keyToks]; exact toks_eqvAll xs ys (by simpa [PyData.eqv] using h)
    | _ => simp [PyData.eqv] at h
  | .dict _, y, h => by cases y <;> simp [PyData.eqv] at h
theorem toks_eqvAll : ∀ (xs ys : List PyData), PyData.eqvAll xs ys = true → keyToksAll xs = keyToksAll ys
  | [], [], _ => rfl
  | [], _ :: _, h => by simp [PyData.eqvAll] at h
  | _ :: _, [], h => by simp [PyData.eqvAll] at h
  | x :: xs, y :: ys, h => by
    simp only [PyData.eqvAll, Bool.and_eq_true] at h
    simp only [keyToksAll]
    rw [toks_eqv x y h.1, toks_eqvAll xs ys h.2]
end
mutual
/-- where < is told and the two differ, the tokens tell it, whatever follows -/
theorem toks_ltD : ∀ (x y : D) (c : Bool), ltD x y = some c → PyData.eqv x.py y.py = false → ∀ l m, PyProof.Rows.lexLt itemOrd (keyToks x.py ++ l) (keyToks y.py ++ m) = c
  | .int i, y, c, h, hq, l, m => by
    cases y with
    | int j =>
      simp only [ltD, Option.some.injEq] at h
      subst h
      have hne : i ≠ j := fun e => by subst e; simp [D.py, PyData.eqv] at hq
      simp only [D.py, keyToks, List.cons_append, List.nil_append]
      rw [PyProof.Rows.lex_diff (O := itemOrd) (fun e => hne (Sum.inl.inj e))]
      rfl
    | _ => cases h
  | .str i, y, c, h, hq, l, m => by
    cases y with
    | str j =>
      simp only [ltD, Option.some.injEq] at h
      subst h
      have hne : i ≠ j := fun e => by subst e; simp [D.py, PyData.eqv] at hq
      simp only [D.py, keyToks, List.cons_append, List.nil_append]
      rw [PyProof.Rows.lex_diff (O := itemOrd) (fun e => hne (PySem.W.str_of_cps (Sum.inr.inj e)))]
      rfl
    | _ => cases h
  | .tup xs, y, c, h, hq, l, m => by
    cases y with
    | tup ys =>
      simp only [D.py, keyToks]
      exact toks_ltDs xs ys c (by simpa [ltD] using h) (by simpa [D.py, PyData.eqv] using hq) l m
    | _ => cases h
  | .non, y, _, h, _, _, _ => by cases y <;> cases h
  | .bl _, y, _, h, _, _, _ => by cases y <;> cases h
  | .loc _, y, _, h, _, _, _ => by cases y <;> cases h
  | .scr _, y, _, h, _, _, _ => by cases y <;> cases h
theorem toks_ltDs : ∀ (xs ys : List D) (c : Bool), ltDs xs ys = some c → PyData.eqvAll (D.pys xs) (D.pys ys) = false → ∀ l m, PyProof.Rows.lexLt itemOrd (keyToksAll (D.pys xs) ++ l) (keyToksAll (D.pys ys) ++ m) = c
  | [], [], c, h, hq, l, m => by simp [D.pys, PyData.eqvAll] at hq
  | [], y :: ys, c, h, hq, l, m => by
    simp only [ltDs, Option.some.injEq] at h
    subst h
    simp only [D.pys, keyToksAll, List.cons_append, List.nil_append]
    rw [PyProof.Rows.lex_diff (O := itemOrd) (by simp)]
    rfl
  | x :: xs, [], c, h, hq, l, m => by
    simp only [ltDs, Option.some.injEq] at h
    subst h
    simp only [D.pys, keyToksAll, List.cons_append, List.nil_append]
    rw [PyProof.Rows.lex_diff (O := itemOrd) (by simp)]
    rfl
  | x :: xs, y :: ys, c, h, hq, l, m => by
    simp only [ltDs] at h
    simp only [D.pys, keyToksAll, List.cons_append, List.append_assoc]
    rw [PyProof.Rows.lex_self]
    split at h
    · rename_i he
      rw [toks_eqv _ _ he, PySem.W.lex_pre]
      exact toks_ltDs xs ys c h (by simpa [D.pys, PyData.eqvAll, he] using hq) l m
    · rename_i he
      rw [Bool.not_eq_true] at he
      exact toks_ltD x y c h he _ _
end
theorem ltD_eqv : ∀ (x y : D) (c : Bool), ltD x y = some c → PyData.eqv x.py y.py = true → c = false := by
  have go : ∀ (xs ys : List D) (c : Bool), ltDs xs ys = some c → PyData.eqvAll (D.pys xs) (D.pys ys) = true → c = false := by
    intro xs
    induction xs with
    | nil =>
      intro ys c h hq
      cases ys with
      | nil => simp [ltDs] at h; exact h
      | cons y ys => simp [D.pys, PyData.eqvAll] at hq
    | cons x xs ih =>
      intro ys c h hq
      cases ys with
      | nil => simp [D.pys, PyData.eqvAll] at hq
      | cons y ys =>
        simp only [D.pys, PyData.eqvAll, Bool.and_eq_true] at hq
        simp only [ltDs, hq.1, if_true] at h
        exact ih ys c h hq.2
  intro x y c h hq
  cases x with
  | int i =>
    cases y with
    | int j =>
      simp only [ltD, Option.some.injEq] at h
      have : i = j := by simpa [D.py, PyData.eqv] using hq
      subst this
      simpa using h.symm
    | _ => cases h
  | str i =>
    cases y with
    | str j =>
      simp only [ltD, Option.some.injEq] at h
      have : i = j := by simpa [D.py, PyData.eqv] using hq
      subst this
      rw [← h]
      simp [List.lt_irrefl]
    | _ => cases h
  | tup xs =>
    cases y with
    | tup ys => exact go xs ys c (by simpa [ltD] using h) (by simpa [D.py, PyData.eqv] using hq)
    | _ => cases h
  | _ => cases y <;> cases h
/-- where < is told, the tokens tell it -/
theorem tokLt_of {x y : D} {c : Bool} (h : ltD x y = some c) : tokLt x y = c := by
  unfold tokLt
  cases hq : PyData.eqv x.py y.py with
  | true =>
    rw [toks_eqv _ _ hq, PyProof.Rows.lex_irrefl]
    exact (ltD_eqv x y c h hq).symm
  | false =>
    have := toks_ltD x y c h hq [] []
    simpa using this
theorem tokLts_of {xs ys : List D} {c : Bool} (h : ltDs xs ys = some c) : PyProof.Rows.lexLt itemOrd (keyToksAll (D.pys xs)) (keyToksAll (D.pys ys)) = c := by
  have := tokLt_of (x := .tup xs) (y := .tup ys) (c := c) (by simpa [ltD] using h)
  simpa [tokLt, D.py, keyToks] using this

/-! ### keys that can be sorted -/
/-- which keys go together -/
def kTy : D → Option Nat
  | .int _ => some 0
  | .str _ => some 1
  | .tup (.int _ :: _) => some 2
  | .tup (.str _ :: _) => some 3
  | .tup (.tup _ :: _) => some 4
  | _ => none
def sortOk (ks : List D) : Bool := ks.all (fun a => a.pure && SeqAt.shaped a.py && (kTy a).isSome && ks.all fun b => (ltD a b).isSome && decide (kTy a = kTy b))
theorem sortOk_at {ks : List D} (h : sortOk ks = true) {a : D} (ha : a ∈ ks) : a.pure = true ∧ SeqAt.shaped a.py = true ∧ (kTy a).isSome = true ∧ ∀ b ∈ ks, (∃ c, ltD a b = some c) ∧ kTy a = kTy b := by
  unfold sortOk at h
  have := List.all_eq_true.mp h a ha
  simp only [Bool.and_eq_true, List.all_eq_true, decide_eq_true_eq] at this
  obtain ⟨⟨⟨h1, h2⟩, h3⟩, h4⟩ := this
  exact ⟨h1, h2, h3, fun b hb => ⟨Option.isSome_iff_exists.mp (h4 b hb).1, (h4 b hb).2⟩⟩
/-- the items by their keys, in the order of the keys, alike ones as they stood -/
def sortD (ks xs : List D) : List D := ((ks.zip xs).mergeSort fun p q => leT p.1 q.1).map (·.2)

section
open PySem.W
variable {prog : Program} {w : World} {A : Around} {s : Shared}
theorem kind_some {h : Heap} {ds : List PyData} (hc : ∀ d ∈ ds, d.canLay0 = true) {v : Value} {d : PyData} {as : List Addr} (hd : d ∈ ds) (r : Reads h v d as) : (dataKind h ds).keyOf v = some (keyToks d) := by
  have q : ∃ d, d ∈ ds ∧ ∃ as, Reads h v d as := ⟨d, hd, as, r⟩
  have e : (dataKind h ds).keyOf v = some (keyToks q.choose) := dif_pos q
  obtain ⟨h1, as', h2⟩ := q.choose_spec
  rw [e, ← SeqAt.readOf_eq (hc _ h1) h2, SeqAt.readOf_eq (hc _ hd) r]
/-- the places of two tuples, one after the other -/
theorem katLex_of {b fin : Bool} {Q : Bool → Shared → Prop} {c : Bool} : ∀ (xs ys : List D) (i : Nat) (vs ws : List Value) (as bs : List Addr), ReadsAll s.heap vs (D.pys xs) as → ReadsAll s.heap ws (D.pys ys) bs → PyData.canLayAll0 (D.pys xs) = true → PyData.canLayAll0 (D.pys ys) = true →
    A.units + min (PyData.depthAll (D.pys xs)) (PyData.depthAll (D.pys ys)) < cLine → ltDs xs ys = some c → (b = true → i = 0 → ∀ x r y t, xs = x :: r → ys = y :: t → ∀ (p q : Value) (ap aq : List Addr), Reads s.heap p x.py ap → Reads s.heap q y.py aq → ∀ c', ltD x y = some c' → ∀ (Q' : Bool → Shared → Prop) (E : Value → Shared → Prop), Q' c' s → wpAny (model prog w) A (oneLt' true p q) Q' E s) →
    fin = decide (xs.length < ys.length) → Q c s → KatLex prog w A b fin Q (vs.zip ws) i s
  | [], ys, i, _, _, _, _, ra, rb, _, _, _, h, _, hf, hq => by
    simp only [D.pys] at ra
    cases ra
    rw [List.zip_nil_left]
    refine kat_nil ?_
    cases ys with
    | nil => simp only [ltDs, Option.some.injEq] at h; subst h; rw [hf]; exact hq
    | cons y ys => simp only [ltDs, Option.some.injEq] at h; subst h; rw [hf]; simpa using hq
  | x :: xs, [], i, _, _, _, _, ra, rb, _, _, _, h, _, hf, hq => by
    simp only [D.pys] at rb
    cases rb
    rw [List.zip_nil_right]
    refine kat_nil ?_
    simp only [ltDs, Option.some.injEq] at h; subst h; rw [hf]; simpa using hq
  | x :: xs, y :: ys, i, _, _, _, _, ra, rb, la, lb, hu, h, hb, hf, hq => by
    simp only [D.pys] at ra rb la lb hu
    cases ra with
    | cons r rs =>
      cases rb with
      | cons r' rs' =>
        simp only [PyData.canLayAll0, Bool.and_eq_true] at la lb
        simp only [PyData.depthAll] at hu
        rw [List.zip_cons_cons]
        have hf' : fin = decide (xs.length < ys.length) := by
          rw [hf]
          simp only [List.length_cons, Nat.add_lt_add_iff_right]
        refine kat_cons (SeqAt.eqAt_reads x.py y.py A s _ _ _ _ r r' la.1 lb.1 (by omega) prog w _ _ ?_)
        simp only [ltDs] at h
        split at h
        · rename_i hx
          rw [hx]
          exact kat_yes (katLex_of xs ys (i + 1) _ _ _ _ rs rs' la.2 lb.2 (by omega) h (fun _ z => absurd z (Nat.succ_ne_zero i)) hf' hq)
        · rename_i hx
          rw [Bool.not_eq_true] at hx
          rw [hx]
          refine kat_no ?_
          cases hbi : (b && i == 0) with
          | true =>
            rw [Bool.and_eq_true] at hbi
            exact hb hbi.1 (by simpa using hbi.2) x xs y ys rfl rfl _ _ _ _ r r' c h Q _ hq
          | false =>
            rw [oneLt'_eq]
            simp only [Bool.false_eq_true, if_false]
            exact wpAny_bind (rcLt_of x y c A s _ _ _ _ r r' la.1 lb.1 h (by omega) prog w _ _ (wpAny_truthy_bool hq))
/-- ints, texts as sorting compares them -/
theorem oneLt_flat {x y : D} {p q : Value} {ap aq : List Addr} {c : Bool} (hx : kTy x = some 0 ∨ kTy x = some 1) (rx : Reads s.heap p x.py ap) (ry : Reads s.heap q y.py aq) (h : ltD x y = some c) {Q : Bool → Shared → Prop} {E : Value → Shared → Prop} (hq : Q c s) : wpAny (model prog w) A (oneLt' true p q) Q E s := by
  cases x with
  | int i =>
    cases y with
    | int j =>
      simp only [ltD, Option.some.injEq] at h
      subst h
      simp only [D.py] at rx ry
      cases rx
      cases ry
      exact oneLt_int hq
    | _ => cases h
  | str i =>
    cases y with
    | str j =>
      simp only [ltD, Option.some.injEq] at h
      subst h
      simp only [D.py] at rx ry
      cases rx
      cases ry
      exact oneLt_str hq
    | _ => cases h
  | tup xs =>
    exfalso
    rcases xs with _ | ⟨x, r⟩
    · rcases hx with z | z <;> cases z
    · cases x <;> (rcases hx with z | z <;> cases z)
  | _ => rcases hx with z | z <;> cases z
end
end DL
/-! DLn: the keys in the heap can be sorted; the loop that makes them. -/
namespace DL
open PySem PySem.Spec L2
open PyProof.Rows hiding St
open PySem.W (keyToks keyToksAll dataLt EachIs dataKind)

theorem kTy_cases {a : D} {t : Nat} (h : kTy a = some t) : (t = 0 ∧ ∃ i, a = .int i) ∨ (t = 1 ∧ ∃ x, a = .str x) ∨ ∃ x r, a = .tup (x :: r) ∧ ((t = 2 ∧ ∃ i, x = .int i) ∨ (t = 3 ∧ ∃ y, x = .str y) ∨ (t = 4 ∧ ∃ ys, x = .tup ys)) := by
  cases a with
  | int i => cases h; exact .inl ⟨rfl, i, rfl⟩
  | str i => cases h; exact .inr (.inl ⟨rfl, i, rfl⟩)
  | tup xs =>
    rcases xs with _ | ⟨x, r⟩
    · cases h
    · refine .inr (.inr ⟨x, r, rfl, ?_⟩)
      cases x with
      | int i => cases h; exact .inl ⟨rfl, i, rfl⟩
      | str i => cases h; exact .inr (.inl ⟨rfl, i, rfl⟩)
      | tup ys => cases h; exact .inr (.inr ⟨rfl, ys, rfl⟩)
      | _ => cases h
  | _ => cases h
section
open PySem.W
variable {prog : Program} {w : World} {A : Around} {s : Shared}
theorem each_py {ks : List D} {vs : List Value} {R : Value → PyData → Prop} (e : EachIs (fun v d => R v d.py) vs ks) : EachIs R vs (ks.map D.py) := by
  induction e with
  | nil => exact .nil
  | cons h _ ih => exact .cons h ih
theorem sortsAt_of {ks : List D} {vs : List Value} (ok : sortOk ks = true) (e : EachIs (fun v (d : D) => ∃ as, Reads s.heap v d.py as) vs ks) (hu : A.units + 66 < cLine) : SortsAt prog w A s (dataKind s.heap (ks.map D.py)) vs := by
  have hc : ∀ d ∈ ks.map D.py, d.canLay0 = true := fun d hd => by
    obtain ⟨k, hk, rfl⟩ := List.mem_map.mp hd
    exact SeqAt.canLay_of_shaped (sortOk_at ok hk).2.1
  have inv : ∀ {v : Value} {a : List (Int ⊕ List Nat)}, (dataKind s.heap (ks.map D.py)).keyOf v = some a → ∃ k as, k ∈ ks ∧ Reads s.heap v k.py as ∧ a = keyToks k.py := fun {v a} h => by
    obtain ⟨d, as, hd, r, rfl⟩ := dataKind_inv h
    obtain ⟨k, hk, rfl⟩ := List.mem_map.mp hd
    exact ⟨k, as, hk, r, rfl⟩
  refine ⟨fun v hv => ?_, ?_⟩
  · obtain ⟨d, hd, as, r⟩ := e.left v hv
    exact ⟨_, kind_some hc (List.mem_map_of_mem hd) r⟩
  · cases ks with
    | nil =>
      cases e
      exact ⟨general', fun E x y a b Q ha _ _ => (by
        obtain ⟨d, _, hd, _⟩ := inv ha
        cases hd), fun h2 => absurd h2 (by simp)⟩
    | cons k0 kr =>
      obtain ⟨_, _, h3, _⟩ := sortOk_at ok (List.mem_cons_self (a := k0) (l := kr))
      obtain ⟨t, ht⟩ := Option.isSome_iff_exists.mp h3
      have all : ∀ k ∈ k0 :: kr, kTy k = some t := fun k hk => by
        rw [← ((sortOk_at ok List.mem_cons_self).2.2.2 k hk).2]
        exact ht
      have flat : (t = 0 ∨ t = 1) → ∀ (T : PyData → Prop), ∃ kd : SortKind, H.LtAt prog w A s (dataKind s.heap ((k0 :: kr).map D.py)) kd ∧ (2 ≤ vs.length → ∀ (E : Value → Shared → Prop) {Q : SortKind → Shared → Prop}, Q kd s → wpAny (model prog w) A (keyKind' vs.toArray) Q E s) := by
        intro h01 _
        refine ⟨oneType', ?_, fun h2 E Q hq => ?_⟩
        · intro E x y a b Q ha hb hq
          obtain ⟨d, as, hd, ra, rfl⟩ := inv ha
          obtain ⟨d', as', hd', rb, rfl⟩ := inv hb
          obtain ⟨c, hl⟩ := ((sortOk_at ok hd).2.2.2 d' hd').1
          have hq' : Q (tokLt d d') s := hq
          rw [tokLt_of hl] at hq'
          rw [keyLt'_oneType]
          refine oneLt_flat ?_ ra rb hl hq'
          rw [all d hd]
          rcases h01 with rfl | rfl
          · exact .inl rfl
          · exact .inr rfl
        · refine kas_kind (T := dataType k0.py) h2 (fun v hv => ?_) ?_ (beq_self_eq_true _) hq
          · obtain ⟨d, hd, as, r⟩ := e.left v hv
            have e1 : dataType d.py = dataType k0.py := by
              have h1 := all d hd
              rcases h01 with rfl | rfl
              · rcases kTy_cases h1 with ⟨_, i, rfl⟩ | ⟨z, _⟩ | ⟨_, _, _, ⟨z, _⟩ | ⟨z, _⟩ | ⟨z, _⟩⟩
                · rcases kTy_cases ht with ⟨_, i, rfl⟩ | ⟨z, _⟩ | ⟨_, _, _, ⟨z, _⟩ | ⟨z, _⟩ | ⟨z, _⟩⟩
                  · rfl
                  all_goals cases z
                all_goals cases z
              · rcases kTy_cases h1 with ⟨z, _⟩ | ⟨_, i, rfl⟩ | ⟨_, _, _, ⟨z, _⟩ | ⟨z, _⟩ | ⟨z, _⟩⟩
                · cases z
                · rcases kTy_cases ht with ⟨z, _⟩ | ⟨_, i, rfl⟩ | ⟨_, _, _, ⟨z, _⟩ | ⟨z, _⟩ | ⟨z, _⟩⟩
                  · cases z
                  · rfl
                  all_goals cases z
                all_goals cases z
            rw [← e1]
            exact looks_reads r
          · apply dataType_other
            intro xs hx
            rcases h01 with rfl | rfl
            · rcases kTy_cases ht with ⟨_, i, rfl⟩ | ⟨z, _⟩ | ⟨_, _, _, ⟨z, _⟩ | ⟨z, _⟩ | ⟨z, _⟩⟩
              · cases hx
              all_goals cases z
            · rcases kTy_cases ht with ⟨z, _⟩ | ⟨_, i, rfl⟩ | ⟨_, _, _, ⟨z, _⟩ | ⟨z, _⟩ | ⟨z, _⟩⟩
              · cases z
              · cases hx
              all_goals cases z
      have tups : (∀ k ∈ k0 :: kr, ∃ x r, k = .tup (x :: r)) → (∀ (k : D) (x : D) (r : List D) (k' : D) (x' : D) (r' : List D), k ∈ k0 :: kr → k' ∈ k0 :: kr → k = .tup (x :: r) → k' = .tup (x' :: r') → dataType x.py = dataType x'.py) →
          (∀ (x : D) (r : List D), D.tup (x :: r) ∈ k0 :: kr → (dataType x.py != Value.type "tuple") = true → kTy x = some 0 ∨ kTy x = some 1) → ∃ kd : SortKind, H.LtAt prog w A s (dataKind s.heap ((k0 :: kr).map D.py)) kd ∧ (2 ≤ vs.length → ∀ (E : Value → Shared → Prop) {Q : SortKind → Shared → Prop}, Q kd s → wpAny (model prog w) A (keyKind' vs.toArray) Q E s) := by
        intro ht1 ht2 ht3
        obtain ⟨x0, r0, rfl⟩ := ht1 k0 List.mem_cons_self
        refine ⟨tuples' (dataType x0.py != Value.type "tuple"), ?_, fun h2 E Q hq => ?_⟩
        · intro E x y a b Q ha hb hq
          obtain ⟨d, as, hd, ra, rfl⟩ := inv ha
          obtain ⟨d', as', hd', rb, rfl⟩ := inv hb
          obtain ⟨c, hl⟩ := ((sortOk_at ok hd).2.2.2 d' hd').1
          have hq' : Q (tokLt d d') s := hq
          rw [tokLt_of hl] at hq'
          obtain ⟨_, s1, _⟩ := sortOk_at ok hd
          obtain ⟨_, s2, _⟩ := sortOk_at ok hd'
          have z1 := SeqAt.depth_of_shaped s1
          have l1 := SeqAt.canLay_of_shaped s1
          have l2 := SeqAt.canLay_of_shaped s2
          obtain ⟨x1, r1, rfl⟩ := ht1 d hd
          obtain ⟨x2, r2, rfl⟩ := ht1 d' hd'
          simp only [D.py] at ra rb l1 l2 z1
          simp only [PyData.canLay0] at l1 l2
          simp only [PyData.depth] at z1
          cases ra with
          | @tuple l o xs n _ _ h1 h2 h3 h4 =>
            cases rb with
            | @tuple l' o' xs' n' _ _ k1 k2 k3 k4 =>
              have n1 : xs.size = (x1 :: r1).length := by
                have q := SeqAt.ReadsAll.length _ _ _ h4
                have q2 : (D.pys (x1 :: r1)).length = (x1 :: r1).length := by
                  have : ∀ l : List D, (D.pys l).length = l.length := fun l => by induction l with
                    | nil => rfl
                    | cons a l ih => simp [D.pys, ih]
                  exact this _
                rw [q2] at q
                simpa using q
              have n2 : xs'.size = (x2 :: r2).length := by
                have q := SeqAt.ReadsAll.length _ _ _ k4
                have q2 : (D.pys (x2 :: r2)).length = (x2 :: r2).length := by
                  have : ∀ l : List D, (D.pys l).length = l.length := fun l => by induction l with
                    | nil => rfl
                    | cons a l ih => simp [D.pys, ih]
                  exact this _
                rw [q2] at q
                simpa using q
              refine kat_lt h1 h3 k1 k3 (katLex_of (c := c) (x1 :: r1) (x2 :: r2) 0 _ _ _ _ h4 k4 l1 l2 (by omega) (by simpa [ltD] using hl) ?_ (by rw [n1, n2]) hq')
              intro hb _ x r y t ex ey p q ap aq rp rq c' hc' Q' E' hQ'
              cases ex
              cases ey
              refine oneLt_flat (ht3 x1 r1 hd ?_) rp rq hc' hQ'
              rw [ht2 _ x1 r1 _ x0 r0 hd List.mem_cons_self rfl rfl]
              exact hb
        · obtain ⟨fs, t1, t2, t3⟩ := each_katTups (each_py e) (fun d hd => by
            obtain ⟨k, hk, rfl⟩ := List.mem_map.mp hd
            obtain ⟨x, r, rfl⟩ := ht1 k hk
            exact ⟨x.py, D.pys r, by simp [D.py, D.pys]⟩)
          refine kat_kind (T := dataType x0.py) t1 (by omega) (fun f hf => ?_) (beq_self_eq_true _) hq
          obtain ⟨x, r, as, m1, m2⟩ := t3 f hf
          obtain ⟨k, hk, ek⟩ := List.mem_map.mp m1
          obtain ⟨x', r', rfl⟩ := ht1 k hk
          simp only [D.py, D.pys, PyData.tuple.injEq, List.cons.injEq] at ek
          rw [← ht2 _ x' r' _ x0 r0 hk List.mem_cons_self rfl rfl, ek.1]
          exact looks_reads m2
      rcases kTy_cases ht with ⟨rfl, _⟩ | ⟨rfl, _⟩ | ⟨_, _, _, ⟨rfl, _⟩ | ⟨rfl, _⟩ | ⟨rfl, _⟩⟩
      · exact flat (.inl rfl) fun _ => True
      · exact flat (.inr rfl) fun _ => True
      all_goals
        refine tups (fun k hk => ?_) (fun k x r k' x' r' hk hk' e1 e2 => ?_) (fun x r hk hb => ?_)
        · rcases kTy_cases (all k hk) with ⟨z, _⟩ | ⟨z, _⟩ | ⟨x, r, e1, _⟩
          · cases z
          · cases z
          · exact ⟨x, r, e1⟩
        · subst e1 e2
          rcases kTy_cases (all _ hk) with ⟨z, _⟩ | ⟨z, _⟩ | ⟨_, _, e1, ⟨z1, i, rfl⟩ | ⟨z1, i, rfl⟩ | ⟨z1, i, rfl⟩⟩
          · cases z
          · cases z
          all_goals
            rcases kTy_cases (all _ hk') with ⟨z, _⟩ | ⟨z, _⟩ | ⟨_, _, e2, ⟨z2, j, rfl⟩ | ⟨z2, j, rfl⟩ | ⟨z2, j, rfl⟩⟩
            · cases z
            · cases z
            all_goals first
              | (cases z1; done)
              | (cases z2; done)
              | (cases e1; cases e2; rfl)
        · rcases kTy_cases (all _ hk) with ⟨z, _⟩ | ⟨z, _⟩ | ⟨_, _, e1, ⟨z1, i, rfl⟩ | ⟨z1, i, rfl⟩ | ⟨z1, i, rfl⟩⟩
          · cases z
          · cases z
          · cases e1; exact .inl rfl
          · cases e1; exact .inr rfl
          · cases e1; simp [dataType, D.py] at hb
end
end DL
/-! DLo: sorted(xs, key=f), f a def of ours. -/
namespace DL
open PySem PySem.Spec L2
open PyProof.Rows hiding St
open PySem.W (keyToks keyToksAll dataLt EachIs dataKind)

/-- the keys, one call after the other -/
def keysD (m : FM) : List D → Sto → Option (List D × Sto)
  | [], S => some ([], S)
  | x :: xs, S => match m [x] S with
    | some (k, S1) => match keysD m xs S1 with
      | some (ks, S2) => some (k :: ks, S2)
      | none => none
    | none => none
def isLst (S : Sto) : D → Option (List D)
  | .loc n => seqD S (.loc n)
  | .scr ns => seqD S (.scr ns)
  | .tup ds => some ds
  | _ => none
def sortKP (m : FM) (x : D) (S : Sto) : Option (D × Sto) := match isLst S x with
  | some xs => match keysD m xs S with
    | some (ks, S2) => if sortOk ks = true then some (.loc S2.length, S2 ++ [.lst (sortD ks xs)]) else none
    | none => none
  | none => none
def mSortK (m : FM) (a : EM) : EM := m1 (sortKP m) a

theorem zip_zero {α β : Type} {l : List α} {m : List β} (h : l = []) : l.zip m = [] := by subst h; rfl
section
variable {X : Cx} {ca : Nat → Addr} {pins : List (Addr × Obj)} {σ : L2.St} {H : Hp} {s : Shared} {h' : Heap} {t' : Nat} {f Da kS : Addr}
/-- two untracked records have changed; the one is tracked from now on -/
theorem take2 {o : HO} (I : Inv X pins σ H s) (k : ∀ b ob, b ≠ Da → b ≠ kS → s.heap.get? b = some ob → h'.get? b = some ob) (fD : FpOk X pins H Da) (fK : FpOk X pins H kS) (new : ObjOk X.prog X.w (upd H Da o) h' Da o) :
    Inv X pins σ (upd H Da o) { s with heap := h', toks := t' } := by
  obtain ⟨dn, dL, _, d1, d2, d3⟩ := fD
  obtain ⟨kn, kL, _, k1, k2, k3⟩ := fK
  have nD : ∀ b u, H b = some u → b ≠ Da := fun b u e z => by rw [z, dn] at e; cases e
  have nK : ∀ b u, H b = some u → b ≠ kS := fun b u e z => by rw [z, kn] at e; cases e
  have up : ∀ b u, H b = some u → upd H Da o b = some u := fun b u e => by rw [upd_ne (nD b u e)]; exact e
  have out : ∀ {b : Addr}, b ∉ [Da, kS] → b ≠ Da ∧ b ≠ kS := fun {b} hb => by simpa using hb
  refine I.step (g' := s.gens) (d' := s.drawn) (ch := [Da, kS]) (fun b hb => ?_) (fun b ob _ _ hc e _ => k b ob (out hc).1 (out hc).2 e) (fun b ob _ _ hc e _ => ⟨ob.slots, k b ob (out hc).1 (out hc).2 e⟩)
    (fun b ob hc _ n => by rw [upd_ne (out hc).1]; exact n) (fun b ob hc e => ⟨ob, k b ob (out hc).1 (out hc).2 e⟩) (fun b _ e => up b _ e) (fun b _ _ e => up b _ e) (fun b ps e => ⟨#[], by rw [up b _ e]; simp⟩) (fun m hm => ?_) (fun b u e => ?_) I.bare
  · have e : b = Da ∨ b = kS := by simpa using hb
    rcases e with rfl | rfl
    · exact ⟨d1, dL, d2, d3⟩
    · exact ⟨k1, kL, k2, k3⟩
  · obtain ⟨ob, es, ep, ho, r⟩ := hm
    exact ⟨ob, es, ep, k _ ob (Ne.symm dL) (Ne.symm kL) ho, r⟩
  · by_cases hb : b = Da
    · subst hb
      rw [upd_same] at e
      cases e
      exact new
    · rw [upd_ne hb] at e
      refine (I.hok b u e).stay (fun c v hc q => ?_) (fun c q => up c _ q) fun c _ q => up c _ q
      rcases hc with rfl | z
      · exact k _ v hb (nK _ u e) q
      · exact k c v (nD c _ z) (nK c _ z) q
/-- a def's call from within a built-in -/
theorem run_key {k : Nat} {fd : FuncData} {ps : List Str} {m : FM} {A : Around} {E : Value → Shared → Prop} (F : FnOk X.prog X.w X.K X.mg X.base CX0 k f fd ps (spD (gx X ca) 1 m)) (hr : Room k A) (e0 : Env0 X.prog X.w X.K X.mg X.base A X.stack s H) (hb : Binds X.K fd ps [])
    (I : Inv X pins σ H s) {r : List Addr} {S S1 : Sto} {x d : D} {v : V} {u : Value} {Q : VK} (R : RepS (gx X ca) r S H) (q : DV X.K r H x v) (rv : RelV v u) (hm : m [x] S = some (d, S1))
    (hq : ∀ r' H' w, Ext X.K r H r' H' → RepS (gx X ca) r' S1 H' → DV X.K r' H' d w → Q w H') : wpAny (model X.prog X.w) A (call (.ref f) [u]) (EP X pins σ Q) E s := by
  have sp : spD (gx X ca) 1 m [v] H Q E0 := ⟨r, S, [x], d, S1, R, DVs.cons q DVs.nil, rfl, hm, hq⟩
  have hl : ([u] ++ ([] : List Value)).length = ps.length := F.len _ _ _ _ sp
  refine wpAny_call (codeAny_mono (F.run A X.stack s H ⟨[u], []⟩ ([u] ++ []) [v] Q E0 hr e0 (hb s [u] I.kIn hl) (.cons rv .nil) sp) fun r s' hc => ?_)
  cases r with
  | error e => exact hc.elim
  | ok fl =>
    cases fl with
    | ret u => exact I.after hc
    | next => exact hc.elim
    | brk => exact hc.elim
    | cont => exact hc.elim
theorem each_vals {R : V → D → Prop} : ∀ {ds : List D} {out : List Value}, EachIs (fun u (d : D) => ∃ v, RelV v u ∧ R v d) out ds → ∃ vs, Vals vs out ∧ EachIs R vs ds
  | _, _, .nil => ⟨[], .nil, .nil⟩
  | _, _, .cons ⟨v, h1, h2⟩ t => let ⟨vs, a, b⟩ := each_vals t; ⟨v :: vs, .cons h1 a, .cons h2 b⟩
theorem dvs_of_each {K : PySem.W.Frag} {r : List Addr} : ∀ {ds : List D} {vs : List V}, EachIs (fun v (d : D) => DV K r H d v) vs ds → DVs K r H ds vs
  | _, _, .nil => DVs.nil
  | _, _, .cons h t => DVs.cons h (dvs_of_each t)
theorem each_of_dvs {K : PySem.W.Frag} {r : List Addr} : ∀ {ds : List D} {vs : List V} {us : List Value}, DVs K r H ds vs → Vals vs us → EachIs (fun u (d : D) => ∃ v, RelV v u ∧ DV K r H d v) us ds
  | [], _, us, h, rv => by unfold DVs at h; subst h; cases rv; exact .nil
  | d :: ds, _, us, h, rv => by
    unfold DVs at h
    obtain ⟨v, ws, rfl, h1, h2⟩ := h
    cases rv with
    | cons r1 r2 => exact .cons ⟨v, r1, h1⟩ (each_of_dvs h2 r2)
theorem each_zip {α β γ : Type} {R : α → γ → Prop} {T : α → β → Prop} : ∀ {as : List α} {bs : List β} {cs : List γ}, EachIs R as cs → bs.length = cs.length → EachIs (fun a (p : β × γ) => R a p.2) as (bs.zip cs)
  | _, [], _, .nil, _ => .nil
  | _, b :: bs, _, .cons h t, hl => .cons h (each_zip (T := T) t (by simpa using hl))
  | _, [], _, .cons _ _, hl => by simp at hl
  | _, _ :: _, _, .nil, hl => by simp at hl
theorem each_zip1 {α β γ : Type} {R : α → β → Prop} : ∀ {as : List α} {bs : List β} {cs : List γ}, EachIs R as bs → bs.length = cs.length → EachIs (fun a (p : β × γ) => R a p.1) as (bs.zip cs)
  | _, _, [], .nil, _ => .nil
  | _, _, c :: cs, .cons h t, hl => .cons h (each_zip1 t (by simpa using hl))
  | _, _, [], .cons _ _, hl => by simp at hl
  | _, _, _ :: _, .nil, hl => by simp at hl
theorem keysD_len {m : FM} : ∀ {xs : List D} {S S2 : Sto} {ks : List D}, keysD m xs S = some (ks, S2) → ks.length = xs.length
  | [], _, _, _, h => by cases h; rfl
  | x :: xs, _, _, _, h => by
    unfold keysD at h
    split at h
    · split at h
      · rename_i e
        cases h
        simp [keysD_len e]
      · cases h
    · cases h
theorem reads_each {r : List Addr} (I : Inv X pins σ H s) {ks : List D} {us : List Value} (e : EachIs (fun u (d : D) => ∃ v, RelV v u ∧ DV X.K r H d v) us ks) (hp : ∀ k ∈ ks, k.pure = true) : EachIs (fun v (d : D) => ∃ as, Reads s.heap v d.py as) us ks := by
  induction e with
  | nil => exact .nil
  | @cons a b as bs h t ih =>
    obtain ⟨v, rv, q⟩ := h
    exact .cons (Dp.reads I _ v a (dp_of b v q (hp b List.mem_cons_self)) rv) (ih fun k hk => hp k (List.mem_cons_of_mem _ hk))
end
end DL
/-! DLo2: sorted of a tuple begins as sorted of a list does. -/
namespace DL
open PySem PySem.Calls PyProof.Rows

section
variable {P : Program} {w : World} {A : Around} {E : Value → Shared → Prop} {s : Shared}
/-- a list or a tuple of these items -/
def SeqHas (h : Heap) (l : Addr) (us : List Value) : Prop := h.IsList l us.toArray ∨ IsTup h l us.toArray
/-- the heap behind reading out a walk: a list of the items has been made -/
abbrev readOut (h : Heap) (us : List Value) : Heap := (h.push (seqObj "list" #[] 0)).update h.objs.size (Obj.mapSeq (· ++ us.toArray))
theorem collect_tup {l : Addr} {us : List Value} {Q : List Value → Shared → Prop} (hl : IsTup s.heap l us.toArray) (hz : us.length ≤ sizeLine) (hq : Q us { s with heap := readOut s.heap us }) : wpAny (model P w) A (collect (.ref l)) Q E s := by
  obtain ⟨o, e0, ec, n, ed⟩ := hl
  have hp : (s.heap.push (seqObj "list" #[] 0)).get? s.heap.objs.size = some (seqObj "list" #[] 0) := Heap.get?_push_size _ rfl
  have back : wpAny (model P w) A (load s.heap.objs.size >>= fun o => match o.data with
      | .seq xs _ => pure xs.toList
      | _ => unsupported "internal:collect") Q E { s with heap := readOut s.heap us } := by
    refine wpAny_bind (wpAny_load (get?_update_seq hp _) (wpAny_pure ?_))
    have e : ((#[] : Array Value) ++ us.toArray).toList = us := by simp
    rw [e]
    exact hq
  unfold collect
  refine wpAny_bind (wpAny_runValue (codeAny_builtin F.entry_proto_collect ?_))
  rw [Around.under_plainId F.plain_proto_collect _]
  show wpAny _ A.in1 (newList [] >>= fun r => again (.builtin "list.__iadd__" ⟨[r, .ref l], []⟩)) _ _ s
  refine wpAny_bind (wpAny_newObj_type (wpAny_pure ⟨plainId_quiet F.plain_list_iadd _, codeAny_builtin F.entry_list_iadd ?_⟩))
  rw [Around.under_plainId F.plain_list_iadd _]
  refine wpAny_mono (wpAny_extend_seq (hsz := by rw [List.size_toArray]; exact hz) (A := A) (R := fun r s2 => r = .ok (.ret (.ref s.heap.objs.size)) ∧ s2 = { s with heap := readOut s.heap us }) (s := { s with heap := s.heap.push (seqObj "list" #[] 0) }) _ l _ 0 (.inr rfl) hp (Heap.get?_push_of_some _ e0) ec ed ⟨rfl, rfl⟩) (fun fi s2 hf => ?_) fun er s2 hf => absurd hf.1 (by simp)
  cases fi with
  | done f =>
    obtain ⟨e, rfl⟩ := hf
    cases e
    exact back
  | again c =>
    refine ⟨hf.1, codeAny_mono hf.2 fun r s3 hr => ?_⟩
    obtain ⟨rfl, rfl⟩ := hr
    exact back
/-- sorted(list or tuple, ..) is list.sort on a new list of the items -/
theorem sorted_of_sort2 {l : Addr} {us : List Value} {kw : List (Str × Value)} {Q : Value → Shared → Prop} (hl : SeqHas s.heap l us) (hz : us.length ≤ sizeLine) (h1 : argsOk "sorted" ⟨[.ref l], kw⟩) (h2 : ∀ x, argsOk "list.sort" ⟨[.ref x], kw⟩)
    (run : ∀ E2 : Value → Shared → Prop, wpAny (model P w) A.in1.in1 (Builtin.«list.sort» ⟨[.ref (s.heap.objs.size + 1)], kw⟩) (fun f s2 => f = .done (.ret .none) ∧ Q (.ref (s.heap.objs.size + 1)) s2) E2 { s with heap := PySem.W.copyHeap s.heap us }) :
    wpAny (model P w) A (call (.builtin "sorted") [.ref l] kw) Q E s := by
  rcases hl with hl | hl
  · exact PySem.W.sorted_of_sort hl hz h1 h2 run
  have size1 : (readOut s.heap us).objs.size = s.heap.objs.size + 1 := by rw [Heap.size_update, size_push']
  refine call_function_entry_kw kind_sorted plain_sorted entry_sorted h1 ?_
  unfold Builtin.«sorted»
  refine wpAny_bind (m := checkCount "sorted" 1 1 _) (wpAny_pure (wpAny_bind (collect_tup hl hz (wpAny_bind (wpAny_newList ?_ hz)))))
  show wpAny _ _ _ _ _ { s with heap := PySem.W.copyHeap s.heap us }
  dsimp only
  rw [size1]
  refine wpAny_bind (wpAny_holding (wpAny_call_entry_kw slot_list_sort ⟨_, PySem.W.copyHeap_at s.heap us, rfl⟩ entry_list_sort ?go (h2 _)))
  case go =>
    refine wpAny_mono (run _) (fun f s2 ⟨ef, hq⟩ => ?_) fun _ _ e => e
    subst ef
    exact ⟨_, rfl, wpAny_pure ⟨_, rfl, hq⟩⟩
end
end DL
/-! DLp: the loop over the keys, sorted(xs, key=f). -/
namespace DL
open PySem PySem.Spec L2
open PyProof.Rows hiding St
open PySem.W (keyToks keyToksAll dataLt EachIs dataKind KeepsBut)

section
variable {X : Cx} {ca : Nat → Addr} {pins : List (Addr × Obj)} {σ : L2.St} {f Da kS : Addr} {k : Nat} {fd : FuncData} {ps : List Str} {m : FM} {A : Around} {P : PySem.Fin → Shared → Prop} {E : Value → Shared → Prop}
theorem sorted_each {h : Heap} {ds : List PyData} {ks xs : List D} {R : Value → D → Prop} {us kv : List Value} (hl : ks.length = xs.length) (hx : EachIs R us xs) (hk : EachIs (fun v (d : D) => (dataKind h ds).keyOf v = some (keyToks d.py)) kv ks) :
    EachIs R (PySem.W.sortVals (dataKind h ds) false kv us) (sortD ks xs) := by
  have e := PySem.W.sortVals_each (κ := dataKind h ds) (R := fun u (p : D × D) => R u p.2) (rev := false) (fun p : D × D => keyToks p.1.py) (each_zip (T := fun _ _ => True) hx hl) (each_zip1 hk hl)
  have e2 : ∀ {out : List Value} {zs : List (D × D)}, EachIs (fun u (p : D × D) => R u p.2) out zs → EachIs R out (zs.map (·.2)) := by
    intro out zs h
    induction h with
    | nil => exact .nil
    | cons h1 _ ih => exact .cons h1 ih
  exact e2 e
theorem keys_loop (F : FnOk X.prog X.w X.K X.mg X.base CX0 k f fd ps (spD (gx X ca) 1 m)) (hr : (∃ ds S d S', m ds S = some (d, S')) → Room k A) (he : ∀ s H, Env0 X.prog X.w X.K X.mg X.base X.A X.stack s H → Env0 X.prog X.w X.K X.mg X.base A X.stack s H) (hb : Binds X.K fd ps []) (hu : A.units + 66 < cLine)
    {H : Hp} {s : Shared} {r : List Addr} {S S2 : Sto} {xs ks : List D} {vs : List V} {us : List Value} {e1 : Nat} (I : Inv X pins σ H s) (R : RepS (gx X ca) r S H) (fD : FpOk X pins H Da) (fK : FpOk X pins H kS) (hka : kS ≠ Da)
    (nk : s.heap.get? kS = some (seqObj "list" #[] 0)) (na : s.heap.get? Da = some (seqObj "list" #[] e1)) (qx : DVs X.K r H xs vs) (rv : Vals vs us) (hZ : us.length ≤ sizeLine) (hk : keysD m xs S = some (ks, S2)) (ok : sortOk ks = true)
    (post : ∀ r' H' s', Inv X pins σ H' s' → Ext X.K r H r' H' → RepS (gx X ca) r' (S2 ++ [.lst (sortD ks xs)]) H' → DV X.K r' H' (.loc S2.length) (.ref Da) → P (.done (.ret .none)) s') :
    wpAny (model X.prog X.w) A (ksk_rest Da (.ref f) false us.toArray e1 (.ref kS)) P E s := by
  have hlen : ks.length = us.length := by rw [keysD_len hk, ← qx.length, rv.length]
  have hxl : xs.length = us.length := by rw [← qx.length, rv.length]
  unfold ksk_rest
  refine wpAny_bind (wpAny_rule ?_)
  first
    | rw [List.forIn_toArray]
    | (rw [← Array.forIn_toList]; simp only [List.toList_toArray])
  refine wpAny_bind (ksk_fold (fun i s' => ∃ r' S' H' kA e ks1 ks2, Inv X pins σ H' s' ∧ RepS (gx X ca) r' S' H' ∧ Ext X.K r H r' H' ∧ s'.heap.get? kS = some (seqObj "list" kA e) ∧ s'.heap.get? Da = some (seqObj "list" #[] e1) ∧ H' kS = none ∧ H' Da = none ∧
    EachIs (fun u (d : D) => ∃ v, RelV v u ∧ DV X.K r' H' d v) kA.toList ks1 ∧ ks1 ++ ks2 = ks ∧ keysD m (xs.drop i) S' = some (ks2, S2)) us 0 s ⟨r, S, H, #[], 0, [], ks, I, R, Ext.refl, nk, na, fK.1, fD.1, .nil, rfl, hk⟩ ?step ?done)
  case step =>
    rintro j u s' hx ⟨r', S', H', kA, e, ks1, ks2, I1, R1, x1, nk1, na1, hkn, hDn, q1, hks, hkk⟩
    simp only [Nat.zero_add] at hkk ⊢
    have hj : j < us.length := (List.getElem?_eq_some_iff.mp hx).1
    have hjv : j < vs.length := by rw [rv.length]; exact hj
    obtain ⟨u', hu', rvu⟩ := rv.get (List.getElem?_eq_getElem hjv)
    obtain rfl : u' = u := Option.some.inj (hu'.symm.trans hx)
    obtain ⟨d, hd, qd⟩ := qx.getV (List.getElem?_eq_getElem hjv)
    obtain ⟨hjx, hd'⟩ := List.getElem?_eq_some_iff.mp hd
    have hdr : xs.drop j = d :: xs.drop (j + 1) := by rw [← hd']; exact List.drop_eq_getElem_cons hjx
    rw [hdr] at hkk
    unfold keysD at hkk
    split at hkk
    · rename_i kd S3 em
      split at hkk
      · rename_i ks3 S4 ek
        cases hkk
        have pk : ∀ p ∈ (kS, seqObj "list" kA e) :: (Da, seqObj "list" #[] e1) :: pins, s'.heap.get? p.1 = some p.2 ∧ H' p.1 = none ∧ p.1 ≠ X.env.locals ∧ p.1 ∉ X.fs ∧ ∀ v, p.2.data ≠ .cell v := by
          intro p hp
          rcases List.mem_cons.mp hp with rfl | hp
          · exact ⟨nk1, hkn, fK.2.1, fK.2.2.1, fun v z => by cases z⟩
          · rcases List.mem_cons.mp hp with rfl | hp
            · exact ⟨na1, hDn, fD.2.1, fD.2.2.1, fun v z => by cases z⟩
            · exact I1.pin p (List.mem_append_right _ hp)
        have I2 := I1.pins_of pk
        refine wpAny_bind (wpAny_attempt (wpAny_mono (run_key (E := fun _ _ => False) (Q := fun w H2 => ∃ r2, Ext X.K r' H' r2 H2 ∧ RepS (gx X ca) r2 S3 H2 ∧ DV X.K r2 H2 kd w) F (hr ⟨_, _, _, _, em⟩) (he _ _ I2.env0) hb I2 R1 (DV.ext x1 _ _ qd) rvu em
          fun r2 H2 w x2 R2 q2 => ⟨r2, x2, R2, q2⟩) (fun kv s2 hEP => ?_) fun _ _ hF => hF.elim))
        obtain ⟨w, H2, I3, rw3, r2, x2, R2, q2⟩ := hEP
        try dsimp only
        obtain ⟨nk3, hkn3, _⟩ := I3.pin (kS, seqObj "list" kA e) (List.mem_append_right _ List.mem_cons_self)
        obtain ⟨na3, hDn3, _⟩ := I3.pin (Da, seqObj "list" #[] e1) (List.mem_append_right _ (List.mem_cons_of_mem _ List.mem_cons_self))
        simp only at nk3 hkn3 na3 hDn3
        have I4 : Inv X pins σ H2 s2 := I3.pins_of fun p hp => I3.pin p (List.mem_append_right _ (List.mem_cons_of_mem _ (List.mem_cons_of_mem _ hp)))
        have sb := Heap.SameBut.update s2.heap kS (Obj.mapSeq (·.push kv))
        obtain ⟨c2, hc2⟩ : ∃ c2, (s2.heap.update kS (Obj.mapSeq (·.push kv))).get? kS = some (seqObj "list" (kA.push kv) c2) := ⟨_, get?_update_seq nk3 (·.push kv)⟩
        have hz : kA.size ≤ us.length := by
          have h1 := q1.length
          rw [Array.length_toList] at h1
          rw [h1, ← hlen, ← hks, List.length_append]
          exact Nat.le_add_right _ _
        refine wpAny_bind (listUpdate_at nk3 rfl ?_ (Nat.le_trans hz hZ) (by rw [Array.size_push]; exact Nat.succ_le_succ (Nat.le_trans hz hZ)))
        obtain ⟨_, fl, _, f1, f2, f3⟩ := fK
        have I5 := I4.turned (t' := s2.toks) (h' := s2.heap.update kS (Obj.mapSeq (·.push kv))) (it := kS) (fun b o hb eo => (sb.2 b hb).trans eo) hkn3 fl f1 f2 f3
        refine wpAny_pure ⟨rfl, r2, S3, H2, kA.push kv, c2, ks1 ++ [kd], ks3, I5, R2, x1.trans x2, hc2, (sb.2 Da hka.symm).trans na3, hkn3, hDn3, ?_, by rw [List.append_assoc]; exact hks, ek⟩
        have ea : (kA.push kv).toList = kA.toList ++ [kv] := by simp
        rw [ea]
        have sn : ∀ {as : List Value} {bs : List D}, EachIs (fun u (d : D) => ∃ v, RelV v u ∧ DV X.K r2 H2 d v) as bs → EachIs (fun u (d : D) => ∃ v, RelV v u ∧ DV X.K r2 H2 d v) (as ++ [kv]) (bs ++ [kd]) := by
          intro as bs h
          induction h with
          | nil => exact .cons ⟨w, rw3, q2⟩ .nil
          | cons h1 _ ih => exact .cons h1 ih
        exact sn (q1.mono fun a b ⟨v, r1, q⟩ => ⟨v, r1, DV.ext x2 _ _ q⟩)
      · cases hkk
    · cases hkk
  case done =>
    rintro s' ⟨r', S', H', kA, e, ks1, ks2, I1, R1, x1, nk1, na1, hkn, hDn, q1, hks, hkk⟩
    have hdr : xs.drop (0 + us.length) = [] := List.drop_eq_nil_of_le (by omega)
    rw [hdr] at hkk
    cases hkk
    rw [List.append_nil] at hks
    subst hks
    try dsimp only
    refine wpAny_bind (listItems_at nk1 rfl ?_)
    obtain ⟨G, g1, g2⟩ := restrict s'.heap fun b => decide (b ≠ kS)
    have gk : ∀ b o, b ≠ kS → s'.heap.get? b = some o → G.get? b = some o := fun b o hb z => by rw [g1 b (decide_eq_true hb)]; exact z
    have gs : KeepsBut Da G s'.heap := fun b o _ z => by
      by_cases hb : b = kS
      · rw [hb, g2 kS (decide_eq_false fun z => z rfl)] at z
        cases z
      · rw [← g1 b (decide_eq_true hb)]
        exact z
    have rd := reads_each I1 q1 fun k hk => (sortOk_at ok hk).1
    have hsz : kA.size = us.length := by
      have h1 := q1.length
      rw [Array.length_toList] at h1
      omega
    refine PySem.W.keyH_end (κ := dataKind s'.heap (ks1.map D.py)) (h₁ := G) gs (g2 kS (decide_eq_false fun z => z rfl)) nk1 na1 hka (sortsAt_of ok rd hu) hsz hZ fun h3 tk3 c k3 n3 => ?_
    have hc : ∀ d ∈ ks1.map D.py, d.canLay0 = true := fun d hd => by
      obtain ⟨k, hk, rfl⟩ := List.mem_map.mp hd
      exact SeqAt.canLay_of_shaped (sortOk_at ok hk).2.1
    have hkeys : EachIs (fun v (d : D) => (dataKind s'.heap (ks1.map D.py)).keyOf v = some (keyToks d.py)) kA.toList ks1 := by
      have go : ∀ {as : List Value} {bs : List D}, EachIs (fun v (d : D) => ∃ as, Reads s'.heap v d.py as) as bs → (∀ b ∈ bs, b ∈ ks1) → EachIs (fun v (d : D) => (dataKind s'.heap (ks1.map D.py)).keyOf v = some (keyToks d.py)) as bs := by
        intro as bs h
        induction h with
        | nil => intro _; exact .nil
        | @cons a b as bs h1 _ ih =>
          intro hm
          obtain ⟨_, h1⟩ := h1
          exact .cons (kind_some hc (List.mem_map_of_mem (hm b List.mem_cons_self)) h1) (ih fun b hb => hm b (List.mem_cons_of_mem _ hb))
      exact go rd fun _ h => h
    have hout := sorted_each (by rw [hlen, hxl]) (each_of_dvs (DVs.ext x1 _ _ qx) rv) hkeys
    obtain ⟨ov, rvo, qo⟩ := each_vals hout
    have qo' : DVs X.K r' H' (sortD ks1 xs) ov := dvs_of_each qo
    have hol : ov.length ≤ sizeLine := by
      rw [rvo.length, PySem.W.sortVals_length false (by rw [Array.length_toList]; exact hsz)]
      exact hZ
    have I6 : Inv X pins σ (upd H' Da (.lst ov)) { s' with heap := h3, toks := tk3 } := take2 (kS := kS) I1 (fun b o hb1 hb2 z => k3 b o hb1 (gk b o hb2 z)) ⟨hDn, fD.2⟩ ⟨hkn, fK.2⟩ ⟨hol, _, c, rvo, n3⟩
    obtain ⟨x3, R3⟩ := R1.lst hDn qo'
    exact post _ _ _ I6 (x1.trans x3) R3 R1.newLoc
end
section
variable {X : Cx} {ca : Nat → Addr} {pins : List (Addr × Obj)} {σ : L2.St} {f : Addr} {k : Nat} {fd : FuncData} {ps : List Str} {m : FM}
theorem lst_of {G : Ctx} {r : List Addr} {S : Sto} {H : Hp} {d : D} {v : V} {ds : List D} (R : RepS G r S H) (q : DV G.K r H d v) (h : isLst S d = some ds) : ∃ a vs, v = .ref a ∧ DVs G.K r H ds vs ∧ (SqL G.K H a vs ∨ SqT G.K H a vs) := by
  unfold isLst at h
  have go : seqD S d = some ds → (∀ es, d ≠ .tup es) → ∃ a vs, v = .ref a ∧ DVs G.K r H ds vs ∧ (SqL G.K H a vs ∨ SqT G.K H a vs) := fun h nt => by
    obtain ⟨a, vs, e, h2, h3⟩ := seq_cases R q h
    rcases h3 with ⟨z, _⟩ | ⟨_, _, _, hl⟩
    · exact absurd z (nt _)
    · exact ⟨a, vs, e, h2, .inl hl⟩
  split at h
  · exact go h fun _ z => by cases z
  · exact go h fun _ z => by cases z
  · cases h
    unfold DV at q
    obtain ⟨a, vs, rfl, h1, h2⟩ := q
    exact ⟨a, vs, rfl, h2, .inr h1⟩
  · cases h
/-- the call, key= given -/
theorem sortK_run (F : FnOk X.prog X.w X.K X.mg X.base CX0 (k - 2) f fd ps (spD (gx X ca) 1 m)) (hz : k < 2 → ∀ ds S, m ds S = none) (hr : Room k X.A) (hb : Binds X.K fd ps []) {H : Hp} {s : Shared} {r : List Addr} {S S' : Sto} {x d : D} {v : V} {u : Value} {Q : VK}
    (I : Inv X pins σ H s) (R : RepS (gx X ca) r S H) (q : DV X.K r H x v) (rv : RelV v u) (h : sortKP m x S = some (d, S')) (hq : ∀ r' H' w, Ext X.K r H r' H' → RepS (gx X ca) r' S' H' → DV X.K r' H' d w → Q w H') :
    wpAny (model X.prog X.w) X.A (call (.builtin "sorted") [u] [(Str.ofString "key", .ref f)]) (EP X pins σ Q) X.xe s := by
  unfold sortKP at h
  split at h
  · rename_i xs e1
    split at h
    · rename_i ks S2 e2
      split at h
      · rename_i ok
        cases h
        obtain ⟨a, vs, rfl, qx, hl⟩ := lst_of R q e1
        cases rv
        obtain ⟨its, rvs, hli, hzz⟩ : ∃ its : List Value, Vals vs its ∧ SeqHas s.heap a its ∧ vs.length ≤ sizeLine := by
          rcases hl with hl | hl
          · obtain ⟨its, rvs, hli, hzz⟩ := I.list hl
            exact ⟨its, rvs, .inl hli.isList, hzz⟩
          · obtain ⟨its, rvs, hli, hzz⟩ := I.tuple hl
            exact ⟨its, rvs, .inr hli, hzz⟩
        have hL : its.length ≤ sizeLine := by rw [← rvs.length]; exact hzz
        have room : (∃ ds S d S', m ds S = some (d, S')) → Room (k - 2) X.A.in1.in1 := fun ⟨ds, S0, d, S3, e⟩ => by
          by_cases hk : k < 2
          · rw [hz hk] at e; cases e
          · obtain ⟨j, rfl⟩ : ∃ j, k = j + 2 := ⟨k - 2, by omega⟩
            exact hr.in1.in1
        have hu : X.A.in1.in1.units + 66 < cLine := by
          have := hr.un
          show X.A.units + 1 + 1 + 66 < cLine
          omega
        refine sorted_of_sort2 hli hL (ksk_s1 _ _) (fun _ => ksk_l1 _ _) fun E' => ?_
        rw [ksk_t1]
        have ho := PySem.W.copyHeap_at s.heap its
        obtain ⟨e1, ho1⟩ : ∃ e1, ((PySem.W.copyHeap s.heap its).update (s.heap.objs.size + 1) (Obj.mapSeq fun _ => (#[] : Array Value))).get? (s.heap.objs.size + 1) = some (seqObj "list" #[] e1) := ⟨_, get?_update_seq ho fun _ => #[]⟩
        unfold ksk_tree
        refine wpAny_bind (listItems_at ho rfl ?_)
        refine wpAny_bind (listUpdate_at ho rfl ?_ (by rw [List.size_toArray]; exact hL) (Nat.zero_le _))
        refine wpAny_bind (seqEpoch_at ho1 rfl ?_)
        refine wpAny_bind (wpAny_newTuple ?_ (by show its.length ≤ sizeLine; exact hL))
        refine wpAny_bind (wpAny_newList ?_ (Nat.zero_le _))
        refine wpAny_holding ?_
        have big : s.heap.objs.size + 1 < (((PySem.W.copyHeap s.heap its).update (s.heap.objs.size + 1) (Obj.mapSeq fun _ => (#[] : Array Value))).push (seqObj "tuple" its.toArray 0)).objs.size := Nat.lt_of_lt_of_le (Heap.lt_size (Heap.get?_push_of_some _ ho1)) (Nat.le_refl _)
        have I1 : Inv X pins σ H { s with heap := PySem.W.sortingHeap (PySem.W.copyHeap s.heap its) (s.heap.objs.size + 1) its, toks := s.toks } := I.kept fun b o z => PySem.W.sorting_copy_old z
        refine keys_loop (σ := σ) (pins := pins) F room (fun _ _ e => e.in1.in1) hb hu (kS := (((PySem.W.copyHeap s.heap its).update (s.heap.objs.size + 1) (Obj.mapSeq fun _ => (#[] : Array Value))).push (seqObj "tuple" its.toArray 0)).objs.size) (Da := s.heap.objs.size + 1) I1 R
          (I.fpOk (Nat.le_succ _) (I.hok.fresh (Nat.le_succ _))) (I.fpOk (by omega) (I.hok.fresh (by omega))) (Nat.ne_of_gt big) (Heap.get?_push_size _ rfl) (Heap.get?_push_of_some _ (Heap.get?_push_of_some _ ho1)) qx rvs hL e2 ok fun r' H' s' I' x' R' q' => ⟨rfl, .ref _, H', I', rfl, hq r' H' _ x' R' q'⟩
      · cases h
    · cases h
  · cases h
def rSK (G : Ctx) (f : Addr) (m : FM) : List V → List V → Hp → VK → Prop := fun vs zs H Q => zs = [V.ref f] ∧ ∃ r S x v d S', vs = [v] ∧ RepS G r S H ∧ DV G.K r H x v ∧ sortKP m x S = some (d, S') ∧ ∀ r' H' w, Ext G.K r H r' H' → RepS G r' S' H' → DV G.K r' H' d w → Q w H'
theorem de_sortK {x : Str} {p pos kp kp2 : Pos} {e : Expr} {ma : EM} (F : FnOk X.prog X.w X.K X.mg X.base CX0 (k - 2) f fd ps (spD (gx X ca) 1 m)) (hz : k < 2 → ∀ ds S, m ds S = none) (hr : Room k X.A) (hb : Binds X.K fd ps []) (hs : X.mg "sorted" = none) (hm : X.mg x = some (.ref f)) (h : PE X e (liftE (gx X ca) ma))
    (hg : Gl X "sorted" := by rfl) (hg2 : Gl X x := by rfl) (hdb : (x == ("__debug__" : Str)) = false := by decide) (hs1 : starEach [e] X.env = (false, eval e X.env) :: starEach [] X.env := by rfl) (he : backTo pos (starEach [e] X.env) = (false, eval e X.env) :: backTo pos (starEach [] X.env) := by rfl) (hpl : (backTo pos (starEach [e] X.env)).any (·.1) = false := by rfl) :
    PE X (.Call (.Name "sorted" p) [e] [⟨some "key", .Name x kp, kp2⟩] pos) (liftE (gx X ca) (mSortK m ma)) :=
  wkE (pe_callBK (ks := [Str.ofString "key"]) (r := rSK (gx X ca) f m) (fun pins s σ H xs zs us ws Q I r1 r2 hh => by
    obtain ⟨rfl, r, S, x, v, d, S', rfl, R, q, e, k⟩ := hh
    obtain ⟨u, rfl, r3⟩ := vals1 r1
    obtain ⟨w, rfl, r4⟩ := vals1 r2
    cases r4
    exact sortK_run F hz hr hb I R q r3 e k) hg hs boot_sorted (pa_cons h pa_nil hs1) (pk_cons (pe_glob (v := .ref f) hg2 hm rfl hdb) pk_nil) (by decide) (by decide) he hpl) fun σ H Q hh => by
    obtain ⟨r, env, S, d, S', R, W, e1, k⟩ := hh
    unfold mSortK m1 at e1
    split at e1
    · rename_i y S1 e2
      refine ⟨r, env, S, y, S1, R, W, e2, fun r1 H1 v x1 R1 q1 => ?_⟩
      exact ⟨rfl, r1, S1, y, v, d, S', rfl, R1, q1, e1, fun r2 H2 w x2 R2 q2 => k r2 H2 w (x1.trans x2) R2 q2⟩
    · cases e1
end
end DL
/-! DLq: what the meanings give, read backwards (for the plain laws). -/
namespace DL
open PySem

def Ow {α : Type} (o : Option α) (Q : α → Prop) : Prop := ∃ a, o = some a ∧ Q a
section
variable {α : Type} {Q Q' : α → Prop} {o : Option α}
@[simp] theorem ow_some {a : α} : Ow (some a) Q ↔ Q a := ⟨fun ⟨_, e, q⟩ => by cases e; exact q, fun q => ⟨a, rfl, q⟩⟩
@[simp] theorem ow_none : Ow (none : Option α) Q ↔ False := ⟨fun ⟨_, e, _⟩ => (by cases e), False.elim⟩
def asB : D → Option Bool
  | .bl t => some t
  | _ => none
def asI : D → Option Int
  | .int t => some t
  | _ => none
@[simp] theorem asB_bl {t : Bool} : asB (.bl t) = some t := rfl
@[simp] theorem asI_int {t : Int} : asI (.int t) = some t := rfl
theorem Ow.imp (h : Ow o Q) (k : ∀ a, Q a → Q' a) : Ow o Q' := let ⟨a, e, q⟩ := h; ⟨a, e, k a q⟩
theorem ow_ite {c : Prop} [Decidable c] {x y : Option α} : Ow (if c then x else y) Q ↔ if c then Ow x Q else Ow y Q := by split <;> rfl
theorem ow_if {c : Prop} [Decidable c] {x : Option α} : Ow (if c then x else none) Q ↔ c ∧ Ow x Q := by
  by_cases h : c <;> simp [h]
end
section
variable {env : Vars} {S : Sto} {Q : D × Sto → Prop} {B : Bool × Sto → Prop} {L : List D × Sto → Prop} {T : Fl × Vars × Sto → Prop} {N : Vars × Sto → Prop} {a b c : EM} {ba bb : BM} {l : LM} {p p' : D → D → Sto → Option (D × Sto)} {p1 : D → Sto → Option (D × Sto)} {pl : List D → Sto → Option (D × Sto)} {sa sb : SM} {g : GM} {gs : GMs}
theorem ow_bind {α β : Type} {o : Option α} {f : α → Option β} {Q : β → Prop} : Ow (match o with | some x => f x | none => none) Q ↔ Ow o fun x => Ow (f x) Q := by
  cases o <;> simp
@[simp] theorem ow_var {i : Nat} : Ow (mVar i env S) Q ↔ ∃ d, env[i]? = some (some d) ∧ Q (d, S) := by
  unfold mVar
  split
  · rename_i d e
    simp only [ow_some]
    exact ⟨fun q => ⟨d, e, q⟩, fun ⟨d', e', q⟩ => by rw [e] at e'; cases e'; exact q⟩
  · rename_i h
    simp only [ow_none, false_iff]
    exact fun ⟨d, e, _⟩ => h d e
@[simp] theorem ow_C {d : D} : Ow (mC d env S) Q ↔ Q (d, S) := ow_some
@[simp] theorem ow_m1 : Ow (m1 p1 a env S) Q ↔ Ow (a env S) fun x => Ow (p1 x.1 x.2) Q := by
  unfold m1; cases a env S <;> simp
@[simp] theorem ow_m2 : Ow (m2 p a b env S) Q ↔ Ow (a env S) fun x => Ow (b env x.2) fun y => Ow (p x.1 y.1 y.2) Q := by
  unfold m2
  cases a env S with
  | none => simp
  | some x =>
    obtain ⟨x, S1⟩ := x
    simp only [ow_some]
    cases b env S1 <;> simp
@[simp] theorem ow_mL : Ow (mL pl l env S) Q ↔ Ow (l env S) fun x => Ow (pl x.1 x.2) Q := by
  unfold mL; cases l env S <;> simp
@[simp] theorem ow_nil : Ow (lNil env S) L ↔ L ([], S) := ow_some
@[simp] theorem ow_cons : Ow (lCons a l env S) L ↔ Ow (a env S) fun x => Ow (l env x.2) fun y => L (x.1 :: y.1, y.2) := by
  unfold lCons
  cases a env S with
  | none => simp
  | some x => cases h : l env x.2 <;> simp_all
@[simp] theorem ow_star : Ow (lStar a l env S) L ↔ Ow (a env S) fun x => Ow (seqD x.2 x.1) fun ds => Ow (l env x.2) fun y => L (ds ++ y.1, y.2) := by
  unfold lStar
  cases a env S with
  | none => simp
  | some x =>
    cases h : seqD x.2 x.1 with
    | none => simp [h]
    | some ds => cases h2 : l env x.2 <;> simp_all
@[simp] theorem ow_V : Ow (bV a env S) B ↔ Ow (a env S) fun x => Ow (asB x.1) fun t => B (t, x.2) := by
  unfold bV
  cases a env S with
  | none => simp
  | some x =>
    obtain ⟨d, S1⟩ := x
    cases d <;> simp [asB, asI]
@[simp] theorem ow_Tru : Ow (bTru a env S) B ↔ Ow (a env S) fun x => Ow (truD x.2 x.1) fun t => B (t, x.2) := by
  unfold bTru
  cases a env S with
  | none => simp
  | some x => cases h : truD x.2 x.1 <;> simp_all
@[simp] theorem ow_Not : Ow (bNot ba env S) B ↔ Ow (ba env S) fun x => B (!x.1, x.2) := by
  unfold bNot; cases ba env S <;> simp
@[simp] theorem ow_And : Ow (bAnd ba bb env S) B ↔ Ow (ba env S) fun x => if x.1 = true then Ow (bb env x.2) B else B (false, x.2) := by
  unfold bAnd
  cases ba env S with
  | none => simp
  | some x =>
    obtain ⟨t, S1⟩ := x
    cases t <;> simp
@[simp] theorem ow_Or : Ow (bOr ba bb env S) B ↔ Ow (ba env S) fun x => if x.1 = true then B (true, x.2) else Ow (bb env x.2) B := by
  unfold bOr
  cases ba env S with
  | none => simp
  | some x =>
    obtain ⟨t, S1⟩ := x
    cases t <;> simp
@[simp] theorem ow_mAnd : Ow (mAnd a b env S) Q ↔ Ow (a env S) fun x => Ow (asB x.1) fun t => if t = true then Ow (b env x.2) Q else Q (.bl false, x.2) := by
  unfold mAnd
  cases a env S with
  | none => simp
  | some x =>
    obtain ⟨d, S1⟩ := x
    cases d with
    | bl t => cases t <;> simp
    | _ => simp [asB, asI]
@[simp] theorem ow_mOr : Ow (mOr a b env S) Q ↔ Ow (a env S) fun x => Ow (asB x.1) fun t => if t = true then Q (.bl true, x.2) else Ow (b env x.2) Q := by
  unfold mOr
  cases a env S with
  | none => simp
  | some x =>
    obtain ⟨d, S1⟩ := x
    cases d with
    | bl t => cases t <;> simp
    | _ => simp [asB, asI]
@[simp] theorem ow_mNot : Ow (mNot a env S) Q ↔ Ow (a env S) fun x => Ow (asB x.1) fun t => Q (.bl (!t), x.2) := by
  unfold mNot
  cases a env S with
  | none => simp
  | some x =>
    obtain ⟨d, S1⟩ := x
    cases d <;> simp [asB, asI]
@[simp] theorem ow_mIf : Ow (mIf ba a b env S) Q ↔ Ow (ba env S) fun x => if x.1 = true then Ow (a env x.2) Q else Ow (b env x.2) Q := by
  unfold mIf
  cases ba env S with
  | none => simp
  | some x =>
    obtain ⟨t, S1⟩ := x
    cases t <;> simp
@[simp] theorem ow_mIsN : Ow (mIsN a env S) Q ↔ Ow (a env S) fun x => Q (.bl x.1.isNon, x.2) := by
  unfold mIsN; simp
@[simp] theorem ow_mNotN : Ow (mNotN a env S) Q ↔ Ow (a env S) fun x => Q (.bl (!x.1.isNon), x.2) := by
  unfold mNotN; simp
@[simp] theorem ow_chain : Ow (mChain p p' a b c env S) Q ↔ Ow (a env S) fun x => Ow (b env x.2) fun y => Ow (p x.1 y.1 y.2) fun z => Ow (asB z.1) fun t => if t = true then Ow (c env z.2) fun w => Ow (p' y.1 w.1 w.2) Q else Q (.bl false, z.2) := by
  unfold mChain
  cases a env S with
  | none => simp
  | some x =>
    cases h : b env x.2 with
    | none => simp [h]
    | some y =>
      cases h2 : p x.1 y.1 y.2 with
      | none => simp [h, h2]
      | some z =>
        obtain ⟨d, S1⟩ := z
        cases d with
        | bl t =>
          cases t with
          | true => cases h3 : c env S1 <;> simp_all
          | false => simp [h, h2]
        | _ => simp [h, h2, asB]
@[simp] theorem ow_oNone {O : Option Int × Sto → Prop} : Ow (oNone env S) O ↔ O (none, S) := ow_some
@[simp] theorem ow_oSome {O : Option Int × Sto → Prop} : Ow (oSome a env S) O ↔ Ow (a env S) fun x => Ow (asI x.1) fun i => O (some i, x.2) := by
  unfold oSome
  cases a env S with
  | none => simp
  | some x =>
    obtain ⟨d, S1⟩ := x
    cases d <;> simp [asB, asI]
@[simp] theorem ow_mSl {ps : D → Option Int → Option Int → Sto → Option (D × Sto)} {lo hi : OM} : Ow (mSl ps a lo hi env S) Q ↔ Ow (a env S) fun x => Ow (lo env x.2) fun i => Ow (hi env i.2) fun j => Ow (ps x.1 i.1 j.1 j.2) Q := by
  unfold mSl
  cases a env S with
  | none => simp
  | some x =>
    cases h : lo env x.2 with
    | none => simp [h]
    | some y => cases h2 : hi env y.2 <;> simp_all
@[simp] theorem ow_mM0 {Ty : String} {pm : D → List D → Sto → Option (D × Sto)} : Ow (mM0 Ty pm a env S) Q ↔ Ow (a env S) fun x => tyD Ty x.2 x.1 = true ∧ Ow (pm x.1 [] x.2) Q := by
  unfold mM0
  cases a env S with
  | none => simp
  | some x =>
    simp only [ow_some]
    by_cases h : tyD Ty x.2 x.1 = true <;> simp [h]
@[simp] theorem ow_mM {Ty : String} {pm : D → List D → Sto → Option (D × Sto)} : Ow (mM Ty pm a l env S) Q ↔ Ow (a env S) fun x => tyD Ty x.2 x.1 = true ∧ Ow (l env x.2) fun y => Ow (pm x.1 y.1 y.2) Q := by
  unfold mM
  cases a env S with
  | none => simp
  | some x =>
    simp only [ow_some]
    by_cases h : tyD Ty x.2 x.1 = true
    · cases h2 : l env x.2 <;> simp [h, h2]
    · simp [h]
@[simp] theorem ow_mDNew : Ow (mDNew env S) Q ↔ Q (.loc S.length, S ++ [.dct []]) := ow_some
@[simp] theorem ow_prs_nil {R : List (D × D) × Sto → Prop} : Ow (evPairs [] env S) R ↔ R ([], S) := ow_some
@[simp] theorem ow_prs_cons {ps : PMs} {R : List (D × D) × Sto → Prop} : Ow (evPairs ((a, b) :: ps) env S) R ↔ Ow (a env S) fun x => Ow (b env x.2) fun y => Ow (evPairs ps env y.2) fun z => R ((x.1, y.1) :: z.1, z.2) := by
  rw [evPairs]
  cases a env S with
  | none => simp
  | some x =>
    obtain ⟨x, S1⟩ := x
    simp only [ow_some]
    cases b env S1 with
    | none => simp
    | some y =>
      obtain ⟨y, S2⟩ := y
      simp only [ow_some]
      cases evPairs ps env S2 <;> simp
@[simp] theorem ow_mDisp {ps : PMs} : Ow (mDisp ps env S) Q ↔ Ow (evPairs ps env S) fun x => (x.1.all fun p => okKey p.1) = true ∧ Q (.loc x.2.length, x.2 ++ [.dct (x.1.foldl (fun d p => dput d p.1 p.2) [])]) := by
  unfold mDisp
  cases evPairs ps env S with
  | none => simp
  | some x => simp only [ow_some, ow_if]
@[simp] theorem ow_sortK {m : FM} : Ow (mSortK m a env S) Q ↔ Ow (a env S) fun x => Ow (sortKP m x.1 x.2) Q := ow_m1

/-! statements -/
@[simp] theorem ow_next : Ow (sNext env S) T ↔ T (.nx, env, S) := ow_some
@[simp] theorem ow_break : Ow (sBreak env S) T ↔ T (.bk, env, S) := ow_some
@[simp] theorem ow_cont : Ow (sCont env S) T ↔ T (.ct, env, S) := ow_some
@[simp] theorem ow_never : Ow (sNever env S) T ↔ False := ow_none
@[simp] theorem ow_seq : Ow (sSeq sa sb env S) T ↔ Ow (sa env S) fun x => match x.1 with
    | .nx => Ow (sb x.2.1 x.2.2) T
    | .rt d => T (.rt d, x.2)
    | .bk => T (.bk, x.2)
    | .ct => T (.ct, x.2) := by
  unfold sSeq
  cases sa env S with
  | none => simp
  | some x =>
    obtain ⟨fl, e1, S1⟩ := x
    cases fl <;> simp
@[simp] theorem ow_expr : Ow (sExpr a env S) T ↔ Ow (a env S) fun x => T (.nx, env, x.2) := by
  unfold sExpr; cases a env S <;> simp
@[simp] theorem ow_ret : Ow (sRet a env S) T ↔ Ow (a env S) fun x => T (.rt x.1, env, x.2) := by
  unfold sRet; cases a env S <;> simp
@[simp] theorem ow_retN : Ow (sRetN env S) T ↔ T (.rt .non, env, S) := ow_some
@[simp] theorem ow_sIf : Ow (sIf ba sa sb env S) T ↔ Ow (ba env S) fun x => if x.1 = true then Ow (sa env x.2) T else Ow (sb env x.2) T := by
  unfold sIf
  cases ba env S with
  | none => simp
  | some x =>
    obtain ⟨t, S1⟩ := x
    cases t <;> simp
@[simp] theorem ow_asg : Ow (sAsg a g env S) T ↔ Ow (a env S) fun x => Ow (g x.1 env x.2) fun y => T (.nx, y) := by
  unfold sAsg
  cases a env S with
  | none => simp
  | some x => cases h : g x.1 env x.2 <;> simp_all
@[simp] theorem ow_gVar {i : Nat} {d : D} : Ow (gVar i d env S) N ↔ N (env.set i (some d), S) := ow_some
@[simp] theorem ow_gsNil : Ow (gsNil [] env S) N ↔ N (env, S) := ow_some
@[simp] theorem ow_gsCons {d : D} {ds : List D} : Ow (gsCons g gs (d :: ds) env S) N ↔ Ow (g d env S) fun y => Ow (gs ds y.1 y.2) N := by
  simp only [gsCons]
  cases g d env S <;> simp
@[simp] theorem ow_gTup {n : Nat} {ds : List D} : Ow (gTupD n gs (.tup ds) env S) N ↔ ds.length = n ∧ Ow (gs ds env S) N := by
  simp only [gTupD]
  exact ow_if
@[simp] theorem ow_gSub {d : D} : Ow (gSubM a b d env S) N ↔ Ow (a env S) fun x => Ow (b env x.2) fun y => Ow (setP x.1 y.1 d y.2) fun S3 => N (env, S3) := by
  unfold gSubM
  cases a env S with
  | none => simp
  | some x =>
    cases h : b env x.2 with
    | none => simp [h]
    | some y => cases h2 : setP x.1 y.1 d y.2 <;> simp_all
@[simp] theorem ow_aug {i : Nat} : Ow (sAug i p a env S) T ↔ ∃ x, env[i]? = some (some x) ∧ Ow (a env S) fun y => Ow (p x y.1 y.2) fun z => T (.nx, env.set i (some z.1), z.2) := by
  unfold sAug
  cases h : env[i]? with
  | none => simp
  | some o =>
    cases o with
    | none => simp
    | some x =>
      cases h1 : a env S with
      | none => simp
      | some y => cases h2 : p x y.1 y.2 <;> simp_all
theorem ow_runB {n : Nat} {ds : List D} : Ow (runB n sa ds S) Q ↔ Ow (sa (ds.map some ++ List.replicate (n - ds.length) none) S) fun x => match x.1 with
    | .rt d => Q (d, x.2.2)
    | .nx => Q (.non, x.2.2)
    | .bk => False
    | .ct => False := by
  unfold runB
  cases sa (ds.map some ++ List.replicate (n - ds.length) none) S with
  | none => simp
  | some x =>
    obtain ⟨fl, e1, S1⟩ := x
    cases fl <;> simp
@[simp] theorem ow_iSeq {I : DIt × Sto → Prop} : Ow (iSeq a env S) I ↔ Ow (a env S) fun x => (seqD x.2 x.1).isSome = true ∧ I (.seq x.1, x.2) := by
  unfold iSeq
  cases a env S with
  | none => simp
  | some x => cases h : seqD x.2 x.1 <;> simp_all
@[simp] theorem ow_iRng1 {I : DIt × Sto → Prop} : Ow (iRng1M a env S) I ↔ Ow (a env S) fun x => Ow (asI x.1) fun j => (-(2 ^ 62) ≤ j ∧ j < 2 ^ 62) ∧ I (.rng 0 j.toNat, x.2) := by
  unfold iRng1M
  cases a env S with
  | none => simp
  | some x =>
    obtain ⟨d, S1⟩ := x
    cases d <;> simp [ow_if, asI]
@[simp] theorem ow_iRng2 {I : DIt × Sto → Prop} : Ow (iRng2M a b env S) I ↔ Ow (a env S) fun x => Ow (asI x.1) fun i => Ow (b env x.2) fun y => Ow (asI y.1) fun j => (-(2 ^ 62) ≤ i ∧ i < 2 ^ 62 ∧ -(2 ^ 62) ≤ j ∧ j < 2 ^ 62) ∧ I (.rng i (j - i).toNat, y.2) := by
  unfold iRng2M
  cases a env S with
  | none => simp
  | some x =>
    obtain ⟨d, S1⟩ := x
    cases d with
    | int i =>
      cases h : b env S1 with
      | none => simp [h]
      | some y =>
        obtain ⟨d2, S2⟩ := y
        cases d2 <;> simp [h, ow_if, asI]
    | _ => simp [asB, asI]
end

/-! ### loops -/
theorem lcL_inv {it : DIt} {vs : List Nat} {t : Tgt} {tt : BM} {te : EM} {env : Vars} (its : List D) (I : Nat → List D → Sto → Prop) (hit : ∀ j acc S, I j acc S → itAt S it j = some its[j]?)
    (step : ∀ j d acc S, its[j]? = some d → I j acc S → ∃ env1, t.put (wipeD env vs) d = some env1 ∧ Ow (tt env1 S) fun x => if x.1 = true then Ow (te env1 x.2) fun y => acc.length < sizeLine ∧ I (j + 1) (acc ++ [y.1]) y.2 else I (j + 1) acc x.2) :
    ∀ (n j : Nat) (acc : List D) (S : Sto), its.length - j = n → j ≤ its.length → I j acc S → Ow (lcL it vs t tt te env j acc S) fun x => I its.length x.1 x.2
  | 0, j, acc, S, hn, hj, h => by
    have e : j = its.length := by omega
    rw [lcL_eq, hit j acc S h, List.getElem?_eq_none (by omega)]
    simp only [ow_some]
    rw [← e]
    exact h
  | n + 1, j, acc, S, hn, hj, h => by
    have hlt : j < its.length := by omega
    rw [lcL_eq, hit j acc S h, List.getElem?_eq_getElem hlt]
    obtain ⟨env1, e1, e2⟩ := step j _ acc S (List.getElem?_eq_getElem hlt) h
    simp only [e1]
    obtain ⟨⟨b, S1⟩, e3, e4⟩ := e2
    rw [e3]
    cases b with
    | false => exact lcL_inv its I hit step n (j + 1) acc S1 (by omega) (by omega) (by simpa using e4)
    | true =>
      simp only [if_true] at e4
      obtain ⟨⟨y, S2⟩, e5, e6, e7⟩ := e4
      simp only [e5, if_pos e6]
      exact lcL_inv its I hit step n (j + 1) _ S2 (by omega) (by omega) e7
theorem ow_lc {mi : IM} {vs : List Nat} {t : Tgt} {tt : BM} {te : EM} {env : Vars} {S : Sto} {Q : D × Sto → Prop} : Ow (mLc mi vs t tt te env S) Q ↔ Ow (mi env S) fun x => Ow (lcL x.1 vs t tt te env 0 [] x.2) fun y => Q (.loc y.2.length, y.2 ++ [.lst y.1]) := by
  unfold mLc
  cases mi env S with
  | none => simp
  | some x => cases h : lcL x.1 vs t tt te env 0 [] x.2 <;> simp_all
/-- a loop: I at each turn, R where it is left -/
theorem forL_inv {it : DIt} {g : GM} {b : SM} (its : List D) (I : Nat → Vars → Sto → Prop) (R : Fl × Vars × Sto → Prop) (hit : ∀ j env S, I j env S → itAt S it j = some its[j]?)
    (fin : ∀ env S, I its.length env S → R (.nx, env, S))
    (step : ∀ j d env S, its[j]? = some d → I j env S → Ow (g d env S) fun x => Ow (b x.1 x.2) fun y => match y.1 with
      | .nx => I (j + 1) y.2.1 y.2.2
      | .ct => I (j + 1) y.2.1 y.2.2
      | .bk => R (.nx, y.2)
      | .rt d => R (.rt d, y.2)) :
    ∀ (n j : Nat) (env : Vars) (S : Sto), its.length - j = n → j ≤ its.length → I j env S → Ow (forL it g b j env S) R
  | 0, j, env, S, hn, hj, h => by
    have e : j = its.length := by omega
    rw [forL_eq, hit j env S h, List.getElem?_eq_none (by omega)]
    simp only [ow_some]
    exact fin env S (e ▸ h)
  | n + 1, j, env, S, hn, hj, h => by
    have hlt : j < its.length := by omega
    rw [forL_eq, hit j env S h, List.getElem?_eq_getElem hlt]
    obtain ⟨⟨env1, S1⟩, e1, ⟨fl, env2, S2⟩, e2, e3⟩ := step j _ env S (List.getElem?_eq_getElem hlt) h
    simp only [e1, e2]
    cases fl with
    | nx => exact forL_inv its I R hit fin step n (j + 1) env2 S2 (by omega) (by omega) e3
    | ct => exact forL_inv its I R hit fin step n (j + 1) env2 S2 (by omega) (by omega) e3
    | bk => simpa using e3
    | rt d => simpa using e3
theorem ow_for {mi : IM} {g : GM} {b : SM} {env : Vars} {S : Sto} {T : Fl × Vars × Sto → Prop} : Ow (sFor mi g b env S) T ↔ Ow (mi env S) fun x => Ow (forL x.1 g b 0 env x.2) T := by
  unfold sFor
  cases mi env S <;> simp
theorem sWhile_inv {c : BM} {b : SM} (I : Nat → Vars → Sto → Prop) (R : Fl × Vars × Sto → Prop)
    (step : ∀ n env S, I n env S → Ow (c env S) fun x => if x.1 = true then Ow (b env x.2) fun y => match y.1 with
      | .nx => ∃ m, m < n ∧ I m y.2.1 y.2.2
      | .ct => ∃ m, m < n ∧ I m y.2.1 y.2.2
      | .bk => R (.nx, y.2)
      | .rt d => R (.rt d, y.2) else R (.nx, env, x.2)) :
    ∀ (n : Nat) (env : Vars) (S : Sto), I n env S → Ow (sWhile c b env S) R := by
  intro n
  induction n using Nat.strongRecOn with
  | _ n ih =>
    intro env S h
    rw [sWhile_eq]
    obtain ⟨⟨t, S1⟩, e1, e2⟩ := step n env S h
    rw [e1]
    cases t with
    | false => simpa using e2
    | true =>
      simp only [if_true] at e2
      obtain ⟨⟨fl, env2, S2⟩, e3, e4⟩ := e2
      simp only [e3]
      cases fl with
      | nx => obtain ⟨m, hm, hi⟩ := e4; exact ih m hm env2 S2 hi
      | ct => obtain ⟨m, hm, hi⟩ := e4; exact ih m hm env2 S2 hi
      | bk => simpa using e4
      | rt d => simpa using e4
end DL
/-! DLr: the laws' own drawing. -/
namespace DL
open PySem L2

noncomputable def startB : SM := (sRet (mDisp [((mC (.str "cells")), (mLc (iSeq (mVar 0)) [1] (.nm 1) bYes (mL absP (lCons (mL toIntP (lCons (mVar 1) lNil)) lNil)))), ((mC (.str "at")), (mC (.int 0))), ((mC (.str "left")), (mC (.int 0))), ((mC (.str "mix")), (m2 addP (mC (.int 7)) (mL lenP (lCons (mVar 0) lNil))))]))
noncomputable def drawB : SM := (sSeq (sIf (bAnd (bV (m2 eqP (m2 ixQ (mVar 0) (mC (.str "left"))) (mC (.int 0)))) (bV (m2 ltP (m2 ixQ (mVar 0) (mC (.str "at"))) (mL lenP (lCons (m2 ixQ (mVar 0) (mC (.str "cells"))) lNil))))) (sSeq (sAsg (m2 ixQ (m2 ixQ (mVar 0) (mC (.str "cells"))) (m2 ixQ (mVar 0) (mC (.str "at")))) (gVar 2)) (sSeq (sAsg (m2 addP (m2 ixQ (mVar 0) (mC (.str "at"))) (mC (.int 1))) (gSubM (mVar 0) (mC (.str "at")))) (sSeq (sAsg (m2 modP (mL toIntP (lCons (m2 addP (m2 addP (m2 mulP (m2 ixQ (mVar 0) (mC (.str "mix"))) (mC (.int 48271))) (mVar 2)) (mC (.int 11))) lNil)) (mC (.int 2147483647))) (gSubM (mVar 0) (mC (.str "mix")))) (sSeq (sIf (bV (m2 ltP (mVar 2) (m2 powP (mC (.int 10)) (mC (.int 18))))) (sRet (m2 modP (mL toIntP (lCons (mVar 2) lNil)) (mVar 1))) sNext) (sAsg (mVar 2) (gSubM (mVar 0) (mC (.str "left")))))))) sNext) (sSeq (sIf (bV (m2 gtP (m2 ixQ (mVar 0) (mC (.str "left"))) (mC (.int 0)))) (sSeq (sAsg (m2 modP (mL toIntP (lCons (m2 ixQ (mVar 0) (mC (.str "left"))) lNil)) (mVar 1)) (gVar 3)) (sSeq (sAsg (m2 divP (m2 ixQ (mVar 0) (mC (.str "left"))) (mVar 1)) (gSubM (mVar 0) (mC (.str "left")))) (sRet (mVar 3)))) sNext) (sSeq (sAsg (m2 modP (mL toIntP (lCons (m2 addP (m2 mulP (m2 ixQ (mVar 0) (mC (.str "mix"))) (mC (.int 48271))) (mC (.int 11))) lNil)) (mC (.int 2147483647))) (gSubM (mVar 0) (mC (.str "mix")))) (sRet (m2 modP (mL toIntP (lCons (m2 modP (mL toIntP (lCons (m2 addP (m2 mulP (m2 ixQ (mVar 0) (mC (.str "mix"))) (mC (.int 69621))) (mC (.int 5))) lNil)) (mC (.int 2147483629))) lNil)) (mVar 1))))))
noncomputable def pickB (dr : FM) : SM := (sRet (m2 ixQ (mVar 1) (mL dr (lCons (mVar 0) (lCons (mL lenP (lCons (mVar 1) lNil)) lNil)))))
noncomputable def isB : SM := (sRet (mAnd (m1 (isiP "bool") (mVar 0)) (m2 eqP (mVar 0) (mVar 1))))
/-! ### primitives -/
section
variable {S : Sto} {i j : Int} {x y : Str} {ds es : List D} {d : D} {kvs : List (D × D)} {n : Nat}
theorem beq_dec {i j : Int} : (i == j) = decide (i = j) := by rw [Bool.eq_iff_iff]; simp
@[simp] theorem add_ii : addP (.int i) (.int j) S = some (.int (i + j), S) := rfl
@[simp] theorem add_tt : addP (.tup ds) (.tup es) S = if ds.length + es.length ≤ sizeLine then some (.tup (ds ++ es), S) else none := rfl
@[simp] theorem int_ii {f : Int → Int → Int} : intP f (.int i) (.int j) S = some (.int (f i j), S) := rfl
@[simp] theorem neg_i : negP (.int i) S = some (.int (-i), S) := rfl
theorem mul_ii (h : small i = true ∨ small j = true) : mulP (.int i) (.int j) S = some (.int (i * j), S) := by simp [mulP, h]
theorem mod_ii (h : 0 < j) : modP (.int i) (.int j) S = some (.int (i % j), S) := by simp [modP, h]
theorem div_ii (h : 0 < j) (h2 : j < 1073741824) : divP (.int i) (.int j) S = some (.int (i / j), S) := by simp [divP, h, h2]
@[simp] theorem lt_ii : ltP (.int i) (.int j) S = some (.bl (decide (i < j)), S) := by simp [ltP, ltD, D.pure, D.py, SeqAt.shaped, PyData.canLay0, PyData.depth]
@[simp] theorem gt_ii : gtP (.int i) (.int j) S = some (.bl (decide (j < i)), S) := rfl
@[simp] theorem ge_ii : geP (.int i) (.int j) S = some (.bl (decide (j ≤ i)), S) := rfl
@[simp] theorem le_ii : leP (.int i) (.int j) S = some (.bl (decide (i ≤ j)), S) := rfl
@[simp] theorem eq_ii : eqP (.int i) (.int j) S = some (.bl (decide (i = j)), S) := by simp [eqP, pyOf, D.pure, D.py, SeqAt.shaped, PyData.canLay0, PyData.depth, PyData.eqv, beq_dec]
@[simp] theorem ne_ii : neP (.int i) (.int j) S = some (.bl (!decide (i = j)), S) := by simp [neP, pyOf, D.pure, D.py, SeqAt.shaped, PyData.canLay0, PyData.depth, PyData.eqv, beq_dec]
@[simp] theorem toInt_i : toIntP [.int i] S = some (.int i, S) := rfl
@[simp] theorem abs_i : absP [.int i] S = some (.int (if i < 0 then -i else i), S) := rfl
@[simp] theorem len_tup : lenP [.tup ds] S = some (.int ds.length, S) := rfl
@[simp] theorem min_ii : min2P [.int i, .int j] S = some (.int (if j < i then j else i), S) := rfl
@[simp] theorem max_ii : max2P [.int i, .int j] S = some (.int (if j > i then j else i), S) := rfl
theorem len_loc (h : S[n]? = some (.lst ds)) : lenP [.loc n] S = some (.int ds.length, S) := by simp [lenP, seqD, h]
theorem ix_dct (h : S[n]? = some (.dct kvs)) {k v : D} (h2 : okKey k = true) (h3 : dget kvs k = some v) : ixQ (.loc n) k S = some (v, S) := by simp [ixQ, dctD, h, h2, h3]
theorem ix_lst (h : S[n]? = some (.lst ds)) (h2 : 0 ≤ i) {d : D} (h3 : ds[i.toNat]? = some d) : ixQ (.loc n) (.int i) S = some (d, S) := by
  have hl : i.toNat < ds.length := (List.getElem?_eq_some_iff.mp h3).1
  simp only [ixQ, dctD, h, ixP, seqD, L2.atI, L2.ixN, if_pos h2, if_pos (show i < (ds.length : Int) by omega), Option.bind_some, h3]
theorem ix_tup (h2 : 0 ≤ i) {d : D} (h3 : ds[i.toNat]? = some d) : ixQ (.tup ds) (.int i) S = some (d, S) := by
  have hl : i.toNat < ds.length := (List.getElem?_eq_some_iff.mp h3).1
  simp only [ixQ, dctD, ixP, L2.atI, L2.ixN, if_pos h2, if_pos (show i < (ds.length : Int) by omega), Option.bind_some, h3]
end

section
variable {S : Sto} {i : Int} {b : Bool} {x : Str} {ds : List D}
@[simp] theorem isi_tuple_non : isiP "tuple" .non S = some (.bl false, S) := by
  have e : L2.kitB "NoneType" "tuple" = some false := by decide +kernel
  simp [isiP, tyN, e]
@[simp] theorem isi_tuple_bl : isiP "tuple" (.bl b) S = some (.bl false, S) := by
  have e : L2.kitB "bool" "tuple" = some false := by decide +kernel
  simp [isiP, tyN, e]
@[simp] theorem isi_tuple_int : isiP "tuple" (.int i) S = some (.bl false, S) := by
  have e : L2.kitB "int" "tuple" = some false := by decide +kernel
  simp [isiP, tyN, e]
@[simp] theorem isi_tuple_str : isiP "tuple" (.str x) S = some (.bl false, S) := by
  have e : L2.kitB "str" "tuple" = some false := by decide +kernel
  simp [isiP, tyN, e]
@[simp] theorem isi_tuple_tup : isiP "tuple" (.tup ds) S = some (.bl true, S) := by
  have e : L2.kitB "tuple" "tuple" = some true := by decide +kernel
  simp [isiP, tyN, e]
@[simp] theorem isi_str_non : isiP "str" .non S = some (.bl false, S) := by
  have e : L2.kitB "NoneType" "str" = some false := by decide +kernel
  simp [isiP, tyN, e]
@[simp] theorem isi_str_bl : isiP "str" (.bl b) S = some (.bl false, S) := by
  have e : L2.kitB "bool" "str" = some false := by decide +kernel
  simp [isiP, tyN, e]
@[simp] theorem isi_str_int : isiP "str" (.int i) S = some (.bl false, S) := by
  have e : L2.kitB "int" "str" = some false := by decide +kernel
  simp [isiP, tyN, e]
@[simp] theorem isi_str_str : isiP "str" (.str x) S = some (.bl true, S) := by
  have e : L2.kitB "str" "str" = some true := by decide +kernel
  simp [isiP, tyN, e]
@[simp] theorem isi_str_tup : isiP "str" (.tup ds) S = some (.bl false, S) := by
  have e : L2.kitB "tuple" "str" = some false := by decide +kernel
  simp [isiP, tyN, e]
@[simp] theorem isi_int_non : isiP "int" .non S = some (.bl false, S) := by
  have e : L2.kitB "NoneType" "int" = some false := by decide +kernel
  simp [isiP, tyN, e]
@[simp] theorem isi_int_bl : isiP "int" (.bl b) S = some (.bl true, S) := by
  have e : L2.kitB "bool" "int" = some true := by decide +kernel
  simp [isiP, tyN, e]
@[simp] theorem isi_int_int : isiP "int" (.int i) S = some (.bl true, S) := by
  have e : L2.kitB "int" "int" = some true := by decide +kernel
  simp [isiP, tyN, e]
@[simp] theorem isi_int_str : isiP "int" (.str x) S = some (.bl false, S) := by
  have e : L2.kitB "str" "int" = some false := by decide +kernel
  simp [isiP, tyN, e]
@[simp] theorem isi_int_tup : isiP "int" (.tup ds) S = some (.bl false, S) := by
  have e : L2.kitB "tuple" "int" = some false := by decide +kernel
  simp [isiP, tyN, e]
@[simp] theorem isi_bool_non : isiP "bool" .non S = some (.bl false, S) := by
  have e : L2.kitB "NoneType" "bool" = some false := by decide +kernel
  simp [isiP, tyN, e]
@[simp] theorem isi_bool_bl : isiP "bool" (.bl b) S = some (.bl true, S) := by
  have e : L2.kitB "bool" "bool" = some true := by decide +kernel
  simp [isiP, tyN, e]
@[simp] theorem isi_bool_int : isiP "bool" (.int i) S = some (.bl false, S) := by
  have e : L2.kitB "int" "bool" = some false := by decide +kernel
  simp [isiP, tyN, e]
@[simp] theorem isi_bool_str : isiP "bool" (.str x) S = some (.bl false, S) := by
  have e : L2.kitB "str" "bool" = some false := by decide +kernel
  simp [isiP, tyN, e]
@[simp] theorem isi_bool_tup : isiP "bool" (.tup ds) S = some (.bl false, S) := by
  have e : L2.kitB "tuple" "bool" = some false := by decide +kernel
  simp [isiP, tyN, e]
@[simp] theorem isi_list_non : isiP "list" .non S = some (.bl false, S) := by
  have e : L2.kitB "NoneType" "list" = some false := by decide +kernel
  simp [isiP, tyN, e]
@[simp] theorem isi_list_bl : isiP "list" (.bl b) S = some (.bl false, S) := by
  have e : L2.kitB "bool" "list" = some false := by decide +kernel
  simp [isiP, tyN, e]
@[simp] theorem isi_list_int : isiP "list" (.int i) S = some (.bl false, S) := by
  have e : L2.kitB "int" "list" = some false := by decide +kernel
  simp [isiP, tyN, e]
@[simp] theorem isi_list_str : isiP "list" (.str x) S = some (.bl false, S) := by
  have e : L2.kitB "str" "list" = some false := by decide +kernel
  simp [isiP, tyN, e]
@[simp] theorem isi_list_tup : isiP "list" (.tup ds) S = some (.bl false, S) := by
  have e : L2.kitB "tuple" "list" = some false := by decide +kernel
  simp [isiP, tyN, e]
@[simp] theorem tru_bl : truD S (.bl b) = some b := rfl
@[simp] theorem tru_int : truD S (.int i) = some (i != 0) := rfl
@[simp] theorem tru_tup : truD S (.tup ds) = some (!ds.isEmpty) := rfl
@[simp] theorem tru_non : truD S .non = some false := rfl
@[simp] theorem in_non : D.isNon .non = true := rfl
@[simp] theorem in_bl : D.isNon (.bl b) = false := rfl
@[simp] theorem in_int : D.isNon (.int i) = false := rfl
@[simp] theorem in_str : D.isNon (.str x) = false := rfl
@[simp] theorem in_tup : D.isNon (.tup ds) = false := rfl
@[simp] theorem in_loc {n : Nat} : D.isNon (.loc n) = false := rfl
end
theorem fits {n : Nat} (h : n ≤ 1000) : n ≤ sizeLine := Nat.le_trans h (by decide)
theorem fits_lt {n : Nat} (h : n ≤ 1000) : n < sizeLine := Nat.lt_of_le_of_lt h (by decide)
theorem lst_ok {ds : List D} {S : Sto} (h : ds.length ≤ 1000) : lstP ds S = some (.loc S.length, S ++ [.lst ds]) := if_pos (fits h)
theorem tup_ok {ds : List D} {S : Sto} (h : ds.length ≤ 1000) : tupP ds S = some (.tup ds, S) := if_pos (fits h)

/-! ### the state -/
def stK (c : D) (a l m : Int) : List (D × D) := [(.str "cells", c), (.str "at", .int a), (.str "left", .int l), (.str "mix", .int m)]
def mkS (cells : List Int) (a l m : Int) (T : Sto) : Sto := .lst (cells.map D.int) :: .dct (stK (.loc 0) a l m) :: T
/-- the law's state lies at 1, its cells at 0; behind them T -/
def DSt (T : Sto) (S : Sto) : Prop := ∃ cells a l m, 0 ≤ a ∧ S = mkS cells a l m T
theorem okStr {x : Str} : okKey (.str x) = true := by simp [okKey, D.pure, D.depth]
theorem g_cells {c : D} {a l m : Int} : dget (stK c a l m) (.str "cells") = some c := by rfl
theorem g_at {c : D} {a l m : Int} : dget (stK c a l m) (.str "at") = some (.int a) := by rfl
theorem g_left {c : D} {a l m : Int} : dget (stK c a l m) (.str "left") = some (.int l) := by rfl
theorem g_mix {c : D} {a l m : Int} : dget (stK c a l m) (.str "mix") = some (.int m) := by rfl
theorem p_at {c : D} {a l m v : Int} : dput (stK c a l m) (.str "at") (.int v) = stK c v l m := by rfl
theorem p_left {c : D} {a l m v : Int} : dput (stK c a l m) (.str "left") (.int v) = stK c a v m := by rfl
theorem p_mix {c : D} {a l m v : Int} : dput (stK c a l m) (.str "mix") (.int v) = stK c a l v := by rfl
section
variable {cells : List Int} {a l m v i : Int} {T : Sto}
@[simp] theorem s_cells : ixQ (.loc 1) (.str "cells") (mkS cells a l m T) = some (.loc 0, mkS cells a l m T) := ix_dct rfl okStr g_cells
@[simp] theorem s_at : ixQ (.loc 1) (.str "at") (mkS cells a l m T) = some (.int a, mkS cells a l m T) := ix_dct rfl okStr g_at
@[simp] theorem s_left : ixQ (.loc 1) (.str "left") (mkS cells a l m T) = some (.int l, mkS cells a l m T) := ix_dct rfl okStr g_left
@[simp] theorem s_mix : ixQ (.loc 1) (.str "mix") (mkS cells a l m T) = some (.int m, mkS cells a l m T) := ix_dct rfl okStr g_mix
@[simp] theorem s_len : lenP [.loc 0] (mkS cells a l m T) = some (.int cells.length, mkS cells a l m T) := by rw [len_loc (ds := cells.map D.int) rfl]; simp
theorem set_st {k : D} {kvs : List (D × D)} (h : dput (stK (.loc 0) a l m) k (.int v) = kvs) (hk : okKey k = true) : setP (.loc 1) k (.int v) (mkS cells a l m T) = some (.lst (cells.map D.int) :: .dct kvs :: T) := by
  have e : dctD (mkS cells a l m T) (.loc 1) = some (stK (.loc 0) a l m) := rfl
  simp only [setP, e, hk, h, true_and]
  rw [if_pos (show (stK (.loc 0) a l m).length < sizeLine by show 4 < 2 ^ 24; decide)]
  rfl
@[simp] theorem st_at : setP (.loc 1) (.str "at") (.int v) (mkS cells a l m T) = some (mkS cells v l m T) := set_st p_at okStr
@[simp] theorem st_left : setP (.loc 1) (.str "left") (.int v) (mkS cells a l m T) = some (mkS cells a v m T) := set_st p_left okStr
@[simp] theorem st_mix : setP (.loc 1) (.str "mix") (.int v) (mkS cells a l m T) = some (mkS cells a l v T) := set_st p_mix okStr
theorem s_cell (h0 : 0 ≤ i) (h1 : i < cells.length) : ∃ c, ixQ (.loc 0) (.int i) (mkS cells a l m T) = some (.int c, mkS cells a l m T) := by
  have hl : i.toNat < cells.length := by omega
  exact ⟨cells[i.toNat], ix_lst (ds := cells.map D.int) rfl h0 (by simp [List.getElem?_eq_getElem hl])⟩
end
theorem pow18 {S : Sto} : powP (.int 10) (.int 18) S = some (.int (10 ^ 18), S) := by rfl
/-- a draw: a number below the bound -/
theorem draw_ok {T S : Sto} {b : Int} (h : DSt T S) (h0 : 0 < b) (h1 : b < 1073741824) : Ow (runB 4 drawB [.loc 1, .int b] S) fun x => ∃ i, x.1 = .int i ∧ 0 ≤ i ∧ i < b ∧ DSt T x.2 := by
  obtain ⟨cells, a, l, m, ha, rfl⟩ := h
  have k1 : small 48271 = true := by decide
  have k2 : small 69621 = true := by decide
  have k3 : ∀ x : Int, 0 ≤ x % b := fun x => Int.emod_nonneg _ (by omega)
  have k4 : ∀ x : Int, x % b < b := fun x => Int.emod_lt_of_pos _ h0
  have k5 : ∀ {a l m : Int}, 0 ≤ a → DSt T (mkS cells a l m T) := fun {a l m} ha => ⟨cells, a, l, m, ha, rfl⟩
  rw [ow_runB]
  unfold drawB
  simp [mul_ii, k1, k2, mod_ii, h0, div_ii, h1, pow18, k3, k4, k5 ha]
  intro hl hc
  obtain ⟨c, hcell⟩ := s_cell (l := l) (m := m) (T := T) ha hc
  subst hl
  rw [hcell]
  simp [mul_ii, k1, k2, mod_ii, h0, div_ii, h1, pow18, k3, k4, k5 (show (0 : Int) ≤ a + 1 by omega)]
theorem DSt.at {T S : Sto} (h : DSt T S) (k : Nat) : S[k + 2]? = T[k]? := by
  obtain ⟨cells, a, l, m, _, rfl⟩ := h
  simp [mkS]
theorem DSt.len {T S : Sto} (h : DSt T S) : S.length = T.length + 2 := by
  obtain ⟨cells, a, l, m, _, rfl⟩ := h
  simp [mkS]
theorem DSt.app {T S : Sto} (h : DSt T S) (U : Sto) : DSt (T ++ U) (S ++ U) := by
  obtain ⟨cells, a, l, m, ha, rfl⟩ := h
  exact ⟨cells, a, l, m, ha, by simp [mkS]⟩
theorem DSt.set {T S : Sto} (h : DSt T S) (k : Nat) (o : Ob) : DSt (T.set k o) (S.set (k + 2) o) := by
  obtain ⟨cells, a, l, m, ha, rfl⟩ := h
  exact ⟨cells, a, l, m, ha, by simp [mkS]⟩
/-- the laws' state made -/
theorem start_ok {ns : List Int} (h : ns.length ≤ 63) : Ow (runB 2 startB [.scr ns] []) fun x => x.1 = .loc 1 ∧ DSt [] x.2 := by
  rw [ow_runB]
  unfold startB
  simp [ow_lc, seqD]
  refine (lcL_inv (ns.map D.int) (fun j acc S => S = [] ∧ ∃ cs : List Int, acc = cs.map D.int ∧ cs.length = j) (fun j acc S _ => by simp [itAt, seqD]) (fun j d acc S hd hI => ?_) ns.length 0 [] [] (by simp) (by simp) ⟨rfl, [], rfl, rfl⟩).imp ?_
  · obtain ⟨rfl, cs, rfl, hcs⟩ := hI
    have hj : j < ns.length := by
      have := (List.getElem?_eq_some_iff.mp hd).1
      simpa using this
    obtain ⟨c, rfl⟩ : ∃ c, d = .int c := by
      rw [List.getElem?_map] at hd
      cases e : ns[j]? with
      | none => rw [e] at hd; cases hd
      | some c => rw [e] at hd; exact ⟨c, by simpa using hd.symm⟩
    refine ⟨_, rfl, ?_⟩
    simp [bYes, wipeD]
    refine ⟨?_, cs ++ [if c < 0 then -c else c], by simp, by simp [hcs]⟩
    show cs.length < 2 ^ 24
    omega
  · rintro ⟨ds, S1⟩ ⟨hS, cs, hd, hl⟩
    simp only at hS hd
    subst hS hd
    simp [lenP]
    refine ⟨?_, cs, 0, 0, 7 + ns.length, by simp, rfl⟩
    rintro a b (⟨rfl, _⟩ | ⟨rfl, _⟩ | ⟨rfl, _⟩ | ⟨rfl, _⟩) <;> exact okStr
/-- what a draw gives -/
def DrawOk (dr : FM) : Prop := ∀ (T S : Sto) (b : Int), DSt T S → 0 < b → b < 1073741824 → Ow (dr [.loc 1, .int b] S) fun x => ∃ i, x.1 = .int i ∧ 0 ≤ i ∧ i < b ∧ DSt T x.2
theorem drawOk : DrawOk (runB 4 drawB) := fun _ _ _ h h0 h1 => draw_ok h h0 h1
/-- one of the things -/
theorem pick_loc {dr : FM} (hd : DrawOk dr) {T S : Sto} {k : Nat} {ds : List D} (h : DSt T S) (hk : T[k]? = some (.lst ds)) (h0 : ds ≠ []) (h1 : ds.length < 1073741824) : Ow (runB 2 (pickB dr) [.loc 1, .loc (k + 2)] S) fun x => x.1 ∈ ds ∧ DSt T x.2 := by
  rw [ow_runB]
  unfold pickB
  simp [len_loc ((h.at k).trans hk)]
  have hp : 0 < ds.length := List.length_pos_iff.mpr h0
  refine (hd T S ds.length h (by omega) (by omega)).imp ?_
  rintro ⟨d, S1⟩ ⟨i, hi, i0, i1, h2⟩
  simp only at hi h2
  subst hi
  have hl : i.toNat < ds.length := by omega
  simp [ix_lst ((h2.at k).trans hk) i0 (List.getElem?_eq_getElem hl), h2]
theorem pick_tup {dr : FM} (hd : DrawOk dr) {T S : Sto} {ds : List D} (h : DSt T S) (h0 : ds ≠ []) (h1 : ds.length < 1073741824) : Ow (runB 2 (pickB dr) [.loc 1, .tup ds] S) fun x => x.1 ∈ ds ∧ DSt T x.2 := by
  rw [ow_runB]
  unfold pickB
  simp
  have hp : 0 < ds.length := List.length_pos_iff.mpr h0
  refine (hd T S ds.length h (by omega) (by omega)).imp ?_
  rintro ⟨d, S1⟩ ⟨i, hi, i0, i1, h2⟩
  simp only at hi h2
  subst hi
  have hl : i.toNat < ds.length := by omega
  simp [ix_tup i0 (List.getElem?_eq_getElem hl), h2]
end DL
/-! DLs: instances: attributes, methods, making. -/
namespace DL
open PySem PySem.Spec L2
open PyProof.Rows hiding St

/-! ### attributes -/
def putD (f : Str) (v : D) : List (Str × D) → List (Str × D)
  | [] => [(f, v)]
  | (g, x) :: r => if g = f then (g, v) :: r else (g, x) :: putD f v r
theorem flds_look {K r H} {f : Str} : ∀ {fs : List (Str × D)} {vs : List (Str × V)} {d : D}, FldsV K r H fs vs → fs.lookup f = some d → ∃ v, vs.lookup f = some v ∧ DV K r H d v
  | [], _, _, .nil, h => by cases h
  | (g, x) :: fs, _, d, .cons (b := q) h t, hl => by
    obtain ⟨g', v⟩ := q
    obtain ⟨e, qv⟩ := h
    simp only at e qv
    subst e
    simp only [List.lookup] at hl ⊢
    split at hl
    · cases hl
      exact ⟨v, rfl, qv⟩
    · exact flds_look t hl
theorem flds_none {K r H} {f : Str} : ∀ {fs : List (Str × D)} {vs : List (Str × V)}, FldsV K r H fs vs → fs.lookup f = none → vs.lookup f = none
  | [], _, .nil, _ => rfl
  | (g, x) :: fs, _, .cons (b := q) h t, hl => by
    obtain ⟨g', v⟩ := q
    obtain ⟨e, qv⟩ := h
    simp only at e qv
    subst e
    simp only [List.lookup] at hl ⊢
    split at hl
    · cases hl
    · exact flds_none t hl
theorem flds_len {K r H} : ∀ {fs : List (Str × D)} {vs : List (Str × V)}, FldsV K r H fs vs → vs.length = fs.length
  | _, _, .nil => rfl
  | _, _, .cons _ t => by simp [flds_len t]
theorem flds_put {K r H} {f : Str} {d : D} {v : V} (q : DV K r H d v) : ∀ {fs : List (Str × D)} {vs : List (Str × V)}, FldsV K r H fs vs → FldsV K r H (putD f d fs) (putF f v vs)
  | [], _, .nil => .cons ⟨rfl, q⟩ .nil
  | (g, x) :: fs, _, .cons (b := p) h t => by
    obtain ⟨g', w⟩ := p
    obtain ⟨e, qv⟩ := h
    simp only at e qv
    subst e
    simp only [putD, putF]
    by_cases hg : g = f
    · rw [if_pos hg, if_pos hg]
      exact .cons ⟨rfl, q⟩ t
    · rw [if_neg hg, if_neg hg]
      exact .cons ⟨rfl, qv⟩ (flds_put q t)
/-- which classes have an attribute of this name -/
def fldP (cs : List Nat) (f : Str) : D → Sto → Option (D × Sto)
  | .loc n, S => match S[n]? with
    | some (.ins c fs) => if c ∈ cs then (match fs.lookup f with
      | some d => some (d, S)
      | none => none) else none
    | _ => none
  | _, _ => none
def mFld (cs : List Nat) (f : Str) (a : EM) : EM := m1 (fldP cs f) a
/-- o.f = v : the value first -/
def sFldD (cs : List Nat) (f : Str) (mv mo : EM) : SM := fun env S => match mv env S with
  | some (y, S1) => match mo env S1 with
    | some (.loc n, S2) => match S2[n]? with
      | some (.ins c fs) => if c ∈ cs ∧ fs.length < 1000 then some (.nx, env, S2.set n (.ins c (putD f y fs))) else none
      | _ => none
    | _ => none
  | none => none
/-- o.m(..) : the class says which -/
def mMeth (m : Str) (cands : List (Nat × Nat)) (cl : Nat → FM) (mo : EM) (la : LM) : EM := fun env S => match mo env S with
  | some (.loc n, S1) => match S1[n]? with
    | some (.ins c fs) => match fs.lookup m, cands.lookup c with
      | none, some g => match la env S1 with
        | some (xs, S2) => cl g (.loc n :: xs) S2
        | none => none
      | _, _ => none
    | _ => none
  | _ => none
/-- C(..) : a new instance, then its __init__ -/
def mMake (c : Nat) (m : FM) (la : LM) : EM := fun env S => match la env S with
  | some (xs, S1) => match m (.loc S1.length :: xs) (S1 ++ [.ins c []]) with
    | some (.non, S2) => some (.loc S1.length, S2)
    | _ => none
  | none => none
section
variable {X : Cx} {ca : Nat → Addr} {e o value : Expr} {es : List Expr} {ma mv mo : EM} {la : LM} {f m : Str} {cs : List Nat} {pos pos' apos p : Pos}
/-- what is known of the classes that have the attribute -/
def FldOk (K : PySem.W.Frag) (ca : Nat → Addr) (cs : List Nat) (f : Str) : Prop := ∀ c ∈ cs, Cls K (ca c) ∧ NoAttr K (ca c) f
theorem de_fld (hc : FldOk X.K ca cs f) (h : PE X e (liftE (gx X ca) ma)) (hb : attributeBase e f X.env (eval e X.env) = eval e X.env := by rfl) : PE X (.Attribute e f pos) (liftE (gx X ca) (mFld cs f ma)) :=
  wkE (pe_fld h hb) fun σ H Q hh => lift1 (t := fun x H1 Q => ∃ a C dx fs v, x = .ref a ∧ H1 a = some (.ins C dx fs) ∧ Cls X.K C ∧ NoAttr X.K C f ∧ fs.lookup f = some v ∧ Q v H1) (fun r S H x v d S' Q R hv e k => by
    unfold fldP at e
    split at e
    · split at e
      · rename_i c fs e1
        split at e
        · rename_i hm
          split at e
          · rename_i d' hl
            cases e
            obtain ⟨a, ea, rfl⟩ := dv_loc hv
            obtain ⟨dx, vs, h1, q1⟩ := R.at_ _ _ _ e1 ea
            obtain ⟨v', l', q'⟩ := flds_look q1 hl
            exact ⟨a, _, dx, vs, v', rfl, h1, (hc c hm).1, (hc c hm).2, l', k r H _ Ext.refl R q'⟩
          · cases e
        · cases e
      · cases e
    · cases e) hh
theorem ds_fld (hc : FldOk X.K ca cs f) (hv : PE X value (liftE (gx X ca) mv)) (ho : PE X o (liftE (gx X ca) mo)) (hs : swapsWith value (some (.Attribute o f pos')) pos.line X.env = pure false := by rfl) : PS X (.Assign [.Attribute o f pos'] value pos) (liftS (gx X ca) (sFldD cs f mv mo)) :=
  wkS (ps_fld ho hv hs) fun E σ H ⟨r, env, S, fl, env', S', R, W, h, k⟩ => by
    unfold sFldD at h
    split at h
    · rename_i y S1 e1
      refine ⟨r, env, S, y, S1, R, W, e1, fun r1 H1 v x1 R1 q1 => ?_⟩
      split at h
      · rename_i n S2 e2
        refine ⟨r1, env, S1, _, S2, R1, W.ext x1, e2, fun r2 H2 u x2 R2 q2 => ?_⟩
        split at h
        · rename_i c fs e3
          split at h
          · rename_i hm
            cases h
            obtain ⟨a, ea, rfl⟩ := dv_loc q2
            obtain ⟨dx, vs, h1, q3⟩ := R2.at_ _ _ _ e3 ea
            obtain ⟨x3, R3⟩ := R2.wr (o' := .ins c (putD f y fs)) (u := .ins (ca c) dx (putF f v vs)) e3 ea fun x => ⟨dx, _, upd_same, flds_put (DV.ext (x2.trans x) _ _ q1) (q3.ext x.w)⟩
            exact ⟨a, _, dx, vs, rfl, h1, (hc c hm.1).1, (hc c hm.1).2, by rw [flds_len q3]; exact hm.2, k _ σ _ (x1.trans (x2.trans x3)) R3 (W.ext (x1.trans (x2.trans x3)))⟩
          · cases h
        · cases h
      · cases h
    · cases h
/-- what is known of the methods of a name -/
structure MethOk (K : PySem.W.Frag) (ca : Nat → Addr) (a : Nat → Addr) (fd : Nat → FuncData) (psN : Nat → List Str) (m : Str) (n : Nat) (p : Nat × Nat) : Prop where
  c : Cls K (ca p.1)
  m : Meth K (ca p.1) m (a p.2)
  b : Binds K (fd p.2) (psN p.2) []
  l : (psN p.2).length = n + 1
theorem look_mem {l : List (Nat × Nat)} {c g : Nat} (h : l.lookup c = some g) : (c, g) ∈ l := by
  induction l with
  | nil => cases h
  | cons p l ih =>
    obtain ⟨a, b⟩ := p
    simp only [List.lookup] at h
    split at h
    · rename_i e
      cases h
      rw [beq_iff_eq] at e
      rw [e]
      exact List.mem_cons_self
    · exact List.mem_cons_of_mem _ (ih h)
section
variable {k n : Nat} {a : Nat → Addr} {fd : Nat → FuncData} {psN : Nat → List Str} {cl : Nat → FM} {cands : List (Nat × Nat)} {pl : Sem Bool}
/-- the looked-up method runs -/
theorem meth_run {pins : List (Addr × Obj)} {σ : L2.St} {s : Shared} {H : Hp} {Q : VK} {us : List Value} {vs : List V} {x : Addr} {c g nn : Nat} {r : List Addr} {S S' : Sto} {xs : List D} {d : D}
    (F : ∀ g, FnOk X.prog X.w X.K X.mg X.base CX0 k (a g) (fd g) (psN g) (spD (gx X ca) (psN g).length (cl g))) (hr : Room k X.A) (M : MethOk X.K ca a fd psN m n (c, g)) (I : Inv X pins σ H s) (R : RepS (gx X ca) r S H) (qo : DV X.K r H (.loc nn) (.ref x)) (qx : DVs X.K r H xs vs) (rv : Vals vs us) (hl : xs.length = n)
    (hm : cl g (.loc nn :: xs) S = some (d, S')) (hq : ∀ r' H' w, Ext X.K r H r' H' → RepS (gx X ca) r' S' H' → DV X.K r' H' d w → Q w H') : wpAny (model X.prog X.w) X.A (call (.ref (a g)) (.ref x :: us)) (EP X pins σ Q) X.xe s := by
  have sp : spD (gx X ca) (psN g).length (cl g) (V.ref x :: vs ++ []) H Q E0 := ⟨r, S, .loc nn :: xs, d, S', R, by rw [List.append_nil]; exact DVs.cons qo qx, by rw [M.l, List.length_cons, hl], hm, hq⟩
  exact run_fn (us := .ref x :: us) (vs := V.ref x :: vs) (F g) hr M.b .nil pass0 I (.cons rfl rv) sp
theorem de_meth (hc : ∀ p ∈ cands, MethOk X.K ca a fd psN m n p) (F : ∀ g, FnOk X.prog X.w X.K X.mg X.base CX0 k (a g) (fd g) (psN g) (spD (gx X ca) (psN g).length (cl g))) (hr : Room k X.A) (ho : PE X o (liftE (gx X ca) mo)) (hl : Len la n) (ha : PA X (e :: es) (liftL (gx X ca) la))
    (hst : starEach (e :: es) X.env = (false, eval e X.env) :: starEach es X.env := by rfl) (hpl : (backTo pos (starEach es X.env)).any (·.1) = false := by rfl)
    (ht : eval (.Call (.Attribute o m apos) (e :: es) [] pos) X.env = (do let ov ← eval o X.env
                                                                          standAt apos.atName
                                                                          let (f, first) ← holding [ov] (getMethod ov m pl)
                                                                          callWith pos f first (backTo pos (starEach (e :: es) X.env)) (backToKw pos (keywordEach [] X.env))) := by rfl) :
    PE X (.Call (.Attribute o m apos) (e :: es) [] pos) (liftE (gx X ca) (mMeth m cands cl mo la)) := by
  refine ⟨fun pins s σ H Q I ⟨r, env, S, d, S', R, W, h, k⟩ => ?_⟩
  unfold mMeth at h
  split at h
  · rename_i nn S1 e1
    refine PySem.W.methodCall_KW (pl := pl) (thn (ho.run pins s σ H (fun v H1 => ∃ r1, Ext X.K r H r1 H1 ∧ RepS (gx X ca) r1 S1 H1 ∧ DV X.K r1 H1 (.loc nn) v) I ⟨r, env, S, _, S1, R, W, e1, fun r1 H1 v x1 R1 q1 => ⟨r1, x1, R1, q1⟩⟩) fun u s1 ⟨v, H1, I1, rv, r1, x1, R1, q1⟩ => ?_) ht
    obtain ⟨x, ea, rfl⟩ := dv_loc q1
    obtain rfl : u = Value.ref x := rv
    split at h
    · rename_i c fs e2
      split at h
      · rename_i g hn hg
        have M := hc _ (look_mem hg)
        obtain ⟨dx, ws, h1, q2⟩ := R1.at_ _ _ _ e2 ea
        refine getmeth_ok I1 h1 M.c M.m (flds_none q2 hn) ?_
        split at h
        · rename_i xs S2 e3
          refine PySem.W.callWith_K (first := [.ref x]) (h₀ := X.base) I.ok.mod.kin M.m.kp (thn (ha.run pos pins s1 σ H1 (fun vs H2 => ∃ r2, Ext X.K r1 H1 r2 H2 ∧ RepS (gx X ca) r2 S2 H2 ∧ DVs X.K r2 H2 xs vs) I1 ⟨r1, env, S1, xs, S2, R1, W.ext x1, e3, fun r2 H2 vs x2 R2 q3 => ⟨r2, x2, R2, q3⟩⟩) fun us s2 ⟨vs, H2, I2, rvs, r2, x2, R2, q3⟩ => ⟨I2.kIn, ?_⟩) hst hpl
          exact meth_run F hr M I2 R2 (DV.ext x2 _ _ q1) q3 rvs (hl.ok _ _ _ _ e3) h fun r' H' w x3 R3 q4 => k r' H' w (x1.trans (x2.trans x3)) R3 q4
        · cases h
      · cases h
    · cases h
  · cases h
theorem de_meth0 (hc : ∀ p ∈ cands, MethOk X.K ca a fd psN m 0 p) (F : ∀ g, FnOk X.prog X.w X.K X.mg X.base CX0 k (a g) (fd g) (psN g) (spD (gx X ca) (psN g).length (cl g))) (hr : Room k X.A) (ho : PE X o (liftE (gx X ca) mo))
    (ht : eval (.Call (.Attribute o m apos) [] [] pos) X.env = (do let ov ← eval o X.env
                                                                   standAt apos.atName
                                                                   let (f, first) ← holding [ov] (getMethod ov m pl)
                                                                   callWith pos f first (backTo pos (starEach [] X.env)) (backToKw pos (keywordEach [] X.env))) := by rfl) :
    PE X (.Call (.Attribute o m apos) [] [] pos) (liftE (gx X ca) (mMeth m cands cl mo lNil)) := by
  refine ⟨fun pins s σ H Q I ⟨r, env, S, d, S', R, W, h, k⟩ => ?_⟩
  unfold mMeth at h
  split at h
  · rename_i nn S1 e1
    refine PySem.W.methodCall_KW (pl := pl) (thn (ho.run pins s σ H (fun v H1 => ∃ r1, Ext X.K r H r1 H1 ∧ RepS (gx X ca) r1 S1 H1 ∧ DV X.K r1 H1 (.loc nn) v) I ⟨r, env, S, _, S1, R, W, e1, fun r1 H1 v x1 R1 q1 => ⟨r1, x1, R1, q1⟩⟩) fun u s1 ⟨v, H1, I1, rv, r1, x1, R1, q1⟩ => ?_) ht
    obtain ⟨x, ea, rfl⟩ := dv_loc q1
    obtain rfl : u = Value.ref x := rv
    split at h
    · rename_i c fs e2
      split at h
      · rename_i g hn hg
        have M := hc _ (look_mem hg)
        obtain ⟨dx, ws, h1, q2⟩ := R1.at_ _ _ _ e2 ea
        refine getmeth_ok I1 h1 M.c M.m (flds_none q2 hn) ?_
        exact PySem.W.callWith_K0 (first := [.ref x]) I1.kIn M.m.kp (meth_run (us := []) F hr M I1 R1 q1 DVs.nil .nil rfl h fun r' H' w x3 R3 q4 => k r' H' w (x1.trans x3) R3 q4)
      · cases h
    · cases h
  · cases h
/-! making -/
theorem de_make {c : Nat} {g : Addr} {fdi : FuncData} {ps : List Str} {mi : FM} {x : Str} (M : Mk X.K (ca c) g) (F : FnOk X.prog X.w X.K X.mg X.base CX0 (k - 2) g fdi ps (spD (gx X ca) (n + 1) mi)) (hz : k < 2 → ∀ ds S, mi ds S = none) (hr : Room k X.A) (hb : Binds X.K fdi ps []) (hm : X.mg x = some (.ref (ca c)))
    (hl : Len la n) (ha : PA X (e :: es) (liftL (gx X ca) la)) (hg : Gl X x := by rfl) (hdb : (x == ("__debug__" : Str)) = false := by decide) (he : starEach (e :: es) X.env = (false, eval e X.env) :: starEach es X.env := by rfl) (hpl : (backTo pos (starEach es X.env)).any (·.1) = false := by rfl) :
    PE X (.Call (.Name x p) (e :: es) [] pos) (liftE (gx X ca) (mMake c mi la)) := by
  refine ⟨fun pins s σ H Q I hh => ?_⟩
  have k2 : 2 ≤ k := by
    obtain ⟨r, env, S, d, S', R, W, h, _⟩ := hh
    unfold mMake at h
    split at h
    · rename_i xs S1 e1
      by_cases hk : k < 2
      · rw [hz hk] at h; cases h
      · omega
    · cases h
  refine (pe_make (E := E0) M F (hr.mono (by omega)) hg hm hb .nil pass0 ha hdb he hpl).run pins s σ H Q I ?_
  obtain ⟨r, env, S, d, S', R, W, h, k⟩ := hh
  unfold mMake at h
  split at h
  · rename_i xs S1 e1
    refine ⟨r, env, S, xs, S1, R, W, e1, fun r1 H1 vs x1 R1 q1 => ?_⟩
    intro x dx hx hdx hne
    split at h
    · rename_i S2 e2
      cases h
      obtain ⟨x2, R2⟩ := R1.side (u := .own x) hdx
      have hx2 : upd H1 dx (.own x) x = none := by rw [upd_ne hne.symm]; exact hx
      obtain ⟨x3, R3⟩ := R2.new (u := .ins (ca c) dx []) (o := .ins c []) hx2 fun y => ⟨dx, [], upd_same, .nil⟩
      refine ⟨_, S1 ++ [.ins c []], .loc S1.length :: xs, .non, _, R3, by rw [List.append_nil]; exact DVs.cons R2.newLoc (DVs.ext (x2.trans x3) _ _ q1), by rw [List.length_cons, hl.ok _ _ _ _ e1], e2, fun r' H' v x4 R4 q4 => ?_⟩
      unfold DV at q4
      refine ⟨q4, k r' H' _ (x1.trans (x2.trans (x3.trans x4))) R4 ?_⟩
      exact DV.ext x4 _ _ R2.newLoc
    · cases h
  · cases h
theorem de_make0 {c : Nat} {g : Addr} {fdi : FuncData} {ps : List Str} {mi : FM} {x : Str} (M : Mk X.K (ca c) g) (F : FnOk X.prog X.w X.K X.mg X.base CX0 (k - 2) g fdi ps (spD (gx X ca) 1 mi)) (hz : k < 2 → ∀ ds S, mi ds S = none) (hr : Room k X.A) (hb : Binds X.K fdi ps []) (hm : X.mg x = some (.ref (ca c)))
    (hg : Gl X x := by rfl) (hdb : (x == ("__debug__" : Str)) = false := by decide) : PE X (.Call (.Name x p) [] [] pos) (liftE (gx X ca) (mMake c mi lNil)) := by
  refine ⟨fun pins s σ H Q I hh => ?_⟩
  have k2 : 2 ≤ k := by
    obtain ⟨r, env, S, d, S', R, W, h, _⟩ := hh
    simp only [mMake, lNil] at h
    by_cases hk : k < 2
    · rw [hz hk] at h; cases h
    · omega
  refine (pe_make0 (E := E0) M F (hr.mono (by omega)) hg hm hb .nil pass0 hdb).run pins s σ H Q I ?_
  obtain ⟨r, env, S, d, S', R, W, h, k⟩ := hh
  simp only [mMake, lNil] at h
  show ∀ x dx, H x = none → H dx = none → dx ≠ x → _
  intro x dx hx hdx hne
  split at h
  · rename_i S2 e2
    cases h
    obtain ⟨x2, R2⟩ := R.side (u := .own x) hdx
    have hx2 : upd H dx (.own x) x = none := by rw [upd_ne hne.symm]; exact hx
    obtain ⟨x3, R3⟩ := R2.new (u := .ins (ca c) dx []) (o := .ins c []) hx2 fun y => ⟨dx, [], upd_same, .nil⟩
    refine ⟨_, S ++ [.ins c []], [.loc S.length], .non, _, R3, DVs.cons R2.newLoc DVs.nil, rfl, e2, fun r' H' v x4 R4 q4 => ?_⟩
    unfold DV at q4
    exact ⟨q4, k r' H' _ (x2.trans (x3.trans x4)) R4 (DV.ext x4 _ _ R2.newLoc)⟩
  · cases h
end
end
end DL
/-! DLt: methods of dicts and tuples. -/
namespace DL
open PySem PySem.Spec L2
open PyProof.Rows hiding St

/-! ### a built-in's method, the receiver's type said by the store -/
def mMG (ty : D → Sto → Bool) (p : D → List D → Sto → Option (D × Sto)) (a : EM) (l : LM) : EM := fun env S => match a env S with
  | some (x, S1) => if ty x S1 = true then (match l env S1 with
    | some (xs, S2) => p x xs S2
    | none => none) else none
  | none => none
def TyG (X : Cx) (ca : Nat → Addr) (T : String) (ty : D → Sto → Bool) : Prop := ∀ (pins : List (Addr × Obj)) (σ : L2.St) (H : Hp) (s : Shared) (r : List Addr) (S : Sto) (x : D) (v : V) (u : Value), Inv X pins σ H s → RepS (gx X ca) r S H → DV X.K r H x v → RelV v u → ty x S = true →
  s.TypeIs u T ∧ ∀ a, u = .ref a → ∃ ob, s.heap.get? a = some ob ∧ ob.dict = none
def PrimG (X : Cx) (ca : Nat → Addr) (id : String) (p : D → List D → Sto → Option (D × Sto)) : Prop := ∀ (pins : List (Addr × Obj)) (σ : L2.St) (H : Hp) (s : Shared) (r : List Addr) (S : Sto) (x : D) (v : V) (u : Value) (xs : List D) (vs : List V) (us : List Value) (d : D) (S' : Sto) (Q : VK),
  Inv X pins σ H s → RepS (gx X ca) r S H → DV X.K r H x v → RelV v u → DVs X.K r H xs vs → Vals vs us → p x xs S = some (d, S') → (∀ r' H' w, Ext X.K r H r' H' → RepS (gx X ca) r' S' H' → DV X.K r' H' d w → Q w H') →
  wpAny (model X.prog X.w) X.A (call (.builtin id) (u :: us)) (EP X pins σ Q) X.xe s
section
variable {X : Cx} {ca : Nat → Addr} {o e : Expr} {es : List Expr} {ma : EM} {la : LM} {name : Str} {apos cpos : Pos} {T id : String} {ty : D → Sto → Bool} {q : D → List D → Sto → Option (D × Sto)}
theorem de_bmG (hp : PrimG X ca id q) (ht : TyG X ca T ty) (pa : PlainAttrs T) (slot : Slot T name id) (hty : typeOf (.builtin id) = pure (.type "method_descriptor")) (ho : PE X o (liftE (gx X ca) ma)) (ha : PA X (e :: es) (liftL (gx X ca) la))
    (hbase : attributeBase o name X.env (eval o X.env) = eval o X.env := by rfl)
    (hfew : ((backTo cpos (starEach (e :: es) X.env)).all (fun x => !x.1) && (backToKw cpos (keywordEach [] X.env)).all (fun x => x.1.isSome) && decide ((e :: es).length + ([] : List Keyword).length + (if ([] : List Keyword).isEmpty then 0 else 1) < 30)) = true := by rfl)
    (hline : (apos.endLine == cpos.line) = true := by rfl) (hs : starEach (e :: es) X.env = (false, eval e X.env) :: starEach es X.env := by rfl) (hplain : (backTo cpos (starEach es X.env)).any (·.1) = false := by rfl) :
    PE X (.Call (.Attribute o name apos) (e :: es) [] cpos) (liftE (gx X ca) (mMG ty q ma la)) := by
  refine ⟨fun pins s σ H Q I ⟨r, env, S, d, S', R, W, h, k⟩ => ?_⟩
  unfold mMG at h
  split at h
  · rename_i x S1 e1
    split at h
    · rename_i hx
      split at h
      · rename_i xs S2 e2
        refine wpAny_Call_method_late hbase hfew hline rfl (thn (ho.run pins s σ H (fun v H1 => ∃ r1, Ext X.K r H r1 H1 ∧ RepS (gx X ca) r1 S1 H1 ∧ DV X.K r1 H1 x v) I ⟨r, env, S, x, S1, R, W, e1, fun r1 H1 v x1 R1 q1 => ⟨r1, x1, R1, q1⟩⟩) fun u s1 ⟨v, H1, I1, rv, r1, x1, R1, q1⟩ => ?_)
        obtain ⟨h1, h2⟩ := ht pins σ H1 s1 r1 S1 x v u I1 R1 q1 rv hx
        refine ⟨T, id, pa, slot, hty, h1, h2, ?_⟩
        have hA := ha.run cpos pins s1 σ H1 (fun vs H2 => ∃ r2, Ext X.K r1 H1 r2 H2 ∧ RepS (gx X ca) r2 S2 H2 ∧ DVs X.K r2 H2 xs vs) I1 ⟨r1, env, S1, xs, S2, R1, W.ext x1, e2, fun r2 H2 vs x2 R2 q2 => ⟨r2, x2, R2, q2⟩⟩
        rw [hs] at hA ⊢
        refine Calls.callWith_builtin (by show (false || (backTo cpos (starEach es X.env)).any (·.1)) = false; rw [hplain] <;> rfl) (Calls.evalArgs_plain ?_)
        exact thn hA fun us s2 ⟨vs, H2, I2, rvs, r2, x2, R2, q2⟩ => hp pins σ H2 s2 r2 S2 x v u xs vs us d S' Q I2 R2 (DV.ext x2 _ _ q1) rv q2 rvs h fun r3 H3 w x3 R3 q3 => k r3 H3 w (x1.trans (x2.trans x3)) R3 q3
      · cases h
    · cases h
  · cases h
theorem de_bmG0 (hp : PrimG X ca id q) (ht : TyG X ca T ty) (pa : PlainAttrs T) (slot : Slot T name id) (hty : typeOf (.builtin id) = pure (.type "method_descriptor")) (ho : PE X o (liftE (gx X ca) ma))
    (hbase : attributeBase o name X.env (eval o X.env) = eval o X.env := by rfl)
    (hfew : ((backTo cpos (starEach [] X.env)).all (fun x => !x.1) && (backToKw cpos (keywordEach [] X.env)).all (fun x => x.1.isSome) && decide (([] : List Expr).length + ([] : List Keyword).length + (if ([] : List Keyword).isEmpty then 0 else 1) < 30)) = true := by rfl)
    (hline : (apos.endLine == cpos.line) = true := by rfl) :
    PE X (.Call (.Attribute o name apos) [] [] cpos) (liftE (gx X ca) (mMG ty q ma lNil)) := by
  refine ⟨fun pins s σ H Q I ⟨r, env, S, d, S', R, W, h, k⟩ => ?_⟩
  unfold mMG at h
  split at h
  · rename_i x S1 e1
    split at h
    · rename_i hx
      simp only [lNil] at h
      refine wpAny_Call_method_late hbase hfew hline rfl (thn (ho.run pins s σ H (fun v H1 => ∃ r1, Ext X.K r H r1 H1 ∧ RepS (gx X ca) r1 S1 H1 ∧ DV X.K r1 H1 x v) I ⟨r, env, S, x, S1, R, W, e1, fun r1 H1 v x1 R1 q1 => ⟨r1, x1, R1, q1⟩⟩) fun u s1 ⟨v, H1, I1, rv, r1, x1, R1, q1⟩ => ?_)
      obtain ⟨h1, h2⟩ := ht pins σ H1 s1 r1 S1 x v u I1 R1 q1 rv hx
      refine ⟨T, id, pa, slot, hty, h1, h2, Calls.callWith_builtin rfl (PySem.evalArgs_none ?_)⟩
      exact hp pins σ H1 s1 r1 S1 x v u [] [] [] d S' Q I1 R1 q1 rv DVs.nil .nil h fun r3 H3 w x3 R3 q3 => k r3 H3 w (x1.trans x3) R3 q3
    · cases h
  · cases h
end

/-! ### dicts -/
def isDct (x : D) (S : Sto) : Bool := (dctD S x).isSome
def getP : D → List D → Sto → Option (D × Sto) := fun x xs S => match dctD S x, xs with
  | some kvs, [k] => if okKey k = true then some ((dget kvs k).getD .non, S) else none
  | some kvs, [k, df] => if okKey k = true then some ((dget kvs k).getD df, S) else none
  | _, _ => none
def setdefP : D → List D → Sto → Option (D × Sto) := fun x xs S => match x, dctD S x, xs with
  | .loc n, some kvs, [k, df] => if okKey k = true ∧ kvs.length < sizeLine then (match dget kvs k with
    | some d => some (d, S)
    | none => some (df, S.set n (.dct (dput kvs k df)))) else none
  | _, _, _ => none
section
variable {X : Cx} {ca : Nat → Addr} {k : Nat}
theorem ty_dct : TyG X ca "dict" isDct := fun pins σ H s r S x v u I R q rv h => by
  obtain ⟨kvs, e⟩ := Option.isSome_iff_exists.mp h
  obtain ⟨n, a, rfl, rfl, ea, e1, hov⟩ := dct_at R q e
  cases rv
  obtain ⟨es, ob, ents, ep, L⟩ := dlies_of I hov
  exact ⟨L.ty, fun b hb => by cases hb; exact ⟨ob, L.ob, L.ex.2.1⟩⟩
theorem getm2 {A : Around} {E : Value → Shared → Prop} {s : Shared} {H : Hp} {r : List Addr} {a : Addr} {kvs : List (D × D)} {es : List Ent} {o : Obj} {ents : Array DictEntry} {ep : Nat} {k : D} {u : Value} {Q : Value → Shared → Prop} (hu : A.in1.units + 8 < cLine) (L : DLies X r H s a kvs es o ents ep) (hk : KV8 s.heap k.key u)
    (q : ∀ t, match dget kvs k with | some d => ∀ v w', DV X.K r H d v → RelV v w' → Q w' { s with toks := t } | none => Q .none { s with toks := t }) : wpAny (model X.prog X.w) A (call (.builtin "dict.get") [.ref a, u]) Q E s := by
  refine wpAny_call_entry F.slot_dict_get L.ty F.entry_dict_get ?_ (F.args_dict_get_2 _ _)
  show wpAny _ _ (dictGet a u >>= _) _ _ s
  refine wpAny_bind (dict_get hu L hk fun t => ?_)
  have q := q t
  split
  · rename_i d e
    rw [e] at q
    intro v w' qv rv
    exact wpAny_pure ⟨w', rfl, q v w' qv rv⟩
  · rename_i e
    rw [e] at q
    show wpAny _ _ (Builtin.Dict.missed a u >>= _) _ _ _
    refine wpAny_bind (wpAny_missed_other L.sm ?_)
    exact wpAny_pure ⟨_, rfl, q⟩
theorem prim_get (hr : Room k X.A) : PrimG X ca "dict.get" getP := by
  intro pins σ H s r S x v u xs vs us d S' Q I R q rv qx rvs h kq
  unfold getP at h
  split at h
  · rename_i kvs ky e
    split at h
    · rename_i ok
      obtain ⟨n, a, rfl, rfl, ea, e1, hov⟩ := dct_at R q e
      cases rv
      obtain ⟨kv, rfl, qk⟩ := qx.one
      obtain ⟨ku, rfl, rk⟩ := vals1 rvs
      obtain ⟨es, ob, ents, ep, L⟩ := dlies_of I hov
      refine getm2 (u8 hr) L (kv8_of I qk rk ok) fun t => ?_
      split
      · rename_i d' e2
        rw [e2] at h
        cases h
        exact fun v w' qv rv => ⟨v, H, I.tok t, rv, kq r H v Ext.refl R qv⟩
      · rename_i e2
        rw [e2] at h
        cases h
        exact ⟨.non, H, I.tok t, rfl, kq r H .non Ext.refl R mk_non⟩
    · cases h
  · rename_i kvs ky df e
    split at h
    · rename_i ok
      obtain ⟨n, a, rfl, rfl, ea, e1, hov⟩ := dct_at R q e
      cases rv
      obtain ⟨kv, dv, rfl, qk, qd⟩ := qx.two
      obtain ⟨ku, du, rfl, rk, rd⟩ := vals2 rvs
      obtain ⟨es, ob, ents, ep, L⟩ := dlies_of I hov
      refine dict_getm (u8 hr) L (kv8_of I qk rk ok) du fun t => ?_
      split
      · rename_i d' e2
        rw [e2] at h
        cases h
        exact fun v w' qv rv => ⟨v, H, I.tok t, rv, kq r H v Ext.refl R qv⟩
      · rename_i e2
        rw [e2] at h
        cases h
        exact ⟨dv, H, I.tok t, rd, kq r H dv Ext.refl R qd⟩
    · cases h
  · cases h
theorem prim_setdef (hr : Room k X.A) : PrimG X ca "dict.setdefault" setdefP := by
  intro pins σ H s r S x v u xs vs us d S' Q I R q rv qx rvs h kq
  unfold setdefP at h
  split at h
  · rename_i n kvs ky df e
    split at h
    · rename_i ok
      obtain ⟨n', a, hn, rfl, ea, e1, hov⟩ := dct_at R q e
      cases hn
      cases rv
      obtain ⟨kv, dv, rfl, qk, qd⟩ := qx.two
      obtain ⟨ku, du, rfl, rk, rd⟩ := vals2 rvs
      obtain ⟨es, ob, ents, ep, L⟩ := dlies_of I hov
      refine dict_setdefault (u8 hr) I L (kv8_of I qk rk ok.1) rk rd (fun t d' v' w' e2 qv rv => ?_) fun s' e2 I' => ?_
      · rw [e2] at h
        cases h
        exact ⟨v', H, I.tok t, rv, kq r H v' Ext.refl R qv⟩
      · rw [e2] at h
        cases h
        obtain ⟨x', R'⟩ := R.dct e1 ea ok.2 L.ev ok.1 qk qd
        exact ⟨dv, _, I', rd, kq r _ dv x' R' (DV.ext x' _ _ qd)⟩
    · cases h
  · cases h
end
end DL
/-! DLu: {k: v for ..}. -/
namespace DL
open PySem PySem.Spec L2
open PyProof.Rows hiding St

/-- the turns of a dict comprehension; the dict is laid behind them -/
def dcN (it : DIt) (vs : List Nat) (t : Tgt) (tt : BM) (tk tv : EM) (env : Vars) : Nat → Nat → List (D × D) → Sto → Option (List (D × D) × Sto)
  | 0, _, _, _ => none
  | f + 1, i, acc, S => match itAt S it i with
    | none => none
    | some none => some (acc, S)
    | some (some d) => match t.put (wipeD env vs) d with
      | none => none
      | some env1 => match tt env1 S with
        | none => none
        | some (false, S1) => dcN it vs t tt tk tv env f (i + 1) acc S1
        | some (true, S1) => match tk env1 S1 with
          | none => none
          | some (y, S2) => match tv env1 S2 with
            | none => none
            | some (z, S3) => if okKey y = true ∧ acc.length < sizeLine then dcN it vs t tt tk tv env f (i + 1) (dput acc y z) S3 else none
theorem dcN_up {it : DIt} {vs : List Nat} {t : Tgt} {tt : BM} {tk tv : EM} {env : Vars} : ∀ (n i : Nat) (acc : List (D × D)) (S : Sto) a, dcN it vs t tt tk tv env n i acc S = some a → dcN it vs t tt tk tv env (n + 1) i acc S = some a
  | 0, _, _, _, _, h => by simp [dcN] at h
  | n + 1, i, acc, S, a, h => by
    unfold dcN at h ⊢
    split at h
    · cases h
    · exact h
    · rename_i d e1
      try simp only [e1]
      split at h
      · cases h
      · rename_i env1 e2
        try simp only [e2]
        split at h
        · cases h
        · rename_i S1 e3
          try simp only [e3]
          exact dcN_up n _ _ _ _ h
        · rename_i S1 e3
          try simp only [e3]
          split at h
          · cases h
          · rename_i y S2 e4
            try simp only [e4]
            split at h
            · cases h
            · rename_i z S3 e5
              try simp only [e5]
              split at h
              · rename_i hz
                rw [if_pos hz]
                exact dcN_up n _ _ _ _ h
              · cases h
noncomputable def dcL (it : DIt) (vs : List Nat) (t : Tgt) (tt : BM) (tk tv : EM) (env : Vars) (i : Nat) (acc : List (D × D)) (S : Sto) : Option (List (D × D) × Sto) := lim fun n => dcN it vs t tt tk tv env n i acc S
theorem dcL_eq (it : DIt) (vs : List Nat) (t : Tgt) (tt : BM) (tk tv : EM) (env : Vars) (i : Nat) (acc : List (D × D)) (S : Sto) : dcL it vs t tt tk tv env i acc S = match itAt S it i with
    | none => none
    | some none => some (acc, S)
    | some (some d) => match t.put (wipeD env vs) d with
      | none => none
      | some env1 => match tt env1 S with
        | none => none
        | some (false, S1) => dcL it vs t tt tk tv env (i + 1) acc S1
        | some (true, S1) => match tk env1 S1 with
          | none => none
          | some (y, S2) => match tv env1 S2 with
            | none => none
            | some (z, S3) => if okKey y = true ∧ acc.length < sizeLine then dcL it vs t tt tk tv env (i + 1) (dput acc y z) S3 else none := by
  unfold dcL
  rw [lim_shift (fun n a h => dcN_up n _ _ _ _ h) rfl]
  simp only [dcN]
  cases itAt S it i with
  | none => exact lim_const
  | some o =>
    cases o with
    | none => exact lim_const
    | some d =>
      try simp only
      cases t.put (wipeD env vs) d with
      | none => exact lim_const
      | some env1 =>
        try simp only
        cases tt env1 S with
        | none => exact lim_const
        | some q =>
          obtain ⟨b, S1⟩ := q
          cases b with
          | false => rfl
          | true =>
            try simp only
            cases tk env1 S1 with
            | none => exact lim_const
            | some y =>
              try simp only
              cases tv env1 y.2 with
              | none => exact lim_const
              | some z =>
                try simp only
                split
                · rfl
                · exact lim_const
noncomputable def mDc (mi : IM) (vs : List Nat) (t : Tgt) (tt : BM) (tk tv : EM) : EM := fun env S => match mi env S with
  | some (it, S1) => match dcL it vs t tt tk tv env 0 [] S1 with
    | some (kvs, S2) => some (.loc S2.length, S2 ++ [.dct kvs])
    | none => none
  | none => none

section
variable {X : Cx} {ca : Nat → Addr} {kx vx tg iter : Expr} {ifs : List Expr} {scope : Scope} {own : List (Str × Nat)} {mi : IM} {t : Tgt} {tt : BM} {tk tv : EM} {pos : Pos}
/-- what holds ahead of the i-th turn -/
structure DcI (X : Cx) (ca : Nat → Addr) (B : Cx) (fp : List Addr) (tn : Nat → Heap → Prop) (Da : Addr) (r0 : List Addr) (H0 : Hp) (it : DIt) (vs : List Nat) (t : Tgt) (tt : BM) (tk tv : EM) (env : Vars) (res : List (D × D)) (S9 : Sto) (ω : L2.St) (n i : Nat) (H : Hp) (s : Shared) : Prop where
  inv : Inv B [] ω H s
  tn_ : tn i s.heap
  nfp : ∀ b ∈ fp, H b = none
  st : ∃ r S acc es, Ext X.K r0 H0 r H ∧ RepS (gx X ca) r S H ∧ H Da = some (.ext (RawD X.w Da es)) ∧ Da ∉ r ∧ EntsV X.K r H acc es ∧ (dkeys acc).Nodup ∧ acc.length ≤ sizeLine ∧ dcN it vs t tt tk tv env n i acc S = some (res, S9)
theorem ext_up {K : PySem.W.Frag} {r0 r : List Addr} {H0 H : Hp} {Da : Addr} {o : HO} (x : Ext K r0 H0 r H) (h0 : H0 Da = none) (w : ExtW K r H r (upd H Da o)) : Ext K r0 H0 r (upd H Da o) :=
  ⟨x.pre, fun a vs h => w.tups a vs (x.tups a vs h), fun a vs h => w.scrs a vs (x.scrs a vs h), fun a u h n => ⟨by rw [upd_ne (ne_of_none h h0)]; exact (x.frame a u h n).1, (x.frame a u h n).2⟩⟩
theorem RepS.off {G : Ctx} {r : List Addr} {S : Sto} {H : Hp} {Da : Addr} {o : HO} (R : RepS G r S H) (nD : Da ∉ r) (y : ExtW G.K r H r (upd H Da o)) : RepS G r S (upd H Da o) :=
  ⟨R.len, R.nd, fun n o' b z1 z2 => (R.at_ n o' b z1 z2).ext y (upd_ne (by rintro rfl; exact nD (List.mem_of_getElem? z2)))⟩
theorem dc_loop {σ ω : L2.St} {s3 s4 : Shared} {H3 H1 : Hp} {ce : Env} {fp : List Addr} {itA Da : Addr} {tn : Nat → Heap → Prop} {J : It} {r1 : List Addr} {it : DIt} {env : Vars} {res : List (D × D)} {S9 : Sto} {n0 : Nat} {Rr : Result → Shared → Prop} {k : Nat} {W0 : VarsV X.K r1 H1 env σ}
    (hr : Room k X.A) (hc : X.calm = true) (hm : ∀ i ∈ t.slots, i ∈ own.map (·.2)) (sm : (Da == sysModules) = false) (hD1 : H1 Da = none) (T : Turn X.prog X.w X.K tg J fp itA tn) (J1 : ItOk (gx X ca) r1 H1 it J) (hω : ω = wipe σ (own.map (·.2)))
    (pg : PG (X.blk s3 H3 scope ce fp) tg (gTgt X.K t)) (pt : PTs (X.blk s3 H3 scope ce fp) ifs (liftB (gx X ca) tt)) (pk : PE (X.blk s3 H3 scope ce fp) kx (liftE (gx X ca) tk)) (pe : PE (X.blk s3 H3 scope ce fp) vx (liftE (gx X ca) tv))
    (C0 : DcI X ca (X.blk s3 H3 scope ce fp) fp tn Da r1 H1 it (own.map (·.2)) t tt tk tv env res S9 ω n0 0 H3 s4)
    (fin : ∀ s' H' r' es, Inv (X.blk s3 H3 scope ce fp) [] ω H' s' → Ext X.K r1 H1 r' H' → RepS (gx X ca) r' S9 H' → H' Da = some (.ext (RawD X.w Da es)) → Da ∉ r' → EntsV X.K r' H' res es → (dkeys res).Nodup → res.length ≤ sizeLine → Rr (.ok .next) s') :
    codeAny (model X.prog X.w) X.A (.compLoop (.DictComp kx vx [⟨tg, iter, ifs, 0⟩] scope pos) 0 (.ref itA) (.ref Da) ce) Rr s4 := by
  have stat : ∀ {ω' : L2.St} {H' : Hp} {s' : Shared}, Inv (X.blk s3 H3 scope ce fp) [] ω' H' s' → (∀ b ∈ fp, H' b = none) → ∀ b ∈ fp, FpOk (X.blk s3 H3 scope ce fp) [] H' b := by
    intro ω' H' s' I' hn b hb
    refine ⟨hn b hb, (I'.ok.exf b hb).1, I'.ok.exfs b hb, .inl hb, fun x c e => (I'.ok.exf b hb).2 x c e, fun p hp => ?_⟩
    cases hp
  refine compLoop_anyD (fun n s' => ∃ i H', DcI X ca (X.blk s3 H3 scope ce fp) fp tn Da r1 H1 it (own.map (·.2)) t tt tk tv env res S9 ω n i H' s') ?_ n0 ⟨0, H3, C0⟩
  rintro n s5 ⟨i, H5, ⟨I5, st5, n5, r5, S5, acc, es, x5, R5, hD5, nD5, ev5, nd5, sz5, h5⟩⟩
  cases n with
  | zero => simp [dcN] at h5
  | succ n =>
    unfold dcN at h5
    split at h5
    · cases h5
    · rename_i e5
      cases h5
      refine thnF (T.done (X.blk s3 H3 scope ce fp) rfl rfl rfl hc i [] s5 _ H5 (fun _ _ => False) I5 (stat I5 n5) st5 (J1.stop r5 _ H5 i x5 R5 e5)) fun r s6 ⟨hr6, I6⟩ => ?_
      subst hr6
      exact fin s6 H5 r5 es I6 x5 R5 hD5 nD5 ev5 nd5 sz5
    · rename_i d e5
      obtain ⟨go, yl⟩ := J1.go r5 S5 H5 i d x5 R5 e5
      refine thnF (T.item (X.blk s3 H3 scope ce fp) rfl rfl rfl hc i [] s5 _ H5 (fun _ _ => False) I5 (stat I5 n5) st5 go) fun r s6 ⟨u, hr6, h6⟩ => ?_
      subst hr6
      refine thnF h6 fun _ s7 ⟨x, H7, I7, rv7, y7, st7, n7⟩ => ?_
      obtain ⟨r7, x7, R7, q7⟩ := yl x H7 y7
      obtain ⟨hD7, nD7⟩ := x7.frame _ _ hD5 nD5
      have I7' := I7.pinned (stat I7 n7) (T.obj _ _ st7)
      split at h5
      · cases h5
      · rename_i env1 e7
        have W7 : VarsV X.K r7 H7 (wipeD env (own.map (·.2))) ω := by rw [hω]; exact (W0.ext (x5.trans x7)).wipe _
        refine thnF (pg.run _ s7 _ H7 x u (fun σ8 H8 => H8 = H7 ∧ VarsV X.K r7 H7 env1 σ8 ∧ wipe σ8 (own.map (·.2)) = wipe ω (own.map (·.2))) I7' rv7 (gTgt_ok e7 q7 W7 hm fun σ2 W2 hw => ⟨rfl, W2, hw⟩)) fun _ s8 ⟨σ8, H8, I8, hH8, W8, hw8⟩ => ?_
        subst hH8
        -- the turn's end
        have fin8 : ∀ {s' : Shared} {H' : Hp} {i' m' : Nat}, Inv (X.blk s3 H3 scope ce fp) ([] ++ pinsAt fp s7.heap) σ8 H' s' → (∃ r S acc es, Ext X.K r1 H1 r H' ∧ RepS (gx X ca) r S H' ∧ H' Da = some (.ext (RawD X.w Da es)) ∧ Da ∉ r ∧ EntsV X.K r H' acc es ∧ (dkeys acc).Nodup ∧ acc.length ≤ sizeLine ∧ dcN it (own.map (·.2)) t tt tk tv env n (i + 1) acc S = some (res, S9)) →
            ∃ m, m < n + 1 ∧ ∃ i H', DcI X ca (X.blk s3 H3 scope ce fp) fp tn Da r1 H1 it (own.map (·.2)) t tt tk tv env res S9 ω m i H' s' := by
          intro s' H' _ _ I' st'
          have pin' : ∀ b ∈ fp, ∀ o, s7.heap.get? b = some o → s'.heap.get? b = some o ∧ H' b = none := fun b hb o e => by
            have z := I'.pin (b, o) (List.mem_append_right _ (List.mem_append_right _ (mem_pinsAt hb e)))
            exact ⟨z.1, z.2.1⟩
          have ww : ω = wipe σ8 (own.map (·.2)) := by rw [hw8, hω, wipe_wipe]
          refine ⟨n, Nat.lt_succ_self n, i + 1, H', (I'.unpinned (pins := [])).weak (by rw [ww, wipe_length]) (fun j v e => ?_), T.keep _ _ _ st7 fun b hb o e => (pin' b hb o e).1, fun b hb => ?_, st'⟩
          · rw [ww] at e
            exact (wipe_some e).1
          · obtain ⟨o, e, _⟩ := T.obj _ _ st7 b hb
            exact (pin' b hb o e).2
        split at h5
        · cases h5
        · rename_i S8 e8
          refine thnF (pt.run _ s8 σ8 H8 (fun b H9 => b = false ∧ ∃ r9, Ext X.K r7 H8 r9 H9 ∧ RepS (gx X ca) r9 S8 H9) I8 ⟨r7, env1, S5, false, S8, R7, W8, e8, fun r9 H9 x9 R9 => ⟨rfl, r9, x9, R9⟩⟩) fun b s9 ⟨H9, I9, hb, r9, x9, R9⟩ => ?_
          subst hb
          simp only [Bool.false_eq_true, if_false]
          obtain ⟨hD9, nD9⟩ := x9.frame _ _ hD7 nD7
          exact fin8 (i' := 0) (m' := 0) I9 ⟨r9, S8, acc, es, x5.trans (x7.trans x9), R9, hD9, nD9, ev5.ext (x7.trans x9).w, nd5, sz5, h5⟩
        · rename_i S8 e8
          refine thnF (pt.run _ s8 σ8 H8 (fun b H9 => b = true ∧ ∃ r9, Ext X.K r7 H8 r9 H9 ∧ RepS (gx X ca) r9 S8 H9) I8 ⟨r7, env1, S5, true, S8, R7, W8, e8, fun r9 H9 x9 R9 => ⟨rfl, r9, x9, R9⟩⟩) fun b s9 ⟨H9, I9, hb, r9, x9, R9⟩ => ?_
          subst hb
          simp only [if_true]
          obtain ⟨hD9, nD9⟩ := x9.frame _ _ hD7 nD7
          split at h5
          · cases h5
          · rename_i y S10 e10
            refine thnF (pk.run _ s9 σ8 H9 (fun v H10 => ∃ r10, Ext X.K r9 H9 r10 H10 ∧ RepS (gx X ca) r10 S10 H10 ∧ DV X.K r10 H10 y v) I9 ⟨r9, env1, S8, y, S10, R9, W8.ext x9, e10, fun r10 H10 v x10 R10 q10 => ⟨r10, x10, R10, q10⟩⟩) fun ku s10 ⟨kv, H10, I10, rk, r10, x10, R10, q10⟩ => ?_
            obtain ⟨hD10, nD10⟩ := x10.frame _ _ hD9 nD9
            split at h5
            · cases h5
            · rename_i z S11 e11
              refine thnF (pe.run _ s10 σ8 H10 (fun v H11 => ∃ r11, Ext X.K r10 H10 r11 H11 ∧ RepS (gx X ca) r11 S11 H11 ∧ DV X.K r11 H11 z v) I10 ⟨r10, env1, S10, z, S11, R10, W8.ext (x9.trans x10), e11, fun r11 H11 v x11 R11 q11 => ⟨r11, x11, R11, q11⟩⟩) fun zu s11 ⟨zv, H11, I11, rz, r11, x11, R11, q11⟩ => ?_
              obtain ⟨hD11, nD11⟩ := x11.frame _ _ hD10 nD10
              split at h5
              · rename_i hz
                have xx := x7.trans (x9.trans (x10.trans x11))
                have ev11 := ev5.ext xx.w
                obtain ⟨o, ents, ep, L⟩ := dlies_mk I11 hD11 sm sz5 nd5 ev11
                refine dict_put (X := X.blk s3 H3 scope ce fp) (show X.A.units + 8 < cLine by have := hr.un; omega) I11 L (kv8_of I11 (DV.ext x11 _ _ q10) rk hz.1) rk rz fun s12 I12 => ?_
                have w12 := extW_raw (r := r11) (K := X.K) (es' := eput es y.key kv zv) hD11
                refine fin8 (i' := 0) (m' := 0) I12 ⟨r11, S11, dput acc y z, eput es y.key kv zv, ext_up (x5.trans xx) hD1 w12, R11.off nD11 w12, upd_same, nD11, (ents_put ev11 hz.1 (DV.ext x11 _ _ q10) q11).ext w12, nodup_put nd5 _ _, ?_, h5⟩
                have := length_put acc y z
                omega
              · cases h5
theorem dc_core {k : Nat} {pins : List (Addr × Obj)} {s : Shared} {σ : L2.St} {H : Hp} {use : Option (Value → Sem Unit)} {Qf : Value → Shared → Prop} {pos' : Pos} {r : List Addr} {env : Vars} {S S' : Sto} {d : D} (hr : Room k X.A) (hN : X.N.Nodup) (ok : BlkOk X.N X.env.scope scope own) (hm : ∀ i ∈ t.slots, i ∈ own.map (·.2)) (hi : PI X tg iter (liftI (gx X ca) mi))
    (hg : ∀ (s : Shared) (H : Hp) (C : Addr) (cl : List (Str × Addr)) (fp : List Addr), PG (X.blk s H scope (compEnvC scope cl C X.env) fp) tg (gTgt X.K t)) (ht : ∀ (s : Shared) (H : Hp) (C : Addr) (cl : List (Str × Addr)) (fp : List Addr), PTs (X.blk s H scope (compEnvC scope cl C X.env) fp) ifs (liftB (gx X ca) tt))
    (hk : ∀ (s : Shared) (H : Hp) (C : Addr) (cl : List (Str × Addr)) (fp : List Addr), PE (X.blk s H scope (compEnvC scope cl C X.env) fp) kx (liftE (gx X ca) tk)) (he : ∀ (s : Shared) (H : Hp) (C : Addr) (cl : List (Str × Addr)) (fp : List Addr), PE (X.blk s H scope (compEnvC scope cl C X.env) fp) vx (liftE (gx X ca) tv))
    (hc : X.calm = true ) (hs : ∀ x, foldedSetIterable iter X.env x = pure x )
    (I : Inv X pins σ H s) (R : RepS (gx X ca) r S H) (W : VarsV X.K r H env σ) (h : mDc mi (own.map (·.2)) t tt tk tv env S = some (d, S'))
    (post : ∀ Da C r' H' s' m, Inv X pins σ H' s' → Ext X.K r H r' H' → RepS (gx X ca) r' S' H' → DV X.K r' H' d (.ref Da) → s'.heap.Ns C m → FpOk X pins H' C → compPost (model X.prog X.w) X.A X.xe use Qf (.ref Da) C (.ok .next) s') :
    wpAny (model X.prog X.w) X.A (comprehension (.DictComp kx vx [⟨tg, iter, ifs, 0⟩] scope pos) scope X.env pos' newDict false (eval iter X.env) use) Qf X.xe s := by
  unfold mDc at h
  split at h
  · rename_i it0 S1 e1
    split at h
    · rename_i kvs S2 e2
      cases h
      obtain ⟨n0, h0⟩ := lim_some e2
      have hfree : ∀ y ∈ scope.names, y.2 = .free → ∃ c, X.env.cells.lookup y.1 = some c := by
        intro y hy e
        exact (ok.free y hy e).elim (fun z => I.ok.has _ (.inl z)) fun z => I.ok.has _ (.inr z)
      refine wpAny_comprehension_free (use := use) rfl hs (closure_ok hfree) ok.kind (fun y hy e => by rw [ok.uniq y hy, e])
        (thn (hi.run pins s σ H (fun J H1 => ∃ r1, Ext X.K r H r1 H1 ∧ RepS (gx X ca) r1 S1 H1 ∧ ItOk (gx X ca) r1 H1 it0 J) I ⟨r, env, S, it0, S1, R, W, e1, fun r1 H1 J x1 R1 J1 => ⟨r1, x1, R1, J1⟩⟩) fun xv s1 hx => thn hx fun itv s2 h2 => ?_)
      obtain ⟨itA, fp, tn, J, H1, rfl, I1, T, tn0, fok, r1, x1, R1, J1⟩ := h2
      refine wpAny_newObj_type (newEnv_comp ?_)
      have hD1 : H1 s2.heap.objs.size = none := I1.hok.fresh (Nat.le_refl _)
      have sm : (s2.heap.objs.size == sysModules) = false := (dk_empty (P := X.prog) (w := X.w) (H := H1) s2.heap I1.big).2.1
      have I3 : Inv X pins σ (upd H1 s2.heap.objs.size (.ext (RawD X.w s2.heap.objs.size []))) { s2 with heap := s2.heap.push { cls := .type "dict", data := .dict #[] } } := I1.laid (t' := s2.toks) (fun _ _ q => Heap.get?_push_of_some _ q) (Nat.le_refl _) raw_empty.ok
      have lt2 : ∀ b ∈ fp, b < s2.heap.objs.size := fun b hb => by
        obtain ⟨o, e, _⟩ := T.obj _ _ tn0 b hb
        exact Heap.lt_size e
      have f3 : ∀ b ∈ fp, FpOk X pins (upd H1 s2.heap.objs.size (.ext (RawD X.w s2.heap.objs.size []))) b ∧ b < (s2.heap.push { cls := .type "dict", data := .dict #[] }).objs.size := fun b hb => by
        have hlt := lt2 b hb
        exact ⟨⟨by rw [upd_ne (Nat.ne_of_lt hlt)]; exact (fok b hb).1, (fok b hb).2⟩, by rw [Heap.size_push]; exact Nat.lt_succ_of_lt hlt⟩
      have I4 := block_start I3 ok hN f3
      obtain ⟨x3, R3⟩ := R1.side (u := .ext (RawD X.w s2.heap.objs.size [])) hD1
      have st4 : tn 0 (pushCells ((s2.heap.push { cls := .type "dict", data := .dict #[] }).push { cls := .type "dict", data := .dict #[] }) scope.names) := T.keep _ _ _ tn0 fun b _ o e => pushCells_keeps _ _ _ _ (Heap.get?_push_of_some _ (Heap.get?_push_of_some _ e))
      have loop := dc_loop (own := own) (kx := kx) (vx := vx) (iter := iter) (ifs := ifs) (scope := scope) (pos := pos) (it := it0) (res := kvs) (S9 := S2) (n0 := n0) (W0 := W.ext x1) (Rr := compPost (model X.prog X.w) X.A X.xe use Qf (.ref s2.heap.objs.size) (s2.heap.push { cls := .type "dict", data := .dict #[] }).objs.size) hr hc hm sm hD1 T J1 rfl
        (hg { s2 with heap := s2.heap.push { cls := .type "dict", data := .dict #[] } } (upd H1 s2.heap.objs.size (.ext (RawD X.w s2.heap.objs.size []))) (s2.heap.push { cls := .type "dict", data := .dict #[] }).objs.size (cellsFrom ((s2.heap.push { cls := .type "dict", data := .dict #[] }).objs.size + 1) scope.names (cloFrom X.env.cells scope.names [])) fp) (ht _ _ _ _ _) (hk _ _ _ _ _) (he _ _ _ _ _)
        ⟨I4, st4, fun b hb => (f3 b hb).1.1, r1, S1, [], [], x3, R3, upd_same, R1.free hD1, .nil, List.nodup_nil, Nat.zero_le _, h0⟩
        (fun s6 H6 r6 es I6 x6 R6 hD6 nD6 ev6 nd6 sz6 => by
          have I7 : Inv X pins σ H6 s6 := I3.call' (ch := fp) I6.os I6.base I6.hok I6.bare fun b hb => ⟨(f3 b hb).1.2.2.2.1, (f3 b hb).1.2.1, (f3 b hb).1.2.2.2.2.1, (f3 b hb).1.2.2.2.2.2⟩
          have nC : H6 (s2.heap.push { cls := .type "dict", data := .dict #[] }).objs.size = none := I6.free
          obtain ⟨m, hn, _⟩ := I6.loc
          obtain ⟨y6, R7⟩ := R6.regD hD6 nD6 sm sz6 nd6 ev6
          refine post s2.heap.objs.size _ (r6 ++ [s2.heap.objs.size]) H6 s6 m I7 ⟨(x1.trans x6).pre.trans y6.pre, (x1.trans x6).tups, (x1.trans x6).scrs, fun a u hu hn => ?_⟩ R7 R6.newLoc hn (I3.fpOk (Nat.le_refl _) nC)
          obtain ⟨z1, z2⟩ := x1.frame a u hu hn
          exact ⟨(x6.frame a u z1 z2).1, by simp [(x6.frame a u z1 z2).2, ne_of_none z1 hD1]⟩)
      exact codeAny_compStart_dict loop (T.self X.A 0 _ _ _ st4 loop)
    · cases h
  · cases h
theorem de_dc {k : Nat} (hr : Room k X.A) (hN : X.N.Nodup) (ok : BlkOk X.N X.env.scope scope own) (hm : ∀ i ∈ t.slots, i ∈ own.map (·.2)) (hi : PI X tg iter (liftI (gx X ca) mi))
    (hg : ∀ (s : Shared) (H : Hp) (C : Addr) (cl : List (Str × Addr)) (fp : List Addr), PG (X.blk s H scope (compEnvC scope cl C X.env) fp) tg (gTgt X.K t)) (ht : ∀ (s : Shared) (H : Hp) (C : Addr) (cl : List (Str × Addr)) (fp : List Addr), PTs (X.blk s H scope (compEnvC scope cl C X.env) fp) ifs (liftB (gx X ca) tt))
    (hk : ∀ (s : Shared) (H : Hp) (C : Addr) (cl : List (Str × Addr)) (fp : List Addr), PE (X.blk s H scope (compEnvC scope cl C X.env) fp) kx (liftE (gx X ca) tk)) (he : ∀ (s : Shared) (H : Hp) (C : Addr) (cl : List (Str × Addr)) (fp : List Addr), PE (X.blk s H scope (compEnvC scope cl C X.env) fp) vx (liftE (gx X ca) tv))
    (hc : X.calm = true := by rfl) (hs : ∀ x, foldedSetIterable iter X.env x = pure x := by intro _; rfl) : PE X (.DictComp kx vx [⟨tg, iter, ifs, 0⟩] scope pos) (liftE (gx X ca) (mDc mi (own.map (·.2)) t tt tk tv)) := by
  refine ⟨fun pins s σ H Q I ⟨r, env, S, d, S', R, W, h, kq⟩ => ?_⟩
  rw [arm_eval_DictComp]
  refine dc_core hr hN ok hm hi hg ht hk he hc hs I R W h fun Da C r' H' s' m I' x' R' q' hn f => ⟨m, hn, fun h'' sb => ?_⟩
  obtain ⟨f0, f1, f2, f3, f4, f5⟩ := f
  exact ⟨.ref Da, H', I'.turned (t' := s'.toks) (fun b o hb e => (sb.2 b hb).trans e) f0 f1 f3 f4 f5, rfl, kq r' H' _ x' R' q'⟩
/-- name = {k: v for ..}, the name a local -/
theorem ds_setDc {k : Nat} {i : Nat} {y : Str} {py spos : Pos} (hsw : swapsWith (.DictComp kx vx [⟨tg, iter, ifs, 0⟩] scope pos) (some (.Name y py)) spos.line X.env = pure true) (hr : Room k X.A) (hN : X.N.Nodup) (ok : BlkOk X.N X.env.scope scope own) (hm : ∀ i ∈ t.slots, i ∈ own.map (·.2)) (hi : PI X tg iter (liftI (gx X ca) mi))
    (hg : ∀ (s : Shared) (H : Hp) (C : Addr) (cl : List (Str × Addr)) (fp : List Addr), PG (X.blk s H scope (compEnvC scope cl C X.env) fp) tg (gTgt X.K t)) (ht : ∀ (s : Shared) (H : Hp) (C : Addr) (cl : List (Str × Addr)) (fp : List Addr), PTs (X.blk s H scope (compEnvC scope cl C X.env) fp) ifs (liftB (gx X ca) tt))
    (hk : ∀ (s : Shared) (H : Hp) (C : Addr) (cl : List (Str × Addr)) (fp : List Addr), PE (X.blk s H scope (compEnvC scope cl C X.env) fp) kx (liftE (gx X ca) tk)) (he : ∀ (s : Shared) (H : Hp) (C : Addr) (cl : List (Str × Addr)) (fp : List Addr), PE (X.blk s H scope (compEnvC scope cl C X.env) fp) vx (liftE (gx X ca) tv))
    (hy : X.N[i]? = some y := by rfl) (hyl : X.env.scope.names.lookup y = some .local := by rfl) (hc : X.calm = true := by rfl) (hs : ∀ x, foldedSetIterable iter X.env x = pure x := by intro _; rfl) :
    PS X (.Assign [.Name y py] (.DictComp kx vx [⟨tg, iter, ifs, 0⟩] scope pos) spos) (liftS (gx X ca) (sAsg (mDc mi (own.map (·.2)) t tt tk tv) (gVar i))) := by
  refine ⟨fun pins s σ H E I ⟨r, env, S, fl, env', S', R, W, h, kq⟩ => ?_⟩
  unfold sAsg gVar at h
  split at h
  · rename_i d S1 e1
    cases h
    rw [exec_Assign_Name_used _ _ _ _ hsw]
    refine wpAny_bind (wpAny_standAt (wpAny_bind ?_))
    show wpAny _ X.A (do let _ ← comprehension (.DictComp kx vx [⟨tg, iter, ifs, 0⟩] scope pos) scope X.env (firstIterPos [⟨tg, iter, ifs, 0⟩] pos) newDict false (eval iter X.env) (some (assign (.Name y py) X.env))) _ _ s
    refine wpAny_bind (thn (dc_core (Qf := fun _ s' => SP X pins E .next s') hr hN ok hm hi hg ht hk he hc hs I R W e1 fun Da C r' H' s' m I' x' R' q' hn f => ?_) fun _ s' hq => wpAny_pure (wpAny_pure hq))
    show wpAny _ _ (assign (.Name y py) X.env (.ref Da)) _ _ _
    refine wpAny_assign_Name (store_ok2 (v := V.ref Da) I' hN hy (.inl hyl) rfl (fun s2 I2 ⟨a, sb, ha⟩ => ?_) (.inr hyl))
    obtain ⟨f0, f1, f2, f3, f4, f5⟩ := f
    have haC : C ≠ a := ha.elim (fun z => by rw [z]; exact f1) fun z e => f4 y a z e.symm
    refine ⟨m, hn.sameBut sb haC, fun h3 sb3 => ⟨_, H', I2.turned (t' := s2.toks) (fun b o hb e => (sb3.2 b hb).trans e) f0 f1 f3 f4 f5, kq r' _ H' x' R' ((W.ext x').set i q')⟩⟩
  · cases h
end
theorem swd_true {k v : Expr} {gs : List Comprehension} {scope : Scope} {pos py : Pos} {y : Str} {l : Nat} {env : Env} (hk : env.scope.kind = .function) (hy : env.scope.names.lookup y = some .local) (hl : (py.line == pos.line) = true)
    (ha : (scope.names.any fun (n, k) => n == y && (k == .local || k == .cell)) = false) : swapsWith (.DictComp k v gs scope pos) (some (.Name y py)) l env = pure true := by
  have k1 : env.kindOf y = some .local := hy
  have k2 : env.blockKind = .function := by
    unfold Env.blockKind
    rw [hk]
    rfl
  unfold swapsWith
  simp only [k1, k2, ha, hl, Expr.pos]
  rfl
end DL
/-! DLv: list(d), len(d) of dicts. -/
namespace DL
open PySem PySem.Spec L2
open PyProof.Rows hiding St


section
variable {X : Cx} {ca : Nat → Addr} {r : List Addr} {H : Hp} {s : Shared} {a : Addr} {kvs : List (D × D)} {es : List Ent} {o : Obj} {ents : Array DictEntry} {ep : Nat}
theorem DLies.raw (L : DLies X r H s a kvs es o ents ep) : s.heap.DictRaw a ents ep := ⟨o, L.ob, L.ex, L.dt⟩
theorem DLies.size (L : DLies X r H s a kvs es o ents ep) : ents.size = kvs.length := by
  have h1 := paired_len L.ev
  have h2 := paired_len L.le
  have h3 : ents.toList.length = ents.size := Array.length_toList
  omega
/-- the keys of a dict, as they lie -/
theorem DLies.keys (L : DLies X r H s a kvs es o ents ep) : ∃ vs, DVs X.K r H (kvs.map (·.1)) vs ∧ Vals vs (ents.toList.map (·.key)) := by
  have ev := L.ev
  have le := L.le
  clear L
  have go : ∀ {kvs : List (D × D)} {es : List Ent} {xs : List DictEntry}, EntsV X.K r H kvs es → LiesE X.w es xs → ∃ vs, DVs X.K r H (kvs.map (·.1)) vs ∧ Vals vs (xs.map (·.key)) := by
    intro kvs es xs h1
    induction h1 generalizing xs with
    | nil =>
      intro h2
      cases h2
      exact ⟨[], DVs.nil, .nil⟩
    | cons q _ ih =>
      intro h2
      cases h2 with
      | cons p t =>
        obtain ⟨vs, i1, i2⟩ := ih t
        exact ⟨_ :: vs, DVs.cons q.2.2.2.1 i1, .cons p.2.1 i2⟩
  exact go ev le
end
def rDct (G : Ctx) (P : List Addr → List (D × D) → Hp → VK → Prop) : List V → Hp → VK → Prop := fun xs H Q => ∃ r S d v kvs, xs = [v] ∧ RepS G r S H ∧ DV G.K r H d v ∧ dctD S d = some kvs ∧ P r kvs H Q
section
variable {X : Cx} {ca : Nat → Addr}
theorem cr_listD (hc : X.calm = true) : CallR X (.type "list") (rDct (gx X ca) fun r kvs H Q => ∀ l vs, H l = none → DVs X.K r H (kvs.map (·.1)) vs → Q (.ref l) (upd H l (.lst vs))) := by
  intro pins s σ H xs us Q I rr h
  obtain ⟨r, S, d, v, kvs, rfl, R, q, e, k⟩ := h
  obtain ⟨u, rfl, rx⟩ := vals1 rr
  obtain ⟨n, a, rfl, rfl, ea, e1, hov⟩ := dct_at R q e
  cases rx
  obtain ⟨es, ob, ents, ep, L⟩ := dlies_of I hov
  obtain ⟨vs, q1, rv⟩ := L.keys
  have hz : ents.size ≤ sizeLine := by rw [L.size]; exact L.sz
  refine PySem.W.kdl_call (PySem.KdlSrc.rawDict (es := ents) (ep := ep) L.sm) (I.ok.hd hc) L.raw hz fun h' tk acc c kp e2 it => ?_
  have hl : acc.toList = ents.toList.map (·.key) := by
    apply List.ext_getElem?
    intro j
    rw [Array.getElem?_toList, List.getElem?_map, Array.getElem?_toList]
    by_cases hj : j < ents.size
    · have hj' : j < acc.size := by rw [it.1]; exact hj
      obtain ⟨_, hv⟩ := it.2 j acc[j] (Array.getElem?_eq_getElem hj')
      rw [Array.getElem?_eq_getElem hj', Array.getElem?_eq_getElem hj, hv]
      rfl
    · rw [Array.getElem?_eq_none (by rw [it.1]; omega), Array.getElem?_eq_none (by omega)]
      rfl
  rw [← hl] at rv
  refine ⟨.ref _, _, I.laid (t' := tk) kp (Nat.le_refl _) (show ObjOk X.prog X.w _ h' _ (.lst vs) from ⟨?_, acc.toList, c, rv, ?_⟩), rfl, k _ vs (I.hok.fresh (Nat.le_refl _)) q1⟩
  · rw [rv.length, Array.length_toList, it.1]
    exact hz
  · rw [Array.toArray_toList]
    exact e2
theorem cr_lenD : CallR X (.builtin "len") (rDct (gx X ca) fun r kvs H Q => Q (.int kvs.length) H) := by
  intro pins s σ H xs us Q I rr h
  obtain ⟨r, S, d, v, kvs, rfl, R, q, e, k⟩ := h
  obtain ⟨u, rfl, rx⟩ := vals1 rr
  obtain ⟨n, a, rfl, rfl, ea, e1, hov⟩ := dct_at R q e
  cases rx
  obtain ⟨es, ob, ents, ep, L⟩ := dlies_of I hov
  have hsz := L.size
  have hz := L.sz
  have hfit : ((ents.size : Nat) : Int) < 2 ^ 63 := by
    have : sizeLine = 16777216 := sizeLine_eq
    omega
  refine Calls.call_function_entry kind_len plain_len entry_len (args_len1 _) ?_
  unfold Builtin.«len»
  refine wpAny_bind (m := oneArg "len" _) (wpAny_pure ?_)
  refine wpAny_bind (m := callSpecial? (.ref a) (Str.ofString "__len__")) ?_
  refine wpAny_callSpecial?_slot (name := Str.ofString "__len__") L.ty F.slot_dict_len (PySem.call_len_raw L.sm L.raw ?_)
  show wpAny _ _ _ _ _ { s with toks := s.toks + 1 }
  refine wpAny_bind (wpAny_holding (wpAny_pure ?_))
  refine wpAny_bind (wpAny_letGo ?_)
  show wpAny _ _ (if ((ents.size : Nat) : Int) < 0 then _ else _) _ _ _
  rw [if_neg (by omega)]
  show wpAny _ _ (if ((ents.size : Nat) : Int) ≥ 2 ^ 63 then _ else _) _ _ _
  rw [if_neg (by omega)]
  refine wpAny_bind (wpAny_mkInt (wpAny_pure ⟨_, rfl, ?_⟩))
  exact ⟨.int kvs.length, H, I.tok _, ⟨_, by rw [hsz]⟩, k⟩
def listQ : List D → Sto → Option (D × Sto) := fun xs S => match xs with
  | [d] => match dctD S d with
    | some kvs => some (.loc S.length, S ++ [.lst (kvs.map (·.1))])
    | none => listP [d] S
  | _ => none
def lenQ : List D → Sto → Option (D × Sto) := fun xs S => match xs with
  | [d] => match dctD S d with
    | some kvs => some (.int kvs.length, S)
    | none => lenP [d] S
  | _ => none
def rList1 (X : Cx) (ca : Nat → Addr) : List V → Hp → VK → Prop := fun xs H Q => (∃ p ys, xs = [.ref p] ∧ (SqL X.K H p ys ∨ SqT X.K H p ys) ∧ ∀ l, H l = none → Q (.ref l) (upd H l (.lst ys))) ∨ rDct (gx X ca) (fun r kvs H Q => ∀ l vs, H l = none → DVs X.K r H (kvs.map (·.1)) vs → Q (.ref l) (upd H l (.lst vs))) xs H Q
theorem call_list1 (hc : X.calm = true := by rfl) : CallR X (.type "list") (rList1 X ca) := call_list_of.or (cr_listD hc)
theorem prim_list1 : PrimL (gx X ca) (rList1 X ca) listQ := by
  intro r S H xs vs d S' Q R hv h k
  unfold listQ at h
  split at h
  · split at h
    · rename_i kvs e
      cases h
      obtain ⟨v, rfl, q⟩ := hv.one
      refine .inr ⟨r, S, _, v, kvs, rfl, R, q, e, fun l vs hl q1 => ?_⟩
      obtain ⟨x, R'⟩ := R.lst hl q1
      exact k _ _ _ x R' R.newLoc
    · exact .inl (prim_list r S H _ vs d S' Q R hv h k)
  · cases h
def rLen1 (X : Cx) (ca : Nat → Addr) : List V → Hp → VK → Prop := fun xs H Q => (∃ x n, xs = [x] ∧ LenV X.K x H n ∧ Q (.int n) H) ∨ rDct (gx X ca) (fun r kvs H Q => Q (.int kvs.length) H) xs H Q
theorem call_len1 : CallR X (.builtin "len") (rLen1 X ca) := call_len.or cr_lenD
theorem prim_len1 : PrimL (gx X ca) (rLen1 X ca) lenQ := by
  intro r S H xs vs d S' Q R hv h k
  unfold lenQ at h
  split at h
  · split at h
    · rename_i kvs e
      cases h
      obtain ⟨v, rfl, q⟩ := hv.one
      exact .inr ⟨r, _, _, v, kvs, rfl, R, q, e, k r H _ Ext.refl R mk_int⟩
    · exact .inl (prim_len r S H _ vs d S' Q R hv h k)
  · cases h
end
end DL
/-! DLw: a text with classes and constants: all its defs at once. -/
namespace DL
open PySem PySem.Spec L2
open PyProof.Rows hiding St

/-- what a text's tables say: n defs, nC classes -/
structure Tab where
  n : Nat
  nC : Nat
  nm : Nat → Str
  ql : Nat → Str
  ps : Nat → List Str
  st : Nat → Stmt
  cl : Nat → Option Nat
  nmC : Nat → Str
  ini : Nat → Nat
  flds : List (Nat × Str)
  meths : List (Nat × Nat)
  csts : List (Str × D)
  blts : List Str
/-- a module's constant -/
def CstOk (K : PySem.W.Frag) (mg : Str → Option Value) (x : Str) (d : D) : Prop := ∃ v u, mg x = some u ∧ RelV v u ∧ ∀ r H, DV K r H d v
structure TxC (T : Tab) (K : PySem.W.Frag) (mg : Str → Option Value) (a : Nat → Addr) (fd : Nat → FuncData) (ca : Nat → Addr) : Prop where
  fn : ∀ g (_ : g < T.n := by decide) (_ : T.cl g = none := by rfl), mg (T.nm g) = some (.ref (a g))
  fu : ∀ g (_ : g < T.n := by decide), Fun K (T.nm g) (T.ql g) (T.st g) (a g) (fd g)
  kp : ∀ g (_ : g < T.n := by decide), PySem.W.keepIn K (.ref (a g)) = true
  bn : ∀ g (_ : g < T.n := by decide), Binds K (fd g) (T.ps g) []
  no : ∀ x (_ : x ∈ T.blts), mg x = none
  cg : ∀ c (_ : c < T.nC := by decide), mg (T.nmC c) = some (.ref (ca c))
  ck : ∀ c (_ : c < T.nC := by decide), Cls K (ca c)
  mk_ : ∀ c (_ : c < T.nC := by decide), Mk K (ca c) (a (T.ini c))
  na : ∀ p ∈ T.flds, p.1 < T.nC ∧ NoAttr K (ca p.1) p.2
  me : ∀ p ∈ T.meths, p.1 < T.nC ∧ p.2 < T.n ∧ Meth K (ca p.1) (T.nm p.2) (a p.2)
  ks : ∀ p ∈ T.csts, CstOk K mg p.1 p.2
section
variable {T : Tab} {K : PySem.W.Frag} {mg : Str → Option Value} {a : Nat → Addr} {fd : Nat → FuncData} {ca : Nat → Addr}
theorem TxC.fo (x : TxC T K mg a fd ca) {cs : List Nat} {f : Str} (h : ∀ c ∈ cs, (c, f) ∈ T.flds) : FldOk K ca cs f := fun c hc => let ⟨h1, h2⟩ := x.na (c, f) (h c hc); ⟨x.ck c h1, h2⟩
theorem TxC.mo (x : TxC T K mg a fd ca) {c g n : Nat} {m : Str} (h : (c, g) ∈ T.meths) (hm : T.nm g = m) (hl : (T.ps g).length = n + 1) : MethOk K ca a fd T.ps m n (c, g) := by
  obtain ⟨h1, h2, h3⟩ := x.me (c, g) h
  subst hm
  exact ⟨x.ck c h1, h3, x.bn g h2, hl⟩
theorem TxC.m1 (x : TxC T K mg a fd ca) {c g n : Nat} {m : Str} (h : (c, g) ∈ T.meths) (hm : T.nm g = m) (hl : (T.ps g).length = n + 1) : ∀ p ∈ [(c, g)], MethOk K ca a fd T.ps m n p := fun p hp => by
  rw [List.mem_singleton.mp hp]
  exact x.mo h hm hl
theorem TxC.mc (x : TxC T K mg a fd ca) {c g n : Nat} {m : Str} {l : List (Nat × Nat)} (h : (c, g) ∈ T.meths) (hm : T.nm g = m) (hl : (T.ps g).length = n + 1) (t : ∀ p ∈ l, MethOk K ca a fd T.ps m n p) : ∀ p ∈ (c, g) :: l, MethOk K ca a fd T.ps m n p := fun p hp => by
  rcases List.mem_cons.mp hp with rfl | hp
  · exact x.mo h hm hl
  · exact t p hp
theorem TxC.kc (x : TxC T K mg a fd ca) {y : Str} {d : D} (h : (y, d) ∈ T.csts) : CstOk K mg y d := x.ks (y, d) h
theorem de_cst {X : Cx} {x : Str} {d : D} {pos : Pos} (h : CstOk X.K X.mg x d) (hg : Gl X x := by rfl) (hd : (x == ("__debug__" : Str)) = false := by decide) : PE X (.Name x pos) (liftE (gx X ca) (mC d)) := by
  obtain ⟨v, u, h1, h2, h3⟩ := h
  exact wkE (pe_glob hg h1 h2 hd) fun σ H Q ⟨r, env, S, d', S', R, W, h, k⟩ => by
    cases h
    exact k r H v Ext.refl R (h3 r H)
/-- the law's promise, the classes wherever they lie -/
def spA (K : PySem.W.Frag) (w : World) (n : Nat) (m : FM) : Sp := fun vs H Q E => ∀ ca : Nat → Addr, spD ⟨K, w, ca⟩ n m vs H Q E
theorem fn_spA {P : Program} {w : World} {base : Heap} {k : Nat} {f : Addr} {fdl : FuncData} {ps : List Str} {n : Nat} {m : FM} (F : FnOk P w K mg base CX0 k f fdl ps (spD ⟨K, w, ca⟩ n m)) : FnOk P w K mg base CX0 k f fdl ps (spA K w n m) := F.imp fun vs H Q E h => h ca
end
end DL
/-! DLw2: attributes, methods, making, dict comprehensions read backwards. -/
namespace DL
open PySem

section
variable {env : Vars} {S : Sto} {Q : D × Sto → Prop} {T : Fl × Vars × Sto → Prop} {a b : EM} {l : LM}
@[simp] theorem ow_mMG {ty : D → Sto → Bool} {p : D → List D → Sto → Option (D × Sto)} : Ow (mMG ty p a l env S) Q ↔ Ow (a env S) fun x => ty x.1 x.2 = true ∧ Ow (l env x.2) fun y => Ow (p x.1 y.1 y.2) Q := by
  unfold mMG
  cases a env S with
  | none => simp
  | some x =>
    obtain ⟨d, S1⟩ := x
    simp only [ow_some]
    by_cases h : ty d S1 = true
    · simp only [h, if_true, true_and]
      cases l env S1 <;> simp
    · simp [h]
@[simp] theorem ow_mFld {cs : List Nat} {f : Str} : Ow (mFld cs f a env S) Q ↔ Ow (a env S) fun x => Ow (fldP cs f x.1 x.2) Q := ow_m1
/-- a store of an attribute -/
def stF (cs : List Nat) (f : Str) (o v : D) (S : Sto) : Option Sto := match o with
  | .loc n => match S[n]? with
    | some (.ins c fs) => if c ∈ cs ∧ fs.length < 1000 then some (S.set n (.ins c (putD f v fs))) else none
    | _ => none
  | _ => none
@[simp] theorem ow_sFldD {cs : List Nat} {f : Str} : Ow (sFldD cs f a b env S) T ↔ Ow (a env S) fun y => Ow (b env y.2) fun x => Ow (stF cs f x.1 y.1 x.2) fun S3 => T (.nx, env, S3) := by
  unfold sFldD
  cases a env S with
  | none => simp
  | some y =>
    obtain ⟨v, S1⟩ := y
    simp only [ow_some]
    cases b env S1 with
    | none => simp
    | some x =>
      obtain ⟨o, S2⟩ := x
      simp only [ow_some]
      unfold stF
      cases o with
      | loc n =>
        simp only
        cases S2[n]? with
        | none => simp
        | some ob =>
          cases ob with
          | ins c fs =>
            simp only
            by_cases h : c ∈ cs ∧ fs.length < 1000
            · simp [h]
            · simp [h]
          | _ => simp
      | _ => simp
/-- which def a method's name stands for -/
def methOf (m : Str) (cands : List (Nat × Nat)) (o : D) (S : Sto) : Option (Nat × Nat) := match o with
  | .loc n => match S[n]? with
    | some (.ins c fs) => match fs.lookup m, cands.lookup c with
      | none, some g => some (n, g)
      | _, _ => none
    | _ => none
  | _ => none
@[simp] theorem ow_mMeth {m : Str} {cands : List (Nat × Nat)} {cl : Nat → FM} : Ow (mMeth m cands cl a l env S) Q ↔ Ow (a env S) fun x => Ow (methOf m cands x.1 x.2) fun g => Ow (l env x.2) fun y => Ow (cl g.2 (.loc g.1 :: y.1) y.2) Q := by
  unfold mMeth methOf
  cases a env S with
  | none => simp
  | some x =>
    obtain ⟨o, S1⟩ := x
    cases o with
    | loc n =>
      simp only [ow_some]
      cases S1[n]? with
      | none => simp
      | some ob =>
        cases ob with
        | ins c fs =>
          simp only
          cases fs.lookup m with
          | some _ => simp
          | none =>
            cases cands.lookup c with
            | none => simp
            | some g =>
              simp only [ow_some]
              cases l env S1 <;> simp
        | _ => simp
    | _ => simp
def asN : D → Option Unit
  | .non => some ()
  | _ => none
@[simp] theorem asN_non : asN .non = some () := rfl
@[simp] theorem ow_mMake {c : Nat} {m : FM} : Ow (mMake c m l env S) Q ↔ Ow (l env S) fun y => Ow (m (.loc y.2.length :: y.1) (y.2 ++ [.ins c []])) fun z => Ow (asN z.1) fun _ => Q (.loc y.2.length, z.2) := by
  unfold mMake
  cases l env S with
  | none => simp
  | some y =>
    obtain ⟨xs, S1⟩ := y
    simp only [ow_some]
    cases m (.loc S1.length :: xs) (S1 ++ [.ins c []]) with
    | none => simp
    | some z =>
      obtain ⟨d, S2⟩ := z
      cases d <;> simp [asN]
theorem ow_dc {mi : IM} {vs : List Nat} {t : Tgt} {tt : BM} {tk tv : EM} : Ow (mDc mi vs t tt tk tv env S) Q ↔ Ow (mi env S) fun x => Ow (dcL x.1 vs t tt tk tv env 0 [] x.2) fun y => Q (.loc y.2.length, y.2 ++ [.dct y.1]) := by
  unfold mDc
  cases mi env S with
  | none => simp
  | some x =>
    obtain ⟨it, S1⟩ := x
    simp only [ow_some]
    cases dcL it vs t tt tk tv env 0 [] S1 <;> simp
end
theorem dcL_inv {it : DIt} {vs : List Nat} {t : Tgt} {tt : BM} {tk tv : EM} {env : Vars} (its : List D) (I : Nat → List (D × D) → Sto → Prop) (hit : ∀ j acc S, I j acc S → itAt S it j = some its[j]?)
    (step : ∀ j d acc S, its[j]? = some d → I j acc S → ∃ env1, t.put (wipeD env vs) d = some env1 ∧ Ow (tt env1 S) fun x => if x.1 = true then Ow (tk env1 x.2) fun y => Ow (tv env1 y.2) fun z => (okKey y.1 = true ∧ acc.length < sizeLine) ∧ I (j + 1) (dput acc y.1 z.1) z.2 else I (j + 1) acc x.2) :
    ∀ (n j : Nat) (acc : List (D × D)) (S : Sto), its.length - j = n → j ≤ its.length → I j acc S → Ow (dcL it vs t tt tk tv env j acc S) fun x => I its.length x.1 x.2
  | 0, j, acc, S, hn, hj, h => by
    have e : j = its.length := by omega
    rw [dcL_eq, hit j acc S h, List.getElem?_eq_none (by omega)]
    simp only [ow_some]
    rw [← e]
    exact h
  | n + 1, j, acc, S, hn, hj, h => by
    have hlt : j < its.length := by omega
    rw [dcL_eq, hit j acc S h, List.getElem?_eq_getElem hlt]
    obtain ⟨env1, e1, ⟨b, S1⟩, e3, e4⟩ := step j _ acc S (List.getElem?_eq_getElem hlt) h
    simp only [e1, e3]
    cases b with
    | false => exact dcL_inv its I hit step n (j + 1) acc S1 (by omega) (by omega) (by simpa using e4)
    | true =>
      simp only [if_true] at e4
      obtain ⟨⟨y, S2⟩, e5, ⟨z, S3⟩, e6, e7, e8⟩ := e4
      simp only at e6 e7 e8
      simp only [e5, e6, if_pos e7]
      exact dcL_inv its I hit step n (j + 1) _ S3 (by omega) (by omega) e8
end DL
/-! DLs9: t[::-1] of tuples; xs.extend(tuple); a, b = x, y; (x,) * n. -/
namespace DL
open PySem PySem.Spec L2
open PyProof.Rows hiding St

section
variable {P : Program} {w : World} {A : Around} {E : Value → Shared → Prop} {s : Shared}
theorem applied_rev {sl : Addr} {u v z : Value} {n : Nat} {Q : Int × Int × Nat → Shared → Prop} (lies : s.heap.IsSliceOf sl u v z) (pu : IsPart u none) (pv : IsPart v none) (pz : IsPart z (some (-1))) (h : Q ((n : Int) - 1, -1, n) s) :
    wpAny (model P w) A (Builtin.Slice.sliceApplied (.ref sl) (pure (n : Int))) Q E s := by
  obtain ⟨ob, e0, ec, ed⟩ := id lies
  cases pu
  cases pv
  unfold Builtin.Slice.sliceApplied Builtin.Slice.sliceFields
  refine wpAny_bind (wpAny_bind (wpAny_field e0 ed (x := .none) rfl (wpAny_bind (wpAny_field e0 ed (x := .none) rfl (wpAny_bind (wpAny_field e0 ed (x := z) rfl (wpAny_pure ?_)))))))
  refine wpAny_bind (HT.slicePart_ pz ?_)
  show wpAny _ _ (if ((-1 : Int) == 0) = true then _ else _) _ _ s
  rw [if_neg (by decide)]
  refine wpAny_bind (HT.slicePart_ .none (wpAny_bind (HT.slicePart_ .none (wpAny_bind (wpAny_pure ?_)))))
  have e : Builtin.Slice.slicePlaces ((n : Int) - 1) (-1) (-1) = n := by
    unfold Builtin.Slice.slicePlaces
    rw [if_neg (by decide)]
    by_cases hn : n = 0
    · subst hn; decide
    · rw [if_pos (by omega)]
      have : ((n : Int) - 1 - -1 - 1) / (- -1) + 1 = n := by
        rw [show (- -1 : Int) = 1 from rfl, Int.ediv_one]
        omega
      rw [this]
      exact Int.toNat_natCast n
  show wpAny _ _ (pure ((n : Int) - 1, (-1 : Int), Builtin.Slice.slicePlaces ((n : Int) - 1) (-1) (-1))) _ _ s
  rw [e]
  exact wpAny_pure h
theorem pick_rev (us : List Value) : ((List.range us.length).filterMap fun (m : Nat) => us.toArray[(((us.length : Int) - 1) + (m : Int) * (-1)).toNat]?).toArray = us.reverse.toArray := by
  congr 1
  have e : ((List.range us.length).map fun (m : Nat) => us.toArray[(((us.length : Int) - 1) + (m : Int) * (-1)).toNat]?) = us.reverse.map some := by
    refine List.ext_getElem? fun i => ?_
    simp only [List.getElem?_map]
    by_cases hi : i < us.length
    · rw [List.getElem?_range hi, List.getElem?_reverse hi]
      have : (((us.length : Int) - 1) + (i : Int) * (-1)).toNat = us.length - 1 - i := by omega
      simp only [Option.map_some, this, List.getElem?_toArray]
      rw [List.getElem?_eq_getElem (by omega)]
      rfl
    · rw [List.getElem?_eq_none (by simpa using Nat.le_of_not_lt hi), List.getElem?_eq_none (by simpa using Nat.le_of_not_lt hi)]
      rfl
  have f : ∀ (g : Nat → Option Value) (l : List Nat) (r : List Value), l.map g = r.map some → l.filterMap g = r := fun g l => by
    induction l with
    | nil => intro r h; cases r with | nil => rfl | cons a r => simp at h
    | cons a l ih =>
      intro r h
      cases r with
      | nil => simp at h
      | cons b r =>
        simp only [List.map_cons, List.cons.injEq] at h
        rw [List.filterMap_cons_some h.1, ih r h.2]
  exact f _ _ _ e
/-- t[::-1] -/
theorem getItem_rev {t sl : Addr} {us : List Value} {u v z : Value} {Q : Value → Shared → Prop} (ht : IsTup s.heap t us.toArray) (lies : s.heap.IsSliceOf sl u v z) (pu : IsPart u none) (pv : IsPart v none) (pz : IsPart z (some (-1))) (size : us.length ≤ sizeLine)
    (h : Q (.ref s.heap.objs.size) { s with heap := s.heap.push { cls := .type "tuple", data := .seq us.reverse.toArray } }) : wpAny (model P w) A (getItem (.ref t) (.ref sl)) Q E s := by
  have isS : s.TypeIs (.ref sl) "slice" := lies.elim fun ob q => ⟨ob, q.1, q.2.1⟩
  have fits : sizeOk (.seq us.reverse.toArray) := by
    show us.reverse.toArray.size ≤ sizeLine
    rw [List.size_toArray, List.length_reverse]
    exact size
  unfold getItem
  try with_reducible refine wpAny_holding ?_
  first | refine wpAny_bind (wpAny_pure ?_) | skip
  refine wpAny_bind (wpAny_sequenceKey ht.typeIs (by decide) (wpAny_bind (wpAny_callSpecial?_slot (name := Str.ofString "__getitem__") ht.typeIs slot_tuple_getitem (wpAny_call_entry slot_tuple_getitem ht.typeIs entry_tuple_getitem ?_ (args_tuple_getitem _ _)))))
  show wpAny _ _ (Builtin.Tuple.tupleItemsOf (.ref t) >>= _) _ _ s
  refine wpAny_bind (tupleItemsOf_ ht (wpAny_bind (wpAny_typeOf isS ?_)))
  rw [if_pos (by decide)]
  have applied := fun {R : Int × Int × Nat → Shared → Prop} {A2 : Around} {E2 : Value → Shared → Prop} (k : R ((us.length : Int) - 1, -1, us.length) s) => applied_rev (P := P) (w := w) (A := A2) (E := E2) (n := us.length) lies pu pv pz k
  rw [show us.toArray.size = us.length from List.size_toArray]
  refine wpAny_bind (applied ?_)
  dsimp only
  rw [if_neg (by simp), pick_rev]
  first
    | exact wpAny_bind (m := Builtin.Tuple.tupleExact _) (wpAny_newObj_type (wpAny_pure ⟨_, rfl, wpAny_pure h⟩) fits)
    | exact wpAny_bind (m := Builtin.Tuple.tupleExact _) (wpAny_newObj_type (wpAny_bind (wpAny_pure (wpAny_pure ⟨_, rfl, wpAny_pure h⟩))) fits)
    | exact wpAny_bind (wpAny_bind (m := Builtin.Tuple.tupleExact _) (wpAny_newObj_type (wpAny_pure (wpAny_pure ⟨_, rfl, wpAny_pure h⟩)) fits))
    | exact wpAny_bind (wpAny_bind (m := Builtin.Tuple.tupleExact _) (wpAny_newObj_type (wpAny_pure ⟨_, rfl, wpAny_pure h⟩) fits))
end

/-! ### the rule for t[::-1] -/
def tRv (K : PySem.W.Frag) (te : TE) : TE := fun σ H Q => te σ H fun x H1 => ∃ a vs, x = .ref a ∧ SqT K H1 a vs ∧ ∀ p, H1 p = none → Q (.ref p) (upd H1 p (.tup vs.reverse))
section
variable {X : Cx} {e : Expr} {te : TE} {k : Nat} {q1 q2 q3 pos : Pos}
theorem pe_rvT (he : PE X e te) : PE X (.Subscript e (.Slice none none (some (.UnaryOp .USub (.Constant (.int 1) k q1) q2)) q3) pos) (tRv X.K te) := by
  have hz : PO X (some (.UnaryOp .USub (.Constant (.int 1) k q1) q2)) (tPart (tUn (rU fun i => .int (-i)) (tC (.int 1)))) := po_some (pe_un un_neg pe_int)
  constructor
  intro pins s σ H Q I h
  refine Subscript_ (thn (he.run pins s σ H _ I h) ?_)
  rintro v s1 ⟨x, H1, I1, r1, a, vs, rfl, hT, cont⟩
  cases r1
  refine wpAny_Slice (thn (po_none.run pins s1 σ H1 (fun o G1 => o = none ∧ H1 = G1) I1 ⟨rfl, rfl⟩) ?_)
  rintro w1 t1 ⟨_, _, J1, g1, rfl, rfl⟩
  refine thn (po_none.run pins t1 σ _ (fun o G2 => o = none ∧ H1 = G2) J1 ⟨rfl, rfl⟩) ?_
  rintro w2 t2 ⟨_, _, J2, g2, rfl, rfl⟩
  refine thn (hz.run pins t2 σ _ (fun o G3 => o = some (-1) ∧ H1 = G3) J2 ⟨1, rfl, -1, rfl, rfl, rfl⟩) ?_
  rintro w3 t3 ⟨_, _, J3, g3, rfl, rfl⟩
  have J4 : Inv X pins σ H1 { t3 with heap := t3.heap.push { cls := .type "slice", data := .fields #[w1, w2, w3] } } := J3.kept (t' := t3.toks) fun b ob q => Heap.get?_push_of_some _ q
  obtain ⟨its, rv, isT, hle⟩ := J4.tuple hT
  have hlen := rv.length
  show wpAny (model X.prog X.w) X.A (subscriptTail e (.Slice none none (some (.UnaryOp .USub (.Constant (.int 1) k q1) q2)) q3) (.ref a) (.ref t3.heap.objs.size)) (EP X pins σ Q) X.xe { t3 with heap := t3.heap.push { cls := .type "slice", data := .fields #[w1, w2, w3] } }
  refine tail_any (ops := [.ref a, .ref t3.heap.objs.size]) isT.typeIs (PyProof.Rows.slot_tuple_getitem.lookup) ?_ (by with_unfolding_all rfl)
  refine getItem_rev isT (Heap.IsSliceOf.new _ w1 w2 w3) g1 g2 g3 (by omega) ?_
  refine ⟨.ref _, _, J4.laid (t' := t3.toks) (o := .tup vs.reverse) (fun b ob q => Heap.get?_push_of_some _ q) (Nat.le_refl _) ?_, rfl, cont _ (J4.hok.fresh (Nat.le_refl _))⟩
  exact ⟨by rw [List.length_reverse]; exact hle, _, rv.reverse, IsTup.new _ _⟩
end
def revP : D → Sto → Option (D × Sto)
  | .tup ds, S => some (.tup ds.reverse, S)
  | _, _ => none
def rRv (K : PySem.W.Frag) : V → Hp → VK → Prop := fun x H1 Q => ∃ a vs, x = .ref a ∧ SqT K H1 a vs ∧ ∀ p, H1 p = none → Q (.ref p) (upd H1 p (.tup vs.reverse))
theorem prim_rv {G : Ctx} : Prim1 G (rRv G.K) revP := by
  intro r S H x v d S' Q R hv e k
  unfold revP at e
  split at e
  · cases e
    obtain ⟨a, vs, rfl, hT, q⟩ := dv_tup hv
    refine ⟨a, vs, rfl, hT, fun p hp => ?_⟩
    obtain ⟨x, R'⟩ := R.tup (vs := vs.reverse) hp
    exact k r _ _ x R' (DV.tup_mk (SqT.of upd_same) (DVs.ext x _ _ q.reverse))
  · cases e
theorem de_rev {X : Cx} {ca : Nat → Addr} {e : Expr} {ma : EM} {k : Nat} {q1 q2 q3 pos : Pos} (ha : PE X e (liftE (gx X ca) ma)) : PE X (.Subscript e (.Slice none none (some (.UnaryOp .USub (.Constant (.int 1) k q1) q2)) q3) pos) (liftE (gx X ca) (m1 revP ma)) :=
  wkE (pe_rvT ha) fun σ H Q h => lift1 (t := rRv X.K) prim_rv h

/-! ### xs.extend(t) -/
theorem list_extend_tupW (l : Addr) (items : Array Value) (n : Nat) (b : Addr) (items2 : Array Value) (n2 : Nat) (dd : Option Addr) (sl : Array (Option Value)) (hs0 : ¬(!items.isEmpty && Builtin.List.listTooLong (items.size + items2.size)) = true) (hs1 : items.size ≤ sizeLine) (hs2 : items.size + items2.size ≤ sizeLine + 1) :
    Meets (Builtin.«list.extend» ⟨[.ref l, .ref b], []⟩) (fun _ R s => (s.heap.get? l = some { cls := .type "list", dict := none, data := .seq items n, slots := #[] } ∧ s.heap.get? b = some { cls := .type "tuple", dict := dd, data := .seq items2 n2, slots := sl }) ∧ R (.ok (.ret Value.none)) { s with heap := s.heap.update l (Obj.mapSeq fun x => x ++ items2), toks := s.toks }) :=
  .of_wp fun prog w A R s h => by
    obtain ⟨hp, g, d, tk, os⟩ := s
    obtain ⟨⟨hl, hb⟩, h⟩ := h
    have g1 := AutoSeq1.idx_int
    have g2 := AutoSeq1.sub_tuple_tuple
    have g3 := AutoSeq1.sub_list_list
    have g4 := AutoSeq1.sub_tuple_list
    have g5 := AutoSeq1.sub_list_tuple
    have hz' : (items ++ items2).size ≤ sizeLine + 1 := by
      rw [Array.size_append]
      exact hs2
    wp_walk using (wpAny_updateSeq hl rfl (hz := hs1) (_hz' := hz')), wpAny_loadPart' hl, wpAny_loadPart' hb
    exact ⟨_, rfl, h⟩
def rExtT (K : PySem.W.Frag) : V → List V → Hp → VK → Prop := fun x vs H Q => ∃ l b xs zs, x = .ref l ∧ vs = [.ref b] ∧ H l = some (.lst xs) ∧ SqT K H b zs ∧ xs.length + zs.length ≤ sizeLine ∧ Q .non (upd H l (.lst (xs ++ zs)))
theorem mt_extT {X : Cx} : MtR X "list.extend" (rExtT X.K) := by
  intro pins s σ H x vs v us Q I rx rv h
  obtain ⟨l, b, xs, zs, rfl, rfl, hH, hT, hz, cont⟩ := h
  cases rx
  obtain ⟨u, rfl, ru⟩ := rv.one
  cases ru
  obtain ⟨z, its, n, rr, hl, e⟩ := I.lstM hH
  obtain ⟨its2, r2, ⟨⟨cls, dd, data, sl⟩, e2, hc, n2, hd⟩, hl2⟩ := I.tuple hT
  simp only at hc hd
  subst hc hd
  have hx1 := rr.length
  have hx2 := r2.length
  have tot : its.toArray.size + its2.toArray.size ≤ sizeLine := by
    simp only [List.size_toArray]
    omega
  refine call_meets F.slot_list_extend ⟨_, e, rfl⟩ F.entry_list_extend (F.args_list_extend_2 _ _)
    (list_extend_tupW l its.toArray n b its2.toArray n2 dd sl ?_ (by omega) (by omega)) ⟨⟨e, e2⟩, ?_⟩
  · rw [notLongL tot, Bool.and_false]
    exact Bool.false_ne_true
  · refine ⟨.non, _, I.lset (its' := its ++ its2) hH e (by simp) (rr.append r2) ?_, rfl, cont⟩
    simp only [List.length_append]
    omega
def extTP : D → List D → Sto → Option (D × Sto)
  | .loc n, [.tup es], S => match S[n]? with
    | some (.lst ds) => if ds.length + es.length ≤ sizeLine then some (.non, S.set n (.lst (ds ++ es))) else none
    | _ => none
  | _, _, _ => none
theorem prim_extT {G : Ctx} : PrimM G (rExtT G.K) extTP := by
  intro r S H x xs v vs d S' Q R hv hvs h k
  unfold extTP at h
  split at h
  · split at h
    · rename_i n es S ds e1
      split at h
      · rename_i hz
        cases h
        obtain ⟨a, ea, rfl⟩ := dv_loc hv
        obtain ⟨ws, h1, p1⟩ := R.lstAt e1 ea
        obtain ⟨y, rfl, qy⟩ := hvs.one
        obtain ⟨b, us, rfl, h2, p2⟩ := dv_tup qy
        obtain ⟨x, R'⟩ := R.wr (o' := .lst (ds ++ es)) (u := .lst (ws ++ us)) e1 ea fun x => ⟨_, upd_same, (DVs.ext x _ _ p1).append (DVs.ext x _ _ p2)⟩
        exact ⟨a, b, ws, us, rfl, rfl, h1, h2, by rw [p1.length, p2.length]; exact hz, k r _ _ x R' mk_non⟩
      · cases h
    · cases h
  · cases h

/-- either way -/
def rExtA (K : PySem.W.Frag) : V → List V → Hp → VK → Prop := fun x vs H Q => rExtend x vs H Q ∨ rExtT K x vs H Q
theorem mt_extA {X : Cx} : MtR X "list.extend" (rExtA X.K) := MtR.or (mt_extend (X := X)) mt_extT
def extQ : D → List D → Sto → Option (D × Sto)
  | x, [.tup es], S => extTP x [.tup es] S
  | x, xs, S => extP x xs S
theorem prim_extQ {G : Ctx} : PrimM G (rExtA G.K) extQ := by
  intro r S H x xs v vs d S' Q R hv hvs h k
  unfold extQ at h
  split at h
  · exact .inr (prim_extT r S H _ _ v vs d S' Q R hv hvs h k)
  · exact .inl (prim_ext r S H _ _ v vs d S' Q R hv hvs h k)

/-! ### t * k -/
section
theorem tup_times_one (l : Addr) (us : Array Value) (n : Nat) (dd : Option Addr) (sl : Array (Option Value)) (z : Tok) :
    Meets (Builtin.«tuple.__mul__» ⟨[.ref l, .int 1 z], []⟩) (fun _ R s => s.heap.get? l = some { cls := .type "tuple", dict := dd, data := .seq us n, slots := sl } ∧ R (.ok (.ret (.ref l))) s) :=
  .of_wp fun prog w A R s h => by
    obtain ⟨hp, g, d, tk, os⟩ := s
    obtain ⟨hl, h⟩ := h
    have g1 := AutoSeq1.idx_int
    have cnd : (us.isEmpty || (1 : Int) == 1) = true := by simp
    wp_walk using wpAny_loadPart' hl
    repeat (first
      | (refine wpAny_ite_false (by decide) ?_; wp_walk using wpAny_loadPart' hl)
      | (refine wpAny_ite_true (by simp) ?_; wp_walk using wpAny_loadPart' hl))
    exact ⟨_, rfl, h⟩
theorem tup_times_zero (l : Addr) (us : Array Value) (n : Nat) (dd : Option Addr) (sl : Array (Option Value)) (z : Tok) (full : us.isEmpty = false) :
    Meets (Builtin.«tuple.__mul__» ⟨[.ref l, .int 0 z], []⟩) (fun _ R s => s.heap.get? l = some { cls := .type "tuple", dict := dd, data := .seq us n, slots := sl } ∧ R (.ok (.ret (.ref s.heap.objs.size))) { s with heap := s.heap.push { cls := .type "tuple", data := .seq #[] } }) :=
  .of_wp fun prog w A R s h => by
    obtain ⟨hp, g, d, tk, os⟩ := s
    obtain ⟨hl, h⟩ := h
    have g1 := AutoSeq1.idx_int
    wp_walk using wpAny_loadPart' hl
    exact ⟨_, rfl, h⟩
def rTimes (K : PySem.W.Frag) : R2 := fun x y H Q => ∃ l k vs, x = .ref l ∧ y = .int k ∧ SqT K H l vs ∧ vs ≠ [] ∧ 0 ≤ k ∧ k ≤ 1000 ∧ vs.length ≤ 1000 ∧ (k = 1 → Q (.ref l) H) ∧ (k ≠ 1 → ∀ p, H p = none → Q (.ref p) (upd H p (.tup (List.replicate k.toNat vs).flatten)))
theorem op_times {X : Cx} : OpR X (binaryOp .Mult) (rTimes X.K) := by
  intro pins s σ H x y v u Q I rx ry h
  obtain ⟨l, k, vs, rfl, rfl, hT, full, low, high, hz, same, other⟩ := h
  by_cases two : 2 ≤ k
  · exact op_repT pins s σ H _ _ v u Q I rx ry ⟨l, k, vs, rfl, rfl, hT, full, two, high, hz, other (by omega)⟩
  cases rx
  obtain ⟨z, rfl⟩ := ry
  obtain ⟨its, rv, ⟨⟨cls, dd, data, sl⟩, ho, hc, n, hd⟩, hs⟩ := I.tuple hT
  simp only at hc hd
  subst hc hd
  have filled : its.toArray.isEmpty = false := by
    cases its with
    | nil =>
      have := rv.length
      exact absurd (List.eq_nil_of_length_eq_zero this) full
    | cons a b => rfl
  have road : ∀ {R : VK}, wpAny (model X.prog X.w) X.A (call (.builtin "tuple.__mul__") [.ref l, .int k z]) (EP X pins σ R) X.xe s → wpAny (model X.prog X.w) X.A (binaryOp .Mult (.ref l) (.int k z)) (EP X pins σ R) X.xe s := fun {R} go =>
    wpAny_binaryOp_repeat_ref (T := "tuple") (U := "int") (by decide) ⟨_, ho, rfl⟩ (fun s' => typeIs_int s' k z) noFill_tuple_mul F.fills_int_mul F.slot_int_rmul repeat_tuple F.slot_int_index.lookup
      (call_meets F.slot_int_rmul (typeIs_int s k z) F.entry_int_rmul (F.args_int_rmul_2 _ _) (int_rmul_tuple k z l its.toArray n dd sl) ⟨ho, rfl, ⟨_, ho, rfl⟩, go⟩)
  refine road ?_
  by_cases one : k = 1
  · subst one
    refine call_meets F.slot_tuple_mul ⟨_, ho, rfl⟩ F.entry_tuple_mul (F.args_tuple_mul_2 _ _) (tup_times_one l its.toArray n dd sl z) ⟨ho, ?_⟩
    exact ⟨.ref l, H, I, rfl, same rfl⟩
  · obtain rfl : k = 0 := by omega
    refine call_meets F.slot_tuple_mul ⟨_, ho, rfl⟩ F.entry_tuple_mul (F.args_tuple_mul_2 _ _) (tup_times_zero l its.toArray n dd sl z filled) ⟨ho, ?_⟩
    refine ⟨.ref s.heap.objs.size, _, I.laid (t' := s.toks) (o := .tup []) (fun b ob q => Heap.get?_push_of_some _ q) (Nat.le_refl _) ?_, rfl, other (by omega) _ (I.hok.fresh (Nat.le_refl _))⟩
    exact ⟨by simp, [], .nil, IsTup.new _ _⟩
end
def rMulA (K : PySem.W.Frag) : R2 := fun x y H Q => rI CMul (fun i j => .int (i * j)) x y H Q ∨ rTimes K x y H Q
theorem op_mulA {X : Cx} : OpR X (binaryOp .Mult) (rMulA X.K) := op_mul.or op_times
def mulQ : D → D → Sto → Option (D × Sto)
  | .tup ds, .int k, S => if ds = [] ∨ k < 0 ∨ 1000 < k ∨ 1000 < ds.length then none else some (.tup (List.replicate k.toNat ds).flatten, S)
  | x, y, S => mulP x y S
theorem dvs_times {K : PySem.W.Frag} {r : List Addr} {H : Hp} {ds : List D} {vs : List V} (q : DVs K r H ds vs) : ∀ m : Nat, DVs K r H (List.replicate m ds).flatten (List.replicate m vs).flatten
  | 0 => DVs.nil
  | m + 1 => q.append (dvs_times q m)
theorem prim_mulQ {G : Ctx} : Prim2 G (rMulA G.K) mulQ := by
  intro r S H x y v w d S' Q R hv hw h k
  unfold mulQ at h
  split at h
  · rename_i S ds i
    split at h
    · cases h
    · rename_i hz
      cases h
      obtain ⟨a, vs, rfl, hT, q⟩ := dv_tup hv
      have hl := q.length
      refine .inr ⟨a, i, vs, rfl, dv_int hw, hT, ?_, by omega, by omega, by omega, ?_, ?_⟩
      · rintro rfl
        exact hz (.inl (List.eq_nil_of_length_eq_zero hl.symm))
      · rintro rfl
        have e : (List.replicate (Int.toNat 1) ds).flatten = ds := by simp
        rw [e] at k
        exact k r H _ Ext.refl R hv
      · intro _ p hp
        obtain ⟨x, R'⟩ := R.tup (vs := (List.replicate i.toNat vs).flatten) hp
        exact k r _ _ x R' (DV.tup_mk (SqT.of upd_same) (DVs.ext x _ _ (dvs_times q _)))
  · exact .inl (prim_mul r S H _ _ v w d S' Q R hv hw h k)

/-! ### a, b = x, y -/
def sPar (i j : Nat) (l : LM) : SM := fun env S => match l env S with
  | some ([a, b], S1) => some (.nx, (env.set i (some a)).set j (some b), S1)
  | _ => none
theorem ds_par {X : Cx} {ca : Nat → Addr} {la : LM} {i j : Nat} {x y : Str} {a b : Expr} {p1 p2 p3 p4 pos : Pos} {c1 c2 : Nat} (hN : X.N.Nodup) (ha : PA X [a, b] (liftL (gx X ca) la)) (hi : X.N[i]? = some x := by rfl) (hj : X.N[j]? = some y := by rfl) (hij : i ≠ j := by decide)
    (hx : X.env.scope.names.lookup x = some .local := by rfl) (hy : X.env.scope.names.lookup y = some .local := by rfl) (hc : X.calm = true := by rfl)
    (hw : swappedStores [.Tuple [.Name x p1, .Name y p2] c1 p3] (.Tuple [a, b] c2 p4) X.env = pure (some [x, y]) := by rfl)
    (hs : swapsWithSole [.Tuple [.Name x p1, .Name y p2] c1 p3] (.Tuple [a, b] c2 p4) pos.line X.env = pure false := by rfl) :
    PS X (.Assign [.Tuple [.Name x p1, .Name y p2] c1 p3] (.Tuple [a, b] c2 p4) pos) (liftS (gx X ca) (sPar i j la)) :=
  wkS (ps_par hc hN hi hj hij hx hy ha hw hs) fun E σ H ⟨r, env, S, fl, env', S', R, W, h, k⟩ => by
    unfold sPar at h
    split at h
    · rename_i d e S1 e1
      cases h
      refine ⟨r, env, S, [d, e], _, R, W, e1, fun r1 H1 vs x1 R1 q1 => ?_⟩
      obtain ⟨v, w, rfl, q2, q3⟩ := q1.two
      exact ⟨v, w, rfl, k r1 _ H1 x1 R1 (((W.ext x1).set i q2).set j q3)⟩
    · cases h
/-! ### what they mean -/
section
variable {Q : D × Sto → Prop}
theorem ow_sPar {i j : Nat} {l : LM} {env : Vars} {S : Sto} {Q : Fl × Vars × Sto → Prop} : Ow (sPar i j l env S) Q ↔ Ow (l env S) fun x => ∃ a b, x.1 = [a, b] ∧ Q (.nx, (env.set i (some a)).set j (some b), x.2) := by
  unfold sPar
  constructor
  · rintro ⟨z, h, q⟩
    split at h
    · rename_i a b S1 e
      cases h
      exact ⟨_, e, a, b, rfl, q⟩
    · cases h
  · rintro ⟨⟨z, S1⟩, h, a, b, e, q⟩
    dsimp only at e
    subst e
    refine ⟨_, ?_, q⟩
    rw [h]
end
/-! ### a comprehension within a comprehension's block -/
def relIn (scope sc : Scope) : Scope :=
  { scope with names := scope.names.map fun p => if (p.2 == .free && sc.kind == .function && sc.names.lookup p.1 == some .cell) then (p.1, .cell) else (p.1, p.2) }
theorem blk_in {N : List Str} {sc scope s0 : Scope} {own : List (Str × Nat)} {env : Env} (hs : env.scope = sc) (h : blkC N (relIn s0 sc) scope own = true) : blkC N (PySem.relabel s0 env) scope own = true := by
  subst hs
  exact h
end DL
/-! DLen: enumerate. -/
namespace DL
open PySem PySem.Spec L2
open PyProof.Rows hiding St
section
variable {G : Ctx} {r : List Addr} {S : Sto} {H : Hp}
theorem itok_enm {d0 : D} {a : Addr} (h1 : DV G.K r H d0 (.ref a)) (nt : ∀ es, d0 ≠ .tup es) : ItOk G r H (.enm d0) (Ite G.K a) where
  go := fun r1 S1 H1 i d x R e => by
    simp only [itAt] at e
    split at e
    · rename_i ds e1
      have ed := Option.some.inj e
      have q : DV G.K r1 H1 d0 (.ref a) := DV.ext x _ _ h1
      obtain ⟨a', vs, ea, h2, h3⟩ := seq_cases R q e1
      cases ea
      rcases h3 with ⟨z, _⟩ | ⟨_, _, _, hs⟩
      · exact absurd z (nt _)
      · split at ed
        · rename_i y hy
          cases ed
          obtain ⟨v, ev, qv⟩ := h2.get hy
          refine ⟨⟨vs, v, hs, ev⟩, fun z H' hz => ?_⟩
          obtain ⟨T, u, rfl, hT, rfl, hu⟩ := hz
          have := hu vs hs
          rw [ev] at this
          cases this
          obtain ⟨x2, R2⟩ := R.tup (vs := [.int (i : Nat), v]) hT
          exact ⟨r1, x2, R2, DV.tup_mk (SqT.of upd_same) (DVs.cons mk_int (DVs.cons (DV.ext x2 _ _ qv) DVs.nil))⟩
        · cases ed
    · cases e
  stop := fun r1 S1 H1 i x R e => by
    simp only [itAt] at e
    split at e
    · rename_i ds e1
      have ed := Option.some.inj e
      have q : DV G.K r1 H1 d0 (.ref a) := DV.ext x _ _ h1
      obtain ⟨a', vs, ea, h2, h3⟩ := seq_cases R q e1
      cases ea
      rcases h3 with ⟨z, _⟩ | ⟨_, _, _, hs⟩
      · exact absurd z (nt _)
      · split at ed
        · cases ed
        · rename_i hy
          exact ⟨vs, hs, by rw [h2.length]; exact List.getElem?_eq_none_iff.mp hy⟩
    · cases e
end
/-- enumerate(a list) -/
def iEnmM (m : EM) : IM := fun env S => match m env S with
  | some (.loc n, S1) => match seqD S1 (.loc n) with
    | some _ => some (.enm (.loc n), S1)
    | none => none
  | _ => none
section
variable {X : Cx} {ca : Nat → Addr} {e : Expr} {ma : EM} {pos p tpos : Pos} {elts : List Expr} {kk : Nat}
theorem di_enm (hm : X.mg "enumerate" = none) (h : PE X e (liftE (gx X ca) ma)) (hg : Gl X "enumerate" := by rfl) (hs : starEach [e] X.env = [(false, eval e X.env)] := by rfl) (hs1 : starEach [e] X.env = (false, eval e X.env) :: starEach [] X.env := by rfl) : PI X (.Tuple elts kk tpos) (.Call (.Name "enumerate" p) [e] [] pos) (liftI (gx X ca) (iEnmM ma)) :=
  wkI (pi_enum hg hm (pa_cons h pa_nil hs1) hs) fun σ H Q ⟨r, env, S, it, S', R, W, h, k⟩ => by
    unfold iEnmM at h
    split at h
    · rename_i n S1 e1
      split at h
      · rename_i ds e2
        cases h
        refine ⟨r, env, S, _, _, R, W, e1, fun r1 H1 v x1 R1 q1 => ?_⟩
        obtain ⟨a, vs, rfl, h2, hs⟩ := loc_list R1 q1 e2
        exact ⟨a, vs, rfl, hs, k r1 H1 _ x1 R1 (itok_enm q1 (fun es z => by cases z))⟩
      · cases h
    · cases h
end
theorem ow_iEnm {m : EM} {env : Vars} {S : Sto} {Q : DIt × Sto → Prop} : Ow (iEnmM m env S) Q ↔ Ow (m env S) fun x => ∃ n, x.1 = .loc n ∧ (seqD x.2 (.loc n)).isSome = true ∧ Q (.enm (.loc n), x.2) := by
  unfold iEnmM
  constructor
  · rintro ⟨z, h, q⟩
    split at h
    · rename_i n S1 e
      split at h
      · rename_i ds e2
        cases h
        exact ⟨_, e, n, rfl, by rw [e2]; rfl, q⟩
      · cases h
    · cases h
  · rintro ⟨⟨d, S1⟩, h, n, e, e2, q⟩
    dsimp only at e e2
    subst e
    obtain ⟨ds, e3⟩ := Option.isSome_iff_exists.mp e2
    refine ⟨_, ?_, q⟩
    rw [h]
    simp only [e3]
end DL
/-! DLst: a text walked; a text in a text. -/
namespace DL
open PySem PySem.Spec L2
open PyProof.Rows hiding St
/-- the characters -/
def chD (x : Str) : List D := x.cps.toList.map fun c => .str ⟨#[c]⟩
theorem chD_at {x : Str} {i : Nat} : (chD x)[i]? = (x.cps[i]?).map fun c => .str ⟨#[c]⟩ := by
  simp [chD, List.getElem?_map]
section
variable {G : Ctx} {r : List Addr} {S : Sto} {H : Hp}
theorem itok_str {x : Str} : ItOk G r H (.seq (.tup (chD x))) (Its x) where
  go := fun r1 S1 H1 i d y R e => by
    simp only [itAt, seqD, Option.some.injEq] at e
    rw [chD_at] at e
    obtain ⟨c, hc, rfl⟩ := Option.map_eq_some_iff.mp e
    refine ⟨(Array.getElem?_eq_some_iff.mp hc).1, fun z H' hz => ?_⟩
    obtain ⟨rfl, c', hc', rfl⟩ := hz
    rw [hc] at hc'
    cases hc'
    exact ⟨r1, Ext.refl, R, mk_str⟩
  stop := fun r1 S1 H1 i y R e => by
    simp only [itAt, seqD, Option.some.injEq] at e
    rw [chD_at] at e
    exact Array.getElem?_eq_none_iff.mp (Option.map_eq_none_iff.mp e)
end
def iTxtM (m : EM) : IM := fun env S => match m env S with
  | some (.str x, S1) => some (.seq (.tup (chD x)), S1)
  | _ => none
section
variable {X : Cx} {ca : Nat → Addr} {tg e : Expr} {ma : EM}
theorem di_txt (h : PE X e (liftE (gx X ca) ma)) : PI X tg e (liftI (gx X ca) (iTxtM ma)) :=
  wkI (pi_str h) fun σ H Q ⟨r, env, S, it, S', R, W, h, k⟩ => by
    unfold iTxtM at h
    split at h
    · rename_i x S1 e1
      cases h
      exact ⟨r, env, S, _, _, R, W, e1, fun r1 H1 v x1 R1 q1 => ⟨x, dv_str q1, k r1 H1 _ x1 R1 itok_str⟩⟩
    · cases h
end
theorem ow_iTxt {m : EM} {env : Vars} {S : Sto} {Q : DIt × Sto → Prop} : Ow (iTxtM m env S) Q ↔ Ow (m env S) fun y => ∃ x, y.1 = .str x ∧ Q (.seq (.tup (chD x)), y.2) := by
  unfold iTxtM
  constructor
  · rintro ⟨z, h, q⟩
    split at h
    · rename_i x S1 e
      cases h
      exact ⟨_, e, x, rfl, q⟩
    · cases h
  · rintro ⟨⟨d, S1⟩, h, x, e, q⟩
    dsimp only at e
    subst e
    refine ⟨_, ?_, q⟩
    rw [h]
/-- a text in a text -/
def inSP : D → D → Sto → Option (D × Sto)
  | .str i, .str j, S => some (.bl (!(Builtin.Str.occurrences j i 0 j.length 1).isEmpty), S)
  | _, _, _ => none
def rInS : R2 := fun x y H Q => ∃ i j, x = .str i ∧ y = .str j ∧ Q (.bl (!(Builtin.Str.occurrences j i 0 j.length 1).isEmpty)) H
theorem op_inS {X : Cx} : OpR X (compareOp .In) rInS := op_in_str
theorem prim_inS {G : Ctx} : Prim2 G rInS inSP := by
  intro r S H x y v w d S' Q R hv hw h k
  unfold inSP at h
  split at h
  · cases h
    rw [dv_str hv, dv_str hw]
    exact ⟨_, _, rfl, rfl, k r H _ Ext.refl R mk_bl⟩
  · cases h
/-! ### list(range(n)), reversed(range(n)) -/
def rgD (n : Int) : List D := (List.range (n - 0).toNat).map fun i => D.int (0 + (i : Nat))
theorem dvs_rg {K : PySem.W.Frag} {r : List Addr} {H : Hp} (n : Int) : DVs K r H (rgD n) (rgV 0 n) := by
  unfold rgD rgV
  generalize List.range (n - 0).toNat = l
  induction l with
  | nil => exact DVs.nil
  | cons a l ih => exact DVs.cons mk_int ih
def mLstRg (m : EM) : EM := fun env S => match m env S with
  | some (.int n, S1) => if 0 ≤ n ∧ n ≤ 16777216 then some (.loc S1.length, S1 ++ [.lst (rgD n)]) else none
  | _ => none
def iRevRgM (m : EM) : IM := fun env S => match m env S with
  | some (.int n, S1) => if 0 ≤ n ∧ n ≤ 16777216 then some (.seq (.tup (rgD n).reverse), S1) else none
  | _ => none
section
variable {X : Cx} {ca : Nat → Addr} {tg e : Expr} {ma : EM} {p p2 pos pos2 : Pos}
theorem de_listRg (hml : X.mg "list" = none) (hmr : X.mg "range" = none) (h : PE X e (liftE (gx X ca) ma)) (hc : X.calm = true := by rfl) (hg : Gl X "list" := by rfl) (hg2 : Gl X "range" := by rfl) (na : starEach [e] X.env = (false, eval e X.env) :: starEach [] X.env := by rfl) (nb : starEach [Expr.Call (.Name "range" p2) [e] [] pos2] X.env = (false, eval (.Call (.Name "range" p2) [e] [] pos2) X.env) :: starEach [] X.env := by rfl) :
    PE X (.Call (.Name "list" p) [.Call (.Name "range" p2) [e] [] pos2] [] pos) (liftE (gx X ca) (mLstRg ma)) :=
  wkE (pe_listRg hc hg hml (prg_1 hg2 hmr h na) nb) fun σ H Q ⟨r, env, S, d, S', R, W, h, k⟩ => by
    unfold mLstRg at h
    split at h
    · rename_i n S1 e1
      split at h
      · rename_i hz
        cases h
        refine ⟨r, env, S, _, _, R, W, e1, fun r1 H1 v x1 R1 q1 => ⟨n, dv_int q1, RgOk.of_le (by omega) (by omega) (by omega) (by omega), fun q hq => ?_⟩⟩
        obtain ⟨x, R'⟩ := R1.lst hq (dvs_rg n)
        exact k _ _ _ (x1.trans x) R' R1.newLoc
      · cases h
    · cases h
theorem itok_rev {G : Ctx} {r : List Addr} {H : Hp} {n : Int} (h0 : 0 ≤ n) : ItOk G r H (.seq (.tup (rgD n).reverse)) (Itc (0 + (((n - 0).toNat : Nat) : Int) - 1) (-1) (n - 0).toNat) where
  go := fun r1 S1 H1 i d y R e => by
    simp only [itAt, seqD, Option.some.injEq] at e
    have hl : (rgD n).length = (n - 0).toNat := by simp [rgD]
    have hi := (List.getElem?_eq_some_iff.mp e).1
    rw [List.length_reverse, hl] at hi
    rw [List.getElem?_reverse (by rw [hl]; exact hi), hl] at e
    refine ⟨hi, fun z H' hz => ?_⟩
    obtain ⟨rfl, rfl⟩ := hz
    refine ⟨r1, Ext.refl, R, ?_⟩
    have : d = .int (0 + (((n - 0).toNat : Nat) : Int) - 1 + (i : Nat) * (-1)) := by
      simp only [rgD, List.getElem?_map, List.getElem?_range (show (n - 0).toNat - 1 - i < (n - 0).toNat by omega), Option.map_some, Option.some.injEq] at e
      rw [← e]
      congr 1
      omega
    rw [this]
    exact mk_int
  stop := fun r1 S1 H1 i y R e => by
    simp only [itAt, seqD, Option.some.injEq] at e
    have hl : (rgD n).length = (n - 0).toNat := by simp [rgD]
    have := List.getElem?_eq_none_iff.mp e
    rw [List.length_reverse, hl] at this
    exact this
theorem di_revRg (hmv : X.mg "reversed" = none) (hmr : X.mg "range" = none) (h : PE X e (liftE (gx X ca) ma)) (hg : Gl X "reversed" := by rfl) (hg2 : Gl X "range" := by rfl) (na : starEach [e] X.env = (false, eval e X.env) :: starEach [] X.env := by rfl) (nb : starEach [Expr.Call (.Name "range" p2) [e] [] pos2] X.env = (false, eval (.Call (.Name "range" p2) [e] [] pos2) X.env) :: starEach [] X.env := by rfl) :
    PI X tg (.Call (.Name "reversed" p) [.Call (.Name "range" p2) [e] [] pos2] [] pos) (liftI (gx X ca) (iRevRgM ma)) :=
  wkI (pi_revR hg hmv (prg_1 hg2 hmr h na) nb) fun σ H Q ⟨r, env, S, it, S', R, W, h, k⟩ => by
    unfold iRevRgM at h
    split at h
    · rename_i n S1 e1
      split at h
      · rename_i hz
        cases h
        exact ⟨r, env, S, _, _, R, W, e1, fun r1 H1 v x1 R1 q1 => ⟨n, dv_int q1, by omega, by omega, by omega, by omega, k r1 H1 _ x1 R1 (itok_rev hz.1)⟩⟩
      · cases h
    · cases h
end
end DL
/-! DLkg: .get of a dict of the module with text keys. -/
namespace DL
open PySem PySem.Spec L2
open PyProof.Rows hiding St
/-- what stands in the module's dict -/
structure KTb (K : PySem.W.Frag) (w : World) (d : Addr) (t : List (Str × D)) : Prop where
  kd : ∃ es n, KDict K w d es n
  at_ : ∀ z : Str, match t.lookup z with
    | some x => ∃ u v, PySem.W.nsIn K d z = some (some u) ∧ RelV v u ∧ ∀ r H, DV K r H x v
    | none => PySem.W.nsIn K d z = some none
def mKG (t : List (Str × D)) (l : LM) : EM := fun env S => match l env S with
  | some ([.str z, y], S1) => some ((t.lookup z).getD y, S1)
  | _ => none
section
variable {X : Cx} {ca : Nat → Addr} {o e1 e2 : Expr} {la : LM} {apos cpos : Pos} {d : Addr} {t : List (Str × D)}
theorem de_kget (D : KTb X.K X.w d t) (ho : PE X o (tC (.ref d))) (ha : PA X [e1, e2] (liftL (gx X ca) la))
    (hbase : attributeBase o "get" X.env (eval o X.env) = eval o X.env := by rfl)
    (hfew : ((backTo cpos (starEach [e1, e2] X.env)).all (fun x => !x.1) && (backToKw cpos (keywordEach [] X.env)).all (fun x => x.1.isSome) && decide ([e1, e2].length + ([] : List Keyword).length + (if ([] : List Keyword).isEmpty then 0 else 1) < 30)) = true := by rfl)
    (hline : (apos.endLine == cpos.line) = true := by rfl) (hs : starEach [e1, e2] X.env = (false, eval e1 X.env) :: starEach [e2] X.env := by rfl) (hplain : (backTo cpos (starEach [e2] X.env)).any (·.1) = false := by rfl) :
    PE X (.Call (.Attribute o "get" apos) [e1, e2] [] cpos) (liftE (gx X ca) (mKG t la)) := by
  refine ⟨fun pins s σ H Q I ⟨r, env, S, dd, S', R, W, h, k⟩ => ?_⟩
  obtain ⟨⟨es, n, kd⟩, look⟩ := D
  unfold mKG at h
  split at h
  · rename_i z y S1 q1
    cases h
    refine wpAny_Call_method_late hbase hfew hline rfl (thn (ho.run pins s σ H (fun v H1 => v = .ref d ∧ H1 = H) I ⟨rfl, rfl⟩) ?_)
    rintro u s1 ⟨v, H1, I1, rv, rfl, rfl⟩
    cases rv
    refine ⟨"dict", "dict.get", PySem.F.plainAttrs_dict, PySem.F.slot_dict_get, PySem.F.type_dict_get, kd_type kd I1, ?_, ?_⟩
    · rintro a ⟨⟩
      exact ⟨_, I1.kIn _ _ kd.at_, rfl⟩
    have hA := ha.run cpos pins s1 σ _ (fun vs H2 => ∃ r2, Ext X.K r _ r2 H2 ∧ RepS (gx X ca) r2 S' H2 ∧ DVs X.K r2 H2 [.str z, y] vs) I1 ⟨r, env, S, _, _, R, W, q1, fun r2 H2 vs x2 R2 q2 => ⟨r2, x2, R2, q2⟩⟩
    rw [hs] at hA ⊢
    refine Calls.callWith_builtin (by show (false || (backTo cpos (starEach [e2] X.env)).any (·.1)) = false; rw [hplain] <;> rfl) (Calls.evalArgs_plain ?_)
    refine thn hA ?_
    rintro us s2 ⟨vs, H2, I2, rvs, r2, x2, R2, q2⟩
    obtain ⟨kv, dv, rfl, qk, qd⟩ := q2.two
    rw [dv_str qk] at rvs
    obtain ⟨ku, du, rfl, rk, rd⟩ := vals2 rvs
    obtain ⟨tk, rfl⟩ := rk
    have hm := PySem.W.mapOf_K (prog := X.prog) (w := X.w) I2.kIn kd.at_ kd.lit
    refine PySem.call_meetsIn PySem.F.slot_dict_get hm.typeIs PySem.F.entry_dict_get (PySem.F.args_dict_get_3 _ _ _) (meets_dict_get_default (strKind X.prog X.w) d (PySem.strKind_is X.prog X.w z tk) kd.low du) ⟨_, hm, ?_⟩
    have lk := look z
    cases hz : t.lookup z with
    | none =>
      rw [hz] at lk k
      rw [PySem.W.find_K kd.at_ lk]
      exact ⟨dv, _, I2.tok _, rd, k r2 _ dv x2 R2 qd⟩
    | some x =>
      rw [hz] at lk k
      obtain ⟨u, v, e3, rv, qv⟩ := lk
      rw [PySem.W.find_K kd.at_ e3]
      exact ⟨v, _, I2.tok _, rv, k r2 _ v x2 R2 (qv _ _)⟩
  · cases h
end
/-- a name of the module that is such a dict -/
def KtOk (K : PySem.W.Frag) (w : World) (mg : Str → Option Value) (x : Str) (t : List (Str × D)) : Prop := ∃ d, mg x = some (.ref d) ∧ KTb K w d t
section
variable {X : Cx} {ca : Nat → Addr} {x : Str} {e1 e2 : Expr} {la : LM} {npos apos cpos : Pos} {t : List (Str × D)}
theorem de_kgetG (h : KtOk X.K X.w X.mg x t) (ha : PA X [e1, e2] (liftL (gx X ca) la)) (hg : Gl X x := by rfl) (hd : (x == ("__debug__" : Str)) = false := by decide)
    (hbase : attributeBase (.Name x npos) "get" X.env (eval (.Name x npos) X.env) = eval (.Name x npos) X.env := by rfl)
    (hfew : ((backTo cpos (starEach [e1, e2] X.env)).all (fun x => !x.1) && (backToKw cpos (keywordEach [] X.env)).all (fun x => x.1.isSome) && decide ([e1, e2].length + ([] : List Keyword).length + (if ([] : List Keyword).isEmpty then 0 else 1) < 30)) = true := by rfl)
    (hline : (apos.endLine == cpos.line) = true := by rfl) (hs : starEach [e1, e2] X.env = (false, eval e1 X.env) :: starEach [e2] X.env := by rfl) (hplain : (backTo cpos (starEach [e2] X.env)).any (·.1) = false := by rfl) :
    PE X (.Call (.Attribute (.Name x npos) "get" apos) [e1, e2] [] cpos) (liftE (gx X ca) (mKG t la)) := by
  obtain ⟨d, h1, h2⟩ := h
  exact de_kget h2 (pe_glob hg h1 rfl hd) ha hbase hfew hline hs hplain
end
/-- entries that stand for a table -/
inductive RelTb (P : Params) (K : PySem.W.Frag) : List DictEntry → List (Str × D) → Prop
  | nil : RelTb P K [] []
  | cons {x : Str} {t : Tok} {u : Value} {v : V} {y : D} {es : List DictEntry} {ts : List (Str × D)} (hv : RelV v u) (hd : ∀ r H, DV K r H y v) (h : RelTb P K es ts) : RelTb P K (⟨PyData.keyHash P x, .str x t, u⟩ :: es) ((x, y) :: ts)
theorem RelTb.lit {P : Params} {K : PySem.W.Frag} {es : List DictEntry} {ts : List (Str × D)} (h : RelTb P K es ts) : PySem.W.KeysLit P es := by
  induction h with
  | nil => exact trivial
  | cons _ _ _ ih => exact ⟨⟨_, _, rfl, rfl⟩, ih⟩
theorem RelTb.find {P : Params} {K : PySem.W.Frag} {es : List DictEntry} {ts : List (Str × D)} (h : RelTb P K es ts) (z : Str) :
    es.any (·.refKey) = false ∧ match ts.lookup z with
    | some x => ∃ e v, es.find? (·.key.isStr z) = some e ∧ RelV v e.val ∧ ∀ r H, DV K r H x v
    | none => es.find? (·.key.isStr z) = none := by
  induction h with
  | nil => exact ⟨rfl, rfl⟩
  | @cons x t u v y es ts hv hd h ih =>
    refine ⟨by rw [List.any_cons, ih.1]; rfl, ?_⟩
    have e1 : (Value.str x t).isStr z = (z == x) := by
      show (x == z) = (z == x)
      exact Bool.beq_comm
    rw [List.lookup_cons, List.find?_cons]
    dsimp only
    rw [e1]
    cases z == x with
    | true => exact ⟨_, v, rfl, hv, hd⟩
    | false => exact ih.2
theorem KTb.of {K : PySem.W.Frag} {w : World} {d : Addr} {es : List DictEntry} {n : Nat} {ts : List (Str × D)} (hl : K.lookup d = some ⟨.type "dict", none, .dict es.toArray n, #[]⟩) (low : (d == sysModules) = false) (h : RelTb w.params K es ts) : KTb K w d ts where
  kd := ⟨_, n, hl, by simpa using h.lit, low⟩
  at_ := fun z => by
    have hz := (h.find z).2
    have ha := (h.find z).1
    have en : PySem.W.nsIn K d z = (match es.find? (·.key.isStr z) with
      | some e => some (some e.val)
      | none => if es.any (·.refKey) then none else some none) := by
      unfold PySem.W.nsIn
      rw [hl]
      rfl
    rw [en]
    cases q : ts.lookup z with
    | none =>
      rw [q] at hz
      dsimp only at hz ⊢
      rw [hz, ha]
      rfl
    | some x =>
      rw [q] at hz
      obtain ⟨e, v, h1, h2, h3⟩ := hz
      dsimp only
      rw [h1]
      exact ⟨_, v, rfl, h2, h3⟩
end DL
/-! DLx: trees without truth values: == and keys are equality; dicts as sets. -/
namespace DL
open PySem

mutual
def D.nb : D → Bool
  | .non => true
  | .int _ => true
  | .str _ => true
  | .tup ds => D.nbs ds
  | .bl _ => false
  | .loc _ => false
  | .scr _ => false
def D.nbs : List D → Bool
  | [] => true
  | d :: ds => D.nb d && D.nbs ds
end
theorem nbs_all : ∀ {ds : List D}, D.nbs ds = true ↔ ∀ d ∈ ds, d.nb = true
  | [] => by simp [D.nbs]
  | d :: ds => by simp [D.nbs, nbs_all (ds := ds)]
mutual
theorem nb_pure : ∀ d : D, d.nb = true → d.pure = true
  | .non, _ => rfl
  | .int _, _ => rfl
  | .str _, _ => rfl
  | .tup ds, h => by
    simp only [D.nb] at h
    simp only [D.pure]
    exact nbs_pure ds h
  | .bl _, h => by simp [D.nb] at h
  | .loc _, h => by simp [D.nb] at h
  | .scr _, h => by simp [D.nb] at h
theorem nbs_pure : ∀ ds : List D, D.nbs ds = true → D.pures ds = true
  | [], _ => rfl
  | d :: ds, h => by
    simp only [D.nbs, Bool.and_eq_true] at h
    simp only [D.pures, Bool.and_eq_true]
    exact ⟨nb_pure d h.1, nbs_pure ds h.2⟩
end
mutual
theorem nb_eqv : ∀ x y : D, x.nb = true → y.nb = true → (PyData.eqv x.py y.py = true ↔ x = y)
  | .non, y, _, hy => by cases y <;> simp [D.py, PyData.eqv, D.nb] at hy ⊢
  | .int i, y, _, hy => by cases y <;> simp [D.py, PyData.eqv, D.nb] at hy ⊢
  | .str i, y, _, hy => by cases y <;> simp [D.py, PyData.eqv, D.nb] at hy ⊢
  | .tup xs, y, hx, hy => by
    cases y with
    | tup ys =>
      simp only [D.nb] at hx hy
      simp only [D.py, PyData.eqv, D.tup.injEq]
      exact nbs_eqv xs ys hx hy
    | _ => simp [D.py, PyData.eqv, D.nb] at hy ⊢
  | .bl _, _, h, _ => by simp [D.nb] at h
  | .loc _, _, h, _ => by simp [D.nb] at h
  | .scr _, _, h, _ => by simp [D.nb] at h
theorem nbs_eqv : ∀ xs ys : List D, D.nbs xs = true → D.nbs ys = true → (PyData.eqvAll (D.pys xs) (D.pys ys) = true ↔ xs = ys)
  | [], [], _, _ => by simp [D.pys, PyData.eqvAll]
  | [], y :: ys, _, _ => by simp [D.pys, PyData.eqvAll]
  | x :: xs, [], _, _ => by simp [D.pys, PyData.eqvAll]
  | x :: xs, y :: ys, hx, hy => by
    simp only [D.nbs, Bool.and_eq_true] at hx hy
    simp only [D.pys, PyData.eqvAll, Bool.and_eq_true, List.cons.injEq]
    rw [nb_eqv x y hx.1 hy.1, nbs_eqv xs ys hx.2 hy.2]
end
mutual
theorem nb_key : ∀ x y : D, x.nb = true → y.nb = true → (x.key = y.key ↔ x = y)
  | .non, y, _, hy => by cases y <;> simp [D.key, D.nb] at hy ⊢
  | .int i, y, _, hy => by cases y <;> simp [D.key, D.nb] at hy ⊢
  | .str i, y, _, hy => by cases y <;> simp [D.key, D.nb] at hy ⊢
  | .tup xs, y, hx, hy => by
    cases y with
    | tup ys =>
      simp only [D.nb] at hx hy
      simp only [D.key, NestedKey.tup.injEq, D.tup.injEq]
      exact nbs_key xs ys hx hy
    | _ => simp [D.key, D.nb] at hy ⊢
  | .bl _, _, h, _ => by simp [D.nb] at h
  | .loc _, _, h, _ => by simp [D.nb] at h
  | .scr _, _, h, _ => by simp [D.nb] at h
theorem nbs_key : ∀ xs ys : List D, D.nbs xs = true → D.nbs ys = true → (D.keys xs = D.keys ys ↔ xs = ys)
  | [], [], _, _ => by simp
  | [], y :: ys, _, _ => by simp [D.keys]
  | x :: xs, [], _, _ => by simp [D.keys]
  | x :: xs, y :: ys, hx, hy => by
    simp only [D.nbs, Bool.and_eq_true] at hx hy
    simp only [D.keys, List.cons.injEq]
    rw [nb_key x y hx.1 hy.1, nbs_key xs ys hx.2 hy.2]
end
noncomputable instance : DecidableEq D := fun _ _ => Classical.propDecidable _

/-! ### look-up by equality -/
/-- the value at a key, by equality -/
noncomputable def lookD (kvs : List (D × D)) (k : D) : Option D := match kvs with
  | [] => none
  | (x, v) :: r => if x = k then some v else lookD r k
def nbK (kvs : List (D × D)) : Prop := ∀ p ∈ kvs, p.1.nb = true
theorem kIx_cons {x : NestedKey} {ks : List NestedKey} {k : NestedKey} : kIx (x :: ks) k = if x = k then some 0 else (kIx ks k).map (· + 1) := by
  unfold kIx
  rw [List.findIdx?_cons]
  by_cases h : x = k
  · simp [h]
  · simp [h]
theorem dget_cons {x v k : D} {r : List (D × D)} (hx : x.nb = true) (hk : k.nb = true) : dget ((x, v) :: r) k = if x = k then some v else dget r k := by
  unfold dget dIx dkeys
  simp only [List.map_cons, kIx_cons, nb_key x k hx hk]
  by_cases h : x = k
  · simp [h]
  · simp only [h, if_false]
    cases kIx (r.map (·.1.key)) k.key <;> simp
theorem dput_cons {x v k w : D} {r : List (D × D)} (hx : x.nb = true) (hk : k.nb = true) : dput ((x, v) :: r) k w = if x = k then (x, w) :: r else (x, v) :: dput r k w := by
  unfold dput dIx dkeys
  simp only [List.map_cons, kIx_cons, nb_key x k hx hk]
  by_cases h : x = k
  · simp [h]
  · simp only [h, if_false]
    cases kIx (r.map (·.1.key)) k.key <;> simp
theorem dget_nil {k : D} : dget [] k = none := rfl
theorem dput_nil {k w : D} : dput [] k w = [(k, w)] := rfl
theorem dget_look : ∀ {kvs : List (D × D)} {k : D}, nbK kvs → k.nb = true → dget kvs k = lookD kvs k
  | [], k, _, _ => rfl
  | (x, v) :: r, k, h, hk => by
    rw [dget_cons (h _ List.mem_cons_self) hk, lookD, dget_look (fun p hp => h p (List.mem_cons_of_mem _ hp)) hk]
theorem look_put : ∀ {kvs : List (D × D)} {k w y : D}, nbK kvs → k.nb = true → lookD (dput kvs k w) y = if k = y then some w else lookD kvs y
  | [], k, w, y, _, _ => by rw [dput_nil]; simp [lookD]
  | (x, v) :: r, k, w, y, h, hk => by
    rw [dput_cons (h _ List.mem_cons_self) hk]
    by_cases e : x = k
    · subst e
      simp only [if_true, lookD]
      by_cases e2 : x = y <;> simp [e2]
    · simp only [e, if_false, lookD]
      rw [look_put (fun p hp => h p (List.mem_cons_of_mem _ hp)) hk]
      by_cases e2 : x = y
      · subst e2
        simp [e, Ne.symm (show k ≠ x from fun z => e z.symm)]
        intro z
        exact absurd z.symm e
      · simp [e2]
theorem nbK_put : ∀ {kvs : List (D × D)} {k w : D}, nbK kvs → k.nb = true → nbK (dput kvs k w)
  | [], k, w, _, hk => by rw [dput_nil]; intro p hp; rw [List.mem_singleton.mp hp]; exact hk
  | (x, v) :: r, k, w, h, hk => by
    rw [dput_cons (h _ List.mem_cons_self) hk]
    by_cases e : x = k
    · simp only [e, if_true]
      intro p hp
      rcases List.mem_cons.mp hp with rfl | hp
      · exact hk
      · exact h p (List.mem_cons_of_mem _ hp)
    · simp only [e, if_false]
      intro p hp
      rcases List.mem_cons.mp hp with rfl | hp
      · exact h _ List.mem_cons_self
      · exact nbK_put (fun p hp => h p (List.mem_cons_of_mem _ hp)) hk p hp

/-! ### sets: dicts whose values are True -/
def mkSet (xs : List D) : List (D × D) := xs.map fun x => (x, .bl true)
noncomputable def ins (xs : List D) (k : D) : List D := if k ∈ xs then xs else xs ++ [k]
theorem nbK_set {xs : List D} (h : ∀ x ∈ xs, x.nb = true) : nbK (mkSet xs) := by
  intro p hp
  obtain ⟨x, hx, rfl⟩ := List.mem_map.mp hp
  exact h x hx
theorem look_set : ∀ {xs : List D} {k : D}, lookD (mkSet xs) k = if k ∈ xs then some (.bl true) else none
  | [], k => by simp [mkSet, lookD]
  | x :: xs, k => by
    have ih := look_set (xs := xs) (k := k)
    simp only [mkSet, List.map_cons, lookD] at ih ⊢
    rw [ih]
    by_cases e : x = k
    · simp [e]
    · simp [e, show k ≠ x from fun z => e z.symm]
theorem has_set {xs : List D} {k : D} (h : ∀ x ∈ xs, x.nb = true) (hk : k.nb = true) : (dget (mkSet xs) k).isSome = decide (k ∈ xs) := by
  rw [dget_look (nbK_set h) hk, look_set]
  by_cases e : k ∈ xs <;> simp [e]
theorem put_set : ∀ {xs : List D} {k : D}, (∀ x ∈ xs, x.nb = true) → k.nb = true → dput (mkSet xs) k (.bl true) = mkSet (ins xs k)
  | [], k, _, _ => by simp [mkSet, ins, dput_nil]
  | x :: xs, k, h, hk => by
    have ih := put_set (xs := xs) (k := k) (fun y hy => h y (List.mem_cons_of_mem _ hy)) hk
    simp only [mkSet, List.map_cons, ins] at ih ⊢
    rw [dput_cons (h x List.mem_cons_self) hk, ih]
    by_cases e : x = k
    · simp [e]
    · have e' : k ≠ x := fun z => e z.symm
      by_cases e2 : k ∈ xs <;> simp [e, e', e2]
theorem keys_set {xs : List D} : (mkSet xs).map (·.1) = xs := by
  rw [mkSet, List.map_map, show ((fun x : D × D => x.1) ∘ fun x => (x, D.bl true)) = id from rfl, List.map_id]
theorem mem_ins {xs : List D} {k y : D} : y ∈ ins xs k ↔ y ∈ xs ∨ y = k := by
  unfold ins
  by_cases e : k ∈ xs
  · simp only [e, if_true]
    exact ⟨.inl, fun z => z.elim id fun z => z ▸ e⟩
  · simp [e]
theorem nodup_ins {xs : List D} {k : D} (h : xs.Nodup) : (ins xs k).Nodup := by
  unfold ins
  by_cases e : k ∈ xs
  · simp only [e, if_true]
    exact h
  · simp only [e, if_false]
    rw [List.nodup_append]
    exact ⟨h, by simp, fun a ha b hb => by simp at hb; subst hb; exact fun z => e (z ▸ ha)⟩
end DL
/-! DLy: the class Ways (edges, and where they lead), as several laws have it. -/
namespace DL
open PySem

/-- an edge as a tree -/
abbrev Ed := D × D × D
def enc (p : Ed) : D := .tup [p.1, p.2.1, p.2.2]
def Ed.nb (p : Ed) : Prop := p.1.nb = true ∧ p.2.1.nb = true ∧ p.2.2.nb = true
theorem enc_inj {p q : Ed} : enc p = enc q ↔ p = q := by
  obtain ⟨a, b, c⟩ := p
  obtain ⟨x, y, z⟩ := q
  simp [enc]
theorem enc_nb {p : Ed} (h : p.nb) : (enc p).nb = true := by
  simp [enc, D.nb, D.nbs, h.1, h.2.1, h.2.2]
/-- where the edges lead from x by s, in order -/
noncomputable def tg (E : List Ed) (x s : D) : List D := (E.filter fun p => decide (p.1 = x ∧ p.2.1 = s)).map (·.2.2)
theorem mem_tg {E : List Ed} {x s y : D} : y ∈ tg E x s ↔ (x, s, y) ∈ E := by
  simp only [tg, List.mem_map, List.mem_filter, decide_eq_true_eq]
  constructor
  · rintro ⟨⟨a, b, c⟩, ⟨h, rfl, rfl⟩, rfl⟩
    exact h
  · intro h
    exact ⟨_, ⟨h, rfl, rfl⟩, rfl⟩
/-- a Ways object at n of the store, of the edges E; F its places -/
structure WAt (c : Nat) (S : Sto) (n : Nat) (E : List Ed) (F : Nat → Prop) : Prop where
  nb : ∀ p ∈ E, p.nb
  nd : E.Nodup
  ex : ∃ (e t : Nat) (kvs : List (D × D)), S[n]? = some (.ins c [("_edges", .loc e), ("_to", .loc t)]) ∧ S[e]? = some (.dct (mkSet (E.map enc))) ∧ S[t]? = some (.dct kvs) ∧ nbK kvs ∧ F n ∧ F e ∧ F t ∧ e ≠ t ∧ E.length ≤ 1000 ∧ kvs.length ≤ E.length ∧
    (∀ x s, x.nb = true → s.nb = true → match lookD kvs (.tup [x, s]) with
      | none => tg E x s = []
      | some d => ∃ l, d = .loc l ∧ F l ∧ S[l]? = some (.lst (tg E x s))) ∧
    ∀ x s x' s' l, x.nb = true → s.nb = true → x'.nb = true → s'.nb = true → lookD kvs (.tup [x, s]) = some (.loc l) → lookD kvs (.tup [x', s']) = some (.loc l) → x = x' ∧ s = s'
theorem WAt.frame {c n : Nat} {S S' : Sto} {E : List Ed} {F : Nat → Prop} (w : WAt c S n E F) (h : ∀ j, F j → S'[j]? = S[j]?) : WAt c S' n E F := by
  obtain ⟨nb, nd, e, t, kvs, h1, h2, h3, h4, h5, h6, h7, h8, h9, h9', h10, h11⟩ := w
  refine ⟨nb, nd, e, t, kvs, (h n h5).trans h1, (h e h6).trans h2, (h t h7).trans h3, h4, h5, h6, h7, h8, h9, h9', fun x s hx hs => ?_, h11⟩
  have := h10 x s hx hs
  split
  · rename_i q
    rw [q] at this
    exact this
  · rename_i d q
    rw [q] at this
    obtain ⟨l, r1, r2, r3⟩ := this
    exact ⟨l, r1, r2, (h l r2).trans r3⟩
theorem get_app {S U : Sto} {j : Nat} {o : Ob} (h : S[j]? = some o) : (S ++ U)[j]? = some o := by
  rw [List.getElem?_append_left (List.getElem?_eq_some_iff.mp h).1]
  exact h
theorem WAt.app {c n : Nat} {S : Sto} {E : List Ed} {F : Nat → Prop} (w : WAt c S n E F) (U : Sto) : WAt c (S ++ U) n E F := by
  obtain ⟨nb, nd, e, t, kvs, h1, h2, h3, h4, h5, h6, h7, h8, h9, h9', h10, h11⟩ := w
  refine ⟨nb, nd, e, t, kvs, get_app h1, get_app h2, get_app h3, h4, h5, h6, h7, h8, h9, h9', fun x s hx hs => ?_, h11⟩
  have := h10 x s hx hs
  split
  · rename_i q
    rw [q] at this
    exact this
  · rename_i d q
    rw [q] at this
    obtain ⟨l, r1, r2, r3⟩ := this
    exact ⟨l, r1, r2, get_app r3⟩
@[simp] theorem fld_at {c n : Nat} {S : Sto} {fs : List (Str × D)} {f : Str} {d : D} {cs : List Nat} (h : S[n]? = some (.ins c fs)) (hc : c ∈ cs) (hl : fs.lookup f = some d) : fldP cs f (.loc n) S = some (d, S) := by
  simp [fldP, h, hc, hl]
theorem key2 {x s : D} (hx : x.nb = true) (hs : s.nb = true) (h2 : x.depth ≤ 6) (h3 : s.depth ≤ 6) : okKey (.tup [x, s]) = true := by
  have : (D.tup [x, s]).pure = true := nb_pure _ (by simp [D.nb, D.nbs, hx, hs])
  simp [okKey, this, D.depth, D.depths]
  omega
end DL
/-! DLz: what the methods of Ways do. -/
namespace DL
open PySem

theorem len_sub : ∀ {fs l : List D}, fs.Nodup → (∀ y ∈ fs, y ∈ l) → fs.length ≤ l.length
  | [], _, _, _ => Nat.zero_le _
  | y :: fs, l, nd, h => by
    have hy : y ∈ l := h y List.mem_cons_self
    have nd' := List.nodup_cons.mp nd
    have e := List.length_erase_of_mem hy
    have hp : 0 < l.length := List.length_pos_of_mem hy
    have := len_sub (fs := fs) (l := l.erase y) nd'.2 fun z hz => (List.mem_erase_of_ne (by rintro rfl; exact nd'.1 hz)).mpr (h z (List.mem_cons_of_mem _ hz))
    simp only [List.length_cons]
    omega
noncomputable def afterB (c : Nat) : SM := (sSeq (sAsg mDNew (gVar 3)) (sSeq (sFor (iSeq (mVar 1)) (gVar 4) (sFor (iSeq (mMG isDct getP (mFld [c] "_to" (mVar 0)) (lCons (mL tupP (lCons (mVar 4) (lCons (mVar 2) lNil))) (lCons (mL lstP lNil) lNil)))) (gVar 5) (sAsg (mC (.bl true)) (gSubM (mVar 3) (mVar 5))))) (sRet (mL listQ (lCons (mVar 3) lNil)))))
theorem set_app {S U : Sto} {o o' : Ob} : (S ++ o :: U).set S.length o' = S ++ o' :: U := by simp
theorem at_app {S U : Sto} {o : Ob} : (S ++ o :: U)[S.length]? = some o := by simp
/-- found[y] = True -/
theorem setP_set {S U : Sto} {fs : List D} {y : D} (h : ∀ x ∈ fs, x.nb = true) (hy : y.nb = true) (hd : y.depth ≤ 8) (hz : fs.length ≤ 1000) : setP (.loc S.length) y (.bl true) (S ++ .dct (mkSet fs) :: U) = some (S ++ .dct (mkSet (ins fs y)) :: U) := by
  have ok : okKey y = true := by simp [okKey, nb_pure y hy, hd]
  have e : dctD (S ++ .dct (mkSet fs) :: U) (.loc S.length) = some (mkSet fs) := by simp [dctD]
  simp only [setP, e, ok, true_and]
  rw [if_pos (by rw [mkSet, List.length_map]; exact fits_lt hz), put_set h hy, set_app]
/-- the inner loop of after: targets laid into the set -/
theorem lay_ok {S : Sto} {l : Nat} {its : List D} {o0 o1 o2 o4 : Option D} {fs : List D} {U : Sto} {o5 : Option D} (hl : (S ++ .dct (mkSet fs) :: U)[l]? = some (.lst its)) (hls : l ≠ S.length) (hi : ∀ y ∈ its, y.nb = true ∧ y.depth ≤ 6) (hf : ∀ y ∈ fs, y.nb = true) (nd : fs.Nodup) (M : List D) (hM : ∀ y, y ∈ fs ∨ y ∈ its → y ∈ M) (hMl : M.length ≤ 1000) :
    Ow (forL (.seq (.loc l)) (gVar 5) (sAsg (mC (.bl true)) (gSubM (mVar 3) (mVar 5))) 0 [o0, o1, o2, some (.loc S.length), o4, o5] (S ++ .dct (mkSet fs) :: U)) fun x => x.1 = .nx ∧ ∃ fs' o5', x.2 = ([o0, o1, o2, some (.loc S.length), o4, o5'], S ++ .dct (mkSet fs') :: U) ∧ fs'.Nodup ∧ ∀ y, y ∈ fs' ↔ y ∈ fs ∨ y ∈ its := by
  have key : ∀ (fs1 : List D), (S ++ .dct (mkSet fs1) :: U)[l]? = some (.lst its) := fun fs1 => by
    rw [← hl]
    by_cases h : l < S.length
    · rw [List.getElem?_append_left h, List.getElem?_append_left h]
    · rw [List.getElem?_append_right (by omega), List.getElem?_append_right (by omega)]
      obtain ⟨k, hk⟩ : ∃ k, l - S.length = k + 1 := ⟨l - S.length - 1, by omega⟩
      rw [hk]
      rfl
  refine forL_inv its (fun j env S1 => ∃ fs1 o5', env = [o0, o1, o2, some (.loc S.length), o4, o5'] ∧ S1 = S ++ .dct (mkSet fs1) :: U ∧ fs1.Nodup ∧ ∀ y, y ∈ fs1 ↔ y ∈ fs ∨ y ∈ its.take j) _ (fun j env S1 ⟨fs1, o5', _, e2, _⟩ => by rw [e2]; simp [itAt, seqD, key fs1]) (fun env S1 ⟨fs1, o5', e1, e2, e3, e4⟩ => ⟨rfl, fs1, o5', by rw [e1, e2], e3, by simpa using e4⟩)
    (fun j d env S1 hj ⟨fs1, o5', e1, e2, e3, e4⟩ => ?_) its.length 0 _ _ (by simp) (by simp) ⟨fs, o5, rfl, rfl, nd, by simp⟩
  subst e1 e2
  have hd := hi d (List.mem_of_getElem? hj)
  have h1 : ∀ x ∈ fs1, x.nb = true := fun x hx => ((e4 x).mp hx).elim (hf x) fun z => (hi x (List.mem_of_mem_take z)).1
  have h2 : fs1.length ≤ 1000 := Nat.le_trans (len_sub e3 fun y hy => hM y (((e4 y).mp hy).imp id List.mem_of_mem_take)) hMl
  simp [setP_set h1 hd.1 (by omega) h2]
  refine ⟨ins fs1 d, rfl, nodup_ins e3, fun y => ?_⟩
  rw [mem_ins, e4, List.take_add_one, hj]
  simp [or_assoc]
/-- self._to.get((x, s), []) -/
theorem to_get {c n : Nat} {S : Sto} {E : List Ed} {F : Nat → Prop} (w : WAt c S n E F) {x s : D} (hx : x.nb = true) (hs : s.nb = true) (dx : x.depth ≤ 6) (ds : s.depth ≤ 6) :
    ∃ t kvs, fldP [c] "_to" (.loc n) S = some (.loc t, S) ∧ S[t]? = some (.dct kvs) ∧ ∀ U df, ∃ d, getP (.loc t) [.tup [x, s], df] (S ++ U) = some (d, S ++ U) ∧ ((d = df ∧ tg E x s = []) ∨ ∃ l, d = .loc l ∧ F l ∧ S[l]? = some (.lst (tg E x s))) := by
  obtain ⟨nb, nd, e, t, kvs, h1, h2, h3, h4, h5, h6, h7, h8, h9, h9', h10, h11⟩ := w
  have ok := key2 hx hs dx ds
  have hk : (D.tup [x, s]).nb = true := by simp [D.nb, D.nbs, hx, hs]
  refine ⟨t, kvs, fld_at h1 (by simp) (by rfl), h3, fun U df => ?_⟩
  have hd : dctD (S ++ U) (.loc t) = some kvs := by simp [dctD, get_app h3]
  have hl := h10 x s hx hs
  simp only [getP, hd, ok, if_true, dget_look h4 hk]
  split at hl
  · rename_i q
    rw [q]
    exact ⟨df, rfl, .inl ⟨rfl, hl⟩⟩
  · rename_i d q
    rw [q]
    obtain ⟨l, rfl, r2, r3⟩ := hl
    exact ⟨.loc l, rfl, .inr ⟨l, rfl, r2, r3⟩⟩
/-- after(nodes, symbol): the targets, each once; the store only grows -/
theorem after_ok {c n : Nat} {S : Sto} {E : List Ed} {F : Nat → Prop} (w : WAt c S n E F) (hF : ∀ p ∈ E, p.2.2.depth ≤ 6) {d s : D} {xs : List D} (hd : seqD S d = some xs) (hx : ∀ x ∈ xs, x.nb = true ∧ x.depth ≤ 6) (hs : s.nb = true) (ds : s.depth ≤ 6) :
    Ow (runB 6 (afterB c) [.loc n, d, s] S) fun x => ∃ ys U, x.1 = .loc (S.length + U.length) ∧ x.2 = S ++ (U ++ [.lst ys]) ∧ ys.Nodup ∧ ∀ y, y ∈ ys ↔ ∃ x ∈ xs, (x, s, y) ∈ E := by
  have hE : E.length ≤ 1000 := by
    obtain ⟨_, _, e, t, kvs, _, _, _, _, _, _, _, _, h, _⟩ := w
    exact h
  have tn : ∀ x y, y ∈ tg E x s → y.nb = true ∧ y.depth ≤ 6 := fun x y hy => ⟨(w.nb _ (mem_tg.mp hy)).2.2, hF _ (mem_tg.mp hy)⟩
  have hd' : ∀ U, seqD (S ++ U) d = some xs := fun U => by
    cases d with
    | tup es => simpa [seqD] using hd
    | scr ns => simpa [seqD] using hd
    | loc m =>
      simp only [seqD] at hd ⊢
      cases q : S[m]? with
      | none => rw [q] at hd; cases hd
      | some o => rw [get_app q]; rw [q] at hd; exact hd
    | _ => cases hd
  rw [ow_runB]
  unfold afterB
  simp [ow_for, hd']
  refine (forL_inv xs (fun j env S1 => ∃ fs U o4 o5, env = [some (.loc n), some d, some s, some (.loc S.length), o4, o5] ∧ S1 = S ++ .dct (mkSet fs) :: U ∧ fs.Nodup ∧ ∀ y, y ∈ fs ↔ ∃ x ∈ xs.take j, (x, s, y) ∈ E)
    (fun x => x.1 = .nx ∧ ∃ fs U o4 o5, x.2.1 = [some (.loc n), some d, some s, some (.loc S.length), o4, o5] ∧ x.2.2 = S ++ .dct (mkSet fs) :: U ∧ fs.Nodup ∧ ∀ y, y ∈ fs ↔ ∃ x ∈ xs, (x, s, y) ∈ E)
    (fun j env S1 ⟨fs, U, o4, o5, _, e2, _⟩ => by rw [e2]; simp [itAt, hd']) (fun env S1 ⟨fs, U, o4, o5, e1, e2, e3, e4⟩ => ⟨rfl, fs, U, o4, o5, e1, e2, e3, by simpa using e4⟩)
    (fun j x env S1 hj ⟨fs, U, o4, o5, e1, e2, e3, e4⟩ => ?_) xs.length 0 _ _ (by simp) (by simp) ⟨[], [], none, none, rfl, by simp [mkSet], List.nodup_nil, by simp⟩).imp ?_
  · subst e1 e2
    have hxx := hx x (List.mem_of_getElem? hj)
    obtain ⟨t, kvs, f1, f2, f3⟩ := to_get (w.app (.dct (mkSet fs) :: U)) hxx.1 hs hxx.2 ds
    simp [f1, tup_ok, lst_ok, ow_for]
    obtain ⟨d', g1, g2⟩ := f3 [.lst []] (.loc (S.length + (U.length + 1)))
    simp only [List.append_assoc, List.cons_append] at g1
    refine ⟨by simp [isDct, dctD, f2], ?_⟩
    rw [g1]
    simp only [ow_some]
    have lay : ∀ l its, (S ++ .dct (mkSet fs) :: (U ++ [.lst []]))[l]? = some (.lst its) → its = tg E x s → d' = .loc l → (seqD (S ++ .dct (mkSet fs) :: (U ++ [.lst []])) d').isSome = true ∧ Ow (forL (.seq d') (gVar 5) (sAsg (mC (.bl true)) (gSubM (mVar 3) (mVar 5))) 0 [some (.loc n), some d, some s, some (.loc S.length), some x, o5] (S ++ .dct (mkSet fs) :: (U ++ [.lst []])))
        fun y => y.1 = .nx ∧ ∃ fs' o5', y.2 = ([some (.loc n), some d, some s, some (.loc S.length), some x, o5'], S ++ .dct (mkSet fs') :: (U ++ [.lst []])) ∧ fs'.Nodup ∧ ∀ y, y ∈ fs' ↔ y ∈ fs ∨ y ∈ its := by
      intro l its hl hi hd
      subst hi hd
      have hne : l ≠ S.length := by
        rintro rfl
        rw [at_app] at hl
        cases hl
      refine ⟨by simp [seqD, hl], lay_ok hl hne (fun y hy => tn x y hy) (fun y hy => ?_) e3 (E.map (·.2.2)) (fun y hy => ?_) (by rw [List.length_map]; exact hE)⟩
      · obtain ⟨x', _, h2⟩ := (e4 y).mp hy
        exact (w.nb _ h2).2.2
      · rcases hy with hy | hy
        · obtain ⟨x', _, h2⟩ := (e4 y).mp hy
          exact List.mem_map.mpr ⟨_, h2, rfl⟩
        · exact List.mem_map.mpr ⟨_, mem_tg.mp hy, rfl⟩
    have fin : (seqD (S ++ .dct (mkSet fs) :: (U ++ [.lst []])) d').isSome = true ∧ Ow (forL (.seq d') (gVar 5) (sAsg (mC (.bl true)) (gSubM (mVar 3) (mVar 5))) 0 [some (.loc n), some d, some s, some (.loc S.length), some x, o5] (S ++ .dct (mkSet fs) :: (U ++ [.lst []])))
        fun y => y.1 = .nx ∧ ∃ fs' o5', y.2 = ([some (.loc n), some d, some s, some (.loc S.length), some x, o5'], S ++ .dct (mkSet fs') :: (U ++ [.lst []])) ∧ fs'.Nodup ∧ ∀ y, y ∈ fs' ↔ y ∈ fs ∨ y ∈ tg E x s := by
      rcases g2 with ⟨rfl, g2⟩ | ⟨l, rfl, _, g2⟩
      · refine lay (S.length + (U.length + 1)) _ ?_ rfl rfl
        rw [List.getElem?_append_right (by omega), show S.length + (U.length + 1) - S.length = U.length + 1 by omega, g2]
        simp
      · refine lay l _ ?_ rfl rfl
        have := get_app (U := [.lst []]) g2
        simpa using this
    refine ⟨fin.1, fin.2.imp ?_⟩
    rintro ⟨fl, env, S2⟩ ⟨rfl, fs', o5', he, nd', hm⟩
    cases he
    refine ⟨⟨_, _, rfl⟩, fs', ⟨_, rfl⟩, nd', fun y => ?_⟩
    rw [hm, e4, mem_tg, List.take_add_one, hj]
    simp only [List.mem_append, Option.toList_some, List.mem_singleton]
    constructor
    · rintro (⟨x', h1, h2⟩ | h)
      · exact ⟨x', .inl h1, h2⟩
      · exact ⟨x, .inr rfl, h⟩
    · rintro ⟨x', h1 | rfl, h2⟩
      · exact .inl ⟨x', h1, h2⟩
      · exact .inr h2
  · rintro ⟨fl, env, S1⟩ ⟨rfl, fs, U, o4, o5, rfl, rfl, e3, e4⟩
    simp [listQ, dctD, keys_set]
    refine ⟨fs, .dct (mkSet fs) :: U, by simp, by simp, e3, e4⟩
end DL
/-! DLz2: freely: the nodes that None edges reach. -/
namespace DL
open PySem

/-- ways of edges without a symbol -/
inductive Fr (E : List Ed) (x : D) : D → Prop where
  | refl : Fr E x x
  | step {y z : D} : Fr E x y → (y, .non, z) ∈ E → Fr E x z
/-- targets not found yet -/
noncomputable def nf (E : List Ed) (fs : List D) : Nat := ((E.map (·.2.2)).filter fun y => decide (y ∉ fs)).length
theorem nf_app {E : List Ed} {fs : List D} {y : D} (h : y ∈ E.map (·.2.2)) (hn : y ∉ fs) : nf E (fs ++ [y]) + 1 ≤ nf E fs := by
  unfold nf
  generalize E.map (·.2.2) = T at h
  induction T with
  | nil => cases h
  | cons t T ih =>
    have mono : ∀ T : List D, (T.filter fun z => decide (z ∉ fs ++ [y])).length ≤ (T.filter fun z => decide (z ∉ fs)).length := fun T => by
      induction T with
      | nil => simp
      | cons a T ih =>
        by_cases h1 : a ∈ fs
        · have : a ∈ fs ++ [y] := by simp [h1]
          simp [List.filter_cons, h1] at ih ⊢
          exact ih
        · by_cases h2 : a = y
          · subst h2
            simp [List.filter_cons, h1] at ih ⊢
            omega
          · simp [List.filter_cons, h1, h2] at ih ⊢
            omega
    by_cases ht : t = y
    · subst ht
      have := mono T
      simp [List.filter_cons, hn] at this ⊢
      omega
    · have hT : y ∈ T := by
        rcases List.mem_cons.mp h with z | z
        · exact absurd z.symm ht
        · exact z
      have := ih hT
      by_cases h1 : t ∈ fs
      · simp [List.filter_cons, h1] at this ⊢
        omega
      · simp [List.filter_cons, h1, ht] at this ⊢
        omega
noncomputable def freelyB (c gA : Nat) (cl : Nat → FM) : SM := (sSeq (sAsg (mDc (iSeq (mVar 1)) [5] (.nm 5) bYes (mVar 5) (mC (.bl true))) (gVar 2)) (sSeq (sAsg (mL listQ (lCons (mVar 1) lNil)) (gVar 3)) (sSeq (sWhile (bTru (mVar 3)) (sFor (iSeq (mMeth "after" [(c, gA)] cl (mVar 0) (lCons (mL lstP (lCons (mM0 "list" popP (mVar 3)) lNil)) (lCons (mC .non) lNil)))) (gVar 4) (sIf (bV (m2 notInQ (mVar 4) (mVar 2))) (sSeq (sAsg (mC (.bl true)) (gSubM (mVar 2) (mVar 4))) (sExpr (mM "list" appP (mVar 3) (lCons (mVar 4) lNil)))) sNext))) (sRet (mL listQ (lCons (mVar 2) lNil))))))
/-- the set found, the list waiting, in the store -/
abbrev fwS (S : Sto) (fs ws : List D) (U : Sto) : Sto := S ++ .dct (mkSet fs) :: .lst ws :: U
theorem fw_dct {S U : Sto} {fs ws : List D} : (fwS S fs ws U)[S.length]? = some (.dct (mkSet fs)) := by simp [fwS]
theorem fw_lst {S U : Sto} {fs ws : List D} : (fwS S fs ws U)[S.length + 1]? = some (.lst ws) := by
  rw [fwS, List.getElem?_append_right (by omega), show S.length + 1 - S.length = 1 by omega]
  rfl
theorem fw_set {S U : Sto} {fs ws ws' : List D} : (fwS S fs ws U).set (S.length + 1) (.lst ws') = fwS S fs ws' U := by
  simp [fwS, List.set_append]
theorem fw_add {S U : Sto} {fs ws : List D} {y : D} (h : ∀ x ∈ fs, x.nb = true) (hy : y.nb = true) (hd : y.depth ≤ 8) (hz : fs.length ≤ 1000) : setP (.loc S.length) y (.bl true) (fwS S fs ws U) = some (fwS S (ins fs y) ws U) := setP_set h hy hd hz
theorem fw_app {S U : Sto} {fs ws : List D} {y : D} (hz : ws.length ≤ 1000) : appP (.loc (S.length + 1)) [y] (fwS S fs ws U) = some (.non, fwS S fs (ws ++ [y]) U) := by
  simp only [appP, fw_lst]
  rw [if_pos (fits_lt hz), fw_set]
theorem fw_pop {S U : Sto} {fs ws : List D} {y : D} (h : ws[ws.length - 1]? = some y) : popP (.loc (S.length + 1)) [] (fwS S fs ws U) = some (y, fwS S fs ws.dropLast U) := by
  simp only [popP, fw_lst, h, fw_set]
theorem fw_notIn {S U : Sto} {fs ws : List D} {y : D} (h : ∀ x ∈ fs, x.nb = true) (hy : y.nb = true) (hd : y.depth ≤ 8) : notInQ y (.loc S.length) (fwS S fs ws U) = some (.bl (!decide (y ∈ fs)), fwS S fs ws U) := by
  have ok : okKey y = true := by simp [okKey, nb_pure y hy, hd]
  have e : dctD (fwS S fs ws U) (.loc S.length) = some (mkSet fs) := by simp [dctD, fwS]
  simp only [notInQ, e, ok, if_true, has_set h hy]
/-- the inner loop of freely: the targets that are new -/
theorem fr_turn {S U : Sto} {l : Nat} {its : List D} {o0 o1 : Option D} {fs ws : List D} {o4 o5 : Option D} {E : List Ed} (hl : (fwS S fs ws U)[l]? = some (.lst its)) (hls : S.length + 1 < l) (hi : ∀ y ∈ its, (y.nb = true ∧ y.depth ≤ 6) ∧ y ∈ E.map (·.2.2)) (hf : ∀ y ∈ fs, y.nb = true) (nd : fs.Nodup) (M : List D) (hM : ∀ y, y ∈ fs ∨ y ∈ its → y ∈ M) (hMl : M.length ≤ 1000)
    (hw : ws.length + 2 * nf E fs ≤ 900) :
    Ow (forL (.seq (.loc l)) (gVar 4) (sIf (bV (m2 notInQ (mVar 4) (mVar 2))) (sSeq (sAsg (mC (.bl true)) (gSubM (mVar 2) (mVar 4))) (sExpr (mM "list" appP (mVar 3) (lCons (mVar 4) lNil)))) sNext) 0 [o0, o1, some (.loc S.length), some (.loc (S.length + 1)), o4, o5] (fwS S fs ws U))
      fun x => x.1 = .nx ∧ ∃ fs' new o4', x.2 = ([o0, o1, some (.loc S.length), some (.loc (S.length + 1)), o4', o5], fwS S fs' (ws ++ new) U) ∧ fs'.Nodup ∧ (∀ y, y ∈ fs' ↔ y ∈ fs ∨ y ∈ its) ∧ (∀ y, y ∈ fs' → y ∈ fs ∨ y ∈ new) ∧ (∀ y ∈ new, y ∈ its) ∧ new.length + 2 * nf E fs' ≤ 2 * nf E fs := by
  have key : ∀ (fs1 ws1 : List D), (fwS S fs1 ws1 U)[l]? = some (.lst its) := fun fs1 ws1 => by
    rw [← hl]
    simp only [fwS]
    rw [List.getElem?_append_right (by omega), List.getElem?_append_right (by omega)]
    obtain ⟨k, hk⟩ : ∃ k, l - S.length = k + 2 := ⟨l - S.length - 2, by omega⟩
    rw [hk]
    rfl
  refine forL_inv its (fun j env S1 => ∃ fs1 new o4', env = [o0, o1, some (.loc S.length), some (.loc (S.length + 1)), o4', o5] ∧ S1 = fwS S fs1 (ws ++ new) U ∧ fs1.Nodup ∧ (∀ y, y ∈ fs1 ↔ y ∈ fs ∨ y ∈ its.take j) ∧ (∀ y, y ∈ fs1 → y ∈ fs ∨ y ∈ new) ∧ (∀ y ∈ new, y ∈ its) ∧ new.length + 2 * nf E fs1 ≤ 2 * nf E fs) _ (fun j env S1 ⟨fs1, new, o4', _, e2, _⟩ => by rw [e2]; simp only [itAt, seqD, key])
    (fun env S1 ⟨fs1, new, o4', e1, e2, e3, e4, e5, e6, e7⟩ => ⟨rfl, fs1, new, o4', by rw [e1, e2], e3, by simpa using e4, e5, e6, e7⟩)
    (fun j d env S1 hj ⟨fs1, new, o4', e1, e2, e3, e4, e5, e6, e7⟩ => ?_) its.length 0 _ _ (by simp) (by simp) ⟨fs, [], o4, rfl, by simp, nd, by simp, fun y hy => .inl hy, by simp, by simp⟩
  subst e1 e2
  have hdm := List.mem_of_getElem? hj
  have hd := hi d hdm
  have h1 : ∀ x ∈ fs1, x.nb = true := fun x hx => ((e4 x).mp hx).elim (hf x) fun z => (hi x (List.mem_of_mem_take z)).1.1
  have h2 : fs1.length ≤ 1000 := Nat.le_trans (len_sub e3 fun y hy => hM y (((e4 y).mp hy).imp id List.mem_of_mem_take)) hMl
  have ht : ∀ y, y ∈ its.take (j + 1) ↔ y ∈ its.take j ∨ y = d := fun y => by rw [List.take_add_one, hj]; simp
  have hwl : (ws ++ new).length ≤ 1000 := by rw [List.length_append]; omega
  have tyl : tyD "list" (fwS S (ins fs1 d) (ws ++ new) U) (.loc (S.length + 1)) = true := by
    simp only [tyD, seqD, fw_lst, Option.isSome_some]
  by_cases hin : d ∈ fs1
  · simp [fw_notIn h1 hd.1.1 (show d.depth ≤ 8 by omega), hin]
    refine ⟨fs1, new, ⟨rfl, rfl⟩, e3, fun y => ?_, e5, e6, e7⟩
    rw [e4, ht]
    constructor
    · exact fun z => z.imp id .inl
    · rintro (z | z | rfl)
      · exact .inl z
      · exact .inr z
      · exact (e4 _).mp hin
  · simp [fw_notIn h1 hd.1.1 (show d.depth ≤ 8 by omega), hin, fw_add h1 hd.1.1 (show d.depth ≤ 8 by omega) h2, tyl, fw_app hwl]
    have hins : ins fs1 d = fs1 ++ [d] := by simp [ins, hin]
    refine ⟨ins fs1 d, new ++ [d], by simp, nodup_ins e3, fun y => ?_, fun y hy => ?_, fun y hy => ?_, ?_⟩
    · rw [mem_ins, e4, ht, or_assoc]
    · rcases mem_ins.mp hy with z | rfl
      · exact (e5 y z).imp id fun z => by simp [z]
      · exact .inr (by simp)
    · rcases List.mem_append.mp hy with z | z
      · exact e6 y z
      · rw [List.mem_singleton.mp z]; exact hdm
    · rw [hins, List.length_append]
      have := nf_app (E := E) hd.2 hin
      simp only [List.length_singleton]
      omega
end DL
/-! DLz3: freely. -/
namespace DL
open PySem

theorem meth_at {c n g : Nat} {S : Sto} {E : List Ed} {F : Nat → Prop} {m : Str} {cands : List (Nat × Nat)} (w : WAt c S n E F) (h1 : m ≠ "_edges") (h2 : m ≠ "_to") (hg : cands.lookup c = some g) : methOf m cands (.loc n) S = some (n, g) := by
  obtain ⟨_, _, e, t, kvs, h3, _⟩ := w
  have hl : List.lookup m [(("_edges" : Str), D.loc e), ("_to", .loc t)] = none := by
    simp [List.lookup, beq_eq_false_iff_ne.mpr h1, beq_eq_false_iff_ne.mpr h2]
  simp [methOf, h3, hl, hg]
theorem fw_tru {S U : Sto} {fs ws : List D} : truD (fwS S fs ws U) (.loc (S.length + 1)) = some (!ws.isEmpty) := by
  simp only [truD, fw_lst]
/-- one turn of freely's while -/
theorem fr_while {c n gA : Nat} {cl : Nat → FM} {S : Sto} {E : List Ed} {F : Nat → Prop} (w : WAt c S n E F) (hF : ∀ p ∈ E, p.2.2.depth ≤ 6) (hE : E.length ≤ 300) (hcl : cl gA = runB 6 (afterB c)) {d : D} {xs : List D} (hx : ∀ x ∈ xs, x.nb = true ∧ x.depth ≤ 6) (hlen : xs.length ≤ 300)
    {fs0 : List D} (h0 : ∀ y, y ∈ fs0 ↔ y ∈ xs) (nd0 : fs0.Nodup) {o4 o5 : Option D} :
    Ow (sWhile (bTru (mVar 3)) (sFor (iSeq (mMeth "after" [(c, gA)] cl (mVar 0) (lCons (mL lstP (lCons (mM0 "list" popP (mVar 3)) lNil)) (lCons (mC .non) lNil)))) (gVar 4) (sIf (bV (m2 notInQ (mVar 4) (mVar 2))) (sSeq (sAsg (mC (.bl true)) (gSubM (mVar 2) (mVar 4))) (sExpr (mM "list" appP (mVar 3) (lCons (mVar 4) lNil)))) sNext))
      [some (.loc n), some d, some (.loc S.length), some (.loc (S.length + 1)), o4, o5] (fwS S fs0 xs [])) fun x => x.1 = .nx ∧ ∃ fs U o4 o5, x.2 = ([some (.loc n), some d, some (.loc S.length), some (.loc (S.length + 1)), o4, o5], fwS S fs [] U) ∧ fs.Nodup ∧ ∀ y, y ∈ fs ↔ ∃ x ∈ xs, Fr E x y := by
  refine sWhile_inv (fun m env S1 => ∃ fs ws U o4 o5, env = [some (.loc n), some d, some (.loc S.length), some (.loc (S.length + 1)), o4, o5] ∧ S1 = fwS S fs ws U ∧ fs.Nodup ∧ (∀ y ∈ xs, y ∈ fs) ∧ (∀ y ∈ fs, ∃ x ∈ xs, Fr E x y) ∧ (∀ y ∈ ws, y ∈ fs) ∧ (∀ y ∈ fs, y ∉ ws → ∀ z, (y, .non, z) ∈ E → z ∈ fs) ∧ m = ws.length + 2 * nf E fs ∧ m ≤ 900) _ (fun m env S1 hI => ?_) (xs.length + 2 * nf E fs0) _ _ ⟨fs0, xs, [], o4, o5, rfl, rfl, nd0, fun y hy => (h0 y).mpr hy, fun y hy => ⟨y, (h0 y).mp hy, .refl⟩, fun y hy => (h0 y).mpr hy, fun y hy hn => absurd ((h0 y).mp hy) hn, rfl, ?_⟩
  · obtain ⟨fs, ws, U, o4, o5, rfl, rfl, nd, hxs, hre, hws, hcl2, hm, hb⟩ := hI
    simp only [ow_Tru, ow_var, List.getElem?_cons_succ, List.getElem?_cons_zero, Option.some.injEq, exists_eq_left', fw_tru, ow_some]
    have frb : ∀ x y, (x.nb = true ∧ x.depth ≤ 6) → Fr E x y → y.nb = true ∧ y.depth ≤ 6 := fun x y hx h => by
      cases h with
      | refl => exact hx
      | step _ h2 => exact ⟨(w.nb _ h2).2.2, hF _ h2⟩
    have hfb : ∀ y ∈ fs, y.nb = true ∧ y.depth ≤ 6 := fun y hy => by
      obtain ⟨x, h1, h2⟩ := hre y hy
      exact frb x y (hx x h1) h2
    cases hw : ws with
    | nil =>
      subst hw
      simp only [List.isEmpty_nil, Bool.not_true, Bool.false_eq_true, if_false]
      refine ⟨trivial, fs, U, o4, o5, rfl, nd, fun y => ⟨hre y, ?_⟩⟩
      rintro ⟨x, h1, h2⟩
      induction h2 with
      | refl => exact hxs x h1
      | step _ h3 ih => exact hcl2 _ ih (by simp) _ h3
    | cons w0 wr =>
      rw [← hw]
      have hne : ws.isEmpty = false := by rw [hw]; rfl
      rw [hne]
      simp only [Bool.not_false, if_true]
      have hwl : 0 < ws.length := by rw [hw]; simp
      obtain ⟨y, hy⟩ : ∃ y, ws[ws.length - 1]? = some y := ⟨ws[ws.length - 1], List.getElem?_eq_getElem (by omega)⟩
      have hym : y ∈ ws := List.mem_of_getElem? hy
      have hyb := hfb y (hws y hym)
      have tyl : tyD "list" (fwS S fs ws U) (.loc (S.length + 1)) = true := by simp only [tyD, seqD, fw_lst, Option.isSome_some]
      have hmt := meth_at (m := "after") (cands := [(c, gA)]) (g := gA) (w.app (.dct (mkSet fs) :: .lst ws :: U)) (by decide) (by decide) (by simp [List.lookup])
      have w2 : WAt c (fwS S fs ws.dropLast U ++ [.lst [y]]) n E F := by
        have := w.app (.dct (mkSet fs) :: .lst ws.dropLast :: U ++ [.lst [y]])
        simpa [fwS] using this
      have aft := after_ok w2 hF (d := .loc (fwS S fs ws.dropLast U).length) (s := .non) (xs := [y]) (by simp only [seqD, List.getElem?_append_right (Nat.le_refl _), Nat.sub_self, List.getElem?_cons_zero]) (fun x hx => by rw [List.mem_singleton.mp hx]; exact hyb) rfl (by simp [D.depth])
      have lok : lstP [y] (fwS S fs ws.dropLast U) = some (.loc (fwS S fs ws.dropLast U).length, fwS S fs ws.dropLast U ++ [.lst [y]]) := lst_ok (by simp)
      rw [ow_for]
      simp only [ow_iSeq, ow_mMeth, ow_var, List.getElem?_cons_succ, List.getElem?_cons_zero, Option.some.injEq, exists_eq_left', hmt, ow_some, ow_cons, ow_nil, ow_mL, ow_mM0, tyl, true_and, fw_pop hy, lok, ow_C, hcl]
      refine aft.imp ?_
      rintro ⟨r, S2⟩ ⟨ys, U2, hr, hS, hnd, hys⟩
      simp only at hr hS
      subst hr hS
      have eS : fwS S fs ws.dropLast U ++ [Ob.lst [y]] ++ (U2 ++ [Ob.lst ys]) = fwS S fs ws.dropLast (U ++ [Ob.lst [y]] ++ U2 ++ [Ob.lst ys]) := by simp [fwS]
      have el : (fwS S fs ws.dropLast U ++ [Ob.lst [y]]).length + U2.length = (fwS S fs ws.dropLast (U ++ [Ob.lst [y]] ++ U2)).length := by simp [fwS]; omega
      rw [eS, el]
      have hat : (fwS S fs ws.dropLast (U ++ [Ob.lst [y]] ++ U2 ++ [Ob.lst ys]))[(fwS S fs ws.dropLast (U ++ [Ob.lst [y]] ++ U2)).length]? = some (.lst ys) := by
        have : fwS S fs ws.dropLast (U ++ [Ob.lst [y]] ++ U2 ++ [Ob.lst ys]) = fwS S fs ws.dropLast (U ++ [Ob.lst [y]] ++ U2) ++ [Ob.lst ys] := by simp [fwS]
        rw [this, List.getElem?_append_right (Nat.le_refl _), Nat.sub_self]
        rfl
      refine ⟨by simp only [seqD, hat, Option.isSome_some], ?_⟩
      have hyE : ∀ z ∈ ys, (y, D.non, z) ∈ E := fun z hz => by
        obtain ⟨x, h1, h2⟩ := (hys z).mp hz
        rw [List.mem_singleton.mp h1] at h2
        exact h2
      have dl : ws.dropLast.length = ws.length - 1 := List.length_dropLast
      refine (fr_turn (E := E) hat (by simp [fwS]) (fun z hz => ⟨⟨(w.nb _ (hyE z hz)).2.2, hF _ (hyE z hz)⟩, List.mem_map.mpr ⟨_, hyE z hz, rfl⟩⟩) (fun z hz => (hfb z hz).1) nd (xs ++ E.map (·.2.2)) (fun z hz => ?_) (by simp; omega) (by omega)).imp ?_
      · rcases hz with hz | hz
        · obtain ⟨x, h1, h2⟩ := hre z hz
          cases h2 with
          | refl => exact List.mem_append_left _ h1
          | step _ h3 => exact List.mem_append_right _ (List.mem_map.mpr ⟨_, h3, rfl⟩)
        · exact List.mem_append_right _ (List.mem_map.mpr ⟨_, hyE z hz, rfl⟩)
      · rintro ⟨fl, env, S3⟩ ⟨rfl, fs', new, o4', he, nd', m1, m2, m3, m4⟩
        cases he
        have hwd : ∀ z ∈ ws, z ∈ ws.dropLast ∨ z = y := fun z hz => by
          have e : ws = ws.dropLast ++ [y] := by
            have := List.dropLast_concat_getLast (l := ws) (by intro q; rw [q] at hwl; simp at hwl)
            have hl : ws.getLast (by intro q; rw [q] at hwl; simp at hwl) = y := by
              rw [List.getLast_eq_getElem]
              rw [List.getElem?_eq_getElem (by omega)] at hy
              exact Option.some.inj hy
            rw [hl] at this
            exact this.symm
          rw [e] at hz
          simpa using hz
        refine ⟨_, ?_, fs', ws.dropLast ++ new, _, o4', o5, rfl, rfl, nd', fun z hz => (m1 z).mpr (.inl (hxs z hz)), fun z hz => ?_, fun z hz => ?_, fun z hz hn z2 h2 => ?_, rfl, ?_⟩
        · rw [List.length_append]
          omega
        · rcases (m1 z).mp hz with h | h
          · exact hre z h
          · obtain ⟨x, h1, h2⟩ := hre y (hws y hym)
            exact ⟨x, h1, .step h2 (hyE z h)⟩
        · rcases List.mem_append.mp hz with h | h
          · exact (m1 z).mpr (.inl (hws z ((List.dropLast_sublist ws).subset h)))
          · exact (m1 z).mpr (.inr (m3 z h))
        · rw [List.mem_append, not_or] at hn
          by_cases hzy : z = y
          · subst hzy
            exact (m1 z2).mpr (.inr ((hys z2).mpr ⟨z, by simp, h2⟩))
          · have hzf : z ∈ fs := (m2 z hz).elim id fun h => absurd h hn.2
            have hzw : z ∉ ws := fun h => (hwd z h).elim hn.1 hzy
            exact (m1 z2).mpr (.inl (hcl2 z hzf hzw z2 h2))
        · rw [List.length_append]
          omega
  · have : nf E fs0 ≤ 300 := by
      unfold nf
      refine Nat.le_trans (List.length_filter_le _ _) ?_
      rw [List.length_map]
      exact hE
    omega
theorem seq_app {S U : Sto} {d : D} {xs : List D} (hd : seqD S d = some xs) : seqD (S ++ U) d = some xs := by
  cases d with
  | tup es => simpa [seqD] using hd
  | scr ns => simpa [seqD] using hd
  | loc m =>
    simp only [seqD] at hd ⊢
    cases q : S[m]? with
    | none => rw [q] at hd; cases hd
    | some o => rw [get_app q]; rw [q] at hd; exact hd
  | _ => cases hd
theorem list_seq {S : Sto} {d : D} {xs : List D} (hd : seqD S d = some xs) : listQ [d] S = some (.loc S.length, S ++ [.lst xs]) := by
  have h1 : dctD S d = none := by
    cases d with
    | loc m =>
      simp only [seqD] at hd
      simp only [dctD]
      split at hd
      · rename_i q
        rw [q]
      · cases hd
    | _ => rfl
  simp [listQ, h1, listP, hd]
/-- freely(nodes): what is reached without a symbol, each once; the store only grows -/
theorem freely_ok {c n gA : Nat} {cl : Nat → FM} {S : Sto} {E : List Ed} {F : Nat → Prop} (w : WAt c S n E F) (hF : ∀ p ∈ E, p.2.2.depth ≤ 6) (hE : E.length ≤ 300) (hcl : cl gA = runB 6 (afterB c)) {d : D} {xs : List D} (hd : seqD S d = some xs) (hx : ∀ x ∈ xs, x.nb = true ∧ x.depth ≤ 6) (hlen : xs.length ≤ 300) :
    Ow (runB 6 (freelyB c gA cl) [.loc n, d] S) fun x => ∃ ys U, x.1 = .loc (S.length + U.length) ∧ x.2 = S ++ (U ++ [.lst ys]) ∧ ys.Nodup ∧ ∀ y, y ∈ ys ↔ ∃ x ∈ xs, Fr E x y := by
  rw [ow_runB]
  unfold freelyB
  rw [ow_seq]
  simp [-ow_seq, ow_dc, hd]
  refine (dcL_inv xs (fun j acc S1 => S1 = S ∧ ∃ fs, acc = mkSet fs ∧ fs.Nodup ∧ ∀ y, y ∈ fs ↔ y ∈ xs.take j) (fun j acc S1 ⟨e, _⟩ => by rw [e]; simp [itAt, hd]) (fun j x acc S1 hj ⟨e, fs, ea, nd, hm⟩ => ?_) xs.length 0 [] S (by simp) (by simp) ⟨rfl, [], rfl, List.nodup_nil, by simp⟩).imp ?_
  · subst e ea
    have hxx := hx x (List.mem_of_getElem? hj)
    have hfs : ∀ y ∈ fs, y.nb = true := fun y hy => (hx y (List.mem_of_mem_take ((hm y).mp hy))).1
    have hl : fs.length ≤ 300 := Nat.le_trans (len_sub nd fun y hy => List.mem_of_mem_take ((hm y).mp hy)) hlen
    refine ⟨_, rfl, ?_⟩
    simp [bYes, wipeD]
    refine ⟨⟨by simp [okKey, nb_pure x hxx.1]; omega, by rw [mkSet, List.length_map]; exact fits_lt (by omega)⟩, ins fs x, put_set hfs hxx.1, nodup_ins nd, fun y => ?_⟩
    rw [mem_ins, hm, List.take_add_one, hj]
    simp
  · rintro ⟨acc, S1⟩ ⟨rfl, fs0, rfl, nd0, h0⟩
    simp only [List.take_length] at h0
    rw [ow_seq]
    simp [-ow_seq, list_seq (seq_app (U := [.dct (mkSet fs0)]) hd)]
    rw [ow_seq]
    refine (fr_while w hF hE hcl hx hlen h0 nd0).imp ?_
    rintro ⟨fl, env, S2⟩ ⟨rfl, fs, U, o4, o5, he, nd, hm⟩
    cases he
    simp [listQ, dctD, fw_dct, keys_set]
    exact ⟨fs, .dct (mkSet fs) :: .lst [] :: U, by simp [fwS], by simp [fwS], nd, hm⟩
end DL
/-! DLz4: along. -/
namespace DL
open PySem

/-- from x along the symbols, None edges ahead of each -/
inductive Al (E : List Ed) : List D → D → D → Prop where
  | nil {x : D} : Al E [] x x
  | cons {s : D} {w : List D} {x y z u : D} : Fr E x y → (y, s, z) ∈ E → Al E w z u → Al E (s :: w) x u
noncomputable def alongB (c gA gF : Nat) (cl : Nat → FM) : SM := (sSeq (sFor (iSeq (mVar 2)) (gVar 3) (sAsg (mMeth "after" [(c, gA)] cl (mVar 0) (lCons (mMeth "freely" [(c, gF)] cl (mVar 0) (lCons (mVar 1) lNil)) (lCons (mVar 3) lNil))) (gVar 1))) (sRet (mVar 1)))
theorem al_snoc {E : List Ed} {s : D} : ∀ {w : List D} {x u z y : D}, Al E w x u → Fr E u y → (y, s, z) ∈ E → Al E (w ++ [s]) x z
  | [], _, _, _, _, .nil, h1, h2 => .cons h1 h2 .nil
  | _ :: _, _, _, _, _, .cons a b t, h1, h2 => .cons a b (al_snoc t h1 h2)
theorem al_last {E : List Ed} {s : D} : ∀ {w : List D} {x z : D}, Al E (w ++ [s]) x z → ∃ u y, Al E w x u ∧ Fr E u y ∧ (y, s, z) ∈ E
  | [], _, _, .cons a b .nil => ⟨_, _, .nil, a, b⟩
  | _ :: _, _, _, .cons a b t => let ⟨u, y, h1, h2, h3⟩ := al_last t; ⟨u, y, .cons a b h1, h2, h3⟩
theorem len_E {E : List Ed} {ys : List D} {s : D} {P : D → Prop} (nd : ys.Nodup) (h : ∀ y, y ∈ ys → ∃ x, (x, s, y) ∈ E) : ys.length ≤ E.length := by
  have := len_sub (l := E.map (·.2.2)) nd fun y hy => by
    obtain ⟨x, hx⟩ := h y hy
    exact List.mem_map.mpr ⟨_, hx, rfl⟩
  simpa using this
end DL
/-! DLz5: stores that only grow; along. -/
namespace DL
open PySem

/-- S grows to S' -/
def Gr (S S' : Sto) : Prop := ∃ U, S' = S ++ U
theorem Gr.refl {S : Sto} : Gr S S := ⟨[], by simp⟩
theorem Gr.trans {S S' S'' : Sto} (h : Gr S S') (k : Gr S' S'') : Gr S S'' := by
  obtain ⟨U, rfl⟩ := h
  obtain ⟨V, rfl⟩ := k
  exact ⟨U ++ V, by simp⟩
theorem Gr.app {S U : Sto} : Gr S (S ++ U) := ⟨U, rfl⟩
theorem Gr.get {S S' : Sto} (h : Gr S S') {j : Nat} {o : Ob} (k : S[j]? = some o) : S'[j]? = some o := by
  obtain ⟨U, rfl⟩ := h
  exact get_app k
theorem Gr.seq {S S' : Sto} (h : Gr S S') {d : D} {xs : List D} (k : seqD S d = some xs) : seqD S' d = some xs := by
  obtain ⟨U, rfl⟩ := h
  exact seq_app k
theorem Gr.len {S S' : Sto} (h : Gr S S') : S.length ≤ S'.length := by
  obtain ⟨U, rfl⟩ := h
  simp
theorem WAt.gr {c n : Nat} {S S' : Sto} {E : List Ed} {F : Nat → Prop} (w : WAt c S n E F) (h : Gr S S') : WAt c S' n E F := by
  obtain ⟨U, rfl⟩ := h
  exact w.app U
theorem seq_last {S : Sto} {ys : List D} : seqD (S ++ [.lst ys]) (.loc S.length) = some ys := by
  simp [seqD]
theorem seq_tup {S : Sto} {ys : List D} : seqD S (.tup ys) = some ys := rfl
/-- what is reached is as good as what it is reached from -/
theorem fr_good {E : List Ed} {P : D → Prop} (hE : ∀ p ∈ E, P p.2.2) {x y : D} (h : Fr E x y) (hx : P x) : P y := by
  cases h with
  | refl => exact hx
  | step _ h2 => exact hE _ h2
theorem al_good {E : List Ed} {P : D → Prop} (hE : ∀ p ∈ E, P p.2.2) : ∀ {w : List D} {x y : D}, Al E w x y → P x → P y
  | [], _, _, .nil, h => h
  | _ :: _, _, _, .cons _ b t, _ => al_good hE t (hE _ b)
theorem WAt.len {c n : Nat} {S : Sto} {E : List Ed} {F : Nat → Prop} (w : WAt c S n E F) : E.length ≤ 1000 := by
  obtain ⟨_, _, e, t, kvs, _, _, _, _, _, _, _, _, h, _⟩ := w
  exact h
theorem along_ok2 {c n gA gF : Nat} {cl cl' : Nat → FM} {S : Sto} {E : List Ed} {F : Nat → Prop} (w : WAt c S n E F) (hF : ∀ p ∈ E, p.2.2.depth ≤ 6) (hE : E.length ≤ 300) (hA : cl gA = runB 6 (afterB c)) (hA' : cl' gA = runB 6 (afterB c)) (hFr : cl gF = runB 6 (freelyB c gA cl')) {d sy : D} {xs ws : List D} (hd : seqD S d = some xs) (hx : ∀ x ∈ xs, x.nb = true ∧ x.depth ≤ 6) (nx : xs.Nodup) (hlen : xs.length ≤ 300)
    (hs : seqD S sy = some ws) (hw : ∀ s ∈ ws, s.nb = true ∧ s.depth ≤ 6) :
    Ow (runB 4 (alongB c gA gF cl) [.loc n, d, sy] S) fun x => ∃ ys, Gr S x.2 ∧ seqD x.2 x.1 = some ys ∧ ys.Nodup ∧ ys.length ≤ 300 ∧ (∀ y, y ∈ ys ↔ ∃ x ∈ xs, Al E ws x y) ∧ (x.1 = d ∧ ws = [] ∨ ∃ l, x.1 = .loc l ∧ S.length ≤ l) := by
  have gE : ∀ p ∈ E, p.2.2.nb = true ∧ p.2.2.depth ≤ 6 := fun p hp => ⟨(w.nb p hp).2.2, hF p hp⟩
  rw [ow_runB]
  unfold alongB
  simp [ow_for, hs]
  refine (forL_inv ws (fun j env S1 => ∃ d1 ys o3, env = [some (.loc n), some d1, some sy, o3] ∧ Gr S S1 ∧ seqD S1 d1 = some ys ∧ ys.Nodup ∧ ys.length ≤ 300 ∧ (∀ y, y ∈ ys ↔ ∃ x ∈ xs, Al E (ws.take j) x y) ∧ (d1 = d ∧ j = 0 ∨ ∃ l, d1 = .loc l ∧ S.length ≤ l))
    (fun x => x.1 = .nx ∧ ∃ d1 ys o3, x.2.1 = [some (.loc n), some d1, some sy, o3] ∧ Gr S x.2.2 ∧ seqD x.2.2 d1 = some ys ∧ ys.Nodup ∧ ys.length ≤ 300 ∧ (∀ y, y ∈ ys ↔ ∃ x ∈ xs, Al E ws x y) ∧ (d1 = d ∧ ws = [] ∨ ∃ l, d1 = .loc l ∧ S.length ≤ l))
    (fun j env S1 ⟨d1, ys, o3, _, g, _⟩ => by simp [itAt, g.seq hs]) (fun env S1 ⟨d1, ys, o3, e, g, h1, h2, h3, h4, h5⟩ => ⟨rfl, d1, ys, o3, e, g, h1, h2, h3, by simpa using h4, h5.imp (fun z => ⟨z.1, List.length_eq_zero_iff.mp z.2⟩) id⟩)
    (fun j s env S1 hj ⟨d1, ys, o3, e, g, h1, h2, h3, h4, h5⟩ => ?step) ws.length 0 _ _ (by simp) (by simp) ⟨d, xs, none, rfl, .refl, hd, nx, hlen, fun y => ?zero, .inl ⟨rfl, rfl⟩⟩).imp ?imp
  case step =>
    subst e
    have hss := hw s (List.mem_of_getElem? hj)
    have hys : ∀ y ∈ ys, y.nb = true ∧ y.depth ≤ 6 := fun y hy => by
      obtain ⟨x, a, b⟩ := (h4 y).mp hy
      exact al_good (P := fun y => y.nb = true ∧ y.depth ≤ 6) gE b (hx x a)
    have w1 := w.gr g
    have m1 := meth_at (m := "after") (cands := [(c, gA)]) (g := gA) w1 (by decide) (by decide) (by simp [List.lookup])
    have m2 := meth_at (m := "freely") (cands := [(c, gF)]) (g := gF) w1 (by decide) (by decide) (by simp [List.lookup])
    simp only [ow_asg, ow_gVar, ow_mMeth, ow_var, List.set_cons_succ, List.set_cons_zero, List.getElem?_cons_succ, List.getElem?_cons_zero, Option.some.injEq, exists_eq_left', m1, m2, ow_some, ow_cons, ow_nil, hFr, hA]
    refine (freely_ok w1 hF hE hA' h1 hys h3).imp ?_
    rintro ⟨r, S2⟩ ⟨zs, U, hr, hS, hnd, hzs⟩
    simp only at hr hS
    subst hr
    have e2 : S2 = S1 ++ U ++ [.lst zs] := by rw [hS, List.append_assoc]
    have sq : seqD S2 (.loc (S1.length + U.length)) = some zs := by
      rw [e2, ← List.length_append]; exact seq_last
    have hzb : ∀ y ∈ zs, y.nb = true ∧ y.depth ≤ 6 := fun y hy => by
      obtain ⟨x, a, b⟩ := (hzs y).mp hy
      exact fr_good (P := fun y => y.nb = true ∧ y.depth ≤ 6) gE b (hys x a)
    have g2 : Gr S1 S2 := ⟨_, hS⟩
    refine (after_ok (w1.gr g2) hF sq hzb hss.1 hss.2).imp ?_
    rintro ⟨r, S3⟩ ⟨us, V, hr, hS3, hnd3, hus⟩
    simp only at hr hS3
    subst hr
    have e3 : S3 = S2 ++ V ++ [.lst us] := by rw [hS3, List.append_assoc]
    refine ⟨_, us, _, rfl, (g.trans g2).trans ⟨_, hS3⟩, ?_, hnd3, ?_, fun y => ?_, .inr ⟨_, rfl, ?_⟩⟩
    · rw [e3, ← List.length_append]; exact seq_last
    · exact Nat.le_trans (len_E (s := s) (P := fun _ => True) hnd3 fun y hy => by
        obtain ⟨x, _, b⟩ := (hus y).mp hy
        exact ⟨x, b⟩) hE
    · rw [hus, List.take_add_one, hj]
      simp only [Option.toList_some]
      constructor
      · rintro ⟨z, hz, hzy⟩
        obtain ⟨u, hu, huz⟩ := (hzs z).mp hz
        obtain ⟨x, hx1, hx2⟩ := (h4 u).mp hu
        exact ⟨x, hx1, al_snoc hx2 huz hzy⟩
      · rintro ⟨x, hx1, hx2⟩
        obtain ⟨u, z, a, b, c1⟩ := al_last hx2
        exact ⟨z, (hzs z).mpr ⟨u, (h4 u).mpr ⟨x, hx1, a⟩, b⟩, c1⟩
    · have := (g.trans g2).len
      omega
  case zero =>
    simp only [List.take_zero]
    exact ⟨fun h => ⟨y, h, .nil⟩, fun ⟨x, h, k⟩ => by cases k; exact h⟩
  case imp =>
    rintro ⟨fl, env, S1⟩ ⟨rfl, d1, ys, o3, e, g, h1, h2, h3, h4, h5⟩
    simp only at e g h1
    subst e
    simp
    exact ⟨g, ys, h1, h2, h3, h4, h5⟩
theorem along_ok {c n gA gF : Nat} {cl cl' : Nat → FM} {S : Sto} {E : List Ed} {F : Nat → Prop} (w : WAt c S n E F) (hF : ∀ p ∈ E, p.2.2.depth ≤ 6) (hE : E.length ≤ 300) (hA : cl gA = runB 6 (afterB c)) (hA' : cl' gA = runB 6 (afterB c)) (hFr : cl gF = runB 6 (freelyB c gA cl')) {d sy : D} {xs ws : List D} (hd : seqD S d = some xs) (hx : ∀ x ∈ xs, x.nb = true ∧ x.depth ≤ 6) (nx : xs.Nodup) (hlen : xs.length ≤ 300)
    (hs : seqD S sy = some ws) (hw : ∀ s ∈ ws, s.nb = true ∧ s.depth ≤ 6) :
    Ow (runB 4 (alongB c gA gF cl) [.loc n, d, sy] S) fun x => ∃ ys, Gr S x.2 ∧ seqD x.2 x.1 = some ys ∧ ys.Nodup ∧ ys.length ≤ 300 ∧ ∀ y, y ∈ ys ↔ ∃ x ∈ xs, Al E ws x y := by
  refine (along_ok2 w hF hE hA hA' hFr hd hx nx hlen hs hw).imp ?_
  rintro ⟨r, S2⟩ ⟨ys, a1, a2, a3, a4, a5, _⟩
  exact ⟨ys, a1, a2, a3, a4, a5⟩
end DL
/-! DLz6: things (trees of None, numbers, strings, tuples) as deep as told; their rank; sorting by rank. -/
namespace DL
open PySem

/-- things up to n deep -/
inductive Th : Nat → D → Prop where
  | non {n : Nat} : Th n .non
  | int {n : Nat} {i : Int} : Th n (.int i)
  | str {n : Nat} {x : Str} : (PyData.str x).canLay0 = true → Th n (.str x)
  | tup {n : Nat} {ds : List D} : ds.length ≤ 900 → (∀ d ∈ ds, Th n d) → Th (n + 1) (.tup ds)
theorem Th.up {n : Nat} {d : D} (h : Th n d) : Th (n + 1) d := by
  induction h with
  | non => exact .non
  | int => exact .int
  | str h => exact .str h
  | tup h _ ih => exact .tup h ih
theorem Th.mono {n m : Nat} {d : D} (h : Th n d) (hm : n ≤ m) : Th m d := by
  obtain ⟨k, rfl⟩ : ∃ k, m = n + k := ⟨m - n, by omega⟩
  clear hm
  induction k with
  | zero => exact h
  | succ k ih => exact ih.up
theorem Th.pure {n : Nat} {d : D} (h : Th n d) : d.pure = true ∧ d.py.canLay0 = true ∧ d.py.depth ≤ n := by
  induction h with
  | non => simp [D.pure, D.py, PyData.canLay0, PyData.depth]
  | int => simp [D.pure, D.py, PyData.canLay0, PyData.depth]
  | str hx => exact ⟨by simp [D.pure], by simpa [D.py] using hx, by simp [D.py, PyData.depth]⟩
  | @tup n ds hl hd ih =>
    have go : ∀ l : List D, (∀ d ∈ l, d ∈ ds) → D.pures l = true ∧ PyData.canLayAll0 (D.pys l) = true ∧ PyData.depthAll (D.pys l) ≤ n := by
      intro l
      induction l with
      | nil => intro _; simp [D.pures, D.pys, PyData.canLayAll0, PyData.depthAll]
      | cons a l ih2 =>
        intro hm
        obtain ⟨i1, i2, i3⟩ := ih a (hm a List.mem_cons_self)
        obtain ⟨j1, j2, j3⟩ := ih2 fun d hd => hm d (List.mem_cons_of_mem _ hd)
        simp only [D.pures, D.pys, PyData.canLayAll0, PyData.depthAll, i1, i2, j1, j2, Bool.and_self, true_and]
        omega
    obtain ⟨g1, g2, g3⟩ := go ds fun _ h => h
    simp only [D.pure, D.py, PyData.canLay0, PyData.depth, g1, g2, true_and]
    omega
theorem Th.shaped {n : Nat} {d : D} (h : Th n d) (hn : n ≤ 64) : SeqAt.shaped d.py = true := by
  obtain ⟨_, h2, h3⟩ := h.pure
  simp [SeqAt.shaped, h2]
  omega
theorem Th.nb {n : Nat} {d : D} (h : Th n d) : d.nb = true := by
  induction h with
  | non => rfl
  | int => rfl
  | str _ => rfl
  | tup _ _ ih => simp only [D.nb]; exact nbs_all.mpr ih
theorem Th.depth {n : Nat} {d : D} (h : Th n d) : d.depth ≤ n := by
  induction h with
  | non => simp [D.depth]
  | int => simp [D.depth]
  | str _ => simp [D.depth]
  | @tup n ds hl hd ih =>
    have go : ∀ l : List D, (∀ d ∈ l, d ∈ ds) → D.depths l ≤ n := by
      intro l
      induction l with
      | nil => intro _; simp [D.depths]
      | cons a l ih2 =>
        intro hm
        simp only [D.depths]
        have := ih a (hm a List.mem_cons_self)
        have := ih2 fun d hd => hm d (List.mem_cons_of_mem _ hd)
        omega
    simp only [D.depth]
    have := go ds fun _ h => h
    omega
theorem Th.key {n : Nat} {d : D} (h : Th n d) (hn : n ≤ 8) : okKey d = true := by
  have := h.depth
  simp [okKey, h.pure.1]
  omega
theorem Th.eqv {n m : Nat} {a b : D} (ha : Th n a) (hb : Th m b) : PyData.eqv a.py b.py = decide (a = b) := by
  have := nb_eqv a b ha.nb hb.nb
  by_cases e : a = b
  · simp [e, this.mpr e]
    exact (nb_eqv b b hb.nb hb.nb).mpr rfl
  · have : ¬ PyData.eqv a.py b.py = true := fun z => e (this.mp z)
    simp [e, this]
theorem ne_th {n m : Nat} {a b : D} {S : Sto} (ha : Th n a) (hb : Th m b) (hn : n ≤ 64) (hm : m ≤ 64) : neP a b S = some (.bl (!decide (a = b)), S) := by
  simp [neP, pyOf, ha.pure.1, hb.pure.1, ha.shaped hn, hb.shaped hm, ha.eqv hb]
theorem eq_th {n m : Nat} {a b : D} {S : Sto} (ha : Th n a) (hb : Th m b) (hn : n ≤ 64) (hm : m ≤ 64) : eqP a b S = some (.bl (decide (a = b)), S) := by
  simp [eqP, pyOf, ha.pure.1, hb.pure.1, ha.shaped hn, hb.shaped hm, ha.eqv hb]
/-- rows of things -/
theorem ths_pure {n : Nat} : ∀ {l : List D}, (∀ d ∈ l, Th n d) → D.pures l = true ∧ PyData.canLayAll0 (D.pys l) = true ∧ PyData.depthAll (D.pys l) ≤ n
  | [], _ => by simp [D.pures, D.pys, PyData.canLayAll0, PyData.depthAll]
  | a :: l, hm => by
    obtain ⟨i1, i2, i3⟩ := (hm a List.mem_cons_self).pure
    obtain ⟨j1, j2, j3⟩ := ths_pure fun d hd => hm d (List.mem_cons_of_mem _ hd)
    simp only [D.pures, D.pys, PyData.canLayAll0, PyData.depthAll, i1, i2, j1, j2, Bool.and_self, true_and]
    omega
theorem any_eqv {n m : Nat} {a : D} (ha : Th n a) : ∀ {l : List D}, (∀ d ∈ l, Th m d) → (l.any fun z => PyData.eqv z.py a.py) = decide (a ∈ l)
  | [], _ => by simp
  | b :: l, h => by
    rw [List.any_cons, (h b List.mem_cons_self).eqv ha, any_eqv ha fun d hd => h d (List.mem_cons_of_mem _ hd)]
    by_cases e : b = a
    · simp [e]
    · simp [e, show a ≠ b from fun z => e z.symm]
/-- in a list or tuple of things -/
theorem in_ths {n m : Nat} {a d : D} {l : List D} {S : Sto} (ha : Th n a) (hl : seqD S d = some l) (h : ∀ d ∈ l, Th m d) (hn : n ≤ 60) (hm : m ≤ 60) : inQ a d S = some (.bl (decide (a ∈ l)), S) := by
  obtain ⟨h1, h2, h3⟩ := ths_pure h
  have e1 : dctD S d = none := by
    cases d with
    | loc m =>
      simp only [seqD] at hl
      simp only [dctD]
      split at hl
      · rename_i q
        rw [q]
      · cases hl
    | _ => rfl
  have sh : SeqAt.shaped (.list (D.pys l)) = true := by
    simp [SeqAt.shaped, PyData.canLay0, PyData.depth, h2]
    omega
  have e2 : inP a d S = some (.bl (decide (a ∈ l)), S) := by
    simp [inP, hl, ha.pure.1, h1, ha.shaped (show n ≤ 64 by omega), sh, any_eqv ha h]
  simp only [inQ, e1]
  split
  · cases hl
  · exact e2
theorem notIn_ths {n m : Nat} {a d : D} {l : List D} {S : Sto} (ha : Th n a) (hl : seqD S d = some l) (h : ∀ d ∈ l, Th m d) (hn : n ≤ 60) (hm : m ≤ 60) : notInQ a d S = some (.bl (!decide (a ∈ l)), S) := by
  obtain ⟨h1, h2, h3⟩ := ths_pure h
  have e1 : dctD S d = none := by
    cases d with
    | loc m =>
      simp only [seqD] at hl
      simp only [dctD]
      split at hl
      · rename_i q
        rw [q]
      · cases hl
    | _ => rfl
  have sh : SeqAt.shaped (.list (D.pys l)) = true := by
    simp [SeqAt.shaped, PyData.canLay0, PyData.depth, h2]
    omega
  have e2 : notInP a d S = some (.bl (!decide (a ∈ l)), S) := by
    simp [notInP, hl, ha.pure.1, h1, ha.shaped (show n ≤ 64 by omega), sh, any_eqv ha h]
  simp only [notInQ, e1]
  split
  · cases hl
  · exact e2

/-! ### rank -/
mutual
def rankD : D → D
  | .non => .tup [.int 0]
  | .tup ds => .tup (.int 3 :: rankDs ds)
  | .str x => .tup [.int 2, .str x]
  | .int i => .tup [.int 1, .int i]
  | .bl b => .tup [.int 1, .bl b]
  | .loc n => .tup [.int 1, .loc n]
  | .scr ns => .tup [.int 1, .scr ns]
def rankDs : List D → List D
  | [] => []
  | d :: ds => rankD d :: rankDs ds
end
theorem rankDs_map : ∀ ds : List D, rankDs ds = ds.map rankD
  | [] => by simp [rankDs]
  | d :: ds => by simp [rankDs, rankDs_map ds]
theorem rank_shape {n : Nat} {d : D} (h : Th n d) : (rankD d).pure = true ∧ (rankD d).py.canLay0 = true ∧ (rankD d).py.depth ≤ n + 1 := by
  induction h with
  | non => simp [rankD, D.pure, D.pures, D.py, D.pys, PyData.canLay0, PyData.canLayAll0, PyData.depth, PyData.depthAll]
  | int => simp [rankD, D.pure, D.pures, D.py, D.pys, PyData.canLay0, PyData.canLayAll0, PyData.depth, PyData.depthAll]
  | str hx =>
    simp [rankD, D.pure, D.pures, D.py, D.pys, PyData.canLayAll0, PyData.depth, PyData.depthAll, hx]
    simp [PyData.canLay0, PyData.canLayAll0, hx]
    simpa [PyData.canLay0] using hx
  | @tup n ds hl hd ih =>
    have go : ∀ l : List D, (∀ d ∈ l, d ∈ ds) → D.pures (rankDs l) = true ∧ PyData.canLayAll0 (D.pys (rankDs l)) = true ∧ PyData.depthAll (D.pys (rankDs l)) ≤ n + 1 := by
      intro l
      induction l with
      | nil => intro _; simp [rankDs, D.pures, D.pys, PyData.canLayAll0, PyData.depthAll]
      | cons a l ih2 =>
        intro hm
        obtain ⟨i1, i2, i3⟩ := ih a (hm a List.mem_cons_self)
        obtain ⟨j1, j2, j3⟩ := ih2 fun d hd => hm d (List.mem_cons_of_mem _ hd)
        simp only [rankDs, D.pures, D.pys, PyData.canLayAll0, PyData.depthAll, i1, i2, j1, j2, Bool.and_self, true_and]
        omega
    obtain ⟨g1, g2, g3⟩ := go ds fun _ h => h
    simp [rankD, D.pure, D.pures, D.py, D.pys, PyData.canLay0, PyData.canLayAll0, PyData.depth, PyData.depthAll, g1, g2]
    omega
theorem rank_nb {n : Nat} {d : D} (h : Th n d) : (rankD d).nb = true := by
  induction h with
  | non => rfl
  | int => rfl
  | str _ => rfl
  | @tup n ds _ _ ih =>
    simp only [rankD, D.nb, D.nbs, rankDs_map, Bool.true_and]
    exact nbs_all.mpr fun d hd => by
      obtain ⟨x, hx, rfl⟩ := List.mem_map.mp hd
      exact ih x hx
theorem rank_inj {n : Nat} {a : D} (ha : Th n a) : ∀ {m : Nat} {b : D}, Th m b → rankD a = rankD b → a = b := by
  induction ha with
  | non => intro m b hb; cases hb <;> simp [rankD]
  | int => intro m b hb; cases hb <;> simp [rankD]
  | str hx => intro m b hb; cases hb <;> simp [rankD]
  | @tup n ds hl hd ih =>
    intro m b hb
    cases hb with
    | @tup m es hl2 he =>
      have go : ∀ xs ys : List D, (∀ d ∈ xs, d ∈ ds) → (∀ d ∈ ys, d ∈ es) → rankDs xs = rankDs ys → xs = ys := by
        intro xs
        induction xs with
        | nil => intro ys _ _; cases ys <;> simp [rankDs]
        | cons x xs ih2 =>
          intro ys hx hy
          cases ys with
          | nil => simp [rankDs]
          | cons y ys =>
            simp only [rankDs, List.cons.injEq]
            rintro ⟨e1, e2⟩
            exact ⟨ih x (hx x List.mem_cons_self) (he y (hy y List.mem_cons_self)) e1, ih2 ys (fun d hd => hx d (List.mem_cons_of_mem _ hd)) (fun d hd => hy d (List.mem_cons_of_mem _ hd)) e2⟩
      simp only [rankD, D.tup.injEq, List.cons.injEq, true_and]
      exact fun e => go ds es (fun _ h => h) (fun _ h => h) e
    | _ => simp [rankD]
/-- ranks are told apart by < -/
theorem rank_tot {n : Nat} {a : D} (ha : Th n a) : ∀ {m : Nat} {b : D}, Th m b → ∃ c c', ltD (rankD a) (rankD b) = some c ∧ ltD (rankD b) (rankD a) = some c' ∧ (c = false → c' = false → a = b) := by
  induction ha with
  | non => intro m b hb; cases hb <;> simp [rankD, ltD, ltDs, D.py, PyData.eqv]
  | @int n i =>
    intro m b hb
    cases hb with
    | @int m j =>
      by_cases e : i = j
      · simp [rankD, ltD, ltDs, D.py, PyData.eqv, e]
      · simp [rankD, ltD, ltDs, D.py, PyData.eqv, e, show j ≠ i from fun z => e z.symm]
        omega
    | _ => simp [rankD, ltD, ltDs, D.py, PyData.eqv]
  | @str n x hx =>
    intro m b hb
    cases hb with
    | @str m y hy =>
      by_cases e : x = y
      · simp [rankD, ltD, ltDs, D.py, PyData.eqv, e]
      · simp [rankD, ltD, ltDs, D.py, PyData.eqv, e, show y ≠ x from fun z => e z.symm]
        intro h1
        by_cases h2 : y.cps < x.cps
        · exact h2
        · exfalso
          have h3 : x.cps = y.cps := Array.le_antisymm h2 h1
          obtain ⟨x⟩ := x
          obtain ⟨y⟩ := y
          simp at h3 e
          exact e h3
    | _ => simp [rankD, ltD, ltDs, D.py, PyData.eqv]
  | @tup n ds hl hd ih =>
    intro m b hb
    cases hb with
    | @tup m es hl2 he =>
      have go : ∀ xs ys : List D, (∀ d ∈ xs, d ∈ ds) → (∀ d ∈ ys, d ∈ es) → ∃ c c', ltDs (rankDs xs) (rankDs ys) = some c ∧ ltDs (rankDs ys) (rankDs xs) = some c' ∧ (c = false → c' = false → xs = ys) := by
        intro xs
        induction xs with
        | nil => intro ys _ _; cases ys <;> simp [rankDs, ltDs]
        | cons x xs ih2 =>
          intro ys hx hy
          cases ys with
          | nil => simp [rankDs, ltDs]
          | cons y ys =>
            have tx := hx x List.mem_cons_self
            have ty := hy y List.mem_cons_self
            obtain ⟨c, c', h1, h2, h3⟩ := ih x tx (he y ty)
            obtain ⟨d, d', g1, g2, g3⟩ := ih2 ys (fun d hd => hx d (List.mem_cons_of_mem _ hd)) fun d hd => hy d (List.mem_cons_of_mem _ hd)
            have q1 := nb_eqv _ _ (rank_nb (hd x tx)) (rank_nb (he y ty))
            have q2 := nb_eqv _ _ (rank_nb (he y ty)) (rank_nb (hd x tx))
            simp only [rankDs, ltDs]
            by_cases e : rankD x = rankD y
            · rw [if_pos (q1.mpr e), if_pos (q2.mpr e.symm)]
              have := rank_inj (hd x tx) (he y ty) e
              exact ⟨d, d', g1, g2, fun z z' => by rw [this, g3 z z']⟩
            · rw [if_neg (fun z => e (q1.mp z)), if_neg (fun z => e (q2.mp z).symm)]
              exact ⟨c, c', h1, h2, fun z z' => absurd (by rw [h3 z z']) e⟩
      obtain ⟨c, c', h1, h2, h3⟩ := go ds es (fun _ h => h) fun _ h => h
      simp only [rankD, ltD, ltDs, D.py, PyData.eqv, beq_self_eq_true, if_true]
      exact ⟨c, c', h1, h2, fun z z' => by rw [h3 z z']⟩
    | _ => simp [rankD, ltD, ltDs, D.py, PyData.eqv]
theorem leT_total : ∀ a b : D × D, leT a.1 b.1 || leT b.1 a.1 := fun a b => by
  simp only [leT, tokLt]
  cases h : PyProof.Rows.lexLt PyProof.Rows.itemOrd (PySem.W.keyToks b.1.py) (PySem.W.keyToks a.1.py) with
  | false => rfl
  | true =>
    have := (PyProof.Rows.listOrd PyProof.Rows.itemOrd).trans (PySem.W.keyToks b.1.py) (PySem.W.keyToks a.1.py) (PySem.W.keyToks b.1.py) h
    cases h2 : PyProof.Rows.lexLt PyProof.Rows.itemOrd (PySem.W.keyToks a.1.py) (PySem.W.keyToks b.1.py) with
    | false => rfl
    | true =>
      have z := this h2
      rw [(PyProof.Rows.listOrd PyProof.Rows.itemOrd).irrefl] at z
      cases z
theorem leT_trans : ∀ a b c : D × D, leT a.1 b.1 = true → leT b.1 c.1 = true → leT a.1 c.1 = true := fun a b c h1 h2 => by
  simp only [leT, tokLt, Bool.not_eq_true'] at *
  cases h : PyProof.Rows.lexLt PyProof.Rows.itemOrd (PySem.W.keyToks c.1.py) (PySem.W.keyToks a.1.py) with
  | false => rfl
  | true =>
    rcases (PyProof.Rows.listOrd PyProof.Rows.itemOrd).negTrans (PySem.W.keyToks c.1.py) (PySem.W.keyToks b.1.py) (PySem.W.keyToks a.1.py) h with z | z
    · exact absurd (show PyProof.Rows.lexLt PyProof.Rows.itemOrd (PySem.W.keyToks c.1.py) (PySem.W.keyToks b.1.py) = true from z) (by rw [h2]; simp)
    · exact absurd (show PyProof.Rows.lexLt PyProof.Rows.itemOrd (PySem.W.keyToks b.1.py) (PySem.W.keyToks a.1.py) = true from z) (by rw [h1]; simp)
/-- sorted: a permutation, none ahead of the one before it -/
theorem sortD_ok {f : D → D} {xs : List D} : (sortD (xs.map f) xs).Perm xs ∧ (sortD (xs.map f) xs).Pairwise fun a b => tokLt (f b) (f a) = false := by
  have e0 : ∀ l : List D, (l.map f).zip l = l.map fun x => (f x, x) := fun l => by
    induction l with
    | nil => rfl
    | cons a l ih => simp [ih]
  have e := e0 xs
  have p := List.mergeSort_perm ((xs.map f).zip xs) fun p q => leT p.1 q.1
  have s := List.pairwise_mergeSort (le := fun p q : D × D => leT p.1 q.1) leT_trans leT_total ((xs.map f).zip xs)
  refine ⟨?_, ?_⟩
  · unfold sortD
    refine (p.map (·.2)).trans ?_
    rw [e, List.map_map, show ((fun x : D × D => x.2) ∘ fun x => (f x, x)) = id from rfl, List.map_id]
  · unfold sortD
    rw [List.pairwise_map]
    refine List.Pairwise.imp_of_mem (fun {a b} ha hb h => ?_) s
    have m1 : ∀ p ∈ ((xs.map f).zip xs).mergeSort (fun p q => leT p.1 q.1), p.1 = f p.2 := fun q hq => by
      have := p.mem_iff.mp hq
      rw [e] at this
      obtain ⟨x, _, rfl⟩ := List.mem_map.mp this
      rfl
    rw [← m1 a ha, ← m1 b hb]
    simpa [leT] using h
/-- the things in order -/
def ordD (xs : List D) : List D := sortD (xs.map rankD) xs
theorem ord_perm {xs : List D} : (ordD xs).Perm xs := sortD_ok.1
theorem ord_sorted {xs : List D} : (ordD xs).Pairwise fun a b => tokLt (rankD b) (rankD a) = false := sortD_ok.2
theorem ord_anti {n m : Nat} {a b : D} (ha : Th n a) (hb : Th m b) (h1 : tokLt (rankD b) (rankD a) = false) (h2 : tokLt (rankD a) (rankD b) = false) : a = b := by
  obtain ⟨c, c', e1, e2, e3⟩ := rank_tot ha hb
  rw [tokLt_of e2] at h1
  rw [tokLt_of e1] at h2
  exact e3 h2 h1
/-- the same things give the same order -/
theorem ord_eq {n : Nat} {xs ys : List D} (hx : ∀ d ∈ xs, Th n d) (h : xs.Perm ys) : ordD xs = ordD ys :=
  List.Perm.eq_of_pairwise (le := fun a b => tokLt (rankD b) (rankD a) = false) (fun a b ha hb h1 h2 => ord_anti (hx a (ord_perm.mem_iff.mp ha)) (hx b (h.mem_iff.mpr (ord_perm.mem_iff.mp hb))) h1 h2) ord_sorted ord_sorted ((ord_perm.trans h).trans ord_perm.symm)
theorem ord_set {n : Nat} {xs ys : List D} (hx : ∀ d ∈ xs, Th n d) (n1 : xs.Nodup) (n2 : ys.Nodup) (h : ∀ d, d ∈ xs ↔ d ∈ ys) : ordD xs = ordD ys :=
  ord_eq hx ((List.perm_ext_iff_of_nodup n1 n2).mpr h)
theorem kTy_rank {n : Nat} {d : D} (h : Th n d) : kTy (rankD d) = some 2 := by
  cases h <;> simp [rankD, kTy]
theorem sortOk_rank {n : Nat} {xs : List D} (hn : n ≤ 60) (h : ∀ d ∈ xs, Th n d) : sortOk (xs.map rankD) = true := by
  unfold sortOk
  simp only [List.all_map, List.all_eq_true, Function.comp, Bool.and_eq_true, decide_eq_true_eq]
  intro x hx
  have hx := h x hx
  obtain ⟨a1, a2, a3⟩ := rank_shape hx
  refine ⟨⟨⟨a1, ?_⟩, by rw [kTy_rank hx]; rfl⟩, fun y hy => ?_⟩
  · simp [SeqAt.shaped, a2]
    omega
  · have hy := h y hy
    obtain ⟨c, _, hc, _⟩ := rank_tot hx hy
    exact ⟨by rw [hc]; rfl, by rw [kTy_rank hx, kTy_rank hy]⟩
/-- what a def of rank promises -/
def RankOk (m : FM) (n : Nat) : Prop := ∀ d S, Th n d → Ow (m [d] S) fun x => x.1 = rankD d ∧ Gr S x.2
theorem keys_ok {m : FM} {n : Nat} (hm : RankOk m n) : ∀ (xs : List D) (S : Sto), (∀ d ∈ xs, Th n d) → ∃ S', keysD m xs S = some (xs.map rankD, S') ∧ Gr S S'
  | [], S, _ => ⟨S, by simp [keysD], .refl⟩
  | x :: xs, S, h => by
    obtain ⟨⟨y, S1⟩, e1, h1, h2⟩ := hm x S (h x List.mem_cons_self)
    simp only at h1 h2
    subst h1
    obtain ⟨S2, e2, h3⟩ := keys_ok hm xs S1 fun d hd => h d (List.mem_cons_of_mem _ hd)
    exact ⟨S2, by simp [keysD, e1, e2], h2.trans h3⟩
/-- sorted(list of things, key=rank) -/
theorem sort_ok {m : FM} {n l : Nat} {xs : List D} {S : Sto} (hm : RankOk m n) (hn : n ≤ 60) (hl : S[l]? = some (.lst xs)) (h : ∀ d ∈ xs, Th n d) : Ow (sortKP m (.loc l) S) fun x => ∃ r, x.1 = .loc r ∧ Gr S x.2 ∧ x.2[r]? = some (.lst (ordD xs)) ∧ S.length ≤ r := by
  obtain ⟨S', e, g⟩ := keys_ok hm xs S h
  simp only [sortKP, isLst, seqD, hl, e, sortOk_rank hn h, if_true, ow_some]
  exact ⟨S'.length, rfl, g.trans .app, by simp [ordD], g.len⟩
end DL
/-! DLz7: the defs of rank, and what sorts by it. -/
namespace DL
open PySem

noncomputable def rankB (f : FM) : SM := (sSeq (sIf (bV (mIsN (mVar 0))) (sRet (mL tupP (lCons (mC (.int 0)) lNil))) sNext) (sSeq (sIf (bTru (m1 (isiP "tuple") (mVar 0))) (sRet (mL tupP (lCons (mC (.int 3)) (lStar (mLc (iSeq (mVar 0)) [1] (.nm 1) bYes (mL f (lCons (mVar 1) lNil))) lNil)))) sNext) (sSeq (sIf (bTru (m1 (isiP "str") (mVar 0))) (sRet (mL tupP (lCons (mC (.int 2)) (lCons (mVar 0) lNil)))) sNext) (sRet (mL tupP (lCons (mC (.int 1)) (lCons (mVar 0) lNil)))))))
noncomputable def rankLB (f : FM) : SM := (sSeq (sIf (bV (mIsN (mVar 0))) (sRet (mL tupP (lCons (mC (.int 0)) lNil))) sNext) (sSeq (sIf (bTru (m1 (isiP "tuple") (mVar 0))) (sRet (m2 addP (mL tupP (lCons (mC (.int 3)) lNil)) (mL tupleP (lCons (mLc (iSeq (mVar 0)) [1] (.nm 1) bYes (mL f (lCons (mVar 1) lNil))) lNil)))) sNext) (sRet (mIf (bTru (m1 (isiP "str") (mVar 0))) (mL tupP (lCons (mC (.int 2)) (lCons (mVar 0) lNil))) (mL tupP (lCons (mC (.int 1)) (lCons (mVar 0) lNil)))))))
theorem parts_ok {f : FM} {n : Nat} (hf : RankOk f n) {ds : List D} (hl : ds.length ≤ 900) (hd : ∀ d ∈ ds, Th n d) {o1 : Option D} (S : Sto) : Ow (lcL (.seq (.tup ds)) [1] (.nm 1) bYes (mL f (lCons (mVar 1) lNil)) [some (.tup ds), o1] 0 [] S) fun x => x.1 = ds.map rankD ∧ Gr S x.2 := by
  refine (lcL_inv ds (fun j acc S1 => acc = (ds.take j).map rankD ∧ Gr S S1) (fun j acc S _ => by simp [itAt, seqD]) (fun j d acc S1 hj hI => ?_) ds.length 0 [] S (by simp) (by simp) ⟨by simp, .refl⟩).imp ?_
  · obtain ⟨rfl, g⟩ := hI
    have hjl : j < ds.length := (List.getElem?_eq_some_iff.mp hj).1
    refine ⟨_, rfl, ?_⟩
    simp [bYes, wipeD]
    refine (hf d _ (hd d (List.mem_of_getElem? hj))).imp ?_
    rintro ⟨y, S2⟩ ⟨rfl, g2⟩
    refine ⟨fits_lt (by omega), ?_, g.trans g2⟩
    simp [List.take_add_one, hj]
  · rintro ⟨ks, S1⟩ ⟨h1, g⟩
    simp only [List.take_length] at h1 g
    exact ⟨h1, g⟩
theorem rankB_ok {r : Nat → FM} (hr : ∀ k, r (k + 1) = runB 2 (rankB (r k))) : ∀ n k, n < k → RankOk (r k) n := by
  intro n
  induction n with
  | zero =>
    intro k hk d S hd
    obtain ⟨j, rfl⟩ : ∃ j, k = j + 1 := ⟨k - 1, by omega⟩
    rw [hr, ow_runB]
    unfold rankB
    cases hd <;> simp [tup_ok, rankD, Gr.refl]
  | succ n ih =>
    intro k hk d S hd
    obtain ⟨j, rfl⟩ : ∃ j, k = j + 1 := ⟨k - 1, by omega⟩
    rw [hr, ow_runB]
    unfold rankB
    cases hd with
    | tup hl hd =>
      simp [ow_lc, seqD]
      refine (parts_ok (ih j (by omega)) hl hd S).imp ?_
      rintro ⟨ks, S1⟩ ⟨rfl, g⟩
      simp [seqD]
      rw [tup_ok (by simp; omega)]
      simp [rankD, rankDs_map, g.trans Gr.app]
    | _ => simp [tup_ok, rankD, Gr.refl]
theorem rankLB_ok {r : Nat → FM} (hr : ∀ k, r (k + 1) = runB 2 (rankLB (r k))) : ∀ n k, n < k → RankOk (r k) n := by
  intro n
  induction n with
  | zero =>
    intro k hk d S hd
    obtain ⟨j, rfl⟩ : ∃ j, k = j + 1 := ⟨k - 1, by omega⟩
    rw [hr, ow_runB]
    unfold rankLB
    cases hd <;> simp [tup_ok, rankD, Gr.refl]
  | succ n ih =>
    intro k hk d S hd
    obtain ⟨j, rfl⟩ : ∃ j, k = j + 1 := ⟨k - 1, by omega⟩
    rw [hr, ow_runB]
    unfold rankLB
    cases hd with
    | @tup _ ds hl hd =>
      simp [ow_lc, seqD, tup_ok]
      refine (parts_ok (ih j (by omega)) hl hd S).imp ?_
      rintro ⟨ks, S1⟩ ⟨rfl, g⟩
      have : 1 + ds.length ≤ sizeLine := fits (by omega)
      simp [seqD, tupleP, addP, this]
      rw [Nat.add_comm] at this
      simp [rankD, rankDs_map, g.trans Gr.app, this]
    | _ => simp [tup_ok, rankD, Gr.refl]
end DL
/-! DLz8: helpers on growing stores; the laws' own free, along, accepts. -/
namespace DL
open PySem

theorem fitsM {n : Nat} (h : n ≤ 1000000) : n ≤ sizeLine := Nat.le_trans h (by decide)
theorem fitsM_lt {n : Nat} (h : n ≤ 1000000) : n < sizeLine := Nat.lt_of_le_of_lt h (by decide)
theorem Gr.set {S S1 : Sto} {l : Nat} {o : Ob} (g : Gr S S1) (h : S.length ≤ l) : Gr S (S1.set l o) := by
  obtain ⟨U, rfl⟩ := g
  exact ⟨U.set (l - S.length) o, by rw [List.set_append_right _ _ h]⟩
theorem Gr.snoc {S S1 : Sto} {o : Ob} (g : Gr S S1) : Gr S (S1 ++ [o]) := g.trans .app
theorem get_snoc {S : Sto} {o : Ob} : (S ++ [o])[S.length]? = some o := by simp
section
variable {S : Sto} {a b c : D} {l : List D}
@[simp] theorem ix_0 : ixQ (.tup (a :: l)) (.int 0) S = some (a, S) := ix_tup (by omega) rfl
@[simp] theorem ix_1' : ixQ (.tup (a :: b :: l)) (.int 1) S = some (b, S) := ix_tup (by omega) rfl
@[simp] theorem ix_2 : ixQ (.tup (a :: b :: c :: l)) (.int 2) S = some (c, S) := ix_tup (by omega) rfl
end
theorem len_lst {n : Nat} {ds : List D} {S : Sto} (h : S[n]? = some (.lst ds)) : lenQ [.loc n] S = some (.int ds.length, S) := by simp [lenQ, dctD, h, lenP, seqD]
@[simp] theorem len_tupQ {ds : List D} {S : Sto} : lenQ [.tup ds] S = some (.int ds.length, S) := rfl
theorem app_lst {n : Nat} {ds : List D} {y : D} {S : Sto} (h : S[n]? = some (.lst ds)) (hz : ds.length ≤ 1000000) : appP (.loc n) [y] S = some (.non, S.set n (.lst (ds ++ [y]))) := by
  simp only [appP, h]
  rw [if_pos (fitsM_lt hz)]
theorem ext_lst {n m : Nat} {ds es : List D} {S : Sto} (h : S[n]? = some (.lst ds)) (h2 : S[m]? = some (.lst es)) (hz : ds.length + es.length ≤ 1000000) : extP (.loc n) [.loc m] S = some (.non, S.set n (.lst (ds ++ es))) := by
  simp only [extP, h, h2]
  rw [if_pos (fitsM hz)]
theorem ty_lst {n : Nat} {ds : List D} {S : Sto} (h : S[n]? = some (.lst ds)) : tyD "list" S (.loc n) = true := by simp only [tyD, seqD, h, Option.isSome_some]
theorem get_set {S : Sto} {n : Nat} {o o' : Ob} (h : S[n]? = some o) : (S.set n o')[n]? = some o' := List.getElem?_set_self (List.getElem?_eq_some_iff.mp h).1
theorem get_set_ne {S : Sto} {n m : Nat} {o' : Ob} (h : n ≠ m) : (S.set n o')[m]? = S[m]? := List.getElem?_set_ne h
theorem seq_loc {S : Sto} {n : Nat} {ds : List D} (h : S[n]? = some (.lst ds)) : seqD S (.loc n) = some ds := by simp [seqD, h]
theorem seq_at {S : Sto} {n : Nat} {ds : List D} (h : seqD S (.loc n) = some ds) : S[n]? = some (.lst ds) := by
  simp only [seqD] at h
  split at h
  · rename_i e q
    cases h
    exact q
  · cases h

/-- a comprehension: test and item told by functions, the store grows -/
theorem lcG {d : D} {vs : List Nat} {t : Tgt} {tt : BM} {te : EM} {env : Vars} {S : Sto} {its : List D} (hd : seqD S d = some its) (hl : its.length ≤ 1000000) (p : D → Bool) (f : D → D)
    (step : ∀ x ∈ its, ∃ env1, t.put (wipeD env vs) x = some env1 ∧ ∀ S1, Gr S S1 → Ow (tt env1 S1) fun b => b.1 = p x ∧ Gr S1 b.2 ∧ (p x = true → Ow (te env1 b.2) fun y => y.1 = f x ∧ Gr b.2 y.2)) :
    Ow (lcL (.seq d) vs t tt te env 0 [] S) fun r => r.1 = (its.filter p).map f ∧ Gr S r.2 := by
  refine (lcL_inv its (fun j acc S1 => acc = ((its.take j).filter p).map f ∧ Gr S S1) (fun j acc S1 ⟨_, g⟩ => by simp [itAt, g.seq hd]) (fun j x acc S1 hj ⟨ha, g⟩ => ?_) its.length 0 [] S (by simp) (by simp) ⟨by simp, .refl⟩).imp ?_
  · subst ha
    obtain ⟨env1, e1, h⟩ := step x (List.mem_of_getElem? hj)
    refine ⟨env1, e1, (h S1 g).imp ?_⟩
    rintro ⟨b, S2⟩ ⟨rfl, g2, k⟩
    have hlt : ((its.take j).filter p).length ≤ 1000000 := by
      have := List.length_filter_le p (its.take j)
      have : (its.take j).length ≤ its.length := by simp; omega
      omega
    by_cases hp : p x = true
    · simp only [hp, if_true]
      refine (k hp).imp ?_
      rintro ⟨y, S3⟩ ⟨rfl, g3⟩
      refine ⟨by rw [List.length_map]; exact fitsM_lt hlt, ?_, g.trans (g2.trans g3)⟩
      simp [List.take_add_one, hj, hp]
    · simp only [hp]
      refine ⟨?_, g.trans g2⟩
      simp [List.take_add_one, hj, hp]
  · rintro ⟨ys, S1⟩ ⟨h1, g⟩
    simp only [List.take_length] at h1 g
    exact ⟨h1, g⟩
/-- a loop over a range -/
theorem forR_inv {lo : Int} {n : Nat} {g : GM} {b : SM} (I : Nat → Vars → Sto → Prop) (R : Fl × Vars × Sto → Prop)
    (fin : ∀ env S, I n env S → R (.nx, env, S))
    (step : ∀ j env S, j < n → I j env S → Ow (g (.int (lo + j)) env S) fun x => Ow (b x.1 x.2) fun y => match y.1 with
      | .nx => I (j + 1) y.2.1 y.2.2
      | .ct => I (j + 1) y.2.1 y.2.2
      | .bk => R (.nx, y.2)
      | .rt d => R (.rt d, y.2))
    {env : Vars} {S : Sto} (h : I 0 env S) : Ow (forL (.rng lo n) g b 0 env S) R := by
  have hl : ((List.range n).map fun i => D.int (lo + (i : Nat))).length = n := by simp
  refine forL_inv ((List.range n).map fun i => D.int (lo + (i : Nat))) I R (fun j env S _ => ?_) (fun env S h => fin env S (by rw [hl] at h; exact h)) (fun j d env S hj hI => ?_) n 0 env S (by rw [hl]; omega) (by omega) h
  · simp only [itAt, List.getElem?_map]
    by_cases hj : j < n
    · simp [hj, List.getElem?_range hj]
    · simp [hj]
  · have hjn : j < n := by
      have := (List.getElem?_eq_some_iff.mp hj).1
      simpa using this
    have : d = .int (lo + j) := by
      rw [List.getElem?_map, List.getElem?_range hjn] at hj
      simpa using hj.symm
    subst this
    exact step j env S hjn hI
@[simp] theorem bls_nil : blsOf [] = some [] := rfl
theorem bls_map {f : D → Bool} : ∀ {xs : List D}, blsOf (xs.map fun x => .bl (f x)) = some (xs.map f)
  | [] => rfl
  | x :: xs => by simp [blsOf, bls_map (xs := xs)]
theorem any_loc {n : Nat} {f : D → Bool} {xs : List D} {S : Sto} (h : S[n]? = some (.lst (xs.map fun x => .bl (f x)))) : anyP [.loc n] S = some (.bl (xs.any f), S) := by
  simp only [anyP, seqD, h, bls_map, List.any_map]
  rfl
theorem all_loc {n : Nat} {f : D → Bool} {xs : List D} {S : Sto} (h : S[n]? = some (.lst (xs.map fun x => .bl (f x)))) : allP [.loc n] S = some (.bl (xs.all f), S) := by
  simp only [allP, seqD, h, bls_map, List.all_map]
  rfl
/-- edges of things -/
def EdT (n : Nat) (E : List Ed) : Prop := ∀ p ∈ E, Th n p.1 ∧ Th n p.2.1 ∧ Th n p.2.2
theorem isNon_iff {n : Nat} {d : D} (h : Th n d) : d.isNon = decide (d = .non) := by cases h <;> simp [D.isNon]

noncomputable def freeLB : SM := (sSeq (sAsg (mL listQ (lCons (mVar 1) lNil)) (gVar 2)) (sSeq (sFor (iRng1M (mC (.int 40))) (gVar 3) (sSeq (sAsg (mLc (iSeq (mVar 0)) [5] (.nm 5) (bAnd (bV (mIsN (m2 ixQ (mVar 5) (mC (.int 1))))) (bAnd (bV (m2 inQ (m2 ixQ (mVar 5) (mC (.int 0))) (mVar 2))) (bV (m2 notInQ (m2 ixQ (mVar 5) (mC (.int 2))) (mVar 2))))) (m2 ixQ (mVar 5) (mC (.int 2)))) (gVar 4)) (sSeq (sIf (bV (m2 eqP (mL lenQ (lCons (mVar 4) lNil)) (mC (.int 0)))) sBreak sNext) (sExpr (mM "list" extP (mVar 2) (lCons (mVar 4) lNil)))))) (sRet (mVar 2))))
theorem filter_enc {E : List Ed} {p : D → Bool} {f : D → D} {y : D} : y ∈ ((E.map enc).filter p).map f ↔ ∃ e ∈ E, p (enc e) = true ∧ f (enc e) = y := by
  simp only [List.mem_map, List.mem_filter]
  constructor
  · rintro ⟨_, ⟨⟨e, h, rfl⟩, h2⟩, rfl⟩
    exact ⟨e, h, h2, rfl⟩
  · rintro ⟨e, h, h2, rfl⟩
    exact ⟨_, ⟨⟨e, h, rfl⟩, h2⟩, rfl⟩
/-- the parts of an edge -/
def e1 : D → D | .tup (a :: _) => a | _ => .non
def e2 : D → D | .tup (_ :: b :: _) => b | _ => .non
def e3 : D → D | .tup (_ :: _ :: c :: _) => c | _ => .non
@[simp] theorem e1_enc {p : Ed} : e1 (enc p) = p.1 := rfl
@[simp] theorem e2_enc {p : Ed} : e2 (enc p) = p.2.1 := rfl
@[simp] theorem e3_enc {p : Ed} : e3 (enc p) = p.2.2 := rfl
theorem lfree_ok {S : Sto} {E : List Ed} {xs M : List D} {d0 d1 : D} (h0 : seqD S d0 = some (E.map enc)) (h1 : seqD S d1 = some xs) (tE : EdT 4 E) (tx : ∀ x ∈ xs, Th 4 x) (hM : ∀ x y, (x, .non, y) ∈ E → y ∈ M) (hMl : M.length ≤ 39) (lE : E.length ≤ 300) (lx : xs.length ≤ 50000) :
    Ow (runB 6 freeLB [d0, d1] S) fun r => Gr S r.2 ∧ ∃ ys, seqD r.2 r.1 = some ys ∧ ys.length ≤ xs.length + 12000 ∧ ∀ y, y ∈ ys ↔ ∃ x ∈ xs, Fr E x y := by
  rw [ow_runB]
  unfold freeLB
  rw [ow_seq]
  simp [-ow_seq, list_seq h1]
  rw [ow_seq, ow_for]
  simp [-ow_seq]
  have hT : ∀ x, (∃ z ∈ xs, Fr E z x) → Th 4 x := fun x ⟨z, hz, hf⟩ => fr_good (P := Th 4) (fun p hp => (tE p hp).2.2) hf (tx z hz)
  refine (forR_inv (fun j env S1 => ∃ fs Ns o3 o4 o5, env = [some d0, some d1, some (.loc S.length), o3, o4, o5] ∧ Gr S S1 ∧ S1[S.length]? = some (.lst fs) ∧ (∀ x ∈ xs, x ∈ fs) ∧ (∀ y ∈ fs, ∃ x ∈ xs, Fr E x y) ∧ fs.length ≤ xs.length + j * 300 ∧ Ns.Nodup ∧ (∀ y ∈ Ns, y ∈ M) ∧ (∀ y ∈ Ns, y ∈ fs) ∧ Ns.length = j)
    (fun x => x.1 = .nx ∧ ∃ fs o3 o4 o5, x.2.1 = [some d0, some d1, some (.loc S.length), o3, o4, o5] ∧ Gr S x.2.2 ∧ x.2.2[S.length]? = some (.lst fs) ∧ fs.length ≤ xs.length + 12000 ∧ ∀ y, y ∈ fs ↔ ∃ x ∈ xs, Fr E x y)
    (fun env S1 ⟨fs, Ns, o3, o4, o5, e, g, hs, i1, i2, i3, n1, n2, n3, n4⟩ => ?_) (fun j env S1 hj ⟨fs, Ns, o3, o4, o5, e, g, hs, i1, i2, i3, n1, n2, n3, n4⟩ => ?_) ⟨xs, [], none, none, none, rfl, .app, get_snoc, fun x h => h, fun y hy => ⟨y, hy, .refl⟩, by simp, List.nodup_nil, by simp, by simp, rfl⟩).imp ?_
  · rintro ⟨fl, env, S1⟩ ⟨rfl, fs, o3, o4, o5, rfl, g, hs, hl, hm⟩
    simp
    exact ⟨g, fs, seq_loc hs, hl, hm⟩
  · have := len_sub n1 n2
    omega
  · subst e
    have tf : ∀ y ∈ fs, Th 4 y := fun y hy => hT y (i2 y hy)
    rw [ow_gVar, ow_seq]
    simp [-ow_seq, ow_lc, g.seq h0]
    refine (lcG (g.seq h0) (by rw [List.length_map]; omega) (fun d => decide (e2 d = .non ∧ e1 d ∈ fs ∧ e3 d ∉ fs)) e3 (fun x hx => ?_)).imp ?_
    · obtain ⟨p, hp, rfl⟩ := List.mem_map.mp hx
      obtain ⟨t1, t2, t3⟩ := tE p hp
      refine ⟨_, rfl, fun S2 g2 => ?_⟩
      have q := g2.seq (seq_loc hs)
      by_cases c1 : p.2.1 = .non
      · by_cases c2 : p.1 ∈ fs
        · simp [enc, wipeD, isNon_iff t2, c1, in_ths t1 q tf (by omega) (by omega), notIn_ths t3 q tf (by omega) (by omega), c2, e1, e2, e3, Gr.refl]
        · simp [enc, wipeD, isNon_iff t2, c1, in_ths t1 q tf (by omega) (by omega), c2, e1, e2, e3, Gr.refl]
      · simp [enc, wipeD, isNon_iff t2, c1, e1, e2, e3, Gr.refl]
    · rintro ⟨ys, S2⟩ ⟨rfl, g2⟩
      have hy : ∀ y, y ∈ ((E.map enc).filter fun d => decide (e2 d = .non ∧ e1 d ∈ fs ∧ e3 d ∉ fs)).map e3 ↔ ∃ x ∈ fs, (x, D.non, y) ∈ E ∧ y ∉ fs := fun y => by
        rw [filter_enc]
        constructor
        · rintro ⟨⟨a, b, c⟩, h, h2, rfl⟩
          obtain ⟨h2, h3, h4⟩ : b = .non ∧ a ∈ fs ∧ c ∉ fs := of_decide_eq_true h2
          subst h2
          exact ⟨a, h3, h, h4⟩
        · rintro ⟨x, h, h2, h3⟩
          exact ⟨_, h2, decide_eq_true ⟨rfl, h, h3⟩, rfl⟩
      simp only at g2
      have hyl : (((E.map enc).filter fun d => decide (e2 d = .non ∧ e1 d ∈ fs ∧ e3 d ∉ fs)).map e3).length ≤ 300 := by
        rw [List.length_map]
        refine Nat.le_trans (List.length_filter_le _ _) ?_
        rw [List.length_map]
        exact lE
      revert hy hyl
      generalize ((E.map enc).filter fun d => decide (e2 d = .non ∧ e1 d ∈ fs ∧ e3 d ∉ fs)).map e3 = ys
      intro hy hyl
      have q2 : (S2 ++ [Ob.lst ys])[S.length]? = some (.lst fs) := get_app (g2.get hs)
      have hne : S.length ≠ S2.length := by
        have := (List.getElem?_eq_some_iff.mp (g2.get hs)).1
        omega
      rw [ow_seq]
      simp [-ow_seq, len_lst get_snoc]
      by_cases hz : ys = []
      · subst hz
        simp
        refine ⟨(g.trans g2).snoc, fs, q2, by omega, fun y => ⟨i2 y, ?_⟩⟩
        rintro ⟨x, h, k⟩
        induction k with
        | refl => exact i1 _ h
        | @step y z k1 k2 ih =>
          by_cases hc : z ∈ fs
          · exact hc
          · exact absurd ((hy z).mpr ⟨y, ih, k2, hc⟩) (by simp)
      · simp [hz, ty_lst q2, ext_lst q2 get_snoc (by omega)]
        obtain ⟨y0, hy0⟩ := List.exists_mem_of_ne_nil ys hz
        obtain ⟨x0, a1, a2, a3⟩ := (hy y0).mp hy0
        refine ⟨((g.trans g2).snoc).set (Nat.le_refl _), fs ++ ys, ?_, fun x hx => by simp [i1 x hx], fun y h => ?_, by simp only [List.length_append]; omega, Ns ++ [y0], ?_, fun y h => ?_, fun y h => ?_, by simp [n4]⟩
        · simp [get_set q2]
        · rcases List.mem_append.mp h with h | h
          · exact i2 y h
          · obtain ⟨x, b1, b2, _⟩ := (hy y).mp h
            obtain ⟨z, c1, c2⟩ := i2 x b1
            exact ⟨z, c1, .step c2 b2⟩
        · rw [List.nodup_append]
          exact ⟨n1, by simp, fun a ha b hb => by simp at hb; subst hb; exact fun z => a3 (z ▸ n3 a ha)⟩
        · rcases List.mem_append.mp h with h | h
          · exact n2 y h
          · rw [List.mem_singleton.mp h]; exact hM _ _ a2
        · rcases List.mem_append.mp h with h | h
          · simp [n3 y h]
          · rw [List.mem_singleton.mp h]; simp [hy0]
end DL
/-! DLz9: the laws' own along and accepts. -/
namespace DL
open PySem

noncomputable def alongLB (fr : FM) : SM := (sSeq (sFor (iSeq (mVar 2)) (gVar 3) (sSeq (sAsg (mL fr (lCons (mVar 0) (lCons (mVar 1) lNil))) (gVar 1)) (sAsg (mLc (iSeq (mVar 0)) [4] (.nm 4) (bAnd (bV (m2 eqP (m2 ixQ (mVar 4) (mC (.int 1))) (mVar 3))) (bV (m2 inQ (m2 ixQ (mVar 4) (mC (.int 0))) (mVar 1)))) (m2 ixQ (mVar 4) (mC (.int 2)))) (gVar 1)))) (sRet (mVar 1)))
theorem al_good2 {E : List Ed} {P : D → Prop} (hE : ∀ p ∈ E, P p.2.2) {w : List D} {x y : D} (h : Al E w x y) (hx : P x) : P y := al_good hE h hx
theorem llong_ok2 {fr : FM} (hfr : fr = runB 6 freeLB) {S : Sto} {E : List Ed} {xs M ws : List D} {d0 d1 d2 : D} (h0 : seqD S d0 = some (E.map enc)) (h1 : seqD S d1 = some xs) (h2 : seqD S d2 = some ws) (tE : EdT 4 E) (tx : ∀ x ∈ xs, Th 4 x) (tw : ∀ x ∈ ws, Th 4 x) (hM : ∀ x y, (x, .non, y) ∈ E → y ∈ M) (hMl : M.length ≤ 39) (lE : E.length ≤ 300) (lx : xs.length ≤ 300) :
    Ow (runB 5 (alongLB fr) [d0, d1, d2] S) fun r => Gr S r.2 ∧ ∃ ys, seqD r.2 r.1 = some ys ∧ ys.length ≤ 300 ∧ (∀ y, y ∈ ys ↔ ∃ x ∈ xs, Al E ws x y) ∧ (r.1 = d1 ∧ ws = [] ∨ ∃ l, r.1 = .loc l ∧ S.length ≤ l) := by
  subst hfr
  rw [ow_runB]
  unfold alongLB
  rw [ow_seq, ow_for]
  simp [-ow_seq, h2]
  have gE : ∀ p ∈ E, Th 4 p.2.2 := fun p hp => (tE p hp).2.2
  refine (forL_inv ws (fun j env S1 => ∃ d ys o3 o4, env = [some d0, some d, some d2, o3, o4] ∧ Gr S S1 ∧ seqD S1 d = some ys ∧ ys.length ≤ 300 ∧ (∀ y, y ∈ ys ↔ ∃ x ∈ xs, Al E (ws.take j) x y) ∧ (d = d1 ∧ j = 0 ∨ ∃ l, d = .loc l ∧ S.length ≤ l))
    (fun x => x.1 = .nx ∧ ∃ d ys o3 o4, x.2.1 = [some d0, some d, some d2, o3, o4] ∧ Gr S x.2.2 ∧ seqD x.2.2 d = some ys ∧ ys.length ≤ 300 ∧ (∀ y, y ∈ ys ↔ ∃ x ∈ xs, Al E ws x y) ∧ (d = d1 ∧ ws = [] ∨ ∃ l, d = .loc l ∧ S.length ≤ l))
    (fun j env S1 ⟨d, ys, o3, o4, _, g, _⟩ => by simp [itAt, g.seq h2]) (fun env S1 ⟨d, ys, o3, o4, e, g, a1, a2, a3, a4⟩ => ⟨rfl, d, ys, o3, o4, e, g, a1, a2, by simpa using a3, a4.imp (fun z => ⟨z.1, List.length_eq_zero_iff.mp z.2⟩) id⟩)
    (fun j s env S1 hj ⟨d, ys, o3, o4, e, g, a1, a2, a3, a4⟩ => ?step) ws.length 0 _ _ (by simp) (by simp) ⟨d1, xs, none, none, rfl, .refl, h1, lx, fun y => ?zero, .inl ⟨rfl, rfl⟩⟩).imp ?imp
  case step =>
    subst e
    have ts := tw s (List.mem_of_getElem? hj)
    have ty : ∀ y ∈ ys, Th 4 y := fun y hy => by
      obtain ⟨x, b1, b2⟩ := (a3 y).mp hy
      exact al_good gE b2 (tx x b1)
    rw [ow_gVar, ow_seq]
    simp [-ow_seq]
    refine (lfree_ok (g.seq h0) a1 tE ty hM hMl lE (by omega)).imp ?_
    rintro ⟨r, S2⟩ ⟨g2, zs, z1, z2, z3⟩
    have tz : ∀ y ∈ zs, Th 4 y := fun y hy => by
      obtain ⟨x, b1, b2⟩ := (z3 y).mp hy
      exact fr_good gE b2 (ty x b1)
    simp only at g2 z1
    have q0 := (g.trans g2).seq h0
    simp only [ow_asg, ow_gVar, ow_lc, ow_iSeq, ow_var, List.set_cons_succ, List.set_cons_zero, List.getElem?_cons_succ, List.getElem?_cons_zero, Option.some.injEq, exists_eq_left']
    refine ⟨by rw [q0]; rfl, ?_⟩
    refine (lcG q0 (by rw [List.length_map]; omega) (fun d => decide (e2 d = s ∧ e1 d ∈ zs)) e3 (fun x hx => ?_)).imp ?_
    · obtain ⟨p, hp, rfl⟩ := List.mem_map.mp hx
      obtain ⟨t1, t2, t3⟩ := tE p hp
      refine ⟨_, rfl, fun S3 g3 => ?_⟩
      have q := g3.seq z1
      by_cases c1 : p.2.1 = s
      · by_cases c2 : p.1 ∈ zs
        · simp [enc, wipeD, eq_th ts ts (by omega) (by omega), c1, in_ths t1 q tz (by omega) (by omega), c2, e1, e2, e3, Gr.refl]
        · simp [enc, wipeD, eq_th ts ts (by omega) (by omega), c1, in_ths t1 q tz (by omega) (by omega), c2, e1, e2, e3, Gr.refl]
      · simp [enc, wipeD, eq_th t2 ts (by omega) (by omega), c1, e1, e2, e3, Gr.refl]
    · rintro ⟨us, S3⟩ ⟨rfl, g3⟩
      refine ⟨((g.trans g2).trans g3).snoc, _, seq_last, ?_, fun y => ?_, ⟨_, rfl, ((g.trans g2).trans g3).len⟩⟩
      · rw [List.length_map]
        refine Nat.le_trans (List.length_filter_le _ _) ?_
        rw [List.length_map]
        exact lE
      · rw [filter_enc, List.take_add_one, hj]
        simp only [Option.toList_some, decide_eq_true_eq]
        constructor
        · rintro ⟨⟨a, b, c⟩, k1, ⟨rfl, k2⟩, rfl⟩
          obtain ⟨u, hu, huz⟩ := (z3 _).mp k2
          obtain ⟨x, hx1, hx2⟩ := (a3 u).mp hu
          exact ⟨x, hx1, al_snoc hx2 huz k1⟩
        · rintro ⟨x, hx1, hx2⟩
          obtain ⟨u, z, a, b, c1⟩ := al_last hx2
          exact ⟨_, c1, ⟨rfl, (z3 z).mpr ⟨u, (a3 u).mpr ⟨x, hx1, a⟩, b⟩⟩, rfl⟩
  case zero =>
    simp only [List.take_zero]
    exact ⟨fun h => ⟨y, h, .nil⟩, fun ⟨x, h, k⟩ => by cases k; exact h⟩
  case imp =>
    rintro ⟨fl, env, S1⟩ ⟨rfl, d, ys, o3, o4, rfl, g, a1, a2, a3, a4⟩
    simp
    exact ⟨g, ys, a1, a2, a3, a4⟩
theorem llong_ok {fr : FM} (hfr : fr = runB 6 freeLB) {S : Sto} {E : List Ed} {xs M ws : List D} {d0 d1 d2 : D} (h0 : seqD S d0 = some (E.map enc)) (h1 : seqD S d1 = some xs) (h2 : seqD S d2 = some ws) (tE : EdT 4 E) (tx : ∀ x ∈ xs, Th 4 x) (tw : ∀ x ∈ ws, Th 4 x) (hM : ∀ x y, (x, .non, y) ∈ E → y ∈ M) (hMl : M.length ≤ 39) (lE : E.length ≤ 300) (lx : xs.length ≤ 300) :
    Ow (runB 5 (alongLB fr) [d0, d1, d2] S) fun r => Gr S r.2 ∧ ∃ ys, seqD r.2 r.1 = some ys ∧ ys.length ≤ 300 ∧ ∀ y, y ∈ ys ↔ ∃ x ∈ xs, Al E ws x y := by
  refine (llong_ok2 hfr h0 h1 h2 tE tx tw hM hMl lE lx).imp ?_
  rintro ⟨r, S2⟩ ⟨a1, ys, a2, a3, a4, _⟩
  exact ⟨a1, ys, a2, a3, a4⟩
/-- accepted: from p along the stack, None edges in between, to a final node -/
def Acc (E : List Ed) (fin : List D) (p : D) (st : List D) : Prop := ∃ u v, Al E st p u ∧ Fr E u v ∧ v ∈ fin
noncomputable instance {E : List Ed} {fin : List D} {p : D} {st : List D} : Decidable (Acc E fin p st) := Classical.propDecidable _
noncomputable def acceptsLB (al fr : FM) : SM := (sSeq (sAsg (mVar 0) (gTupD 2 (gsCons (gVar 2) (gsCons (gVar 3) gsNil)))) (sSeq (sAsg (mL al (lCons (mVar 2) (lCons (mL lstP (lCons (m2 ixQ (mVar 1) (mC (.int 0))) lNil)) (lCons (m2 ixQ (mVar 1) (mC (.int 1))) lNil)))) (gVar 4)) (sRet (mL anyP (lCons (mLc (iSeq (mL fr (lCons (mVar 2) (lCons (mVar 4) lNil)))) [5] (.nm 5) bYes (m2 inQ (mVar 5) (mVar 3))) lNil)))))
theorem any_in {ys fin : List D} {P : Prop} [Decidable P] (h : P ↔ ∃ y ∈ ys, y ∈ fin) : (ys.any fun y => decide (y ∈ fin)) = decide P := by
  rw [Bool.eq_iff_iff]
  simp [h]
theorem filter_yes {l : List D} : (l.filter fun _ => true) = l := by simp
theorem laccepts_ok {al fr : FM} (hfr : fr = runB 6 freeLB) (hal : al = runB 5 (alongLB fr)) {S : Sto} {E : List Ed} {fin M ws : List D} {p d2 d0 : D} (h2 : seqD S d2 = some ws) (h0 : seqD S d0 = some (E.map enc)) (tE : EdT 4 E) (tp : Th 4 p) (tw : ∀ x ∈ ws, Th 4 x) (tf : ∀ x ∈ fin, Th 4 x) (hM : ∀ x y, (x, .non, y) ∈ E → y ∈ M) (hMl : M.length ≤ 39) (lE : E.length ≤ 300) :
    Ow (runB 6 (acceptsLB al fr) [.tup [d0, .tup fin], .tup [p, d2]] S) fun r => Gr S r.2 ∧ r.1 = .bl (decide (Acc E fin p ws)) := by
  rw [ow_runB]
  unfold acceptsLB
  simp [-ow_seq]
  rw [ow_seq]
  simp [-ow_seq]
  rw [ow_seq]
  simp [-ow_seq, lst_ok]
  subst hal
  have g0 : Gr S (S ++ [.lst [p]]) := .app
  refine (llong_ok hfr (g0.seq h0) (show seqD (S ++ [Ob.lst [p]]) (.loc S.length) = some [p] from seq_last) (g0.seq h2) tE (fun x hx => by rw [List.mem_singleton.mp hx]; exact tp) tw hM hMl lE (by simp)).imp ?_
  rintro ⟨r, S2⟩ ⟨g2, ys, y1, y2, y3⟩
  simp only at g2 y1
  have gE : ∀ p ∈ E, Th 4 p.2.2 := fun p hp => (tE p hp).2.2
  have ty : ∀ y ∈ ys, Th 4 y := fun y hy => by
    obtain ⟨x, b1, b2⟩ := (y3 y).mp hy
    rw [List.mem_singleton.mp b1] at b2
    exact al_good gE b2 tp
  simp [ow_lc]
  subst hfr
  refine (lfree_ok ((g0.trans g2).seq h0) y1 tE ty hM hMl lE (by omega)).imp ?_
  rintro ⟨r3, S3⟩ ⟨g3, zs, z1, z2, z3⟩
  simp only at g3 z1
  have tz : ∀ y ∈ zs, Th 4 y := fun y hy => by
    obtain ⟨x, b1, b2⟩ := (z3 y).mp hy
    exact fr_good gE b2 (ty x b1)
  refine ⟨by simp [z1], (lcG z1 (by omega) (fun _ => true) (fun y => .bl (decide (y ∈ fin))) (fun x hx => ⟨_, rfl, fun S4 g4 => ?_⟩)).imp ?_⟩
  · simp [bYes, wipeD, in_ths (tz x hx) (show seqD S4 (.tup fin) = some fin from rfl) tf (by omega) (by omega), Gr.refl]
  · rintro ⟨us, S4⟩ ⟨rfl, g4⟩
    rw [filter_yes]
    simp only at g4
    rw [any_loc (f := fun y => decide (y ∈ fin)) get_snoc]
    simp only [ow_some, D.bl.injEq]
    refine ⟨(g0.trans (g2.trans (g3.trans g4))).snoc, any_in ?_⟩
    constructor
    · rintro ⟨u, v, a, b, c⟩
      exact ⟨v, (z3 v).mpr ⟨u, (y3 u).mpr ⟨p, by simp, a⟩, b⟩, c⟩
    · rintro ⟨v, a, b⟩
      obtain ⟨u, c1, c2⟩ := (z3 v).mp a
      obtain ⟨x, c3, c4⟩ := (y3 u).mp c1
      rw [List.mem_singleton.mp c3] at c4
      exact ⟨u, v, c4, c2, b⟩
end DL
/-! DLza: Ways: add, made, its edges in order. -/
namespace DL
open PySem

theorem put_new : ∀ {kvs : List (D × D)} {k w : D}, nbK kvs → k.nb = true → lookD kvs k = none → dput kvs k w = kvs ++ [(k, w)]
  | [], k, w, _, _, _ => by rw [dput_nil]; rfl
  | (x, v) :: r, k, w, h, hk, hl => by
    rw [dput_cons (h _ List.mem_cons_self) hk]
    simp only [lookD] at hl
    by_cases e : x = k
    · simp [e] at hl
    · simp only [e, if_false] at hl ⊢
      rw [put_new (fun p hp => h p (List.mem_cons_of_mem _ hp)) hk hl]
      rfl
theorem tg_snoc {E : List Ed} {p : Ed} {x s : D} : tg (E ++ [p]) x s = tg E x s ++ (if p.1 = x ∧ p.2.1 = s then [p.2.2] else []) := by
  simp only [tg, List.filter_append, List.map_append]
  by_cases h : p.1 = x ∧ p.2.1 = s <;> simp [h]
noncomputable def addB (c : Nat) : SM := (sSeq (sIf (bV (m2 inQ (mVar 1) (mFld [c] "_edges" (mVar 0)))) (sRet (mC (.bl false))) sNext) (sSeq (sAsg (mC (.bl true)) (gSubM (mFld [c] "_edges" (mVar 0)) (mVar 1))) (sSeq (sAsg (mVar 1) (gTupD 3 (gsCons (gVar 2) (gsCons (gVar 3) (gsCons (gVar 4) gsNil))))) (sSeq (sExpr (mM "list" appP (mMG isDct setdefP (mFld [c] "_to" (mVar 0)) (lCons (mL tupP (lCons (mVar 2) (lCons (mVar 3) lNil))) (lCons (mL lstP lNil) lNil))) (lCons (mVar 4) lNil))) (sRet (mC (.bl true)))))))
theorem WAt.F' {c n : Nat} {S : Sto} {E : List Ed} {F F' : Nat → Prop} (w : WAt c S n E F) (h : ∀ j, F j → F' j) : WAt c S n E F' := by
  obtain ⟨nb, nd, e, t, kvs, h1, h2, h3, h4, h5, h6, h7, h8, h9, h9', h10, h11⟩ := w
  refine ⟨nb, nd, e, t, kvs, h1, h2, h3, h4, h _ h5, h _ h6, h _ h7, h8, h9, h9', fun x s hx hs => ?_, h11⟩
  have := h10 x s hx hs
  split
  · rename_i q
    rw [q] at this
    exact this
  · rename_i d q
    rw [q] at this
    obtain ⟨l, r1, r2, r3⟩ := this
    exact ⟨l, r1, h _ r2, r3⟩
/-- what add does to the store -/
def AddTo (S S' : Sto) (F : Nat → Prop) : Prop := S.length ≤ S'.length ∧ ∀ j, j < S.length → ¬ F j → S'[j]? = S[j]?
theorem addP_in {c n : Nat} {S : Sto} {E : List Ed} {F : Nat → Prop} (w : WAt c S n E F) {p : Ed} (hp : p.nb) (hd : p.1.depth ≤ 6 ∧ p.2.1.depth ≤ 6 ∧ p.2.2.depth ≤ 6) (hE : E.length ≤ 900) :
    Ow (runB 5 (addB c) [.loc n, enc p] S) fun x => x.1 = .bl (decide (p ∉ E)) ∧ AddTo S x.2 F ∧ WAt c x.2 n (if p ∈ E then E else E ++ [p]) fun j => F j ∨ (S.length ≤ j ∧ j < x.2.length) := by
  have w0 := w
  obtain ⟨nb, nd, e, t, kvs, h1, h2, h3, h4, h5, h6, h7, h8, h9, h9', h10, h11⟩ := w
  have ok : okKey (enc p) = true := by
    simp only [okKey, nb_pure _ (enc_nb hp), Bool.true_and, decide_eq_true_eq]
    simp only [enc, D.depth, D.depths]
    omega
  have hEn : ∀ x ∈ E.map enc, x.nb = true := fun x hx => by
    obtain ⟨q, hq, rfl⟩ := List.mem_map.mp hx
    exact enc_nb (nb q hq)
  have hmem : (enc p ∈ E.map enc) ↔ p ∈ E := by
    rw [List.mem_map]
    exact ⟨fun ⟨q, hq, e⟩ => enc_inj.mp e ▸ hq, fun h => ⟨p, h, rfl⟩⟩
  have fe := fld_at (cs := [c]) (f := "_edges") (d := .loc e) h1 (by simp) (by rfl)
  have de : dctD S (.loc e) = some (mkSet (E.map enc)) := by simp [dctD, h2]
  have hin : inQ (enc p) (.loc e) S = some (.bl (decide (p ∈ E)), S) := by
    simp only [inQ, de, ok, if_true, has_set hEn (enc_nb hp), hmem]
  rw [ow_runB]
  unfold addB
  rw [ow_seq]
  simp [-ow_seq, fe, hin]
  by_cases hpE : p ∈ E
  · simp [hpE]
    exact ⟨⟨Nat.le_refl _, fun _ _ _ => rfl⟩, w0.F' fun j hj => .inl hj⟩
  · simp [-ow_seq, hpE]
    rw [ow_seq]
    simp [-ow_seq, fe]
    have hset : setP (.loc e) (enc p) (.bl true) S = some (S.set e (.dct (mkSet ((E ++ [p]).map enc)))) := by
      simp only [setP, de, ok, true_and]
      rw [if_pos (by rw [mkSet, List.length_map, List.length_map]; exact fits_lt (by omega)), put_set hEn (enc_nb hp)]
      have : ins (E.map enc) (enc p) = (E ++ [p]).map enc := by
        simp only [ins, hmem, hpE, if_false, List.map_append, List.map_cons, List.map_nil]
      rw [this]
    rw [hset]
    have hne1 : e ≠ n := by
      rintro rfl
      rw [h1] at h2
      cases h2
    have hne2 : t ≠ n := by
      rintro rfl
      rw [h1] at h3
      cases h3
    generalize hS1 : S.set e (.dct (mkSet ((E ++ [p]).map enc))) = S1
    have l1 : S1.length = S.length := by rw [← hS1]; simp
    have le : e < S.length := (List.getElem?_eq_some_iff.mp h2).1
    have g1 : ∀ j, j ≠ e → S1[j]? = S[j]? := fun j hj => by rw [← hS1]; exact get_set_ne (Ne.symm hj)
    have ge : S1[e]? = some (.dct (mkSet ((E ++ [p]).map enc))) := by rw [← hS1]; exact get_set h2
    have f1 : S1[n]? = some (.ins c [("_edges", .loc e), ("_to", .loc t)]) := (g1 n (Ne.symm hne1)).trans h1
    have f3 : S1[t]? = some (.dct kvs) := (g1 t (Ne.symm h8)).trans h3
    simp only [ow_some]
    rw [ow_seq]
    simp [-ow_seq, enc]
    rw [ow_seq]
    have ft := fld_at (cs := [c]) (f := "_to") (d := .loc t) f1 (by simp) (by rfl)
    have k2 := key2 hp.1 hp.2.1 hd.1 hd.2.1
    have kn : (D.tup [p.1, p.2.1]).nb = true := by simp [D.nb, D.nbs, hp.1, hp.2.1]
    have td : dctD (S1 ++ [.lst []]) (.loc t) = some kvs := by simp [dctD, get_app f3]
    have it : isDct (.loc t) S1 = true := by simp [isDct, dctD, f3]
    simp [-ow_seq, ft, it, tup_ok, lst_ok]
    have kl : kvs.length < sizeLine := fits_lt (by omega)
    have hlk := h10 p.1 p.2.1 hp.1 hp.2.1
    simp only [setdefP, td, k2, kl, true_and, if_true, dget_look h4 kn]
    have aF : ∀ {S' : Sto}, S1.length ≤ S'.length → (∀ j, j < S.length → ¬ F j → S'[j]? = S1[j]?) → AddTo S S' F := fun hl h => ⟨by omega, fun j hj hn => by
      rw [h j hj hn]
      exact g1 j (fun z => hn (z ▸ h6))⟩
    have hnb' : ∀ q ∈ E ++ [p], q.nb := fun q hq => (List.mem_append.mp hq).elim (nb q) fun h => by rw [List.mem_singleton.mp h]; exact hp
    have hnd' : (E ++ [p]).Nodup := by
      rw [List.nodup_append]
      exact ⟨nd, by simp, fun a ha b hb => by simp at hb; subst hb; exact fun z => hpE (z ▸ ha)⟩
    cases hk : lookD kvs (.tup [p.1, p.2.1]) with
    | some d =>
      rw [hk] at hlk
      obtain ⟨l, rfl, fl, sl⟩ := hlk
      have hle : l ≠ e := by rintro rfl; rw [h2] at sl; cases sl
      have hlt : l ≠ t := by rintro rfl; rw [h3] at sl; cases sl
      have hln : l ≠ n := by rintro rfl; rw [h1] at sl; cases sl
      have sl1 : S1[l]? = some (.lst (tg E p.1 p.2.1)) := (g1 l hle).trans sl
      have sl2 : (S1 ++ [.lst []])[l]? = some (.lst (tg E p.1 p.2.1)) := get_app sl1
      have tl : (tg E p.1 p.2.1).length ≤ 1000000 := by
        unfold tg
        rw [List.length_map]
        have := List.length_filter_le (fun q : Ed => decide (q.1 = p.1 ∧ q.2.1 = p.2.1)) E
        omega
      simp [ty_lst sl2, app_lst sl2 tl]
      have G : ∀ j, j < S.length → j ≠ l → ((S1 ++ [Ob.lst []]).set l (.lst (tg E p.1 p.2.1 ++ [p.2.2])))[j]? = S1[j]? := fun j hj hn => by
        rw [get_set_ne (Ne.symm hn), List.getElem?_append_left (by omega)]
      have lt : ∀ {j o}, S[j]? = some o → j < S.length := fun h => (List.getElem?_eq_some_iff.mp h).1
      refine ⟨aF (by simp) fun j hj hn => G j hj fun z => hn (z ▸ fl), hnb', hnd', e, t, kvs, (G n (lt h1) hln.symm).trans f1, (G e (lt h2) hle.symm).trans ge, (G t (lt h3) hlt.symm).trans f3, h4, .inl h5, .inl h6, .inl h7, h8, by simp; omega, by simp; omega, fun x s hx hs => ?_, h11⟩
      have hh := h10 x s hx hs
      rw [tg_snoc]
      cases hk2 : lookD kvs (.tup [x, s]) with
      | none =>
        rw [hk2] at hh
        simp only at hh ⊢
        have : ¬ (p.1 = x ∧ p.2.1 = s) := by
          rintro ⟨rfl, rfl⟩
          rw [hk] at hk2
          cases hk2
        simp [hh, this]
      | some d =>
        rw [hk2] at hh
        obtain ⟨m, rfl, fm, sm⟩ := hh
        refine ⟨m, rfl, .inl fm, ?_⟩
        by_cases hml : m = l
        · subst hml
          obtain ⟨rfl, rfl⟩ := h11 _ _ _ _ _ hp.1 hp.2.1 hx hs hk hk2
          simp only [and_self, if_true]
          exact get_set sl2
        · have : ¬ (p.1 = x ∧ p.2.1 = s) := by
            rintro ⟨rfl, rfl⟩
            rw [hk] at hk2
            cases hk2
            exact hml rfl
          have hme : m ≠ e := by rintro rfl; rw [h2] at sm; cases sm
          simp only [this, if_false, List.append_nil]
          rw [G m (lt sm) hml, g1 m hme]
          exact sm
    | none =>
      rw [hk] at hlk
      simp only at hlk
      rw [put_new h4 kn hk]
      have hlt : t < S1.length := (List.getElem?_eq_some_iff.mp f3).1
      generalize hS2 : (S1 ++ [Ob.lst []]).set t (.dct (kvs ++ [(.tup [p.1, p.2.1], .loc S1.length)])) = S2
      have sl2 : S2[S1.length]? = some (.lst []) := by
        rw [← hS2, get_set_ne (by omega)]
        exact get_snoc
      simp [ty_lst sl2, app_lst sl2]
      have lt : ∀ {j o}, S[j]? = some o → j < S.length := fun h => (List.getElem?_eq_some_iff.mp h).1
      have G : ∀ j, j < S.length → j ≠ t → (S2.set S1.length (.lst [p.2.2]))[j]? = S1[j]? := fun j hj hn => by
        rw [get_set_ne (by omega), ← hS2, get_set_ne (Ne.symm hn), List.getElem?_append_left (by omega)]
      have Gt : (S2.set S1.length (.lst [p.2.2]))[t]? = some (.dct (kvs ++ [(.tup [p.1, p.2.1], .loc S1.length)])) := by
        rw [get_set_ne (by omega), ← hS2]
        exact get_set (get_app f3)
      have l2 : (S2.set S1.length (.lst [p.2.2])).length = S.length + 1 := by rw [← hS2]; simp [l1]
      have l3 : S2.length = S.length + 1 := by rw [← hS2]; simp [l1]
      have e0 : tg E p.1 p.2.1 = [] := hlk
      have lk : ∀ k, k.nb = true → lookD (kvs ++ [(.tup [p.1, p.2.1], .loc S1.length)]) k = if D.tup [p.1, p.2.1] = k then some (.loc S1.length) else lookD kvs k := fun k hkn => by
        have := look_put (y := k) (w := .loc S1.length) h4 kn
        rw [put_new h4 kn hk] at this
        exact this
      refine ⟨aF (by omega) fun j hj hn => G j hj fun z => hn (z ▸ h7), hnb', hnd', e, t, kvs ++ [(.tup [p.1, p.2.1], .loc S1.length)], (G n (lt h1) hne2.symm).trans f1, (G e (lt h2) h8).trans ge, Gt, ?_, .inl h5, .inl h6, .inl h7, h8, by simp; omega, by simp; omega, fun x s hx hs => ?_, ?_⟩
      · intro q hq
        rcases List.mem_append.mp hq with h | h
        · exact h4 q h
        · rw [List.mem_singleton.mp h]; exact kn
      · have kn2 : (D.tup [x, s]).nb = true := by simp [D.nb, D.nbs, hx, hs]
        rw [lk _ kn2, tg_snoc]
        by_cases hc : p.1 = x ∧ p.2.1 = s
        · obtain ⟨rfl, rfl⟩ := hc
          simp only [if_true, and_self]
          refine ⟨_, rfl, .inr ⟨by omega, by omega⟩, ?_⟩
          rw [e0]
          exact get_set sl2
        · have hc2 : ¬ (D.tup [p.1, p.2.1] = D.tup [x, s]) := by simpa using hc
          rw [if_neg hc2]
          simp only [hc, if_false, List.append_nil]
          have hh := h10 x s hx hs
          cases hk2 : lookD kvs (.tup [x, s]) with
          | none =>
            rw [hk2] at hh
            exact hh
          | some d =>
            rw [hk2] at hh
            obtain ⟨m, rfl, fm, sm⟩ := hh
            have hme : m ≠ e := by rintro rfl; rw [h2] at sm; cases sm
            have hmt : m ≠ t := by rintro rfl; rw [h3] at sm; cases sm
            exact ⟨m, rfl, .inl fm, by rw [G m (lt sm) hmt, g1 m hme]; exact sm⟩
      · intro x s x' s' l hx hs hx' hs' a1 a2
        have kn2 : (D.tup [x, s]).nb = true := by simp [D.nb, D.nbs, hx, hs]
        have kn3 : (D.tup [x', s']).nb = true := by simp [D.nb, D.nbs, hx', hs']
        rw [lk _ kn2] at a1
        rw [lk _ kn3] at a2
        have old : ∀ {x s}, x.nb = true → s.nb = true → lookD kvs (.tup [x, s]) = some (.loc S1.length) → False := fun {x s} hx hs h => by
          have hh := h10 x s hx hs
          rw [h] at hh
          obtain ⟨m, hm, _, sm⟩ := hh
          cases hm
          have := lt sm
          omega
        by_cases c1 : D.tup [p.1, p.2.1] = D.tup [x, s]
        · by_cases c2 : D.tup [p.1, p.2.1] = D.tup [x', s']
          · rw [c1] at c2
            simpa using c2
          · rw [if_pos c1] at a1
            rw [if_neg c2] at a2
            cases a1
            exact (old hx' hs' a2).elim
        · by_cases c2 : D.tup [p.1, p.2.1] = D.tup [x', s']
          · rw [if_neg c1] at a1
            rw [if_pos c2] at a2
            cases a2
            exact (old hx hs a1).elim
          · rw [if_neg c1] at a1
            rw [if_neg c2] at a2
            exact h11 _ _ _ _ _ hx hs hx' hs' a1 a2
end DL
/-! DLzb: Ways made; its edges in order; accepts. -/
namespace DL
open PySem

theorem Gr.of {S S' : Sto} (hl : S.length ≤ S'.length) (h : ∀ j, j < S.length → S'[j]? = S[j]?) : Gr S S' := by
  refine ⟨S'.drop S.length, ?_⟩
  refine List.ext_getElem? fun j => ?_
  by_cases hj : j < S.length
  · rw [List.getElem?_append_left hj, h j hj]
  · rw [List.getElem?_append_right (by omega), List.getElem?_drop]
    congr 1
    omega
theorem Gr.trans' {S S1 S2 : Sto} (g : Gr S S1) (hl : S1.length ≤ S2.length) (h : ∀ j, j < S.length → S2[j]? = S1[j]?) : Gr S S2 :=
  Gr.of (Nat.le_trans g.len hl) fun j hj => (h j hj).trans (by obtain ⟨U, rfl⟩ := g; exact List.getElem?_append_left hj)
theorem EdT.nb {n : Nat} {E : List Ed} (h : EdT n E) : ∀ p ∈ E, p.nb := fun p hp => ⟨(h p hp).1.nb, (h p hp).2.1.nb, (h p hp).2.2.nb⟩
theorem EdT.dep {E : List Ed} (h : EdT 4 E) : ∀ p ∈ E, p.2.2.depth ≤ 6 := fun p hp => Nat.le_trans (h p hp).2.2.depth (by omega)
noncomputable def initB (c gAdd : Nat) (cl : Nat → FM) : SM := (sSeq (sFldD [c] "_edges" mDNew (mVar 0)) (sSeq (sFldD [c] "_to" mDNew (mVar 0)) (sFor (iSeq (mVar 1)) (gVar 2) (sExpr (mMeth "add" [(c, gAdd)] cl (mVar 0) (lCons (mVar 2) lNil))))))
/-- a Ways object of the edges E made, wherever it lies -/
theorem init_ok {c gAdd : Nat} {cl : Nat → FM} (hadd : cl gAdd = runB 5 (addB c)) {S : Sto} {E : List Ed} (tE : EdT 4 E) (nd : E.Nodup) (lE : E.length ≤ 300) :
    Ow (runB 3 (initB c gAdd cl) [.loc S.length, .tup (E.map enc)] (S ++ [.ins c []])) fun x => x.1 = .non ∧ Gr S x.2 ∧ WAt c x.2 S.length E fun j => S.length ≤ j ∧ j < x.2.length := by
  have hse : ¬ (Str.ofString "_edges") = Str.ofString "_to" := by decide
  rw [ow_runB]
  unfold initB
  rw [ow_seq]
  simp [-ow_seq, stF, putD]
  rw [ow_seq]
  simp [-ow_seq, stF, putD, List.set_append, ow_for, seqD, hse]
  generalize hS3 : S ++ [Ob.ins c [(("_edges" : Str), D.loc (S.length + 1)), (("_to" : Str), .loc (S.length + 2))], .dct [], .dct []] = S3
  have hl3 : S3.length = S.length + 3 := by rw [← hS3]; simp
  have g3 : Gr S S3 := ⟨_, hS3.symm⟩
  have w0 : WAt c S3 S.length [] fun j => S.length ≤ j ∧ j < S3.length := by
    refine ⟨by simp, List.nodup_nil, S.length + 1, S.length + 2, [], ?_, ?_, ?_, (fun p hp => nomatch hp), ⟨by omega, by omega⟩, ⟨by omega, by omega⟩, ⟨by omega, by omega⟩, by omega, by simp, by simp, fun x s _ _ => by simp [lookD, tg], ?_⟩
    · rw [← hS3]; simp
    · rw [← hS3, List.getElem?_append_right (by omega), show S.length + 1 - S.length = 1 by omega]; rfl
    · rw [← hS3, List.getElem?_append_right (by omega), show S.length + 2 - S.length = 2 by omega]; rfl
    · intro x s x' s' l _ _ _ _ h; simp [lookD] at h
  refine (forL_inv (E.map enc) (fun j env S1 => ∃ o2, env = [some (.loc S.length), some (.tup (E.map enc)), o2] ∧ Gr S S1 ∧ WAt c S1 S.length (E.take j) fun j => S.length ≤ j ∧ j < S1.length)
    (fun x => x.1 = .nx ∧ Gr S x.2.2 ∧ WAt c x.2.2 S.length E fun j => S.length ≤ j ∧ j < x.2.2.length) (fun j env S1 _ => by simp [itAt, seqD]) (fun env S1 ⟨o2, _, g, w⟩ => ⟨rfl, g, by simpa using w⟩)
    (fun j d env S1 hj ⟨o2, e, g, w⟩ => ?_) (E.map enc).length 0 _ _ (by simp) (by simp) ⟨none, rfl, g3, by simpa using w0⟩).imp ?_
  · subst e
    obtain ⟨p, hp, rfl⟩ : ∃ p, E[j]? = some p ∧ d = enc p := by
      rw [List.getElem?_map] at hj
      cases q : E[j]? with
      | none => rw [q] at hj; cases hj
      | some p => rw [q] at hj; exact ⟨p, rfl, by simpa using hj.symm⟩
    have hpE := List.mem_of_getElem? hp
    have tp := tE p hpE
    have hnew : p ∉ E.take j := fun hm => by
      have hjl := (List.getElem?_eq_some_iff.mp hp).1
      have e1 : E.take (j + 1) = E.take j ++ [p] := by simp [List.take_add_one, hp]
      have := (List.take_sublist (j + 1) E).nodup nd
      rw [e1, List.nodup_append] at this
      exact this.2.2 p hm p (by simp) rfl
    have hm := meth_at (m := "add") (cands := [(c, gAdd)]) (g := gAdd) w (by decide) (by decide) (by simp [List.lookup])
    simp [hm, hadd]
    have hle : (E.take j).length ≤ 900 := by
      have : (E.take j).length ≤ E.length := by simp; omega
      omega
    refine (addP_in w (tE.nb p hpE) ⟨Nat.le_trans tp.1.depth (by omega), Nat.le_trans tp.2.1.depth (by omega), Nat.le_trans tp.2.2.depth (by omega)⟩ hle).imp ?_
    rintro ⟨r, S2⟩ ⟨_, ⟨a1, a2⟩, w2⟩
    simp only at a1 a2 w2
    rw [if_neg hnew] at w2
    have gl := g.len
    refine ⟨g.trans' a1 fun j hj => a2 j (by omega) (by omega), ?_⟩
    have e1 : E.take (j + 1) = E.take j ++ [p] := by simp [List.take_add_one, hp]
    rw [e1]
    exact w2.F' fun i hi => by
      have hi : (S.length ≤ i ∧ i < S1.length) ∨ (S1.length ≤ i ∧ i < S2.length) := hi
      show S.length ≤ i ∧ i < S2.length
      omega
  · rintro ⟨fl, env, S1⟩ ⟨rfl, g, w⟩
    exact ⟨g, w⟩
end DL
/-! DLzc: edges, accepts, backward_edges. -/
namespace DL
open PySem

theorem enc_th {n : Nat} {p : Ed} (h : Th n p.1 ∧ Th n p.2.1 ∧ Th n p.2.2) : Th (n + 1) (enc p) := .tup (by simp) fun d hd => by
  simp at hd
  rcases hd with rfl | rfl | rfl
  · exact h.1
  · exact h.2.1
  · exact h.2.2
theorem encs_th {n : Nat} {E : List Ed} (h : EdT n E) : ∀ d ∈ E.map enc, Th (n + 1) d := fun d hd => by
  obtain ⟨p, hp, rfl⟩ := List.mem_map.mp hd
  exact enc_th (h p hp)
noncomputable def ioB (rk : FM) : SM := (sRet (mSortK rk (mVar 0)))
theorem io_ok {rk : FM} {n l : Nat} {xs : List D} {S : Sto} (hm : RankOk rk n) (hn : n ≤ 60) (hl : S[l]? = some (.lst xs)) (h : ∀ d ∈ xs, Th n d) : Ow (runB 1 (ioB rk) [.loc l] S) fun x => ∃ r, x.1 = .loc r ∧ Gr S x.2 ∧ x.2[r]? = some (.lst (ordD xs)) ∧ S.length ≤ r := by
  rw [ow_runB]
  unfold ioB
  simp
  exact sort_ok hm hn hl h
noncomputable def edgesB (c : Nat) (io : FM) : SM := (sRet (mL tupleP (lCons (mL io (lCons (mL listQ (lCons (mFld [c] "_edges" (mVar 0)) lNil)) lNil)) lNil)))
theorem tuple_lst {n : Nat} {ds : List D} {S : Sto} (h : S[n]? = some (.lst ds)) : tupleP [.loc n] S = some (.tup ds, S) := by simp [tupleP, seqD, h]
theorem edges_ok {rk io : FM} {c n m : Nat} {S : Sto} {E : List Ed} {F : Nat → Prop} (hio : io = runB 1 (ioB rk)) (hm : RankOk rk m) (hn : 5 ≤ m) (hm2 : m ≤ 60) (w : WAt c S n E F) (tE : EdT 4 E) : Ow (runB 1 (edgesB c io) [.loc n] S) fun x => x.1 = .tup (ordD (E.map enc)) ∧ Gr S x.2 := by
  obtain ⟨nb, nd, e, t, kvs, h1, h2, h3, h4, h5, h6, h7, h8, h9, h9', h10, h11⟩ := w
  have fe := fld_at (cs := [c]) (f := "_edges") (d := .loc e) h1 (by simp) (by rfl)
  have lq : listQ [.loc e] S = some (.loc S.length, S ++ [.lst (E.map enc)]) := by simp [listQ, dctD, h2, keys_set]
  rw [ow_runB]
  unfold edgesB
  subst hio
  simp [fe, lq]
  refine (io_ok hm hm2 get_snoc fun d hd => (encs_th tE d hd).mono hn).imp ?_
  rintro ⟨r, S2⟩ ⟨l, rfl, g, h, _⟩
  simp only at g h
  simp [tuple_lst h]
  exact Gr.app.trans g
noncomputable def acceptsB (c gF gL : Nat) (ini : FM) (cl : Nat → FM) : SM := (sSeq (sAsg (mVar 0) (gTupD 2 (gsCons (gVar 2) (gsCons (gVar 3) gsNil)))) (sSeq (sAsg (mVar 1) (gTupD 2 (gsCons (gVar 4) (gsCons (gVar 5) gsNil)))) (sSeq (sAsg (mMake c ini (lCons (mVar 2) lNil)) (gVar 6)) (sRet (mL anyP (lCons (mLc (iSeq (mMeth "freely" [(c, gF)] cl (mVar 6) (lCons (mMeth "along" [(c, gL)] cl (mVar 6) (lCons (mL lstP (lCons (mVar 4) lNil)) (lCons (mVar 5) lNil))) lNil))) [7] (.nm 7) bYes (m2 inQ (mVar 7) (mVar 3))) lNil))))))
/-- what is known of a text's Ways -/
structure WaysOk (c gAdd gA gF gL : Nat) (cl : Nat → FM) : Prop where
  add : cl gAdd = runB 5 (addB c)
  after : cl gA = runB 6 (afterB c)
  freely : ∃ cl', cl gF = runB 6 (freelyB c gA cl') ∧ cl' gA = runB 6 (afterB c)
  along : ∃ cl' cl'', cl gL = runB 4 (alongB c gA gF cl') ∧ cl' gA = runB 6 (afterB c) ∧ cl' gF = runB 6 (freelyB c gA cl'') ∧ cl'' gA = runB 6 (afterB c)
def IniOk (c : Nat) (ini : FM) : Prop := ∃ gAdd cl, ini = runB 3 (initB c gAdd cl) ∧ cl gAdd = runB 5 (addB c)
theorem th_nd {n : Nat} {d : D} (h : Th n d) (hn : n ≤ 6) : d.nb = true ∧ d.depth ≤ 6 := ⟨h.nb, Nat.le_trans h.depth hn⟩
theorem accepts_ok {c gAdd gA gF gL : Nat} {ini : FM} {cl : Nat → FM} (hw : WaysOk c gAdd gA gF gL cl) (hi : IniOk c ini) {S : Sto} {E : List Ed} {fin ws : List D} {p d2 : D} (h2 : seqD S d2 = some ws) (tE : EdT 4 E) (nd : E.Nodup) (tp : Th 4 p) (tw : ∀ x ∈ ws, Th 4 x) (tf : ∀ x ∈ fin, Th 4 x) (lE : E.length ≤ 300) :
    Ow (runB 8 (acceptsB c gF gL ini cl) [.tup [.tup (E.map enc), .tup fin], .tup [p, d2]] S) fun r => Gr S r.2 ∧ r.1 = .bl (decide (Acc E fin p ws)) := by
  obtain ⟨gAdd', cl0, rfl, hadd⟩ := hi
  obtain ⟨clf, hf1, hf2⟩ := hw.freely
  obtain ⟨cll, clm, hl1, hl2, hl3, hl4⟩ := hw.along
  rw [ow_runB]
  unfold acceptsB
  rw [ow_seq]
  simp [-ow_seq]
  rw [ow_seq]
  simp [-ow_seq]
  rw [ow_seq]
  simp [-ow_seq]
  refine (init_ok hadd tE nd lE).imp ?_
  rintro ⟨r, S2⟩ ⟨rfl, g2, w⟩
  simp only at g2 w
  have m1 := fun (S' : Sto) (w : WAt c S' S.length E fun j => S.length ≤ j ∧ j < S2.length) => meth_at (m := "freely") (cands := [(c, gF)]) (g := gF) w (by decide) (by decide) (by simp [List.lookup])
  have m2 := fun (S' : Sto) (w : WAt c S' S.length E fun j => S.length ≤ j ∧ j < S2.length) => meth_at (m := "along") (cands := [(c, gL)]) (g := gL) w (by decide) (by decide) (by simp [List.lookup])
  simp [m1 _ w, m2 _ w, ow_lc, lst_ok]
  rw [hl1]
  have g3 : Gr S2 (S2 ++ [.lst [p]]) := .app
  refine (along_ok (w.gr g3) tE.dep lE hl2 hl4 hl3 (show seqD (S2 ++ [Ob.lst [p]]) (.loc S2.length) = some [p] from seq_last) (fun x hx => by rw [List.mem_singleton.mp hx]; exact th_nd tp (by omega)) (by simp) (by simp) ((g2.trans g3).seq h2) fun s hs => th_nd (tw s hs) (by omega)).imp ?_
  rintro ⟨r3, S3⟩ ⟨ys, g4, y1, y2, y3, y4⟩
  simp only at g4 y1
  have gE : ∀ p ∈ E, Th 4 p.2.2 := fun p hp => (tE p hp).2.2
  have ty : ∀ y ∈ ys, Th 4 y := fun y hy => by
    obtain ⟨x, b1, b2⟩ := (y4 y).mp hy
    rw [List.mem_singleton.mp b1] at b2
    exact al_good gE b2 tp
  rw [hf1]
  refine (freely_ok ((w.gr g3).gr g4) tE.dep lE hf2 y1 (fun x hx => th_nd (ty x hx) (by omega)) y3).imp ?_
  rintro ⟨r5, S5⟩ ⟨zs, U, hr, hS, z2, z3⟩
  simp only at hr hS
  subst hr
  have e2 : S5 = S3 ++ U ++ [.lst zs] := by rw [hS, List.append_assoc]
  have z1 : seqD S5 (.loc (S3.length + U.length)) = some zs := by
    rw [e2, ← List.length_append]; exact seq_last
  have g5 : Gr S3 S5 := ⟨_, hS⟩
  have tz : ∀ y ∈ zs, Th 4 y := fun y hy => by
    obtain ⟨x, b1, b2⟩ := (z3 y).mp hy
    exact fr_good gE b2 (ty x b1)
  have zl : zs.length ≤ 1000000 := by
    have := len_sub (l := ys ++ E.map (·.2.2)) z2 fun y hy => by
      obtain ⟨x, b1, b2⟩ := (z3 y).mp hy
      cases b2 with
      | refl => exact List.mem_append_left _ b1
      | step _ b3 => exact List.mem_append_right _ (List.mem_map.mpr ⟨_, b3, rfl⟩)
    simp at this
    omega
  refine ⟨by simp [z1], (lcG z1 zl (fun _ => true) (fun y => .bl (decide (y ∈ fin))) (fun x hx => ⟨_, rfl, fun S4 g4 => ?_⟩)).imp ?_⟩
  · simp [bYes, wipeD, in_ths (tz x hx) (show seqD S4 (.tup fin) = some fin from rfl) tf (by omega) (by omega), Gr.refl]
  · rintro ⟨us, S6⟩ ⟨rfl, g6⟩
    rw [filter_yes]
    simp only at g6
    rw [any_loc (f := fun y => decide (y ∈ fin)) get_snoc]
    simp only [ow_some, D.bl.injEq]
    refine ⟨(g2.trans (g3.trans (g4.trans (g5.trans g6)))).snoc, any_in ?_⟩
    constructor
    · rintro ⟨u, v, a, b, c⟩
      exact ⟨v, (z3 v).mpr ⟨u, (y4 u).mpr ⟨p, by simp, a⟩, b⟩, c⟩
    · rintro ⟨v, a, b⟩
      obtain ⟨u, c1, c2⟩ := (z3 v).mp a
      obtain ⟨x, c3, c4⟩ := (y4 u).mp c1
      rw [List.mem_singleton.mp c3] at c4
      exact ⟨u, v, c4, c2, b⟩

/-! rules -/
structure Rl where
  p : D
  s : D
  q : D
  w : List D
  m : D
def encR (r : Rl) : D := .tup [r.p, r.s, r.q, .tup r.w, r.m]
def RlT (R : List Rl) : Prop := ∀ r ∈ R, Th 3 r.p ∧ Th 3 r.s ∧ Th 3 r.q ∧ (∀ d ∈ r.w, Th 3 d) ∧ r.w.length ≤ 2
noncomputable def bwdB (c gL : Nat) (cl : Nat → FM) : SM := (sSeq (sAsg (mL lstP lNil) (gVar 2)) (sSeq (sFor (iSeq (mVar 0)) (gTupD 5 (gsCons (gVar 3) (gsCons (gVar 4) (gsCons (gVar 5) (gsCons (gVar 6) (gsCons (gVar 7) gsNil)))))) (sExpr (mM "list" extP (mVar 2) (lCons (mLc (iSeq (mMeth "along" [(c, gL)] cl (mVar 1) (lCons (mL lstP (lCons (mVar 5) lNil)) (lCons (mVar 6) lNil)))) [8] (.nm 8) bYes (mL tupP (lCons (mVar 3) (lCons (mVar 4) (lCons (mVar 8) lNil))))) lNil)))) (sRet (mVar 2))))
/-- the edges that the rules ask for -/
def BwdOf (R : List Rl) (E : List Ed) (Bs : List Ed) : Prop := ∀ e : Ed, e ∈ Bs ↔ ∃ r ∈ R, e.1 = r.p ∧ e.2.1 = r.s ∧ Al E r.w r.q e.2.2
theorem bwd_ok {c n gAdd gA gF gL : Nat} {cl : Nat → FM} (hw : WaysOk c gAdd gA gF gL cl) {S : Sto} {E : List Ed} {F : Nat → Prop} {R : List Rl} (w : WAt c S n E F) (tE : EdT 4 E) (lE : E.length ≤ 300) (tR : RlT R) (lR : R.length ≤ 100) :
    Ow (runB 9 (bwdB c gL cl) [.tup (R.map encR), .loc n] S) fun x => Gr S x.2 ∧ ∃ (l : Nat) (Bs : List Ed), x.1 = .loc l ∧ S.length ≤ l ∧ x.2[l]? = some (.lst (Bs.map enc)) ∧ Bs.length ≤ R.length * 300 ∧ BwdOf R E Bs := by
  obtain ⟨cll, clm, hl1, hl2, hl3, hl4⟩ := hw.along
  rw [ow_runB]
  unfold bwdB
  rw [ow_seq]
  simp [-ow_seq, lst_ok]
  rw [ow_seq, ow_for]
  simp [-ow_seq, seqD]
  refine (forL_inv (R.map encR) (fun j env S1 => ∃ o3 o4 o5 o6 o7 o8 Bs, env = [some (.tup (R.map encR)), some (.loc n), some (.loc S.length), o3, o4, o5, o6, o7, o8] ∧ Gr S S1 ∧ S1[S.length]? = some (.lst (Bs.map enc)) ∧ Bs.length ≤ j * 300 ∧ BwdOf (R.take j) E Bs)
    (fun x => x.1 = .nx ∧ ∃ o3 o4 o5 o6 o7 o8 Bs, x.2.1 = [some (.tup (R.map encR)), some (.loc n), some (.loc S.length), o3, o4, o5, o6, o7, o8] ∧ Gr S x.2.2 ∧ x.2.2[S.length]? = some (.lst (Bs.map enc)) ∧ Bs.length ≤ R.length * 300 ∧ BwdOf R E Bs)
    (fun j env S1 _ => by simp [itAt, seqD]) (fun env S1 ⟨o3, o4, o5, o6, o7, o8, Bs, e, g, h1, h2, h3⟩ => ⟨rfl, o3, o4, o5, o6, o7, o8, Bs, e, g, h1, by simpa using h2, by simpa using h3⟩)
    (fun j d env S1 hj ⟨o3, o4, o5, o6, o7, o8, Bs, e, g, h1, h2, h3⟩ => ?step) (R.map encR).length 0 _ _ (by simp) (by simp) ⟨none, none, none, none, none, none, [], rfl, .app, get_snoc, by simp, fun e => by simp⟩).imp ?imp
  case imp =>
    rintro ⟨fl, env, S1⟩ ⟨rfl, o3, o4, o5, o6, o7, o8, Bs, rfl, g, h1, h2, h3⟩
    simp
    exact ⟨g, Bs, h1, h2, h3⟩
  case step =>
    subst e
    obtain ⟨r, hr, rfl⟩ : ∃ r, R[j]? = some r ∧ d = encR r := by
      rw [List.getElem?_map] at hj
      cases q : R[j]? with
      | none => rw [q] at hj; cases hj
      | some p => rw [q] at hj; exact ⟨p, rfl, by simpa using hj.symm⟩
    have hrR := List.mem_of_getElem? hr
    have hjR := (List.getElem?_eq_some_iff.mp hr).1
    obtain ⟨t1, t2, t3, t4, t5⟩ := tR r hrR
    have hm := meth_at (m := "along") (cands := [(c, gL)]) (g := gL) (w.gr g) (by decide) (by decide) (by simp [List.lookup])
    simp [encR, ty_lst h1, ow_lc, hm, lst_ok]
    rw [hl1]
    have g3 : Gr S1 (S1 ++ [.lst [r.q]]) := .app
    refine (along_ok ((w.gr g).gr g3) tE.dep lE hl2 hl4 hl3 (show seqD (S1 ++ [Ob.lst [r.q]]) (.loc S1.length) = some [r.q] from seq_last) (fun x hx => by rw [List.mem_singleton.mp hx]; exact th_nd t3 (by omega)) (by simp) (by simp) (show seqD _ (.tup r.w) = some r.w from rfl) fun s hs => th_nd (t4 s hs) (by omega)).imp ?_
    rintro ⟨r3, S3⟩ ⟨ys, g4, y1, y2, y3, y4⟩
    simp only at g4 y1
    refine ⟨by simp [y1], (lcG y1 (by omega) (fun _ => true) (fun y => .tup [r.p, r.s, y]) (fun x hx => ⟨_, rfl, fun S4 g5 => ?_⟩)).imp ?_⟩
    · simp [bYes, wipeD, tup_ok, Gr.refl]
    · rintro ⟨us, S4⟩ ⟨rfl, g5⟩
      rw [filter_yes]
      simp only at g5
      have gg : Gr S1 S4 := g3.trans (g4.trans g5)
      have q1 : (S4 ++ [Ob.lst (ys.map fun y => .tup [r.p, r.s, y])])[S.length]? = some (.lst (Bs.map enc)) := get_app (gg.get h1)
      have e0 : (Bs.map enc ++ ys.map fun y => .tup [r.p, r.s, y]) = (Bs ++ ys.map fun y => (r.p, r.s, y)).map enc := by
        rw [List.map_append, List.map_map]
        rfl
      have lB : Bs.length ≤ 30000 := Nat.le_trans h2 (by
        have := Nat.mul_le_mul_right 300 (show j ≤ 100 by omega)
        omega)
      rw [ext_lst q1 get_snoc (by simp; omega)]
      simp only [ow_some]
      refine ⟨((g.trans gg).snoc).set (Nat.le_refl _), Bs ++ ys.map fun y => (r.p, r.s, y), ?_, ?_, fun e => ?_⟩
      · rw [← e0]
        exact get_set q1
      · simp only [List.length_append, List.length_map]
        omega
      · rw [List.mem_append, h3, List.take_add_one, hr]
        simp only [List.mem_append, Option.toList_some, List.mem_singleton, List.mem_map]
        constructor
        · rintro (⟨r', a, b⟩ | ⟨y, a, rfl⟩)
          · exact ⟨r', .inl a, b⟩
          · obtain ⟨x, b1, b2⟩ := (y4 y).mp a
            rw [List.mem_singleton.mp b1] at b2
            exact ⟨r, .inr rfl, rfl, rfl, b2⟩
        · rintro ⟨r', a | rfl, b1, b2, b3⟩
          · exact .inl ⟨r', a, b1, b2, b3⟩
          · refine .inr ⟨e.2.2, (y4 _).mpr ⟨_, by simp, b3⟩, ?_⟩
            rw [← b1, ← b2]
end DL
/-! DLzd: edges added until nothing is missing. -/
namespace DL
open PySem

theorem nodup_enc {E : List Ed} (h : E.Nodup) : (E.map enc).Nodup := by
  rw [List.nodup_iff_pairwise_ne, List.pairwise_map]
  exact (List.nodup_iff_pairwise_ne.mp h).imp fun h e => h (enc_inj.mp e)
theorem len_subE {E U : List Ed} (nd : E.Nodup) (h : ∀ e ∈ E, e ∈ U) : E.length ≤ U.length := by
  have := len_sub (nodup_enc nd) (l := U.map enc) fun y hy => by
    obtain ⟨e, he, rfl⟩ := List.mem_map.mp hy
    exact List.mem_map.mpr ⟨e, h e he, rfl⟩
  simpa using this
theorem bls_bl : ∀ {bs : List Bool}, blsOf (bs.map .bl) = some bs
  | [] => rfl
  | b :: bs => by simp [blsOf, bls_bl (bs := bs)]
/-- what is derived from edges: Dv; E is the least closed list -/
def Sat (Dv : List Ed → Ed → Prop) (E0 E : List Ed) : Prop := (∀ e ∈ E0, e ∈ E) ∧ (∀ e, Dv E e → e ∈ E) ∧ ∀ E2, (∀ e ∈ E0, e ∈ E2) → (∀ e, Dv E2 e → e ∈ E2) → ∀ e ∈ E, e ∈ E2
theorem Sat.uniq {Dv : List Ed → Ed → Prop} {E0 E E' : List Ed} (a : Sat Dv E0 E) (b : Sat Dv E0 E') : ∀ e, e ∈ E ↔ e ∈ E' := fun e => ⟨a.2.2 E' b.1 b.2.1 e, b.2.2 E a.1 a.2.1 e⟩
structure DerOk (c : Nat) (bw : FM) (rs : D) (Dv : List Ed → Ed → Prop) (U : List Ed) : Prop where
  run : ∀ S n E F, WAt c S n E F → EdT 4 E → E.length ≤ 300 → Ow (bw [rs, .loc n] S) fun x => Gr S x.2 ∧ ∃ (l : Nat) (Bs : List Ed), x.1 = .loc l ∧ S.length ≤ l ∧ x.2[l]? = some (.lst (Bs.map enc)) ∧ Bs.length ≤ 100000 ∧ ∀ e : Ed, e ∈ Bs ↔ Dv E e
  mono : ∀ E E' : List Ed, (∀ e ∈ E, e ∈ E') → ∀ e, Dv E e → Dv E' e
  tU : EdT 4 U
  lU : U.length ≤ 300
  inU : ∀ E : List Ed, (∀ e ∈ E, e ∈ U) → ∀ e, Dv E e → e ∈ U
theorem EdT.sub {n : Nat} {E U : List Ed} (h : EdT n U) (s : ∀ e ∈ E, e ∈ U) : EdT n E := fun p hp => h p (s p hp)
theorem ed_th {p : Ed} (tp : Th 4 p.1 ∧ Th 4 p.2.1 ∧ Th 4 p.2.2) : p.nb ∧ p.1.depth ≤ 6 ∧ p.2.1.depth ≤ 6 ∧ p.2.2.depth ≤ 6 :=
  ⟨⟨tp.1.nb, tp.2.1.nb, tp.2.2.nb⟩, Nat.le_trans tp.1.depth (by omega), Nat.le_trans tp.2.1.depth (by omega), Nat.le_trans tp.2.2.depth (by omega)⟩
/-- add each of the edges of a list -/
theorem addAll_ok {c n gAdd l i : Nat} {cl : Nat → FM} (hadd : cl gAdd = runB 5 (addB c)) {S : Sto} {E U Bs : List Ed} {F : Nat → Prop} {env : Vars} {v : Nat} (w : WAt c S n E F) (hF : ∀ j, F j → n ≤ j ∧ j < l) (hl : S[l]? = some (.lst (Bs.map enc))) (lB : Bs.length ≤ 100000)
    (tU : EdT 4 U) (lU : U.length ≤ 300) (hE : ∀ e ∈ E, e ∈ U) (hB : ∀ e ∈ Bs, e ∈ U) (hn : env[i]? = some (some (.loc n))) (hv : v ≠ i) (hlen : v < env.length) :
    Ow (lcL (.seq (.loc l)) [v] (.nm v) bYes (mMeth "add" [(c, gAdd)] cl (mVar i) (lCons (mVar v) lNil)) env 0 [] S) fun x => ∃ (bs : List Bool) (E1 : List Ed), x.1 = bs.map .bl ∧ WAt c x.2 n E1 (fun j => n ≤ j ∧ j < x.2.length) ∧ S.length ≤ x.2.length ∧ (∀ j, j < n → x.2[j]? = S[j]?) ∧ (∀ e, e ∈ E1 ↔ e ∈ E ∨ e ∈ Bs) ∧ (bs.any id = false → E1 = E) ∧ (bs.any id = true → E.length < E1.length) := by
  have ls := (List.getElem?_eq_some_iff.mp hl).1
  refine (lcL_inv (Bs.map enc) (fun j acc S1 => ∃ (bs : List Bool) (E1 : List Ed), acc = bs.map .bl ∧ bs.length ≤ j ∧ WAt c S1 n E1 (fun j => F j ∨ (S.length ≤ j ∧ j < S1.length)) ∧ S.length ≤ S1.length ∧ (∀ j, j < S.length → ¬ F j → S1[j]? = S[j]?) ∧ (∀ e, e ∈ E1 ↔ e ∈ E ∨ e ∈ Bs.take j) ∧ E.length ≤ E1.length ∧ (bs.any id = false → E1 = E) ∧ (bs.any id = true → E.length < E1.length))
    (fun j acc S1 ⟨bs, E1, _, _, _, a1, a2, _⟩ => ?hit) (fun j d acc S1 hj ⟨bs, E1, ha, hb, w1, a1, a2, a3, a4, a5, a6⟩ => ?step) (Bs.map enc).length 0 [] S (by simp) (by simp) ⟨[], E, rfl, by simp, w.F' (fun j h => .inl h), Nat.le_refl _, fun _ _ _ => rfl, by simp, Nat.le_refl _, by simp, by simp⟩).imp ?imp
  case hit =>
    have : S1[l]? = some (.lst (Bs.map enc)) := by
      rw [a2 l ls fun h => by have := hF l h; omega]
      exact hl
    simp [itAt, seqD, this]
  case step =>
    subst ha
    obtain ⟨p, hp, rfl⟩ : ∃ p, Bs[j]? = some p ∧ d = enc p := by
      rw [List.getElem?_map] at hj
      cases q : Bs[j]? with
      | none => rw [q] at hj; cases hj
      | some p => rw [q] at hj; exact ⟨p, rfl, by simpa using hj.symm⟩
    have hpB := List.mem_of_getElem? hp
    have hjB := (List.getElem?_eq_some_iff.mp hp).1
    have sub1 : ∀ e ∈ E1, e ∈ U := fun e he => ((a3 e).mp he).elim (hE e) fun h => hB e (List.mem_of_mem_take h)
    have hl1 : E1.length ≤ 300 := Nat.le_trans (len_subE w1.nd sub1) lU
    obtain ⟨q1, q2⟩ := ed_th (tU p (hB p hpB))
    have hm := meth_at (m := "add") (cands := [(c, gAdd)]) (g := gAdd) w1 (by decide) (by decide) (by simp [List.lookup])
    have e1 : ((env.set v none).set v (some (enc p)))[i]? = some (some (.loc n)) := by
      rw [List.getElem?_set_ne hv, List.getElem?_set_ne hv]
      exact hn
    have e2 : ((env.set v none).set v (some (enc p)))[v]? = some (some (enc p)) := List.getElem?_set_self (by simpa using hlen)
    refine ⟨(env.set v none).set v (some (enc p)), rfl, ?_⟩
    simp only [bYes, ow_some, if_true, ow_mMeth, ow_var, e1, e2, Option.some.injEq, exists_eq_left', hm, ow_cons, ow_nil, hadd]
    refine (addP_in w1 q1 q2 (by omega)).imp ?_
    rintro ⟨r, S2⟩ ⟨hr, ⟨b1, b2⟩, w2⟩
    simp only at hr b1 b2 w2
    subst hr
    dsimp only
    refine ⟨by rw [List.length_map]; exact fitsM_lt (by omega), bs ++ [decide (p ∉ E1)], if p ∈ E1 then E1 else E1 ++ [p], by simp, by simp; omega, w2.F' fun k hk => ?_, by omega, fun k hk hn => ?_, fun e => ?_, ?_, ?_, ?_⟩
    · rcases hk with (hk | hk) | hk
      · exact .inl hk
      · exact .inr (by omega)
      · exact .inr (by omega)
    · show S2[k]? = S[k]?
      rw [b2 k (by omega) (by rintro (z | z); exact hn z; omega)]
      exact a2 k hk hn
    · rw [List.take_add_one, hp]
      by_cases h : p ∈ E1
      · rw [if_pos h, a3]
        simp only [Option.toList_some, List.mem_append, List.mem_singleton]
        constructor
        · rintro (z | z)
          · exact .inl z
          · exact .inr (.inl z)
        · rintro (z | z | rfl)
          · exact .inl z
          · exact .inr z
          · exact (a3 _).mp h
      · rw [if_neg h]
        simp only [Option.toList_some, List.mem_append, List.mem_singleton, a3, or_assoc]
    · by_cases h : p ∈ E1
      · rw [if_pos h]; exact a4
      · rw [if_neg h, List.length_append]; omega
    · by_cases h : p ∈ E1
      · simp only [h, not_true_eq_false, decide_false, List.any_append, List.any_cons, List.any_nil, id, Bool.or_false, if_true]
        exact a5
      · simp [h]
    · by_cases h : p ∈ E1
      · simp only [h, not_true_eq_false, decide_false, List.any_append, List.any_cons, List.any_nil, id, Bool.or_false, if_true]
        exact a6
      · rw [if_neg h, List.length_append]
        intro _
        simp only [List.length_singleton]
        omega
  case imp =>
    rintro ⟨acc, S1⟩ ⟨bs, E1, ha, _, w1, a1, a2, a3, a4, a5, a6⟩
    dsimp only at *
    refine ⟨bs, E1, ha, w1.F' fun k hk => ?_, a1, fun k hk => ?_, by simpa using a3, a5, a6⟩
    · rcases hk with hk | hk
      · have := hF k hk
        exact ⟨this.1, by show k < S1.length; omega⟩
      · have : n ≤ S.length := by
          obtain ⟨_, _, e, t, kvs, h1, _⟩ := w
          exact Nat.le_of_lt (List.getElem?_eq_some_iff.mp h1).1
        exact ⟨by omega, hk.2⟩
    · have : n < S.length := by
        obtain ⟨_, _, e, t, kvs, h1, _⟩ := w
        exact (List.getElem?_eq_some_iff.mp h1).1
      exact a2 k (by omega) fun h => by have := hF k h; omega
end DL
/-! DLze: predecessors and successors: saturation; each once. -/
namespace DL
open PySem

noncomputable def eachB (io : FM) : SM := (sRet (mL tupleP (lCons (mL io (lCons (mL listQ (lCons (mDc (iSeq (mVar 0)) [1] (.nm 1) bYes (mVar 1) (mC (.bl true))) lNil)) lNil)) lNil)))
theorem each_ok {rk io : FM} {m : Nat} (hio : io = runB 1 (ioB rk)) (hm : RankOk rk m) (h4 : 4 ≤ m) (h60 : m ≤ 60) {S : Sto} {d : D} {xs : List D} (hd : seqD S d = some xs) (hx : ∀ x ∈ xs, Th 4 x) (nx : xs.Nodup) (lx : xs.length ≤ 300) :
    Ow (runB 2 (eachB io) [d] S) fun x => x.1 = .tup (ordD xs) ∧ Gr S x.2 := by
  subst hio
  rw [ow_runB]
  unfold eachB
  simp [ow_dc, hd]
  refine (dcL_inv xs (fun j acc S1 => S1 = S ∧ ∃ fs, acc = mkSet fs ∧ fs.Nodup ∧ ∀ y, y ∈ fs ↔ y ∈ xs.take j) (fun j acc S1 ⟨e, _⟩ => by rw [e]; simp [itAt, hd]) (fun j x acc S1 hj ⟨e, fs, ea, nd, hm⟩ => ?step) xs.length 0 [] S (by simp) (by simp) ⟨rfl, [], rfl, List.nodup_nil, by simp⟩).imp ?imp
  case step =>
    subst e ea
    have hxx := th_nd (hx x (List.mem_of_getElem? hj)) (by omega)
    have hfs : ∀ y ∈ fs, y.nb = true := fun y hy => (hx y (List.mem_of_mem_take ((hm y).mp hy))).nb
    have hl : fs.length ≤ 300 := Nat.le_trans (len_sub nd fun y hy => List.mem_of_mem_take ((hm y).mp hy)) lx
    refine ⟨_, rfl, ?_⟩
    simp [bYes, wipeD]
    refine ⟨⟨by simp [okKey, nb_pure x hxx.1]; omega, by rw [mkSet, List.length_map]; exact fits_lt (by omega)⟩, ins fs x, put_set hfs hxx.1, nodup_ins nd, fun y => ?_⟩
    rw [mem_ins, hm, List.take_add_one, hj]
    simp
  case imp =>
    rintro ⟨acc, S1⟩ ⟨rfl, fs, rfl, nd, h0⟩
    simp only [List.take_length] at h0
    have lq : listQ [.loc S1.length] (S1 ++ [.dct (mkSet fs)]) = some (.loc (S1.length + 1), S1 ++ [.dct (mkSet fs)] ++ [.lst fs]) := by simp [listQ, dctD, keys_set]
    simp only [lq, ow_some]
    have hg : (S1 ++ [.dct (mkSet fs)] ++ [Ob.lst fs])[S1.length + 1]? = some (.lst fs) := by simp
    refine (io_ok hm h60 hg fun y hy => (hx y ((h0 y).mp hy)).mono h4).imp ?_
    rintro ⟨r, S2⟩ ⟨l, rfl, g, h, _⟩
    simp only at g h
    simp [tuple_lst h]
    exact ⟨ord_set (fun y hy => hx y ((h0 y).mp hy)) nd nx h0, (Gr.app.trans .app).trans g⟩
noncomputable def satB (c gAdd gEd : Nat) (bw once ini : FM) (cl : Nat → FM) : SM := (sSeq (sAsg (mVar 1) (gTupD 2 (gsCons (gVar 2) (gsCons (gVar 3) gsNil)))) (sSeq (sAsg (mMake c ini (lCons (mVar 2) lNil)) (gVar 4)) (sSeq (sAsg (mC (.bl true)) (gVar 5)) (sSeq (sWhile (bTru (mVar 5)) (sAsg (mL anyP (lCons (mLc (iSeq (mL bw (lCons (mVar 0) (lCons (mVar 4) lNil)))) [6] (.nm 6) bYes (mMeth "add" [(c, gAdd)] cl (mVar 4) (lCons (mVar 6) lNil))) lNil)) (gVar 5))) (sRet (mL tupP (lCons (mMeth "edges" [(c, gEd)] cl (mVar 4) lNil) (lCons (mL once (lCons (mVar 3) lNil)) lNil))))))))
def SatI (c : Nat) (S : Sto) (rs mach d2 d3 : D) (E0 U : List Ed) (Dv : List Ed → Ed → Prop) (m : Nat) (env : Vars) (S1 : Sto) : Prop := ∃ (ch : Bool) (o6 : Option D) (E : List Ed), env = [some rs, some mach, some d2, some d3, some (.loc S.length), some (.bl ch), o6] ∧ Gr S S1 ∧ WAt c S1 S.length E (fun j => S.length ≤ j ∧ j < S1.length) ∧ (∀ e ∈ E, e ∈ U) ∧ (∀ e ∈ E0, e ∈ E) ∧
  (∀ E2 : List Ed, (∀ e ∈ E0, e ∈ E2) → (∀ e, Dv E2 e → e ∈ E2) → ∀ e ∈ E, e ∈ E2) ∧ (ch = false → ∀ e, Dv E e → e ∈ E) ∧ m = 2 * (U.length - E.length) + (if ch then 1 else 0)
def SatR (c : Nat) (S : Sto) (rs mach d2 d3 : D) (E0 U : List Ed) (Dv : List Ed → Ed → Prop) (x : Fl × Vars × Sto) : Prop := x.1 = .nx ∧ ∃ (o5 o6 : Option D) (E : List Ed), x.2.1 = [some rs, some mach, some d2, some d3, some (.loc S.length), o5, o6] ∧ Gr S x.2.2 ∧ WAt c x.2.2 S.length E (fun j => S.length ≤ j ∧ j < x.2.2.length) ∧ (∀ e ∈ E, e ∈ U) ∧ Sat Dv E0 E
theorem sat_while {c gAdd : Nat} {bw : FM} {cl : Nat → FM} {rs mach d2 d3 : D} {Dv : List Ed → Ed → Prop} {U E0 : List Ed} (hadd : cl gAdd = runB 5 (addB c)) (hbw : DerOk c bw rs Dv U) {S : Sto} {m : Nat} {env : Vars} {S1 : Sto} (h : SatI c S rs mach d2 d3 E0 U Dv m env S1) :
    Ow (sWhile (bTru (mVar 5)) (sAsg (mL anyP (lCons (mLc (iSeq (mL bw (lCons (mVar 0) (lCons (mVar 4) lNil)))) [6] (.nm 6) bYes (mMeth "add" [(c, gAdd)] cl (mVar 4) (lCons (mVar 6) lNil))) lNil)) (gVar 5)) env S1) (SatR c S rs mach d2 d3 E0 U Dv) := by
  refine sWhile_inv (SatI c S rs mach d2 d3 E0 U Dv) (SatR c S rs mach d2 d3 E0 U Dv) (fun m env S1 h => ?_) m env S1 h
  obtain ⟨ch, o6, E, rfl, g, w, hU, h0, hmin, hcl, hm⟩ := h
  have lE := Nat.le_trans (len_subE w.nd hU) hbw.lU
  cases ch with
  | false =>
    simp
    exact ⟨rfl, _, o6, E, rfl, g, w, hU, h0, hcl rfl, hmin⟩
  | true =>
    simp [ow_lc]
    refine (hbw.run S1 S.length E _ w (hbw.tU.sub hU) lE).imp ?_
    rintro ⟨r, S2⟩ ⟨g2, l, Bs, hr, ll, hl, lB, hB⟩
    dsimp only at *
    subst hr
    have w2 := w.gr g2
    refine ⟨by simp [seq_loc hl], (addAll_ok hadd w2 (F := fun j => S.length ≤ j ∧ j < S1.length) (fun j hj => ⟨hj.1, Nat.lt_of_lt_of_le hj.2 ll⟩) hl lB hbw.tU hbw.lU hU (fun e he => hbw.inU E hU e ((hB e).mp he)) (by rfl) (by omega) (by simp)).imp ?_⟩
    rintro ⟨acc, S3⟩ ⟨bs, E1, ha, w3, a1, a2, a3, a4, a5⟩
    dsimp only at *
    subst ha
    have gs : S.length ≤ S2.length := (g.trans g2).len
    have g3 : Gr S S3 := (g.trans g2).trans' a1 fun j hj => a2 j hj
    have an : anyP [.loc S3.length] (S3 ++ [Ob.lst (bs.map .bl)]) = some (.bl (bs.any id), S3 ++ [Ob.lst (bs.map .bl)]) := by simp [anyP, seqD, bls_bl]
    rw [an]
    simp only [ow_some, List.set_cons_succ, List.set_cons_zero]
    have hU1 : ∀ e ∈ E1, e ∈ U := fun e he => ((a3 e).mp he).elim (hU e) fun h => hbw.inU E hU e ((hB e).mp h)
    have l1 := len_subE w3.nd hU1
    have l0 := len_subE w.nd hU
    refine ⟨_, ?_, bs.any id, o6, E1, rfl, g3.snoc, (w3.gr .app).F' (fun j hj => ⟨hj.1, by simp; omega⟩), hU1, fun e he => (a3 e).mpr (.inl (h0 e he)), fun E2 b1 b2 e he => ?_, fun hf => ?_, rfl⟩
    · rw [hm]
      cases hb : bs.any id with
      | false => simp [a4 hb]
      | true =>
        have := a5 hb
        simp only [if_true]
        omega
    · rcases (a3 e).mp he with h | h
      · exact hmin E2 b1 b2 e h
      · exact b2 e (hbw.mono E E2 (hmin E2 b1 b2) e ((hB e).mp h))
    · have e1 := a4 hf
      subst e1
      exact fun e he => (a3 e).mpr (.inr ((hB e).mpr he))
theorem sat_ok {c gAdd gEd m : Nat} {bw once ini io rk : FM} {cl : Nat → FM} {rs : D} {Dv : List Ed → Ed → Prop} {U E0 : List Ed} {fin : List D} (hadd : cl gAdd = runB 5 (addB c)) (hed : cl gEd = runB 1 (edgesB c io)) (hio : io = runB 1 (ioB rk)) (hrk : RankOk rk m) (h5 : 5 ≤ m) (h60 : m ≤ 60) (hbw : DerOk c bw rs Dv U) (hini : IniOk c ini) (honce : once = runB 2 (eachB io))
    (hE : ∀ e ∈ E0, e ∈ U) (nE : E0.Nodup) (tf : ∀ x ∈ fin, Th 4 x) (nf : fin.Nodup) (lf : fin.length ≤ 300) {S : Sto} :
    Ow (runB 7 (satB c gAdd gEd bw once ini cl) [rs, .tup [.tup (E0.map enc), .tup fin]] S) fun x => Gr S x.2 ∧ ∃ E : List Ed, x.1 = .tup [.tup (ordD (E.map enc)), .tup (ordD fin)] ∧ E.Nodup ∧ Sat Dv E0 E ∧ ∀ e ∈ E, e ∈ U := by
  obtain ⟨gAdd', cl0, rfl, hadd'⟩ := hini
  have lE := Nat.le_trans (len_subE nE hE) hbw.lU
  rw [ow_runB]
  unfold satB
  rw [ow_seq]
  simp [-ow_seq]
  rw [ow_seq]
  simp [-ow_seq]
  refine (init_ok hadd' (hbw.tU.sub hE) nE lE).imp ?_
  rintro ⟨r, S2⟩ ⟨rfl, g2, w⟩
  dsimp only at *
  rw [ow_seq]
  simp [-ow_seq]
  rw [ow_seq]
  refine (sat_while hadd hbw (S := S) (E0 := E0) ⟨true, none, E0, rfl, g2, w, hE, fun _ h => h, fun E2 a _ e he => a e he, (fun z => nomatch z), rfl⟩).imp ?_
  rintro ⟨fl, env, S3⟩ ⟨rfl, o5, o6, E, rfl, g3, w3, hU, hS⟩
  dsimp only at *
  have hm := meth_at (m := "edges") (cands := [(c, gEd)]) (g := gEd) w3 (by decide) (by decide) (by simp [List.lookup])
  simp [hm, hed]
  refine (edges_ok hio hrk h5 h60 w3 (hbw.tU.sub hU)).imp ?_
  rintro ⟨r, S4⟩ ⟨rfl, g4⟩
  dsimp only at *
  subst honce
  refine (each_ok hio hrk (by omega) h60 (S := S4) (d := .tup fin) rfl tf nf lf).imp ?_
  rintro ⟨r, S5⟩ ⟨rfl, g5⟩
  simp [tup_ok]
  exact ⟨g3.trans (g4.trans g5), E, rfl, w3.nd, hS, fun a b c h => hU _ h⟩
noncomputable def takesB (c : Nat) (bw ini : FM) : SM := (sSeq (sAsg (mVar 1) (gTupD 2 (gsCons (gVar 2) (gsCons (gVar 3) gsNil)))) (sRet (mL allP (lCons (mLc (iSeq (mL bw (lCons (mVar 0) (lCons (mMake c ini (lCons (mVar 2) lNil)) lNil)))) [4] (.nm 4) bYes (m2 inQ (mVar 4) (mVar 2))) lNil))))
theorem takes_ok {c : Nat} {bw ini : FM} {rs fin : D} {Dv : List Ed → Ed → Prop} {U E : List Ed} (hbw : DerOk c bw rs Dv U) (hini : IniOk c ini) (hE : ∀ e ∈ E, e ∈ U) (nE : E.Nodup) {S : Sto} :
    Ow (runB 5 (takesB c bw ini) [rs, .tup [.tup (E.map enc), fin]] S) fun x => Gr S x.2 ∧ ((∀ e, Dv E e → e ∈ E) → x.1 = .bl true) := by
  obtain ⟨gAdd', cl0, rfl, hadd'⟩ := hini
  have lE := Nat.le_trans (len_subE nE hE) hbw.lU
  have tE := hbw.tU.sub hE
  rw [ow_runB]
  unfold takesB
  rw [ow_seq]
  simp [-ow_seq, ow_lc]
  refine (init_ok hadd' tE nE lE).imp ?_
  rintro ⟨r, S2⟩ ⟨rfl, g2, w⟩
  simp
  refine (hbw.run S2 S.length E _ w tE lE).imp ?_
  rintro ⟨r, S3⟩ ⟨g3, l, Bs, hr, ll, hl, lB, hB⟩
  dsimp only at *
  subst hr
  have tB : EdT 4 Bs := fun p hp => hbw.tU p (hbw.inU E hE p ((hB p).mp hp))
  refine ⟨by simp [seq_loc hl], (lcG (seq_loc hl) (by simp; omega) (fun _ => true) (fun y => .bl (decide (y ∈ E.map enc))) (fun x hx => ⟨_, rfl, fun S4 g4 => ?_⟩)).imp ?_⟩
  · simp [-List.mem_map, bYes, wipeD, in_ths (encs_th tB x hx) (show seqD S4 (.tup (E.map enc)) = some (E.map enc) from rfl) (encs_th tE) (by omega) (by omega), Gr.refl]
  · rintro ⟨us, S4⟩ ⟨rfl, g4⟩
    rw [filter_yes]
    dsimp only at *
    rw [all_loc (f := fun y => decide (y ∈ E.map enc)) get_snoc]
    simp only [ow_some, D.bl.injEq]
    refine ⟨(g2.trans (g3.trans g4)).snoc, fun h => ?_⟩
    rw [List.all_eq_true]
    intro y hy
    obtain ⟨⟨a, b, d⟩, he, rfl⟩ := List.mem_map.mp hy
    exact decide_eq_true (List.mem_map.mpr ⟨_, h _ _ _ ((hB _).mp he), rfl⟩)
end DL
/-! DLzf: draws (with len of anything), the laws' small helpers. -/
namespace DL
open PySem

noncomputable def startQ : SM := (sRet (mDisp [((mC (.str "cells")), (mLc (iSeq (mVar 0)) [1] (.nm 1) bYes (mL absP (lCons (mL toIntP (lCons (mVar 1) lNil)) lNil)))), ((mC (.str "at")), (mC (.int 0))), ((mC (.str "left")), (mC (.int 0))), ((mC (.str "mix")), (m2 addP (mC (.int 7)) (mL lenQ (lCons (mVar 0) lNil))))]))
noncomputable def drawQ : SM := (sSeq (sIf (bAnd (bV (m2 eqP (m2 ixQ (mVar 0) (mC (.str "left"))) (mC (.int 0)))) (bV (m2 ltP (m2 ixQ (mVar 0) (mC (.str "at"))) (mL lenQ (lCons (m2 ixQ (mVar 0) (mC (.str "cells"))) lNil))))) (sSeq (sAsg (m2 ixQ (m2 ixQ (mVar 0) (mC (.str "cells"))) (m2 ixQ (mVar 0) (mC (.str "at")))) (gVar 2)) (sSeq (sAsg (m2 addP (m2 ixQ (mVar 0) (mC (.str "at"))) (mC (.int 1))) (gSubM (mVar 0) (mC (.str "at")))) (sSeq (sAsg (m2 modP (mL toIntP (lCons (m2 addP (m2 addP (m2 mulP (m2 ixQ (mVar 0) (mC (.str "mix"))) (mC (.int 48271))) (mVar 2)) (mC (.int 11))) lNil)) (mC (.int 2147483647))) (gSubM (mVar 0) (mC (.str "mix")))) (sSeq (sIf (bV (m2 ltP (mVar 2) (m2 powP (mC (.int 10)) (mC (.int 18))))) (sRet (m2 modP (mL toIntP (lCons (mVar 2) lNil)) (mVar 1))) sNext) (sAsg (mVar 2) (gSubM (mVar 0) (mC (.str "left")))))))) sNext) (sSeq (sIf (bV (m2 gtP (m2 ixQ (mVar 0) (mC (.str "left"))) (mC (.int 0)))) (sSeq (sAsg (m2 modP (mL toIntP (lCons (m2 ixQ (mVar 0) (mC (.str "left"))) lNil)) (mVar 1)) (gVar 3)) (sSeq (sAsg (m2 divP (m2 ixQ (mVar 0) (mC (.str "left"))) (mVar 1)) (gSubM (mVar 0) (mC (.str "left")))) (sRet (mVar 3)))) sNext) (sSeq (sAsg (m2 modP (mL toIntP (lCons (m2 addP (m2 mulP (m2 ixQ (mVar 0) (mC (.str "mix"))) (mC (.int 48271))) (mC (.int 11))) lNil)) (mC (.int 2147483647))) (gSubM (mVar 0) (mC (.str "mix")))) (sRet (m2 modP (mL toIntP (lCons (m2 modP (mL toIntP (lCons (m2 addP (m2 mulP (m2 ixQ (mVar 0) (mC (.str "mix"))) (mC (.int 69621))) (mC (.int 5))) lNil)) (mC (.int 2147483629))) lNil)) (mVar 1))))))
noncomputable def pickQ (dr : FM) : SM := (sRet (m2 ixQ (mVar 1) (mL dr (lCons (mVar 0) (lCons (mL lenQ (lCons (mVar 1) lNil)) lNil)))))
@[simp] theorem s_lenQ {cells : List Int} {a l m : Int} {T : Sto} : lenQ [.loc 0] (mkS cells a l m T) = some (.int cells.length, mkS cells a l m T) := by rw [len_lst (ds := cells.map D.int) rfl]; simp
@[simp] theorem len_scrQ {ns : List Int} {S : Sto} : lenQ [.scr ns] S = some (.int ns.length, S) := rfl
/-- a draw: a number below the bound -/
theorem drawQ_ok {T S : Sto} {b : Int} (h : DSt T S) (h0 : 0 < b) (h1 : b < 1073741824) : Ow (runB 4 drawQ [.loc 1, .int b] S) fun x => ∃ i, x.1 = .int i ∧ 0 ≤ i ∧ i < b ∧ DSt T x.2 := by
  obtain ⟨cells, a, l, m, ha, rfl⟩ := h
  have k1 : small 48271 = true := by decide
  have k2 : small 69621 = true := by decide
  have k3 : ∀ x : Int, 0 ≤ x % b := fun x => Int.emod_nonneg _ (by omega)
  have k4 : ∀ x : Int, x % b < b := fun x => Int.emod_lt_of_pos _ h0
  have k5 : ∀ {a l m : Int}, 0 ≤ a → DSt T (mkS cells a l m T) := fun {a l m} ha => ⟨cells, a, l, m, ha, rfl⟩
  rw [ow_runB]
  unfold drawQ
  simp [mul_ii, k1, k2, mod_ii, h0, div_ii, h1, pow18, k3, k4, k5 ha]
  intro hl hc
  obtain ⟨c, hcell⟩ := s_cell (l := l) (m := m) (T := T) ha hc
  subst hl
  rw [hcell]
  simp [mul_ii, k1, k2, mod_ii, h0, div_ii, h1, pow18, k3, k4, k5 (show (0 : Int) ≤ a + 1 by omega)]
/-- the laws' state made -/
theorem startQ_ok {ns : List Int} (h : ns.length ≤ 63) : Ow (runB 2 startQ [.scr ns] []) fun x => x.1 = .loc 1 ∧ DSt [] x.2 := by
  rw [ow_runB]
  unfold startQ
  simp [ow_lc, seqD]
  refine (lcL_inv (ns.map D.int) (fun j acc S => S = [] ∧ ∃ cs : List Int, acc = cs.map D.int ∧ cs.length = j) (fun j acc S _ => by simp [itAt, seqD]) (fun j d acc S hd hI => ?_) ns.length 0 [] [] (by simp) (by simp) ⟨rfl, [], rfl, rfl⟩).imp ?_
  · obtain ⟨rfl, cs, rfl, hcs⟩ := hI
    have hj : j < ns.length := by
      have := (List.getElem?_eq_some_iff.mp hd).1
      simpa using this
    obtain ⟨c, rfl⟩ : ∃ c, d = .int c := by
      rw [List.getElem?_map] at hd
      cases e : ns[j]? with
      | none => rw [e] at hd; cases hd
      | some c => rw [e] at hd; exact ⟨c, by simpa using hd.symm⟩
    refine ⟨_, rfl, ?_⟩
    simp [bYes, wipeD]
    refine ⟨?_, cs ++ [if c < 0 then -c else c], by simp, by simp [hcs]⟩
    show cs.length < 2 ^ 24
    omega
  · rintro ⟨ds, S1⟩ ⟨hS, cs, hd, hl⟩
    simp only at hS hd
    subst hS hd
    simp
    refine ⟨?_, cs, 0, 0, 7 + ns.length, by simp, rfl⟩
    rintro a b (⟨rfl, _⟩ | ⟨rfl, _⟩ | ⟨rfl, _⟩ | ⟨rfl, _⟩) <;> exact okStr
theorem drawOkQ : DrawOk (runB 4 drawQ) := fun _ _ _ h h0 h1 => drawQ_ok h h0 h1
/-- one of the things -/
theorem pickQ_loc {dr : FM} (hd : DrawOk dr) {T S : Sto} {k : Nat} {ds : List D} (h : DSt T S) (hk : T[k]? = some (.lst ds)) (h0 : ds ≠ []) (h1 : ds.length < 1073741824) : Ow (runB 2 (pickQ dr) [.loc 1, .loc (k + 2)] S) fun x => x.1 ∈ ds ∧ DSt T x.2 := by
  rw [ow_runB]
  unfold pickQ
  simp [len_lst ((h.at k).trans hk)]
  have hp : 0 < ds.length := List.length_pos_iff.mpr h0
  refine (hd T S ds.length h (by omega) (by omega)).imp ?_
  rintro ⟨d, S1⟩ ⟨i, hi, i0, i1, h2⟩
  simp only at hi h2
  subst hi
  have hl : i.toNat < ds.length := by omega
  simp [ix_lst ((h2.at k).trans hk) i0 (List.getElem?_eq_getElem hl), h2]
theorem pickQ_tup {dr : FM} (hd : DrawOk dr) {T S : Sto} {ds : List D} (h : DSt T S) (h0 : ds ≠ []) (h1 : ds.length < 1073741824) : Ow (runB 2 (pickQ dr) [.loc 1, .tup ds] S) fun x => x.1 ∈ ds ∧ DSt T x.2 := by
  rw [ow_runB]
  unfold pickQ
  simp
  have hp : 0 < ds.length := List.length_pos_iff.mpr h0
  refine (hd T S ds.length h (by omega) (by omega)).imp ?_
  rintro ⟨d, S1⟩ ⟨i, hi, i0, i1, h2⟩
  simp only at hi h2
  subst hi
  have hl : i.toNat < ds.length := by omega
  simp [ix_tup i0 (List.getElem?_eq_getElem hl), h2]
/-- T grows, behind the state -/
theorem DSt.gr {T S S' : Sto} (h : DSt T S) (g : Gr S S') : ∃ T', Gr T T' ∧ DSt T' S' := by
  obtain ⟨U, rfl⟩ := g
  exact ⟨T ++ U, .app, h.app U⟩
theorem DSt.get {T S : Sto} (h : DSt T S) {k : Nat} {o : Ob} (e : T[k]? = some o) : S[k + 2]? = some o := (h.at k).trans e
theorem pick_litQ {dr : FM} (hd : DrawOk dr) {T S : Sto} {ds : List D} (h : DSt T S) (h0 : ds ≠ []) (h1 : ds.length < 1073741824) : Ow (runB 2 (pickQ dr) [.loc 1, .loc S.length] (S ++ [.lst ds])) fun x => x.1 ∈ ds ∧ DSt (T ++ [.lst ds]) x.2 := by
  rw [h.len]
  exact pickQ_loc hd (h.app _) (by simp) h0 h1
/-- a comprehension over a range -/
theorem lcR_inv {lo : Int} {n : Nat} {vs : List Nat} {t : Tgt} {tt : BM} {te : EM} {env : Vars} (I : Nat → List D → Sto → Prop)
    (step : ∀ j acc S, j < n → I j acc S → ∃ env1, t.put (wipeD env vs) (.int (lo + j)) = some env1 ∧ Ow (tt env1 S) fun x => if x.1 = true then Ow (te env1 x.2) fun y => acc.length < sizeLine ∧ I (j + 1) (acc ++ [y.1]) y.2 else I (j + 1) acc x.2)
    {S : Sto} (h : I 0 [] S) : Ow (lcL (.rng lo n) vs t tt te env 0 [] S) fun x => I n x.1 x.2 := by
  have hl : ((List.range n).map fun i => D.int (lo + (i : Nat))).length = n := by simp
  have := lcL_inv (it := .rng lo n) (vs := vs) (t := t) (tt := tt) (te := te) (env := env) ((List.range n).map fun i => D.int (lo + (i : Nat))) I (fun j acc S _ => by
    simp only [itAt, List.getElem?_map]
    by_cases hj : j < n
    · simp [hj, List.getElem?_range hj]
    · simp [hj]) (fun j d acc S hj hI => by
    have hjn : j < n := by
      have := (List.getElem?_eq_some_iff.mp hj).1
      simpa using this
    have : d = .int (lo + j) := by
      rw [List.getElem?_map, List.getElem?_range hjn] at hj
      simpa using hj.symm
    subst this
    exact step j acc S hjn hI) n 0 [] S (by rw [hl]; omega) (by omega) h
  rw [hl] at this
  exact this
noncomputable def onceB : SM := (sSeq (sAsg (mL lstP lNil) (gVar 1)) (sSeq (sFor (iSeq (mVar 0)) (gVar 2) (sIf (bV (m2 notInQ (mVar 2) (mVar 1))) (sExpr (mM "list" appP (mVar 1) (lCons (mVar 2) lNil))) sNext)) (sRet (mVar 1))))
/-- what once keeps -/
def OnceOf (xs ys : List D) : Prop := ys.Nodup ∧ ∀ y, y ∈ ys ↔ y ∈ xs
theorem once_ok {n : Nat} {S : Sto} {d : D} {xs : List D} (hd : seqD S d = some xs) (hx : ∀ x ∈ xs, Th n x) (hn : n ≤ 60) (lx : xs.length ≤ 100000) :
    Ow (runB 3 onceB [d] S) fun x => Gr S x.2 ∧ ∃ l ys, x.1 = .loc l ∧ S.length ≤ l ∧ x.2[l]? = some (.lst ys) ∧ OnceOf xs ys := by
  rw [ow_runB]
  unfold onceB
  rw [ow_seq]
  simp [-ow_seq, lst_ok]
  rw [ow_seq, ow_for]
  have g0 : Gr S (S ++ [.lst []]) := .app
  simp [-ow_seq, g0.seq hd]
  refine (forL_inv xs (fun j env S1 => ∃ ys o2, env = [some d, some (.loc S.length), o2] ∧ Gr S S1 ∧ S1[S.length]? = some (.lst ys) ∧ OnceOf (xs.take j) ys)
    (fun x => x.1 = .nx ∧ ∃ ys o2, x.2.1 = [some d, some (.loc S.length), o2] ∧ Gr S x.2.2 ∧ x.2.2[S.length]? = some (.lst ys) ∧ OnceOf xs ys)
    (fun j env S1 ⟨ys, o2, _, g, _⟩ => by simp [itAt, g.seq hd]) (fun env S1 ⟨ys, o2, e, g, h1, h2⟩ => ⟨rfl, ys, o2, e, g, h1, by simpa using h2⟩)
    (fun j x env S1 hj ⟨ys, o2, e, g, h1, h2⟩ => ?step) xs.length 0 _ _ (by simp) (by simp) ⟨[], none, rfl, g0, get_snoc, List.nodup_nil, fun y => by simp⟩).imp ?imp
  case step =>
    subst e
    have hxm := List.mem_of_getElem? hj
    have ty : ∀ y ∈ ys, Th n y := fun y hy => hx y (List.mem_of_mem_take ((h2.2 y).mp hy))
    have ly : ys.length ≤ 100000 := Nat.le_trans (len_sub h2.1 fun y hy => List.mem_of_mem_take ((h2.2 y).mp hy)) lx
    simp [notIn_ths (hx x hxm) (seq_loc h1) ty hn hn]
    by_cases hc : x ∈ ys
    · simp [hc]
      refine ⟨g, ys, h1, h2.1, fun y => ?_⟩
      rw [h2.2, List.take_add_one, hj]
      simp only [Option.toList_some, List.mem_append, List.mem_singleton]
      exact ⟨.inl, fun z => z.elim id fun z => z ▸ (h2.2 x).mp hc⟩
    · simp [hc, ty_lst h1, app_lst h1 (by omega)]
      refine ⟨g.set (Nat.le_refl _), ys ++ [x], get_set h1, ?_, fun y => ?_⟩
      · rw [List.nodup_append]
        exact ⟨h2.1, by simp, fun a ha b hb => by simp at hb; subst hb; exact fun z => hc (z ▸ ha)⟩
      · rw [List.mem_append, h2.2, List.take_add_one, hj]
        simp
  case imp =>
    rintro ⟨fl, env, S1⟩ ⟨rfl, ys, o2, rfl, g, h1, h2⟩
    simp
    exact ⟨g, ys, h1, h2⟩
noncomputable def orderedB (once rk : FM) : SM := (sRet (mSortK rk (mL once (lCons (mVar 0) lNil))))
theorem ordered_ok {once rk : FM} {n m : Nat} (ho : once = runB 3 onceB) (hm : RankOk rk m) (hnm : n ≤ m) (h60 : m ≤ 60) {S : Sto} {d : D} {xs : List D} (hd : seqD S d = some xs) (hx : ∀ x ∈ xs, Th n x) (lx : xs.length ≤ 100000) :
    Ow (runB 1 (orderedB once rk) [d] S) fun x => Gr S x.2 ∧ ∃ l ys, x.1 = .loc l ∧ S.length ≤ l ∧ x.2[l]? = some (.lst (ordD ys)) ∧ OnceOf xs ys := by
  subst ho
  rw [ow_runB]
  unfold orderedB
  simp
  refine (once_ok hd hx (by omega) lx).imp ?_
  rintro ⟨r, S2⟩ ⟨g, l, ys, rfl, hl, h1, h2⟩
  dsimp only at *
  refine (sort_ok hm h60 h1 fun y hy => (hx y ((h2.2 y).mp hy)).mono hnm).imp ?_
  rintro ⟨r, S3⟩ ⟨l2, rfl, g2, h3, h4⟩
  simp
  have := g.len
  exact ⟨g.trans g2, by omega, ys, h3, h2⟩
noncomputable def isQ : SM := (sRet (mAnd (m1 (isiP "bool") (mVar 0)) (m2 eqP (mVar 0) (mVar 1))))
theorem is_bl {a b : Bool} {S : Sto} : Ow (runB 2 isQ [.bl a, .bl b] S) fun x => x = (.bl (a == b), S) := by
  rw [ow_runB]
  unfold isQ
  simp [eqP, pyOf, D.pure, D.py, SeqAt.shaped, PyData.canLay0, PyData.depth, PyData.eqv]
  try cases a <;> cases b <;> simp
end DL
/-! DLzg: the laws' pushdown and machine. -/
namespace DL
open PySem

abbrev AB : List D := [.str "a", .str "b"]
abbrev ABN : List D := [.str "a", .str "b", .str "a", .str "b", .non]
abbrev NN : List D := [.int 0, .int 1, .int 2, .str "m", .str "n"]
abbrev MN : List D := [.str "m", .str "n"]
/-- 0, 1 or 2 -/
def D3 (d : D) : Prop := d = .int 0 ∨ d = .int 1 ∨ d = .int 2
theorem d3_of {i : Int} (h0 : 0 ≤ i) (h1 : i < 3) : D3 (.int i) := by
  have : i = 0 ∨ i = 1 ∨ i = 2 := by omega
  rcases this with rfl | rfl | rfl
  · exact .inl rfl
  · exact .inr (.inl rfl)
  · exact .inr (.inr rfl)
/-- a rule as drawn -/
structure RlD (r : Rl) : Prop where
  p : D3 r.p
  s : r.s ∈ AB
  q : D3 r.q
  w : ∀ d ∈ r.w, d ∈ AB
  lw : r.w.length ≤ 2
  m : r.m = .int 0 ∨ r.m = .int 1
theorem d3_th {n : Nat} {d : D} (h : D3 d) : Th n d := by rcases h with rfl | rfl | rfl <;> exact .int
theorem ab_th {n : Nat} {d : D} (h : d ∈ AB) : Th n d := by
  simp at h
  rcases h with rfl | rfl <;> exact .str (by decide +kernel)
theorem nn_th {n : Nat} {d : D} (h : d ∈ NN) : Th n d := by
  simp at h
  rcases h with rfl | rfl | rfl | rfl | rfl
  all_goals first | exact .int | exact .str (by decide +kernel)
theorem abn_th {n : Nat} {d : D} (h : d ∈ ABN) : Th n d := by
  simp at h
  rcases h with rfl | rfl | rfl | rfl | rfl
  all_goals first | exact .non | exact .str (by decide +kernel)
theorem RlD.th {R : List Rl} (h : ∀ r ∈ R, RlD r) : RlT R := fun r hr => ⟨d3_th (h r hr).p, ab_th (h r hr).s, d3_th (h r hr).q, fun d hd => ab_th ((h r hr).w d hd), (h r hr).lw⟩
@[simp] theorem toInt_b {b : Bool} {S : Sto} : toIntP [.bl b] S = some (.int (if b then 1 else 0), S) := rfl
noncomputable def pushB (dr pk : FM) : SM := (sSeq (sAsg (mL lstP lNil) (gVar 1)) (sSeq (sFor (iRng1M (m2 addP (mC (.int 1)) (mL dr (lCons (mVar 0) (lCons (mC (.int 8)) lNil))))) (gVar 2) (sSeq (sAsg (mL tupleP (lCons (mLc (iRng1M (mL pk (lCons (mVar 0) (lCons (mL lstP (lCons (mC (.int 0)) (lCons (mC (.int 0)) (lCons (mC (.int 1)) (lCons (mC (.int 2)) (lCons (mC (.int 2)) lNil)))))) lNil)))) [4] (.nm 4) bYes (mL pk (lCons (mVar 0) (lCons (mL lstP (lCons (mC (.str "a")) (lCons (mC (.str "b")) lNil))) lNil)))) lNil)) (gVar 3)) (sExpr (mM "list" appP (mVar 1) (lCons (mL tupP (lCons (mL dr (lCons (mVar 0) (lCons (mC (.int 3)) lNil))) (lCons (mL pk (lCons (mVar 0) (lCons (mL lstP (lCons (mC (.str "a")) (lCons (mC (.str "b")) lNil))) lNil))) (lCons (mL dr (lCons (mVar 0) (lCons (mC (.int 3)) lNil))) (lCons (mVar 3) (lCons (mL toIntP (lCons (m2 eqP (mL dr (lCons (mVar 0) (lCons (mC (.int 3)) lNil))) (mC (.int 0))) lNil)) lNil)))))) lNil))))) (sRet (mL tupleP (lCons (mVar 1) lNil)))))
theorem tuple_seq {d : D} {ds : List D} {S : Sto} {n : Nat} (h : S[n]? = some (.lst ds)) : tupleP [.loc n] S = some (.tup ds, S) := tuple_lst h
/-- the words drawn -/
theorem word_ok {dr pk : FM} (hd : DrawOk dr) (hp : pk = runB 2 (pickQ dr)) {T S : Sto} {o1 o2 o3 o4 : Option D} (h : DSt T S) {n : Nat} (hn : n ≤ 5) :
    Ow (lcL (.rng 0 n) [4] (.nm 4) bYes (mL pk (lCons (mVar 0) (lCons (mL lstP (lCons (mC (.str "a")) (lCons (mC (.str "b")) lNil))) lNil))) [some (.loc 1), o1, o2, o3, o4] 0 [] S) fun x => x.1.length = n ∧ (∀ d ∈ x.1, d ∈ AB) ∧ ∃ T', Gr T T' ∧ DSt T' x.2 := by
  subst hp
  refine lcR_inv (fun j acc S1 => acc.length = j ∧ (∀ d ∈ acc, d ∈ AB) ∧ ∃ T', Gr T T' ∧ DSt T' S1) (fun j acc S1 hj ⟨h1, h2, T1, g1, h3⟩ => ?_) ⟨rfl, by simp, T, .refl, h⟩
  refine ⟨_, rfl, ?_⟩
  simp [bYes, wipeD, lst_ok]
  refine (pick_litQ hd h3 (by simp) (by simp)).imp ?_
  rintro ⟨d, S2⟩ ⟨hm, h4⟩
  refine ⟨fits_lt (by omega), by omega, fun y hy => ?_, _, g1.snoc, h4⟩
  rcases hy with hy | rfl
  · simpa using h2 y hy
  · simpa using hm
theorem push_ok {dr pk : FM} (hd : DrawOk dr) (hp : pk = runB 2 (pickQ dr)) {T S : Sto} (h : DSt T S) :
    Ow (runB 5 (pushB dr pk) [.loc 1] S) fun x => ∃ R : List Rl, x.1 = .tup (R.map encR) ∧ 0 < R.length ∧ R.length ≤ 8 ∧ (∀ r ∈ R, RlD r) ∧ ∃ T', Gr T T' ∧ DSt T' x.2 := by
  rw [ow_runB]
  unfold pushB
  rw [ow_seq]
  simp [-ow_seq, lst_ok]
  rw [ow_seq, ow_for]
  simp [-ow_seq]
  have h0 := h.app [.lst []]
  refine (hd _ _ 8 h0 (by decide) (by decide)).imp ?_
  rintro ⟨d, S1⟩ ⟨i, rfl, i0, i1, h1⟩
  simp [-ow_seq]
  refine ⟨by omega, ?_⟩
  have hl : S.length = T.length + 2 := h.len
  have hn : (1 + i).toNat ≤ 8 ∧ 0 < (1 + i).toNat := by omega
  generalize (1 + i).toNat = n at hn
  refine (forR_inv (n := n) (fun j env S1 => ∃ o2 o3 o4 T1 R, env = [some (.loc 1), some (.loc S.length), o2, o3, o4] ∧ Gr T T1 ∧ DSt T1 S1 ∧ T1[T.length]? = some (.lst (R.map encR)) ∧ R.length = j ∧ ∀ r ∈ R, RlD r)
    (fun x => x.1 = .nx ∧ ∃ o2 o3 o4 T1 R, x.2.1 = [some (.loc 1), some (.loc S.length), o2, o3, o4] ∧ Gr T T1 ∧ DSt T1 x.2.2 ∧ T1[T.length]? = some (.lst (R.map encR)) ∧ R.length = n ∧ ∀ r ∈ R, RlD r)
    (fun env S1 ⟨o2, o3, o4, T1, R, hh⟩ => ⟨rfl, o2, o3, o4, T1, R, hh⟩) (fun j env S1 hj ⟨o2, o3, o4, T1, R, e, g, h2, h3, h4, h5⟩ => ?step) ⟨none, none, none, T ++ [.lst []], [], rfl, .app, h1, get_snoc, rfl, by simp⟩).imp ?imp
  case step =>
    subst e
    rw [ow_gVar, ow_seq]
    simp [-ow_seq, lst_ok, ow_lc]
    have hp' := hp
    subst hp
    refine (pick_litQ hd h2 (by simp) (by simp)).imp ?_
    rintro ⟨d, S2⟩ ⟨hm, h6⟩
    obtain ⟨k, rfl, k0, k2⟩ : ∃ k : Nat, d = .int k ∧ 0 ≤ k ∧ k ≤ 2 := by
      simp at hm
      rcases hm with rfl | rfl | rfl
      · exact ⟨0, rfl, by omega, by omega⟩
      · exact ⟨1, rfl, by omega, by omega⟩
      · exact ⟨2, rfl, by omega, by omega⟩
    simp [-ow_seq]
    refine ⟨by omega, (word_ok hd hp' h6 (by omega)).imp ?_⟩
    rintro ⟨w, S3⟩ ⟨w1, w2, T3, g3, h7⟩
    dsimp only at *
    rw [tuple_lst get_snoc]
    simp [-ow_seq]
    have h8 := h7.app [.lst w]
    have q1 : (T3 ++ [Ob.lst w])[T.length]? = some (.lst (R.map encR)) := get_app ((Gr.trans .app g3).get h3)
    have q2 := h8.get q1
    rw [← hl] at q2
    rw [ty_lst q2]
    simp only [true_and]
    refine (hd _ _ 3 h8 (by decide) (by decide)).imp ?_
    rintro ⟨d, S4⟩ ⟨p, rfl, p0, p1, h9⟩
    simp [lst_ok]
    refine (pick_litQ hd h9 (by simp) (by simp)).imp ?_
    rintro ⟨s, S5⟩ ⟨hs, h10⟩
    dsimp only
    refine (hd _ _ 3 h10 (by decide) (by decide)).imp ?_
    rintro ⟨d, S6⟩ ⟨q, rfl, q0, q1', h11⟩
    dsimp only
    refine (hd _ _ 3 h11 (by decide) (by decide)).imp ?_
    rintro ⟨d, S7⟩ ⟨m, rfl, m0, m1, h12⟩
    simp [tup_ok]
    have q3 : (T3 ++ [Ob.lst w] ++ [Ob.lst AB])[T.length]? = some (.lst (R.map encR)) := get_app q1
    have q4 := h12.get q3
    rw [← hl] at q4
    rw [app_lst q4 (by simp; omega)]
    simp only [ow_some]
    have h13 := h12.set T.length (.lst (R.map encR ++ [.tup [.int p, s, .int q, .tup w, .int (if m = 0 then 1 else 0)]]))
    rw [← hl] at h13
    refine ⟨_, ?_, h13, R ++ [⟨.int p, s, .int q, w, .int (if m = 0 then 1 else 0)⟩], ?_, by simp [h4], fun r hr => ?_⟩
    · exact (((((g.trans .app).trans g3).trans .app).trans .app)).set (Nat.le_refl _)
    · rw [get_set q3]
      simp [encR]
    · rcases List.mem_append.mp hr with hr | hr
      · exact h5 r hr
      · rw [List.mem_singleton.mp hr]
        refine ⟨d3_of p0 p1, hs, d3_of q0 q1', w2, by simp [w1]; omega, ?_⟩
        by_cases hm0 : m = 0
        · exact .inr (by simp [hm0])
        · exact .inl (by simp [hm0])
  case imp =>
    rintro ⟨fl, env, S2⟩ ⟨rfl, o2, o3, o4, T1, R, rfl, g, h2, h3, h4, h5⟩
    have q2 := h2.get h3
    rw [← hl] at q2
    simp [tuple_lst q2]
    exact ⟨R, rfl, by omega, by omega, h5, T1, g, h2⟩
end DL
/-! DLzh: the laws' machine. -/
namespace DL
open PySem

noncomputable def machB1 (dr pk once : FM) : SM := (sSeq (sFor (iRng1M (mL dr (lCons (mVar 0) (lCons (mC (.int 8)) lNil)))) (gVar 6) (sExpr (mM "list" appP (mVar 5) (lCons (mL tupP (lCons (mL pk (lCons (mVar 0) (lCons (mVar 2) lNil))) (lCons (mL pk (lCons (mVar 0) (lCons (mVar 4) lNil))) (lCons (mL pk (lCons (mVar 0) (lCons (mVar 3) lNil))) lNil)))) lNil)))) (sSeq (sAsg (mLc (iSeq (mVar 2)) [8] (.nm 8) (bV (m2 eqP (mL dr (lCons (mVar 0) (lCons (mC (.int 3)) lNil))) (mC (.int 0)))) (mVar 8)) (gVar 7)) (sRet (mL tupP (lCons (mL tupleP (lCons (mL once (lCons (mVar 5) lNil)) lNil)) (lCons (mL tupleP (lCons (mVar 7) lNil)) lNil))))))
noncomputable def machB (dr pk once : FM) : SM := (sSeq (sAsg (mL lstP (lCons (mC (.int 0)) (lCons (mC (.int 1)) (lCons (mC (.int 2)) (lCons (mC (.str "m")) (lCons (mC (.str "n")) lNil)))))) (gVar 2)) (sSeq (sAsg (mIf (bTru (mVar 1)) (mL lstP (lCons (mC (.str "m")) (lCons (mC (.str "n")) lNil))) (mVar 2)) (gVar 3)) (sSeq (sAsg (mIf (bTru (mVar 1)) (mL lstP (lCons (mC (.str "a")) (lCons (mC (.str "b")) lNil))) (mL lstP (lCons (mC (.str "a")) (lCons (mC (.str "b")) (lCons (mC (.str "a")) (lCons (mC (.str "b")) (lCons (mC .non) lNil))))))) (gVar 4)) (sSeq (sAsg (mL lstP lNil) (gVar 5)) (machB1 dr pk once)))))
/-- a machine as drawn -/
structure MachD (sy tg : List D) (E : List Ed) (fin : List D) : Prop where
  nd : E.Nodup
  ed : ∀ e ∈ E, e.1 ∈ NN ∧ e.2.1 ∈ sy ∧ e.2.2 ∈ tg
  len : E.length ≤ 7
  fnd : fin.Nodup
  fin : ∀ x ∈ fin, x ∈ NN
def MachR (sy tg : List D) (T : Sto) (d : D) (S : Sto) : Prop := ∃ (E : List Ed) (fin : List D), d = .tup [.tup (E.map enc), .tup fin] ∧ MachD sy tg E fin ∧ ∃ T', Gr T T' ∧ DSt T' S
theorem mach1_ok {dr pk once : FM} (hd : DrawOk dr) (hp : pk = runB 2 (pickQ dr)) (ho : once = runB 3 onceB) {T0 T S : Sto} {a b c e : Nat} {sy tg : List D} {o1 o6 o7 o8 : Option D} (g0 : Gr T0 T) (h : DSt T S) (ha : T[a]? = some (.lst NN)) (hb : T[b]? = some (.lst tg)) (hc : T[c]? = some (.lst sy)) (he : T[e]? = some (.lst [])) (le : T0.length ≤ e) (ntg : tg ≠ []) (nsy : sy ≠ [])
    (tsy : ∀ d ∈ sy, Th 3 d) (ttg : ∀ d ∈ tg, Th 3 d) (ltg : tg.length ≤ 5) (lsy : sy.length ≤ 5) :
    Ow (machB1 dr pk once [some (.loc 1), o1, some (.loc (a + 2)), some (.loc (b + 2)), some (.loc (c + 2)), some (.loc (e + 2)), o6, o7, o8] S) fun x => ∃ d, x.1 = .rt d ∧ MachR sy tg T0 d x.2.2 := by
  have nea : e ≠ a := by rintro rfl; rw [ha] at he; simp at he
  have neb : e ≠ b := by rintro rfl; rw [hb] at he; simp at he; exact ntg he
  have nec : e ≠ c := by rintro rfl; rw [hc] at he; simp at he; exact nsy he
  unfold machB1
  rw [ow_seq, ow_for]
  simp [-ow_seq]
  refine (hd _ _ 8 h (by decide) (by decide)).imp ?_
  rintro ⟨d, S1⟩ ⟨i, rfl, i0, i1, h1⟩
  simp [-ow_seq]
  refine ⟨by omega, ?_⟩
  have hn : i.toNat ≤ 7 := by omega
  generalize i.toNat = n at hn
  refine (forR_inv (n := n) (fun j env S1 => ∃ o6 T1 Es, env = [some (.loc 1), o1, some (.loc (a + 2)), some (.loc (b + 2)), some (.loc (c + 2)), some (.loc (e + 2)), o6, o7, o8] ∧ Gr T0 T1 ∧ DSt T1 S1 ∧ T1[a]? = some (.lst NN) ∧ T1[b]? = some (.lst tg) ∧ T1[c]? = some (.lst sy) ∧ T1[e]? = some (.lst (Es.map enc)) ∧ Es.length = j ∧ ∀ p : Ed, p ∈ Es → p.1 ∈ NN ∧ p.2.1 ∈ sy ∧ p.2.2 ∈ tg)
    (fun x => x.1 = .nx ∧ ∃ o6 T1 Es, x.2.1 = [some (.loc 1), o1, some (.loc (a + 2)), some (.loc (b + 2)), some (.loc (c + 2)), some (.loc (e + 2)), o6, o7, o8] ∧ Gr T0 T1 ∧ DSt T1 x.2.2 ∧ T1[a]? = some (.lst NN) ∧ T1[e]? = some (.lst (Es.map enc)) ∧ Es.length = n ∧ ∀ p : Ed, p ∈ Es → p.1 ∈ NN ∧ p.2.1 ∈ sy ∧ p.2.2 ∈ tg)
    (fun env S1 ⟨o6, T1, Es, e1, g, h2, q1, q2, q3, q4, q5, q6⟩ => ⟨rfl, o6, T1, Es, e1, g, h2, q1, q4, q5, q6⟩) (fun j env S1 hj ⟨o6, T1, Es, e1, g, h2, q1, q2, q3, q4, q5, q6⟩ => ?step) ⟨o6, T, [], rfl, g0, h1, ha, hb, hc, he, rfl, by simp⟩).imp ?imp
  case step =>
    subst e1
    subst hp
    simp [ty_lst (h2.get q4)]
    refine (pickQ_loc hd h2 q1 (by simp) (by simp)).imp ?_
    rintro ⟨x, S2⟩ ⟨hx, h3⟩
    dsimp only
    refine (pickQ_loc hd h3 q3 nsy (by omega)).imp ?_
    rintro ⟨s, S3⟩ ⟨hs, h4⟩
    dsimp only
    refine (pickQ_loc hd h4 q2 ntg (by omega)).imp ?_
    rintro ⟨y, S4⟩ ⟨hy, h5⟩
    simp [tup_ok]
    rw [app_lst (h5.get q4) (by simp; omega)]
    simp only [ow_some]
    refine ⟨_, g.set le, h5.set _ _, by rw [get_set_ne nea]; exact q1, by rw [get_set_ne neb]; exact q2, by rw [get_set_ne nec]; exact q3, Es ++ [(x, s, y)], by rw [get_set q4]; simp [enc], by simp [q5], fun u v w hp => ?_⟩
    rcases List.mem_append.mp hp with hp | hp
    · simpa using q6 _ hp
    · have := List.mem_singleton.mp hp
      cases this
      exact ⟨by simpa using hx, hs, hy⟩
  case imp =>
    rintro ⟨fl, env, S2⟩ ⟨rfl, o6, T1, Es, rfl, g, h2, q1, q4, q5, q6⟩
    dsimp only at *
    rw [ow_seq]
    simp [-ow_seq, ow_lc, seq_loc (h2.get q1)]
    refine (lcL_inv NN (fun j acc S1 => acc.Sublist (NN.take j) ∧ DSt T1 S1) (fun j acc S1 ⟨_, h⟩ => by simp [itAt, seq_loc (h.get q1)]) (fun j d acc S1 hj ⟨h3, h4⟩ => ?step2) NN.length 0 [] _ (by simp) (by simp) ⟨by simp, h2⟩).imp ?imp2
    case step2 =>
      refine ⟨_, rfl, ?_⟩
      simp [wipeD]
      refine (hd _ _ 3 h4 (by decide) (by decide)).imp ?_
      rintro ⟨d', S4⟩ ⟨i, rfl, i0, i1, h5⟩
      have e1 : NN.take (j + 1) = NN.take j ++ [d] := by rw [List.take_add_one, hj]; rfl
      have hl := h3.length_le
      have hj5 := (List.getElem?_eq_some_iff.mp hj).1
      simp at hj5
      by_cases hi : i = 0
      · simp [-List.take_succ_cons, hi]
        refine ⟨fits_lt ?_, ?_, h5⟩
        · rw [List.length_take] at hl
          omega
        · show (acc ++ [d]).Sublist (NN.take (j + 1))
          rw [e1]
          exact h3.append (List.Sublist.refl _)
      · simp [-List.take_succ_cons, hi]
        refine ⟨?_, h5⟩
        show acc.Sublist (NN.take (j + 1))
        rw [e1]
        exact h3.trans (List.sublist_append_left _ _)
    case imp2 =>
      rintro ⟨fs, S3⟩ ⟨h3, h4⟩
      dsimp only at *
      have h5 := h4.app [.lst fs]
      have q7 : (T1 ++ [Ob.lst fs])[e]? = some (.lst (Es.map enc)) := get_app q4
      have tE : EdT 3 Es := fun p hp => ⟨nn_th (q6 p hp).1, tsy _ (q6 p hp).2.1, ttg _ (q6 p hp).2.2⟩
      subst ho
      refine (once_ok (seq_loc (h5.get q7)) (encs_th tE) (by omega) (by simp; omega)).imp ?_
      rintro ⟨r, S5⟩ ⟨g5, l, ys, rfl, hl, h6, h7⟩
      obtain ⟨T2, g6, h8⟩ := h5.gr g5
      dsimp only at *
      have q8 : (S3 ++ [Ob.lst fs])[S3.length]? = some (.lst fs) := get_snoc
      simp [tuple_lst h6, tuple_lst (g5.get q8), tup_ok]
      have hdec : ∀ y ∈ ys, enc (e1 y, e2 y, e3 y) = y := fun y hy => by
        obtain ⟨p, _, rfl⟩ := List.mem_map.mp ((h7.2 y).mp hy)
        rfl
      have hys : ys = (ys.map fun y => (e1 y, e2 y, e3 y)).map enc := by
        rw [List.map_map]
        conv => lhs; rw [← List.map_id ys]
        exact List.map_congr_left fun y hy => (hdec y hy).symm
      have hmem : ∀ p : Ed, p ∈ (ys.map fun y => (e1 y, e2 y, e3 y)) → p ∈ Es := fun p hp => by
        obtain ⟨y, hy, rfl⟩ := List.mem_map.mp hp
        obtain ⟨p, hp2, rfl⟩ := List.mem_map.mp ((h7.2 y).mp hy)
        exact hp2
      have hnd : (ys.map fun y => (e1 y, e2 y, e3 y)).Nodup := by
        have := h7.1
        rw [hys, List.nodup_iff_pairwise_ne, List.pairwise_map] at this
        rw [List.nodup_iff_pairwise_ne]
        exact this.imp fun h e => h (by rw [e])
      refine ⟨ys.map fun y => (e1 y, e2 y, e3 y), fs, by rw [← hys], ⟨hnd, fun p hp => q6 p (hmem p hp), by have := len_subE hnd hmem; omega, ?_, fun x hx => ?_⟩, T2, (g.trans .app).trans g6, h8⟩
      · exact h3.nodup (by simp [NN]; decide)
      · exact h3.subset hx
theorem mach_ok {dr pk once : FM} (hd : DrawOk dr) (hp : pk = runB 2 (pickQ dr)) (ho : once = runB 3 onceB) {T S : Sto} (h : DSt T S) (pl : Bool) :
    Ow (runB 9 (machB dr pk once) [.loc 1, .bl pl] S) fun x => MachR (if pl then AB else ABN) (if pl then MN else NN) T x.1 x.2 := by
  have hl := h.len
  rw [ow_runB]
  unfold machB
  rw [ow_seq]
  simp [-ow_seq, lst_ok]
  rw [ow_seq]
  cases pl with
  | true =>
    simp [-ow_seq, lst_ok]
    rw [ow_seq]
    simp [-ow_seq, lst_ok]
    rw [ow_seq]
    simp [-ow_seq, lst_ok]
    have h4 := h.app [.lst NN, .lst MN, .lst AB, .lst []]
    rw [hl]
    refine (mach1_ok (T0 := T) (a := T.length) (b := T.length + 1) (c := T.length + 2) (e := T.length + 3) hd hp ho .app h4 (sy := AB) (tg := MN) (by simp) ?_ ?_ ?_ (by omega) (by simp) (by simp) (fun d hd => ab_th hd) (fun d hd => nn_th (by simp at hd ⊢; rcases hd with rfl | rfl <;> simp)) (by simp) (by simp)).imp ?_
    · rw [List.getElem?_append_right (by omega), show T.length + 1 - T.length = 1 by omega]; rfl
    · rw [List.getElem?_append_right (by omega), show T.length + 2 - T.length = 2 by omega]; rfl
    · rw [List.getElem?_append_right (by omega), show T.length + 3 - T.length = 3 by omega]; rfl
    · rintro ⟨fl, env, S2⟩ ⟨d, rfl, h5⟩
      exact h5
  | false =>
    simp [-ow_seq, lst_ok]
    rw [ow_seq]
    simp [-ow_seq, lst_ok]
    rw [ow_seq]
    simp [-ow_seq, lst_ok]
    have h4 := h.app [.lst NN, .lst ABN, .lst []]
    rw [hl]
    refine (mach1_ok (T0 := T) (a := T.length) (b := T.length) (c := T.length + 1) (e := T.length + 2) hd hp ho .app h4 (sy := ABN) (tg := NN) (by simp) (by simp) ?_ ?_ (by omega) (by simp) (by simp) (fun d hd => abn_th hd) (fun d hd => nn_th hd) (by simp) (by simp)).imp ?_
    · rw [List.getElem?_append_right (by omega), show T.length + 1 - T.length = 1 by omega]; rfl
    · rw [List.getElem?_append_right (by omega), show T.length + 2 - T.length = 2 by omega]; rfl
    · rintro ⟨fl, env, S2⟩ ⟨d, rfl, h5⟩
      exact h5
end DL
/-! DLzi: the laws' next, stacks, reached. -/
namespace DL
open PySem

abbrev Cf := D × List D
def encC (c : Cf) : D := .tup [c.1, .tup c.2]
def encN (x : Nat × Cf) : D := .tup [.int x.1, encC x.2]
theorem encC_inj {a b : Cf} : encC a = encC b ↔ a = b := by
  obtain ⟨a1, a2⟩ := a
  obtain ⟨b1, b2⟩ := b
  simp [encC]
/-- a configuration of things -/
def CfT (n : Nat) (c : Cf) : Prop := Th n c.1 ∧ (∀ d ∈ c.2, Th n d) ∧ c.2.length ≤ 900
theorem cf_th {n : Nat} {c : Cf} (h : CfT n c) : Th (n + 2) (encC c) := .tup (by simp) fun d hd => by
  simp at hd
  rcases hd with rfl | rfl
  · exact h.1.mono (by omega)
  · exact .tup h.2.2 h.2.1
theorem cut_head {ds : List D} : cutD ds none (some 1) = ds.take 1 := by
  unfold cutD
  have e : HT.sIx ds.length ds.length (some 1) = min 1 ds.length := HT.sIx_nat _ _ 1
  rw [e]
  simp only [HT.sIx, List.drop_zero, Nat.sub_zero]
  cases ds <;> simp
theorem cut_tail {ds : List D} : cutD ds (some 1) none = ds.drop 1 := by
  unfold cutD
  have e : HT.sIx ds.length 0 (some 1) = min 1 ds.length := HT.sIx_nat _ _ 1
  rw [e]
  simp only [HT.sIx]
  cases ds with
  | nil => rfl
  | cons a l => simp
@[simp] theorem sl_tup {ds : List D} {i j : Option Int} {S : Sto} : slP (.tup ds) i j S = some (.tup (cutD ds i j), S) := rfl
/-- the steps of a configuration, with the rules' numbers below j -/
def NextOf (R : List Rl) (j : Nat) (c : Cf) (Ns : List (Nat × Cf)) : Prop := Ns.length ≤ j ∧ ∀ x, x ∈ Ns ↔ x.1 < j ∧ ∃ r, R[x.1]? = some r ∧ ∃ rest, r.p = c.1 ∧ c.2 = r.s :: rest ∧ x.2 = (r.q, r.w ++ rest)
noncomputable def nextB : SM := (sSeq (sAsg (mL lstP lNil) (gVar 2)) (sSeq (sFor (iRng1M (mL lenQ (lCons (mVar 0) lNil))) (gVar 3) (sSeq (sAsg (m2 ixQ (mVar 0) (mVar 3)) (gTupD 5 (gsCons (gVar 4) (gsCons (gVar 5) (gsCons (gVar 6) (gsCons (gVar 7) (gsCons (gVar 8) gsNil))))))) (sIf (bAnd (bV (m2 eqP (m2 ixQ (mVar 1) (mC (.int 0))) (mVar 4))) (bV (m2 eqP (mSl slP (m2 ixQ (mVar 1) (mC (.int 1))) oNone (oSome (mC (.int 1)))) (mL tupP (lCons (mVar 5) lNil))))) (sExpr (mM "list" appP (mVar 2) (lCons (mL tupP (lCons (mVar 3) (lCons (mL tupP (lCons (mVar 6) (lCons (m2 addP (mVar 7) (mSl slP (m2 ixQ (mVar 1) (mC (.int 1))) (oSome (mC (.int 1))) oNone)) lNil))) lNil))) lNil))) sNext))) (sRet (mVar 2))))
theorem next_ok {R : List Rl} {c : Cf} {S : Sto} (tR : RlT R) (lR : R.length ≤ 100) (tc : CfT 3 c) :
    Ow (runB 9 nextB [.tup (R.map encR), encC c] S) fun x => Gr S x.2 ∧ ∃ (l : Nat) (Ns : List (Nat × Cf)), x.1 = .loc l ∧ S.length ≤ l ∧ x.2[l]? = some (.lst (Ns.map encN)) ∧ NextOf R R.length c Ns := by
  rw [ow_runB]
  unfold nextB
  rw [ow_seq]
  simp [-ow_seq, lst_ok]
  rw [ow_seq, ow_for]
  simp [-ow_seq]
  refine ⟨by omega, ?_⟩
  refine (forR_inv (n := R.length) (fun j env S1 => ∃ o3 o4 o5 o6 o7 o8 Ns, env = [some (.tup (R.map encR)), some (encC c), some (.loc S.length), o3, o4, o5, o6, o7, o8] ∧ Gr S S1 ∧ S1[S.length]? = some (.lst (Ns.map encN)) ∧ NextOf R j c Ns)
    (fun x => x.1 = .nx ∧ ∃ o3 o4 o5 o6 o7 o8 Ns, x.2.1 = [some (.tup (R.map encR)), some (encC c), some (.loc S.length), o3, o4, o5, o6, o7, o8] ∧ Gr S x.2.2 ∧ x.2.2[S.length]? = some (.lst (Ns.map encN)) ∧ NextOf R R.length c Ns)
    (fun env S1 ⟨o3, o4, o5, o6, o7, o8, Ns, hh⟩ => ⟨rfl, o3, o4, o5, o6, o7, o8, Ns, hh⟩) (fun j env S1 hj ⟨o3, o4, o5, o6, o7, o8, Ns, e, g, h1, h2⟩ => ?step) ⟨none, none, none, none, none, none, [], rfl, .app, get_snoc, Nat.le_refl _, fun x => by simp⟩).imp ?imp
  case step =>
    subst e
    obtain ⟨r, hr⟩ : ∃ r, R[j]? = some r := ⟨R[j], List.getElem?_eq_getElem hj⟩
    obtain ⟨t1, t2, t3, t4, t5⟩ := tR r (List.mem_of_getElem? hr)
    have hix : ixQ (.tup (R.map encR)) (.int (0 + (j : Int))) S1 = some (encR r, S1) := ix_tup (by omega) (by rw [show ((0 : Int) + (j : Int)).toNat = j by omega]; simp [hr])
    have tk : Th 4 (.tup (c.2.take 1)) := .tup (by simp; omega) fun d hd => tc.2.1 d (List.mem_of_mem_take hd)
    have ts : Th 4 (.tup [r.s]) := .tup (by simp) fun d hd => by rw [List.mem_singleton.mp hd]; exact t2
    rw [ow_gVar, ow_seq]
    simp [-ow_seq]
    simp only [Int.zero_add] at hix
    rw [hix]
    simp [encR, encC, eq_th tc.1 t1 (by omega) (by omega)]
    have skip : (¬ (r.p = c.1 ∧ ∃ rest, c.2 = r.s :: rest)) → NextOf R (j + 1) c Ns := fun hn => ⟨by have := h2.1; omega, fun x => by
      rw [h2.2]
      constructor
      · rintro ⟨a, b⟩
        exact ⟨by omega, b⟩
      · rintro ⟨a, r', b1, rest, b2, b3, b4⟩
        refine ⟨?_, r', b1, rest, b2, b3, b4⟩
        rcases Nat.lt_or_ge x.1 j with z | z
        · exact z
        · have e : x.1 = j := by omega
          rw [e, hr] at b1
          cases b1
          exact absurd ⟨b2, rest, b3⟩ hn⟩
    by_cases c1 : c.1 = r.p
    · simp [c1, tup_ok, cut_head, eq_th tk ts (by omega) (by omega)]
      by_cases c2 : c.2.take 1 = [r.s]
      · obtain ⟨rest, hrest⟩ : ∃ rest, c.2 = r.s :: rest := by
          cases hc : c.2 with
          | nil => rw [hc] at c2; simp at c2
          | cons a l => rw [hc] at c2; simp at c2; exact ⟨l, by rw [c2]⟩
        have l2 := tc.2.2
        rw [hrest] at l2
        simp at l2
        have lw : r.w.length + rest.length ≤ sizeLine := fits (by omega)
        simp [c2, ty_lst h1, cut_tail, hrest, lw, tup_ok, app_lst h1 (show (Ns.map encN).length ≤ 1000000 by have := h2.1; simp; omega)]
        refine ⟨g.set (Nat.le_refl _), Ns ++ [(j, r.q, r.w ++ rest)], by rw [get_set h1]; simp [encN, encC], by have := h2.1; simp; omega, fun x => ?_⟩
        rw [List.mem_append, h2.2, List.mem_singleton]
        constructor
        · rintro (⟨a, b⟩ | rfl)
          · exact ⟨by omega, b⟩
          · exact ⟨by simp, r, hr, rest, c1.symm, hrest, rfl⟩
        · rintro ⟨a, r', b1, rest', b2, b3, b4⟩
          rcases Nat.lt_or_ge x.1 j with z | z
          · exact .inl ⟨z, r', b1, rest', b2, b3, b4⟩
          · have e : x.1 = j := by omega
            rw [e, hr] at b1
            cases b1
            rw [hrest] at b3
            cases b3
            exact .inr (Prod.ext e b4)
      · simp [c2]
        exact ⟨g, Ns, h1, skip fun ⟨_, rest, h⟩ => c2 (by rw [h]; simp)⟩
    · simp [c1]
      exact ⟨g, Ns, h1, skip fun ⟨h, _⟩ => c1 h.symm⟩
  case imp =>
    rintro ⟨fl, env, S1⟩ ⟨rfl, o3, o4, o5, o6, o7, o8, Ns, rfl, g, h1, h2⟩
    simp
    exact ⟨g, Ns, h1, h2⟩
end DL
/-! DLzj: the laws' stacks; reached. -/
namespace DL
open PySem

def lvl : Nat → List (List D)
  | 0 => [[]]
  | n + 1 => (lvl n).map (· ++ [.str "a"]) ++ (lvl n).map (· ++ [.str "b"])
def stk : Nat → List (List D)
  | 0 => [[]]
  | n + 1 => stk n ++ lvl (n + 1)
theorem lvl_len : ∀ n, (lvl n).length = 2 ^ n
  | 0 => rfl
  | n + 1 => by simp [lvl, lvl_len n, Nat.pow_succ]; omega
theorem stk_len : ∀ n, (stk n).length + 1 = 2 ^ (n + 1)
  | 0 => rfl
  | n + 1 => by
    have := stk_len n
    simp only [stk, List.length_append, lvl_len]
    rw [Nat.pow_succ 2 (n + 1)]
    omega
theorem mem_lvl : ∀ {n : Nat} {st : List D}, st ∈ lvl n → st.length = n ∧ ∀ d ∈ st, d ∈ AB
  | 0, st, h => by simp [lvl] at h; subst h; simp
  | n + 1, st, h => by
    simp only [lvl, List.mem_append, List.mem_map] at h
    rcases h with ⟨u, hu, rfl⟩ | ⟨u, hu, rfl⟩
    all_goals
      obtain ⟨h1, h2⟩ := mem_lvl hu
      refine ⟨by simp [h1], fun d hd => ?_⟩
      rcases List.mem_append.mp hd with hd | hd
      · exact h2 d hd
      · rw [List.mem_singleton.mp hd]; simp
theorem mem_stk : ∀ {n : Nat} {st : List D}, st ∈ stk n → st.length ≤ n ∧ ∀ d ∈ st, d ∈ AB
  | 0, st, h => by simp [stk] at h; subst h; simp
  | n + 1, st, h => by
    rcases List.mem_append.mp h with h | h
    · have := mem_stk h
      exact ⟨by omega, this.2⟩
    · have := mem_lvl h
      exact ⟨by omega, this.2⟩
theorem add_lst {m n : Nat} {xs ys : List D} {S : Sto} (h1 : S[m]? = some (.lst xs)) (h2 : S[n]? = some (.lst ys)) (hz : xs.length + ys.length ≤ 1000000) : addP (.loc m) (.loc n) S = some (.loc S.length, S ++ [.lst (xs ++ ys)]) := by
  simp only [addP, h1, h2]
  rw [if_pos (fitsM hz)]
noncomputable def stacksB : SM := (sSeq (sAsg (mL lstP (lCons (mL tupP lNil) lNil)) (gVar 1)) (sSeq (sAsg (mL lstP (lCons (mL tupP lNil) lNil)) (gVar 2)) (sSeq (sFor (iRng1M (mVar 0)) (gVar 3) (sSeq (sAsg (m2 addP (mLc (iSeq (mVar 2)) [4] (.nm 4) bYes (m2 addP (mVar 4) (mL tupP (lCons (mC (.str "a")) lNil)))) (mLc (iSeq (mVar 2)) [4] (.nm 4) bYes (m2 addP (mVar 4) (mL tupP (lCons (mC (.str "b")) lNil))))) (gVar 2)) (sExpr (mM "list" extP (mVar 1) (lCons (mVar 2) lNil))))) (sRet (mVar 1)))))
theorem app_ok {d1 d2 : Option D} {o0 o3 o4 : Option D} {l : Nat} {S : Sto} {Ws : List (List D)} {x : D} (hl : S[l]? = some (.lst (Ws.map .tup))) (h1 : Ws.length ≤ 10000) (h2 : ∀ w ∈ Ws, w.length ≤ 100) :
    Ow (lcL (.seq (.loc l)) [4] (.nm 4) bYes (m2 addP (mVar 4) (mL tupP (lCons (mC x) lNil))) [o0, d1, d2, o3, o4] 0 [] S) fun r => r.1 = (Ws.map (· ++ [x])).map .tup ∧ Gr S r.2 := by
  refine (lcG (seq_loc hl) (by simp; omega) (fun _ => true) (fun d => match d with | .tup w => .tup (w ++ [x]) | _ => .non) (fun y hy => ?_)).imp ?_
  · obtain ⟨w, hw, rfl⟩ := List.mem_map.mp hy
    refine ⟨_, rfl, fun S1 g => ?_⟩
    have := h2 w hw
    have lw : w.length + 1 ≤ sizeLine := fits (by omega)
    simp [bYes, wipeD, tup_ok, lw, Gr.refl]
  · rintro ⟨r, S1⟩ ⟨rfl, g⟩
    refine ⟨?_, g⟩
    rw [filter_yes, List.map_map, List.map_map]
    rfl
theorem stacks_ok {S : Sto} {n : Nat} (hn : n ≤ 10) : Ow (runB 5 stacksB [.int n] S) fun x => Gr S x.2 ∧ ∃ l : Nat, x.1 = .loc l ∧ S.length ≤ l ∧ x.2[l]? = some (.lst ((stk n).map .tup)) := by
  have p10 : ∀ {k : Nat}, k ≤ 11 → 2 ^ k ≤ 2048 := fun {k} hk => Nat.pow_le_pow_right (by omega) hk
  rw [ow_runB]
  unfold stacksB
  rw [ow_seq]
  simp [-ow_seq, lst_ok, tup_ok]
  rw [ow_seq]
  simp [-ow_seq, lst_ok, tup_ok]
  rw [ow_seq, ow_for]
  simp [-ow_seq]
  refine ⟨by omega, ?_⟩
  refine (forR_inv (n := n) (fun j env S1 => ∃ l o3 o4, env = [some (.int n), some (.loc S.length), some (.loc l), o3, o4] ∧ Gr S S1 ∧ S.length < l ∧ S1[S.length]? = some (.lst ((stk j).map .tup)) ∧ S1[l]? = some (.lst ((lvl j).map .tup)))
    (fun x => x.1 = .nx ∧ ∃ l o3 o4, x.2.1 = [some (.int n), some (.loc S.length), some (.loc l), o3, o4] ∧ Gr S x.2.2 ∧ x.2.2[S.length]? = some (.lst ((stk n).map .tup)))
    (fun env S1 ⟨l, o3, o4, e, g, h1, h2, h3⟩ => ⟨rfl, l, o3, o4, e, g, h2⟩) (fun j env S1 hj ⟨l, o3, o4, e, g, h1, h2, h3⟩ => ?step) ⟨S.length + 1, none, none, rfl, ⟨[.lst [.tup []], .lst [.tup []]], rfl⟩, by omega, by simp [stk], ?_⟩).imp ?imp
  case step =>
    subst e
    have lj : (lvl j).length ≤ 2048 := by rw [lvl_len]; exact p10 (by omega)
    have lj1 : (lvl (j + 1)).length ≤ 2048 := by rw [lvl_len]; exact p10 (by omega)
    have sj : (stk j).length ≤ 2048 := by
      have := stk_len j
      have := p10 (show j + 1 ≤ 11 by omega)
      omega
    have wj : ∀ w ∈ lvl j, w.length ≤ 100 := fun w hw => by have := (mem_lvl hw).1; omega
    rw [ow_gVar, ow_seq]
    simp [-ow_seq, ow_lc, seq_loc h3]
    refine (app_ok h3 (by omega) wj).imp ?_
    rintro ⟨r, S2⟩ ⟨rfl, g2⟩
    dsimp only at *
    have q3 : (S2 ++ [Ob.lst (((lvl j).map (· ++ [.str "a"])).map .tup)])[l]? = some (.lst ((lvl j).map .tup)) := get_app (g2.get h3)
    refine ⟨by have := seq_loc q3; simp only [List.map_map] at this ⊢; rw [this]; rfl, (app_ok q3 (by omega) wj).imp ?_⟩
    rintro ⟨r, S3⟩ ⟨rfl, g3⟩
    dsimp only at *
    have q4 : (S3 ++ [Ob.lst (((lvl j).map (· ++ [.str "b"])).map .tup)])[S2.length]? = some (.lst (((lvl j).map (· ++ [.str "a"])).map .tup)) := get_app (g3.get get_snoc)
    rw [add_lst q4 get_snoc (by simp; omega)]
    simp only [ow_some]
    generalize hS4 : S3 ++ [Ob.lst (((lvl j).map (· ++ [.str "b"])).map .tup)] = S4
    have g4 : Gr S1 S4 := by rw [← hS4]; exact ((g2.trans .app).trans g3).trans .app
    rw [← List.map_append, show (lvl j).map (· ++ [.str "a"]) ++ (lvl j).map (· ++ [.str "b"]) = lvl (j + 1) from rfl]
    have q5 : (S4 ++ [Ob.lst ((lvl (j + 1)).map .tup)])[S.length]? = some (.lst ((stk j).map .tup)) := get_app (g4.get h2)
    simp only [ty_lst q5, true_and]
    rw [ext_lst q5 get_snoc (by simp; omega)]
    simp only [ow_some]
    have hne : S.length < S4.length := by
      have := (List.getElem?_eq_some_iff.mp h2).1
      have := g4.len
      omega
    refine ⟨S4.length, rfl, ((g.trans g4).trans .app).set (Nat.le_refl _), hne, ?_, ?_⟩
    · rw [get_set q5, ← List.map_append]
      rfl
    · rw [get_set_ne (by omega)]
      exact get_snoc
  case imp =>
    rintro ⟨fl, env, S1⟩ ⟨rfl, l, o3, o4, rfl, g, h2⟩
    simp
    exact ⟨g, h2⟩
  · rw [List.getElem?_append_right (by omega), show S.length + 1 - S.length = 1 by omega]
    rfl
end DL
namespace DL
namespace k12
open PySem PySem.Spec L2
open PyProof.Rows hiding St
abbrev prg : Program := PySem.Challenge.pw_calltowers_k12_truth_on_round_runs
abbrev st0 : Stmt := topOf prg 4
abbrev nm0 : List Str := ["text", "letter"]
abbrev ps0 : List Str := ["text"]
theorem sc0 : FnScope nm0 ps0 (defScope st0) := ⟨rfl, rfl, rfl, by decide +kernel, rfl, by decide +kernel, by decide +kernel⟩
abbrev st1 : Stmt := topOf prg 11
abbrev nm1 : List Str := ["thing", "deep", "size", "part"]
abbrev ps1 : List Str := ["thing", "deep"]
theorem sc1 : FnScope nm1 ps1 (defScope st1) := ⟨rfl, rfl, rfl, by decide +kernel, rfl, by decide +kernel, by decide +kernel⟩
abbrev st2 : Stmt := topOf prg 12
abbrev nm2 : List Str := ["thing"]
abbrev ps2 : List Str := ["thing"]
theorem sc2 : FnScope nm2 ps2 (defScope st2) := ⟨rfl, rfl, rfl, by decide +kernel, rfl, by decide +kernel, by decide +kernel⟩
abbrev st3 : Stmt := topOf prg 13
abbrev nm3 : List Str := ["promise", "found", "part", "inner"]
abbrev ps3 : List Str := ["promise"]
theorem sc3 : FnScope nm3 ps3 (defScope st3) := ⟨rfl, rfl, rfl, by decide +kernel, rfl, by decide +kernel, by decide +kernel⟩
abbrev st4 : Stmt := topOf prg 14
abbrev nm4 : List Str := ["thing"]
abbrev ps4 : List Str := ["thing"]
theorem sc4 : FnScope nm4 ps4 (defScope st4) := ⟨rfl, rfl, rfl, by decide +kernel, rfl, by decide +kernel, by decide +kernel⟩
abbrev st5 : Stmt := topOf prg 15
abbrev nm5 : List Str := ["promise", "mark", "_", "kind", "name"]
abbrev ps5 : List Str := ["promise", "mark"]
theorem sc5 : FnScope nm5 ps5 (defScope st5) := ⟨rfl, rfl, rfl, by decide +kernel, rfl, by decide +kernel, by decide +kernel⟩
abbrev st6 : Stmt := inClass (topOf prg 16) 0
abbrev nm6 : List Str := ["self", "begin", "around", "open_calls", "i", "mark"]
abbrev ps6 : List Str := ["self", "begin", "around"]
theorem sc6 : FnScope nm6 ps6 (defScope st6) := ⟨rfl, rfl, rfl, by decide +kernel, rfl, by decide +kernel, by decide +kernel⟩
abbrev st7 : Stmt := inClass (topOf prg 16) 1
abbrev nm7 : List Str := ["self", "i"]
abbrev ps7 : List Str := ["self", "i"]
theorem sc7 : FnScope nm7 ps7 (defScope st7) := ⟨rfl, rfl, rfl, by decide +kernel, rfl, by decide +kernel, by decide +kernel⟩
abbrev st8 : Stmt := inClass (topOf prg 16) 2
abbrev nm8 : List Str := ["self", "i", "after"]
abbrev ps8 : List Str := ["self", "i"]
theorem sc8 : FnScope nm8 ps8 (defScope st8) := ⟨rfl, rfl, rfl, by decide +kernel, rfl, by decide +kernel, by decide +kernel⟩
abbrev st9 : Stmt := inClass (topOf prg 16) 3
abbrev nm9 : List Str := ["self", "promise"]
abbrev ps9 : List Str := ["self", "promise"]
theorem sc9 : FnScope nm9 ps9 (defScope st9) := ⟨rfl, rfl, rfl, by decide +kernel, rfl, by decide +kernel, by decide +kernel⟩
abbrev st10 : Stmt := inClass (topOf prg 16) 4
abbrev nm10 : List Str := ["self", "promise", "kind", "steps", "told", "after", "_", "i", "part"]
abbrev ps10 : List Str := ["self", "promise"]
theorem sc10 : FnScope nm10 ps10 (defScope st10) := ⟨rfl, rfl, rfl, by decide +kernel, rfl, by decide +kernel, by decide +kernel⟩
abbrev st11 : Stmt := topOf prg 17
abbrev nm11 : List Str := ["first", "second", "after", "truths", "changed", "i"]
abbrev ps11 : List Str := ["first", "second", "after"]
theorem sc11 : FnScope nm11 ps11 (defScope st11) := ⟨rfl, rfl, rfl, by decide +kernel, rfl, by decide +kernel, by decide +kernel⟩
abbrev st12 : Stmt := topOf prg 18
abbrev nm12 : List Str := ["promise", "begin", "around", "i"]
abbrev ps12 : List Str := ["promise", "begin", "around", "i"]
theorem sc12 : FnScope nm12 ps12 (defScope st12) := ⟨rfl, rfl, rfl, by decide +kernel, rfl, by decide +kernel, by decide +kernel⟩
abbrev st13 : Stmt := topOf prg 20
abbrev nm13 : List Str := ["_law_script", "_law_cell"]
abbrev ps13 : List Str := ["_law_script"]
theorem sc13 : FnScope nm13 ps13 (defScope st13) := ⟨rfl, rfl, rfl, by decide +kernel, rfl, by decide +kernel, by decide +kernel⟩
abbrev st14 : Stmt := topOf prg 21
abbrev nm14 : List Str := ["_law_state", "_law_bound", "_law_cell", "_law_number"]
abbrev ps14 : List Str := ["_law_state", "_law_bound"]
theorem sc14 : FnScope nm14 ps14 (defScope st14) := ⟨rfl, rfl, rfl, by decide +kernel, rfl, by decide +kernel, by decide +kernel⟩
abbrev st15 : Stmt := topOf prg 22
abbrev nm15 : List Str := ["_law_state", "_law_things"]
abbrev ps15 : List Str := ["_law_state", "_law_things"]
theorem sc15 : FnScope nm15 ps15 (defScope st15) := ⟨rfl, rfl, rfl, by decide +kernel, rfl, by decide +kernel, by decide +kernel⟩
abbrev st16 : Stmt := topOf prg 24
abbrev nm16 : List Str := ["_law_actual", "_law_due"]
abbrev ps16 : List Str := ["_law_actual", "_law_due"]
theorem sc16 : FnScope nm16 ps16 (defScope st16) := ⟨rfl, rfl, rfl, by decide +kernel, rfl, by decide +kernel, by decide +kernel⟩
abbrev st17 : Stmt := topOf prg 25
abbrev nm17 : List Str := ["_law_things", "_law_kept", "_law_thing"]
abbrev ps17 : List Str := ["_law_things"]
theorem sc17 : FnScope nm17 ps17 (defScope st17) := ⟨rfl, rfl, rfl, by decide +kernel, rfl, by decide +kernel, by decide +kernel⟩
abbrev st18 : Stmt := topOf prg 26
abbrev nm18 : List Str := ["_law_state", "_law_deep", "_law_kind", "_law_kinds", "_law_word"]
abbrev ps18 : List Str := ["_law_state", "_law_deep"]
theorem sc18 : FnScope nm18 ps18 (defScope st18) := ⟨rfl, rfl, rfl, by decide +kernel, rfl, by decide +kernel, by decide +kernel⟩
abbrev st19 : Stmt := topOf prg 27
abbrev nm19 : List Str := ["_law_begin", "_law_around", "_law_matches_here", "_law_part", "_law_waiting", "_law_k"]
abbrev ps19 : List Str := ["_law_begin", "_law_around"]
theorem sc19 : FnScope nm19 ps19 (defScope st19) := ⟨rfl, rfl, rfl, by decide +kernel, rfl, by decide +kernel, by decide +kernel⟩
abbrev st20 : Stmt := topOf prg 28
abbrev nm20 : List Str := ["_law_marks", "_law_begin", "_law_i"]
abbrev ps20 : List Str := ["_law_marks", "_law_begin", "_law_i"]
theorem sc20 : FnScope nm20 ps20 (defScope st20) := ⟨rfl, rfl, rfl, by decide +kernel, rfl, by decide +kernel, by decide +kernel⟩
abbrev st21 : Stmt := topOf prg 29
abbrev nm21 : List Str := ["_law_marks", "_law_begin", "_law_matches_here", "_law_i", "_law_after"]
abbrev ps21 : List Str := ["_law_marks", "_law_begin", "_law_matches_here", "_law_i"]
theorem sc21 : FnScope nm21 ps21 (defScope st21) := ⟨rfl, rfl, rfl, by decide +kernel, rfl, by decide +kernel, by decide +kernel⟩
abbrev st22 : Stmt := topOf prg 30
abbrev nm22 : List Str := ["_law_promise_here", "_law_begin", "_law_around", "_law_marks", "_law_matches_here", "_law_told", "_law_found", "_law_i", "_law_at", "_law_is_true", "_law_turn", "_law_after", "_law_mark", "_law_part"]
abbrev ps22 : List Str := ["_law_promise_here", "_law_begin", "_law_around"]
theorem sc22 : FnScope nm22 ps22 (defScope st22) := ⟨rfl, rfl, rfl, by decide +kernel, rfl, by decide +kernel, by decide +kernel⟩
abbrev st23 : Stmt := topOf prg 31
abbrev nm23 : List Str := ["_law_word", "_law_good_here", "_law_sign"]
abbrev ps23 : List Str := ["_law_word"]
theorem sc23 : FnScope nm23 ps23 (defScope st23) := ⟨rfl, rfl, rfl, by decide +kernel, rfl, by decide +kernel, by decide +kernel⟩
abbrev st24 : Stmt := topOf prg 32
abbrev nm24 : List Str := ["_law_thing", "_law_deep", "_law_sizes", "_law_part"]
abbrev ps24 : List Str := ["_law_thing", "_law_deep"]
theorem sc24 : FnScope nm24 ps24 (defScope st24) := ⟨rfl, rfl, rfl, by decide +kernel, rfl, by decide +kernel, by decide +kernel⟩
abbrev st25 : Stmt := topOf prg 33
abbrev nm25 : List Str := ["_law_thing", "_law_found", "_law_part"]
abbrev ps25 : List Str := ["_law_thing"]
theorem sc25 : FnScope nm25 ps25 (defScope st25) := ⟨rfl, rfl, rfl, by decide +kernel, rfl, by decide +kernel, by decide +kernel⟩
abbrev st26 : Stmt := topOf prg 34
abbrev nm26 : List Str := ["_law_state", "_law_promise_here", "_law_kind", "_law_k"]
abbrev ps26 : List Str := ["_law_state", "_law_promise_here"]
theorem sc26 : FnScope nm26 ps26 (defScope st26) := ⟨rfl, rfl, rfl, by decide +kernel, rfl, by decide +kernel, by decide +kernel⟩
abbrev st27 : Stmt := topOf prg 35
abbrev nm27 : List Str := ["_law_script", "_law_state", "_law_promise_here", "_law_due", "_law_marks", "_law_begin", "_law_around", "_law_truths_here", "_law_k", "_law_i"]
abbrev ps27 : List Str := ["_law_script"]
theorem sc27 : FnScope nm27 ps27 (defScope st27) := ⟨rfl, rfl, rfl, by decide +kernel, rfl, by decide +kernel, by decide +kernel⟩
abbrev stN : Nat → Stmt
  | 0 => st0
  | 1 => st1
  | 2 => st2
  | 3 => st3
  | 4 => st4
  | 5 => st5
  | 6 => st6
  | 7 => st7
  | 8 => st8
  | 9 => st9
  | 10 => st10
  | 11 => st11
  | 12 => st12
  | 13 => st13
  | 14 => st14
  | 15 => st15
  | 16 => st16
  | 17 => st17
  | 18 => st18
  | 19 => st19
  | 20 => st20
  | 21 => st21
  | 22 => st22
  | 23 => st23
  | 24 => st24
  | 25 => st25
  | 26 => st26
  | 27 => st27
  | _ => st0
abbrev psN : Nat → List Str
  | 0 => ps0
  | 1 => ps1
  | 2 => ps2
  | 3 => ps3
  | 4 => ps4
  | 5 => ps5
  | 6 => ps6
  | 7 => ps7
  | 8 => ps8
  | 9 => ps9
  | 10 => ps10
  | 11 => ps11
  | 12 => ps12
  | 13 => ps13
  | 14 => ps14
  | 15 => ps15
  | 16 => ps16
  | 17 => ps17
  | 18 => ps18
  | 19 => ps19
  | 20 => ps20
  | 21 => ps21
  | 22 => ps22
  | 23 => ps23
  | 24 => ps24
  | 25 => ps25
  | 26 => ps26
  | 27 => ps27
  | _ => ps0
abbrev nmN : Nat → Str
  | 0 => "is_name"
  | 1 => "is_form"
  | 2 => "is_place"
  | 3 => "parts_ahead"
  | 4 => "is_promise"
  | 5 => "is_at"
  | 6 => "__init__"
  | 7 => "following"
  | 8 => "across"
  | 9 => "truths"
  | 10 => "_find"
  | 11 => "until"
  | 12 => "holds"
  | 13 => "_law_start"
  | 14 => "_law_draw"
  | 15 => "_law_pick"
  | 16 => "_law_is"
  | 17 => "_law_once"
  | 18 => "_law_promise"
  | 19 => "_law_matches"
  | 20 => "_law_behind"
  | 21 => "_law_across"
  | 22 => "_law_truths"
  | 23 => "_law_is_name"
  | 24 => "_law_good"
  | 25 => "_law_ahead"
  | 26 => "_law_odd"
  | 27 => "law"
  | _ => "is_name"
abbrev kt0 : List (Str × D) := [("yes", (.int 0)), ("not", (.int 1)), ("next", (.int 1)), ("over", (.int 1)), ("and", (.int 2)), ("or", (.int 2)), ("until", (.int 2)), ("across", (.int 2))]
structure KTs (K : PySem.W.Frag) (w : World) (mg : Str → Option Value) : Prop where
  k0 : KtOk K w mg "SIZES" kt0
/-- is_name -/
noncomputable def bd0 (cl cl2 : Nat → FM) : SM := (sSeq (sIf (bOr (bNot (bV (mChain leP leP (mC (.int 1)) (mL lenQ (lCons (mVar 0) lNil)) (mC (.int 8))))) (bV (m2 inQ (mVar 0) (mC (.tup [(.str "and"), (.str "or"), (.str "not"), (.str "same")]))))) (sRet (mC (.bl false))) sNext) (sRet (mL allP (lCons (mLc (iTxtM (mVar 0)) [1] (.nm 1) bYes (m2 inSP (mVar 1) (mC (.str "abcdefghijklmnopqrstuvwxyz")))) lNil))))
/-- is_form -/
noncomputable def bd1 (cl cl2 : Nat → FM) : SM := (sSeq (sIf (bOr (bV (m2 eqP (mVar 1) (mC (.int 0)))) (bOr (bNot (bTru (m1 (isiP "tuple") (mVar 0)))) (bOr (bV (m2 eqP (mL lenQ (lCons (mVar 0) lNil)) (mC (.int 0)))) (bNot (bTru (m1 (isiP "str") (m2 ixQ (mVar 0) (mC (.int 0))))))))) (sRet (mC (.bl false))) sNext) (sSeq (sIf (bV (m2 eqP (m2 ixQ (mVar 0) (mC (.int 0))) (mC (.str "at")))) (sRet (mAnd (m2 eqP (mL lenQ (lCons (mVar 0) lNil)) (mC (.int 3))) (mAnd (m2 inQ (m2 ixQ (mVar 0) (mC (.int 1))) (mC (.tup [(.str "call"), (.str "back"), (.str "say"), (.str "quiet")]))) (mL (cl 2) (lCons (m2 ixQ (mVar 0) (mC (.int 2))) lNil))))) sNext) (sSeq (sAsg (mKG kt0 (lCons (m2 ixQ (mVar 0) (mC (.int 0))) (lCons (m1 negP (mC (.int 1))) lNil))) (gVar 2)) (sRet (mAnd (m2 eqP (mL lenQ (lCons (mVar 0) lNil)) (m2 addP (mVar 2) (mC (.int 1)))) (mL allP (lCons (mLc (iSeq (mSl slP (mVar 0) (oSome (mC (.int 1))) oNone)) [3] (.nm 3) bYes (mL (cl 1) (lCons (mVar 3) (lCons (m2 (intP fun i j => i - j) (mVar 1) (mC (.int 1))) lNil)))) lNil)))))))
/-- is_place -/
noncomputable def bd2 (cl cl2 : Nat → FM) : SM := (sRet (mAnd (m1 (isiP "str") (mVar 0)) (mOr (m2 eqP (mVar 0) (mC (.str ""))) (mL (cl 0) (lCons (mVar 0) lNil)))))
/-- parts_ahead -/
noncomputable def bd3 (cl cl2 : Nat → FM) : SM := (sSeq (sAsg (mL lstP lNil) (gVar 1)) (sSeq (sIf (bV (m2 notInQ (m2 ixQ (mVar 0) (mC (.int 0))) (mL tupP (lCons (mC (.str "at")) (lCons (mC (.str "yes")) lNil))))) (sFor (iSeq (mSl slP (mVar 0) (oSome (mC (.int 1))) oNone)) (gVar 2) (sExpr (mM "list" extQ (mVar 1) (lCons (mLc (iSeq (mL (cl 3) (lCons (mVar 2) lNil))) [3] (.nm 3) (bV (m2 notInQ (mVar 3) (mVar 1))) (mVar 3)) lNil)))) sNext) (sSeq (sIf (bAnd (bV (m2 inQ (m2 ixQ (mVar 0) (mC (.int 0))) (mC (.tup [(.str "next"), (.str "until"), (.str "over"), (.str "across")])))) (bV (m2 notInQ (mVar 0) (mVar 1)))) (sExpr (mM "list" appP (mVar 1) (lCons (mVar 0) lNil))) sNext) (sRet (mVar 1)))))
/-- is_promise -/
noncomputable def bd4 (cl cl2 : Nat → FM) : SM := (sRet (mAnd (mL (cl 1) (lCons (mVar 0) (lCons (mC (.int 8)) lNil))) (m2 leP (mL lenQ (lCons (mL (cl 3) (lCons (mVar 0) lNil)) lNil)) (mC (.int 6)))))
/-- is_at -/
noncomputable def bd5 (cl cl2 : Nat → FM) : SM := (sSeq (sAsg (mVar 0) (gTupD 3 (gsCons (gVar 2) (gsCons (gVar 3) (gsCons (gVar 4) gsNil))))) (sRet (mAnd (m2 eqP (m2 ixQ (mVar 1) (mC (.int 0))) (mVar 3)) (m2 inQ (mVar 4) (mL tupP (lCons (mC (.str "")) (lCons (m2 ixQ (mVar 1) (mC (.int 1))) lNil)))))))
/-- __init__ -/
noncomputable def bd6 (cl cl2 : Nat → FM) : SM := (sSeq (sFldD [0] "marks" (m2 addP (mL listQ (lCons (mVar 1) lNil)) (mL listQ (lCons (mVar 2) lNil))) (mVar 0)) (sSeq (sFldD [0] "_back" (mL lenQ (lCons (mVar 1) lNil)) (mVar 0)) (sSeq (sFldD [0] "_matches" mDNew (mVar 0)) (sSeq (sAsg (mL lstP lNil) (gVar 3)) (sSeq (sFor (iEnmM (mFld [0] "marks" (mVar 0))) (gTupD 2 (gsCons (gVar 4) (gsCons (gVar 5) gsNil))) (sSeq (sIf (bV (m2 eqP (mVar 4) (mFld [0] "_back" (mVar 0)))) (sAsg (mL lstP lNil) (gVar 3)) sNext) (sSeq (sIf (bV (m2 eqP (m2 ixQ (mVar 5) (mC (.int 0))) (mC (.str "call")))) (sExpr (mM "list" appP (mVar 3) (lCons (mVar 4) lNil))) sNext) (sIf (bAnd (bV (m2 eqP (m2 ixQ (mVar 5) (mC (.int 0))) (mC (.str "back")))) (bTru (mVar 3))) (sAsg (mVar 4) (gSubM (mFld [0] "_matches" (mVar 0)) (mM0 "list" popP (mVar 3)))) sNext)))) (sFldD [0] "_known" mDNew (mVar 0)))))))
/-- following -/
noncomputable def bd7 (cl cl2 : Nat → FM) : SM := (sRet (mIf (bV (m2 ltP (m2 addP (mVar 1) (mC (.int 1))) (mL lenQ (lCons (mFld [0] "marks" (mVar 0)) lNil)))) (m2 addP (mVar 1) (mC (.int 1))) (mFld [0] "_back" (mVar 0))))
/-- across -/
noncomputable def bd8 (cl cl2 : Nat → FM) : SM := (sSeq (sIf (bV (m2 eqP (m2 ixQ (m2 ixQ (mFld [0] "marks" (mVar 0)) (mVar 1)) (mC (.int 0))) (mC (.str "call")))) (sRet (mMG isDct getP (mFld [0] "_matches" (mVar 0)) (lCons (mVar 1) lNil))) sNext) (sSeq (sAsg (mMeth "following" [(0, 7)] cl (mVar 0) (lCons (mVar 1) lNil)) (gVar 2)) (sRet (mIf (bV (m2 eqP (m2 ixQ (m2 ixQ (mFld [0] "marks" (mVar 0)) (mVar 2)) (mC (.int 0))) (mC (.str "back")))) (mC .non) (mVar 2)))))
/-- truths -/
noncomputable def bd9 (cl cl2 : Nat → FM) : SM := (sSeq (sIf (bV (m2 notInQ (mVar 1) (mFld [0] "_known" (mVar 0)))) (sAsg (mMeth "_find" [(0, 10)] cl (mVar 0) (lCons (mVar 1) lNil)) (gSubM (mFld [0] "_known" (mVar 0)) (mVar 1))) sNext) (sRet (m2 ixQ (mFld [0] "_known" (mVar 0)) (mVar 1))))
/-- _find -/
noncomputable def bd10 (cl cl2 : Nat → FM) : SM := (sSeq (sAsg (m2 ixQ (mVar 1) (mC (.int 0))) (gVar 2)) (sSeq (sAsg (mLstRg (mL lenQ (lCons (mFld [0] "marks" (mVar 0)) lNil))) (gVar 3)) (sSeq (sIf (bV (m2 eqP (mVar 2) (mC (.str "yes")))) (sRet (mLc (iSeq (mVar 3)) [6] (.nm 6) bYes (mC (.int 1)))) sNext) (sSeq (sIf (bV (m2 eqP (mVar 2) (mC (.str "at")))) (sRet (mLc (iSeq (mVar 3)) [7] (.nm 7) bYes (mL toIntP (lCons (mL (cl 5) (lCons (mVar 1) (lCons (m2 ixQ (mFld [0] "marks" (mVar 0)) (mVar 7)) lNil))) lNil)))) sNext) (sSeq (sAsg (mLc (iSeq (mSl slP (mVar 1) (oSome (mC (.int 1))) oNone)) [8] (.nm 8) bYes (mMeth "truths" [(0, 9)] cl (mVar 0) (lCons (mVar 8) lNil))) (gVar 4)) (sSeq (sIf (bV (m2 eqP (mVar 2) (mC (.str "not")))) (sRet (mLc (iSeq (mVar 3)) [7] (.nm 7) bYes (m2 (intP fun i j => i - j) (mC (.int 1)) (m2 ixQ (m2 ixQ (mVar 4) (mC (.int 0))) (mVar 7))))) sNext) (sSeq (sIf (bV (m2 eqP (mVar 2) (mC (.str "and")))) (sRet (mLc (iSeq (mVar 3)) [7] (.nm 7) bYes (m2 mulP (m2 ixQ (m2 ixQ (mVar 4) (mC (.int 0))) (mVar 7)) (m2 ixQ (m2 ixQ (mVar 4) (mC (.int 1))) (mVar 7))))) sNext) (sSeq (sIf (bV (m2 eqP (mVar 2) (mC (.str "or")))) (sRet (mLc (iSeq (mVar 3)) [7] (.nm 7) bYes (mL max2P (lCons (m2 ixQ (m2 ixQ (mVar 4) (mC (.int 0))) (mVar 7)) (lCons (m2 ixQ (m2 ixQ (mVar 4) (mC (.int 1))) (mVar 7)) lNil))))) sNext) (sSeq (sAsg (mLc (iSeq (mVar 3)) [7] (.nm 7) bYes (mIf (bV (m2 inQ (mVar 2) (mL tupP (lCons (mC (.str "over")) (lCons (mC (.str "across")) lNil))))) (mMeth "across" [(0, 8)] cl (mVar 0) (lCons (mVar 7) lNil)) (mMeth "following" [(0, 7)] cl (mVar 0) (lCons (mVar 7) lNil)))) (gVar 5)) (sSeq (sIf (bV (m2 inQ (mVar 2) (mL tupP (lCons (mC (.str "next")) (lCons (mC (.str "over")) lNil))))) (sRet (mLc (iSeq (mVar 3)) [7] (.nm 7) bYes (mIf (bV (mIsN (m2 ixQ (mVar 5) (mVar 7)))) (mC (.int 0)) (m2 ixQ (m2 ixQ (mVar 4) (mC (.int 0))) (m2 ixQ (mVar 5) (mVar 7)))))) sNext) (sRet (mL (cl 11) (lCons (m2 ixQ (mVar 4) (mC (.int 0))) (lCons (m2 ixQ (mVar 4) (mC (.int 1))) (lCons (mVar 5) lNil)))))))))))))))
/-- until -/
noncomputable def bd11 (cl cl2 : Nat → FM) : SM := (sSeq (sAsg (mL listQ (lCons (mVar 1) lNil)) (gVar 3)) (sSeq (sAsg (mC (.bl true)) (gVar 4)) (sSeq (sWhile (bTru (mVar 4)) (sSeq (sAsg (mC (.bl false)) (gVar 4)) (sFor (iRevRgM (mL lenQ (lCons (mVar 3) lNil))) (gVar 5) (sIf (bAnd (bV (m2 eqP (m2 ixQ (mVar 3) (mVar 5)) (mC (.int 0)))) (bAnd (bV (m2 eqP (m2 ixQ (mVar 0) (mVar 5)) (mC (.int 1)))) (bAnd (bV (mNotN (m2 ixQ (mVar 2) (mVar 5)))) (bV (m2 eqP (m2 ixQ (mVar 3) (m2 ixQ (mVar 2) (mVar 5))) (mC (.int 1))))))) (sSeq (sAsg (mC (.int 1)) (gSubM (mVar 3) (mVar 5))) (sAsg (mC (.bl true)) (gVar 4))) sNext)))) (sRet (mVar 3)))))
/-- holds -/
noncomputable def bd12 (cl cl2 : Nat → FM) : SM := (sRet (m2 eqP (m2 ixQ (mMeth "truths" [(0, 9)] cl (mMake 0 (cl2 6) (lCons (mVar 1) (lCons (mVar 2) lNil))) (lCons (mVar 0) lNil)) (mVar 3)) (mC (.int 1))))
/-- _law_start -/
noncomputable def bd13 (cl cl2 : Nat → FM) : SM := (sRet (mDisp [((mC (.str "cells")), (mLc (iSeq (mVar 0)) [1] (.nm 1) bYes (mL absP (lCons (mL toIntP (lCons (mVar 1) lNil)) lNil)))), ((mC (.str "at")), (mC (.int 0))), ((mC (.str "left")), (mC (.int 0))), ((mC (.str "mix")), (m2 addP (mC (.int 7)) (mL lenQ (lCons (mVar 0) lNil))))]))
/-- _law_draw -/
noncomputable def bd14 (cl cl2 : Nat → FM) : SM := (sSeq (sIf (bAnd (bV (m2 eqP (m2 ixQ (mVar 0) (mC (.str "left"))) (mC (.int 0)))) (bV (m2 ltP (m2 ixQ (mVar 0) (mC (.str "at"))) (mL lenQ (lCons (m2 ixQ (mVar 0) (mC (.str "cells"))) lNil))))) (sSeq (sAsg (m2 ixQ (m2 ixQ (mVar 0) (mC (.str "cells"))) (m2 ixQ (mVar 0) (mC (.str "at")))) (gVar 2)) (sSeq (sAsg (m2 addP (m2 ixQ (mVar 0) (mC (.str "at"))) (mC (.int 1))) (gSubM (mVar 0) (mC (.str "at")))) (sSeq (sAsg (m2 modP (mL toIntP (lCons (m2 addP (m2 addP (m2 mulP (m2 ixQ (mVar 0) (mC (.str "mix"))) (mC (.int 48271))) (mVar 2)) (mC (.int 11))) lNil)) (mC (.int 2147483647))) (gSubM (mVar 0) (mC (.str "mix")))) (sSeq (sIf (bV (m2 ltP (mVar 2) (m2 powP (mC (.int 10)) (mC (.int 18))))) (sRet (m2 modP (mL toIntP (lCons (mVar 2) lNil)) (mVar 1))) sNext) (sAsg (mVar 2) (gSubM (mVar 0) (mC (.str "left")))))))) sNext) (sSeq (sIf (bV (m2 gtP (m2 ixQ (mVar 0) (mC (.str "left"))) (mC (.int 0)))) (sSeq (sAsg (m2 modP (mL toIntP (lCons (m2 ixQ (mVar 0) (mC (.str "left"))) lNil)) (mVar 1)) (gVar 3)) (sSeq (sAsg (m2 divP (m2 ixQ (mVar 0) (mC (.str "left"))) (mVar 1)) (gSubM (mVar 0) (mC (.str "left")))) (sRet (mVar 3)))) sNext) (sSeq (sAsg (m2 modP (mL toIntP (lCons (m2 addP (m2 mulP (m2 ixQ (mVar 0) (mC (.str "mix"))) (mC (.int 48271))) (mC (.int 11))) lNil)) (mC (.int 2147483647))) (gSubM (mVar 0) (mC (.str "mix")))) (sRet (m2 modP (mL toIntP (lCons (m2 modP (mL toIntP (lCons (m2 addP (m2 mulP (m2 ixQ (mVar 0) (mC (.str "mix"))) (mC (.int 69621))) (mC (.int 5))) lNil)) (mC (.int 2147483629))) lNil)) (mVar 1))))))
/-- _law_pick -/
noncomputable def bd15 (cl cl2 : Nat → FM) : SM := (sRet (m2 ixQ (mVar 1) (mL (cl 14) (lCons (mVar 0) (lCons (mL lenQ (lCons (mVar 1) lNil)) lNil)))))
/-- _law_is -/
noncomputable def bd16 (cl cl2 : Nat → FM) : SM := (sRet (mAnd (m1 (isiP "bool") (mVar 0)) (m2 eqP (mVar 0) (mVar 1))))
/-- _law_once -/
noncomputable def bd17 (cl cl2 : Nat → FM) : SM := (sSeq (sAsg (mL lstP lNil) (gVar 1)) (sSeq (sFor (iSeq (mVar 0)) (gVar 2) (sIf (bV (m2 notInQ (mVar 2) (mVar 1))) (sExpr (mM "list" appP (mVar 1) (lCons (mVar 2) lNil))) sNext)) (sRet (mVar 1))))
/-- _law_promise -/
noncomputable def bd18 (cl cl2 : Nat → FM) : SM := (sSeq (sAsg (mIf (bV (m2 gtP (mVar 1) (mC (.int 0)))) (mL (cl 14) (lCons (mVar 0) (lCons (mC (.int 9)) lNil))) (mC (.int 0))) (gVar 2)) (sSeq (sIf (bV (m2 ltP (mVar 2) (mC (.int 2)))) (sSeq (sAsg (mL (cl 15) (lCons (mVar 0) (lCons (mL lstP (lCons (mC (.str "call")) (lCons (mC (.str "back")) (lCons (mC (.str "say")) (lCons (mC (.str "say")) (lCons (mC (.str "quiet")) lNil)))))) lNil))) (gVar 3)) (sRet (mL (cl 15) (lCons (mVar 0) (lCons (mL lstP (lCons (mL tupP (lCons (mC (.str "at")) (lCons (mVar 3) (lCons (mL (cl 15) (lCons (mVar 0) (lCons (mL lstP (lCons (mC (.str "")) (lCons (mC (.str "p")) (lCons (mC (.str "hi")) lNil)))) lNil))) lNil)))) (lCons (mL tupP (lCons (mC (.str "at")) (lCons (mC (.str "say")) (lCons (mC (.str "hi")) lNil)))) (lCons (mL tupP (lCons (mC (.str "yes")) lNil)) lNil)))) lNil))))) sNext) (sSeq (sIf (bV (m2 inQ (mVar 2) (mL lstP (lCons (mC (.int 2)) (lCons (mC (.int 3)) lNil))))) (sRet (mL tupP (lCons (mL (cl 15) (lCons (mVar 0) (lCons (mL lstP (lCons (mC (.str "not")) (lCons (mC (.str "next")) (lCons (mC (.str "over")) lNil)))) lNil))) (lCons (mL (cl 18) (lCons (mVar 0) (lCons (m2 (intP fun i j => i - j) (mVar 1) (mC (.int 1))) lNil))) lNil)))) sNext) (sSeq (sAsg (mL (cl 15) (lCons (mVar 0) (lCons (mL lstP (lCons (mC (.str "and")) (lCons (mC (.str "or")) (lCons (mC (.str "until")) (lCons (mC (.str "across")) (lCons (mC (.str "until")) (lCons (mC (.str "across")) lNil))))))) lNil))) (gVar 4)) (sRet (mL tupP (lCons (mVar 4) (lCons (mL (cl 18) (lCons (mVar 0) (lCons (m2 (intP fun i j => i - j) (mVar 1) (mC (.int 1))) lNil))) (lCons (mL (cl 18) (lCons (mVar 0) (lCons (m2 (intP fun i j => i - j) (mVar 1) (mC (.int 1))) lNil))) lNil)))))))))
/-- _law_matches -/
noncomputable def bd19 (cl cl2 : Nat → FM) : SM := (sSeq (sAsg mDNew (gVar 2)) (sSeq (sFor (iSeq (mL lstP (lCons (mL tupP (lCons (mC (.int 0)) (lCons (mVar 0) lNil))) (lCons (mL tupP (lCons (mL lenQ (lCons (mVar 0) lNil)) (lCons (mVar 1) lNil))) lNil)))) (gVar 3) (sSeq (sAsg (mL lstP lNil) (gVar 4)) (sFor (iRng1M (mL lenQ (lCons (m2 ixQ (mVar 3) (mC (.int 1))) lNil))) (gVar 5) (sSeq (sIf (bV (m2 eqP (m2 ixQ (m2 ixQ (m2 ixQ (mVar 3) (mC (.int 1))) (mVar 5)) (mC (.int 0))) (mC (.str "call")))) (sExpr (mM "list" appP (mVar 4) (lCons (m2 addP (m2 ixQ (mVar 3) (mC (.int 0))) (mVar 5)) lNil))) sNext) (sIf (bAnd (bV (m2 eqP (m2 ixQ (m2 ixQ (m2 ixQ (mVar 3) (mC (.int 1))) (mVar 5)) (mC (.int 0))) (mC (.str "back")))) (bV (m2 gtP (mL lenQ (lCons (mVar 4) lNil)) (mC (.int 0))))) (sAsg (m2 addP (m2 ixQ (mVar 3) (mC (.int 0))) (mVar 5)) (gSubM (mVar 2) (mM0 "list" popP (mVar 4)))) sNext))))) (sRet (mVar 2))))
/-- _law_behind -/
noncomputable def bd20 (cl cl2 : Nat → FM) : SM := (sRet (mIf (bV (m2 ltP (m2 addP (mVar 2) (mC (.int 1))) (mL lenQ (lCons (mVar 0) lNil)))) (m2 addP (mVar 2) (mC (.int 1))) (mL lenQ (lCons (mVar 1) lNil))))
/-- _law_across -/
noncomputable def bd21 (cl cl2 : Nat → FM) : SM := (sSeq (sIf (bV (m2 eqP (m2 ixQ (m2 ixQ (mVar 0) (mVar 3)) (mC (.int 0))) (mC (.str "call")))) (sRet (mMG isDct getP (mVar 2) (lCons (mVar 3) lNil))) sNext) (sSeq (sAsg (mL (cl 20) (lCons (mVar 0) (lCons (mVar 1) (lCons (mVar 3) lNil)))) (gVar 4)) (sRet (mIf (bV (m2 eqP (m2 ixQ (m2 ixQ (mVar 0) (mVar 4)) (mC (.int 0))) (mC (.str "back")))) (mC .non) (mVar 4)))))
/-- _law_truths -/
noncomputable def bd22 (cl cl2 : Nat → FM) : SM := (sSeq (sAsg (m2 addP (mL listQ (lCons (mVar 1) lNil)) (mL listQ (lCons (mVar 2) lNil))) (gVar 3)) (sSeq (sAsg (mL (cl 19) (lCons (mVar 1) (lCons (mVar 2) lNil))) (gVar 4)) (sSeq (sIf (bV (m2 eqP (m2 ixQ (mVar 0) (mC (.int 0))) (mC (.str "yes")))) (sRet (mLc (iSeq (mVar 3)) [12] (.nm 12) bYes (mC (.bl true)))) sNext) (sSeq (sIf (bV (m2 eqP (m2 ixQ (mVar 0) (mC (.int 0))) (mC (.str "at")))) (sRet (mLc (iSeq (mVar 3)) [12] (.nm 12) bYes (mAnd (m2 eqP (m2 ixQ (mVar 12) (mC (.int 0))) (m2 ixQ (mVar 0) (mC (.int 1)))) (m2 inQ (m2 ixQ (mVar 0) (mC (.int 2))) (mL lstP (lCons (mC (.str "")) (lCons (m2 ixQ (mVar 12) (mC (.int 1))) lNil))))))) sNext) (sSeq (sAsg (mLc (iSeq (mSl slP (mVar 0) (oSome (mC (.int 1))) oNone)) [13] (.nm 13) bYes (mL (cl 22) (lCons (mVar 13) (lCons (mVar 1) (lCons (mVar 2) lNil))))) (gVar 5)) (sSeq (sIf (bV (m2 eqP (m2 ixQ (mVar 0) (mC (.int 0))) (mC (.str "not")))) (sRet (mLc (iRng1M (mL lenQ (lCons (mVar 3) lNil))) [7] (.nm 7) bYes (mNot (m2 ixQ (m2 ixQ (mVar 5) (mC (.int 0))) (mVar 7))))) sNext) (sSeq (sIf (bV (m2 eqP (m2 ixQ (mVar 0) (mC (.int 0))) (mC (.str "and")))) (sRet (mLc (iRng1M (mL lenQ (lCons (mVar 3) lNil))) [7] (.nm 7) bYes (mAnd (m2 ixQ (m2 ixQ (mVar 5) (mC (.int 0))) (mVar 7)) (m2 ixQ (m2 ixQ (mVar 5) (mC (.int 1))) (mVar 7))))) sNext) (sSeq (sIf (bV (m2 eqP (m2 ixQ (mVar 0) (mC (.int 0))) (mC (.str "or")))) (sRet (mLc (iRng1M (mL lenQ (lCons (mVar 3) lNil))) [7] (.nm 7) bYes (mOr (m2 ixQ (m2 ixQ (mVar 5) (mC (.int 0))) (mVar 7)) (m2 ixQ (m2 ixQ (mVar 5) (mC (.int 1))) (mVar 7))))) sNext) (sSeq (sAsg (mL lstP lNil) (gVar 6)) (sSeq (sFor (iRng1M (mL lenQ (lCons (mVar 3) lNil))) (gVar 7) (sSeq (sAsg (mVar 7) (gVar 8)) (sSeq (sAsg (mC (.bl false)) (gVar 9)) (sSeq (sFor (iRng1M (m2 addP (mL lenQ (lCons (mVar 3) lNil)) (mC (.int 1)))) (gVar 10) (sSeq (sAsg (mL (cl 20) (lCons (mVar 3) (lCons (mVar 1) (lCons (mVar 8) lNil)))) (gVar 11)) (sSeq (sIf (bV (m2 inQ (m2 ixQ (mVar 0) (mC (.int 0))) (mL lstP (lCons (mC (.str "over")) (lCons (mC (.str "across")) lNil))))) (sAsg (mL (cl 21) (lCons (mVar 3) (lCons (mVar 1) (lCons (mVar 4) (lCons (mVar 8) lNil))))) (gVar 11)) sNext) (sSeq (sIf (bV (m2 inQ (m2 ixQ (mVar 0) (mC (.int 0))) (mL lstP (lCons (mC (.str "next")) (lCons (mC (.str "over")) lNil))))) (sSeq (sAsg (mAnd (mNotN (mVar 11)) (m2 ixQ (m2 ixQ (mVar 5) (mC (.int 0))) (mVar 11))) (gVar 9)) sBreak) sNext) (sSeq (sIf (bTru (m2 ixQ (m2 ixQ (mVar 5) (mC (.int 1))) (mVar 8))) (sSeq (sAsg (mC (.bl true)) (gVar 9)) sBreak) sNext) (sSeq (sIf (bOr (bNot (bTru (m2 ixQ (m2 ixQ (mVar 5) (mC (.int 0))) (mVar 8)))) (bV (mIsN (mVar 11)))) sBreak sNext) (sAsg (mVar 11) (gVar 8)))))))) (sExpr (mM "list" appP (mVar 6) (lCons (mVar 9) lNil))))))) (sRet (mVar 6))))))))))))
/-- _law_is_name -/
noncomputable def bd23 (cl cl2 : Nat → FM) : SM := (sSeq (sAsg (mAnd (mChain leP leP (mC (.int 1)) (mL lenQ (lCons (mVar 0) lNil)) (mC (.int 8))) (mL allP (lCons (mLc (iTxtM (mVar 0)) [2] (.nm 2) bYes (m2 inSP (mVar 2) (mC (.str "abcdefghijklmnopqrstuvwxyz")))) lNil))) (gVar 1)) (sRet (mAnd (mVar 1) (m2 notInQ (mVar 0) (mL lstP (lCons (mC (.str "and")) (lCons (mC (.str "or")) (lCons (mC (.str "not")) (lCons (mC (.str "same")) lNil)))))))))
/-- _law_good -/
noncomputable def bd24 (cl cl2 : Nat → FM) : SM := (sSeq (sIf (bOr (bV (m2 eqP (mVar 1) (mC (.int 0)))) (bOr (bNot (bTru (m1 (isiP "tuple") (mVar 0)))) (bOr (bV (m2 eqP (mL lenQ (lCons (mVar 0) lNil)) (mC (.int 0)))) (bNot (bTru (m1 (isiP "str") (m2 ixQ (mVar 0) (mC (.int 0))))))))) (sRet (mC (.bl false))) sNext) (sSeq (sIf (bV (m2 eqP (m2 ixQ (mVar 0) (mC (.int 0))) (mC (.str "at")))) (sSeq (sIf (bOr (bV (m2 neP (mL lenQ (lCons (mVar 0) lNil)) (mC (.int 3)))) (bOr (bV (m2 notInQ (m2 ixQ (mVar 0) (mC (.int 1))) (mL lstP (lCons (mC (.str "call")) (lCons (mC (.str "back")) (lCons (mC (.str "say")) (lCons (mC (.str "quiet")) lNil))))))) (bNot (bTru (m1 (isiP "str") (m2 ixQ (mVar 0) (mC (.int 2)))))))) (sRet (mC (.bl false))) sNext) (sRet (mOr (m2 eqP (m2 ixQ (mVar 0) (mC (.int 2))) (mC (.str ""))) (mL (cl 23) (lCons (m2 ixQ (mVar 0) (mC (.int 2))) lNil))))) sNext) (sSeq (sAsg (mDisp [((mC (.str "yes")), (mC (.int 0))), ((mC (.str "not")), (mC (.int 1))), ((mC (.str "next")), (mC (.int 1))), ((mC (.str "over")), (mC (.int 1))), ((mC (.str "and")), (mC (.int 2))), ((mC (.str "or")), (mC (.int 2))), ((mC (.str "until")), (mC (.int 2))), ((mC (.str "across")), (mC (.int 2)))]) (gVar 2)) (sSeq (sIf (bV (m2 neP (m2 (intP fun i j => i - j) (mL lenQ (lCons (mVar 0) lNil)) (mC (.int 1))) (mMG isDct getP (mVar 2) (lCons (m2 ixQ (mVar 0) (mC (.int 0))) (lCons (m1 negP (mC (.int 1))) lNil))))) (sRet (mC (.bl false))) sNext) (sRet (mL allP (lCons (mLc (iSeq (mSl slP (mVar 0) (oSome (mC (.int 1))) oNone)) [3] (.nm 3) bYes (mL (cl 24) (lCons (mVar 3) (lCons (m2 (intP fun i j => i - j) (mVar 1) (mC (.int 1))) lNil)))) lNil)))))))
/-- _law_ahead -/
noncomputable def bd25 (cl cl2 : Nat → FM) : SM := (sSeq (sIf (bV (m2 inQ (m2 ixQ (mVar 0) (mC (.int 0))) (mL lstP (lCons (mC (.str "at")) (lCons (mC (.str "yes")) lNil))))) (sRet (mL lstP lNil)) sNext) (sSeq (sAsg (mIf (bV (m2 inQ (m2 ixQ (mVar 0) (mC (.int 0))) (mL lstP (lCons (mC (.str "next")) (lCons (mC (.str "until")) (lCons (mC (.str "over")) (lCons (mC (.str "across")) lNil))))))) (mL lstP (lCons (mVar 0) lNil)) (mL lstP lNil)) (gVar 1)) (sSeq (sFor (iSeq (mSl slP (mVar 0) (oSome (mC (.int 1))) oNone)) (gVar 2) (sExpr (mM "list" extQ (mVar 1) (lCons (mL (cl 25) (lCons (mVar 2) lNil)) lNil)))) (sRet (mL (cl 17) (lCons (mVar 1) lNil))))))
/-- _law_odd -/
noncomputable def bd26 (cl cl2 : Nat → FM) : SM := (sSeq (sAsg (mL (cl 14) (lCons (mVar 0) (lCons (mC (.int 5)) lNil))) (gVar 2)) (sSeq (sIf (bV (m2 eqP (mVar 2) (mC (.int 0)))) (sRet (mL tupP (lCons (mL (cl 15) (lCons (mVar 0) (lCons (mL lstP (lCons (mC (.str "and")) (lCons (mC (.str "not")) (lCons (mC (.str "hop")) (lCons (mC (.str "at")) (lCons (mC (.str "yes")) lNil)))))) lNil))) (lCons (mVar 1) lNil)))) sNext) (sSeq (sIf (bV (m2 eqP (mVar 2) (mC (.int 1)))) (sRet (mL tupP (lCons (mC (.str "or")) (lCons (mVar 1) (lCons (mL tupP (lCons (mC (.str "at")) (lCons (mL (cl 15) (lCons (mVar 0) (lCons (mL lstP (lCons (mC (.str "say")) (lCons (mC (.str "hop")) lNil))) lNil))) (lCons (mL (cl 15) (lCons (mVar 0) (lCons (mL lstP (lCons (mC (.str "x")) (lCons (mC (.str "X")) (lCons (mC (.str "and")) (lCons (mC (.str "")) lNil))))) lNil))) lNil)))) lNil))))) sNext) (sSeq (sIf (bV (m2 eqP (mVar 2) (mC (.int 2)))) (sSeq (sFor (iRng1M (mL (cl 15) (lCons (mVar 0) (lCons (mL lstP (lCons (mC (.int 4)) (lCons (mC (.int 5)) (lCons (mC (.int 6)) (lCons (mC (.int 7)) lNil))))) lNil)))) (gVar 3) (sAsg (mL tupP (lCons (mC (.str "not")) (lCons (mVar 1) lNil))) (gVar 1))) (sRet (mVar 1))) sNext) (sSeq (sFor (iRng1M (mL (cl 15) (lCons (mVar 0) (lCons (mL lstP (lCons (mC (.int 3)) (lCons (mC (.int 5)) (lCons (mC (.int 6)) lNil)))) lNil)))) (gVar 3) (sAsg (mL (cl 15) (lCons (mVar 0) (lCons (mL lstP (lCons (mL tupP (lCons (mC (.str "next")) (lCons (mVar 1) lNil))) (lCons (mL tupP (lCons (mC (.str "not")) (lCons (mVar 1) lNil))) lNil))) lNil))) (gVar 1))) (sRet (mVar 1)))))))
/-- law -/
noncomputable def bd27 (cl cl2 : Nat → FM) : SM := (sSeq (sAsg (mL (cl 13) (lCons (mVar 0) lNil)) (gVar 1)) (sSeq (sAsg (mL (cl 18) (lCons (mVar 1) (lCons (mL (cl 14) (lCons (mVar 1) (lCons (mC (.int 5)) lNil))) lNil))) (gVar 2)) (sSeq (sIf (bV (m2 eqP (mL (cl 14) (lCons (mVar 1) (lCons (mC (.int 3)) lNil))) (mC (.int 0)))) (sAsg (mL (cl 26) (lCons (mVar 1) (lCons (mVar 2) lNil))) (gVar 2)) sNext) (sSeq (sAsg (mAnd (mL (cl 24) (lCons (mVar 2) (lCons (mC (.int 8)) lNil))) (m2 leP (mL lenQ (lCons (mL (cl 25) (lCons (mVar 2) lNil)) lNil)) (mC (.int 6)))) (gVar 3)) (sSeq (sIf (bNot (bTru (mL (cl 16) (lCons (mL (cl 4) (lCons (mVar 2) lNil)) (lCons (mVar 3) lNil))))) (sRet (mC (.bl false))) sNext) (sSeq (sIf (bNot (bTru (mVar 3))) (sRet (mC (.bl true))) sNext) (sSeq (sAsg (mL lstP (lCons (mL tupP (lCons (mC (.str "call")) (lCons (mC (.str "p")) lNil))) (lCons (mL tupP (lCons (mC (.str "back")) (lCons (mC (.str "p")) lNil))) (lCons (mL tupP (lCons (mC (.str "say")) (lCons (mC (.str "hi")) lNil))) (lCons (mL tupP (lCons (mC (.str "quiet")) (lCons (mC (.str "")) lNil))) (lCons (mL tupP (lCons (mC (.str "say")) (lCons (mC (.str "ho")) lNil))) (lCons (mL tupP (lCons (mC (.str "call")) (lCons (mC (.str "q")) lNil))) lNil))))))) (gVar 4)) (sSeq (sAsg (mL tupleP (lCons (mLc (iRng1M (mL (cl 14) (lCons (mVar 1) (lCons (mC (.int 8)) lNil)))) [8] (.nm 8) bYes (mL (cl 15) (lCons (mVar 1) (lCons (mVar 4) lNil)))) lNil)) (gVar 5)) (sSeq (sAsg (mL tupleP (lCons (mLc (iRng1M (m2 addP (mC (.int 1)) (mL (cl 14) (lCons (mVar 1) (lCons (mC (.int 7)) lNil))))) [8] (.nm 8) bYes (mL (cl 15) (lCons (mVar 1) (lCons (mVar 4) lNil)))) lNil)) (gVar 6)) (sSeq (sAsg (mL (cl 22) (lCons (mVar 2) (lCons (mVar 5) (lCons (mVar 6) lNil)))) (gVar 7)) (sSeq (sFor (iRng1M (mC (.int 4))) (gVar 8) (sSeq (sAsg (mL (cl 14) (lCons (mVar 1) (lCons (mL lenQ (lCons (mVar 7) lNil)) lNil))) (gVar 9)) (sIf (bNot (bTru (mL (cl 16) (lCons (mL (cl 12) (lCons (mVar 2) (lCons (mVar 5) (lCons (mVar 6) (lCons (mVar 9) lNil))))) (lCons (m2 ixQ (mVar 7) (mVar 9)) lNil))))) (sRet (mC (.bl false))) sNext))) (sRet (mC (.bl true))))))))))))))
noncomputable def bdN (cl cl2 : Nat → FM) : Nat → FM
  | 0 => runB nm0.length (bd0 cl cl2)
  | 1 => runB nm1.length (bd1 cl cl2)
  | 2 => runB nm2.length (bd2 cl cl2)
  | 3 => runB nm3.length (bd3 cl cl2)
  | 4 => runB nm4.length (bd4 cl cl2)
  | 5 => runB nm5.length (bd5 cl cl2)
  | 6 => runB nm6.length (bd6 cl cl2)
  | 7 => runB nm7.length (bd7 cl cl2)
  | 8 => runB nm8.length (bd8 cl cl2)
  | 9 => runB nm9.length (bd9 cl cl2)
  | 10 => runB nm10.length (bd10 cl cl2)
  | 11 => runB nm11.length (bd11 cl cl2)
  | 12 => runB nm12.length (bd12 cl cl2)
  | 13 => runB nm13.length (bd13 cl cl2)
  | 14 => runB nm14.length (bd14 cl cl2)
  | 15 => runB nm15.length (bd15 cl cl2)
  | 16 => runB nm16.length (bd16 cl cl2)
  | 17 => runB nm17.length (bd17 cl cl2)
  | 18 => runB nm18.length (bd18 cl cl2)
  | 19 => runB nm19.length (bd19 cl cl2)
  | 20 => runB nm20.length (bd20 cl cl2)
  | 21 => runB nm21.length (bd21 cl cl2)
  | 22 => runB nm22.length (bd22 cl cl2)
  | 23 => runB nm23.length (bd23 cl cl2)
  | 24 => runB nm24.length (bd24 cl cl2)
  | 25 => runB nm25.length (bd25 cl cl2)
  | 26 => runB nm26.length (bd26 cl cl2)
  | 27 => runB nm27.length (bd27 cl cl2)
  | _ => fun _ _ => none
noncomputable def calls := callsOf bdN
abbrev qlN : Nat → Str
  | 0 => "is_name"
  | 1 => "is_form"
  | 2 => "is_place"
  | 3 => "parts_ahead"
  | 4 => "is_promise"
  | 5 => "is_at"
  | 6 => "RoundRun.__init__"
  | 7 => "RoundRun.following"
  | 8 => "RoundRun.across"
  | 9 => "RoundRun.truths"
  | 10 => "RoundRun._find"
  | 11 => "until"
  | 12 => "holds"
  | 13 => "_law_start"
  | 14 => "_law_draw"
  | 15 => "_law_pick"
  | 16 => "_law_is"
  | 17 => "_law_once"
  | 18 => "_law_promise"
  | 19 => "_law_matches"
  | 20 => "_law_behind"
  | 21 => "_law_across"
  | 22 => "_law_truths"
  | 23 => "_law_is_name"
  | 24 => "_law_good"
  | 25 => "_law_ahead"
  | 26 => "_law_odd"
  | 27 => "law"
  | _ => "none"
abbrev clN : Nat → Option Nat
  | 0 => none
  | 1 => none
  | 2 => none
  | 3 => none
  | 4 => none
  | 5 => none
  | 6 => some 0
  | 7 => some 0
  | 8 => some 0
  | 9 => some 0
  | 10 => some 0
  | 11 => none
  | 12 => none
  | 13 => none
  | 14 => none
  | 15 => none
  | 16 => none
  | 17 => none
  | 18 => none
  | 19 => none
  | 20 => none
  | 21 => none
  | 22 => none
  | 23 => none
  | 24 => none
  | 25 => none
  | 26 => none
  | 27 => none
  | _ => none
abbrev nmC : Nat → Str
  | 0 => "RoundRun"
  | _ => "none"
abbrev inN : Nat → Nat
  | 0 => 6
  | _ => 0
abbrev tab : Tab := { n := 28, nC := 1, nm := nmN, ql := qlN, ps := psN, st := stN, cl := clN, nmC := nmC, ini := inN, flds := [(0, "marks"), (0, "_back"), (0, "_matches"), (0, "_known")], meths := [(0, 7), (0, 8), (0, 9), (0, 10)], csts := [("LONGEST_NAME", (.int 8)), ("WORDS", (.tup [(.str "and"), (.str "or"), (.str "not"), (.str "same")])), ("LETTERS", (.str "abcdefghijklmnopqrstuvwxyz")), ("KINDS", (.tup [(.str "call"), (.str "back"), (.str "say"), (.str "quiet")])), ("AHEAD", (.tup [(.str "next"), (.str "until"), (.str "over"), (.str "across")])), ("DEEPEST", (.int 8)), ("MOST_PARTS", (.int 6))], blts := ["len", "all", "isinstance", "tuple", "str", "list", "enumerate", "range", "int", "max", "reversed", "abs", "bool"] }
section
variable {P : Program} {w : World} {K : PySem.W.Frag} {mg : Str → Option Value} {base : Heap} {ca : Nat → Addr} {a : Nat → Addr} {fd : Nat → FuncData} {cl cl2 : Nat → FM} {k : Nat}
abbrev Tx (K : PySem.W.Frag) (mg : Str → Option Value) (a : Nat → Addr) (fd : Nat → FuncData) (ca : Nat → Addr) := TxC tab K mg a fd ca
theorem ok0 (T : Tx K mg a fd ca) (KT : KTs K w mg) (C : AllF P w K mg base ca psN a fd k cl) (C2 : AllF2 P w K mg base ca psN a fd k cl2) (cdv : Value) (A : Around) (outer : List Env) (s : Shared) (H : Hp) (E : XK) (hr : Room k (A.deeper (envOfC "is_name" (defScope st0) s.heap.objs.size (a 0) cdv))) :
    PSs (bx P w K mg base nm0 "is_name" (defScope st0) (a 0) cdv A outer s H E) (defBody st0) (liftS ⟨K, w, ca⟩ (bd0 cl cl2)) := by
  unfold bd0
  exact (ds_cons (ds_if (PW.pt (dw_or (dt_not (dt_chain op_le prim_le op_le prim_le de_int (de_callB call_len1 prim_len1 (T.no "len" (by decide)) PySem.boot_len (la_cons (de_var (i := 0)) la_nil)) (de_cst (T.kc (y := "LONGEST_NAME") (show (_, _) ∈ tab.csts from (List.Mem.head _)))))) (dw_or1 (dt_cmp (op_in1 hr) prim_in1 (de_var (i := 0)) (de_cst (T.kc (y := "WORDS") (show (_, _) ∈ tab.csts from (List.Mem.tail _ (List.Mem.head _))))))))) (ds_one (ds_ret de_bl)) ds_nil) (ds_one (ds_ret (de_callB (cr_all rfl) prim_all (T.no "all" (by decide)) boot_all (la_cons (de_lc (own := [("letter", 1)]) (t := (.nm 1)) (sc0).nd (blkOk_by (own := [("letter", 1)]) (by first | (show blkC nm0 (defScope st0) _ _ = true; decide +kernel) | (exact blk_in (N := nm0) (sc := defScope st0) rfl (by decide +kernel)))) (by decide) (di_txt (de_var (i := 0))) (fun _ _ _ _ _ => (pg_name (i := 1) (sc0).nd rfl (Or.inl rfl))) (fun _ _ _ _ _ => dts_nil) (fun _ _ _ _ _ => (de_cmp op_inS prim_inS (de_var (i := 1)) (de_cst (T.kc (y := "LETTERS") (show (_, _) ∈ tab.csts from (List.Mem.tail _ (List.Mem.tail _ (List.Mem.head _))))))))) la_nil)))))
theorem ok1 (T : Tx K mg a fd ca) (KT : KTs K w mg) (C : AllF P w K mg base ca psN a fd k cl) (C2 : AllF2 P w K mg base ca psN a fd k cl2) (cdv : Value) (A : Around) (outer : List Env) (s : Shared) (H : Hp) (E : XK) (hr : Room k (A.deeper (envOfC "is_form" (defScope st1) s.heap.objs.size (a 1) cdv))) :
    PSs (bx P w K mg base nm1 "is_form" (defScope st1) (a 1) cdv A outer s H E) (defBody st1) (liftS ⟨K, w, ca⟩ (bd1 cl cl2)) := by
  unfold bd1
  exact (ds_cons (ds_if (PW.pt (dw_or (dt_cmp (op_eqD hr.units) prim_eq (de_var (i := 1)) de_int) (dw_or (dt_not (dt_tru (de_isi (Ts := "tuple") (de_var (i := 0)) (T.no "isinstance" (by decide)) (T.no "tuple" (by decide)) (by decide +kernel)))) (dw_or (dt_cmp (op_eqD hr.units) prim_eq (de_callB call_len1 prim_len1 (T.no "len" (by decide)) PySem.boot_len (la_cons (de_var (i := 0)) la_nil)) de_int) (dw_or1 (dt_not (dt_tru (de_isi (Ts := "str") (de_ix (ix_1 hr) prim_ix1 (de_var (i := 0)) de_int) (T.no "isinstance" (by decide)) (T.no "str" (by decide)) (by decide +kernel))))))))) (ds_one (ds_ret de_bl)) ds_nil) (ds_cons (ds_if (dt_cmp (op_eqD hr.units) prim_eq (de_ix (ix_1 hr) prim_ix1 (de_var (i := 0)) de_int) de_str) (ds_one (ds_ret (de_and (de_cmp (op_eqD hr.units) prim_eq (de_callB call_len1 prim_len1 (T.no "len" (by decide)) PySem.boot_len (la_cons (de_var (i := 0)) la_nil)) de_int) (de_and (de_cmp (op_in1 hr) prim_in1 (de_ix (ix_1 hr) prim_ix1 (de_var (i := 0)) de_int) (de_cst (T.kc (y := "KINDS") (show (_, _) ∈ tab.csts from (List.Mem.tail _ (List.Mem.tail _ (List.Mem.tail _ (List.Mem.head _)))))))) (de_one (de_call (C.F 2) hr (T.fn 2) (T.kp 2) (T.bn 2) (.cons .nil) (la_cons (de_ix (ix_1 hr) prim_ix1 (de_var (i := 0)) de_int) la_nil))))))) ds_nil) (ds_cons (ds_set (i := 2) (sc1).nd (de_kgetG KT.k0 (la_cons (de_ix (ix_1 hr) prim_ix1 (de_var (i := 0)) de_int) (la_cons (de_un un_neg prim_neg de_int) la_nil)))) (ds_one (ds_ret (de_and (de_cmp (op_eqD hr.units) prim_eq (de_callB call_len1 prim_len1 (T.no "len" (by decide)) PySem.boot_len (la_cons (de_var (i := 0)) la_nil)) (de_op op_addAll prim_add (de_var (i := 2)) de_int)) (de_one (de_callB (cr_all rfl) prim_all (T.no "all" (by decide)) boot_all (la_cons (de_lc (own := [("part", 3)]) (t := (.nm 3)) (sc1).nd (blkOk_by (own := [("part", 3)]) (by first | (show blkC nm1 (defScope st1) _ _ = true; decide +kernel) | (exact blk_in (N := nm1) (sc := defScope st1) rfl (by decide +kernel)))) (by decide) (di_seq (de_slice (de_var (i := 0)) (do_some de_int) do_none)) (fun _ _ _ _ _ => (pg_name (i := 3) (sc1).nd rfl (Or.inl rfl))) (fun _ _ _ _ _ => dts_nil) (fun _ _ _ _ _ => (de_call (C.F 1) hr (T.fn 1) (T.kp 1) (T.bn 1) (.cons (.cons .nil)) (la_cons (de_var (i := 3)) (la_cons (de_op op_sub (prim_int fun _ _ => rfl) (de_var (i := 1)) de_int) la_nil))))) la_nil)))))))))
theorem ok2 (T : Tx K mg a fd ca) (KT : KTs K w mg) (C : AllF P w K mg base ca psN a fd k cl) (C2 : AllF2 P w K mg base ca psN a fd k cl2) (cdv : Value) (A : Around) (outer : List Env) (s : Shared) (H : Hp) (E : XK) (hr : Room k (A.deeper (envOfC "is_place" (defScope st2) s.heap.objs.size (a 2) cdv))) :
    PSs (bx P w K mg base nm2 "is_place" (defScope st2) (a 2) cdv A outer s H E) (defBody st2) (liftS ⟨K, w, ca⟩ (bd2 cl cl2)) := by
  unfold bd2
  exact (ds_one (ds_ret (de_and (de_isi (Ts := "str") (de_var (i := 0)) (T.no "isinstance" (by decide)) (T.no "str" (by decide)) (by decide +kernel)) (de_one (de_or (de_cmp (op_eqD hr.units) prim_eq (de_var (i := 0)) de_str) (de_one (de_call (C.F 0) hr (T.fn 0) (T.kp 0) (T.bn 0) (.cons .nil) (la_cons (de_var (i := 0)) la_nil))))))))
theorem ok3 (T : Tx K mg a fd ca) (KT : KTs K w mg) (C : AllF P w K mg base ca psN a fd k cl) (C2 : AllF2 P w K mg base ca psN a fd k cl2) (cdv : Value) (A : Around) (outer : List Env) (s : Shared) (H : Hp) (E : XK) (hr : Room k (A.deeper (envOfC "parts_ahead" (defScope st3) s.heap.objs.size (a 3) cdv))) :
    PSs (bx P w K mg base nm3 "parts_ahead" (defScope st3) (a 3) cdv A outer s H E) (defBody st3) (liftS ⟨K, w, ca⟩ (bd3 cl cl2)) := by
  unfold bd3
  exact (ds_cons (ds_set (i := 1) (sc3).nd (de_lst la_nil)) (ds_cons (ds_if (dt_cmp (op_notIn1 hr) prim_notIn1 (de_ix (ix_1 hr) prim_ix1 (de_var (i := 0)) de_int) (de_tup (la_cons de_str (la_cons de_str la_nil)))) (ds_one (ds_for (di_seq (de_slice (de_var (i := 0)) (do_some de_int) do_none)) (dg_name (i := 2) (sc3).nd) (ds_one (ds_expr (de_bm prim_extQ PySem.F.plainAttrs_list PySem.F.slot_list_extend PySem.F.type_list_extend mt_extA (de_var (i := 1)) (la_cons (de_lc (own := [("inner", 3)]) (t := (.nm 3)) (sc3).nd (blkOk_by (own := [("inner", 3)]) (by first | (show blkC nm3 (defScope st3) _ _ = true; decide +kernel) | (exact blk_in (N := nm3) (sc := defScope st3) rfl (by decide +kernel)))) (by decide) (di_seq (de_call (C.F 3) hr (T.fn 3) (T.kp 3) (T.bn 3) (.cons .nil) (la_cons (de_var (i := 2)) la_nil))) (fun _ _ _ _ _ => (pg_name (i := 3) (sc3).nd rfl (Or.inl rfl))) (fun _ _ _ _ _ => (dts_one (dt_cmp (op_notIn1 hr) prim_notIn1 (de_var (i := 3)) (de_var (i := 1))))) (fun _ _ _ _ _ => (de_var (i := 3)))) la_nil)))))) ds_nil) (ds_cons (ds_if (PW.pt (dw_and (dt_cmp (op_in1 hr) prim_in1 (de_ix (ix_1 hr) prim_ix1 (de_var (i := 0)) de_int) (de_cst (T.kc (y := "AHEAD") (show (_, _) ∈ tab.csts from (List.Mem.tail _ (List.Mem.tail _ (List.Mem.tail _ (List.Mem.tail _ (List.Mem.head _))))))))) (dw_and1 (dt_cmp (op_notIn1 hr) prim_notIn1 (de_var (i := 0)) (de_var (i := 1)))))) (ds_one (ds_expr (de_bm prim_app PySem.F.plainAttrs_list PySem.F.slot_list_append PySem.F.type_list_append mt_append (de_var (i := 1)) (la_cons (de_var (i := 0)) la_nil)))) ds_nil) (ds_one (ds_ret (de_var (i := 1)))))))
theorem ok4 (T : Tx K mg a fd ca) (KT : KTs K w mg) (C : AllF P w K mg base ca psN a fd k cl) (C2 : AllF2 P w K mg base ca psN a fd k cl2) (cdv : Value) (A : Around) (outer : List Env) (s : Shared) (H : Hp) (E : XK) (hr : Room k (A.deeper (envOfC "is_promise" (defScope st4) s.heap.objs.size (a 4) cdv))) :
    PSs (bx P w K mg base nm4 "is_promise" (defScope st4) (a 4) cdv A outer s H E) (defBody st4) (liftS ⟨K, w, ca⟩ (bd4 cl cl2)) := by
  unfold bd4
  exact (ds_one (ds_ret (de_and (de_call (C.F 1) hr (T.fn 1) (T.kp 1) (T.bn 1) (.cons (.cons .nil)) (la_cons (de_var (i := 0)) (la_cons (de_cst (T.kc (y := "DEEPEST") (show (_, _) ∈ tab.csts from (List.Mem.tail _ (List.Mem.tail _ (List.Mem.tail _ (List.Mem.tail _ (List.Mem.tail _ (List.Mem.head _))))))))) la_nil))) (de_one (de_cmp op_le prim_le (de_callB call_len1 prim_len1 (T.no "len" (by decide)) PySem.boot_len (la_cons (de_call (C.F 3) hr (T.fn 3) (T.kp 3) (T.bn 3) (.cons .nil) (la_cons (de_var (i := 0)) la_nil)) la_nil)) (de_cst (T.kc (y := "MOST_PARTS") (show (_, _) ∈ tab.csts from (List.Mem.tail _ (List.Mem.tail _ (List.Mem.tail _ (List.Mem.tail _ (List.Mem.tail _ (List.Mem.tail _ (List.Mem.head _)))))))))))))))
theorem ok5 (T : Tx K mg a fd ca) (KT : KTs K w mg) (C : AllF P w K mg base ca psN a fd k cl) (C2 : AllF2 P w K mg base ca psN a fd k cl2) (cdv : Value) (A : Around) (outer : List Env) (s : Shared) (H : Hp) (E : XK) (hr : Room k (A.deeper (envOfC "is_at" (defScope st5) s.heap.objs.size (a 5) cdv))) :
    PSs (bx P w K mg base nm5 "is_at" (defScope st5) (a 5) cdv A outer s H E) (defBody st5) (liftS ⟨K, w, ca⟩ (bd5 cl cl2)) := by
  unfold bd5
  exact (ds_cons (ds_asg (de_var (i := 0)) (dg_tup (dgs_cons (dg_name (i := 2) (sc5).nd) (dgs_cons (dg_name (i := 3) (sc5).nd) (dgs_cons (dg_name (i := 4) (sc5).nd) dgs_nil))))) (ds_one (ds_ret (de_and (de_cmp (op_eqD hr.units) prim_eq (de_ix (ix_1 hr) prim_ix1 (de_var (i := 1)) de_int) (de_var (i := 3))) (de_one (de_cmp (op_in1 hr) prim_in1 (de_var (i := 4)) (de_tup (la_cons de_str (la_cons (de_ix (ix_1 hr) prim_ix1 (de_var (i := 1)) de_int) la_nil)))))))))
theorem ok6 (T : Tx K mg a fd ca) (KT : KTs K w mg) (C : AllF P w K mg base ca psN a fd k cl) (C2 : AllF2 P w K mg base ca psN a fd k cl2) (cdv : Value) (A : Around) (outer : List Env) (s : Shared) (H : Hp) (E : XK) (hr : Room k (A.deeper (envOfC "RoundRun.__init__" (defScope st6) s.heap.objs.size (a 6) cdv))) :
    PSs (bx P w K mg base nm6 "RoundRun.__init__" (defScope st6) (a 6) cdv A outer s H E) (defBody st6) (liftS ⟨K, w, ca⟩ (bd6 cl cl2)) := by
  unfold bd6
  exact (ds_cons (ds_fld (T.fo (cs := [0]) (by decide)) (de_op op_addAll prim_add (de_callTy call_list1 prim_list1 (T.no "list" (by decide)) PyProof.Rows.boot_list (la_cons (de_var (i := 1)) la_nil)) (de_callTy call_list1 prim_list1 (T.no "list" (by decide)) PyProof.Rows.boot_list (la_cons (de_var (i := 2)) la_nil))) (de_var (i := 0))) (ds_cons (ds_fld (T.fo (cs := [0]) (by decide)) (de_callB call_len1 prim_len1 (T.no "len" (by decide)) PySem.boot_len (la_cons (de_var (i := 1)) la_nil)) (de_var (i := 0))) (ds_cons (ds_fld (T.fo (cs := [0]) (by decide)) (de_dnew (k := k)) (de_var (i := 0))) (ds_cons (ds_set (i := 3) (sc6).nd (de_lst la_nil)) (ds_cons (ds_for (di_enm (T.no "enumerate" (by decide)) (de_fld (T.fo (cs := [0]) (by decide)) (de_var (i := 0)))) (dg_tup (dgs_cons (dg_name (i := 4) (sc6).nd) (dgs_cons (dg_name (i := 5) (sc6).nd) dgs_nil))) (ds_cons (ds_if (dt_cmp (op_eqD hr.units) prim_eq (de_var (i := 4)) (de_fld (T.fo (cs := [0]) (by decide)) (de_var (i := 0)))) (ds_one (ds_set (i := 3) (sc6).nd (de_lst la_nil))) ds_nil) (ds_cons (ds_if (dt_cmp (op_eqD hr.units) prim_eq (de_ix (ix_1 hr) prim_ix1 (de_var (i := 5)) de_int) de_str) (ds_one (ds_expr (de_bm prim_app PySem.F.plainAttrs_list PySem.F.slot_list_append PySem.F.type_list_append mt_append (de_var (i := 3)) (la_cons (de_var (i := 4)) la_nil)))) ds_nil) (ds_one (ds_if (PW.pt (dw_and (dt_cmp (op_eqD hr.units) prim_eq (de_ix (ix_1 hr) prim_ix1 (de_var (i := 5)) de_int) de_str) (dw_and1 (dt_tru (de_var (i := 3)))))) (ds_one (ds_asg (de_var (i := 4)) (dg_sub hr (de_fld (T.fo (cs := [0]) (by decide)) (de_var (i := 0))) (de_bm0 prim_pop PySem.F.plainAttrs_list PySem.F.slot_list_pop PySem.F.type_list_pop mt_pop (de_var (i := 3)))))) ds_nil))))) (ds_one (ds_fld (T.fo (cs := [0]) (by decide)) (de_dnew (k := k)) (de_var (i := 0)))))))))
theorem ok7 (T : Tx K mg a fd ca) (KT : KTs K w mg) (C : AllF P w K mg base ca psN a fd k cl) (C2 : AllF2 P w K mg base ca psN a fd k cl2) (cdv : Value) (A : Around) (outer : List Env) (s : Shared) (H : Hp) (E : XK) (hr : Room k (A.deeper (envOfC "RoundRun.following" (defScope st7) s.heap.objs.size (a 7) cdv))) :
    PSs (bx P w K mg base nm7 "RoundRun.following" (defScope st7) (a 7) cdv A outer s H E) (defBody st7) (liftS ⟨K, w, ca⟩ (bd7 cl cl2)) := by
  unfold bd7
  exact (ds_one (ds_ret (de_if (dt_cmp (op_ltA (DL.Room.u65 hr)) prim_lt (de_op op_addAll prim_add (de_var (i := 1)) de_int) (de_callB call_len1 prim_len1 (T.no "len" (by decide)) PySem.boot_len (la_cons (de_fld (T.fo (cs := [0]) (by decide)) (de_var (i := 0))) la_nil))) (de_op op_addAll prim_add (de_var (i := 1)) de_int) (de_fld (T.fo (cs := [0]) (by decide)) (de_var (i := 0))))))
theorem ok8 (T : Tx K mg a fd ca) (KT : KTs K w mg) (C : AllF P w K mg base ca psN a fd k cl) (C2 : AllF2 P w K mg base ca psN a fd k cl2) (cdv : Value) (A : Around) (outer : List Env) (s : Shared) (H : Hp) (E : XK) (hr : Room k (A.deeper (envOfC "RoundRun.across" (defScope st8) s.heap.objs.size (a 8) cdv))) :
    PSs (bx P w K mg base nm8 "RoundRun.across" (defScope st8) (a 8) cdv A outer s H E) (defBody st8) (liftS ⟨K, w, ca⟩ (bd8 cl cl2)) := by
  unfold bd8
  exact (ds_cons (ds_if (dt_cmp (op_eqD hr.units) prim_eq (de_ix (ix_1 hr) prim_ix1 (de_ix (ix_1 hr) prim_ix1 (de_fld (T.fo (cs := [0]) (by decide)) (de_var (i := 0))) (de_var (i := 1))) de_int) de_str) (ds_one (ds_ret (de_bmG (prim_get hr) ty_dct PySem.F.plainAttrs_dict PySem.F.slot_dict_get PySem.F.type_dict_get (de_fld (T.fo (cs := [0]) (by decide)) (de_var (i := 0))) (la_cons (de_var (i := 1)) la_nil)))) ds_nil) (ds_cons (ds_set (i := 2) (sc8).nd (de_meth (cands := [(0, 7)]) (T.m1 (by decide) rfl rfl) C.F hr (de_var (i := 0)) (.cons .nil) (la_cons (de_var (i := 1)) la_nil))) (ds_one (ds_ret (de_if (dt_cmp (op_eqD hr.units) prim_eq (de_ix (ix_1 hr) prim_ix1 (de_ix (ix_1 hr) prim_ix1 (de_fld (T.fo (cs := [0]) (by decide)) (de_var (i := 0))) (de_var (i := 2))) de_int) de_str) de_non (de_var (i := 2)))))))
theorem ok9 (T : Tx K mg a fd ca) (KT : KTs K w mg) (C : AllF P w K mg base ca psN a fd k cl) (C2 : AllF2 P w K mg base ca psN a fd k cl2) (cdv : Value) (A : Around) (outer : List Env) (s : Shared) (H : Hp) (E : XK) (hr : Room k (A.deeper (envOfC "RoundRun.truths" (defScope st9) s.heap.objs.size (a 9) cdv))) :
    PSs (bx P w K mg base nm9 "RoundRun.truths" (defScope st9) (a 9) cdv A outer s H E) (defBody st9) (liftS ⟨K, w, ca⟩ (bd9 cl cl2)) := by
  unfold bd9
  exact (ds_cons (ds_if (dt_cmp (op_notIn1 hr) prim_notIn1 (de_var (i := 1)) (de_fld (T.fo (cs := [0]) (by decide)) (de_var (i := 0)))) (ds_one (ds_asg (de_meth (cands := [(0, 10)]) (T.m1 (by decide) rfl rfl) C.F hr (de_var (i := 0)) (.cons .nil) (la_cons (de_var (i := 1)) la_nil)) (dg_sub hr (de_fld (T.fo (cs := [0]) (by decide)) (de_var (i := 0))) (de_var (i := 1))))) ds_nil) (ds_one (ds_ret (de_ix (ix_1 hr) prim_ix1 (de_fld (T.fo (cs := [0]) (by decide)) (de_var (i := 0))) (de_var (i := 1))))))
theorem ok10 (T : Tx K mg a fd ca) (KT : KTs K w mg) (C : AllF P w K mg base ca psN a fd k cl) (C2 : AllF2 P w K mg base ca psN a fd k cl2) (cdv : Value) (A : Around) (outer : List Env) (s : Shared) (H : Hp) (E : XK) (hr : Room k (A.deeper (envOfC "RoundRun._find" (defScope st10) s.heap.objs.size (a 10) cdv))) :
    PSs (bx P w K mg base nm10 "RoundRun._find" (defScope st10) (a 10) cdv A outer s H E) (defBody st10) (liftS ⟨K, w, ca⟩ (bd10 cl cl2)) := by
  unfold bd10
  exact (ds_cons (ds_set (i := 2) (sc10).nd (de_ix (ix_1 hr) prim_ix1 (de_var (i := 1)) de_int)) (ds_cons (ds_set (i := 3) (sc10).nd (de_listRg (T.no "list" (by decide)) (T.no "range" (by decide)) (de_callB call_len1 prim_len1 (T.no "len" (by decide)) PySem.boot_len (la_cons (de_fld (T.fo (cs := [0]) (by decide)) (de_var (i := 0))) la_nil)))) (ds_cons (ds_if (dt_cmp (op_eqD hr.units) prim_eq (de_var (i := 2)) de_str) (ds_one (ds_ret (de_lc (own := [("_", 6)]) (t := (.nm 6)) (sc10).nd (blkOk_by (own := [("_", 6)]) (by first | (show blkC nm10 (defScope st10) _ _ = true; decide +kernel) | (exact blk_in (N := nm10) (sc := defScope st10) rfl (by decide +kernel)))) (by decide) (di_seq (de_var (i := 3))) (fun _ _ _ _ _ => (pg_name (i := 6) (sc10).nd rfl (Or.inl rfl))) (fun _ _ _ _ _ => dts_nil) (fun _ _ _ _ _ => de_int)))) ds_nil) (ds_cons (ds_if (dt_cmp (op_eqD hr.units) prim_eq (de_var (i := 2)) de_str) (ds_one (ds_ret (de_lc (own := [("i", 7)]) (t := (.nm 7)) (sc10).nd (blkOk_by (own := [("i", 7)]) (by first | (show blkC nm10 (defScope st10) _ _ = true; decide +kernel) | (exact blk_in (N := nm10) (sc := defScope st10) rfl (by decide +kernel)))) (by decide) (di_seq (de_var (i := 3))) (fun _ _ _ _ _ => (pg_name (i := 7) (sc10).nd rfl (Or.inl rfl))) (fun _ _ _ _ _ => dts_nil) (fun _ _ _ _ _ => (de_callTy call_int1 prim_toInt (T.no "int" (by decide)) PyProof.Rows.boot_int (la_cons (de_call (C.F 5) hr (T.fn 5) (T.kp 5) (T.bn 5) (.cons (.cons .nil)) (la_cons (de_var (i := 1)) (la_cons (de_ix (ix_1 hr) prim_ix1 (de_fld (T.fo (cs := [0]) (by decide)) (de_var (i := 0))) (de_var (i := 7))) la_nil))) la_nil)))))) ds_nil) (ds_cons (ds_set (i := 4) (sc10).nd (de_lc (own := [("part", 8)]) (t := (.nm 8)) (sc10).nd (blkOk_by (own := [("part", 8)]) (by first | (show blkC nm10 (defScope st10) _ _ = true; decide +kernel) | (exact blk_in (N := nm10) (sc := defScope st10) rfl (by decide +kernel)))) (by decide) (di_seq (de_slice (de_var (i := 1)) (do_some de_int) do_none)) (fun _ _ _ _ _ => (pg_name (i := 8) (sc10).nd rfl (Or.inl rfl))) (fun _ _ _ _ _ => dts_nil) (fun _ _ _ _ _ => (de_meth (cands := [(0, 9)]) (T.m1 (by decide) rfl rfl) C.F hr (de_var (i := 0)) (.cons .nil) (la_cons (de_var (i := 8)) la_nil))))) (ds_cons (ds_if (dt_cmp (op_eqD hr.units) prim_eq (de_var (i := 2)) de_str) (ds_one (ds_ret (de_lc (own := [("i", 7)]) (t := (.nm 7)) (sc10).nd (blkOk_by (own := [("i", 7)]) (by first | (show blkC nm10 (defScope st10) _ _ = true; decide +kernel) | (exact blk_in (N := nm10) (sc := defScope st10) rfl (by decide +kernel)))) (by decide) (di_seq (de_var (i := 3))) (fun _ _ _ _ _ => (pg_name (i := 7) (sc10).nd rfl (Or.inl rfl))) (fun _ _ _ _ _ => dts_nil) (fun _ _ _ _ _ => (de_op op_sub (prim_int fun _ _ => rfl) de_int (de_ix (ix_1 hr) prim_ix1 (de_ix (ix_1 hr) prim_ix1 (de_var (i := 4)) de_int) (de_var (i := 7)))))))) ds_nil) (ds_cons (ds_if (dt_cmp (op_eqD hr.units) prim_eq (de_var (i := 2)) de_str) (ds_one (ds_ret (de_lc (own := [("i", 7)]) (t := (.nm 7)) (sc10).nd (blkOk_by (own := [("i", 7)]) (by first | (show blkC nm10 (defScope st10) _ _ = true; decide +kernel) | (exact blk_in (N := nm10) (sc := defScope st10) rfl (by decide +kernel)))) (by decide) (di_seq (de_var (i := 3))) (fun _ _ _ _ _ => (pg_name (i := 7) (sc10).nd rfl (Or.inl rfl))) (fun _ _ _ _ _ => dts_nil) (fun _ _ _ _ _ => (de_op op_mul prim_mul (de_ix (ix_1 hr) prim_ix1 (de_ix (ix_1 hr) prim_ix1 (de_var (i := 4)) de_int) (de_var (i := 7))) (de_ix (ix_1 hr) prim_ix1 (de_ix (ix_1 hr) prim_ix1 (de_var (i := 4)) de_int) (de_var (i := 7)))))))) ds_nil) (ds_cons (ds_if (dt_cmp (op_eqD hr.units) prim_eq (de_var (i := 2)) de_str) (ds_one (ds_ret (de_lc (own := [("i", 7)]) (t := (.nm 7)) (sc10).nd (blkOk_by (own := [("i", 7)]) (by first | (show blkC nm10 (defScope st10) _ _ = true; decide +kernel) | (exact blk_in (N := nm10) (sc := defScope st10) rfl (by decide +kernel)))) (by decide) (di_seq (de_var (i := 3))) (fun _ _ _ _ _ => (pg_name (i := 7) (sc10).nd rfl (Or.inl rfl))) (fun _ _ _ _ _ => dts_nil) (fun _ _ _ _ _ => (de_callB (call_max2 rfl) prim_max2 (T.no "max" (by decide)) (by decide +kernel) (la_cons (de_ix (ix_1 hr) prim_ix1 (de_ix (ix_1 hr) prim_ix1 (de_var (i := 4)) de_int) (de_var (i := 7))) (la_cons (de_ix (ix_1 hr) prim_ix1 (de_ix (ix_1 hr) prim_ix1 (de_var (i := 4)) de_int) (de_var (i := 7))) la_nil))))))) ds_nil) (ds_cons (ds_set (i := 5) (sc10).nd (de_lc (own := [("i", 7)]) (t := (.nm 7)) (sc10).nd (blkOk_by (own := [("i", 7)]) (by first | (show blkC nm10 (defScope st10) _ _ = true; decide +kernel) | (exact blk_in (N := nm10) (sc := defScope st10) rfl (by decide +kernel)))) (by decide) (di_seq (de_var (i := 3))) (fun _ _ _ _ _ => (pg_name (i := 7) (sc10).nd rfl (Or.inl rfl))) (fun _ _ _ _ _ => dts_nil) (fun _ _ _ _ _ => (de_if (dt_cmp (op_in1 hr) prim_in1 (de_var (i := 2)) (de_tup (la_cons de_str (la_cons de_str la_nil)))) (de_meth (cands := [(0, 8)]) (T.m1 (by decide) rfl rfl) C.F hr (de_var (i := 0)) (.cons .nil) (la_cons (de_var (i := 7)) la_nil)) (de_meth (cands := [(0, 7)]) (T.m1 (by decide) rfl rfl) C.F hr (de_var (i := 0)) (.cons .nil) (la_cons (de_var (i := 7)) la_nil)))))) (ds_cons (ds_if (dt_cmp (op_in1 hr) prim_in1 (de_var (i := 2)) (de_tup (la_cons de_str (la_cons de_str la_nil)))) (ds_one (ds_ret (de_lc (own := [("i", 7)]) (t := (.nm 7)) (sc10).nd (blkOk_by (own := [("i", 7)]) (by first | (show blkC nm10 (defScope st10) _ _ = true; decide +kernel) | (exact blk_in (N := nm10) (sc := defScope st10) rfl (by decide +kernel)))) (by decide) (di_seq (de_var (i := 3))) (fun _ _ _ _ _ => (pg_name (i := 7) (sc10).nd rfl (Or.inl rfl))) (fun _ _ _ _ _ => dts_nil) (fun _ _ _ _ _ => (de_if (dt_isN (de_ix (ix_1 hr) prim_ix1 (de_var (i := 5)) (de_var (i := 7)))) de_int (de_ix (ix_1 hr) prim_ix1 (de_ix (ix_1 hr) prim_ix1 (de_var (i := 4)) de_int) (de_ix (ix_1 hr) prim_ix1 (de_var (i := 5)) (de_var (i := 7))))))))) ds_nil) (ds_one (ds_ret (de_call (C.F 11) hr (T.fn 11) (T.kp 11) (T.bn 11) (.cons (.cons (.cons .nil))) (la_cons (de_ix (ix_1 hr) prim_ix1 (de_var (i := 4)) de_int) (la_cons (de_ix (ix_1 hr) prim_ix1 (de_var (i := 4)) de_int) (la_cons (de_var (i := 5)) la_nil))))))))))))))))
theorem ok11 (T : Tx K mg a fd ca) (KT : KTs K w mg) (C : AllF P w K mg base ca psN a fd k cl) (C2 : AllF2 P w K mg base ca psN a fd k cl2) (cdv : Value) (A : Around) (outer : List Env) (s : Shared) (H : Hp) (E : XK) (hr : Room k (A.deeper (envOfC "until" (defScope st11) s.heap.objs.size (a 11) cdv))) :
    PSs (bx P w K mg base nm11 "until" (defScope st11) (a 11) cdv A outer s H E) (defBody st11) (liftS ⟨K, w, ca⟩ (bd11 cl cl2)) := by
  unfold bd11
  exact (ds_cons (ds_set (i := 3) (sc11).nd (de_callTy call_list1 prim_list1 (T.no "list" (by decide)) PyProof.Rows.boot_list (la_cons (de_var (i := 1)) la_nil))) (ds_cons (ds_set (i := 4) (sc11).nd de_bl) (ds_cons (ds_while (dt_tru (de_var (i := 4))) (ds_cons (ds_set (i := 4) (sc11).nd de_bl) (ds_one (ds_for (di_revRg (T.no "reversed" (by decide)) (T.no "range" (by decide)) (de_callB call_len1 prim_len1 (T.no "len" (by decide)) PySem.boot_len (la_cons (de_var (i := 3)) la_nil))) (dg_name (i := 5) (sc11).nd) (ds_one (ds_if (PW.pt (dw_and (dt_cmp (op_eqD hr.units) prim_eq (de_ix (ix_1 hr) prim_ix1 (de_var (i := 3)) (de_var (i := 5))) de_int) (dw_and (dt_cmp (op_eqD hr.units) prim_eq (de_ix (ix_1 hr) prim_ix1 (de_var (i := 0)) (de_var (i := 5))) de_int) (dw_and (dt_notN (de_ix (ix_1 hr) prim_ix1 (de_var (i := 2)) (de_var (i := 5)))) (dw_and1 (dt_cmp (op_eqD hr.units) prim_eq (de_ix (ix_1 hr) prim_ix1 (de_var (i := 3)) (de_ix (ix_1 hr) prim_ix1 (de_var (i := 2)) (de_var (i := 5)))) de_int)))))) (ds_cons (ds_asg de_int (dg_sub hr (de_var (i := 3)) (de_var (i := 5)))) (ds_one (ds_set (i := 4) (sc11).nd de_bl))) ds_nil)))))) (ds_one (ds_ret (de_var (i := 3)))))))
theorem ok12 (T : Tx K mg a fd ca) (KT : KTs K w mg) (C : AllF P w K mg base ca psN a fd k cl) (C2 : AllF2 P w K mg base ca psN a fd k cl2) (cdv : Value) (A : Around) (outer : List Env) (s : Shared) (H : Hp) (E : XK) (hr : Room k (A.deeper (envOfC "holds" (defScope st12) s.heap.objs.size (a 12) cdv))) :
    PSs (bx P w K mg base nm12 "holds" (defScope st12) (a 12) cdv A outer s H E) (defBody st12) (liftS ⟨K, w, ca⟩ (bd12 cl cl2)) := by
  unfold bd12
  exact (ds_one (ds_ret (de_cmp (op_eqD hr.units) prim_eq (de_ix (ix_1 hr) prim_ix1 (de_meth (cands := [(0, 9)]) (T.m1 (by decide) rfl rfl) C.F hr (de_make (T.mk_ 0) (C2.F 6) (fun z => C2.z z 6) hr (T.bn 6) (T.cg 0) (.cons (.cons .nil)) (la_cons (de_var (i := 1)) (la_cons (de_var (i := 2)) la_nil))) (.cons .nil) (la_cons (de_var (i := 0)) la_nil)) (de_var (i := 3))) de_int)))
theorem ok13 (T : Tx K mg a fd ca) (KT : KTs K w mg) (C : AllF P w K mg base ca psN a fd k cl) (C2 : AllF2 P w K mg base ca psN a fd k cl2) (cdv : Value) (A : Around) (outer : List Env) (s : Shared) (H : Hp) (E : XK) (hr : Room k (A.deeper (envOfC "_law_start" (defScope st13) s.heap.objs.size (a 13) cdv))) :
    PSs (bx P w K mg base nm13 "_law_start" (defScope st13) (a 13) cdv A outer s H E) (defBody st13) (liftS ⟨K, w, ca⟩ (bd13 cl cl2)) := by
  unfold bd13
  exact (ds_one (ds_ret (de_disp hr (pps_cons de_str (de_lc (own := [("_law_cell", 1)]) (t := (.nm 1)) (sc13).nd (blkOk_by (own := [("_law_cell", 1)]) (by first | (show blkC nm13 (defScope st13) _ _ = true; decide +kernel) | (exact blk_in (N := nm13) (sc := defScope st13) rfl (by decide +kernel)))) (by decide) (di_seq (de_var (i := 0))) (fun _ _ _ _ _ => (pg_name (i := 1) (sc13).nd rfl (Or.inl rfl))) (fun _ _ _ _ _ => dts_nil) (fun _ _ _ _ _ => (de_callB call_abs prim_abs (T.no "abs" (by decide)) boot_abs (la_cons (de_callTy call_int1 prim_toInt (T.no "int" (by decide)) PyProof.Rows.boot_int (la_cons (de_var (i := 1)) la_nil)) la_nil)))) (pps_cons de_str de_int (pps_cons de_str de_int (pps_cons de_str (de_op op_addAll prim_add de_int (de_callB call_len1 prim_len1 (T.no "len" (by decide)) PySem.boot_len (la_cons (de_var (i := 0)) la_nil))) pps_nil)))))))
theorem ok14 (T : Tx K mg a fd ca) (KT : KTs K w mg) (C : AllF P w K mg base ca psN a fd k cl) (C2 : AllF2 P w K mg base ca psN a fd k cl2) (cdv : Value) (A : Around) (outer : List Env) (s : Shared) (H : Hp) (E : XK) (hr : Room k (A.deeper (envOfC "_law_draw" (defScope st14) s.heap.objs.size (a 14) cdv))) :
    PSs (bx P w K mg base nm14 "_law_draw" (defScope st14) (a 14) cdv A outer s H E) (defBody st14) (liftS ⟨K, w, ca⟩ (bd14 cl cl2)) := by
  unfold bd14
  exact (ds_cons (ds_if (PW.pt (dw_and (dt_cmp (op_eqD hr.units) prim_eq (de_ix (ix_1 hr) prim_ix1 (de_var (i := 0)) de_str) de_int) (dw_and1 (dt_cmp (op_ltA (DL.Room.u65 hr)) prim_lt (de_ix (ix_1 hr) prim_ix1 (de_var (i := 0)) de_str) (de_callB call_len1 prim_len1 (T.no "len" (by decide)) PySem.boot_len (la_cons (de_ix (ix_1 hr) prim_ix1 (de_var (i := 0)) de_str) la_nil)))))) (ds_cons (ds_set (i := 2) (sc14).nd (de_ix (ix_1 hr) prim_ix1 (de_ix (ix_1 hr) prim_ix1 (de_var (i := 0)) de_str) (de_ix (ix_1 hr) prim_ix1 (de_var (i := 0)) de_str))) (ds_cons (ds_asg (de_op op_addAll prim_add (de_ix (ix_1 hr) prim_ix1 (de_var (i := 0)) de_str) de_int) (dg_sub hr (de_var (i := 0)) de_str)) (ds_cons (ds_asg (de_op op_mod prim_mod (de_callTy call_int1 prim_toInt (T.no "int" (by decide)) PyProof.Rows.boot_int (la_cons (de_op op_addAll prim_add (de_op op_addAll prim_add (de_op op_mul prim_mul (de_ix (ix_1 hr) prim_ix1 (de_var (i := 0)) de_str) de_int) (de_var (i := 2))) de_int) la_nil)) de_int) (dg_sub hr (de_var (i := 0)) de_str)) (ds_cons (ds_if (dt_cmp (op_ltA (DL.Room.u65 hr)) prim_lt (de_var (i := 2)) (de_op op_pow prim_pow de_int de_int)) (ds_one (ds_ret (de_op op_mod prim_mod (de_callTy call_int1 prim_toInt (T.no "int" (by decide)) PyProof.Rows.boot_int (la_cons (de_var (i := 2)) la_nil)) (de_var (i := 1))))) ds_nil) (ds_one (ds_asg (de_var (i := 2)) (dg_sub hr (de_var (i := 0)) de_str))))))) ds_nil) (ds_cons (ds_if (dt_cmp op_gt prim_gt (de_ix (ix_1 hr) prim_ix1 (de_var (i := 0)) de_str) de_int) (ds_cons (ds_set (i := 3) (sc14).nd (de_op op_mod prim_mod (de_callTy call_int1 prim_toInt (T.no "int" (by decide)) PyProof.Rows.boot_int (la_cons (de_ix (ix_1 hr) prim_ix1 (de_var (i := 0)) de_str) la_nil)) (de_var (i := 1)))) (ds_cons (ds_asg (de_op op_fdiv prim_div (de_ix (ix_1 hr) prim_ix1 (de_var (i := 0)) de_str) (de_var (i := 1))) (dg_sub hr (de_var (i := 0)) de_str)) (ds_one (ds_ret (de_var (i := 3)))))) ds_nil) (ds_cons (ds_asg (de_op op_mod prim_mod (de_callTy call_int1 prim_toInt (T.no "int" (by decide)) PyProof.Rows.boot_int (la_cons (de_op op_addAll prim_add (de_op op_mul prim_mul (de_ix (ix_1 hr) prim_ix1 (de_var (i := 0)) de_str) de_int) de_int) la_nil)) de_int) (dg_sub hr (de_var (i := 0)) de_str)) (ds_one (ds_ret (de_op op_mod prim_mod (de_callTy call_int1 prim_toInt (T.no "int" (by decide)) PyProof.Rows.boot_int (la_cons (de_op op_mod prim_mod (de_callTy call_int1 prim_toInt (T.no "int" (by decide)) PyProof.Rows.boot_int (la_cons (de_op op_addAll prim_add (de_op op_mul prim_mul (de_ix (ix_1 hr) prim_ix1 (de_var (i := 0)) de_str) de_int) de_int) la_nil)) de_int) la_nil)) (de_var (i := 1))))))))
theorem ok15 (T : Tx K mg a fd ca) (KT : KTs K w mg) (C : AllF P w K mg base ca psN a fd k cl) (C2 : AllF2 P w K mg base ca psN a fd k cl2) (cdv : Value) (A : Around) (outer : List Env) (s : Shared) (H : Hp) (E : XK) (hr : Room k (A.deeper (envOfC "_law_pick" (defScope st15) s.heap.objs.size (a 15) cdv))) :
    PSs (bx P w K mg base nm15 "_law_pick" (defScope st15) (a 15) cdv A outer s H E) (defBody st15) (liftS ⟨K, w, ca⟩ (bd15 cl cl2)) := by
  unfold bd15
  exact (ds_one (ds_ret (de_ix (ix_1 hr) prim_ix1 (de_var (i := 1)) (de_call (C.F 14) hr (T.fn 14) (T.kp 14) (T.bn 14) (.cons (.cons .nil)) (la_cons (de_var (i := 0)) (la_cons (de_callB call_len1 prim_len1 (T.no "len" (by decide)) PySem.boot_len (la_cons (de_var (i := 1)) la_nil)) la_nil))))))
theorem ok16 (T : Tx K mg a fd ca) (KT : KTs K w mg) (C : AllF P w K mg base ca psN a fd k cl) (C2 : AllF2 P w K mg base ca psN a fd k cl2) (cdv : Value) (A : Around) (outer : List Env) (s : Shared) (H : Hp) (E : XK) (hr : Room k (A.deeper (envOfC "_law_is" (defScope st16) s.heap.objs.size (a 16) cdv))) :
    PSs (bx P w K mg base nm16 "_law_is" (defScope st16) (a 16) cdv A outer s H E) (defBody st16) (liftS ⟨K, w, ca⟩ (bd16 cl cl2)) := by
  unfold bd16
  exact (ds_one (ds_ret (de_and (de_isi (Ts := "bool") (de_var (i := 0)) (T.no "isinstance" (by decide)) (T.no "bool" (by decide)) (by decide +kernel)) (de_one (de_cmp (op_eqD hr.units) prim_eq (de_var (i := 0)) (de_var (i := 1)))))))
theorem ok17 (T : Tx K mg a fd ca) (KT : KTs K w mg) (C : AllF P w K mg base ca psN a fd k cl) (C2 : AllF2 P w K mg base ca psN a fd k cl2) (cdv : Value) (A : Around) (outer : List Env) (s : Shared) (H : Hp) (E : XK) (hr : Room k (A.deeper (envOfC "_law_once" (defScope st17) s.heap.objs.size (a 17) cdv))) :
    PSs (bx P w K mg base nm17 "_law_once" (defScope st17) (a 17) cdv A outer s H E) (defBody st17) (liftS ⟨K, w, ca⟩ (bd17 cl cl2)) := by
  unfold bd17
  exact (ds_cons (ds_set (i := 1) (sc17).nd (de_lst la_nil)) (ds_cons (ds_for (di_seq (de_var (i := 0))) (dg_name (i := 2) (sc17).nd) (ds_one (ds_if (dt_cmp (op_notIn1 hr) prim_notIn1 (de_var (i := 2)) (de_var (i := 1))) (ds_one (ds_expr (de_bm prim_app PySem.F.plainAttrs_list PySem.F.slot_list_append PySem.F.type_list_append mt_append (de_var (i := 1)) (la_cons (de_var (i := 2)) la_nil)))) ds_nil))) (ds_one (ds_ret (de_var (i := 1))))))
theorem ok18 (T : Tx K mg a fd ca) (KT : KTs K w mg) (C : AllF P w K mg base ca psN a fd k cl) (C2 : AllF2 P w K mg base ca psN a fd k cl2) (cdv : Value) (A : Around) (outer : List Env) (s : Shared) (H : Hp) (E : XK) (hr : Room k (A.deeper (envOfC "_law_promise" (defScope st18) s.heap.objs.size (a 18) cdv))) :
    PSs (bx P w K mg base nm18 "_law_promise" (defScope st18) (a 18) cdv A outer s H E) (defBody st18) (liftS ⟨K, w, ca⟩ (bd18 cl cl2)) := by
  unfold bd18
  exact (ds_cons (ds_set (i := 2) (sc18).nd (de_if (dt_cmp op_gt prim_gt (de_var (i := 1)) de_int) (de_call (C.F 14) hr (T.fn 14) (T.kp 14) (T.bn 14) (.cons (.cons .nil)) (la_cons (de_var (i := 0)) (la_cons de_int la_nil))) de_int)) (ds_cons (ds_if (dt_cmp (op_ltA (DL.Room.u65 hr)) prim_lt (de_var (i := 2)) de_int) (ds_cons (ds_set (i := 3) (sc18).nd (de_call (C.F 15) hr (T.fn 15) (T.kp 15) (T.bn 15) (.cons (.cons .nil)) (la_cons (de_var (i := 0)) (la_cons (de_lst (la_cons de_str (la_cons de_str (la_cons de_str (la_cons de_str (la_cons de_str la_nil)))))) la_nil)))) (ds_one (ds_ret (de_call (C.F 15) hr (T.fn 15) (T.kp 15) (T.bn 15) (.cons (.cons .nil)) (la_cons (de_var (i := 0)) (la_cons (de_lst (la_cons (de_tup (la_cons de_str (la_cons (de_var (i := 3)) (la_cons (de_call (C.F 15) hr (T.fn 15) (T.kp 15) (T.bn 15) (.cons (.cons .nil)) (la_cons (de_var (i := 0)) (la_cons (de_lst (la_cons de_str (la_cons de_str (la_cons de_str la_nil)))) la_nil))) la_nil)))) (la_cons (de_tup (la_cons de_str (la_cons de_str (la_cons de_str la_nil)))) (la_cons (de_tup (la_cons de_str la_nil)) la_nil)))) la_nil)))))) ds_nil) (ds_cons (ds_if (dt_cmp (op_in1 hr) prim_in1 (de_var (i := 2)) (de_lst (la_cons de_int (la_cons de_int la_nil)))) (ds_one (ds_ret (de_tup (la_cons (de_call (C.F 15) hr (T.fn 15) (T.kp 15) (T.bn 15) (.cons (.cons .nil)) (la_cons (de_var (i := 0)) (la_cons (de_lst (la_cons de_str (la_cons de_str (la_cons de_str la_nil)))) la_nil))) (la_cons (de_call (C.F 18) hr (T.fn 18) (T.kp 18) (T.bn 18) (.cons (.cons .nil)) (la_cons (de_var (i := 0)) (la_cons (de_op op_sub (prim_int fun _ _ => rfl) (de_var (i := 1)) de_int) la_nil))) la_nil))))) ds_nil) (ds_cons (ds_set (i := 4) (sc18).nd (de_call (C.F 15) hr (T.fn 15) (T.kp 15) (T.bn 15) (.cons (.cons .nil)) (la_cons (de_var (i := 0)) (la_cons (de_lst (la_cons de_str (la_cons de_str (la_cons de_str (la_cons de_str (la_cons de_str (la_cons de_str la_nil))))))) la_nil)))) (ds_one (ds_ret (de_tup (la_cons (de_var (i := 4)) (la_cons (de_call (C.F 18) hr (T.fn 18) (T.kp 18) (T.bn 18) (.cons (.cons .nil)) (la_cons (de_var (i := 0)) (la_cons (de_op op_sub (prim_int fun _ _ => rfl) (de_var (i := 1)) de_int) la_nil))) (la_cons (de_call (C.F 18) hr (T.fn 18) (T.kp 18) (T.bn 18) (.cons (.cons .nil)) (la_cons (de_var (i := 0)) (la_cons (de_op op_sub (prim_int fun _ _ => rfl) (de_var (i := 1)) de_int) la_nil))) la_nil))))))))))
theorem ok19 (T : Tx K mg a fd ca) (KT : KTs K w mg) (C : AllF P w K mg base ca psN a fd k cl) (C2 : AllF2 P w K mg base ca psN a fd k cl2) (cdv : Value) (A : Around) (outer : List Env) (s : Shared) (H : Hp) (E : XK) (hr : Room k (A.deeper (envOfC "_law_matches" (defScope st19) s.heap.objs.size (a 19) cdv))) :
    PSs (bx P w K mg base nm19 "_law_matches" (defScope st19) (a 19) cdv A outer s H E) (defBody st19) (liftS ⟨K, w, ca⟩ (bd19 cl cl2)) := by
  unfold bd19
  exact (ds_cons (ds_set (i := 2) (sc19).nd (de_dnew (k := k))) (ds_cons (ds_for (di_seq (de_lst (la_cons (de_tup (la_cons de_int (la_cons (de_var (i := 0)) la_nil))) (la_cons (de_tup (la_cons (de_callB call_len1 prim_len1 (T.no "len" (by decide)) PySem.boot_len (la_cons (de_var (i := 0)) la_nil)) (la_cons (de_var (i := 1)) la_nil))) la_nil)))) (dg_name (i := 3) (sc19).nd) (ds_cons (ds_set (i := 4) (sc19).nd (de_lst la_nil)) (ds_one (ds_for (di_rng1 (T.no "range" (by decide)) (de_callB call_len1 prim_len1 (T.no "len" (by decide)) PySem.boot_len (la_cons (de_ix (ix_1 hr) prim_ix1 (de_var (i := 3)) de_int) la_nil))) (dg_name (i := 5) (sc19).nd) (ds_cons (ds_if (dt_cmp (op_eqD hr.units) prim_eq (de_ix (ix_1 hr) prim_ix1 (de_ix (ix_1 hr) prim_ix1 (de_ix (ix_1 hr) prim_ix1 (de_var (i := 3)) de_int) (de_var (i := 5))) de_int) de_str) (ds_one (ds_expr (de_bm prim_app PySem.F.plainAttrs_list PySem.F.slot_list_append PySem.F.type_list_append mt_append (de_var (i := 4)) (la_cons (de_op op_addAll prim_add (de_ix (ix_1 hr) prim_ix1 (de_var (i := 3)) de_int) (de_var (i := 5))) la_nil)))) ds_nil) (ds_one (ds_if (PW.pt (dw_and (dt_cmp (op_eqD hr.units) prim_eq (de_ix (ix_1 hr) prim_ix1 (de_ix (ix_1 hr) prim_ix1 (de_ix (ix_1 hr) prim_ix1 (de_var (i := 3)) de_int) (de_var (i := 5))) de_int) de_str) (dw_and1 (dt_cmp op_gt prim_gt (de_callB call_len1 prim_len1 (T.no "len" (by decide)) PySem.boot_len (la_cons (de_var (i := 4)) la_nil)) de_int)))) (ds_one (ds_asg (de_op op_addAll prim_add (de_ix (ix_1 hr) prim_ix1 (de_var (i := 3)) de_int) (de_var (i := 5))) (dg_sub hr (de_var (i := 2)) (de_bm0 prim_pop PySem.F.plainAttrs_list PySem.F.slot_list_pop PySem.F.type_list_pop mt_pop (de_var (i := 4)))))) ds_nil))))))) (ds_one (ds_ret (de_var (i := 2))))))
theorem ok20 (T : Tx K mg a fd ca) (KT : KTs K w mg) (C : AllF P w K mg base ca psN a fd k cl) (C2 : AllF2 P w K mg base ca psN a fd k cl2) (cdv : Value) (A : Around) (outer : List Env) (s : Shared) (H : Hp) (E : XK) (hr : Room k (A.deeper (envOfC "_law_behind" (defScope st20) s.heap.objs.size (a 20) cdv))) :
    PSs (bx P w K mg base nm20 "_law_behind" (defScope st20) (a 20) cdv A outer s H E) (defBody st20) (liftS ⟨K, w, ca⟩ (bd20 cl cl2)) := by
  unfold bd20
  exact (ds_one (ds_ret (de_if (dt_cmp (op_ltA (DL.Room.u65 hr)) prim_lt (de_op op_addAll prim_add (de_var (i := 2)) de_int) (de_callB call_len1 prim_len1 (T.no "len" (by decide)) PySem.boot_len (la_cons (de_var (i := 0)) la_nil))) (de_op op_addAll prim_add (de_var (i := 2)) de_int) (de_callB call_len1 prim_len1 (T.no "len" (by decide)) PySem.boot_len (la_cons (de_var (i := 1)) la_nil)))))
theorem ok21 (T : Tx K mg a fd ca) (KT : KTs K w mg) (C : AllF P w K mg base ca psN a fd k cl) (C2 : AllF2 P w K mg base ca psN a fd k cl2) (cdv : Value) (A : Around) (outer : List Env) (s : Shared) (H : Hp) (E : XK) (hr : Room k (A.deeper (envOfC "_law_across" (defScope st21) s.heap.objs.size (a 21) cdv))) :
    PSs (bx P w K mg base nm21 "_law_across" (defScope st21) (a 21) cdv A outer s H E) (defBody st21) (liftS ⟨K, w, ca⟩ (bd21 cl cl2)) := by
  unfold bd21
  exact (ds_cons (ds_if (dt_cmp (op_eqD hr.units) prim_eq (de_ix (ix_1 hr) prim_ix1 (de_ix (ix_1 hr) prim_ix1 (de_var (i := 0)) (de_var (i := 3))) de_int) de_str) (ds_one (ds_ret (de_bmG (prim_get hr) ty_dct PySem.F.plainAttrs_dict PySem.F.slot_dict_get PySem.F.type_dict_get (de_var (i := 2)) (la_cons (de_var (i := 3)) la_nil)))) ds_nil) (ds_cons (ds_set (i := 4) (sc21).nd (de_call (C.F 20) hr (T.fn 20) (T.kp 20) (T.bn 20) (.cons (.cons (.cons .nil))) (la_cons (de_var (i := 0)) (la_cons (de_var (i := 1)) (la_cons (de_var (i := 3)) la_nil))))) (ds_one (ds_ret (de_if (dt_cmp (op_eqD hr.units) prim_eq (de_ix (ix_1 hr) prim_ix1 (de_ix (ix_1 hr) prim_ix1 (de_var (i := 0)) (de_var (i := 4))) de_int) de_str) de_non (de_var (i := 4)))))))
theorem ok22 (T : Tx K mg a fd ca) (KT : KTs K w mg) (C : AllF P w K mg base ca psN a fd k cl) (C2 : AllF2 P w K mg base ca psN a fd k cl2) (cdv : Value) (A : Around) (outer : List Env) (s : Shared) (H : Hp) (E : XK) (hr : Room k (A.deeper (envOfC "_law_truths" (defScope st22) s.heap.objs.size (a 22) cdv))) :
    PSs (bx P w K mg base nm22 "_law_truths" (defScope st22) (a 22) cdv A outer s H E) (defBody st22) (liftS ⟨K, w, ca⟩ (bd22 cl cl2)) := by
  unfold bd22
  exact (ds_cons (ds_set (i := 3) (sc22).nd (de_op op_addAll prim_add (de_callTy call_list1 prim_list1 (T.no "list" (by decide)) PyProof.Rows.boot_list (la_cons (de_var (i := 1)) la_nil)) (de_callTy call_list1 prim_list1 (T.no "list" (by decide)) PyProof.Rows.boot_list (la_cons (de_var (i := 2)) la_nil)))) (ds_cons (ds_set (i := 4) (sc22).nd (de_call (C.F 19) hr (T.fn 19) (T.kp 19) (T.bn 19) (.cons (.cons .nil)) (la_cons (de_var (i := 1)) (la_cons (de_var (i := 2)) la_nil)))) (ds_cons (ds_if (dt_cmp (op_eqD hr.units) prim_eq (de_ix (ix_1 hr) prim_ix1 (de_var (i := 0)) de_int) de_str) (ds_one (ds_ret (de_lc (own := [("_law_mark", 12)]) (t := (.nm 12)) (sc22).nd (blkOk_by (own := [("_law_mark", 12)]) (by first | (show blkC nm22 (defScope st22) _ _ = true; decide +kernel) | (exact blk_in (N := nm22) (sc := defScope st22) rfl (by decide +kernel)))) (by decide) (di_seq (de_var (i := 3))) (fun _ _ _ _ _ => (pg_name (i := 12) (sc22).nd rfl (Or.inl rfl))) (fun _ _ _ _ _ => dts_nil) (fun _ _ _ _ _ => de_bl)))) ds_nil) (ds_cons (ds_if (dt_cmp (op_eqD hr.units) prim_eq (de_ix (ix_1 hr) prim_ix1 (de_var (i := 0)) de_int) de_str) (ds_one (ds_ret (de_lc (own := [("_law_mark", 12)]) (t := (.nm 12)) (sc22).nd (blkOk_by (own := [("_law_mark", 12)]) (by first | (show blkC nm22 (defScope st22) _ _ = true; decide +kernel) | (exact blk_in (N := nm22) (sc := defScope st22) rfl (by decide +kernel)))) (by decide) (di_seq (de_var (i := 3))) (fun _ _ _ _ _ => (pg_name (i := 12) (sc22).nd rfl (Or.inl rfl))) (fun _ _ _ _ _ => dts_nil) (fun _ _ _ _ _ => (de_and (de_cmp (op_eqD hr.units) prim_eq (de_ix (ix_1 hr) prim_ix1 (de_var (i := 12)) de_int) (de_ix (ix_1 hr) prim_ix1 (de_var (i := 0)) de_int)) (de_one (de_cmp (op_in1 hr) prim_in1 (de_ix (ix_1 hr) prim_ix1 (de_var (i := 0)) de_int) (de_lst (la_cons de_str (la_cons (de_ix (ix_1 hr) prim_ix1 (de_var (i := 12)) de_int) la_nil)))))))))) ds_nil) (ds_cons (ds_set (i := 5) (sc22).nd (de_lc (own := [("_law_part", 13)]) (t := (.nm 13)) (sc22).nd (blkOk_by (own := [("_law_part", 13)]) (by first | (show blkC nm22 (defScope st22) _ _ = true; decide +kernel) | (exact blk_in (N := nm22) (sc := defScope st22) rfl (by decide +kernel)))) (by decide) (di_seq (de_slice (de_var (i := 0)) (do_some de_int) do_none)) (fun _ _ _ _ _ => (pg_name (i := 13) (sc22).nd rfl (Or.inl rfl))) (fun _ _ _ _ _ => dts_nil) (fun _ _ _ _ _ => (de_call (C.F 22) hr (T.fn 22) (T.kp 22) (T.bn 22) (.cons (.cons (.cons .nil))) (la_cons (de_var (i := 13)) (la_cons (de_var (i := 1)) (la_cons (de_var (i := 2)) la_nil))))))) (ds_cons (ds_if (dt_cmp (op_eqD hr.units) prim_eq (de_ix (ix_1 hr) prim_ix1 (de_var (i := 0)) de_int) de_str) (ds_one (ds_ret (de_lc (own := [("_law_i", 7)]) (t := (.nm 7)) (sc22).nd (blkOk_by (own := [("_law_i", 7)]) (by first | (show blkC nm22 (defScope st22) _ _ = true; decide +kernel) | (exact blk_in (N := nm22) (sc := defScope st22) rfl (by decide +kernel)))) (by decide) (di_rng1 (T.no "range" (by decide)) (de_callB call_len1 prim_len1 (T.no "len" (by decide)) PySem.boot_len (la_cons (de_var (i := 3)) la_nil))) (fun _ _ _ _ _ => (pg_name (i := 7) (sc22).nd rfl (Or.inl rfl))) (fun _ _ _ _ _ => dts_nil) (fun _ _ _ _ _ => (de_not (de_ix (ix_1 hr) prim_ix1 (de_ix (ix_1 hr) prim_ix1 (de_var (i := 5)) de_int) (de_var (i := 7)))))))) ds_nil) (ds_cons (ds_if (dt_cmp (op_eqD hr.units) prim_eq (de_ix (ix_1 hr) prim_ix1 (de_var (i := 0)) de_int) de_str) (ds_one (ds_ret (de_lc (own := [("_law_i", 7)]) (t := (.nm 7)) (sc22).nd (blkOk_by (own := [("_law_i", 7)]) (by first | (show blkC nm22 (defScope st22) _ _ = true; decide +kernel) | (exact blk_in (N := nm22) (sc := defScope st22) rfl (by decide +kernel)))) (by decide) (di_rng1 (T.no "range" (by decide)) (de_callB call_len1 prim_len1 (T.no "len" (by decide)) PySem.boot_len (la_cons (de_var (i := 3)) la_nil))) (fun _ _ _ _ _ => (pg_name (i := 7) (sc22).nd rfl (Or.inl rfl))) (fun _ _ _ _ _ => dts_nil) (fun _ _ _ _ _ => (de_and (de_ix (ix_1 hr) prim_ix1 (de_ix (ix_1 hr) prim_ix1 (de_var (i := 5)) de_int) (de_var (i := 7))) (de_one (de_ix (ix_1 hr) prim_ix1 (de_ix (ix_1 hr) prim_ix1 (de_var (i := 5)) de_int) (de_var (i := 7))))))))) ds_nil) (ds_cons (ds_if (dt_cmp (op_eqD hr.units) prim_eq (de_ix (ix_1 hr) prim_ix1 (de_var (i := 0)) de_int) de_str) (ds_one (ds_ret (de_lc (own := [("_law_i", 7)]) (t := (.nm 7)) (sc22).nd (blkOk_by (own := [("_law_i", 7)]) (by first | (show blkC nm22 (defScope st22) _ _ = true; decide +kernel) | (exact blk_in (N := nm22) (sc := defScope st22) rfl (by decide +kernel)))) (by decide) (di_rng1 (T.no "range" (by decide)) (de_callB call_len1 prim_len1 (T.no "len" (by decide)) PySem.boot_len (la_cons (de_var (i := 3)) la_nil))) (fun _ _ _ _ _ => (pg_name (i := 7) (sc22).nd rfl (Or.inl rfl))) (fun _ _ _ _ _ => dts_nil) (fun _ _ _ _ _ => (de_or (de_ix (ix_1 hr) prim_ix1 (de_ix (ix_1 hr) prim_ix1 (de_var (i := 5)) de_int) (de_var (i := 7))) (de_one (de_ix (ix_1 hr) prim_ix1 (de_ix (ix_1 hr) prim_ix1 (de_var (i := 5)) de_int) (de_var (i := 7))))))))) ds_nil) (ds_cons (ds_set (i := 6) (sc22).nd (de_lst la_nil)) (ds_cons (ds_for (di_rng1 (T.no "range" (by decide)) (de_callB call_len1 prim_len1 (T.no "len" (by decide)) PySem.boot_len (la_cons (de_var (i := 3)) la_nil))) (dg_name (i := 7) (sc22).nd) (ds_cons (ds_set (i := 8) (sc22).nd (de_var (i := 7))) (ds_cons (ds_set (i := 9) (sc22).nd de_bl) (ds_cons (ds_for (di_rng1 (T.no "range" (by decide)) (de_op op_addAll prim_add (de_callB call_len1 prim_len1 (T.no "len" (by decide)) PySem.boot_len (la_cons (de_var (i := 3)) la_nil)) de_int)) (dg_name (i := 10) (sc22).nd) (ds_cons (ds_set (i := 11) (sc22).nd (de_call (C.F 20) hr (T.fn 20) (T.kp 20) (T.bn 20) (.cons (.cons (.cons .nil))) (la_cons (de_var (i := 3)) (la_cons (de_var (i := 1)) (la_cons (de_var (i := 8)) la_nil))))) (ds_cons (ds_if (dt_cmp (op_in1 hr) prim_in1 (de_ix (ix_1 hr) prim_ix1 (de_var (i := 0)) de_int) (de_lst (la_cons de_str (la_cons de_str la_nil)))) (ds_one (ds_set (i := 11) (sc22).nd (de_call (C.F 21) hr (T.fn 21) (T.kp 21) (T.bn 21) (.cons (.cons (.cons (.cons .nil)))) (la_cons (de_var (i := 3)) (la_cons (de_var (i := 1)) (la_cons (de_var (i := 4)) (la_cons (de_var (i := 8)) la_nil))))))) ds_nil) (ds_cons (ds_if (dt_cmp (op_in1 hr) prim_in1 (de_ix (ix_1 hr) prim_ix1 (de_var (i := 0)) de_int) (de_lst (la_cons de_str (la_cons de_str la_nil)))) (ds_cons (ds_set (i := 9) (sc22).nd (de_and (de_notN (de_var (i := 11))) (de_one (de_ix (ix_1 hr) prim_ix1 (de_ix (ix_1 hr) prim_ix1 (de_var (i := 5)) de_int) (de_var (i := 11)))))) (ds_one ds_break)) ds_nil) (ds_cons (ds_if (dt_tru (de_ix (ix_1 hr) prim_ix1 (de_ix (ix_1 hr) prim_ix1 (de_var (i := 5)) de_int) (de_var (i := 8)))) (ds_cons (ds_set (i := 9) (sc22).nd de_bl) (ds_one ds_break)) ds_nil) (ds_cons (ds_if (PW.pt (dw_or (dt_not (dt_tru (de_ix (ix_1 hr) prim_ix1 (de_ix (ix_1 hr) prim_ix1 (de_var (i := 5)) de_int) (de_var (i := 8))))) (dw_or1 (dt_isN (de_var (i := 11)))))) (ds_one ds_break) ds_nil) (ds_one (ds_set (i := 8) (sc22).nd (de_var (i := 11)))))))))) (ds_one (ds_expr (de_bm prim_app PySem.F.plainAttrs_list PySem.F.slot_list_append PySem.F.type_list_append mt_append (de_var (i := 6)) (la_cons (de_var (i := 9)) la_nil)))))))) (ds_one (ds_ret (de_var (i := 6))))))))))))))
theorem ok23 (T : Tx K mg a fd ca) (KT : KTs K w mg) (C : AllF P w K mg base ca psN a fd k cl) (C2 : AllF2 P w K mg base ca psN a fd k cl2) (cdv : Value) (A : Around) (outer : List Env) (s : Shared) (H : Hp) (E : XK) (hr : Room k (A.deeper (envOfC "_law_is_name" (defScope st23) s.heap.objs.size (a 23) cdv))) :
    PSs (bx P w K mg base nm23 "_law_is_name" (defScope st23) (a 23) cdv A outer s H E) (defBody st23) (liftS ⟨K, w, ca⟩ (bd23 cl cl2)) := by
  unfold bd23
  exact (ds_cons (ds_set (i := 1) (sc23).nd (de_and (de_chain op_le prim_le op_le prim_le de_int (de_callB call_len1 prim_len1 (T.no "len" (by decide)) PySem.boot_len (la_cons (de_var (i := 0)) la_nil)) de_int) (de_one (de_callB (cr_all rfl) prim_all (T.no "all" (by decide)) boot_all (la_cons (de_lc (own := [("_law_sign", 2)]) (t := (.nm 2)) (sc23).nd (blkOk_by (own := [("_law_sign", 2)]) (by first | (show blkC nm23 (defScope st23) _ _ = true; decide +kernel) | (exact blk_in (N := nm23) (sc := defScope st23) rfl (by decide +kernel)))) (by decide) (di_txt (de_var (i := 0))) (fun _ _ _ _ _ => (pg_name (i := 2) (sc23).nd rfl (Or.inl rfl))) (fun _ _ _ _ _ => dts_nil) (fun _ _ _ _ _ => (de_cmp op_inS prim_inS (de_var (i := 2)) de_str))) la_nil))))) (ds_one (ds_ret (de_and (de_var (i := 1)) (de_one (de_cmp (op_notIn1 hr) prim_notIn1 (de_var (i := 0)) (de_lst (la_cons de_str (la_cons de_str (la_cons de_str (la_cons de_str la_nil)))))))))))
theorem ok24 (T : Tx K mg a fd ca) (KT : KTs K w mg) (C : AllF P w K mg base ca psN a fd k cl) (C2 : AllF2 P w K mg base ca psN a fd k cl2) (cdv : Value) (A : Around) (outer : List Env) (s : Shared) (H : Hp) (E : XK) (hr : Room k (A.deeper (envOfC "_law_good" (defScope st24) s.heap.objs.size (a 24) cdv))) :
    PSs (bx P w K mg base nm24 "_law_good" (defScope st24) (a 24) cdv A outer s H E) (defBody st24) (liftS ⟨K, w, ca⟩ (bd24 cl cl2)) := by
  unfold bd24
  exact (ds_cons (ds_if (PW.pt (dw_or (dt_cmp (op_eqD hr.units) prim_eq (de_var (i := 1)) de_int) (dw_or (dt_not (dt_tru (de_isi (Ts := "tuple") (de_var (i := 0)) (T.no "isinstance" (by decide)) (T.no "tuple" (by decide)) (by decide +kernel)))) (dw_or (dt_cmp (op_eqD hr.units) prim_eq (de_callB call_len1 prim_len1 (T.no "len" (by decide)) PySem.boot_len (la_cons (de_var (i := 0)) la_nil)) de_int) (dw_or1 (dt_not (dt_tru (de_isi (Ts := "str") (de_ix (ix_1 hr) prim_ix1 (de_var (i := 0)) de_int) (T.no "isinstance" (by decide)) (T.no "str" (by decide)) (by decide +kernel))))))))) (ds_one (ds_ret de_bl)) ds_nil) (ds_cons (ds_if (dt_cmp (op_eqD hr.units) prim_eq (de_ix (ix_1 hr) prim_ix1 (de_var (i := 0)) de_int) de_str) (ds_cons (ds_if (PW.pt (dw_or (dt_cmp (op_neD hr.units) prim_ne (de_callB call_len1 prim_len1 (T.no "len" (by decide)) PySem.boot_len (la_cons (de_var (i := 0)) la_nil)) de_int) (dw_or (dt_cmp (op_notIn1 hr) prim_notIn1 (de_ix (ix_1 hr) prim_ix1 (de_var (i := 0)) de_int) (de_lst (la_cons de_str (la_cons de_str (la_cons de_str (la_cons de_str la_nil)))))) (dw_or1 (dt_not (dt_tru (de_isi (Ts := "str") (de_ix (ix_1 hr) prim_ix1 (de_var (i := 0)) de_int) (T.no "isinstance" (by decide)) (T.no "str" (by decide)) (by decide +kernel)))))))) (ds_one (ds_ret de_bl)) ds_nil) (ds_one (ds_ret (de_or (de_cmp (op_eqD hr.units) prim_eq (de_ix (ix_1 hr) prim_ix1 (de_var (i := 0)) de_int) de_str) (de_one (de_call (C.F 23) hr (T.fn 23) (T.kp 23) (T.bn 23) (.cons .nil) (la_cons (de_ix (ix_1 hr) prim_ix1 (de_var (i := 0)) de_int) la_nil))))))) ds_nil) (ds_cons (ds_set (i := 2) (sc24).nd (de_disp hr (pps_cons de_str de_int (pps_cons de_str de_int (pps_cons de_str de_int (pps_cons de_str de_int (pps_cons de_str de_int (pps_cons de_str de_int (pps_cons de_str de_int (pps_cons de_str de_int pps_nil)))))))))) (ds_cons (ds_if (dt_cmp (op_neD hr.units) prim_ne (de_op op_sub (prim_int fun _ _ => rfl) (de_callB call_len1 prim_len1 (T.no "len" (by decide)) PySem.boot_len (la_cons (de_var (i := 0)) la_nil)) de_int) (de_bmG (prim_get hr) ty_dct PySem.F.plainAttrs_dict PySem.F.slot_dict_get PySem.F.type_dict_get (de_var (i := 2)) (la_cons (de_ix (ix_1 hr) prim_ix1 (de_var (i := 0)) de_int) (la_cons (de_un un_neg prim_neg de_int) la_nil)))) (ds_one (ds_ret de_bl)) ds_nil) (ds_one (ds_ret (de_callB (cr_all rfl) prim_all (T.no "all" (by decide)) boot_all (la_cons (de_lc (own := [("_law_part", 3)]) (t := (.nm 3)) (sc24).nd (blkOk_by (own := [("_law_part", 3)]) (by first | (show blkC nm24 (defScope st24) _ _ = true; decide +kernel) | (exact blk_in (N := nm24) (sc := defScope st24) rfl (by decide +kernel)))) (by decide) (di_seq (de_slice (de_var (i := 0)) (do_some de_int) do_none)) (fun _ _ _ _ _ => (pg_name (i := 3) (sc24).nd rfl (Or.inl rfl))) (fun _ _ _ _ _ => dts_nil) (fun _ _ _ _ _ => (de_call (C.F 24) hr (T.fn 24) (T.kp 24) (T.bn 24) (.cons (.cons .nil)) (la_cons (de_var (i := 3)) (la_cons (de_op op_sub (prim_int fun _ _ => rfl) (de_var (i := 1)) de_int) la_nil))))) la_nil))))))))
theorem ok25 (T : Tx K mg a fd ca) (KT : KTs K w mg) (C : AllF P w K mg base ca psN a fd k cl) (C2 : AllF2 P w K mg base ca psN a fd k cl2) (cdv : Value) (A : Around) (outer : List Env) (s : Shared) (H : Hp) (E : XK) (hr : Room k (A.deeper (envOfC "_law_ahead" (defScope st25) s.heap.objs.size (a 25) cdv))) :
    PSs (bx P w K mg base nm25 "_law_ahead" (defScope st25) (a 25) cdv A outer s H E) (defBody st25) (liftS ⟨K, w, ca⟩ (bd25 cl cl2)) := by
  unfold bd25
  exact (ds_cons (ds_if (dt_cmp (op_in1 hr) prim_in1 (de_ix (ix_1 hr) prim_ix1 (de_var (i := 0)) de_int) (de_lst (la_cons de_str (la_cons de_str la_nil)))) (ds_one (ds_ret (de_lst la_nil))) ds_nil) (ds_cons (ds_set (i := 1) (sc25).nd (de_if (dt_cmp (op_in1 hr) prim_in1 (de_ix (ix_1 hr) prim_ix1 (de_var (i := 0)) de_int) (de_lst (la_cons de_str (la_cons de_str (la_cons de_str (la_cons de_str la_nil)))))) (de_lst (la_cons (de_var (i := 0)) la_nil)) (de_lst la_nil))) (ds_cons (ds_for (di_seq (de_slice (de_var (i := 0)) (do_some de_int) do_none)) (dg_name (i := 2) (sc25).nd) (ds_one (ds_expr (de_bm prim_extQ PySem.F.plainAttrs_list PySem.F.slot_list_extend PySem.F.type_list_extend mt_extA (de_var (i := 1)) (la_cons (de_call (C.F 25) hr (T.fn 25) (T.kp 25) (T.bn 25) (.cons .nil) (la_cons (de_var (i := 2)) la_nil)) la_nil))))) (ds_one (ds_ret (de_call (C.F 17) hr (T.fn 17) (T.kp 17) (T.bn 17) (.cons .nil) (la_cons (de_var (i := 1)) la_nil)))))))
theorem ok26 (T : Tx K mg a fd ca) (KT : KTs K w mg) (C : AllF P w K mg base ca psN a fd k cl) (C2 : AllF2 P w K mg base ca psN a fd k cl2) (cdv : Value) (A : Around) (outer : List Env) (s : Shared) (H : Hp) (E : XK) (hr : Room k (A.deeper (envOfC "_law_odd" (defScope st26) s.heap.objs.size (a 26) cdv))) :
    PSs (bx P w K mg base nm26 "_law_odd" (defScope st26) (a 26) cdv A outer s H E) (defBody st26) (liftS ⟨K, w, ca⟩ (bd26 cl cl2)) := by
  unfold bd26
  exact (ds_cons (ds_set (i := 2) (sc26).nd (de_call (C.F 14) hr (T.fn 14) (T.kp 14) (T.bn 14) (.cons (.cons .nil)) (la_cons (de_var (i := 0)) (la_cons de_int la_nil)))) (ds_cons (ds_if (dt_cmp (op_eqD hr.units) prim_eq (de_var (i := 2)) de_int) (ds_one (ds_ret (de_tup (la_cons (de_call (C.F 15) hr (T.fn 15) (T.kp 15) (T.bn 15) (.cons (.cons .nil)) (la_cons (de_var (i := 0)) (la_cons (de_lst (la_cons de_str (la_cons de_str (la_cons de_str (la_cons de_str (la_cons de_str la_nil)))))) la_nil))) (la_cons (de_var (i := 1)) la_nil))))) ds_nil) (ds_cons (ds_if (dt_cmp (op_eqD hr.units) prim_eq (de_var (i := 2)) de_int) (ds_one (ds_ret (de_tup (la_cons de_str (la_cons (de_var (i := 1)) (la_cons (de_tup (la_cons de_str (la_cons (de_call (C.F 15) hr (T.fn 15) (T.kp 15) (T.bn 15) (.cons (.cons .nil)) (la_cons (de_var (i := 0)) (la_cons (de_lst (la_cons de_str (la_cons de_str la_nil))) la_nil))) (la_cons (de_call (C.F 15) hr (T.fn 15) (T.kp 15) (T.bn 15) (.cons (.cons .nil)) (la_cons (de_var (i := 0)) (la_cons (de_lst (la_cons de_str (la_cons de_str (la_cons de_str (la_cons de_str la_nil))))) la_nil))) la_nil)))) la_nil)))))) ds_nil) (ds_cons (ds_if (dt_cmp (op_eqD hr.units) prim_eq (de_var (i := 2)) de_int) (ds_cons (ds_for (di_rng1 (T.no "range" (by decide)) (de_call (C.F 15) hr (T.fn 15) (T.kp 15) (T.bn 15) (.cons (.cons .nil)) (la_cons (de_var (i := 0)) (la_cons (de_lst (la_cons de_int (la_cons de_int (la_cons de_int (la_cons de_int la_nil))))) la_nil)))) (dg_name (i := 3) (sc26).nd) (ds_one (ds_set (i := 1) (sc26).nd (de_tup (la_cons de_str (la_cons (de_var (i := 1)) la_nil)))))) (ds_one (ds_ret (de_var (i := 1))))) ds_nil) (ds_cons (ds_for (di_rng1 (T.no "range" (by decide)) (de_call (C.F 15) hr (T.fn 15) (T.kp 15) (T.bn 15) (.cons (.cons .nil)) (la_cons (de_var (i := 0)) (la_cons (de_lst (la_cons de_int (la_cons de_int (la_cons de_int la_nil)))) la_nil)))) (dg_name (i := 3) (sc26).nd) (ds_one (ds_set (i := 1) (sc26).nd (de_call (C.F 15) hr (T.fn 15) (T.kp 15) (T.bn 15) (.cons (.cons .nil)) (la_cons (de_var (i := 0)) (la_cons (de_lst (la_cons (de_tup (la_cons de_str (la_cons (de_var (i := 1)) la_nil))) (la_cons (de_tup (la_cons de_str (la_cons (de_var (i := 1)) la_nil))) la_nil))) la_nil)))))) (ds_one (ds_ret (de_var (i := 1)))))))))
theorem ok27 (T : Tx K mg a fd ca) (KT : KTs K w mg) (C : AllF P w K mg base ca psN a fd k cl) (C2 : AllF2 P w K mg base ca psN a fd k cl2) (cdv : Value) (A : Around) (outer : List Env) (s : Shared) (H : Hp) (E : XK) (hr : Room k (A.deeper (envOfC "law" (defScope st27) s.heap.objs.size (a 27) cdv))) :
    PSs (bx P w K mg base nm27 "law" (defScope st27) (a 27) cdv A outer s H E) (defBody st27) (liftS ⟨K, w, ca⟩ (bd27 cl cl2)) := by
  unfold bd27
  exact (ds_cons (ds_set (i := 1) (sc27).nd (de_call (C.F 13) hr (T.fn 13) (T.kp 13) (T.bn 13) (.cons .nil) (la_cons (de_var (i := 0)) la_nil))) (ds_cons (ds_set (i := 2) (sc27).nd (de_call (C.F 18) hr (T.fn 18) (T.kp 18) (T.bn 18) (.cons (.cons .nil)) (la_cons (de_var (i := 1)) (la_cons (de_call (C.F 14) hr (T.fn 14) (T.kp 14) (T.bn 14) (.cons (.cons .nil)) (la_cons (de_var (i := 1)) (la_cons de_int la_nil))) la_nil)))) (ds_cons (ds_if (dt_cmp (op_eqD hr.units) prim_eq (de_call (C.F 14) hr (T.fn 14) (T.kp 14) (T.bn 14) (.cons (.cons .nil)) (la_cons (de_var (i := 1)) (la_cons de_int la_nil))) de_int) (ds_one (ds_set (i := 2) (sc27).nd (de_call (C.F 26) hr (T.fn 26) (T.kp 26) (T.bn 26) (.cons (.cons .nil)) (la_cons (de_var (i := 1)) (la_cons (de_var (i := 2)) la_nil))))) ds_nil) (ds_cons (ds_set (i := 3) (sc27).nd (de_and (de_call (C.F 24) hr (T.fn 24) (T.kp 24) (T.bn 24) (.cons (.cons .nil)) (la_cons (de_var (i := 2)) (la_cons de_int la_nil))) (de_one (de_cmp op_le prim_le (de_callB call_len1 prim_len1 (T.no "len" (by decide)) PySem.boot_len (la_cons (de_call (C.F 25) hr (T.fn 25) (T.kp 25) (T.bn 25) (.cons .nil) (la_cons (de_var (i := 2)) la_nil)) la_nil)) de_int)))) (ds_cons (ds_if (dt_not (dt_tru (de_call (C.F 16) hr (T.fn 16) (T.kp 16) (T.bn 16) (.cons (.cons .nil)) (la_cons (de_call (C.F 4) hr (T.fn 4) (T.kp 4) (T.bn 4) (.cons .nil) (la_cons (de_var (i := 2)) la_nil)) (la_cons (de_var (i := 3)) la_nil))))) (ds_one (ds_ret de_bl)) ds_nil) (ds_cons (ds_if (dt_not (dt_tru (de_var (i := 3)))) (ds_one (ds_ret de_bl)) ds_nil) (ds_cons (ds_set (i := 4) (sc27).nd (de_lst (la_cons (de_tup (la_cons de_str (la_cons de_str la_nil))) (la_cons (de_tup (la_cons de_str (la_cons de_str la_nil))) (la_cons (de_tup (la_cons de_str (la_cons de_str la_nil))) (la_cons (de_tup (la_cons de_str (la_cons de_str la_nil))) (la_cons (de_tup (la_cons de_str (la_cons de_str la_nil))) (la_cons (de_tup (la_cons de_str (la_cons de_str la_nil))) la_nil)))))))) (ds_cons (ds_set (i := 5) (sc27).nd (de_callTy call_tuple_of prim_tuple (T.no "tuple" (by decide)) PyProof.Rows.boot_tuple (la_cons (de_lc (own := [("_law_k", 8)]) (t := (.nm 8)) (sc27).nd (blkOk_by (own := [("_law_k", 8)]) (by first | (show blkC nm27 (defScope st27) _ _ = true; decide +kernel) | (exact blk_in (N := nm27) (sc := defScope st27) rfl (by decide +kernel)))) (by decide) (di_rng1 (T.no "range" (by decide)) (de_call (C.F 14) hr (T.fn 14) (T.kp 14) (T.bn 14) (.cons (.cons .nil)) (la_cons (de_var (i := 1)) (la_cons de_int la_nil)))) (fun _ _ _ _ _ => (pg_name (i := 8) (sc27).nd rfl (Or.inl rfl))) (fun _ _ _ _ _ => dts_nil) (fun _ _ _ _ _ => (de_call (C.F 15) hr (T.fn 15) (T.kp 15) (T.bn 15) (.cons (.cons .nil)) (la_cons (de_var (i := 1)) (la_cons (de_var (i := 4)) la_nil))))) la_nil))) (ds_cons (ds_set (i := 6) (sc27).nd (de_callTy call_tuple_of prim_tuple (T.no "tuple" (by decide)) PyProof.Rows.boot_tuple (la_cons (de_lc (own := [("_law_k", 8)]) (t := (.nm 8)) (sc27).nd (blkOk_by (own := [("_law_k", 8)]) (by first | (show blkC nm27 (defScope st27) _ _ = true; decide +kernel) | (exact blk_in (N := nm27) (sc := defScope st27) rfl (by decide +kernel)))) (by decide) (di_rng1 (T.no "range" (by decide)) (de_op op_addAll prim_add de_int (de_call (C.F 14) hr (T.fn 14) (T.kp 14) (T.bn 14) (.cons (.cons .nil)) (la_cons (de_var (i := 1)) (la_cons de_int la_nil))))) (fun _ _ _ _ _ => (pg_name (i := 8) (sc27).nd rfl (Or.inl rfl))) (fun _ _ _ _ _ => dts_nil) (fun _ _ _ _ _ => (de_call (C.F 15) hr (T.fn 15) (T.kp 15) (T.bn 15) (.cons (.cons .nil)) (la_cons (de_var (i := 1)) (la_cons (de_var (i := 4)) la_nil))))) la_nil))) (ds_cons (ds_set (i := 7) (sc27).nd (de_call (C.F 22) hr (T.fn 22) (T.kp 22) (T.bn 22) (.cons (.cons (.cons .nil))) (la_cons (de_var (i := 2)) (la_cons (de_var (i := 5)) (la_cons (de_var (i := 6)) la_nil))))) (ds_cons (ds_for (di_rng1 (T.no "range" (by decide)) de_int) (dg_name (i := 8) (sc27).nd) (ds_cons (ds_set (i := 9) (sc27).nd (de_call (C.F 14) hr (T.fn 14) (T.kp 14) (T.bn 14) (.cons (.cons .nil)) (la_cons (de_var (i := 1)) (la_cons (de_callB call_len1 prim_len1 (T.no "len" (by decide)) PySem.boot_len (la_cons (de_var (i := 7)) la_nil)) la_nil)))) (ds_one (ds_if (dt_not (dt_tru (de_call (C.F 16) hr (T.fn 16) (T.kp 16) (T.bn 16) (.cons (.cons .nil)) (la_cons (de_call (C.F 12) hr (T.fn 12) (T.kp 12) (T.bn 12) (.cons (.cons (.cons (.cons .nil)))) (la_cons (de_var (i := 2)) (la_cons (de_var (i := 5)) (la_cons (de_var (i := 6)) (la_cons (de_var (i := 9)) la_nil))))) (la_cons (de_ix (ix_1 hr) prim_ix1 (de_var (i := 7)) (de_var (i := 9))) la_nil))))) (ds_one (ds_ret de_bl)) ds_nil)))) (ds_one (ds_ret de_bl)))))))))))))
theorem step (T : Tx K mg a fd ca) (KT : KTs K w mg) (k : Nat) (cl cl2 : Nat → FM) (C : AllF P w K mg base ca psN a fd k cl) (C2 : AllF2 P w K mg base ca psN a fd k cl2) : AllF P w K mg base ca psN a fd (k + 1) (bdN cl cl2) := ⟨fun g => by
  match g with
  | 0 => exact fun_ok (T.fu 0) sc0 fun cdv A outer s H E hr => ok0 T KT C C2 cdv A outer s H E hr
  | 1 => exact fun_ok (T.fu 1) sc1 fun cdv A outer s H E hr => ok1 T KT C C2 cdv A outer s H E hr
  | 2 => exact fun_ok (T.fu 2) sc2 fun cdv A outer s H E hr => ok2 T KT C C2 cdv A outer s H E hr
  | 3 => exact fun_ok (T.fu 3) sc3 fun cdv A outer s H E hr => ok3 T KT C C2 cdv A outer s H E hr
  | 4 => exact fun_ok (T.fu 4) sc4 fun cdv A outer s H E hr => ok4 T KT C C2 cdv A outer s H E hr
  | 5 => exact fun_ok (T.fu 5) sc5 fun cdv A outer s H E hr => ok5 T KT C C2 cdv A outer s H E hr
  | 6 => exact fun_ok (T.fu 6) sc6 fun cdv A outer s H E hr => ok6 T KT C C2 cdv A outer s H E hr
  | 7 => exact fun_ok (T.fu 7) sc7 fun cdv A outer s H E hr => ok7 T KT C C2 cdv A outer s H E hr
  | 8 => exact fun_ok (T.fu 8) sc8 fun cdv A outer s H E hr => ok8 T KT C C2 cdv A outer s H E hr
  | 9 => exact fun_ok (T.fu 9) sc9 fun cdv A outer s H E hr => ok9 T KT C C2 cdv A outer s H E hr
  | 10 => exact fun_ok (T.fu 10) sc10 fun cdv A outer s H E hr => ok10 T KT C C2 cdv A outer s H E hr
  | 11 => exact fun_ok (T.fu 11) sc11 fun cdv A outer s H E hr => ok11 T KT C C2 cdv A outer s H E hr
  | 12 => exact fun_ok (T.fu 12) sc12 fun cdv A outer s H E hr => ok12 T KT C C2 cdv A outer s H E hr
  | 13 => exact fun_ok (T.fu 13) sc13 fun cdv A outer s H E hr => ok13 T KT C C2 cdv A outer s H E hr
  | 14 => exact fun_ok (T.fu 14) sc14 fun cdv A outer s H E hr => ok14 T KT C C2 cdv A outer s H E hr
  | 15 => exact fun_ok (T.fu 15) sc15 fun cdv A outer s H E hr => ok15 T KT C C2 cdv A outer s H E hr
  | 16 => exact fun_ok (T.fu 16) sc16 fun cdv A outer s H E hr => ok16 T KT C C2 cdv A outer s H E hr
  | 17 => exact fun_ok (T.fu 17) sc17 fun cdv A outer s H E hr => ok17 T KT C C2 cdv A outer s H E hr
  | 18 => exact fun_ok (T.fu 18) sc18 fun cdv A outer s H E hr => ok18 T KT C C2 cdv A outer s H E hr
  | 19 => exact fun_ok (T.fu 19) sc19 fun cdv A outer s H E hr => ok19 T KT C C2 cdv A outer s H E hr
  | 20 => exact fun_ok (T.fu 20) sc20 fun cdv A outer s H E hr => ok20 T KT C C2 cdv A outer s H E hr
  | 21 => exact fun_ok (T.fu 21) sc21 fun cdv A outer s H E hr => ok21 T KT C C2 cdv A outer s H E hr
  | 22 => exact fun_ok (T.fu 22) sc22 fun cdv A outer s H E hr => ok22 T KT C C2 cdv A outer s H E hr
  | 23 => exact fun_ok (T.fu 23) sc23 fun cdv A outer s H E hr => ok23 T KT C C2 cdv A outer s H E hr
  | 24 => exact fun_ok (T.fu 24) sc24 fun cdv A outer s H E hr => ok24 T KT C C2 cdv A outer s H E hr
  | 25 => exact fun_ok (T.fu 25) sc25 fun cdv A outer s H E hr => ok25 T KT C C2 cdv A outer s H E hr
  | 26 => exact fun_ok (T.fu 26) sc26 fun cdv A outer s H E hr => ok26 T KT C C2 cdv A outer s H E hr
  | 27 => exact fun_ok (T.fu 27) sc27 fun cdv A outer s H E hr => ok27 T KT C C2 cdv A outer s H E hr
  | _ + 28 => exact fn_no rfl⟩
end
theorem calls_succ : ∀ k, ∃ c2, calls (k + 1) = bdN (calls k) c2
  | 0 => ⟨_, rfl⟩
  | 1 => ⟨_, rfl⟩
  | _ + 2 => ⟨_, rfl⟩
theorem c0 (k : Nat) : ∃ c2, calls (k + 1) 0 = runB 2 (bd0 (calls k) c2) := let ⟨c2, e⟩ := calls_succ k; ⟨c2, by rw [e]; rfl⟩
theorem c1 (k : Nat) : ∃ c2, calls (k + 1) 1 = runB 4 (bd1 (calls k) c2) := let ⟨c2, e⟩ := calls_succ k; ⟨c2, by rw [e]; rfl⟩
theorem c2 (k : Nat) : ∃ c2, calls (k + 1) 2 = runB 1 (bd2 (calls k) c2) := let ⟨c2, e⟩ := calls_succ k; ⟨c2, by rw [e]; rfl⟩
theorem c3 (k : Nat) : ∃ c2, calls (k + 1) 3 = runB 4 (bd3 (calls k) c2) := let ⟨c2, e⟩ := calls_succ k; ⟨c2, by rw [e]; rfl⟩
theorem c4 (k : Nat) : ∃ c2, calls (k + 1) 4 = runB 1 (bd4 (calls k) c2) := let ⟨c2, e⟩ := calls_succ k; ⟨c2, by rw [e]; rfl⟩
theorem c5 (k : Nat) : ∃ c2, calls (k + 1) 5 = runB 5 (bd5 (calls k) c2) := let ⟨c2, e⟩ := calls_succ k; ⟨c2, by rw [e]; rfl⟩
theorem c6 (k : Nat) : ∃ c2, calls (k + 1) 6 = runB 6 (bd6 (calls k) c2) := let ⟨c2, e⟩ := calls_succ k; ⟨c2, by rw [e]; rfl⟩
theorem c7 (k : Nat) : ∃ c2, calls (k + 1) 7 = runB 2 (bd7 (calls k) c2) := let ⟨c2, e⟩ := calls_succ k; ⟨c2, by rw [e]; rfl⟩
theorem c8 (k : Nat) : ∃ c2, calls (k + 1) 8 = runB 3 (bd8 (calls k) c2) := let ⟨c2, e⟩ := calls_succ k; ⟨c2, by rw [e]; rfl⟩
theorem c9 (k : Nat) : ∃ c2, calls (k + 1) 9 = runB 2 (bd9 (calls k) c2) := let ⟨c2, e⟩ := calls_succ k; ⟨c2, by rw [e]; rfl⟩
theorem c10 (k : Nat) : ∃ c2, calls (k + 1) 10 = runB 9 (bd10 (calls k) c2) := let ⟨c2, e⟩ := calls_succ k; ⟨c2, by rw [e]; rfl⟩
theorem c11 (k : Nat) : ∃ c2, calls (k + 1) 11 = runB 6 (bd11 (calls k) c2) := let ⟨c2, e⟩ := calls_succ k; ⟨c2, by rw [e]; rfl⟩
theorem c12 (k : Nat) : ∃ c2, calls (k + 1) 12 = runB 4 (bd12 (calls k) c2) := let ⟨c2, e⟩ := calls_succ k; ⟨c2, by rw [e]; rfl⟩
theorem c13 (k : Nat) : ∃ c2, calls (k + 1) 13 = runB 2 (bd13 (calls k) c2) := let ⟨c2, e⟩ := calls_succ k; ⟨c2, by rw [e]; rfl⟩
theorem c14 (k : Nat) : ∃ c2, calls (k + 1) 14 = runB 4 (bd14 (calls k) c2) := let ⟨c2, e⟩ := calls_succ k; ⟨c2, by rw [e]; rfl⟩
theorem c15 (k : Nat) : ∃ c2, calls (k + 1) 15 = runB 2 (bd15 (calls k) c2) := let ⟨c2, e⟩ := calls_succ k; ⟨c2, by rw [e]; rfl⟩
theorem c16 (k : Nat) : ∃ c2, calls (k + 1) 16 = runB 2 (bd16 (calls k) c2) := let ⟨c2, e⟩ := calls_succ k; ⟨c2, by rw [e]; rfl⟩
theorem c17 (k : Nat) : ∃ c2, calls (k + 1) 17 = runB 3 (bd17 (calls k) c2) := let ⟨c2, e⟩ := calls_succ k; ⟨c2, by rw [e]; rfl⟩
theorem c18 (k : Nat) : ∃ c2, calls (k + 1) 18 = runB 5 (bd18 (calls k) c2) := let ⟨c2, e⟩ := calls_succ k; ⟨c2, by rw [e]; rfl⟩
theorem c19 (k : Nat) : ∃ c2, calls (k + 1) 19 = runB 6 (bd19 (calls k) c2) := let ⟨c2, e⟩ := calls_succ k; ⟨c2, by rw [e]; rfl⟩
theorem c20 (k : Nat) : ∃ c2, calls (k + 1) 20 = runB 3 (bd20 (calls k) c2) := let ⟨c2, e⟩ := calls_succ k; ⟨c2, by rw [e]; rfl⟩
theorem c21 (k : Nat) : ∃ c2, calls (k + 1) 21 = runB 5 (bd21 (calls k) c2) := let ⟨c2, e⟩ := calls_succ k; ⟨c2, by rw [e]; rfl⟩
theorem c22 (k : Nat) : ∃ c2, calls (k + 1) 22 = runB 14 (bd22 (calls k) c2) := let ⟨c2, e⟩ := calls_succ k; ⟨c2, by rw [e]; rfl⟩
theorem c23 (k : Nat) : ∃ c2, calls (k + 1) 23 = runB 3 (bd23 (calls k) c2) := let ⟨c2, e⟩ := calls_succ k; ⟨c2, by rw [e]; rfl⟩
theorem c24 (k : Nat) : ∃ c2, calls (k + 1) 24 = runB 4 (bd24 (calls k) c2) := let ⟨c2, e⟩ := calls_succ k; ⟨c2, by rw [e]; rfl⟩
theorem c25 (k : Nat) : ∃ c2, calls (k + 1) 25 = runB 3 (bd25 (calls k) c2) := let ⟨c2, e⟩ := calls_succ k; ⟨c2, by rw [e]; rfl⟩
theorem c26 (k : Nat) : ∃ c2, calls (k + 1) 26 = runB 4 (bd26 (calls k) c2) := let ⟨c2, e⟩ := calls_succ k; ⟨c2, by rw [e]; rfl⟩
theorem c27 (k : Nat) : ∃ c2, calls (k + 1) 27 = runB 10 (bd27 (calls k) c2) := let ⟨c2, e⟩ := calls_succ k; ⟨c2, by rw [e]; rfl⟩
section
variable {w : World} {K : PySem.W.Frag} {h : Heap} {mg : Str → Option Value} {base : Heap}
theorem all_mk {fa : Addr} (X : K.In h) (G : h.Ns mainGlobals mg) (hfa : mg "law" = some (.ref fa)) {f0 f1 f2 f3 f4 f5 f6 f7 f8 f9 f10 f11 f12 f13 f14 f15 f16 f17 f18 f19 f20 f21 f22 f23 f24 f25 f26 f27 : Addr} {C0 : Addr}
    {od0 an0 od1 an1 od2 an2 od3 an3 od4 an4 od5 an5 od6 an6 od7 an7 od8 an8 od9 an9 od10 an10 od11 an11 od12 an12 od13 an13 od14 an14 od15 an15 od16 an16 od17 an17 od18 an18 od19 an19 od20 an20 od21 an21 od22 an22 od23 an23 od24 an24 od25 an25 od26 an26 od27 an27 : Option Addr} {sl0 sl1 sl2 sl3 sl4 sl5 sl6 sl7 sl8 sl9 sl10 sl11 sl12 sl13 sl14 sl15 sl16 sl17 sl18 sl19 sl20 sl21 sl22 sl23 sl24 sl25 sl26 sl27 : Array (Option Value)} {oc0 kV0 dc0 pm0 cd0 ct0 oc1 kV1 dc1 pm1 cd1 ct1 oc2 kV2 dc2 pm2 cd2 ct2 oc3 kV3 dc3 pm3 cd3 ct3 oc4 kV4 dc4 pm4 cd4 ct4 oc5 kV5 dc5 pm5 cd5 ct5 oc6 kV6 dc6 pm6 cd6 ct6 oc7 kV7 dc7 pm7 cd7 ct7 oc8 kV8 dc8 pm8 cd8 ct8 oc9 kV9 dc9 pm9 cd9 ct9 oc10 kV10 dc10 pm10 cd10 ct10 oc11 kV11 dc11 pm11 cd11 ct11 oc12 kV12 dc12 pm12 cd12 ct12 oc13 kV13 dc13 pm13 cd13 ct13 oc14 kV14 dc14 pm14 cd14 ct14 oc15 kV15 dc15 pm15 cd15 ct15 oc16 kV16 dc16 pm16 cd16 ct16 oc17 kV17 dc17 pm17 cd17 ct17 oc18 kV18 dc18 pm18 cd18 ct18 oc19 kV19 dc19 pm19 cd19 ct19 oc20 kV20 dc20 pm20 cd20 ct20 oc21 kV21 dc21 pm21 cd21 ct21 oc22 kV22 dc22 pm22 cd22 ct22 oc23 kV23 dc23 pm23 cd23 ct23 oc24 kV24 dc24 pm24 cd24 ct24 oc25 kV25 dc25 pm25 cd25 ct25 oc26 kV26 dc26 pm26 cd26 ct26 oc27 kV27 dc27 pm27 cd27 ct27 : Value} {tK0 : Tok} {AK1 : Addr} {DK1 : Option Addr} {NK1 : Nat} {SK1 : Array (Option Value)} {tK1_0 : Tok} {tK1_1 : Tok} {tK1_2 : Tok} {tK1_3 : Tok} {tK2 : Tok} {AK3 : Addr} {DK3 : Option Addr} {NK3 : Nat} {SK3 : Array (Option Value)} {tK3_0 : Tok} {tK3_1 : Tok} {tK3_2 : Tok} {tK3_3 : Tok} {AK4 : Addr} {DK4 : Option Addr} {NK4 : Nat} {SK4 : Array (Option Value)} {tK4_0 : Tok} {tK4_1 : Tok} {tK4_2 : Tok} {tK4_3 : Tok} {tK5 : Tok} {tK6 : Tok} {AT0 : Addr} {NT0 : Nat} {tT0_0 : Tok} {tT0k0 : Tok} {tT0_1 : Tok} {tT0k1 : Tok} {tT0_2 : Tok} {tT0k2 : Tok} {tT0_3 : Tok} {tT0k3 : Tok} {tT0_4 : Tok} {tT0k4 : Tok} {tT0_5 : Tok} {tT0k5 : Tok} {tT0_6 : Tok} {tT0k6 : Tok} {tT0_7 : Tok} {tT0k7 : Tok}
    (aC0 : PySem.W.nsIn K mainGlobals "RoundRun" = some (some (.ref C0)))
    (pg0 : PySem.W.plainGet K C0 Str.empty = true)
    (hd0 : PySem.W.hasDictIn K C0 = true)
    (po0 : PySem.W.plainOver K C0 = true)
    (sa0 : PySem.W.findIn K (.ref C0) "__setattr__" = some (some (.builtin "object.__setattr__")))
    (mk0 : PySem.W.makesIn K C0 = true)
    (kc0 : PySem.W.keepIn K (.ref C0) = true)
    (a0 : PySem.W.nsIn K mainGlobals "is_name" = some (some (.ref f0)))
    (l0 : K.lookup f0 = some ⟨oc0, od0, .func (PySem.W.fnOf "is_name" "is_name" (defArgs st0) (defBody st0) (defScope st0) .none kV0 dc0 pm0 an0 cd0 ct0), sl0⟩)
    (c0 : PySem.W.codeIn K cd0 "is_name" = true)
    (k0 : PySem.W.keepIn K (.ref f0) = true)
    (a1 : PySem.W.nsIn K mainGlobals "is_form" = some (some (.ref f1)))
    (l1 : K.lookup f1 = some ⟨oc1, od1, .func (PySem.W.fnOf "is_form" "is_form" (defArgs st1) (defBody st1) (defScope st1) .none kV1 dc1 pm1 an1 cd1 ct1), sl1⟩)
    (c1 : PySem.W.codeIn K cd1 "is_form" = true)
    (k1 : PySem.W.keepIn K (.ref f1) = true)
    (a2 : PySem.W.nsIn K mainGlobals "is_place" = some (some (.ref f2)))
    (l2 : K.lookup f2 = some ⟨oc2, od2, .func (PySem.W.fnOf "is_place" "is_place" (defArgs st2) (defBody st2) (defScope st2) .none kV2 dc2 pm2 an2 cd2 ct2), sl2⟩)
    (c2 : PySem.W.codeIn K cd2 "is_place" = true)
    (k2 : PySem.W.keepIn K (.ref f2) = true)
    (a3 : PySem.W.nsIn K mainGlobals "parts_ahead" = some (some (.ref f3)))
    (l3 : K.lookup f3 = some ⟨oc3, od3, .func (PySem.W.fnOf "parts_ahead" "parts_ahead" (defArgs st3) (defBody st3) (defScope st3) .none kV3 dc3 pm3 an3 cd3 ct3), sl3⟩)
    (c3 : PySem.W.codeIn K cd3 "parts_ahead" = true)
    (k3 : PySem.W.keepIn K (.ref f3) = true)
    (a4 : PySem.W.nsIn K mainGlobals "is_promise" = some (some (.ref f4)))
    (l4 : K.lookup f4 = some ⟨oc4, od4, .func (PySem.W.fnOf "is_promise" "is_promise" (defArgs st4) (defBody st4) (defScope st4) .none kV4 dc4 pm4 an4 cd4 ct4), sl4⟩)
    (c4 : PySem.W.codeIn K cd4 "is_promise" = true)
    (k4 : PySem.W.keepIn K (.ref f4) = true)
    (a5 : PySem.W.nsIn K mainGlobals "is_at" = some (some (.ref f5)))
    (l5 : K.lookup f5 = some ⟨oc5, od5, .func (PySem.W.fnOf "is_at" "is_at" (defArgs st5) (defBody st5) (defScope st5) .none kV5 dc5 pm5 an5 cd5 ct5), sl5⟩)
    (c5 : PySem.W.codeIn K cd5 "is_at" = true)
    (k5 : PySem.W.keepIn K (.ref f5) = true)
    (a6 : PySem.W.findIn K (.ref C0) "__init__" = some (some (.ref f6)))
    (i6 : PySem.W.isFn K (.ref f6) = true)
    (l6 : K.lookup f6 = some ⟨oc6, od6, .func (PySem.W.fnOf "__init__" "RoundRun.__init__" (defArgs st6) (defBody st6) (defScope st6) .none kV6 dc6 pm6 an6 cd6 ct6), sl6⟩)
    (c6 : PySem.W.codeIn K cd6 "RoundRun.__init__" = true)
    (k6 : PySem.W.keepIn K (.ref f6) = true)
    (a7 : PySem.W.findIn K (.ref C0) "following" = some (some (.ref f7)))
    (i7 : PySem.W.isFn K (.ref f7) = true)
    (l7 : K.lookup f7 = some ⟨oc7, od7, .func (PySem.W.fnOf "following" "RoundRun.following" (defArgs st7) (defBody st7) (defScope st7) .none kV7 dc7 pm7 an7 cd7 ct7), sl7⟩)
    (c7 : PySem.W.codeIn K cd7 "RoundRun.following" = true)
    (k7 : PySem.W.keepIn K (.ref f7) = true)
    (a8 : PySem.W.findIn K (.ref C0) "across" = some (some (.ref f8)))
    (i8 : PySem.W.isFn K (.ref f8) = true)
    (l8 : K.lookup f8 = some ⟨oc8, od8, .func (PySem.W.fnOf "across" "RoundRun.across" (defArgs st8) (defBody st8) (defScope st8) .none kV8 dc8 pm8 an8 cd8 ct8), sl8⟩)
    (c8 : PySem.W.codeIn K cd8 "RoundRun.across" = true)
    (k8 : PySem.W.keepIn K (.ref f8) = true)
    (a9 : PySem.W.findIn K (.ref C0) "truths" = some (some (.ref f9)))
    (i9 : PySem.W.isFn K (.ref f9) = true)
    (l9 : K.lookup f9 = some ⟨oc9, od9, .func (PySem.W.fnOf "truths" "RoundRun.truths" (defArgs st9) (defBody st9) (defScope st9) .none kV9 dc9 pm9 an9 cd9 ct9), sl9⟩)
    (c9 : PySem.W.codeIn K cd9 "RoundRun.truths" = true)
    (k9 : PySem.W.keepIn K (.ref f9) = true)
    (a10 : PySem.W.findIn K (.ref C0) "_find" = some (some (.ref f10)))
    (i10 : PySem.W.isFn K (.ref f10) = true)
    (l10 : K.lookup f10 = some ⟨oc10, od10, .func (PySem.W.fnOf "_find" "RoundRun._find" (defArgs st10) (defBody st10) (defScope st10) .none kV10 dc10 pm10 an10 cd10 ct10), sl10⟩)
    (c10 : PySem.W.codeIn K cd10 "RoundRun._find" = true)
    (k10 : PySem.W.keepIn K (.ref f10) = true)
    (a11 : PySem.W.nsIn K mainGlobals "until" = some (some (.ref f11)))
    (l11 : K.lookup f11 = some ⟨oc11, od11, .func (PySem.W.fnOf "until" "until" (defArgs st11) (defBody st11) (defScope st11) .none kV11 dc11 pm11 an11 cd11 ct11), sl11⟩)
    (c11 : PySem.W.codeIn K cd11 "until" = true)
    (k11 : PySem.W.keepIn K (.ref f11) = true)
    (a12 : PySem.W.nsIn K mainGlobals "holds" = some (some (.ref f12)))
    (l12 : K.lookup f12 = some ⟨oc12, od12, .func (PySem.W.fnOf "holds" "holds" (defArgs st12) (defBody st12) (defScope st12) .none kV12 dc12 pm12 an12 cd12 ct12), sl12⟩)
    (c12 : PySem.W.codeIn K cd12 "holds" = true)
    (k12 : PySem.W.keepIn K (.ref f12) = true)
    (a13 : PySem.W.nsIn K mainGlobals "_law_start" = some (some (.ref f13)))
    (l13 : K.lookup f13 = some ⟨oc13, od13, .func (PySem.W.fnOf "_law_start" "_law_start" (defArgs st13) (defBody st13) (defScope st13) .none kV13 dc13 pm13 an13 cd13 ct13), sl13⟩)
    (c13 : PySem.W.codeIn K cd13 "_law_start" = true)
    (k13 : PySem.W.keepIn K (.ref f13) = true)
    (a14 : PySem.W.nsIn K mainGlobals "_law_draw" = some (some (.ref f14)))
    (l14 : K.lookup f14 = some ⟨oc14, od14, .func (PySem.W.fnOf "_law_draw" "_law_draw" (defArgs st14) (defBody st14) (defScope st14) .none kV14 dc14 pm14 an14 cd14 ct14), sl14⟩)
    (c14 : PySem.W.codeIn K cd14 "_law_draw" = true)
    (k14 : PySem.W.keepIn K (.ref f14) = true)
    (a15 : PySem.W.nsIn K mainGlobals "_law_pick" = some (some (.ref f15)))
    (l15 : K.lookup f15 = some ⟨oc15, od15, .func (PySem.W.fnOf "_law_pick" "_law_pick" (defArgs st15) (defBody st15) (defScope st15) .none kV15 dc15 pm15 an15 cd15 ct15), sl15⟩)
    (c15 : PySem.W.codeIn K cd15 "_law_pick" = true)
    (k15 : PySem.W.keepIn K (.ref f15) = true)
    (a16 : PySem.W.nsIn K mainGlobals "_law_is" = some (some (.ref f16)))
    (l16 : K.lookup f16 = some ⟨oc16, od16, .func (PySem.W.fnOf "_law_is" "_law_is" (defArgs st16) (defBody st16) (defScope st16) .none kV16 dc16 pm16 an16 cd16 ct16), sl16⟩)
    (c16 : PySem.W.codeIn K cd16 "_law_is" = true)
    (k16 : PySem.W.keepIn K (.ref f16) = true)
    (a17 : PySem.W.nsIn K mainGlobals "_law_once" = some (some (.ref f17)))
    (l17 : K.lookup f17 = some ⟨oc17, od17, .func (PySem.W.fnOf "_law_once" "_law_once" (defArgs st17) (defBody st17) (defScope st17) .none kV17 dc17 pm17 an17 cd17 ct17), sl17⟩)
    (c17 : PySem.W.codeIn K cd17 "_law_once" = true)
    (k17 : PySem.W.keepIn K (.ref f17) = true)
    (a18 : PySem.W.nsIn K mainGlobals "_law_promise" = some (some (.ref f18)))
    (l18 : K.lookup f18 = some ⟨oc18, od18, .func (PySem.W.fnOf "_law_promise" "_law_promise" (defArgs st18) (defBody st18) (defScope st18) .none kV18 dc18 pm18 an18 cd18 ct18), sl18⟩)
    (c18 : PySem.W.codeIn K cd18 "_law_promise" = true)
    (k18 : PySem.W.keepIn K (.ref f18) = true)
    (a19 : PySem.W.nsIn K mainGlobals "_law_matches" = some (some (.ref f19)))
    (l19 : K.lookup f19 = some ⟨oc19, od19, .func (PySem.W.fnOf "_law_matches" "_law_matches" (defArgs st19) (defBody st19) (defScope st19) .none kV19 dc19 pm19 an19 cd19 ct19), sl19⟩)
    (c19 : PySem.W.codeIn K cd19 "_law_matches" = true)
    (k19 : PySem.W.keepIn K (.ref f19) = true)
    (a20 : PySem.W.nsIn K mainGlobals "_law_behind" = some (some (.ref f20)))
    (l20 : K.lookup f20 = some ⟨oc20, od20, .func (PySem.W.fnOf "_law_behind" "_law_behind" (defArgs st20) (defBody st20) (defScope st20) .none kV20 dc20 pm20 an20 cd20 ct20), sl20⟩)
    (c20 : PySem.W.codeIn K cd20 "_law_behind" = true)
    (k20 : PySem.W.keepIn K (.ref f20) = true)
    (a21 : PySem.W.nsIn K mainGlobals "_law_across" = some (some (.ref f21)))
    (l21 : K.lookup f21 = some ⟨oc21, od21, .func (PySem.W.fnOf "_law_across" "_law_across" (defArgs st21) (defBody st21) (defScope st21) .none kV21 dc21 pm21 an21 cd21 ct21), sl21⟩)
    (c21 : PySem.W.codeIn K cd21 "_law_across" = true)
    (k21 : PySem.W.keepIn K (.ref f21) = true)
    (a22 : PySem.W.nsIn K mainGlobals "_law_truths" = some (some (.ref f22)))
    (l22 : K.lookup f22 = some ⟨oc22, od22, .func (PySem.W.fnOf "_law_truths" "_law_truths" (defArgs st22) (defBody st22) (defScope st22) .none kV22 dc22 pm22 an22 cd22 ct22), sl22⟩)
    (c22 : PySem.W.codeIn K cd22 "_law_truths" = true)
    (k22 : PySem.W.keepIn K (.ref f22) = true)
    (a23 : PySem.W.nsIn K mainGlobals "_law_is_name" = some (some (.ref f23)))
    (l23 : K.lookup f23 = some ⟨oc23, od23, .func (PySem.W.fnOf "_law_is_name" "_law_is_name" (defArgs st23) (defBody st23) (defScope st23) .none kV23 dc23 pm23 an23 cd23 ct23), sl23⟩)
    (c23 : PySem.W.codeIn K cd23 "_law_is_name" = true)
    (k23 : PySem.W.keepIn K (.ref f23) = true)
    (a24 : PySem.W.nsIn K mainGlobals "_law_good" = some (some (.ref f24)))
    (l24 : K.lookup f24 = some ⟨oc24, od24, .func (PySem.W.fnOf "_law_good" "_law_good" (defArgs st24) (defBody st24) (defScope st24) .none kV24 dc24 pm24 an24 cd24 ct24), sl24⟩)
    (c24 : PySem.W.codeIn K cd24 "_law_good" = true)
    (k24 : PySem.W.keepIn K (.ref f24) = true)
    (a25 : PySem.W.nsIn K mainGlobals "_law_ahead" = some (some (.ref f25)))
    (l25 : K.lookup f25 = some ⟨oc25, od25, .func (PySem.W.fnOf "_law_ahead" "_law_ahead" (defArgs st25) (defBody st25) (defScope st25) .none kV25 dc25 pm25 an25 cd25 ct25), sl25⟩)
    (c25 : PySem.W.codeIn K cd25 "_law_ahead" = true)
    (k25 : PySem.W.keepIn K (.ref f25) = true)
    (a26 : PySem.W.nsIn K mainGlobals "_law_odd" = some (some (.ref f26)))
    (l26 : K.lookup f26 = some ⟨oc26, od26, .func (PySem.W.fnOf "_law_odd" "_law_odd" (defArgs st26) (defBody st26) (defScope st26) .none kV26 dc26 pm26 an26 cd26 ct26), sl26⟩)
    (c26 : PySem.W.codeIn K cd26 "_law_odd" = true)
    (k26 : PySem.W.keepIn K (.ref f26) = true)
    (a27 : PySem.W.nsIn K mainGlobals "law" = some (some (.ref f27)))
    (l27 : K.lookup f27 = some ⟨oc27, od27, .func (PySem.W.fnOf "law" "law" (defArgs st27) (defBody st27) (defScope st27) .none kV27 dc27 pm27 an27 cd27 ct27), sl27⟩)
    (c27 : PySem.W.codeIn K cd27 "law" = true)
    (k27 : PySem.W.keepIn K (.ref f27) = true)
    (z0 : PySem.W.nsIn K mainGlobals "len" = some none)
    (z1 : PySem.W.nsIn K mainGlobals "all" = some none)
    (z2 : PySem.W.nsIn K mainGlobals "isinstance" = some none)
    (z3 : PySem.W.nsIn K mainGlobals "tuple" = some none)
    (z4 : PySem.W.nsIn K mainGlobals "str" = some none)
    (z5 : PySem.W.nsIn K mainGlobals "list" = some none)
    (z6 : PySem.W.nsIn K mainGlobals "enumerate" = some none)
    (z7 : PySem.W.nsIn K mainGlobals "range" = some none)
    (z8 : PySem.W.nsIn K mainGlobals "int" = some none)
    (z9 : PySem.W.nsIn K mainGlobals "max" = some none)
    (z10 : PySem.W.nsIn K mainGlobals "reversed" = some none)
    (z11 : PySem.W.nsIn K mainGlobals "abs" = some none)
    (z12 : PySem.W.nsIn K mainGlobals "bool" = some none)
    (n0 : PySem.W.findIn K (.ref C0) "marks" = some none)
    (n1 : PySem.W.findIn K (.ref C0) "_back" = some none)
    (n2 : PySem.W.findIn K (.ref C0) "_matches" = some none)
    (n3 : PySem.W.findIn K (.ref C0) "_known" = some none)
    (gv0 : PySem.W.nsIn K mainGlobals "LONGEST_NAME" = some (some (.int 8 tK0)))
    (gv1 : PySem.W.nsIn K mainGlobals "WORDS" = some (some (.ref AK1)))
    (qK1 : K.lookup AK1 = some ⟨.type "tuple", DK1, .seq #[(.str "and" tK1_0), (.str "or" tK1_1), (.str "not" tK1_2), (.str "same" tK1_3)] NK1, SK1⟩)
    (gv2 : PySem.W.nsIn K mainGlobals "LETTERS" = some (some (.str "abcdefghijklmnopqrstuvwxyz" tK2)))
    (gv3 : PySem.W.nsIn K mainGlobals "KINDS" = some (some (.ref AK3)))
    (qK3 : K.lookup AK3 = some ⟨.type "tuple", DK3, .seq #[(.str "call" tK3_0), (.str "back" tK3_1), (.str "say" tK3_2), (.str "quiet" tK3_3)] NK3, SK3⟩)
    (gv4 : PySem.W.nsIn K mainGlobals "AHEAD" = some (some (.ref AK4)))
    (qK4 : K.lookup AK4 = some ⟨.type "tuple", DK4, .seq #[(.str "next" tK4_0), (.str "until" tK4_1), (.str "over" tK4_2), (.str "across" tK4_3)] NK4, SK4⟩)
    (gv5 : PySem.W.nsIn K mainGlobals "DEEPEST" = some (some (.int 8 tK5)))
    (gv6 : PySem.W.nsIn K mainGlobals "MOST_PARTS" = some (some (.int 6 tK6)))
    (gvT0 : PySem.W.nsIn K mainGlobals "SIZES" = some (some (.ref AT0)))
    (loT0 : (AT0 == sysModules) = false)
    (qT0 : K.lookup AT0 = some ⟨.type "dict", none, .dict #[⟨PyData.keyHash w.params "yes", .str "yes" tT0k0, (.int 0 tT0_0)⟩, ⟨PyData.keyHash w.params "not", .str "not" tT0k1, (.int 1 tT0_1)⟩, ⟨PyData.keyHash w.params "next", .str "next" tT0k2, (.int 1 tT0_2)⟩, ⟨PyData.keyHash w.params "over", .str "over" tT0k3, (.int 1 tT0_3)⟩, ⟨PyData.keyHash w.params "and", .str "and" tT0k4, (.int 2 tT0_4)⟩, ⟨PyData.keyHash w.params "or", .str "or" tT0k5, (.int 2 tT0_5)⟩, ⟨PyData.keyHash w.params "until", .str "until" tT0k6, (.int 2 tT0_6)⟩, ⟨PyData.keyHash w.params "across", .str "across" tT0k7, (.int 2 tT0_7)⟩] NT0, #[]⟩)
    : ∃ (a : Nat → Addr) (fd : Nat → FuncData) (ca : Nat → Addr), Tx K mg a fd ca ∧ KTs K w mg ∧ a 27 = fa ∧ ∀ (s : Shared) (u : Value), BindsTo s (fd 27) ⟨[u], []⟩ [("_law_script", u)] := by
  have e := hfa.symm.trans (PySem.W.mg_of X G a27)
  have e2 : f27 = fa := by cases e; rfl
  subst e2
  have F0 := fun_mk (st := st0) l0 c0 k0
  have F1 := fun_mk (st := st1) l1 c1 k1
  have F2 := fun_mk (st := st2) l2 c2 k2
  have F3 := fun_mk (st := st3) l3 c3 k3
  have F4 := fun_mk (st := st4) l4 c4 k4
  have F5 := fun_mk (st := st5) l5 c5 k5
  have F6 := fun_mk (st := st6) l6 c6 k6
  have F7 := fun_mk (st := st7) l7 c7 k7
  have F8 := fun_mk (st := st8) l8 c8 k8
  have F9 := fun_mk (st := st9) l9 c9 k9
  have F10 := fun_mk (st := st10) l10 c10 k10
  have F11 := fun_mk (st := st11) l11 c11 k11
  have F12 := fun_mk (st := st12) l12 c12 k12
  have F13 := fun_mk (st := st13) l13 c13 k13
  have F14 := fun_mk (st := st14) l14 c14 k14
  have F15 := fun_mk (st := st15) l15 c15 k15
  have F16 := fun_mk (st := st16) l16 c16 k16
  have F17 := fun_mk (st := st17) l17 c17 k17
  have F18 := fun_mk (st := st18) l18 c18 k18
  have F19 := fun_mk (st := st19) l19 c19 k19
  have F20 := fun_mk (st := st20) l20 c20 k20
  have F21 := fun_mk (st := st21) l21 c21 k21
  have F22 := fun_mk (st := st22) l22 c22 k22
  have F23 := fun_mk (st := st23) l23 c23 k23
  have F24 := fun_mk (st := st24) l24 c24 k24
  have F25 := fun_mk (st := st25) l25 c25 k25
  have F26 := fun_mk (st := st26) l26 c26 k26
  have F27 := fun_mk (st := st27) l27 c27 k27
  refine ⟨(fun g => match g with | 0 => f0 | 1 => f1 | 2 => f2 | 3 => f3 | 4 => f4 | 5 => f5 | 6 => f6 | 7 => f7 | 8 => f8 | 9 => f9 | 10 => f10 | 11 => f11 | 12 => f12 | 13 => f13 | 14 => f14 | 15 => f15 | 16 => f16 | 17 => f17 | 18 => f18 | 19 => f19 | 20 => f20 | 21 => f21 | 22 => f22 | 23 => f23 | 24 => f24 | 25 => f25 | 26 => f26 | 27 => f27 | _ => f0 : Nat → Addr), (fun g => match g with | 0 => PySem.W.fnOf "is_name" "is_name" (defArgs st0) (defBody st0) (defScope st0) .none kV0 dc0 pm0 an0 cd0 ct0 | 1 => PySem.W.fnOf "is_form" "is_form" (defArgs st1) (defBody st1) (defScope st1) .none kV1 dc1 pm1 an1 cd1 ct1 | 2 => PySem.W.fnOf "is_place" "is_place" (defArgs st2) (defBody st2) (defScope st2) .none kV2 dc2 pm2 an2 cd2 ct2 | 3 => PySem.W.fnOf "parts_ahead" "parts_ahead" (defArgs st3) (defBody st3) (defScope st3) .none kV3 dc3 pm3 an3 cd3 ct3 | 4 => PySem.W.fnOf "is_promise" "is_promise" (defArgs st4) (defBody st4) (defScope st4) .none kV4 dc4 pm4 an4 cd4 ct4 | 5 => PySem.W.fnOf "is_at" "is_at" (defArgs st5) (defBody st5) (defScope st5) .none kV5 dc5 pm5 an5 cd5 ct5 | 6 => PySem.W.fnOf "__init__" "RoundRun.__init__" (defArgs st6) (defBody st6) (defScope st6) .none kV6 dc6 pm6 an6 cd6 ct6 | 7 => PySem.W.fnOf "following" "RoundRun.following" (defArgs st7) (defBody st7) (defScope st7) .none kV7 dc7 pm7 an7 cd7 ct7 | 8 => PySem.W.fnOf "across" "RoundRun.across" (defArgs st8) (defBody st8) (defScope st8) .none kV8 dc8 pm8 an8 cd8 ct8 | 9 => PySem.W.fnOf "truths" "RoundRun.truths" (defArgs st9) (defBody st9) (defScope st9) .none kV9 dc9 pm9 an9 cd9 ct9 | 10 => PySem.W.fnOf "_find" "RoundRun._find" (defArgs st10) (defBody st10) (defScope st10) .none kV10 dc10 pm10 an10 cd10 ct10 | 11 => PySem.W.fnOf "until" "until" (defArgs st11) (defBody st11) (defScope st11) .none kV11 dc11 pm11 an11 cd11 ct11 | 12 => PySem.W.fnOf "holds" "holds" (defArgs st12) (defBody st12) (defScope st12) .none kV12 dc12 pm12 an12 cd12 ct12 | 13 => PySem.W.fnOf "_law_start" "_law_start" (defArgs st13) (defBody st13) (defScope st13) .none kV13 dc13 pm13 an13 cd13 ct13 | 14 => PySem.W.fnOf "_law_draw" "_law_draw" (defArgs st14) (defBody st14) (defScope st14) .none kV14 dc14 pm14 an14 cd14 ct14 | 15 => PySem.W.fnOf "_law_pick" "_law_pick" (defArgs st15) (defBody st15) (defScope st15) .none kV15 dc15 pm15 an15 cd15 ct15 | 16 => PySem.W.fnOf "_law_is" "_law_is" (defArgs st16) (defBody st16) (defScope st16) .none kV16 dc16 pm16 an16 cd16 ct16 | 17 => PySem.W.fnOf "_law_once" "_law_once" (defArgs st17) (defBody st17) (defScope st17) .none kV17 dc17 pm17 an17 cd17 ct17 | 18 => PySem.W.fnOf "_law_promise" "_law_promise" (defArgs st18) (defBody st18) (defScope st18) .none kV18 dc18 pm18 an18 cd18 ct18 | 19 => PySem.W.fnOf "_law_matches" "_law_matches" (defArgs st19) (defBody st19) (defScope st19) .none kV19 dc19 pm19 an19 cd19 ct19 | 20 => PySem.W.fnOf "_law_behind" "_law_behind" (defArgs st20) (defBody st20) (defScope st20) .none kV20 dc20 pm20 an20 cd20 ct20 | 21 => PySem.W.fnOf "_law_across" "_law_across" (defArgs st21) (defBody st21) (defScope st21) .none kV21 dc21 pm21 an21 cd21 ct21 | 22 => PySem.W.fnOf "_law_truths" "_law_truths" (defArgs st22) (defBody st22) (defScope st22) .none kV22 dc22 pm22 an22 cd22 ct22 | 23 => PySem.W.fnOf "_law_is_name" "_law_is_name" (defArgs st23) (defBody st23) (defScope st23) .none kV23 dc23 pm23 an23 cd23 ct23 | 24 => PySem.W.fnOf "_law_good" "_law_good" (defArgs st24) (defBody st24) (defScope st24) .none kV24 dc24 pm24 an24 cd24 ct24 | 25 => PySem.W.fnOf "_law_ahead" "_law_ahead" (defArgs st25) (defBody st25) (defScope st25) .none kV25 dc25 pm25 an25 cd25 ct25 | 26 => PySem.W.fnOf "_law_odd" "_law_odd" (defArgs st26) (defBody st26) (defScope st26) .none kV26 dc26 pm26 an26 cd26 ct26 | 27 => PySem.W.fnOf "law" "law" (defArgs st27) (defBody st27) (defScope st27) .none kV27 dc27 pm27 an27 cd27 ct27 | _ => PySem.W.fnOf "is_name" "is_name" (defArgs st0) (defBody st0) (defScope st0) .none kV0 dc0 pm0 an0 cd0 ct0 : Nat → FuncData), (fun g => match g with | 0 => C0 | _ => 0 : Nat → Addr), ⟨fun g hg hc => ?_, fun g hg => ?_, fun g hg => ?_, fun g hg => ?_, fun x hx => ?_, fun c hc => ?_, fun c hc => ?_, fun c hc => ?_, fun p hp => ?_, fun p hp => ?_, fun p hp => ?_⟩, ?kts, rfl, fun s v => .of_eq rfl⟩
  · match g, hg, hc with
    | 0, _, _ => exact PySem.W.mg_of X G a0
    | 1, _, _ => exact PySem.W.mg_of X G a1
    | 2, _, _ => exact PySem.W.mg_of X G a2
    | 3, _, _ => exact PySem.W.mg_of X G a3
    | 4, _, _ => exact PySem.W.mg_of X G a4
    | 5, _, _ => exact PySem.W.mg_of X G a5
    | 6, _, z => cases z
    | 7, _, z => cases z
    | 8, _, z => cases z
    | 9, _, z => cases z
    | 10, _, z => cases z
    | 11, _, _ => exact PySem.W.mg_of X G a11
    | 12, _, _ => exact PySem.W.mg_of X G a12
    | 13, _, _ => exact PySem.W.mg_of X G a13
    | 14, _, _ => exact PySem.W.mg_of X G a14
    | 15, _, _ => exact PySem.W.mg_of X G a15
    | 16, _, _ => exact PySem.W.mg_of X G a16
    | 17, _, _ => exact PySem.W.mg_of X G a17
    | 18, _, _ => exact PySem.W.mg_of X G a18
    | 19, _, _ => exact PySem.W.mg_of X G a19
    | 20, _, _ => exact PySem.W.mg_of X G a20
    | 21, _, _ => exact PySem.W.mg_of X G a21
    | 22, _, _ => exact PySem.W.mg_of X G a22
    | 23, _, _ => exact PySem.W.mg_of X G a23
    | 24, _, _ => exact PySem.W.mg_of X G a24
    | 25, _, _ => exact PySem.W.mg_of X G a25
    | 26, _, _ => exact PySem.W.mg_of X G a26
    | 27, _, _ => exact PySem.W.mg_of X G a27
    | n + 28, z, _ => exact absurd z (by show ¬ n + 28 < 28; omega)
  · match g, hg with
    | 0, _ => exact F0
    | 1, _ => exact F1
    | 2, _ => exact F2
    | 3, _ => exact F3
    | 4, _ => exact F4
    | 5, _ => exact F5
    | 6, _ => exact F6
    | 7, _ => exact F7
    | 8, _ => exact F8
    | 9, _ => exact F9
    | 10, _ => exact F10
    | 11, _ => exact F11
    | 12, _ => exact F12
    | 13, _ => exact F13
    | 14, _ => exact F14
    | 15, _ => exact F15
    | 16, _ => exact F16
    | 17, _ => exact F17
    | 18, _ => exact F18
    | 19, _ => exact F19
    | 20, _ => exact F20
    | 21, _ => exact F21
    | 22, _ => exact F22
    | 23, _ => exact F23
    | 24, _ => exact F24
    | 25, _ => exact F25
    | 26, _ => exact F26
    | 27, _ => exact F27
    | n + 28, z => exact absurd z (by show ¬ n + 28 < 28; omega)
  · match g, hg with
    | 0, _ => exact k0
    | 1, _ => exact k1
    | 2, _ => exact k2
    | 3, _ => exact k3
    | 4, _ => exact k4
    | 5, _ => exact k5
    | 6, _ => exact k6
    | 7, _ => exact k7
    | 8, _ => exact k8
    | 9, _ => exact k9
    | 10, _ => exact k10
    | 11, _ => exact k11
    | 12, _ => exact k12
    | 13, _ => exact k13
    | 14, _ => exact k14
    | 15, _ => exact k15
    | 16, _ => exact k16
    | 17, _ => exact k17
    | 18, _ => exact k18
    | 19, _ => exact k19
    | 20, _ => exact k20
    | 21, _ => exact k21
    | 22, _ => exact k22
    | 23, _ => exact k23
    | 24, _ => exact k24
    | 25, _ => exact k25
    | 26, _ => exact k26
    | 27, _ => exact k27
    | n + 28, z => exact absurd z (by show ¬ n + 28 < 28; omega)
  · match g, hg with
    | 0, _ => exact F0.binds (ps := ps0) fun _ _ _ _ _ _ us hl => match us, hl with | [_], _ => rfl
    | 1, _ => exact F1.binds (ps := ps1) fun _ _ _ _ _ _ us hl => match us, hl with | [_, _], _ => rfl
    | 2, _ => exact F2.binds (ps := ps2) fun _ _ _ _ _ _ us hl => match us, hl with | [_], _ => rfl
    | 3, _ => exact F3.binds (ps := ps3) fun _ _ _ _ _ _ us hl => match us, hl with | [_], _ => rfl
    | 4, _ => exact F4.binds (ps := ps4) fun _ _ _ _ _ _ us hl => match us, hl with | [_], _ => rfl
    | 5, _ => exact F5.binds (ps := ps5) fun _ _ _ _ _ _ us hl => match us, hl with | [_, _], _ => rfl
    | 6, _ => exact F6.binds (ps := ps6) fun _ _ _ _ _ _ us hl => match us, hl with | [_, _, _], _ => rfl
    | 7, _ => exact F7.binds (ps := ps7) fun _ _ _ _ _ _ us hl => match us, hl with | [_, _], _ => rfl
    | 8, _ => exact F8.binds (ps := ps8) fun _ _ _ _ _ _ us hl => match us, hl with | [_, _], _ => rfl
    | 9, _ => exact F9.binds (ps := ps9) fun _ _ _ _ _ _ us hl => match us, hl with | [_, _], _ => rfl
    | 10, _ => exact F10.binds (ps := ps10) fun _ _ _ _ _ _ us hl => match us, hl with | [_, _], _ => rfl
    | 11, _ => exact F11.binds (ps := ps11) fun _ _ _ _ _ _ us hl => match us, hl with | [_, _, _], _ => rfl
    | 12, _ => exact F12.binds (ps := ps12) fun _ _ _ _ _ _ us hl => match us, hl with | [_, _, _, _], _ => rfl
    | 13, _ => exact F13.binds (ps := ps13) fun _ _ _ _ _ _ us hl => match us, hl with | [_], _ => rfl
    | 14, _ => exact F14.binds (ps := ps14) fun _ _ _ _ _ _ us hl => match us, hl with | [_, _], _ => rfl
    | 15, _ => exact F15.binds (ps := ps15) fun _ _ _ _ _ _ us hl => match us, hl with | [_, _], _ => rfl
    | 16, _ => exact F16.binds (ps := ps16) fun _ _ _ _ _ _ us hl => match us, hl with | [_, _], _ => rfl
    | 17, _ => exact F17.binds (ps := ps17) fun _ _ _ _ _ _ us hl => match us, hl with | [_], _ => rfl
    | 18, _ => exact F18.binds (ps := ps18) fun _ _ _ _ _ _ us hl => match us, hl with | [_, _], _ => rfl
    | 19, _ => exact F19.binds (ps := ps19) fun _ _ _ _ _ _ us hl => match us, hl with | [_, _], _ => rfl
    | 20, _ => exact F20.binds (ps := ps20) fun _ _ _ _ _ _ us hl => match us, hl with | [_, _, _], _ => rfl
    | 21, _ => exact F21.binds (ps := ps21) fun _ _ _ _ _ _ us hl => match us, hl with | [_, _, _, _], _ => rfl
    | 22, _ => exact F22.binds (ps := ps22) fun _ _ _ _ _ _ us hl => match us, hl with | [_, _, _], _ => rfl
    | 23, _ => exact F23.binds (ps := ps23) fun _ _ _ _ _ _ us hl => match us, hl with | [_], _ => rfl
    | 24, _ => exact F24.binds (ps := ps24) fun _ _ _ _ _ _ us hl => match us, hl with | [_, _], _ => rfl
    | 25, _ => exact F25.binds (ps := ps25) fun _ _ _ _ _ _ us hl => match us, hl with | [_], _ => rfl
    | 26, _ => exact F26.binds (ps := ps26) fun _ _ _ _ _ _ us hl => match us, hl with | [_, _], _ => rfl
    | 27, _ => exact F27.binds (ps := ps27) fun _ _ _ _ _ _ us hl => match us, hl with | [_], _ => rfl
    | n + 28, z => exact absurd z (by show ¬ n + 28 < 28; omega)
  · simp only [tab, List.mem_cons, List.not_mem_nil, or_false] at hx
    rcases hx with rfl | rfl | rfl | rfl | rfl | rfl | rfl | rfl | rfl | rfl | rfl | rfl | rfl
    · exact PySem.W.mg_none_of X G z0
    · exact PySem.W.mg_none_of X G z1
    · exact PySem.W.mg_none_of X G z2
    · exact PySem.W.mg_none_of X G z3
    · exact PySem.W.mg_none_of X G z4
    · exact PySem.W.mg_none_of X G z5
    · exact PySem.W.mg_none_of X G z6
    · exact PySem.W.mg_none_of X G z7
    · exact PySem.W.mg_none_of X G z8
    · exact PySem.W.mg_none_of X G z9
    · exact PySem.W.mg_none_of X G z10
    · exact PySem.W.mg_none_of X G z11
    · exact PySem.W.mg_none_of X G z12
  · match c, hc with
    | 0, _ => exact PySem.W.mg_of X G aC0
    | n + 1, z => exact absurd z (by show ¬ n + 1 < 1; omega)
  · match c, hc with
    | 0, _ => exact ⟨pg0, hd0, po0, sa0⟩
    | n + 1, z => exact absurd z (by show ¬ n + 1 < 1; omega)
  · match c, hc with
    | 0, _ => exact ⟨mk0, a6, i6, kc0⟩
    | n + 1, z => exact absurd z (by show ¬ n + 1 < 1; omega)
  · simp only [tab, List.mem_cons, List.not_mem_nil, or_false] at hp
    rcases hp with rfl | rfl | rfl | rfl
    · exact ⟨by decide, n0⟩
    · exact ⟨by decide, n1⟩
    · exact ⟨by decide, n2⟩
    · exact ⟨by decide, n3⟩
  · simp only [tab, List.mem_cons, List.not_mem_nil, or_false] at hp
    rcases hp with rfl | rfl | rfl | rfl
    · exact ⟨by decide, by decide, ⟨a7, i7, k7⟩⟩
    · exact ⟨by decide, by decide, ⟨a8, i8, k8⟩⟩
    · exact ⟨by decide, by decide, ⟨a9, i9, k9⟩⟩
    · exact ⟨by decide, by decide, ⟨a10, i10, k10⟩⟩
  · simp only [tab, List.mem_cons, List.not_mem_nil, or_false] at hp
    rcases hp with rfl | rfl | rfl | rfl | rfl | rfl | rfl
    · exact ⟨(.int 8), _, PySem.W.mg_of X G gv0, ⟨_, rfl⟩, fun r H => mk_int⟩
    · exact ⟨(.ref AK1), _, PySem.W.mg_of X G gv1, rfl, fun r H => (DV.tup_mk (vs := [(.str "and"), (.str "or"), (.str "not"), (.str "same")]) (.inr ⟨_, _, _, qK1, rfl, rfl, (by show 4 ≤ sizeLine; decide), (.cons (show RelV (.str "and") (.str "and" tK1_0) from ⟨_, rfl⟩) (.cons (show RelV (.str "or") (.str "or" tK1_1) from ⟨_, rfl⟩) (.cons (show RelV (.str "not") (.str "not" tK1_2) from ⟨_, rfl⟩) (.cons (show RelV (.str "same") (.str "same" tK1_3) from ⟨_, rfl⟩) .nil))))⟩) (DVs.cons mk_str (DVs.cons mk_str (DVs.cons mk_str (DVs.cons mk_str DVs.nil)))))⟩
    · exact ⟨(.str "abcdefghijklmnopqrstuvwxyz"), _, PySem.W.mg_of X G gv2, ⟨_, rfl⟩, fun r H => mk_str⟩
    · exact ⟨(.ref AK3), _, PySem.W.mg_of X G gv3, rfl, fun r H => (DV.tup_mk (vs := [(.str "call"), (.str "back"), (.str "say"), (.str "quiet")]) (.inr ⟨_, _, _, qK3, rfl, rfl, (by show 4 ≤ sizeLine; decide), (.cons (show RelV (.str "call") (.str "call" tK3_0) from ⟨_, rfl⟩) (.cons (show RelV (.str "back") (.str "back" tK3_1) from ⟨_, rfl⟩) (.cons (show RelV (.str "say") (.str "say" tK3_2) from ⟨_, rfl⟩) (.cons (show RelV (.str "quiet") (.str "quiet" tK3_3) from ⟨_, rfl⟩) .nil))))⟩) (DVs.cons mk_str (DVs.cons mk_str (DVs.cons mk_str (DVs.cons mk_str DVs.nil)))))⟩
    · exact ⟨(.ref AK4), _, PySem.W.mg_of X G gv4, rfl, fun r H => (DV.tup_mk (vs := [(.str "next"), (.str "until"), (.str "over"), (.str "across")]) (.inr ⟨_, _, _, qK4, rfl, rfl, (by show 4 ≤ sizeLine; decide), (.cons (show RelV (.str "next") (.str "next" tK4_0) from ⟨_, rfl⟩) (.cons (show RelV (.str "until") (.str "until" tK4_1) from ⟨_, rfl⟩) (.cons (show RelV (.str "over") (.str "over" tK4_2) from ⟨_, rfl⟩) (.cons (show RelV (.str "across") (.str "across" tK4_3) from ⟨_, rfl⟩) .nil))))⟩) (DVs.cons mk_str (DVs.cons mk_str (DVs.cons mk_str (DVs.cons mk_str DVs.nil)))))⟩
    · exact ⟨(.int 8), _, PySem.W.mg_of X G gv5, ⟨_, rfl⟩, fun r H => mk_int⟩
    · exact ⟨(.int 6), _, PySem.W.mg_of X G gv6, ⟨_, rfl⟩, fun r H => mk_int⟩
  case kts => exact ⟨⟨AT0, PySem.W.mg_of X G gvT0, KTb.of qT0 loT0 (RelTb.cons (v := (.int 0)) ⟨_, rfl⟩ (fun r H => mk_int) (RelTb.cons (v := (.int 1)) ⟨_, rfl⟩ (fun r H => mk_int) (RelTb.cons (v := (.int 1)) ⟨_, rfl⟩ (fun r H => mk_int) (RelTb.cons (v := (.int 1)) ⟨_, rfl⟩ (fun r H => mk_int) (RelTb.cons (v := (.int 2)) ⟨_, rfl⟩ (fun r H => mk_int) (RelTb.cons (v := (.int 2)) ⟨_, rfl⟩ (fun r H => mk_int) (RelTb.cons (v := (.int 2)) ⟨_, rfl⟩ (fun r H => mk_int) (RelTb.cons (v := (.int 2)) ⟨_, rfl⟩ (fun r H => mk_int) RelTb.nil))))))))⟩⟩
theorem walk {l : PySem.W.OpenLaw} {q : Program} {loose : List Str} {XP : (Str → Option Value) → Heap → Prop} {YP : World → Heap → Prop} {d : DefRec} {K : Params → PySem.W.Frag} (hn : l.most = some 63) (hdf : d.params.defaults = [])
    (pure_law : ∀ ns : List Int, ns.length ≤ 63 → ∃ S', calls 100 27 [.scr ns] [] = some (.bl true, S')) (hY : ∀ (w : World) (h : Heap), YP w h → (K w.params).In h)
    (F : ∀ (w : World) (mg : Str → Option Value) (fa : Addr) (h : Heap), (K w.params).In h → h.Ns mainGlobals mg → mg d.name = some (.ref fa) →
      ∃ (a : Nat → Addr) (fd : Nat → FuncData) (ca : Nat → Addr), Tx (K w.params) mg a fd ca ∧ KTs (K w.params) w mg ∧ a 27 = fa ∧ ∀ (s : Shared) (u : Value), BindsTo s (fd 27) ⟨[u], []⟩ [("_law_script", u)]) :
    PySem.W.WalkO q loose XP YP l.row.toRowW d [] (fun f vs => PySem.call f vs) :=
  L2.walk_of (n := 63) (k := 100) (x := "_law_script") (CX := fun _ => CX0) (sp := fun w => spA (K w.params) w 1 (calls 100 27)) hn (by decide) hdf ⟨rfl, by decide, by decide⟩ hY (fun w mg fa h X G hm => by
    obtain ⟨a, fd, ca, T, KT, ea, hb⟩ := F w mg fa h X G hm
    subst ea
    exact ⟨fd 27, hb, fun base _ _ => fn_spA (ca := ca) ((allF (step T KT) 100).F 27)⟩) (fun w H a ns hl hO hS ca => sp_law (G := ⟨K w.params, w, ca⟩) pure_law H a ns hl hO hS) fun _ _ _ _ _ z => z
end
end k12
end DL
namespace DL
namespace k12
open PySem
/-- walking on from i, at most m turns -/
def W (f : Nat → Option Nat) (a s : Nat → Bool) : Nat → Nat → Bool
  | 0, _ => false
  | m + 1, i => s i || (a i && match f i with | none => false | some j => W f a s m j)
section
variable {f : Nat → Option Nat} {a s t : Nat → Bool} {N : Nat}
theorem W_succ {m i : Nat} : W f a s (m + 1) i = (s i || (a i && match f i with | none => false | some j => W f a s m j)) := rfl
theorem W_mono : ∀ {m i : Nat}, W f a s m i = true → W f a s (m + 1) i = true
  | 0, _, h => by cases h
  | m + 1, i, h => by
    rw [W_succ] at h ⊢
    simp only [Bool.or_eq_true, Bool.and_eq_true] at h ⊢
    rcases h with h | ⟨h1, h2⟩
    · exact .inl h
    · refine .inr ⟨h1, ?_⟩
      cases e : f i with
      | none => rw [e] at h2; cases h2
      | some j => rw [e] at h2; exact W_mono h2
theorem W_le {m k i : Nat} (h : W f a s m i = true) (hk : m ≤ k) : W f a s k i = true := by
  induction hk with
  | refl => exact h
  | step _ ih => exact W_mono ih
/-- how many are reached -/
def cnt (p : Nat → Bool) (N : Nat) : Nat := (List.range N).countP p
theorem cnt_le {p : Nat → Bool} : cnt p N ≤ N := by
  have := List.countP_le_length (p := p) (l := List.range N)
  simpa [cnt] using this
theorem countP_lt {p q : Nat → Bool} : ∀ {l : List Nat}, (∀ i ∈ l, p i = true → q i = true) → (∃ i ∈ l, q i = true ∧ p i = false) → l.countP p + 1 ≤ l.countP q
  | [], _, ⟨_, h, _⟩ => by cases h
  | x :: l, h, ⟨i, hi, h1, h2⟩ => by
    have hm : l.countP p ≤ l.countP q := by
      have h' := fun i (hi : i ∈ l) => h i (List.mem_cons_of_mem _ hi)
      exact List.countP_mono_left h'
    rw [List.countP_cons, List.countP_cons]
    rcases List.mem_cons.mp hi with rfl | hi
    · simp only [h1, h2, if_true]
      simp only [Bool.false_eq_true, if_false]
      omega
    · have := countP_lt (fun i hi => h i (List.mem_cons_of_mem _ hi)) ⟨i, hi, h1, h2⟩
      by_cases hp : p x = true
      · have hq := h x List.mem_cons_self hp
        simp only [hp, hq, if_true]
        omega
      · rw [if_neg hp]
        omega
theorem W_next {m : Nat} (hf : ∀ i j, i < N → f i = some j → j < N) (h : ∀ i, i < N → W f a s (m + 1) i = true → W f a s m i = true) : ∀ i, i < N → W f a s (m + 2) i = true → W f a s (m + 1) i = true := fun i hi h2 => by
  rw [W_succ] at h2 ⊢
  simp only [Bool.or_eq_true, Bool.and_eq_true] at h2 ⊢
  rcases h2 with h2 | ⟨h3, h4⟩
  · exact .inl h2
  · refine .inr ⟨h3, ?_⟩
    cases e : f i with
    | none => rw [e] at h4; cases h4
    | some j => rw [e] at h4; exact h j (hf i j hi e) h4
theorem W_grow (hf : ∀ i j, i < N → f i = some j → j < N) : ∀ m, (∀ i, i < N → W f a s (m + 1) i = true → W f a s m i = true) ∨ m + 1 ≤ cnt (W f a s (m + 1)) N
  | 0 => by
    by_cases h : ∀ i, i < N → W f a s 1 i = true → W f a s 0 i = true
    · exact .inl h
    · simp only [Classical.not_forall] at h
      obtain ⟨i, hi, h1, h2⟩ := h
      refine .inr ?_
      have := countP_lt (p := W f a s 0) (q := W f a s 1) (l := List.range N) (fun i _ h => W_mono h) ⟨i, List.mem_range.mpr hi, h1, by simpa using h2⟩
      exact Nat.le_trans (by omega) this
  | m + 1 => by
    rcases W_grow hf m with h | h
    · exact .inl (W_next hf h)
    · by_cases h' : ∀ i, i < N → W f a s (m + 2) i = true → W f a s (m + 1) i = true
      · exact .inl h'
      · simp only [Classical.not_forall] at h'
        obtain ⟨i, hi, h1, h2⟩ := h'
        refine .inr ?_
        have := countP_lt (p := W f a s (m + 1)) (q := W f a s (m + 2)) (l := List.range N) (fun i _ h => W_mono h) ⟨i, List.mem_range.mpr hi, h1, by simpa using h2⟩
        exact Nat.le_trans (Nat.add_le_add_right h 1) this
theorem W_stab (hf : ∀ i j, i < N → f i = some j → j < N) {m i : Nat} (hi : i < N) (h : W f a s m i = true) : W f a s (N + 1) i = true := by
  have st : ∀ i, i < N → W f a s (N + 1) i = true → W f a s N i = true := by
    rcases W_grow (a := a) (s := s) hf N with h | h
    · exact h
    · have := cnt_le (p := W f a s (N + 1)) (N := N)
      omega
  have st2 : ∀ k i, i < N → W f a s (N + k + 1) i = true → W f a s (N + k) i = true := fun k => by
    induction k with
    | zero => exact st
    | succ k ih => exact W_next hf ih
  have : ∀ k i, i < N → W f a s (N + 1 + k) i = true → W f a s (N + 1) i = true := fun k => by
    induction k with
    | zero => exact fun _ _ h => h
    | succ k ih => exact fun i hi h => ih i hi (by
        have := st2 (k + 1) i hi (by rw [show N + (k + 1) + 1 = N + 1 + (k + 1) by omega]; exact h)
        rwa [show N + (k + 1) = N + 1 + k by omega] at this)
  exact this m i hi (W_le h (by omega))
theorem W_fix (hf : ∀ i j, i < N → f i = some j → j < N) (h1 : ∀ i, i < N → s i = true → t i = true) (h2 : ∀ i j, i < N → a i = true → f i = some j → t j = true → t i = true) (h3 : ∀ i, i < N → t i = true → ∃ m, W f a s m i = true) {i : Nat} (hi : i < N) : t i = W f a s (N + 1) i := by
  have up : ∀ m i, i < N → W f a s m i = true → t i = true := fun m => by
    induction m with
    | zero => intro i _ h; cases h
    | succ m ih =>
      intro i hi h
      rw [W_succ] at h
      simp only [Bool.or_eq_true, Bool.and_eq_true] at h
      rcases h with h | ⟨h3, h4⟩
      · exact h1 i hi h
      · cases e : f i with
        | none => rw [e] at h4; cases h4
        | some j => rw [e] at h4; exact h2 i j hi h3 e (ih j (hf i j hi e) h4)
  rw [Bool.eq_iff_iff]
  exact ⟨fun h => let ⟨m, hm⟩ := h3 i hi h; W_stab hf hi hm, up _ i hi⟩
end
/-- the falses of a list -/
def cF : List Bool → Nat
  | [] => 0
  | b :: l => (if b then 0 else 1) + cF l
theorem cF_set : ∀ {l : List Bool} {i : Nat}, l[i]? = some false → cF (l.set i true) + 1 = cF l
  | b :: l, 0, h => by
    simp at h
    subst h
    simp [cF]
    omega
  | b :: l, i + 1, h => by
    simp at h
    have := cF_set h
    simp [cF]
    omega

/-! ### names -/
/-- a short text -/
structure Sx (x : Str) : Prop where
  len : x.length ≤ 60
  lay : (PyData.str x).canLay0 = true
theorem Sx.th {x : Str} (h : Sx x) {n : Nat} : Th n (.str x) := .str h.lay
theorem eq_sx {x y : Str} {S : Sto} (hx : Sx x) (hy : Sx y) : eqP (.str x) (.str y) S = some (.bl (decide (x = y)), S) := by
  rw [eq_th (n := 0) (m := 0) hx.th hy.th (by decide) (by decide)]
  simp
theorem ne_sx {x y : Str} {S : Sto} (hx : Sx x) (hy : Sx y) : neP (.str x) (.str y) S = some (.bl (!decide (x = y)), S) := by
  rw [ne_th (n := 0) (m := 0) hx.th hy.th (by decide) (by decide)]
  simp
def lw : Str := "abcdefghijklmnopqrstuvwxyz"
def inL : D → Bool
  | .str x => !(Builtin.Str.occurrences lw x 0 lw.length 1).isEmpty
  | _ => false
def wordsD : List D := [.str "and", .str "or", .str "not", .str "same"]
noncomputable def nameB (x : Str) : Bool := (decide (1 ≤ x.length) && decide (x.length ≤ 8)) && ((chD x).all inL && !decide (D.str x ∈ wordsD))
theorem len_str {x : Str} {S : Sto} (h : Sx x) : lenQ [.str x] S = some (.int x.length, S) := by
  have := h.len
  have e : lenQ [.str x] S = lenP [.str x] S := rfl
  rw [e]
  simp only [lenP]
  rw [if_pos (fits (by omega))]
theorem words_th : ∀ d ∈ wordsD, Th 0 d := by
  intro d hd
  simp [wordsD] at hd
  rcases hd with rfl | rfl | rfl | rfl <;> exact .str (by decide +kernel)
theorem chs_ok {x : Str} (hx : Sx x) {env : Vars} {S : Sto} {i : Nat} (he : i < env.length) :
    Ow (lcL (.seq (.tup (chD x))) [i] (.nm i) bYes (m2 inSP (mVar i) (mC (.str lw))) env 0 [] S) fun r => r.1 = (chD x).map (fun c => .bl (inL c)) ∧ Gr S r.2 := by
  have hl : (chD x).length ≤ 1000000 := by
    have := hx.len
    have e : (chD x).length = x.length := by simp [chD, Str.length]
    omega
  refine (lcG (d := .tup (chD x)) (its := chD x) rfl hl (fun _ => true) (fun c => .bl (inL c)) fun c hc => ?_).imp ?_
  · refine ⟨_, rfl, fun S1 _ => ?_⟩
    obtain ⟨z, rfl⟩ : ∃ z, c = .str z := by
      unfold chD at hc
      obtain ⟨y, _, rfl⟩ := List.mem_map.mp hc
      exact ⟨_, rfl⟩
    simp [bYes, wipeD, he, inSP, inL, Gr.refl]
  · rintro ⟨ds, S1⟩ ⟨h1, g⟩
    dsimp only at h1 g ⊢
    exact ⟨h1.trans (by rw [List.filter_eq_self.mpr fun _ _ => rfl]), g⟩
end k12
end DL
namespace DL
namespace k12
open PySem
/-! ### runs -/
abbrev Mk := Str × Str
def mkD (m : Mk) : D := .tup [.str m.1, .str m.2]
def MkOk (m : Mk) : Prop := Sx m.1 ∧ Sx m.2
structure Rn where
  be : List Mk
  ar : List Mk
structure RnOk (R : Rn) : Prop where
  lb : R.be.length ≤ 7
  la : R.ar.length ≤ 7
  a1 : 1 ≤ R.ar.length
  ms : ∀ m ∈ R.be ++ R.ar, MkOk m
def Rn.M (R : Rn) : List Mk := R.be ++ R.ar
def Rn.N (R : Rn) : Nat := R.M.length
def Rn.B (R : Rn) : Nat := R.be.length
def Rn.mk1 (R : Rn) (i : Nat) : Mk := R.M[i]?.getD ("", "")
/-- open calls and matches, after one more mark -/
abbrev Op := List Nat × List (D × D)
def mS (st : Op) (i : Nat) (m : Mk) : Op :=
  if m.1 = "call" then (st.1 ++ [i], st.2)
  else if m.1 = "back" ∧ st.1 ≠ [] then (st.1.dropLast, dput st.2 (.int (st.1.getLastD 0)) (.int i)) else st
def mP (o : Nat) (ms : List Mk) (st : Op) : Nat → Op
  | 0 => st
  | j + 1 => mS (mP o ms st j) (o + j) (ms[j]?.getD ("", ""))
def Rn.m1 (R : Rn) : List (D × D) := (mP 0 R.be ([], []) R.be.length).2
def Rn.mts (R : Rn) : List (D × D) := (mP R.B R.ar ([], R.m1) R.ar.length).2
/-- as the program goes: all marks in one -/
def Rn.pP (R : Rn) : Nat → Op
  | 0 => ([], [])
  | j + 1 => mS (if j = R.B then ([], (R.pP j).2) else R.pP j) j (R.mk1 j)
theorem pP_be {R : Rn} : ∀ {j : Nat}, j ≤ R.B → R.pP j = mP 0 R.be ([], []) j
  | 0, _ => rfl
  | j + 1, h => by
    have hj : j < R.be.length := h
    rw [Rn.pP, mP, pP_be (show j ≤ R.B by omega), if_neg (by omega)]
    congr 1
    · omega
    · simp only [Rn.mk1, Rn.M]
      rw [List.getElem?_append_left hj]
theorem pP_ar {R : Rn} : ∀ {j : Nat}, R.pP (R.B + (j + 1)) = mP R.B R.ar ([], R.m1) (j + 1)
  | 0 => by
    rw [show R.B + (0 + 1) = R.B + 1 from rfl, Rn.pP, if_pos rfl, pP_be (Nat.le_refl _), mP, mP]
    congr 1
    simp only [Rn.mk1, Rn.M, Rn.B]
    rw [List.getElem?_append_right (Nat.le_refl _)]
    simp
  | j + 1 => by
    rw [show R.B + (j + 1 + 1) = (R.B + (j + 1)) + 1 from rfl, Rn.pP, if_neg (by omega), pP_ar, mP]
    congr 1
    simp only [Rn.mk1, Rn.M, Rn.B]
    rw [List.getElem?_append_right (by omega)]
    congr 2
    omega
theorem pP_all {R : Rn} (h : 1 ≤ R.ar.length) : (R.pP R.N).2 = R.mts := by
  obtain ⟨j, hj⟩ : ∃ j, R.ar.length = j + 1 := ⟨R.ar.length - 1, by omega⟩
  have : R.N = R.B + (j + 1) := by simp [Rn.N, Rn.M, Rn.B, hj]
  rw [this, pP_ar, Rn.mts, hj]
/-- what stands in the matches -/
def KvOk (n : Nat) (kvs : List (D × D)) : Prop := ∀ p ∈ kvs, ∃ a b : Nat, p = (.int a, .int b) ∧ b < n
theorem KvOk.nb {n : Nat} {kvs : List (D × D)} (h : KvOk n kvs) : nbK kvs := fun p hp => by
  obtain ⟨a, b, rfl, _⟩ := h p hp
  rfl
theorem KvOk.put {n : Nat} : ∀ {kvs : List (D × D)} {a b : Nat}, KvOk n kvs → b < n → KvOk n (dput kvs (.int a) (.int b))
  | [], a, b, _, hb => by
    rw [dput_nil]
    intro p hp
    rw [List.mem_singleton.mp hp]
    exact ⟨a, b, rfl, hb⟩
  | (x, v) :: r, a, b, h, hb => by
    have hr : KvOk n r := fun p hp => h p (List.mem_cons_of_mem _ hp)
    obtain ⟨a', b', e, hb'⟩ := h _ List.mem_cons_self
    obtain ⟨rfl, rfl⟩ := Prod.mk.inj e
    rw [dput_cons rfl rfl]
    split
    · intro p hp
      rcases List.mem_cons.mp hp with rfl | hp
      · exact ⟨a', b, rfl, hb⟩
      · exact hr p hp
    · intro p hp
      rcases List.mem_cons.mp hp with rfl | hp
      · exact ⟨a', b', rfl, hb'⟩
      · exact hr.put hb p hp
theorem KvOk.look {n : Nat} : ∀ {kvs : List (D × D)} {k v : D}, KvOk n kvs → lookD kvs k = some v → ∃ b : Nat, v = .int b ∧ b < n
  | (x, w) :: r, k, v, h, e => by
    rw [lookD] at e
    split at e
    · cases e
      obtain ⟨a, b, e2, hb⟩ := h _ List.mem_cons_self
      exact ⟨b, (Prod.mk.inj e2).2, hb⟩
    · exact KvOk.look (fun p hp => h p (List.mem_cons_of_mem _ hp)) e
theorem KvOk.mono {n m : Nat} {kvs : List (D × D)} (h : KvOk n kvs) (hm : n ≤ m) : KvOk m kvs := fun p hp => by
  obtain ⟨a, b, e, hb⟩ := h p hp
  exact ⟨a, b, e, by omega⟩
theorem mS_kv {st : Op} {i n : Nat} {m : Mk} (h : KvOk n st.2) (hi : i < n) : KvOk n (mS st i m).2 := by
  unfold mS
  split
  · exact h
  · split
    · exact h.put hi
    · exact h
theorem mS_len {st : Op} {i : Nat} {m : Mk} : (mS st i m).2.length ≤ st.2.length + 1 ∧ (mS st i m).1.length ≤ st.1.length + 1 := by
  unfold mS
  split
  · simp
  · split
    · refine ⟨length_put _ _ _, ?_⟩
      simp
      omega
    · simp
theorem mP_kv {o n : Nat} {ms : List Mk} {st : Op} (h : KvOk n st.2) : ∀ j, o + j ≤ n → KvOk n (mP o ms st j).2
  | 0, _ => h
  | j + 1, hj => mS_kv (mP_kv h j (by omega)) (by omega)
theorem mP_len {o : Nat} {ms : List Mk} {st : Op} : ∀ j, (mP o ms st j).2.length ≤ st.2.length + j ∧ (mP o ms st j).1.length ≤ st.1.length + j
  | 0 => by simp [mP]
  | j + 1 => by
    have h1 := mP_len (o := o) (ms := ms) (st := st) j
    have h2 := mS_len (st := mP o ms st j) (i := o + j) (m := ms[j]?.getD ("", ""))
    simp only [mP]
    omega
theorem pP_kv {R : Rn} : ∀ j, j ≤ R.N → KvOk R.N (R.pP j).2
  | 0, _ => by
    intro p hp
    cases hp
  | j + 1, h => by
    rw [Rn.pP]
    refine mS_kv ?_ (by omega)
    split
    · exact pP_kv j (by omega)
    · exact pP_kv j (by omega)
theorem pP_len {R : Rn} : ∀ j, (R.pP j).2.length ≤ j ∧ (R.pP j).1.length ≤ j
  | 0 => by simp [Rn.pP]
  | j + 1 => by
    have h1 := pP_len (R := R) j
    have h2 := mS_len (st := if j = R.B then ([], (R.pP j).2) else R.pP j) (i := j) (m := R.mk1 j)
    rw [Rn.pP]
    split at h2
    · rename_i e
      rw [if_pos e]
      simp at h2
      omega
    · rename_i e
      rw [if_neg e]
      omega
theorem mts_kv {R : Rn} (h : 1 ≤ R.ar.length) : KvOk R.N R.mts := by
  rw [← pP_all h]
  exact pP_kv _ (Nat.le_refl _)
/-- the steps behind and across -/
def Rn.fo (R : Rn) (i : Nat) : Nat := if i + 1 < R.N then i + 1 else R.B
def oD : Option Nat → D
  | none => .non
  | some j => .int j
def oN : Option D → Option Nat
  | some (.int j) => some j.toNat
  | _ => none
def Rn.ac (R : Rn) (i : Nat) : Option Nat := if (R.mk1 i).1 = "call" then oN (dget R.mts (.int i)) else if (R.mk1 (R.fo i)).1 = "back" then none else some (R.fo i)
def Rn.nx (R : Rn) (s : Str) (i : Nat) : Option Nat := if s = "over" ∨ s = "across" then R.ac i else some (R.fo i)
theorem N_lt {R : Rn} (h : 1 ≤ R.ar.length) : R.B < R.N := by
  simp [Rn.N, Rn.M, Rn.B]
  omega
theorem fo_lt {R : Rn} (h : 1 ≤ R.ar.length) {i : Nat} : R.fo i < R.N := by
  have := N_lt h
  unfold Rn.fo
  split <;> omega
theorem get_mts {R : Rn} (h : 1 ≤ R.ar.length) {i : Nat} : dget R.mts (.int i) = none ∨ ∃ j, dget R.mts (.int i) = some (.int (j : Nat)) ∧ j < R.N := by
  have kv := mts_kv h
  cases e : dget R.mts (.int i) with
  | none => exact .inl rfl
  | some v =>
    rw [dget_look kv.nb rfl] at e
    obtain ⟨b, rfl, hb⟩ := kv.look e
    exact .inr ⟨b, rfl, hb⟩
theorem ac_lt {R : Rn} (h : 1 ≤ R.ar.length) {i j : Nat} (e : R.ac i = some j) : j < R.N := by
  unfold Rn.ac at e
  split at e
  · rcases get_mts h (i := i) with h1 | ⟨b, h1, h2⟩
    · rw [h1] at e
      cases e
    · rw [h1] at e
      simp [oN] at e
      omega
  · split at e
    · cases e
    · cases e
      exact fo_lt h
theorem nx_lt {R : Rn} (h : 1 ≤ R.ar.length) {s : Str} : ∀ i j, i < R.N → R.nx s i = some j → j < R.N := fun i j _ e => by
  unfold Rn.nx at e
  split at e
  · exact ac_lt h e
  · cases e
    exact fo_lt h
/-! ### truths -/
noncomputable def atB (d e : D) (m : Mk) : Bool := decide (D.str m.1 = d) && decide (e ∈ [D.str "", .str m.2])
noncomputable def tv (R : Rn) : Nat → D → Nat → Bool
  | _ + 1, .tup [.str _], _ => true
  | n + 1, .tup [.str s, d], i => if s = "not" then !tv R n d i else (match R.nx s i with | none => false | some j => tv R n d j)
  | n + 1, .tup [.str s, d, e], i => if s = "at" then atB d e (R.mk1 i) else if s = "and" then tv R n d i && tv R n e i else if s = "or" then tv R n d i || tv R n e i else W (R.nx s) (tv R n d) (tv R n e) (R.N + 1) i
  | _, _, _ => false
/-- good promises -/
inductive Pm : Nat → D → Prop
  | at_ {n : Nat} {a b : Str} : Sx a → Sx b → Pm (n + 1) (.tup [.str "at", .str a, .str b])
  | yes {n : Nat} : Pm (n + 1) (.tup [.str "yes"])
  | one {n : Nat} {s : Str} {d : D} : s = "not" ∨ s = "next" ∨ s = "over" → Pm n d → Pm (n + 1) (.tup [.str s, d])
  | two {n : Nat} {s : Str} {d e : D} : s = "and" ∨ s = "or" ∨ s = "until" ∨ s = "across" → Pm n d → Pm n e → Pm (n + 1) (.tup [.str s, d, e])
theorem sx_lit {x : Str} (h : (x.length ≤ 60 ∧ (PyData.str x).canLay0 = true) := by decide +kernel) : Sx x := ⟨h.1, h.2⟩
theorem lit_th {n : Nat} {x : Str} (h : (x.length ≤ 60 ∧ (PyData.str x).canLay0 = true) := by decide +kernel) : Th n (.str x) := (sx_lit h).th
theorem Pm.th {n : Nat} {d : D} (h : Pm n d) : Th n d := by
  induction h with
  | at_ ha hb =>
    refine .tup (by simp) fun d hd => ?_
    simp at hd
    rcases hd with rfl | rfl | rfl
    · exact lit_th
    · exact ha.th
    · exact hb.th
  | yes =>
    refine .tup (by simp) fun d hd => ?_
    simp at hd
    subst hd
    exact lit_th
  | one hs _ ih =>
    refine .tup (by simp) fun d hd => ?_
    simp at hd
    rcases hd with rfl | rfl
    · rcases hs with rfl | rfl | rfl <;> exact lit_th
    · exact ih
  | two hs _ _ ih1 ih2 =>
    refine .tup (by simp) fun d hd => ?_
    simp at hd
    rcases hd with rfl | rfl | rfl
    · rcases hs with rfl | rfl | rfl | rfl <;> exact lit_th
    · exact ih1
    · exact ih2
end k12
end DL
namespace DL
namespace k12
open PySem
/-! ### the forms -/
/-- things as the law makes them -/
inductive Pr : Nat → D → Prop
  | str {n : Nat} {x : Str} : Sx x → Pr n (.str x)
  | tup {n : Nat} {ds : List D} : ds.length ≤ 3 → (∀ d ∈ ds, Pr n d) → Pr (n + 1) (.tup ds)
theorem Pr.th {n : Nat} {d : D} (h : Pr n d) : Th n d := by
  induction h with
  | str hx => exact hx.th
  | tup h _ ih => exact .tup (by omega) ih
def kindsD : List D := [.str "call", .str "back", .str "say", .str "quiet"]
def sz (s : Str) : Int := if s = "yes" then 0 else if s = "not" then 1 else if s = "next" then 1 else if s = "over" then 1 else if s = "and" then 2 else if s = "or" then 2 else if s = "until" then 2 else if s = "across" then 2 else -1
noncomputable def atG : List D → Bool
  | [a, .str b] => decide (a ∈ kindsD) && (decide (b = "") || nameB b)
  | _ => false
noncomputable def good : Nat → D → Bool
  | n + 1, .tup (.str s :: ds) => if s = "at" then atG ds else decide ((ds.length : Int) = sz s) && ds.all (good n)
  | _, _ => false
theorem good_s {n : Nat} {s : Str} {ds : List D} : good (n + 1) (.tup (.str s :: ds)) = if s = "at" then atG ds else decide ((ds.length : Int) = sz s) && ds.all (good n) := rfl
theorem kinds_th : ∀ d ∈ kindsD, Th 0 d := by
  intro d hd
  simp [kindsD] at hd
  rcases hd with rfl | rfl | rfl | rfl <;> exact lit_th
theorem sz_look (s : Str) : (kt0.lookup s).getD (.int (-1)) = .int (sz s) := by
  unfold sz kt0
  simp only [List.lookup_cons, List.lookup_nil]
  by_cases h1 : s = "yes"
  · subst h1; rfl
  · by_cases h2 : s = "not"
    · subst h2; rfl
    · by_cases h3 : s = "next"
      · subst h3; rfl
      · by_cases h4 : s = "over"
        · subst h4; rfl
        · by_cases h5 : s = "and"
          · subst h5; rfl
          · by_cases h6 : s = "or"
            · subst h6; rfl
            · by_cases h7 : s = "until"
              · subst h7; rfl
              · by_cases h8 : s = "across"
                · subst h8; rfl
                · simp [h1, h2, h3, h4, h5, h6, h7, h8, beq_eq_false_iff_ne.mpr h1, beq_eq_false_iff_ne.mpr h2, beq_eq_false_iff_ne.mpr h3, beq_eq_false_iff_ne.mpr h4, beq_eq_false_iff_ne.mpr h5, beq_eq_false_iff_ne.mpr h6, beq_eq_false_iff_ne.mpr h7, beq_eq_false_iff_ne.mpr h8]
def szK : List (D × D) := [(.str "yes", .int 0), (.str "not", .int 1), (.str "next", .int 1), (.str "over", .int 1), (.str "and", .int 2), (.str "or", .int 2), (.str "until", .int 2), (.str "across", .int 2)]
theorem sz_dget (s : Str) : (dget szK (.str s)).getD (.int (-1)) = .int (sz s) := by
  have nb : nbK szK := by
    intro p hp
    simp [szK] at hp
    rcases hp with rfl | rfl | rfl | rfl | rfl | rfl | rfl | rfl <;> rfl
  rw [dget_look nb rfl]
  unfold sz szK
  simp only [lookD, D.str.injEq]
  simp only [eq_comm (b := s)]
  repeat' split
  all_goals rfl
theorem pm_of : ∀ {n m : Nat} {d : D}, Pr m d → good n d = true → Pm n d
  | 0, _, d, _, h => by simp [good] at h
  | n + 1, m, d, hp, h => by
    cases hp with
    | str hx => simp [good] at h
    | @tup m ds hl hd =>
      match ds, h with
      | [], h => simp [good] at h
      | .str s :: ds, h =>
        have hd2 : ∀ d ∈ ds, Pr m d := fun d hd' => hd d (List.mem_cons_of_mem _ hd')
        rw [good_s] at h
        by_cases e : s = "at"
        · subst e
          rw [if_pos rfl] at h
          unfold atG at h
          split at h
          · rename_i a b
            simp only [Bool.and_eq_true, decide_eq_true_eq] at h
            have hb : Sx b := by
              have := hd2 (.str b) (by simp)
              cases this with
              | str hx => exact hx
            have ha : ∃ x, a = .str x ∧ Sx x := by
              have := h.1
              simp [kindsD] at this
              rcases this with rfl | rfl | rfl | rfl <;> exact ⟨_, rfl, sx_lit⟩
            obtain ⟨x, rfl, hx⟩ := ha
            exact .at_ hx hb
          · cases h
        · rw [if_neg e] at h
          simp only [Bool.and_eq_true, decide_eq_true_eq, List.all_eq_true] at h
          obtain ⟨h1, h2⟩ := h
          have ih : ∀ d ∈ ds, Pm n d := fun d hd' => pm_of (hd2 d hd') (h2 d hd')
          have cs : (s = "yes" ∧ ds.length = 0) ∨ ((s = "not" ∨ s = "next" ∨ s = "over") ∧ ds.length = 1) ∨ ((s = "and" ∨ s = "or" ∨ s = "until" ∨ s = "across") ∧ ds.length = 2) := by
            unfold sz at h1
            split at h1
            · exact .inl ⟨‹_›, by omega⟩
            split at h1
            · exact .inr (.inl ⟨.inl ‹_›, by omega⟩)
            split at h1
            · exact .inr (.inl ⟨.inr (.inl ‹_›), by omega⟩)
            split at h1
            · exact .inr (.inl ⟨.inr (.inr ‹_›), by omega⟩)
            split at h1
            · exact .inr (.inr ⟨.inl ‹_›, by omega⟩)
            split at h1
            · exact .inr (.inr ⟨.inr (.inl ‹_›), by omega⟩)
            split at h1
            · exact .inr (.inr ⟨.inr (.inr (.inl ‹_›)), by omega⟩)
            split at h1
            · exact .inr (.inr ⟨.inr (.inr (.inr ‹_›)), by omega⟩)
            · omega
          rcases cs with ⟨rfl, hl2⟩ | ⟨hs, hl2⟩ | ⟨hs, hl2⟩
          · rw [List.length_eq_zero_iff.mp hl2]
            exact .yes
          · obtain ⟨a, rfl⟩ := List.length_eq_one_iff.mp hl2
            exact .one hs (ih a (by simp))
          · match ds, hl2 with
            | [a, b], _ => exact .two hs (ih a (by simp)) (ih b (by simp))
      | .non :: ds, h => simp [good] at h
      | .bl _ :: ds, h => simp [good] at h
      | .int _ :: ds, h => simp [good] at h
      | .tup _ :: ds, h => simp [good] at h
      | .loc _ :: ds, h => simp [good] at h
      | .scr _ :: ds, h => simp [good] at h
theorem name_ok (k : Nat) {x : Str} (hx : Sx x) {S : Sto} : Ow (calls (k + 1) 0 [.str x] S) fun r => r.1 = .bl (nameB x) ∧ Gr S r.2 := by
  obtain ⟨x0, e0⟩ := c0 k
  rw [e0, ow_runB]
  unfold bd0
  rw [ow_seq]
  have hi : inQ (.str x) (.tup wordsD) S = some (.bl (decide (D.str x ∈ wordsD)), S) := in_ths (n := 0) (m := 0) hx.th rfl words_th (by decide) (by decide)
  have hw : (D.str x ∈ wordsD) ↔ (x = "and" ∨ x = "or" ∨ x = "not" ∨ x = "same") := by simp [wordsD]
  unfold wordsD at hi
  simp [-ow_seq, len_str hx, hi]
  split
  · rename_i h1
    split
    · rename_i h2
      split
      · rename_i h3
        exact ⟨by simp [nameB, hw.mpr h3], .refl⟩
      · rename_i h3
        rw [ow_lc, ow_iTxt]
        simp
        refine (chs_ok hx (i := 1) (by simp)).imp ?_
        rintro ⟨ds, S1⟩ ⟨rfl, g⟩
        dsimp only at g ⊢
        rw [all_loc get_snoc]
        simp
        refine ⟨?_, g.snoc⟩
        unfold nameB
        rw [decide_eq_true (show 1 ≤ x.length by omega), decide_eq_true (show x.length ≤ 8 by omega), decide_eq_false (fun z => h3 (hw.mp z))]
        simp
    · rename_i h2
      exact ⟨by unfold nameB; rw [decide_eq_false (show ¬ x.length ≤ 8 by omega)]; simp, .refl⟩
  · rename_i h1
    exact ⟨by unfold nameB; rw [decide_eq_false (show ¬ 1 ≤ x.length by omega)]; simp, .refl⟩
theorem lname_ok (k : Nat) {x : Str} (hx : Sx x) {S : Sto} : Ow (calls (k + 1) 23 [.str x] S) fun r => r.1 = .bl (nameB x) ∧ Gr S r.2 := by
  obtain ⟨x0, e0⟩ := c23 k
  rw [e0, ow_runB]
  unfold bd23
  rw [ow_seq]
  have hw : (D.str x ∈ wordsD) ↔ (x = "and" ∨ x = "or" ∨ x = "not" ∨ x = "same") := by simp [wordsD]
  have hi : ∀ S, notInQ (.str x) (.loc S.length) (S ++ [.lst wordsD]) = some (.bl (!decide (D.str x ∈ wordsD)), S ++ [.lst wordsD]) := fun S => notIn_ths (n := 0) (m := 0) hx.th (seq_loc get_snoc) words_th (by decide) (by decide)
  unfold wordsD at hi
  simp [-ow_seq, len_str hx]
  by_cases h1 : 1 ≤ x.length
  · by_cases h2 : x.length ≤ 8
    · rw [if_pos (by omega), if_pos (by omega), ow_lc, ow_iTxt]
      simp [-ow_seq]
      refine (chs_ok hx (i := 2) (by simp)).imp ?_
      rintro ⟨ds, S1⟩ ⟨rfl, g⟩
      dsimp only at g ⊢
      rw [all_loc get_snoc]
      simp [lst_ok]
      have hi2 := hi (S1 ++ [Ob.lst (List.map (fun x => D.bl (inL x)) (chD x))])
      simp only [List.append_assoc, List.cons_append, List.nil_append, List.length_append, List.length_cons, List.length_nil] at hi2
      split
      · rename_i h3
        rw [hi2]
        simp
        refine ⟨?_, g.trans .app⟩
        unfold nameB
        rw [decide_eq_true h1, decide_eq_true h2, show (chD x).all inL = true from List.all_eq_true.mpr h3]
        simp [wordsD]
      · rename_i h3
        refine ⟨?_, g.snoc⟩
        unfold nameB
        rw [show (chD x).all inL = false from Bool.eq_false_iff.mpr fun z => h3 (List.all_eq_true.mp z)]
        simp
    · rw [if_pos (by omega), if_neg (by omega)]
      exact ⟨by unfold nameB; rw [decide_eq_false h2]; simp, .refl⟩
  · rw [if_neg (by omega)]
    exact ⟨by unfold nameB; rw [decide_eq_false h1]; simp, .refl⟩
theorem place_ok (k : Nat) {x : Str} (hx : Sx x) {S : Sto} : Ow (calls (k + 2) 2 [.str x] S) fun r => r.1 = .bl (decide (x = "") || nameB x) ∧ Gr S r.2 := by
  obtain ⟨x0, e0⟩ := c2 (k + 1)
  rw [e0, ow_runB]
  unfold bd2
  simp [eq_sx hx (sx_lit (x := ""))]
  by_cases h : x = ""
  · simp [h, Gr.refl]
  · simp [h]
    exact name_ok k hx
/-- all of the parts are good -/
theorem alls_ok {m n : Nat} {f : Nat} {cl : Nat → FM} {ds : List D} {v : Nat} {env : Vars} {S : Sto} {dn : EM} (hd : ∀ d ∈ ds, Pr m d) (hl : ds.length ≤ 3) (hv : v < env.length)
    (hdn : ∀ c S1, dn ((wipeD env [v]).set v (some c)) S1 = some (.int n, S1)) (h : ∀ d ∈ ds, ∀ S1, Ow (cl f [d, .int n] S1) fun r => r.1 = .bl (good n d) ∧ Gr S1 r.2) :
    Ow (lcL (.seq (.tup ds)) [v] (.nm v) bYes (mL (cl f) (lCons (mVar v) (lCons dn lNil))) env 0 [] S) fun r => r.1 = ds.map (fun c => .bl (good n c)) ∧ Gr S r.2 := by
  refine (lcG (d := .tup ds) (its := ds) rfl (by omega) (fun _ => true) (fun c => .bl (good n c)) fun c hc => ?_).imp ?_
  · refine ⟨_, rfl, fun S1 _ => ?_⟩
    simp [bYes, Gr.refl]
    refine ⟨c, by simp [wipeD, hv], ?_⟩
    rw [hdn]
    simp
    exact h c hc S1
  · rintro ⟨ds, S1⟩ ⟨h1, g⟩
    dsimp only at h1 g ⊢
    exact ⟨h1.trans (by rw [List.filter_eq_self.mpr fun _ _ => rfl]), g⟩
theorem ow_kg {t : List (Str × D)} {l : LM} {env : Vars} {S : Sto} {Q : D × Sto → Prop} : Ow (mKG t l env S) Q ↔ Ow (l env S) fun x => ∃ z y, x.1 = [.str z, y] ∧ Q ((t.lookup z).getD y, x.2) := by
  unfold mKG
  constructor
  · rintro ⟨z, h, q⟩
    split at h
    · rename_i z y S1 e
      cases h
      exact ⟨_, e, z, y, rfl, q⟩
    · cases h
  · rintro ⟨⟨d, S1⟩, h, z, y, e, q⟩
    dsimp only at e
    subst e
    refine ⟨_, ?_, q⟩
    rw [h]
theorem form_ok : ∀ (n k m : Nat) (d : D) (S : Sto), Pr m d → m ≤ 40 → Ow (calls (k + n + 2) 1 [d, .int n] S) fun r => r.1 = .bl (good n d) ∧ Gr S r.2
  | 0, k, m, d, S, hp, hm => by
    obtain ⟨x0, e0⟩ := c1 (k + 1)
    rw [show k + 0 + 2 = k + 1 + 1 from rfl, e0, ow_runB]
    unfold bd1
    rw [ow_seq]
    simp [good, Gr.refl]
  | n + 1, k, m, d, S, hp, hm => by
    obtain ⟨x0, e0⟩ := c1 (k + n + 2)
    rw [show k + (n + 1) + 2 = k + n + 2 + 1 by omega, e0, ow_runB]
    unfold bd1
    rw [ow_seq]
    cases hp with
    | str hx => simp [-ow_seq, good, Gr.refl, show ¬ ((n : Int) + 1 = 0) by omega]
    | @tup m ds hl hd =>
      simp [-ow_seq, show ¬ ((n : Int) + 1 = 0) by omega]
      cases ds with
      | nil => simp [good, Gr.refl]
      | cons a l =>
        have hd2 : ∀ d ∈ l, Pr m d := fun d h => hd d (List.mem_cons_of_mem _ h)
        have ha := hd a List.mem_cons_self
        cases ha with
        | tup h1 h2 => simp [good, Gr.refl]
        | @str _ s hs =>
          have lit : Sx "at" := sx_lit
          simp [-ow_seq]
          rw [ow_seq]
          simp [-ow_seq, eq_sx hs lit]
          by_cases e : s = "at"
          · subst e
            simp [-ow_seq, good_s]
            match l, hl, hd2 with
            | [], _, _ => simp [atG, Gr.refl]
            | [a], _, _ => simp [atG, Gr.refl]
            | [a, b], _, hd2 =>
              have hA := (hd2 a (by simp)).th
              have hB := hd2 b (by simp)
              have hi : inQ a (.tup kindsD) S = some (.bl (decide (a ∈ kindsD)), S) := in_ths (n := m) (m := 0) hA rfl kinds_th (by omega) (by decide)
              have hk : (a ∈ kindsD) ↔ (a = .str "call" ∨ a = .str "back" ∨ a = .str "say" ∨ a = .str "quiet") := by simp [kindsD]
              unfold kindsD at hi
              simp [hi]
              split
              · rename_i h1
                have hka := decide_eq_true (hk.mpr h1)
                cases hB with
                | str hx =>
                  refine (place_ok (k + n) hx).imp ?_
                  rintro ⟨d, S1⟩ ⟨rfl, g⟩
                  simp [atG, hka, g]
                | tup h2 h3 =>
                  obtain ⟨x2, e2⟩ := c2 (k + n + 1)
                  rw [e2, ow_runB]
                  unfold bd2
                  simp [atG, Gr.refl]
              · rename_i h1
                have hka := decide_eq_false (fun z => h1 (hk.mp z))
                refine ⟨?_, .refl⟩
                unfold atG
                split
                · rename_i heq
                  cases heq
                  rw [hka]
                  rfl
                · rfl
            | a :: b :: c :: l, hl, _ => simp at hl
          · simp [-ow_seq, e, good_s]
            rw [ow_seq, ow_asg, ow_kg]
            simp [-ow_seq]
            refine ⟨s, .int (-1), ⟨rfl, rfl⟩, ?_⟩
            rw [sz_look]
            simp [-ow_seq]
            by_cases h1 : (l.length : Int) = sz s
            · rw [if_pos (by omega), ow_lc]
              simp [cut_tail]
              have ll : l.length ≤ 3 := by simp at hl; omega
              refine ⟨rfl, (alls_ok (n := n) (f := 1) hd2 ll (v := 3) (env := [some (D.tup (D.str s :: l)), some (D.int (n + 1)), some (.int (sz s)), none]) (dn := m2 (intP fun i j => i - j) (mVar 1) (mC (D.int 1))) (by simp) (fun c S1 => by simp [wipeD, m2, mVar, mC]) fun d hdm S1 => form_ok n k m d S1 (hd2 d hdm) (by omega)).imp ?_⟩
              rintro ⟨ds, S1⟩ ⟨rfl, g⟩
              dsimp only at g ⊢
              rw [all_loc get_snoc]
              simp [h1]
              exact g.snoc
            · rw [if_neg (by omega)]
              simp [h1, Gr.refl]
theorem sz_disp {env : Vars} {S : Sto} {Q : D × Sto → Prop} (h : Q (.loc S.length, S ++ [.dct szK])) : Ow (mDisp [((mC (.str "yes")), (mC (.int 0))), ((mC (.str "not")), (mC (.int 1))), ((mC (.str "next")), (mC (.int 1))), ((mC (.str "over")), (mC (.int 1))), ((mC (.str "and")), (mC (.int 2))), ((mC (.str "or")), (mC (.int 2))), ((mC (.str "until")), (mC (.int 2))), ((mC (.str "across")), (mC (.int 2)))] env S) Q := by
  rw [ow_mDisp]
  simp only [ow_prs_cons, ow_prs_nil, ow_C]
  refine ⟨?_, ?_⟩
  · simp only [List.all_cons, List.all_nil, okStr, Bool.and_self]
  · rw [show ([(D.str "yes", D.int 0), (D.str "not", D.int 1), (D.str "next", D.int 1), (D.str "over", D.int 1), (D.str "and", D.int 2), (D.str "or", D.int 2), (D.str "until", D.int 2), (D.str "across", D.int 2)].foldl (fun d p => dput d p.1 p.2) []) = szK from rfl]
    exact h
theorem lgood_ok : ∀ (n k m : Nat) (d : D) (S : Sto), Pr m d → m ≤ 40 → Ow (calls (k + n + 2) 24 [d, .int n] S) fun r => r.1 = .bl (good n d) ∧ Gr S r.2
  | 0, k, m, d, S, hp, hm => by
    obtain ⟨x0, e0⟩ := c24 (k + 1)
    rw [show k + 0 + 2 = k + 1 + 1 from rfl, e0, ow_runB]
    unfold bd24
    rw [ow_seq]
    simp [good, Gr.refl]
  | n + 1, k, m, d, S, hp, hm => by
    obtain ⟨x0, e0⟩ := c24 (k + n + 2)
    rw [show k + (n + 1) + 2 = k + n + 2 + 1 by omega, e0, ow_runB]
    unfold bd24
    rw [ow_seq]
    cases hp with
    | str hx => simp [-ow_seq, good, Gr.refl, show ¬ ((n : Int) + 1 = 0) by omega]
    | @tup m ds hl hd =>
      simp [-ow_seq, show ¬ ((n : Int) + 1 = 0) by omega]
      cases ds with
      | nil => simp [good, Gr.refl]
      | cons a l =>
        have hd2 : ∀ d ∈ l, Pr m d := fun d h => hd d (List.mem_cons_of_mem _ h)
        have ha := hd a List.mem_cons_self
        cases ha with
        | tup h1 h2 => simp [good, Gr.refl]
        | @str _ s hs =>
          have lit : Sx "at" := sx_lit
          simp [-ow_seq]
          rw [ow_seq]
          simp [-ow_seq, eq_sx hs lit]
          by_cases e : s = "at"
          · subst e
            simp [-ow_seq, good_s]
            rw [ow_seq]
            match l, hl, hd2 with
            | [], _, _ => simp [-ow_seq, atG, Gr.refl]
            | [a], _, _ => simp [-ow_seq, atG, Gr.refl]
            | [a, b], _, hd2 =>
              have hA := (hd2 a (by simp)).th
              have hB := hd2 b (by simp)
              have hi : notInQ a (.loc S.length) (S ++ [.lst kindsD]) = some (.bl (!decide (a ∈ kindsD)), S ++ [.lst kindsD]) := notIn_ths (n := m) (m := 0) hA (seq_loc get_snoc) kinds_th (by omega) (by decide)
              have hk : (a ∈ kindsD) ↔ (a = .str "call" ∨ a = .str "back" ∨ a = .str "say" ∨ a = .str "quiet") := by simp [kindsD]
              unfold kindsD at hi
              simp [-ow_seq, lst_ok, hi]
              split
              · rename_i h1
                have hka := decide_eq_false (fun z => by
                  rcases hk.mp z with z | z | z | z
                  · exact h1.1 z
                  · exact h1.2.1 z
                  · exact h1.2.2.1 z
                  · exact h1.2.2.2 z)
                refine ⟨?_, .app⟩
                unfold atG
                split
                · rename_i heq
                  cases heq
                  rw [hka]
                  rfl
                · rfl
              · rename_i h1
                have hka : decide (a ∈ kindsD) = true := decide_eq_true (Classical.byContradiction fun z => h1 ⟨fun y => z (hk.mpr (.inl y)), fun y => z (hk.mpr (.inr (.inl y))), fun y => z (hk.mpr (.inr (.inr (.inl y)))), fun y => z (hk.mpr (.inr (.inr (.inr y))))⟩)
                cases hB with
                | @str _ x hx =>
                  simp [eq_sx hx (sx_lit (x := ""))]
                  split
                  · rename_i h2
                    subst h2
                    exact ⟨by simp [atG, hka], .app⟩
                  · rename_i h2
                    refine (lname_ok (k + n + 1) hx).imp ?_
                    rintro ⟨d, S1⟩ ⟨rfl, g⟩
                    simp [atG, hka, h2]
                    exact Gr.trans .app g
                | tup h2 h3 => simp [atG, Gr.app]
            | a :: b :: c :: l, hl, _ => simp at hl
          · simp [-ow_seq, e, good_s]
            rw [ow_seq]
            rw [ow_asg]
            refine sz_disp ?_
            simp only [ow_gVar, List.map_cons, List.map_nil, List.set_cons_succ, List.set_cons_zero]
            rw [ow_seq]
            have hg : getP (.loc S.length) [.str s, .int (-1)] (S ++ [.dct szK]) = some (.int (sz s), S ++ [.dct szK]) := by
              have e1 : dctD (S ++ [.dct szK]) (.loc S.length) = some szK := by simp [dctD]
              simp only [getP, e1, okStr, if_true, sz_dget]
            have hg2 : isDct (.loc S.length) (S ++ [.dct szK]) = true := by simp [isDct, dctD]
            simp [-ow_seq, hg, hg2]
            by_cases h1 : (l.length : Int) = sz s
            · rw [if_pos (by omega), ow_lc]
              simp [cut_tail]
              have ll : l.length ≤ 3 := by simp at hl; omega
              refine ⟨rfl, (alls_ok (n := n) (f := 24) hd2 ll (v := 3) (env := [some (D.tup (D.str s :: l)), some (D.int (n + 1)), some (.loc S.length), none]) (dn := m2 (intP fun i j => i - j) (mVar 1) (mC (D.int 1))) (by simp) (fun c S1 => by simp [wipeD, m2, mVar, mC]) fun d hdm S1 => lgood_ok n k m d S1 (hd2 d hdm) (by omega)).imp ?_⟩
              rintro ⟨ds, S1⟩ ⟨rfl, g⟩
              dsimp only at g ⊢
              rw [all_loc get_snoc]
              simp [h1]
              exact Gr.trans .app g.snoc
            · rw [if_neg (by omega)]
              simp [h1, Gr.app]
end k12
end DL
namespace DL
namespace k12
open PySem
/-! ### the parts that look ahead -/
def aheadD : List D := [.str "next", .str "until", .str "over", .str "across"]
theorem ahead_th : ∀ d ∈ aheadD, Th 0 d := by
  intro d hd
  simp [aheadD] at hd
  rcases hd with rfl | rfl | rfl | rfl <;> exact lit_th
def ayD : List D := [.str "at", .str "yes"]
theorem ay_th : ∀ d ∈ ayD, Th 0 d := by
  intro d hd
  simp [ayD] at hd
  rcases hd with rfl | rfl <;> exact lit_th
noncomputable def ahs : Nat → D → List D
  | n + 1, .tup (.str s :: ds) => if D.str s ∈ ayD then [] else (if D.str s ∈ aheadD then [.tup (.str s :: ds)] else []) ++ ds.flatMap (ahs n)
  | _, _ => []
/-- the shape of a good promise -/
structure PmS (n : Nat) (s : Str) (ds : List D) : Prop where
  sx : Sx s
  len : ds.length ≤ 2
  parts : D.str s ∉ ayD → ∀ d ∈ ds, Pm n d
theorem Pm.shape {n : Nat} {d : D} (h : Pm n d) : ∃ m s ds, n = m + 1 ∧ d = .tup (.str s :: ds) ∧ PmS m s ds := by
  cases h with
  | at_ ha hb => exact ⟨_, _, _, rfl, rfl, sx_lit, by simp, fun h => absurd (by simp [ayD]) h⟩
  | yes => exact ⟨_, _, _, rfl, rfl, sx_lit, by simp, fun h => absurd (by simp [ayD]) h⟩
  | one hs hp =>
    refine ⟨_, _, _, rfl, rfl, ?_, by simp, fun _ d hd => ?_⟩
    · rcases hs with rfl | rfl | rfl <;> exact sx_lit
    · rw [List.mem_singleton.mp hd]; exact hp
  | two hs hp hq =>
    refine ⟨_, _, _, rfl, rfl, ?_, by simp, fun _ d hd => ?_⟩
    · rcases hs with rfl | rfl | rfl | rfl <;> exact sx_lit
    · simp at hd
      rcases hd with rfl | rfl
      · exact hp
      · exact hq
theorem ahs_ok : ∀ {n : Nat} {d : D}, Pm n d → (ahs n d).length + 1 ≤ 2 ^ n ∧ ∀ y ∈ ahs n d, Th n y
  | 0, d, h => by cases h
  | n + 1, d, h => by
    obtain ⟨m, s, ds, e, rfl, hs⟩ := h.shape
    cases e
    rw [ahs]
    by_cases hay : D.str s ∈ ayD
    · rw [if_pos hay]
      have : 1 ≤ 2 ^ (n + 1) := Nat.one_le_two_pow
      simp
      omega
    · rw [if_neg hay]
      have ih : ∀ x ∈ ds, (ahs n x).length + 1 ≤ 2 ^ n ∧ ∀ y ∈ ahs n x, Th n y := fun x hx => ahs_ok (hs.parts hay x hx)
      have hfl : ∀ l : List D, (∀ x ∈ l, (ahs n x).length + 1 ≤ 2 ^ n) → (l.flatMap (ahs n)).length + l.length ≤ l.length * 2 ^ n := by
        intro l
        induction l with
        | nil => intro _; simp
        | cons a l ih =>
          intro h
          have h1 := h a List.mem_cons_self
          have h2 := ih fun x hx => h x (List.mem_cons_of_mem _ hx)
          simp only [List.flatMap_cons, List.length_append, List.length_cons, Nat.add_mul, Nat.one_mul]
          omega
      have hl := hfl ds fun x hx => (ih x hx).1
      have h2 := hs.len
      have hp : 1 ≤ 2 ^ n := Nat.one_le_two_pow
      have hm : ds.length * 2 ^ n ≤ 2 * 2 ^ n := Nat.mul_le_mul_right _ h2
      have hm0 : ds.length = 0 → ds.length * 2 ^ n = 0 := fun z => by rw [z]; simp
      have hm1 : ds.length = 1 → ds.length * 2 ^ n = 2 ^ n := fun z => by rw [z]; simp
      constructor
      · rw [List.length_append, Nat.pow_succ]
        have : (if D.str s ∈ aheadD then [D.tup (.str s :: ds)] else []).length ≤ 1 := by split <;> simp
        omega
      · intro y hy
        rcases List.mem_append.mp hy with hy | hy
        · split at hy
          · rw [List.mem_singleton.mp hy]; exact h.th
          · cases hy
        · obtain ⟨x, hx, hy⟩ := List.mem_flatMap.mp hy
          exact ((ih x hx).2 y hy).up
theorem ext_q {n m : Nat} {ds es : List D} {S : Sto} (h : S[n]? = some (.lst ds)) (h2 : S[m]? = some (.lst es)) (hz : ds.length + es.length ≤ 1000000) : extQ (.loc n) [.loc m] S = some (.non, S.set n (.lst (ds ++ es))) := by
  simp only [extQ]
  exact ext_lst h h2 hz
/-- a list of the different ones -/
def AhR (xs : List D) (S : Sto) (x : D × Sto) : Prop := Gr S x.2 ∧ ∃ l ys, x.1 = .loc l ∧ S.length ≤ l ∧ x.2[l]? = some (.lst ys) ∧ OnceOf xs ys
theorem once_len {xs ys : List D} (h : OnceOf xs ys) : ys.length ≤ xs.length := len_sub h.1 fun y hy => (h.2 y).mp hy
theorem once_app {xs ys zs ws : List D} (h1 : OnceOf xs ys) (h2 : OnceOf ws zs) : OnceOf (xs ++ ws) (ys ++ zs.filter fun z => !decide (z ∈ ys)) := by
  refine ⟨?_, fun y => ?_⟩
  · rw [List.nodup_append]
    refine ⟨h1.1, h2.1.filter _, fun a ha b hb => ?_⟩
    rintro rfl
    simp at hb
    exact hb.2 ha
  · simp only [List.mem_append, List.mem_filter, Bool.not_eq_true', decide_eq_false_iff_not, ← h1.2, ← h2.2]
    constructor
    · rintro (h | ⟨h, _⟩)
      · exact .inl h
      · exact .inr h
    · rintro (h | h)
      · exact .inl h
      · by_cases hy : y ∈ ys
        · exact .inl hy
        · exact .inr ⟨h, hy⟩
noncomputable def ahTailB : SM := (sSeq (sIf (bAnd (bV (m2 inQ (m2 ixQ (mVar 0) (mC (.int 0))) (mC (.tup [(.str "next"), (.str "until"), (.str "over"), (.str "across")])))) (bV (m2 notInQ (mVar 0) (mVar 1)))) (sExpr (mM "list" appP (mVar 1) (lCons (mVar 0) lNil))) sNext) (sRet (mVar 1)))
theorem once_snoc {xs ys : List D} {d : D} (h : OnceOf xs ys) (hd : d ∉ ys) : OnceOf (d :: xs) (ys ++ [d]) := by
  refine ⟨?_, fun y => ?_⟩
  · rw [List.nodup_append]
    exact ⟨h.1, by simp, fun a ha b hb => by simp at hb; subst hb; exact fun z => hd (z ▸ ha)⟩
  · simp only [List.mem_append, List.mem_cons, List.not_mem_nil, or_false, h.2]
    exact ⟨fun z => z.elim .inr .inl, fun z => z.elim .inr .inl⟩
theorem ah_tail {n : Nat} {s : Str} {ds : List D} (hs : Sx s) (hth : Th (n + 1) (.tup (.str s :: ds))) {S S1 : Sto} {o2 o3 : Option D} {xs ys : List D} (g : Gr S S1) (h : S1[S.length]? = some (.lst ys)) (ho : OnceOf xs ys) (ty : ∀ y ∈ ys, Th n y) (hn : n ≤ 8) (ly : ys.length ≤ 1000) :
    Ow (ahTailB [some (.tup (.str s :: ds)), some (.loc S.length), o2, o3] S1) fun x => x.1 = .rt (.loc S.length) ∧ AhR ((if D.str s ∈ aheadD then [.tup (.str s :: ds)] else []) ++ xs) S (.loc S.length, x.2.2) := by
  unfold ahTailB
  rw [ow_seq]
  have hi : inQ (.str s) (.tup aheadD) S1 = some (.bl (decide (D.str s ∈ aheadD)), S1) := in_ths (n := 0) (m := 0) hs.th rfl ahead_th (by decide) (by decide)
  have hi2 : notInQ (.tup (.str s :: ds)) (.loc S.length) S1 = some (.bl (!decide (D.tup (.str s :: ds) ∈ ys)), S1) := notIn_ths (n := n + 1) (m := n) hth (seq_loc h) ty (by omega) (by omega)
  have e : (D.tup [.str "next", .str "until", .str "over", .str "across"]) = .tup aheadD := rfl
  rw [e]
  generalize D.tup aheadD = AA at hi ⊢
  simp [-ow_seq, hi, hi2]
  by_cases ha : D.str s ∈ aheadD
  · by_cases hy : D.tup (.str s :: ds) ∈ ys
    · simp [ha, hy]
      refine ⟨g, _, ys, rfl, Nat.le_refl _, h, ho.1, fun y => ?_⟩
      rw [ho.2, List.mem_cons]
      refine ⟨.inr, fun z => z.elim (fun z => z ▸ (ho.2 _).mp hy) id⟩
    · simp [ha, hy, ty_lst h, app_lst h (by omega)]
      exact ⟨g.set (Nat.le_refl _), _, _, rfl, Nat.le_refl _, get_set h, once_snoc ho hy⟩
  · simp [ha]
    exact ⟨g, _, ys, rfl, Nat.le_refl _, h, ho⟩
theorem ahead_ok : ∀ (n k : Nat) (d : D) (S : Sto), Pm n d → n ≤ 8 → Ow (calls (k + n + 1) 3 [d] S) (AhR (ahs n d) S)
  | 0, _, d, _, h, _ => by cases h
  | n + 1, k, d, S, h, hn => by
    obtain ⟨m, s, ds, e, rfl, hs⟩ := h.shape
    cases e
    have hth := h.th
    obtain ⟨x3, e3⟩ := c3 (k + n + 1)
    rw [show k + (n + 1) + 1 = k + n + 1 + 1 by omega, e3, ow_runB]
    have eb : bd3 (calls (k + n + 1)) x3 = (sSeq (sAsg (mL lstP lNil) (gVar 1)) (sSeq (sIf (bV (m2 notInQ (m2 ixQ (mVar 0) (mC (.int 0))) (mL tupP (lCons (mC (.str "at")) (lCons (mC (.str "yes")) lNil))))) (sFor (iSeq (mSl slP (mVar 0) (oSome (mC (.int 1))) oNone)) (gVar 2) (sExpr (mM "list" extQ (mVar 1) (lCons (mLc (iSeq (mL (calls (k + n + 1) 3) (lCons (mVar 2) lNil))) [3] (.nm 3) (bV (m2 notInQ (mVar 3) (mVar 1))) (mVar 3)) lNil)))) sNext) ahTailB)) := rfl
    rw [eb, ow_seq]
    simp [-ow_seq, lst_ok]
    rw [ow_seq]
    have hay : notInQ (.str s) (.tup ayD) (S ++ [.lst []]) = some (.bl (!decide (D.str s ∈ ayD)), S ++ [.lst []]) := notIn_ths (n := 0) (m := 0) hs.sx.th rfl ay_th (by decide) (by decide)
    unfold ayD at hay
    simp [-ow_seq, tup_ok, hay]
    have hw : (D.str s ∈ ayD) ↔ (s = "at" ∨ s = "yes") := by simp [ayD]
    rw [ahs]
    split
    · rename_i hc
      have hna : D.str s ∉ ayD := fun z => (hw.mp z).elim hc.1 hc.2
      rw [if_neg hna]
      rw [ow_for]
      simp [-ow_seq, cut_tail]
      refine ⟨rfl, ?_⟩
      have hfm : ∀ y ∈ ds.flatMap (ahs n), Th n y := fun y hy => by
        obtain ⟨x, hx, hy⟩ := List.mem_flatMap.mp hy
        exact (ahs_ok (hs.parts hna x hx)).2 y hy
      have hfl : (ds.flatMap (ahs n)).length ≤ 255 := by
        have := (ahs_ok h).1
        rw [ahs, if_neg hna, List.length_append] at this
        have h8 : 2 ^ (n + 1) ≤ 2 ^ 8 := Nat.pow_le_pow_right (by decide) hn
        omega
      have hsub : ∀ {j : Nat} {ys : List D}, OnceOf ((ds.take j).flatMap (ahs n)) ys → (∀ y ∈ ys, y ∈ ds.flatMap (ahs n)) := fun {j ys} ho y hy => by
        obtain ⟨x, hx, hy⟩ := List.mem_flatMap.mp ((ho.2 y).mp hy)
        exact List.mem_flatMap.mpr ⟨x, List.mem_of_mem_take hx, hy⟩
      refine (forL_inv ds (fun j env S1 => ∃ ys o2 o3, env = [some (.tup (.str s :: ds)), some (.loc S.length), o2, o3] ∧ Gr S S1 ∧ S1[S.length]? = some (.lst ys) ∧ OnceOf ((ds.take j).flatMap (ahs n)) ys)
        (fun x => x.1 = .nx ∧ ∃ ys o2 o3, x.2.1 = [some (.tup (.str s :: ds)), some (.loc S.length), o2, o3] ∧ Gr S x.2.2 ∧ x.2.2[S.length]? = some (.lst ys) ∧ OnceOf (ds.flatMap (ahs n)) ys)
        (fun j env S1 ⟨ys, o2, o3, _, g, _⟩ => rfl) (fun env S1 ⟨ys, o2, o3, e, g, h1, h2⟩ => ⟨rfl, ys, o2, o3, e, g, h1, by simpa using h2⟩)
        (fun j x env S1 hj ⟨ys, o2, o3, e, g, h1, h2⟩ => ?step) ds.length 0 _ _ (by simp) (by simp) ⟨[], none, none, rfl, .app, get_snoc, List.nodup_nil, fun y => by simp⟩).imp ?imp
      case step =>
        subst e
        have hxm := List.mem_of_getElem? hj
        have hsy := hsub h2
        have lys : ys.length ≤ 255 := Nat.le_trans (len_sub h2.1 hsy) hfl
        simp [ty_lst h1]
        rw [ow_lc, ow_iSeq]
        simp
        refine (ahead_ok n k x S1 (hs.parts hna x hxm) (by omega)).imp ?_
        rintro ⟨d, S2⟩ ⟨g2, l, zs, rfl, ll, h3, h4⟩
        dsimp only at g2 h3 ⊢
        have lzs : zs.length ≤ 255 := by
          have := (ahs_ok (hs.parts hna x hxm)).1
          have := once_len h4
          have h8 : 2 ^ n ≤ 2 ^ 8 := Nat.pow_le_pow_right (by decide) (by omega)
          omega
        have tz : ∀ y ∈ zs, Th n y := fun y hy => (ahs_ok (hs.parts hna x hxm)).2 y ((h4.2 y).mp hy)
        refine ⟨by simp [seq_loc h3], ?_⟩
        refine (lcG (seq_loc h3) (by omega) (fun z => !decide (z ∈ ys)) (fun z => z) fun z hz => ?_).imp ?_
        · refine ⟨_, rfl, fun S3 g3 => ?_⟩
          simp [wipeD, notIn_ths (tz z hz) (seq_loc (g3.get (g2.get h1))) (fun y hy => hfm y (hsy y hy)) (show n ≤ 60 by omega) (show n ≤ 60 by omega), Gr.refl]
        · rintro ⟨ws, S3⟩ ⟨rfl, g3⟩
          dsimp only at g3 ⊢
          rw [List.map_id']
          have hlen := (g.trans (g2.trans g3)).len
          have e1 : (S3 ++ [Ob.lst (zs.filter fun z => !decide (z ∈ ys))])[S.length]? = some (.lst ys) := get_app (g3.get (g2.get h1))
          have lf := List.length_filter_le (fun z => !decide (z ∈ ys)) zs
          rw [ext_q e1 get_snoc (by omega)]
          simp
          refine ⟨(g.trans (g2.trans g3)).snoc.set (Nat.le_refl _), _, get_set e1, ?_⟩
          have := once_app h2 h4
          rw [List.take_add_one, hj]
          simpa using this
      case imp =>
        rintro ⟨fl, env, S1⟩ ⟨rfl, ys, o2, o3, rfl, g, h1, h2⟩
        dsimp only at g h1 h2 ⊢
        exact (ah_tail hs.sx hth g h1 h2 (fun y hy => hfm y ((h2.2 y).mp hy)) (by omega) (by have := once_len h2; omega)).imp fun ⟨fl, env, S2⟩ ⟨e, h⟩ => by
          dsimp only at e h ⊢
          subst e
          exact h
    · rename_i hc
      have hya : D.str s ∈ ayD := by
        rw [hw]
        by_cases z : s = "at"
        · exact .inl z
        · exact .inr (Classical.byContradiction fun y => hc ⟨z, y⟩)
      rw [if_pos hya]
      have hnah : D.str s ∉ aheadD := by
        rcases hw.mp hya with rfl | rfl <;> simp [aheadD] <;> decide
      refine (ah_tail hs.sx hth .app get_snoc (xs := []) (ys := []) ⟨List.nodup_nil, fun y => by simp⟩ (fun y hy => by cases hy) (by omega) (by simp)).imp ?_
      rintro ⟨fl, env, S1⟩ ⟨rfl, h1⟩
      rw [if_neg hnah] at h1
      exact h1
end k12
end DL
namespace DL
namespace k12
open PySem
theorem e_once (k : Nat) : calls (k + 1) 17 = runB 3 onceB := by
  obtain ⟨x, e⟩ := c17 k
  rw [e]
  rfl
noncomputable def ahf (n : Nat) (l : List D) : List D := l.flatMap (ahs n)
theorem ahf_at {n j : Nat} {l : List D} {x : D} (h : l[j]? = some x) : ahf n (l.take (j + 1)) = ahf n (l.take j) ++ ahs n x := by
  unfold ahf
  rw [List.take_add_one, h]
  simp
noncomputable def lahB (K : Nat) : SM := (sSeq (sFor (iSeq (mSl slP (mVar 0) (oSome (mC (.int 1))) oNone)) (gVar 2) (sExpr (mM "list" extQ (mVar 1) (lCons (mL (calls K 25) (lCons (mVar 2) lNil)) lNil)))) (sRet (mL (calls K 17) (lCons (mVar 1) lNil))))
theorem lah_loop {n K : Nat} {s : Str} {ds fs : List D} {S S0 : Sto} (g0 : Gr S S0) (hn : n ≤ 8) (hm : n ≤ m) (hm8 : m ≤ 60) (lf : fs.length ≤ 1) (tf : ∀ d ∈ fs, Th m d) (h : ∀ x ∈ ds, Pm n x) (hfl : (ahf n ds).length ≤ 255)
    (ih : ∀ x ∈ ds, ∀ S, Ow (calls (K + 1) 25 [x] S) (AhR (ahs n x) S)) :
    Ow (lahB (K + 1) [some (.tup (.str s :: ds)), some (.loc S0.length), none] (S0 ++ [.lst fs])) fun x => ∃ d, x.1 = .rt d ∧ AhR (fs ++ ahf n ds) S (d, x.2.2) := by
  unfold lahB
  rw [ow_seq, ow_for]
  have hfm : ∀ y ∈ ahf n ds, Th n y := fun y hy => by
    obtain ⟨x, hx, hy⟩ := List.mem_flatMap.mp hy
    exact (ahs_ok (h x hx)).2 y hy
  simp [-ow_seq, cut_tail]
  refine ⟨rfl, ?_⟩
  refine (forL_inv ds (fun j env S1 => ∃ ys o2, env = [some (.tup (.str s :: ds)), some (.loc S0.length), o2] ∧ Gr S0 S1 ∧ S1[S0.length]? = some (.lst (fs ++ ys)) ∧ ys.length ≤ (ahf n (ds.take j)).length ∧ ∀ y, y ∈ ys ↔ y ∈ ahf n (ds.take j))
    (fun x => x.1 = .nx ∧ ∃ ys o2, x.2.1 = [some (.tup (.str s :: ds)), some (.loc S0.length), o2] ∧ Gr S0 x.2.2 ∧ x.2.2[S0.length]? = some (.lst (fs ++ ys)) ∧ ys.length ≤ (ahf n ds).length ∧ ∀ y, y ∈ ys ↔ y ∈ ahf n ds)
    (fun j env S1 _ => rfl) (fun env S1 ⟨ys, o2, e, g, h1, h2, h3⟩ => ⟨rfl, ys, o2, e, g, h1, by simpa using h2, by simpa using h3⟩)
    (fun j x env S1 hj ⟨ys, o2, e, g, h1, h2, h3⟩ => ?step) ds.length 0 _ _ (by simp) (by simp) ⟨[], none, rfl, .app, by simp, by simp, fun y => by simp [ahf]⟩).imp ?imp
  case step =>
    subst e
    have hxm := List.mem_of_getElem? hj
    have lys : ys.length ≤ 255 := by
      have : (ahf n (ds.take j)).length ≤ (ahf n ds).length := by
        conv => rhs; rw [← List.take_append_drop j ds]
        unfold ahf
        rw [List.flatMap_append, List.length_append]
        omega
      omega
    simp [ty_lst h1]
    refine (ih x hxm S1).imp ?_
    rintro ⟨d, S2⟩ ⟨g2, l, zs, rfl, ll, h4, h5⟩
    dsimp only at g2 h4 ⊢
    have lz := once_len h5
    have lzs : zs.length ≤ 255 := by
      have := (ahs_ok (h x hxm)).1
      have h8 : 2 ^ n ≤ 2 ^ 8 := Nat.pow_le_pow_right (by decide) (by omega)
      omega
    rw [ext_q (g2.get h1) h4 (by simp; omega)]
    simp
    refine ⟨(g.trans g2).set (Nat.le_refl _), ys ++ zs, ?_, ?_, fun y => ?_⟩
    · rw [get_set (g2.get h1)]
    · rw [ahf_at hj, List.length_append, List.length_append]
      omega
    · rw [ahf_at hj, List.mem_append, List.mem_append, h3, h5.2]
  case imp =>
    rintro ⟨fl, env, S1⟩ ⟨rfl, ys, o2, rfl, g, h1, h2, h3⟩
    dsimp only at g h1 h2 h3 ⊢
    simp [e_once]
    refine (once_ok (n := m) (seq_loc h1) (fun x hx => ?_) hm8 (by simp; omega)).imp ?_
    · rcases List.mem_append.mp hx with hx | hx
      · exact tf x hx
      · exact (hfm x ((h3 x).mp hx)).mono hm
    · rintro ⟨d, S2⟩ ⟨g2, l, zs, rfl, ll, h4, h5⟩
      dsimp only at g2 h4 ⊢
      have := (g0.trans g).len
      refine ⟨g0.trans (g.trans g2), l, zs, rfl, by omega, h4, h5.1, fun y => ?_⟩
      rw [h5.2, List.mem_append, List.mem_append, h3]
theorem lahead_ok : ∀ (n k : Nat) (d : D) (S : Sto), Pm n d → n ≤ 8 → Ow (calls (k + n + 2) 25 [d] S) (AhR (ahs n d) S)
  | 0, _, d, _, h, _ => by cases h
  | n + 1, k, d, S, h, hn => by
    obtain ⟨m, s, ds, e, rfl, hs⟩ := h.shape
    cases e
    have hth := h.th
    obtain ⟨x3, e3⟩ := c25 (k + n + 2)
    rw [show k + (n + 1) + 2 = k + n + 2 + 1 by omega, e3, ow_runB]
    unfold bd25
    rw [ow_seq]
    have hay : inQ (.str s) (.loc S.length) (S ++ [.lst ayD]) = some (.bl (decide (D.str s ∈ ayD)), S ++ [.lst ayD]) := in_ths (n := 0) (m := 0) hs.sx.th (seq_loc get_snoc) ay_th (by decide) (by decide)
    have hw : (D.str s ∈ ayD) ↔ (s = "at" ∨ s = "yes") := by simp [ayD]
    have hAh : ∀ S, inQ (.str s) (.loc S.length) (S ++ [.lst aheadD]) = some (.bl (decide (D.str s ∈ aheadD)), S ++ [.lst aheadD]) := fun S => in_ths (n := 0) (m := 0) hs.sx.th (seq_loc get_snoc) ahead_th (by decide) (by decide)
    have hw2 : (D.str s ∈ aheadD) ↔ (s = "next" ∨ s = "until" ∨ s = "over" ∨ s = "across") := by simp [aheadD]
    have hAh2 := hAh (S ++ [.lst ayD])
    unfold ayD at hay
    unfold ayD aheadD at hAh2
    simp [-ow_seq, lst_ok, hay]
    rw [ahs]
    split
    · rename_i hc
      rw [if_pos (hw.mpr hc)]
      exact ⟨.app, _, [], rfl, by simp, by simp, List.nodup_nil, fun y => by simp⟩
    · rename_i hc
      have hna : D.str s ∉ ayD := fun z => hc (hw.mp z)
      rw [if_neg hna]
      have hfl : (ds.flatMap (ahs n)).length ≤ 255 := by
        have := (ahs_ok h).1
        rw [ahs, if_neg hna, List.length_append] at this
        have h8 : 2 ^ (n + 1) ≤ 2 ^ 8 := Nat.pow_le_pow_right (by decide) hn
        omega
      have ih : ∀ x ∈ ds, ∀ S, Ow (calls (k + n + 1 + 1) 25 [x] S) (AhR (ahs n x) S) := fun x hx S => lahead_ok n k x S (hs.parts hna x hx) (by omega)
      rw [ow_seq]
      simp [-ow_seq, lst_ok]
      simp only [List.append_assoc, List.cons_append, List.nil_append, List.length_append, List.length_cons, List.length_nil, Nat.zero_add] at hAh2
      rw [hAh2]
      simp [-ow_seq]
      split
      · rename_i h1
        rw [if_pos (hw2.mpr h1)]
        have := lah_loop (K := k + n + 1) (s := s) (S := S) (S0 := S ++ [Ob.lst ayD, Ob.lst aheadD]) (fs := [.tup (.str s :: ds)]) .app (show n ≤ 8 by omega) (show n ≤ n + 1 by omega) (by omega) (by simp) (by simpa using hth) (hs.parts hna) hfl ih
        unfold lahB ayD aheadD at this
        simp [-ow_seq] at this
        refine this.imp ?_
        rintro ⟨fl, env, S1⟩ ⟨d, rfl, h⟩
        exact h
      · rename_i h1
        rw [if_neg (fun z => h1 (hw2.mp z))]
        have := lah_loop (K := k + n + 1) (s := s) (S := S) (S0 := S ++ [Ob.lst ayD, Ob.lst aheadD]) (fs := []) .app (show n ≤ 8 by omega) (show n ≤ n + 1 by omega) (by omega) (by simp) (by simp) (hs.parts hna) hfl ih
        unfold lahB ayD aheadD at this
        simp [-ow_seq] at this
        refine this.imp ?_
        rintro ⟨fl, env, S1⟩ ⟨d, rfl, h⟩
        exact h
noncomputable def dd : List D → List D
  | [] => []
  | x :: xs => if x ∈ dd xs then dd xs else x :: dd xs
theorem once_dd : ∀ xs : List D, OnceOf xs (dd xs)
  | [] => ⟨List.nodup_nil, fun y => Iff.rfl⟩
  | x :: xs => by
    have ih := once_dd xs
    rw [dd]
    split
    · rename_i h
      refine ⟨ih.1, fun y => ?_⟩
      rw [ih.2, List.mem_cons]
      exact ⟨.inr, fun z => z.elim (fun z => z ▸ (ih.2 x).mp h) id⟩
    · rename_i h
      refine ⟨List.nodup_cons.mpr ⟨h, ih.1⟩, fun y => ?_⟩
      rw [List.mem_cons, List.mem_cons, ih.2]
theorem once_dd_len {xs ys : List D} (h : OnceOf xs ys) : ys.length = (dd xs).length := by
  have h2 := once_dd xs
  exact Nat.le_antisymm (len_sub h.1 fun y hy => (h2.2 y).mpr ((h.2 y).mp hy)) (len_sub h2.1 fun y hy => (h.2 y).mpr ((h2.2 y).mp hy))
noncomputable def proB (d : D) : Bool := good 8 d && decide ((dd (ahs 8 d)).length ≤ 6)
/-- is_promise -/
theorem promise_ok (k m : Nat) {d : D} {S : Sto} (hp : Pr m d) (hm : m ≤ 40) : Ow (calls (k + 11) 4 [d] S) fun r => r.1 = .bl (proB d) ∧ Gr S r.2 := by
  obtain ⟨x3, e3⟩ := c4 (k + 10)
  rw [e3, ow_runB]
  unfold bd4
  simp
  refine (form_ok 8 k m d S hp hm).imp ?_
  rintro ⟨r, S1⟩ ⟨rfl, g⟩
  dsimp only at g ⊢
  simp
  split
  · rename_i hg
    refine (ahead_ok 8 (k + 1) d S1 (pm_of hp hg) (by decide)).imp ?_
    rintro ⟨r, S2⟩ ⟨g2, l, ys, rfl, ll, h1, h2⟩
    dsimp only at g2 h1 ⊢
    rw [len_lst h1]
    simp [proB, hg, once_dd_len h2]
    exact ⟨by constructor <;> intro z <;> omega, g.trans g2⟩
  · rename_i hg
    exact ⟨by simp [proB, hg], g⟩
end k12
end DL
namespace DL
namespace k12
open PySem
/-! ### the law's promises -/
noncomputable abbrev DRW : FM := runB 4 drawQ
noncomputable abbrev PKW : FM := runB 2 (pickQ DRW)
theorem e_draw (k : Nat) : calls (k + 1) 14 = DRW := by
  obtain ⟨x, e⟩ := c14 k
  rw [e]
  rfl
theorem e_pick (k : Nat) : calls (k + 2) 15 = PKW := by
  obtain ⟨x, e⟩ := c15 (k + 1)
  rw [e]
  show runB 2 (pickQ (calls (k + 1) 14)) = _
  rw [e_draw]
/-- the state goes on -/
def Dr (T : Sto) (S : Sto) : Prop := ∃ T', Gr T T' ∧ DSt T' S
theorem Dr.of {T S : Sto} (h : DSt T S) : Dr T S := ⟨T, .refl, h⟩
theorem Dr.trans {T T1 S : Sto} (g : Gr T T1) (h : Dr T1 S) : Dr T S := let ⟨T2, g2, h2⟩ := h; ⟨T2, g.trans g2, h2⟩
theorem drw {T S : Sto} (b : Int) (h : DSt T S) (h0 : 0 < b) (h1 : b < 1073741824) : Ow (DRW [.loc 1, .int b] S) fun x => ∃ i : Nat, x.1 = .int i ∧ (i : Int) < b ∧ DSt T x.2 := by
  refine (drawOkQ T S b h h0 h1).imp ?_
  rintro ⟨d, S1⟩ ⟨i, e, i0, i1, h2⟩
  dsimp only at e h2
  subst e
  exact ⟨i.toNat, by simp; omega, by omega, h2⟩
theorem pkw {T S : Sto} {ds : List D} (h : DSt T S) (h0 : ds ≠ []) (h1 : ds.length < 1000) : Ow (PKW [.loc 1, .loc S.length] (S ++ [.lst ds])) fun x => x.1 ∈ ds ∧ DSt (T ++ [.lst ds]) x.2 := pick_litQ drawOkQ h h0 (by omega)
noncomputable def leafB (pk : FM) : SM := (sSeq (sAsg (mL pk (lCons (mVar 0) (lCons (mL lstP (lCons (mC (.str "call")) (lCons (mC (.str "back")) (lCons (mC (.str "say")) (lCons (mC (.str "say")) (lCons (mC (.str "quiet")) lNil)))))) lNil))) (gVar 3)) (sRet (mL pk (lCons (mVar 0) (lCons (mL lstP (lCons (mL tupP (lCons (mC (.str "at")) (lCons (mVar 3) (lCons (mL pk (lCons (mVar 0) (lCons (mL lstP (lCons (mC (.str "")) (lCons (mC (.str "p")) (lCons (mC (.str "hi")) lNil)))) lNil))) lNil)))) (lCons (mL tupP (lCons (mC (.str "at")) (lCons (mC (.str "say")) (lCons (mC (.str "hi")) lNil)))) (lCons (mL tupP (lCons (mC (.str "yes")) lNil)) lNil)))) lNil)))))
noncomputable def nodeB (pk me : FM) : SM := (sSeq (sIf (bV (m2 inQ (mVar 2) (mL lstP (lCons (mC (.int 2)) (lCons (mC (.int 3)) lNil))))) (sRet (mL tupP (lCons (mL pk (lCons (mVar 0) (lCons (mL lstP (lCons (mC (.str "not")) (lCons (mC (.str "next")) (lCons (mC (.str "over")) lNil)))) lNil))) (lCons (mL me (lCons (mVar 0) (lCons (m2 (intP fun i j => i - j) (mVar 1) (mC (.int 1))) lNil))) lNil)))) sNext) (sSeq (sAsg (mL pk (lCons (mVar 0) (lCons (mL lstP (lCons (mC (.str "and")) (lCons (mC (.str "or")) (lCons (mC (.str "until")) (lCons (mC (.str "across")) (lCons (mC (.str "until")) (lCons (mC (.str "across")) lNil))))))) lNil))) (gVar 4)) (sRet (mL tupP (lCons (mVar 4) (lCons (mL me (lCons (mVar 0) (lCons (m2 (intP fun i j => i - j) (mVar 1) (mC (.int 1))) lNil))) (lCons (mL me (lCons (mVar 0) (lCons (m2 (intP fun i j => i - j) (mVar 1) (mC (.int 1))) lNil))) lNil)))))))
theorem leaf_ok {n : Nat} {T S : Sto} {a b c d : Option D} (h : DSt T S) : Ow (leafB PKW [some (.loc 1), a, b, c, d] S) fun x => ∃ p, x.1 = .rt p ∧ Pr (n + 1) p ∧ Dr T x.2.2 := by
  unfold leafB
  rw [ow_seq]
  simp [-ow_seq, lst_ok]
  refine (pkw h (by simp) (by simp)).imp ?_
  rintro ⟨x, S1⟩ ⟨hx, h1⟩
  have sx : ∃ z, x = .str z ∧ Sx z := by
    simp at hx
    rcases hx with rfl | rfl | rfl | rfl <;> exact ⟨_, rfl, sx_lit⟩
  obtain ⟨z, rfl, hz⟩ := sx
  dsimp only at h1 ⊢
  simp [lst_ok, tup_ok]
  refine (pkw h1 (by simp) (by simp)).imp ?_
  rintro ⟨y, S2⟩ ⟨hy, h2⟩
  have sy : ∃ z, y = .str z ∧ Sx z := by
    simp at hy
    rcases hy with rfl | rfl | rfl <;> exact ⟨_, rfl, sx_lit⟩
  obtain ⟨w, rfl, hw⟩ := sy
  dsimp only at h2 ⊢
  refine (pkw h2 (by simp) (by simp)).imp ?_
  rintro ⟨p, S3⟩ ⟨hp, h3⟩
  dsimp only at h3 ⊢
  refine ⟨?_, _, Gr.trans .app (Gr.trans .app .app), h3⟩
  simp at hp
  rcases hp with rfl | rfl | rfl
  · exact .tup (by simp) fun d hd => by
      simp at hd
      rcases hd with rfl | rfl | rfl
      · exact .str sx_lit
      · exact .str hz
      · exact .str hw
  · exact .tup (by simp) fun d hd => by
      simp at hd
      rcases hd with rfl | rfl | rfl <;> exact .str sx_lit
  · exact .tup (by simp) fun d hd => by
      simp at hd
      subst hd
      exact .str sx_lit
theorem node_ok {n : Nat} {me : FM} {T S : Sto} {i : Nat} {c d : Option D} (h : DSt T S) (ih : ∀ {T S : Sto}, DSt T S → Ow (me [.loc 1, .int n] S) fun x => Pr (n + 1) x.1 ∧ Dr T x.2) :
    Ow (nodeB PKW me [some (.loc 1), some (.int (n + 1)), some (.int i), c, d] S) fun x => ∃ p, x.1 = .rt p ∧ Pr (n + 2) p ∧ Dr T x.2.2 := by
  unfold nodeB
  rw [ow_seq]
  have hi : inQ (.int i) (.loc S.length) (S ++ [.lst [.int 2, .int 3]]) = some (.bl (decide (D.int i ∈ [.int 2, .int 3])), S ++ [.lst [.int 2, .int 3]]) := in_ths (n := 0) (m := 0) .int (seq_loc get_snoc) (by simp; exact ⟨.int, .int⟩) (by decide) (by decide)
  simp [-ow_seq, lst_ok, hi]
  have hT := h.app [.lst [.int 2, .int 3]]
  split
  · have := pkw hT (ds := [.str "not", .str "next", .str "over"]) (by simp) (by simp)
    simp at this
    refine this.imp ?_
    rintro ⟨x, S1⟩ ⟨hx, h1⟩
    have sx : ∃ z, x = .str z ∧ Sx z := by
      rcases hx with rfl | rfl | rfl <;> exact ⟨_, rfl, sx_lit⟩
    obtain ⟨z, rfl, hz⟩ := sx
    dsimp only at h1 ⊢
    refine (ih h1).imp ?_
    rintro ⟨p, S2⟩ ⟨hp, h2⟩
    simp [tup_ok]
    exact ⟨.tup (by simp) fun d hd => by
      simp at hd
      rcases hd with rfl | rfl
      · exact .str hz
      · exact hp, h2.trans .app⟩
  · rw [ow_seq]
    have := pkw hT (ds := [.str "and", .str "or", .str "until", .str "across", .str "until", .str "across"]) (by simp) (by simp)
    simp at this
    simp [-ow_seq, lst_ok]
    refine this.imp ?_
    rintro ⟨x, S1⟩ ⟨hx, h1⟩
    have sx : ∃ z, x = .str z ∧ Sx z := by
      rcases hx with rfl | rfl | rfl | rfl | rfl | rfl <;> exact ⟨_, rfl, sx_lit⟩
    obtain ⟨z, rfl, hz⟩ := sx
    dsimp only at h1 ⊢
    refine (ih h1).imp ?_
    rintro ⟨p, S2⟩ ⟨hp, T2, g2, h2⟩
    dsimp only at h2 hp ⊢
    refine (ih h2).imp ?_
    rintro ⟨q, S3⟩ ⟨hq, h3⟩
    simp [tup_ok]
    exact ⟨.tup (by simp) fun d hd => by
      simp at hd
      rcases hd with rfl | rfl | rfl
      · exact .str hz
      · exact hp
      · exact hq, h3.trans (Gr.trans .app g2)⟩
theorem lpromise_ok : ∀ (n k : Nat) {T S : Sto}, DSt T S → Ow (calls (k + n + 3) 18 [.loc 1, .int n] S) fun x => Pr (n + 1) x.1 ∧ Dr T x.2
  | n, k, T, S, h => by
    obtain ⟨x3, e3⟩ := c18 (k + n + 2)
    rw [e3, ow_runB]
    have eb : bd18 (calls (k + n + 2)) x3 = (sSeq (sAsg (mIf (bV (m2 gtP (mVar 1) (mC (.int 0)))) (mL (calls (k + n + 2) 14) (lCons (mVar 0) (lCons (mC (.int 9)) lNil))) (mC (.int 0))) (gVar 2)) (sSeq (sIf (bV (m2 ltP (mVar 2) (mC (.int 2)))) (leafB (calls (k + n + 2) 15)) sNext) (nodeB (calls (k + n + 2) 15) (calls (k + n + 2) 18)))) := rfl
    rw [eb, e_pick (k + n), e_draw (k + n + 1), ow_seq]
    simp [-ow_seq]
    match n with
    | 0 =>
      simp [-ow_seq]
      rw [ow_seq]
      simp [-ow_seq]
      refine (leaf_ok (n := 0) h).imp ?_
      rintro ⟨fl, env, S1⟩ ⟨p, rfl, hp, h1⟩
      exact ⟨hp, h1⟩
    | n + 1 =>
      simp [-ow_seq]
      refine (drw 9 h (by decide) (by decide)).imp ?_
      rintro ⟨d, S1⟩ ⟨i, rfl, i1, h1⟩
      dsimp only at h1 ⊢
      rw [ow_seq]
      simp [-ow_seq]
      split
      · refine (leaf_ok (n := n + 1) h1).imp ?_
        rintro ⟨fl, env, S1⟩ ⟨p, rfl, hp, h1⟩
        exact ⟨hp, h1⟩
      · refine (node_ok (n := n) h1 fun {T S} h => ?_).imp ?_
        · have := lpromise_ok n k h
          exact this
        · rintro ⟨fl, env, S1⟩ ⟨p, rfl, hp, h1⟩
          exact ⟨hp, h1⟩
theorem pair_pr {n : Nat} {s : Str} {d : D} (hs : Sx s) (hp : Pr n d) : Pr (n + 1) (.tup [.str s, d]) := .tup (by simp) fun x hx => by
  simp at hx
  rcases hx with rfl | rfl
  · exact .str hs
  · exact hp
theorem Pr.up {n : Nat} {d : D} (h : Pr n d) : Pr (n + 1) d := by
  induction h with
  | str h => exact .str h
  | tup h _ ih => exact .tup h ih
theorem Pr.mono {n m : Nat} {d : D} (h : Pr n d) (hm : n ≤ m) : Pr m d := by
  induction hm with
  | refl => exact h
  | step _ ih => exact ih.up
theorem odd_ok (k : Nat) {T S : Sto} {p : D} (h : DSt T S) (hp : Pr 6 p) : Ow (calls (k + 3) 26 [.loc 1, p] S) fun x => Pr 20 x.1 ∧ Dr T x.2 := by
  obtain ⟨x3, e3⟩ := c26 (k + 2)
  rw [e3, ow_runB]
  unfold bd26
  rw [e_pick k, e_draw (k + 1), ow_seq]
  simp [-ow_seq]
  refine (drw 5 h (by decide) (by decide)).imp ?_
  rintro ⟨d, S1⟩ ⟨i, rfl, i1, h1⟩
  dsimp only at h1 ⊢
  rw [ow_seq]
  simp [-ow_seq, lst_ok]
  split
  · refine (pkw h1 (by simp) (by simp)).imp ?_
    rintro ⟨x, S2⟩ ⟨hx, h2⟩
    have sx : ∃ z, x = .str z ∧ Sx z := by
      simp at hx
      rcases hx with rfl | rfl | rfl | rfl | rfl <;> exact ⟨_, rfl, sx_lit⟩
    obtain ⟨z, rfl, hz⟩ := sx
    simp [tup_ok]
    exact ⟨(pair_pr hz hp).mono (by decide), (Dr.of h2).trans .app⟩
  · rw [ow_seq]
    simp [-ow_seq, lst_ok]
    split
    · refine (pkw h1 (by simp) (by simp)).imp ?_
      rintro ⟨x, S2⟩ ⟨hx, h2⟩
      have sx : ∃ z, x = .str z ∧ Sx z := by
        simp at hx
        rcases hx with rfl | rfl <;> exact ⟨_, rfl, sx_lit⟩
      obtain ⟨z, rfl, hz⟩ := sx
      dsimp only at h2 ⊢
      refine (pkw h2 (by simp) (by simp)).imp ?_
      rintro ⟨y, S3⟩ ⟨hy, h3⟩
      have sy : ∃ z, y = .str z ∧ Sx z := by
        simp at hy
        rcases hy with rfl | rfl | rfl | rfl <;> exact ⟨_, rfl, sx_lit⟩
      obtain ⟨w, rfl, hw⟩ := sy
      simp [tup_ok]
      refine ⟨Pr.mono (n := 7) (.tup (by simp) fun d hd => ?_) (by decide), (Dr.of h3).trans (Gr.trans .app .app)⟩
      simp at hd
      rcases hd with rfl | rfl | rfl
      · exact .str sx_lit
      · exact hp
      · exact .tup (by simp) fun d hd => by
          simp at hd
          rcases hd with rfl | rfl | rfl
          · exact .str sx_lit
          · exact .str hz
          · exact .str hw
    · rw [ow_seq]
      simp [-ow_seq, lst_ok]
      split
      · rw [ow_seq, ow_for]
        simp [-ow_seq, lst_ok]
        refine (pkw h1 (by simp) (by simp)).imp ?_
        rintro ⟨x, S2⟩ ⟨hx, h2⟩
        have sx : ∃ z : Nat, x = .int z ∧ z ≤ 7 := by
          simp at hx
          rcases hx with rfl | rfl | rfl | rfl
          · exact ⟨4, rfl, by decide⟩
          · exact ⟨5, rfl, by decide⟩
          · exact ⟨6, rfl, by decide⟩
          · exact ⟨7, rfl, by decide⟩
        obtain ⟨z, rfl, hz⟩ := sx
        dsimp only at h2 ⊢
        simp [-ow_seq]
        refine ⟨by omega, ?_⟩
        refine (forR_inv (n := z) (fun j env S3 => ∃ q o3, env = [some (.loc 1), some q, some (.int i), o3] ∧ Pr (6 + j) q ∧ Dr T S3) (fun x => x.1 = .nx ∧ ∃ q, x.2.1[1]? = some (some q) ∧ Pr 20 q ∧ Dr T x.2.2)
          (fun env S3 ⟨q, o3, e, hq, h3⟩ => ⟨rfl, q, by rw [e]; rfl, hq.mono (by omega), h3⟩) (fun j env S3 hj ⟨q, o3, e, hq, h3⟩ => ?step) ⟨p, none, rfl, hp, (Dr.of h2).trans .app⟩).imp ?imp
        case step =>
          subst e
          simp [tup_ok]
          exact ⟨pair_pr sx_lit hq, h3⟩
        case imp =>
          rintro ⟨fl, env, S3⟩ ⟨rfl, h⟩
          exact h
      · rw [ow_seq, ow_for]
        simp [-ow_seq, lst_ok]
        refine (pkw h1 (by simp) (by simp)).imp ?_
        rintro ⟨x, S2⟩ ⟨hx, h2⟩
        have sx : ∃ z : Nat, x = .int z ∧ z ≤ 7 := by
          simp at hx
          rcases hx with rfl | rfl | rfl
          · exact ⟨3, rfl, by decide⟩
          · exact ⟨5, rfl, by decide⟩
          · exact ⟨6, rfl, by decide⟩
        obtain ⟨z, rfl, hz⟩ := sx
        dsimp only at h2 ⊢
        simp [-ow_seq]
        refine ⟨by omega, ?_⟩
        refine (forR_inv (n := z) (fun j env S3 => ∃ q o3, env = [some (.loc 1), some q, some (.int i), o3] ∧ Pr (6 + j) q ∧ Dr T S3) (fun x => x.1 = .nx ∧ ∃ q, x.2.1[1]? = some (some q) ∧ Pr 20 q ∧ Dr T x.2.2)
          (fun env S3 ⟨q, o3, e, hq, h3⟩ => ⟨rfl, q, by rw [e]; rfl, hq.mono (by omega), h3⟩) (fun j env S3 hj ⟨q, o3, e, hq, h3⟩ => ?step) ⟨p, none, rfl, hp, (Dr.of h2).trans .app⟩).imp ?imp
        case step =>
          subst e
          obtain ⟨T3, g3, h3⟩ := h3
          simp [tup_ok, lst_ok]
          refine (pkw h3 (by simp) (by simp)).imp ?_
          rintro ⟨x, S4⟩ ⟨hx, h4⟩
          dsimp only at h4 ⊢
          refine ⟨?_, (Dr.of h4).trans (g3.trans .app)⟩
          simp at hx
          rcases hx with rfl | rfl <;> exact pair_pr sx_lit hq
        case imp =>
          rintro ⟨fl, env, S3⟩ ⟨rfl, h⟩
          exact h
end k12
end DL
namespace DL
namespace k12
open PySem
/-! ### the law's runs -/
theorem set_dct {n : Nat} {kvs : List (D × D)} {k v : D} {S : Sto} (h : S[n]? = some (.dct kvs)) (hk : okKey k = true) (hz : kvs.length ≤ 100000) : setP (.loc n) k v S = some (S.set n (.dct (dput kvs k v))) := by
  have e : dctD S (.loc n) = some kvs := by simp [dctD, h]
  simp only [setP, e, hk, true_and]
  rw [if_pos (fitsM_lt (by omega))]
theorem get_dct {n : Nat} {kvs : List (D × D)} {k : D} {S : Sto} (h : S[n]? = some (.dct kvs)) (hk : okKey k = true) : getP (.loc n) [k] S = some ((dget kvs k).getD .non, S) := by
  have e : dctD S (.loc n) = some kvs := by simp [dctD, h]
  simp only [getP, e, hk, if_true]
theorem is_dct {n : Nat} {kvs : List (D × D)} {S : Sto} (h : S[n]? = some (.dct kvs)) : isDct (.loc n) S = true := by simp [isDct, dctD, h]
theorem okI {i : Int} : okKey (.int i) = true := rfl
theorem pop_lst {n : Nat} {ds : List D} {d : D} {S : Sto} (h : S[n]? = some (.lst (ds ++ [d]))) : popP (.loc n) [] S = some (d, S.set n (.lst ds)) := by
  simp [popP, h]
section
variable {R : Rn} (hR : RnOk R)
include hR
theorem mk_at {i : Nat} (hi : i < R.N) : (R.M.map mkD)[i]? = some (mkD (R.mk1 i)) := by
  have : R.M[i]? = some R.M[i] := List.getElem?_eq_getElem hi
  simp [Rn.mk1, this]
theorem mk_sx (i : Nat) : MkOk (R.mk1 i) := by
  unfold Rn.mk1
  cases e : R.M[i]? with
  | none => exact ⟨sx_lit, sx_lit⟩
  | some m => exact hR.ms m (List.mem_of_getElem? e)
theorem N_le : R.N ≤ 14 := by
  have := hR.lb
  have := hR.la
  simp [Rn.N, Rn.M]
  omega
theorem ix_M {l i : Nat} {S : Sto} (h : S[l]? = some (.lst (R.M.map mkD))) (hi : i < R.N) : ixQ (.loc l) (.int i) S = some (mkD (R.mk1 i), S) := ix_lst h (by omega) (by simpa using mk_at hR hi)
theorem len_M {l : Nat} {S : Sto} (h : S[l]? = some (.lst (R.M.map mkD))) : lenQ [.loc l] S = some (.int R.N, S) := by
  rw [len_lst h]
  simp [Rn.N]
theorem behind_ok (k : Nat) {l i : Nat} {S : Sto} (h : S[l]? = some (.lst (R.M.map mkD))) : Ow (calls (k + 1) 20 [.loc l, .tup (R.be.map mkD), .int i] S) fun r => r = (.int (R.fo i), S) := by
  obtain ⟨x, e⟩ := c20 k
  rw [e, ow_runB]
  unfold bd20
  simp [len_M hR h]
  unfold Rn.fo Rn.B
  split
  · rename_i h1
    rw [if_pos (by omega)]
    simp
  · rename_i h1
    rw [if_neg (by omega)]
theorem oD_get {i : Nat} : (dget R.mts (.int i)).getD .non = oD (oN (dget R.mts (.int i))) := by
  rcases get_mts hR.a1 (i := i) with h | ⟨j, h, _⟩
  · rw [h]; rfl
  · rw [h]; simp [oN, oD]
theorem lacross_ok (k : Nat) {l dm i : Nat} {S : Sto} (h : S[l]? = some (.lst (R.M.map mkD))) (hd : S[dm]? = some (.dct R.mts)) (hi : i < R.N) : Ow (calls (k + 2) 21 [.loc l, .tup (R.be.map mkD), .loc dm, .int i] S) fun r => r = (oD (R.ac i), S) := by
  obtain ⟨x, e⟩ := c21 (k + 1)
  rw [e, ow_runB]
  unfold bd21
  rw [ow_seq]
  have hm : ∀ m : Mk, ixQ (mkD m) (.int 0) S = some (.str m.1, S) := fun m => ix_0
  simp [-ow_seq, ix_M hR h hi, hm, eq_sx (mk_sx hR i).1 (sx_lit (x := "call"))]
  unfold Rn.ac
  split
  · rw [get_dct hd okI, oD_get hR]
    simp [is_dct hd]
  · rw [ow_seq]
    simp [-ow_seq]
    refine (behind_ok hR k h).imp ?_
    rintro ⟨d, S1⟩ e
    cases e
    simp [ix_M hR h (fo_lt hR.a1), hm, eq_sx (mk_sx hR (R.fo i)).1 (sx_lit (x := "back"))]
    split
    · rfl
    · rfl
end
noncomputable def lmB : SM := (sFor (iRng1M (mL lenQ (lCons (m2 ixQ (mVar 3) (mC (.int 1))) lNil))) (gVar 5) (sSeq (sIf (bV (m2 eqP (m2 ixQ (m2 ixQ (m2 ixQ (mVar 3) (mC (.int 1))) (mVar 5)) (mC (.int 0))) (mC (.str "call")))) (sExpr (mM "list" appP (mVar 4) (lCons (m2 addP (m2 ixQ (mVar 3) (mC (.int 0))) (mVar 5)) lNil))) sNext) (sIf (bAnd (bV (m2 eqP (m2 ixQ (m2 ixQ (m2 ixQ (mVar 3) (mC (.int 1))) (mVar 5)) (mC (.int 0))) (mC (.str "back")))) (bV (m2 gtP (mL lenQ (lCons (mVar 4) lNil)) (mC (.int 0))))) (sAsg (m2 addP (m2 ixQ (mVar 3) (mC (.int 0))) (mVar 5)) (gSubM (mVar 2) (mM0 "list" popP (mVar 4)))) sNext)))
theorem lm_inner {o dm w : Nat} {ms : List Mk} (hm : ∀ m ∈ ms, MkOk m) (lm : ms.length ≤ 7) {m0 : List (D × D)} (l0 : m0.length ≤ 100) {S S1 : Sto} {a b : D} {o5 : Option D} (g : Gr S S1) (hdm : S.length ≤ dm) (hw : S.length ≤ w) (hne : dm ≠ w) (h1 : S1[dm]? = some (.dct m0)) (h2 : S1[w]? = some (.lst [])) :
    Ow (lmB [some a, some b, some (.loc dm), some (.tup [.int o, .tup (ms.map mkD)]), some (.loc w), o5] S1) fun x => x.1 = .nx ∧ Gr S x.2.2 ∧ x.2.2[dm]? = some (.dct (mP o ms ([], m0) ms.length).2) ∧ (∀ q, q ≠ dm → q ≠ w → x.2.2[q]? = S1[q]?) ∧ ∃ o4 o5, x.2.1 = [some a, some b, some (.loc dm), some (.tup [.int o, .tup (ms.map mkD)]), o4, o5] := by
  unfold lmB
  rw [ow_for]
  simp [-ow_seq]
  refine ⟨by omega, ?_⟩
  refine (forR_inv (n := ms.length) (fun j env S2 => (∃ o5, env = [some a, some b, some (.loc dm), some (.tup [.int o, .tup (ms.map mkD)]), some (.loc w), o5]) ∧ Gr S S2 ∧ (∀ q, q ≠ dm → q ≠ w → S2[q]? = S1[q]?) ∧ S2[dm]? = some (.dct (mP o ms ([], m0) j).2) ∧ S2[w]? = some (.lst ((mP o ms ([], m0) j).1.map fun (i : Nat) => D.int i)))
    (fun x => x.1 = .nx ∧ (∃ o5, x.2.1 = [some a, some b, some (.loc dm), some (.tup [.int o, .tup (ms.map mkD)]), some (.loc w), o5]) ∧ Gr S x.2.2 ∧ (∀ q, q ≠ dm → q ≠ w → x.2.2[q]? = S1[q]?) ∧ x.2.2[dm]? = some (.dct (mP o ms ([], m0) ms.length).2))
    (fun env S2 ⟨e, g, fr, h1, h2⟩ => ⟨rfl, e, g, fr, h1⟩) (fun j env S2 hj ⟨e, g, fr, h1, h2⟩ => ?step) ⟨⟨o5, rfl⟩, g, fun _ _ _ => rfl, h1, by simpa [mP] using h2⟩).imp ?imp
  case imp =>
    rintro ⟨fl, env, S2⟩ ⟨rfl, ⟨o5, rfl⟩, g, fr, h⟩
    exact ⟨rfl, g, h, fr, _, _, rfl⟩
  case step =>
    obtain ⟨o5, rfl⟩ := e
    have hmj : ms[j]? = some ms[j] := List.getElem?_eq_getElem hj
    have sx := hm _ (List.mem_of_getElem? hmj)
    have hix : ∀ S, ixQ (.tup (ms.map mkD)) (.int (0 + (j : Int))) S = some (mkD ms[j], S) := fun S => ix_tup (by omega) (by simp [hmj])
    have hm0 : ∀ (m : Mk) S, ixQ (mkD m) (.int 0) S = some (.str m.1, S) := fun m S => ix_0
    have ll := mP_len (o := o) (ms := ms) (st := ([], m0)) j
    simp at ll
    have es : mP o ms ([], m0) (j + 1) = mS (mP o ms ([], m0) j) (o + j) ms[j] := by simp [mP, hmj]
    rw [es]
    generalize mP o ms ([], m0) j = st at h1 h2 ll ⊢
    simp only [ow_gVar]
    rw [ow_seq]
    simp [-ow_seq] at hix
    simp [-ow_seq, hix, hm0, eq_sx sx.1 (sx_lit (x := "call"))]
    by_cases hc : ms[j].1 = "call"
    · have hb : ¬ ((Str.ofString "call") = (Str.ofString "back")) := by decide
      simp [hc, ty_lst h2, app_lst h2 (by simp; omega), hix, hm0, eq_sx (sx_lit (x := "call")) (sx_lit (x := "back")), hb]
      refine ⟨g.set hw, fun q q1 q2 => (get_set_ne (Ne.symm q2)).trans (fr q q1 q2), ?_, ?_⟩
      · rw [get_set_ne (Ne.symm hne), h1]
        simp [mS, hc]
      · rw [get_set h2]
        simp [mS, hc]
    · simp [hc, hix, hm0, eq_sx sx.1 (sx_lit (x := "back"))]
      split
      · rename_i hb
        have hbc : ¬ ((Str.ofString "back") = (Str.ofString "call")) := by decide
        rcases List.eq_nil_or_concat st.1 with e1 | ⟨w', x, e1⟩
        · rw [e1] at h2
          rw [len_lst h2]
          simp
          refine ⟨g, fr, ?_, ?_⟩
          · rw [h1]
            simp [mS, hc, e1]
          · rw [h2]
            simp [mS, hc, e1]
        · rw [List.concat_eq_append] at e1
          have h3 : S2[w]? = some (.lst ((w'.map fun (i : Nat) => D.int i) ++ [.int x])) := by rw [h2, e1]; simp
          have h1' : (S2.set w (.lst (w'.map fun (i : Nat) => D.int i)))[dm]? = some (.dct st.2) := by rw [get_set_ne (Ne.symm hne), h1]
          rw [len_lst h3]
          simp [ty_lst h3, pop_lst h3]
          rw [set_dct h1' okI (by omega)]
          simp
          refine ⟨(g.set hw).set hdm, fun q q1 q2 => ((get_set_ne (Ne.symm q1)).trans (get_set_ne (Ne.symm q2))).trans (fr q q1 q2), ?_, ?_⟩
          · rw [get_set h1']
            simp [mS, hbc, hb, e1]
          · rw [get_set_ne hne, get_set h3]
            simp [mS, hbc, hb, e1]
      · rename_i hb
        refine ⟨g, fr, ?_, ?_⟩
        · rw [h1]
          simp [mS, hc, hb]
        · rw [h2]
          simp [mS, hc, hb]
theorem lmatches_ok (k : Nat) {R : Rn} (hR : RnOk R) {S : Sto} : Ow (calls (k + 1) 19 [.tup (R.be.map mkD), .tup (R.ar.map mkD)] S) fun r => Gr S r.2 ∧ ∃ l, r.1 = .loc l ∧ S.length ≤ l ∧ r.2[l]? = some (.dct R.mts) := by
  obtain ⟨x, e⟩ := c19 k
  rw [e, ow_runB]
  have eb : bd19 (calls k) x = (sSeq (sAsg mDNew (gVar 2)) (sSeq (sFor (iSeq (mL lstP (lCons (mL tupP (lCons (mC (.int 0)) (lCons (mVar 0) lNil))) (lCons (mL tupP (lCons (mL lenQ (lCons (mVar 0) lNil)) (lCons (mVar 1) lNil))) lNil)))) (gVar 3) (sSeq (sAsg (mL lstP lNil) (gVar 4)) lmB)) (sRet (mVar 2)))) := rfl
  rw [eb, ow_seq]
  simp [-ow_seq]
  rw [ow_seq, ow_for]
  simp [-ow_seq, tup_ok, lst_ok]
  refine ⟨by simp [seqD], ?_⟩
  have hl := hR.lb
  have hl2 := hR.la
  refine (forL_inv [.tup [.int 0, .tup (R.be.map mkD)], .tup [.int R.B, .tup (R.ar.map mkD)]]
    (fun j env S1 => ∃ o3 o4 o5 m, env = [some (.tup (R.be.map mkD)), some (.tup (R.ar.map mkD)), some (.loc S.length), o3, o4, o5] ∧ Gr S S1 ∧ S1[S.length]? = some (.dct m) ∧ m.length ≤ 10 * j ∧ S1[S.length + 1]? = some (.lst [.tup [.int 0, .tup (R.be.map mkD)], .tup [.int R.B, .tup (R.ar.map mkD)]]) ∧ (j = 0 → m = []) ∧ (j = 1 → m = R.m1) ∧ (j = 2 → m = R.mts))
    (fun x => x.1 = .nx ∧ x.2.1[2]? = some (some (.loc S.length)) ∧ Gr S x.2.2 ∧ x.2.2[S.length]? = some (.dct R.mts))
    (fun j env S1 ⟨_, _, _, _, _, g, _, _, h, _⟩ => by simp [itAt, seqD, h])
    (fun env S1 ⟨o3, o4, o5, m, e, g, h1, _, _, _, _, h2⟩ => ⟨rfl, by rw [e]; rfl, g, by rw [h1, h2 rfl]⟩)
    (fun j d env S1 hj ⟨o3, o4, o5, m, e, g, h1, lm, hs, q0, q1, q2⟩ => ?step) 2 0 _ _ (by simp) (by simp) ⟨none, none, none, [], rfl, .app, by simp, by simp, by simp [Rn.B], by simp, by simp, by simp⟩).imp ?imp
  case imp =>
    rintro ⟨fl, env, S1⟩ ⟨rfl, e, g, h⟩
    simp [e]
    exact ⟨g, h⟩
  case step =>
    subst e
    have hlen : S.length < S1.length := (List.getElem?_eq_some_iff.mp h1).1
    match j, hj with
    | 0, hj =>
      simp at hj
      subst hj
      rw [q0 rfl] at h1
      simp only [ow_gVar]
      rw [ow_seq]
      simp [-ow_seq, lst_ok]
      refine (lm_inner (o := 0) (ms := R.be) (fun m hm => hR.ms m (by simp [hm])) hl (m0 := []) (by simp) (g.snoc) (Nat.le_refl _) (by omega) (by omega) (get_app h1) get_snoc).imp ?_
      rintro ⟨fl, env, S2⟩ ⟨rfl, g2, h2, fr, o4, o5, rfl⟩
      have hl1 : S.length + 1 < S1.length := (List.getElem?_eq_some_iff.mp hs).1
      refine ⟨⟨_, _, _, rfl⟩, g2, R.m1, h2, ?_, ?_, rfl⟩
      · have := (mP_len (o := 0) (ms := R.be) (st := ([], [])) R.be.length).1
        simp at this
        show R.m1.length ≤ 10 * (0 + 1)
        unfold Rn.m1
        omega
      · rw [fr _ (by omega) (by omega)]
        exact get_app hs
    | 1, hj =>
      simp at hj
      subst hj
      rw [q1 rfl] at h1 lm
      simp only [ow_gVar]
      rw [ow_seq]
      simp [-ow_seq, lst_ok]
      refine (lm_inner (o := R.B) (ms := R.ar) (fun m hm => hR.ms m (by simp [hm])) hl2 (m0 := R.m1) (by omega) (g.snoc) (Nat.le_refl _) (by omega) (by omega) (get_app h1) get_snoc).imp ?_
      rintro ⟨fl, env, S2⟩ ⟨rfl, g2, h2, fr, o4, o5, rfl⟩
      have hl1 : S.length + 1 < S1.length := (List.getElem?_eq_some_iff.mp hs).1
      refine ⟨⟨_, _, _, rfl⟩, g2, R.mts, h2, ?_, ?_, rfl⟩
      · have := (mP_len (o := R.B) (ms := R.ar) (st := ([], R.m1)) R.ar.length).1
        simp at this
        show R.mts.length ≤ 10 * (1 + 1)
        unfold Rn.mts
        omega
      · rw [fr _ (by omega) (by omega)]
        exact get_app hs
    | j + 2, hj => simp at hj
end k12
end DL
namespace DL
namespace k12
open PySem
/-! ### truths, by any fuel -/
noncomputable def tr (R : Rn) (d : D) : Nat → Bool := tv R 8 d
noncomputable def oneV (R : Rn) (s : Str) (a : Nat → Bool) (i : Nat) : Bool := if s = "not" then !a i else (match R.nx s i with | none => false | some j => a j)
noncomputable def twoV (R : Rn) (s : Str) (a b : Nat → Bool) (i : Nat) : Bool := if s = "and" then a i && b i else if s = "or" then a i || b i else W (R.nx s) a b (R.N + 1) i
theorem tv_one {R : Rn} {n : Nat} {s : Str} {d : D} : tv R (n + 1) (.tup [.str s, d]) = oneV R s (tv R n d) := by
  funext i
  rfl
theorem tv_two {R : Rn} {n : Nat} {s : Str} {d e : D} (h : s ≠ "at") : tv R (n + 1) (.tup [.str s, d, e]) = twoV R s (tv R n d) (tv R n e) := by
  funext i
  rw [tv, if_neg h]
  rfl
theorem tv_at {R : Rn} {n : Nat} {d e : D} : tv R (n + 1) (.tup [.str "at", d, e]) = fun i => atB d e (R.mk1 i) := by
  funext i
  rw [tv, if_pos rfl]
theorem two_at {s : Str} (h : s = "and" ∨ s = "or" ∨ s = "until" ∨ s = "across") : s ≠ "at" := by
  rcases h with rfl | rfl | rfl | rfl <;> decide
theorem tv_up {R : Rn} {n : Nat} {d : D} (h : Pm n d) : tv R (n + 1) d = tv R n d := by
  induction h with
  | at_ ha hb => rw [tv_at, tv_at]
  | yes => rfl
  | one hs hp ih => rw [tv_one, tv_one, ih]
  | two hs hp hq ih1 ih2 => rw [tv_two (two_at hs), tv_two (two_at hs), ih1, ih2]
theorem Pm.up {n : Nat} {d : D} (h : Pm n d) : Pm (n + 1) d := by
  induction h with
  | at_ ha hb => exact .at_ ha hb
  | yes => exact .yes
  | one hs hp ih => exact .one hs ih
  | two hs hp hq ih1 ih2 => exact .two hs ih1 ih2
theorem Pm.mono {n m : Nat} {d : D} (h : Pm n d) (hm : n ≤ m) : Pm m d := by
  induction hm with
  | refl => exact h
  | step _ ih => exact ih.up
theorem tv_mono {R : Rn} {n m : Nat} {d : D} (h : Pm n d) (hm : n ≤ m) : tv R m d = tv R n d := by
  induction hm with
  | refl => rfl
  | step hk ih => rw [tv_up (h.mono hk), ih]
theorem tr_yes {R : Rn} : tr R (.tup [.str "yes"]) = fun _ => true := rfl
theorem tr_at {R : Rn} {d e : D} : tr R (.tup [.str "at", d, e]) = fun i => atB d e (R.mk1 i) := tv_at
theorem tr_one {R : Rn} {n : Nat} {s : Str} {d : D} (h : Pm n d) (hn : n ≤ 7) : tr R (.tup [.str s, d]) = oneV R s (tr R d) := by
  unfold tr
  rw [tv_one, tv_mono h hn, tv_mono h (show n ≤ 8 by omega)]
theorem tr_two {R : Rn} {n : Nat} {s : Str} {d e : D} (h : Pm n d) (h2 : Pm n e) (hn : n ≤ 7) (hs : s ≠ "at") : tr R (.tup [.str s, d, e]) = twoV R s (tr R d) (tr R e) := by
  unfold tr
  rw [tv_two hs, tv_mono h hn, tv_mono h (show n ≤ 8 by omega), tv_mono h2 hn, tv_mono h2 (show n ≤ 8 by omega)]
/-! ### stores that go on, but for one place -/
def Fr (c : Option Nat) (S S1 : Sto) : Prop := S.length ≤ S1.length ∧ ∀ j, j < S.length → some j ≠ c → S1[j]? = S[j]?
theorem Fr.refl {c : Option Nat} {S : Sto} : Fr c S S := ⟨Nat.le_refl _, fun _ _ _ => rfl⟩
theorem Fr.trans {c : Option Nat} {S S1 S2 : Sto} (h : Fr c S S1) (k : Fr c S1 S2) : Fr c S S2 := ⟨Nat.le_trans h.1 k.1, fun j hj hc => (k.2 j (by have := h.1; omega) hc).trans (h.2 j hj hc)⟩
theorem Fr.gr {S S1 : Sto} (h : Fr none S S1) : Gr S S1 := .of h.1 fun j hj => h.2 j hj (by simp)
theorem Gr.fr {c : Option Nat} {S S1 : Sto} (h : Gr S S1) : Fr c S S1 := by
  obtain ⟨U, rfl⟩ := h
  exact ⟨by simp, fun j hj _ => by rw [List.getElem?_append_left hj]⟩
theorem Fr.get {c : Option Nat} {S S1 : Sto} (h : Fr c S S1) {j : Nat} {o : Ob} (e : S[j]? = some o) (hc : some j ≠ c) : S1[j]? = some o := by
  rw [h.2 j (List.getElem?_eq_some_iff.mp e).1 hc, e]
/-- a comprehension of calls that give lists -/
theorem lcC {c : Option Nat} {d : D} {vs : List Nat} {t : Tgt} {te : EM} {env : Vars} {S : Sto} {ds : List D} (F : D → List D) (Iv : Sto → Prop) (hd : ∀ S1, Fr c S S1 → seqD S1 d = some ds) (hl : ds.length ≤ 100) (hI : Iv S)
    (step : ∀ x ∈ ds, ∃ env1, t.put (wipeD env vs) x = some env1 ∧ ∀ S1, Fr c S S1 → Iv S1 → Ow (te env1 S1) fun y => Fr c S1 y.2 ∧ Iv y.2 ∧ ∃ l, y.1 = .loc l ∧ some l ≠ c ∧ y.2[l]? = some (.lst (F x))) :
    Ow (lcL (.seq d) vs t bYes te env 0 [] S) fun r => Fr c S r.2 ∧ Iv r.2 ∧ ∃ ls : List Nat, r.1 = ls.map (fun (l : Nat) => D.loc l) ∧ ls.length = ds.length ∧ ∀ (i l : Nat) (x : D), ls[i]? = some l → ds[i]? = some x → some l ≠ c ∧ r.2[l]? = some (.lst (F x)) := by
  refine (lcL_inv ds (fun j acc S1 => Fr c S S1 ∧ Iv S1 ∧ ∃ ls : List Nat, acc = ls.map (fun (l : Nat) => D.loc l) ∧ ls.length = j ∧ ∀ (i l : Nat) (x : D), ls[i]? = some l → ds[i]? = some x → some l ≠ c ∧ S1[l]? = some (.lst (F x)))
    (fun j acc S1 ⟨g, _⟩ => by simp [itAt, hd S1 g]) (fun j x acc S1 hj ⟨g, iv, ls, e, hls, h⟩ => ?step) ds.length 0 [] S (by simp) (by simp) ⟨.refl, hI, [], rfl, rfl, fun i l x h => by simp at h⟩)
  subst e
  obtain ⟨env1, e1, h1⟩ := step x (List.mem_of_getElem? hj)
  refine ⟨env1, e1, ?_⟩
  simp [bYes]
  refine (h1 S1 g iv).imp ?_
  rintro ⟨y, S2⟩ ⟨g2, iv2, l, rfl, hlc, h2⟩
  have hjl : j < ds.length := (List.getElem?_eq_some_iff.mp hj).1
  refine ⟨fitsM_lt (by omega), g.trans g2, iv2, ls ++ [l], by simp, by simp [hls], fun i l' x' hi hx => ?_⟩
  by_cases hij : i < ls.length
  · rw [List.getElem?_append_left hij] at hi
    obtain ⟨q1, q2⟩ := h i l' x' hi hx
    exact ⟨q1, g2.get q2 q1⟩
  · have : i = j := by
      have := (List.getElem?_eq_some_iff.mp hi).1
      simp at this
      omega
    subst this
    rw [← hls] at hi
    simp at hi
    subst hi
    rw [hj] at hx
    cases hx
    exact ⟨hlc, h2⟩
/-- a comprehension over a range -/
theorem lcRG {n : Nat} {vs : List Nat} {t : Tgt} {te : EM} {env : Vars} {S : Sto} (f : Nat → D) (hn : n ≤ 1000) (step : ∀ i, i < n → ∃ env1, t.put (wipeD env vs) (.int i) = some env1 ∧ ∀ S1, Gr S S1 → Ow (te env1 S1) fun y => y.1 = f i ∧ Gr S1 y.2) :
    Ow (lcL (.rng 0 n) vs t bYes te env 0 [] S) fun r => r.1 = (List.range n).map f ∧ Gr S r.2 := by
  refine lcR_inv (fun j acc S1 => acc = (List.range j).map f ∧ Gr S S1) (fun j acc S1 hj ⟨ha, g⟩ => ?_) ⟨rfl, .refl⟩
  obtain ⟨env1, e1, h⟩ := step j hj
  refine ⟨env1, by simpa using e1, ?_⟩
  simp [bYes]
  refine (h S1 g).imp ?_
  rintro ⟨y, S2⟩ ⟨rfl, g2⟩
  subst ha
  refine ⟨fits_lt (by simp; omega), ?_, g.trans g2⟩
  rw [List.range_succ]
  simp
def blL (N : Nat) (t : Nat → Bool) : List D := (List.range N).map fun i => .bl (t i)
theorem bl_at {N i : Nat} {t : Nat → Bool} (hi : i < N) : (blL N t)[i]? = some (.bl (t i)) := by simp [blL, hi]
theorem ix_bl {N i l : Nat} {t : Nat → Bool} {S : Sto} (h : S[l]? = some (.lst (blL N t))) (hi : i < N) : ixQ (.loc l) (.int i) S = some (.bl (t i), S) := ix_lst h (by omega) (by simpa using bl_at hi)
theorem map_M {R : Rn} {f : Mk → D} : R.M.map f = (List.range R.N).map fun i => f (R.mk1 i) := by
  apply List.ext_getElem?
  intro i
  by_cases hi : i < R.N
  · have : R.M[i]? = some R.M[i] := List.getElem?_eq_getElem hi
    simp [hi, Rn.mk1, this]
  · have : R.M[i]? = none := List.getElem?_eq_none (by unfold Rn.N at hi; omega)
    simp [hi, this]
theorem in2 {s a b : Str} {S : Sto} (hs : Sx s) (ha : Sx a) (hb : Sx b) : inQ (.str s) (.loc S.length) (S ++ [.lst [.str a, .str b]]) = some (.bl (decide (s = a ∨ s = b)), S ++ [.lst [.str a, .str b]]) := by
  rw [in_ths (n := 0) (m := 0) hs.th (seq_loc get_snoc) (by simp; exact ⟨ha.th, hb.th⟩) (by decide) (by decide)]
  simp
end k12
end DL
namespace DL
namespace k12
open PySem
noncomputable def lwB (cl : Nat → FM) : SM := (sFor (iRng1M (m2 addP (mL lenQ (lCons (mVar 3) lNil)) (mC (.int 1)))) (gVar 10) (sSeq (sAsg (mL (cl 20) (lCons (mVar 3) (lCons (mVar 1) (lCons (mVar 8) lNil)))) (gVar 11)) (sSeq (sIf (bV (m2 inQ (m2 ixQ (mVar 0) (mC (.int 0))) (mL lstP (lCons (mC (.str "over")) (lCons (mC (.str "across")) lNil))))) (sAsg (mL (cl 21) (lCons (mVar 3) (lCons (mVar 1) (lCons (mVar 4) (lCons (mVar 8) lNil))))) (gVar 11)) sNext) (sSeq (sIf (bV (m2 inQ (m2 ixQ (mVar 0) (mC (.int 0))) (mL lstP (lCons (mC (.str "next")) (lCons (mC (.str "over")) lNil))))) (sSeq (sAsg (mAnd (mNotN (mVar 11)) (m2 ixQ (m2 ixQ (mVar 5) (mC (.int 0))) (mVar 11))) (gVar 9)) sBreak) sNext) (sSeq (sIf (bTru (m2 ixQ (m2 ixQ (mVar 5) (mC (.int 1))) (mVar 8))) (sSeq (sAsg (mC (.bl true)) (gVar 9)) sBreak) sNext) (sSeq (sIf (bOr (bNot (bTru (m2 ixQ (m2 ixQ (mVar 5) (mC (.int 0))) (mVar 8)))) (bV (mIsN (mVar 11)))) sBreak sNext) (sAsg (mVar 11) (gVar 8))))))))
def envW (R : Rn) (s : Str) (ds : List D) (lm dm t f i a : Nat) (b : Bool) (o10 o11 o12 o13 : Option D) : Vars := [some (.tup (.str s :: ds)), some (.tup (R.be.map mkD)), some (.tup (R.ar.map mkD)), some (.loc lm), some (.loc dm), some (.loc t), some (.loc f), some (.int i), some (.int a), some (.bl b), o10, o11, o12, o13]
/-- what is told by one walk -/
noncomputable def walkV (R : Rn) (s : Str) (t0 t1 : Nat → Bool) (i : Nat) : Bool := if s = "next" ∨ s = "over" then (match R.nx s i with | none => false | some j => t0 j) else W (R.nx s) t0 t1 (R.N + 1) i
/-- what the walks read -/
structure WSt (R : Rn) (s : Str) (t0 t1 : Nat → Bool) (lm dm t : Nat) (S : Sto) : Prop where
  m : S[lm]? = some (.lst (R.M.map mkD))
  d : S[dm]? = some (.dct R.mts)
  t0 : ∃ l0 r, S[t]? = some (.lst (.loc l0 :: r)) ∧ S[l0]? = some (.lst (blL R.N t0)) ∧ (¬ (s = "next" ∨ s = "over") → ∃ l1, r = [.loc l1] ∧ S[l1]? = some (.lst (blL R.N t1)))
theorem WSt.gr {R : Rn} {s : Str} {t0 t1 : Nat → Bool} {lm dm t : Nat} {S S1 : Sto} (h : WSt R s t0 t1 lm dm t S) (g : Gr S S1) : WSt R s t0 t1 lm dm t S1 := by
  obtain ⟨l0, r, h1, h2, h3⟩ := h.t0
  refine ⟨g.get h.m, g.get h.d, l0, r, g.get h1, g.get h2, fun z => ?_⟩
  obtain ⟨l1, e, h4⟩ := h3 z
  exact ⟨l1, e, g.get h4⟩
def WPost (R : Rn) (s : Str) (ds : List D) (t0 t1 : Nat → Bool) (lm dm t f i : Nat) (o12 o13 : Option D) (S : Sto) (x : Fl × Vars × Sto) : Prop := x.1 = .nx ∧ Gr S x.2.2 ∧ ∃ a o10 o11, x.2.1 = envW R s ds lm dm t f i a (walkV R s t0 t1 i) o10 o11 o12 o13
def WInv (R : Rn) (s : Str) (ds : List D) (t0 t1 : Nat → Bool) (lm dm t f i : Nat) (o12 o13 : Option D) (S : Sto) (j : Nat) (env : Vars) (S1 : Sto) : Prop :=
  Gr S S1 ∧ ∃ a o10 o11, a < R.N ∧ env = envW R s ds lm dm t f i a false o10 o11 o12 o13 ∧ ((s = "next" ∨ s = "over") → j = 0 ∧ a = i) ∧ (¬ (s = "next" ∨ s = "over") → W (R.nx s) t0 t1 (R.N + 1) i = W (R.nx s) t0 t1 (R.N + 1 - j) a)
theorem isNon_oD {o : Option Nat} : (oD o).isNon = o.isNone := by cases o <;> rfl
theorem lwalk_ok (k : Nat) {R : Rn} (hR : RnOk R) {s : Str} (hs : Sx s) {t0 t1 : Nat → Bool} {lm dm t f i : Nat} {S : Sto} {ds : List D} {o10 o11 o12 o13 : Option D} (hi : i < R.N) (h : WSt R s t0 t1 lm dm t S) :
    Ow (lwB (calls (k + 2)) (envW R s ds lm dm t f i i false o10 o11 o12 o13) S) (WPost R s ds t0 t1 lm dm t f i o12 o13 S) := by
  unfold lwB
  rw [ow_for]
  have hN := N_le hR
  have e0 : lenQ [.loc lm] S = some (.int R.N, S) := len_M hR h.m
  simp [-ow_seq, envW, e0]
  refine ⟨by omega, ?_⟩
  refine (forR_inv (n := R.N + 1) (WInv R s ds t0 t1 lm dm t f i o12 o13 S) (WPost R s ds t0 t1 lm dm t f i o12 o13 S)
    (fun env S1 ⟨g, a, p10, p11, ha, e, q1, q2⟩ => ?fin) (fun j env S1 hj ⟨g, a, p10, p11, ha, e, q1, q2⟩ => ?step) ⟨.refl, i, o10, o11, hi, rfl, fun _ => ⟨rfl, rfl⟩, fun _ => rfl⟩).imp fun _ h => h
  case fin =>
    have hn : ¬ (s = "next" ∨ s = "over") := fun z => by have := (q1 z).1; omega
    refine ⟨rfl, g, a, p10, p11, ?_⟩
    rw [e]
    have h0 := q2 hn
    rw [Nat.sub_self] at h0
    have h1 : W (R.nx s) t0 t1 (R.N + 1) i = false := h0
    unfold walkV
    rw [if_neg hn, h1]
  case step =>
    subst e
    have hw := h.gr g
    simp only [ow_gVar]
    rw [ow_seq]
    simp [-ow_seq, envW]
    refine (behind_ok hR (k + 1) hw.m).imp ?_
    rintro ⟨d, S2⟩ e
    cases e
    dsimp only
    rw [ow_seq]
    have h2 := in2 (S := S1) hs (sx_lit (x := "over")) (sx_lit (x := "across"))
    have g2 : Gr S1 (S1 ++ [.lst [.str "over", .str "across"]]) := .app
    have hw2 := hw.gr g2
    have h3 := in2 (S := S1 ++ [.lst [.str "over", .str "across"]]) hs (sx_lit (x := "next")) (sx_lit (x := "over"))
    have g3 : Gr S1 (S1 ++ [.lst [.str "over", .str "across"]] ++ [.lst [.str "next", .str "over"]]) := g2.snoc
    have hw3 := hw.gr g3
    have st2 : Ow (sIf (bV (m2 inQ (m2 ixQ (mVar 0) (mC (.int 0))) (mL lstP (lCons (mC (.str "over")) (lCons (mC (.str "across")) lNil))))) (sAsg (mL (calls (k + 2) 21) (lCons (mVar 3) (lCons (mVar 1) (lCons (mVar 4) (lCons (mVar 8) lNil))))) (gVar 11)) sNext (envW R s ds lm dm t f i a false (some (.int j)) (some (.int (R.fo a))) o12 o13) S1)
        fun x => x = (.nx, envW R s ds lm dm t f i a false (some (.int j)) (some (oD (R.nx s a))) o12 o13, S1 ++ [.lst [.str "over", .str "across"]]) := by
      simp [envW, lst_ok, h2, Rn.nx]
      split
      · refine (lacross_ok hR k hw2.m hw2.d ha).imp ?_
        rintro ⟨d, S2⟩ e
        cases e
        exact ⟨rfl, rfl⟩
      · rfl
    refine st2.imp ?_
    rintro ⟨fl, env, S2⟩ e
    cases e
    dsimp only
    generalize S1 ++ [.lst [.str "over", .str "across"]] = S2 at h3 g2 hw2 hw3 g3 ⊢
    rw [ow_seq]
    simp [-ow_seq, lst_ok, h3, envW]
    generalize S2 ++ [.lst [.str "next", .str "over"]] = S3 at h3 g3 hw3 ⊢
    obtain ⟨l0, r, ht, hl0, hl1⟩ := hw3.t0
    have i0 : ixQ (.loc t) (.int 0) S3 = some (.loc l0, S3) := ix_lst ht (by omega) rfl
    split
    · rename_i hn
      obtain ⟨rfl, rfl⟩ := q1 hn
      rw [ow_seq]
      cases e : R.nx s a with
      | none =>
        simp [oD, D.isNon]
        have hv : walkV R s t0 t1 a = false := by
          unfold walkV
          rw [if_pos hn, e]
        refine ⟨rfl, g.trans g3, a, ?_⟩
        rw [hv]
        exact ⟨_, _, rfl⟩
      | some j =>
        simp [oD, D.isNon, i0, ix_bl hl0 (nx_lt hR.a1 _ _ ha e)]
        have hv : walkV R s t0 t1 a = t0 j := by
          unfold walkV
          rw [if_pos hn, e]
        refine ⟨rfl, g.trans g3, a, ?_⟩
        rw [hv]
        exact ⟨_, _, rfl⟩
    · rename_i hn
      have hq : W (R.nx s) t0 t1 (R.N + 1) i = (t1 a || (t0 a && match R.nx s a with | none => false | some b => W (R.nx s) t0 t1 (R.N - j) b)) := by
        rw [q2 hn, show R.N + 1 - j = (R.N - j) + 1 by omega]
        rfl
      obtain ⟨l1, rfl, hk1⟩ := hl1 hn
      have i1 : ixQ (.loc t) (.int 1) S3 = some (.loc l1, S3) := ix_lst ht (by omega) rfl
      rw [ow_seq]
      simp [-ow_seq, i1, ix_bl hk1 ha]
      split
      · rename_i h1
        rw [ow_seq]
        simp
        have hv : walkV R s t0 t1 i = true := by
          unfold walkV
          rw [if_neg hn, hq, h1]
          rfl
        refine ⟨rfl, g.trans g3, a, ?_⟩
        rw [hv]
        exact ⟨_, _, rfl⟩
      · rename_i h1
        rw [ow_seq]
        simp [-ow_seq, i0, ix_bl hl0 ha, isNon_oD]
        have h1 : t1 a = false := by simpa using h1
        rw [h1, Bool.false_or] at hq
        have off : W (R.nx s) t0 t1 (R.N + 1) i = false → walkV R s t0 t1 i = false := fun z => by
          unfold walkV
          rw [if_neg hn, z]
        split
        · rename_i h2
          rw [h2, Bool.true_and] at hq
          split
          · rename_i h3
            rw [h3] at hq
            refine ⟨rfl, g.trans g3, a, ?_⟩
            rw [off hq]
            exact ⟨_, _, rfl⟩
          · rename_i h3
            obtain ⟨b, hb⟩ := Option.ne_none_iff_exists'.mp h3
            rw [hb] at hq ⊢
            refine ⟨g.trans g3, b, _, _, nx_lt hR.a1 _ _ ha hb, rfl, fun z => absurd z hn, fun _ => ?_⟩
            rw [hq, show R.N + 1 - (j + 1) = R.N - j by omega]
        · rename_i h2
          have h2 : t0 a = false := by simpa using h2
          rw [h2, Bool.false_and] at hq
          refine ⟨rfl, g.trans g3, a, ?_⟩
          rw [off hq]
          exact ⟨_, _, rfl⟩
end k12
end DL
namespace DL
namespace k12
open PySem
noncomputable def tailV (R : Rn) (s : Str) (t0 t1 : Nat → Bool) (i : Nat) : Bool := if s = "not" then !t0 i else if s = "and" then t0 i && t1 i else if s = "or" then t0 i || t1 i else walkV R s t0 t1 i
theorem tail_one {R : Rn} {s : Str} {t0 t1 : Nat → Bool} (h : s = "not" ∨ s = "next" ∨ s = "over") : oneV R s t0 = tailV R s t0 t1 := by
  funext i
  unfold oneV tailV walkV
  rcases h with rfl | rfl | rfl
  · rfl
  · rw [if_neg (by decide), if_neg (by decide), if_neg (by decide), if_neg (by decide), if_pos (.inl rfl)]
    try (cases R.nx "next" i <;> rfl)
  · rw [if_neg (by decide), if_neg (by decide), if_neg (by decide), if_neg (by decide), if_pos (.inr rfl)]
    try (cases R.nx "over" i <;> rfl)
theorem tail_two {R : Rn} {s : Str} {t0 t1 : Nat → Bool} (h : s = "and" ∨ s = "or" ∨ s = "until" ∨ s = "across") : twoV R s t0 t1 = tailV R s t0 t1 := by
  funext i
  unfold twoV tailV walkV
  rcases h with rfl | rfl | rfl | rfl
  · rw [if_pos rfl, if_neg (by decide), if_pos rfl]
  · rw [if_neg (by decide), if_pos rfl, if_neg (by decide), if_neg (by decide), if_pos rfl]
  · rw [if_neg (by decide), if_neg (by decide), if_neg (by decide), if_neg (by decide), if_neg (by decide), if_neg (by decide)]
  · rw [if_neg (by decide), if_neg (by decide), if_neg (by decide), if_neg (by decide), if_neg (by decide), if_neg (by decide)]
noncomputable def ltB (cl : Nat → FM) : SM := (sSeq (sIf (bV (m2 eqP (m2 ixQ (mVar 0) (mC (.int 0))) (mC (.str "not")))) (sRet (mLc (iRng1M (mL lenQ (lCons (mVar 3) lNil))) [7] (.nm 7) bYes (mNot (m2 ixQ (m2 ixQ (mVar 5) (mC (.int 0))) (mVar 7))))) sNext) (sSeq (sIf (bV (m2 eqP (m2 ixQ (mVar 0) (mC (.int 0))) (mC (.str "and")))) (sRet (mLc (iRng1M (mL lenQ (lCons (mVar 3) lNil))) [7] (.nm 7) bYes (mAnd (m2 ixQ (m2 ixQ (mVar 5) (mC (.int 0))) (mVar 7)) (m2 ixQ (m2 ixQ (mVar 5) (mC (.int 1))) (mVar 7))))) sNext) (sSeq (sIf (bV (m2 eqP (m2 ixQ (mVar 0) (mC (.int 0))) (mC (.str "or")))) (sRet (mLc (iRng1M (mL lenQ (lCons (mVar 3) lNil))) [7] (.nm 7) bYes (mOr (m2 ixQ (m2 ixQ (mVar 5) (mC (.int 0))) (mVar 7)) (m2 ixQ (m2 ixQ (mVar 5) (mC (.int 1))) (mVar 7))))) sNext) (sSeq (sAsg (mL lstP lNil) (gVar 6)) (sSeq (sFor (iRng1M (mL lenQ (lCons (mVar 3) lNil))) (gVar 7) (sSeq (sAsg (mVar 7) (gVar 8)) (sSeq (sAsg (mC (.bl false)) (gVar 9)) (sSeq (lwB cl) (sExpr (mM "list" appP (mVar 6) (lCons (mVar 9) lNil))))))) (sRet (mVar 6)))))))
def LTR (R : Rn) (v : Nat → Bool) (S : Sto) (x : D × Sto) : Prop := Gr S x.2 ∧ ∃ l, x.1 = .loc l ∧ S.length ≤ l ∧ x.2[l]? = some (.lst (blL R.N v))
theorem ltail_ok (k : Nat) {R : Rn} (hR : RnOk R) {s : Str} (hs : Sx s) {t0 t1 : Nat → Bool} {lm dm t l0 : Nat} {S : Sto} {ds r : List D} {o6 o7 o8 o9 o10 o11 o12 o13 : Option D} (hm : S[lm]? = some (.lst (R.M.map mkD))) (hd : S[dm]? = some (.dct R.mts))
    (ht : S[t]? = some (.lst (.loc l0 :: r))) (hl0 : S[l0]? = some (.lst (blL R.N t0))) (hl1 : ¬ (s = "not" ∨ s = "next" ∨ s = "over") → ∃ l1, r = [.loc l1] ∧ S[l1]? = some (.lst (blL R.N t1))) :
    Ow (ltB (calls (k + 2)) [some (.tup (.str s :: ds)), some (.tup (R.be.map mkD)), some (.tup (R.ar.map mkD)), some (.loc lm), some (.loc dm), some (.loc t), o6, o7, o8, o9, o10, o11, o12, o13] S) fun x => ∃ d, x.1 = .rt d ∧ LTR R (tailV R s t0 t1) S (d, x.2.2) := by
  have hN := N_le hR
  have e0 : ∀ {S1}, Gr S S1 → lenQ [.loc lm] S1 = some (.int R.N, S1) := fun g => len_M hR (g.get hm)
  have i0 : ∀ {S1}, Gr S S1 → ixQ (.loc t) (.int 0) S1 = some (.loc l0, S1) := fun g => ix_lst (g.get ht) (by omega) rfl
  have b0 : ∀ {S1 i}, Gr S S1 → i < R.N → ixQ (.loc l0) (.int (i : Nat)) S1 = some (.bl (t0 i), S1) := fun g hi => ix_bl (g.get hl0) hi
  unfold ltB
  rw [ow_seq]
  simp [-ow_seq, eq_sx hs (sx_lit (x := "not"))]
  split
  · rename_i h1
    subst h1
    rw [ow_lc]
    simp [e0 .refl]
    refine ⟨by omega, ?_⟩
    refine (lcRG (fun i => .bl (!t0 i)) (by omega) fun i hi => ⟨_, rfl, fun S1 g => ?_⟩).imp ?_
    · simp [wipeD, i0 g, b0 g hi, Gr.refl]
    · rintro ⟨ds, S1⟩ ⟨rfl, g⟩
      exact ⟨g.snoc, _, rfl, g.len, get_snoc⟩
  · rename_i h1
    rw [ow_seq]
    simp [-ow_seq, eq_sx hs (sx_lit (x := "and"))]
    split
    · rename_i h2
      subst h2
      obtain ⟨l1, rfl, hk1⟩ := hl1 (by decide)
      have i1 : ∀ {S1}, Gr S S1 → ixQ (.loc t) (.int 1) S1 = some (.loc l1, S1) := fun g => ix_lst (g.get ht) (by omega) rfl
      have b1 : ∀ {S1 i}, Gr S S1 → i < R.N → ixQ (.loc l1) (.int (i : Nat)) S1 = some (.bl (t1 i), S1) := fun g hi => ix_bl (g.get hk1) hi
      rw [ow_lc]
      simp [e0 .refl]
      refine ⟨by omega, ?_⟩
      refine (lcRG (fun i => .bl (t0 i && t1 i)) (by omega) fun i hi => ⟨_, rfl, fun S1 g => ?_⟩).imp ?_
      · simp [wipeD, i0 g, b0 g hi, i1 g, b1 g hi]
        cases t0 i <;> simp [Gr.refl]
      · rintro ⟨ds, S1⟩ ⟨rfl, g⟩
        exact ⟨g.snoc, _, rfl, g.len, get_snoc⟩
    · rename_i h2
      rw [ow_seq]
      simp [-ow_seq, eq_sx hs (sx_lit (x := "or"))]
      split
      · rename_i h3
        subst h3
        obtain ⟨l1, rfl, hk1⟩ := hl1 (by decide)
        have i1 : ∀ {S1}, Gr S S1 → ixQ (.loc t) (.int 1) S1 = some (.loc l1, S1) := fun g => ix_lst (g.get ht) (by omega) rfl
        have b1 : ∀ {S1 i}, Gr S S1 → i < R.N → ixQ (.loc l1) (.int (i : Nat)) S1 = some (.bl (t1 i), S1) := fun g hi => ix_bl (g.get hk1) hi
        rw [ow_lc]
        simp [e0 .refl]
        refine ⟨by omega, ?_⟩
        refine (lcRG (fun i => .bl (t0 i || t1 i)) (by omega) fun i hi => ⟨_, rfl, fun S1 g => ?_⟩).imp ?_
        · simp [wipeD, i0 g, b0 g hi, i1 g, b1 g hi]
          cases t0 i <;> simp [Gr.refl]
        · rintro ⟨ds, S1⟩ ⟨rfl, g⟩
          exact ⟨g.snoc, _, rfl, g.len, get_snoc⟩
      · rename_i h3
        have hv : tailV R s t0 t1 = walkV R s t0 t1 := by
          funext i
          unfold tailV
          rw [if_neg h1, if_neg h2, if_neg h3]
        rw [hv]
        have hw : WSt R s t0 t1 lm dm t S := ⟨hm, hd, l0, r, ht, hl0, fun z => hl1 fun y => y.elim h1 z⟩
        rw [ow_seq]
        simp [-ow_seq, lst_ok]
        rw [ow_seq, ow_for]
        simp [-ow_seq, e0 .app]
        refine ⟨by omega, ?_⟩
        refine (forR_inv (n := R.N) (fun j env S1 => Gr S S1 ∧ S1[S.length]? = some (.lst ((List.range j).map fun i => .bl (walkV R s t0 t1 i))) ∧ ∃ o7 o8 o9 o10 o11, env = [some (.tup (.str s :: ds)), some (.tup (R.be.map mkD)), some (.tup (R.ar.map mkD)), some (.loc lm), some (.loc dm), some (.loc t), some (.loc S.length), o7, o8, o9, o10, o11, o12, o13])
          (fun x => x.1 = .nx ∧ Gr S x.2.2 ∧ x.2.2[S.length]? = some (.lst (blL R.N (walkV R s t0 t1))) ∧ x.2.1[6]? = some (some (.loc S.length)))
          (fun env S1 ⟨g, h4, _, _, _, _, _, e⟩ => ⟨rfl, g, h4, by rw [e]; rfl⟩) (fun j env S1 hj ⟨g, h4, p7, p8, p9, p10, p11, e⟩ => ?step) ⟨.app, get_snoc, _, _, _, _, _, rfl⟩).imp ?imp
        case imp =>
          rintro ⟨fl, env, S1⟩ ⟨rfl, g, h4, e⟩
          simp [e]
          exact ⟨g, _, rfl, Nat.le_refl _, h4⟩
        case step =>
          subst e
          simp only [ow_gVar]
          rw [ow_seq]
          simp [-ow_seq]
          rw [ow_seq]
          simp [-ow_seq]
          rw [ow_seq]
          refine (lwalk_ok (ds := ds) k hR hs (f := S.length) (o10 := p10) (o11 := p11) (o12 := o12) (o13 := o13) hj (hw.gr g)).imp ?_
          rintro ⟨fl, env, S2⟩ ⟨rfl, g2, a, q10, q11, rfl⟩
          have h5 := g2.get h4
          simp [envW, ty_lst h5, app_lst h5 (by simp; omega)]
          refine ⟨(g.trans g2).set (Nat.le_refl _), ?_⟩
          rw [get_set h5, List.range_succ]
          simp
noncomputable def ltH (cl : Nat → FM) : SM := (sSeq (sAsg (m2 addP (mL listQ (lCons (mVar 1) lNil)) (mL listQ (lCons (mVar 2) lNil))) (gVar 3)) (sSeq (sAsg (mL (cl 19) (lCons (mVar 1) (lCons (mVar 2) lNil))) (gVar 4)) (sSeq (sIf (bV (m2 eqP (m2 ixQ (mVar 0) (mC (.int 0))) (mC (.str "yes")))) (sRet (mLc (iSeq (mVar 3)) [12] (.nm 12) bYes (mC (.bl true)))) sNext) (sSeq (sIf (bV (m2 eqP (m2 ixQ (mVar 0) (mC (.int 0))) (mC (.str "at")))) (sRet (mLc (iSeq (mVar 3)) [12] (.nm 12) bYes (mAnd (m2 eqP (m2 ixQ (mVar 12) (mC (.int 0))) (m2 ixQ (mVar 0) (mC (.int 1)))) (m2 inQ (m2 ixQ (mVar 0) (mC (.int 2))) (mL lstP (lCons (mC (.str "")) (lCons (m2 ixQ (mVar 12) (mC (.int 1))) lNil))))))) sNext) (sSeq (sAsg (mLc (iSeq (mSl slP (mVar 0) (oSome (mC (.int 1))) oNone)) [13] (.nm 13) bYes (mL (cl 22) (lCons (mVar 13) (lCons (mVar 1) (lCons (mVar 2) lNil))))) (gVar 5)) (ltB cl))))))
noncomputable def atF (a b : Str) : D → D
  | .tup [.str x, .str y] => .bl (atB (.str a) (.str b) (x, y))
  | _ => .non
theorem ltruths_ok {R : Rn} (hR : RnOk R) : ∀ (n k : Nat) (d : D) (S : Sto), Pm n d → n ≤ 8 → Ow (calls (k + n + 2) 22 [d, .tup (R.be.map mkD), .tup (R.ar.map mkD)] S) (LTR R (tr R d) S)
  | 0, k, d, S, h, _ => by cases h
  | n + 1, k, d, S, h, hn => by
    obtain ⟨x3, e3⟩ := c22 (k + n + 2)
    rw [show k + (n + 1) + 2 = k + n + 2 + 1 by omega, e3, ow_runB]
    have eb : bd22 (calls (k + n + 2)) x3 = ltH (calls (k + n + 2)) := rfl
    rw [eb]
    have hN := N_le hR
    have hlb := hR.lb
    have hla := hR.la
    have ih : ∀ (d : D), Pm n d → ∀ S, Ow (calls (k + n + 2) 22 [d, .tup (R.be.map mkD), .tup (R.ar.map mkD)] S) (LTR R (tr R d) S) := fun d h S => ltruths_ok hR n k d S h (by omega)
    unfold ltH
    rw [ow_seq]
    have e1 : ∀ S, listQ [.tup (R.be.map mkD)] S = some (.loc S.length, S ++ [.lst (R.be.map mkD)]) := fun S => list_seq rfl
    have e2 : ∀ S, listQ [.tup (R.ar.map mkD)] S = some (.loc S.length, S ++ [.lst (R.ar.map mkD)]) := fun S => list_seq rfl
    have e4 := add_lst (m := S.length) (n := S.length + 1) (S := S ++ [.lst (R.be.map mkD), .lst (R.ar.map mkD)]) (xs := R.be.map mkD) (ys := R.ar.map mkD) (by simp) (by simp) (by simp; omega)
    simp at e4
    simp [-ow_seq, e1, e2, e4]
    have g0 : Gr S (S ++ [.lst (R.be.map mkD), .lst (R.ar.map mkD), .lst (R.be.map mkD ++ R.ar.map mkD)]) := .app
    have hm0 : (S ++ [.lst (R.be.map mkD), .lst (R.ar.map mkD), .lst (R.be.map mkD ++ R.ar.map mkD)])[S.length + 2]? = some (.lst (R.M.map mkD)) := by simp [Rn.M]
    generalize (S ++ [.lst (R.be.map mkD), .lst (R.ar.map mkD), .lst (R.be.map mkD ++ R.ar.map mkD)]) = S1 at g0 hm0 ⊢
    rw [ow_seq]
    simp [-ow_seq]
    refine (lmatches_ok (k + n + 1) hR (S := S1)).imp ?_
    rintro ⟨r, S2⟩ ⟨g1, dm, rfl, _, hd⟩
    have hm := g1.get hm0
    have g := g0.trans g1
    dsimp only at hd hm g ⊢
    have glen := g.len
    rw [ow_seq]
    have hlm : (R.M.map mkD).length ≤ 1000000 := by
      have : R.M.length ≤ 14 := hN
      simp
      omega
    cases h with
    | yes =>
      simp [-ow_seq, eq_sx (sx_lit (x := "yes")) (sx_lit (x := "yes"))]
      rw [ow_lc]
      simp [seq_loc hm]
      refine (lcG (seq_loc hm) hlm (fun _ => true) (fun _ => .bl true) fun x hx => ⟨_, rfl, fun S1 _ => ?_⟩).imp ?_
      · simp [bYes, Gr.refl]
      · rintro ⟨ds, S3⟩ ⟨rfl, g3⟩
        refine ⟨(g.trans g3).snoc, _, rfl, (g.trans g3).len, ?_⟩
        rw [get_snoc, List.filter_eq_self.mpr fun _ _ => rfl, List.map_map, map_M, tr_yes]
        rfl
    | @at_ _ a b ha hb =>
      have h1 : ¬ ((Str.ofString "at") = (Str.ofString "yes")) := by decide
      simp [-ow_seq, eq_sx (sx_lit (x := "at")) (sx_lit (x := "yes")), h1]
      rw [ow_seq]
      simp [-ow_seq, eq_sx (sx_lit (x := "at")) (sx_lit (x := "at"))]
      rw [ow_lc]
      simp [seq_loc hm]
      refine (lcG (seq_loc hm) hlm (fun _ => true) (atF a b) fun x hx => ⟨_, rfl, fun S1 _ => ?_⟩).imp ?_
      · obtain ⟨m, hmM, rfl⟩ := List.mem_map.mp hx
        have hsx := hR.ms m hmM
        have q0 : ∀ S, ixQ (mkD m) (.int 0) S = some (.str m.1, S) := fun S => ix_0
        have q1 : ∀ S, ixQ (mkD m) (.int 1) S = some (.str m.2, S) := fun S => ix_1'
        simp [bYes, wipeD, q0, q1, eq_sx hsx.1 ha, Gr.refl]
        split
        · rename_i h2
          simp [lst_ok, in2 hb (sx_lit (x := "")) hsx.2, atF, mkD, atB, h2]
          exact .app
        · rename_i h2
          simp [atF, mkD, atB, h2, Gr.refl]
      · rintro ⟨ds, S3⟩ ⟨rfl, g3⟩
        refine ⟨(g.trans g3).snoc, _, rfl, (g.trans g3).len, ?_⟩
        rw [get_snoc, List.filter_eq_self.mpr fun _ _ => rfl, List.map_map, map_M, tr_at]
        rfl
    | @one _ s d hs hp =>
      have hsx : Sx s := by rcases hs with rfl | rfl | rfl <;> exact sx_lit
      have h1 : ¬ (s = "yes") := by rcases hs with rfl | rfl | rfl <;> decide
      have h2 : ¬ (s = "at") := by rcases hs with rfl | rfl | rfl <;> decide
      simp [-ow_seq, eq_sx hsx (sx_lit (x := "yes")), h1]
      rw [ow_seq]
      simp [-ow_seq, eq_sx hsx (sx_lit (x := "at")), h2]
      rw [ow_seq, ow_asg, ow_lc]
      simp [-ow_seq, cut_tail]
      refine ⟨rfl, ?_⟩
      refine (lcC (c := none) (ds := [d]) (fun x => blL R.N (tr R x)) (fun _ => True) (fun _ _ => rfl) (by simp) trivial fun x hx => ⟨_, rfl, fun S3 g3 _ => ?_⟩).imp ?_
      · simp at hx
        subst hx
        simp [wipeD]
        refine (ih x hp S3).imp ?_
        rintro ⟨r, S4⟩ ⟨g4, l, rfl, ll, h4⟩
        exact ⟨Gr.fr g4, l, rfl, h4⟩
      · rintro ⟨r, S3⟩ ⟨g3, _, ls, rfl, hl, h3⟩
        obtain ⟨l0, rfl⟩ := List.length_eq_one_iff.mp hl
        have g3 := g3.gr
        have hl0 := (h3 0 l0 d rfl rfl).2
        dsimp only at g3 hl0 ⊢
        refine (ltail_ok (k + n) hR (s := s) hsx (ds := [d]) (t0 := tr R d) (t1 := tr R d) (l0 := l0) (r := []) (g3.snoc.get hm) (g3.snoc.get hd) get_snoc (get_app hl0) (fun z => absurd hs z)).imp ?_
        rintro ⟨fl, env, S4⟩ ⟨r, rfl, g4, l, rfl, ll, h4⟩
        dsimp only at g4 h4 ⊢
        have := (g.trans g3).snoc (o := .lst (([l0] : List Nat).map fun (l : Nat) => D.loc l))
        refine ⟨this.trans g4, l, rfl, Nat.le_trans this.len ll, ?_⟩
        rw [h4, tr_one hp (by omega), tail_one hs]
    | @two _ s d e hs hp hq =>
      have hsx : Sx s := by rcases hs with rfl | rfl | rfl | rfl <;> exact sx_lit
      have h1 : ¬ (s = "yes") := by rcases hs with rfl | rfl | rfl | rfl <;> decide
      have h2 : ¬ (s = "at") := by rcases hs with rfl | rfl | rfl | rfl <;> decide
      simp [-ow_seq, eq_sx hsx (sx_lit (x := "yes")), h1]
      rw [ow_seq]
      simp [-ow_seq, eq_sx hsx (sx_lit (x := "at")), h2]
      rw [ow_seq, ow_asg, ow_lc]
      simp [-ow_seq, cut_tail]
      refine ⟨rfl, ?_⟩
      refine (lcC (c := none) (ds := [d, e]) (fun x => blL R.N (tr R x)) (fun _ => True) (fun _ _ => rfl) (by simp) trivial fun x hx => ⟨_, rfl, fun S3 g3 _ => ?_⟩).imp ?_
      · have hx : Pm n x := by
          simp at hx
          rcases hx with rfl | rfl
          · exact hp
          · exact hq
        simp [wipeD]
        refine (ih x hx S3).imp ?_
        rintro ⟨r, S4⟩ ⟨g4, l, rfl, ll, h4⟩
        exact ⟨Gr.fr g4, l, rfl, h4⟩
      · rintro ⟨r, S3⟩ ⟨g3, _, ls, rfl, hl, h3⟩
        obtain ⟨l0, l1, rfl⟩ : ∃ l0 l1, ls = [l0, l1] := by
          match ls, hl with
          | [a, b], _ => exact ⟨a, b, rfl⟩
        have g3 := g3.gr
        have hl0 := (h3 0 l0 d rfl rfl).2
        have hl1 := (h3 1 l1 e rfl rfl).2
        dsimp only at g3 hl0 hl1 ⊢
        refine (ltail_ok (k + n) hR (s := s) hsx (ds := [d, e]) (t0 := tr R d) (t1 := tr R e) (l0 := l0) (r := [.loc l1]) (g3.snoc.get hm) (g3.snoc.get hd) get_snoc (get_app hl0) (fun _ => ⟨l1, rfl, get_app hl1⟩)).imp ?_
        rintro ⟨fl, env, S4⟩ ⟨r, rfl, g4, l, rfl, ll, h4⟩
        dsimp only at g4 h4 ⊢
        have := (g.trans g3).snoc (o := .lst (([l0, l1] : List Nat).map fun (l : Nat) => D.loc l))
        refine ⟨this.trans g4, l, rfl, Nat.le_trans this.len ll, ?_⟩
        rw [h4, tr_two hp hq (by omega) h2, tail_two hs]
end k12
end DL
namespace DL
namespace k12
open PySem
/-! ### the program's runs -/
def fldR (R : Rn) (a b c : Nat) : List (Str × D) := [("marks", .loc a), ("_back", .int R.B), ("_matches", .loc b), ("_known", .loc c)]
noncomputable def inB : SM := (sFor (iEnmM (mFld [0] "marks" (mVar 0))) (gTupD 2 (gsCons (gVar 4) (gsCons (gVar 5) gsNil))) (sSeq (sIf (bV (m2 eqP (mVar 4) (mFld [0] "_back" (mVar 0)))) (sAsg (mL lstP lNil) (gVar 3)) sNext) (sSeq (sIf (bV (m2 eqP (m2 ixQ (mVar 5) (mC (.int 0))) (mC (.str "call")))) (sExpr (mM "list" appP (mVar 3) (lCons (mVar 4) lNil))) sNext) (sIf (bAnd (bV (m2 eqP (m2 ixQ (mVar 5) (mC (.int 0))) (mC (.str "back")))) (bTru (mVar 3))) (sAsg (mVar 4) (gSubM (mFld [0] "_matches" (mVar 0)) (mM0 "list" popP (mVar 3)))) sNext))))
structure InI (R : Rn) (S : Sto) (o a b : Nat) (fs : List (Str × D)) (st : Op) (w : Nat) (S2 : Sto) : Prop where
  g : Gr S S2
  i : S2[o]? = some (.ins 0 fs)
  m : S2[a]? = some (.lst (R.M.map mkD))
  d : S2[b]? = some (.dct st.2)
  l : S2[w]? = some (.lst (st.1.map fun (i : Nat) => D.int i))
  hw : S.length ≤ w
  wa : w ≠ a
theorem in_step {R : Rn} (hR : RnOk R) {S S2 : Sto} {o a b w : Nat} {fs : List (Str × D)} {st : Op} {j : Nat} {e1 e2 : Option D} (ho : S.length ≤ o) (hb : S.length ≤ b) (hoa : o ≠ a) (hob : o ≠ b) (hab : a ≠ b) (fm : fs.lookup ("_matches" : Str) = some (.loc b)) (h : InI R S o a b fs st w S2) (hl : st.2.length ≤ 1000 ∧ st.1.length ≤ 1000) :
    Ow (sSeq (sIf (bV (m2 eqP (m2 ixQ (mVar 5) (mC (.int 0))) (mC (.str "call")))) (sExpr (mM "list" appP (mVar 3) (lCons (mVar 4) lNil))) sNext) (sIf (bAnd (bV (m2 eqP (m2 ixQ (mVar 5) (mC (.int 0))) (mC (.str "back")))) (bTru (mVar 3))) (sAsg (mVar 4) (gSubM (mFld [0] "_matches" (mVar 0)) (mM0 "list" popP (mVar 3)))) sNext) [some (.loc o), e1, e2, some (.loc w), some (.int j), some (mkD (R.mk1 j))] S2)
      fun x => x.1 = .nx ∧ x.2.1 = [some (.loc o), e1, e2, some (.loc w), some (.int j), some (mkD (R.mk1 j))] ∧ InI R S o a b fs (mS st j (R.mk1 j)) w x.2.2 := by
  have sx := (mk_sx hR j).1
  have hm0 : ∀ (m : Mk) S, ixQ (mkD m) (.int 0) S = some (.str m.1, S) := fun m S => ix_0
  generalize R.mk1 j = m at sx ⊢
  have wo : w ≠ o := fun z => by have := h.i; rw [← z, h.l] at this; cases this
  have wb : w ≠ b := fun z => by have := h.d; rw [← z, h.l] at this; cases this
  rw [ow_seq]
  simp [-ow_seq, hm0, eq_sx sx (sx_lit (x := "call"))]
  by_cases hc : m.1 = "call"
  · have hb : ¬ ((Str.ofString "call") = (Str.ofString "back")) := by decide
    simp [hc, ty_lst h.l, app_lst h.l (by simp; omega), hm0, eq_sx (sx_lit (x := "call")) (sx_lit (x := "back")), hb]
    have e : mS st j m = (st.1 ++ [j], st.2) := by unfold mS; rw [if_pos hc]
    rw [e]
    refine ⟨h.g.set h.hw, ?_, ?_, ?_, ?_, h.hw, h.wa⟩
    · rw [get_set_ne wo, h.i]
    · rw [get_set_ne h.wa, h.m]
    · rw [get_set_ne wb, h.d]
    · rw [get_set h.l]
      simp
  · simp [hc, hm0, eq_sx sx (sx_lit (x := "back"))]
    split
    · rename_i hbk
      rcases List.eq_nil_or_concat st.1 with e1 | ⟨w', x, e1⟩
      · have hl := h.l
        rw [e1] at hl
        have e : mS st j m = st := by unfold mS; rw [if_neg hc, if_neg (fun z => z.2 e1)]
        rw [e]
        have ht : truD S2 (.loc w) = some false := by simp [truD, hl]
        simp [ht]
        exact h
      · rw [List.concat_eq_append] at e1
        have e : mS st j m = (w', dput st.2 (.int x) (.int j)) := by
          unfold mS
          rw [if_neg hc, if_pos ⟨hbk, by rw [e1]; simp⟩, e1]
          simp
        rw [e]
        have h3 : S2[w]? = some (.lst ((w'.map fun (i : Nat) => D.int i) ++ [.int x])) := by rw [h.l, e1]; simp
        have h1' : (S2.set w (.lst (w'.map fun (i : Nat) => D.int i)))[b]? = some (.dct st.2) := by rw [get_set_ne wb, h.d]
        have ht : truD S2 (.loc w) = some true := by simp [truD, h3]
        have hf : fldP [0] "_matches" (.loc o) S2 = some (.loc b, S2) := fld_at h.i (by simp) fm
        simp [ht, hf, ty_lst h3, pop_lst h3]
        rw [set_dct h1' okI (by omega)]
        simp
        refine ⟨(h.g.set h.hw).set hb, ?_, ?_, ?_, ?_, h.hw, h.wa⟩
        · rw [get_set_ne (Ne.symm hob), get_set_ne wo, h.i]
        · rw [get_set_ne (Ne.symm hab), get_set_ne h.wa, h.m]
        · rw [get_set h1']
        · rw [get_set_ne (Ne.symm wb), get_set h3]
    · rename_i hbk
      have e : mS st j m = st := by unfold mS; rw [if_neg hc, if_neg (fun z => hbk z.1)]
      rw [e]
      exact h
def InitR (R : Rn) (S : Sto) (x : D × Sto) : Prop := x.1 = .non ∧ Gr S x.2 ∧ ∃ a b c, S.length < a ∧ S.length < b ∧ S.length < c ∧ a ≠ c ∧ b ≠ c ∧ x.2[S.length]? = some (.ins 0 (fldR R a b c)) ∧ x.2[a]? = some (.lst (R.M.map mkD)) ∧ x.2[b]? = some (.dct R.mts) ∧ x.2[c]? = some (.dct [])
theorem init_all (k : Nat) {R : Rn} (hR : RnOk R) {S : Sto} : Ow (calls (k + 1) 6 [.loc S.length, .tup (R.be.map mkD), .tup (R.ar.map mkD)] (S ++ [.ins 0 []])) (InitR R S) := by
  obtain ⟨x3, e3⟩ := c6 k
  rw [e3, ow_runB]
  have eb : bd6 (calls k) x3 = (sSeq (sFldD [0] "marks" (m2 addP (mL listQ (lCons (mVar 1) lNil)) (mL listQ (lCons (mVar 2) lNil))) (mVar 0)) (sSeq (sFldD [0] "_back" (mL lenQ (lCons (mVar 1) lNil)) (mVar 0)) (sSeq (sFldD [0] "_matches" mDNew (mVar 0)) (sSeq (sAsg (mL lstP lNil) (gVar 3)) (sSeq inB (sFldD [0] "_known" mDNew (mVar 0))))))) := rfl
  rw [eb, ow_seq]
  have hlb := hR.lb
  have hla := hR.la
  have e1 : ∀ S, listQ [.tup (R.be.map mkD)] S = some (.loc S.length, S ++ [.lst (R.be.map mkD)]) := fun S => list_seq rfl
  have e2 : ∀ S, listQ [.tup (R.ar.map mkD)] S = some (.loc S.length, S ++ [.lst (R.ar.map mkD)]) := fun S => list_seq rfl
  have e4 := add_lst (m := S.length + 1) (n := S.length + 2) (S := S ++ [.ins 0 [], .lst (R.be.map mkD), .lst (R.ar.map mkD)]) (xs := R.be.map mkD) (ys := R.ar.map mkD) (by simp) (by simp) (by simp; omega)
  simp at e4
  have n1 : ¬ ((Str.ofString "_back") = (Str.ofString "marks")) := by decide
  have n2 : ¬ ((Str.ofString "_matches") = (Str.ofString "marks")) := by decide
  have m1 : ¬ ((Str.ofString "marks") = (Str.ofString "_back")) := by decide
  have m2 : ¬ ((Str.ofString "marks") = (Str.ofString "_matches")) := by decide
  have m3 : ¬ ((Str.ofString "_back") = (Str.ofString "_matches")) := by decide
  have n3 : ¬ ((Str.ofString "_matches") = (Str.ofString "_back")) := by decide
  simp [-ow_seq, e1, e2, e4, stF, putD, List.set_append]
  rw [ow_seq]
  simp [-ow_seq, stF, putD, List.set_append, n1, m1]
  rw [ow_seq]
  simp [-ow_seq, stF, putD, List.set_append, n1, n2, n3, m1, m2, m3]
  rw [ow_seq]
  simp [-ow_seq, lst_ok]
  rw [ow_seq]
  generalize hS3 : S ++ [Ob.ins 0 [(("marks" : Str), D.loc (S.length + 3)), (("_back" : Str), D.int R.be.length), (("_matches" : Str), .loc (S.length + 4))], .lst (R.be.map mkD), .lst (R.ar.map mkD), .lst (R.be.map mkD ++ R.ar.map mkD), .dct [], .lst []] = S3
  have fm : List.lookup ("_matches" : Str) [(("marks" : Str), D.loc (S.length + 3)), (("_back" : Str), D.int R.be.length), (("_matches" : Str), .loc (S.length + 4))] = some (.loc (S.length + 4)) := rfl
  have fb : List.lookup ("_back" : Str) [(("marks" : Str), D.loc (S.length + 3)), (("_back" : Str), D.int R.be.length), (("_matches" : Str), .loc (S.length + 4))] = some (.int R.B) := rfl
  have fk : List.lookup ("marks" : Str) [(("marks" : Str), D.loc (S.length + 3)), (("_back" : Str), D.int R.be.length), (("_matches" : Str), .loc (S.length + 4))] = some (.loc (S.length + 3)) := rfl
  have hfin : putD ("_known" : Str) = putD ("_known" : Str) := rfl
  have I0 : InI R S S.length (S.length + 3) (S.length + 4) [(("marks" : Str), D.loc (S.length + 3)), (("_back" : Str), D.int R.be.length), (("_matches" : Str), .loc (S.length + 4))] ([], []) (S.length + 5) S3 := by
    refine ⟨⟨_, hS3.symm⟩, ?_, ?_, ?_, ?_, by omega, by omega⟩
    · rw [← hS3]; simp
    · rw [← hS3, List.getElem?_append_right (by omega), show S.length + 3 - S.length = 3 by omega]; simp [Rn.M]
    · rw [← hS3, List.getElem?_append_right (by omega), show S.length + 4 - S.length = 4 by omega]; rfl
    · rw [← hS3, List.getElem?_append_right (by omega), show S.length + 5 - S.length = 5 by omega]; rfl
  have hN := N_le hR
  generalize hfs : [(("marks" : Str), D.loc (S.length + 3)), (("_back" : Str), D.int R.be.length), (("_matches" : Str), .loc (S.length + 4))] = fs at fm fb fk I0
  unfold inB
  have hf : fldP [0] "marks" (.loc S.length) S3 = some (.loc (S.length + 3), S3) := fld_at I0.i (by simp) fk
  rw [ow_for, ow_iEnm]
  simp [-ow_seq, hf, seq_loc I0.m]
  refine (forL_inv ((List.range R.N).map fun (i : Nat) => D.tup [.int i, mkD (R.mk1 i)]) (fun j env S2 => ∃ w o4 o5, env = [some (.loc S.length), some (.tup (R.be.map mkD)), some (.tup (R.ar.map mkD)), some (.loc w), o4, o5] ∧ InI R S S.length (S.length + 3) (S.length + 4) fs (R.pP j) w S2)
    (fun x => x.1 = .nx ∧ x.2.1[0]? = some (some (.loc S.length)) ∧ ∃ w st, st.2 = R.mts ∧ InI R S S.length (S.length + 3) (S.length + 4) fs st w x.2.2)
    (fun j env S2 ⟨w, o4, o5, e, I⟩ => ?hit) (fun env S2 ⟨w, o4, o5, e, I⟩ => ?fin) (fun j d env S2 hj ⟨w, o4, o5, e, I⟩ => ?step) R.N 0 _ _ (by simp) (by simp) ⟨_, _, _, rfl, I0⟩).imp ?imp
  case hit =>
    simp only [itAt, seq_loc I.m, map_M]
    by_cases hj : j < R.N
    · simp [hj]
    · simp [hj]
  case fin =>
    subst e
    simp at I
    exact ⟨rfl, rfl, w, _, pP_all hR.a1, I⟩
  case imp =>
    rintro ⟨fl, env, S2⟩ ⟨rfl, e, w, st, hst, I⟩
    dsimp only at I e
    have hln := (List.getElem?_eq_some_iff.mp I.d).1
    simp [e, stF, get_app I.i]
    have hl3 : fs.length < 1000 := by rw [← hfs]; simp
    have hp : putD ("_known" : Str) (D.loc S2.length) fs = fldR R (S.length + 3) (S.length + 4) S2.length := by rw [← hfs]; rfl
    rw [if_pos hl3, hp]
    simp
    have i1 := get_app (U := [Ob.dct []]) I.i
    refine ⟨rfl, I.g.snoc.set (Nat.le_refl _), S.length + 3, S.length + 4, S2.length, by omega, by omega, by omega, by omega, by omega, get_set i1, ?_, ?_, ?_⟩
    · dsimp only
      rw [get_set_ne (by omega)]
      exact get_app I.m
    · dsimp only
      rw [get_set_ne (by omega), get_app I.d, hst]
    · dsimp only
      rw [get_set_ne (by omega)]
      exact get_snoc
  case step =>
    have hjn : j < R.N := by
      have := (List.getElem?_eq_some_iff.mp hj).1
      simpa using this
    simp [hjn] at hj
    subst hj e
    simp [-ow_seq]
    rw [ow_seq]
    have hfb : fldP [0] "_back" (.loc S.length) S2 = some (.int R.B, S2) := fld_at I.i (by simp) fb
    refine (show Ow (sIf (bV (DL.m2 eqP (mVar 4) (mFld [0] (Str.ofString "_back") (mVar 0)))) (sAsg (mL lstP lNil) (gVar 3)) sNext [some (D.loc (List.length S)), some (D.tup (List.map mkD R.be)), some (D.tup (List.map mkD R.ar)), some (D.loc w), some (D.int j), some (mkD (R.mk1 j))] S2) (fun x => x.1 = .nx ∧ ∃ w', x.2.1 = [some (D.loc (List.length S)), some (D.tup (List.map mkD R.be)), some (D.tup (List.map mkD R.ar)), some (D.loc w'), some (D.int j), some (mkD (R.mk1 j))] ∧ InI R S S.length (S.length + 3) (S.length + 4) fs (if j = R.B then ([], (R.pP j).2) else R.pP j) w' x.2.2) from ?_).imp ?_
    · simp [hfb]
      split
      · rename_i hjB
        have hjB : j = R.B := by omega
        rw [if_pos hjB]
        have hln := (List.getElem?_eq_some_iff.mp I.d).1
        simp [lst_ok]
        exact ⟨I.g.snoc, get_app I.i, get_app I.m, get_app I.d, get_snoc, by omega, by omega⟩
      · rename_i hjB
        rw [if_neg (show ¬ j = R.B by omega)]
        exact I
    · rintro ⟨fl, env, S4⟩ ⟨rfl, w', rfl, I2⟩
      dsimp only at I2 ⊢
      have hlp := pP_len (R := R) j
      refine (in_step hR (Nat.le_refl _) (by omega) (by omega) (by omega) (by omega) fm I2 ?_).imp ?_
      · split
        · simp; omega
        · omega
      · rintro ⟨fl, env, S5⟩ ⟨rfl, rfl, I3⟩
        exact ⟨w', ⟨_, _, rfl⟩, I3⟩
end k12
end DL
namespace DL
namespace k12
open PySem
/-! ### the run object's methods -/
structure RR (R : Rn) (o a b c : Nat) (S : Sto) : Prop where
  i : S[o]? = some (.ins 0 (fldR R a b c))
  m : S[a]? = some (.lst (R.M.map mkD))
  d : S[b]? = some (.dct R.mts)
  oc : o ≠ c
  ac : a ≠ c
  bc : b ≠ c
theorem RR.fr {R : Rn} {o a b c : Nat} {S S1 : Sto} (h : RR R o a b c S) (g : Fr (some c) S S1) : RR R o a b c S1 :=
  ⟨g.get h.i (by simpa using h.oc), g.get h.m (by simpa using h.ac), g.get h.d (by simpa using h.bc), h.oc, h.ac, h.bc⟩
theorem RR.gr {R : Rn} {o a b c : Nat} {S S1 : Sto} (h : RR R o a b c S) (g : Gr S S1) : RR R o a b c S1 := h.fr (Gr.fr g)
section
variable {R : Rn} {o a b c : Nat} {S : Sto} (h : RR R o a b c S)
include h
theorem f_marks : fldP [0] "marks" (.loc o) S = some (.loc a, S) := fld_at h.i (by simp) rfl
theorem f_back : fldP [0] "_back" (.loc o) S = some (.int R.B, S) := fld_at h.i (by simp) rfl
theorem f_matches : fldP [0] "_matches" (.loc o) S = some (.loc b, S) := fld_at h.i (by simp) rfl
theorem f_known : fldP [0] "_known" (.loc o) S = some (.loc c, S) := fld_at h.i (by simp) rfl
theorem m_fo : methOf "following" [(0, 7)] (.loc o) S = some (o, 7) := by simp [methOf, h.i]; rfl
theorem m_ac : methOf "across" [(0, 8)] (.loc o) S = some (o, 8) := by simp [methOf, h.i]; rfl
theorem m_tr : methOf "truths" [(0, 9)] (.loc o) S = some (o, 9) := by simp [methOf, h.i]; rfl
theorem m_fi : methOf "_find" [(0, 10)] (.loc o) S = some (o, 10) := by simp [methOf, h.i]; rfl
theorem following_ok (hR : RnOk R) (k : Nat) {i : Nat} : Ow (calls (k + 1) 7 [.loc o, .int i] S) fun r => r = (.int (R.fo i), S) := by
  obtain ⟨x, e⟩ := c7 k
  rw [e, ow_runB]
  unfold bd7
  simp [f_marks h, f_back h, len_M hR h.m]
  unfold Rn.fo
  split
  · rename_i h1
    rw [if_pos (by omega)]
    simp
  · rename_i h1
    rw [if_neg (by omega)]
theorem across_ok (hR : RnOk R) (k : Nat) {i : Nat} (hi : i < R.N) : Ow (calls (k + 2) 8 [.loc o, .int i] S) fun r => r = (oD (R.ac i), S) := by
  obtain ⟨x, e⟩ := c8 (k + 1)
  rw [e, ow_runB]
  unfold bd8
  rw [ow_seq]
  have hm : ∀ m : Mk, ixQ (mkD m) (.int 0) S = some (.str m.1, S) := fun m => ix_0
  simp [-ow_seq, f_marks h, ix_M hR h.m hi, hm, eq_sx (mk_sx hR i).1 (sx_lit (x := "call"))]
  unfold Rn.ac
  split
  · simp [f_matches h]
    rw [get_dct h.d okI, oD_get hR]
    simp [is_dct h.d]
  · rw [ow_seq]
    simp [-ow_seq, m_fo h]
    refine (following_ok h hR k).imp ?_
    rintro ⟨d, S1⟩ e
    cases e
    simp [f_marks h, ix_M hR h.m (fo_lt hR.a1), hm, eq_sx (mk_sx hR (R.fo i)).1 (sx_lit (x := "back"))]
    split
    · rfl
    · rfl
end
theorem is_at_ok (k : Nat) {a b : Str} {m : Mk} (ha : Sx a) (hb : Sx b) (hm : MkOk m) {S : Sto} : Ow (calls (k + 1) 5 [.tup [.str "at", .str a, .str b], mkD m] S) fun r => r = (.bl (atB (.str a) (.str b) m), S) := by
  obtain ⟨x, e⟩ := c5 k
  rw [e, ow_runB]
  unfold bd5
  rw [ow_seq]
  have q0 : ∀ S, ixQ (mkD m) (.int 0) S = some (.str m.1, S) := fun S => ix_0
  have q1 : ∀ S, ixQ (mkD m) (.int 1) S = some (.str m.2, S) := fun S => ix_1'
  have hi : inQ (.str b) (.tup [.str "", .str m.2]) S = some (.bl (decide (D.str b ∈ [D.str "", .str m.2])), S) := in_ths (n := 0) (m := 0) hb.th rfl (by simp; exact ⟨lit_th, hm.2.th⟩) (by decide) (by decide)
  simp [q0, q1, eq_sx hm.1 ha, tup_ok, hi, atB]
  split <;> simp_all
/-! ### until -/
def iB (b : Bool) : D := .int (if b then 1 else 0)
def iL (N : Nat) (t : Nat → Bool) : List D := (List.range N).map fun i => iB (t i)
theorem il_at {N i : Nat} {t : Nat → Bool} (hi : i < N) : (iL N t)[i]? = some (iB (t i)) := by simp [iL, hi]
theorem ix_il {N i l : Nat} {t : Nat → Bool} {S : Sto} (h : S[l]? = some (.lst (iL N t))) (hi : i < N) : ixQ (.loc l) (.int i) S = some (iB (t i), S) := ix_lst h (by omega) (by simpa using il_at hi)
theorem eq_i1 {b : Bool} {S : Sto} : eqP (iB b) (.int 1) S = some (.bl b, S) := by cases b <;> simp [iB]
theorem eq_i0 {b : Bool} {S : Sto} : eqP (iB b) (.int 0) S = some (.bl (!b), S) := by cases b <;> simp [iB]
theorem ix_ts {l i : Nat} {ts : List Bool} {b : Bool} {S : Sto} (h : S[l]? = some (.lst (ts.map iB))) (hi : ts[i]? = some b) : ixQ (.loc l) (.int i) S = some (iB b, S) := ix_lst h (by omega) (by simp [hi])
theorem set_lst {n i : Nat} {ds : List D} {v : D} {S : Sto} (h : S[n]? = some (.lst ds)) (hi : i < ds.length) : setP (.loc n) (.int i) v S = some (S.set n (.lst (ds.set i v))) := by
  have e : dctD S (.loc n) = none := by simp [dctD, h]
  have e2 : L2.ixN ds.length (i : Int) = some i := by
    unfold L2.ixN
    rw [if_pos (by omega), if_pos (by omega)]
    simp
  simp only [setP, e, h, e2]
def closedAt (f : Nat → Option Nat) (t0 : Nat → Bool) (ts : List Bool) (i : Nat) : Prop := t0 i = true → ∀ j, f i = some j → ts[j]? = some true → ts[i]? = some true
/-- a state of the until loop -/
structure UI (N : Nat) (f : Nat → Option Nat) (t0 t1 : Nat → Bool) (S : Sto) (ts : List Bool) (S2 : Sto) : Prop where
  g : Gr S S2
  l : S2[S.length]? = some (.lst (ts.map iB))
  n : ts.length = N
  s : ∀ i, i < N → t1 i = true → ts[i]? = some true
  j : ∀ i, ts[i]? = some true → ∃ m, W f t0 t1 m i = true
def envU (l1 l2 l3 n : Nat) (c : Bool) (o5 : Option D) : Vars := [some (.loc l1), some (.loc l2), some (.loc l3), some (.loc n), some (.bl c), o5]
noncomputable def passB : SM := (sFor (iRevRgM (mL lenQ (lCons (mVar 3) lNil))) (gVar 5) (sIf (bAnd (bV (m2 eqP (m2 ixQ (mVar 3) (mVar 5)) (mC (.int 0)))) (bAnd (bV (m2 eqP (m2 ixQ (mVar 0) (mVar 5)) (mC (.int 1)))) (bAnd (bV (mNotN (m2 ixQ (mVar 2) (mVar 5)))) (bV (m2 eqP (m2 ixQ (mVar 3) (m2 ixQ (mVar 2) (mVar 5))) (mC (.int 1))))))) (sSeq (sAsg (mC (.int 1)) (gSubM (mVar 3) (mVar 5))) (sAsg (mC (.bl true)) (gVar 4))) sNext))
theorem ow_iRev {m : EM} {env : Vars} {S : Sto} {Q : DIt × Sto → Prop} : Ow (iRevRgM m env S) Q ↔ Ow (m env S) fun y => ∃ n, y.1 = .int n ∧ (0 ≤ n ∧ n ≤ 16777216) ∧ Q (.seq (.tup (rgD n).reverse), y.2) := by
  unfold iRevRgM
  constructor
  · rintro ⟨z, h, q⟩
    split at h
    · rename_i x S1 e
      split at h
      · rename_i hz
        cases h
        exact ⟨_, e, x, rfl, hz, q⟩
      · cases h
    · cases h
  · rintro ⟨⟨d, S1⟩, h, x, e, hz, q⟩
    dsimp only at e
    subst e
    refine ⟨_, ?_, q⟩
    rw [h]
    simp [hz]
def PassP (N : Nat) (f : Nat → Option Nat) (t0 t1 : Nat → Bool) (S : Sto) (l1 l2 l3 : Nat) (ts : List Bool) (x : Fl × Vars × Sto) : Prop := x.1 = .nx ∧ ∃ c o5 ts', x.2.1 = envU l1 l2 l3 S.length c o5 ∧ UI N f t0 t1 S ts' x.2.2 ∧ (c = true → cF ts' < cF ts) ∧ (c = false → ∀ i, i < N → closedAt f t0 ts' i)
def PassI (N : Nat) (f : Nat → Option Nat) (t0 t1 : Nat → Bool) (S : Sto) (l1 l2 l3 : Nat) (ts : List Bool) (q : Nat) (env : Vars) (S3 : Sto) : Prop := ∃ c o5 ts', env = envU l1 l2 l3 S.length c o5 ∧ UI N f t0 t1 S ts' S3 ∧ cF ts' ≤ cF ts ∧ (c = true → cF ts' < cF ts) ∧ (c = false → ∀ i, N ≤ i + q → i < N → closedAt f t0 ts' i)
theorem rg_rev {N q : Nat} {d : D} (h : (rgD (N : Int)).reverse[q]? = some d) : q < N ∧ d = .int ((N - 1 - q : Nat) : Int) := by
  have hl : (rgD (N : Int)).length = N := by simp [rgD]
  have hq : q < N := by
    have := (List.getElem?_eq_some_iff.mp h).1
    rw [List.length_reverse, hl] at this
    exact this
  refine ⟨hq, ?_⟩
  rw [List.getElem?_reverse (by rw [hl]; exact hq), hl] at h
  simp only [rgD, List.getElem?_map] at h
  rw [List.getElem?_range (by omega)] at h
  simp at h
  exact h.symm
theorem pass_ok {N : Nat} {f : Nat → Option Nat} {t0 t1 : Nat → Bool} {S S2 : Sto} {l1 l2 l3 : Nat} {ts : List Bool} {o5 : Option D} (hN : N ≤ 100) (hf : ∀ i j, i < N → f i = some j → j < N) (h1 : S[l1]? = some (.lst (iL N t0))) (h3 : S[l3]? = some (.lst ((List.range N).map fun i => oD (f i)))) (h : UI N f t0 t1 S ts S2) :
    Ow (passB (envU l1 l2 l3 S.length false o5) S2) (PassP N f t0 t1 S l1 l2 l3 ts) := by
  unfold passB
  have hl : (ts.map iB).length = N := by simp [h.n]
  rw [ow_for, ow_iRev]
  simp [-ow_seq, envU, len_lst h.l, h.n]
  refine ⟨by omega, ?_⟩
  have hrl : (rgD (N : Int)).reverse.length = N := by simp [rgD]
  refine (forL_inv (rgD (N : Int)).reverse (PassI N f t0 t1 S l1 l2 l3 ts) (PassP N f t0 t1 S l1 l2 l3 ts)
    (fun q env S3 _ => rfl) (fun env S3 ⟨c, o5, ts', e, hu, h4, h5, h6⟩ => ⟨rfl, c, o5, ts', e, hu, h5, fun z i hi => h6 z i (by rw [hrl]; omega) hi⟩)
    (fun q d env S3 hq ⟨c, o5, ts', e, hu, h4, h5, h6⟩ => ?step) N 0 _ _ (by rw [hrl]; omega) (by omega) ⟨false, o5, ts, rfl, h, Nat.le_refl _, (fun z => nomatch z), fun _ i hi hi2 => by omega⟩).imp fun _ h => h
  obtain ⟨hqn, hd⟩ := rg_rev hq
  subst hd e
  have hi : N - 1 - q < N := by omega
  generalize hgi : N - 1 - q = i at hi ⊢
  obtain ⟨bi, hti⟩ : ∃ b, ts'[i]? = some b := ⟨_, List.getElem?_eq_getElem (by rw [hu.n]; exact hi)⟩
  have ia : ixQ (.loc l3) (.int i) S3 = some (oD (f i), S3) := ix_lst (hu.g.get h3) (by omega) (by simp [hi])
  have skip : (c = false → closedAt f t0 ts' i) → PassI N f t0 t1 S l1 l2 l3 ts (q + 1) (envU l1 l2 l3 S.length c (some (.int i))) S3 := fun hc => ⟨c, _, ts', rfl, hu, h4, h5, fun z i' hi' hi2 => by
    by_cases e : i' = i
    · rw [e]; exact hc z
    · exact h6 z i' (by omega) hi2⟩
  unfold envU at skip
  cases bi with
  | true =>
    simp [-ow_seq, envU, ix_ts hu.l hti, eq_i0]
    exact skip fun _ _ _ _ _ => hti
  | false =>
    simp [-ow_seq, envU, ix_ts hu.l hti, eq_i0, ix_il (hu.g.get h1) hi, eq_i1, ia, isNon_oD]
    split
    · rename_i ha
      split
      · rename_i hn
        exact skip fun _ _ j hj => by rw [hn] at hj; cases hj
      · rename_i hn
        obtain ⟨j, hj⟩ := Option.ne_none_iff_exists'.mp hn
        have hjN := hf i j hi hj
        obtain ⟨bj, htj⟩ : ∃ b, ts'[j]? = some b := ⟨_, List.getElem?_eq_getElem (by rw [hu.n]; exact hjN)⟩
        simp [-ow_seq, hj, oD, ix_ts hu.l htj, eq_i1]
        split
        · rename_i hbj
          subst hbj
          rw [ow_seq]
          have hset : setP (.loc S.length) (.int i) (.int 1) S3 = some (S3.set S.length (.lst ((ts'.map iB).set i (.int 1)))) := set_lst hu.l (by simp [hu.n, hi])
          simp [hset]
          have hcf := cF_set hti
          refine ⟨true, some (.int i), ts'.set i true, rfl, ⟨hu.g.set (Nat.le_refl _), ?_, by simp [hu.n], fun i' hi' hs => ?_, fun i' hi' => ?_⟩, by omega, fun _ => by omega, (fun z => nomatch z)⟩
          · rw [get_set hu.l, List.map_set]
            rfl
          · by_cases e : i = i'
            · rw [e, List.getElem?_set_self (by rw [hu.n]; exact hi')]
            · rw [List.getElem?_set_ne e]
              exact hu.s i' hi' hs
          · by_cases e : i = i'
            · subst e
              obtain ⟨m, hm⟩ := hu.j j htj
              refine ⟨m + 1, ?_⟩
              rw [W_succ, ha, hj]
              simp [hm]
            · rw [List.getElem?_set_ne e] at hi'
              exact hu.j i' hi'
        · rename_i hbj
          exact skip fun _ _ j' hj' hjt => by
            rw [hj] at hj'
            cases hj'
            rw [htj] at hjt
            cases hjt
            exact absurd rfl hbj
    · rename_i ha
      exact skip fun _ z => absurd z ha
noncomputable def untilB : SM := (sSeq (sAsg (mL listQ (lCons (mVar 1) lNil)) (gVar 3)) (sSeq (sAsg (mC (.bl true)) (gVar 4)) (sSeq (sWhile (bTru (mVar 4)) (sSeq (sAsg (mC (.bl false)) (gVar 4)) passB)) (sRet (mVar 3)))))
def WhI (N : Nat) (f : Nat → Option Nat) (t0 t1 : Nat → Bool) (S : Sto) (l1 l2 l3 n : Nat) (env : Vars) (S2 : Sto) : Prop := ∃ c o5 ts, env = envU l1 l2 l3 S.length c o5 ∧ UI N f t0 t1 S ts S2 ∧ n = (if c = true then cF ts + 1 else 0) ∧ (c = false → ∀ i, i < N → closedAt f t0 ts i)
theorem until_ok (k : Nat) {N : Nat} {f : Nat → Option Nat} {t0 t1 : Nat → Bool} {S : Sto} {l1 l2 l3 : Nat} (hN : N ≤ 100) (hf : ∀ i j, i < N → f i = some j → j < N) (h1 : S[l1]? = some (.lst (iL N t0))) (h2 : S[l2]? = some (.lst (iL N t1))) (h3 : S[l3]? = some (.lst ((List.range N).map fun i => oD (f i)))) :
    Ow (calls (k + 1) 11 [.loc l1, .loc l2, .loc l3] S) fun r => Gr S r.2 ∧ ∃ l, r.1 = .loc l ∧ S.length ≤ l ∧ r.2[l]? = some (.lst (iL N (W f t0 t1 (N + 1)))) := by
  obtain ⟨x, e⟩ := c11 k
  rw [e, ow_runB]
  have eb : bd11 (calls k) x = untilB := rfl
  rw [eb]
  unfold untilB
  rw [ow_seq]
  simp [-ow_seq, list_seq (seq_loc h2)]
  rw [ow_seq]
  simp [-ow_seq]
  rw [ow_seq]
  have U0 : UI N f t0 t1 S ((List.range N).map t1) (S ++ [.lst (iL N t1)]) := ⟨.app, by simp [iL], by simp, fun i hi h => by simp [hi, h], fun i hi => ⟨1, by
    have hiN : i < N := by
      have := (List.getElem?_eq_some_iff.mp hi).1
      simpa using this
    simp [hiN] at hi
    rw [W_succ, hi]
    rfl⟩⟩
  refine (sWhile_inv (WhI N f t0 t1 S l1 l2 l3)
    (fun x => x.1 = .nx ∧ ∃ o5 ts, x.2.1 = envU l1 l2 l3 S.length false o5 ∧ UI N f t0 t1 S ts x.2.2 ∧ ∀ i, i < N → closedAt f t0 ts i) (fun n env S2 ⟨c, o5, ts, e, hu, hn, hc⟩ => ?step) (cF ((List.range N).map t1) + 1) _ _ ⟨true, none, _, rfl, U0, rfl, (fun z => nomatch z)⟩).imp ?imp
  case step =>
    subst e
    cases c with
    | false => exact ⟨(false, S2), rfl, rfl, o5, ts, rfl, hu, hc rfl⟩
    | true =>
      refine ⟨(true, S2), rfl, ?_⟩
      dsimp only
      rw [if_pos rfl, ow_seq]
      simp [-ow_seq, envU]
      refine (pass_ok (l2 := l2) (o5 := o5) hN hf h1 h3 hu).imp ?_
      rintro ⟨fl, env, S3⟩ ⟨rfl, c, o5, ts', rfl, hu', q1, q2⟩
      dsimp only at hu' ⊢
      rw [if_pos rfl] at hn
      refine ⟨_, ?_, c, o5, ts', rfl, hu', rfl, q2⟩
      cases c with
      | true => have := q1 rfl; simp; omega
      | false => simp; omega
  case imp =>
    rintro ⟨fl, env, S2⟩ ⟨rfl, o5, ts, rfl, hu, hc⟩
    simp [envU]
    refine ⟨hu.g, ?_⟩
    have hl := hu.l
    dsimp only at hl
    rw [hl]
    congr 2
    apply List.ext_getElem?
    intro i
    by_cases hi : i < N
    · obtain ⟨bi, hti⟩ : ∃ b, ts[i]? = some b := ⟨_, List.getElem?_eq_getElem (by rw [hu.n]; exact hi)⟩
      have key : (ts[i]?.getD false) = W f t0 t1 (N + 1) i := W_fix (t := fun i => ts[i]?.getD false) hf (fun i hi h => by simp [hu.s i hi h]) (fun i j hi ha hj ht => by
        have htj : ts[j]? = some true := by
          cases e : ts[j]? with
          | none => simp [e] at ht
          | some b => simp [e] at ht; rw [ht]
        simp [hc i hi ha j hj htj]) (fun i hi ht => by
        have htj : ts[i]? = some true := by
          cases e : ts[i]? with
          | none => simp [e] at ht
          | some b => simp [e] at ht; rw [ht]
        exact hu.j i htj) hi
      rw [hti] at key
      simp at key
      simp [iL, hti, hi, key]
    · have : ts[i]? = none := List.getElem?_eq_none (by rw [hu.n]; omega)
      simp [iL, this, hi]
end k12
end DL
namespace DL
namespace k12
open PySem
/-! ### the program's truths: the tail -/
theorem lcS {N l : Nat} {vs : List Nat} {t : Tgt} {te : EM} {env : Vars} {S : Sto} (hl : S[l]? = some (.lst (rgD (N : Int)))) (f : Nat → D) (hn : N ≤ 1000) (step : ∀ i, i < N → ∃ env1, t.put (wipeD env vs) (.int i) = some env1 ∧ ∀ S1, Gr S S1 → Ow (te env1 S1) fun y => y.1 = f i ∧ Gr S1 y.2) :
    Ow (lcL (.seq (.loc l)) vs t bYes te env 0 [] S) fun r => r.1 = (List.range N).map f ∧ Gr S r.2 := by
  have hrl : (rgD (N : Int)).length = N := by simp [rgD]
  refine (lcG (seq_loc hl) (by omega) (fun _ => true) (fun d => match d with | .int i => f i.toNat | _ => .non) fun x hx => ?_).imp ?_
  · obtain ⟨i, hi, rfl⟩ : ∃ i, i < N ∧ x = .int (i : Nat) := by
      simp [rgD] at hx
      obtain ⟨a, ha, rfl⟩ := hx
      exact ⟨a, ha, rfl⟩
    obtain ⟨env1, e1, h⟩ := step i hi
    refine ⟨env1, e1, fun S1 g => ?_⟩
    simp [bYes, Gr.refl]
    exact h S1 g
  · rintro ⟨ds, S1⟩ ⟨h1, g⟩
    dsimp only at h1 g ⊢
    refine ⟨?_, g⟩
    rw [h1, List.filter_eq_self.mpr fun _ _ => rfl]
    apply List.ext_getElem?
    intro i
    simp [rgD]
    cases (List.range N)[i]? <;> simp
noncomputable def ptB (cl : Nat → FM) : SM := (sSeq (sIf (bV (m2 eqP (mVar 2) (mC (.str "not")))) (sRet (mLc (iSeq (mVar 3)) [7] (.nm 7) bYes (m2 (intP fun i j => i - j) (mC (.int 1)) (m2 ixQ (m2 ixQ (mVar 4) (mC (.int 0))) (mVar 7))))) sNext) (sSeq (sIf (bV (m2 eqP (mVar 2) (mC (.str "and")))) (sRet (mLc (iSeq (mVar 3)) [7] (.nm 7) bYes (m2 mulP (m2 ixQ (m2 ixQ (mVar 4) (mC (.int 0))) (mVar 7)) (m2 ixQ (m2 ixQ (mVar 4) (mC (.int 1))) (mVar 7))))) sNext) (sSeq (sIf (bV (m2 eqP (mVar 2) (mC (.str "or")))) (sRet (mLc (iSeq (mVar 3)) [7] (.nm 7) bYes (mL max2P (lCons (m2 ixQ (m2 ixQ (mVar 4) (mC (.int 0))) (mVar 7)) (lCons (m2 ixQ (m2 ixQ (mVar 4) (mC (.int 1))) (mVar 7)) lNil))))) sNext) (sSeq (sAsg (mLc (iSeq (mVar 3)) [7] (.nm 7) bYes (mIf (bV (m2 inQ (mVar 2) (mL tupP (lCons (mC (.str "over")) (lCons (mC (.str "across")) lNil))))) (mMeth "across" [(0, 8)] cl (mVar 0) (lCons (mVar 7) lNil)) (mMeth "following" [(0, 7)] cl (mVar 0) (lCons (mVar 7) lNil)))) (gVar 5)) (sSeq (sIf (bV (m2 inQ (mVar 2) (mL tupP (lCons (mC (.str "next")) (lCons (mC (.str "over")) lNil))))) (sRet (mLc (iSeq (mVar 3)) [7] (.nm 7) bYes (mIf (bV (mIsN (m2 ixQ (mVar 5) (mVar 7)))) (mC (.int 0)) (m2 ixQ (m2 ixQ (mVar 4) (mC (.int 0))) (m2 ixQ (mVar 5) (mVar 7)))))) sNext) (sRet (mL (cl 11) (lCons (m2 ixQ (mVar 4) (mC (.int 0))) (lCons (m2 ixQ (mVar 4) (mC (.int 1))) (lCons (mVar 5) lNil)))))))))) 
def PTR (R : Rn) (v : Nat → Bool) (S : Sto) (x : D × Sto) : Prop := Gr S x.2 ∧ ∃ l, x.1 = .loc l ∧ S.length ≤ l ∧ x.2[l]? = some (.lst (iL R.N v))
theorem in2t {s a b : Str} {S : Sto} (hs : Sx s) (ha : Sx a) (hb : Sx b) : inQ (.str s) (.tup [.str a, .str b]) S = some (.bl (decide (s = a ∨ s = b)), S) := by
  rw [in_ths (n := 0) (m := 0) hs.th rfl (by simp; exact ⟨ha.th, hb.th⟩) (by decide) (by decide)]
  simp
theorem ptail_ok (k : Nat) {R : Rn} (hR : RnOk R) {s : Str} (hs : Sx s) {t0 t1 : Nat → Bool} {o a b c st t l0 : Nat} {S : Sto} {d : D} {r : List D} {o5 o6 o7 o8 : Option D} (h : RR R o a b c S) (hst : S[st]? = some (.lst (rgD (R.N : Int))))
    (ht : S[t]? = some (.lst (.loc l0 :: r))) (hl0 : S[l0]? = some (.lst (iL R.N t0))) (hl1 : ¬ (s = "not" ∨ s = "next" ∨ s = "over") → ∃ l1, r = [.loc l1] ∧ S[l1]? = some (.lst (iL R.N t1))) :
    Ow (ptB (calls (k + 2)) [some (.loc o), some d, some (.str s), some (.loc st), some (.loc t), o5, o6, o7, o8] S) fun x => ∃ d, x.1 = .rt d ∧ PTR R (tailV R s t0 t1) S (d, x.2.2) := by
  have hN := N_le hR
  have i0 : ∀ {S1}, Gr S S1 → ixQ (.loc t) (.int 0) S1 = some (.loc l0, S1) := fun g => ix_lst (g.get ht) (by omega) rfl
  have b0 : ∀ {S1 i}, Gr S S1 → i < R.N → ixQ (.loc l0) (.int (i : Nat)) S1 = some (iB (t0 i), S1) := fun g hi => ix_il (g.get hl0) hi
  unfold ptB
  rw [ow_seq]
  simp [-ow_seq, eq_sx hs (sx_lit (x := "not"))]
  split
  · rename_i h1
    subst h1
    rw [ow_lc]
    simp [seq_loc hst]
    refine (lcS hst (fun i => iB (!t0 i)) (by omega) fun i hi => ⟨_, rfl, fun S1 g => ?_⟩).imp ?_
    · simp [wipeD, i0 g, b0 g hi, iB, Gr.refl]
      cases t0 i <;> simp
    · rintro ⟨ds, S1⟩ ⟨rfl, g⟩
      exact ⟨g.snoc, _, rfl, g.len, get_snoc⟩
  · rename_i h1
    rw [ow_seq]
    simp [-ow_seq, eq_sx hs (sx_lit (x := "and"))]
    split
    · rename_i h2
      subst h2
      obtain ⟨l1, rfl, hk1⟩ := hl1 (by decide)
      have i1 : ∀ {S1}, Gr S S1 → ixQ (.loc t) (.int 1) S1 = some (.loc l1, S1) := fun g => ix_lst (g.get ht) (by omega) rfl
      have b1 : ∀ {S1 i}, Gr S S1 → i < R.N → ixQ (.loc l1) (.int (i : Nat)) S1 = some (iB (t1 i), S1) := fun g hi => ix_il (g.get hk1) hi
      rw [ow_lc]
      simp [seq_loc hst]
      refine (lcS hst (fun i => iB (t0 i && t1 i)) (by omega) fun i hi => ⟨_, rfl, fun S1 g => ?_⟩).imp ?_
      · simp [wipeD, i0 g, b0 g hi, i1 g, b1 g hi]
        have : mulP (iB (t0 i)) (iB (t1 i)) S1 = some (iB (t0 i && t1 i), S1) := by
          unfold iB
          rw [mul_ii (.inl (by cases t0 i <;> decide))]
          cases t0 i <;> cases t1 i <;> rfl
        rw [this]
        simp [Gr.refl]
      · rintro ⟨ds, S1⟩ ⟨rfl, g⟩
        exact ⟨g.snoc, _, rfl, g.len, get_snoc⟩
    · rename_i h2
      rw [ow_seq]
      simp [-ow_seq, eq_sx hs (sx_lit (x := "or"))]
      split
      · rename_i h3
        subst h3
        obtain ⟨l1, rfl, hk1⟩ := hl1 (by decide)
        have i1 : ∀ {S1}, Gr S S1 → ixQ (.loc t) (.int 1) S1 = some (.loc l1, S1) := fun g => ix_lst (g.get ht) (by omega) rfl
        have b1 : ∀ {S1 i}, Gr S S1 → i < R.N → ixQ (.loc l1) (.int (i : Nat)) S1 = some (iB (t1 i), S1) := fun g hi => ix_il (g.get hk1) hi
        rw [ow_lc]
        simp [seq_loc hst]
        refine (lcS hst (fun i => iB (t0 i || t1 i)) (by omega) fun i hi => ⟨_, rfl, fun S1 g => ?_⟩).imp ?_
        · simp [wipeD, i0 g, b0 g hi, i1 g, b1 g hi]
          have : max2P [iB (t0 i), iB (t1 i)] S1 = some (iB (t0 i || t1 i), S1) := by
            unfold iB
            rw [max_ii]
            cases t0 i <;> cases t1 i <;> rfl
          rw [this]
          simp [Gr.refl]
        · rintro ⟨ds, S1⟩ ⟨rfl, g⟩
          exact ⟨g.snoc, _, rfl, g.len, get_snoc⟩
      · rename_i h3
        have hv : tailV R s t0 t1 = walkV R s t0 t1 := by
          funext i
          unfold tailV
          rw [if_neg h1, if_neg h2, if_neg h3]
        rw [hv]
        rw [ow_seq, ow_asg, ow_lc]
        simp [-ow_seq, seq_loc hst]
        refine (lcS hst (fun i => oD (R.nx s i)) (by omega) fun i hi => ⟨_, rfl, fun S1 g => ?_⟩).imp ?_
        · have hr := h.gr g
          simp [wipeD, tup_ok, in2t hs (sx_lit (x := "over")) (sx_lit (x := "across")), m_ac hr, m_fo hr, Rn.nx]
          split
          · refine (across_ok hr hR k hi).imp ?_
            rintro ⟨d, S2⟩ e
            cases e
            exact ⟨rfl, .refl⟩
          · refine (following_ok hr hR (k + 1)).imp ?_
            rintro ⟨d, S2⟩ e
            cases e
            exact ⟨rfl, .refl⟩
        · rintro ⟨ds, S1⟩ ⟨rfl, g⟩
          dsimp only at g ⊢
          have g1 : Gr S (S1 ++ [.lst ((List.range R.N).map fun i => oD (R.nx s i))]) := g.snoc
          have ha1 : (S1 ++ [Ob.lst ((List.range R.N).map fun i => oD (R.nx s i))])[S1.length]? = some (.lst ((List.range R.N).map fun i => oD (R.nx s i))) := get_snoc
          have hln : S.length ≤ S1.length := g.len
          generalize S1 ++ [Ob.lst ((List.range R.N).map fun i => oD (R.nx s i))] = S2 at g1 ha1 ⊢
          rw [ow_seq]
          simp [-ow_seq, tup_ok, in2t hs (sx_lit (x := "next")) (sx_lit (x := "over"))]
          split
          · rename_i hn
            rw [ow_lc]
            simp [seq_loc (g1.get hst)]
            refine (lcS (g1.get hst) (fun i => iB (walkV R s t0 t1 i)) (by omega) fun i hi => ⟨_, rfl, fun S3 g3 => ?_⟩).imp ?_
            · have ia : ixQ (.loc S1.length) (.int i) S3 = some (oD (R.nx s i), S3) := ix_lst (g3.get ha1) (by omega) (by simp [hi])
              simp [wipeD, ia, isNon_oD]
              have hw : walkV R s t0 t1 i = (match R.nx s i with | none => false | some j => t0 j) := by
                unfold walkV
                rw [if_pos hn]
                try (cases R.nx s i <;> rfl)
              rw [hw]
              cases e : R.nx s i with
              | none => simp [iB, Gr.refl]
              | some j =>
                have ia' : ixQ (.loc S1.length) (.int i) S3 = some (.int j, S3) := by rw [ia, e]; rfl
                simp [oD, ia', i0 (g1.trans g3), b0 (g1.trans g3) (nx_lt hR.a1 _ _ hi e), Gr.refl]
            · rintro ⟨ds, S3⟩ ⟨rfl, g3⟩
              exact ⟨(g1.trans g3).snoc, _, rfl, (g1.trans g3).len, get_snoc⟩
          · rename_i hn
            obtain ⟨l1, rfl, hk1⟩ := hl1 fun z => z.elim h1 hn
            have i1 : ∀ {S1}, Gr S S1 → ixQ (.loc t) (.int 1) S1 = some (.loc l1, S1) := fun g => ix_lst (g.get ht) (by omega) rfl
            simp [i0 g1, i1 g1]
            refine (until_ok (k + 1) (f := R.nx s) (t0 := t0) (t1 := t1) (by omega) (nx_lt hR.a1) (g1.get hl0) (g1.get hk1) ha1).imp ?_
            rintro ⟨r, S3⟩ ⟨g3, l, rfl, ll, h4⟩
            refine ⟨g1.trans g3, l, rfl, Nat.le_trans g1.len ll, ?_⟩
            have hw : walkV R s t0 t1 = W (R.nx s) t0 t1 (R.N + 1) := by
              funext i
              unfold walkV
              rw [if_neg hn]
            rw [hw]
            exact h4
end k12
end DL
namespace DL
namespace k12
open PySem
/-! ### what is known -/
theorem keys_put : ∀ {kvs : List (D × D)} {k w : D}, nbK kvs → k.nb = true → (dput kvs k w).map (·.1) = if k ∈ kvs.map (·.1) then kvs.map (·.1) else kvs.map (·.1) ++ [k]
  | [], k, w, _, _ => by rw [dput_nil]; simp
  | (x, v) :: r, k, w, h, hk => by
    rw [dput_cons (h _ List.mem_cons_self) hk]
    have ih := keys_put (kvs := r) (w := w) (fun p hp => h p (List.mem_cons_of_mem _ hp)) hk
    by_cases e : x = k
    · subst e
      simp
    · rw [if_neg e, List.map_cons, ih]
      by_cases hm : k ∈ r.map (·.1)
      · rw [if_pos hm, if_pos (by simp at hm ⊢; exact .inr hm)]
        rfl
      · rw [if_neg hm, if_neg (by
          simp at hm ⊢
          exact ⟨fun z => e z.symm, hm⟩)]
        rfl
theorem mem_put : ∀ {kvs : List (D × D)} {k w : D} {p : D × D}, nbK kvs → k.nb = true → p ∈ dput kvs k w → p = (k, w) ∨ p ∈ kvs
  | [], k, w, p, _, _, hp => by
    rw [dput_nil] at hp
    exact .inl (List.mem_singleton.mp hp)
  | (x, v) :: r, k, w, p, h, hk, hp => by
    rw [dput_cons (h _ List.mem_cons_self) hk] at hp
    by_cases e : x = k
    · subst e
      rw [if_pos rfl] at hp
      rcases List.mem_cons.mp hp with rfl | hp
      · exact .inl rfl
      · exact .inr (List.mem_cons_of_mem _ hp)
    · rw [if_neg e] at hp
      rcases List.mem_cons.mp hp with rfl | hp
      · exact .inr List.mem_cons_self
      · rcases mem_put (fun p hp => h p (List.mem_cons_of_mem _ hp)) hk hp with h | h
        · exact .inl h
        · exact .inr (List.mem_cons_of_mem _ h)
def sbs : Nat → D → List D
  | n + 1, .tup (.str s :: ds) => .tup (.str s :: ds) :: ds.flatMap (sbs n)
  | _, _ => []
theorem sbs_len : ∀ {n : Nat} {d : D}, Pm n d → (sbs n d).length + 1 ≤ 2 ^ n
  | 0, d, h => by cases h
  | n + 1, d, h => by
    have hp : 1 ≤ 2 ^ n := Nat.one_le_two_pow
    have hpw : 2 ^ (n + 1) = 2 ^ n * 2 := Nat.pow_succ 2 n
    have hs : ∀ x : Str, sbs n (.str x) = [] := fun x => by cases n <;> rfl
    cases h with
    | at_ ha hb =>
      simp [sbs, hs]
      omega
    | yes =>
      simp [sbs]
      omega
    | one hs hp =>
      have := sbs_len hp
      simp [sbs]
      omega
    | two hs hp hq =>
      have := sbs_len hp
      have := sbs_len hq
      simp [sbs]
      omega
structure KnE (R : Rn) (c : Nat) (L : List D) (S : Sto) (p : D × D) : Prop where
  mem : p.1 ∈ L
  pm : Pm 8 p.1
  v : ∃ l, p.2 = .loc l ∧ l ≠ c ∧ S[l]? = some (.lst (iL R.N (tr R p.1)))
def Kn (R : Rn) (c : Nat) (L : List D) (S : Sto) : Prop := ∃ kvs, S[c]? = some (.dct kvs) ∧ (kvs.map (·.1)).Nodup ∧ ∀ p ∈ kvs, KnE R c L S p
theorem KnE.fr {R : Rn} {c : Nat} {L : List D} {S S1 : Sto} {p : D × D} (h : KnE R c L S p) (g : Fr (some c) S S1) : KnE R c L S1 p := by
  obtain ⟨l, e, hl, h1⟩ := h.v
  exact ⟨h.mem, h.pm, l, e, hl, g.get h1 (by simpa using hl)⟩
theorem Kn.gr {R : Rn} {c : Nat} {L : List D} {S S1 : Sto} (h : Kn R c L S) (g : Gr S S1) : Kn R c L S1 := by
  obtain ⟨kvs, h1, h2, h3⟩ := h
  exact ⟨kvs, g.get h1, h2, fun p hp => (h3 p hp).fr (Gr.fr g)⟩
theorem kn_nb {R : Rn} {c : Nat} {L : List D} {S : Sto} {kvs : List (D × D)} (h : ∀ p ∈ kvs, KnE R c L S p) : nbK kvs := fun p hp => (h p hp).pm.th.nb
theorem look_mem : ∀ {kvs : List (D × D)} {k v : D}, lookD kvs k = some v → (k, v) ∈ kvs
  | (x, w) :: r, k, v, e => by
    rw [lookD] at e
    split at e
    · rename_i h
      cases e
      rw [h]
      exact List.mem_cons_self
    · exact List.mem_cons_of_mem _ (look_mem e)
theorem look_key : ∀ {kvs : List (D × D)} {k : D}, lookD kvs k = none → k ∉ kvs.map (·.1)
  | [], k, _ => by simp
  | (x, w) :: r, k, e => by
    rw [lookD] at e
    split at e
    · cases e
    · rename_i h
      have := look_key e
      simp at this ⊢
      exact ⟨fun z => h z.symm, this⟩
/-- what a call of truths leaves -/
def TPost (R : Rn) (c : Nat) (L : List D) (d : D) (S : Sto) (x : D × Sto) : Prop := Fr (some c) S x.2 ∧ Kn R c L x.2 ∧ ∃ l, x.1 = .loc l ∧ l ≠ c ∧ x.2[l]? = some (.lst (iL R.N (tr R d)))
theorem truths_of {k : Nat} {R : Rn} (hR : RnOk R) {o a b c : Nat} {L : List D} {d : D} {S : Sto} (hL : L.length ≤ 1000) (h : RR R o a b c S) (hk : Kn R c L S) (hd : Pm 8 d) (hm : d ∈ L) (find : Ow (calls k 10 [.loc o, d] S) (TPost R c L d S)) :
    Ow (calls (k + 1) 9 [.loc o, d] S) (TPost R c L d S) := by
  obtain ⟨x, e⟩ := c9 k
  rw [e, ow_runB]
  unfold bd9
  rw [ow_seq]
  have ok : okKey d = true := hd.th.key (by decide)
  obtain ⟨kvs, h1, h2, h3⟩ := hk
  have hnb := kn_nb h3
  have hin : notInQ d (.loc c) S = some (.bl (!(dget kvs d).isSome), S) := by
    have e : dctD S (.loc c) = some kvs := by simp [dctD, h1]
    simp only [notInQ, e, ok, if_true]
  have lkvs : ∀ {kvs : List (D × D)} {S : Sto}, (kvs.map (·.1)).Nodup → (∀ p ∈ kvs, KnE R c L S p) → kvs.length ≤ 1000 := fun {kvs S} n1 n2 => by
    have := len_sub n1 (l := L) fun y hy => by
      obtain ⟨p, hp, rfl⟩ := List.mem_map.mp hy
      exact (n2 p hp).mem
    simp at this
    omega
  simp [-ow_seq, f_known h, hin]
  cases e1 : dget kvs d with
  | some v =>
    rw [dget_look hnb hd.th.nb] at e1
    obtain ⟨l, hv, hlc, h4⟩ := (h3 _ (look_mem e1)).v
    dsimp only at hv h4
    subst hv
    rw [← dget_look hnb hd.th.nb] at e1
    simp [f_known h, ix_dct h1 ok e1]
    exact ⟨.refl, ⟨kvs, h1, h2, h3⟩, l, rfl, hlc, h4⟩
  | none =>
    simp [m_fi h]
    refine find.imp ?_
    rintro ⟨r, S1⟩ ⟨g, ⟨kvs1, q1, q2, q3⟩, l, rfl, hlc, h4⟩
    dsimp only at g q1 q3 h4 ⊢
    have hr := h.fr g
    have hnb1 := kn_nb q3
    have hkl := lkvs q2 q3
    simp only [f_known hr, ow_some]
    rw [set_dct q1 ok (by omega)]
    simp only [ow_some]
    have gset : Fr (some c) S1 (S1.set c (.dct (dput kvs1 d (.loc l)))) := ⟨by simp, fun j hj hc => get_set_ne (by simpa using Ne.symm hc)⟩
    have hr2 := hr.fr gset
    have q4 : (S1.set c (.dct (dput kvs1 d (.loc l))))[c]? = some (.dct (dput kvs1 d (.loc l))) := get_set q1
    have e2 : dget (dput kvs1 d (.loc l)) d = some (.loc l) := by
      rw [dget_look (nbK_put hnb1 hd.th.nb) hd.th.nb, look_put hnb1 hd.th.nb, if_pos rfl]
    simp [f_known hr2, ix_dct q4 ok e2]
    have h5 := gset.get h4 (by simpa using hlc)
    refine ⟨g.trans gset, ⟨_, q4, ?_, fun p hp => ?_⟩, l, rfl, hlc, h5⟩
    · rw [keys_put hnb1 hd.th.nb]
      split
      · exact q2
      · rename_i hni
        rw [List.nodup_append]
        exact ⟨q2, by simp, fun a ha b hb => by simp at hb; subst hb; exact fun z => hni (z ▸ ha)⟩
    · rcases mem_put hnb1 hd.th.nb hp with rfl | hp
      · exact ⟨hm, hd, l, rfl, hlc, h5⟩
      · exact (q3 p hp).fr gset
noncomputable def fiB (cl : Nat → FM) : SM := (sSeq (sAsg (m2 ixQ (mVar 1) (mC (.int 0))) (gVar 2)) (sSeq (sAsg (mLstRg (mL lenQ (lCons (mFld [0] "marks" (mVar 0)) lNil))) (gVar 3)) (sSeq (sIf (bV (m2 eqP (mVar 2) (mC (.str "yes")))) (sRet (mLc (iSeq (mVar 3)) [6] (.nm 6) bYes (mC (.int 1)))) sNext) (sSeq (sIf (bV (m2 eqP (mVar 2) (mC (.str "at")))) (sRet (mLc (iSeq (mVar 3)) [7] (.nm 7) bYes (mL toIntP (lCons (mL (cl 5) (lCons (mVar 1) (lCons (m2 ixQ (mFld [0] "marks" (mVar 0)) (mVar 7)) lNil))) lNil)))) sNext) (sSeq (sAsg (mLc (iSeq (mSl slP (mVar 1) (oSome (mC (.int 1))) oNone)) [8] (.nm 8) bYes (mMeth "truths" [(0, 9)] cl (mVar 0) (lCons (mVar 8) lNil))) (gVar 4)) (ptB cl))))))
theorem ow_lrg {m : EM} {env : Vars} {S : Sto} {Q : D × Sto → Prop} : Ow (mLstRg m env S) Q ↔ Ow (m env S) fun y => ∃ n, y.1 = .int n ∧ (0 ≤ n ∧ n ≤ 16777216) ∧ Q (.loc y.2.length, y.2 ++ [.lst (rgD n)]) := by
  unfold mLstRg
  constructor
  · rintro ⟨z, h, q⟩
    split at h
    · rename_i x S1 e
      split at h
      · rename_i hz
        cases h
        exact ⟨_, e, x, rfl, hz, q⟩
      · cases h
    · cases h
  · rintro ⟨⟨d, S1⟩, h, x, e, hz, q⟩
    dsimp only at e
    subst e
    refine ⟨_, ?_, q⟩
    rw [h]
    simp [hz]
theorem find_ok {R : Rn} (hR : RnOk R) {o a b c : Nat} {L : List D} (hL : L.length ≤ 1000) : ∀ (n k : Nat) (d : D) (S : Sto), Pm n d → n ≤ 8 → (∀ y ∈ sbs n d, y ∈ L) → RR R o a b c S → Kn R c L S → Ow (calls (k + 2 * n + 1) 10 [.loc o, d] S) (TPost R c L d S)
  | 0, k, d, S, hp, _, _, _, _ => by cases hp
  | n + 1, k, d, S, hp, hn, hsub, hr, hk => by
    obtain ⟨x3, e3⟩ := c10 (k + 2 * n + 2)
    rw [show k + 2 * (n + 1) + 1 = k + 2 * n + 2 + 1 by omega, e3, ow_runB]
    have eb : bd10 (calls (k + 2 * n + 2)) x3 = fiB (calls (k + 2 * n + 2)) := rfl
    rw [eb]
    have hN := N_le hR
    have ih : ∀ (d : D) (S : Sto), Pm n d → (∀ y ∈ sbs n d, y ∈ L) → d ∈ L → RR R o a b c S → Kn R c L S → Ow (calls (k + 2 * n + 2) 9 [.loc o, d] S) (TPost R c L d S) := fun d S h1 h2 h3 h4 h5 =>
      truths_of hR hL h4 h5 (h1.mono (by omega)) h3 (find_ok hR hL n k d S h1 (by omega) h2 h4 h5)
    obtain ⟨m, s, ds, em, rfl, hps⟩ := hp.shape
    cases em
    have hsx := hps.sx
    unfold fiB
    rw [ow_seq]
    simp [-ow_seq]
    rw [ow_seq, ow_asg, ow_lrg]
    simp [-ow_seq, f_marks hr, len_M hR hr.m]
    refine ⟨by omega, ?_⟩
    have hr1 := hr.gr (Gr.app (U := [Ob.lst (rgD (R.N : Int))]))
    have hk1 := Kn.gr hk (Gr.app (U := [Ob.lst (rgD (R.N : Int))]))
    have hs1 : (S ++ [Ob.lst (rgD (R.N : Int))])[S.length]? = some (.lst (rgD (R.N : Int))) := get_snoc
    have g1 : Gr S (S ++ [Ob.lst (rgD (R.N : Int))]) := .app
    have hcl : c ≠ S.length := fun z => by
      obtain ⟨kvs, h1, _⟩ := hk
      have := (List.getElem?_eq_some_iff.mp h1).1
      omega
    have hcS : c < S.length := by
      obtain ⟨kvs, h1, _⟩ := hk
      exact (List.getElem?_eq_some_iff.mp h1).1
    generalize S ++ [Ob.lst (rgD (R.N : Int))] = S1 at hr1 hk1 hs1 g1 ⊢
    rw [ow_seq]
    cases hp with
    | yes =>
      simp [-ow_seq, eq_sx (sx_lit (x := "yes")) (sx_lit (x := "yes"))]
      rw [ow_lc]
      simp [seq_loc hs1]
      refine (lcS hs1 (fun _ => iB true) (by omega) fun i hi => ⟨_, rfl, fun S3 g3 => ?_⟩).imp ?_
      · simp [iB, Gr.refl]
      · rintro ⟨ds, S3⟩ ⟨rfl, g3⟩
        have g := (g1.trans g3).snoc (o := .lst ((List.range R.N).map fun _ => iB true))
        have hlen := (g1.trans g3).len
        dsimp only at hlen
        exact ⟨Gr.fr g, Kn.gr hk g, _, rfl, by dsimp only; omega, get_snoc⟩
    | @at_ _ a b ha hb =>
      have h1 : ¬ ((Str.ofString "at") = (Str.ofString "yes")) := by decide
      simp [-ow_seq, eq_sx (sx_lit (x := "at")) (sx_lit (x := "yes")), h1]
      rw [ow_seq]
      simp [-ow_seq, eq_sx (sx_lit (x := "at")) (sx_lit (x := "at"))]
      rw [ow_lc]
      simp [seq_loc hs1]
      refine (lcS hs1 (fun i => iB (atB (.str a) (.str b) (R.mk1 i))) (by omega) fun i hi => ⟨_, rfl, fun S3 g3 => ?_⟩).imp ?_
      · have hr3 := hr1.gr g3
        simp [wipeD, f_marks hr3, ix_M hR hr3.m hi]
        refine (is_at_ok (k + 2 * n + 1) ha hb (mk_sx hR i)).imp ?_
        rintro ⟨r, S4⟩ e
        cases e
        simp [toIntP, iB, Gr.refl]
      · rintro ⟨ds, S3⟩ ⟨rfl, g3⟩
        have g := (g1.trans g3).snoc (o := .lst ((List.range R.N).map fun i => iB (atB (.str a) (.str b) (R.mk1 i))))
        have hlen := (g1.trans g3).len
        dsimp only at hlen
        refine ⟨Gr.fr g, Kn.gr hk g, _, rfl, by dsimp only; omega, ?_⟩
        rw [tr_at]
        exact get_snoc
    | @one _ _ d hs hp =>
      have h1 : ¬ (s = "yes") := by rcases hs with rfl | rfl | rfl <;> decide
      have h2 : ¬ (s = "at") := by rcases hs with rfl | rfl | rfl <;> decide
      have hsd : ∀ y ∈ sbs n d, y ∈ L := fun y hy => hsub y (by simp [sbs, hy])
      have hself : ∀ {n : Nat} {d : D}, Pm n d → d ∈ sbs n d := fun {n d} h => by
        obtain ⟨m, s, ds, rfl, rfl, _⟩ := h.shape
        simp [sbs]
      simp [-ow_seq, eq_sx hsx (sx_lit (x := "yes")), h1]
      rw [ow_seq]
      simp [-ow_seq, eq_sx hsx (sx_lit (x := "at")), h2]
      rw [ow_seq, ow_asg, ow_lc]
      simp [-ow_seq, cut_tail]
      refine ⟨rfl, ?_⟩
      refine (lcC (c := some c) (ds := [d]) (fun x => iL R.N (tr R x)) (fun S => RR R o a b c S ∧ Kn R c L S) (fun _ _ => rfl) (by simp) ⟨hr1, hk1⟩ fun x hx => ⟨_, rfl, fun S3 g3 hI => ?_⟩).imp ?_
      · simp at hx
        subst hx
        simp [wipeD, m_tr hI.1]
        refine (ih x S3 hp hsd (hsd _ (hself hp)) hI.1 hI.2).imp ?_
        rintro ⟨r, S4⟩ ⟨g4, hk4, l, rfl, hlc, h4⟩
        exact ⟨g4, ⟨hI.1.fr g4, hk4⟩, l, rfl, by simpa using hlc, h4⟩
      · rintro ⟨r, S3⟩ ⟨g3, ⟨hr3, hk3⟩, ls, rfl, hl, h3⟩
        obtain ⟨l0, rfl⟩ := List.length_eq_one_iff.mp hl
        have hl0 := (h3 0 l0 d rfl rfl).2
        dsimp only at g3 hr3 hk3 hl0 ⊢
        have ga : Gr S3 (S3 ++ [.lst (([l0] : List Nat).map fun (l : Nat) => D.loc l)]) := .app
        have hst : (S3 ++ [.lst (([l0] : List Nat).map fun (l : Nat) => D.loc l)])[S.length]? = some (.lst (rgD (R.N : Int))) := get_app (g3.get hs1 (by simpa using Ne.symm hcl))
        refine (ptail_ok (k + 2 * n) hR hsx (t0 := tr R d) (t1 := tr R d) (l0 := l0) (r := []) (hr3.gr ga) hst get_snoc (get_app hl0) (fun z => absurd hs z)).imp ?_
        rintro ⟨fl, env, S4⟩ ⟨r, rfl, g4, l, rfl, ll, h4⟩
        dsimp only at g4 h4 ⊢
        have hlen := (Gr.fr (c := some c) g1).trans g3
        refine ⟨hlen.trans (Gr.fr (ga.trans g4)), Kn.gr hk3 (ga.trans g4), l, rfl, ?_, ?_⟩
        · have := hlen.1
          simp at ll
          omega
        · rw [h4, tr_one hp (by omega), tail_one hs]
    | @two _ _ d e hs hp hq =>
      have h1 : ¬ (s = "yes") := by rcases hs with rfl | rfl | rfl | rfl <;> decide
      have h2 : ¬ (s = "at") := by rcases hs with rfl | rfl | rfl | rfl <;> decide
      have hsd : ∀ y ∈ sbs n d, y ∈ L := fun y hy => hsub y (by simp [sbs, hy])
      have hse : ∀ y ∈ sbs n e, y ∈ L := fun y hy => hsub y (by simp [sbs, hy])
      have hself : ∀ {n : Nat} {d : D}, Pm n d → d ∈ sbs n d := fun {n d} h => by
        obtain ⟨m, s, ds, rfl, rfl, _⟩ := h.shape
        simp [sbs]
      simp [-ow_seq, eq_sx hsx (sx_lit (x := "yes")), h1]
      rw [ow_seq]
      simp [-ow_seq, eq_sx hsx (sx_lit (x := "at")), h2]
      rw [ow_seq, ow_asg, ow_lc]
      simp [-ow_seq, cut_tail]
      refine ⟨rfl, ?_⟩
      refine (lcC (c := some c) (ds := [d, e]) (fun x => iL R.N (tr R x)) (fun S => RR R o a b c S ∧ Kn R c L S) (fun _ _ => rfl) (by simp) ⟨hr1, hk1⟩ fun x hx => ⟨_, rfl, fun S3 g3 hI => ?_⟩).imp ?_
      · have hx2 : Pm n x ∧ ∀ y ∈ sbs n x, y ∈ L := by
          simp at hx
          rcases hx with rfl | rfl
          · exact ⟨hp, hsd⟩
          · exact ⟨hq, hse⟩
        simp [wipeD, m_tr hI.1]
        refine (ih x S3 hx2.1 hx2.2 (hx2.2 _ (hself hx2.1)) hI.1 hI.2).imp ?_
        rintro ⟨r, S4⟩ ⟨g4, hk4, l, rfl, hlc, h4⟩
        exact ⟨g4, ⟨hI.1.fr g4, hk4⟩, l, rfl, by simpa using hlc, h4⟩
      · rintro ⟨r, S3⟩ ⟨g3, ⟨hr3, hk3⟩, ls, rfl, hl, h3⟩
        obtain ⟨l0, l1, rfl⟩ : ∃ l0 l1, ls = [l0, l1] := by
          match ls, hl with
          | [a, b], _ => exact ⟨a, b, rfl⟩
        have hl0 := (h3 0 l0 d rfl rfl).2
        have hl1 := (h3 1 l1 e rfl rfl).2
        dsimp only at g3 hr3 hk3 hl0 hl1 ⊢
        have ga : Gr S3 (S3 ++ [.lst (([l0, l1] : List Nat).map fun (l : Nat) => D.loc l)]) := .app
        have hst : (S3 ++ [.lst (([l0, l1] : List Nat).map fun (l : Nat) => D.loc l)])[S.length]? = some (.lst (rgD (R.N : Int))) := get_app (g3.get hs1 (by simpa using Ne.symm hcl))
        refine (ptail_ok (k + 2 * n) hR hsx (t0 := tr R d) (t1 := tr R e) (l0 := l0) (r := [.loc l1]) (hr3.gr ga) hst get_snoc (get_app hl0) (fun _ => ⟨l1, rfl, get_app hl1⟩)).imp ?_
        rintro ⟨fl, env, S4⟩ ⟨r, rfl, g4, l, rfl, ll, h4⟩
        dsimp only at g4 h4 ⊢
        have hlen := (Gr.fr (c := some c) g1).trans g3
        refine ⟨hlen.trans (Gr.fr (ga.trans g4)), Kn.gr hk3 (ga.trans g4), l, rfl, ?_, ?_⟩
        · have := hlen.1
          simp at ll
          omega
        · rw [h4, tr_two hp hq (by omega) h2, tail_two hs]
end k12
end DL
namespace DL
namespace k12
open PySem
/-! ### holds and the law -/
theorem holds_ok (k : Nat) {R : Rn} (hR : RnOk R) {d : D} {i : Nat} {S : Sto} (hp : Pm 8 d) (hi : i < R.N) : Ow (calls (k + 21) 12 [d, .tup (R.be.map mkD), .tup (R.ar.map mkD), .int i] S) fun r => r.1 = .bl (tr R d i) ∧ Gr S r.2 := by
  rw [show calls (k + 21) 12 = runB 4 (bd12 (calls (k + 20)) (calls (k + 18))) from rfl, ow_runB]
  unfold bd12
  simp
  refine (init_all (k + 17) hR).imp ?_
  rintro ⟨r, S1⟩ ⟨rfl, g1, a, b, c, ha, hb, hc, hac, hbc, h1, h2, h3, h4⟩
  dsimp only at g1 h1 h2 h3 h4 ⊢
  have hr : RR R S.length a b c S1 := ⟨h1, h2, h3, by omega, hac, hbc⟩
  have hsl : (sbs 8 d).length ≤ 1000 := by
    have := sbs_len hp
    have : (2 : Nat) ^ 8 = 256 := rfl
    omega
  have hk : Kn R c (sbs 8 d) S1 := ⟨[], h4, by simp, fun p hp => by cases hp⟩
  have hself : d ∈ sbs 8 d := by
    obtain ⟨m, s, ds, e, rfl, _⟩ := hp.shape
    cases e
    simp [sbs]
  simp [m_tr hr]
  refine (truths_of hR hsl hr hk hp hself (find_ok hR hsl 8 (k + 2) d S1 hp (by decide) (fun y h => h) hr hk)).imp ?_
  rintro ⟨r, S2⟩ ⟨g2, _, l, rfl, hlc, h5⟩
  dsimp only at g2 h5 ⊢
  simp [ix_il h5 hi, eq_i1]
  exact g1.trans' g2.1 fun j hj => g2.2 j (by have := g1.len; omega) (by simp; omega)
noncomputable def runsB (cl : Nat → FM) : SM := (sSeq (sAsg (mL tupleP (lCons (mLc (iRng1M (mL (cl 14) (lCons (mVar 1) (lCons (mC (.int 8)) lNil)))) [8] (.nm 8) bYes (mL (cl 15) (lCons (mVar 1) (lCons (mVar 4) lNil)))) lNil)) (gVar 5)) (sSeq (sAsg (mL tupleP (lCons (mLc (iRng1M (m2 addP (mC (.int 1)) (mL (cl 14) (lCons (mVar 1) (lCons (mC (.int 7)) lNil))))) [8] (.nm 8) bYes (mL (cl 15) (lCons (mVar 1) (lCons (mVar 4) lNil)))) lNil)) (gVar 6)) (sSeq (sAsg (mL (cl 22) (lCons (mVar 2) (lCons (mVar 5) (lCons (mVar 6) lNil)))) (gVar 7)) (sSeq (sFor (iRng1M (mC (.int 4))) (gVar 8) (sSeq (sAsg (mL (cl 14) (lCons (mVar 1) (lCons (mL lenQ (lCons (mVar 7) lNil)) lNil))) (gVar 9)) (sIf (bNot (bTru (mL (cl 16) (lCons (mL (cl 12) (lCons (mVar 2) (lCons (mVar 5) (lCons (mVar 6) (lCons (mVar 9) lNil))))) (lCons (m2 ixQ (mVar 7) (mVar 9)) lNil))))) (sRet (mC (.bl false))) sNext))) (sRet (mC (.bl true)))))))
def marksL : List Mk := [("call", "p"), ("back", "p"), ("say", "hi"), ("quiet", ""), ("say", "ho"), ("call", "q")]
theorem marks_ok : ∀ m ∈ marksL, MkOk m := by
  intro m hm
  simp [marksL] at hm
  rcases hm with rfl | rfl | rfl | rfl | rfl | rfl <;> exact ⟨sx_lit, sx_lit⟩
def AllM (ms : List Mk) : Prop := ∀ m ∈ ms, m ∈ marksL
/-- a list of marks is drawn -/
theorem draws_ok {n l : Nat} {T S : Sto} {env : Vars} {w : Option D} (hn : n ≤ 100) (h : Dr T S) (hT : T[l]? = some (.lst (marksL.map mkD))) (h1 : ∀ c, ((wipeD env [8]).set 8 (some c))[1]? = some (some (.loc 1))) (h4 : ∀ c, ((wipeD env [8]).set 8 (some c))[4]? = some (some (.loc (l + 2)))) :
    Ow (lcL (.rng 0 n) [8] (.nm 8) bYes (mL PKW (lCons (mVar 1) (lCons (mVar 4) lNil))) env 0 [] S) fun r => Dr T r.2 ∧ ∃ ms : List Mk, r.1 = ms.map mkD ∧ ms.length = n ∧ AllM ms := by
  refine lcR_inv (fun j acc S1 => Dr T S1 ∧ ∃ ms : List Mk, acc = ms.map mkD ∧ ms.length = j ∧ AllM ms) (fun j acc S1 hj ⟨⟨T1, g, hd⟩, ms, e, hl, hm⟩ => ⟨_, rfl, ?_⟩) ⟨h, [], rfl, rfl, fun m hm => by cases hm⟩
  subst e
  simp [bYes, h1, h4]
  refine (pickQ_loc drawOkQ hd (g.get hT) (by simp [marksL]) (by simp [marksL])).imp ?_
  rintro ⟨d, S2⟩ ⟨hdm, hd2⟩
  obtain ⟨m, hmm, rfl⟩ := List.mem_map.mp hdm
  refine ⟨fits_lt (by omega), ⟨T1, g, hd2⟩, ms ++ [m], by simp, by simp [hl], fun x hx => ?_⟩
  rcases List.mem_append.mp hx with hx | hx
  · exact hm x hx
  · rw [List.mem_singleton.mp hx]
    exact hmm
theorem e_is (k : Nat) : calls (k + 1) 16 = runB 2 isQ := by
  obtain ⟨x, e⟩ := c16 k
  rw [e]
  rfl
theorem runs_ok (k : Nat) {sc d : D} {v3 v5 v6 v7 v8 v9 : Option D} {l : Nat} {T S : Sto} (hp : Pm 8 d) (h : Dr T S) (hT : T[l]? = some (.lst (marksL.map mkD))) :
    Ow (runsB (calls (k + 21)) [some sc, some (.loc 1), some d, v3, some (.loc (l + 2)), v5, v6, v7, v8, v9] S) fun x => x.1 = .rt (.bl true) := by
  unfold runsB
  rw [e_pick (k + 19), e_draw (k + 20)]
  obtain ⟨T1, g1, h1⟩ := h
  rw [ow_seq]
  rw [ow_asg, ow_mL, ow_cons, ow_lc]
  simp [-ow_seq]
  refine (drw 8 h1 (by decide) (by decide)).imp ?_
  rintro ⟨r, S1⟩ ⟨n, rfl, n1, h2⟩
  dsimp only at h2 ⊢
  simp [-ow_seq]
  refine ⟨by omega, ?_⟩
  refine (draws_ok (n := n) (l := l) (T := T1) (w := none) (by omega) (Dr.of h2) (g1.get hT) (fun c => by simp [wipeD]) (fun c => by simp [wipeD])).imp ?_
  rintro ⟨r, S2⟩ ⟨h3, be, rfl, lb, mb⟩
  dsimp only at h3 ⊢
  rw [tuple_lst get_snoc]
  simp [-ow_seq]
  obtain ⟨T2, g2, h3⟩ := h3
  have h3 := h3.app [.lst (be.map mkD)]
  have g2 := g2.trans (Gr.app (U := [Ob.lst (be.map mkD)]))
  generalize S2 ++ [Ob.lst (be.map mkD)] = S3 at h3 ⊢
  generalize T2 ++ [Ob.lst (be.map mkD)] = T3 at h3 g2
  rw [ow_seq]
  rw [ow_asg, ow_mL, ow_cons, ow_lc]
  simp [-ow_seq]
  refine (drw 7 h3 (by decide) (by decide)).imp ?_
  rintro ⟨r, S4⟩ ⟨m, rfl, m1, h4⟩
  dsimp only at h4 ⊢
  simp [-ow_seq]
  refine ⟨by omega, ?_⟩
  rw [show (1 + (m : Int)).toNat = m + 1 by omega]
  refine (draws_ok (n := m + 1) (l := l) (T := T3) (w := none) (by omega) (Dr.of h4) ((g1.trans g2).get hT) (fun c => by simp [wipeD]) (fun c => by simp [wipeD])).imp ?_
  rintro ⟨r, S5⟩ ⟨h5, ar, rfl, la, ma⟩
  dsimp only at h5 ⊢
  rw [tuple_lst get_snoc]
  simp [-ow_seq]
  obtain ⟨T5, g5, h5⟩ := h5
  have h5 := h5.app [.lst (ar.map mkD)]
  generalize S5 ++ [Ob.lst (ar.map mkD)] = S6 at h5 ⊢
  generalize T5 ++ [Ob.lst (ar.map mkD)] = T6 at h5
  have hR : RnOk ⟨be, ar⟩ := ⟨by dsimp only; omega, by dsimp only; omega, by dsimp only; omega, fun x hx => by
    rcases List.mem_append.mp hx with hx | hx
    · exact marks_ok x (mb x hx)
    · exact marks_ok x (ma x hx)⟩
  have hN := N_le hR
  have hN0 : 0 < (Rn.mk be ar).N := by
    have := N_lt hR.a1
    omega
  rw [ow_seq]
  simp [-ow_seq]
  refine (ltruths_ok hR 8 (k + 11) d S6 hp (by decide)).imp ?_
  rintro ⟨r, S7⟩ ⟨g7, lt, rfl, llt, h7⟩
  dsimp only at g7 h7 ⊢
  obtain ⟨T7, gT7, h8⟩ := h5.gr g7
  obtain ⟨q, rfl⟩ : ∃ q, lt = q + 2 := ⟨lt - 2, by have := h5.len; omega⟩
  have hq : T7[q]? = some (.lst (blL (Rn.mk be ar).N (tr ⟨be, ar⟩ d))) := by
    rw [← h8.at]
    exact h7
  rw [ow_seq, ow_for]
  simp [-ow_seq]
  refine (forR_inv (n := 4) (fun j env S8 => ∃ T8 o8 o9, DSt T8 S8 ∧ T8[q]? = some (.lst (blL (Rn.mk be ar).N (tr ⟨be, ar⟩ d))) ∧ env = [some sc, some (D.loc 1), some d, v3, some (D.loc (l + 2)), some (D.tup (List.map mkD be)), some (.tup (ar.map mkD)), some (.loc (q + 2)), o8, o9])
    (fun x => x.1 = .nx) (fun env S8 _ => rfl) (fun j env S8 hj ⟨T8, o8, o9, h9, hq8, e⟩ => ?step) ⟨T7, _, _, h8, hq, rfl⟩).imp ?imp
  case imp =>
    rintro ⟨fl, env, S8⟩ rfl
    simp
  case step =>
    subst e
    simp only [ow_gVar]
    rw [ow_seq]
    have hln : lenQ [.loc (q + 2)] S8 = some (.int (Rn.mk be ar).N, S8) := by
      rw [len_lst (h9.get hq8)]
      simp [blL]
    simp [-ow_seq, hln]
    refine (drw (T := T8) ((Rn.mk be ar).N : Int) h9 (by omega) (by omega)).imp ?_
    rintro ⟨r, S9⟩ ⟨i, rfl, hi, h10⟩
    dsimp only at h10 ⊢
    refine (holds_ok k hR hp (i := i) (by omega)).imp ?_
    rintro ⟨r, S10⟩ ⟨rfl, g10⟩
    obtain ⟨T10, gT10, h11⟩ := h10.gr g10
    dsimp only at h11 ⊢
    rw [ix_bl (h11.get (gT10.get hq8)) (show i < (Rn.mk be ar).N by omega)]
    simp only [ow_some, e_is]
    refine is_bl.imp ?_
    rintro x rfl
    simp
    exact ⟨T10, h11, gT10.get hq8⟩
theorem e_start (k : Nat) : calls (k + 1) 13 = runB 2 startQ := by
  obtain ⟨x, e⟩ := c13 k
  rw [e]
  rfl
theorem law_ok (k : Nat) {ns : List Int} (hn : ns.length ≤ 63) : Ow (calls (k + 22) 27 [.scr ns] []) fun x => x.1 = .bl true := by
  obtain ⟨x3, e3⟩ := c27 (k + 21)
  rw [e3, ow_runB]
  have eb : bd27 (calls (k + 21)) x3 = (sSeq (sAsg (mL (calls (k + 21) 13) (lCons (mVar 0) lNil)) (gVar 1)) (sSeq (sAsg (mL (calls (k + 21) 18) (lCons (mVar 1) (lCons (mL (calls (k + 21) 14) (lCons (mVar 1) (lCons (mC (.int 5)) lNil))) lNil))) (gVar 2)) (sSeq (sIf (bV (m2 eqP (mL (calls (k + 21) 14) (lCons (mVar 1) (lCons (mC (.int 3)) lNil))) (mC (.int 0)))) (sAsg (mL (calls (k + 21) 26) (lCons (mVar 1) (lCons (mVar 2) lNil))) (gVar 2)) sNext) (sSeq (sAsg (mAnd (mL (calls (k + 21) 24) (lCons (mVar 2) (lCons (mC (.int 8)) lNil))) (m2 leP (mL lenQ (lCons (mL (calls (k + 21) 25) (lCons (mVar 2) lNil)) lNil)) (mC (.int 6)))) (gVar 3)) (sSeq (sIf (bNot (bTru (mL (calls (k + 21) 16) (lCons (mL (calls (k + 21) 4) (lCons (mVar 2) lNil)) (lCons (mVar 3) lNil))))) (sRet (mC (.bl false))) sNext) (sSeq (sIf (bNot (bTru (mVar 3))) (sRet (mC (.bl true))) sNext) (sSeq (sAsg (mL lstP (lCons (mL tupP (lCons (mC (.str "call")) (lCons (mC (.str "p")) lNil))) (lCons (mL tupP (lCons (mC (.str "back")) (lCons (mC (.str "p")) lNil))) (lCons (mL tupP (lCons (mC (.str "say")) (lCons (mC (.str "hi")) lNil))) (lCons (mL tupP (lCons (mC (.str "quiet")) (lCons (mC (.str "")) lNil))) (lCons (mL tupP (lCons (mC (.str "say")) (lCons (mC (.str "ho")) lNil))) (lCons (mL tupP (lCons (mC (.str "call")) (lCons (mC (.str "q")) lNil))) lNil))))))) (gVar 4)) (runsB (calls (k + 21)))))))))) := rfl
  rw [eb, ow_seq]
  simp [-ow_seq, e_start]
  refine (startQ_ok hn).imp ?_
  rintro ⟨r, S1⟩ ⟨rfl, h1⟩
  dsimp only at h1 ⊢
  rw [ow_seq]
  simp [-ow_seq, e_draw]
  refine (drw 5 h1 (by decide) (by decide)).imp ?_
  rintro ⟨r, S2⟩ ⟨n, rfl, n1, h2⟩
  dsimp only at h2 ⊢
  refine (show Ow (calls (k + 21) 18 [.loc 1, .int n] S2) (fun x => Pr 6 x.1 ∧ Dr [] x.2) from ?_).imp ?_
  · have := lpromise_ok n (k + 18 - n) h2
    rw [show k + 18 - n + n + 3 = k + 21 by omega] at this
    exact this.imp fun x ⟨h, h'⟩ => ⟨h.mono (by omega), h'⟩
  rintro ⟨p, S3⟩ ⟨hp, T3, g3, h3⟩
  dsimp only at hp h3 ⊢
  rw [ow_seq]
  refine (show Ow (sIf (bV (m2 eqP (mL (calls (k + 21) 14) (lCons (mVar 1) (lCons (mC (.int 3)) lNil))) (mC (.int 0)))) (sAsg (mL (calls (k + 21) 26) (lCons (mVar 1) (lCons (mVar 2) lNil))) (gVar 2)) sNext [some (.scr ns), some (.loc 1), some p, none, none, none, none, none, none, none] S3) (fun x => x.1 = .nx ∧ ∃ p, x.2.1 = [some (.scr ns), some (.loc 1), some p, none, none, none, none, none, none, none] ∧ Pr 20 p ∧ Dr [] x.2.2) from ?_).imp ?_
  · simp [e_draw]
    refine (drw 3 h3 (by decide) (by decide)).imp ?_
    rintro ⟨r, S4⟩ ⟨m, rfl, m1, h4⟩
    dsimp only at h4 ⊢
    simp
    split
    · refine (odd_ok (k + 18) h4 hp).imp ?_
      rintro ⟨p2, S5⟩ ⟨hp2, h5⟩
      exact ⟨hp2, h5.trans g3⟩
    · exact ⟨hp.mono (by decide), T3, g3, h4⟩
  rintro ⟨fl, env, S4⟩ ⟨rfl, p, rfl, hp, T4, g4, h4⟩
  dsimp only at h4 ⊢
  rw [ow_seq]
  refine (show Ow (sAsg (mAnd (mL (calls (k + 21) 24) (lCons (mVar 2) (lCons (mC (.int 8)) lNil))) (m2 leP (mL lenQ (lCons (mL (calls (k + 21) 25) (lCons (mVar 2) lNil)) lNil)) (mC (.int 6)))) (gVar 3) [some (.scr ns), some (.loc 1), some p, none, none, none, none, none, none, none] S4) (fun x => x.1 = .nx ∧ x.2.1 = [some (.scr ns), some (.loc 1), some p, some (.bl (proB p)), none, none, none, none, none, none] ∧ Gr S4 x.2.2) from ?_).imp ?_
  · simp
    refine (lgood_ok 8 (k + 11) 20 p S4 hp (by decide)).imp ?_
    rintro ⟨r, S5⟩ ⟨rfl, g5⟩
    dsimp only at g5 ⊢
    simp
    split
    · rename_i hg
      refine (lahead_ok 8 (k + 11) p S5 (pm_of hp hg) (by decide)).imp ?_
      rintro ⟨r, S6⟩ ⟨g6, l, ys, rfl, ll, q1, q2⟩
      dsimp only at g6 q1 ⊢
      rw [len_lst q1]
      simp [proB, hg, once_dd_len q2]
      exact ⟨by constructor <;> intro z <;> omega, g5.trans g6⟩
    · rename_i hg
      simp [proB, hg]
      exact g5
  rintro ⟨fl, env, S5⟩ ⟨rfl, rfl, g5⟩
  dsimp only at g5 ⊢
  obtain ⟨T5, gT5, h5⟩ := h4.gr g5
  rw [ow_seq]
  simp [-ow_seq]
  refine (promise_ok (k + 10) 20 hp (by decide)).imp ?_
  rintro ⟨r, S6⟩ ⟨rfl, g6⟩
  dsimp only at g6 ⊢
  obtain ⟨T6, gT6, h6⟩ := h5.gr g6
  simp only [e_is]
  refine is_bl.imp ?_
  rintro x rfl
  simp [-ow_seq]
  rw [ow_seq]
  simp [-ow_seq]
  intro hpb
  · have hpm : Pm 8 p := pm_of hp (by
      unfold proB at hpb
      simp at hpb
      exact hpb.1)
    rw [ow_seq]
    simp [-ow_seq, tup_ok, lst_ok]
    have h7 := h6.app [.lst (marksL.map mkD)]
    have hlen := h6.len
    have hT7 : (T6 ++ [Ob.lst (marksL.map mkD)])[T6.length]? = some (.lst (marksL.map mkD)) := get_snoc
    have := runs_ok k (sc := .scr ns) (v3 := some (.bl (proB p))) (v5 := none) (v6 := none) (v7 := none) (v8 := none) (v9 := none) hpm (Dr.of h7) hT7
    rw [← hlen] at this
    refine this.imp ?_
    rintro ⟨fl, env, S8⟩ rfl
    rfl
theorem pure_law (ns : List Int) (h : ns.length ≤ 63) : ∃ S', calls 100 27 [.scr ns] [] = some (.bl true, S') := by
  obtain ⟨⟨d, S1⟩, e, h1⟩ := law_ok 78 h
  dsimp only at h1
  subst h1
  exact ⟨S1, e⟩
end k12
end DL
open PySem PySem.W PyProof.Rows in
set_option maxRecDepth 100000 in
set_option maxHeartbeats 0 in
theorem PySem.Challenge.cw_calltowers_k12_truth_on_round_runs_holds : PySem.Challenge.rw_calltowers_k12_truth_on_round_runs.Holds := by
  w_on; o_law; k_head; (case hw => w_witness2)
  k_fill
  refine DL.k12.walk (l := PySem.Challenge.rw_calltowers_k12_truth_on_round_runs) rfl rfl DL.k12.pure_law (fun w h Y => PySem.W.kIn_of Y) ?F
  case F =>
    intro w mg fa h KX G hmg
    refine' DL.k12.all_mk KX G hmg ?aC0 ?pg0 ?hd0 ?po0 ?sa0 ?mk0 ?kc0 ?a0 ?l0 ?c0 ?k0 ?a1 ?l1 ?c1 ?k1 ?a2 ?l2 ?c2 ?k2 ?a3 ?l3 ?c3 ?k3 ?a4 ?l4 ?c4 ?k4 ?a5 ?l5 ?c5 ?k5 ?a6 ?i6 ?l6 ?c6 ?k6 ?a7 ?i7 ?l7 ?c7 ?k7 ?a8 ?i8 ?l8 ?c8 ?k8 ?a9 ?i9 ?l9 ?c9 ?k9 ?a10 ?i10 ?l10 ?c10 ?k10 ?a11 ?l11 ?c11 ?k11 ?a12 ?l12 ?c12 ?k12 ?a13 ?l13 ?c13 ?k13 ?a14 ?l14 ?c14 ?k14 ?a15 ?l15 ?c15 ?k15 ?a16 ?l16 ?c16 ?k16 ?a17 ?l17 ?c17 ?k17 ?a18 ?l18 ?c18 ?k18 ?a19 ?l19 ?c19 ?k19 ?a20 ?l20 ?c20 ?k20 ?a21 ?l21 ?c21 ?k21 ?a22 ?l22 ?c22 ?k22 ?a23 ?l23 ?c23 ?k23 ?a24 ?l24 ?c24 ?k24 ?a25 ?l25 ?c25 ?k25 ?a26 ?l26 ?c26 ?k26 ?a27 ?l27 ?c27 ?k27 ?z0 ?z1 ?z2 ?z3 ?z4 ?z5 ?z6 ?z7 ?z8 ?z9 ?z10 ?z11 ?z12 ?n0 ?n1 ?n2 ?n3 ?gv0 ?gv1 ?qK1 ?gv2 ?gv3 ?qK3 ?gv4 ?qK4 ?gv5 ?gv6 ?gvT0 ?loT0 ?qT0
    (case aC0 => k_is)
    (case pg0 => k_is)
    (case hd0 => k_is)
    (case po0 => k_is)
    (case sa0 => k_is)
    (case mk0 => k_is)
    (case kc0 => k_is)
    (case a0 => k_is)
    (case l0 => k_is)
    (case c0 => k_is)
    (case k0 => k_is)
    (case a1 => k_is)
    (case l1 => k_is)
    (case c1 => k_is)
    (case k1 => k_is)
    (case a2 => k_is)
    (case l2 => k_is)
    (case c2 => k_is)
    (case k2 => k_is)
    (case a3 => k_is)
    (case l3 => k_is)
    (case c3 => k_is)
    (case k3 => k_is)
    (case a4 => k_is)
    (case l4 => k_is)
    (case c4 => k_is)
    (case k4 => k_is)
    (case a5 => k_is)
    (case l5 => k_is)
    (case c5 => k_is)
    (case k5 => k_is)
    (case a6 => k_is)
    (case i6 => k_is)
    (case l6 => k_is)
    (case c6 => k_is)
    (case k6 => k_is)
    (case a7 => k_is)
    (case i7 => k_is)
    (case l7 => k_is)
    (case c7 => k_is)
    (case k7 => k_is)
    (case a8 => k_is)
    (case i8 => k_is)
    (case l8 => k_is)
    (case c8 => k_is)
    (case k8 => k_is)
    (case a9 => k_is)
    (case i9 => k_is)
    (case l9 => k_is)
    (case c9 => k_is)
    (case k9 => k_is)
    (case a10 => k_is)
    (case i10 => k_is)
    (case l10 => k_is)
    (case c10 => k_is)
    (case k10 => k_is)
    (case a11 => k_is)
    (case l11 => k_is)
    (case c11 => k_is)
    (case k11 => k_is)
    (case a12 => k_is)
    (case l12 => k_is)
    (case c12 => k_is)
    (case k12 => k_is)
    (case a13 => k_is)
    (case l13 => k_is)
    (case c13 => k_is)
    (case k13 => k_is)
    (case a14 => k_is)
    (case l14 => k_is)
    (case c14 => k_is)
    (case k14 => k_is)
    (case a15 => k_is)
    (case l15 => k_is)
    (case c15 => k_is)
    (case k15 => k_is)
    (case a16 => k_is)
    (case l16 => k_is)
    (case c16 => k_is)
    (case k16 => k_is)
    (case a17 => k_is)
    (case l17 => k_is)
    (case c17 => k_is)
    (case k17 => k_is)
    (case a18 => k_is)
    (case l18 => k_is)
    (case c18 => k_is)
    (case k18 => k_is)
    (case a19 => k_is)
    (case l19 => k_is)
    (case c19 => k_is)
    (case k19 => k_is)
    (case a20 => k_is)
    (case l20 => k_is)
    (case c20 => k_is)
    (case k20 => k_is)
    (case a21 => k_is)
    (case l21 => k_is)
    (case c21 => k_is)
    (case k21 => k_is)
    (case a22 => k_is)
    (case l22 => k_is)
    (case c22 => k_is)
    (case k22 => k_is)
    (case a23 => k_is)
    (case l23 => k_is)
    (case c23 => k_is)
    (case k23 => k_is)
    (case a24 => k_is)
    (case l24 => k_is)
    (case c24 => k_is)
    (case k24 => k_is)
    (case a25 => k_is)
    (case l25 => k_is)
    (case c25 => k_is)
    (case k25 => k_is)
    (case a26 => k_is)
    (case l26 => k_is)
    (case c26 => k_is)
    (case k26 => k_is)
    (case a27 => k_is)
    (case l27 => k_is)
    (case c27 => k_is)
    (case k27 => k_is)
    (case z0 => k_is)
    (case z1 => k_is)
    (case z2 => k_is)
    (case z3 => k_is)
    (case z4 => k_is)
    (case z5 => k_is)
    (case z6 => k_is)
    (case z7 => k_is)
    (case z8 => k_is)
    (case z9 => k_is)
    (case z10 => k_is)
    (case z11 => k_is)
    (case z12 => k_is)
    (case n0 => k_is)
    (case n1 => k_is)
    (case n2 => k_is)
    (case n3 => k_is)
    (case gv0 => k_is)
    (case gv1 => k_is)
    (case qK1 => k_is)
    (case gv2 => k_is)
    (case gv3 => k_is)
    (case qK3 => k_is)
    (case gv4 => k_is)
    (case qK4 => k_is)
    (case gv5 => k_is)
    (case gv6 => k_is)
    (case gvT0 => k_is)
    (case loT0 => first | exact rfl | decide | (dsimp only; decide +kernel))
    (case qT0 => k_is)
