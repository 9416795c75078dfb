import PyProof.Rows.All
import Wide.All
import OpenK.AllK
import Wide.FinOn
import HandS.ForMost
import HandS.Deep
import HandS.IsInst
import HandS.TupAny
import KE.KeyNested
import KE.LtSeq
import PyProof.DictDisplay
import HandS.Star
import KE.SortCalls
import KE.SortKeyHeap
import HandS.SortKw
import HandS.Keys
import PySem.Challenge.RW_calltowers_k28_order_of_things
set_option Elab.async false
set_option linter.all false
set_option maxRecDepth 100000
set_option maxHeartbeats 800000
/-! DLa: data as trees, a store of mutable objects, and how the abstract heap bears them. -/
namespace DL
open PySem PySem.Spec L2

/-- a value: data as a tree; a list, a dict, an instance by its number in the store -/
inductive D where
  | non
  | bl (b : Bool)
  | int (i : Int)
  | str (x : Str)
  | tup (ds : List D)
  | loc (n : Nat)
  /-- the script -/
  | scr (ns : List Int)

/-- what stands in the store -/
inductive Ob where
  | lst (xs : List D)
  | dct (kvs : List (D × D))
  | ins (c : Nat) (fs : List (Str × D))

abbrev Sto := List Ob
abbrev Vars := List (Option D)

/-! ### keys -/
mutual
def D.key : D → NestedKey
  | .non => .none
  | .bl b => .num (if b = true then 1 else 0)
  | .int i => .num i
  | .str x => .text x
  | .tup ds => .tup (D.keys ds)
  | .loc _ => .none
  | .scr _ => .none
def D.keys : List D → List NestedKey
  | [] => []
  | d :: ds => D.key d :: D.keys ds
end
mutual
/-- no list, dict or instance in it -/
def D.pure : D → Bool
  | .loc _ => false
  | .scr _ => false
  | .tup ds => D.pures ds
  | .non => true
  | .bl _ => true
  | .int _ => true
  | .str _ => true
def D.pures : List D → Bool
  | [] => true
  | d :: ds => D.pure d && D.pures ds
end
mutual
def D.depth : D → Nat
  | .tup ds => D.depths ds + 1
  | .non => 0
  | .bl _ => 0
  | .int _ => 0
  | .str _ => 0
  | .loc _ => 0
  | .scr _ => 0
def D.depths : List D → Nat
  | [] => 0
  | d :: ds => max (D.depth d) (D.depths ds)
end

/-! ### what the module is -/
structure Ctx where
  K : PySem.W.Frag
  w : World
  /-- the classes' addresses -/
  ca : Nat → Addr

/-- the script: a frozen list, or the module's own -/
def ScL (K : PySem.W.Frag) (H : Hp) (a : Addr) (vs : List V) : Prop := (∃ o, H a = some (.frz o (.lst vs))) ∨ ∃ (o : Obj) (its : Array Value) (n : Nat), K.lookup a = some o ∧ o.cls = .type "list" ∧ o.dict = none ∧ o.data = .seq its n ∧ its.size ≤ sizeLine ∧ Vals vs its.toList
theorem ScL.sq {K : PySem.W.Frag} {H : Hp} {a : Addr} {vs : List V} (h : ScL K H a vs) : SqL K H a vs := h.elim (fun ⟨o, q⟩ => .inl (.inr ⟨o, q⟩)) .inr

/-! ### a tree at a value -/
mutual
def DV (K : PySem.W.Frag) (r : List Addr) (H : Hp) : D → V → Prop
  | .non, v => v = .non
  | .bl b, v => v = .bl b
  | .int i, v => v = .int i
  | .str x, v => v = .str x
  | .tup ds, v => ∃ a vs, v = .ref a ∧ SqT K H a vs ∧ DVs K r H ds vs
  | .loc n, v => ∃ a, r[n]? = some a ∧ v = .ref a
  | .scr ns, v => ∃ a, v = .ref a ∧ ScL K H a (ns.map V.int)
def DVs (K : PySem.W.Frag) (r : List Addr) (H : Hp) : List D → List V → Prop
  | [], vs => vs = []
  | d :: ds, vs => ∃ v us, vs = v :: us ∧ DV K r H d v ∧ DVs K r H ds us
end

/-- later: more addresses, the tuples as they were -/
structure Ext (K : PySem.W.Frag) (r : List Addr) (H : Hp) (r' : List Addr) (H' : Hp) : Prop where
  pre : r <+: r'
  tups : ∀ a vs, SqT K H a vs → SqT K H' a vs
  scrs : ∀ a vs, ScL K H a vs → ScL K H' a vs
  frame : ∀ a u, H a = some u → a ∉ r → H' a = some u ∧ a ∉ r'
theorem Ext.refl {K r H} : Ext K r H r H := ⟨List.prefix_refl _, fun _ _ h => h, fun _ _ h => h, fun _ _ h n => ⟨h, n⟩⟩
theorem Ext.trans {K r H r1 H1 r2 H2} (a : Ext K r H r1 H1) (b : Ext K r1 H1 r2 H2) : Ext K r H r2 H2 :=
  ⟨a.pre.trans b.pre, fun x vs h => b.tups x vs (a.tups x vs h), fun x vs h => b.scrs x vs (a.scrs x vs h), fun x u h n => let ⟨h1, n1⟩ := a.frame x u h n; b.frame x u h1 n1⟩
theorem pre_get {α : Type} {l l' : List α} (h : l <+: l') {n : Nat} {a : α} (e : l[n]? = some a) : l'[n]? = some a := by
  obtain ⟨t, rfl⟩ := h
  rw [List.getElem?_append_left (List.getElem?_eq_some_iff.mp e).1]
  exact e
/-- .. without the frame -/
structure ExtW (K : PySem.W.Frag) (r : List Addr) (H : Hp) (r' : List Addr) (H' : Hp) : Prop where
  pre : r <+: r'
  tups : ∀ a vs, SqT K H a vs → SqT K H' a vs
  scrs : ∀ a vs, ScL K H a vs → ScL K H' a vs
theorem Ext.w {K r H r' H'} (x : Ext K r H r' H') : ExtW K r H r' H' := ⟨x.pre, x.tups, x.scrs⟩
mutual
theorem DV.extW {K r H r' H'} (x : ExtW K r H r' H') : ∀ (d : D) (v : V), DV K r H d v → DV K r' H' d v
  | .non, _, h => h
  | .bl _, _, h => h
  | .int _, _, h => h
  | .str _, _, h => h
  | .tup ds, _, h => by
    obtain ⟨a, vs, e, h1, h2⟩ := h
    exact ⟨a, vs, e, x.tups _ _ h1, DVs.extW x ds vs h2⟩
  | .loc n, _, h => by
    obtain ⟨a, e, h1⟩ := h
    exact ⟨a, pre_get x.pre e, h1⟩
  | .scr ns, _, h => by
    obtain ⟨a, e, h1⟩ := h
    exact ⟨a, e, x.scrs _ _ h1⟩
theorem DVs.extW {K r H r' H'} (x : ExtW K r H r' H') : ∀ (ds : List D) (vs : List V), DVs K r H ds vs → DVs K r' H' ds vs
  | [], _, h => h
  | d :: ds, _, h => by
    obtain ⟨v, us, e, h1, h2⟩ := h
    exact ⟨v, us, e, DV.extW x d v h1, DVs.extW x ds us h2⟩
end
theorem DV.ext {K r H r' H'} (x : Ext K r H r' H') (d : D) (v : V) (h : DV K r H d v) : DV K r' H' d v := DV.extW x.w d v h
theorem DVs.ext {K r H r' H'} (x : Ext K r H r' H') (ds : List D) (vs : List V) (h : DVs K r H ds vs) : DVs K r' H' ds vs := DVs.extW x.w ds vs h
section
variable {K : PySem.W.Frag} {r : List Addr} {H : Hp}
theorem DVs.nil : DVs K r H [] [] := by unfold DVs; rfl
theorem DVs.cons {d : D} {v : V} {ds : List D} {vs : List V} (h : DV K r H d v) (t : DVs K r H ds vs) : DVs K r H (d :: ds) (v :: vs) := by unfold DVs; exact ⟨v, vs, rfl, h, t⟩
theorem DVs.length : ∀ {ds : List D} {vs : List V}, DVs K r H ds vs → vs.length = ds.length
  | [], _, h => by unfold DVs at h; rw [h]; rfl
  | _ :: ds, _, h => by
    unfold DVs at h
    obtain ⟨v, us, rfl, _, t⟩ := h
    simp [DVs.length t]
theorem DVs.get : ∀ {ds : List D} {vs : List V} {i : Nat} {d : D}, DVs K r H ds vs → ds[i]? = some d → ∃ v, vs[i]? = some v ∧ DV K r H d v
  | [], _, _, _, _, e => by simp at e
  | x :: ds, _, i, d, h, e => by
    unfold DVs at h
    obtain ⟨v, us, rfl, h1, t⟩ := h
    cases i with
    | zero => simp at e; subst e; exact ⟨v, rfl, h1⟩
    | succ i => simpa using DVs.get (i := i) t (by simpa using e)
theorem DVs.getV : ∀ {ds : List D} {vs : List V} {i : Nat} {v : V}, DVs K r H ds vs → vs[i]? = some v → ∃ d, ds[i]? = some d ∧ DV K r H d v
  | [], _, _, _, h, e => by unfold DVs at h; subst h; simp at e
  | x :: ds, _, i, v, h, e => by
    unfold DVs at h
    obtain ⟨w, us, rfl, h1, t⟩ := h
    cases i with
    | zero => simp at e; subst e; exact ⟨x, rfl, h1⟩
    | succ i => simpa using DVs.getV (i := i) t (by simpa using e)
theorem DVs.append : ∀ {ds es : List D} {vs us : List V}, DVs K r H ds vs → DVs K r H es us → DVs K r H (ds ++ es) (vs ++ us)
  | [], _, _, _, h, t => by unfold DVs at h; subst h; exact t
  | d :: ds, _, _, _, h, t => by
    unfold DVs at h
    obtain ⟨v, us, rfl, h1, h2⟩ := h
    exact DVs.cons h1 (DVs.append h2 t)
theorem DVs.take : ∀ {ds : List D} {vs : List V} (n : Nat), DVs K r H ds vs → DVs K r H (ds.take n) (vs.take n)
  | ds, vs, 0, _ => DVs.nil
  | [], _, n + 1, h => by unfold DVs at h; subst h; exact DVs.nil
  | d :: ds, _, n + 1, h => by
    unfold DVs at h
    obtain ⟨v, us, rfl, h1, h2⟩ := h
    exact DVs.cons h1 (DVs.take n h2)
theorem DVs.drop : ∀ {ds : List D} {vs : List V} (n : Nat), DVs K r H ds vs → DVs K r H (ds.drop n) (vs.drop n)
  | _, _, 0, h => h
  | [], _, n + 1, h => by unfold DVs at h; subst h; exact DVs.nil
  | d :: ds, _, n + 1, h => by
    unfold DVs at h
    obtain ⟨v, us, rfl, h1, h2⟩ := h
    exact DVs.drop n h2
theorem DVs.set : ∀ {ds : List D} {vs : List V} {d : D} {v : V} (i : Nat), DVs K r H ds vs → DV K r H d v → DVs K r H (ds.set i d) (vs.set i v)
  | [], _, _, _, _, h, _ => by unfold DVs at h; subst h; exact DVs.nil
  | x :: ds, _, d, v, i, h, t => by
    unfold DVs at h
    obtain ⟨w, us, rfl, h1, h2⟩ := h
    cases i with
    | zero => exact DVs.cons t h2
    | succ i => exact DVs.cons h1 (DVs.set i h2 t)
theorem DVs.dropLast {ds : List D} {vs : List V} (h : DVs K r H ds vs) : DVs K r H ds.dropLast vs.dropLast := by
  rw [List.dropLast_eq_take, List.dropLast_eq_take, h.length]
  exact h.take _
theorem DVs.reverse : ∀ {ds : List D} {vs : List V}, DVs K r H ds vs → DVs K r H ds.reverse vs.reverse
  | [], _, h => by unfold DVs at h; subst h; exact DVs.nil
  | d :: ds, _, h => by
    unfold DVs at h
    obtain ⟨v, us, rfl, h1, h2⟩ := h
    rw [List.reverse_cons, List.reverse_cons]
    exact (DVs.reverse h2).append (DVs.cons h1 DVs.nil)
theorem DVs.ints : ∀ (ns : List Int), DVs K r H (ns.map D.int) (ns.map V.int)
  | [] => DVs.nil
  | n :: ns => DVs.cons (by unfold DV; rfl) (DVs.ints ns)
theorem DVs.one {d : D} {vs : List V} (h : DVs K r H [d] vs) : ∃ v, vs = [v] ∧ DV K r H d v := by
  unfold DVs at h
  obtain ⟨v, us, rfl, h1, h2⟩ := h
  unfold DVs at h2
  subst h2
  exact ⟨v, rfl, h1⟩
theorem DV.tup_mk {a : Addr} {ds : List D} {vs : List V} (h : SqT K H a vs) (t : DVs K r H ds vs) : DV K r H (.tup ds) (.ref a) := by unfold DV; exact ⟨a, vs, rfl, h, t⟩
end

/-! ### a dict as it lies: entries by key, the key's value, the value -/
abbrev Ent := NestedKey × V × V
def RawD (w : World) (a : Addr) (es : List Ent) (h : Heap) : Prop :=
  ∃ o ents ep, h.get? a = some o ∧ o.ExactDict ∧ o.data = .dict ents ep ∧ Paired (fun (e : Ent) (x : DictEntry) => x.hash = e.1.hash w ∧ RelV e.2.1 x.key ∧ RelV e.2.2 x.val) es ents.toList
theorem RawD.ok {w : World} {a : Addr} {es : List Ent} {P : Program} {H : Hp} {h : Heap} (x : RawD w a es h) : ObjOk P w H h a (.ext (RawD w a es)) := by
  refine ⟨x, ?_, fun h1 h2 y k => ?_⟩
  · obtain ⟨o, _, _, e, _⟩ := x
    exact ⟨o, e⟩
  · obtain ⟨o, ents, ep, e, q⟩ := y
    exact ⟨o, ents, ep, k o e, q⟩
def EntsV (K : PySem.W.Frag) (r : List Addr) (H : Hp) (kvs : List (D × D)) (es : List Ent) : Prop :=
  Paired (fun (p : D × D) (e : Ent) => p.1.pure = true ∧ p.1.depth ≤ 8 ∧ e.1 = p.1.key ∧ DV K r H p.1 e.2.1 ∧ DV K r H p.2 e.2.2) kvs es
def FldsV (K : PySem.W.Frag) (r : List Addr) (H : Hp) (fs : List (Str × D)) (vs : List (Str × V)) : Prop :=
  Paired (fun (p : Str × D) (q : Str × V) => p.1 = q.1 ∧ DV K r H p.2 q.2) fs vs

/-- an object of the store at an address -/
def OV (G : Ctx) (r : List Addr) (H : Hp) (a : Addr) : Ob → Prop
  | .lst ds => ∃ vs, H a = some (.lst vs) ∧ DVs G.K r H ds vs
  | .dct kvs => kvs.length ≤ sizeLine ∧ (a == sysModules) = false ∧ (kvs.map (·.1.key)).Nodup ∧ ∃ es, H a = some (.ext (RawD G.w a es)) ∧ EntsV G.K r H kvs es
  | .ins c fs => ∃ dx vs, H a = some (.ins (G.ca c) dx vs) ∧ FldsV G.K r H fs vs
theorem EntsV.ext {K r H r' H'} (x : ExtW K r H r' H') {kvs : List (D × D)} {es : List Ent} (h : EntsV K r H kvs es) : EntsV K r' H' kvs es :=
  Paired.mapP h fun p e ⟨q0, q1, q2, q3, q4⟩ => ⟨q0, q1, q2, DV.extW x _ _ q3, DV.extW x _ _ q4⟩
theorem FldsV.ext {K r H r' H'} (x : ExtW K r H r' H') {fs : List (Str × D)} {vs : List (Str × V)} (h : FldsV K r H fs vs) : FldsV K r' H' fs vs :=
  Paired.mapP h fun p e ⟨q0, q1⟩ => ⟨q0, DV.extW x _ _ q1⟩
theorem OV.ext {G : Ctx} {r r' : List Addr} {H H' : Hp} (x : ExtW G.K r H r' H') {a : Addr} (k : H' a = H a) : ∀ {o : Ob}, OV G r H a o → OV G r' H' a o
  | .lst ds, h => by
    obtain ⟨vs, e, q⟩ := h
    exact ⟨vs, k.trans e, DVs.extW x _ _ q⟩
  | .dct kvs, h => by
    obtain ⟨z, n, nd, es, e, q⟩ := h
    exact ⟨z, n, nd, es, k.trans e, q.ext x⟩
  | .ins c fs, h => by
    obtain ⟨dx, vs, e, q⟩ := h
    exact ⟨dx, vs, k.trans e, q.ext x⟩
theorem OV.held {G : Ctx} {r : List Addr} {H : Hp} {a : Addr} : ∀ {o : Ob}, OV G r H a o → ∃ u, H a = some u ∧ (∀ xs, u ≠ .tup xs) ∧ ∀ ob z, u ≠ .frz ob z
  | .lst _, h => by obtain ⟨vs, e, _⟩ := h; exact ⟨_, e, (fun _ z => by cases z), (fun _ _ z => by cases z)⟩
  | .dct _, h => by obtain ⟨_, _, _, es, e, _⟩ := h; exact ⟨_, e, (fun _ z => by cases z), (fun _ _ z => by cases z)⟩
  | .ins _ _, h => by obtain ⟨dx, vs, e, _⟩ := h; exact ⟨_, e, (fun _ z => by cases z), (fun _ _ z => by cases z)⟩

/-- the store is borne -/
structure RepS (G : Ctx) (r : List Addr) (S : Sto) (H : Hp) : Prop where
  len : r.length = S.length
  nd : r.Nodup
  at_ : ∀ (n : Nat) (o : Ob) (a : Addr), S[n]? = some o → r[n]? = some a → OV G r H a o

section
variable {G : Ctx} {r : List Addr} {S : Sto} {H : Hp}
theorem RepS.get (R : RepS G r S H) {n : Nat} {o : Ob} (e : S[n]? = some o) : ∃ a, r[n]? = some a ∧ OV G r H a o := by
  have hn : n < r.length := by rw [R.len]; exact (List.getElem?_eq_some_iff.mp e).1
  exact ⟨r[n], List.getElem?_eq_getElem hn, R.at_ n o _ e (List.getElem?_eq_getElem hn)⟩
theorem RepS.free (R : RepS G r S H) {p : Addr} (hp : H p = none) : p ∉ r := fun hm => by
  obtain ⟨n, e⟩ := List.mem_iff_getElem?.mp hm
  have hn : n < S.length := by rw [← R.len]; exact (List.getElem?_eq_some_iff.mp e).1
  obtain ⟨u, e', _⟩ := (R.at_ n _ p (List.getElem?_eq_getElem hn) e).held
  rw [hp] at e'; cases e'
theorem sqT_upd {K : PySem.W.Frag} {p : Addr} {o : HO} (hp : H p = none) {a : Addr} {vs : List V} (h : SqT K H a vs) : SqT K (upd H p o) a vs := by
  rcases h with (h | ⟨u, h⟩) | h
  · exact .inl (.inl (by rw [upd_ne (ne_of_none h hp)]; exact h))
  · exact .inl (.inr ⟨u, by rw [upd_ne (ne_of_none h hp)]; exact h⟩)
  · exact .inr h
theorem sqT_wr {K : PySem.W.Frag} {p : Addr} {o u : HO} (hu : H p = some u) (h1 : ∀ xs, u ≠ .tup xs) (h2 : ∀ ob z, u ≠ .frz ob z) {a : Addr} {vs : List V} (h : SqT K H a vs) : SqT K (upd H p o) a vs := by
  rcases h with (h | ⟨ob, h⟩) | h
  · refine .inl (.inl ?_)
    rw [upd_ne]; exact h
    rintro rfl; rw [hu] at h; exact h1 _ (Option.some.inj h)
  · refine .inl (.inr ⟨ob, ?_⟩)
    rw [upd_ne]; exact h
    rintro rfl; rw [hu] at h; exact h2 _ _ (Option.some.inj h)
  · exact .inr h
theorem scL_upd {K : PySem.W.Frag} {p : Addr} {o : HO} (hp : H p = none) {a : Addr} {vs : List V} (h : ScL K H a vs) : ScL K (upd H p o) a vs := by
  rcases h with ⟨u, h⟩ | h
  · exact .inl ⟨u, by rw [upd_ne (ne_of_none h hp)]; exact h⟩
  · exact .inr h
theorem scL_wr {K : PySem.W.Frag} {p : Addr} {o u : HO} (hu : H p = some u) (h2 : ∀ ob z, u ≠ .frz ob z) {a : Addr} {vs : List V} (h : ScL K H a vs) : ScL K (upd H p o) a vs := by
  rcases h with ⟨ob, h⟩ | h
  · refine .inl ⟨ob, ?_⟩
    rw [upd_ne]; exact h
    rintro rfl; rw [hu] at h; exact h2 _ _ (Option.some.inj h)
  · exact .inr h
/-- a new object that the store does not name (a tuple, a list in the making) -/
theorem RepS.side (R : RepS G r S H) {p : Addr} {u : HO} (hp : H p = none) : Ext G.K r H r (upd H p u) ∧ RepS G r S (upd H p u) := by
  have x : Ext G.K r H r (upd H p u) := ⟨List.prefix_refl _, fun a us h => sqT_upd hp h, fun a us h => scL_upd hp h, fun a u h n => ⟨by rw [upd_ne (ne_of_none h hp)]; exact h, n⟩⟩
  refine ⟨x, R.len, R.nd, fun n o a e1 e2 => (R.at_ n o a e1 e2).ext x.w (upd_ne fun z => ?_)⟩
  exact R.free hp (z ▸ List.mem_of_getElem? e2)
theorem RepS.tup (R : RepS G r S H) {p : Addr} {vs : List V} (hp : H p = none) : Ext G.K r H r (upd H p (.tup vs)) ∧ RepS G r S (upd H p (.tup vs)) := R.side hp
/-- such a list is written -/
theorem RepS.sideW (R : RepS G r S H) {p : Addr} {vs us : List V} (hp : H p = some (.lst vs)) (hr : p ∉ r) : ExtW G.K r H r (upd H p (.lst us)) ∧ RepS G r S (upd H p (.lst us)) := by
  have x : ExtW G.K r H r (upd H p (.lst us)) := ⟨List.prefix_refl _, fun a ws h => sqT_wr hp (fun _ z => by cases z) (fun _ _ z => by cases z) h, fun a ws h => scL_wr hp (fun _ _ z => by cases z) h⟩
  exact ⟨x, R.len, R.nd, fun n o a e1 e2 => (R.at_ n o a e1 e2).ext x (upd_ne fun z => hr (z ▸ List.mem_of_getElem? e2))⟩
/-- such a list is named by the store -/
theorem RepS.reg (R : RepS G r S H) {p : Addr} {ds : List D} {vs : List V} (hp : H p = some (.lst vs)) (hr : p ∉ r) (q : DVs G.K r H ds vs) : ExtW G.K r H (r ++ [p]) H ∧ RepS G (r ++ [p]) (S ++ [.lst ds]) H := by
  have x : ExtW G.K r H (r ++ [p]) H := ⟨List.prefix_append _ _, fun a ws h => h, fun a ws h => h⟩
  refine ⟨x, by simp [R.len], ?_, fun n o' a e1 e2 => ?_⟩
  · rw [List.nodup_append]
    exact ⟨R.nd, by simp, fun y hy z hz => by simp at hz; subst hz; exact fun q => hr (q ▸ hy)⟩
  · by_cases hn : n < S.length
    · rw [List.getElem?_append_left hn] at e1
      rw [List.getElem?_append_left (by rw [R.len]; exact hn)] at e2
      exact (R.at_ n o' a e1 e2).ext x rfl
    · have hn' : n = S.length := by
        have := (List.getElem?_eq_some_iff.mp e1).1
        simp at this; omega
      subst hn'
      simp at e1
      rw [← R.len] at e2
      simp at e2
      subst e1 e2
      exact ⟨vs, hp, DVs.extW x _ _ q⟩
/-- a new object of the store; more may be tracked that the store does not name -/
theorem RepS.new (R : RepS G r S H) {p : Addr} {u : HO} {o : Ob} (hp : H p = none) (x : Ext G.K r H (r ++ [p]) (upd H p u) → OV G (r ++ [p]) (upd H p u) p o) :
    Ext G.K r H (r ++ [p]) (upd H p u) ∧ RepS G (r ++ [p]) (S ++ [o]) (upd H p u) := by
  have e : Ext G.K r H (r ++ [p]) (upd H p u) := ⟨List.prefix_append _ _, fun a us h => sqT_upd hp h, fun a us h => scL_upd hp h, fun a u h n => ⟨by rw [upd_ne (ne_of_none h hp)]; exact h, by simp [n, ne_of_none h hp]⟩⟩
  have hf := R.free hp
  refine ⟨e, by simp [R.len], ?_, fun n o' a e1 e2 => ?_⟩
  · rw [List.nodup_append]
    exact ⟨R.nd, by simp, fun y hy z hz => by simp at hz; subst hz; exact fun q => hf (q ▸ hy)⟩
  · by_cases hn : n < S.length
    · rw [List.getElem?_append_left hn] at e1
      rw [List.getElem?_append_left (by rw [R.len]; exact hn)] at e2
      exact (R.at_ n o' a e1 e2).ext e.w (upd_ne fun z => hf (z ▸ List.mem_of_getElem? e2))
    · have hn' : n = S.length := by
        have := (List.getElem?_eq_some_iff.mp e1).1
        simp at this; omega
      subst hn'
      simp at e1
      rw [← R.len] at e2
      simp at e2
      subst e1 e2
      exact x e
theorem RepS.lst (R : RepS G r S H) {p : Addr} {ds : List D} {vs : List V} (hp : H p = none) (h : DVs G.K r H ds vs) :
    Ext G.K r H (r ++ [p]) (upd H p (.lst vs)) ∧ RepS G (r ++ [p]) (S ++ [.lst ds]) (upd H p (.lst vs)) :=
  R.new hp fun x => ⟨vs, upd_same, DVs.ext x _ _ h⟩
theorem RepS.newLoc (R : RepS G r S H) {K : PySem.W.Frag} {p : Addr} {H' : Hp} : DV K (r ++ [p]) H' (.loc S.length) (.ref p) := by
  unfold DV
  exact ⟨p, by rw [← R.len]; simp, rfl⟩
/-- an object of the store is written -/
theorem RepS.wr (R : RepS G r S H) {n : Nat} {a : Addr} {o o' : Ob} {u : HO} (e : S[n]? = some o) (ea : r[n]? = some a) (x : Ext G.K r H r (upd H a u) → OV G r (upd H a u) a o') :
    Ext G.K r H r (upd H a u) ∧ RepS G r (S.set n o') (upd H a u) := by
  obtain ⟨u0, e0, h1, h2⟩ := (R.at_ n o a e ea).held
  have ex : Ext G.K r H r (upd H a u) := ⟨List.prefix_refl _, fun b us h => sqT_wr e0 h1 h2 h, fun b us h => scL_wr e0 h2 h, fun b v h n => ⟨by
    have hne : b ≠ a := by rintro rfl; exact n (List.mem_of_getElem? ea)
    rw [upd_ne hne]; exact h, n⟩⟩
  refine ⟨ex, by simp [R.len], R.nd, fun m o1 b e1 e2 => ?_⟩
  by_cases hm : n = m
  · subst hm
    rw [ea] at e2; cases e2
    have hlt := (List.getElem?_eq_some_iff.mp e).1
    rw [List.getElem?_set_self hlt] at e1
    cases e1
    exact x ex
  · rw [List.getElem?_set_ne hm] at e1
    refine (R.at_ m o1 b e1 e2).ext ex.w (upd_ne fun z => hm ?_)
    subst z
    obtain ⟨q1, r1⟩ := List.getElem?_eq_some_iff.mp ea
    obtain ⟨q2, r2⟩ := List.getElem?_eq_some_iff.mp e2
    exact (List.getElem_inj R.nd).mp (r1.trans r2.symm)
end

/-! ### names -/
structure VarsV (K : PySem.W.Frag) (r : List Addr) (H : Hp) (env : Vars) (σ : St) : Prop where
  len : env.length = σ.length
  at_ : ∀ (i : Nat) (d : D), env[i]? = some (some d) → ∃ v, σ[i]? = some (some v) ∧ DV K r H d v
theorem VarsV.ext {K r H r' H'} (x : Ext K r H r' H') {env : Vars} {σ : St} (h : VarsV K r H env σ) : VarsV K r' H' env σ :=
  ⟨h.len, fun i d e => let ⟨v, e1, q⟩ := h.at_ i d e; ⟨v, e1, DV.ext x _ _ q⟩⟩
theorem VarsV.set {K r H} {env : Vars} {σ : St} (h : VarsV K r H env σ) {d : D} {v : V} (i : Nat) (q : DV K r H d v) : VarsV K r H (env.set i (some d)) (σ.set i (some v)) := by
  refine ⟨by simp [h.len], fun j e hj => ?_⟩
  by_cases hij : i = j
  · subst hij
    have hlt : i < env.length := by
      have := (List.getElem?_eq_some_iff.mp hj).1
      simpa using this
    rw [List.getElem?_set_self hlt] at hj
    cases hj
    exact ⟨v, List.getElem?_set_self (by rw [← h.len]; exact hlt), q⟩
  · rw [List.getElem?_set_ne hij] at hj
    rw [List.getElem?_set_ne hij]
    exact h.at_ j e hj
end DL
/-! DLb: what a piece of code does to names and store (a function), and that the abstract readings follow from it. -/
namespace DL
open PySem PySem.Spec L2

abbrev EM := Vars → Sto → Option (D × Sto)
abbrev BM := Vars → Sto → Option (Bool × Sto)
abbrev LM := Vars → Sto → Option (List D × Sto)
inductive Fl where
  | nx
  | rt (d : D)
  | bk
  | ct
abbrev SM := Vars → Sto → Option (Fl × Vars × Sto)
abbrev GM := D → Vars → Sto → Option (Vars × Sto)
abbrev GMs := List D → Vars → Sto → Option (Vars × Sto)

section
variable (G : Ctx)
def liftE (m : EM) : TE := fun σ H Q => ∃ r env S d S', RepS G r S H ∧ VarsV G.K r H env σ ∧ m env S = some (d, S') ∧ ∀ r' H' v, Ext G.K r H r' H' → RepS G r' S' H' → DV G.K r' H' d v → Q v H'
def liftB (m : BM) : TT := fun σ H Q => ∃ r env S b S', RepS G r S H ∧ VarsV G.K r H env σ ∧ m env S = some (b, S') ∧ ∀ r' H', Ext G.K r H r' H' → RepS G r' S' H' → Q b H'
def liftL (m : LM) : TA := fun σ H Q => ∃ r env S ds S', RepS G r S H ∧ VarsV G.K r H env σ ∧ m env S = some (ds, S') ∧ ∀ r' H' vs, Ext G.K r H r' H' → RepS G r' S' H' → DVs G.K r' H' ds vs → Q vs H'
def EndF (r : List Addr) (H : Hp) (fl : Fl) (env' : Vars) (S' : Sto) (E : Ends) : Prop := ∀ r' σ' H', Ext G.K r H r' H' → RepS G r' S' H' → VarsV G.K r' H' env' σ' →
  match fl with
  | .nx => E.nx σ' H'
  | .rt d => ∀ v, DV G.K r' H' d v → E.rt v H'
  | .bk => E.bk σ' H'
  | .ct => E.ct σ' H'
def liftS (m : SM) : TS := fun E σ H => ∃ r env S fl env' S', RepS G r S H ∧ VarsV G.K r H env σ ∧ m env S = some (fl, env', S') ∧ EndF G r H fl env' S' E
def liftG (m : GM) : TG := fun v σ H Q => ∃ r env S d env' S', RepS G r S H ∧ VarsV G.K r H env σ ∧ DV G.K r H d v ∧ m d env S = some (env', S') ∧ ∀ r' σ' H', Ext G.K r H r' H' → RepS G r' S' H' → VarsV G.K r' H' env' σ' → Q σ' H'
def liftGs (m : GMs) : TGs := fun vs σ H Q => ∃ r env S ds env' S', RepS G r S H ∧ VarsV G.K r H env σ ∧ DVs G.K r H ds vs ∧ m ds env S = some (env', S') ∧ ∀ r' σ' H', Ext G.K r H r' H' → RepS G r' S' H' → VarsV G.K r' H' env' σ' → Q σ' H'
end
abbrev gx (X : Cx) (ca : Nat → Addr) : Ctx := ⟨X.K, X.w, ca⟩

theorem wkE {X : Cx} {e : Expr} {t t' : TE} (h : PE X e t) (w : ∀ σ H Q, t' σ H Q → t σ H Q) : PE X e t' := ⟨fun pins s σ H Q I q => h.run pins s σ H Q I (w σ H Q q)⟩
theorem wkT {X : Cx} {e : Expr} {t t' : TT} (h : PT X e t) (w : ∀ σ H Q, t' σ H Q → t σ H Q) : PT X e t' := ⟨fun pins s σ H Q I q => h.run pins s σ H Q I (w σ H Q q)⟩
theorem wkW {X : Cx} {e : Expr} {t t' : TT} (h : PW X e t) (w : ∀ σ H Q, t' σ H Q → t σ H Q) : PW X e t' := ⟨fun wh pins s σ H Q I q => h.run wh pins s σ H Q I (w σ H Q q)⟩
theorem wkA {X : Cx} {es : List Expr} {t t' : TA} (h : PA X es t) (w : ∀ σ H Q, t' σ H Q → t σ H Q) : PA X es t' := ⟨fun p pins s σ H Q I q => h.run p pins s σ H Q I (w σ H Q q)⟩
theorem wkS {X : Cx} {st : Stmt} {t t' : TS} (h : PS X st t) (w : ∀ E σ H, t' E σ H → t E σ H) : PS X st t' := ⟨fun pins s σ H E I q => h.run pins s σ H E I (w E σ H q)⟩
theorem wkSs {X : Cx} {st : List Stmt} {t t' : TS} (h : PSs X st t) (w : ∀ E σ H, t' E σ H → t E σ H) : PSs X st t' := ⟨fun pins s σ H E I q => h.run pins s σ H E I (w E σ H q)⟩
theorem wkG {X : Cx} {e : Expr} {t t' : TG} (h : PG X e t) (w : ∀ v σ H Q, t' v σ H Q → t v σ H Q) : PG X e t' := ⟨fun pins s σ H v u Q I r q => h.run pins s σ H v u Q I r (w v σ H Q q)⟩
theorem wkGs {X : Cx} {es : List Expr} {t t' : TGs} (h : PGs X es t) (w : ∀ v σ H Q, t' v σ H Q → t v σ H Q) : PGs X es t' := ⟨fun pins s σ H v u Q I r q => h.run pins s σ H v u Q I r (w v σ H Q q)⟩

/-! ### expressions -/
def mVar (i : Nat) : EM := fun env S => match env[i]? with
  | some (some d) => some (d, S)
  | _ => none
def mC (d : D) : EM := fun _ S => some (d, S)
def m1 (p : D → Sto → Option (D × Sto)) (a : EM) : EM := fun env S => match a env S with
  | some (x, S1) => p x S1
  | none => none
def m2 (p : D → D → Sto → Option (D × Sto)) (a b : EM) : EM := fun env S => match a env S with
  | some (x, S1) => match b env S1 with
    | some (y, S2) => p x y S2
    | none => none
  | none => none
def mL (p : List D → Sto → Option (D × Sto)) (l : LM) : EM := fun env S => match l env S with
  | some (xs, S1) => p xs S1
  | none => none
def lNil : LM := fun _ S => some ([], S)
def lCons (a : EM) (l : LM) : LM := fun env S => match a env S with
  | some (x, S1) => match l env S1 with
    | some (xs, S2) => some (x :: xs, S2)
    | none => none
  | none => none
/-- a bool as a test -/
def bV (a : EM) : BM := fun env S => match a env S with
  | some (.bl b, S1) => some (b, S1)
  | _ => none
/-- truth -/
def truD (S : Sto) : D → Option Bool
  | .non => some false
  | .bl b => some b
  | .int i => some (i != 0)
  | .str x => if x.length ≤ sizeLine then some ((x.length : Int) != 0) else none
  | .tup ds => some (!ds.isEmpty)
  | .loc n => match S[n]? with
    | some (.lst ds) => some (!ds.isEmpty)
    | _ => none
  | .scr _ => none
def bTru (a : EM) : BM := fun env S => match a env S with
  | some (d, S1) => match truD S1 d with
    | some b => some (b, S1)
    | none => none
  | none => none
def bNot (a : BM) : BM := fun env S => match a env S with
  | some (b, S1) => some (!b, S1)
  | none => none
def bAnd (a b : BM) : BM := fun env S => match a env S with
  | some (true, S1) => b env S1
  | some (false, S1) => some (false, S1)
  | none => none
def bOr (a b : BM) : BM := fun env S => match a env S with
  | some (true, S1) => some (true, S1)
  | some (false, S1) => b env S1
  | none => none
/-- as values: all but the last a bool -/
def mAnd (a b : EM) : EM := fun env S => match a env S with
  | some (.bl true, S1) => b env S1
  | some (.bl false, S1) => some (.bl false, S1)
  | _ => none
def mOr (a b : EM) : EM := fun env S => match a env S with
  | some (.bl true, S1) => some (.bl true, S1)
  | some (.bl false, S1) => b env S1
  | _ => none
def mNot (a : EM) : EM := fun env S => match a env S with
  | some (.bl b, S1) => some (.bl (!b), S1)
  | _ => none
def mIf (c : BM) (a b : EM) : EM := fun env S => match c env S with
  | some (true, S1) => a env S1
  | some (false, S1) => b env S1
  | none => none
def D.isNon : D → Bool
  | .non => true
  | .bl _ => false
  | .int _ => false
  | .str _ => false
  | .tup _ => false
  | .loc _ => false
  | .scr _ => false
def mIsN (a : EM) : EM := m1 (fun x S => some (.bl x.isNon, S)) a
def mNotN (a : EM) : EM := m1 (fun x S => some (.bl (!x.isNon), S)) a

section
variable {X : Cx} {ca : Nat → Addr} {a b c e : Expr} {es : List Expr} {ma mb : EM} {ba bb : BM} {la : LM} {pos p : Pos}

theorem vars_get {K r H} {env : Vars} {σ : L2.St} {i : Nat} {d : D} {S S' : Sto} (W : VarsV K r H env σ) (h : mVar i env S = some (d, S')) : S' = S ∧ ∃ v, σ[i]? = some (some v) ∧ DV K r H d v := by
  unfold mVar at h
  split at h
  · rename_i d' e
    cases h
    exact ⟨rfl, W.at_ i _ e⟩
  · cases h
theorem de_var {i : Nat} {x : Str} (hN : X.N[i]? = some x := by rfl) (hv : Vis X.env.scope x := by first | exact Or.inl rfl | exact Or.inr (Or.inl rfl) | exact Or.inr (Or.inr rfl)) (hd : (x == ("__debug__" : Str)) = false := by decide)
    (hcd : (x == ("__classdict__" : Str)) = false := by decide) : PE X (.Name x pos) (liftE (gx X ca) (mVar i)) :=
  wkE (pe_var hN hv hd hcd) fun σ H Q ⟨r, env, S, d, S', R, W, h, k⟩ => by
    obtain ⟨rfl, v, e, q⟩ := vars_get W h
    exact ⟨v, e, k r H v Ext.refl R q⟩
theorem de_const {d : D} {v : V} (h : PE X e (tC v)) (q : ∀ K r H, DV K r H d v) : PE X e (liftE (gx X ca) (mC d)) :=
  wkE h fun σ H Q ⟨r, env, S, d', S', R, W, h, k⟩ => by
    unfold mC at h
    cases h
    exact k r H v Ext.refl R (q _ _ _)
theorem de_int {i j} : PE X (.Constant (.int i) j pos) (liftE (gx X ca) (mC (.int i))) := de_const pe_int fun _ _ _ => by unfold DV; rfl
theorem de_bl {i j} : PE X (.Constant (.bool i) j pos) (liftE (gx X ca) (mC (.bl i))) := de_const pe_bl fun _ _ _ => by unfold DV; rfl
theorem de_non {j} : PE X (.Constant .none j pos) (liftE (gx X ca) (mC .non)) := de_const pe_non fun _ _ _ => by unfold DV; rfl
theorem de_str {x j} : PE X (.Constant (.str x) j pos) (liftE (gx X ca) (mC (.str x))) := de_const pe_str fun _ _ _ => by unfold DV; rfl

/-! primitives: by trees, and by the readings -/
def Prim1 (G : Ctx) (t : V → Hp → VK → Prop) (p : D → Sto → Option (D × Sto)) : Prop :=
  ∀ (r : List Addr) (S : Sto) (H : Hp) (x : D) (v : V) (d : D) (S' : Sto) (Q : VK), RepS G r S H → DV G.K r H x v → p x S = some (d, S') →
    (∀ r' H' u, Ext G.K r H r' H' → RepS G r' S' H' → DV G.K r' H' d u → Q u H') → t v H Q
def Prim2 (G : Ctx) (t : R2) (p : D → D → Sto → Option (D × Sto)) : Prop :=
  ∀ (r : List Addr) (S : Sto) (H : Hp) (x y : D) (v w : V) (d : D) (S' : Sto) (Q : VK), RepS G r S H → DV G.K r H x v → DV G.K r H y w → p x y S = some (d, S') →
    (∀ r' H' u, Ext G.K r H r' H' → RepS G r' S' H' → DV G.K r' H' d u → Q u H') → t v w H Q
def PrimL (G : Ctx) (t : List V → Hp → VK → Prop) (p : List D → Sto → Option (D × Sto)) : Prop :=
  ∀ (r : List Addr) (S : Sto) (H : Hp) (xs : List D) (vs : List V) (d : D) (S' : Sto) (Q : VK), RepS G r S H → DVs G.K r H xs vs → p xs S = some (d, S') →
    (∀ r' H' u, Ext G.K r H r' H' → RepS G r' S' H' → DV G.K r' H' d u → Q u H') → t vs H Q

theorem lift1 {G : Ctx} {t : V → Hp → VK → Prop} {p : D → Sto → Option (D × Sto)} (hp : Prim1 G t p) {σ : L2.St} {H : Hp} {Q : VK} (h : liftE G (m1 p ma) σ H Q) : liftE G ma σ H fun x H1 => t x H1 Q := by
  obtain ⟨r, env, S, d, S', R, W, h, k⟩ := h
  unfold m1 at h
  split at h
  · rename_i x S1 e1
    refine ⟨r, env, S, x, S1, R, W, e1, fun r1 H1 v x1 R1 q1 => ?_⟩
    exact hp r1 S1 H1 x v d S' Q R1 q1 h fun r' H' u x2 R2 q2 => k r' H' u (x1.trans x2) R2 q2
  · cases h
theorem lift2 {G : Ctx} {t : R2} {p : D → D → Sto → Option (D × Sto)} (hp : Prim2 G t p) {σ : L2.St} {H : Hp} {Q : VK} (h : liftE G (m2 p ma mb) σ H Q) : liftE G ma σ H fun x H1 => liftE G mb σ H1 fun y H2 => t x y H2 Q := by
  obtain ⟨r, env, S, d, S', R, W, h, k⟩ := h
  unfold m2 at h
  split at h
  · rename_i x S1 e1
    refine ⟨r, env, S, x, S1, R, W, e1, fun r1 H1 v x1 R1 q1 => ?_⟩
    split at h
    · rename_i y S2 e2
      refine ⟨r1, env, S1, y, S2, R1, W.ext x1, e2, fun r2 H2 w x2 R2 q2 => ?_⟩
      exact hp r2 S2 H2 x y v w d S' Q R2 (DV.ext x2 _ _ q1) q2 h fun r' H' u x3 R3 q3 => k r' H' u (x1.trans (x2.trans x3)) R3 q3
    · cases h
  · cases h
theorem liftLp {G : Ctx} {t : List V → Hp → VK → Prop} {p : List D → Sto → Option (D × Sto)} (hp : PrimL G t p) {σ : L2.St} {H : Hp} {Q : VK} (h : liftE G (mL p la) σ H Q) : liftL G la σ H fun xs H1 => t xs H1 Q := by
  obtain ⟨r, env, S, d, S', R, W, h, k⟩ := h
  unfold mL at h
  split at h
  · rename_i x S1 e1
    refine ⟨r, env, S, x, S1, R, W, e1, fun r1 H1 v x1 R1 q1 => ?_⟩
    exact hp r1 S1 H1 x v d S' Q R1 q1 h fun r' H' u x2 R2 q2 => k r' H' u (x1.trans x2) R2 q2
  · cases h
theorem la_nil : PA X [] (liftL (gx X ca) lNil) := wkA pa_nil fun σ H Q ⟨r, env, S, ds, S', R, W, h, k⟩ => by
  unfold lNil at h
  cases h
  exact k r H [] Ext.refl R DVs.nil
theorem la_cons (ha : PE X e (liftE (gx X ca) ma)) (hr : PA X es (liftL (gx X ca) la)) (hs : starEach (e :: es) X.env = (false, eval e X.env) :: starEach es X.env := by rfl) : PA X (e :: es) (liftL (gx X ca) (lCons ma la)) :=
  wkA (pa_cons ha hr hs) fun σ H Q ⟨r, env, S, ds, S', R, W, h, k⟩ => by
    unfold lCons at h
    split at h
    · rename_i x S1 e1
      refine ⟨r, env, S, x, S1, R, W, e1, fun r1 H1 v x1 R1 q1 => ?_⟩
      split at h
      · rename_i xs S2 e2
        cases h
        exact ⟨r1, env, S1, xs, _, R1, W.ext x1, e2, fun r2 H2 w x2 R2 q2 => k r2 H2 _ (x1.trans x2) R2 (DVs.cons (DV.ext x2 _ _ q1) q2)⟩
      · cases h
    · cases h
theorem de_op {op : Operator} {t : R2} {q : D → D → Sto → Option (D × Sto)} (ho : OpR X (binaryOp op) t) (hp : Prim2 (gx X ca) t q) (ha : PE X a (liftE (gx X ca) ma)) (hb : PE X b (liftE (gx X ca) mb)) : PE X (.BinOp a op b pos) (liftE (gx X ca) (m2 q ma mb)) :=
  wkE (pe_op ho ha hb) fun _ _ _ h => lift2 hp h
theorem de_cmp {op : CmpOp} {t : R2} {q : D → D → Sto → Option (D × Sto)} (ho : OpR X (compareOp op) t) (hp : Prim2 (gx X ca) t q) (ha : PE X a (liftE (gx X ca) ma)) (hb : PE X b (liftE (gx X ca) mb)) (hm : behindInMarks op b = false := by first | exact nomark _ | rfl) : PE X (.Compare a [op] [b] pos) (liftE (gx X ca) (m2 q ma mb)) :=
  wkE (pe_cmpR ho ha hb hm) fun _ _ _ h => lift2 hp h
theorem de_ix {t : R2} {q : D → D → Sto → Option (D × Sto)} (ho : IxR X t) (hp : Prim2 (gx X ca) t q) (ha : PE X a (liftE (gx X ca) ma)) (hb : PE X b (liftE (gx X ca) mb)) (hs : PlainIx b := by exact fun _ _ => rfl) : PE X (.Subscript a b pos) (liftE (gx X ca) (m2 q ma mb)) :=
  wkE (pe_ix ho ha hb hs) fun _ _ _ h => lift2 hp h
theorem de_un {op : UnaryOp} {t : V → Hp → VK → Prop} {q : D → Sto → Option (D × Sto)} (ho : UnR X (unaryOp op) t) (hp : Prim1 (gx X ca) t q) (ha : PE X a (liftE (gx X ca) ma)) : PE X (.UnaryOp op a pos) (liftE (gx X ca) (m1 q ma)) :=
  wkE (pe_un ho ha) fun _ _ _ h => lift1 hp h
/-- a built-in function, a built-in class, called -/
theorem de_callB {x : Str} {id : String} {t : List V → Hp → VK → Prop} {q : List D → Sto → Option (D × Sto)} (ho : CallR X (.builtin id) t) (hp : PrimL (gx X ca) t q) (hm : X.mg x = none) (hv : bootBuiltins x = some (.builtin id)) (ha : PA X (e :: es) (liftL (gx X ca) la)) (hg : Gl X x := by rfl) (hn : x ≠ "__name__" := by decide) (hdb : (x == ("__debug__" : Str)) = false := by decide)
    (he : starEach (e :: es) X.env = (false, eval e X.env) :: starEach es X.env := by rfl) (hpl : (backTo pos (starEach es X.env)).any (·.1) = false := by rfl) : PE X (.Call (.Name x p) (e :: es) [] pos) (liftE (gx X ca) (mL q la)) :=
  wkE (pe_callB ho hg hm hv ha hn hdb he hpl) fun _ _ _ h => liftLp hp h
theorem de_callTy {x : Str} {T : String} {t : List V → Hp → VK → Prop} {q : List D → Sto → Option (D × Sto)} (ho : CallR X (.type T) t) (hp : PrimL (gx X ca) t q) (hm : X.mg x = none) (hv : bootBuiltins x = some (.type T)) (ha : PA X (e :: es) (liftL (gx X ca) la)) (hg : Gl X x := by rfl) (hn : x ≠ "__name__" := by decide) (hdb : (x == ("__debug__" : Str)) = false := by decide)
    (he : starEach (e :: es) X.env = (false, eval e X.env) :: starEach es X.env := by rfl) (hpl : (backTo pos (starEach es X.env)).any (·.1) = false := by rfl) : PE X (.Call (.Name x p) (e :: es) [] pos) (liftE (gx X ca) (mL q la)) :=
  wkE (pe_callTy ho hg hm hv ha hn hdb he hpl) fun _ _ _ h => liftLp hp h
/-- a display -/
def tupP : List D → Sto → Option (D × Sto) := fun ds S => if ds.length ≤ sizeLine then some (.tup ds, S) else none
def lstP : List D → Sto → Option (D × Sto) := fun ds S => if ds.length ≤ sizeLine then some (.loc S.length, S ++ [.lst ds]) else none
theorem prim_tup {G : Ctx} : PrimL G (fun xs H Q => xs.length ≤ sizeLine ∧ ∀ p, H p = none → Q (.ref p) (upd H p (.tup xs))) tupP := by
  intro r S H xs vs d S' Q R hv h k
  unfold tupP at h
  split at h
  · rename_i hz
    cases h
    refine ⟨by rw [hv.length]; exact hz, fun p hp => ?_⟩
    obtain ⟨x, R'⟩ := R.tup (vs := vs) hp
    exact k r _ _ x R' (DV.tup_mk (SqT.of upd_same) (DVs.ext x _ _ hv))
  · cases h
theorem prim_lst {G : Ctx} : PrimL G (fun xs H Q => xs.length ≤ sizeLine ∧ ∀ p, H p = none → Q (.ref p) (upd H p (.lst xs))) lstP := by
  intro r S H xs vs d S' Q R hv h k
  unfold lstP at h
  split at h
  · rename_i hz
    cases h
    refine ⟨by rw [hv.length]; exact hz, fun p hp => ?_⟩
    obtain ⟨x, R'⟩ := R.lst hp hv
    exact k _ _ _ x R' R.newLoc
  · cases h
theorem de_tup {i} (h : PA X es (liftL (gx X ca) la)) : PE X (.Tuple es i pos) (liftE (gx X ca) (mL tupP la)) := wkE (pe_tup h) fun _ _ _ h => liftLp prim_tup h
theorem de_lst (h : PA X es (liftL (gx X ca) la)) : PE X (.List es pos) (liftE (gx X ca) (mL lstP la)) := wkE (pe_lst h) fun _ _ _ h => liftLp prim_lst h

/-! is None -/
theorem dv_non {K r H} {d : D} {v : V} (h : DV K r H d v) : decide (v = .non) = d.isNon := by
  cases d with
  | non => unfold DV at h; subst h; rfl
  | bl b => unfold DV at h; subst h; rfl
  | int b => unfold DV at h; subst h; rfl
  | str b => unfold DV at h; subst h; rfl
  | tup ds => unfold DV at h; obtain ⟨_, _, rfl, _⟩ := h; rfl
  | loc n => unfold DV at h; obtain ⟨_, _, rfl⟩ := h; rfl
  | scr n => unfold DV at h; obtain ⟨_, rfl, _⟩ := h; rfl
theorem de_isN {j p'} (ha : PE X a (liftE (gx X ca) ma)) : PE X (.Compare a [.Is] [.Constant .none j p'] pos) (liftE (gx X ca) (mIsN ma)) :=
  wkE (pe_cmp (pc_isN ha) rfl) fun σ H Q h => lift1 (t := fun x H1 Q => Q (.bl (decide (x = .non))) H1) (fun r S H x v d S' Q R hv e k => by
    cases e
    rw [dv_non hv]
    exact k r H _ Ext.refl R (by unfold DV; rfl)) h
theorem de_notN {j p'} (ha : PE X a (liftE (gx X ca) ma)) : PE X (.Compare a [.IsNot] [.Constant .none j p'] pos) (liftE (gx X ca) (mNotN ma)) :=
  wkE (pe_cmp (pc_notN ha) rfl) fun σ H Q h => lift1 (t := fun x H1 Q => Q (.bl (!decide (x = .non))) H1) (fun r S H x v d S' Q R hv e k => by
    cases e
    rw [dv_non hv]
    exact k r H _ Ext.refl R (by unfold DV; rfl)) h

/-! tests -/
theorem liftV {G : Ctx} {σ : L2.St} {H : Hp} {Q : Bool → Hp → Prop} (h : liftB G (bV ma) σ H Q) : liftE G ma σ H fun x H1 => ∃ c, x = .bl c ∧ Q c H1 := by
  obtain ⟨r, env, S, b, S', R, W, h, k⟩ := h
  unfold bV at h
  split at h
  · rename_i b' S1 e1
    cases h
    refine ⟨r, env, S, _, _, R, W, e1, fun r1 H1 v x1 R1 q1 => ?_⟩
    unfold DV at q1
    exact ⟨b, q1, k r1 H1 x1 R1⟩
  · cases h
theorem dt_val (h : PE X e (liftE (gx X ca) ma)) (he : ∀ whole, isTrue e X.env whole = (do let v ← whole; standAt e.pos; holding [v] (truthy v)) := by intro _; rfl) : PT X e (liftB (gx X ca) (bV ma)) := wkT (pt_val h he) fun _ _ _ h => liftV h
theorem dt_cmp {op : CmpOp} {t : R2} {q : D → D → Sto → Option (D × Sto)} (ho : OpR X (compareOp op) t) (hp : Prim2 (gx X ca) t q) (ha : PE X a (liftE (gx X ca) ma)) (hb : PE X b (liftE (gx X ca) mb)) (hm : behindInMarks op b = false := by first | exact nomark _ | rfl) : PT X (.Compare a [op] [b] pos) (liftB (gx X ca) (bV (m2 q ma mb))) :=
  wkT (pt_cmpR ho ha hb hm) fun σ H Q h => by
    have h1 := liftV h
    exact lift2 hp h1
theorem dt_isN {j p'} (ha : PE X a (liftE (gx X ca) ma)) : PT X (.Compare a [.Is] [.Constant .none j p'] pos) (liftB (gx X ca) (bV (mIsN ma))) :=
  wkT (pt_cmp (pc_isN ha) rfl) fun σ H Q h => lift1 (t := fun x H1 Q => Q (.bl (decide (x = .non))) H1) (fun r S H x v d S' Q R hv e k => by
    cases e
    rw [dv_non hv]
    exact k r H _ Ext.refl R (by unfold DV; rfl)) (liftV h)
theorem dt_notN {j p'} (ha : PE X a (liftE (gx X ca) ma)) : PT X (.Compare a [.IsNot] [.Constant .none j p'] pos) (liftB (gx X ca) (bV (mNotN ma))) :=
  wkT (pt_cmp (pc_notN ha) rfl) fun σ H Q h => lift1 (t := fun x H1 Q => Q (.bl (!decide (x = .non))) H1) (fun r S H x v d S' Q R hv e k => by
    cases e
    rw [dv_non hv]
    exact k r H _ Ext.refl R (by unfold DV; rfl)) (liftV h)
theorem tru_of {G : Ctx} {r : List Addr} {S : Sto} {H : Hp} {d : D} {v : V} {b : Bool} (R : RepS G r S H) (q : DV G.K r H d v) (h : truD S d = some b) : TruV G.K v H b := by
  have len_e : ∀ {ds : List D} {vs : List V}, DVs G.K r H ds vs → ds.isEmpty = vs.isEmpty := fun {ds vs} h => by
    have := h.length
    cases ds <;> cases vs <;> simp_all
  cases d with
  | non => unfold DV at q; subst q; cases h; rfl
  | bl c => unfold DV at q; subst q; cases h; rfl
  | int c => unfold DV at q; subst q; cases h; rfl
  | str c =>
    unfold DV at q; subst q
    simp only [truD] at h
    split at h
    · rename_i z; cases h; exact ⟨z, rfl⟩
    · cases h
  | tup ds =>
    unfold DV at q
    obtain ⟨a, vs, rfl, h1, h2⟩ := q
    cases h
    exact .inr (.inl ⟨vs, h1, by rw [len_e h2]⟩)
  | loc n =>
    unfold DV at q
    obtain ⟨a, e, rfl⟩ := q
    simp only [truD] at h
    split at h
    · rename_i ds e1
      cases h
      obtain ⟨vs, e2, h2⟩ := R.at_ _ _ _ e1 e
      exact .inl ⟨vs, SqL.of e2, by rw [len_e h2]⟩
    · cases h
  | scr n => cases h
theorem dt_tru (h : PE X e (liftE (gx X ca) ma)) (he : ∀ whole, isTrue e X.env whole = (do let v ← whole; standAt e.pos; holding [v] (truthy v)) := by intro _; rfl) : PT X e (liftB (gx X ca) (bTru ma)) :=
  wkT (pt_truth h he) fun σ H Q ⟨r, env, S, b, S', R, W, h, k⟩ => by
    unfold bTru at h
    split at h
    · rename_i d S1 e1
      split at h
      · rename_i b' e2
        cases h
        exact ⟨r, env, S, _, _, R, W, e1, fun r1 H1 v x1 R1 q1 => ⟨_, tru_of R1 q1 e2, k r1 H1 x1 R1⟩⟩
      · cases h
    · cases h
theorem dt_not (ha : PT X a (liftB (gx X ca) ba)) : PT X (.UnaryOp .Not a pos) (liftB (gx X ca) (bNot ba)) :=
  wkT (pt_not ha) fun σ H Q ⟨r, env, S, b, S', R, W, h, k⟩ => by
    unfold bNot at h
    split at h
    · rename_i b' S1 e1
      cases h
      exact ⟨r, env, S, _, _, R, W, e1, fun r1 H1 x1 R1 => k r1 H1 x1 R1⟩
    · cases h
theorem dw_and1 {q : Pos} (ha : PT X a (liftB (gx X ca) ba)) : PW X (.BoolOp .And [a] q) (liftB (gx X ca) ba) := pw_and1 ha
theorem dw_or1 {q : Pos} (ha : PT X a (liftB (gx X ca) ba)) : PW X (.BoolOp .Or [a] q) (liftB (gx X ca) ba) := pw_or1 ha
theorem dw_and {rest : List Expr} (ha : PT X a (liftB (gx X ca) ba)) (hb : PW X (.BoolOp .And (b :: rest) pos) (liftB (gx X ca) bb)) : PW X (.BoolOp .And (a :: b :: rest) pos) (liftB (gx X ca) (bAnd ba bb)) :=
  wkW (pw_and ha hb) fun σ H Q ⟨r, env, S, d, S', R, W, h, k⟩ => by
    unfold bAnd at h
    split at h
    · rename_i S1 e1
      exact ⟨r, env, S, _, _, R, W, e1, fun r1 H1 x1 R1 => by
        refine iteT ?_
        exact ⟨r1, env, S1, d, S', R1, W.ext x1, h, fun r2 H2 x2 R2 => k r2 H2 (x1.trans x2) R2⟩⟩
    · rename_i S1 e1
      cases h
      exact ⟨r, env, S, _, _, R, W, e1, fun r1 H1 x1 R1 => by
        refine iteF ?_
        exact k r1 H1 x1 R1⟩
    · cases h
theorem dw_or {rest : List Expr} (ha : PT X a (liftB (gx X ca) ba)) (hb : PW X (.BoolOp .Or (b :: rest) pos) (liftB (gx X ca) bb)) : PW X (.BoolOp .Or (a :: b :: rest) pos) (liftB (gx X ca) (bOr ba bb)) :=
  wkW (pw_or ha hb) fun σ H Q ⟨r, env, S, d, S', R, W, h, k⟩ => by
    unfold bOr at h
    split at h
    · rename_i S1 e1
      cases h
      exact ⟨r, env, S, _, _, R, W, e1, fun r1 H1 x1 R1 => by
        refine iteT ?_
        exact k r1 H1 x1 R1⟩
    · rename_i S1 e1
      exact ⟨r, env, S, _, _, R, W, e1, fun r1 H1 x1 R1 => by
        refine iteF ?_
        exact ⟨r1, env, S1, d, S', R1, W.ext x1, h, fun r2 H2 x2 R2 => k r2 H2 (x1.trans x2) R2⟩⟩
    · cases h
theorem de_one {op} (h : PE X a (liftE (gx X ca) ma)) : PE X (.BoolOp op [a] pos) (liftE (gx X ca) ma) := pe_one h
theorem de_and {rest : List Expr} (ha : PE X a (liftE (gx X ca) ma)) (hb : PE X (.BoolOp .And (b :: rest) pos) (liftE (gx X ca) mb)) : PE X (.BoolOp .And (a :: b :: rest) pos) (liftE (gx X ca) (mAnd ma mb)) :=
  wkE (pe_and ha hb) fun σ H Q ⟨r, env, S, d, S', R, W, h, k⟩ => by
    unfold mAnd at h
    split at h
    · rename_i S1 e1
      exact ⟨r, env, S, _, _, R, W, e1, fun r1 H1 v x1 R1 q1 => by
        unfold DV at q1
        exact ⟨true, q1, by
          refine iteT ?_
          exact ⟨r1, env, S1, d, S', R1, W.ext x1, h, fun r2 H2 v2 x2 R2 q2 => k r2 H2 v2 (x1.trans x2) R2 q2⟩⟩⟩
    · rename_i S1 e1
      cases h
      exact ⟨r, env, S, _, _, R, W, e1, fun r1 H1 v x1 R1 q1 => by
        unfold DV at q1
        exact ⟨false, q1, by
          refine iteF ?_
          exact k r1 H1 _ x1 R1 (by unfold DV; rfl)⟩⟩
    · cases h
theorem de_or {rest : List Expr} (ha : PE X a (liftE (gx X ca) ma)) (hb : PE X (.BoolOp .Or (b :: rest) pos) (liftE (gx X ca) mb)) : PE X (.BoolOp .Or (a :: b :: rest) pos) (liftE (gx X ca) (mOr ma mb)) :=
  wkE (pe_or ha hb) fun σ H Q ⟨r, env, S, d, S', R, W, h, k⟩ => by
    unfold mOr at h
    split at h
    · rename_i S1 e1
      cases h
      exact ⟨r, env, S, _, _, R, W, e1, fun r1 H1 v x1 R1 q1 => by
        unfold DV at q1
        exact ⟨true, q1, by
          refine iteT ?_
          exact k r1 H1 _ x1 R1 (by unfold DV; rfl)⟩⟩
    · rename_i S1 e1
      exact ⟨r, env, S, _, _, R, W, e1, fun r1 H1 v x1 R1 q1 => by
        unfold DV at q1
        exact ⟨false, q1, by
          refine iteF ?_
          exact ⟨r1, env, S1, d, S', R1, W.ext x1, h, fun r2 H2 v2 x2 R2 q2 => k r2 H2 v2 (x1.trans x2) R2 q2⟩⟩⟩
    · cases h
theorem de_not (ha : PE X a (liftE (gx X ca) ma)) : PE X (.UnaryOp .Not a pos) (liftE (gx X ca) (mNot ma)) :=
  wkE (pe_not ha) fun σ H Q ⟨r, env, S, d, S', R, W, h, k⟩ => by
    unfold mNot at h
    split at h
    · rename_i b S1 e1
      cases h
      exact ⟨r, env, S, _, _, R, W, e1, fun r1 H1 v x1 R1 q1 => by
        unfold DV at q1
        exact ⟨b, q1, k r1 H1 _ x1 R1 (by unfold DV; rfl)⟩⟩
    · cases h
theorem de_if {c : Expr} (hc : PT X c (liftB (gx X ca) ba)) (ha : PE X a (liftE (gx X ca) ma)) (hb : PE X b (liftE (gx X ca) mb)) : PE X (.IfExp c a b pos) (liftE (gx X ca) (mIf ba ma mb)) :=
  wkE (pe_ifExp hc ha hb) fun σ H Q ⟨r, env, S, d, S', R, W, h, k⟩ => by
    unfold mIf at h
    split at h
    · rename_i S1 e1
      exact ⟨r, env, S, _, _, R, W, e1, fun r1 H1 x1 R1 => by
        refine iteT ?_
        exact ⟨r1, env, S1, d, S', R1, W.ext x1, h, fun r2 H2 v2 x2 R2 q2 => k r2 H2 v2 (x1.trans x2) R2 q2⟩⟩
    · rename_i S1 e1
      exact ⟨r, env, S, _, _, R, W, e1, fun r1 H1 x1 R1 => by
        refine iteF ?_
        exact ⟨r1, env, S1, d, S', R1, W.ext x1, h, fun r2 H2 v2 x2 R2 q2 => k r2 H2 v2 (x1.trans x2) R2 q2⟩⟩
    · cases h
end

/-! ### statements -/
def sNext : SM := fun env S => some (.nx, env, S)
def sBreak : SM := fun env S => some (.bk, env, S)
def sCont : SM := fun env S => some (.ct, env, S)
def sSeq (a b : SM) : SM := fun env S => match a env S with
  | some (.nx, env1, S1) => b env1 S1
  | r => r
def sExpr (a : EM) : SM := fun env S => match a env S with
  | some (_, S1) => some (.nx, env, S1)
  | none => none
def sRet (a : EM) : SM := fun env S => match a env S with
  | some (d, S1) => some (.rt d, env, S1)
  | none => none
def sRetN : SM := fun env S => some (.rt .non, env, S)
def sIf (c : BM) (a b : SM) : SM := fun env S => match c env S with
  | some (true, S1) => a env S1
  | some (false, S1) => b env S1
  | none => none
def sAsg (a : EM) (g : GM) : SM := fun env S => match a env S with
  | some (d, S1) => match g d env S1 with
    | some (env2, S2) => some (.nx, env2, S2)
    | none => none
  | none => none
def sNever : SM := fun _ _ => none
def gVar (i : Nat) : GM := fun d env S => some (env.set i (some d), S)
def gsNil : GMs := fun ds env S => match ds with
  | [] => some (env, S)
  | _ => none
def gsCons (g : GM) (gs : GMs) : GMs := fun ds env S => match ds with
  | [] => none
  | d :: r => match g d env S with
    | some (env1, S1) => gs r env1 S1
    | none => none
/-- a tuple taken apart -/
def gTupD (n : Nat) (gs : GMs) : GM := fun d env S => match d with
  | .tup ds => if ds.length = n then gs ds env S else none
  | _ => none
section
variable {X : Cx} {ca : Nat → Addr} {a b c e : Expr} {st : Stmt} {sts : List Stmt} {ma mb : EM} {ba bb : BM} {sa sb : SM} {pos p : Pos}

theorem ds_nil : PSs X [] (liftS (gx X ca) sNext) := wkSs pss_nil fun E σ H ⟨r, env, S, fl, env', S', R, W, h, k⟩ => by
  cases h
  exact k r σ H Ext.refl R W
theorem endF_mono {G : Ctx} {r : List Addr} {H : Hp} {r1 : List Addr} {H1 : Hp} {fl : Fl} {env : Vars} {S : Sto} {E : Ends} (x : Ext G.K r H r1 H1) (k : EndF G r H fl env S E) : EndF G r1 H1 fl env S E :=
  fun r' σ' H' x' R' W' => k r' σ' H' (x.trans x') R' W'
theorem endF_nx {G : Ctx} {r : List Addr} {H : Hp} {fl : Fl} {env : Vars} {S : Sto} {E : Ends} {N : L2.St → Hp → Prop} (hn : fl ≠ .nx) (k : EndF G r H fl env S E) : EndF G r H fl env S { E with nx := N } := by
  intro r' σ' H' x' R' W'
  have := k r' σ' H' x' R' W'
  cases fl with
  | nx => exact absurd rfl hn
  | rt d => exact this
  | bk => exact this
  | ct => exact this
theorem liftSeq {G : Ctx} {E : Ends} {σ : L2.St} {H : Hp} (h : liftS G (sSeq sa sb) E σ H) : liftS G sa { E with nx := liftS G sb E } σ H := by
  obtain ⟨r, env, S, fl, env', S', R, W, h, k⟩ := h
  unfold sSeq at h
  split at h
  · rename_i env1 S1 e1
    exact ⟨r, env, S, _, env1, S1, R, W, e1, fun r1 σ1 H1 x1 R1 W1 => ⟨r1, env1, S1, fl, env', S', R1, W1, h, endF_mono x1 k⟩⟩
  · rename_i o hne
    refine ⟨r, env, S, fl, env', S', R, W, h, endF_nx ?_ k⟩
    rintro rfl
    exact hne env' S' h
theorem ds_cons (h1 : PS X st (liftS (gx X ca) sa)) (h2 : PSs X sts (liftS (gx X ca) sb)) : PSs X (st :: sts) (liftS (gx X ca) (sSeq sa sb)) := wkSs (pss_cons h1 h2) fun _ _ _ h => liftSeq h
theorem ds_one (h1 : PS X st (liftS (gx X ca) sa)) : PSs X [st] (liftS (gx X ca) sa) := pss_one h1
theorem ds_pass : PS X (.Pass pos) (liftS (gx X ca) sNext) := wkS ps_pass fun E σ H ⟨r, env, S, fl, env', S', R, W, h, k⟩ => by
  cases h
  exact k r σ H Ext.refl R W
theorem ds_break : PS X (.Break pos) (liftS (gx X ca) sBreak) := wkS ps_break fun E σ H ⟨r, env, S, fl, env', S', R, W, h, k⟩ => by
  cases h
  exact k r σ H Ext.refl R W
theorem ds_continue : PS X (.Continue pos) (liftS (gx X ca) sCont) := wkS ps_continue fun E σ H ⟨r, env, S, fl, env', S', R, W, h, k⟩ => by
  cases h
  exact k r σ H Ext.refl R W
theorem ds_never : PS X st (liftS (gx X ca) sNever) := wkS ps_never fun E σ H ⟨r, env, S, fl, env', S', R, W, h, k⟩ => nomatch h
theorem ds_expr (h : PE X e (liftE (gx X ca) ma)) (hs : swapsWith e none pos.line X.env = pure false := by rfl) : PS X (.Expr e pos) (liftS (gx X ca) (sExpr ma)) :=
  wkS (ps_expr h hs) fun E σ H ⟨r, env, S, fl, env', S', R, W, h, k⟩ => by
    unfold sExpr at h
    split at h
    · rename_i d S1 e1
      cases h
      exact ⟨r, env, S, d, _, R, W, e1, fun r1 H1 v x1 R1 q1 => k r1 σ H1 x1 R1 (W.ext x1)⟩
    · cases h
theorem ds_ret (h : PE X e (liftE (gx X ca) ma)) : PS X (.Return (some e) pos) (liftS (gx X ca) (sRet ma)) :=
  wkS (ps_ret h) fun E σ H ⟨r, env, S, fl, env', S', R, W, h, k⟩ => by
    unfold sRet at h
    split at h
    · rename_i d S1 e1
      cases h
      exact ⟨r, env, S, d, _, R, W, e1, fun r1 H1 v x1 R1 q1 => k r1 σ H1 x1 R1 (W.ext x1) v q1⟩
    · cases h
theorem ds_retN : PS X (.Return none pos) (liftS (gx X ca) sRetN) := wkS ps_retN fun E σ H ⟨r, env, S, fl, env', S', R, W, h, k⟩ => by
  cases h
  exact k r σ H Ext.refl R W .non (by unfold DV; rfl)
theorem ds_if {sts2 : List Stmt} (hc : PT X c (liftB (gx X ca) ba)) (ha : PSs X sts (liftS (gx X ca) sa)) (hb : PSs X sts2 (liftS (gx X ca) sb)) : PS X (.If c sts sts2 pos) (liftS (gx X ca) (sIf ba sa sb)) :=
  wkS (ps_if hc ha hb) fun E σ H ⟨r, env, S, fl, env', S', R, W, h, k⟩ => by
    unfold sIf at h
    split at h
    · rename_i S1 e1
      exact ⟨r, env, S, _, _, R, W, e1, fun r1 H1 x1 R1 => by
        refine iteT ?_
        exact ⟨r1, env, S1, fl, env', S', R1, W.ext x1, h, endF_mono x1 k⟩⟩
    · rename_i S1 e1
      exact ⟨r, env, S, _, _, R, W, e1, fun r1 H1 x1 R1 => by
        refine iteF ?_
        exact ⟨r1, env, S1, fl, env', S', R1, W.ext x1, h, endF_mono x1 k⟩⟩
    · cases h
theorem dg_name {i : Nat} {x : Str} (hN : X.N.Nodup) (hi : X.N[i]? = some x := by rfl) (hx : Loc X.env.scope x := by first | exact Or.inl rfl | exact Or.inr rfl) (hf : X.fn x = true ∨ X.env.scope.names.lookup x = some .local := by first | exact .inl rfl | exact .inr rfl | assumption) : PG X (.Name x pos) (liftG (gx X ca) (gVar i)) :=
  wkG (pg_name hN hi hx hf) fun v σ H Q ⟨r, env, S, d, env', S', R, W, q, h, k⟩ => by
    cases h
    exact k r _ H Ext.refl R (W.set i q)
theorem dgs_nil : PGs X [] (liftGs (gx X ca) gsNil) := wkGs pgs_nil fun vs σ H Q ⟨r, env, S, ds, env', S', R, W, q, h, k⟩ => by
  unfold gsNil at h
  split at h
  · cases h
    unfold DVs at q
    exact ⟨q, k r σ H Ext.refl R W⟩
  · cases h
theorem dgs_cons {es : List Expr} {g : GM} {gs : GMs} (h1 : PG X e (liftG (gx X ca) g)) (h2 : PGs X es (liftGs (gx X ca) gs)) (hs : (assignEach (e :: es) X.env).map (·.2) = assign e X.env :: (assignEach es X.env).map (·.2) := by rfl) : PGs X (e :: es) (liftGs (gx X ca) (gsCons g gs)) :=
  wkGs (pgs_cons h1 h2 hs) fun vs σ H Q ⟨r, env, S, ds, env', S', R, W, q, h, k⟩ => by
    unfold gsCons at h
    split at h
    · cases h
    · rename_i d rest
      unfold DVs at q
      obtain ⟨v, us, rfl, q1, q2⟩ := q
      split at h
      · rename_i env1 S1 e1
        exact ⟨v, us, rfl, r, env, S, d, env1, S1, R, W, q1, e1, fun r1 σ1 H1 x1 R1 W1 => ⟨r1, env1, S1, rest, env', S', R1, W1, DVs.ext x1 _ _ q2, h, fun r2 σ2 H2 x2 R2 W2 => k r2 σ2 H2 (x1.trans x2) R2 W2⟩⟩
      · cases h
theorem dg_tup {es : List Expr} {i : Nat} {n : Nat} {gs : GMs} (h : PGs X es (liftGs (gx X ca) gs)) (hn : (assignEach es X.env).length = n := by rfl) (hc : X.calm = true := by rfl) (hst : (assignEach es X.env).findIdx? (·.1) = none := by rfl) : PG X (.Tuple es i pos) (liftG (gx X ca) (gTupD n gs)) :=
  wkG (pg_tup hc h hn hst) fun v σ H Q ⟨r, env, S, d, env', S', R, W, q, h, k⟩ => by
    unfold gTupD at h
    split at h
    · rename_i ds
      split at h
      · rename_i hl
        unfold DV at q
        obtain ⟨a, vs, rfl, q1, q2⟩ := q
        exact ⟨a, vs, rfl, q1, by rw [q2.length, hl], r, env, S, ds, env', S', R, W, q2, h, k⟩
      · cases h
    · cases h
theorem ds_asg {tg : Expr} {g : GM} (he : PE X e (liftE (gx X ca) ma)) (hg : PG X tg (liftG (gx X ca) g)) (hs : swapsWithSole [tg] e pos.line X.env = pure false := by rfl) (hw : swappedStores [tg] e X.env = pure none := by rfl)
    (h1 : (assignEach [tg] X.env).map (·.2) = [assign tg X.env] := by rfl) : PS X (.Assign [tg] e pos) (liftS (gx X ca) (sAsg ma g)) :=
  wkS (ps_asg he hg hs hw h1) fun E σ H ⟨r, env, S, fl, env', S', R, W, h, k⟩ => by
    unfold sAsg at h
    split at h
    · rename_i d S1 e1
      split at h
      · rename_i env2 S2 e2
        cases h
        exact ⟨r, env, S, d, S1, R, W, e1, fun r1 H1 v x1 R1 q1 => ⟨r1, env, S1, d, _, _, R1, W.ext x1, q1, e2, fun r2 σ2 H2 x2 R2 W2 => k r2 σ2 H2 (x1.trans x2) R2 W2⟩⟩
      · cases h
    · cases h
theorem ds_set {i : Nat} {x : Str} {q : Pos} (hN : X.N.Nodup) (he : PE X e (liftE (gx X ca) ma)) (hi : X.N[i]? = some x := by rfl) (hx : Loc X.env.scope x := by first | exact Or.inl rfl | exact Or.inr rfl) (hs : swapsWith e (some (.Name x q)) pos.line X.env = pure false := by rfl) (hf : X.fn x = true ∨ X.env.scope.names.lookup x = some .local := by first | exact .inl rfl | exact .inr rfl | assumption) :
    PS X (.Assign [.Name x q] e pos) (liftS (gx X ca) (sAsg ma (gVar i))) :=
  wkS (ps_set hN hi hx he hs hf) fun E σ H ⟨r, env, S, fl, env', S', R, W, h, k⟩ => by
    unfold sAsg gVar at h
    split at h
    · rename_i d S1 e1
      cases h
      exact ⟨r, env, S, d, _, R, W, e1, fun r1 H1 v x1 R1 q1 => k r1 _ H1 x1 R1 ((W.ext x1).set i q1)⟩
    · cases h
end
end DL
/-! DLc: loops, comprehensions, calls. -/
namespace DL
open PySem PySem.Spec L2

/-! ### the value that a run with enough fuel gives -/
section
open Classical in
noncomputable def lim {α : Type} (f : Nat → Option α) : Option α := if h : ∃ n a, f n = some a then f h.choose else none
variable {α : Type} {f : Nat → Option α}
def Up (f : Nat → Option α) : Prop := ∀ n a, f n = some a → f (n + 1) = some a
theorem Up.le (u : Up f) {n : Nat} {a : α} (h : f n = some a) : ∀ {m : Nat}, n ≤ m → f m = some a := by
  intro m hm
  induction hm with
  | refl => exact h
  | step _ ih => exact u _ _ ih
theorem lim_of (u : Up f) {n : Nat} {a : α} (h : f n = some a) : lim f = some a := by
  have q : ∃ n a, f n = some a := ⟨n, a, h⟩
  unfold lim
  rw [dif_pos q]
  obtain ⟨b, hb⟩ := q.choose_spec
  have h1 := u.le h (Nat.le_max_left n q.choose)
  have h2 := u.le hb (Nat.le_max_right n q.choose)
  rw [h1] at h2
  rw [hb, ← h2]
theorem lim_some {a : α} (h : lim f = some a) : ∃ n, f n = some a := by
  unfold lim at h
  split at h
  · rename_i q
    exact ⟨_, h⟩
  · cases h
theorem lim_none (h : ∀ n, f n = none) : lim f = none := by
  cases e : lim f with
  | none => rfl
  | some a => obtain ⟨n, q⟩ := lim_some e; rw [h] at q; cases q
theorem lim_shift (u : Up f) (h0 : f 0 = none) : lim f = lim fun n => f (n + 1) := by
  cases e : lim f with
  | some a =>
    obtain ⟨n, q⟩ := lim_some e
    exact (lim_of (f := fun n => f (n + 1)) (fun n a h => u _ _ h) (n := n) (u _ _ q)).symm
  | none =>
    refine (lim_none fun n => ?_).symm
    cases q : f (n + 1) with
    | none => rfl
    | some a => rw [lim_of u q] at e; cases e
theorem lim_const {o : Option α} : lim (fun _ => o) = o := by
  cases o with
  | none => exact lim_none fun _ => rfl
  | some a => exact lim_of (f := fun _ => some a) (fun _ _ h => h) (n := 0) rfl
end

/-! ### what is walked -/
inductive DIt where
  | seq (d : D)
  | rng (lo : Int) (n : Nat)
  | enm (d : D)
  | zp (d e : D)
/-- the items of a list or tuple -/
def seqD (S : Sto) : D → Option (List D)
  | .tup ds => some ds
  | .loc n => match S[n]? with
    | some (.lst ds) => some ds
    | _ => none
  | .scr ns => some (ns.map D.int)
  | _ => none
/-- bad; at the end; an item -/
def itAt (S : Sto) : DIt → Nat → Option (Option D)
  | .seq d, i => match seqD S d with
    | some ds => some ds[i]?
    | none => none
  | .rng lo n, i => some (if i < n then some (.int (lo + i)) else none)
  | .enm d, i => match seqD S d with
    | some ds => some (match ds[i]? with | some x => some (.tup [.int (i : Nat), x]) | none => none)
    | none => none
  | .zp d e, i => match seqD S d, seqD S e with
    | some ds, some es => some (match ds[i]?, es[i]? with | some x, some y => some (.tup [x, y]) | _, _ => none)
    | _, _ => none
abbrev IM := Vars → Sto → Option (DIt × Sto)
structure ItOk (G : Ctx) (r0 : List Addr) (H0 : Hp) (it : DIt) (J : It) : Prop where
  go : ∀ r S H i d, Ext G.K r0 H0 r H → RepS G r S H → itAt S it i = some (some d) → J.go i H ∧ ∀ x H', J.yld i H x H' → ∃ r', Ext G.K r H r' H' ∧ RepS G r' S H' ∧ DV G.K r' H' d x
  stop : ∀ r S H i, Ext G.K r0 H0 r H → RepS G r S H → itAt S it i = some none → J.stop i H
def liftI (G : Ctx) (m : IM) : TI := fun σ H R => ∃ r env S it S', RepS G r S H ∧ VarsV G.K r H env σ ∧ m env S = some (it, S') ∧ ∀ r' H' J, Ext G.K r H r' H' → RepS G r' S' H' → ItOk G r' H' it J → R J H'
theorem ItOk.later {G : Ctx} {r0 r1 : List Addr} {H0 H1 : Hp} {it : DIt} {J : It} (x : Ext G.K r0 H0 r1 H1) (k : ItOk G r0 H0 it J) : ItOk G r1 H1 it J :=
  ⟨fun r S H i d x1 R e => k.go r S H i d (x.trans x1) R e, fun r S H i x1 R e => k.stop r S H i (x.trans x1) R e⟩
theorem wkI {X : Cx} {tg e : Expr} {t t' : TI} (h : PI X tg e t) (w : ∀ σ H R, t' σ H R → t σ H R) : PI X tg e t' := ⟨fun pins s σ H R I q => h.run pins s σ H R I (w σ H R q)⟩

section
variable {G : Ctx} {r : List Addr} {S : Sto} {H : Hp}
/-- a tree that is a list or a tuple, borne -/
theorem seq_cases {d : D} {v : V} {ds : List D} (R : RepS G r S H) (q : DV G.K r H d v) (h : seqD S d = some ds) : ∃ a vs, v = .ref a ∧ DVs G.K r H ds vs ∧
    ((d = .tup ds ∧ SqT G.K H a vs) ∨ ((∀ es, d ≠ .tup es) ∧ True ∧ True ∧ SqL G.K H a vs)) := by
  cases d with
  | tup es =>
    simp only [seqD, Option.some.injEq] at h
    subst h
    unfold DV at q
    obtain ⟨a, vs, rfl, h1, h2⟩ := q
    exact ⟨a, vs, rfl, h2, .inl ⟨rfl, h1⟩⟩
  | loc n =>
    unfold DV at q
    obtain ⟨a, e, rfl⟩ := q
    simp only [seqD] at h
    split at h
    · rename_i es e1
      cases h
      obtain ⟨vs, e2, h2⟩ := R.at_ _ _ _ e1 e
      exact ⟨a, vs, rfl, h2, .inr ⟨fun _ z => (by cases z), trivial, trivial, SqL.of e2⟩⟩
    · cases h
  | scr ns =>
    unfold DV at q
    obtain ⟨a, rfl, e⟩ := q
    simp only [seqD, Option.some.injEq] at h
    subst h
    exact ⟨a, _, rfl, DVs.ints ns, .inr ⟨fun _ z => (by cases z), trivial, trivial, e.sq⟩⟩
  | non => cases h
  | bl _ => cases h
  | int _ => cases h
  | str _ => cases h
theorem itok_tup {ds : List D} {a : Addr} {vs : List V} (h1 : SqT G.K H a vs) (h2 : DVs G.K r H ds vs) : ItOk G r H (.seq (.tup ds)) (Itt G.K a) where
  go := fun r1 S1 H1 i d x R e => by
    simp only [itAt, seqD, Option.some.injEq] at e
    obtain ⟨v, ev, qv⟩ := (DVs.ext x _ _ h2).get e
    refine ⟨⟨vs, v, x.tups _ _ h1, ev⟩, fun y H' hy => ?_⟩
    obtain ⟨rfl, hy⟩ := hy
    have := hy vs (x.tups _ _ h1)
    rw [ev] at this; cases this
    exact ⟨r1, Ext.refl, R, qv⟩
  stop := fun r1 S1 H1 i x R e => by
    simp only [itAt, seqD, Option.some.injEq] at e
    exact ⟨vs, x.tups _ _ h1, by rw [h2.length]; exact List.getElem?_eq_none_iff.mp e⟩
theorem itok_ref {d0 : D} {a : Addr} (h1 : DV G.K r H d0 (.ref a)) (nt : ∀ es, d0 ≠ .tup es) : ItOk G r H (.seq d0) (Itl G.K a) where
  go := fun r1 S1 H1 i d x R e => by
    simp only [itAt] at e
    split at e
    · rename_i ds e1
      have ed := Option.some.inj e
      have q : DV G.K r1 H1 d0 (.ref a) := DV.ext x _ _ h1
      obtain ⟨a', vs, ea, h2, h3⟩ := seq_cases R q e1
      cases ea
      rcases h3 with ⟨z, _⟩ | ⟨_, _, _, hs⟩
      · exact absurd z (nt _)
      · obtain ⟨v, ev, qv⟩ := h2.get ed
        refine ⟨⟨vs, v, hs, ev⟩, fun y H' hy => ?_⟩
        obtain ⟨rfl, hy⟩ := hy
        have := hy vs hs
        rw [ev] at this; cases this
        exact ⟨r1, Ext.refl, R, qv⟩
    · cases e
  stop := fun r1 S1 H1 i x R e => by
    simp only [itAt] at e
    split at e
    · rename_i ds e1
      have ed := Option.some.inj e
      have q : DV G.K r1 H1 d0 (.ref a) := DV.ext x _ _ h1
      obtain ⟨a', vs, ea, h2, h3⟩ := seq_cases R q e1
      cases ea
      rcases h3 with ⟨z, _⟩ | ⟨_, _, _, hs⟩
      · exact absurd z (nt _)
      · exact ⟨vs, hs, by rw [h2.length]; exact List.getElem?_eq_none_iff.mp ed⟩
    · cases e
theorem itok_rng {lo : Int} {n : Nat} : ItOk G r H (.rng lo n) (Itr lo n) where
  go := fun r1 S1 H1 i d x R e => by
    simp only [itAt, Option.some.injEq] at e
    split at e
    · rename_i hi
      cases e
      refine ⟨hi, fun y H' hy => ?_⟩
      obtain ⟨rfl, rfl⟩ := hy
      exact ⟨r1, Ext.refl, R, by unfold DV; rfl⟩
    · cases e
  stop := fun r1 S1 H1 i x R e => by
    simp only [itAt, Option.some.injEq] at e
    split at e
    · cases e
    · rename_i hi
      exact Nat.le_of_not_lt hi
end

/-- a list or a tuple, walked -/
def iSeq (m : EM) : IM := fun env S => match m env S with
  | some (d, S1) => match seqD S1 d with
    | some _ => some (.seq d, S1)
    | none => none
  | none => none
def iRng1M (m : EM) : IM := fun env S => match m env S with
  | some (.int j, S1) => if -(2 ^ 62) ≤ j ∧ j < 2 ^ 62 then some (.rng 0 j.toNat, S1) else none
  | _ => none
def iRng2M (m m2 : EM) : IM := fun env S => match m env S with
  | some (.int i, S1) => match m2 env S1 with
    | some (.int j, S2) => if -(2 ^ 62) ≤ i ∧ i < 2 ^ 62 ∧ -(2 ^ 62) ≤ j ∧ j < 2 ^ 62 then some (.rng i (j - i).toNat, S2) else none
    | _ => none
  | _ => none
section
variable {X : Cx} {ca : Nat → Addr} {tg e e2 : Expr} {ma mb : EM} {pos p : Pos}
def iLT (K : PySem.W.Frag) (tl : TE) : TI := fun σ H R => tl σ H fun x H1 => ∃ a, x = .ref a ∧ (((∃ xs, SqL K H1 a xs) ∧ R (Itl K a) H1) ∨ ((∃ xs, SqT K H1 a xs) ∧ R (Itt K a) H1))
theorem pi_lt {l : Expr} {tl : TE} (hl : PE X l tl) : PI X tg l (iLT X.K tl) := by
  refine ⟨fun pins s σ H R I h => ?_⟩
  refine thn (hl.run pins s σ H _ I h) fun v s1 ⟨x, H1, I1, r1, q1⟩ => ?_
  obtain ⟨a, e, q⟩ := q1
  subst e
  cases r1
  have fp : ∀ b ∈ [s1.heap.objs.size], FpOk X pins H1 b := fun b hb => by
    have e : b = s1.heap.objs.size := by simpa using hb
    subst e
    exact I1.fpOk (Nat.le_refl _) (I1.hok.fresh (Nat.le_refl _))
  rcases q with ⟨⟨xs, hq⟩, q⟩ | ⟨⟨xs, hq⟩, q⟩
  · obtain ⟨its, rv, p, hz⟩ := I1.list hq
    refine wpAny_pyIter_list p.isList ?_
    exact ⟨s1.heap.objs.size, [s1.heap.objs.size], _, _, H1, rfl, I1.kept (t' := s1.toks) fun b o e => Heap.get?_push_of_some _ e, turn_list a _, ⟨_, Heap.get?_push_size _ rfl, rfl, rfl⟩, fp, q⟩
  · obtain ⟨its, rv, p, hz⟩ := I1.tuple hq
    refine wpAny_pyIter_tuple (show s1.heap.IsTuple a its.toArray from p) ?_
    exact ⟨s1.heap.objs.size, [s1.heap.objs.size], _, _, H1, rfl, I1.kept (t' := s1.toks) fun b o e => Heap.get?_push_of_some _ e, turn_tuple a _, ⟨_, Heap.get?_push_size _ rfl, rfl, rfl⟩, fp, q⟩
theorem di_seq (h : PE X e (liftE (gx X ca) ma)) : PI X tg e (liftI (gx X ca) (iSeq ma)) :=
  wkI (pi_lt h) fun σ H Q ⟨r, env, S, it, S', R, W, h, k⟩ => by
    unfold iSeq at h
    split at h
    · rename_i d S1 e1
      split at h
      · rename_i ds e2
        cases h
        refine ⟨r, env, S, d, _, R, W, e1, fun r1 H1 v x1 R1 q1 => ?_⟩
        obtain ⟨a, vs, rfl, h2, h3⟩ := seq_cases R1 q1 e2
        rcases h3 with ⟨rfl, h4⟩ | ⟨nt, _, _, h5⟩
        · exact ⟨a, rfl, .inr ⟨⟨vs, h4⟩, k r1 H1 _ x1 R1 (itok_tup h4 h2)⟩⟩
        · exact ⟨a, rfl, .inl ⟨⟨vs, h5⟩, k r1 H1 _ x1 R1 (itok_ref q1 nt)⟩⟩
      · cases h
    · cases h
theorem di_rng1 (hm : X.mg "range" = none) (h : PE X e (liftE (gx X ca) ma)) (hg : Gl X "range" := by rfl) (hs : starEach [e] X.env = [(false, eval e X.env)] := by rfl) (hs1 : starEach [e] X.env = (false, eval e X.env) :: starEach [] X.env := by rfl) : PI X tg (.Call (.Name "range" p) [e] [] pos) (liftI (gx X ca) (iRng1M ma)) :=
  wkI (pi_range1 hg hm (pa_cons h pa_nil hs1) hs) fun σ H Q ⟨r, env, S, it, S', R, W, h, k⟩ => by
    unfold iRng1M at h
    split at h
    · rename_i j S1 e1
      split at h
      · rename_i hj
        cases h
        refine ⟨r, env, S, _, _, R, W, e1, fun r1 H1 v x1 R1 q1 => ?_⟩
        unfold DV at q1
        subst q1
        exact ⟨j, rfl, hj.1, hj.2, k r1 H1 _ x1 R1 itok_rng⟩
      · cases h
    · cases h
theorem di_rng2 (hm : X.mg "range" = none) (h : PE X e (liftE (gx X ca) ma)) (h2 : PE X e2 (liftE (gx X ca) mb)) (hg : Gl X "range" := by rfl) (hs : starEach [e, e2] X.env = [(false, eval e X.env), (false, eval e2 X.env)] := by rfl) (hs2 : starEach [e2] X.env = [(false, eval e2 X.env)] := by rfl) (hs1 : starEach [e, e2] X.env = (false, eval e X.env) :: starEach [e2] X.env := by rfl) (hs3 : starEach [e2] X.env = (false, eval e2 X.env) :: starEach [] X.env := by rfl) : PI X tg (.Call (.Name "range" p) [e, e2] [] pos) (liftI (gx X ca) (iRng2M ma mb)) :=
  wkI (pi_range2 hg hm (pa_cons h (pa_cons h2 pa_nil hs3) hs1) hs hs2) fun σ H Q ⟨r, env, S, it, S', R, W, h, k⟩ => by
    unfold iRng2M at h
    split at h
    · rename_i j S1 e1
      split at h
      · rename_i j2 S2 e2
        split at h
        · rename_i hj
          cases h
          refine ⟨r, env, S, _, _, R, W, e1, fun r1 H1 v x1 R1 q1 => ⟨r1, env, S1, _, _, R1, W.ext x1, e2, fun r2 H2 v2 x2 R2 q2 => ?_⟩⟩
          unfold DV at q1 q2
          subst q1 q2
          exact ⟨j, j2, rfl, hj, k r2 H2 _ (x1.trans x2) R2 itok_rng⟩
        · cases h
      · cases h
    · cases h
end

/-! ### for -/
def forN (it : DIt) (g : GM) (b : SM) : Nat → Nat → SM
  | 0, _ => fun _ _ => none
  | f + 1, i => fun env S => match itAt S it i with
    | none => none
    | some none => some (.nx, env, S)
    | some (some d) => match g d env S with
      | none => none
      | some (env1, S1) => match b env1 S1 with
        | some (.nx, env2, S2) => forN it g b f (i + 1) env2 S2
        | some (.ct, env2, S2) => forN it g b f (i + 1) env2 S2
        | some (.bk, env2, S2) => some (.nx, env2, S2)
        | some (.rt d, env2, S2) => some (.rt d, env2, S2)
        | none => none
theorem forN_up {it : DIt} {g : GM} {b : SM} : ∀ (n i : Nat) (env : Vars) (S : Sto) a, forN it g b n i env S = some a → forN it g b (n + 1) i env S = some a
  | 0, _, _, _, _, h => by simp [forN] at h
  | n + 1, i, env, S, a, h => by
    unfold forN at h ⊢
    split at h
    · cases h
    · exact h
    · rename_i d e1
      try simp only [e1]
      split at h
      · cases h
      · rename_i env1 S1 e2
        try simp only [e2]
        split at h
        · rename_i env2 S2 e3
          try simp only [e3]
          exact forN_up n _ _ _ _ h
        · rename_i env2 S2 e3
          try simp only [e3]
          exact forN_up n _ _ _ _ h
        · rename_i env2 S2 e3
          try simp only [e3]
          exact h
        · rename_i d env2 S2 e3
          try simp only [e3]
          exact h
        · cases h
noncomputable def forL (it : DIt) (g : GM) (b : SM) (i : Nat) : SM := fun env S => lim fun n => forN it g b n i env S
noncomputable def sFor (m : IM) (g : GM) (b : SM) : SM := fun env S => match m env S with
  | some (it, S1) => forL it g b 0 env S1
  | none => none
/-- one turn -/
theorem forL_eq (it : DIt) (g : GM) (b : SM) (i : Nat) (env : Vars) (S : Sto) : forL it g b i env S = match itAt S it i with
    | none => none
    | some none => some (.nx, env, S)
    | some (some d) => match g d env S with
      | none => none
      | some (env1, S1) => match b env1 S1 with
        | some (.nx, env2, S2) => forL it g b (i + 1) env2 S2
        | some (.ct, env2, S2) => forL it g b (i + 1) env2 S2
        | some (.bk, env2, S2) => some (.nx, env2, S2)
        | some (.rt d, env2, S2) => some (.rt d, env2, S2)
        | none => none := by
  unfold forL
  rw [lim_shift (fun n a h => forN_up n _ _ _ _ h) rfl]
  simp only [forN]
  cases itAt S it i with
  | none => exact lim_const
  | some o =>
    cases o with
    | none => exact lim_const
    | some d =>
      try simp only
      cases g d env S with
      | none => exact lim_const
      | some q =>
        try simp only
        cases b q.1 q.2 with
        | none => exact lim_const
        | some z =>
          obtain ⟨fl, env2, S2⟩ := z
          cases fl with
          | nx => rfl
          | ct => rfl
          | bk => exact lim_const
          | rt d => exact lim_const
section
variable {X : Cx} {ca : Nat → Addr} {tg iter : Expr} {mi : IM} {g : GM} {sb : SM} {body : List Stmt} {pos : Pos}
theorem ds_for (hi : PI X tg iter (liftI (gx X ca) mi)) (hg : PG X tg (liftG (gx X ca) g)) (hb : PSs X body (liftS (gx X ca) sb)) (hp : PassesOwn (model X.prog X.w) X.A X.env X.xe := by exact PassesOwn.never) (hc : X.calm = true := by rfl)
    (hs : ∀ x, foldedSetIterable iter X.env x = pure x := by intro _; rfl) : PS X (.For tg iter body [] pos) (liftS (gx X ca) (sFor mi g sb)) :=
  wkS (ps_for hp hc hi hg hb hs) fun E σ H ⟨r, env, S, fl, env', S', R, W, h, k⟩ => by
    unfold sFor at h
    split at h
    · rename_i it S1 e1
      refine ⟨r, env, S, it, S1, R, W, e1, fun r1 H1 J x1 R1 J1 => ?_⟩
      obtain ⟨n0, h0⟩ := lim_some h
      refine ⟨fun i m σ2 H2 => ∃ r2 env2 S2, Ext (gx X ca).K r1 H1 r2 H2 ∧ RepS (gx X ca) r2 S2 H2 ∧ VarsV (gx X ca).K r2 H2 env2 σ2 ∧ forN it g sb m i env2 S2 = some (fl, env', S'), ⟨n0, r1, env, S1, Ext.refl, R1, W.ext x1, h0⟩, ?_⟩
      rintro i m σ2 H2 ⟨r2, env2, S2, x2, R2, W2, h2⟩
      cases m with
      | zero => simp [forN] at h2
      | succ m =>
        unfold forN at h2
        split at h2
        · cases h2
        · rename_i e2
          cases h2
          exact .inl ⟨J1.stop r2 _ H2 i x2 R2 e2, k r2 σ2 H2 (x1.trans x2) R2 W2⟩
        · rename_i d e2
          obtain ⟨go, yl⟩ := J1.go r2 S2 H2 i d x2 R2 e2
          refine .inr ⟨go, fun σ3 H3 => ∃ r3 env3 S3, Ext (gx X ca).K r1 H1 r3 H3 ∧ RepS (gx X ca) r3 S3 H3 ∧ VarsV (gx X ca).K r3 H3 env3 σ3 ∧ forN it g sb m (i + 1) env3 S3 = some (fl, env', S'), fun σ3 H3 q => ⟨m, Nat.lt_succ_self _, q⟩, fun y H3 hy => ?_⟩
          obtain ⟨r3, x3, R3, q3⟩ := yl y H3 hy
          split at h2
          · cases h2
          · rename_i env4 S4 e4
            refine ⟨r3, env2, S2, d, env4, S4, R3, W2.ext x3, q3, e4, fun r5 σ5 H5 x5 R5 W5 => ?_⟩
            split at h2
            · rename_i env6 S6 e6
              exact ⟨r5, env4, S4, .nx, env6, S6, R5, W5, e6, fun r7 σ7 H7 x7 R7 W7 => ⟨r7, env6, S6, x2.trans (x3.trans (x5.trans x7)), R7, W7, h2⟩⟩
            · rename_i env6 S6 e6
              exact ⟨r5, env4, S4, .ct, env6, S6, R5, W5, e6, fun r7 σ7 H7 x7 R7 W7 => ⟨r7, env6, S6, x2.trans (x3.trans (x5.trans x7)), R7, W7, h2⟩⟩
            · rename_i env6 S6 e6
              cases h2
              exact ⟨r5, env4, S4, .bk, _, _, R5, W5, e6, fun r7 σ7 H7 x7 R7 W7 => k r7 σ7 H7 (x1.trans (x2.trans (x3.trans (x5.trans x7)))) R7 W7⟩
            · rename_i d env6 S6 e6
              cases h2
              exact ⟨r5, env4, S4, .rt d, _, _, R5, W5, e6, fun r7 σ7 H7 x7 R7 W7 => k r7 σ7 H7 (x1.trans (x2.trans (x3.trans (x5.trans x7)))) R7 W7⟩
            · cases h2
    · cases h
end

/-! ### while -/
def whileN (c : BM) (b : SM) : Nat → SM
  | 0 => fun _ _ => none
  | f + 1 => fun env S => match c env S with
    | none => none
    | some (false, S1) => some (.nx, env, S1)
    | some (true, S1) => match b env S1 with
      | some (.nx, env2, S2) => whileN c b f env2 S2
      | some (.ct, env2, S2) => whileN c b f env2 S2
      | some (.bk, env2, S2) => some (.nx, env2, S2)
      | some (.rt d, env2, S2) => some (.rt d, env2, S2)
      | none => none
theorem whileN_up {c : BM} {b : SM} : ∀ (n : Nat) (env : Vars) (S : Sto) a, whileN c b n env S = some a → whileN c b (n + 1) env S = some a
  | 0, _, _, _, h => by simp [whileN] at h
  | n + 1, env, S, a, h => by
    unfold whileN at h ⊢
    split at h
    · cases h
    · rename_i S1 e1
      try simp only [e1]
      exact h
    · rename_i S1 e1
      try simp only [e1]
      split at h
      · rename_i env2 S2 e3
        try simp only [e3]
        exact whileN_up n _ _ _ h
      · rename_i env2 S2 e3
        try simp only [e3]
        exact whileN_up n _ _ _ h
      · rename_i env2 S2 e3
        try simp only [e3]
        exact h
      · rename_i d env2 S2 e3
        try simp only [e3]
        exact h
      · cases h
noncomputable def sWhile (c : BM) (b : SM) : SM := fun env S => lim fun n => whileN c b n env S
theorem sWhile_eq (c : BM) (b : SM) (env : Vars) (S : Sto) : sWhile c b env S = match c env S with
    | none => none
    | some (false, S1) => some (.nx, env, S1)
    | some (true, S1) => match b env S1 with
      | some (.nx, env2, S2) => sWhile c b env2 S2
      | some (.ct, env2, S2) => sWhile c b env2 S2
      | some (.bk, env2, S2) => some (.nx, env2, S2)
      | some (.rt d, env2, S2) => some (.rt d, env2, S2)
      | none => none := by
  unfold sWhile
  rw [lim_shift (fun n a h => whileN_up n _ _ _ h) rfl]
  simp only [whileN]
  cases c env S with
  | none => exact lim_const
  | some q =>
    obtain ⟨t, S1⟩ := q
    cases t with
    | false => exact lim_const
    | true =>
      try simp only
      cases b env S1 with
      | none => exact lim_const
      | some z =>
        obtain ⟨fl, env2, S2⟩ := z
        cases fl with
        | nx => rfl
        | ct => rfl
        | bk => exact lim_const
        | rt d => exact lim_const
section
variable {X : Cx} {ca : Nat → Addr} {c : Expr} {bc : BM} {sb : SM} {body : List Stmt} {pos : Pos}
theorem ds_while (hc : PT X c (liftB (gx X ca) bc)) (hb : PSs X body (liftS (gx X ca) sb)) (hp : PassesOwn (model X.prog X.w) X.A X.env X.xe := by exact PassesOwn.never) : PS X (.While c body [] pos) (liftS (gx X ca) (sWhile bc sb)) :=
  wkS (ps_while hp hc hb) fun E σ H ⟨r, env, S, fl, env', S', R, W, h, k⟩ => by
    obtain ⟨n0, h0⟩ := lim_some h
    refine ⟨fun m σ2 H2 => ∃ r2 env2 S2, Ext (gx X ca).K r H r2 H2 ∧ RepS (gx X ca) r2 S2 H2 ∧ VarsV (gx X ca).K r2 H2 env2 σ2 ∧ whileN bc sb m env2 S2 = some (fl, env', S'), ⟨n0, r, env, S, Ext.refl, R, W, h0⟩, ?_⟩
    rintro m σ2 H2 ⟨r2, env2, S2, x2, R2, W2, h2⟩
    cases m with
    | zero => simp [whileN] at h2
    | succ m =>
      unfold whileN at h2
      split at h2
      · cases h2
      · rename_i S3 e3
        cases h2
        refine ⟨r2, _, S2, false, _, R2, W2, e3, fun r3 H3 x3 R3 => ?_⟩
        exact iteF (k r3 σ2 H3 (x2.trans x3) R3 (W2.ext x3))
      · rename_i S3 e3
        refine ⟨r2, env2, S2, true, S3, R2, W2, e3, fun r3 H3 x3 R3 => ?_⟩
        refine iteT ⟨fun σ4 H4 => ∃ r4 env4 S4, Ext (gx X ca).K r H r4 H4 ∧ RepS (gx X ca) r4 S4 H4 ∧ VarsV (gx X ca).K r4 H4 env4 σ4 ∧ whileN bc sb m env4 S4 = some (fl, env', S'), fun σ4 H4 q => ⟨m, Nat.lt_succ_self _, q⟩, ?_⟩
        split at h2
        · rename_i env6 S6 e6
          exact ⟨r3, _, S3, .nx, env6, S6, R3, W2.ext x3, e6, fun r7 σ7 H7 x7 R7 W7 => ⟨r7, env6, S6, x2.trans (x3.trans x7), R7, W7, h2⟩⟩
        · rename_i env6 S6 e6
          exact ⟨r3, env2, S3, .ct, env6, S6, R3, W2.ext x3, e6, fun r7 σ7 H7 x7 R7 W7 => ⟨r7, env6, S6, x2.trans (x3.trans x7), R7, W7, h2⟩⟩
        · rename_i env6 S6 e6
          cases h2
          exact ⟨r3, env2, S3, .bk, _, _, R3, W2.ext x3, e6, fun r7 σ7 H7 x7 R7 W7 => k r7 σ7 H7 (x2.trans (x3.trans x7)) R7 W7⟩
        · rename_i d env6 S6 e6
          cases h2
          exact ⟨r3, env2, S3, .rt d, _, _, R3, W2.ext x3, e6, fun r7 σ7 H7 x7 R7 W7 => k r7 σ7 H7 (x2.trans (x3.trans x7)) R7 W7⟩
        · cases h2
end

/-! ### comprehensions -/
inductive Tgt where
  | nm (i : Nat)
  | tp (is : List Nat)
def Tgt.slots : Tgt → List Nat
  | .nm i => [i]
  | .tp is => is
def setAll (env : Vars) : List Nat → List D → Vars
  | i :: is, d :: ds => setAll (env.set i (some d)) is ds
  | _, _ => env
def Tgt.put (env : Vars) : Tgt → D → Option Vars
  | .nm i, d => some (env.set i (some d))
  | .tp is, .tup ds => if ds.length = is.length then some (setAll env is ds) else none
  | .tp _, _ => none
def wipeD (env : Vars) : List Nat → Vars
  | [] => env
  | v :: vs => (wipeD env vs).set v none
def bYes : BM := fun _ S => some (true, S)
def lcN (it : DIt) (vs : List Nat) (t : Tgt) (tt : BM) (te : EM) (env : Vars) : Nat → Nat → List D → Sto → Option (List D × Sto)
  | 0, _, _, _ => none
  | f + 1, i, acc, S => match itAt S it i with
    | none => none
    | some none => some (acc, S)
    | some (some d) => match t.put (wipeD env vs) d with
      | none => none
      | some env1 => match tt env1 S with
        | none => none
        | some (false, S1) => lcN it vs t tt te env f (i + 1) acc S1
        | some (true, S1) => match te env1 S1 with
          | none => none
          | some (y, S2) => if acc.length < sizeLine then lcN it vs t tt te env f (i + 1) (acc ++ [y]) S2 else none
theorem lcN_up {it : DIt} {vs : List Nat} {t : Tgt} {tt : BM} {te : EM} {env : Vars} : ∀ (n i : Nat) (acc : List D) (S : Sto) a, lcN it vs t tt te env n i acc S = some a → lcN it vs t tt te env (n + 1) i acc S = some a
  | 0, _, _, _, _, h => by simp [lcN] at h
  | n + 1, i, acc, S, a, h => by
    unfold lcN at h ⊢
    split at h
    · cases h
    · exact h
    · rename_i d e1
      try simp only [e1]
      split at h
      · cases h
      · rename_i env1 e2
        try simp only [e2]
        split at h
        · cases h
        · rename_i S1 e3
          try simp only [e3]
          exact lcN_up n _ _ _ _ h
        · rename_i S1 e3
          try simp only [e3]
          split at h
          · cases h
          · rename_i y S2 e4
            try simp only [e4]
            split at h
            · rename_i hz
              rw [if_pos hz]
              exact lcN_up n _ _ _ _ h
            · cases h
noncomputable def lcL (it : DIt) (vs : List Nat) (t : Tgt) (tt : BM) (te : EM) (env : Vars) (i : Nat) (acc : List D) (S : Sto) : Option (List D × Sto) := lim fun n => lcN it vs t tt te env n i acc S
theorem lcL_eq (it : DIt) (vs : List Nat) (t : Tgt) (tt : BM) (te : EM) (env : Vars) (i : Nat) (acc : List D) (S : Sto) : lcL it vs t tt te env i acc S = match itAt S it i with
    | none => none
    | some none => some (acc, S)
    | some (some d) => match t.put (wipeD env vs) d with
      | none => none
      | some env1 => match tt env1 S with
        | none => none
        | some (false, S1) => lcL it vs t tt te env (i + 1) acc S1
        | some (true, S1) => match te env1 S1 with
          | none => none
          | some (y, S2) => if acc.length < sizeLine then lcL it vs t tt te env (i + 1) (acc ++ [y]) S2 else none := by
  unfold lcL
  rw [lim_shift (fun n a h => lcN_up n _ _ _ _ h) rfl]
  simp only [lcN]
  cases itAt S it i with
  | none => exact lim_const
  | some o =>
    cases o with
    | none => exact lim_const
    | some d =>
      try simp only
      cases t.put (wipeD env vs) d with
      | none => exact lim_const
      | some env1 =>
        try simp only
        cases tt env1 S with
        | none => exact lim_const
        | some q =>
          obtain ⟨b, S1⟩ := q
          cases b with
          | false => rfl
          | true =>
            try simp only
            cases te env1 S1 with
            | none => exact lim_const
            | some z =>
              try simp only
              split
              · rfl
              · exact lim_const
/-- the list is laid behind the turns -/
noncomputable def mLc (mi : IM) (vs : List Nat) (t : Tgt) (tt : BM) (te : EM) : EM := fun env S => match mi env S with
  | some (it, S1) => match lcL it vs t tt te env 0 [] S1 with
    | some (ds, S2) => some (.loc S2.length, S2 ++ [.lst ds])
    | none => none
  | none => none
end DL
/-! DLd: comprehensions, defs, calls. -/
namespace DL
open PySem PySem.Spec L2
open PyProof.Rows hiding St

theorem wipe_get (σ : L2.St) : ∀ (vs : List Nat) (j : Nat), (wipe σ vs)[j]? = if j ∈ vs then (σ[j]?).map (fun _ => none) else σ[j]?
  | [], j => by simp [wipe]
  | v :: vs, j => by
    have ih := wipe_get σ vs
    unfold wipe
    rw [List.getElem?_set]
    by_cases hj : v = j
    · subst hj
      rw [if_pos rfl, wipe_length]
      by_cases hl : v < σ.length
      · simp [hl]
      · simp [hl, List.getElem?_eq_none (Nat.le_of_not_lt hl)]
    · rw [if_neg hj, ih]
      have : j ∈ v :: vs ↔ j ∈ vs := by
        rw [List.mem_cons]
        exact ⟨fun q => q.elim (fun e => absurd e.symm hj) id, .inr⟩
      by_cases hm : j ∈ vs
      · rw [if_pos hm, if_pos (this.mpr hm)]
      · rw [if_neg hm, if_neg (fun q => hm (this.mp q))]
theorem wipe_set {σ : L2.St} {vs : List Nat} {i : Nat} {a : Option V} (h : i ∈ vs) : wipe (σ.set i a) vs = wipe σ vs := by
  apply List.ext_getElem?
  intro j
  rw [wipe_get, wipe_get, List.getElem?_set]
  by_cases hj : j ∈ vs
  · rw [if_pos hj, if_pos hj]
    by_cases e : i = j
    · subst e
      rw [if_pos rfl]
      by_cases hl : i < σ.length
      · simp [hl]
      · simp [hl]
    · rw [if_neg e]
  · rw [if_neg hj, if_neg hj, if_neg (show ¬ i = j by rintro rfl; exact hj h)]
theorem wipe_wipe {σ : L2.St} {vs : List Nat} : wipe (wipe σ vs) vs = wipe σ vs := by
  apply List.ext_getElem?
  intro j
  rw [wipe_get, wipe_get]
  by_cases hj : j ∈ vs
  · rw [if_pos hj, if_pos hj]; cases σ[j]? <;> rfl
  · rw [if_neg hj]
theorem wipeD_length (env : Vars) : ∀ vs : List Nat, (wipeD env vs).length = env.length
  | [] => rfl
  | v :: vs => by unfold wipeD; rw [List.length_set, wipeD_length env vs]
theorem VarsV.wipe {K r H} {env : Vars} {σ : L2.St} (h : VarsV K r H env σ) : ∀ vs : List Nat, VarsV K r H (wipeD env vs) (L2.wipe σ vs)
  | [] => h
  | v :: vs => by
    have ih := VarsV.wipe h vs
    unfold wipeD L2.wipe
    refine ⟨by simp [ih.len], fun j e hj => ?_⟩
    by_cases hij : v = j
    · subst hij
      rw [List.getElem?_set] at hj
      rw [if_pos rfl] at hj
      split at hj <;> cases hj
    · rw [List.getElem?_set_ne hij] at hj
      rw [List.getElem?_set_ne hij]
      exact ih.at_ j e hj

/-- the target's reading by values -/
def gNms : List Nat → TGs
  | [] => gNil
  | i :: is => gCons (gName i) (gNms is)
def gTgt (K : PySem.W.Frag) : Tgt → TG
  | .nm i => gName i
  | .tp is => gTup K is.length (gNms is)
theorem gNms_ok {K r H} {vs : List Nat} {Q : L2.St → Hp → Prop} : ∀ (is : List Nat) (ds : List D) (us : List V) (env : Vars) (σ : L2.St), DVs K r H ds us → ds.length = is.length → VarsV K r H env σ → (∀ i ∈ is, i ∈ vs) →
    (∀ σ2, VarsV K r H (setAll env is ds) σ2 → wipe σ2 vs = wipe σ vs → Q σ2 H) → gNms is us σ H Q
  | [], [], us, env, σ, h, _, W, _, k => by
    unfold DVs at h
    subst h
    exact ⟨rfl, k σ W rfl⟩
  | i :: is, d :: ds, us, env, σ, h, hl, W, hm, k => by
    unfold DVs at h
    obtain ⟨v, us', rfl, h1, h2⟩ := h
    refine ⟨v, us', rfl, ?_⟩
    exact gNms_ok is ds us' _ _ h2 (by simpa using hl) (W.set i h1) (fun j hj => hm j (List.mem_cons_of_mem _ hj)) fun σ2 W2 e => k σ2 W2 (e.trans (wipe_set (hm i List.mem_cons_self)))
  | [], _ :: _, _, _, _, _, hl, _, _, _ => by simp at hl
  | _ :: _, [], _, _, _, _, hl, _, _, _ => by simp at hl
theorem gTgt_ok {K r H} {vs : List Nat} {Q : L2.St → Hp → Prop} {t : Tgt} {d : D} {x : V} {env env1 : Vars} {σ : L2.St} (h : t.put env d = some env1) (q : DV K r H d x) (W : VarsV K r H env σ) (hm : ∀ i ∈ t.slots, i ∈ vs)
    (k : ∀ σ2, VarsV K r H env1 σ2 → wipe σ2 vs = wipe σ vs → Q σ2 H) : gTgt K t x σ H Q := by
  cases t with
  | nm i =>
    simp only [Tgt.put, Option.some.injEq] at h
    subst h
    exact k _ (W.set i q) (wipe_set (hm i (by simp [Tgt.slots])))
  | tp is =>
    cases d with
    | tup ds =>
      simp only [Tgt.put] at h
      split at h
      · rename_i hl
        cases h
        unfold DV at q
        obtain ⟨a, us, rfl, q1, q2⟩ := q
        exact ⟨a, us, rfl, q1, by rw [q2.length, hl], gNms_ok is ds us env σ q2 hl W hm k⟩
      · cases h
    | non => cases h
    | bl _ => cases h
    | int _ => cases h
    | str _ => cases h
    | loc _ => cases h
    | scr _ => cases h
section
variable {X : Cx} {ca : Nat → Addr} {elt tg iter : Expr} {ifs : List Expr} {scope : Scope} {own : List (Str × Nat)} {mi : IM} {t : Tgt} {tt : BM} {te : EM} {pos : Pos}
/-- what a clause's tests read -/
theorem dts_nil : PTs X [] (liftB (gx X ca) bYes) := ⟨fun pins s σ H Q I ⟨r, env, S, b, S', R, W, h, k⟩ => by
  cases h
  exact pts_nil.run pins s σ H Q I (k r H Ext.refl R)⟩
theorem dts_one {c : Expr} {bc : BM} (h : PT X c (liftB (gx X ca) bc)) : PTs X [c] (liftB (gx X ca) bc) := pts_one h
theorem lc_lift {vs : List Nat} {σ : L2.St} {H : Hp} {Q : VK} (hm : ∀ i ∈ t.slots, i ∈ vs) (h : liftE (gx X ca) (mLc mi vs t tt te) σ H Q) :
    tLc (liftI (gx X ca) mi) (gTgt X.K t) (liftB (gx X ca) tt) (liftE (gx X ca) te) vs σ H Q := by
  obtain ⟨r, env, S, d, S', R, W, h, k⟩ := h
  unfold mLc at h
  split at h
  · rename_i it S1 e1
    split at h
    · rename_i ds S2 e2
      cases h
      obtain ⟨n0, h0⟩ := lim_some e2
      refine ⟨r, env, S, it, S1, R, W, e1, fun r1 H1 J x1 R1 J1 Da hD => ?_⟩
      -- what holds between the turns
      refine ⟨fun i m H2 => ∃ r2 S3 acc accV, Ext X.K r1 H1 r2 H2 ∧ RepS (gx X ca) r2 S3 H2 ∧ H2 Da = some (.lst accV) ∧ Da ∉ r2 ∧ DVs X.K r2 H2 acc accV ∧ lcN it vs t tt te env m i acc S3 = some (ds, S2), ?_, ?_⟩
      · obtain ⟨x2, R2⟩ := R1.side (u := .lst []) hD
        exact ⟨n0, r1, S1, [], [], x2, R2, upd_same, R1.free hD, DVs.nil, h0⟩
      rintro i m H2 ⟨r2, S3, acc, accV, x2, R2, hA, nA, qA, h2⟩
      cases m with
      | zero => simp [lcN] at h2
      | succ m =>
        unfold lcN at h2
        split at h2
        · cases h2
        · rename_i e3
          cases h2
          refine .inl ⟨J1.stop r2 _ H2 i x2 R2 e3, ?_⟩
          obtain ⟨y, R3⟩ := R2.reg hA nA qA
          refine k (r2 ++ [Da]) H2 _ (x1.trans ⟨x2.pre.trans y.pre, x2.tups, x2.scrs, fun a u hu hn => ?_⟩) R3 R2.newLoc
          obtain ⟨z1, z2⟩ := x2.frame a u hu hn
          exact ⟨z1, by simp [z2, ne_of_none hu hD]⟩
        · rename_i d e3
          obtain ⟨go, yl⟩ := J1.go r2 S3 H2 i d x2 R2 e3
          refine .inr ⟨go, fun H9 => ∃ r2 S3 acc accV, Ext X.K r1 H1 r2 H9 ∧ RepS (gx X ca) r2 S3 H9 ∧ H9 Da = some (.lst accV) ∧ Da ∉ r2 ∧ DVs X.K r2 H9 acc accV ∧ lcN it vs t tt te env m (i + 1) acc S3 = some (ds, S2), fun H9 q => ⟨m, Nat.lt_succ_self _, q⟩, fun x H3 hy => ?_⟩
          obtain ⟨r3, x3, R3, q3⟩ := yl x H3 hy
          obtain ⟨hA3, nA3⟩ := x3.frame _ _ hA nA
          split at h2
          · cases h2
          · rename_i env1 e4
            refine gTgt_ok e4 q3 ((W.ext (x1.trans (x2.trans x3))).wipe vs) hm fun σ2 W2 hw => ⟨hw.trans wipe_wipe, ?_⟩
            split at h2
            · cases h2
            · rename_i S4 e5
              refine ⟨r3, env1, S3, _, _, R3, W2, e5, fun r5 H5 x5 R5 => iteF ?_⟩
              obtain ⟨hA5, nA5⟩ := x5.frame _ _ hA3 nA3
              exact ⟨r5, S4, acc, accV, x2.trans (x3.trans x5), R5, hA5, nA5, DVs.ext (x3.trans x5) _ _ qA, h2⟩
            · rename_i S4 e5
              refine ⟨r3, env1, S3, _, _, R3, W2, e5, fun r5 H5 x5 R5 => iteT ?_⟩
              obtain ⟨hA5, nA5⟩ := x5.frame _ _ hA3 nA3
              split at h2
              · cases h2
              · rename_i y S6 e6
                split at h2
                · rename_i hz
                  refine ⟨r5, env1, S4, _, _, R5, W2.ext x5, e6, fun r7 H7 v7 x7 R7 q7 => ?_⟩
                  obtain ⟨hA7, nA7⟩ := x7.frame _ _ hA5 nA5
                  have qA7 : DVs X.K r7 H7 acc accV := DVs.ext (x3.trans (x5.trans x7)) _ _ qA
                  obtain ⟨y8, R8⟩ := R7.sideW (us := accV ++ [v7]) hA7 nA7
                  refine ⟨accV, hA7, by rw [qA7.length]; exact hz, r7, S6, acc ++ [y], accV ++ [v7], ⟨(x2.trans (x3.trans (x5.trans x7))).pre, fun a us hh => y8.tups _ _ ((x2.trans (x3.trans (x5.trans x7))).tups _ _ hh), fun a us hh => y8.scrs _ _ ((x2.trans (x3.trans (x5.trans x7))).scrs _ _ hh), fun a u hu hn => ?_⟩, R8, upd_same, nA7, (DVs.extW y8 _ _ qA7).append (DVs.cons (DV.extW y8 _ _ q7) DVs.nil), h2⟩
                  obtain ⟨z1, z2⟩ := (x2.trans (x3.trans (x5.trans x7))).frame a u hu hn
                  exact ⟨by rw [upd_ne (ne_of_none hu hD)]; exact z1, z2⟩
                · cases h2
    · cases h
  · cases h
theorem de_lc (hN : X.N.Nodup) (ok : BlkOk X.N X.env.scope scope own) (hm : ∀ i ∈ t.slots, i ∈ own.map (·.2)) (hi : PI X tg iter (liftI (gx X ca) mi))
    (hg : ∀ (s : Shared) (H : Hp) (C : Addr) (cl : List (Str × Addr)) (fp : List Addr), PG (X.blk s H scope (compEnvC scope cl C X.env) fp) tg (gTgt X.K t)) (ht : ∀ (s : Shared) (H : Hp) (C : Addr) (cl : List (Str × Addr)) (fp : List Addr), PTs (X.blk s H scope (compEnvC scope cl C X.env) fp) ifs (liftB (gx X ca) tt))
    (he : ∀ (s : Shared) (H : Hp) (C : Addr) (cl : List (Str × Addr)) (fp : List Addr), PE (X.blk s H scope (compEnvC scope cl C X.env) fp) elt (liftE (gx X ca) te)) (hc : X.calm = true := by rfl) (hs : ∀ x, foldedSetIterable iter X.env x = pure x := by intro _; rfl) :
    PE X (.ListComp elt [⟨tg, iter, ifs, 0⟩] scope pos) (liftE (gx X ca) (mLc mi (own.map (·.2)) t tt te)) := wkE (pe_lc hc hN hi ok hg ht he hs) fun _ _ _ h => lc_lift hm h
theorem ds_setLc {i : Nat} {y : Str} {py spos : Pos} (hN : X.N.Nodup) (hsw : swapsWith (.ListComp elt [⟨tg, iter, ifs, 0⟩] scope pos) (some (.Name y py)) spos.line X.env = pure true) (ok : BlkOk X.N X.env.scope scope own) (hm : ∀ i ∈ t.slots, i ∈ own.map (·.2)) (hi : PI X tg iter (liftI (gx X ca) mi))
    (hg : ∀ (s : Shared) (H : Hp) (C : Addr) (cl : List (Str × Addr)) (fp : List Addr), PG (X.blk s H scope (compEnvC scope cl C X.env) fp) tg (gTgt X.K t)) (ht : ∀ (s : Shared) (H : Hp) (C : Addr) (cl : List (Str × Addr)) (fp : List Addr), PTs (X.blk s H scope (compEnvC scope cl C X.env) fp) ifs (liftB (gx X ca) tt))
    (he : ∀ (s : Shared) (H : Hp) (C : Addr) (cl : List (Str × Addr)) (fp : List Addr), PE (X.blk s H scope (compEnvC scope cl C X.env) fp) elt (liftE (gx X ca) te)) (hy : X.N[i]? = some y := by rfl) (hyl : X.env.scope.names.lookup y = some .local := by rfl) (hc : X.calm = true := by rfl) (hs : ∀ x, foldedSetIterable iter X.env x = pure x := by intro _; rfl) :
    PS X (.Assign [.Name y py] (.ListComp elt [⟨tg, iter, ifs, 0⟩] scope pos) spos) (liftS (gx X ca) (sAsg (mLc mi (own.map (·.2)) t tt te) (gVar i))) :=
  wkS (ps_setLc hc hN hy hyl hsw hi ok hg ht he hs) fun E σ H ⟨r, env, S, fl, env', S', R, W, h, k⟩ => by
    unfold sAsg gVar at h
    split at h
    · rename_i d S1 e1
      cases h
      exact lc_lift hm ⟨r, env, S, d, _, R, W, e1, fun r1 H1 v x1 R1 q1 => k r1 _ H1 x1 R1 ((W.ext x1).set i q1)⟩
    · cases h
end

/-! ### defs and calls -/
abbrev FM := List D → Sto → Option (D × Sto)
def spD (G : Ctx) (n : Nat) (m : FM) : Sp := fun vs H Q _ => ∃ r S ds d S', RepS G r S H ∧ DVs G.K r H ds vs ∧ ds.length = n ∧ m ds S = some (d, S') ∧ ∀ r' H' v, Ext G.K r H r' H' → RepS G r' S' H' → DV G.K r' H' d v → Q v H'
/-- a def's body run at its arguments, n names in all -/
def runB (n : Nat) (b : SM) : FM := fun ds S => match b (ds.map some ++ List.replicate (n - ds.length) none) S with
  | some (.rt d, _, S') => some (d, S')
  | some (.nx, _, S') => some (.non, S')
  | _ => none
theorem vars_start {K r H} {N : List Str} : ∀ {ds : List D} {vs : List V}, DVs K r H ds vs → VarsV K r H (ds.map some ++ List.replicate (N.length - ds.length) none) (L2.start N vs) := by
  intro ds vs h
  unfold L2.start
  refine ⟨by simp [h.length], fun i d e => ?_⟩
  by_cases hi : i < ds.length
  · rw [List.getElem?_append_left (by simpa using hi)] at e
    rw [List.getElem?_map] at e
    have e' : ds[i]? = some d := by
      cases q : ds[i]? with
      | none => rw [q] at e; cases e
      | some x => rw [q] at e; cases e; rfl
    obtain ⟨v, ev, qv⟩ := h.get e'
    exact ⟨v, by rw [List.getElem?_append_left (by simpa [h.length] using hi), List.getElem?_map, ev]; rfl, qv⟩
  · rw [List.getElem?_append_right (by simpa using hi), List.getElem?_replicate] at e
    split at e <;> cases e
section
variable {P : Program} {w : World} {K : PySem.W.Frag} {mg : Str → Option Value} {base : Heap} {ca : Nat → Addr}
abbrev bx (P : Program) (w : World) (K : PySem.W.Frag) (mg : Str → Option Value) (base : Heap) (N : List Str) (qual : Str) (sc : Scope) (f : Addr) (cdv : Value) (A : Around) (outer : List Env) (s : Shared) (H : Hp) (E : XK) : Cx :=
  (cxOf CX0 P w K mg base N qual sc f cdv A outer s H E).nox
theorem fun_ok {x qual : Str} {st : Stmt} {f : Addr} {fd : FuncData} {N ps : List Str} {k : Nat} {b : SM} (F : Fun K x qual st f fd) (S : FnScope N ps (defScope st))
    (hb : ∀ (cdv : Value) (A : Around) (outer : List Env) (s : Shared) (H : Hp) (E : XK), Room k (A.deeper (envOfC qual (defScope st) s.heap.objs.size f cdv)) → PSs (bx P w K mg base N qual (defScope st) f cdv A outer s H E) (defBody st) (liftS ⟨K, w, ca⟩ b)) :
    FnOk P w K mg base CX0 (k + 1) f fd ps (spD ⟨K, w, ca⟩ ps.length (runB N.length b)) := by
  refine F.ok S (fun vs H Q E h => ?_) (fun cdv A outer s H vs Q E hr h => ⟨_, hb cdv A outer s H E hr, ?_⟩)
  · obtain ⟨r, S, ds, d, S', R, q, hl, _⟩ := h
    rw [q.length, hl]
  · obtain ⟨r, S, ds, d, S', R, q, hl, e, k⟩ := h
    unfold runB at e
    split at e
    · rename_i d' env' S1 e1
      cases e
      exact ⟨r, _, S, _, env', _, R, vars_start q, e1, fun r1 σ1 H1 x1 R1 W1 v qv => k r1 H1 v x1 R1 qv⟩
    · rename_i env' S1 e1
      cases e
      exact ⟨r, _, S, _, env', _, R, vars_start q, e1, fun r1 σ1 H1 x1 R1 W1 => k r1 H1 .non x1 R1 (by unfold DV; rfl)⟩
    · cases e
/-- at level 0 nothing is promised -/
theorem fn_zero {k : Nat} {f : Addr} {fd : FuncData} {ps : List Str} {m : FM} (h : ∀ ds S, m ds S = none) : FnOk P w K mg base CX0 k f fd ps (spD ⟨K, w, ca⟩ ps.length m) :=
  ⟨fun vs H Q E ⟨r, S, ds, d, S', R, q, hl, e, _⟩ => by rw [q.length, hl], fun A outer s H args us vs Q E hr e0 hb r ⟨_, S, ds, d, S', R, q, hl, e, _⟩ => by rw [h] at e; cases e⟩
end
section
variable {X : Cx} {ca : Nat → Addr} {k : Nat} {f : Addr} {fd : FuncData} {ps : List Str} {m : FM} {x : Str} {p pos : Pos} {e : Expr} {es : List Expr} {la : LM} {n : Nat}
theorem liftCall {G : Ctx} {σ : L2.St} {H : Hp} {Q : VK} {E : XK} (hl : ∀ env S ds S', la env S = some (ds, S') → ds.length = n) (h : liftE G (mL m la) σ H Q) : liftL G la σ H fun vs H1 => spD G n m vs H1 Q E := by
  obtain ⟨r, env, S, d, S', R, W, h, k⟩ := h
  unfold mL at h
  split at h
  · rename_i ds S1 e1
    exact ⟨r, env, S, ds, S1, R, W, e1, fun r1 H1 vs x1 R1 q1 => ⟨r1, S1, ds, d, S', R1, q1, hl _ _ _ _ e1, h, fun r2 H2 v x2 R2 q2 => k r2 H2 v (x1.trans x2) R2 q2⟩⟩
  · cases h
/-- how many an argument list gives -/
inductive Len : LM → Nat → Prop where
  | nil : Len lNil 0
  | cons {a : EM} {l : LM} {n : Nat} : Len l n → Len (lCons a l) (n + 1)
theorem Len.ok {l : LM} {n : Nat} (h : Len l n) : ∀ env S ds S', l env S = some (ds, S') → ds.length = n := by
  induction h with
  | nil => intro env S ds S' e; cases e; rfl
  | cons h ih =>
    intro env S ds S' e
    unfold lCons at e
    split at e
    · split at e
      · rename_i e2
        cases e
        simp [ih _ _ _ _ e2]
      · cases e
    · cases e
theorem de_call (F : FnOk X.prog X.w X.K X.mg X.base CX0 k f fd ps (spD (gx X ca) n m)) (hr : Room k X.A) (hm : X.mg x = some (.ref f)) (hk : PySem.W.keepIn X.K (.ref f) = true) (hb : Binds X.K fd ps []) (hl : Len la n) (ha : PA X (e :: es) (liftL (gx X ca) la)) (hg : Gl X x := by rfl)
    (hdb : (x == ("__debug__" : Str)) = false := by decide) (he : starEach (e :: es) X.env = (false, eval e X.env) :: starEach es X.env := by rfl) (hpl : (backTo pos (starEach es X.env)).any (·.1) = false := by rfl) :
    PE X (.Call (.Name x p) (e :: es) [] pos) (liftE (gx X ca) (mL m la)) :=
  wkE (pe_call (E := E0) F hr hg hm hk hb .nil pass0 ha hdb he hpl) fun σ H Q h => by
    show liftL _ la σ H fun vs H1 => spD _ n m (vs ++ []) H1 Q E0
    simp only [List.append_nil]
    exact liftCall hl.ok h
theorem de_call0 (F : FnOk X.prog X.w X.K X.mg X.base CX0 k f fd ps (spD (gx X ca) 0 m)) (hr : Room k X.A) (hm : X.mg x = some (.ref f)) (hk : PySem.W.keepIn X.K (.ref f) = true) (hb : Binds X.K fd ps []) (hg : Gl X x := by rfl)
    (hdb : (x == ("__debug__" : Str)) = false := by decide) :
    PE X (.Call (.Name x p) [] [] pos) (liftE (gx X ca) (mL m lNil)) :=
  wkE (pe_call0 (E := E0) F hr hg hm hk hb .nil pass0 hdb) fun σ H Q h => by
    obtain ⟨r, env, S, d, S', R, W, h, k⟩ := h
    exact ⟨r, S, [], d, S', R, DVs.nil, rfl, h, fun r2 H2 v x2 R2 q2 => k r2 H2 v x2 R2 q2⟩
end
end DL
/-! DLe: operators, comparisons, built-ins, methods of lists. -/
namespace DL
open PySem PySem.Spec L2
open PyProof.Rows hiding St

/-! ### arithmetic -/
def addP : D → D → Sto → Option (D × Sto)
  | .int i, .int j, S => some (.int (i + j), S)
  | .str x, .str y, S => if x.length + y.length ≤ sizeLine then some (.str (x ++ y), S) else none
  | .tup xs, .tup ys, S => if xs.length + ys.length ≤ sizeLine then some (.tup (xs ++ ys), S) else none
  | .loc m, .loc n, S => match S[m]?, S[n]? with
    | some (.lst xs), some (.lst ys) => if xs.length + ys.length ≤ sizeLine then some (.loc S.length, S ++ [.lst (xs ++ ys)]) else none
    | _, _ => none
  | _, _, _ => none
def intP (f : Int → Int → Int) : D → D → Sto → Option (D × Sto)
  | .int i, .int j, S => some (.int (f i j), S)
  | _, _, _ => none
def small (i : Int) : Bool := decide (-(2 ^ 64) < i) && decide (i < 2 ^ 64)
def mulP : D → D → Sto → Option (D × Sto)
  | .int i, .int j, S => if small i || small j then some (.int (i * j), S) else none
  | _, _, _ => none
def divP : D → D → Sto → Option (D × Sto)
  | .int i, .int j, S => if decide (0 < j) && decide (j < 1073741824) then some (.int (i / j), S) else none
  | _, _, _ => none
def modP : D → D → Sto → Option (D × Sto)
  | .int i, .int j, S => if 0 < j then some (.int (i % j), S) else none
  | _, _, _ => none
def powP : D → D → Sto → Option (D × Sto)
  | .int i, .int j, S => if decide (0 ≤ j) && decide (j ≤ 1000000) && decide (i.natAbs < 2 ^ 64) then some (.int (i ^ j.toNat), S) else none
  | _, _, _ => none
def negP : D → Sto → Option (D × Sto)
  | .int i, S => some (.int (-i), S)
  | _, _ => none
section
variable {X : Cx} {ca : Nat → Addr} {G : Ctx}
theorem dv_int {K r H} {i : Int} {v : V} (h : DV K r H (.int i) v) : v = .int i := by unfold DV at h; exact h
theorem dv_bl {K r H} {i : Bool} {v : V} (h : DV K r H (.bl i) v) : v = .bl i := by unfold DV at h; exact h
theorem dv_str {K r H} {i : Str} {v : V} (h : DV K r H (.str i) v) : v = .str i := by unfold DV at h; exact h
theorem dv_tup {K r H} {ds : List D} {v : V} (h : DV K r H (.tup ds) v) : ∃ a vs, v = .ref a ∧ SqT K H a vs ∧ DVs K r H ds vs := by unfold DV at h; exact h
theorem dv_loc {K r H} {n : Nat} {v : V} (h : DV K r H (.loc n) v) : ∃ a, r[n]? = some a ∧ v = .ref a := by unfold DV at h; exact h
theorem mk_int {K r H} {i : Int} : DV K r H (.int i) (.int i) := by unfold DV; rfl
theorem mk_bl {K r H} {i : Bool} : DV K r H (.bl i) (.bl i) := by unfold DV; rfl
theorem mk_str {K r H} {i : Str} : DV K r H (.str i) (.str i) := by unfold DV; rfl
theorem mk_non {K r H} : DV K r H .non .non := by unfold DV; rfl
theorem RepS.lstAt {r : List Addr} {S : Sto} {H : Hp} (R : RepS G r S H) {n : Nat} {a : Addr} {ds : List D} (e : S[n]? = some (.lst ds)) (ea : r[n]? = some a) : ∃ vs, H a = some (.lst vs) ∧ DVs G.K r H ds vs := R.at_ n _ a e ea

def rAddAll (K : PySem.W.Frag) : R2 := fun x y H Q => (rI0 fun i j => .int (i + j)) x y H Q ∨ (fun x y H Q => ∃ i j, x = V.str i ∧ y = V.str j ∧ i.length + j.length ≤ sizeLine ∧ Q (V.str (i ++ j)) H) x y H Q ∨ rCatA K x y H Q ∨ rCat x y H Q
theorem op_addAll : OpR X (binaryOp .Add) (rAddAll X.K) := op_add.or (op_add_str.or (op_catA.or op_cat))
theorem prim_add : Prim2 G (rAddAll G.K) addP := by
  intro r S H x y v w d S' Q R hv hw h k
  unfold addP at h
  split at h
  · cases h
    rw [dv_int hv, dv_int hw]
    exact .inl ⟨_, _, rfl, rfl, k r H _ Ext.refl R mk_int⟩
  · split at h
    · rename_i hz
      cases h
      rw [dv_str hv, dv_str hw]
      exact .inr (.inl ⟨_, _, rfl, rfl, hz, k r H _ Ext.refl R mk_str⟩)
    · cases h
  · rename_i xs ys
    split at h
    · rename_i hz
      cases h
      obtain ⟨a, vs, rfl, h1, h2⟩ := dv_tup hv
      obtain ⟨b, ws, rfl, h3, h4⟩ := dv_tup hw
      refine .inr (.inr (.inl ⟨a, b, vs, ws, rfl, rfl, h1, h3, by rw [h2.length, h4.length]; exact hz, fun e => ?_, fun _ e => ?_, fun _ _ p hp => ?_⟩))
      · have hx : xs = [] := by have := h2.length; rw [e] at this; exact List.length_eq_zero_iff.mp this.symm
        subst hx
        exact k r H _ Ext.refl R hw
      · have hy : ys = [] := by have := h4.length; rw [e] at this; exact List.length_eq_zero_iff.mp this.symm
        subst hy
        rw [List.append_nil] at k
        exact k r H _ Ext.refl R hv
      · obtain ⟨x, R'⟩ := R.tup (vs := vs ++ ws) hp
        exact k r _ _ x R' (DV.tup_mk (SqT.of upd_same) (DVs.ext x _ _ (h2.append h4)))
    · cases h
  · split at h
    · rename_i m n S xs ys e1 e2
      split at h
      · rename_i hz
        cases h
        obtain ⟨a, ea, rfl⟩ := dv_loc hv
        obtain ⟨b, eb, rfl⟩ := dv_loc hw
        obtain ⟨vs, h1, q1⟩ := R.lstAt e1 ea
        obtain ⟨ws, h2, q2⟩ := R.lstAt e2 eb
        refine .inr (.inr (.inr ⟨a, b, vs, ws, rfl, rfl, h1, h2, by rw [q1.length, q2.length]; exact hz, fun p hp => ?_⟩))
        obtain ⟨x, R'⟩ := R.lst hp (q1.append q2)
        exact k _ _ _ x R' R.newLoc
      · cases h
    · cases h
  · cases h
theorem prim_int {f : Int → Int → Int} {g : Int → Int → V} (hg : ∀ i j, g i j = .int (f i j)) : Prim2 G (rI0 g) (intP f) := by
  intro r S H x y v w d S' Q R hv hw h k
  unfold intP at h
  split at h
  · cases h
    rw [dv_int hv, dv_int hw]
    exact ⟨_, _, rfl, rfl, by rw [hg]; exact k r H _ Ext.refl R mk_int⟩
  · cases h
theorem prim_mul : Prim2 G (rI CMul fun i j => .int (i * j)) mulP := by
  intro r S H x y v w d S' Q R hv hw h k
  unfold mulP at h
  split at h
  · split at h
    · rename_i hz
      cases h
      rw [dv_int hv, dv_int hw]
      refine ⟨_, _, rfl, rfl, ?_, k r H _ Ext.refl R mk_int⟩
      simp only [small, Bool.or_eq_true, Bool.and_eq_true, decide_eq_true_eq] at hz
      exact hz
    · cases h
  · cases h
theorem prim_div : Prim2 G (rI CDiv fun i j => .int (i / j)) divP := by
  intro r S H x y v w d S' Q R hv hw h k
  unfold divP at h
  split at h
  · split at h
    · rename_i hz
      cases h
      rw [dv_int hv, dv_int hw]
      refine ⟨_, _, rfl, rfl, ?_, k r H _ Ext.refl R mk_int⟩
      simp only [Bool.and_eq_true, decide_eq_true_eq] at hz
      exact hz
    · cases h
  · cases h
theorem prim_mod : Prim2 G (rI (fun _ j => 0 < j) fun i j => .int (i % j)) modP := by
  intro r S H x y v w d S' Q R hv hw h k
  unfold modP at h
  split at h
  · split at h
    · rename_i hz
      cases h
      rw [dv_int hv, dv_int hw]
      exact ⟨_, _, rfl, rfl, hz, k r H _ Ext.refl R mk_int⟩
    · cases h
  · cases h
theorem prim_pow : Prim2 G (rI CPow fun i j => .int (i ^ j.toNat)) powP := by
  intro r S H x y v w d S' Q R hv hw h k
  unfold powP at h
  split at h
  · split at h
    · rename_i hz
      cases h
      rw [dv_int hv, dv_int hw]
      refine ⟨_, _, rfl, rfl, ?_, k r H _ Ext.refl R mk_int⟩
      simp only [Bool.and_eq_true, decide_eq_true_eq] at hz
      exact ⟨hz.1.1, hz.1.2, hz.2⟩
    · cases h
  · cases h
theorem prim_neg : Prim1 G (rU fun i => .int (-i)) negP := by
  intro r S H x v d S' Q R hv h k
  unfold negP at h
  split at h
  · cases h
    rw [dv_int hv]
    exact ⟨_, rfl, k r H _ Ext.refl R mk_int⟩
  · cases h
end

/-! ### equality and order of data -/
mutual
def D.py : D → PyData
  | .non => .none
  | .bl b => .bool b
  | .int i => .int i
  | .str x => .str x
  | .tup ds => .tuple (D.pys ds)
  | .loc _ => .none
  | .scr _ => .none
def D.pys : List D → List PyData
  | [] => []
  | d :: ds => D.py d :: D.pys ds
end
def pyOf (S : Sto) (d : D) : Option PyData := if d.pure = true then some d.py else match seqD S d with
  | some ds => if D.pures ds = true then (match d with | .loc _ => some (.list (D.pys ds)) | _ => none) else none
  | none => none
mutual
theorem dp_of {K r H} : ∀ (d : D) (v : V), DV K r H d v → d.pure = true → Dp K H v d.py
  | .non, v, h, _ => by unfold DV at h; subst h; exact .non
  | .bl b, v, h, _ => by unfold DV at h; subst h; exact .bl b
  | .int b, v, h, _ => by unfold DV at h; subst h; exact .int b
  | .str b, v, h, _ => by unfold DV at h; subst h; exact .str b
  | .tup ds, v, h, p => by
    unfold DV at h
    obtain ⟨a, vs, rfl, h1, h2⟩ := h
    exact .tup h1 (dps_of ds vs h2 (by simpa [D.pure] using p))
  | .loc _, _, _, p => by simp [D.pure] at p
  | .scr _, _, _, p => by simp [D.pure] at p
theorem dps_of {K r H} : ∀ (ds : List D) (vs : List V), DVs K r H ds vs → D.pures ds = true → DpAll K H vs (D.pys ds)
  | [], _, h, _ => by unfold DVs at h; subst h; exact .nil
  | d :: ds, _, h, p => by
    unfold DVs at h
    obtain ⟨v, us, rfl, h1, h2⟩ := h
    simp only [D.pures, Bool.and_eq_true] at p
    exact .cons (dp_of d v h1 p.1) (dps_of ds us h2 p.2)
end
theorem dp_pyOf {G : Ctx} {r : List Addr} {S : Sto} {H : Hp} {d : D} {v : V} {p : PyData} (R : RepS G r S H) (q : DV G.K r H d v) (h : pyOf S d = some p) : Dp G.K H v p := by
  unfold pyOf at h
  split at h
  · rename_i hp
    cases h
    exact dp_of d v q hp
  · split at h
    · rename_i ds e
      split at h
      · rename_i hp
        split at h
        · cases h
          obtain ⟨a, vs, rfl, q2, h3⟩ := seq_cases R q e
          rcases h3 with ⟨z, _⟩ | ⟨n, _, _, hs⟩
          · cases z
          · exact .lst hs (dps_of ds vs q2 hp)
        · cases h
      · cases h
    · cases h
def eqP : D → D → Sto → Option (D × Sto) := fun a b S => match pyOf S a, pyOf S b with
  | some p, some q => if SeqAt.shaped p = true ∧ SeqAt.shaped q = true then some (.bl (PyData.eqv p q), S) else none
  | _, _ => none
def neP : D → D → Sto → Option (D × Sto) := fun a b S => match pyOf S a, pyOf S b with
  | some p, some q => if SeqAt.shaped p = true ∧ SeqAt.shaped q = true then some (.bl (!PyData.eqv p q), S) else none
  | _, _ => none
/-- in a list or a tuple -/
def inP : D → D → Sto → Option (D × Sto) := fun a b S => match seqD S b with
  | some ds => if a.pure = true ∧ D.pures ds = true ∧ SeqAt.shaped a.py = true ∧ SeqAt.shaped (.list (D.pys ds)) = true then some (.bl (ds.any fun z => PyData.eqv z.py a.py), S) else none
  | none => none
def notInP : D → D → Sto → Option (D × Sto) := fun a b S => match seqD S b with
  | some ds => if a.pure = true ∧ D.pures ds = true ∧ SeqAt.shaped a.py = true ∧ SeqAt.shaped (.list (D.pys ds)) = true then some (.bl (!ds.any fun z => PyData.eqv z.py a.py), S) else none
  | none => none
theorem pys_any (f : PyData → Bool) : ∀ ds : List D, (D.pys ds).any f = ds.any fun z => f z.py
  | [] => rfl
  | d :: ds => by simp only [D.pys, List.any_cons, pys_any f ds]
section
variable {X : Cx} {G : Ctx}
def rInT (K : PySem.W.Frag) : R2 := fun x y H Q => ∃ d ds, Dp K H x d ∧ Dp K H y (.tuple ds) ∧ SeqAt.shaped d = true ∧ SeqAt.shaped (.list ds) = true ∧ Q (.bl (ds.any fun z => PyData.eqv z d)) H
def rNotInT (K : PySem.W.Frag) : R2 := fun x y H Q => ∃ d ds, Dp K H x d ∧ Dp K H y (.tuple ds) ∧ SeqAt.shaped d = true ∧ SeqAt.shaped (.list ds) = true ∧ Q (.bl (!ds.any fun z => PyData.eqv z d)) H
theorem shaped_lay {ds : List PyData} (h : SeqAt.shaped (.list ds) = true) : PyData.canLayAll0 ds = true := SeqAt.canLay_of_shaped h
theorem op_inT (hu : X.A.units + 65 < cLine) : OpR X (compareOp .In) (rInT X.K) := by
  intro pins s σ H x y v u Q I rx ry h
  obtain ⟨d, ds, hd, he, sd, se, q⟩ := h
  obtain ⟨as, r1⟩ := Dp.reads I d x v hd rx
  obtain ⟨bs, r2⟩ := Dp.reads I (.tuple ds) y u he ry
  exact SeqAt.in_tuple_reads r2 r1 (shaped_lay se) (SeqAt.canLay_of_shaped sd) (room_in_shaped sd hu) ⟨.bl _, H, I, rfl, q⟩
theorem op_notInT (hu : X.A.units + 65 < cLine) : OpR X (compareOp .NotIn) (rNotInT X.K) := by
  intro pins s σ H x y v u Q I rx ry h
  obtain ⟨d, ds, hd, he, sd, se, q⟩ := h
  obtain ⟨as, r1⟩ := Dp.reads I d x v hd rx
  obtain ⟨bs, r2⟩ := Dp.reads I (.tuple ds) y u he ry
  exact SeqAt.notIn_tuple_reads r2 r1 (shaped_lay se) (SeqAt.canLay_of_shaped sd) (room_in_shaped sd hu) ⟨.bl _, H, I, rfl, q⟩
theorem Room.u65 {k : Nat} {A : Around} (hr : Room k A) : A.units + 65 < cLine := by have := hr.un; omega
def rInLT (K : PySem.W.Frag) : R2 := fun x y H Q => rInD K x y H Q ∨ rInT K x y H Q
def rNotInLT (K : PySem.W.Frag) : R2 := fun x y H Q => rNotInD K x y H Q ∨ rNotInT K x y H Q
theorem op_inLT (hu : X.A.units + 65 < cLine) : OpR X (compareOp .In) (rInLT X.K) := (op_inD hu).or (op_inT hu)
theorem op_notInLT (hu : X.A.units + 65 < cLine) : OpR X (compareOp .NotIn) (rNotInLT X.K) := (op_notInD hu).or (op_notInT hu)
theorem prim_eq : Prim2 G (rEqD G.K) eqP := by
  intro r S H x y v w d S' Q R hv hw h k
  unfold eqP at h
  split at h
  · rename_i p q e1 e2
    split at h
    · rename_i hs
      cases h
      exact ⟨p, q, dp_pyOf R hv e1, dp_pyOf R hw e2, hs.1, hs.2, k r H _ Ext.refl R mk_bl⟩
    · cases h
  · cases h
theorem prim_ne : Prim2 G (rNeD G.K) neP := by
  intro r S H x y v w d S' Q R hv hw h k
  unfold neP at h
  split at h
  · rename_i p q e1 e2
    split at h
    · rename_i hs
      cases h
      exact ⟨p, q, dp_pyOf R hv e1, dp_pyOf R hw e2, hs.1, hs.2, k r H _ Ext.refl R mk_bl⟩
    · cases h
  · cases h
theorem prim_in : Prim2 G (rInLT G.K) inP := by
  intro r S H x y v w d S' Q R hv hw h k
  unfold inP at h
  split at h
  · rename_i ds e1
    split at h
    · rename_i hs
      obtain ⟨p1, p2, s1, s2⟩ := hs
      cases h
      rw [← pys_any (fun z => PyData.eqv z x.py)] at k
      obtain ⟨a, vs, rfl, q2, h3⟩ := seq_cases R hw e1
      rcases h3 with ⟨rfl, ht⟩ | ⟨n, _, _, hl⟩
      · exact .inr ⟨x.py, D.pys ds, dp_of x v hv p1, .tup ht (dps_of ds vs q2 p2), s1, s2, k r H _ Ext.refl R mk_bl⟩
      · exact .inl ⟨x.py, D.pys ds, dp_of x v hv p1, .lst hl (dps_of ds vs q2 p2), s1, s2, k r H _ Ext.refl R mk_bl⟩
    · cases h
  · cases h
theorem prim_notIn : Prim2 G (rNotInLT G.K) notInP := by
  intro r S H x y v w d S' Q R hv hw h k
  unfold notInP at h
  split at h
  · rename_i ds e1
    split at h
    · rename_i hs
      obtain ⟨p1, p2, s1, s2⟩ := hs
      cases h
      rw [← pys_any (fun z => PyData.eqv z x.py)] at k
      obtain ⟨a, vs, rfl, q2, h3⟩ := seq_cases R hw e1
      rcases h3 with ⟨rfl, ht⟩ | ⟨n, _, _, hl⟩
      · exact .inr ⟨x.py, D.pys ds, dp_of x v hv p1, .tup ht (dps_of ds vs q2 p2), s1, s2, k r H _ Ext.refl R mk_bl⟩
      · exact .inl ⟨x.py, D.pys ds, dp_of x v hv p1, .lst hl (dps_of ds vs q2 p2), s1, s2, k r H _ Ext.refl R mk_bl⟩
    · cases h
  · cases h
end

/-! a < b -/
mutual
/-- None where Python raises -/
def ltD : D → D → Option Bool
  | .int i, .int j => some (decide (i < j))
  | .str x, .str y => some (decide (x.cps.toList < y.cps.toList))
  | .tup xs, .tup ys => ltDs xs ys
  | _, _ => none
def ltDs : List D → List D → Option Bool
  | [], [] => some false
  | [], _ :: _ => some true
  | _ :: _, [] => some false
  | x :: xs, y :: ys => if PyData.eqv x.py y.py = true then ltDs xs ys else ltD x y
end
def ltP : D → D → Sto → Option (D × Sto) := fun a b S => match ltD a b with
  | some c => if a.pure = true ∧ b.pure = true ∧ SeqAt.shaped a.py = true ∧ SeqAt.shaped b.py = true then some (.bl c, S) else none
  | none => none
/-- two rows of values compared from the left -/
inductive CmpL (A : Around) (s : Shared) : List Value → List Value → Bool → Prop where
  | nn : CmpL A s [] [] false
  | nc {y : Value} {ys : List Value} : CmpL A s [] (y :: ys) true
  | cn {x : Value} {xs : List Value} : CmpL A s (x :: xs) [] false
  | eq {x y : Value} {xs ys : List Value} {c : Bool} : SeqAt.EqAt A s x y true → CmpL A s xs ys c → CmpL A s (x :: xs) (y :: ys) c
  | lt {x y : Value} {xs ys : List Value} {c : Bool} : SeqAt.EqAt A s x y false → SeqAt.RcLt A s x y c → CmpL A s (x :: xs) (y :: ys) c
section
open PySem.SeqAt
open PySem.AutoSeq1 (wpAny_loadPart')
open PySem.MeetsSeq PySem.MeetsSeq2 PySem.MeetsSeq3 PySem.SeqRoads2
theorem tup_cmp (p q : Addr) (us ws : Array Value) (e1 e2 : Nat) (d1 d2 : Option Addr) (z1 z2 : Array (Option Value)) (c : Bool) :
    Meets (Builtin.«tuple.__lt__» ⟨[.ref p, .ref q], []⟩) (fun A R s => s.heap.get? p = some { cls := .type "tuple", dict := d1, data := .seq us e1, slots := z1 } ∧
      s.heap.get? q = some { cls := .type "tuple", dict := d2, data := .seq ws e2, slots := z2 } ∧ CmpL A.in1 s us.toList ws.toList c ∧ R (.ok (.ret (.bool c))) s) :=
  .of_wp fun prog w A R st hyp => by
    obtain ⟨hp, gn, dr, tk, os⟩ := st
    obtain ⟨gp, gq, cm, fin⟩ := hyp
    have tt := AutoSeq1.sub_tuple_tuple
    wp_walk using wpAny_loadPart' gp, wpAny_loadPart' gq, wpAny_forIn_list _ (fun todo acc st' => acc.1 = none ∧ st' = ⟨hp, gn, dr, tk, os⟩ ∧ ∃ as bs, todo = as.zip bs ∧ CmpL A.in1 ⟨hp, gn, dr, tk, os⟩ as bs c ∧
      decide (as.length < bs.length) = decide (us.size < ws.size)) _
    case turn =>
      rintro ⟨a, b⟩ todo acc st' ⟨ha, rfl, as, bs, hz, hc, hl⟩
      cases hc with
      | nn => simp at hz
      | nc => simp at hz
      | cn => simp at hz
      | @eq x y xs ys _ h1 h2 =>
        simp only [List.zip_cons_cons, List.cons.injEq, Prod.mk.injEq] at hz
        obtain ⟨⟨rfl, rfl⟩, rfl⟩ := hz
        refine wpAny_bind (h1 prog w _ _ ?_)
        wp_walk
        refine ⟨rfl, rfl, xs, ys, rfl, h2, ?_⟩
        rw [← hl]
        simp
      | @lt x y xs ys _ h1 h2 =>
        simp only [List.zip_cons_cons, List.cons.injEq, Prod.mk.injEq] at hz
        obtain ⟨⟨rfl, rfl⟩, rfl⟩ := hz
        refine wpAny_bind (h1 prog w _ _ ?_)
        have hri := h2 prog w
        wp_walk using hri
        exact ⟨_, rfl, by simpa using fin⟩
    case fin =>
      rintro ⟨o1, o2⟩ st' ⟨ho, rfl, as, bs, hz, hc, hl⟩
      simp only at ho
      subst ho
      have key : decide (us.size < ws.size) = c := by
        rw [← hl]
        cases hc with
        | nn => rfl
        | nc => simp
        | cn => simp
        | eq _ _ => simp at hz
        | lt _ _ => simp at hz
      wp_walk
      refine ⟨_, rfl, ?_⟩
      simpa [Builtin.Tuple.tupleCompareSizes, key] using fin
    case h =>
      exact ⟨rfl, rfl, us.toList, ws.toList, rfl, cm, by simp⟩
end
end DL
/-! DLf: a < b of data; built-in functions; indices, slices; methods of lists. -/
namespace DL
open PySem PySem.Spec L2
open PyProof.Rows hiding St

theorem rcLt_tup {A : Around} {s : Shared} {p q : Addr} {us ws : Array Value} {c : Bool} (h1 : s.heap.IsTuple p us) (h2 : s.heap.IsTuple q ws) (hu : A.units < cLine) (h : CmpL A.in1 s us.toList ws.toList c) : SeqAt.RcLt A s (.ref p) (.ref q) c := fun prog w E Q k => by
  obtain ⟨⟨c1, d1, t1, z1⟩, g1, e1, n1, q1⟩ := id h1
  obtain ⟨⟨c2, d2, t2, z2⟩, g2, e2, n2, q2⟩ := id h2
  simp only at e1 q1 e2 q2
  subst e1 q1 e2 q2
  exact richCompare_meets_room (op := .Lt) ⟨_, g1, rfl⟩ ⟨_, g2, rfl⟩ PySem.F.slot_tuple_lt PySem.F.entry_tuple_lt (PySem.F.args_tuple_lt_2 _ _) (tup_cmp p q us ws n1 n2 d1 d2 z1 z2 c)
    ⟨g1, g2, h, show Value.bool c ≠ Value.notImplemented ∧ Q (.bool c) s from ⟨(fun x => nomatch x), k⟩⟩ hu
mutual
theorem rcLt_of : ∀ (x y : D) (c : Bool) (A : Around) (s : Shared) (a b : Value) (as bs : List Addr), Reads s.heap a x.py as → Reads s.heap b y.py bs → x.py.canLay0 = true → y.py.canLay0 = true →
    ltD x y = some c → A.units + min x.py.depth y.py.depth < cLine → SeqAt.RcLt A s a b c
  | .int i, y, c, A, s, a, b, as, bs, ra, rb, _, _, h, _ => by
    cases y with
    | int j =>
      simp only [ltD, Option.some.injEq] at h
      subst h
      simp only [D.py] at ra rb
      cases ra
      cases rb
      exact fun prog w E Q k => PySem.P.lt_int k
    | non => cases h
    | bl _ => cases h
    | str _ => cases h
    | tup _ => cases h
    | loc _ => cases h
    | scr _ => cases h
  | .str i, y, c, A, s, a, b, as, bs, ra, rb, _, _, h, _ => by
    cases y with
    | str j =>
      simp only [ltD, Option.some.injEq] at h
      subst h
      simp only [D.py] at ra rb
      cases ra
      cases rb
      exact fun prog w E Q k => PySem.P.lt_str k
    | non => cases h
    | bl _ => cases h
    | int _ => cases h
    | tup _ => cases h
    | loc _ => cases h
    | scr _ => cases h
  | .tup xs, y, c, A, s, a, b, as, bs, ra, rb, la, lb, h, hu => by
    cases y with
    | tup ys =>
      simp only [ltD] at h
      simp only [D.py] at ra rb la lb hu
      cases ra with
      | @tuple l o vs n _ _ g1 g2 g3 r1 =>
        cases rb with
        | @tuple l' o' vs' n' _ _ k1 k2 k3 r2 =>
          simp only [PyData.depth] at hu
          refine rcLt_tup ⟨_, g1, g2, _, g3⟩ ⟨_, k1, k2, _, k3⟩ (by omega) (cmpL_of xs ys c A.in1 s _ _ _ _ r1 r2 (by simpa [PyData.canLay0] using la) (by simpa [PyData.canLay0] using lb) h ?_)
          show A.units + 1 + _ < _
          omega
    | non => cases h
    | bl _ => cases h
    | str _ => cases h
    | int _ => cases h
    | loc _ => cases h
    | scr _ => cases h
  | .non, y, _, _, _, _, _, _, _, _, _, _, _, h, _ => by cases y <;> cases h
  | .bl _, y, _, _, _, _, _, _, _, _, _, _, _, h, _ => by cases y <;> cases h
  | .loc _, y, _, _, _, _, _, _, _, _, _, _, _, h, _ => by cases y <;> cases h
  | .scr _, y, _, _, _, _, _, _, _, _, _, _, _, h, _ => by cases y <;> cases h
theorem cmpL_of : ∀ (xs ys : List D) (c : Bool) (A : Around) (s : Shared) (us ws : List Value) (as bs : List Addr), ReadsAll s.heap us (D.pys xs) as → ReadsAll s.heap ws (D.pys ys) bs → PyData.canLayAll0 (D.pys xs) = true → PyData.canLayAll0 (D.pys ys) = true →
    ltDs xs ys = some c → A.units + min (PyData.depthAll (D.pys xs)) (PyData.depthAll (D.pys ys)) < cLine → CmpL A s us ws c
  | [], ys, c, A, s, us, ws, as, bs, ra, rb, _, _, h, _ => by
    simp only [D.pys] at ra
    cases ra
    cases ys with
    | nil =>
      simp only [D.pys] at rb
      cases rb
      simp only [ltDs, Option.some.injEq] at h
      subst h
      exact .nn
    | cons y ys =>
      simp only [D.pys] at rb
      cases rb
      simp only [ltDs, Option.some.injEq] at h
      subst h
      exact .nc
  | x :: xs, ys, c, A, s, us, ws, as, bs, ra, rb, la, lb, h, hu => by
    simp only [D.pys] at ra la hu
    cases ra with
    | cons r1 r2 =>
      cases ys with
      | nil =>
        simp only [D.pys] at rb
        cases rb
        simp only [ltDs, Option.some.injEq] at h
        subst h
        exact .cn
      | cons y ys =>
        simp only [D.pys] at rb lb hu
        cases rb with
        | cons k1 k2 =>
          simp only [PyData.canLayAll0, Bool.and_eq_true] at la lb
          simp only [PyData.depthAll] at hu
          have eq := SeqAt.eqAt_reads x.py y.py A s _ _ _ _ r1 k1 la.1 lb.1 (by omega)
          simp only [ltDs] at h
          split at h
          · rename_i hq
            rw [hq] at eq
            exact .eq eq (cmpL_of xs ys c A s _ _ _ _ r2 k2 la.2 lb.2 h (by omega))
          · rename_i hq
            rw [Bool.not_eq_true] at hq
            rw [hq] at eq
            exact .lt eq (rcLt_of x y c A s _ _ _ _ r1 k1 la.1 lb.1 h (by omega))
end
section
variable {X : Cx} {G : Ctx}
def rLtA (K : PySem.W.Frag) : R2 := fun x y H Q => ∃ (a b : D) (c : Bool), Dp K H x a.py ∧ Dp K H y b.py ∧ SeqAt.shaped a.py = true ∧ SeqAt.shaped b.py = true ∧ ltD a b = some c ∧ Q (.bl c) H
theorem op_ltA (hu : X.A.units + 65 < cLine) : OpR X (compareOp .Lt) (rLtA X.K) := by
  intro pins s σ H x y v u Q I rx ry h
  obtain ⟨a, b, c, ha, hb, sa, sb, hl, q⟩ := h
  obtain ⟨as, r1⟩ := Dp.reads I _ x v ha rx
  obtain ⟨bs, r2⟩ := Dp.reads I _ y u hb ry
  have h1 := SeqAt.depth_of_shaped sa
  have h2 := SeqAt.depth_of_shaped sb
  exact rcLt_of a b c X.A s v u as bs r1 r2 (SeqAt.canLay_of_shaped sa) (SeqAt.canLay_of_shaped sb) hl (by omega) X.prog X.w X.xe _ ⟨.bl c, H, I, rfl, q⟩
theorem prim_lt : Prim2 G (rLtA G.K) ltP := by
  intro r S H x y v w d S' Q R hv hw h k
  unfold ltP at h
  split at h
  · rename_i c e
    split at h
    · rename_i hs
      obtain ⟨p1, p2, s1, s2⟩ := hs
      cases h
      exact ⟨x, y, c, dp_of x v hv p1, dp_of y w hw p2, s1, s2, e, k r H _ Ext.refl R mk_bl⟩
    · cases h
  · cases h
def cmpP (f : Int → Int → Bool) : D → D → Sto → Option (D × Sto)
  | .int i, .int j, S => some (.bl (f i j), S)
  | _, _, _ => none
theorem prim_cmp {f : Int → Int → Bool} {g : Int → Int → V} (hg : ∀ i j, g i j = .bl (f i j)) : Prim2 G (rI0 g) (cmpP f) := by
  intro r S H x y v w d S' Q R hv hw h k
  unfold cmpP at h
  split at h
  · cases h
    rw [dv_int hv, dv_int hw]
    exact ⟨_, _, rfl, rfl, by rw [hg]; exact k r H _ Ext.refl R mk_bl⟩
  · cases h
def leP := cmpP fun i j => decide (i ≤ j)
def gtP := cmpP fun i j => decide (j < i)
def geP := cmpP fun i j => decide (j ≤ i)
theorem prim_le : Prim2 G (rI0 fun i j => .bl (decide (i ≤ j))) leP := prim_cmp fun _ _ => rfl
theorem prim_gt : Prim2 G (rI0 fun i j => .bl (decide (j < i))) gtP := prim_cmp fun _ _ => rfl
theorem prim_ge : Prim2 G (rI0 fun i j => .bl (decide (j ≤ i))) geP := prim_cmp fun _ _ => rfl

/-! ### chains a < b < c -/
def mChain (p q : D → D → Sto → Option (D × Sto)) (a b c : EM) : EM := fun env S => match a env S with
  | some (x, S1) => match b env S1 with
    | some (y, S2) => match p x y S2 with
      | some (.bl true, S3) => match c env S3 with
        | some (z, S4) => q y z S4
        | none => none
      | some (.bl false, S3) => some (.bl false, S3)
      | _ => none
    | none => none
  | none => none
end

/-! ### indices -/
def ixP : D → D → Sto → Option (D × Sto)
  | .str x, .int i, S => if x.length ≤ sizeLine then match atI x.cps.toList i with
    | some c => some (.str ⟨#[c]⟩, S)
    | none => none else none
  | .tup ds, .int i, S => match atI ds i with
    | some d => some (d, S)
    | none => none
  | .loc n, .int i, S => match seqD S (.loc n) with
    | some ds => match atI ds i with
      | some d => some (d, S)
      | none => none
    | none => none
  | _, _, _ => none
section
variable {X : Cx} {G : Ctx}
theorem DVs.atI {K r H} {ds : List D} {vs : List V} {i : Int} {d : D} (h : DVs K r H ds vs) (e : atI ds i = some d) : ∃ v, L2.atI vs i = some v ∧ DV K r H d v := by
  unfold L2.atI at e ⊢
  rw [h.length]
  cases q : ixN ds.length i with
  | none => rw [q] at e; cases e
  | some j =>
    rw [q] at e
    exact h.get (i := j) e
theorem prim_ix : Prim2 G (rIx G.K) ixP := by
  intro r S H x y v w d S' Q R hv hw h k
  unfold ixP at h
  split at h
  · split at h
    · rename_i hz
      split at h
      · rename_i c e
        cases h
        rw [dv_str hv, dv_int hw]
        exact .inr (.inr ⟨_, _, c, rfl, rfl, hz, e, k r H _ Ext.refl R mk_str⟩)
      · cases h
    · cases h
  · split at h
    · rename_i e
      cases h
      obtain ⟨a, vs, rfl, h1, h2⟩ := dv_tup hv
      obtain ⟨u, eu, qu⟩ := h2.atI e
      rw [dv_int hw]
      exact .inr (.inl ⟨a, vs, _, u, rfl, rfl, h1, eu, k r H _ Ext.refl R qu⟩)
    · cases h
  · split at h
    · rename_i ds e1
      split at h
      · rename_i e
        cases h
        obtain ⟨a, vs, rfl, h2, h3⟩ := seq_cases R hv e1
        rcases h3 with ⟨z, _⟩ | ⟨n, _, _, hl⟩
        · cases z
        · obtain ⟨u, eu, qu⟩ := h2.atI e
          rw [dv_int hw]
          exact .inl ⟨a, vs, _, u, rfl, rfl, hl, eu, k r H _ Ext.refl R qu⟩
      · cases h
    · cases h
  · cases h
end

/-! ### built-in functions -/
def lenP : List D → Sto → Option (D × Sto)
  | [.str x], S => if x.length ≤ sizeLine then some (.int x.length, S) else none
  | [.tup ds], S => some (.int ds.length, S)
  | [.loc n], S => match seqD S (.loc n) with
    | some ds => some (.int ds.length, S)
    | none => none
  | [.scr ns], S => some (.int ns.length, S)
  | _, _ => none
def absP : List D → Sto → Option (D × Sto)
  | [.int i], S => some (.int (if i < 0 then -i else i), S)
  | _, _ => none
def toIntP : List D → Sto → Option (D × Sto)
  | [.int i], S => some (.int i, S)
  | [.bl b], S => some (.int (if b then 1 else 0), S)
  | _, _ => none
def min2P : List D → Sto → Option (D × Sto)
  | [.int i, .int j], S => some (.int (if j < i then j else i), S)
  | _, _ => none
def max2P : List D → Sto → Option (D × Sto)
  | [.int i, .int j], S => some (.int (if j > i then j else i), S)
  | _, _ => none
def listP : List D → Sto → Option (D × Sto)
  | [d], S => match seqD S d with
    | some ds => some (.loc S.length, S ++ [.lst ds])
    | none => none
  | _, _ => none
def tupleP : List D → Sto → Option (D × Sto)
  | [.tup ds], S => some (.tup ds, S)
  | [.loc n], S => match seqD S (.loc n) with
    | some ds => some (.tup ds, S)
    | none => none
  | _, _ => none
def blsOf : List D → Option (List Bool)
  | [] => some []
  | .bl b :: ds => (blsOf ds).map (b :: ·)
  | _ :: _ => none
def intsOf : List D → Option (List Int)
  | [] => some []
  | .int b :: ds => (intsOf ds).map (b :: ·)
  | _ :: _ => none
def anyP : List D → Sto → Option (D × Sto)
  | [.loc n], S => match seqD S (.loc n) with
    | some ds => match blsOf ds with
      | some bs => some (.bl (bs.any id), S)
      | none => none
    | none => none
  | _, _ => none
def allP : List D → Sto → Option (D × Sto)
  | [.loc n], S => match seqD S (.loc n) with
    | some ds => match blsOf ds with
      | some bs => some (.bl (bs.all id), S)
      | none => none
    | none => none
  | _, _ => none
def sumP : List D → Sto → Option (D × Sto)
  | [.loc n], S => match seqD S (.loc n) with
    | some ds => match intsOf ds with
      | some bs => some (.int bs.sum, S)
      | none => none
    | none => none
  | _, _ => none
/-- the name of a type -/
def tyN (S : Sto) : D → Option String
  | .non => some "NoneType"
  | .bl _ => some "bool"
  | .int _ => some "int"
  | .str _ => some "str"
  | .tup _ => some "tuple"
  | .loc n => match S[n]? with
    | some (.lst _) => some "list"
    | _ => none
  | .scr _ => none
def isiP (T : String) (x : D) (S : Sto) : Option (D × Sto) := match tyN S x with
  | some t => match kitB t T with
    | some b => some (.bl b, S)
    | none => none
  | none => none
section
variable {X : Cx} {ca : Nat → Addr} {G : Ctx}
theorem bls_of {K r H} : ∀ {ds : List D} {vs : List V} {bs : List Bool}, DVs K r H ds vs → blsOf ds = some bs → vs = bs.map V.bl
  | [], _, _, h, e => by unfold DVs at h; subst h; cases e; rfl
  | d :: ds, _, bs, h, e => by
    unfold DVs at h
    obtain ⟨v, us, rfl, h1, h2⟩ := h
    cases d with
    | bl b =>
      simp only [blsOf] at e
      cases q : blsOf ds with
      | none => rw [q] at e; cases e
      | some cs =>
        rw [q] at e
        cases e
        rw [bls_of h2 q, dv_bl h1]
        rfl
    | non => cases e
    | int _ => cases e
    | str _ => cases e
    | tup _ => cases e
    | loc _ => cases e
    | scr _ => cases e
theorem ints_of {K r H} : ∀ {ds : List D} {vs : List V} {bs : List Int}, DVs K r H ds vs → intsOf ds = some bs → vs = bs.map V.int
  | [], _, _, h, e => by unfold DVs at h; subst h; cases e; rfl
  | d :: ds, _, bs, h, e => by
    unfold DVs at h
    obtain ⟨v, us, rfl, h1, h2⟩ := h
    cases d with
    | int b =>
      simp only [intsOf] at e
      cases q : intsOf ds with
      | none => rw [q] at e; cases e
      | some cs =>
        rw [q] at e
        cases e
        rw [ints_of h2 q, dv_int h1]
        rfl
    | non => cases e
    | bl _ => cases e
    | str _ => cases e
    | tup _ => cases e
    | loc _ => cases e
    | scr _ => cases e
theorem loc_list {r : List Addr} {S : Sto} {H : Hp} {n : Nat} {v : V} {ds : List D} (R : RepS G r S H) (q : DV G.K r H (.loc n) v) (h : seqD S (.loc n) = some ds) : ∃ a vs, v = .ref a ∧ DVs G.K r H ds vs ∧ SqL G.K H a vs := by
  obtain ⟨a, vs, e, h2, h3⟩ := seq_cases R q h
  rcases h3 with ⟨z, _⟩ | ⟨n, _, _, hl⟩
  · cases z
  · exact ⟨a, vs, e, h2, hl⟩
theorem prim_len : PrimL G (fun xs H Q => ∃ x n, xs = [x] ∧ LenV G.K x H n ∧ Q (.int n) H) lenP := by
  intro r S H xs vs d S' Q R hv h k
  unfold lenP at h
  split at h
  · split at h
    · rename_i hz
      cases h
      obtain ⟨v, rfl, q⟩ := hv.one
      rw [dv_str q]
      exact ⟨_, _, rfl, ⟨hz, rfl⟩, k r H _ Ext.refl R mk_int⟩
    · cases h
  · cases h
    obtain ⟨v, rfl, q⟩ := hv.one
    obtain ⟨a, vs, rfl, h1, h2⟩ := dv_tup q
    exact ⟨_, _, rfl, .inr ⟨vs, h1, h2.length.symm⟩, k r H _ Ext.refl R mk_int⟩
  · split at h
    · rename_i ds e
      cases h
      obtain ⟨v, rfl, q⟩ := hv.one
      obtain ⟨a, vs, rfl, h2, hl⟩ := loc_list R q e
      exact ⟨_, _, rfl, .inl ⟨vs, hl, h2.length.symm⟩, k r H _ Ext.refl R mk_int⟩
    · cases h
  · cases h
    obtain ⟨v, rfl, q⟩ := hv.one
    unfold DV at q
    obtain ⟨a, rfl, q⟩ := q
    exact ⟨_, _, rfl, .inl ⟨_, q.sq, by simp⟩, k r H _ Ext.refl R mk_int⟩
  · cases h
theorem DVs.two {K r H} {d e : D} {vs : List V} (h : DVs K r H [d, e] vs) : ∃ v w, vs = [v, w] ∧ DV K r H d v ∧ DV K r H e w := by
  unfold DVs at h
  obtain ⟨v, us, rfl, h1, h2⟩ := h
  obtain ⟨w, rfl, h3⟩ := h2.one
  exact ⟨v, w, rfl, h1, h3⟩
theorem prim_abs : PrimL G (fun xs H Q => ∃ i, xs = [.int i] ∧ Q (.int (if i < 0 then -i else i)) H) absP := by
  intro r S H xs vs d S' Q R hv h k
  unfold absP at h
  split at h
  · cases h
    obtain ⟨v, rfl, q⟩ := hv.one
    rw [dv_int q]
    exact ⟨_, rfl, k r H _ Ext.refl R mk_int⟩
  · cases h
theorem prim_toInt : PrimL G (fun xs H Q => (∃ i, xs = [.int i] ∧ Q (.int i) H) ∨ ∃ k, xs = [.bl k] ∧ Q (.int (if k then 1 else 0)) H) toIntP := by
  intro r S H xs vs d S' Q R hv h k
  unfold toIntP at h
  split at h
  · cases h
    obtain ⟨v, rfl, q⟩ := hv.one
    rw [dv_int q]
    exact .inl ⟨_, rfl, k r H _ Ext.refl R mk_int⟩
  · cases h
    obtain ⟨v, rfl, q⟩ := hv.one
    rw [dv_bl q]
    exact .inr ⟨_, rfl, k r H _ Ext.refl R mk_int⟩
  · cases h
theorem prim_min2 : PrimL G (fun xs H Q => ∃ i j, xs = [.int i, .int j] ∧ Q (.int (if j < i then j else i)) H) min2P := by
  intro r S H xs vs d S' Q R hv h k
  unfold min2P at h
  split at h
  · cases h
    obtain ⟨v, w, rfl, q1, q2⟩ := hv.two
    rw [dv_int q1, dv_int q2]
    exact ⟨_, _, rfl, k r H _ Ext.refl R mk_int⟩
  · cases h
theorem prim_max2 : PrimL G (fun xs H Q => ∃ i j, xs = [.int i, .int j] ∧ Q (.int (if j > i then j else i)) H) max2P := by
  intro r S H xs vs d S' Q R hv h k
  unfold max2P at h
  split at h
  · cases h
    obtain ⟨v, w, rfl, q1, q2⟩ := hv.two
    rw [dv_int q1, dv_int q2]
    exact ⟨_, _, rfl, k r H _ Ext.refl R mk_int⟩
  · cases h
theorem prim_list : PrimL G (fun xs H Q => ∃ p ys, xs = [.ref p] ∧ (SqL G.K H p ys ∨ SqT G.K H p ys) ∧ ∀ l, H l = none → Q (.ref l) (upd H l (.lst ys))) listP := by
  intro r S H xs vs d S' Q R hv h k
  unfold listP at h
  split at h
  · split at h
    · rename_i ds e
      cases h
      obtain ⟨v, rfl, q⟩ := hv.one
      obtain ⟨a, vs, rfl, h2, h3⟩ := seq_cases R q e
      refine ⟨a, vs, rfl, ?_, fun p hp => ?_⟩
      · rcases h3 with ⟨_, z⟩ | ⟨n, _, _, hl⟩
        · exact .inr z
        · exact .inl hl
      · obtain ⟨x, R'⟩ := R.lst hp h2
        exact k _ _ _ x R' R.newLoc
    · cases h
  · cases h
theorem prim_tuple : PrimL G (fun xs H Q => ∃ p ys, xs = [.ref p] ∧ ((SqL G.K H p ys ∧ ∀ l, H l = none → Q (.ref l) (upd H l (.tup ys))) ∨ (SqT G.K H p ys ∧ Q (.ref p) H))) tupleP := by
  intro r S H xs vs d S' Q R hv h k
  unfold tupleP at h
  split at h
  · cases h
    obtain ⟨v, rfl, q⟩ := hv.one
    obtain ⟨a, vs, rfl, h1, h2⟩ := dv_tup q
    exact ⟨a, vs, rfl, .inr ⟨h1, k r H _ Ext.refl R q⟩⟩
  · split at h
    · rename_i ds e
      cases h
      obtain ⟨v, rfl, q⟩ := hv.one
      obtain ⟨a, vs, rfl, h2, hl⟩ := loc_list R q e
      refine ⟨a, vs, rfl, .inl ⟨hl, fun p hp => ?_⟩⟩
      obtain ⟨x, R'⟩ := R.tup (vs := vs) hp
      exact k r _ _ x R' (DV.tup_mk (SqT.of upd_same) (DVs.ext x _ _ h2))
    · cases h
  · cases h
theorem prim_any : PrimL G (rAny G.K) anyP := by
  intro r S H xs vs d S' Q R hv h k
  unfold anyP at h
  split at h
  · split at h
    · rename_i ds e
      split at h
      · rename_i bs eb
        cases h
        obtain ⟨v, rfl, q⟩ := hv.one
        obtain ⟨a, vs, rfl, h2, hl⟩ := loc_list R q e
        rw [bls_of h2 eb] at hl
        exact ⟨a, bs, rfl, hl, k r H _ Ext.refl R mk_bl⟩
      · cases h
    · cases h
  · cases h
theorem prim_all : PrimL G (rAll G.K) allP := by
  intro r S H xs vs d S' Q R hv h k
  unfold allP at h
  split at h
  · split at h
    · rename_i ds e
      split at h
      · rename_i bs eb
        cases h
        obtain ⟨v, rfl, q⟩ := hv.one
        obtain ⟨a, vs, rfl, h2, hl⟩ := loc_list R q e
        rw [bls_of h2 eb] at hl
        exact ⟨a, bs, rfl, hl, k r H _ Ext.refl R mk_bl⟩
      · cases h
    · cases h
  · cases h
theorem prim_sum : PrimL G (rSum G.K) sumP := by
  intro r S H xs vs d S' Q R hv h k
  unfold sumP at h
  split at h
  · split at h
    · rename_i ds e
      split at h
      · rename_i bs eb
        cases h
        obtain ⟨v, rfl, q⟩ := hv.one
        obtain ⟨a, vs, rfl, h2, hl⟩ := loc_list R q e
        rw [ints_of h2 eb] at hl
        exact ⟨a, bs, rfl, hl, k r H _ Ext.refl R mk_int⟩
      · cases h
    · cases h
  · cases h
theorem ty_of {r : List Addr} {S : Sto} {H : Hp} {d : D} {v : V} {t : String} (R : RepS G r S H) (q : DV G.K r H d v) (h : tyN S d = some t) : TyX G.K H v (.type t) := by
  cases d with
  | non => unfold DV at q; subst q; cases h; exact .base .non
  | bl b => rw [dv_bl q]; cases h; exact .base (.bl b)
  | int b => rw [dv_int q]; cases h; exact .base (.int b)
  | str b => rw [dv_str q]; cases h; exact .base (.str b)
  | tup ds =>
    obtain ⟨a, vs, rfl, h1, h2⟩ := dv_tup q
    cases h
    rcases h1 with (h1 | ⟨o, h1⟩) | ⟨o, its, n, h1, h3, _⟩
    · exact .base (.tup h1)
    · exact .fTuple h1
    · exact .kTuple h1 h3
  | loc n =>
    obtain ⟨a, e, rfl⟩ := dv_loc q
    simp only [tyN] at h
    split at h
    · rename_i e1
      cases h
      obtain ⟨vs, h1, _⟩ := R.at_ _ _ _ e1 e
      exact .base (.lst h1)
    · cases h
  | scr n => cases h
theorem de_isi {T : Str} {Ts : String} {e : Expr} {ma : EM} {p p2 pos : Pos} (he : PE X e (liftE (gx X ca) ma)) (hm : X.mg "isinstance" = none) (hm2 : X.mg T = none) (hv : bootBuiltins T = some (.type Ts)) (hg : Gl X "isinstance" := by rfl) (hg2 : Gl X T := by rfl) (hn : T ≠ "__name__" := by decide) (hdb : (T == ("__debug__" : Str)) = false := by decide)
    (hs1 : starEach [e, .Name T p2] X.env = (false, eval e X.env) :: starEach [.Name T p2] X.env := by rfl) (hs2 : starEach [.Name T p2] X.env = (false, eval (.Name T p2) X.env) :: starEach [] X.env := by rfl) (hpl : (backTo pos (starEach [.Name T p2] X.env)).any (·.1) = false := by rfl) :
    PE X (.Call (.Name "isinstance" p) [e, .Name T p2] [] pos) (liftE (gx X ca) (m1 (isiP Ts) ma)) :=
  wkE (pe_callB call_isi hg hm boot_isinstance (pa_cons he (pa_cons (pe_bltn hg2 hm2 hv (v := .ty Ts) rfl hn hdb) pa_nil hs2) hs1) (by decide) (by decide) hs1 hpl) fun σ H Q h =>
    lift1 (t := fun x H1 Q => ∃ (y c : V) (t u : Value) (b : Bool), [x, V.ty Ts] = [y, c] ∧ ClsV c u ∧ TyX X.K H1 y t ∧ PySem.W.kitOne X.K t u = some b ∧ Q (.bl b) H1) (fun r S H x v d S' Q R hv e k => by
      unfold isiP at e
      split at e
      · rename_i t e1
        split at e
        · rename_i b e2
          cases e
          exact ⟨v, .ty Ts, .type t, .type Ts, b, rfl, .ty Ts, ty_of R hv e1, kit_ty e2, k r H _ Ext.refl R mk_bl⟩
        · cases e
      · cases e) h
end

/-! ### slices -/
abbrev OM := Vars → Sto → Option (Option Int × Sto)
def oNone : OM := fun _ S => some (none, S)
def oSome (m : EM) : OM := fun env S => match m env S with
  | some (.int i, S1) => some (some i, S1)
  | _ => none
def liftO (G : Ctx) (m : OM) : TO := fun σ H Q => ∃ r env S o S', RepS G r S H ∧ VarsV G.K r H env σ ∧ m env S = some (o, S') ∧ ∀ r' H', Ext G.K r H r' H' → RepS G r' S' H' → Q o H'
def mSl (p : D → Option Int → Option Int → Sto → Option (D × Sto)) (a : EM) (l u : OM) : EM := fun env S => match a env S with
  | some (x, S1) => match l env S1 with
    | some (i, S2) => match u env S2 with
      | some (j, S3) => p x i j S3
      | none => none
    | none => none
  | none => none
def cutD (ds : List D) (lo hi : Option Int) : List D := (ds.drop (HT.sIx ds.length 0 lo)).take (HT.sIx ds.length ds.length hi - HT.sIx ds.length 0 lo)
def slP : D → Option Int → Option Int → Sto → Option (D × Sto)
  | .str x, i, j, S => if x.length ≤ sizeLine then some (.str (cutS x i j), S) else none
  | .tup ds, i, j, S => some (.tup (cutD ds i j), S)
  | .loc n, i, j, S => match seqD S (.loc n) with
    | some ds => some (.loc S.length, S ++ [.lst (cutD ds i j)])
    | none => none
  | _, _, _, _ => none
section
variable {X : Cx} {ca : Nat → Addr} {G : Ctx} {e : Expr} {ma : EM}
theorem wkO {e : Option Expr} {t t' : TO} (h : PO X e t) (w : ∀ σ H Q, t' σ H Q → t σ H Q) : PO X e t' := ⟨fun pins s σ H Q I q => h.run pins s σ H Q I (w σ H Q q)⟩
theorem do_none : PO X none (liftO (gx X ca) oNone) := wkO po_none fun σ H Q ⟨r, env, S, o, S', R, W, h, k⟩ => by
  unfold oNone at h
  cases h
  exact k r H Ext.refl R
theorem do_some (h : PE X e (liftE (gx X ca) ma)) : PO X (some e) (liftO (gx X ca) (oSome ma)) := wkO (po_some h) fun σ H Q ⟨r, env, S, o, S', R, W, h, k⟩ => by
  unfold oSome at h
  split at h
  · rename_i i S1 e1
    cases h
    refine ⟨r, env, S, _, _, R, W, e1, fun r1 H1 v x1 R1 q1 => ?_⟩
    exact ⟨i, dv_int q1, k r1 H1 x1 R1⟩
  · cases h
def rSlAll (K : PySem.W.Frag) : V → Option Int → Option Int → Hp → VK → Prop := fun x lo hi H Q => rSlS x lo hi H Q ∨ rSlA K x lo hi H Q ∨ rSlL K x lo hi H Q
theorem sl_all : SlR X (rSlAll X.K) := sl_str.or (sl_tupA.or sl_list)
theorem cutV_ok {K r H} {ds : List D} {vs : List V} {i j : Option Int} (h : DVs K r H ds vs) : DVs K r H (cutD ds i j) (cutV vs i j) := by
  unfold cutD cutV
  rw [h.length]
  exact (h.drop _).take _
theorem prim_sl {r : List Addr} {S : Sto} {H : Hp} {x d : D} {v : V} {i j : Option Int} {S' : Sto} {Q : VK} (R : RepS G r S H) (hv : DV G.K r H x v) (h : slP x i j S = some (d, S'))
    (k : ∀ r' H' u, Ext G.K r H r' H' → RepS G r' S' H' → DV G.K r' H' d u → Q u H') : rSlAll G.K v i j H Q := by
  unfold slP at h
  split at h
  · split at h
    · rename_i hz
      cases h
      rw [dv_str hv]
      exact .inl ⟨_, rfl, hz, k r H _ Ext.refl R mk_str⟩
    · cases h
  · rename_i ds
    cases h
    obtain ⟨a, vs, rfl, h1, h2⟩ := dv_tup hv
    refine .inr (.inl ⟨a, vs, rfl, h1, fun hw => ?_, fun hw p hp => ?_⟩)
    · have e : cutD ds i j = ds := by
        unfold cutD
        rw [h2.length] at hw
        rw [hw.1, hw.2]
        simp
      rw [e] at k
      exact k r H _ Ext.refl R hv
    · obtain ⟨x, R'⟩ := R.tup (vs := cutV vs i j) hp
      exact k r _ _ x R' (DV.tup_mk (SqT.of upd_same) (DVs.ext x _ _ (cutV_ok h2)))
  · split at h
    · rename_i ds e
      cases h
      obtain ⟨a, vs, rfl, h2, hl⟩ := loc_list R hv e
      refine .inr (.inr ⟨a, vs, rfl, hl, fun p hp => ?_⟩)
      obtain ⟨x, R'⟩ := R.lst hp (cutV_ok (i := i) (j := j) h2)
      exact k _ _ _ x R' R.newLoc
    · cases h
  · cases h
theorem de_slice {lo hi : Option Expr} {l u : OM} {pos p2 : Pos} (he : PE X e (liftE (gx X ca) ma)) (hl : PO X lo (liftO (gx X ca) l)) (hu : PO X hi (liftO (gx X ca) u)) : PE X (.Subscript e (.Slice lo hi none p2) pos) (liftE (gx X ca) (mSl slP ma l u)) :=
  wkE (pe_slice sl_all he hl hu) fun σ H Q ⟨r, env, S, d, S', R, W, h, k⟩ => by
    unfold mSl at h
    split at h
    · rename_i x S1 e1
      refine ⟨r, env, S, x, S1, R, W, e1, fun r1 H1 v x1 R1 q1 => ?_⟩
      split at h
      · rename_i i S2 e2
        refine ⟨r1, env, S1, i, S2, R1, W.ext x1, e2, fun r2 H2 x2 R2 => ?_⟩
        split at h
        · rename_i j S3 e3
          refine ⟨r2, env, S2, j, S3, R2, W.ext (x1.trans x2), e3, fun r3 H3 x3 R3 => ?_⟩
          exact prim_sl R3 (DV.ext (x2.trans x3) _ _ q1) h fun r4 H4 u x4 R4 q4 => k r4 H4 u (x1.trans (x2.trans (x3.trans x4))) R4 q4
        · cases h
      · cases h
    · cases h
end

/-! ### methods of lists and texts -/
def tyD : String → Sto → D → Bool
  | "list", S, .loc n => (seqD S (.loc n)).isSome
  | "str", _, .str _ => true
  | _, _, _ => false
def mM0 (T : String) (p : D → List D → Sto → Option (D × Sto)) (a : EM) : EM := fun env S => match a env S with
  | some (x, S1) => if tyD T S1 x = true then p x [] S1 else none
  | none => none
def mM (T : String) (p : D → List D → Sto → Option (D × Sto)) (a : EM) (l : LM) : EM := fun env S => match a env S with
  | some (x, S1) => if tyD T S1 x = true then (match l env S1 with
    | some (xs, S2) => p x xs S2
    | none => none) else none
  | none => none
def PrimM (G : Ctx) (t : V → List V → Hp → VK → Prop) (p : D → List D → Sto → Option (D × Sto)) : Prop :=
  ∀ (r : List Addr) (S : Sto) (H : Hp) (x : D) (xs : List D) (v : V) (vs : List V) (d : D) (S' : Sto) (Q : VK), RepS G r S H → DV G.K r H x v → DVs G.K r H xs vs → p x xs S = some (d, S') →
    (∀ r' H' u, Ext G.K r H r' H' → RepS G r' S' H' → DV G.K r' H' d u → Q u H') → t v vs H Q
section
variable {X : Cx} {ca : Nat → Addr} {G : Ctx} {o e : Expr} {es : List Expr} {ma : EM} {la : LM} {name : Str} {apos cpos : Pos} {T id : String} {t : V → List V → Hp → VK → Prop} {q : D → List D → Sto → Option (D × Sto)}
theorem tyV_of {r : List Addr} {S : Sto} {H : Hp} {x : D} {v : V} (R : RepS G r S H) (hv : DV G.K r H x v) (h : tyD T S x = true) : tyV G.K T v H := by
  unfold tyD at h
  split at h
  · cases e : seqD _ (D.loc _) with
    | none => rw [e] at h; cases h
    | some ds =>
      obtain ⟨a, vs, rfl, h2, hl⟩ := loc_list R hv e
      exact .inl ⟨rfl, vs, hl⟩
  · rw [dv_str hv]; rfl
  · cases h
theorem de_bm0 (hp : PrimM (gx X ca) t q) (pa : PlainAttrs T) (slot : Slot T name id) (hty : typeOf (.builtin id) = pure (.type "method_descriptor")) (hm : MtR X id t) (ho : PE X o (liftE (gx X ca) ma))
    (hbase : attributeBase o name X.env (eval o X.env) = eval o X.env := by rfl) (hline : (apos.endLine == cpos.line) = true := by rfl) : PE X (.Call (.Attribute o name apos) [] [] cpos) (liftE (gx X ca) (mM0 T q ma)) :=
  wkE (pe_bm0 pa slot hty hm ho hbase hline) fun σ H Q ⟨r, env, S, d, S', R, W, h, k⟩ => by
    unfold mM0 at h
    split at h
    · rename_i x S1 e1
      split at h
      · rename_i ht
        exact ⟨r, env, S, x, S1, R, W, e1, fun r1 H1 v x1 R1 q1 => ⟨tyV_of R1 q1 ht, hp r1 S1 H1 x [] v [] d S' Q R1 q1 DVs.nil h fun r2 H2 u x2 R2 q2 => k r2 H2 u (x1.trans x2) R2 q2⟩⟩
      · cases h
    · cases h
theorem de_bm (hp : PrimM (gx X ca) t q) (pa : PlainAttrs T) (slot : Slot T name id) (hty : typeOf (.builtin id) = pure (.type "method_descriptor")) (hm : MtR X id t) (ho : PE X o (liftE (gx X ca) ma)) (ha : PA X (e :: es) (liftL (gx X ca) la))
    (hbase : attributeBase o name X.env (eval o X.env) = eval o X.env := by rfl)
    (hfew : ((backTo cpos (starEach (e :: es) X.env)).all (fun x => !x.1) && (backToKw cpos (keywordEach [] X.env)).all (fun x => x.1.isSome)
      && decide ((e :: es).length + ([] : List Keyword).length + (if ([] : List Keyword).isEmpty then 0 else 1) < 30)) = true := by rfl)
    (hline : (apos.endLine == cpos.line) = true := by rfl) (hs : starEach (e :: es) X.env = (false, eval e X.env) :: starEach es X.env := by rfl) (hplain : (backTo cpos (starEach es X.env)).any (·.1) = false := by rfl) :
    PE X (.Call (.Attribute o name apos) (e :: es) [] cpos) (liftE (gx X ca) (mM T q ma la)) :=
  wkE (pe_bm pa slot hty hm ho ha hbase hfew hline hs hplain) fun σ H Q ⟨r, env, S, d, S', R, W, h, k⟩ => by
    unfold mM at h
    split at h
    · rename_i x S1 e1
      split at h
      · rename_i ht
        split at h
        · rename_i xs S2 e2
          exact ⟨r, env, S, x, S1, R, W, e1, fun r1 H1 v x1 R1 q1 => ⟨tyV_of R1 q1 ht, r1, env, S1, xs, S2, R1, W.ext x1, e2, fun r2 H2 vs x2 R2 q2 => hp r2 S2 H2 x xs v vs d S' Q R2 (DV.ext x2 _ _ q1) q2 h fun r3 H3 u x3 R3 q3 => k r3 H3 u (x1.trans (x2.trans x3)) R3 q3⟩⟩
        · cases h
      · cases h
    · cases h
def appP : D → List D → Sto → Option (D × Sto)
  | .loc n, [d], S => match S[n]? with
    | some (.lst ds) => if ds.length < sizeLine then some (.non, S.set n (.lst (ds ++ [d]))) else none
    | _ => none
  | _, _, _ => none
def extP : D → List D → Sto → Option (D × Sto)
  | .loc n, [.loc m], S => match S[n]?, S[m]? with
    | some (.lst ds), some (.lst es) => if ds.length + es.length ≤ sizeLine then some (.non, S.set n (.lst (ds ++ es))) else none
    | _, _ => none
  | _, _, _ => none
def popP : D → List D → Sto → Option (D × Sto)
  | .loc n, [], S => match S[n]? with
    | some (.lst ds) => match ds[ds.length - 1]? with
      | some d => some (d, S.set n (.lst ds.dropLast))
      | none => none
    | _ => none
  | _, _, _ => none
theorem prim_app : PrimM G rAppend appP := by
  intro r S H x xs v vs d S' Q R hv hvs h k
  unfold appP at h
  split at h
  · split at h
    · rename_i n d0 S ds e
      split at h
      · rename_i hz
        cases h
        obtain ⟨a, ea, rfl⟩ := dv_loc hv
        obtain ⟨ws, h1, q1⟩ := R.lstAt e ea
        obtain ⟨y, rfl, qy⟩ := hvs.one
        obtain ⟨x, R'⟩ := R.wr (o' := .lst (ds ++ [d0])) (u := .lst (ws ++ [y])) e ea fun x => ⟨_, upd_same, (DVs.ext x _ _ q1).append (DVs.cons (DV.ext x _ _ qy) DVs.nil)⟩
        exact ⟨a, ws, y, rfl, rfl, h1, by rw [q1.length]; exact hz, k r _ _ x R' mk_non⟩
      · cases h
    · cases h
  · cases h
theorem prim_ext : PrimM G rExtend extP := by
  intro r S H x xs v vs d S' Q R hv hvs h k
  unfold extP at h
  split at h
  · split at h
    · rename_i n m S ds es e1 e2
      split at h
      · rename_i hz
        cases h
        obtain ⟨a, ea, rfl⟩ := dv_loc hv
        obtain ⟨ws, h1, q1⟩ := R.lstAt e1 ea
        obtain ⟨y, rfl, qy⟩ := hvs.one
        obtain ⟨b, eb, rfl⟩ := dv_loc qy
        obtain ⟨us, h2, q2⟩ := R.lstAt e2 eb
        obtain ⟨x, R'⟩ := R.wr (o' := .lst (ds ++ es)) (u := .lst (ws ++ us)) e1 ea fun x => ⟨_, upd_same, (DVs.ext x _ _ q1).append (DVs.ext x _ _ q2)⟩
        exact ⟨a, b, ws, us, rfl, rfl, h1, h2, by rw [q1.length, q2.length]; exact hz, k r _ _ x R' mk_non⟩
      · cases h
    · cases h
  · cases h
theorem prim_pop : PrimM G rPop popP := by
  intro r S H x xs v vs d S' Q R hv hvs h k
  unfold popP at h
  split at h
  · split at h
    · rename_i n S ds e
      split at h
      · rename_i d0 ed
        cases h
        obtain ⟨a, ea, rfl⟩ := dv_loc hv
        obtain ⟨ws, h1, q1⟩ := R.lstAt e ea
        unfold DVs at hvs
        subst hvs
        obtain ⟨y, ey, qy⟩ := q1.get ed
        obtain ⟨x, R'⟩ := R.wr (o' := .lst ds.dropLast) (u := .lst ws.dropLast) e ea fun x => ⟨_, upd_same, DVs.ext x _ _ q1.dropLast⟩
        exact ⟨a, ws, y, rfl, rfl, h1, by rw [q1.length]; exact ey, k r _ _ x R' (DV.ext x _ _ qy)⟩
      · cases h
    · cases h
  · cases h
end
end DL
/-! DLg: dicts whose keys are any data (numbers, texts, None, tuples of these, mixed): the look-up in the model. -/
namespace DL
open PySem PySem.Spec L2
open PyProof.Rows hiding St

/-- a key's value in the heap -/
structure KV8 (h : Heap) (k : NestedKey) (v : Value) : Prop where
  is : NestedIs h k v
  dp : k.depth ≤ 8
/-- the entries that stand for the keys ks -/
abbrev KsOf (w : World) (h : Heap) : List NestedKey → List DictEntry → Prop := Paired fun k x => x.hash = k.hash w ∧ KV8 h k x.key
section
variable {w : World} {h : Heap}
theorem KsOf.get : ∀ {ks : List NestedKey} {es : List DictEntry}, KsOf w h ks es → ∀ {i : Nat} {x : DictEntry}, es[i]? = some x → ∃ k, ks[i]? = some k ∧ x.hash = k.hash w ∧ KV8 h k x.key
  | _, _, .nil, i, x, e => by simp at e
  | _, _, .cons p t, i, x, e => by
    cases i with
    | zero => simp at e; subst e; exact ⟨_, rfl, p⟩
    | succ i => simpa using KsOf.get t (i := i) (by simpa using e)
theorem KsOf.getK : ∀ {ks : List NestedKey} {es : List DictEntry}, KsOf w h ks es → ∀ {i : Nat} {k : NestedKey}, ks[i]? = some k → ∃ x, es[i]? = some x ∧ x.hash = k.hash w ∧ KV8 h k x.key
  | _, _, .nil, i, x, e => by simp at e
  | _, _, .cons p t, i, x, e => by
    cases i with
    | zero => simp at e; subst e; exact ⟨_, rfl, p⟩
    | succ i => simpa using KsOf.getK t (i := i) (by simpa using e)
/-- the place of a key -/
def kIx (ks : List NestedKey) (k : NestedKey) : Option Nat := ks.findIdx? fun x => decide (x = k)
theorem kIx_some {ks : List NestedKey} {k : NestedKey} {i : Nat} (nd : ks.Nodup) (e : ks[i]? = some k) : kIx ks k = some i := by
  unfold kIx
  rw [List.findIdx?_eq_some_iff_getElem]
  obtain ⟨hi, he⟩ := List.getElem?_eq_some_iff.mp e
  refine ⟨hi, by simp [he], fun j hj => ?_⟩
  simp only [decide_eq_true_eq]
  intro q
  have : j = i := (List.getElem_inj nd).mp (q.trans he.symm)
  omega
theorem kIx_none {ks : List NestedKey} {k : NestedKey} (h : k ∉ ks) : kIx ks k = none := by
  unfold kIx
  rw [List.findIdx?_eq_none_iff]
  intro x hx
  simp only [decide_eq_false_iff_not]
  rintro rfl
  exact h hx
theorem mem_of_kIx {ks : List NestedKey} {k : NestedKey} (h : kIx ks k = none) : k ∉ ks := by
  unfold kIx at h
  rw [List.findIdx?_eq_none_iff] at h
  intro hk
  simpa using h k hk
theorem get_of_kIx {ks : List NestedKey} {k : NestedKey} {i : Nat} (h : kIx ks k = some i) : ks[i]? = some k := by
  unfold kIx at h
  rw [List.findIdx?_eq_some_iff_getElem] at h
  obtain ⟨hi, he, _⟩ := h
  rw [List.getElem?_eq_getElem hi]
  simpa using he
theorem is_str {k : NestedKey} {v : Value} {x : Str} (q : NestedIs h k v) : v.isStr x = decide (k = .text x) := by
  cases q with
  | none => rfl
  | bool e => rfl
  | int i t => rfl
  | text y t =>
    show (y == x) = _
    by_cases e : y = x
    · subst e; simp
    · rw [decide_eq_false (fun z => e (by cases z; rfl))]
      exact beq_eq_false_iff_ne.mpr e
  | tup _ _ _ _ => rfl
end

section
variable {prog : Program} {w : World} {A : Around} {E : Value → Shared → Prop} {s : Shared} {ks : List NestedKey} {k : NestedKey} {v : Value} {d : Addr} {o : Obj} {es : Array DictEntry} {ep : Nat}
theorem eq_keys {a b : NestedKey} {x y : Value} {Q : Bool → Shared → Prop} (hu : A.units + 8 < cLine) (hx : KV8 s.heap a x) (hy : KV8 s.heap b y) (q : Q (decide (a = b)) s) : wpAny (model prog w) A (eqBool x y) Q E s := by
  have l1 := hx.dp
  exact eqAt_key a b A s x y hx.is hy.is (by omega) prog w _ _ (by rw [← NestedKey.decide_eq]; exact q)
theorem hash_key {Q : Int → Shared → Prop} (hu : A.units + 8 < cLine) (hk : KV8 s.heap k v) (q : Q (k.hash w) { s with toks := s.toks + k.draws }) : wpAny (model prog w) A (pyHash v) Q E s := by
  have l1 := hk.dp
  exact pyHash_key k v A s Q hk.is (by omega) q
theorem quiet8 {Q : Bool → Shared → Prop} (hk : KV8 s.heap k v) (q : Q true s) : wpAny (model prog w) A (eqIsQuiet 8 v) Q E s := quiet_key k v 8 s hk.is hk.dp A E Q q
theorem tells_not {st : List Value} {Q : Bool → Shared → Prop} (hk : KV8 s.heap k v) (hs : ∀ u ∈ st, ∃ k', KV8 s.heap k' u) (q : Q false s) : wpAny (model prog w) A (tableMayTell v st) Q E s := by
  unfold tableMayTell
  split
  · exact wpAny_pure q
  · refine wpAny_bind (quiet8 hk ?_)
    simp only [Bool.not_true, Bool.false_eq_true, if_false]
    refine wpAny_bind (wpAny_forIn_list _ (fun todo acc st' => acc = (none, ()) ∧ st' = s ∧ ∀ u ∈ todo, ∃ k', KV8 s.heap k' u) _ ?_ ?_ _ _ ⟨rfl, rfl, hs⟩)
    · rintro u todo acc st' ⟨rfl, rfl, hall⟩
      obtain ⟨k', hk'⟩ := hall u List.mem_cons_self
      refine wpAny_bind (quiet8 hk' ?_)
      simp only [Bool.not_true, Bool.false_eq_true, if_false]
      exact wpAny_pure ⟨rfl, rfl, fun z hz => hall z (List.mem_cons_of_mem _ hz)⟩
    · rintro acc st' ⟨rfl, rfl, _⟩
      exact wpAny_pure q

/-- the places with the key's hash -/
def plc (w : World) (es : Array DictEntry) (k : NestedKey) : List Nat := placesWithHash es.size (fun i => es[i]?.map (·.hash)) (k.hash w)
theorem plc_mem {i : Nat} (h : i ∈ plc w es k) : ∃ x, es[i]? = some x ∧ x.hash = k.hash w := by
  unfold plc placesWithHash at h
  rw [List.mem_filter] at h
  obtain ⟨h1, h2⟩ := h
  cases e : es[i]? with
  | none => simp [e] at h2
  | some x =>
    simp only [e, Option.map_some] at h2
    exact ⟨x, rfl, by simpa using h2⟩
theorem plc_of {i : Nat} {x : DictEntry} (e : es[i]? = some x) (h : x.hash = k.hash w) : i ∈ plc w es k := by
  unfold plc placesWithHash
  rw [List.mem_filter]
  refine ⟨List.mem_range.mpr ?_, by simp [e, h]⟩
  rw [← Array.getElem?_toList] at e
  have := (List.getElem?_eq_some_iff.mp e).1
  simpa using this
theorem plc_nodup : (plc w es k).Nodup := by
  unfold plc placesWithHash
  exact List.Nodup.sublist List.filter_sublist List.nodup_range
/-- among these places the key's is the one -/
theorem plc_find (h : KsOf w s.heap ks es.toList) (nd : ks.Nodup) : ((plc w es k).find? fun i => decide (ks[i]? = some k)) = kIx ks k := by
  by_cases hm : k ∈ ks
  · obtain ⟨i, e⟩ := List.mem_iff_getElem?.mp hm
    rw [kIx_some nd e]
    obtain ⟨x, ex, hx, _⟩ := h.getK e
    rw [Array.getElem?_toList] at ex
    have hi := plc_of ex hx
    cases q : (plc w es k).find? fun i => decide (ks[i]? = some k) with
    | none =>
      rw [List.find?_eq_none] at q
      exact absurd e (by simpa using q i hi)
    | some j =>
      have hj := List.find?_some q
      simp only [decide_eq_true_eq] at hj
      rw [← kIx_some nd e, ← kIx_some nd hj]
  · rw [kIx_none hm, List.find?_eq_none]
    intro i hi
    simp only [decide_eq_true_eq]
    exact fun e => hm (List.mem_of_getElem? e)

theorem find_key {Q : Option Nat → Shared → Prop} (hu : A.units + 8 < cLine) (hk : KV8 s.heap k v) (ho : s.heap.get? d = some o) (hd : o.data = .dict es ep) (hks : KsOf w s.heap ks es.toList) (nd : ks.Nodup) (q : Q (kIx ks k) s) :
    wpAny (model prog w) A (dictFind d v (k.hash w)) Q E s := by
  rw [← plc_find hks nd] at q
  have at_ : ∀ i ∈ plc w es k, ∃ x k', es[i]? = some x ∧ ks[i]? = some k' ∧ x.hash = k.hash w ∧ KV8 s.heap k' x.key := fun i hi => by
    obtain ⟨x, ex, hx⟩ := plc_mem hi
    obtain ⟨k', e1, _, e3⟩ := hks.get (by rw [Array.getElem?_toList]; exact ex)
    exact ⟨x, k', ex, e1, hx, e3⟩
  -- the walk where all are carried by value
  have plain : wpAny (model prog w) A (dictWalkPlain d v (k.hash w) es (plc w es k)) Q E s := by
    unfold dictWalkPlain
    refine wpAny_bind (wpAny_forIn_list _ (fun todo acc st' => acc = (none, ()) ∧ st' = s ∧ (∀ i ∈ todo, i ∈ plc w es k) ∧ Q (todo.find? fun i => decide (ks[i]? = some k)) s) _ ?_ ?_ _ _ ⟨rfl, rfl, fun _ z => z, q⟩)
    · rintro i todo acc st' ⟨rfl, rfl, hin, hq⟩
      obtain ⟨x, k', ex, ek, hx, hk'⟩ := at_ i (hin i List.mem_cons_self)
      have hin' : ∀ j ∈ todo, j ∈ plc w es k := fun j hj => hin j (List.mem_cons_of_mem _ hj)
      simp only [ex]
      rw [if_pos (by rw [hx]; exact beq_self_eq_true _)]
      refine wpAny_bind (wpAny_dictEpoch ho hd (wpAny_bind (eq_keys hu hk' hk (wpAny_bind (wpAny_dictEpoch ho hd ?_)))))
      rw [if_neg (by simp)]
      rw [List.find?_cons] at hq
      rw [ek] at hq
      by_cases e : k' = k
      · subst e
        simp only [decide_true] at hq ⊢
        exact wpAny_bind (wpAny_rule (wpAny_pure (wpAny_pure hq)))
      · have z : ¬ (some k' = some k) := fun z => e (Option.some.inj z)
        rw [decide_eq_false z] at hq
        rw [decide_eq_false e]
        exact wpAny_bind (wpAny_rule (wpAny_pure ⟨rfl, rfl, hin', hq⟩))
    · rintro acc st' ⟨rfl, rfl, _, hq⟩
      exact wpAny_pure hq
  unfold dictFind
  try with_reducible refine wpAny_holding ?_
  refine wpAny_bind (wpAny_dictEntries ho hd ?_)
  dsimp only
  change wpAny _ _ _ _ _ _ at *
  have hstored : ∀ u ∈ (plc w es k).filterMap (fun i => es[i]?.map (·.key)), ∃ k', KV8 s.heap k' u := by
    intro u hm
    obtain ⟨i, hi, e⟩ := List.mem_filterMap.mp hm
    obtain ⟨x, k', ex, _, _, h3⟩ := at_ i hi
    simp only [ex, Option.map_some, Option.some.injEq] at e
    subst e
    exact ⟨k', h3⟩
  have hany : ∀ a, v = .ref a → ¬ (es.any fun e => e.key == Value.ref a && e.hash != k.hash w) = true := by
    rintro a rfl
    rw [← Array.any_toList, List.any_eq_true]
    rintro ⟨x, hx, hc⟩
    obtain ⟨i, ei⟩ := List.mem_iff_getElem?.mp hx
    obtain ⟨k', _, hh, h3⟩ := hks.get ei
    simp only [Bool.and_eq_true, beq_iff_eq, bne_iff_ne, ne_eq] at hc
    rw [hc.1] at h3
    have e := NestedIs.inj _ _ _ h3.is hk.is
    subst e
    exact hc.2 hh
  by_cases hall : ((v :: (plc w es k).filterMap fun i => es[i]?.map (·.key)).all carriedByValue) = true
  · unfold plc at hall
    rw [if_pos hall]
    split
    · rename_i y t
      split
      · rename_i hs
        have hkx : k = .text y := by have := hk.is; cases this; rfl
        subst hkx
        have hf : es.findIdx? (fun e => e.key.isStr y) = kIx ks (.text y) := by
          cases e : kIx ks (.text y) with
          | none =>
            rw [Array.findIdx?_eq_none_iff]
            intro x hx
            obtain ⟨i, ei⟩ := List.mem_iff_getElem?.mp (Array.mem_toList_iff.mpr hx)
            obtain ⟨k', e1, _, h3⟩ := hks.get ei
            show x.key.isStr y = false
            rw [is_str h3.is]
            exact decide_eq_false fun z => mem_of_kIx e (z ▸ List.mem_of_getElem? e1)
          | some i =>
            have e1 := get_of_kIx e
            obtain ⟨x, ex, _, h3⟩ := hks.getK e1
            rw [Array.getElem?_toList] at ex
            have hi : i < es.size := by
              rw [← Array.getElem?_toList] at ex
              have := (List.getElem?_eq_some_iff.mp ex).1
              simpa using this
            rw [Array.findIdx?_eq_some_iff_getElem]
            refine ⟨hi, ?_, fun j hj => ?_⟩
            · rw [Array.getElem?_eq_getElem hi] at ex
              rw [Option.some.inj ex, is_str h3.is]
              simp
            · have hj' : j < es.size := by omega
              obtain ⟨k', e4, _, h5⟩ := hks.get (i := j) (x := es[j]) (by rw [Array.getElem?_toList]; exact Array.getElem?_eq_getElem hj')
              rw [is_str h5.is]
              simp only [decide_eq_true_eq]
              rintro rfl
              have := kIx_some nd e4
              rw [e] at this
              cases this
              omega
        unfold foundByValue
        rw [hf]
        cases e : kIx ks (.text y) with
        | none =>
          rw [plc_find hks nd, e] at q
          exact wpAny_pure q
        | some i =>
          rw [plc_find hks nd, e] at q
          obtain ⟨x, ex, _, h3⟩ := hks.getK (get_of_kIx e)
          rw [Array.getElem?_toList] at ex
          simp only [ex]
          refine wpAny_bind (wpAny_dictEpoch ho hd (wpAny_bind (eq_keys hu h3 hk (wpAny_bind (wpAny_dictEpoch ho hd ?_)))))
          rw [if_neg (by simp), decide_eq_true rfl]
          exact wpAny_bind (wpAny_rule (wpAny_pure q))
      · exact plain
    · exact plain
  · have hns : ∀ y t, v = .str y t → ¬ (es.all fun e => isExactStrKey e.key) = true := by
      rintro y t rfl z
      refine hall ?_
      rw [List.all_cons]
      refine (Bool.and_eq_true _ _).mpr ⟨rfl, List.all_eq_true.mpr fun u hm => ?_⟩
      obtain ⟨i, hi, e⟩ := List.mem_filterMap.mp hm
      obtain ⟨x, k', ex, _, _, h3⟩ := at_ i hi
      simp only [ex, Option.map_some, Option.some.injEq] at e
      subst e
      rw [← Array.all_toList, List.all_eq_true] at z
      have zz := z x (List.mem_of_getElem? (by rw [Array.getElem?_toList]; exact ex))
      cases hx : x.key <;> first | rfl | (rw [hx] at zz; simp [isExactStrKey] at zz)
    unfold plc at hall
    rw [if_neg hall]
    have fin : ∀ (i : Nat), decide (ks[i]? = some k) = true → i ∈ plc w es k → ∀ todo, ((i :: todo).find? fun i => decide (ks[i]? = some k)) = some i := fun i h _ todo => by
      rw [List.find?_cons, h]
    by_cases hone : (((placesWithHash es.size (fun i => es[i]?.map (·.hash)) (k.hash w)).filterMap (fun i => es[i]?.map (·.key))) == [v]) = true
    all_goals cases v
    all_goals try dsimp only
    all_goals try rw [if_neg (hany _ rfl)]
    all_goals try rw [if_neg (hns _ _ rfl)]
    all_goals first
      | (rw [if_pos hone]; first | refine wpAny_bind (wpAny_pure ?_) | skip)
      | (rw [if_neg hone]; refine wpAny_bind (tells_not hk hstored ?_))
    all_goals rw [if_neg (by simp)]
    all_goals refine wpAny_bind (wpAny_forIn_list _ (fun todo (acc : Option (Option Nat) × Option Nat) st' => acc.1 = none ∧ st' = s ∧ (∀ i ∈ todo, i ∈ plc w es k) ∧ todo.Nodup ∧ ((acc.2 = none ∧ Q (todo.find? fun i => decide (ks[i]? = some k)) s) ∨ ∃ j, acc.2 = some j ∧ ks[j]? = some k ∧ j ∉ todo ∧ Q (some j) s)) _ ?_ ?_ _ _ ⟨rfl, rfl, fun _ z => z, plc_nodup, .inl ⟨rfl, q⟩⟩)
    all_goals first
      | (rintro i todo ⟨acc1, acc2⟩ st' ⟨h0, rfl, hin, hdp, hacc⟩
         have h0' : acc1 = none := h0
         subst h0'
         obtain ⟨x, k', ex, ek, hx, hk'⟩ := at_ i (hin i List.mem_cons_self)
         have hin' : ∀ j ∈ todo, j ∈ plc w es k := fun j hj => hin j (List.mem_cons_of_mem _ hj)
         obtain ⟨hit, hdt⟩ := List.nodup_cons.mp hdp
         simp only [ex]
         rw [if_pos (by rw [hx]; exact beq_self_eq_true _)]
         refine wpAny_bind (wpAny_dictEpoch ho hd (wpAny_bind (eq_keys hu hk' hk (wpAny_bind (wpAny_dictEpoch ho hd ?_)))))
         rw [if_neg (by simp)]
         by_cases e : k' = k
         · subst e
           have hnone : acc2 = none ∧ Q (some i) st' := by
             rcases hacc with ⟨h1, h2⟩ | ⟨j, _, h2, h3, _⟩
             · rw [List.find?_cons, ek] at h2
               simp only [decide_true] at h2
               exact ⟨h1, h2⟩
             · exact absurd (by
                 obtain ⟨q1, q2⟩ := List.getElem?_eq_some_iff.mp h2
                 obtain ⟨q3, q4⟩ := List.getElem?_eq_some_iff.mp ek
                 have : j = i := (List.getElem_inj nd).mp (q2.trans q4.symm)
                 rw [this]
                 exact List.mem_cons_self) h3
           obtain ⟨rfl, hq⟩ := hnone
           rw [if_pos (decide_eq_true rfl), if_neg (by simp)]
           refine wpAny_bind (wpAny_rule ?_)
           split
           · exact wpAny_pure (wpAny_pure hq)
           · exact wpAny_pure ⟨rfl, rfl, hin', hdt, .inr ⟨i, rfl, ek, hit, hq⟩⟩
         · rw [if_neg (by rw [decide_eq_false e]; exact Bool.false_ne_true)]
           refine wpAny_bind (wpAny_rule ?_)
           rw [if_neg (by simp)]
           refine wpAny_pure ⟨rfl, rfl, hin', hdt, ?_⟩
           rcases hacc with ⟨h1, h2⟩ | ⟨j, h1, h2, h3, h4⟩
           · refine .inl ⟨h1, ?_⟩
             have z : ¬ (some k' = some k) := fun z => e (Option.some.inj z)
             rw [List.find?_cons, ek, decide_eq_false z] at h2
             exact h2
           · exact .inr ⟨j, h1, h2, fun z => h3 (List.mem_cons_of_mem _ z), h4⟩)
      | (rintro ⟨acc1, acc2⟩ st' ⟨h0, rfl, _, _, hacc⟩
         have h0' : acc1 = none := h0
         subst h0'
         rcases hacc with ⟨h1, h2⟩ | ⟨j, h1, _, _, h2⟩
         · have h1' : acc2 = none := h1
           subst h1'
           exact wpAny_pure h2
         · have h1' : acc2 = some j := h1
           subst h1'
           exact wpAny_pure h2)
end
end DL
/-! DLh: dicts in the store. -/
namespace DL
open PySem PySem.Spec L2
open PyProof.Rows hiding St

def okKey (k : D) : Bool := k.pure && decide (k.depth ≤ 8)
def dkeys (kvs : List (D × D)) : List NestedKey := kvs.map (·.1.key)
def dIx (kvs : List (D × D)) (k : D) : Option Nat := kIx (dkeys kvs) k.key
def dget (kvs : List (D × D)) (k : D) : Option D := match dIx kvs k with
  | some i => (kvs[i]?).map (·.2)
  | none => none
def dput (kvs : List (D × D)) (k v : D) : List (D × D) := match dIx kvs k with
  | some i => kvs.modify i fun p => (p.1, v)
  | none => kvs ++ [(k, v)]
def eput (es : List Ent) (k : NestedKey) (y v : V) : List Ent := match kIx (es.map (·.1)) k with
  | some i => es.modify i fun e => (e.1, e.2.1, v)
  | none => es ++ [(k, y, v)]
/-- the entries as they lie -/
abbrev LiesE (w : World) : List Ent → List DictEntry → Prop := Paired fun (e : Ent) (x : DictEntry) => x.hash = e.1.hash w ∧ RelV e.2.1 x.key ∧ RelV e.2.2 x.val

mutual
theorem key_depth : ∀ d : D, d.key.depth = d.depth
  | .non => by simp [D.key, D.depth, NestedKey.depth]
  | .bl _ => by simp [D.key, D.depth, NestedKey.depth]
  | .int _ => by simp [D.key, D.depth, NestedKey.depth]
  | .str _ => by simp [D.key, D.depth, NestedKey.depth]
  | .loc _ => by simp [D.key, D.depth, NestedKey.depth]
  | .scr _ => by simp [D.key, D.depth, NestedKey.depth]
  | .tup ds => by simp only [D.key, D.depth, NestedKey.depth]; rw [keys_depth ds]
theorem keys_depth : ∀ ds : List D, NestedKey.depthAll (D.keys ds) = D.depths ds
  | [] => by simp [D.keys, D.depths, NestedKey.depthAll]
  | d :: ds => by simp only [D.keys, D.depths, NestedKey.depthAll]; rw [key_depth d, keys_depth ds]
end
section
variable {X : Cx} {ca : Nat → Addr} {pins : List (Addr × Obj)} {σ : L2.St} {H : Hp} {s : Shared} {r : List Addr}
mutual
theorem nested_of (I : Inv X pins σ H s) : ∀ (d : D) (v : V) (u : Value), DV X.K r H d v → RelV v u → d.pure = true → NestedIs s.heap d.key u
  | .non, v, u, h, rv, _ => by unfold DV at h; subst h; cases rv; exact .none
  | .bl b, v, u, h, rv, _ => by unfold DV at h; subst h; cases rv; exact .bool rfl
  | .int i, v, u, h, rv, _ => by unfold DV at h; subst h; obtain ⟨t, rfl⟩ := rv; exact .int _ _
  | .str i, v, u, h, rv, _ => by unfold DV at h; subst h; obtain ⟨t, rfl⟩ := rv; exact .text _ _
  | .loc _, _, _, _, _, p => by simp [D.pure] at p
  | .scr _, _, _, _, _, p => by simp [D.pure] at p
  | .tup ds, v, u, h, rv, p => by
    unfold DV at h
    obtain ⟨a, vs, rfl, h1, h2⟩ := h
    cases rv
    obtain ⟨its, q, ⟨o, g1, g2, n, g3⟩, _⟩ := I.tuple h1
    exact .tup g1 g2 g3 (nesteds_of I ds vs its h2 q (by simpa [D.pure] using p))
theorem nesteds_of (I : Inv X pins σ H s) : ∀ (ds : List D) (vs : List V) (us : List Value), DVs X.K r H ds vs → Vals vs us → D.pures ds = true → NestedAll s.heap (D.keys ds) us
  | [], _, _, h, q, _ => by unfold DVs at h; subst h; cases q; exact .nil
  | d :: ds, _, _, h, q, p => by
    unfold DVs at h
    obtain ⟨v, ws, rfl, h1, h2⟩ := h
    simp only [D.pures, Bool.and_eq_true] at p
    cases q with
    | cons q1 q2 => exact .cons (nested_of I d v _ h1 q1 p.1) (nesteds_of I ds ws _ h2 q2 p.2)
end
theorem kv8_of (I : Inv X pins σ H s) {k : D} {y : V} {u : Value} (q : DV X.K r H k y) (ry : RelV y u) (ok : okKey k = true) : KV8 s.heap k.key u := by
  simp only [okKey, Bool.and_eq_true, decide_eq_true_eq] at ok
  exact ⟨nested_of I k y u q ry ok.1, by rw [key_depth]; exact ok.2⟩
theorem paired_len {α β : Type} {F : α → β → Prop} : ∀ {l : List α} {m : List β}, Paired F l m → l.length = m.length
  | _, _, .nil => rfl
  | _, _, .cons _ t => by simp [paired_len t]
theorem keys_of_ents : ∀ {kvs : List (D × D)} {es : List Ent}, EntsV X.K r H kvs es → es.map (·.1) = dkeys kvs
  | _, _, .nil => rfl
  | _, _, .cons p t => by
    obtain ⟨_, _, e, _⟩ := p
    simp only [dkeys, List.map_cons]
    rw [e]
    exact congrArg _ (keys_of_ents t)
theorem ksOf_of (I : Inv X pins σ H s) : ∀ {kvs : List (D × D)} {es : List Ent} {ents : List DictEntry}, EntsV X.K r H kvs es → LiesE X.w es ents → KsOf X.w s.heap (dkeys kvs) ents
  | _, _, _, .nil, .nil => .nil
  | _, _, _, .cons p t, .cons q u => by
    obtain ⟨p0, p1, p2, p3, _⟩ := p
    obtain ⟨q1, q2, _⟩ := q
    exact .cons ⟨by rw [q1, p2], kv8_of I p3 q2 (by simp [okKey, p0, p1])⟩ (ksOf_of I t u)
theorem paired_get {α β : Type} {F : α → β → Prop} : ∀ {l : List α} {m : List β}, Paired F l m → ∀ {i : Nat} {a : α}, l[i]? = some a → ∃ b, m[i]? = some b ∧ F a b
  | _, _, .nil, i, a, e => by simp at e
  | _, _, .cons p t, i, a, e => by
    cases i with
    | zero => simp at e; subst e; exact ⟨_, rfl, p⟩
    | succ i => simpa using paired_get t (i := i) (by simpa using e)
theorem paired_modify {α β : Type} {F : α → β → Prop} {f : α → α} {g : β → β} (h : ∀ a b, F a b → F (f a) (g b)) : ∀ {l : List α} {m : List β} (i : Nat), Paired F l m → Paired F (l.modify i f) (m.modify i g)
  | _, _, i, .nil => by simpa using Paired.nil
  | _, _, i, .cons p t => by
    cases i with
    | zero => simpa using Paired.cons (h _ _ p) t
    | succ i => simpa using Paired.cons p (paired_modify h i t)
theorem paired_snoc {α β : Type} {F : α → β → Prop} {a : α} {b : β} (h : F a b) : ∀ {l : List α} {m : List β}, Paired F l m → Paired F (l ++ [a]) (m ++ [b])
  | _, _, .nil => .cons h .nil
  | _, _, .cons p t => .cons p (paired_snoc h t)

/-- a dict of the store, as it lies -/
structure DLies (X : Cx) (r : List Addr) (H : Hp) (s : Shared) (a : Addr) (kvs : List (D × D)) (es : List Ent) (o : Obj) (ents : Array DictEntry) (ep : Nat) : Prop where
  hp : H a = some (.ext (RawD X.w a es))
  sm : (a == sysModules) = false
  sz : kvs.length ≤ sizeLine
  nd : (dkeys kvs).Nodup
  ev : EntsV X.K r H kvs es
  ob : s.heap.get? a = some o
  ex : o.ExactDict
  dt : o.data = .dict ents ep
  le : LiesE X.w es ents.toList
  ks : KsOf X.w s.heap (dkeys kvs) ents.toList
theorem DLies.ty {a : Addr} {kvs es o ents ep} (L : DLies X r H s a kvs es o ents ep) : s.TypeIs (.ref a) "dict" := ⟨o, L.ob, L.ex.1⟩
theorem dlies_of (I : Inv X pins σ H s) {a : Addr} {kvs : List (D × D)} (h : OV (gx X ca) r H a (.dct kvs)) : ∃ es o ents ep, DLies X r H s a kvs es o ents ep := by
  obtain ⟨z, sm, nd, es, e, ev⟩ := h
  obtain ⟨⟨o, ents, ep, g1, g2, g3, g4⟩, _⟩ := I.hok a _ e
  exact ⟨es, o, ents, ep, e, sm, z, nd, ev, g1, g2, g3, g4, ksOf_of I ev g4⟩
variable {A : Around} {E : Value → Shared → Prop} {a : Addr} {kvs : List (D × D)} {es : List Ent} {o : Obj} {ents : Array DictEntry} {ep : Nat} {k : D} {y : V} {u : Value}
theorem DLies.tok (L : DLies X r H s a kvs es o ents ep) (t : Nat) : DLies X r H { s with toks := t } a kvs es o ents ep := ⟨L.hp, L.sm, L.sz, L.nd, L.ev, L.ob, L.ex, L.dt, L.le, L.ks⟩
theorem DLies.at_ (L : DLies X r H s a kvs es o ents ep) {i : Nat} {p : D × D} (e : kvs[i]? = some p) : ∃ x v, ents[i]? = some x ∧ RelV v x.val ∧ DV X.K r H p.2 v := by
  obtain ⟨z, ez, _, _, _, _, qv⟩ := paired_get L.ev e
  obtain ⟨x, ex, _, _, rv⟩ := paired_get L.le ez
  exact ⟨x, z.2.2, by rw [Array.getElem?_toList] at ex; exact ex, rv, qv⟩
/-- d.get -/
theorem dict_get {Q : Option Value → Shared → Prop} (hu : A.units + 8 < cLine) (L : DLies X r H s a kvs es o ents ep) (hk : KV8 s.heap k.key u)
    (q : ∀ t, match dget kvs k with
      | some d => ∀ v w', DV X.K r H d v → RelV v w' → Q (some w') { s with toks := t }
      | none => Q none { s with toks := t }) : wpAny (model X.prog X.w) A (dictGet a u) Q E s := by
  unfold dictGet
  refine wpAny_holding (wpAny_bind (hash_key hu hk (wpAny_bind (find_key (s := { s with toks := s.toks + k.key.draws }) hu hk L.ob L.dt L.ks L.nd ?_))))
  have q := q (s.toks + k.key.draws)
  unfold dget dIx at q
  cases e : kIx (dkeys kvs) k.key with
  | none =>
    rw [e] at q
    exact wpAny_pure q
  | some i =>
    rw [e] at q
    have e1 := get_of_kIx e
    unfold dkeys at e1
    rw [List.getElem?_map] at e1
    cases e2 : kvs[i]? with
    | none => rw [e2] at e1; cases e1
    | some p =>
      simp only [e2, Option.map_some] at q
      obtain ⟨x, v, ex, rv, qv⟩ := L.at_ e2
      refine wpAny_bind (wpAny_dictEntries (s := { s with toks := s.toks + k.key.draws }) L.ob L.dt ?_)
      rw [ex]
      exact wpAny_pure (q v _ qv rv)
theorem isSome_dget : (dget kvs k).isSome = (dIx kvs k).isSome := by
  unfold dget
  cases e : dIx kvs k with
  | none => rfl
  | some i =>
    have e1 := get_of_kIx e
    unfold dkeys at e1
    rw [List.getElem?_map] at e1
    cases e2 : kvs[i]? with
    | none => rw [e2] at e1; cases e1
    | some p => simp only [e2]; rfl
/-- k in d, by the answer of get -/
theorem dict_has {Q : Bool → Shared → Prop} (hu : A.in1.units + 8 < cLine) (L : DLies X r H s a kvs es o ents ep) (hk : KV8 s.heap k.key u) (q : ∀ t, Q (dget kvs k).isSome { s with toks := t }) : wpAny (model X.prog X.w) A (contains (.ref a) u) Q E s := by
  refine wpAny_contains_slot L.ty F.slot_dict_contains ?_
  refine wpAny_call_entry F.slot_dict_contains L.ty F.entry_dict_contains ?_ (F.args_dict_contains_2 _ _)
  show wpAny _ _ (dictGet a u >>= _) _ _ s
  refine wpAny_bind (dict_get hu L hk fun t => ?_)
  have q := q t
  split
  · rename_i d e
    rw [e] at q
    exact fun v w' _ _ => wpAny_pure ⟨_, rfl, wpAny_truthy_bool q⟩
  · rename_i e
    rw [e] at q
    show wpAny _ _ (Builtin.Dict.pendingKey? a u >>= _) _ _ _
    exact wpAny_bind (wpAny_pendingKey_other L.sm (wpAny_pure ⟨_, rfl, wpAny_truthy_bool q⟩))
theorem dict_item {Q : Value → Shared → Prop} {d : D} (hu : A.in1.units + 8 < cLine) (L : DLies X r H s a kvs es o ents ep) (hk : KV8 s.heap k.key u) (hd : dget kvs k = some d) (q : ∀ t v w', DV X.K r H d v → RelV v w' → Q w' { s with toks := t }) :
    wpAny (model X.prog X.w) A (getItem (.ref a) u) Q E s := by
  unfold getItem
  refine wpAny_holding (wpAny_bind (wpAny_sequenceKey L.ty (by decide) (wpAny_bind ?_)))
  refine wpAny_callSpecial?_slot L.ty F.slot_dict_getitem (wpAny_call_entry F.slot_dict_getitem L.ty F.entry_dict_getitem ?_ (F.args_dict_getitem_2 _ _))
  show wpAny _ _ (dictGet a u >>= _) _ _ s
  refine wpAny_bind (dict_get hu L hk fun t => ?_)
  rw [hd]
  exact fun v w' qv rv => wpAny_pure ⟨w', rfl, wpAny_pure (q t v w' qv rv)⟩
theorem dict_getm {Q : Value → Shared → Prop} (hu : A.in1.units + 8 < cLine) (L : DLies X r H s a kvs es o ents ep) (hk : KV8 s.heap k.key u) (df : Value)
    (q : ∀ t, match dget kvs k with
      | some d => ∀ v w', DV X.K r H d v → RelV v w' → Q w' { s with toks := t }
      | none => Q df { s with toks := t }) : wpAny (model X.prog X.w) A (call (.builtin "dict.get") [.ref a, u, df]) Q E s := by
  refine wpAny_call_entry F.slot_dict_get L.ty F.entry_dict_get ?_ (F.args_dict_get_3 _ _ _)
  show wpAny _ _ (dictGet a u >>= _) _ _ s
  refine wpAny_bind (dict_get hu L hk fun t => ?_)
  have q := q t
  split
  · rename_i d e
    rw [e] at q
    exact fun v w' qv rv => wpAny_pure ⟨w', rfl, q v w' qv rv⟩
  · rename_i e
    rw [e] at q
    show wpAny _ _ (Builtin.Dict.missed a u >>= _) _ _ _
    exact wpAny_bind (wpAny_missed_other L.sm (wpAny_pure ⟨_, rfl, q⟩))

theorem lies_put {v : V} {rv : Value} (L : DLies X r H s a kvs es o ents ep) (ry : RelV y u) (qv : RelV v rv) : match kIx (dkeys kvs) k.key with
    | some i => LiesE X.w (eput es k.key y v) (ents.modify i fun e => { e with val := rv }).toList
    | none => LiesE X.w (eput es k.key y v) (ents.push ⟨k.key.hash X.w, u, rv⟩).toList := by
  unfold eput
  rw [keys_of_ents L.ev]
  cases e : kIx (dkeys kvs) k.key with
  | some i =>
    have := paired_modify (F := fun (e : Ent) (x : DictEntry) => x.hash = e.1.hash X.w ∧ RelV e.2.1 x.key ∧ RelV e.2.2 x.val) (f := fun e => (e.1, e.2.1, v)) (g := fun x => { x with val := rv }) (fun a b h => ⟨h.1, h.2.1, qv⟩) i L.le
    show LiesE X.w _ (ents.modify i _).toList
    rw [Array.toList_modify]
    exact this
  | none =>
    show LiesE X.w _ (ents.push _).toList
    rw [Array.toList_push]
    exact paired_snoc ⟨rfl, ry, qv⟩ L.le
theorem write_raw {h' : Heap} {t' : Nat} (I : Inv X pins σ H s) (L : DLies X r H s a kvs es o ents ep) {es' : List Ent} (sb : Heap.SameBut a s.heap h') (raw : RawD X.w a es' h') :
    Inv X pins σ (upd H a (.ext (RawD X.w a es'))) { s with heap := h', toks := t' } := by
  refine I.write (x := a) (e := a) (by rw [L.hp]; exact True.intro) (.inl rfl) (fun b z hb e => (sb.2 b hb).trans e) ?_ raw.ok
  obtain ⟨o', _, _, e, _⟩ := raw
  exact ⟨o', e⟩
/-- d[k] = v at the table -/
theorem dict_put {v : V} {rv : Value} {Q : Unit → Shared → Prop} (hu : A.units + 8 < cLine) (I : Inv X pins σ H s) (L : DLies X r H s a kvs es o ents ep) (hk : KV8 s.heap k.key u) (ry : RelV y u) (qv : RelV v rv)
    (q : ∀ s', Inv X pins σ (upd H a (.ext (RawD X.w a (eput es k.key y v)))) s' → Q () s') : wpAny (model X.prog X.w) A (dictSet a u rv) Q E s := by
  have hl := lies_put (k := k) L ry qv
  have hsz : ents.size ≤ sizeLine := by
    have e1 : es.length = ents.size := (paired_len L.le).trans Array.length_toList
    have e2 : kvs.length = es.length := paired_len L.ev
    have e3 := L.sz
    omega
  unfold dictSet dictSetHashed
  refine wpAny_holding (wpAny_bind (hash_key hu hk (wpAny_holding (wpAny_bind (find_key (s := { s with toks := s.toks + k.key.draws }) hu hk L.ob L.dt L.ks L.nd ?_)))))
  cases e : kIx (dkeys kvs) k.key with
  | none =>
    rw [e] at hl
    refine wpAny_bind (wpAny_rule (wpAny_updateDictKeys (s := { s with toks := s.toks + k.key.draws }) L.ob L.dt ?_ (hz := hsz)))
    refine q _ (write_raw I L (Heap.SameBut.update ..) ⟨_, _, ep + 1, Heap.get?_update_self _ L.ob (Obj.isFreed_of_dict (Obj.data_mapDictKeys L.dt _)), L.ex.mapDictKeys _, Obj.data_mapDictKeys L.dt _, hl⟩)
  | some i =>
    rw [e] at hl
    refine wpAny_bind (wpAny_rule (wpAny_bind (wpAny_updateDict (s := { s with toks := s.toks + k.key.draws }) L.ob L.dt (wpAny_point ?_))))
    refine q _ (write_raw I L (Heap.SameBut.update ..) ⟨_, _, ep, Heap.get?_update_self _ L.ob (Obj.isFreed_of_dict (Obj.data_mapDict L.dt _)), L.ex.mapDict _, Obj.data_mapDict L.dt _, hl⟩)
theorem dict_setItem {v : V} {rv : Value} {Q : Unit → Shared → Prop} (hu : A.in1.units + 8 < cLine) (I : Inv X pins σ H s) (L : DLies X r H s a kvs es o ents ep) (hk : KV8 s.heap k.key u) (ry : RelV y u) (qv : RelV v rv)
    (q : ∀ s', Inv X pins σ (upd H a (.ext (RawD X.w a (eput es k.key y v)))) s' → Q () s') : wpAny (model X.prog X.w) A (setItem (.ref a) u rv) Q E s := by
  unfold setItem
  refine wpAny_holding (wpAny_bind (wpAny_sequenceKey L.ty (by decide) (wpAny_bind ?_)))
  refine wpAny_callSpecial?_slot L.ty F.slot_dict_setitem (wpAny_call_entry F.slot_dict_setitem L.ty F.entry_dict_setitem ?_ (F.args_dict_setitem_3 _ _ _))
  show wpAny _ _ (Builtin.Dict.notOrdered "__setitem__" ⟨[.ref a, u, rv], []⟩ >>= _) _ _ s
  refine wpAny_bind (wpAny_notOrdered_dict L.ty ?_)
  show wpAny _ _ (dictSet a u rv >>= _) _ _ s
  exact wpAny_bind (dict_put hu I L hk ry qv fun s' I' => wpAny_pure ⟨.none, rfl, wpAny_pure (q s' I')⟩)
/-- d.setdefault(k, x) -/
theorem dict_setdefault {v : V} {rv : Value} {Q : Value → Shared → Prop} (hu : A.in1.units + 8 < cLine) (I : Inv X pins σ H s) (L : DLies X r H s a kvs es o ents ep) (hk : KV8 s.heap k.key u) (ry : RelV y u) (qv : RelV v rv)
    (q1 : ∀ t d v w', dget kvs k = some d → DV X.K r H d v → RelV v w' → Q w' { s with toks := t })
    (q2 : ∀ s', dget kvs k = none → Inv X pins σ (upd H a (.ext (RawD X.w a (eput es k.key y v)))) s' → Q rv s') : wpAny (model X.prog X.w) A (call (.builtin "dict.setdefault") [.ref a, u, rv]) Q E s := by
  have hl := lies_put (k := k) L ry qv
  have hsz : ents.size ≤ sizeLine := by
    have e1 : es.length = ents.size := (paired_len L.le).trans Array.length_toList
    have e2 : kvs.length = es.length := paired_len L.ev
    have e3 := L.sz
    omega
  refine wpAny_call_entry F.slot_dict_setdefault L.ty F.entry_dict_setdefault ?_ (F.args_dict_setdefault_3 _ _ _)
  unfold Builtin.«dict.setdefault»
  refine wpAny_bind ?_
  unfold Builtin.Dict.keyAndDefault
  refine wpAny_bind (wpAny_notOrdered_dict L.ty ?_)
  show wpAny _ _ (pure (a, u, some rv)) _ _ s
  refine wpAny_pure ?_
  show wpAny _ _ (if (a == sysModules) = true then _ else (dictSetDefault a u rv >>= _)) _ _ s
  rw [if_neg (by rw [L.sm]; exact Bool.false_ne_true)]
  unfold dictSetDefault
  refine wpAny_bind (wpAny_holding (wpAny_bind (hash_key hu hk (wpAny_bind (find_key (s := { s with toks := s.toks + k.key.draws }) hu hk L.ob L.dt L.ks L.nd ?_)))))
  unfold dget dIx at q1 q2
  cases e : kIx (dkeys kvs) k.key with
  | none =>
    rw [e] at hl q2
    refine wpAny_bind (wpAny_rule (wpAny_bind (wpAny_updateDictKeys (s := { s with toks := s.toks + k.key.draws }) L.ob L.dt (wpAny_pure (wpAny_pure ⟨_, rfl, ?_⟩)) (hz := hsz))))
    exact q2 _ rfl (write_raw I L (Heap.SameBut.update ..) ⟨_, _, ep + 1, Heap.get?_update_self _ L.ob (Obj.isFreed_of_dict (Obj.data_mapDictKeys L.dt _)), L.ex.mapDictKeys _, Obj.data_mapDictKeys L.dt _, hl⟩)
  | some i =>
    rw [e] at q1
    have e1 := get_of_kIx e
    unfold dkeys at e1
    rw [List.getElem?_map] at e1
    cases e2 : kvs[i]? with
    | none => rw [e2] at e1; cases e1
    | some p =>
      simp only [e2, Option.map_some] at q1
      obtain ⟨x, v, ex, rv, qv⟩ := L.at_ e2
      refine wpAny_bind (wpAny_dictEntries (s := { s with toks := s.toks + k.key.draws }) L.ob L.dt ?_)
      rw [ex]
      exact wpAny_bind (wpAny_rule (wpAny_pure (wpAny_pure ⟨_, rfl, q1 _ p.2 v _ rfl qv rv⟩)))
end
end DL
/-! DLi: the rules for dicts. -/
namespace DL
open PySem PySem.Spec L2
open PyProof.Rows hiding St

theorem ents_put {K : PySem.W.Frag} {r : List Addr} {H : Hp} {kvs : List (D × D)} {es : List Ent} {k v : D} {y z : V} (h : EntsV K r H kvs es) (ok : okKey k = true) (qk : DV K r H k y) (qv : DV K r H v z) : EntsV K r H (dput kvs k v) (eput es k.key y z) := by
  have hk : es.map (·.1) = dkeys kvs := by
    clear ok qk qv
    induction h with
    | nil => rfl
    | cons p t ih =>
      obtain ⟨_, _, e, _⟩ := p
      simp only [dkeys, List.map_cons] at ih ⊢
      rw [e, ih]
  simp only [okKey, Bool.and_eq_true, decide_eq_true_eq] at ok
  unfold dput eput dIx
  rw [hk]
  cases kIx (dkeys kvs) k.key with
  | some i => exact paired_modify (f := fun p => (p.1, v)) (g := fun e => (e.1, e.2.1, z)) (F := fun (p : D × D) (e : Ent) => p.1.pure = true ∧ p.1.depth ≤ 8 ∧ e.1 = p.1.key ∧ DV K r H p.1 e.2.1 ∧ DV K r H p.2 e.2.2) (fun a b h => ⟨h.1, h.2.1, h.2.2.1, h.2.2.2.1, qv⟩) i h
  | none => exact paired_snoc ⟨ok.1, ok.2, rfl, qk, qv⟩ h
theorem dkeys_put (kvs : List (D × D)) (k v : D) : dkeys (dput kvs k v) = match dIx kvs k with
    | some _ => dkeys kvs
    | none => dkeys kvs ++ [k.key] := by
  unfold dput
  cases dIx kvs k with
  | none => simp [dkeys]
  | some i =>
    show dkeys (kvs.modify i _) = dkeys kvs
    unfold dkeys
    apply List.ext_getElem?
    intro j
    rw [List.getElem?_map, List.getElem?_map, List.getElem?_modify]
    by_cases e : i = j
    · subst e; cases kvs[i]? <;> simp
    · simp [e]
theorem nodup_put {kvs : List (D × D)} (nd : (dkeys kvs).Nodup) (k v : D) : (dkeys (dput kvs k v)).Nodup := by
  rw [dkeys_put]
  cases e : dIx kvs k with
  | some i => exact nd
  | none =>
    show (dkeys kvs ++ [k.key]).Nodup
    rw [List.nodup_append]
    refine ⟨nd, by simp, fun a ha b hb => ?_⟩
    simp at hb
    subst hb
    rintro rfl
    exact mem_of_kIx e ha
theorem length_put (kvs : List (D × D)) (k v : D) : (dput kvs k v).length ≤ kvs.length + 1 := by
  unfold dput
  cases dIx kvs k <;> simp

/-! ### what is read of a dict -/
def dctD (S : Sto) : D → Option (List (D × D))
  | .loc n => match S[n]? with
    | some (.dct kvs) => some kvs
    | _ => none
  | _ => none
section
variable {X : Cx} {ca : Nat → Addr}
/-- d[k], k in d .. : the store says it -/
def RdD (G : Ctx) (x y : V) (H : Hp) (P : List (D × D) → D → List Addr → Prop) : Prop := ∃ (r : List Addr) (S : Sto) (d k : D) (kvs : List (D × D)), RepS G r S H ∧ DV G.K r H d x ∧ DV G.K r H k y ∧ dctD S d = some kvs ∧ okKey k = true ∧ P kvs k r
def rIxD (G : Ctx) : R2 := fun x y H Q => RdD G x y H fun kvs k r => ∃ d, dget kvs k = some d ∧ ∀ v, DV G.K r H d v → Q v H
def rInDct (G : Ctx) : R2 := fun x y H Q => RdD G y x H fun kvs k r => Q (.bl (dget kvs k).isSome) H
def rNotInDct (G : Ctx) : R2 := fun x y H Q => RdD G y x H fun kvs k r => Q (.bl (!(dget kvs k).isSome)) H
theorem dct_at {G : Ctx} {r : List Addr} {S : Sto} {H : Hp} {d : D} {x : V} {kvs : List (D × D)} (R : RepS G r S H) (q : DV G.K r H d x) (e : dctD S d = some kvs) : ∃ n a, d = .loc n ∧ x = .ref a ∧ r[n]? = some a ∧ S[n]? = some (.dct kvs) ∧ OV G r H a (.dct kvs) := by
  unfold dctD at e
  split at e
  · rename_i n
    split at e
    · rename_i kvs' e1
      cases e
      obtain ⟨a, ea, rfl⟩ := dv_loc q
      exact ⟨n, a, rfl, rfl, ea, e1, R.at_ _ _ _ e1 ea⟩
    · cases e
  · cases e
theorem u8 {k : Nat} {A : Around} (hr : Room k A) : A.in1.units + 8 < cLine := by
  have := hr.un
  show A.units + 1 + 8 < cLine
  omega
theorem ix_dict (hu : X.A.in1.units + 8 < cLine) : IxR X (rIxD (gx X ca)) := by
  intro value slice pins s σ H x y v u Q I rx ry h hs
  obtain ⟨r, S, d, k, kvs, R, q1, q2, e, ok, d', e', q⟩ := h
  obtain ⟨n, a, rfl, rfl, ea, e1, ov⟩ := dct_at R q1 e
  cases rx
  obtain ⟨es, o, ents, ep, L⟩ := dlies_of I ov
  obtain ⟨i, hi, dv⟩ : ∃ i : Nat, True ∧ True := ⟨0, trivial, trivial⟩
  unfold subscriptTail
  refine wpAny_bind ?_
  rw [getitemInPython_of_ne L.ty.not_modules]
  refine wpAny_bind (wpAny_specialOf L.ty PySem.F.slot_dict_getitem.lookup ?_)
  have fin : wpAny (model X.prog X.w) X.A (subscripted slice false (.ref a) u) (fun z s3 => wpAny (model X.prog X.w) X.A (letTemporaryGo value (.ref a) z >>= fun _ => pure z) (EP X pins σ Q) X.xe s3) X.xe s := by
    rw [hs]
    refine wpAny_operating (dict_item hu L (kv8_of I q2 ry ok) e' fun t w z qw rz => wpAny_bind (wpAny_letTemporaryGo (wpAny_pure ⟨w, H, I.tok t, rz, q w qw⟩)))
  first
    | exact wpAny_bind fin
    | exact wpAny_pure (wpAny_bind fin)
theorem op_inDct (hu : X.A.in1.units + 8 < cLine) : OpR X (compareOp .In) (rInDct (gx X ca)) := by
  intro pins s σ H x y v u Q I rx ry h
  obtain ⟨r, S, d, k, kvs, R, q1, q2, e, ok, q⟩ := h
  obtain ⟨n, a, rfl, rfl, ea, e1, ov⟩ := dct_at R q1 e
  cases ry
  obtain ⟨es, o, ents, ep, L⟩ := dlies_of I ov
  show wpAny _ _ (contains (.ref a) v >>= fun b => pure (Value.bool b)) _ _ s
  exact wpAny_bind (dict_has hu L (kv8_of I q2 rx ok) fun t => wpAny_pure ⟨.bl _, H, I.tok t, rfl, q⟩)
theorem op_notInDct (hu : X.A.in1.units + 8 < cLine) : OpR X (compareOp .NotIn) (rNotInDct (gx X ca)) := by
  intro pins s σ H x y v u Q I rx ry h
  obtain ⟨r, S, d, k, kvs, R, q1, q2, e, ok, q⟩ := h
  obtain ⟨n, a, rfl, rfl, ea, e1, ov⟩ := dct_at R q1 e
  cases ry
  obtain ⟨es, o, ents, ep, L⟩ := dlies_of I ov
  show wpAny _ _ (contains (.ref a) v >>= fun b => pure (Value.bool (!b))) _ _ s
  exact wpAny_bind (dict_has hu L (kv8_of I q2 rx ok) fun t => wpAny_pure ⟨.bl _, H, I.tok t, rfl, q⟩)
/-- one sign in a text; a text in a text -/
def rIn1 (G : Ctx) : R2 := fun x y H Q => rInLT G.K x y H Q ∨ rInDct G x y H Q ∨ (fun x y H Q => ∃ i j, x = V.str i ∧ y = V.str j ∧ Q (V.bl (!(Builtin.Str.occurrences j i 0 j.length 1).isEmpty)) H) x y H Q
def rNotIn1 (G : Ctx) : R2 := fun x y H Q => rNotInLT G.K x y H Q ∨ rNotInDct G x y H Q ∨ (fun x y H Q => ∃ i j, x = V.str i ∧ y = V.str j ∧ Q (V.bl (!(!(Builtin.Str.occurrences j i 0 j.length 1).isEmpty))) H) x y H Q
theorem op_in1 {k : Nat} (hr : Room k X.A) : OpR X (compareOp .In) (rIn1 (gx X ca)) := (op_inLT (DL.Room.u65 hr)).or ((op_inDct (u8 hr)).or op_in_str)
theorem op_notIn1 {k : Nat} (hr : Room k X.A) : OpR X (compareOp .NotIn) (rNotIn1 (gx X ca)) := (op_notInLT (DL.Room.u65 hr)).or ((op_notInDct (u8 hr)).or op_notin_str)
def rIx1 (G : Ctx) : R2 := fun x y H Q => rIx G.K x y H Q ∨ rIxD G x y H Q
theorem ix_1 {k : Nat} (hr : Room k X.A) : IxR X (rIx1 (gx X ca)) := ix_seq.or (ix_dict (u8 hr))
def ixQ : D → D → Sto → Option (D × Sto) := fun a b S => match dctD S a with
  | some kvs => if okKey b = true then (match dget kvs b with
    | some d => some (d, S)
    | none => none) else none
  | none => ixP a b S
def inQ : D → D → Sto → Option (D × Sto) := fun a b S => match dctD S b with
  | some kvs => if okKey a = true then some (.bl (dget kvs a).isSome, S) else none
  | none => match a, b with
    | .str x, .str y => some (.bl (!(Builtin.Str.occurrences y x 0 y.length 1).isEmpty), S)
    | _, _ => inP a b S
def notInQ : D → D → Sto → Option (D × Sto) := fun a b S => match dctD S b with
  | some kvs => if okKey a = true then some (.bl (!(dget kvs a).isSome), S) else none
  | none => match a, b with
    | .str x, .str y => some (.bl (!(!(Builtin.Str.occurrences y x 0 y.length 1).isEmpty)), S)
    | _, _ => notInP a b S
variable {G : Ctx}
theorem prim_ix1 : Prim2 G (rIx1 G) ixQ := by
  intro r S H x y v w d S' Q R hv hw h k
  unfold ixQ at h
  split at h
  · rename_i kvs e
    split at h
    · rename_i ok
      split at h
      · rename_i d' e'
        cases h
        exact .inr ⟨r, _, x, y, kvs, R, hv, hw, e, ok, d, e', fun z qz => k r H z Ext.refl R qz⟩
      · cases h
    · cases h
  · exact .inl (prim_ix r S H x y v w d S' Q R hv hw h k)
theorem prim_in1 : Prim2 G (rIn1 G) inQ := by
  intro r S H x y v w d S' Q R hv hw h k
  unfold inQ at h
  split at h
  · rename_i kvs e
    split at h
    · rename_i ok
      cases h
      exact .inr (.inl ⟨r, _, y, x, kvs, R, hw, hv, e, ok, k r H _ Ext.refl R mk_bl⟩)
    · cases h
  · split at h
    · cases h
      rw [dv_str hv, dv_str hw]
      exact .inr (.inr ⟨_, _, rfl, rfl, k r H _ Ext.refl R mk_bl⟩)
    · exact .inl (prim_in r S H x y v w d S' Q R hv hw h k)
theorem prim_notIn1 : Prim2 G (rNotIn1 G) notInQ := by
  intro r S H x y v w d S' Q R hv hw h k
  unfold notInQ at h
  split at h
  · rename_i kvs e
    split at h
    · rename_i ok
      cases h
      exact .inr (.inl ⟨r, _, y, x, kvs, R, hw, hv, e, ok, k r H _ Ext.refl R mk_bl⟩)
    · cases h
  · split at h
    · cases h
      rw [dv_str hv, dv_str hw]
      exact .inr (.inr ⟨_, _, rfl, rfl, k r H _ Ext.refl R mk_bl⟩)
    · exact .inl (prim_notIn r S H x y v w d S' Q R hv hw h k)

/-! ### o[i] = v -/
def setP : D → D → D → Sto → Option Sto := fun o i v S => match dctD S o with
  | some kvs => if okKey i = true ∧ kvs.length < sizeLine then (match o with
    | .loc n => some (S.set n (.dct (dput kvs i v)))
    | _ => none) else none
  | none => match o, i with
    | .loc n, .int j => match S[n]? with
      | some (.lst ds) => match ixN ds.length j with
        | some m => some (S.set n (.lst (ds.set m v)))
        | none => none
      | _ => none
    | _, _ => none
def rSetD (G : Ctx) : V → V → V → Hp → (Hp → Prop) → Prop := fun o i v H Q => ∃ (r : List Addr) (S : Sto) (d k z : D) (kvs : List (D × D)), RepS G r S H ∧ DV G.K r H d o ∧ DV G.K r H k i ∧ DV G.K r H z v ∧ dctD S d = some kvs ∧ okKey k = true ∧
  ∀ a es, o = .ref a → H a = some (.ext (RawD G.w a es)) → EntsV G.K r H kvs es → Q (upd H a (.ext (RawD G.w a (eput es k.key i v))))
theorem set_dict (hu : X.A.in1.units + 8 < cLine) : PSet X (rSetD (gx X ca)) := by
  intro pins s σ H o i v ov iv u Q I ro ri rv h
  obtain ⟨r, S, d, k, z, kvs, R, q1, q2, q3, e, ok, q⟩ := h
  obtain ⟨n, a, rfl, rfl, ea, e1, hov⟩ := dct_at R q1 e
  cases ro
  obtain ⟨es, ob, ents, ep, L⟩ := dlies_of I hov
  exact dict_setItem hu I L (kv8_of I q2 ri ok) ri rv fun s' I' => ⟨_, I', q a es rfl L.hp L.ev⟩
def rSet1 (G : Ctx) : V → V → V → Hp → (Hp → Prop) → Prop := fun o i v H Q => rSetL o i v H Q ∨ rSetD G o i v H Q
theorem set_1 {k : Nat} (hr : Room k X.A) : PSet X (rSet1 (gx X ca)) := by
  intro pins s σ H o i v ov iv u Q I ro ri rv h
  rcases h with h | h
  · exact set_list pins s σ H o i v ov iv u Q I ro ri rv h
  · exact set_dict (u8 hr) pins s σ H o i v ov iv u Q I ro ri rv h
theorem RepS.dct {r : List Addr} {S : Sto} {H : Hp} (R : RepS G r S H) {n : Nat} {a : Addr} {kvs : List (D × D)} {es : List Ent} {k z : D} {y v : V} (e : S[n]? = some (.dct kvs)) (ea : r[n]? = some a) (hz : kvs.length < sizeLine) (ev : EntsV G.K r H kvs es) (ok : okKey k = true) (q2 : DV G.K r H k y) (q3 : DV G.K r H z v) :
    Ext G.K r H r (upd H a (.ext (RawD G.w a (eput es k.key y v)))) ∧ RepS G r (S.set n (.dct (dput kvs k z))) (upd H a (.ext (RawD G.w a (eput es k.key y v)))) := by
  obtain ⟨_, sm, nd, _⟩ := R.at_ _ _ _ e ea
  refine R.wr e ea fun x => ⟨?_, sm, nodup_put nd k z, _, upd_same, (ents_put ev ok q2 q3).ext x.w⟩
  have := length_put kvs k z
  omega
theorem prim_set {r : List Addr} {S S' : Sto} {H : Hp} {o i z : D} {x y v : V} {Q : Hp → Prop} (R : RepS G r S H) (q1 : DV G.K r H o x) (q2 : DV G.K r H i y) (q3 : DV G.K r H z v) (h : setP o i z S = some S')
    (k : ∀ r' H', Ext G.K r H r' H' → RepS G r' S' H' → Q H') : rSet1 G x y v H Q := by
  unfold setP at h
  split at h
  · rename_i kvs e
    split at h
    · rename_i ok
      obtain ⟨n, a, rfl, rfl, ea, e1, ov⟩ := dct_at R q1 e
      cases h
      refine .inr ⟨r, S, _, i, z, kvs, R, q1, q2, q3, e, ok.1, fun b es hb he hev => ?_⟩
      cases hb
      obtain ⟨x', R'⟩ := R.dct e1 ea ok.2 hev ok.1 q2 q3
      exact k r _ x' R'
    · cases h
  · split at h
    · split at h
      · rename_i ds e
        split at h
        · rename_i m em
          cases h
          obtain ⟨a, ea, rfl⟩ := dv_loc q1
          obtain ⟨ws, h1, qs⟩ := R.lstAt e ea
          obtain ⟨x', R'⟩ := R.wr (o' := .lst (ds.set m z)) (u := .lst (ws.set m v)) e ea fun x => ⟨_, upd_same, (DVs.ext x _ _ qs).set m (DV.ext x _ _ q3)⟩
          rw [dv_int q2]
          exact .inl ⟨a, ws, _, m, rfl, rfl, h1, by rw [qs.length]; exact em, k r _ x' R'⟩
        · cases h
      · cases h
    · cases h
def gSubM (a b : EM) : GM := fun d env S => match a env S with
  | some (o, S1) => match b env S1 with
    | some (i, S2) => match setP o i d S2 with
      | some S3 => some (env, S3)
      | none => none
    | none => none
  | none => none
theorem dg_sub {k : Nat} {o i : Expr} {ma mb : EM} {pos : Pos} (hr : Room k X.A) (ho : PE X o (liftE (gx X ca) ma)) (hi : PE X i (liftE (gx X ca) mb)) (ha : ∀ v, assign (.Subscript o i pos) X.env v = (do
      let ov ← holding [v] (eval o X.env)
      let iv ← holding [v, ov] (eval i X.env)
      standAt pos
      holding [v, ov, iv] (setItem ov iv v)
      release [v, ov, iv] []) := by intro _; rfl) : PG X (.Subscript o i pos) (liftG (gx X ca) (gSubM ma mb)) :=
  wkG (pg_sub ho hi (set_1 hr) ha) fun v σ H Q ⟨r, env, S, d, env', S', R, W, q, h, k⟩ => by
    unfold gSubM at h
    split at h
    · rename_i x S1 e1
      refine ⟨r, env, S, x, S1, R, W, e1, fun r1 H1 u x1 R1 q1 => ?_⟩
      split at h
      · rename_i y S2 e2
        refine ⟨r1, env, S1, y, S2, R1, W.ext x1, e2, fun r2 H2 w x2 R2 q2 => ?_⟩
        split at h
        · rename_i S3 e3
          cases h
          exact prim_set R2 (DV.ext x2 _ _ q1) q2 (DV.ext (x1.trans x2) _ _ q) e3 fun r3 H3 x3 R3 => k r3 σ H3 (x1.trans (x2.trans x3)) R3 (W.ext (x1.trans (x2.trans x3)))
        · cases h
      · cases h
    · cases h

/-! ### {k: v, ..} -/
abbrev PMs := List (EM × EM)
def evPairs : PMs → Vars → Sto → Option (List (D × D) × Sto)
  | [], _, S => some ([], S)
  | (a, b) :: ps, env, S => match a env S with
    | some (x, S1) => match b env S1 with
      | some (y, S2) => match evPairs ps env S2 with
        | some (r, S3) => some ((x, y) :: r, S3)
        | none => none
      | none => none
    | none => none
def mDisp (ps : PMs) : EM := fun env S => match evPairs ps env S with
  | some (kvs, S1) => if kvs.all (fun p => okKey p.1) = true then some (.loc S1.length, S1 ++ [.dct (kvs.foldl (fun d p => dput d p.1 p.2) [])]) else none
  | none => none
theorem lift_pairs : ∀ (ps : PMs) (r : List Addr) (env : Vars) (S : Sto) (kvs : List (D × D)) (S' : Sto) (σ : L2.St) (H : Hp) (Q : List (V × V) → Hp → Prop), RepS G r S H → VarsV G.K r H env σ → evPairs ps env S = some (kvs, S') →
    (∀ r' H' vs, Ext G.K r H r' H' → RepS G r' S' H' → Paired (fun (p : D × D) (q : V × V) => DV G.K r' H' p.1 q.1 ∧ DV G.K r' H' p.2 q.2) kvs vs → Q vs H') → tPairs (ps.map fun p => (liftE G p.1, liftE G p.2)) σ H Q
  | [], r, env, S, kvs, S', σ, H, Q, R, W, h, k => by
    cases h
    exact k r H [] Ext.refl R .nil
  | (a, b) :: ps, r, env, S, kvs, S', σ, H, Q, R, W, h, k => by
    unfold evPairs at h
    split at h
    · rename_i x S1 e1
      refine ⟨r, env, S, x, S1, R, W, e1, fun r1 H1 v x1 R1 q1 => ?_⟩
      split at h
      · rename_i y S2 e2
        refine ⟨r1, env, S1, y, S2, R1, W.ext x1, e2, fun r2 H2 w x2 R2 q2 => ?_⟩
        split at h
        · rename_i rr S3 e3
          cases h
          refine lift_pairs ps r2 env S2 rr _ σ H2 _ R2 (W.ext (x1.trans x2)) e3 fun r3 H3 vs x3 R3 q3 => ?_
          exact k r3 H3 _ (x1.trans (x2.trans x3)) R3 (.cons ⟨DV.ext (x2.trans x3) _ _ q1, DV.ext x3 _ _ q2⟩ q3)
        · cases h
      · cases h
    · cases h
end
/-- pairs of trees at pairs of values -/
abbrev PrV (K : PySem.W.Frag) (r : List Addr) (H : Hp) : List (D × D) → List (V × V) → Prop := Paired fun (p : D × D) (q : V × V) => DV K r H p.1 q.1 ∧ DV K r H p.2 q.2
theorem PrV.ext {K r H r' H'} (x : ExtW K r H r' H') {l : List (D × D)} {m : List (V × V)} (h : PrV K r H l m) : PrV K r' H' l m := Paired.mapP h fun _ _ q => ⟨DV.extW x _ _ q.1, DV.extW x _ _ q.2⟩
section
variable {X : Cx} {ca : Nat → Addr} {pins : List (Addr × Obj)} {σ : L2.St} {r : List Addr} {a : Addr} {A : Around} {E : Value → Shared → Prop}
theorem dlies_mk {H : Hp} {s : Shared} {kvs : List (D × D)} {es : List Ent} (I : Inv X pins σ H s) (hp : H a = some (.ext (RawD X.w a es))) (sm : (a == sysModules) = false) (sz : kvs.length ≤ sizeLine) (nd : (dkeys kvs).Nodup) (ev : EntsV X.K r H kvs es) : ∃ o ents ep, DLies X r H s a kvs es o ents ep := by
  obtain ⟨⟨o, ents, ep, g1, g2, g3, g4⟩, _⟩ := I.hok a _ hp
  exact ⟨o, ents, ep, hp, sm, sz, nd, ev, g1, g2, g3, g4, ksOf_of I ev g4⟩
theorem extW_raw {H : Hp} {es es' : List Ent} {w : World} {K : PySem.W.Frag} (hp : H a = some (.ext (RawD w a es))) : ExtW K r H r (upd H a (.ext (RawD w a es'))) := ⟨List.prefix_refl _, fun _ _ h => sqT_wr hp (fun _ z => by cases z) (fun _ _ z => by cases z) h, fun _ _ h => scL_wr hp (fun _ _ z => by cases z) h⟩
/-- the pairs stored one after the other -/
def StoreGoal (X : Cx) (pins : List (Addr × Obj)) (σ : L2.St) (r : List Addr) (a : Addr) (acc : List (D × D)) (Q : Shared → Prop) : Prop :=
  ∀ es' H' s', Inv X pins σ H' s' → H' a = some (.ext (RawD X.w a es')) → EntsV X.K r H' acc es' → (dkeys acc).Nodup → Q s'
theorem upd_self {H : Hp} {o : HO} (h : H a = some o) : upd H a o = H := by
  funext b
  unfold upd
  by_cases hb : b = a
  · rw [if_pos hb, hb, h]
  · rw [if_neg hb]
theorem store_pairs (hu : A.units + 8 < cLine) (sm : (a == sysModules) = false) (H0 : Hp) (kvs : List (D × D)) : ∀ (vs : List (V × V)) (us : List (Value × Value)) (acc : List (D × D)) (es : List Ent) (s : Shared) (Q : PUnit → Shared → Prop),
    Inv X pins σ (upd H0 a (.ext (RawD X.w a es))) s → (∃ u, H0 a = some u ∧ (∀ xs, u ≠ .tup xs) ∧ ∀ ob z, u ≠ .frz ob z) → EntsV X.K r H0 acc es → (dkeys acc).Nodup → PrV X.K r H0 kvs vs → VV vs us → kvs.all (fun p => okKey p.1) = true → acc.length + kvs.length ≤ sizeLine →
    (∀ es' s', Inv X pins σ (upd H0 a (.ext (RawD X.w a es'))) s' → EntsV X.K r H0 (kvs.foldl (fun d p => dput d p.1 p.2) acc) es' → (dkeys (kvs.foldl (fun d p => dput d p.1 p.2) acc)).Nodup → Q PUnit.unit s') →
    wpAny (model X.prog X.w) A (forIn us PUnit.unit fun (x : Value × Value) (_ : PUnit) => (do dictSet a x.1 x.2; pure (ForInStep.yield PUnit.unit) : Sem (ForInStep PUnit))) Q E s := by
  induction kvs with
  | nil =>
    intro vs us acc es s Q I hp ev nd hv hw _ _ k
    cases hv
    cases hw
    rw [List.forIn_nil]
    exact wpAny_pure (k es s I ev nd)
  | cons p kvs ih =>
    intro vs us acc es s Q I hp ev nd hv hw ok hz k
    cases hv with
    | @cons _ pv _ vs q qs =>
      cases hw with
      | @cons _ pu _ us u1 us1 =>
        rw [List.all_cons, Bool.and_eq_true] at ok
        rw [List.length_cons] at hz
        obtain ⟨z0, hz0, hz1, hz2⟩ := hp
        have x : ExtW X.K r H0 r (upd H0 a (.ext (RawD X.w a es))) := ⟨List.prefix_refl _, fun _ _ h => sqT_wr hz0 hz1 hz2 h, fun _ _ h => scL_wr hz0 hz2 h⟩
        obtain ⟨o, ents, ep, L⟩ := dlies_mk (r := r) I upd_same sm (by omega) nd (ev.ext x)
        rw [List.forIn_cons]
        refine wpAny_bind (wpAny_bind (dict_put hu I L (kv8_of I (DV.extW x _ _ q.1) u1.1 ok.1) u1.1 u1.2 fun s1 I1 => wpAny_pure ?_))
        rw [upd_upd] at I1
        exact ih _ _ (dput acc p.1 p.2) _ s1 Q I1 ⟨z0, hz0, hz1, hz2⟩ (ents_put ev ok.1 q.1 q.2) (nodup_put nd _ _) qs us1 ok.2 (by have := length_put acc p.1 p.2; omega) k
theorem ext_new {G : Ctx} {H : Hp} {S : Sto} (R : RepS G r S H) (hp : H a = none) : Ext G.K r H r (upd H a (.ext (RawD G.w a []))) ∧ RepS G r S (upd H a (.ext (RawD G.w a []))) := R.side hp
theorem raw_empty {w : World} {h : Heap} : RawD w h.objs.size [] (h.push { cls := .type "dict", data := .dict #[] }) := ⟨_, #[], 0, Heap.get?_push_size _ rfl, ⟨rfl, rfl, rfl⟩, rfl, .nil⟩
/-- a dict in the making is named by the store -/
theorem RepS.regD {G : Ctx} {H : Hp} {S : Sto} (R : RepS G r S H) {es : List Ent} {kvs : List (D × D)} (hp : H a = some (.ext (RawD G.w a es))) (hr : a ∉ r) (sm : (a == sysModules) = false) (hz : kvs.length ≤ sizeLine) (nd : (dkeys kvs).Nodup) (ev : EntsV G.K r H kvs es) : ExtW G.K r H (r ++ [a]) H ∧ RepS G (r ++ [a]) (S ++ [.dct kvs]) H := by
  have x : ExtW G.K r H (r ++ [a]) H := ⟨List.prefix_append _ _, fun _ _ h => h, fun _ _ h => h⟩
  refine ⟨x, by simp [R.len], ?_, fun n o' b e1 e2 => ?_⟩
  · rw [List.nodup_append]
    exact ⟨R.nd, by simp, fun y hy z hz => by simp at hz; subst hz; exact fun q => hr (q ▸ hy)⟩
  · by_cases hn : n < S.length
    · rw [List.getElem?_append_left hn] at e1
      rw [List.getElem?_append_left (by rw [R.len]; exact hn)] at e2
      exact (R.at_ n o' b e1 e2).ext x rfl
    · have hn' : n = S.length := by
        have := (List.getElem?_eq_some_iff.mp e1).1
        simp at this; omega
      subst hn'
      simp at e1
      rw [← R.len] at e2
      simp at e2
      subst e1 e2
      exact ⟨hz, sm, nd, es, hp, ev.ext x⟩
theorem paired_len' {α β : Type} {F : α → β → Prop} {l : List α} {m : List β} (h : Paired F l m) : l.length = m.length := paired_len h
theorem fold_len (kvs : List (D × D)) : ∀ acc : List (D × D), (kvs.foldl (fun d p => dput d p.1 p.2) acc).length ≤ acc.length + kvs.length := by
  induction kvs with
  | nil => intro acc; exact Nat.le_refl _
  | cons p kvs ih =>
    intro acc
    have h1 := ih (dput acc p.1 p.2)
    have h2 := length_put acc p.1 p.2
    rw [List.foldl_cons, List.length_cons]
    omega
theorem de_disp {k : Nat} {keys : List (Option Expr)} {values : List Expr} {ps : PMs} {pos : Pos} (hr : Room k X.A) (h : PPs X pos keys values (ps.map fun p => (liftE (gx X ca) p.1, liftE (gx X ca) p.2))) (hall : keys.all (·.isSome) = true := by rfl) (hl : keys.length = values.length := by rfl) (h0 : keys ≠ [] := by (intro z; cases z))
    (h15 : keys.length ≤ 15 := by decide) : PE X (.Dict keys values pos) (liftE (gx X ca) (mDisp ps)) := by
  refine ⟨fun pins s σ H Q I ⟨r, env, S, d, S', R, W, hm, kq⟩ => ?_⟩
  unfold mDisp at hm
  split at hm
  · rename_i kvs S1 e1
    split at hm
    · rename_i ok
      cases hm
      have hn := I.hok.fresh (Nat.le_refl s.heap.objs.size)
      have hpl := pairTrees_length keys values X.env pos hall hl
      have I1 : Inv X pins σ (upd H s.heap.objs.size (.ext (RawD X.w s.heap.objs.size []))) { s with heap := s.heap.push { cls := .type "dict", data := .dict #[] } } :=
        I.laid (t' := s.toks) (fun _ _ q => Heap.get?_push_of_some _ q) (Nat.le_refl _) raw_empty.ok
      have sm : (s.heap.objs.size == sysModules) = false := (dk_empty (P := X.prog) (w := X.w) (H := H) s.heap I.big).2.1
      obtain ⟨x1, R1⟩ := R.side (u := .ext (RawD X.w s.heap.objs.size [])) hn
      rw [arm_eval_Dict, zip_pairTrees keys values X.env pos hall hl, dictDisplay_pairs _ (by intro z; rw [z] at hpl; exact h0 (List.length_eq_zero_iff.mp hpl.symm)) (by omega)]
      refine wpAny_bind (wpAny_standAt (wpAny_bind ?_))
      unfold subDict
      refine wpAny_bind (wpAny_alloc (wpAny_bind (wpAny_holding ?_)))
      rw [if_pos (by omega)]
      refine wpAny_bind (wpAny_mono (wpAny_evalPairs_len (h.run pins _ σ _ (fun vs H2 => ∃ r2, Ext X.K r H r2 H2 ∧ RepS (gx X ca) r2 S1 H2 ∧ H2 s.heap.objs.size = some (.ext (RawD X.w s.heap.objs.size [])) ∧ s.heap.objs.size ∉ r2 ∧ PrV X.K r2 H2 kvs vs) I1 ?_)) (fun us s2 hq => ?_) fun _ _ e => e)
      · refine lift_pairs ps r env S kvs _ σ _ _ R1 (W.ext x1) e1 fun r2 H2 vs x2 R2 q2 => ?_
        obtain ⟨f1, f2⟩ := x2.frame _ _ upd_same (R.free hn)
        exact ⟨r2, x1.trans x2, R2, f1, f2, q2⟩
      · obtain ⟨hlen, vs, H2, I2, rel, r2, x2, R2, f1, f2, q2⟩ := hq
        have hle := paired_len q2
        have hle2 := paired_len rel
        have sl : (sizeLine : Nat) = 16777216 := sizeLine_eq
        have hk15 : kvs.length ≤ 15 := by omega
        have I2' : Inv X pins σ (upd H2 s.heap.objs.size (.ext (RawD X.w s.heap.objs.size []))) s2 := by rw [upd_self f1]; exact I2
        refine wpAny_holding (wpAny_bind (store_pairs (r := r2) (by have := hr.un; omega) sm H2 kvs vs us [] [] s2 _ I2' ⟨_, f1, (fun _ z => by cases z), (fun _ _ z => by cases z)⟩ .nil List.nodup_nil q2 rel ok (by simp; omega) fun es' s' I' ev0 nd' => wpAny_pure (wpAny_pure (wpAny_pure ?_))))
        have ev' := ev0.ext (extW_raw (r := r2) (K := X.K) (es' := es') f1)
        have y := extW_raw (r := r2) (K := X.K) (es' := es') f1
        have R3 : RepS (gx X ca) r2 S1 (upd H2 s.heap.objs.size (.ext (RawD X.w s.heap.objs.size es'))) :=
          ⟨R2.len, R2.nd, fun n o b z1 z2 => (R2.at_ n o b z1 z2).ext y (upd_ne (by rintro rfl; exact f2 (List.mem_of_getElem? z2)))⟩
        have hfl := fold_len kvs []
        obtain ⟨y2, R4⟩ := R3.regD upd_same f2 sm (by simp at hfl; omega) nd' ev'
        refine ⟨.ref s.heap.objs.size, _, I', rfl, kq (r2 ++ [s.heap.objs.size]) _ _ ⟨x2.pre.trans y2.pre, fun b us hb => y2.tups _ _ (y.tups _ _ (x2.tups _ _ hb)), fun b us hb => y2.scrs _ _ (y.scrs _ _ (x2.scrs _ _ hb)), fun b z hb hn2 => ?_⟩ R4 R3.newLoc⟩
        obtain ⟨z1, z2⟩ := x2.frame b z hb hn2
        have hne := ne_of_none hb hn
        exact ⟨by rw [upd_ne hne]; exact z1, by simp [z2, hne]⟩
    · cases hm
  · cases hm
theorem de_dnew {k : Nat} {pos : Pos} : PE X (.Dict [] [] pos) (liftE (gx X ca) (fun _ S => some (.loc S.length, S ++ [.dct []]))) := by
  refine ⟨fun pins s σ H Q I ⟨r, env, S, d, S', R, W, hm, kq⟩ => ?_⟩
  cases hm
  have hn := I.hok.fresh (Nat.le_refl s.heap.objs.size)
  have I1 : Inv X pins σ (upd H s.heap.objs.size (.ext (RawD X.w s.heap.objs.size []))) { s with heap := s.heap.push { cls := .type "dict", data := .dict #[] } } :=
    I.laid (t' := s.toks) (fun _ _ q => Heap.get?_push_of_some _ q) (Nat.le_refl _) raw_empty.ok
  have sm : (s.heap.objs.size == sysModules) = false := (dk_empty (P := X.prog) (w := X.w) (H := H) s.heap I.big).2.1
  obtain ⟨x1, R1⟩ := R.new (u := .ext (RawD X.w s.heap.objs.size [])) (o := .dct []) hn fun x => ⟨Nat.zero_le _, sm, List.nodup_nil, [], upd_same, .nil⟩
  exact wpAny_Dict_empty ⟨.ref s.heap.objs.size, _, I1, rfl, kq _ _ _ x1 R1 R.newLoc⟩
end
end DL
/-! DLj: star items, name op= e, chains of comparisons. -/
namespace DL
open PySem PySem.Spec L2
open PyProof.Rows hiding St

def lStar (a : EM) (l : LM) : LM := fun env S => match a env S with
  | some (d, S1) => match seqD S1 d with
    | some ds => match l env S1 with
      | some (es, S2) => some (ds ++ es, S2)
      | none => none
    | none => none
  | none => none
section
variable {X : Cx} {ca : Nat → Addr} {e a b c : Expr} {es : List Expr} {ma mb mc : EM} {la : LM} {p pos : Pos}
theorem la_star (he : PE X e (liftE (gx X ca) ma)) (hr : PA X es (liftL (gx X ca) la)) (hs : starEach (.Starred e p :: es) X.env = (true, eval e X.env) :: starEach es X.env := by rfl) : PA X (.Starred e p :: es) (liftL (gx X ca) (lStar ma la)) :=
  wkA (StX.pa_star he hr hs) fun σ H Q ⟨r, env, S, ds, S', R, W, h, k⟩ => by
    unfold lStar at h
    split at h
    · rename_i d S1 e1
      split at h
      · rename_i ds1 e2
        split at h
        · rename_i es1 S2 e3
          cases h
          refine ⟨r, env, S, d, S1, R, W, e1, fun r1 H1 v x1 R1 q1 => ?_⟩
          obtain ⟨ad, vs, rfl, h2, h3⟩ := seq_cases R1 q1 e2
          refine ⟨ad, vs, rfl, ?_, r1, env, S1, es1, _, R1, W.ext x1, e3, fun r2 H2 us x2 R2 q2 => ?_⟩
          · rcases h3 with ⟨_, z⟩ | ⟨_, _, _, z⟩
            · exact .inl z
            · exact .inr z
          · exact k r2 H2 _ (x1.trans x2) R2 ((DVs.ext x2 _ _ h2).append q2)
        · cases h
      · cases h
    · cases h
/-- name op= e -/
def sAug (i : Nat) (p : D → D → Sto → Option (D × Sto)) (m : EM) : SM := fun env S => match env[i]? with
  | some (some x) => match m env S with
    | some (y, S1) => match p x y S1 with
      | some (z, S2) => some (.nx, env.set i (some z), S2)
      | none => none
    | none => none
  | _ => none
theorem ds_aug {i : Nat} {x : Str} {op : Operator} {t : R2} {q : D → D → Sto → Option (D × Sto)} {pos' : Pos} (hN : X.N.Nodup) (ho : OpR X (inplaceOp op) t) (hp : Prim2 (gx X ca) t q) (he : PE X e (liftE (gx X ca) ma)) (hi : X.N[i]? = some x := by rfl) (hx : Loc X.env.scope x := by first | exact Or.inl rfl | exact Or.inr rfl) (hf : X.fn x = true ∨ X.env.scope.names.lookup x = some .local := by first | exact .inl rfl | exact .inr rfl | assumption) :
    PS X (.AugAssign (.Name x pos') op e pos) (liftS (gx X ca) (sAug i q ma)) :=
  wkS (ps_aug hN hi hx he (ti := t) (fun pins s σ H x y v u Q I r1 r2 h => ho pins s σ H x y v u Q I r1 r2 h) hf) fun E σ H ⟨r, env, S, fl, env', S', R, W, h, k⟩ => by
    unfold sAug at h
    split at h
    · rename_i x e0
      split at h
      · rename_i y S1 e1
        split at h
        · rename_i z S2 e2
          cases h
          obtain ⟨v, ev, qv⟩ := W.at_ i x e0
          refine ⟨v, ev, r, env, S, y, S1, R, W, e1, fun r1 H1 w x1 R1 q1 => ?_⟩
          exact hp r1 S1 H1 x y v w z _ _ R1 (DV.ext x1 _ _ qv) q1 e2 fun r2 H2 u x2 R2 q2 => k r2 _ H2 (x1.trans x2) R2 ((W.ext (x1.trans x2)).set i q2)
        · cases h
      · cases h
    · cases h
/-- a < b < c -/
theorem lift_chain {G : Ctx} {t t' : R2} {p q : D → D → Sto → Option (D × Sto)} (hp : Prim2 G t p) (hq : Prim2 G t' q) {σ : L2.St} {H : Hp} {Q : VK} (h : liftE G (mChain p q ma mb mc) σ H Q) :
    liftE G ma σ H fun x H1 => liftE G mb σ H1 fun y H2 => t x y H2 fun z H3 => ∃ k, z = .bl k ∧ if k = true then liftE G mc σ H3 fun w H4 => t' y w H4 Q else Q (.bl false) H3 := by
  obtain ⟨r, env, S, d, S', R, W, h, k⟩ := h
  unfold mChain at h
  split at h
  · rename_i x S1 e1
    refine ⟨r, env, S, x, S1, R, W, e1, fun r1 H1 v x1 R1 q1 => ?_⟩
    split at h
    · rename_i y S2 e2
      refine ⟨r1, env, S1, y, S2, R1, W.ext x1, e2, fun r2 H2 w x2 R2 q2 => ?_⟩
      split at h
      · rename_i S3 e3
        refine hp r2 S2 H2 x y v w _ S3 _ R2 (DV.ext x2 _ _ q1) q2 e3 fun r3 H3 u x3 R3 q3 => ⟨true, dv_bl q3, iteT ?_⟩
        split at h
        · rename_i z S4 e4
          refine ⟨r3, env, S3, z, S4, R3, W.ext (x1.trans (x2.trans x3)), e4, fun r4 H4 u4 x4 R4 q4 => ?_⟩
          exact hq r4 S4 H4 y z w u4 d S' Q R4 (DV.ext (x3.trans x4) _ _ q2) q4 h fun r5 H5 u5 x5 R5 q5 => k r5 H5 u5 (x1.trans (x2.trans (x3.trans (x4.trans x5)))) R5 q5
        · cases h
      · rename_i S3 e3
        cases h
        refine hp r2 S2 H2 x y v w _ _ _ R2 (DV.ext x2 _ _ q1) q2 e3 fun r3 H3 u x3 R3 q3 => ⟨false, dv_bl q3, iteF ?_⟩
        exact k r3 H3 _ (x1.trans (x2.trans x3)) R3 mk_bl
      · cases h
    · cases h
  · cases h
end
/-- a statement of the program's top, by its place -/
def topOf (p : Program) (i : Nat) : Stmt := p.main.body.getD i (.Pass ⟨0, 0, 0, 0⟩)
end DL
/-! DLk: chains, the defs of a text all at once. -/
namespace DL
open PySem PySem.Spec L2
open PyProof.Rows hiding St

section
variable {X : Cx} {ca : Nat → Addr} {a b c : Expr} {ma mb mc : EM} {pos : Pos}
theorem de_chain {op op' : CmpOp} {t t' : R2} {p q : D → D → Sto → Option (D × Sto)} (ho : OpR X (compareOp op) t) (hp : Prim2 (gx X ca) t p) (ho' : OpR X (compareOp op') t') (hq : Prim2 (gx X ca) t' q) (ha : PE X a (liftE (gx X ca) ma)) (hb : PE X b (liftE (gx X ca) mb)) (hc : PE X c (liftE (gx X ca) mc))
    (hm : lastMarks [op, op'] [b, c] = false := by with_unfolding_all rfl) : PE X (.Compare a [op, op'] [b, c] pos) (liftE (gx X ca) (mChain p q ma mb mc)) :=
  wkE (pe_chain ho ho' ha hb hc hm) fun _ _ _ h => lift_chain hp hq h
theorem dt_chain {op op' : CmpOp} {t t' : R2} {p q : D → D → Sto → Option (D × Sto)} (ho : OpR X (compareOp op) t) (hp : Prim2 (gx X ca) t p) (ho' : OpR X (compareOp op') t') (hq : Prim2 (gx X ca) t' q) (ha : PE X a (liftE (gx X ca) ma)) (hb : PE X b (liftE (gx X ca) mb)) (hc : PE X c (liftE (gx X ca) mc))
    (hm : lastMarks [op, op'] [b, c] = false := by with_unfolding_all rfl) : PT X (.Compare a [op, op'] [b, c] pos) (liftB (gx X ca) (bV (mChain p q ma mb mc))) :=
  wkT (pt_chain ho ho' ha hb hc hm) fun σ H Q h => by
    have h1 := liftV h
    exact lift_chain hp hq h1
end
def mDNew : EM := fun _ S => some (.loc S.length, S ++ [.dct []])

/-! ### the defs of a text -/
structure TxD (n : Nat) (nmN : Nat → Str) (psN : Nat → List Str) (stN : Nat → Stmt) (blts : List Str) (K : PySem.W.Frag) (mg : Str → Option Value) (a : Nat → Addr) (fd : Nat → FuncData) : Prop where
  fn : ∀ g (_ : g < n := by decide), mg (nmN g) = some (.ref (a g))
  fu : ∀ g (_ : g < n := by decide), Fun K (nmN g) (nmN g) (stN g) (a g) (fd g)
  kp : ∀ g (_ : g < n := by decide), PySem.W.keepIn K (.ref (a g)) = true
  bn : ∀ g (_ : g < n := by decide), Binds K (fd g) (psN g) []
  no : ∀ x (_ : x ∈ blts), mg x = none
/-- each def at a level -/
structure AllF (P : Program) (w : World) (K : PySem.W.Frag) (mg : Str → Option Value) (base : Heap) (ca : Nat → Addr) (psN : Nat → List Str) (a : Nat → Addr) (fd : Nat → FuncData) (k : Nat) (cl : Nat → FM) : Prop where
  F : ∀ g, FnOk P w K mg base CX0 k (a g) (fd g) (psN g) (spD ⟨K, w, ca⟩ (psN g).length (cl g))
/-- .. two levels below -/
structure AllF2 (P : Program) (w : World) (K : PySem.W.Frag) (mg : Str → Option Value) (base : Heap) (ca : Nat → Addr) (psN : Nat → List Str) (a : Nat → Addr) (fd : Nat → FuncData) (k : Nat) (cl : Nat → FM) : Prop where
  F : ∀ g, FnOk P w K mg base CX0 (k - 2) (a g) (fd g) (psN g) (spD ⟨K, w, ca⟩ (psN g).length (cl g))
  z : k < 2 → ∀ g ds S, cl g ds S = none
/-- what the defs answer, to a depth of calls; what a key or a method of a kit call calls lies two deeper -/
noncomputable def callsOf (bd : (Nat → FM) → (Nat → FM) → Nat → FM) : Nat → Nat → FM
  | 0 => fun _ _ _ => none
  | 1 => bd (callsOf bd 0) (callsOf bd 0)
  | 2 => bd (callsOf bd 1) (callsOf bd 0)
  | k + 3 => bd (callsOf bd (k + 2)) (callsOf bd k)
theorem allF {P : Program} {w : World} {K : PySem.W.Frag} {mg : Str → Option Value} {base : Heap} {ca : Nat → Addr} {psN : Nat → List Str} {a : Nat → Addr} {fd : Nat → FuncData} {bd : (Nat → FM) → (Nat → FM) → Nat → FM}
    (B : ∀ (k : Nat) (cl cl2 : Nat → FM), AllF P w K mg base ca psN a fd k cl → AllF2 P w K mg base ca psN a fd k cl2 → AllF P w K mg base ca psN a fd (k + 1) (bd cl cl2)) : ∀ k, AllF P w K mg base ca psN a fd k (callsOf bd k)
  | 0 => ⟨fun g => fn_zero fun _ _ => by unfold callsOf; rfl⟩
  | 1 => by unfold callsOf; exact B 0 _ _ (allF B 0) ⟨(allF B 0).F, fun _ g ds S => by unfold callsOf; rfl⟩
  | 2 => by unfold callsOf; exact B 1 _ _ (allF B 1) ⟨(allF B 0).F, fun _ g ds S => by unfold callsOf; rfl⟩
  | k + 3 => by unfold callsOf; exact B (k + 2) _ _ (allF B (k + 2)) ⟨(allF B k).F, fun z => absurd z (by omega)⟩
/-- nothing is promised of a number that is no def -/
theorem fn_no {P : Program} {w : World} {K : PySem.W.Frag} {mg : Str → Option Value} {base : Heap} {k : Nat} {f : Addr} {fd : FuncData} {ps : List Str} {G : Ctx} {n : Nat} (hn : n = ps.length) : FnOk P w K mg base CX0 k f fd ps (spD G n fun _ _ => none) := by
  subst hn
  exact ⟨fun vs H Q E ⟨r, S, ds, d, S', R, q, hl, e, _⟩ => (by cases e), fun A outer s H args us vs Q E hr e0 hb r ⟨_, S, ds, d, S', R, q, hl, e, _⟩ => by cases e⟩
/-- the law's call, from the answer -/
theorem sp_law {G : Ctx} {m : FM} {n : Nat} (hm : ∀ ns : List Int, ns.length ≤ n → ∃ S', m [.scr ns] [] = some (.bl true, S')) (H : Hp) (a : Addr) (ns : List Int) (hl : ns.length ≤ n) (ho : Only H) (hS : SqL G.K H a (ns.map V.int)) :
    spD G 1 m [.ref a] H (fun v _ => v = .bl true) fun _ _ _ => False := by
  obtain ⟨S', e⟩ := hm ns hl
  refine ⟨[], [], [.scr ns], .bl true, S', ⟨rfl, List.nodup_nil, fun n o a h => by simp at h⟩, DVs.cons ?_ DVs.nil, rfl, e, fun r' H' v _ _ q => dv_bl q⟩
  unfold DV
  refine ⟨a, rfl, ?_⟩
  rcases hS with (h | h) | h
  · rcases ho a with z | ⟨o, xs, z⟩ <;> rw [h] at z <;> cases z
  · exact .inl h
  · exact .inr h
end DL
/-! DLm: sorting data by data, the keys compared place by place. -/
namespace DL
open PySem PySem.Spec L2
open PyProof.Rows hiding St
open PySem.W (keyToks keyToksAll dataLt EachIs dataKind)

/-! ### the order -/
def tokLt (x y : D) : Bool := PyProof.Rows.lexLt itemOrd (keyToks x.py) (keyToks y.py)
def leT (x y : D) : Bool := !tokLt y x
mutual
theorem toks_eqv : ∀ (x y : PyData), PyData.eqv x y = true → keyToks x = keyToks y
  | .none, y, h => by cases y <;> first | rfl | (simp [PyData.eqv] at h)
  | .bool a, y, h => by
    cases y with
    | bool b => have e : a = b := by simpa [PyData.eqv] using h
                rw [e]
    | int j => have e : (if a then 1 else 0) = j := by simpa [PyData.eqv] using h
               simp only [keyToks, ← e]
    | _ => simp [PyData.eqv] at h
  | .int i, y, h => by
    cases y with
    | bool b => have e : i = (if b then 1 else 0) := by simpa [PyData.eqv] using h
                simp only [keyToks, e]
    | int j => have e : i = j := by simpa [PyData.eqv] using h
               rw [e]
    | _ => simp [PyData.eqv] at h
  | .str x, y, h => by
    cases y with
    | str j => have e : x = j := by simpa [PyData.eqv] using h
               rw [e]
    | _ => simp [PyData.eqv] at h
  | .list xs, y, h => by
    cases y with
    | list ys => simp only [keyToks]; exact toks_eqvAll xs ys (by simpa [PyData.eqv] using h)
    | _ => simp [PyData.eqv] at h
  | .tuple xs, y, h => by
    cases y with
    | tuple ys => simp only [keyToks]; exact toks_eqvAll xs ys (by simpa [PyData.eqv] using h)
    | _ => simp [PyData.eqv] at h
  | .dict _, y, h => by cases y <;> simp [PyData.eqv] at h
theorem toks_eqvAll : ∀ (xs ys : List PyData), PyData.eqvAll xs ys = true → keyToksAll xs = keyToksAll ys
  | [], [], _ => rfl
  | [], _ :: _, h => by simp [PyData.eqvAll] at h
  | _ :: _, [], h => by simp [PyData.eqvAll] at h
  | x :: xs, y :: ys, h => by
    simp only [PyData.eqvAll, Bool.and_eq_true] at h
    simp only [keyToksAll]
    rw [toks_eqv x y h.1, toks_eqvAll xs ys h.2]
end
mutual
/-- where < is told and the two differ, the tokens tell it, whatever follows -/
theorem toks_ltD : ∀ (x y : D) (c : Bool), ltD x y = some c → PyData.eqv x.py y.py = false → ∀ l m, PyProof.Rows.lexLt itemOrd (keyToks x.py ++ l) (keyToks y.py ++ m) = c
  | .int i, y, c, h, hq, l, m => by
    cases y with
    | int j =>
      simp only [ltD, Option.some.injEq] at h
      subst h
      have hne : i ≠ j := fun e => by subst e; simp [D.py, PyData.eqv] at hq
      simp only [D.py, keyToks, List.cons_append, List.nil_append]
      rw [PyProof.Rows.lex_diff (O := itemOrd) (fun e => hne (Sum.inl.inj e))]
      rfl
    | _ => cases h
  | .str i, y, c, h, hq, l, m => by
    cases y with
    | str j =>
      simp only [ltD, Option.some.injEq] at h
      subst h
      have hne : i ≠ j := fun e => by subst e; simp [D.py, PyData.eqv] at hq
      simp only [D.py, keyToks, List.cons_append, List.nil_append]
      rw [PyProof.Rows.lex_diff (O := itemOrd) (fun e => hne (PySem.W.str_of_cps (Sum.inr.inj e)))]
      rfl
    | _ => cases h
  | .tup xs, y, c, h, hq, l, m => by
    cases y with
    | tup ys =>
      simp only [D.py, keyToks]
      exact toks_ltDs xs ys c (by simpa [ltD] using h) (by simpa [D.py, PyData.eqv] using hq) l m
    | _ => cases h
  | .non, y, _, h, _, _, _ => by cases y <;> cases h
  | .bl _, y, _, h, _, _, _ => by cases y <;> cases h
  | .loc _, y, _, h, _, _, _ => by cases y <;> cases h
  | .scr _, y, _, h, _, _, _ => by cases y <;> cases h
theorem toks_ltDs : ∀ (xs ys : List D) (c : Bool), ltDs xs ys = some c → PyData.eqvAll (D.pys xs) (D.pys ys) = false → ∀ l m, PyProof.Rows.lexLt itemOrd (keyToksAll (D.pys xs) ++ l) (keyToksAll (D.pys ys) ++ m) = c
  | [], [], c, h, hq, l, m => by simp [D.pys, PyData.eqvAll] at hq
  | [], y :: ys, c, h, hq, l, m => by
    simp only [ltDs, Option.some.injEq] at h
    subst h
    simp only [D.pys, keyToksAll, List.cons_append, List.nil_append]
    rw [PyProof.Rows.lex_diff (O := itemOrd) (by simp)]
    rfl
  | x :: xs, [], c, h, hq, l, m => by
    simp only [ltDs, Option.some.injEq] at h
    subst h
    simp only [D.pys, keyToksAll, List.cons_append, List.nil_append]
    rw [PyProof.Rows.lex_diff (O := itemOrd) (by simp)]
    rfl
  | x :: xs, y :: ys, c, h, hq, l, m => by
    simp only [ltDs] at h
    simp only [D.pys, keyToksAll, List.cons_append, List.append_assoc]
    rw [PyProof.Rows.lex_self]
    split at h
    · rename_i he
      rw [toks_eqv _ _ he, PySem.W.lex_pre]
      exact toks_ltDs xs ys c h (by simpa [D.pys, PyData.eqvAll, he] using hq) l m
    · rename_i he
      rw [Bool.not_eq_true] at he
      exact toks_ltD x y c h he _ _
end
theorem ltD_eqv : ∀ (x y : D) (c : Bool), ltD x y = some c → PyData.eqv x.py y.py = true → c = false := by
  have go : ∀ (xs ys : List D) (c : Bool), ltDs xs ys = some c → PyData.eqvAll (D.pys xs) (D.pys ys) = true → c = false := by
    intro xs
    induction xs with
    | nil =>
      intro ys c h hq
      cases ys with
      | nil => simp [ltDs] at h; exact h
      | cons y ys => simp [D.pys, PyData.eqvAll] at hq
    | cons x xs ih =>
      intro ys c h hq
      cases ys with
      | nil => simp [D.pys, PyData.eqvAll] at hq
      | cons y ys =>
        simp only [D.pys, PyData.eqvAll, Bool.and_eq_true] at hq
        simp only [ltDs, hq.1, if_true] at h
        exact ih ys c h hq.2
  intro x y c h hq
  cases x with
  | int i =>
    cases y with
    | int j =>
      simp only [ltD, Option.some.injEq] at h
      have : i = j := by simpa [D.py, PyData.eqv] using hq
      subst this
      simpa using h.symm
    | _ => cases h
  | str i =>
    cases y with
    | str j =>
      simp only [ltD, Option.some.injEq] at h
      have : i = j := by simpa [D.py, PyData.eqv] using hq
      subst this
      rw [← h]
      simp [List.lt_irrefl]
    | _ => cases h
  | tup xs =>
    cases y with
    | tup ys => exact go xs ys c (by simpa [ltD] using h) (by simpa [D.py, PyData.eqv] using hq)
    | _ => cases h
  | _ => cases y <;> cases h
/-- where < is told, the tokens tell it -/
theorem tokLt_of {x y : D} {c : Bool} (h : ltD x y = some c) : tokLt x y = c := by
  unfold tokLt
  cases hq : PyData.eqv x.py y.py with
  | true =>
    rw [toks_eqv _ _ hq, PyProof.Rows.lex_irrefl]
    exact (ltD_eqv x y c h hq).symm
  | false =>
    have := toks_ltD x y c h hq [] []
    simpa using this
theorem tokLts_of {xs ys : List D} {c : Bool} (h : ltDs xs ys = some c) : PyProof.Rows.lexLt itemOrd (keyToksAll (D.pys xs)) (keyToksAll (D.pys ys)) = c := by
  have := tokLt_of (x := .tup xs) (y := .tup ys) (c := c) (by simpa [ltD] using h)
  simpa [tokLt, D.py, keyToks] using this

/-! ### keys that can be sorted -/
/-- which keys go together -/
def kTy : D → Option Nat
  | .int _ => some 0
  | .str _ => some 1
  | .tup (.int _ :: _) => some 2
  | .tup (.str _ :: _) => some 3
  | .tup (.tup _ :: _) => some 4
  | _ => none
def sortOk (ks : List D) : Bool := ks.all (fun a => a.pure && SeqAt.shaped a.py && (kTy a).isSome && ks.all fun b => (ltD a b).isSome && decide (kTy a = kTy b))
theorem sortOk_at {ks : List D} (h : sortOk ks = true) {a : D} (ha : a ∈ ks) : a.pure = true ∧ SeqAt.shaped a.py = true ∧ (kTy a).isSome = true ∧ ∀ b ∈ ks, (∃ c, ltD a b = some c) ∧ kTy a = kTy b := by
  unfold sortOk at h
  have := List.all_eq_true.mp h a ha
  simp only [Bool.and_eq_true, List.all_eq_true, decide_eq_true_eq] at this
  obtain ⟨⟨⟨h1, h2⟩, h3⟩, h4⟩ := this
  exact ⟨h1, h2, h3, fun b hb => ⟨Option.isSome_iff_exists.mp (h4 b hb).1, (h4 b hb).2⟩⟩
/-- the items by their keys, in the order of the keys, alike ones as they stood -/
def sortD (ks xs : List D) : List D := ((ks.zip xs).mergeSort fun p q => leT p.1 q.1).map (·.2)

section
open PySem.W
variable {prog : Program} {w : World} {A : Around} {s : Shared}
theorem kind_some {h : Heap} {ds : List PyData} (hc : ∀ d ∈ ds, d.canLay0 = true) {v : Value} {d : PyData} {as : List Addr} (hd : d ∈ ds) (r : Reads h v d as) : (dataKind h ds).keyOf v = some (keyToks d) := by
  have q : ∃ d, d ∈ ds ∧ ∃ as, Reads h v d as := ⟨d, hd, as, r⟩
  have e : (dataKind h ds).keyOf v = some (keyToks q.choose) := dif_pos q
  obtain ⟨h1, as', h2⟩ := q.choose_spec
  rw [e, ← SeqAt.readOf_eq (hc _ h1) h2, SeqAt.readOf_eq (hc _ hd) r]
/-- the places of two tuples, one after the other -/
theorem katLex_of {b fin : Bool} {Q : Bool → Shared → Prop} {c : Bool} : ∀ (xs ys : List D) (i : Nat) (vs ws : List Value) (as bs : List Addr), ReadsAll s.heap vs (D.pys xs) as → ReadsAll s.heap ws (D.pys ys) bs → PyData.canLayAll0 (D.pys xs) = true → PyData.canLayAll0 (D.pys ys) = true →
    A.units + min (PyData.depthAll (D.pys xs)) (PyData.depthAll (D.pys ys)) < cLine → ltDs xs ys = some c → (b = true → i = 0 → ∀ x r y t, xs = x :: r → ys = y :: t → ∀ (p q : Value) (ap aq : List Addr), Reads s.heap p x.py ap → Reads s.heap q y.py aq → ∀ c', ltD x y = some c' → ∀ (Q' : Bool → Shared → Prop) (E : Value → Shared → Prop), Q' c' s → wpAny (model prog w) A (oneLt' true p q) Q' E s) →
    fin = decide (xs.length < ys.length) → Q c s → KatLex prog w A b fin Q (vs.zip ws) i s
  | [], ys, i, _, _, _, _, ra, rb, _, _, _, h, _, hf, hq => by
    simp only [D.pys] at ra
    cases ra
    rw [List.zip_nil_left]
    refine kat_nil ?_
    cases ys with
    | nil => simp only [ltDs, Option.some.injEq] at h; subst h; rw [hf]; exact hq
    | cons y ys => simp only [ltDs, Option.some.injEq] at h; subst h; rw [hf]; simpa using hq
  | x :: xs, [], i, _, _, _, _, ra, rb, _, _, _, h, _, hf, hq => by
    simp only [D.pys] at rb
    cases rb
    rw [List.zip_nil_right]
    refine kat_nil ?_
    simp only [ltDs, Option.some.injEq] at h; subst h; rw [hf]; simpa using hq
  | x :: xs, y :: ys, i, _, _, _, _, ra, rb, la, lb, hu, h, hb, hf, hq => by
    simp only [D.pys] at ra rb la lb hu
    cases ra with
    | cons r rs =>
      cases rb with
      | cons r' rs' =>
        simp only [PyData.canLayAll0, Bool.and_eq_true] at la lb
        simp only [PyData.depthAll] at hu
        rw [List.zip_cons_cons]
        have hf' : fin = decide (xs.length < ys.length) := by
          rw [hf]
          simp only [List.length_cons, Nat.add_lt_add_iff_right]
        refine kat_cons (SeqAt.eqAt_reads x.py y.py A s _ _ _ _ r r' la.1 lb.1 (by omega) prog w _ _ ?_)
        simp only [ltDs] at h
        split at h
        · rename_i hx
          rw [hx]
          exact kat_yes (katLex_of xs ys (i + 1) _ _ _ _ rs rs' la.2 lb.2 (by omega) h (fun _ z => absurd z (Nat.succ_ne_zero i)) hf' hq)
        · rename_i hx
          rw [Bool.not_eq_true] at hx
          rw [hx]
          refine kat_no ?_
          cases hbi : (b && i == 0) with
          | true =>
            rw [Bool.and_eq_true] at hbi
            exact hb hbi.1 (by simpa using hbi.2) x xs y ys rfl rfl _ _ _ _ r r' c h Q _ hq
          | false =>
            rw [oneLt'_eq]
            simp only [Bool.false_eq_true, if_false]
            exact wpAny_bind (rcLt_of x y c A s _ _ _ _ r r' la.1 lb.1 h (by omega) prog w _ _ (wpAny_truthy_bool hq))
/-- ints, texts as sorting compares them -/
theorem oneLt_flat {x y : D} {p q : Value} {ap aq : List Addr} {c : Bool} (hx : kTy x = some 0 ∨ kTy x = some 1) (rx : Reads s.heap p x.py ap) (ry : Reads s.heap q y.py aq) (h : ltD x y = some c) {Q : Bool → Shared → Prop} {E : Value → Shared → Prop} (hq : Q c s) : wpAny (model prog w) A (oneLt' true p q) Q E s := by
  cases x with
  | int i =>
    cases y with
    | int j =>
      simp only [ltD, Option.some.injEq] at h
      subst h
      simp only [D.py] at rx ry
      cases rx
      cases ry
      exact oneLt_int hq
    | _ => cases h
  | str i =>
    cases y with
    | str j =>
      simp only [ltD, Option.some.injEq] at h
      subst h
      simp only [D.py] at rx ry
      cases rx
      cases ry
      exact oneLt_str hq
    | _ => cases h
  | tup xs =>
    exfalso
    rcases xs with _ | ⟨x, r⟩
    · rcases hx with z | z <;> cases z
    · cases x <;> (rcases hx with z | z <;> cases z)
  | _ => rcases hx with z | z <;> cases z
end
end DL
/-! DLn: the keys in the heap can be sorted; the loop that makes them. -/
namespace DL
open PySem PySem.Spec L2
open PyProof.Rows hiding St
open PySem.W (keyToks keyToksAll dataLt EachIs dataKind)

theorem kTy_cases {a : D} {t : Nat} (h : kTy a = some t) : (t = 0 ∧ ∃ i, a = .int i) ∨ (t = 1 ∧ ∃ x, a = .str x) ∨ ∃ x r, a = .tup (x :: r) ∧ ((t = 2 ∧ ∃ i, x = .int i) ∨ (t = 3 ∧ ∃ y, x = .str y) ∨ (t = 4 ∧ ∃ ys, x = .tup ys)) := by
  cases a with
  | int i => cases h; exact .inl ⟨rfl, i, rfl⟩
  | str i => cases h; exact .inr (.inl ⟨rfl, i, rfl⟩)
  | tup xs =>
    rcases xs with _ | ⟨x, r⟩
    · cases h
    · refine .inr (.inr ⟨x, r, rfl, ?_⟩)
      cases x with
      | int i => cases h; exact .inl ⟨rfl, i, rfl⟩
      | str i => cases h; exact .inr (.inl ⟨rfl, i, rfl⟩)
      | tup ys => cases h; exact .inr (.inr ⟨rfl, ys, rfl⟩)
      | _ => cases h
  | _ => cases h
section
open PySem.W
variable {prog : Program} {w : World} {A : Around} {s : Shared}
theorem each_py {ks : List D} {vs : List Value} {R : Value → PyData → Prop} (e : EachIs (fun v d => R v d.py) vs ks) : EachIs R vs (ks.map D.py) := by
  induction e with
  | nil => exact .nil
  | cons h _ ih => exact .cons h ih
theorem sortsAt_of {ks : List D} {vs : List Value} (ok : sortOk ks = true) (e : EachIs (fun v (d : D) => ∃ as, Reads s.heap v d.py as) vs ks) (hu : A.units + 66 < cLine) : SortsAt prog w A s (dataKind s.heap (ks.map D.py)) vs := by
  have hc : ∀ d ∈ ks.map D.py, d.canLay0 = true := fun d hd => by
    obtain ⟨k, hk, rfl⟩ := List.mem_map.mp hd
    exact SeqAt.canLay_of_shaped (sortOk_at ok hk).2.1
  have inv : ∀ {v : Value} {a : List (Int ⊕ List Nat)}, (dataKind s.heap (ks.map D.py)).keyOf v = some a → ∃ k as, k ∈ ks ∧ Reads s.heap v k.py as ∧ a = keyToks k.py := fun {v a} h => by
    obtain ⟨d, as, hd, r, rfl⟩ := dataKind_inv h
    obtain ⟨k, hk, rfl⟩ := List.mem_map.mp hd
    exact ⟨k, as, hk, r, rfl⟩
  refine ⟨fun v hv => ?_, ?_⟩
  · obtain ⟨d, hd, as, r⟩ := e.left v hv
    exact ⟨_, kind_some hc (List.mem_map_of_mem hd) r⟩
  · cases ks with
    | nil =>
      cases e
      exact ⟨general', fun E x y a b Q ha _ _ => (by
        obtain ⟨d, _, hd, _⟩ := inv ha
        cases hd), fun h2 => absurd h2 (by simp)⟩
    | cons k0 kr =>
      obtain ⟨_, _, h3, _⟩ := sortOk_at ok (List.mem_cons_self (a := k0) (l := kr))
      obtain ⟨t, ht⟩ := Option.isSome_iff_exists.mp h3
      have all : ∀ k ∈ k0 :: kr, kTy k = some t := fun k hk => by
        rw [← ((sortOk_at ok List.mem_cons_self).2.2.2 k hk).2]
        exact ht
      have flat : (t = 0 ∨ t = 1) → ∀ (T : PyData → Prop), ∃ kd : SortKind, H.LtAt prog w A s (dataKind s.heap ((k0 :: kr).map D.py)) kd ∧ (2 ≤ vs.length → ∀ (E : Value → Shared → Prop) {Q : SortKind → Shared → Prop}, Q kd s → wpAny (model prog w) A (keyKind' vs.toArray) Q E s) := by
        intro h01 _
        refine ⟨oneType', ?_, fun h2 E Q hq => ?_⟩
        · intro E x y a b Q ha hb hq
          obtain ⟨d, as, hd, ra, rfl⟩ := inv ha
          obtain ⟨d', as', hd', rb, rfl⟩ := inv hb
          obtain ⟨c, hl⟩ := ((sortOk_at ok hd).2.2.2 d' hd').1
          have hq' : Q (tokLt d d') s := hq
          rw [tokLt_of hl] at hq'
          rw [keyLt'_oneType]
          refine oneLt_flat ?_ ra rb hl hq'
          rw [all d hd]
          rcases h01 with rfl | rfl
          · exact .inl rfl
          · exact .inr rfl
        · refine kas_kind (T := dataType k0.py) h2 (fun v hv => ?_) ?_ (beq_self_eq_true _) hq
          · obtain ⟨d, hd, as, r⟩ := e.left v hv
            have e1 : dataType d.py = dataType k0.py := by
              have h1 := all d hd
              rcases h01 with rfl | rfl
              · rcases kTy_cases h1 with ⟨_, i, rfl⟩ | ⟨z, _⟩ | ⟨_, _, _, ⟨z, _⟩ | ⟨z, _⟩ | ⟨z, _⟩⟩
                · rcases kTy_cases ht with ⟨_, i, rfl⟩ | ⟨z, _⟩ | ⟨_, _, _, ⟨z, _⟩ | ⟨z, _⟩ | ⟨z, _⟩⟩
                  · rfl
                  all_goals cases z
                all_goals cases z
              · rcases kTy_cases h1 with ⟨z, _⟩ | ⟨_, i, rfl⟩ | ⟨_, _, _, ⟨z, _⟩ | ⟨z, _⟩ | ⟨z, _⟩⟩
                · cases z
                · rcases kTy_cases ht with ⟨z, _⟩ | ⟨_, i, rfl⟩ | ⟨_, _, _, ⟨z, _⟩ | ⟨z, _⟩ | ⟨z, _⟩⟩
                  · cases z
                  · rfl
                  all_goals cases z
                all_goals cases z
            rw [← e1]
            exact looks_reads r
          · apply dataType_other
            intro xs hx
            rcases h01 with rfl | rfl
            · rcases kTy_cases ht with ⟨_, i, rfl⟩ | ⟨z, _⟩ | ⟨_, _, _, ⟨z, _⟩ | ⟨z, _⟩ | ⟨z, _⟩⟩
              · cases hx
              all_goals cases z
            · rcases kTy_cases ht with ⟨z, _⟩ | ⟨_, i, rfl⟩ | ⟨_, _, _, ⟨z, _⟩ | ⟨z, _⟩ | ⟨z, _⟩⟩
              · cases z
              · cases hx
              all_goals cases z
      have tups : (∀ k ∈ k0 :: kr, ∃ x r, k = .tup (x :: r)) → (∀ (k : D) (x : D) (r : List D) (k' : D) (x' : D) (r' : List D), k ∈ k0 :: kr → k' ∈ k0 :: kr → k = .tup (x :: r) → k' = .tup (x' :: r') → dataType x.py = dataType x'.py) →
          (∀ (x : D) (r : List D), D.tup (x :: r) ∈ k0 :: kr → (dataType x.py != Value.type "tuple") = true → kTy x = some 0 ∨ kTy x = some 1) → ∃ kd : SortKind, H.LtAt prog w A s (dataKind s.heap ((k0 :: kr).map D.py)) kd ∧ (2 ≤ vs.length → ∀ (E : Value → Shared → Prop) {Q : SortKind → Shared → Prop}, Q kd s → wpAny (model prog w) A (keyKind' vs.toArray) Q E s) := by
        intro ht1 ht2 ht3
        obtain ⟨x0, r0, rfl⟩ := ht1 k0 List.mem_cons_self
        refine ⟨tuples' (dataType x0.py != Value.type "tuple"), ?_, fun h2 E Q hq => ?_⟩
        · intro E x y a b Q ha hb hq
          obtain ⟨d, as, hd, ra, rfl⟩ := inv ha
          obtain ⟨d', as', hd', rb, rfl⟩ := inv hb
          obtain ⟨c, hl⟩ := ((sortOk_at ok hd).2.2.2 d' hd').1
          have hq' : Q (tokLt d d') s := hq
          rw [tokLt_of hl] at hq'
          obtain ⟨_, s1, _⟩ := sortOk_at ok hd
          obtain ⟨_, s2, _⟩ := sortOk_at ok hd'
          have z1 := SeqAt.depth_of_shaped s1
          have l1 := SeqAt.canLay_of_shaped s1
          have l2 := SeqAt.canLay_of_shaped s2
          obtain ⟨x1, r1, rfl⟩ := ht1 d hd
          obtain ⟨x2, r2, rfl⟩ := ht1 d' hd'
          simp only [D.py] at ra rb l1 l2 z1
          simp only [PyData.canLay0] at l1 l2
          simp only [PyData.depth] at z1
          cases ra with
          | @tuple l o xs n _ _ h1 h2 h3 h4 =>
            cases rb with
            | @tuple l' o' xs' n' _ _ k1 k2 k3 k4 =>
              have n1 : xs.size = (x1 :: r1).length := by
                have q := SeqAt.ReadsAll.length _ _ _ h4
                have q2 : (D.pys (x1 :: r1)).length = (x1 :: r1).length := by
                  have : ∀ l : List D, (D.pys l).length = l.length := fun l => by induction l with
                    | nil => rfl
                    | cons a l ih => simp [D.pys, ih]
                  exact this _
                rw [q2] at q
                simpa using q
              have n2 : xs'.size = (x2 :: r2).length := by
                have q := SeqAt.ReadsAll.length _ _ _ k4
                have q2 : (D.pys (x2 :: r2)).length = (x2 :: r2).length := by
                  have : ∀ l : List D, (D.pys l).length = l.length := fun l => by induction l with
                    | nil => rfl
                    | cons a l ih => simp [D.pys, ih]
                  exact this _
                rw [q2] at q
                simpa using q
              refine kat_lt h1 h3 k1 k3 (katLex_of (c := c) (x1 :: r1) (x2 :: r2) 0 _ _ _ _ h4 k4 l1 l2 (by omega) (by simpa [ltD] using hl) ?_ (by rw [n1, n2]) hq')
              intro hb _ x r y t ex ey p q ap aq rp rq c' hc' Q' E' hQ'
              cases ex
              cases ey
              refine oneLt_flat (ht3 x1 r1 hd ?_) rp rq hc' hQ'
              rw [ht2 _ x1 r1 _ x0 r0 hd List.mem_cons_self rfl rfl]
              exact hb
        · obtain ⟨fs, t1, t2, t3⟩ := each_katTups (each_py e) (fun d hd => by
            obtain ⟨k, hk, rfl⟩ := List.mem_map.mp hd
            obtain ⟨x, r, rfl⟩ := ht1 k hk
            exact ⟨x.py, D.pys r, by simp [D.py, D.pys]⟩)
          refine kat_kind (T := dataType x0.py) t1 (by omega) (fun f hf => ?_) (beq_self_eq_true _) hq
          obtain ⟨x, r, as, m1, m2⟩ := t3 f hf
          obtain ⟨k, hk, ek⟩ := List.mem_map.mp m1
          obtain ⟨x', r', rfl⟩ := ht1 k hk
          simp only [D.py, D.pys, PyData.tuple.injEq, List.cons.injEq] at ek
          rw [← ht2 _ x' r' _ x0 r0 hk List.mem_cons_self rfl rfl, ek.1]
          exact looks_reads m2
      rcases kTy_cases ht with ⟨rfl, _⟩ | ⟨rfl, _⟩ | ⟨_, _, _, ⟨rfl, _⟩ | ⟨rfl, _⟩ | ⟨rfl, _⟩⟩
      · exact flat (.inl rfl) fun _ => True
      · exact flat (.inr rfl) fun _ => True
      all_goals
        refine tups (fun k hk => ?_) (fun k x r k' x' r' hk hk' e1 e2 => ?_) (fun x r hk hb => ?_)
        · rcases kTy_cases (all k hk) with ⟨z, _⟩ | ⟨z, _⟩ | ⟨x, r, e1, _⟩
          · cases z
          · cases z
          · exact ⟨x, r, e1⟩
        · subst e1 e2
          rcases kTy_cases (all _ hk) with ⟨z, _⟩ | ⟨z, _⟩ | ⟨_, _, e1, ⟨z1, i, rfl⟩ | ⟨z1, i, rfl⟩ | ⟨z1, i, rfl⟩⟩
          · cases z
          · cases z
          all_goals
            rcases kTy_cases (all _ hk') with ⟨z, _⟩ | ⟨z, _⟩ | ⟨_, _, e2, ⟨z2, j, rfl⟩ | ⟨z2, j, rfl⟩ | ⟨z2, j, rfl⟩⟩
            · cases z
            · cases z
            all_goals first
              | (cases z1; done)
              | (cases z2; done)
              | (cases e1; cases e2; rfl)
        · rcases kTy_cases (all _ hk) with ⟨z, _⟩ | ⟨z, _⟩ | ⟨_, _, e1, ⟨z1, i, rfl⟩ | ⟨z1, i, rfl⟩ | ⟨z1, i, rfl⟩⟩
          · cases z
          · cases z
          · cases e1; exact .inl rfl
          · cases e1; exact .inr rfl
          · cases e1; simp [dataType, D.py] at hb
end
end DL
/-! DLo: sorted(xs, key=f), f a def of ours. -/
namespace DL
open PySem PySem.Spec L2
open PyProof.Rows hiding St
open PySem.W (keyToks keyToksAll dataLt EachIs dataKind)

/-- the keys, one call after the other -/
def keysD (m : FM) : List D → Sto → Option (List D × Sto)
  | [], S => some ([], S)
  | x :: xs, S => match m [x] S with
    | some (k, S1) => match keysD m xs S1 with
      | some (ks, S2) => some (k :: ks, S2)
      | none => none
    | none => none
def isLst (S : Sto) : D → Option (List D)
  | .loc n => seqD S (.loc n)
  | .scr ns => seqD S (.scr ns)
  | _ => none
def sortKP (m : FM) (x : D) (S : Sto) : Option (D × Sto) := match isLst S x with
  | some xs => match keysD m xs S with
    | some (ks, S2) => if sortOk ks = true then some (.loc S2.length, S2 ++ [.lst (sortD ks xs)]) else none
    | none => none
  | none => none
def mSortK (m : FM) (a : EM) : EM := m1 (sortKP m) a

theorem zip_zero {α β : Type} {l : List α} {m : List β} (h : l = []) : l.zip m = [] := by subst h; rfl
section
variable {X : Cx} {ca : Nat → Addr} {pins : List (Addr × Obj)} {σ : L2.St} {H : Hp} {s : Shared} {h' : Heap} {t' : Nat} {f Da kS : Addr}
/-- two untracked records have changed; the one is tracked from now on -/
theorem take2 {o : HO} (I : Inv X pins σ H s) (k : ∀ b ob, b ≠ Da → b ≠ kS → s.heap.get? b = some ob → h'.get? b = some ob) (fD : FpOk X pins H Da) (fK : FpOk X pins H kS) (new : ObjOk X.prog X.w (upd H Da o) h' Da o) :
    Inv X pins σ (upd H Da o) { s with heap := h', toks := t' } := by
  obtain ⟨dn, dL, _, d1, d2, d3⟩ := fD
  obtain ⟨kn, kL, _, k1, k2, k3⟩ := fK
  have nD : ∀ b u, H b = some u → b ≠ Da := fun b u e z => by rw [z, dn] at e; cases e
  have nK : ∀ b u, H b = some u → b ≠ kS := fun b u e z => by rw [z, kn] at e; cases e
  have up : ∀ b u, H b = some u → upd H Da o b = some u := fun b u e => by rw [upd_ne (nD b u e)]; exact e
  have out : ∀ {b : Addr}, b ∉ [Da, kS] → b ≠ Da ∧ b ≠ kS := fun {b} hb => by simpa using hb
  refine I.step (g' := s.gens) (d' := s.drawn) (ch := [Da, kS]) (fun b hb => ?_) (fun b ob _ _ hc e _ => k b ob (out hc).1 (out hc).2 e) (fun b ob _ _ hc e _ => ⟨ob.slots, k b ob (out hc).1 (out hc).2 e⟩)
    (fun b ob hc _ n => by rw [upd_ne (out hc).1]; exact n) (fun b ob hc e => ⟨ob, k b ob (out hc).1 (out hc).2 e⟩) (fun b _ e => up b _ e) (fun b _ _ e => up b _ e) (fun b ps e => ⟨#[], by rw [up b _ e]; simp⟩) (fun m hm => ?_) (fun b u e => ?_) I.bare
  · have e : b = Da ∨ b = kS := by simpa using hb
    rcases e with rfl | rfl
    · exact ⟨d1, dL, d2, d3⟩
    · exact ⟨k1, kL, k2, k3⟩
  · obtain ⟨ob, es, ep, ho, r⟩ := hm
    exact ⟨ob, es, ep, k _ ob (Ne.symm dL) (Ne.symm kL) ho, r⟩
  · by_cases hb : b = Da
    · subst hb
      rw [upd_same] at e
      cases e
      exact new
    · rw [upd_ne hb] at e
      refine (I.hok b u e).stay (fun c v hc q => ?_) (fun c q => up c _ q) fun c _ q => up c _ q
      rcases hc with rfl | z
      · exact k _ v hb (nK _ u e) q
      · exact k c v (nD c _ z) (nK c _ z) q
/-- a def's call from within a built-in -/
theorem run_key {k : Nat} {fd : FuncData} {ps : List Str} {m : FM} {A : Around} {E : Value → Shared → Prop} (F : FnOk X.prog X.w X.K X.mg X.base CX0 k f fd ps (spD (gx X ca) 1 m)) (hr : Room k A) (e0 : Env0 X.prog X.w X.K X.mg X.base A X.stack s H) (hb : Binds X.K fd ps [])
    (I : Inv X pins σ H s) {r : List Addr} {S S1 : Sto} {x d : D} {v : V} {u : Value} {Q : VK} (R : RepS (gx X ca) r S H) (q : DV X.K r H x v) (rv : RelV v u) (hm : m [x] S = some (d, S1))
    (hq : ∀ r' H' w, Ext X.K r H r' H' → RepS (gx X ca) r' S1 H' → DV X.K r' H' d w → Q w H') : wpAny (model X.prog X.w) A (call (.ref f) [u]) (EP X pins σ Q) E s := by
  have sp : spD (gx X ca) 1 m [v] H Q E0 := ⟨r, S, [x], d, S1, R, DVs.cons q DVs.nil, rfl, hm, hq⟩
  have hl : ([u] ++ ([] : List Value)).length = ps.length := F.len _ _ _ _ sp
  refine wpAny_call (codeAny_mono (F.run A X.stack s H ⟨[u], []⟩ ([u] ++ []) [v] Q E0 hr e0 (hb s [u] I.kIn hl) (.cons rv .nil) sp) fun r s' hc => ?_)
  cases r with
  | error e => exact hc.elim
  | ok fl =>
    cases fl with
    | ret u => exact I.after hc
    | next => exact hc.elim
    | brk => exact hc.elim
    | cont => exact hc.elim
theorem each_vals {R : V → D → Prop} : ∀ {ds : List D} {out : List Value}, EachIs (fun u (d : D) => ∃ v, RelV v u ∧ R v d) out ds → ∃ vs, Vals vs out ∧ EachIs R vs ds
  | _, _, .nil => ⟨[], .nil, .nil⟩
  | _, _, .cons ⟨v, h1, h2⟩ t => let ⟨vs, a, b⟩ := each_vals t; ⟨v :: vs, .cons h1 a, .cons h2 b⟩
theorem dvs_of_each {K : PySem.W.Frag} {r : List Addr} : ∀ {ds : List D} {vs : List V}, EachIs (fun v (d : D) => DV K r H d v) vs ds → DVs K r H ds vs
  | _, _, .nil => DVs.nil
  | _, _, .cons h t => DVs.cons h (dvs_of_each t)
theorem each_of_dvs {K : PySem.W.Frag} {r : List Addr} : ∀ {ds : List D} {vs : List V} {us : List Value}, DVs K r H ds vs → Vals vs us → EachIs (fun u (d : D) => ∃ v, RelV v u ∧ DV K r H d v) us ds
  | [], _, us, h, rv => by unfold DVs at h; subst h; cases rv; exact .nil
  | d :: ds, _, us, h, rv => by
    unfold DVs at h
    obtain ⟨v, ws, rfl, h1, h2⟩ := h
    cases rv with
    | cons r1 r2 => exact .cons ⟨v, r1, h1⟩ (each_of_dvs h2 r2)
theorem each_zip {α β γ : Type} {R : α → γ → Prop} {T : α → β → Prop} : ∀ {as : List α} {bs : List β} {cs : List γ}, EachIs R as cs → bs.length = cs.length → EachIs (fun a (p : β × γ) => R a p.2) as (bs.zip cs)
  | _, [], _, .nil, _ => .nil
  | _, b :: bs, _, .cons h t, hl => .cons h (each_zip (T := T) t (by simpa using hl))
  | _, [], _, .cons _ _, hl => by simp at hl
  | _, _ :: _, _, .nil, hl => by simp at hl
theorem each_zip1 {α β γ : Type} {R : α → β → Prop} : ∀ {as : List α} {bs : List β} {cs : List γ}, EachIs R as bs → bs.length = cs.length → EachIs (fun a (p : β × γ) => R a p.1) as (bs.zip cs)
  | _, _, [], .nil, _ => .nil
  | _, _, c :: cs, .cons h t, hl => .cons h (each_zip1 t (by simpa using hl))
  | _, _, [], .cons _ _, hl => by simp at hl
  | _, _, _ :: _, .nil, hl => by simp at hl
theorem keysD_len {m : FM} : ∀ {xs : List D} {S S2 : Sto} {ks : List D}, keysD m xs S = some (ks, S2) → ks.length = xs.length
  | [], _, _, _, h => by cases h; rfl
  | x :: xs, _, _, _, h => by
    unfold keysD at h
    split at h
    · split at h
      · rename_i e
        cases h
        simp [keysD_len e]
      · cases h
    · cases h
theorem reads_each {r : List Addr} (I : Inv X pins σ H s) {ks : List D} {us : List Value} (e : EachIs (fun u (d : D) => ∃ v, RelV v u ∧ DV X.K r H d v) us ks) (hp : ∀ k ∈ ks, k.pure = true) : EachIs (fun v (d : D) => ∃ as, Reads s.heap v d.py as) us ks := by
  induction e with
  | nil => exact .nil
  | @cons a b as bs h t ih =>
    obtain ⟨v, rv, q⟩ := h
    exact .cons (Dp.reads I _ v a (dp_of b v q (hp b List.mem_cons_self)) rv) (ih fun k hk => hp k (List.mem_cons_of_mem _ hk))
end
end DL
/-! DLp: the loop over the keys, sorted(xs, key=f). -/
namespace DL
open PySem PySem.Spec L2
open PyProof.Rows hiding St
open PySem.W (keyToks keyToksAll dataLt EachIs dataKind KeepsBut)

section
variable {X : Cx} {ca : Nat → Addr} {pins : List (Addr × Obj)} {σ : L2.St} {f Da kS : Addr} {k : Nat} {fd : FuncData} {ps : List Str} {m : FM} {A : Around} {P : PySem.Fin → Shared → Prop} {E : Value → Shared → Prop}
theorem sorted_each {h : Heap} {ds : List PyData} {ks xs : List D} {R : Value → D → Prop} {us kv : List Value} (hl : ks.length = xs.length) (hx : EachIs R us xs) (hk : EachIs (fun v (d : D) => (dataKind h ds).keyOf v = some (keyToks d.py)) kv ks) :
    EachIs R (PySem.W.sortVals (dataKind h ds) false kv us) (sortD ks xs) := by
  have e := PySem.W.sortVals_each (κ := dataKind h ds) (R := fun u (p : D × D) => R u p.2) (rev := false) (fun p : D × D => keyToks p.1.py) (each_zip (T := fun _ _ => True) hx hl) (each_zip1 hk hl)
  have e2 : ∀ {out : List Value} {zs : List (D × D)}, EachIs (fun u (p : D × D) => R u p.2) out zs → EachIs R out (zs.map (·.2)) := by
    intro out zs h
    induction h with
    | nil => exact .nil
    | cons h1 _ ih => exact .cons h1 ih
  exact e2 e
theorem keys_loop (F : FnOk X.prog X.w X.K X.mg X.base CX0 k f fd ps (spD (gx X ca) 1 m)) (hr : (∃ ds S d S', m ds S = some (d, S')) → Room k A) (he : ∀ s H, Env0 X.prog X.w X.K X.mg X.base X.A X.stack s H → Env0 X.prog X.w X.K X.mg X.base A X.stack s H) (hb : Binds X.K fd ps []) (hu : A.units + 66 < cLine)
    {H : Hp} {s : Shared} {r : List Addr} {S S2 : Sto} {xs ks : List D} {vs : List V} {us : List Value} {e1 : Nat} (I : Inv X pins σ H s) (R : RepS (gx X ca) r S H) (fD : FpOk X pins H Da) (fK : FpOk X pins H kS) (hka : kS ≠ Da)
    (nk : s.heap.get? kS = some (seqObj "list" #[] 0)) (na : s.heap.get? Da = some (seqObj "list" #[] e1)) (qx : DVs X.K r H xs vs) (rv : Vals vs us) (hZ : us.length ≤ sizeLine) (hk : keysD m xs S = some (ks, S2)) (ok : sortOk ks = true)
    (post : ∀ r' H' s', Inv X pins σ H' s' → Ext X.K r H r' H' → RepS (gx X ca) r' (S2 ++ [.lst (sortD ks xs)]) H' → DV X.K r' H' (.loc S2.length) (.ref Da) → P (.done (.ret .none)) s') :
    wpAny (model X.prog X.w) A (ksk_rest Da (.ref f) false us.toArray e1 (.ref kS)) P E s := by
  have hlen : ks.length = us.length := by rw [keysD_len hk, ← qx.length, rv.length]
  have hxl : xs.length = us.length := by rw [← qx.length, rv.length]
  unfold ksk_rest
  refine wpAny_bind (wpAny_rule ?_)
  first
    | rw [List.forIn_toArray]
    | (rw [← Array.forIn_toList]; simp only [List.toList_toArray])
  refine wpAny_bind (ksk_fold (fun i s' => ∃ r' S' H' kA e ks1 ks2, Inv X pins σ H' s' ∧ RepS (gx X ca) r' S' H' ∧ Ext X.K r H r' H' ∧ s'.heap.get? kS = some (seqObj "list" kA e) ∧ s'.heap.get? Da = some (seqObj "list" #[] e1) ∧ H' kS = none ∧ H' Da = none ∧
    EachIs (fun u (d : D) => ∃ v, RelV v u ∧ DV X.K r' H' d v) kA.toList ks1 ∧ ks1 ++ ks2 = ks ∧ keysD m (xs.drop i) S' = some (ks2, S2)) us 0 s ⟨r, S, H, #[], 0, [], ks, I, R, Ext.refl, nk, na, fK.1, fD.1, .nil, rfl, hk⟩ ?step ?done)
  case step =>
    rintro j u s' hx ⟨r', S', H', kA, e, ks1, ks2, I1, R1, x1, nk1, na1, hkn, hDn, q1, hks, hkk⟩
    simp only [Nat.zero_add] at hkk ⊢
    have hj : j < us.length := (List.getElem?_eq_some_iff.mp hx).1
    have hjv : j < vs.length := by rw [rv.length]; exact hj
    obtain ⟨u', hu', rvu⟩ := rv.get (List.getElem?_eq_getElem hjv)
    obtain rfl : u' = u := Option.some.inj (hu'.symm.trans hx)
    obtain ⟨d, hd, qd⟩ := qx.getV (List.getElem?_eq_getElem hjv)
    obtain ⟨hjx, hd'⟩ := List.getElem?_eq_some_iff.mp hd
    have hdr : xs.drop j = d :: xs.drop (j + 1) := by rw [← hd']; exact List.drop_eq_getElem_cons hjx
    rw [hdr] at hkk
    unfold keysD at hkk
    split at hkk
    · rename_i kd S3 em
      split at hkk
      · rename_i ks3 S4 ek
        cases hkk
        have pk : ∀ p ∈ (kS, seqObj "list" kA e) :: (Da, seqObj "list" #[] e1) :: pins, s'.heap.get? p.1 = some p.2 ∧ H' p.1 = none ∧ p.1 ≠ X.env.locals ∧ p.1 ∉ X.fs ∧ ∀ v, p.2.data ≠ .cell v := by
          intro p hp
          rcases List.mem_cons.mp hp with rfl | hp
          · exact ⟨nk1, hkn, fK.2.1, fK.2.2.1, fun v z => by cases z⟩
          · rcases List.mem_cons.mp hp with rfl | hp
            · exact ⟨na1, hDn, fD.2.1, fD.2.2.1, fun v z => by cases z⟩
            · exact I1.pin p (List.mem_append_right _ hp)
        have I2 := I1.pins_of pk
        refine wpAny_bind (wpAny_attempt (wpAny_mono (run_key (E := fun _ _ => False) (Q := fun w H2 => ∃ r2, Ext X.K r' H' r2 H2 ∧ RepS (gx X ca) r2 S3 H2 ∧ DV X.K r2 H2 kd w) F (hr ⟨_, _, _, _, em⟩) (he _ _ I2.env0) hb I2 R1 (DV.ext x1 _ _ qd) rvu em
          fun r2 H2 w x2 R2 q2 => ⟨r2, x2, R2, q2⟩) (fun kv s2 hEP => ?_) fun _ _ hF => hF.elim))
        obtain ⟨w, H2, I3, rw3, r2, x2, R2, q2⟩ := hEP
        try dsimp only
        obtain ⟨nk3, hkn3, _⟩ := I3.pin (kS, seqObj "list" kA e) (List.mem_append_right _ List.mem_cons_self)
        obtain ⟨na3, hDn3, _⟩ := I3.pin (Da, seqObj "list" #[] e1) (List.mem_append_right _ (List.mem_cons_of_mem _ List.mem_cons_self))
        simp only at nk3 hkn3 na3 hDn3
        have I4 : Inv X pins σ H2 s2 := I3.pins_of fun p hp => I3.pin p (List.mem_append_right _ (List.mem_cons_of_mem _ (List.mem_cons_of_mem _ hp)))
        have sb := Heap.SameBut.update s2.heap kS (Obj.mapSeq (·.push kv))
        obtain ⟨c2, hc2⟩ : ∃ c2, (s2.heap.update kS (Obj.mapSeq (·.push kv))).get? kS = some (seqObj "list" (kA.push kv) c2) := ⟨_, get?_update_seq nk3 (·.push kv)⟩
        have hz : kA.size ≤ us.length := by
          have h1 := q1.length
          rw [Array.length_toList] at h1
          rw [h1, ← hlen, ← hks, List.length_append]
          exact Nat.le_add_right _ _
        refine wpAny_bind (listUpdate_at nk3 rfl ?_ (Nat.le_trans hz hZ) (by rw [Array.size_push]; exact Nat.succ_le_succ (Nat.le_trans hz hZ)))
        obtain ⟨_, fl, _, f1, f2, f3⟩ := fK
        have I5 := I4.turned (t' := s2.toks) (h' := s2.heap.update kS (Obj.mapSeq (·.push kv))) (it := kS) (fun b o hb eo => (sb.2 b hb).trans eo) hkn3 fl f1 f2 f3
        refine wpAny_pure ⟨rfl, r2, S3, H2, kA.push kv, c2, ks1 ++ [kd], ks3, I5, R2, x1.trans x2, hc2, (sb.2 Da hka.symm).trans na3, hkn3, hDn3, ?_, by rw [List.append_assoc]; exact hks, ek⟩
        have ea : (kA.push kv).toList = kA.toList ++ [kv] := by simp
        rw [ea]
        have sn : ∀ {as : List Value} {bs : List D}, EachIs (fun u (d : D) => ∃ v, RelV v u ∧ DV X.K r2 H2 d v) as bs → EachIs (fun u (d : D) => ∃ v, RelV v u ∧ DV X.K r2 H2 d v) (as ++ [kv]) (bs ++ [kd]) := by
          intro as bs h
          induction h with
          | nil => exact .cons ⟨w, rw3, q2⟩ .nil
          | cons h1 _ ih => exact .cons h1 ih
        exact sn (q1.mono fun a b ⟨v, r1, q⟩ => ⟨v, r1, DV.ext x2 _ _ q⟩)
      · cases hkk
    · cases hkk
  case done =>
    rintro s' ⟨r', S', H', kA, e, ks1, ks2, I1, R1, x1, nk1, na1, hkn, hDn, q1, hks, hkk⟩
    have hdr : xs.drop (0 + us.length) = [] := List.drop_eq_nil_of_le (by omega)
    rw [hdr] at hkk
    cases hkk
    rw [List.append_nil] at hks
    subst hks
    try dsimp only
    refine wpAny_bind (listItems_at nk1 rfl ?_)
    obtain ⟨G, g1, g2⟩ := restrict s'.heap fun b => decide (b ≠ kS)
    have gk : ∀ b o, b ≠ kS → s'.heap.get? b = some o → G.get? b = some o := fun b o hb z => by rw [g1 b (decide_eq_true hb)]; exact z
    have gs : KeepsBut Da G s'.heap := fun b o _ z => by
      by_cases hb : b = kS
      · rw [hb, g2 kS (decide_eq_false fun z => z rfl)] at z
        cases z
      · rw [← g1 b (decide_eq_true hb)]
        exact z
    have rd := reads_each I1 q1 fun k hk => (sortOk_at ok hk).1
    have hsz : kA.size = us.length := by
      have h1 := q1.length
      rw [Array.length_toList] at h1
      omega
    refine PySem.W.keyH_end (κ := dataKind s'.heap (ks1.map D.py)) (h₁ := G) gs (g2 kS (decide_eq_false fun z => z rfl)) nk1 na1 hka (sortsAt_of ok rd hu) hsz hZ fun h3 tk3 c k3 n3 => ?_
    have hc : ∀ d ∈ ks1.map D.py, d.canLay0 = true := fun d hd => by
      obtain ⟨k, hk, rfl⟩ := List.mem_map.mp hd
      exact SeqAt.canLay_of_shaped (sortOk_at ok hk).2.1
    have hkeys : EachIs (fun v (d : D) => (dataKind s'.heap (ks1.map D.py)).keyOf v = some (keyToks d.py)) kA.toList ks1 := by
      have go : ∀ {as : List Value} {bs : List D}, EachIs (fun v (d : D) => ∃ as, Reads s'.heap v d.py as) as bs → (∀ b ∈ bs, b ∈ ks1) → EachIs (fun v (d : D) => (dataKind s'.heap (ks1.map D.py)).keyOf v = some (keyToks d.py)) as bs := by
        intro as bs h
        induction h with
        | nil => intro _; exact .nil
        | @cons a b as bs h1 _ ih =>
          intro hm
          obtain ⟨_, h1⟩ := h1
          exact .cons (kind_some hc (List.mem_map_of_mem (hm b List.mem_cons_self)) h1) (ih fun b hb => hm b (List.mem_cons_of_mem _ hb))
      exact go rd fun _ h => h
    have hout := sorted_each (by rw [hlen, hxl]) (each_of_dvs (DVs.ext x1 _ _ qx) rv) hkeys
    obtain ⟨ov, rvo, qo⟩ := each_vals hout
    have qo' : DVs X.K r' H' (sortD ks1 xs) ov := dvs_of_each qo
    have hol : ov.length ≤ sizeLine := by
      rw [rvo.length, PySem.W.sortVals_length false (by rw [Array.length_toList]; exact hsz)]
      exact hZ
    have I6 : Inv X pins σ (upd H' Da (.lst ov)) { s' with heap := h3, toks := tk3 } := take2 (kS := kS) I1 (fun b o hb1 hb2 z => k3 b o hb1 (gk b o hb2 z)) ⟨hDn, fD.2⟩ ⟨hkn, fK.2⟩ ⟨hol, _, c, rvo, n3⟩
    obtain ⟨x3, R3⟩ := R1.lst hDn qo'
    exact post _ _ _ I6 (x1.trans x3) R3 R1.newLoc
end
section
variable {X : Cx} {ca : Nat → Addr} {pins : List (Addr × Obj)} {σ : L2.St} {f : Addr} {k : Nat} {fd : FuncData} {ps : List Str} {m : FM}
theorem lst_of {G : Ctx} {r : List Addr} {S : Sto} {H : Hp} {d : D} {v : V} {ds : List D} (R : RepS G r S H) (q : DV G.K r H d v) (h : isLst S d = some ds) : ∃ a vs, v = .ref a ∧ DVs G.K r H ds vs ∧ SqL G.K H a vs := by
  unfold isLst at h
  have go : seqD S d = some ds → (∀ es, d ≠ .tup es) → ∃ a vs, v = .ref a ∧ DVs G.K r H ds vs ∧ SqL G.K H a vs := fun h nt => by
    obtain ⟨a, vs, e, h2, h3⟩ := seq_cases R q h
    rcases h3 with ⟨z, _⟩ | ⟨_, _, _, hl⟩
    · exact absurd z (nt _)
    · exact ⟨a, vs, e, h2, hl⟩
  split at h
  · exact go h fun _ z => by cases z
  · exact go h fun _ z => by cases z
  · cases h
/-- the call, key= given -/
theorem sortK_run (F : FnOk X.prog X.w X.K X.mg X.base CX0 (k - 2) f fd ps (spD (gx X ca) 1 m)) (hz : k < 2 → ∀ ds S, m ds S = none) (hr : Room k X.A) (hb : Binds X.K fd ps []) {H : Hp} {s : Shared} {r : List Addr} {S S' : Sto} {x d : D} {v : V} {u : Value} {Q : VK}
    (I : Inv X pins σ H s) (R : RepS (gx X ca) r S H) (q : DV X.K r H x v) (rv : RelV v u) (h : sortKP m x S = some (d, S')) (hq : ∀ r' H' w, Ext X.K r H r' H' → RepS (gx X ca) r' S' H' → DV X.K r' H' d w → Q w H') :
    wpAny (model X.prog X.w) X.A (call (.builtin "sorted") [u] [(Str.ofString "key", .ref f)]) (EP X pins σ Q) X.xe s := by
  unfold sortKP at h
  split at h
  · rename_i xs e1
    split at h
    · rename_i ks S2 e2
      split at h
      · rename_i ok
        cases h
        obtain ⟨a, vs, rfl, qx, hl⟩ := lst_of R q e1
        cases rv
        obtain ⟨its, rvs, hli, hzz⟩ := I.list hl
        have hL : its.length ≤ sizeLine := by rw [← rvs.length]; exact hzz
        have room : (∃ ds S d S', m ds S = some (d, S')) → Room (k - 2) X.A.in1.in1 := fun ⟨ds, S0, d, S3, e⟩ => by
          by_cases hk : k < 2
          · rw [hz hk] at e; cases e
          · obtain ⟨j, rfl⟩ : ∃ j, k = j + 2 := ⟨k - 2, by omega⟩
            exact hr.in1.in1
        have hu : X.A.in1.in1.units + 66 < cLine := by
          have := hr.un
          show X.A.units + 1 + 1 + 66 < cLine
          omega
        refine PySem.W.sorted_of_sort hli.isList hL (ksk_s1 _ _) (fun _ => ksk_l1 _ _) fun E' => ?_
        rw [ksk_t1]
        have ho := PySem.W.copyHeap_at s.heap its
        obtain ⟨e1, ho1⟩ : ∃ e1, ((PySem.W.copyHeap s.heap its).update (s.heap.objs.size + 1) (Obj.mapSeq fun _ => (#[] : Array Value))).get? (s.heap.objs.size + 1) = some (seqObj "list" #[] e1) := ⟨_, get?_update_seq ho fun _ => #[]⟩
        unfold ksk_tree
        refine wpAny_bind (listItems_at ho rfl ?_)
        refine wpAny_bind (listUpdate_at ho rfl ?_ (by rw [List.size_toArray]; exact hL) (Nat.zero_le _))
        refine wpAny_bind (seqEpoch_at ho1 rfl ?_)
        refine wpAny_bind (wpAny_newTuple ?_ (by show its.length ≤ sizeLine; exact hL))
        refine wpAny_bind (wpAny_newList ?_ (Nat.zero_le _))
        refine wpAny_holding ?_
        have big : s.heap.objs.size + 1 < (((PySem.W.copyHeap s.heap its).update (s.heap.objs.size + 1) (Obj.mapSeq fun _ => (#[] : Array Value))).push (seqObj "tuple" its.toArray 0)).objs.size := Nat.lt_of_lt_of_le (Heap.lt_size (Heap.get?_push_of_some _ ho1)) (Nat.le_refl _)
        have I1 : Inv X pins σ H { s with heap := PySem.W.sortingHeap (PySem.W.copyHeap s.heap its) (s.heap.objs.size + 1) its, toks := s.toks } := I.kept fun b o z => PySem.W.sorting_copy_old z
        refine keys_loop (σ := σ) (pins := pins) F room (fun _ _ e => e.in1.in1) hb hu (kS := (((PySem.W.copyHeap s.heap its).update (s.heap.objs.size + 1) (Obj.mapSeq fun _ => (#[] : Array Value))).push (seqObj "tuple" its.toArray 0)).objs.size) (Da := s.heap.objs.size + 1) I1 R
          (I.fpOk (Nat.le_succ _) (I.hok.fresh (Nat.le_succ _))) (I.fpOk (by omega) (I.hok.fresh (by omega))) (Nat.ne_of_gt big) (Heap.get?_push_size _ rfl) (Heap.get?_push_of_some _ (Heap.get?_push_of_some _ ho1)) qx rvs hL e2 ok fun r' H' s' I' x' R' q' => ⟨rfl, .ref _, H', I', rfl, hq r' H' _ x' R' q'⟩
      · cases h
    · cases h
  · cases h
def rSK (G : Ctx) (f : Addr) (m : FM) : List V → List V → Hp → VK → Prop := fun vs zs H Q => zs = [V.ref f] ∧ ∃ r S x v d S', vs = [v] ∧ RepS G r S H ∧ DV G.K r H x v ∧ sortKP m x S = some (d, S') ∧ ∀ r' H' w, Ext G.K r H r' H' → RepS G r' S' H' → DV G.K r' H' d w → Q w H'
theorem de_sortK {x : Str} {p pos kp kp2 : Pos} {e : Expr} {ma : EM} (F : FnOk X.prog X.w X.K X.mg X.base CX0 (k - 2) f fd ps (spD (gx X ca) 1 m)) (hz : k < 2 → ∀ ds S, m ds S = none) (hr : Room k X.A) (hb : Binds X.K fd ps []) (hs : X.mg "sorted" = none) (hm : X.mg x = some (.ref f)) (h : PE X e (liftE (gx X ca) ma))
    (hg : Gl X "sorted" := by rfl) (hg2 : Gl X x := by rfl) (hdb : (x == ("__debug__" : Str)) = false := by decide) (hs1 : starEach [e] X.env = (false, eval e X.env) :: starEach [] X.env := by rfl) (he : backTo pos (starEach [e] X.env) = (false, eval e X.env) :: backTo pos (starEach [] X.env) := by rfl) (hpl : (backTo pos (starEach [e] X.env)).any (·.1) = false := by rfl) :
    PE X (.Call (.Name "sorted" p) [e] [⟨some "key", .Name x kp, kp2⟩] pos) (liftE (gx X ca) (mSortK m ma)) :=
  wkE (pe_callBK (ks := [Str.ofString "key"]) (r := rSK (gx X ca) f m) (fun pins s σ H xs zs us ws Q I r1 r2 hh => by
    obtain ⟨rfl, r, S, x, v, d, S', rfl, R, q, e, k⟩ := hh
    obtain ⟨u, rfl, r3⟩ := vals1 r1
    obtain ⟨w, rfl, r4⟩ := vals1 r2
    cases r4
    exact sortK_run F hz hr hb I R q r3 e k) hg hs boot_sorted (pa_cons h pa_nil hs1) (pk_cons (pe_glob (v := .ref f) hg2 hm rfl hdb) pk_nil) (by decide) (by decide) he hpl) fun σ H Q hh => by
    obtain ⟨r, env, S, d, S', R, W, e1, k⟩ := hh
    unfold mSortK m1 at e1
    split at e1
    · rename_i y S1 e2
      refine ⟨r, env, S, y, S1, R, W, e2, fun r1 H1 v x1 R1 q1 => ?_⟩
      exact ⟨rfl, r1, S1, y, v, d, S', rfl, R1, q1, e1, fun r2 H2 w x2 R2 q2 => k r2 H2 w (x1.trans x2) R2 q2⟩
    · cases e1
end
end DL
/-! DLq: what the meanings give, read backwards (for the plain laws). -/
namespace DL
open PySem

def Ow {α : Type} (o : Option α) (Q : α → Prop) : Prop := ∃ a, o = some a ∧ Q a
section
variable {α : Type} {Q Q' : α → Prop} {o : Option α}
@[simp] theorem ow_some {a : α} : Ow (some a) Q ↔ Q a := ⟨fun ⟨_, e, q⟩ => by cases e; exact q, fun q => ⟨a, rfl, q⟩⟩
@[simp] theorem ow_none : Ow (none : Option α) Q ↔ False := ⟨fun ⟨_, e, _⟩ => (by cases e), False.elim⟩
def asB : D → Option Bool
  | .bl t => some t
  | _ => none
def asI : D → Option Int
  | .int t => some t
  | _ => none
@[simp] theorem asB_bl {t : Bool} : asB (.bl t) = some t := rfl
@[simp] theorem asI_int {t : Int} : asI (.int t) = some t := rfl
theorem Ow.imp (h : Ow o Q) (k : ∀ a, Q a → Q' a) : Ow o Q' := let ⟨a, e, q⟩ := h; ⟨a, e, k a q⟩
theorem ow_ite {c : Prop} [Decidable c] {x y : Option α} : Ow (if c then x else y) Q ↔ if c then Ow x Q else Ow y Q := by split <;> rfl
theorem ow_if {c : Prop} [Decidable c] {x : Option α} : Ow (if c then x else none) Q ↔ c ∧ Ow x Q := by
  by_cases h : c <;> simp [h]
end
section
variable {env : Vars} {S : Sto} {Q : D × Sto → Prop} {B : Bool × Sto → Prop} {L : List D × Sto → Prop} {T : Fl × Vars × Sto → Prop} {N : Vars × Sto → Prop} {a b c : EM} {ba bb : BM} {l : LM} {p p' : D → D → Sto → Option (D × Sto)} {p1 : D → Sto → Option (D × Sto)} {pl : List D → Sto → Option (D × Sto)} {sa sb : SM} {g : GM} {gs : GMs}
theorem ow_bind {α β : Type} {o : Option α} {f : α → Option β} {Q : β → Prop} : Ow (match o with | some x => f x | none => none) Q ↔ Ow o fun x => Ow (f x) Q := by
  cases o <;> simp
@[simp] theorem ow_var {i : Nat} : Ow (mVar i env S) Q ↔ ∃ d, env[i]? = some (some d) ∧ Q (d, S) := by
  unfold mVar
  split
  · rename_i d e
    simp only [ow_some]
    exact ⟨fun q => ⟨d, e, q⟩, fun ⟨d', e', q⟩ => by rw [e] at e'; cases e'; exact q⟩
  · rename_i h
    simp only [ow_none, false_iff]
    exact fun ⟨d, e, _⟩ => h d e
@[simp] theorem ow_C {d : D} : Ow (mC d env S) Q ↔ Q (d, S) := ow_some
@[simp] theorem ow_m1 : Ow (m1 p1 a env S) Q ↔ Ow (a env S) fun x => Ow (p1 x.1 x.2) Q := by
  unfold m1; cases a env S <;> simp
@[simp] theorem ow_m2 : Ow (m2 p a b env S) Q ↔ Ow (a env S) fun x => Ow (b env x.2) fun y => Ow (p x.1 y.1 y.2) Q := by
  unfold m2
  cases a env S with
  | none => simp
  | some x =>
    obtain ⟨x, S1⟩ := x
    simp only [ow_some]
    cases b env S1 <;> simp
@[simp] theorem ow_mL : Ow (mL pl l env S) Q ↔ Ow (l env S) fun x => Ow (pl x.1 x.2) Q := by
  unfold mL; cases l env S <;> simp
@[simp] theorem ow_nil : Ow (lNil env S) L ↔ L ([], S) := ow_some
@[simp] theorem ow_cons : Ow (lCons a l env S) L ↔ Ow (a env S) fun x => Ow (l env x.2) fun y => L (x.1 :: y.1, y.2) := by
  unfold lCons
  cases a env S with
  | none => simp
  | some x => cases h : l env x.2 <;> simp_all
@[simp] theorem ow_star : Ow (lStar a l env S) L ↔ Ow (a env S) fun x => Ow (seqD x.2 x.1) fun ds => Ow (l env x.2) fun y => L (ds ++ y.1, y.2) := by
  unfold lStar
  cases a env S with
  | none => simp
  | some x =>
    cases h : seqD x.2 x.1 with
    | none => simp [h]
    | some ds => cases h2 : l env x.2 <;> simp_all
@[simp] theorem ow_V : Ow (bV a env S) B ↔ Ow (a env S) fun x => Ow (asB x.1) fun t => B (t, x.2) := by
  unfold bV
  cases a env S with
  | none => simp
  | some x =>
    obtain ⟨d, S1⟩ := x
    cases d <;> simp [asB, asI]
@[simp] theorem ow_Tru : Ow (bTru a env S) B ↔ Ow (a env S) fun x => Ow (truD x.2 x.1) fun t => B (t, x.2) := by
  unfold bTru
  cases a env S with
  | none => simp
  | some x => cases h : truD x.2 x.1 <;> simp_all
@[simp] theorem ow_Not : Ow (bNot ba env S) B ↔ Ow (ba env S) fun x => B (!x.1, x.2) := by
  unfold bNot; cases ba env S <;> simp
@[simp] theorem ow_And : Ow (bAnd ba bb env S) B ↔ Ow (ba env S) fun x => if x.1 = true then Ow (bb env x.2) B else B (false, x.2) := by
  unfold bAnd
  cases ba env S with
  | none => simp
  | some x =>
    obtain ⟨t, S1⟩ := x
    cases t <;> simp
@[simp] theorem ow_Or : Ow (bOr ba bb env S) B ↔ Ow (ba env S) fun x => if x.1 = true then B (true, x.2) else Ow (bb env x.2) B := by
  unfold bOr
  cases ba env S with
  | none => simp
  | some x =>
    obtain ⟨t, S1⟩ := x
    cases t <;> simp
@[simp] theorem ow_mAnd : Ow (mAnd a b env S) Q ↔ Ow (a env S) fun x => Ow (asB x.1) fun t => if t = true then Ow (b env x.2) Q else Q (.bl false, x.2) := by
  unfold mAnd
  cases a env S with
  | none => simp
  | some x =>
    obtain ⟨d, S1⟩ := x
    cases d with
    | bl t => cases t <;> simp
    | _ => simp [asB, asI]
@[simp] theorem ow_mOr : Ow (mOr a b env S) Q ↔ Ow (a env S) fun x => Ow (asB x.1) fun t => if t = true then Q (.bl true, x.2) else Ow (b env x.2) Q := by
  unfold mOr
  cases a env S with
  | none => simp
  | some x =>
    obtain ⟨d, S1⟩ := x
    cases d with
    | bl t => cases t <;> simp
    | _ => simp [asB, asI]
@[simp] theorem ow_mNot : Ow (mNot a env S) Q ↔ Ow (a env S) fun x => Ow (asB x.1) fun t => Q (.bl (!t), x.2) := by
  unfold mNot
  cases a env S with
  | none => simp
  | some x =>
    obtain ⟨d, S1⟩ := x
    cases d <;> simp [asB, asI]
@[simp] theorem ow_mIf : Ow (mIf ba a b env S) Q ↔ Ow (ba env S) fun x => if x.1 = true then Ow (a env x.2) Q else Ow (b env x.2) Q := by
  unfold mIf
  cases ba env S with
  | none => simp
  | some x =>
    obtain ⟨t, S1⟩ := x
    cases t <;> simp
@[simp] theorem ow_mIsN : Ow (mIsN a env S) Q ↔ Ow (a env S) fun x => Q (.bl x.1.isNon, x.2) := by
  unfold mIsN; simp
@[simp] theorem ow_mNotN : Ow (mNotN a env S) Q ↔ Ow (a env S) fun x => Q (.bl (!x.1.isNon), x.2) := by
  unfold mNotN; simp
@[simp] theorem ow_chain : Ow (mChain p p' a b c env S) Q ↔ Ow (a env S) fun x => Ow (b env x.2) fun y => Ow (p x.1 y.1 y.2) fun z => Ow (asB z.1) fun t => if t = true then Ow (c env z.2) fun w => Ow (p' y.1 w.1 w.2) Q else Q (.bl false, z.2) := by
  unfold mChain
  cases a env S with
  | none => simp
  | some x =>
    cases h : b env x.2 with
    | none => simp [h]
    | some y =>
      cases h2 : p x.1 y.1 y.2 with
      | none => simp [h, h2]
      | some z =>
        obtain ⟨d, S1⟩ := z
        cases d with
        | bl t =>
          cases t with
          | true => cases h3 : c env S1 <;> simp_all
          | false => simp [h, h2]
        | _ => simp [h, h2, asB]
@[simp] theorem ow_oNone {O : Option Int × Sto → Prop} : Ow (oNone env S) O ↔ O (none, S) := ow_some
@[simp] theorem ow_oSome {O : Option Int × Sto → Prop} : Ow (oSome a env S) O ↔ Ow (a env S) fun x => Ow (asI x.1) fun i => O (some i, x.2) := by
  unfold oSome
  cases a env S with
  | none => simp
  | some x =>
    obtain ⟨d, S1⟩ := x
    cases d <;> simp [asB, asI]
@[simp] theorem ow_mSl {ps : D → Option Int → Option Int → Sto → Option (D × Sto)} {lo hi : OM} : Ow (mSl ps a lo hi env S) Q ↔ Ow (a env S) fun x => Ow (lo env x.2) fun i => Ow (hi env i.2) fun j => Ow (ps x.1 i.1 j.1 j.2) Q := by
  unfold mSl
  cases a env S with
  | none => simp
  | some x =>
    cases h : lo env x.2 with
    | none => simp [h]
    | some y => cases h2 : hi env y.2 <;> simp_all
@[simp] theorem ow_mM0 {Ty : String} {pm : D → List D → Sto → Option (D × Sto)} : Ow (mM0 Ty pm a env S) Q ↔ Ow (a env S) fun x => tyD Ty x.2 x.1 = true ∧ Ow (pm x.1 [] x.2) Q := by
  unfold mM0
  cases a env S with
  | none => simp
  | some x =>
    simp only [ow_some]
    by_cases h : tyD Ty x.2 x.1 = true <;> simp [h]
@[simp] theorem ow_mM {Ty : String} {pm : D → List D → Sto → Option (D × Sto)} : Ow (mM Ty pm a l env S) Q ↔ Ow (a env S) fun x => tyD Ty x.2 x.1 = true ∧ Ow (l env x.2) fun y => Ow (pm x.1 y.1 y.2) Q := by
  unfold mM
  cases a env S with
  | none => simp
  | some x =>
    simp only [ow_some]
    by_cases h : tyD Ty x.2 x.1 = true
    · cases h2 : l env x.2 <;> simp [h, h2]
    · simp [h]
@[simp] theorem ow_mDNew : Ow (mDNew env S) Q ↔ Q (.loc S.length, S ++ [.dct []]) := ow_some
@[simp] theorem ow_prs_nil {R : List (D × D) × Sto → Prop} : Ow (evPairs [] env S) R ↔ R ([], S) := ow_some
@[simp] theorem ow_prs_cons {ps : PMs} {R : List (D × D) × Sto → Prop} : Ow (evPairs ((a, b) :: ps) env S) R ↔ Ow (a env S) fun x => Ow (b env x.2) fun y => Ow (evPairs ps env y.2) fun z => R ((x.1, y.1) :: z.1, z.2) := by
  rw [evPairs]
  cases a env S with
  | none => simp
  | some x =>
    obtain ⟨x, S1⟩ := x
    simp only [ow_some]
    cases b env S1 with
    | none => simp
    | some y =>
      obtain ⟨y, S2⟩ := y
      simp only [ow_some]
      cases evPairs ps env S2 <;> simp
@[simp] theorem ow_mDisp {ps : PMs} : Ow (mDisp ps env S) Q ↔ Ow (evPairs ps env S) fun x => (x.1.all fun p => okKey p.1) = true ∧ Q (.loc x.2.length, x.2 ++ [.dct (x.1.foldl (fun d p => dput d p.1 p.2) [])]) := by
  unfold mDisp
  cases evPairs ps env S with
  | none => simp
  | some x => simp only [ow_some, ow_if]
@[simp] theorem ow_sortK {m : FM} : Ow (mSortK m a env S) Q ↔ Ow (a env S) fun x => Ow (sortKP m x.1 x.2) Q := ow_m1

/-! statements -/
@[simp] theorem ow_next : Ow (sNext env S) T ↔ T (.nx, env, S) := ow_some
@[simp] theorem ow_break : Ow (sBreak env S) T ↔ T (.bk, env, S) := ow_some
@[simp] theorem ow_cont : Ow (sCont env S) T ↔ T (.ct, env, S) := ow_some
@[simp] theorem ow_never : Ow (sNever env S) T ↔ False := ow_none
@[simp] theorem ow_seq : Ow (sSeq sa sb env S) T ↔ Ow (sa env S) fun x => match x.1 with
    | .nx => Ow (sb x.2.1 x.2.2) T
    | .rt d => T (.rt d, x.2)
    | .bk => T (.bk, x.2)
    | .ct => T (.ct, x.2) := by
  unfold sSeq
  cases sa env S with
  | none => simp
  | some x =>
    obtain ⟨fl, e1, S1⟩ := x
    cases fl <;> simp
@[simp] theorem ow_expr : Ow (sExpr a env S) T ↔ Ow (a env S) fun x => T (.nx, env, x.2) := by
  unfold sExpr; cases a env S <;> simp
@[simp] theorem ow_ret : Ow (sRet a env S) T ↔ Ow (a env S) fun x => T (.rt x.1, env, x.2) := by
  unfold sRet; cases a env S <;> simp
@[simp] theorem ow_retN : Ow (sRetN env S) T ↔ T (.rt .non, env, S) := ow_some
@[simp] theorem ow_sIf : Ow (sIf ba sa sb env S) T ↔ Ow (ba env S) fun x => if x.1 = true then Ow (sa env x.2) T else Ow (sb env x.2) T := by
  unfold sIf
  cases ba env S with
  | none => simp
  | some x =>
    obtain ⟨t, S1⟩ := x
    cases t <;> simp
@[simp] theorem ow_asg : Ow (sAsg a g env S) T ↔ Ow (a env S) fun x => Ow (g x.1 env x.2) fun y => T (.nx, y) := by
  unfold sAsg
  cases a env S with
  | none => simp
  | some x => cases h : g x.1 env x.2 <;> simp_all
@[simp] theorem ow_gVar {i : Nat} {d : D} : Ow (gVar i d env S) N ↔ N (env.set i (some d), S) := ow_some
@[simp] theorem ow_gsNil : Ow (gsNil [] env S) N ↔ N (env, S) := ow_some
@[simp] theorem ow_gsCons {d : D} {ds : List D} : Ow (gsCons g gs (d :: ds) env S) N ↔ Ow (g d env S) fun y => Ow (gs ds y.1 y.2) N := by
  simp only [gsCons]
  cases g d env S <;> simp
@[simp] theorem ow_gTup {n : Nat} {ds : List D} : Ow (gTupD n gs (.tup ds) env S) N ↔ ds.length = n ∧ Ow (gs ds env S) N := by
  simp only [gTupD]
  exact ow_if
@[simp] theorem ow_gSub {d : D} : Ow (gSubM a b d env S) N ↔ Ow (a env S) fun x => Ow (b env x.2) fun y => Ow (setP x.1 y.1 d y.2) fun S3 => N (env, S3) := by
  unfold gSubM
  cases a env S with
  | none => simp
  | some x =>
    cases h : b env x.2 with
    | none => simp [h]
    | some y => cases h2 : setP x.1 y.1 d y.2 <;> simp_all
@[simp] theorem ow_aug {i : Nat} : Ow (sAug i p a env S) T ↔ ∃ x, env[i]? = some (some x) ∧ Ow (a env S) fun y => Ow (p x y.1 y.2) fun z => T (.nx, env.set i (some z.1), z.2) := by
  unfold sAug
  cases h : env[i]? with
  | none => simp
  | some o =>
    cases o with
    | none => simp
    | some x =>
      cases h1 : a env S with
      | none => simp
      | some y => cases h2 : p x y.1 y.2 <;> simp_all
theorem ow_runB {n : Nat} {ds : List D} : Ow (runB n sa ds S) Q ↔ Ow (sa (ds.map some ++ List.replicate (n - ds.length) none) S) fun x => match x.1 with
    | .rt d => Q (d, x.2.2)
    | .nx => Q (.non, x.2.2)
    | .bk => False
    | .ct => False := by
  unfold runB
  cases sa (ds.map some ++ List.replicate (n - ds.length) none) S with
  | none => simp
  | some x =>
    obtain ⟨fl, e1, S1⟩ := x
    cases fl <;> simp
@[simp] theorem ow_iSeq {I : DIt × Sto → Prop} : Ow (iSeq a env S) I ↔ Ow (a env S) fun x => (seqD x.2 x.1).isSome = true ∧ I (.seq x.1, x.2) := by
  unfold iSeq
  cases a env S with
  | none => simp
  | some x => cases h : seqD x.2 x.1 <;> simp_all
@[simp] theorem ow_iRng1 {I : DIt × Sto → Prop} : Ow (iRng1M a env S) I ↔ Ow (a env S) fun x => Ow (asI x.1) fun j => (-(2 ^ 62) ≤ j ∧ j < 2 ^ 62) ∧ I (.rng 0 j.toNat, x.2) := by
  unfold iRng1M
  cases a env S with
  | none => simp
  | some x =>
    obtain ⟨d, S1⟩ := x
    cases d <;> simp [ow_if, asI]
@[simp] theorem ow_iRng2 {I : DIt × Sto → Prop} : Ow (iRng2M a b env S) I ↔ Ow (a env S) fun x => Ow (asI x.1) fun i => Ow (b env x.2) fun y => Ow (asI y.1) fun j => (-(2 ^ 62) ≤ i ∧ i < 2 ^ 62 ∧ -(2 ^ 62) ≤ j ∧ j < 2 ^ 62) ∧ I (.rng i (j - i).toNat, y.2) := by
  unfold iRng2M
  cases a env S with
  | none => simp
  | some x =>
    obtain ⟨d, S1⟩ := x
    cases d with
    | int i =>
      cases h : b env S1 with
      | none => simp [h]
      | some y =>
        obtain ⟨d2, S2⟩ := y
        cases d2 <;> simp [h, ow_if, asI]
    | _ => simp [asB, asI]
end

/-! ### loops -/
theorem lcL_inv {it : DIt} {vs : List Nat} {t : Tgt} {tt : BM} {te : EM} {env : Vars} (its : List D) (I : Nat → List D → Sto → Prop) (hit : ∀ j acc S, I j acc S → itAt S it j = some its[j]?)
    (step : ∀ j d acc S, its[j]? = some d → I j acc S → ∃ env1, t.put (wipeD env vs) d = some env1 ∧ Ow (tt env1 S) fun x => if x.1 = true then Ow (te env1 x.2) fun y => acc.length < sizeLine ∧ I (j + 1) (acc ++ [y.1]) y.2 else I (j + 1) acc x.2) :
    ∀ (n j : Nat) (acc : List D) (S : Sto), its.length - j = n → j ≤ its.length → I j acc S → Ow (lcL it vs t tt te env j acc S) fun x => I its.length x.1 x.2
  | 0, j, acc, S, hn, hj, h => by
    have e : j = its.length := by omega
    rw [lcL_eq, hit j acc S h, List.getElem?_eq_none (by omega)]
    simp only [ow_some]
    rw [← e]
    exact h
  | n + 1, j, acc, S, hn, hj, h => by
    have hlt : j < its.length := by omega
    rw [lcL_eq, hit j acc S h, List.getElem?_eq_getElem hlt]
    obtain ⟨env1, e1, e2⟩ := step j _ acc S (List.getElem?_eq_getElem hlt) h
    simp only [e1]
    obtain ⟨⟨b, S1⟩, e3, e4⟩ := e2
    rw [e3]
    cases b with
    | false => exact lcL_inv its I hit step n (j + 1) acc S1 (by omega) (by omega) (by simpa using e4)
    | true =>
      simp only [if_true] at e4
      obtain ⟨⟨y, S2⟩, e5, e6, e7⟩ := e4
      simp only [e5, if_pos e6]
      exact lcL_inv its I hit step n (j + 1) _ S2 (by omega) (by omega) e7
theorem ow_lc {mi : IM} {vs : List Nat} {t : Tgt} {tt : BM} {te : EM} {env : Vars} {S : Sto} {Q : D × Sto → Prop} : Ow (mLc mi vs t tt te env S) Q ↔ Ow (mi env S) fun x => Ow (lcL x.1 vs t tt te env 0 [] x.2) fun y => Q (.loc y.2.length, y.2 ++ [.lst y.1]) := by
  unfold mLc
  cases mi env S with
  | none => simp
  | some x => cases h : lcL x.1 vs t tt te env 0 [] x.2 <;> simp_all
/-- a loop: I at each turn, R where it is left -/
theorem forL_inv {it : DIt} {g : GM} {b : SM} (its : List D) (I : Nat → Vars → Sto → Prop) (R : Fl × Vars × Sto → Prop) (hit : ∀ j env S, I j env S → itAt S it j = some its[j]?)
    (fin : ∀ env S, I its.length env S → R (.nx, env, S))
    (step : ∀ j d env S, its[j]? = some d → I j env S → Ow (g d env S) fun x => Ow (b x.1 x.2) fun y => match y.1 with
      | .nx => I (j + 1) y.2.1 y.2.2
      | .ct => I (j + 1) y.2.1 y.2.2
      | .bk => R (.nx, y.2)
      | .rt d => R (.rt d, y.2)) :
    ∀ (n j : Nat) (env : Vars) (S : Sto), its.length - j = n → j ≤ its.length → I j env S → Ow (forL it g b j env S) R
  | 0, j, env, S, hn, hj, h => by
    have e : j = its.length := by omega
    rw [forL_eq, hit j env S h, List.getElem?_eq_none (by omega)]
    simp only [ow_some]
    exact fin env S (e ▸ h)
  | n + 1, j, env, S, hn, hj, h => by
    have hlt : j < its.length := by omega
    rw [forL_eq, hit j env S h, List.getElem?_eq_getElem hlt]
    obtain ⟨⟨env1, S1⟩, e1, ⟨fl, env2, S2⟩, e2, e3⟩ := step j _ env S (List.getElem?_eq_getElem hlt) h
    simp only [e1, e2]
    cases fl with
    | nx => exact forL_inv its I R hit fin step n (j + 1) env2 S2 (by omega) (by omega) e3
    | ct => exact forL_inv its I R hit fin step n (j + 1) env2 S2 (by omega) (by omega) e3
    | bk => simpa using e3
    | rt d => simpa using e3
theorem ow_for {mi : IM} {g : GM} {b : SM} {env : Vars} {S : Sto} {T : Fl × Vars × Sto → Prop} : Ow (sFor mi g b env S) T ↔ Ow (mi env S) fun x => Ow (forL x.1 g b 0 env x.2) T := by
  unfold sFor
  cases mi env S <;> simp
theorem sWhile_inv {c : BM} {b : SM} (I : Nat → Vars → Sto → Prop) (R : Fl × Vars × Sto → Prop)
    (step : ∀ n env S, I n env S → Ow (c env S) fun x => if x.1 = true then Ow (b env x.2) fun y => match y.1 with
      | .nx => ∃ m, m < n ∧ I m y.2.1 y.2.2
      | .ct => ∃ m, m < n ∧ I m y.2.1 y.2.2
      | .bk => R (.nx, y.2)
      | .rt d => R (.rt d, y.2) else R (.nx, env, x.2)) :
    ∀ (n : Nat) (env : Vars) (S : Sto), I n env S → Ow (sWhile c b env S) R := by
  intro n
  induction n using Nat.strongRecOn with
  | _ n ih =>
    intro env S h
    rw [sWhile_eq]
    obtain ⟨⟨t, S1⟩, e1, e2⟩ := step n env S h
    rw [e1]
    cases t with
    | false => simpa using e2
    | true =>
      simp only [if_true] at e2
      obtain ⟨⟨fl, env2, S2⟩, e3, e4⟩ := e2
      simp only [e3]
      cases fl with
      | nx => obtain ⟨m, hm, hi⟩ := e4; exact ih m hm env2 S2 hi
      | ct => obtain ⟨m, hm, hi⟩ := e4; exact ih m hm env2 S2 hi
      | bk => simpa using e4
      | rt d => simpa using e4
end DL
/-! DLr: the laws' own drawing. -/
namespace DL
open PySem L2

noncomputable def startB : SM := (sRet (mDisp [((mC (.str "cells")), (mLc (iSeq (mVar 0)) [1] (.nm 1) bYes (mL absP (lCons (mL toIntP (lCons (mVar 1) lNil)) lNil)))), ((mC (.str "at")), (mC (.int 0))), ((mC (.str "left")), (mC (.int 0))), ((mC (.str "mix")), (m2 addP (mC (.int 7)) (mL lenP (lCons (mVar 0) lNil))))]))
noncomputable def drawB : SM := (sSeq (sIf (bAnd (bV (m2 eqP (m2 ixQ (mVar 0) (mC (.str "left"))) (mC (.int 0)))) (bV (m2 ltP (m2 ixQ (mVar 0) (mC (.str "at"))) (mL lenP (lCons (m2 ixQ (mVar 0) (mC (.str "cells"))) lNil))))) (sSeq (sAsg (m2 ixQ (m2 ixQ (mVar 0) (mC (.str "cells"))) (m2 ixQ (mVar 0) (mC (.str "at")))) (gVar 2)) (sSeq (sAsg (m2 addP (m2 ixQ (mVar 0) (mC (.str "at"))) (mC (.int 1))) (gSubM (mVar 0) (mC (.str "at")))) (sSeq (sAsg (m2 modP (mL toIntP (lCons (m2 addP (m2 addP (m2 mulP (m2 ixQ (mVar 0) (mC (.str "mix"))) (mC (.int 48271))) (mVar 2)) (mC (.int 11))) lNil)) (mC (.int 2147483647))) (gSubM (mVar 0) (mC (.str "mix")))) (sSeq (sIf (bV (m2 ltP (mVar 2) (m2 powP (mC (.int 10)) (mC (.int 18))))) (sRet (m2 modP (mL toIntP (lCons (mVar 2) lNil)) (mVar 1))) sNext) (sAsg (mVar 2) (gSubM (mVar 0) (mC (.str "left")))))))) sNext) (sSeq (sIf (bV (m2 gtP (m2 ixQ (mVar 0) (mC (.str "left"))) (mC (.int 0)))) (sSeq (sAsg (m2 modP (mL toIntP (lCons (m2 ixQ (mVar 0) (mC (.str "left"))) lNil)) (mVar 1)) (gVar 3)) (sSeq (sAsg (m2 divP (m2 ixQ (mVar 0) (mC (.str "left"))) (mVar 1)) (gSubM (mVar 0) (mC (.str "left")))) (sRet (mVar 3)))) sNext) (sSeq (sAsg (m2 modP (mL toIntP (lCons (m2 addP (m2 mulP (m2 ixQ (mVar 0) (mC (.str "mix"))) (mC (.int 48271))) (mC (.int 11))) lNil)) (mC (.int 2147483647))) (gSubM (mVar 0) (mC (.str "mix")))) (sRet (m2 modP (mL toIntP (lCons (m2 modP (mL toIntP (lCons (m2 addP (m2 mulP (m2 ixQ (mVar 0) (mC (.str "mix"))) (mC (.int 69621))) (mC (.int 5))) lNil)) (mC (.int 2147483629))) lNil)) (mVar 1))))))
noncomputable def pickB (dr : FM) : SM := (sRet (m2 ixQ (mVar 1) (mL dr (lCons (mVar 0) (lCons (mL lenP (lCons (mVar 1) lNil)) lNil)))))
noncomputable def isB : SM := (sRet (mAnd (m1 (isiP "bool") (mVar 0)) (m2 eqP (mVar 0) (mVar 1))))
/-! ### primitives -/
section
variable {S : Sto} {i j : Int} {x y : Str} {ds es : List D} {d : D} {kvs : List (D × D)} {n : Nat}
theorem beq_dec {i j : Int} : (i == j) = decide (i = j) := by rw [Bool.eq_iff_iff]; simp
@[simp] theorem add_ii : addP (.int i) (.int j) S = some (.int (i + j), S) := rfl
@[simp] theorem add_tt : addP (.tup ds) (.tup es) S = if ds.length + es.length ≤ sizeLine then some (.tup (ds ++ es), S) else none := rfl
@[simp] theorem int_ii {f : Int → Int → Int} : intP f (.int i) (.int j) S = some (.int (f i j), S) := rfl
@[simp] theorem neg_i : negP (.int i) S = some (.int (-i), S) := rfl
theorem mul_ii (h : small i = true ∨ small j = true) : mulP (.int i) (.int j) S = some (.int (i * j), S) := by simp [mulP, h]
theorem mod_ii (h : 0 < j) : modP (.int i) (.int j) S = some (.int (i % j), S) := by simp [modP, h]
theorem div_ii (h : 0 < j) (h2 : j < 1073741824) : divP (.int i) (.int j) S = some (.int (i / j), S) := by simp [divP, h, h2]
@[simp] theorem lt_ii : ltP (.int i) (.int j) S = some (.bl (decide (i < j)), S) := by simp [ltP, ltD, D.pure, D.py, SeqAt.shaped, PyData.canLay0, PyData.depth]
@[simp] theorem gt_ii : gtP (.int i) (.int j) S = some (.bl (decide (j < i)), S) := rfl
@[simp] theorem ge_ii : geP (.int i) (.int j) S = some (.bl (decide (j ≤ i)), S) := rfl
@[simp] theorem le_ii : leP (.int i) (.int j) S = some (.bl (decide (i ≤ j)), S) := rfl
@[simp] theorem eq_ii : eqP (.int i) (.int j) S = some (.bl (decide (i = j)), S) := by simp [eqP, pyOf, D.pure, D.py, SeqAt.shaped, PyData.canLay0, PyData.depth, PyData.eqv, beq_dec]
@[simp] theorem ne_ii : neP (.int i) (.int j) S = some (.bl (!decide (i = j)), S) := by simp [neP, pyOf, D.pure, D.py, SeqAt.shaped, PyData.canLay0, PyData.depth, PyData.eqv, beq_dec]
@[simp] theorem toInt_i : toIntP [.int i] S = some (.int i, S) := rfl
@[simp] theorem abs_i : absP [.int i] S = some (.int (if i < 0 then -i else i), S) := rfl
@[simp] theorem len_tup : lenP [.tup ds] S = some (.int ds.length, S) := rfl
@[simp] theorem min_ii : min2P [.int i, .int j] S = some (.int (if j < i then j else i), S) := rfl
@[simp] theorem max_ii : max2P [.int i, .int j] S = some (.int (if j > i then j else i), S) := rfl
theorem len_loc (h : S[n]? = some (.lst ds)) : lenP [.loc n] S = some (.int ds.length, S) := by simp [lenP, seqD, h]
theorem ix_dct (h : S[n]? = some (.dct kvs)) {k v : D} (h2 : okKey k = true) (h3 : dget kvs k = some v) : ixQ (.loc n) k S = some (v, S) := by simp [ixQ, dctD, h, h2, h3]
theorem ix_lst (h : S[n]? = some (.lst ds)) (h2 : 0 ≤ i) {d : D} (h3 : ds[i.toNat]? = some d) : ixQ (.loc n) (.int i) S = some (d, S) := by
  have hl : i.toNat < ds.length := (List.getElem?_eq_some_iff.mp h3).1
  simp only [ixQ, dctD, h, ixP, seqD, L2.atI, L2.ixN, if_pos h2, if_pos (show i < (ds.length : Int) by omega), Option.bind_some, h3]
theorem ix_tup (h2 : 0 ≤ i) {d : D} (h3 : ds[i.toNat]? = some d) : ixQ (.tup ds) (.int i) S = some (d, S) := by
  have hl : i.toNat < ds.length := (List.getElem?_eq_some_iff.mp h3).1
  simp only [ixQ, dctD, ixP, L2.atI, L2.ixN, if_pos h2, if_pos (show i < (ds.length : Int) by omega), Option.bind_some, h3]
end

section
variable {S : Sto} {i : Int} {b : Bool} {x : Str} {ds : List D}
@[simp] theorem isi_tuple_non : isiP "tuple" .non S = some (.bl false, S) := by
  have e : L2.kitB "NoneType" "tuple" = some false := by decide +kernel
  simp [isiP, tyN, e]
@[simp] theorem isi_tuple_bl : isiP "tuple" (.bl b) S = some (.bl false, S) := by
  have e : L2.kitB "bool" "tuple" = some false := by decide +kernel
  simp [isiP, tyN, e]
@[simp] theorem isi_tuple_int : isiP "tuple" (.int i) S = some (.bl false, S) := by
  have e : L2.kitB "int" "tuple" = some false := by decide +kernel
  simp [isiP, tyN, e]
@[simp] theorem isi_tuple_str : isiP "tuple" (.str x) S = some (.bl false, S) := by
  have e : L2.kitB "str" "tuple" = some false := by decide +kernel
  simp [isiP, tyN, e]
@[simp] theorem isi_tuple_tup : isiP "tuple" (.tup ds) S = some (.bl true, S) := by
  have e : L2.kitB "tuple" "tuple" = some true := by decide +kernel
  simp [isiP, tyN, e]
@[simp] theorem isi_str_non : isiP "str" .non S = some (.bl false, S) := by
  have e : L2.kitB "NoneType" "str" = some false := by decide +kernel
  simp [isiP, tyN, e]
@[simp] theorem isi_str_bl : isiP "str" (.bl b) S = some (.bl false, S) := by
  have e : L2.kitB "bool" "str" = some false := by decide +kernel
  simp [isiP, tyN, e]
@[simp] theorem isi_str_int : isiP "str" (.int i) S = some (.bl false, S) := by
  have e : L2.kitB "int" "str" = some false := by decide +kernel
  simp [isiP, tyN, e]
@[simp] theorem isi_str_str : isiP "str" (.str x) S = some (.bl true, S) := by
  have e : L2.kitB "str" "str" = some true := by decide +kernel
  simp [isiP, tyN, e]
@[simp] theorem isi_str_tup : isiP "str" (.tup ds) S = some (.bl false, S) := by
  have e : L2.kitB "tuple" "str" = some false := by decide +kernel
  simp [isiP, tyN, e]
@[simp] theorem isi_int_non : isiP "int" .non S = some (.bl false, S) := by
  have e : L2.kitB "NoneType" "int" = some false := by decide +kernel
  simp [isiP, tyN, e]
@[simp] theorem isi_int_bl : isiP "int" (.bl b) S = some (.bl true, S) := by
  have e : L2.kitB "bool" "int" = some true := by decide +kernel
  simp [isiP, tyN, e]
@[simp] theorem isi_int_int : isiP "int" (.int i) S = some (.bl true, S) := by
  have e : L2.kitB "int" "int" = some true := by decide +kernel
  simp [isiP, tyN, e]
@[simp] theorem isi_int_str : isiP "int" (.str x) S = some (.bl false, S) := by
  have e : L2.kitB "str" "int" = some false := by decide +kernel
  simp [isiP, tyN, e]
@[simp] theorem isi_int_tup : isiP "int" (.tup ds) S = some (.bl false, S) := by
  have e : L2.kitB "tuple" "int" = some false := by decide +kernel
  simp [isiP, tyN, e]
@[simp] theorem isi_bool_non : isiP "bool" .non S = some (.bl false, S) := by
  have e : L2.kitB "NoneType" "bool" = some false := by decide +kernel
  simp [isiP, tyN, e]
@[simp] theorem isi_bool_bl : isiP "bool" (.bl b) S = some (.bl true, S) := by
  have e : L2.kitB "bool" "bool" = some true := by decide +kernel
  simp [isiP, tyN, e]
@[simp] theorem isi_bool_int : isiP "bool" (.int i) S = some (.bl false, S) := by
  have e : L2.kitB "int" "bool" = some false := by decide +kernel
  simp [isiP, tyN, e]
@[simp] theorem isi_bool_str : isiP "bool" (.str x) S = some (.bl false, S) := by
  have e : L2.kitB "str" "bool" = some false := by decide +kernel
  simp [isiP, tyN, e]
@[simp] theorem isi_bool_tup : isiP "bool" (.tup ds) S = some (.bl false, S) := by
  have e : L2.kitB "tuple" "bool" = some false := by decide +kernel
  simp [isiP, tyN, e]
@[simp] theorem isi_list_non : isiP "list" .non S = some (.bl false, S) := by
  have e : L2.kitB "NoneType" "list" = some false := by decide +kernel
  simp [isiP, tyN, e]
@[simp] theorem isi_list_bl : isiP "list" (.bl b) S = some (.bl false, S) := by
  have e : L2.kitB "bool" "list" = some false := by decide +kernel
  simp [isiP, tyN, e]
@[simp] theorem isi_list_int : isiP "list" (.int i) S = some (.bl false, S) := by
  have e : L2.kitB "int" "list" = some false := by decide +kernel
  simp [isiP, tyN, e]
@[simp] theorem isi_list_str : isiP "list" (.str x) S = some (.bl false, S) := by
  have e : L2.kitB "str" "list" = some false := by decide +kernel
  simp [isiP, tyN, e]
@[simp] theorem isi_list_tup : isiP "list" (.tup ds) S = some (.bl false, S) := by
  have e : L2.kitB "tuple" "list" = some false := by decide +kernel
  simp [isiP, tyN, e]
@[simp] theorem tru_bl : truD S (.bl b) = some b := rfl
@[simp] theorem tru_int : truD S (.int i) = some (i != 0) := rfl
@[simp] theorem tru_tup : truD S (.tup ds) = some (!ds.isEmpty) := rfl
@[simp] theorem tru_non : truD S .non = some false := rfl
@[simp] theorem in_non : D.isNon .non = true := rfl
@[simp] theorem in_bl : D.isNon (.bl b) = false := rfl
@[simp] theorem in_int : D.isNon (.int i) = false := rfl
@[simp] theorem in_str : D.isNon (.str x) = false := rfl
@[simp] theorem in_tup : D.isNon (.tup ds) = false := rfl
@[simp] theorem in_loc {n : Nat} : D.isNon (.loc n) = false := rfl
end
theorem fits {n : Nat} (h : n ≤ 1000) : n ≤ sizeLine := Nat.le_trans h (by decide)
theorem fits_lt {n : Nat} (h : n ≤ 1000) : n < sizeLine := Nat.lt_of_le_of_lt h (by decide)
theorem lst_ok {ds : List D} {S : Sto} (h : ds.length ≤ 1000) : lstP ds S = some (.loc S.length, S ++ [.lst ds]) := if_pos (fits h)
theorem tup_ok {ds : List D} {S : Sto} (h : ds.length ≤ 1000) : tupP ds S = some (.tup ds, S) := if_pos (fits h)

/-! ### the state -/
def stK (c : D) (a l m : Int) : List (D × D) := [(.str "cells", c), (.str "at", .int a), (.str "left", .int l), (.str "mix", .int m)]
def mkS (cells : List Int) (a l m : Int) (T : Sto) : Sto := .lst (cells.map D.int) :: .dct (stK (.loc 0) a l m) :: T
/-- the law's state lies at 1, its cells at 0; behind them T -/
def DSt (T : Sto) (S : Sto) : Prop := ∃ cells a l m, 0 ≤ a ∧ S = mkS cells a l m T
theorem okStr {x : Str} : okKey (.str x) = true := by simp [okKey, D.pure, D.depth]
theorem g_cells {c : D} {a l m : Int} : dget (stK c a l m) (.str "cells") = some c := by rfl
theorem g_at {c : D} {a l m : Int} : dget (stK c a l m) (.str "at") = some (.int a) := by rfl
theorem g_left {c : D} {a l m : Int} : dget (stK c a l m) (.str "left") = some (.int l) := by rfl
theorem g_mix {c : D} {a l m : Int} : dget (stK c a l m) (.str "mix") = some (.int m) := by rfl
theorem p_at {c : D} {a l m v : Int} : dput (stK c a l m) (.str "at") (.int v) = stK c v l m := by rfl
theorem p_left {c : D} {a l m v : Int} : dput (stK c a l m) (.str "left") (.int v) = stK c a v m := by rfl
theorem p_mix {c : D} {a l m v : Int} : dput (stK c a l m) (.str "mix") (.int v) = stK c a l v := by rfl
section
variable {cells : List Int} {a l m v i : Int} {T : Sto}
@[simp] theorem s_cells : ixQ (.loc 1) (.str "cells") (mkS cells a l m T) = some (.loc 0, mkS cells a l m T) := ix_dct rfl okStr g_cells
@[simp] theorem s_at : ixQ (.loc 1) (.str "at") (mkS cells a l m T) = some (.int a, mkS cells a l m T) := ix_dct rfl okStr g_at
@[simp] theorem s_left : ixQ (.loc 1) (.str "left") (mkS cells a l m T) = some (.int l, mkS cells a l m T) := ix_dct rfl okStr g_left
@[simp] theorem s_mix : ixQ (.loc 1) (.str "mix") (mkS cells a l m T) = some (.int m, mkS cells a l m T) := ix_dct rfl okStr g_mix
@[simp] theorem s_len : lenP [.loc 0] (mkS cells a l m T) = some (.int cells.length, mkS cells a l m T) := by rw [len_loc (ds := cells.map D.int) rfl]; simp
theorem set_st {k : D} {kvs : List (D × D)} (h : dput (stK (.loc 0) a l m) k (.int v) = kvs) (hk : okKey k = true) : setP (.loc 1) k (.int v) (mkS cells a l m T) = some (.lst (cells.map D.int) :: .dct kvs :: T) := by
  have e : dctD (mkS cells a l m T) (.loc 1) = some (stK (.loc 0) a l m) := rfl
  simp only [setP, e, hk, h, true_and]
  rw [if_pos (show (stK (.loc 0) a l m).length < sizeLine by show 4 < 2 ^ 24; decide)]
  rfl
@[simp] theorem st_at : setP (.loc 1) (.str "at") (.int v) (mkS cells a l m T) = some (mkS cells v l m T) := set_st p_at okStr
@[simp] theorem st_left : setP (.loc 1) (.str "left") (.int v) (mkS cells a l m T) = some (mkS cells a v m T) := set_st p_left okStr
@[simp] theorem st_mix : setP (.loc 1) (.str "mix") (.int v) (mkS cells a l m T) = some (mkS cells a l v T) := set_st p_mix okStr
theorem s_cell (h0 : 0 ≤ i) (h1 : i < cells.length) : ∃ c, ixQ (.loc 0) (.int i) (mkS cells a l m T) = some (.int c, mkS cells a l m T) := by
  have hl : i.toNat < cells.length := by omega
  exact ⟨cells[i.toNat], ix_lst (ds := cells.map D.int) rfl h0 (by simp [List.getElem?_eq_getElem hl])⟩
end
theorem pow18 {S : Sto} : powP (.int 10) (.int 18) S = some (.int (10 ^ 18), S) := by rfl
/-- a draw: a number below the bound -/
theorem draw_ok {T S : Sto} {b : Int} (h : DSt T S) (h0 : 0 < b) (h1 : b < 1073741824) : Ow (runB 4 drawB [.loc 1, .int b] S) fun x => ∃ i, x.1 = .int i ∧ 0 ≤ i ∧ i < b ∧ DSt T x.2 := by
  obtain ⟨cells, a, l, m, ha, rfl⟩ := h
  have k1 : small 48271 = true := by decide
  have k2 : small 69621 = true := by decide
  have k3 : ∀ x : Int, 0 ≤ x % b := fun x => Int.emod_nonneg _ (by omega)
  have k4 : ∀ x : Int, x % b < b := fun x => Int.emod_lt_of_pos _ h0
  have k5 : ∀ {a l m : Int}, 0 ≤ a → DSt T (mkS cells a l m T) := fun {a l m} ha => ⟨cells, a, l, m, ha, rfl⟩
  rw [ow_runB]
  unfold drawB
  simp [mul_ii, k1, k2, mod_ii, h0, div_ii, h1, pow18, k3, k4, k5 ha]
  intro hl hc
  obtain ⟨c, hcell⟩ := s_cell (l := l) (m := m) (T := T) ha hc
  subst hl
  rw [hcell]
  simp [mul_ii, k1, k2, mod_ii, h0, div_ii, h1, pow18, k3, k4, k5 (show (0 : Int) ≤ a + 1 by omega)]
theorem DSt.at {T S : Sto} (h : DSt T S) (k : Nat) : S[k + 2]? = T[k]? := by
  obtain ⟨cells, a, l, m, _, rfl⟩ := h
  simp [mkS]
theorem DSt.len {T S : Sto} (h : DSt T S) : S.length = T.length + 2 := by
  obtain ⟨cells, a, l, m, _, rfl⟩ := h
  simp [mkS]
theorem DSt.app {T S : Sto} (h : DSt T S) (U : Sto) : DSt (T ++ U) (S ++ U) := by
  obtain ⟨cells, a, l, m, ha, rfl⟩ := h
  exact ⟨cells, a, l, m, ha, by simp [mkS]⟩
theorem DSt.set {T S : Sto} (h : DSt T S) (k : Nat) (o : Ob) : DSt (T.set k o) (S.set (k + 2) o) := by
  obtain ⟨cells, a, l, m, ha, rfl⟩ := h
  exact ⟨cells, a, l, m, ha, by simp [mkS]⟩
/-- the laws' state made -/
theorem start_ok {ns : List Int} (h : ns.length ≤ 63) : Ow (runB 2 startB [.scr ns] []) fun x => x.1 = .loc 1 ∧ DSt [] x.2 := by
  rw [ow_runB]
  unfold startB
  simp [ow_lc, seqD]
  refine (lcL_inv (ns.map D.int) (fun j acc S => S = [] ∧ ∃ cs : List Int, acc = cs.map D.int ∧ cs.length = j) (fun j acc S _ => by simp [itAt, seqD]) (fun j d acc S hd hI => ?_) ns.length 0 [] [] (by simp) (by simp) ⟨rfl, [], rfl, rfl⟩).imp ?_
  · obtain ⟨rfl, cs, rfl, hcs⟩ := hI
    have hj : j < ns.length := by
      have := (List.getElem?_eq_some_iff.mp hd).1
      simpa using this
    obtain ⟨c, rfl⟩ : ∃ c, d = .int c := by
      rw [List.getElem?_map] at hd
      cases e : ns[j]? with
      | none => rw [e] at hd; cases hd
      | some c => rw [e] at hd; exact ⟨c, by simpa using hd.symm⟩
    refine ⟨_, rfl, ?_⟩
    simp [bYes, wipeD]
    refine ⟨?_, cs ++ [if c < 0 then -c else c], by simp, by simp [hcs]⟩
    show cs.length < 2 ^ 24
    omega
  · rintro ⟨ds, S1⟩ ⟨hS, cs, hd, hl⟩
    simp only at hS hd
    subst hS hd
    simp [lenP]
    refine ⟨?_, cs, 0, 0, 7 + ns.length, by simp, rfl⟩
    rintro a b (⟨rfl, _⟩ | ⟨rfl, _⟩ | ⟨rfl, _⟩ | ⟨rfl, _⟩) <;> exact okStr
/-- what a draw gives -/
def DrawOk (dr : FM) : Prop := ∀ (T S : Sto) (b : Int), DSt T S → 0 < b → b < 1073741824 → Ow (dr [.loc 1, .int b] S) fun x => ∃ i, x.1 = .int i ∧ 0 ≤ i ∧ i < b ∧ DSt T x.2
theorem drawOk : DrawOk (runB 4 drawB) := fun _ _ _ h h0 h1 => draw_ok h h0 h1
/-- one of the things -/
theorem pick_loc {dr : FM} (hd : DrawOk dr) {T S : Sto} {k : Nat} {ds : List D} (h : DSt T S) (hk : T[k]? = some (.lst ds)) (h0 : ds ≠ []) (h1 : ds.length < 1073741824) : Ow (runB 2 (pickB dr) [.loc 1, .loc (k + 2)] S) fun x => x.1 ∈ ds ∧ DSt T x.2 := by
  rw [ow_runB]
  unfold pickB
  simp [len_loc ((h.at k).trans hk)]
  have hp : 0 < ds.length := List.length_pos_iff.mpr h0
  refine (hd T S ds.length h (by omega) (by omega)).imp ?_
  rintro ⟨d, S1⟩ ⟨i, hi, i0, i1, h2⟩
  simp only at hi h2
  subst hi
  have hl : i.toNat < ds.length := by omega
  simp [ix_lst ((h2.at k).trans hk) i0 (List.getElem?_eq_getElem hl), h2]
theorem pick_tup {dr : FM} (hd : DrawOk dr) {T S : Sto} {ds : List D} (h : DSt T S) (h0 : ds ≠ []) (h1 : ds.length < 1073741824) : Ow (runB 2 (pickB dr) [.loc 1, .tup ds] S) fun x => x.1 ∈ ds ∧ DSt T x.2 := by
  rw [ow_runB]
  unfold pickB
  simp
  have hp : 0 < ds.length := List.length_pos_iff.mpr h0
  refine (hd T S ds.length h (by omega) (by omega)).imp ?_
  rintro ⟨d, S1⟩ ⟨i, hi, i0, i1, h2⟩
  simp only at hi h2
  subst hi
  have hl : i.toNat < ds.length := by omega
  simp [ix_tup i0 (List.getElem?_eq_getElem hl), h2]
end DL
namespace DL
namespace K28
open PySem PySem.Spec L2
open PyProof.Rows hiding St
abbrev prg : Program := PySem.Challenge.pw_calltowers_k28_order_of_things
abbrev st0 : Stmt := topOf prg 1
abbrev nm0 : List Str := ["thing", "part"]
abbrev ps0 : List Str := ["thing"]
theorem sc0 : FnScope nm0 ps0 (defScope st0) := ⟨rfl, rfl, rfl, by decide +kernel, rfl, by decide +kernel, by decide +kernel⟩
abbrev st1 : Stmt := topOf prg 3
abbrev nm1 : List Str := ["_law_script", "_law_cell"]
abbrev ps1 : List Str := ["_law_script"]
theorem sc1 : FnScope nm1 ps1 (defScope st1) := ⟨rfl, rfl, rfl, by decide +kernel, rfl, by decide +kernel, by decide +kernel⟩
abbrev st2 : Stmt := topOf prg 4
abbrev nm2 : List Str := ["_law_state", "_law_bound", "_law_cell", "_law_number"]
abbrev ps2 : List Str := ["_law_state", "_law_bound"]
theorem sc2 : FnScope nm2 ps2 (defScope st2) := ⟨rfl, rfl, rfl, by decide +kernel, rfl, by decide +kernel, by decide +kernel⟩
abbrev st3 : Stmt := topOf prg 5
abbrev nm3 : List Str := ["_law_state", "_law_things"]
abbrev ps3 : List Str := ["_law_state", "_law_things"]
theorem sc3 : FnScope nm3 ps3 (defScope st3) := ⟨rfl, rfl, rfl, by decide +kernel, rfl, by decide +kernel, by decide +kernel⟩
abbrev st4 : Stmt := topOf prg 6
abbrev nm4 : List Str := ["_law_thing_here"]
abbrev ps4 : List Str := ["_law_thing_here"]
theorem sc4 : FnScope nm4 ps4 (defScope st4) := ⟨rfl, rfl, rfl, by decide +kernel, rfl, by decide +kernel, by decide +kernel⟩
abbrev st5 : Stmt := topOf prg 7
abbrev nm5 : List Str := ["_law_actual", "_law_due"]
abbrev ps5 : List Str := ["_law_actual", "_law_due"]
theorem sc5 : FnScope nm5 ps5 (defScope st5) := ⟨rfl, rfl, rfl, by decide +kernel, rfl, by decide +kernel, by decide +kernel⟩
abbrev st6 : Stmt := topOf prg 8
abbrev nm6 : List Str := ["_law_state", "_law_deep", "_law_kind_here", "_law_k"]
abbrev ps6 : List Str := ["_law_state", "_law_deep"]
theorem sc6 : FnScope nm6 ps6 (defScope st6) := ⟨rfl, rfl, rfl, by decide +kernel, rfl, by decide +kernel, by decide +kernel⟩
abbrev st7 : Stmt := topOf prg 9
abbrev nm7 : List Str := ["_law_thing_here"]
abbrev ps7 : List Str := ["_law_thing_here"]
theorem sc7 : FnScope nm7 ps7 (defScope st7) := ⟨rfl, rfl, rfl, by decide +kernel, rfl, by decide +kernel, by decide +kernel⟩
abbrev st8 : Stmt := topOf prg 10
abbrev nm8 : List Str := ["_law_one", "_law_two", "_law_k"]
abbrev ps8 : List Str := ["_law_one", "_law_two"]
theorem sc8 : FnScope nm8 ps8 (defScope st8) := ⟨rfl, rfl, rfl, by decide +kernel, rfl, by decide +kernel, by decide +kernel⟩
abbrev st9 : Stmt := topOf prg 11
abbrev nm9 : List Str := ["_law_script", "_law_state", "_law_one", "_law_two", "_law_things", "_law_ordered", "_law_k"]
abbrev ps9 : List Str := ["_law_script"]
theorem sc9 : FnScope nm9 ps9 (defScope st9) := ⟨rfl, rfl, rfl, by decide +kernel, rfl, by decide +kernel, by decide +kernel⟩
abbrev stN : Nat → Stmt
  | 0 => st0
  | 1 => st1
  | 2 => st2
  | 3 => st3
  | 4 => st4
  | 5 => st5
  | 6 => st6
  | 7 => st7
  | 8 => st8
  | 9 => st9
  | _ => st0
abbrev psN : Nat → List Str
  | 0 => ps0
  | 1 => ps1
  | 2 => ps2
  | 3 => ps3
  | 4 => ps4
  | 5 => ps5
  | 6 => ps6
  | 7 => ps7
  | 8 => ps8
  | 9 => ps9
  | _ => ps0
abbrev nmN : Nat → Str
  | 0 => "rank"
  | 1 => "_law_start"
  | 2 => "_law_draw"
  | 3 => "_law_pick"
  | 4 => "_law_is_number"
  | 5 => "_law_is"
  | 6 => "_law_thing"
  | 7 => "_law_kind"
  | 8 => "_law_ahead"
  | 9 => "law"
  | _ => "rank"
/-- rank -/
noncomputable def bd0 (cl cl2 : Nat → FM) : SM := (sSeq (sIf (bV (mIsN (mVar 0))) (sRet (mL tupP (lCons (mC (.int 0)) lNil))) sNext) (sSeq (sIf (bTru (m1 (isiP "tuple") (mVar 0))) (sRet (mL tupP (lCons (mC (.int 3)) (lStar (mLc (iSeq (mVar 0)) [1] (.nm 1) bYes (mL (cl 0) (lCons (mVar 1) lNil))) lNil)))) sNext) (sSeq (sIf (bTru (m1 (isiP "str") (mVar 0))) (sRet (mL tupP (lCons (mC (.int 2)) (lCons (mVar 0) lNil)))) sNext) (sRet (mL tupP (lCons (mC (.int 1)) (lCons (mVar 0) lNil)))))))
/-- _law_start -/
noncomputable def bd1 (cl cl2 : Nat → FM) : SM := (sRet (mDisp [((mC (.str "cells")), (mLc (iSeq (mVar 0)) [1] (.nm 1) bYes (mL absP (lCons (mL toIntP (lCons (mVar 1) lNil)) lNil)))), ((mC (.str "at")), (mC (.int 0))), ((mC (.str "left")), (mC (.int 0))), ((mC (.str "mix")), (m2 addP (mC (.int 7)) (mL lenP (lCons (mVar 0) lNil))))]))
/-- _law_draw -/
noncomputable def bd2 (cl cl2 : Nat → FM) : SM := (sSeq (sIf (bAnd (bV (m2 eqP (m2 ixQ (mVar 0) (mC (.str "left"))) (mC (.int 0)))) (bV (m2 ltP (m2 ixQ (mVar 0) (mC (.str "at"))) (mL lenP (lCons (m2 ixQ (mVar 0) (mC (.str "cells"))) lNil))))) (sSeq (sAsg (m2 ixQ (m2 ixQ (mVar 0) (mC (.str "cells"))) (m2 ixQ (mVar 0) (mC (.str "at")))) (gVar 2)) (sSeq (sAsg (m2 addP (m2 ixQ (mVar 0) (mC (.str "at"))) (mC (.int 1))) (gSubM (mVar 0) (mC (.str "at")))) (sSeq (sAsg (m2 modP (mL toIntP (lCons (m2 addP (m2 addP (m2 mulP (m2 ixQ (mVar 0) (mC (.str "mix"))) (mC (.int 48271))) (mVar 2)) (mC (.int 11))) lNil)) (mC (.int 2147483647))) (gSubM (mVar 0) (mC (.str "mix")))) (sSeq (sIf (bV (m2 ltP (mVar 2) (m2 powP (mC (.int 10)) (mC (.int 18))))) (sRet (m2 modP (mL toIntP (lCons (mVar 2) lNil)) (mVar 1))) sNext) (sAsg (mVar 2) (gSubM (mVar 0) (mC (.str "left")))))))) sNext) (sSeq (sIf (bV (m2 gtP (m2 ixQ (mVar 0) (mC (.str "left"))) (mC (.int 0)))) (sSeq (sAsg (m2 modP (mL toIntP (lCons (m2 ixQ (mVar 0) (mC (.str "left"))) lNil)) (mVar 1)) (gVar 3)) (sSeq (sAsg (m2 divP (m2 ixQ (mVar 0) (mC (.str "left"))) (mVar 1)) (gSubM (mVar 0) (mC (.str "left")))) (sRet (mVar 3)))) sNext) (sSeq (sAsg (m2 modP (mL toIntP (lCons (m2 addP (m2 mulP (m2 ixQ (mVar 0) (mC (.str "mix"))) (mC (.int 48271))) (mC (.int 11))) lNil)) (mC (.int 2147483647))) (gSubM (mVar 0) (mC (.str "mix")))) (sRet (m2 modP (mL toIntP (lCons (m2 modP (mL toIntP (lCons (m2 addP (m2 mulP (m2 ixQ (mVar 0) (mC (.str "mix"))) (mC (.int 69621))) (mC (.int 5))) lNil)) (mC (.int 2147483629))) lNil)) (mVar 1))))))
/-- _law_pick -/
noncomputable def bd3 (cl cl2 : Nat → FM) : SM := (sRet (m2 ixQ (mVar 1) (mL (cl 2) (lCons (mVar 0) (lCons (mL lenP (lCons (mVar 1) lNil)) lNil)))))
/-- _law_is_number -/
noncomputable def bd4 (cl cl2 : Nat → FM) : SM := (sRet (mAnd (m1 (isiP "int") (mVar 0)) (mNot (m1 (isiP "bool") (mVar 0)))))
/-- _law_is -/
noncomputable def bd5 (cl cl2 : Nat → FM) : SM := (sRet (mAnd (m1 (isiP "bool") (mVar 0)) (m2 eqP (mVar 0) (mVar 1))))
/-- _law_thing -/
noncomputable def bd6 (cl cl2 : Nat → FM) : SM := (sSeq (sAsg (mL (cl 2) (lCons (mVar 0) (lCons (mIf (bV (m2 gtP (mVar 1) (mC (.int 0)))) (mC (.int 5)) (mC (.int 3))) lNil))) (gVar 2)) (sSeq (sIf (bV (m2 eqP (mVar 2) (mC (.int 0)))) (sRet (mL (cl 3) (lCons (mVar 0) (lCons (mL lstP (lCons (mC .non) (lCons (mC (.int 0)) (lCons (mC (.int 1)) (lCons (m1 negP (mC (.int 5))) (lCons (m2 powP (mC (.int 10)) (mC (.int 20))) lNil)))))) lNil)))) sNext) (sSeq (sIf (bV (m2 ltP (mVar 2) (mC (.int 3)))) (sRet (mL (cl 3) (lCons (mVar 0) (lCons (mL lstP (lCons (mC (.str "")) (lCons (mC (.str "a")) (lCons (mC (.str "ab")) (lCons (mC (.str "b")) (lCons (mC (.int 7)) (lCons (mC (.int 8)) (lCons (mC .non) lNil)))))))) lNil)))) sNext) (sRet (mL tupleP (lCons (mLc (iRng1M (mL (cl 2) (lCons (mVar 0) (lCons (mC (.int 4)) lNil)))) [3] (.nm 3) bYes (mL (cl 6) (lCons (mVar 0) (lCons (m2 (intP fun i j => i - j) (mVar 1) (mC (.int 1))) lNil)))) lNil))))))
/-- _law_kind -/
noncomputable def bd7 (cl cl2 : Nat → FM) : SM := (sSeq (sIf (bV (mIsN (mVar 0))) (sRet (mC (.int 0))) sNext) (sSeq (sIf (bTru (m1 (isiP "tuple") (mVar 0))) (sRet (mC (.int 3))) sNext) (sRet (mIf (bTru (m1 (isiP "str") (mVar 0))) (mC (.int 2)) (mC (.int 1))))))
/-- _law_ahead -/
noncomputable def bd8 (cl cl2 : Nat → FM) : SM := (sSeq (sIf (bV (m2 neP (mL (cl 7) (lCons (mVar 0) lNil)) (mL (cl 7) (lCons (mVar 1) lNil)))) (sRet (m2 ltP (mL (cl 7) (lCons (mVar 0) lNil)) (mL (cl 7) (lCons (mVar 1) lNil)))) sNext) (sSeq (sIf (bV (mIsN (mVar 0))) (sRet (mC (.bl false))) sNext) (sSeq (sIf (bNot (bTru (m1 (isiP "tuple") (mVar 0)))) (sRet (m2 ltP (mVar 0) (mVar 1))) sNext) (sSeq (sFor (iRng1M (mL min2P (lCons (mL lenP (lCons (mVar 0) lNil)) (lCons (mL lenP (lCons (mVar 1) lNil)) lNil)))) (gVar 2) (sIf (bV (m2 neP (m2 ixQ (mVar 0) (mVar 2)) (m2 ixQ (mVar 1) (mVar 2)))) (sRet (mL (cl 8) (lCons (m2 ixQ (mVar 0) (mVar 2)) (lCons (m2 ixQ (mVar 1) (mVar 2)) lNil)))) sNext)) (sRet (m2 ltP (mL lenP (lCons (mVar 0) lNil)) (mL lenP (lCons (mVar 1) lNil))))))))
/-- law -/
noncomputable def bd9 (cl cl2 : Nat → FM) : SM := (sSeq (sAsg (mL (cl 1) (lCons (mVar 0) lNil)) (gVar 1)) (sSeq (sAsg (mL (cl 6) (lCons (mVar 1) (lCons (mC (.int 3)) lNil))) (gVar 2)) (sSeq (sAsg (mL (cl 6) (lCons (mVar 1) (lCons (mC (.int 3)) lNil))) (gVar 3)) (sSeq (sIf (bAnd (bTru (m1 (isiP "tuple") (mVar 2))) (bV (m2 eqP (mL (cl 2) (lCons (mVar 1) (lCons (mC (.int 2)) lNil))) (mC (.int 0))))) (sAsg (m2 addP (mSl slP (mVar 2) oNone (oSome (mL (cl 2) (lCons (mVar 1) (lCons (m2 addP (mL lenP (lCons (mVar 2) lNil)) (mC (.int 1))) lNil))))) (mL (cl 3) (lCons (mVar 1) (lCons (mL lstP (lCons (mL tupP lNil) (lCons (mL tupP (lCons (mC .non) lNil)) (lCons (mL tupP (lCons (mC (.str "a")) lNil)) lNil)))) lNil)))) (gVar 3)) sNext) (sSeq (sIf (bOr (bNot (bTru (mL (cl 5) (lCons (m2 ltP (mL (cl 0) (lCons (mVar 2) lNil)) (mL (cl 0) (lCons (mVar 3) lNil))) (lCons (mL (cl 8) (lCons (mVar 2) (lCons (mVar 3) lNil))) lNil))))) (bV (m2 neP (m2 eqP (mL (cl 0) (lCons (mVar 2) lNil)) (mL (cl 0) (lCons (mVar 3) lNil))) (m2 eqP (mVar 2) (mVar 3))))) (sRet (mC (.bl false))) sNext) (sSeq (sAsg (mL lstP (lCons (mVar 2) (lCons (mVar 3) (lCons (mL (cl 6) (lCons (mVar 1) (lCons (mC (.int 2)) lNil))) (lCons (mL (cl 6) (lCons (mVar 1) (lCons (mC (.int 1)) lNil))) lNil))))) (gVar 4)) (sSeq (sAsg (mSortK (cl2 0) (mVar 4)) (gVar 5)) (sRet (mNot (mL anyP (lCons (mLc (iRng1M (mC (.int 3))) [6] (.nm 6) bYes (mL (cl 8) (lCons (m2 ixQ (mVar 5) (m2 addP (mVar 6) (mC (.int 1)))) (lCons (m2 ixQ (mVar 5) (mVar 6)) lNil)))) lNil)))))))))))
noncomputable def bdN (cl cl2 : Nat → FM) : Nat → FM
  | 0 => runB nm0.length (bd0 cl cl2)
  | 1 => runB nm1.length (bd1 cl cl2)
  | 2 => runB nm2.length (bd2 cl cl2)
  | 3 => runB nm3.length (bd3 cl cl2)
  | 4 => runB nm4.length (bd4 cl cl2)
  | 5 => runB nm5.length (bd5 cl cl2)
  | 6 => runB nm6.length (bd6 cl cl2)
  | 7 => runB nm7.length (bd7 cl cl2)
  | 8 => runB nm8.length (bd8 cl cl2)
  | 9 => runB nm9.length (bd9 cl cl2)
  | _ => fun _ _ => none
noncomputable def calls := callsOf bdN
abbrev blts : List Str := ["isinstance", "tuple", "str", "int", "abs", "len", "bool", "range", "min", "sorted", "any"]
section
variable {P : Program} {w : World} {K : PySem.W.Frag} {mg : Str → Option Value} {base : Heap} {ca : Nat → Addr} {a : Nat → Addr} {fd : Nat → FuncData} {cl cl2 : Nat → FM} {k : Nat}
abbrev Tx (K : PySem.W.Frag) (mg : Str → Option Value) (a : Nat → Addr) (fd : Nat → FuncData) := TxD 10 nmN psN stN blts K mg a fd
theorem ok0 (T : Tx K mg a fd) (C : AllF P w K mg base ca psN a fd k cl) (C2 : AllF2 P w K mg base ca psN a fd k cl2) (cdv : Value) (A : Around) (outer : List Env) (s : Shared) (H : Hp) (E : XK) (hr : Room k (A.deeper (envOfC "rank" (defScope st0) s.heap.objs.size (a 0) cdv))) :
    PSs (bx P w K mg base nm0 "rank" (defScope st0) (a 0) cdv A outer s H E) (defBody st0) (liftS ⟨K, w, ca⟩ (bd0 cl cl2)) := by
  unfold bd0
  exact (ds_cons (ds_if (dt_isN (de_var (i := 0))) (ds_one (ds_ret (de_tup (la_cons de_int la_nil)))) ds_nil) (ds_cons (ds_if (dt_tru (de_isi (Ts := "tuple") (de_var (i := 0)) (T.no "isinstance" (by decide)) (T.no "tuple" (by decide)) (by decide +kernel))) (ds_one (ds_ret (de_tup (la_cons de_int (la_star (de_lc (own := [("part", 1)]) (t := (.nm 1)) (sc0).nd (blkOk_by (own := [("part", 1)]) (by show blkC nm0 (defScope st0) _ _ = true; decide +kernel)) (by decide) (di_seq (de_var (i := 0))) (fun _ _ _ _ _ => (pg_name (i := 1) (sc0).nd rfl (Or.inl rfl))) (fun _ _ _ _ _ => dts_nil) (fun _ _ _ _ _ => (de_call (C.F 0) hr (T.fn 0) (T.kp 0) (T.bn 0) (.cons .nil) (la_cons (de_var (i := 1)) la_nil)))) la_nil))))) ds_nil) (ds_cons (ds_if (dt_tru (de_isi (Ts := "str") (de_var (i := 0)) (T.no "isinstance" (by decide)) (T.no "str" (by decide)) (by decide +kernel))) (ds_one (ds_ret (de_tup (la_cons de_int (la_cons (de_var (i := 0)) la_nil))))) ds_nil) (ds_one (ds_ret (de_tup (la_cons de_int (la_cons (de_var (i := 0)) la_nil))))))))
theorem ok1 (T : Tx K mg a fd) (C : AllF P w K mg base ca psN a fd k cl) (C2 : AllF2 P w K mg base ca psN a fd k cl2) (cdv : Value) (A : Around) (outer : List Env) (s : Shared) (H : Hp) (E : XK) (hr : Room k (A.deeper (envOfC "_law_start" (defScope st1) s.heap.objs.size (a 1) cdv))) :
    PSs (bx P w K mg base nm1 "_law_start" (defScope st1) (a 1) cdv A outer s H E) (defBody st1) (liftS ⟨K, w, ca⟩ (bd1 cl cl2)) := by
  unfold bd1
  exact (ds_one (ds_ret (de_disp hr (pps_cons de_str (de_lc (own := [("_law_cell", 1)]) (t := (.nm 1)) (sc1).nd (blkOk_by (own := [("_law_cell", 1)]) (by show blkC nm1 (defScope st1) _ _ = true; decide +kernel)) (by decide) (di_seq (de_var (i := 0))) (fun _ _ _ _ _ => (pg_name (i := 1) (sc1).nd rfl (Or.inl rfl))) (fun _ _ _ _ _ => dts_nil) (fun _ _ _ _ _ => (de_callB call_abs prim_abs (T.no "abs" (by decide)) boot_abs (la_cons (de_callTy call_int1 prim_toInt (T.no "int" (by decide)) PyProof.Rows.boot_int (la_cons (de_var (i := 1)) la_nil)) la_nil)))) (pps_cons de_str de_int (pps_cons de_str de_int (pps_cons de_str (de_op op_addAll prim_add de_int (de_callB call_len prim_len (T.no "len" (by decide)) PySem.boot_len (la_cons (de_var (i := 0)) la_nil))) pps_nil)))))))
theorem ok2 (T : Tx K mg a fd) (C : AllF P w K mg base ca psN a fd k cl) (C2 : AllF2 P w K mg base ca psN a fd k cl2) (cdv : Value) (A : Around) (outer : List Env) (s : Shared) (H : Hp) (E : XK) (hr : Room k (A.deeper (envOfC "_law_draw" (defScope st2) s.heap.objs.size (a 2) cdv))) :
    PSs (bx P w K mg base nm2 "_law_draw" (defScope st2) (a 2) cdv A outer s H E) (defBody st2) (liftS ⟨K, w, ca⟩ (bd2 cl cl2)) := by
  unfold bd2
  exact (ds_cons (ds_if (PW.pt (dw_and (dt_cmp (op_eqD hr.units) prim_eq (de_ix (ix_1 hr) prim_ix1 (de_var (i := 0)) de_str) de_int) (dw_and1 (dt_cmp (op_ltA (DL.Room.u65 hr)) prim_lt (de_ix (ix_1 hr) prim_ix1 (de_var (i := 0)) de_str) (de_callB call_len prim_len (T.no "len" (by decide)) PySem.boot_len (la_cons (de_ix (ix_1 hr) prim_ix1 (de_var (i := 0)) de_str) la_nil)))))) (ds_cons (ds_set (i := 2) (sc2).nd (de_ix (ix_1 hr) prim_ix1 (de_ix (ix_1 hr) prim_ix1 (de_var (i := 0)) de_str) (de_ix (ix_1 hr) prim_ix1 (de_var (i := 0)) de_str))) (ds_cons (ds_asg (de_op op_addAll prim_add (de_ix (ix_1 hr) prim_ix1 (de_var (i := 0)) de_str) de_int) (dg_sub hr (de_var (i := 0)) de_str)) (ds_cons (ds_asg (de_op op_mod prim_mod (de_callTy call_int1 prim_toInt (T.no "int" (by decide)) PyProof.Rows.boot_int (la_cons (de_op op_addAll prim_add (de_op op_addAll prim_add (de_op op_mul prim_mul (de_ix (ix_1 hr) prim_ix1 (de_var (i := 0)) de_str) de_int) (de_var (i := 2))) de_int) la_nil)) de_int) (dg_sub hr (de_var (i := 0)) de_str)) (ds_cons (ds_if (dt_cmp (op_ltA (DL.Room.u65 hr)) prim_lt (de_var (i := 2)) (de_op op_pow prim_pow de_int de_int)) (ds_one (ds_ret (de_op op_mod prim_mod (de_callTy call_int1 prim_toInt (T.no "int" (by decide)) PyProof.Rows.boot_int (la_cons (de_var (i := 2)) la_nil)) (de_var (i := 1))))) ds_nil) (ds_one (ds_asg (de_var (i := 2)) (dg_sub hr (de_var (i := 0)) de_str))))))) ds_nil) (ds_cons (ds_if (dt_cmp op_gt prim_gt (de_ix (ix_1 hr) prim_ix1 (de_var (i := 0)) de_str) de_int) (ds_cons (ds_set (i := 3) (sc2).nd (de_op op_mod prim_mod (de_callTy call_int1 prim_toInt (T.no "int" (by decide)) PyProof.Rows.boot_int (la_cons (de_ix (ix_1 hr) prim_ix1 (de_var (i := 0)) de_str) la_nil)) (de_var (i := 1)))) (ds_cons (ds_asg (de_op op_fdiv prim_div (de_ix (ix_1 hr) prim_ix1 (de_var (i := 0)) de_str) (de_var (i := 1))) (dg_sub hr (de_var (i := 0)) de_str)) (ds_one (ds_ret (de_var (i := 3)))))) ds_nil) (ds_cons (ds_asg (de_op op_mod prim_mod (de_callTy call_int1 prim_toInt (T.no "int" (by decide)) PyProof.Rows.boot_int (la_cons (de_op op_addAll prim_add (de_op op_mul prim_mul (de_ix (ix_1 hr) prim_ix1 (de_var (i := 0)) de_str) de_int) de_int) la_nil)) de_int) (dg_sub hr (de_var (i := 0)) de_str)) (ds_one (ds_ret (de_op op_mod prim_mod (de_callTy call_int1 prim_toInt (T.no "int" (by decide)) PyProof.Rows.boot_int (la_cons (de_op op_mod prim_mod (de_callTy call_int1 prim_toInt (T.no "int" (by decide)) PyProof.Rows.boot_int (la_cons (de_op op_addAll prim_add (de_op op_mul prim_mul (de_ix (ix_1 hr) prim_ix1 (de_var (i := 0)) de_str) de_int) de_int) la_nil)) de_int) la_nil)) (de_var (i := 1))))))))
theorem ok3 (T : Tx K mg a fd) (C : AllF P w K mg base ca psN a fd k cl) (C2 : AllF2 P w K mg base ca psN a fd k cl2) (cdv : Value) (A : Around) (outer : List Env) (s : Shared) (H : Hp) (E : XK) (hr : Room k (A.deeper (envOfC "_law_pick" (defScope st3) s.heap.objs.size (a 3) cdv))) :
    PSs (bx P w K mg base nm3 "_law_pick" (defScope st3) (a 3) cdv A outer s H E) (defBody st3) (liftS ⟨K, w, ca⟩ (bd3 cl cl2)) := by
  unfold bd3
  exact (ds_one (ds_ret (de_ix (ix_1 hr) prim_ix1 (de_var (i := 1)) (de_call (C.F 2) hr (T.fn 2) (T.kp 2) (T.bn 2) (.cons (.cons .nil)) (la_cons (de_var (i := 0)) (la_cons (de_callB call_len prim_len (T.no "len" (by decide)) PySem.boot_len (la_cons (de_var (i := 1)) la_nil)) la_nil))))))
theorem ok4 (T : Tx K mg a fd) (C : AllF P w K mg base ca psN a fd k cl) (C2 : AllF2 P w K mg base ca psN a fd k cl2) (cdv : Value) (A : Around) (outer : List Env) (s : Shared) (H : Hp) (E : XK) (hr : Room k (A.deeper (envOfC "_law_is_number" (defScope st4) s.heap.objs.size (a 4) cdv))) :
    PSs (bx P w K mg base nm4 "_law_is_number" (defScope st4) (a 4) cdv A outer s H E) (defBody st4) (liftS ⟨K, w, ca⟩ (bd4 cl cl2)) := by
  unfold bd4
  exact (ds_one (ds_ret (de_and (de_isi (Ts := "int") (de_var (i := 0)) (T.no "isinstance" (by decide)) (T.no "int" (by decide)) (by decide +kernel)) (de_one (de_not (de_isi (Ts := "bool") (de_var (i := 0)) (T.no "isinstance" (by decide)) (T.no "bool" (by decide)) (by decide +kernel)))))))
theorem ok5 (T : Tx K mg a fd) (C : AllF P w K mg base ca psN a fd k cl) (C2 : AllF2 P w K mg base ca psN a fd k cl2) (cdv : Value) (A : Around) (outer : List Env) (s : Shared) (H : Hp) (E : XK) (hr : Room k (A.deeper (envOfC "_law_is" (defScope st5) s.heap.objs.size (a 5) cdv))) :
    PSs (bx P w K mg base nm5 "_law_is" (defScope st5) (a 5) cdv A outer s H E) (defBody st5) (liftS ⟨K, w, ca⟩ (bd5 cl cl2)) := by
  unfold bd5
  exact (ds_one (ds_ret (de_and (de_isi (Ts := "bool") (de_var (i := 0)) (T.no "isinstance" (by decide)) (T.no "bool" (by decide)) (by decide +kernel)) (de_one (de_cmp (op_eqD hr.units) prim_eq (de_var (i := 0)) (de_var (i := 1)))))))
theorem ok6 (T : Tx K mg a fd) (C : AllF P w K mg base ca psN a fd k cl) (C2 : AllF2 P w K mg base ca psN a fd k cl2) (cdv : Value) (A : Around) (outer : List Env) (s : Shared) (H : Hp) (E : XK) (hr : Room k (A.deeper (envOfC "_law_thing" (defScope st6) s.heap.objs.size (a 6) cdv))) :
    PSs (bx P w K mg base nm6 "_law_thing" (defScope st6) (a 6) cdv A outer s H E) (defBody st6) (liftS ⟨K, w, ca⟩ (bd6 cl cl2)) := by
  unfold bd6
  exact (ds_cons (ds_set (i := 2) (sc6).nd (de_call (C.F 2) hr (T.fn 2) (T.kp 2) (T.bn 2) (.cons (.cons .nil)) (la_cons (de_var (i := 0)) (la_cons (de_if (dt_cmp op_gt prim_gt (de_var (i := 1)) de_int) de_int de_int) la_nil)))) (ds_cons (ds_if (dt_cmp (op_eqD hr.units) prim_eq (de_var (i := 2)) de_int) (ds_one (ds_ret (de_call (C.F 3) hr (T.fn 3) (T.kp 3) (T.bn 3) (.cons (.cons .nil)) (la_cons (de_var (i := 0)) (la_cons (de_lst (la_cons de_non (la_cons de_int (la_cons de_int (la_cons (de_un un_neg prim_neg de_int) (la_cons (de_op op_pow prim_pow de_int de_int) la_nil)))))) la_nil))))) ds_nil) (ds_cons (ds_if (dt_cmp (op_ltA (DL.Room.u65 hr)) prim_lt (de_var (i := 2)) de_int) (ds_one (ds_ret (de_call (C.F 3) hr (T.fn 3) (T.kp 3) (T.bn 3) (.cons (.cons .nil)) (la_cons (de_var (i := 0)) (la_cons (de_lst (la_cons de_str (la_cons de_str (la_cons de_str (la_cons de_str (la_cons de_int (la_cons de_int (la_cons de_non la_nil)))))))) la_nil))))) ds_nil) (ds_one (ds_ret (de_callTy call_tuple_of prim_tuple (T.no "tuple" (by decide)) PyProof.Rows.boot_tuple (la_cons (de_lc (own := [("_law_k", 3)]) (t := (.nm 3)) (sc6).nd (blkOk_by (own := [("_law_k", 3)]) (by show blkC nm6 (defScope st6) _ _ = true; decide +kernel)) (by decide) (di_rng1 (T.no "range" (by decide)) (de_call (C.F 2) hr (T.fn 2) (T.kp 2) (T.bn 2) (.cons (.cons .nil)) (la_cons (de_var (i := 0)) (la_cons de_int la_nil)))) (fun _ _ _ _ _ => (pg_name (i := 3) (sc6).nd rfl (Or.inl rfl))) (fun _ _ _ _ _ => dts_nil) (fun _ _ _ _ _ => (de_call (C.F 6) hr (T.fn 6) (T.kp 6) (T.bn 6) (.cons (.cons .nil)) (la_cons (de_var (i := 0)) (la_cons (de_op op_sub (prim_int fun _ _ => rfl) (de_var (i := 1)) de_int) la_nil))))) la_nil)))))))
theorem ok7 (T : Tx K mg a fd) (C : AllF P w K mg base ca psN a fd k cl) (C2 : AllF2 P w K mg base ca psN a fd k cl2) (cdv : Value) (A : Around) (outer : List Env) (s : Shared) (H : Hp) (E : XK) (hr : Room k (A.deeper (envOfC "_law_kind" (defScope st7) s.heap.objs.size (a 7) cdv))) :
    PSs (bx P w K mg base nm7 "_law_kind" (defScope st7) (a 7) cdv A outer s H E) (defBody st7) (liftS ⟨K, w, ca⟩ (bd7 cl cl2)) := by
  unfold bd7
  exact (ds_cons (ds_if (dt_isN (de_var (i := 0))) (ds_one (ds_ret de_int)) ds_nil) (ds_cons (ds_if (dt_tru (de_isi (Ts := "tuple") (de_var (i := 0)) (T.no "isinstance" (by decide)) (T.no "tuple" (by decide)) (by decide +kernel))) (ds_one (ds_ret de_int)) ds_nil) (ds_one (ds_ret (de_if (dt_tru (de_isi (Ts := "str") (de_var (i := 0)) (T.no "isinstance" (by decide)) (T.no "str" (by decide)) (by decide +kernel))) de_int de_int)))))
theorem ok8 (T : Tx K mg a fd) (C : AllF P w K mg base ca psN a fd k cl) (C2 : AllF2 P w K mg base ca psN a fd k cl2) (cdv : Value) (A : Around) (outer : List Env) (s : Shared) (H : Hp) (E : XK) (hr : Room k (A.deeper (envOfC "_law_ahead" (defScope st8) s.heap.objs.size (a 8) cdv))) :
    PSs (bx P w K mg base nm8 "_law_ahead" (defScope st8) (a 8) cdv A outer s H E) (defBody st8) (liftS ⟨K, w, ca⟩ (bd8 cl cl2)) := by
  unfold bd8
  exact (ds_cons (ds_if (dt_cmp (op_neD hr.units) prim_ne (de_call (C.F 7) hr (T.fn 7) (T.kp 7) (T.bn 7) (.cons .nil) (la_cons (de_var (i := 0)) la_nil)) (de_call (C.F 7) hr (T.fn 7) (T.kp 7) (T.bn 7) (.cons .nil) (la_cons (de_var (i := 1)) la_nil))) (ds_one (ds_ret (de_cmp (op_ltA (DL.Room.u65 hr)) prim_lt (de_call (C.F 7) hr (T.fn 7) (T.kp 7) (T.bn 7) (.cons .nil) (la_cons (de_var (i := 0)) la_nil)) (de_call (C.F 7) hr (T.fn 7) (T.kp 7) (T.bn 7) (.cons .nil) (la_cons (de_var (i := 1)) la_nil))))) ds_nil) (ds_cons (ds_if (dt_isN (de_var (i := 0))) (ds_one (ds_ret de_bl)) ds_nil) (ds_cons (ds_if (dt_not (dt_tru (de_isi (Ts := "tuple") (de_var (i := 0)) (T.no "isinstance" (by decide)) (T.no "tuple" (by decide)) (by decide +kernel)))) (ds_one (ds_ret (de_cmp (op_ltA (DL.Room.u65 hr)) prim_lt (de_var (i := 0)) (de_var (i := 1))))) ds_nil) (ds_cons (ds_for (di_rng1 (T.no "range" (by decide)) (de_callB (call_min2 rfl) prim_min2 (T.no "min" (by decide)) (by decide +kernel) (la_cons (de_callB call_len prim_len (T.no "len" (by decide)) PySem.boot_len (la_cons (de_var (i := 0)) la_nil)) (la_cons (de_callB call_len prim_len (T.no "len" (by decide)) PySem.boot_len (la_cons (de_var (i := 1)) la_nil)) la_nil)))) (dg_name (i := 2) (sc8).nd) (ds_one (ds_if (dt_cmp (op_neD hr.units) prim_ne (de_ix (ix_1 hr) prim_ix1 (de_var (i := 0)) (de_var (i := 2))) (de_ix (ix_1 hr) prim_ix1 (de_var (i := 1)) (de_var (i := 2)))) (ds_one (ds_ret (de_call (C.F 8) hr (T.fn 8) (T.kp 8) (T.bn 8) (.cons (.cons .nil)) (la_cons (de_ix (ix_1 hr) prim_ix1 (de_var (i := 0)) (de_var (i := 2))) (la_cons (de_ix (ix_1 hr) prim_ix1 (de_var (i := 1)) (de_var (i := 2))) la_nil))))) ds_nil))) (ds_one (ds_ret (de_cmp (op_ltA (DL.Room.u65 hr)) prim_lt (de_callB call_len prim_len (T.no "len" (by decide)) PySem.boot_len (la_cons (de_var (i := 0)) la_nil)) (de_callB call_len prim_len (T.no "len" (by decide)) PySem.boot_len (la_cons (de_var (i := 1)) la_nil)))))))))
theorem ok9 (T : Tx K mg a fd) (C : AllF P w K mg base ca psN a fd k cl) (C2 : AllF2 P w K mg base ca psN a fd k cl2) (cdv : Value) (A : Around) (outer : List Env) (s : Shared) (H : Hp) (E : XK) (hr : Room k (A.deeper (envOfC "law" (defScope st9) s.heap.objs.size (a 9) cdv))) :
    PSs (bx P w K mg base nm9 "law" (defScope st9) (a 9) cdv A outer s H E) (defBody st9) (liftS ⟨K, w, ca⟩ (bd9 cl cl2)) := by
  unfold bd9
  exact (ds_cons (ds_set (i := 1) (sc9).nd (de_call (C.F 1) hr (T.fn 1) (T.kp 1) (T.bn 1) (.cons .nil) (la_cons (de_var (i := 0)) la_nil))) (ds_cons (ds_set (i := 2) (sc9).nd (de_call (C.F 6) hr (T.fn 6) (T.kp 6) (T.bn 6) (.cons (.cons .nil)) (la_cons (de_var (i := 1)) (la_cons de_int la_nil)))) (ds_cons (ds_set (i := 3) (sc9).nd (de_call (C.F 6) hr (T.fn 6) (T.kp 6) (T.bn 6) (.cons (.cons .nil)) (la_cons (de_var (i := 1)) (la_cons de_int la_nil)))) (ds_cons (ds_if (PW.pt (dw_and (dt_tru (de_isi (Ts := "tuple") (de_var (i := 2)) (T.no "isinstance" (by decide)) (T.no "tuple" (by decide)) (by decide +kernel))) (dw_and1 (dt_cmp (op_eqD hr.units) prim_eq (de_call (C.F 2) hr (T.fn 2) (T.kp 2) (T.bn 2) (.cons (.cons .nil)) (la_cons (de_var (i := 1)) (la_cons de_int la_nil))) de_int)))) (ds_one (ds_set (i := 3) (sc9).nd (de_op op_addAll prim_add (de_slice (de_var (i := 2)) do_none (do_some (de_call (C.F 2) hr (T.fn 2) (T.kp 2) (T.bn 2) (.cons (.cons .nil)) (la_cons (de_var (i := 1)) (la_cons (de_op op_addAll prim_add (de_callB call_len prim_len (T.no "len" (by decide)) PySem.boot_len (la_cons (de_var (i := 2)) la_nil)) de_int) la_nil))))) (de_call (C.F 3) hr (T.fn 3) (T.kp 3) (T.bn 3) (.cons (.cons .nil)) (la_cons (de_var (i := 1)) (la_cons (de_lst (la_cons (de_tup la_nil) (la_cons (de_tup (la_cons de_non la_nil)) (la_cons (de_tup (la_cons de_str la_nil)) la_nil)))) la_nil)))))) ds_nil) (ds_cons (ds_if (PW.pt (dw_or (dt_not (dt_tru (de_call (C.F 5) hr (T.fn 5) (T.kp 5) (T.bn 5) (.cons (.cons .nil)) (la_cons (de_cmp (op_ltA (DL.Room.u65 hr)) prim_lt (de_call (C.F 0) hr (T.fn 0) (T.kp 0) (T.bn 0) (.cons .nil) (la_cons (de_var (i := 2)) la_nil)) (de_call (C.F 0) hr (T.fn 0) (T.kp 0) (T.bn 0) (.cons .nil) (la_cons (de_var (i := 3)) la_nil))) (la_cons (de_call (C.F 8) hr (T.fn 8) (T.kp 8) (T.bn 8) (.cons (.cons .nil)) (la_cons (de_var (i := 2)) (la_cons (de_var (i := 3)) la_nil))) la_nil))))) (dw_or1 (dt_cmp (op_neD hr.units) prim_ne (de_cmp (op_eqD hr.units) prim_eq (de_call (C.F 0) hr (T.fn 0) (T.kp 0) (T.bn 0) (.cons .nil) (la_cons (de_var (i := 2)) la_nil)) (de_call (C.F 0) hr (T.fn 0) (T.kp 0) (T.bn 0) (.cons .nil) (la_cons (de_var (i := 3)) la_nil))) (de_cmp (op_eqD hr.units) prim_eq (de_var (i := 2)) (de_var (i := 3))))))) (ds_one (ds_ret de_bl)) ds_nil) (ds_cons (ds_set (i := 4) (sc9).nd (de_lst (la_cons (de_var (i := 2)) (la_cons (de_var (i := 3)) (la_cons (de_call (C.F 6) hr (T.fn 6) (T.kp 6) (T.bn 6) (.cons (.cons .nil)) (la_cons (de_var (i := 1)) (la_cons de_int la_nil))) (la_cons (de_call (C.F 6) hr (T.fn 6) (T.kp 6) (T.bn 6) (.cons (.cons .nil)) (la_cons (de_var (i := 1)) (la_cons de_int la_nil))) la_nil)))))) (ds_cons (ds_set (i := 5) (sc9).nd (de_sortK (C2.F 0) (fun z => C2.z z 0) hr (T.bn 0) (T.no "sorted" (by decide)) (T.fn 0) (de_var (i := 4)))) (ds_one (ds_ret (de_not (de_callB (cr_any rfl) prim_any (T.no "any" (by decide)) boot_any (la_cons (de_lc (own := [("_law_k", 6)]) (t := (.nm 6)) (sc9).nd (blkOk_by (own := [("_law_k", 6)]) (by show blkC nm9 (defScope st9) _ _ = true; decide +kernel)) (by decide) (di_rng1 (T.no "range" (by decide)) de_int) (fun _ _ _ _ _ => (pg_name (i := 6) (sc9).nd rfl (Or.inl rfl))) (fun _ _ _ _ _ => dts_nil) (fun _ _ _ _ _ => (de_call (C.F 8) hr (T.fn 8) (T.kp 8) (T.bn 8) (.cons (.cons .nil)) (la_cons (de_ix (ix_1 hr) prim_ix1 (de_var (i := 5)) (de_op op_addAll prim_add (de_var (i := 6)) de_int)) (la_cons (de_ix (ix_1 hr) prim_ix1 (de_var (i := 5)) (de_var (i := 6))) la_nil))))) la_nil))))))))))))
theorem step (T : Tx K mg a fd) (k : Nat) (cl cl2 : Nat → FM) (C : AllF P w K mg base ca psN a fd k cl) (C2 : AllF2 P w K mg base ca psN a fd k cl2) : AllF P w K mg base ca psN a fd (k + 1) (bdN cl cl2) := ⟨fun g => by
  match g with
  | 0 => exact fun_ok (T.fu 0) sc0 fun cdv A outer s H E hr => ok0 T C C2 cdv A outer s H E hr
  | 1 => exact fun_ok (T.fu 1) sc1 fun cdv A outer s H E hr => ok1 T C C2 cdv A outer s H E hr
  | 2 => exact fun_ok (T.fu 2) sc2 fun cdv A outer s H E hr => ok2 T C C2 cdv A outer s H E hr
  | 3 => exact fun_ok (T.fu 3) sc3 fun cdv A outer s H E hr => ok3 T C C2 cdv A outer s H E hr
  | 4 => exact fun_ok (T.fu 4) sc4 fun cdv A outer s H E hr => ok4 T C C2 cdv A outer s H E hr
  | 5 => exact fun_ok (T.fu 5) sc5 fun cdv A outer s H E hr => ok5 T C C2 cdv A outer s H E hr
  | 6 => exact fun_ok (T.fu 6) sc6 fun cdv A outer s H E hr => ok6 T C C2 cdv A outer s H E hr
  | 7 => exact fun_ok (T.fu 7) sc7 fun cdv A outer s H E hr => ok7 T C C2 cdv A outer s H E hr
  | 8 => exact fun_ok (T.fu 8) sc8 fun cdv A outer s H E hr => ok8 T C C2 cdv A outer s H E hr
  | 9 => exact fun_ok (T.fu 9) sc9 fun cdv A outer s H E hr => ok9 T C C2 cdv A outer s H E hr
  | _ + 10 => exact fn_no rfl⟩
end
theorem calls_succ : ∀ k, ∃ c2, calls (k + 1) = bdN (calls k) c2
  | 0 => ⟨_, rfl⟩
  | 1 => ⟨_, rfl⟩
  | _ + 2 => ⟨_, rfl⟩
theorem c0 (k : Nat) : ∃ c2, calls (k + 1) 0 = runB 2 (bd0 (calls k) c2) := let ⟨c2, e⟩ := calls_succ k; ⟨c2, by rw [e]; rfl⟩
theorem c1 (k : Nat) : ∃ c2, calls (k + 1) 1 = runB 2 (bd1 (calls k) c2) := let ⟨c2, e⟩ := calls_succ k; ⟨c2, by rw [e]; rfl⟩
theorem c2 (k : Nat) : ∃ c2, calls (k + 1) 2 = runB 4 (bd2 (calls k) c2) := let ⟨c2, e⟩ := calls_succ k; ⟨c2, by rw [e]; rfl⟩
theorem c3 (k : Nat) : ∃ c2, calls (k + 1) 3 = runB 2 (bd3 (calls k) c2) := let ⟨c2, e⟩ := calls_succ k; ⟨c2, by rw [e]; rfl⟩
theorem c4 (k : Nat) : ∃ c2, calls (k + 1) 4 = runB 1 (bd4 (calls k) c2) := let ⟨c2, e⟩ := calls_succ k; ⟨c2, by rw [e]; rfl⟩
theorem c5 (k : Nat) : ∃ c2, calls (k + 1) 5 = runB 2 (bd5 (calls k) c2) := let ⟨c2, e⟩ := calls_succ k; ⟨c2, by rw [e]; rfl⟩
theorem c6 (k : Nat) : ∃ c2, calls (k + 1) 6 = runB 4 (bd6 (calls k) c2) := let ⟨c2, e⟩ := calls_succ k; ⟨c2, by rw [e]; rfl⟩
theorem c7 (k : Nat) : ∃ c2, calls (k + 1) 7 = runB 1 (bd7 (calls k) c2) := let ⟨c2, e⟩ := calls_succ k; ⟨c2, by rw [e]; rfl⟩
theorem c8 (k : Nat) : ∃ c2, calls (k + 1) 8 = runB 3 (bd8 (calls k) c2) := let ⟨c2, e⟩ := calls_succ k; ⟨c2, by rw [e]; rfl⟩
theorem c9 (k : Nat) : ∃ c2, calls (k + 1) 9 = runB 7 (bd9 (calls k) c2) := let ⟨c2, e⟩ := calls_succ k; ⟨c2, by rw [e]; rfl⟩
section
variable {w : World} {K : PySem.W.Frag} {h : Heap} {mg : Str → Option Value} {base : Heap}
theorem all_mk {fa : Addr} (X : K.In h) (G : h.Ns mainGlobals mg) (hfa : mg "law" = some (.ref fa)) {f0 f1 f2 f3 f4 f5 f6 f7 f8 f9 : Addr}
    {od0 an0 od1 an1 od2 an2 od3 an3 od4 an4 od5 an5 od6 an6 od7 an7 od8 an8 od9 an9 : Option Addr} {sl0 sl1 sl2 sl3 sl4 sl5 sl6 sl7 sl8 sl9 : Array (Option Value)} {oc0 kV0 dc0 pm0 cd0 ct0 oc1 kV1 dc1 pm1 cd1 ct1 oc2 kV2 dc2 pm2 cd2 ct2 oc3 kV3 dc3 pm3 cd3 ct3 oc4 kV4 dc4 pm4 cd4 ct4 oc5 kV5 dc5 pm5 cd5 ct5 oc6 kV6 dc6 pm6 cd6 ct6 oc7 kV7 dc7 pm7 cd7 ct7 oc8 kV8 dc8 pm8 cd8 ct8 oc9 kV9 dc9 pm9 cd9 ct9 : Value}
    (a0 : PySem.W.nsIn K mainGlobals "rank" = some (some (.ref f0))) (l0 : K.lookup f0 = some ⟨oc0, od0, .func (PySem.W.fnOf "rank" "rank" (defArgs st0) (defBody st0) (defScope st0) .none kV0 dc0 pm0 an0 cd0 ct0), sl0⟩) (c0 : PySem.W.codeIn K cd0 "rank" = true) (k0 : PySem.W.keepIn K (.ref f0) = true)
    (a1 : PySem.W.nsIn K mainGlobals "_law_start" = some (some (.ref f1))) (l1 : K.lookup f1 = some ⟨oc1, od1, .func (PySem.W.fnOf "_law_start" "_law_start" (defArgs st1) (defBody st1) (defScope st1) .none kV1 dc1 pm1 an1 cd1 ct1), sl1⟩) (c1 : PySem.W.codeIn K cd1 "_law_start" = true) (k1 : PySem.W.keepIn K (.ref f1) = true)
    (a2 : PySem.W.nsIn K mainGlobals "_law_draw" = some (some (.ref f2))) (l2 : K.lookup f2 = some ⟨oc2, od2, .func (PySem.W.fnOf "_law_draw" "_law_draw" (defArgs st2) (defBody st2) (defScope st2) .none kV2 dc2 pm2 an2 cd2 ct2), sl2⟩) (c2 : PySem.W.codeIn K cd2 "_law_draw" = true) (k2 : PySem.W.keepIn K (.ref f2) = true)
    (a3 : PySem.W.nsIn K mainGlobals "_law_pick" = some (some (.ref f3))) (l3 : K.lookup f3 = some ⟨oc3, od3, .func (PySem.W.fnOf "_law_pick" "_law_pick" (defArgs st3) (defBody st3) (defScope st3) .none kV3 dc3 pm3 an3 cd3 ct3), sl3⟩) (c3 : PySem.W.codeIn K cd3 "_law_pick" = true) (k3 : PySem.W.keepIn K (.ref f3) = true)
    (a4 : PySem.W.nsIn K mainGlobals "_law_is_number" = some (some (.ref f4))) (l4 : K.lookup f4 = some ⟨oc4, od4, .func (PySem.W.fnOf "_law_is_number" "_law_is_number" (defArgs st4) (defBody st4) (defScope st4) .none kV4 dc4 pm4 an4 cd4 ct4), sl4⟩) (c4 : PySem.W.codeIn K cd4 "_law_is_number" = true) (k4 : PySem.W.keepIn K (.ref f4) = true)
    (a5 : PySem.W.nsIn K mainGlobals "_law_is" = some (some (.ref f5))) (l5 : K.lookup f5 = some ⟨oc5, od5, .func (PySem.W.fnOf "_law_is" "_law_is" (defArgs st5) (defBody st5) (defScope st5) .none kV5 dc5 pm5 an5 cd5 ct5), sl5⟩) (c5 : PySem.W.codeIn K cd5 "_law_is" = true) (k5 : PySem.W.keepIn K (.ref f5) = true)
    (a6 : PySem.W.nsIn K mainGlobals "_law_thing" = some (some (.ref f6))) (l6 : K.lookup f6 = some ⟨oc6, od6, .func (PySem.W.fnOf "_law_thing" "_law_thing" (defArgs st6) (defBody st6) (defScope st6) .none kV6 dc6 pm6 an6 cd6 ct6), sl6⟩) (c6 : PySem.W.codeIn K cd6 "_law_thing" = true) (k6 : PySem.W.keepIn K (.ref f6) = true)
    (a7 : PySem.W.nsIn K mainGlobals "_law_kind" = some (some (.ref f7))) (l7 : K.lookup f7 = some ⟨oc7, od7, .func (PySem.W.fnOf "_law_kind" "_law_kind" (defArgs st7) (defBody st7) (defScope st7) .none kV7 dc7 pm7 an7 cd7 ct7), sl7⟩) (c7 : PySem.W.codeIn K cd7 "_law_kind" = true) (k7 : PySem.W.keepIn K (.ref f7) = true)
    (a8 : PySem.W.nsIn K mainGlobals "_law_ahead" = some (some (.ref f8))) (l8 : K.lookup f8 = some ⟨oc8, od8, .func (PySem.W.fnOf "_law_ahead" "_law_ahead" (defArgs st8) (defBody st8) (defScope st8) .none kV8 dc8 pm8 an8 cd8 ct8), sl8⟩) (c8 : PySem.W.codeIn K cd8 "_law_ahead" = true) (k8 : PySem.W.keepIn K (.ref f8) = true)
    (a9 : PySem.W.nsIn K mainGlobals "law" = some (some (.ref f9))) (l9 : K.lookup f9 = some ⟨oc9, od9, .func (PySem.W.fnOf "law" "law" (defArgs st9) (defBody st9) (defScope st9) .none kV9 dc9 pm9 an9 cd9 ct9), sl9⟩) (c9 : PySem.W.codeIn K cd9 "law" = true) (k9 : PySem.W.keepIn K (.ref f9) = true)
    (z0 : PySem.W.nsIn K mainGlobals "isinstance" = some none)
    (z1 : PySem.W.nsIn K mainGlobals "tuple" = some none)
    (z2 : PySem.W.nsIn K mainGlobals "str" = some none)
    (z3 : PySem.W.nsIn K mainGlobals "int" = some none)
    (z4 : PySem.W.nsIn K mainGlobals "abs" = some none)
    (z5 : PySem.W.nsIn K mainGlobals "len" = some none)
    (z6 : PySem.W.nsIn K mainGlobals "bool" = some none)
    (z7 : PySem.W.nsIn K mainGlobals "range" = some none)
    (z8 : PySem.W.nsIn K mainGlobals "min" = some none)
    (z9 : PySem.W.nsIn K mainGlobals "sorted" = some none)
    (z10 : PySem.W.nsIn K mainGlobals "any" = some none)
    : ∃ (a : Nat → Addr) (fd : Nat → FuncData), Tx K mg a fd ∧ a 9 = fa ∧ ∀ (s : Shared) (u : Value), BindsTo s (fd 9) ⟨[u], []⟩ [("_law_script", u)] := by
  have e := hfa.symm.trans (PySem.W.mg_of X G a9)
  have e2 : f9 = fa := by cases e; rfl
  subst e2
  have F0 := fun_mk (st := st0) l0 c0 k0
  have F1 := fun_mk (st := st1) l1 c1 k1
  have F2 := fun_mk (st := st2) l2 c2 k2
  have F3 := fun_mk (st := st3) l3 c3 k3
  have F4 := fun_mk (st := st4) l4 c4 k4
  have F5 := fun_mk (st := st5) l5 c5 k5
  have F6 := fun_mk (st := st6) l6 c6 k6
  have F7 := fun_mk (st := st7) l7 c7 k7
  have F8 := fun_mk (st := st8) l8 c8 k8
  have F9 := fun_mk (st := st9) l9 c9 k9
  refine ⟨(fun g => match g with | 0 => f0 | 1 => f1 | 2 => f2 | 3 => f3 | 4 => f4 | 5 => f5 | 6 => f6 | 7 => f7 | 8 => f8 | 9 => f9 | _ => f0 : Nat → Addr), (fun g => match g with | 0 => PySem.W.fnOf "rank" "rank" (defArgs st0) (defBody st0) (defScope st0) .none kV0 dc0 pm0 an0 cd0 ct0 | 1 => PySem.W.fnOf "_law_start" "_law_start" (defArgs st1) (defBody st1) (defScope st1) .none kV1 dc1 pm1 an1 cd1 ct1 | 2 => PySem.W.fnOf "_law_draw" "_law_draw" (defArgs st2) (defBody st2) (defScope st2) .none kV2 dc2 pm2 an2 cd2 ct2 | 3 => PySem.W.fnOf "_law_pick" "_law_pick" (defArgs st3) (defBody st3) (defScope st3) .none kV3 dc3 pm3 an3 cd3 ct3 | 4 => PySem.W.fnOf "_law_is_number" "_law_is_number" (defArgs st4) (defBody st4) (defScope st4) .none kV4 dc4 pm4 an4 cd4 ct4 | 5 => PySem.W.fnOf "_law_is" "_law_is" (defArgs st5) (defBody st5) (defScope st5) .none kV5 dc5 pm5 an5 cd5 ct5 | 6 => PySem.W.fnOf "_law_thing" "_law_thing" (defArgs st6) (defBody st6) (defScope st6) .none kV6 dc6 pm6 an6 cd6 ct6 | 7 => PySem.W.fnOf "_law_kind" "_law_kind" (defArgs st7) (defBody st7) (defScope st7) .none kV7 dc7 pm7 an7 cd7 ct7 | 8 => PySem.W.fnOf "_law_ahead" "_law_ahead" (defArgs st8) (defBody st8) (defScope st8) .none kV8 dc8 pm8 an8 cd8 ct8 | 9 => PySem.W.fnOf "law" "law" (defArgs st9) (defBody st9) (defScope st9) .none kV9 dc9 pm9 an9 cd9 ct9 | _ => PySem.W.fnOf "rank" "rank" (defArgs st0) (defBody st0) (defScope st0) .none kV0 dc0 pm0 an0 cd0 ct0 : Nat → FuncData), ⟨fun g hg => ?_, fun g hg => ?_, fun g hg => ?_, fun g hg => ?_, fun x hx => ?_⟩, rfl, fun s v => .of_eq rfl⟩
  · match g, hg with
    | 0, _ => exact PySem.W.mg_of X G a0
    | 1, _ => exact PySem.W.mg_of X G a1
    | 2, _ => exact PySem.W.mg_of X G a2
    | 3, _ => exact PySem.W.mg_of X G a3
    | 4, _ => exact PySem.W.mg_of X G a4
    | 5, _ => exact PySem.W.mg_of X G a5
    | 6, _ => exact PySem.W.mg_of X G a6
    | 7, _ => exact PySem.W.mg_of X G a7
    | 8, _ => exact PySem.W.mg_of X G a8
    | 9, _ => exact PySem.W.mg_of X G a9
    | n + 10, z => exact absurd z (by omega)
  · match g, hg with
    | 0, _ => exact F0
    | 1, _ => exact F1
    | 2, _ => exact F2
    | 3, _ => exact F3
    | 4, _ => exact F4
    | 5, _ => exact F5
    | 6, _ => exact F6
    | 7, _ => exact F7
    | 8, _ => exact F8
    | 9, _ => exact F9
    | n + 10, z => exact absurd z (by omega)
  · match g, hg with
    | 0, _ => exact k0
    | 1, _ => exact k1
    | 2, _ => exact k2
    | 3, _ => exact k3
    | 4, _ => exact k4
    | 5, _ => exact k5
    | 6, _ => exact k6
    | 7, _ => exact k7
    | 8, _ => exact k8
    | 9, _ => exact k9
    | n + 10, z => exact absurd z (by omega)
  · match g, hg with
    | 0, _ => exact F0.binds (ps := ps0) fun _ _ _ _ _ _ us hl => match us, hl with | [_], _ => rfl
    | 1, _ => exact F1.binds (ps := ps1) fun _ _ _ _ _ _ us hl => match us, hl with | [_], _ => rfl
    | 2, _ => exact F2.binds (ps := ps2) fun _ _ _ _ _ _ us hl => match us, hl with | [_, _], _ => rfl
    | 3, _ => exact F3.binds (ps := ps3) fun _ _ _ _ _ _ us hl => match us, hl with | [_, _], _ => rfl
    | 4, _ => exact F4.binds (ps := ps4) fun _ _ _ _ _ _ us hl => match us, hl with | [_], _ => rfl
    | 5, _ => exact F5.binds (ps := ps5) fun _ _ _ _ _ _ us hl => match us, hl with | [_, _], _ => rfl
    | 6, _ => exact F6.binds (ps := ps6) fun _ _ _ _ _ _ us hl => match us, hl with | [_, _], _ => rfl
    | 7, _ => exact F7.binds (ps := ps7) fun _ _ _ _ _ _ us hl => match us, hl with | [_], _ => rfl
    | 8, _ => exact F8.binds (ps := ps8) fun _ _ _ _ _ _ us hl => match us, hl with | [_, _], _ => rfl
    | 9, _ => exact F9.binds (ps := ps9) fun _ _ _ _ _ _ us hl => match us, hl with | [_], _ => rfl
    | n + 10, z => exact absurd z (by omega)
  · simp only [blts, List.mem_cons, List.not_mem_nil, or_false] at hx
    rcases hx with rfl | rfl | rfl | rfl | rfl | rfl | rfl | rfl | rfl | rfl | rfl
    · exact PySem.W.mg_none_of X G z0
    · exact PySem.W.mg_none_of X G z1
    · exact PySem.W.mg_none_of X G z2
    · exact PySem.W.mg_none_of X G z3
    · exact PySem.W.mg_none_of X G z4
    · exact PySem.W.mg_none_of X G z5
    · exact PySem.W.mg_none_of X G z6
    · exact PySem.W.mg_none_of X G z7
    · exact PySem.W.mg_none_of X G z8
    · exact PySem.W.mg_none_of X G z9
    · exact PySem.W.mg_none_of X G z10
theorem walk {l : PySem.W.OpenLaw} {q : Program} {loose : List Str} {XP : (Str → Option Value) → Heap → Prop} {YP : World → Heap → Prop} {d : DefRec} {K : Params → PySem.W.Frag} (hn : l.most = some 63) (hdf : d.params.defaults = [])
    (pure_law : ∀ ns : List Int, ns.length ≤ 63 → ∃ S', calls 100 9 [.scr ns] [] = some (.bl true, S')) (hY : ∀ (w : World) (h : Heap), YP w h → (K w.params).In h)
    (F : ∀ (w : World) (mg : Str → Option Value) (fa : Addr) (h : Heap), (K w.params).In h → h.Ns mainGlobals mg → mg d.name = some (.ref fa) →
      ∃ (a : Nat → Addr) (fd : Nat → FuncData), Tx (K w.params) mg a fd ∧ a 9 = fa ∧ ∀ (s : Shared) (u : Value), BindsTo s (fd 9) ⟨[u], []⟩ [("_law_script", u)]) :
    PySem.W.WalkO q loose XP YP l.row.toRowW d [] (fun f vs => PySem.call f vs) :=
  L2.walk_of (n := 63) (k := 100) (x := "_law_script") (CX := fun _ => CX0) (sp := fun w => spD ⟨K w.params, w, fun _ => 0⟩ 1 (calls 100 9)) hn (by decide) hdf ⟨rfl, by decide, by decide⟩ hY (fun w mg fa h X G hm => by
    obtain ⟨a, fd, T, ea, hb⟩ := F w mg fa h X G hm
    subst ea
    exact ⟨fd 9, hb, fun base _ _ => (allF (step T) 100).F 9⟩) (fun w H a ns hl hO hS => sp_law pure_law H a ns hl hO hS) fun _ _ _ _ _ z => z
end
end K28
end DL
namespace DL
namespace K28
open PySem
/-! ### the plain law -/
theorem draw_c (k : Nat) : DrawOk (calls (k + 1) 2) := by
  obtain ⟨c2, e⟩ := calls_succ k
  rw [e]
  exact drawOk
theorem pick_c (k : Nat) : calls (k + 2) 3 = runB 2 (pickB (calls (k + 1) 2)) := by
  obtain ⟨c2, e⟩ := calls_succ (k + 1)
  rw [e]
  rfl
theorem start_c (k : Nat) : calls (k + 1) 1 = runB 2 startB := by
  obtain ⟨c2, e⟩ := calls_succ k
  rw [e]
  rfl
theorem is_c (k : Nat) : calls (k + 1) 5 = runB 2 isB := by
  obtain ⟨c2, e⟩ := calls_succ k
  rw [e]
  rfl
/-- things up to n deep -/
inductive Th : Nat → D → Prop where
  | non {n : Nat} : Th n .non
  | int {n : Nat} {i : Int} : Th n (.int i)
  | str {n : Nat} {x : Str} : (PyData.str x).canLay0 = true → Th n (.str x)
  | tup {n : Nat} {ds : List D} : ds.length ≤ 8 → (∀ d ∈ ds, Th n d) → Th (n + 1) (.tup ds)
theorem Th.up {n : Nat} {d : D} (h : Th n d) : Th (n + 1) d := by
  induction h with
  | non => exact .non
  | int => exact .int
  | str h => exact .str h
  | tup h _ ih => exact .tup h ih
/-- .. and narrow ones -/
def ThW (n : Nat) (d : D) : Prop := Th n d ∧ ∀ ds, d = .tup ds → ds.length ≤ 4
theorem pow20 {S : Sto} : powP (.int 10) (.int 20) S = some (.int (10 ^ 20), S) := by rfl
theorem pick_lit (lev : Nat) {T S : Sto} {ds : List D} (h : DSt T S) (h0 : ds ≠ []) (h1 : ds.length < 1073741824) : Ow (calls (lev + 2) 3 [.loc 1, .loc S.length] (S ++ [.lst ds])) fun x => x.1 ∈ ds ∧ DSt (T ++ [.lst ds]) x.2 := by
  rw [pick_c, h.len]
  exact pick_loc (draw_c lev) (h.app _) (by simp) h0 h1
theorem thing_ok : ∀ (deep lev : Nat) (T S : Sto), DSt T S → Ow (calls (deep + 3 + lev) 6 [.loc 1, .int deep] S) fun x => ThW deep x.1 ∧ ∃ U, DSt (T ++ U) x.2 := by
  intro deep
  induction deep with
  | zero =>
    intro lev T S h
    obtain ⟨c2, e⟩ := c6 (lev + 2)
    rw [show 0 + 3 + lev = lev + 2 + 1 by omega, e, ow_runB]
    unfold bd6
    simp
    refine (draw_c (lev + 1) T S 3 h (by decide) (by decide)).imp ?_
    rintro ⟨d, S1⟩ ⟨i, hi, i0, i1, h1⟩
    simp only at hi h1 i0 i1
    subst hi
    simp [pow20, lst_ok]
    split
    · refine (pick_lit lev h1 (by simp) (by simp)).imp ?_
      rintro ⟨d, S2⟩ ⟨hm, h2⟩
      refine ⟨?_, _, h2⟩
      simp at hm
      rcases hm with rfl | rfl | rfl | rfl | rfl
      · exact ⟨.non, fun _ z => by cases z⟩
      all_goals exact ⟨.int, fun _ z => by cases z⟩
    · refine (pick_lit lev h1 (by simp) (by simp)).imp ?_
      rintro ⟨d, S2⟩ ⟨hm, h2⟩
      refine ⟨?_, _, h2⟩
      simp at hm
      rcases hm with rfl | rfl | rfl | rfl | rfl | rfl | rfl
      · exact ⟨.str (by decide +kernel), fun _ z => by cases z⟩
      · exact ⟨.str (by decide +kernel), fun _ z => by cases z⟩
      · exact ⟨.str (by decide +kernel), fun _ z => by cases z⟩
      · exact ⟨.str (by decide +kernel), fun _ z => by cases z⟩
      · exact ⟨.int, fun _ z => by cases z⟩
      · exact ⟨.int, fun _ z => by cases z⟩
      · exact ⟨.non, fun _ z => by cases z⟩
  | succ deep ih =>
    intro lev T S h
    obtain ⟨c2, e⟩ := c6 (deep + 1 + lev + 2)
    rw [show deep + 1 + 3 + lev = deep + 1 + lev + 2 + 1 by omega, e, ow_runB]
    unfold bd6
    simp
    refine (draw_c (deep + 1 + lev + 1) T S 5 h (by decide) (by decide)).imp ?_
    rintro ⟨d, S1⟩ ⟨i, hi, i0, i1, h1⟩
    simp only at hi h1 i0 i1
    subst hi
    simp [pow20, lst_ok, ow_lc]
    split
    · refine (pick_lit (deep + 1 + lev) h1 (by simp) (by simp)).imp ?_
      rintro ⟨d, S2⟩ ⟨hm, h2⟩
      refine ⟨?_, _, h2⟩
      simp at hm
      rcases hm with rfl | rfl | rfl | rfl | rfl
      · exact ⟨.non, fun _ z => by cases z⟩
      all_goals exact ⟨.int, fun _ z => by cases z⟩
    split
    · refine (pick_lit (deep + 1 + lev) h1 (by simp) (by simp)).imp ?_
      rintro ⟨d, S2⟩ ⟨hm, h2⟩
      refine ⟨?_, _, h2⟩
      simp at hm
      rcases hm with rfl | rfl | rfl | rfl | rfl | rfl | rfl
      · exact ⟨.str (by decide +kernel), fun _ z => by cases z⟩
      · exact ⟨.str (by decide +kernel), fun _ z => by cases z⟩
      · exact ⟨.str (by decide +kernel), fun _ z => by cases z⟩
      · exact ⟨.str (by decide +kernel), fun _ z => by cases z⟩
      · exact ⟨.int, fun _ z => by cases z⟩
      · exact ⟨.int, fun _ z => by cases z⟩
      · exact ⟨.non, fun _ z => by cases z⟩
    · refine (draw_c (deep + 1 + lev + 1) T S1 4 h1 (by decide) (by decide)).imp ?_
      rintro ⟨d, S2⟩ ⟨n, hn, n0, n1, h2⟩
      simp only at hn h2 n0 n1
      subst hn
      simp
      refine ⟨⟨by omega, by omega⟩, ?_⟩
      refine (lcL_inv ((List.range n.toNat).map fun k : Nat => D.int k) (fun j acc S => acc.length = j ∧ (∀ d ∈ acc, Th deep d) ∧ ∃ U, DSt (T ++ U) S) (fun j acc S _ => ?_) (fun j d acc S hd hI => ?_) n.toNat 0 [] S2 (by simp) (by simp) ⟨rfl, by simp, [], by simpa using h2⟩).imp ?_
      · simp only [itAt, List.getElem?_map, List.getElem?_range]
        by_cases hj : j < n.toNat <;> simp [hj]
      · obtain ⟨hl, ha, U, hU⟩ := hI
        have hj : j < n.toNat := by
          have := (List.getElem?_eq_some_iff.mp hd).1
          simpa using this
        refine ⟨_, rfl, ?_⟩
        simp [bYes, wipeD]
        rw [show deep + 1 + lev + 2 = deep + 3 + lev by omega]
        refine (ih lev _ S hU).imp ?_
        rintro ⟨y, S3⟩ ⟨hy, U2, h3⟩
        refine ⟨show acc.length < 2 ^ 24 by omega, by simp [hl], ?_, U ++ U2, by rw [← List.append_assoc]; exact h3⟩
        intro d hd
        rcases hd with hd | hd
        · exact ha d hd
        · rw [hd]; exact hy.1
      · rintro ⟨ds, S3⟩ ⟨hl, ha, U, hU⟩
        simp at hl ha hU
        simp [tupleP, seqD]
        refine ⟨⟨.tup (by omega) ha, fun es z => by cases z; omega⟩, U ++ [.lst ds], ?_⟩
        rw [← List.append_assoc]
        exact hU.app _
end K28
end DL
namespace DL
namespace K28
open PySem
mutual
def rankD : D → D
  | .non => .tup [.int 0]
  | .tup ds => .tup (.int 3 :: rankDs ds)
  | .str x => .tup [.int 2, .str x]
  | .int i => .tup [.int 1, .int i]
  | .bl b => .tup [.int 1, .bl b]
  | .loc n => .tup [.int 1, .loc n]
  | .scr ns => .tup [.int 1, .scr ns]
def rankDs : List D → List D
  | [] => []
  | d :: ds => rankD d :: rankDs ds
end
theorem rankDs_map : ∀ ds : List D, rankDs ds = ds.map rankD
  | [] => by simp [rankDs]
  | d :: ds => by simp [rankDs, rankDs_map ds]
theorem rank_ok {n : Nat} {d : D} (h : Th n d) : ∀ (lev : Nat) (S : Sto), Ow (calls (n + 1 + lev) 0 [d] S) fun x => x.1 = rankD d ∧ ∃ U, x.2 = S ++ U := by
  induction h with
  | @non n =>
    intro lev S
    obtain ⟨c2, e⟩ := c0 (n + lev)
    rw [show n + 1 + lev = n + lev + 1 by omega, e, ow_runB]
    unfold bd0
    simp [tup_ok, rankD]
  | @int n i =>
    intro lev S
    obtain ⟨c2, e⟩ := c0 (n + lev)
    rw [show n + 1 + lev = n + lev + 1 by omega, e, ow_runB]
    unfold bd0
    simp [tup_ok, rankD]
  | @str n x hx =>
    intro lev S
    obtain ⟨c2, e⟩ := c0 (n + lev)
    rw [show n + 1 + lev = n + lev + 1 by omega, e, ow_runB]
    unfold bd0
    simp [tup_ok, rankD]
  | @tup n ds hl hd ih =>
    intro lev S
    obtain ⟨c2, e⟩ := c0 (n + 1 + lev)
    rw [show n + 1 + 1 + lev = n + 1 + lev + 1 by omega, e, ow_runB]
    unfold bd0
    simp [ow_lc, seqD]
    refine (lcL_inv ds (fun j acc S1 => acc = (ds.take j).map rankD ∧ ∃ U, S1 = S ++ U) (fun j acc S _ => by simp [itAt, seqD]) (fun j d acc S1 hj hI => ?_) ds.length 0 [] S (by simp) (by simp) ⟨by simp, [], by simp⟩).imp ?_
    · obtain ⟨rfl, U, rfl⟩ := hI
      have hjl : j < ds.length := (List.getElem?_eq_some_iff.mp hj).1
      refine ⟨_, rfl, ?_⟩
      simp [bYes, wipeD]
      refine (ih d (List.mem_of_getElem? hj) lev _).imp ?_
      rintro ⟨y, S2⟩ ⟨rfl, U2, h2⟩
      simp only at h2
      subst h2
      refine ⟨fits_lt (by omega), ?_, U ++ U2, by simp⟩
      simp [List.take_add_one, hj]
    · rintro ⟨ks, S1⟩ ⟨h1, U, h2⟩
      simp only [List.take_length] at h1 h2
      subst h1 h2
      simp [seqD]
      rw [tup_ok (by simp; omega)]
      simp [rankD, rankDs_map]
def kindD : D → Int
  | .non => 0
  | .tup _ => 3
  | .str _ => 2
  | _ => 1
theorem kind_ok {n : Nat} {d : D} (h : Th n d) (lev : Nat) (S : Sto) : calls (lev + 1) 7 [d] S = some (.int (kindD d), S) := by
  have go : Ow (calls (lev + 1) 7 [d] S) fun x => x = (.int (kindD d), S) := by
    obtain ⟨c2, e⟩ := c7 lev
    rw [e, ow_runB]
    unfold bd7
    cases h <;> simp [kindD]
  obtain ⟨a, e, rfl⟩ := go
  exact e
end K28
end DL
namespace DL
namespace K28
open PySem
/-! what the order says -/
theorem Th.pure {n : Nat} {d : D} (h : Th n d) : d.pure = true ∧ d.py.canLay0 = true ∧ d.py.depth ≤ n := by
  induction h with
  | non => simp [D.pure, D.py, PyData.canLay0, PyData.depth]
  | int => simp [D.pure, D.py, PyData.canLay0, PyData.depth]
  | str hx => exact ⟨by simp [D.pure], by simpa [D.py] using hx, by simp [D.py, PyData.depth]⟩
  | @tup n ds hl hd ih =>
    have go : ∀ l : List D, (∀ d ∈ l, d ∈ ds) → D.pures l = true ∧ PyData.canLayAll0 (D.pys l) = true ∧ PyData.depthAll (D.pys l) ≤ n := by
      intro l
      induction l with
      | nil => intro _; simp [D.pures, D.pys, PyData.canLayAll0, PyData.depthAll]
      | cons a l ih2 =>
        intro hm
        obtain ⟨i1, i2, i3⟩ := ih a (hm a List.mem_cons_self)
        obtain ⟨j1, j2, j3⟩ := ih2 fun d hd => hm d (List.mem_cons_of_mem _ hd)
        simp only [D.pures, D.pys, PyData.canLayAll0, PyData.depthAll, i1, i2, j1, j2, Bool.and_self, true_and]
        omega
    obtain ⟨g1, g2, g3⟩ := go ds fun _ h => h
    simp only [D.pure, D.py, PyData.canLay0, PyData.depth, g1, g2, true_and]
    omega
theorem Th.shaped {n : Nat} {d : D} (h : Th n d) (hn : n ≤ 64) : SeqAt.shaped d.py = true := by
  obtain ⟨_, h2, h3⟩ := h.pure
  simp [SeqAt.shaped, h2]
  omega
theorem ne_th {n : Nat} {a b : D} {S : Sto} (ha : Th n a) (hb : Th n b) (hn : n ≤ 64) : neP a b S = some (.bl (!PyData.eqv a.py b.py), S) := by
  simp [neP, pyOf, ha.pure.1, hb.pure.1, ha.shaped hn, hb.shaped hn]
theorem eq_th {n : Nat} {a b : D} {S : Sto} (ha : Th n a) (hb : Th n b) (hn : n ≤ 64) : eqP a b S = some (.bl (PyData.eqv a.py b.py), S) := by
  simp [eqP, pyOf, ha.pure.1, hb.pure.1, ha.shaped hn, hb.shaped hn]
/-- a rank is a thing, too -/
theorem rank_shape {n : Nat} {d : D} (h : Th n d) : (rankD d).pure = true ∧ (rankD d).py.canLay0 = true ∧ (rankD d).py.depth ≤ n + 1 := by
  induction h with
  | non => simp [rankD, D.pure, D.pures, D.py, D.pys, PyData.canLay0, PyData.canLayAll0, PyData.depth, PyData.depthAll]
  | int => simp [rankD, D.pure, D.pures, D.py, D.pys, PyData.canLay0, PyData.canLayAll0, PyData.depth, PyData.depthAll]
  | str hx =>
    simp [rankD, D.pure, D.pures, D.py, D.pys, PyData.canLayAll0, PyData.depth, PyData.depthAll, hx]
    simp [PyData.canLay0, PyData.canLayAll0, hx]
    simpa [PyData.canLay0] using hx
  | @tup n ds hl hd ih =>
    have go : ∀ l : List D, (∀ d ∈ l, d ∈ ds) → D.pures (rankDs l) = true ∧ PyData.canLayAll0 (D.pys (rankDs l)) = true ∧ PyData.depthAll (D.pys (rankDs l)) ≤ n + 1 := by
      intro l
      induction l with
      | nil => intro _; simp [rankDs, D.pures, D.pys, PyData.canLayAll0, PyData.depthAll]
      | cons a l ih2 =>
        intro hm
        obtain ⟨i1, i2, i3⟩ := ih a (hm a List.mem_cons_self)
        obtain ⟨j1, j2, j3⟩ := ih2 fun d hd => hm d (List.mem_cons_of_mem _ hd)
        simp only [rankDs, D.pures, D.pys, PyData.canLayAll0, PyData.depthAll, i1, i2, j1, j2, Bool.and_self, true_and]
        omega
    obtain ⟨g1, g2, g3⟩ := go ds fun _ h => h
    simp [rankD, D.pure, D.pures, D.py, D.pys, PyData.canLay0, PyData.canLayAll0, PyData.depth, PyData.depthAll, g1, g2]
    omega
theorem rank_eqv {n : Nat} {a : D} (ha : Th n a) : ∀ {m : Nat} {b : D}, Th m b → PyData.eqv (rankD a).py (rankD b).py = PyData.eqv a.py b.py := by
  induction ha with
  | non => intro m b hb; cases hb <;> simp [rankD, D.py, D.pys, PyData.eqv, PyData.eqvAll]
  | int => intro m b hb; cases hb <;> simp [rankD, D.py, D.pys, PyData.eqv, PyData.eqvAll]
  | str hx => intro m b hb; cases hb <;> simp [rankD, D.py, D.pys, PyData.eqv, PyData.eqvAll]
  | @tup n ds hl hd ih =>
    intro m b hb
    cases hb with
    | @tup m es hl2 he =>
      have go : ∀ xs ys : List D, (∀ d ∈ xs, d ∈ ds) → (∀ d ∈ ys, d ∈ es) → PyData.eqvAll (D.pys (rankDs xs)) (D.pys (rankDs ys)) = PyData.eqvAll (D.pys xs) (D.pys ys) := by
        intro xs
        induction xs with
        | nil => intro ys _ _; cases ys <;> simp [rankDs, D.pys, PyData.eqvAll]
        | cons x xs ih2 =>
          intro ys hx hy
          cases ys with
          | nil => simp [rankDs, D.pys, PyData.eqvAll]
          | cons y ys =>
            simp only [rankDs, D.pys, PyData.eqvAll]
            rw [ih x (hx x List.mem_cons_self) (he y (hy y List.mem_cons_self)), ih2 ys (fun d hd => hx d (List.mem_cons_of_mem _ hd)) fun d hd => hy d (List.mem_cons_of_mem _ hd)]
      simp [rankD, D.py, D.pys, PyData.eqv, PyData.eqvAll, go ds es (fun _ h => h) fun _ h => h]
    | _ => simp [rankD, D.py, D.pys, PyData.eqv, PyData.eqvAll]
/-- kinds told apart -/
theorem rank_kind {n m : Nat} {a b : D} (ha : Th n a) (hb : Th m b) (h : kindD a ≠ kindD b) : ltD (rankD a) (rankD b) = some (decide (kindD a < kindD b)) := by
  cases ha <;> cases hb <;> simp [kindD] at h <;> simp [rankD, ltD, ltDs, D.py, PyData.eqv, kindD]
theorem rank_int {i j : Int} : ltD (rankD (.int i)) (rankD (.int j)) = some (decide (i < j)) := by
  simp [rankD, ltD, ltDs, D.py, PyData.eqv]
  intro h
  omega
theorem rank_str {x y : Str} : ltD (rankD (.str x)) (rankD (.str y)) = some (decide (x.cps.toList < y.cps.toList)) := by
  simp [rankD, ltD, ltDs, D.py, PyData.eqv]
  intro h
  subst h
  simp [List.lt_irrefl]
theorem rank_tup {xs ys : List D} : ltD (rankD (.tup xs)) (rankD (.tup ys)) = ltDs (rankDs xs) (rankDs ys) := by
  simp [rankD, ltD, ltDs, D.py, PyData.eqv]
end K28
end DL
namespace DL
namespace K28
open PySem
theorem Th.mono {n m : Nat} {d : D} (h : Th n d) (hm : n ≤ m) : Th m d := by
  obtain ⟨k, rfl⟩ : ∃ k, m = n + k := ⟨m - n, by omega⟩
  clear hm
  induction k with
  | zero => exact h
  | succ k ih => exact ih.up
theorem kind_c {n k : Nat} {d : D} (h : Th n d) (hk : 0 < k) (S : Sto) : calls k 7 [d] S = some (.int (kindD d), S) := by
  obtain ⟨j, rfl⟩ : ∃ j, k = j + 1 := ⟨k - 1, by omega⟩
  exact kind_ok h j S
/-- what is promised of ahead -/
def AheadOk (k : Nat) (a b : D) : Prop := ∀ S, Ow (calls k 8 [a, b] S) fun x => ∃ c, ltD (rankD a) (rankD b) = some c ∧ x = (.bl c, S)
theorem ahead_kind {n m k : Nat} {a b : D} (ha : Th n a) (hb : Th m b) (h : kindD a ≠ kindD b) (hk : 1 < k) : AheadOk k a b := by
  intro S
  obtain ⟨j, rfl⟩ : ∃ j, k = j + 1 := ⟨k - 1, by omega⟩
  obtain ⟨c2, e⟩ := c8 j
  rw [e, ow_runB]
  unfold bd8
  have hj : 0 < j := by omega
  simp [kind_c ha hj, kind_c hb hj, h, rank_kind ha hb h]
theorem ahead_ok {n : Nat} {a : D} (ha : Th n a) : ∀ {m : Nat} {b : D}, Th m b → n ≤ 60 → m ≤ 60 → ∀ k, n + 1 < k → AheadOk k a b := by
  induction ha with
  | @non n =>
    intro m b hb hn hm k hk
    by_cases h : kindD .non = kindD b
    · cases hb with
      | non =>
        intro S
        obtain ⟨j, rfl⟩ : ∃ j, k = j + 1 := ⟨k - 1, by omega⟩
        obtain ⟨c2, e⟩ := c8 j
        rw [e, ow_runB]
        unfold bd8
        have hj : 0 < j := by omega
        simp [kind_c (n := 0) Th.non hj]
        simp [rankD, ltD, ltDs, D.py, PyData.eqv]
      | _ => simp [kindD] at h
    · exact ahead_kind (n := n) .non hb h (by omega)
  | @int n i =>
    intro m b hb hn hm k hk
    by_cases h : kindD (.int i) = kindD b
    · cases hb with
      | int =>
        intro S
        obtain ⟨j, rfl⟩ : ∃ j, k = j + 1 := ⟨k - 1, by omega⟩
        obtain ⟨c2, e⟩ := c8 j
        rw [e, ow_runB]
        unfold bd8
        have hj : 0 < j := by omega
        simp [kind_c (n := 0) Th.int hj, kindD, rank_int]
      | _ => simp [kindD] at h
    · exact ahead_kind (n := n) .int hb h (by omega)
  | @str n x hx =>
    intro m b hb hn hm k hk
    by_cases h : kindD (.str x) = kindD b
    · cases hb with
      | str hy =>
        intro S
        obtain ⟨j, rfl⟩ : ∃ j, k = j + 1 := ⟨k - 1, by omega⟩
        obtain ⟨c2, e⟩ := c8 j
        rw [e, ow_runB]
        unfold bd8
        have hj : 0 < j := by omega
        simp [kind_c (n := 0) (Th.str hx) hj, kind_c (n := 0) (Th.str hy) hj, kindD, rank_str]
        simp [ltP, ltD, D.pure, D.py, SeqAt.shaped, hx, hy, PyData.depth]
      | _ => simp [kindD] at h
    · exact ahead_kind (n := n) (.str hx) hb h (by omega)
  | @tup n xs hl hd ih =>
    intro m b hb hn hm k hk
    by_cases h : kindD (.tup xs) = kindD b
    · cases hb with
      | @tup m ys hl2 hd2 =>
        intro S
        obtain ⟨j, rfl⟩ : ∃ j, k = j + 1 := ⟨k - 1, by omega⟩
        obtain ⟨c2, e⟩ := c8 j
        rw [e, ow_runB]
        unfold bd8
        have hj : 0 < j := by omega
        simp [kind_c (Th.tup hl hd) hj, kind_c (Th.tup hl2 hd2) hj, kindD, rank_tup, ow_for]
        have e3 : (if ys.length < xs.length then (ys.length : Int) else (xs.length : Int)) = ((min xs.length ys.length : Nat) : Int) := by
          split <;> omega
        rw [e3]
        refine ⟨⟨by omega, by omega⟩, ?_⟩
        refine (forL_inv ((List.range (min xs.length ys.length)).map fun k : Nat => D.int k) (fun i env S1 => S1 = S ∧ (∃ o, env = [some (.tup xs), some (.tup ys), o]) ∧ ltDs (rankDs xs) (rankDs ys) = ltDs (rankDs (xs.drop i)) (rankDs (ys.drop i)))
          (fun x => x.2.2 = S ∧ ((x.1 = .nx ∧ (∃ o, x.2.1 = [some (.tup xs), some (.tup ys), o]) ∧ ltDs (rankDs xs) (rankDs ys) = some (decide (xs.length < ys.length))) ∨ ∃ c, ltDs (rankDs xs) (rankDs ys) = some c ∧ x.1 = .rt (.bl c)))
          (fun i env S1 _ => ?_) (fun env S1 hI => ?_) (fun i d env S1 hi hI => ?_) (min xs.length ys.length) 0 _ S (by simp) (by simp) ⟨rfl, ⟨_, rfl⟩, by simp⟩).imp ?_
        · simp only [itAt, List.getElem?_map, List.getElem?_range]
          rw [show ((min xs.length ys.length : Nat) : Int).toNat = min xs.length ys.length by omega]
          by_cases hj : i < min xs.length ys.length
          · simp [hj]
          · simp [hj]
        · obtain ⟨rfl, ho, hq⟩ := hI
          refine ⟨rfl, .inl ⟨rfl, ho, ?_⟩⟩
          rw [hq]
          simp only [List.length_map, List.length_range]
          by_cases hlt : xs.length ≤ ys.length
          · rw [Nat.min_eq_left hlt, List.drop_length]
            cases q : ys.drop xs.length with
            | nil =>
              have := congrArg List.length q
              simp at this
              simp [rankDs, ltDs]
              omega
            | cons y r =>
              have := congrArg List.length q
              simp at this
              simp [rankDs, ltDs]
              omega
          · rw [Nat.min_eq_right (by omega), List.drop_length]
            cases q : xs.drop ys.length with
            | nil =>
              have := congrArg List.length q
              simp at this
              omega
            | cons y r => 
              simp [rankDs, ltDs]
              omega
        · obtain ⟨rfl, ⟨o, rfl⟩, hq⟩ := hI
          have hil : i < min xs.length ys.length := by
            have := (List.getElem?_eq_some_iff.mp hi).1
            simpa using this
          have hdi : d = .int (i : Nat) := by
            simp [hil] at hi
            exact hi.symm
          subst hdi
          have hix : i < xs.length := by omega
          have hiy : i < ys.length := by omega
          have t1 := hd _ (List.getElem_mem hix)
          have t2 := hd2 _ (List.getElem_mem hiy)
          have x1 : ∀ S, ixQ (.tup xs) (.int i) S = some (xs[i], S) := fun S => ix_tup (by omega) (by simp [hix])
          have x2 : ∀ S, ixQ (.tup ys) (.int i) S = some (ys[i], S) := fun S => ix_tup (by omega) (by simp [hiy])
          rw [List.drop_eq_getElem_cons hix, List.drop_eq_getElem_cons hiy] at hq
          simp only [rankDs, ltDs, rank_eqv t1 t2] at hq
          simp [-Bool.exists_bool, x1, x2, ne_th (S := S1) (t1.mono (Nat.le_max_left n m)) (t2.mono (Nat.le_max_right n m)) (by omega)]
          cases hv : PyData.eqv xs[i].py ys[i].py with
          | true =>
            rw [hv] at hq
            simpa [-Bool.exists_bool] using hq
          | false =>
            rw [hv] at hq
            simp [-Bool.exists_bool]
            refine (ih _ (List.getElem_mem hix) t2 (by omega) (by omega) j (by omega) S1).imp ?_
            rintro ⟨y, S2⟩ ⟨c, hc, he⟩
            cases he
            exact ⟨rfl, c, by rw [hq]; simpa using hc, rfl⟩
        · rintro ⟨fl, env, S1⟩ ⟨rfl, ⟨rfl, ⟨o, rfl⟩, hq⟩ | ⟨c, hq, rfl⟩⟩
          · simp [-Bool.exists_bool, hq]
            omega
          · simp [-Bool.exists_bool, hq]
      | _ => simp [kindD] at h
    · exact ahead_kind (.tup hl hd) hb h (by omega)
/-! ### sorting -/
theorem leT_total : ∀ a b : D × D, leT a.1 b.1 || leT b.1 a.1 := fun a b => by
  simp only [leT, tokLt]
  cases h : PyProof.Rows.lexLt PyProof.Rows.itemOrd (PySem.W.keyToks b.1.py) (PySem.W.keyToks a.1.py) with
  | false => rfl
  | true =>
    have := (PyProof.Rows.listOrd PyProof.Rows.itemOrd).trans (PySem.W.keyToks b.1.py) (PySem.W.keyToks a.1.py) (PySem.W.keyToks b.1.py) h
    cases h2 : PyProof.Rows.lexLt PyProof.Rows.itemOrd (PySem.W.keyToks a.1.py) (PySem.W.keyToks b.1.py) with
    | false => rfl
    | true =>
      have z := this h2
      rw [(PyProof.Rows.listOrd PyProof.Rows.itemOrd).irrefl] at z
      cases z
theorem leT_trans : ∀ a b c : D × D, leT a.1 b.1 = true → leT b.1 c.1 = true → leT a.1 c.1 = true := fun a b c h1 h2 => by
  simp only [leT, tokLt, Bool.not_eq_true'] at *
  cases h : PyProof.Rows.lexLt PyProof.Rows.itemOrd (PySem.W.keyToks c.1.py) (PySem.W.keyToks a.1.py) with
  | false => rfl
  | true =>
    rcases (PyProof.Rows.listOrd PyProof.Rows.itemOrd).negTrans (PySem.W.keyToks c.1.py) (PySem.W.keyToks b.1.py) (PySem.W.keyToks a.1.py) h with z | z
    · exact absurd (show PyProof.Rows.lexLt PyProof.Rows.itemOrd (PySem.W.keyToks c.1.py) (PySem.W.keyToks b.1.py) = true from z) (by rw [h2]; simp)
    · exact absurd (show PyProof.Rows.lexLt PyProof.Rows.itemOrd (PySem.W.keyToks b.1.py) (PySem.W.keyToks a.1.py) = true from z) (by rw [h1]; simp)
/-- sorted: a permutation, none ahead of the one before it -/
theorem sortD_ok {f : D → D} {xs : List D} : (sortD (xs.map f) xs).Perm xs ∧ (sortD (xs.map f) xs).Pairwise fun a b => tokLt (f b) (f a) = false := by
  have e0 : ∀ l : List D, (l.map f).zip l = l.map fun x => (f x, x) := fun l => by
    induction l with
    | nil => rfl
    | cons a l ih => simp [ih]
  have e := e0 xs
  have p := List.mergeSort_perm ((xs.map f).zip xs) fun p q => leT p.1 q.1
  have s := List.pairwise_mergeSort (le := fun p q : D × D => leT p.1 q.1) leT_trans leT_total ((xs.map f).zip xs)
  refine ⟨?_, ?_⟩
  · unfold sortD
    refine (p.map (·.2)).trans ?_
    rw [e, List.map_map, show ((fun x : D × D => x.2) ∘ fun x => (f x, x)) = id from rfl, List.map_id]
  · unfold sortD
    rw [List.pairwise_map]
    refine List.Pairwise.imp_of_mem (fun {a b} ha hb h => ?_) s
    have m1 : ∀ p ∈ ((xs.map f).zip xs).mergeSort (fun p q => leT p.1 q.1), p.1 = f p.2 := fun q hq => by
      have := p.mem_iff.mp hq
      rw [e] at this
      obtain ⟨x, _, rfl⟩ := List.mem_map.mp this
      rfl
    rw [← m1 a ha, ← m1 b hb]
    simpa [leT] using h
end K28
end DL
namespace DL
namespace K28
open PySem
theorem rank_c {n k : Nat} {d : D} (h : Th n d) (hk : n < k) (S : Sto) : Ow (calls k 0 [d] S) fun x => x.1 = rankD d ∧ ∃ U, x.2 = S ++ U := by
  obtain ⟨j, rfl⟩ : ∃ j, k = n + 1 + j := ⟨k - n - 1, by omega⟩
  exact rank_ok h j S
theorem calls9 : calls 100 9 = runB 7 (bd9 (calls 99) (calls 97)) := by
  show callsOf bdN (97 + 3) 9 = _
  rfl
theorem rank_some {n m : Nat} {a b : D} (ha : Th n a) (hb : Th m b) (hn : n ≤ 60) (hm : m ≤ 60) : ∃ c, ltD (rankD a) (rankD b) = some c := by
  obtain ⟨x, _, c, hc, _⟩ := ahead_ok ha hb hn hm (n + 2) (by omega) []
  exact ⟨c, hc⟩
theorem lt_rank {n m : Nat} {a b : D} {c : Bool} {S : Sto} (ha : Th n a) (hb : Th m b) (hn : n ≤ 60) (hm : m ≤ 60) (h : ltD (rankD a) (rankD b) = some c) : ltP (rankD a) (rankD b) S = some (.bl c, S) := by
  obtain ⟨a1, a2, a3⟩ := rank_shape ha
  obtain ⟨b1, b2, b3⟩ := rank_shape hb
  simp [ltP, h, a1, b1, SeqAt.shaped, a2, b2]
  omega
theorem eq_rank {n m : Nat} {a b : D} {S : Sto} (ha : Th n a) (hb : Th m b) (hn : n ≤ 60) (hm : m ≤ 60) : eqP (rankD a) (rankD b) S = some (.bl (PyData.eqv a.py b.py), S) := by
  obtain ⟨a1, a2, a3⟩ := rank_shape ha
  obtain ⟨b1, b2, b3⟩ := rank_shape hb
  simp [eqP, pyOf, a1, b1, SeqAt.shaped, a2, b2, rank_eqv ha hb]
  omega
theorem is_ok (k : Nat) (c : Bool) (S : Sto) : calls (k + 1) 5 [.bl c, .bl c] S = some (.bl true, S) := by
  have go : Ow (calls (k + 1) 5 [.bl c, .bl c] S) fun x => x = (.bl true, S) := by
    rw [is_c, ow_runB]
    unfold isB
    simp [eqP, pyOf, D.pure, D.py, SeqAt.shaped, PyData.canLay0, PyData.depth, PyData.eqv]
  obtain ⟨a, e, rfl⟩ := go
  exact e
theorem ne_bl {a b : Bool} {S : Sto} : neP (.bl a) (.bl b) S = some (.bl (!(a == b)), S) := by
  simp [neP, pyOf, D.pure, D.py, SeqAt.shaped, PyData.canLay0, PyData.depth, PyData.eqv]
/-- the keys of things are their ranks -/
theorem keys_ok {k : Nat} : ∀ (xs : List D) (S : Sto), (∀ d ∈ xs, ∃ n, n < k ∧ Th n d) → ∃ U, keysD (calls k 0) xs S = some (xs.map rankD, S ++ U)
  | [], S, _ => ⟨[], by simp [keysD]⟩
  | x :: xs, S, h => by
    obtain ⟨n, hn, hx⟩ := h x List.mem_cons_self
    obtain ⟨⟨y, S1⟩, e1, h1, U1, h2⟩ := rank_c hx hn S
    simp only at h1 h2
    subst h1 h2
    obtain ⟨U2, e2⟩ := keys_ok xs (S ++ U1) fun d hd => h d (List.mem_cons_of_mem _ hd)
    exact ⟨U1 ++ U2, by simp [keysD, e1, e2]⟩
theorem kTy_rank {n : Nat} {d : D} (h : Th n d) : kTy (rankD d) = some 2 := by
  cases h <;> simp [rankD, kTy]
theorem sortOk_rank {xs : List D} (h : ∀ d ∈ xs, ∃ n, n ≤ 60 ∧ Th n d) : sortOk (xs.map rankD) = true := by
  unfold sortOk
  simp only [List.all_map, List.all_eq_true, Function.comp, Bool.and_eq_true, decide_eq_true_eq]
  intro x hx
  obtain ⟨n, hn, hx⟩ := h x hx
  obtain ⟨a1, a2, a3⟩ := rank_shape hx
  refine ⟨⟨⟨a1, ?_⟩, by rw [kTy_rank hx]; rfl⟩, fun y hy => ?_⟩
  · simp [SeqAt.shaped, a2]
    omega
  · obtain ⟨m, hm, hy⟩ := h y hy
    obtain ⟨c, hc⟩ := rank_some hx hy hn hm
    exact ⟨by rw [hc]; rfl, by rw [kTy_rank hx, kTy_rank hy]⟩
end K28
end DL
namespace DL
namespace K28
open PySem
/-- what the law does with its two things -/
noncomputable def tailB (cl cl2 : Nat → FM) : SM := (sSeq (sIf (bOr (bNot (bTru (mL (cl 5) (lCons (m2 ltP (mL (cl 0) (lCons (mVar 2) lNil)) (mL (cl 0) (lCons (mVar 3) lNil))) (lCons (mL (cl 8) (lCons (mVar 2) (lCons (mVar 3) lNil))) lNil))))) (bV (m2 neP (m2 eqP (mL (cl 0) (lCons (mVar 2) lNil)) (mL (cl 0) (lCons (mVar 3) lNil))) (m2 eqP (mVar 2) (mVar 3))))) (sRet (mC (.bl false))) sNext) (sSeq (sAsg (mL lstP (lCons (mVar 2) (lCons (mVar 3) (lCons (mL (cl 6) (lCons (mVar 1) (lCons (mC (.int 2)) lNil))) (lCons (mL (cl 6) (lCons (mVar 1) (lCons (mC (.int 1)) lNil))) lNil))))) (gVar 4)) (sSeq (sAsg (mSortK (cl2 0) (mVar 4)) (gVar 5)) (sRet (mNot (mL anyP (lCons (mLc (iRng1M (mC (.int 3))) [6] (.nm 6) bYes (mL (cl 8) (lCons (m2 ixQ (mVar 5) (m2 addP (mVar 6) (mC (.int 1)))) (lCons (m2 ixQ (mVar 5) (mVar 6)) lNil)))) lNil)))))))
theorem tail_ok {T S : Sto} {one two : D} {o0 : Option D} (h : DSt T S) (h1 : Th 3 one) (h2 : Th 3 two) : Ow (tailB (calls 99) (calls 97) [o0, some (.loc 1), some one, some two, none, none, none] S) fun x => x.1 = .rt (.bl true) := by
  unfold tailB
  rw [ow_seq]
  simp [-Bool.exists_bool, -ow_seq]
  refine (rank_c h1 (by omega) S).imp ?_
  rintro ⟨d1, S1⟩ ⟨rfl, U1, rfl⟩
  refine (rank_c h2 (by omega) _).imp ?_
  rintro ⟨d2, S2⟩ ⟨rfl, U2, rfl⟩
  obtain ⟨c, hc⟩ := rank_some h1 h2 (by omega) (by omega)
  simp [-Bool.exists_bool, -ow_seq, lt_rank h1 h2 (by omega) (by omega) hc]
  refine (ahead_ok h1 h2 (by omega) (by omega) 99 (by omega) _).imp ?_
  rintro ⟨x, S3⟩ ⟨c', hc', he⟩
  rw [hc] at hc'
  cases hc'
  cases he
  have isk := is_ok 98 c
  simp only [Nat.reduceAdd] at isk
  simp [-Bool.exists_bool, -ow_seq, isk]
  refine (rank_c h1 (by omega) _).imp ?_
  rintro ⟨d1, S1⟩ ⟨rfl, U3, rfl⟩
  refine (rank_c h2 (by omega) _).imp ?_
  rintro ⟨d2, S2⟩ ⟨rfl, U4, rfl⟩
  simp [-Bool.exists_bool, -ow_seq, eq_rank h1 h2 (by omega) (by omega), eq_th (h1.mono (show 3 ≤ 3 by omega)) h2 (by omega), ne_bl]
  have h5 := h.app (U1 ++ (U2 ++ (U3 ++ U4)))
  revert h5
  generalize S ++ (U1 ++ (U2 ++ (U3 ++ U4))) = S5
  generalize T ++ (U1 ++ (U2 ++ (U3 ++ U4))) = T5
  intro h5
  rw [ow_seq]
  simp [-Bool.exists_bool, -ow_seq]
  refine (thing_ok 2 94 T5 S5 h5).imp ?_
  rintro ⟨three, S6⟩ ⟨h3, U6, h6⟩
  simp only at h3 h6
  replace h3 := h3.1
  simp [-Bool.exists_bool, -ow_seq]
  refine (thing_ok 1 95 _ S6 h6).imp ?_
  rintro ⟨four, S7⟩ ⟨h4, U7, h7⟩
  simp only at h4 h7
  replace h4 := h4.1
  simp [-Bool.exists_bool, -ow_seq, lst_ok]
  rw [ow_seq]
  have all : ∀ d ∈ [one, two, three, four], ∃ n, n ≤ 3 ∧ Th n d := fun d hd => by
    simp at hd
    rcases hd with rfl | rfl | rfl | rfl
    · exact ⟨3, by omega, h1⟩
    · exact ⟨3, by omega, h2⟩
    · exact ⟨2, by omega, h3⟩
    · exact ⟨1, by omega, h4⟩
  obtain ⟨U8, e8⟩ := keys_ok (k := 97) [one, two, three, four] (S7 ++ [.lst [one, two, three, four]]) fun d hd => let ⟨n, a, b⟩ := all d hd; ⟨n, by omega, b⟩
  have ok8 := sortOk_rank (xs := [one, two, three, four]) fun d hd => let ⟨n, a, b⟩ := all d hd; ⟨n, by omega, b⟩
  have e9 : sortKP (calls 97 0) (.loc S7.length) (S7 ++ [.lst [one, two, three, four]]) = some (.loc (S7 ++ [Ob.lst [one, two, three, four]] ++ U8).length, S7 ++ [.lst [one, two, three, four]] ++ U8 ++ [.lst (sortD ([one, two, three, four].map rankD) [one, two, three, four])]) := by
    simp only [sortKP, isLst, seqD, List.getElem?_append_right (Nat.le_refl S7.length), Nat.sub_self, List.getElem?_cons_zero, e8, ok8, if_true]
  obtain ⟨pm, pw⟩ := sortD_ok (f := rankD) (xs := [one, two, three, four])
  simp [-Bool.exists_bool, -ow_seq, e9]
  simp only [List.map_cons, List.map_nil] at pm pw
  revert pm pw
  generalize sortD [rankD one, rankD two, rankD three, rankD four] [one, two, three, four] = ys
  intro pm pw
  have yl : ys.length = 4 := pm.length_eq
  have at8 : (S7 ++ Ob.lst [one, two, three, four] :: (U8 ++ [Ob.lst ys]))[S7.length + (U8.length + 1)]? = some (.lst ys) := by
    rw [List.getElem?_append_right (by omega), show S7.length + (U8.length + 1) - S7.length = U8.length + 1 by omega]
    simp
  revert at8
  generalize S7 ++ Ob.lst [one, two, three, four] :: (U8 ++ [Ob.lst ys]) = S8
  generalize S7.length + (U8.length + 1) = l8
  intro at8
  simp [-Bool.exists_bool, -ow_seq, ow_lc]
  refine (lcL_inv ((List.range 3).map fun k : Nat => D.int k) (fun j acc S1 => S1 = S8 ∧ acc = List.replicate j (.bl false)) (fun j acc S1 _ => ?_) (fun j d acc S1 hj hI => ?_) 3 0 [] S8 (by simp) (by simp) ⟨rfl, rfl⟩).imp ?_
  · simp only [itAt, List.getElem?_map, List.getElem?_range]
    by_cases hj : j < 3
    · simp [hj]
    · simp [hj]
  · obtain ⟨rfl, rfl⟩ := hI
    have hj3 : j < 3 := by
      have := (List.getElem?_eq_some_iff.mp hj).1
      simpa using this
    have hd : d = .int (j : Nat) := by
      simp [hj3] at hj
      exact hj.symm
    subst hd
    refine ⟨_, rfl, ?_⟩
    have g1 : j < ys.length := by omega
    have g2 : j + 1 < ys.length := by omega
    have x1 : ixQ (.loc l8) (.int (j + 1)) S1 = some (ys[j + 1], S1) := ix_lst at8 (by omega) (by rw [show ((j : Int) + 1).toNat = j + 1 by omega]; exact List.getElem?_eq_getElem g2)
    have x2 : ixQ (.loc l8) (.int j) S1 = some (ys[j], S1) := ix_lst at8 (by omega) (by simp [g1])
    obtain ⟨n1, a1, b1⟩ := all _ (pm.mem_iff.mp (List.getElem_mem g1))
    obtain ⟨n2, a2, b2⟩ := all _ (pm.mem_iff.mp (List.getElem_mem g2))
    have no := List.pairwise_iff_getElem.mp pw j (j + 1) g1 g2 (by omega)
    simp [-Bool.exists_bool, bYes, wipeD, x1, x2]
    refine (ahead_ok b2 b1 (by omega) (by omega) 99 (by omega) S1).imp ?_
    rintro ⟨y, S2⟩ ⟨c2, hc2, he⟩
    cases he
    rw [tokLt_of hc2] at no
    subst no
    refine ⟨fits_lt (by first | omega | (simp; omega)), rfl, ?_⟩
    rw [← List.replicate_succ']
  · rintro ⟨zs, S9⟩ ⟨rfl, rfl⟩
    simp [anyP, seqD, blsOf, List.replicate]
/-- the plain law -/
theorem pure_law (ns : List Int) (h : ns.length ≤ 63) : ∃ S', calls 100 9 [.scr ns] [] = some (.bl true, S') := by
  have go : Ow (calls 100 9 [.scr ns] []) fun x => x.1 = .bl true := by
    rw [calls9, ow_runB]
    unfold bd9
    rw [ow_seq]
    simp [-Bool.exists_bool, -ow_seq]
    rw [start_c 98]
    refine (start_ok h).imp ?_
    rintro ⟨d, S0⟩ ⟨hd, h0⟩
    simp only at hd h0
    subst hd
    rw [ow_seq]
    simp [-Bool.exists_bool, -ow_seq]
    refine (thing_ok 3 93 _ S0 h0).imp ?_
    rintro ⟨one, S1⟩ ⟨h1, U1, q1⟩
    simp only at h1 q1
    obtain ⟨h1, hw⟩ := h1
    rw [ow_seq]
    simp [-Bool.exists_bool, -ow_seq]
    refine (thing_ok 3 93 _ S1 q1).imp ?_
    rintro ⟨two, S2⟩ ⟨h2, U2, q2⟩
    simp only at h2 q2
    replace h2 := h2.1
    rw [ow_seq]
    refine Ow.imp (Q := fun x => x.1 = .nx ∧ ∃ two' T', x.2.1 = [some (.scr ns), some (.loc 1), some one, some two', none, none, none] ∧ Th 3 two' ∧ DSt T' x.2.2) ?_ ?_
    · cases h1 with
      | non => simp; exact ⟨h2, _, q2⟩
      | int => simp; exact ⟨h2, _, q2⟩
      | str _ => simp; exact ⟨h2, _, q2⟩
      | @tup _ ds hl hd =>
        have hl4 := hw ds rfl
        simp
        refine (draw_c 98 _ S2 2 q2 (by decide) (by decide)).imp ?_
        rintro ⟨d, S3⟩ ⟨i, hi, i0, i1, q3⟩
        simp only at hi i0 i1 q3
        subst hi
        simp
        split
        · refine (draw_c 98 _ S3 (ds.length + 1) q3 (by omega) (by omega)).imp ?_
          rintro ⟨d, S4⟩ ⟨j, hj, j0, j1, q4⟩
          simp only at hj j0 j1 q4
          subst hj
          simp [slP, tup_ok, lst_ok]
          refine (pick_lit 97 q4 (by simp) (by simp)).imp ?_
          rintro ⟨d, S5⟩ ⟨hm, q5⟩
          have cl : (cutD ds none (some j)).length ≤ 4 := by
            unfold cutD
            have := List.length_take_le (HT.sIx ds.length ds.length (some j) - HT.sIx ds.length 0 none) (ds.drop (HT.sIx ds.length 0 none))
            rw [List.length_take, List.length_drop]
            omega
          have cm : ∀ d ∈ cutD ds none (some j), Th 2 d := fun d hd' => hd d (List.mem_of_mem_drop (List.mem_of_mem_take hd'))
          have big : ∀ es : List D, es.length ≤ 1 → (∀ d ∈ es, Th 2 d) → ∃ two', Ow (addP (.tup (cutD ds none (some j))) (.tup es) S5) (fun x => x = (two', S5)) ∧ Th 3 two' := fun es he hm => ⟨.tup (cutD ds none (some j) ++ es), by
            simp
            rw [if_pos (fits (by omega))]
            simp, .tup (by simp; omega) fun d hd => by
              rcases List.mem_append.mp hd with z | z
              · exact cm d z
              · exact hm d z⟩
          have got : ∃ es : List D, d = .tup es ∧ es.length ≤ 1 ∧ ∀ d ∈ es, Th 2 d := by
            simp at hm
            rcases hm with rfl | rfl | rfl
            · exact ⟨[], rfl, by simp, by simp⟩
            · exact ⟨_, rfl, by simp, by simp; exact .non⟩
            · exact ⟨_, rfl, by simp, by simp; exact .str (by decide +kernel)⟩
          obtain ⟨es, rfl, e1, e2⟩ := got
          obtain ⟨two', ow, ht⟩ := big es e1 e2
          refine ow.imp ?_
          rintro ⟨x, S6⟩ hx
          cases hx
          exact ⟨ht, _, q5⟩
        · exact ⟨h2, _, q3⟩
    · rintro ⟨fl, env, S3⟩ ⟨rfl, two', T', rfl, h3, q3⟩
      refine (tail_ok (o0 := some (.scr ns)) q3 h1 h3).imp ?_
      rintro ⟨fl, env, S4⟩ hx
      simp only at hx
      subst hx
      rfl
  obtain ⟨⟨d, S'⟩, e, hd⟩ := go
  simp only at hd
  subst hd
  exact ⟨S', e⟩
end K28
end DL
open PySem PySem.W PyProof.Rows in
set_option maxRecDepth 100000 in
set_option maxHeartbeats 0 in
theorem PySem.Challenge.cw_calltowers_k28_order_of_things_holds : PySem.Challenge.rw_calltowers_k28_order_of_things.Holds := by
  w_on; o_law; k_head; (case hw => w_witness2)
  k_fill
  refine DL.K28.walk (l := PySem.Challenge.rw_calltowers_k28_order_of_things) rfl rfl DL.K28.pure_law (fun w h Y => PySem.W.kIn_of Y) ?F
  case F =>
    intro w mg fa h KX G hmg
    refine' DL.K28.all_mk KX G hmg ?a0 ?l0 ?c0 ?k0 ?a1 ?l1 ?c1 ?k1 ?a2 ?l2 ?c2 ?k2 ?a3 ?l3 ?c3 ?k3 ?a4 ?l4 ?c4 ?k4 ?a5 ?l5 ?c5 ?k5 ?a6 ?l6 ?c6 ?k6 ?a7 ?l7 ?c7 ?k7 ?a8 ?l8 ?c8 ?k8 ?a9 ?l9 ?c9 ?k9 ?z0 ?z1 ?z2 ?z3 ?z4 ?z5 ?z6 ?z7 ?z8 ?z9 ?z10
    (case a0 => k_is)
    (case l0 => k_is)
    (case c0 => k_is)
    (case k0 => k_is)
    (case a1 => k_is)
    (case l1 => k_is)
    (case c1 => k_is)
    (case k1 => k_is)
    (case a2 => k_is)
    (case l2 => k_is)
    (case c2 => k_is)
    (case k2 => k_is)
    (case a3 => k_is)
    (case l3 => k_is)
    (case c3 => k_is)
    (case k3 => k_is)
    (case a4 => k_is)
    (case l4 => k_is)
    (case c4 => k_is)
    (case k4 => k_is)
    (case a5 => k_is)
    (case l5 => k_is)
    (case c5 => k_is)
    (case k5 => k_is)
    (case a6 => k_is)
    (case l6 => k_is)
    (case c6 => k_is)
    (case k6 => k_is)
    (case a7 => k_is)
    (case l7 => k_is)
    (case c7 => k_is)
    (case k7 => k_is)
    (case a8 => k_is)
    (case l8 => k_is)
    (case c8 => k_is)
    (case k8 => k_is)
    (case a9 => k_is)
    (case l9 => k_is)
    (case c9 => k_is)
    (case k9 => k_is)
    (case z0 => k_is)
    (case z1 => k_is)
    (case z2 => k_is)
    (case z3 => k_is)
    (case z4 => k_is)
    (case z5 => k_is)
    (case z6 => k_is)
    (case z7 => k_is)
    (case z8 => k_is)
    (case z9 => k_is)
    (case z10 => k_is)
