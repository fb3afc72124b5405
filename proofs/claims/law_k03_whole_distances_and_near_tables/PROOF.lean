import PyProof.Rows.All
import Wide.All
import OpenK.AllK
import Wide.FinOn
import HandS.ForMost
import HandS.IsInst
import HandS.Wide
import HandS.WideBits
import HandS.Style
import HandS.TupAny
import HandS.TupMul
import HandS.Zip
import HandS.Conv
import HandS.Sort
import HandS.Iter
import HandS.Zip0
import HandS.Dict
import HandS.Deep
import HandS.TupLe
import HandS.NamedTupSort
import HandS.TupSets
import HandS.SortInts
import HandS.SetFor
import HandS.Strs
import KE.DataCmp
import PySem.Challenge.RW_drawnbits_k03_whole_distances_and_near_t
set_option exponentiation.threshold 3000
set_option Elab.async false
set_option linter.all false
set_option maxRecDepth 100000
set_option maxHeartbeats 4000000
namespace DL
open PySem PySem.Spec L2
open PyProof.Rows hiding St
/-! ## data, cells, stores -/
inductive D where
  | non | bl (b : Bool) | int (i : Int) | str (x : Str) | tup (xs : List D) | rol (xs : List D) | fro (xs : List D) | loc (n : Nat) | ty (n : String)
instance : Inhabited D := ⟨.non⟩
inductive Cell where
  | lst (xs : List D)
  | dic (kvs : List (Key × D))
  /-- a dict whose keys are tuples of ints and texts; an instance of a class, its attributes -/
  | dct (ep : Nat) (kvs : List (List Int × D)) | ins (C : Str) (fs : List (Str × D))
abbrev Sto := List Cell
abbrev Env := List (Option D)
abbrev QD := D → Sto → Prop
abbrev WE := Env → Sto → QD → Prop
/-- where the cells of the store stand (lo), and what is being made just now and is nobody's value (fb) -/
structure Mu where
  lo : List Addr
  fb : List Addr
def Mu.out (μ : Mu) (a : Addr) : Prop := a ∉ μ.lo ∧ a ∉ μ.fb
def Mu.add (μ : Mu) (t : List Addr) : Mu := ⟨μ.lo ++ t, μ.fb⟩
section
variable (K : PySem.W.Frag) (H : Hp) (μ : Mu)
/-- a thing outside the store that holds still: tracked, and no cell; or a thing of the module -/
def TupAt (a : Addr) (vs : List V) : Prop := (H a = some (.tup vs) ∧ μ.out a) ∨
  ∃ (o : Obj) (its : Array Value) (n : Nat), K.lookup a = some o ∧ o.cls = .type "tuple" ∧ o.data = .seq its n ∧ its.size ≤ sizeLine ∧ Vals vs its.toList
def LstAt (a : Addr) (vs : List V) : Prop := H a = some (.lst vs) ∧ μ.out a
def FroAt (a : Addr) (vs : List V) : Prop := (Rd H a (.lst vs) ∧ μ.out a) ∨
  ∃ (o : Obj) (its : Array Value) (n : Nat), K.lookup a = some o ∧ o.cls = .type "list" ∧ o.dict = none ∧ o.data = .seq its n ∧ its.size ≤ sizeLine ∧ Vals vs its.toList
mutual
def RV (v : V) : D → Prop
  | .non => v = .non
  | .bl b => v = .bl b
  | .int i => v = .int i
  | .str x => v = .str x
  | .ty n => v = .ty n
  | .tup ds => ∃ a vs, v = .ref a ∧ TupAt K H μ a vs ∧ RVs vs ds
  | .rol ds => ∃ a vs, v = .ref a ∧ LstAt H μ a vs ∧ RVs vs ds
  | .fro ds => ∃ a vs, v = .ref a ∧ FroAt K H μ a vs ∧ RVs vs ds
  | .loc n => ∃ a, v = .ref a ∧ μ.lo[n]? = some a
def RVs (vs : List V) : List D → Prop
  | [] => vs = []
  | d :: ds => ∃ v r, vs = v :: r ∧ RV v d ∧ RVs r ds
end
end
section
variable {K : PySem.W.Frag} {H H' H1 H2 : Hp} {μ μ' μ1 μ2 : Mu}
theorem TupAt.sq {a : Addr} {vs : List V} (h : TupAt K H μ a vs) : SqT K H a vs := h.elim (fun z => .inl (.inl z.1)) .inr
theorem LstAt.sq {a : Addr} {vs : List V} (h : LstAt H μ a vs) : SqL K H a vs := .inl (.inl h.1)
theorem FroAt.sq {a : Addr} {vs : List V} (h : FroAt K H μ a vs) : SqL K H a vs := h.elim (fun z => .inl z.1) .inr
/-- from one state to a later one -/
structure Ext (μ μ' : Mu) (H H' : Hp) : Prop where
  pre : ∃ t, μ'.lo = μ.lo ++ t
  keep : ∀ b o, H b = some o → b ∉ μ.lo → H' b = some o
  trk : ∀ b o, H b = some o → ∃ u, H' b = some u
  new : ∀ b, b ∈ μ'.lo → b ∉ μ.lo → H b = none
  hid : ∀ b, b ∈ μ'.fb → b ∈ μ.fb ∨ H b = none
  sub : ∀ b, b ∈ μ.fb → b ∈ μ'.fb
theorem Ext.refl : Ext μ μ H H := ⟨⟨[], by simp⟩, fun _ _ h _ => h, fun _ o h => ⟨o, h⟩, fun _ a b => absurd a b, fun _ h => .inl h, fun _ h => h⟩
theorem Ext.was (e : Ext μ μ' H H') {b : Addr} (h : H' b = none) : H b = none := by
  cases z : H b with
  | none => rfl
  | some o =>
    obtain ⟨u, q⟩ := e.trk b o z
    rw [h] at q; cases q
theorem Ext.trans (a : Ext μ μ1 H H1) (b : Ext μ1 μ2 H1 H2) : Ext μ μ2 H H2 := by
  have stay : ∀ x o, H x = some o → x ∉ μ.lo → x ∉ μ1.lo := fun x o h n m => by
    rw [a.new x m n] at h; cases h
  refine ⟨?_, fun x o h n => b.keep x o (a.keep x o h n) (stay x o h n), fun x o h => ?_, fun x m n => ?_, fun x m => ?_, fun x m => b.sub x (a.sub x m)⟩
  · obtain ⟨t, et⟩ := a.pre
    obtain ⟨u, eu⟩ := b.pre
    exact ⟨t ++ u, by rw [eu, et]; simp⟩
  · obtain ⟨u, q⟩ := a.trk x o h
    exact b.trk x u q
  · by_cases m1 : x ∈ μ1.lo
    · exact a.new x m1 n
    · exact a.was (b.new x m m1)
  · rcases b.hid x m with z | z
    · exact a.hid x z
    · exact .inr (a.was z)
theorem trk_upd {p : Addr} {o : HO} : ∀ b u, H b = some u → ∃ w, upd H p o b = some w := fun b u h => by
  by_cases z : b = p
  · subst z; exact ⟨o, upd_same⟩
  · exact ⟨u, by rw [upd_ne z]; exact h⟩
theorem Ext.alloc {p : Addr} {o : HO} (hp : H p = none) : Ext μ μ H (upd H p o) :=
  ⟨⟨[], by simp⟩, fun b u h _ => by rw [upd_ne (ne_of_none h hp)]; exact h, trk_upd, fun _ a b => absurd a b, fun _ h => .inl h, fun _ h => h⟩
theorem Ext.push {p : Addr} {o : HO} (hp : H p = none) : Ext μ (μ.add [p]) H (upd H p o) :=
  ⟨⟨[p], rfl⟩, fun b u h _ => by rw [upd_ne (ne_of_none h hp)]; exact h, trk_upd, fun b m n => by
    rcases List.mem_append.mp m with m | m
    · exact absurd m n
    · rw [List.mem_singleton.mp m]; exact hp, fun _ h => .inl h, fun _ h => h⟩
theorem Ext.write {p : Addr} {o : HO} (hp : p ∈ μ.lo) : Ext μ μ H (upd H p o) :=
  ⟨⟨[], by simp⟩, fun b u h n => by
    have nb : b ≠ p := fun z => by rw [z] at n; exact n hp
    rw [upd_ne nb]; exact h, trk_upd, fun _ a b => absurd a b, fun _ h => .inl h, fun _ h => h⟩
/-- a thing that is being made is nobody's value -/
def Mu.hide (μ : Mu) (p : Addr) : Mu := ⟨μ.lo, p :: μ.fb⟩
theorem Ext.hide {p : Addr} {o : HO} (hp : H p = none) : Ext μ (μ.hide p) H (upd H p o) :=
  ⟨⟨[], by simp [Mu.hide]⟩, fun b u h _ => by rw [upd_ne (ne_of_none h hp)]; exact h, trk_upd, fun _ a b => absurd a b, fun b h => (List.mem_cons.mp h).elim (fun z => .inr (by rw [z]; exact hp)) .inl, fun _ h => List.mem_cons_of_mem _ h⟩
/-- .. and changes -/
theorem Ext.turn (e : Ext μ μ' H H') {p : Addr} {o : HO} (hp : H p = none) : Ext μ μ' H (upd H' p o) :=
  ⟨e.pre, fun b u h n => by rw [upd_ne (ne_of_none h hp)]; exact e.keep b u h n, fun b u h => by rw [upd_ne (ne_of_none h hp)]; exact e.trk b u h, e.new, e.hid, e.sub⟩
/-- .. and is a value at last -/
theorem Ext.less (e : Ext μ μ' H H') : Ext μ ⟨μ'.lo, μ.fb⟩ H H' := ⟨e.pre, e.keep, e.trk, e.new, fun _ h => .inl h, fun _ h => h⟩
theorem Ext.look (e : Ext μ μ' H H') {n : Nat} {a : Addr} (h : μ.lo[n]? = some a) : μ'.lo[n]? = some a := by
  obtain ⟨t, et⟩ := e.pre
  rw [et, List.getElem?_append_left (List.getElem?_eq_some_iff.mp h).1]
  exact h
theorem Ext.out (e : Ext μ μ' H H') {a : Addr} {o : HO} (h : H a = some o) (n : μ.out a) : μ'.out a :=
  ⟨(fun m => by rw [e.new a m n.1] at h; cases h), (fun m => by
    rcases e.hid a m with z | z
    · exact n.2 z
    · rw [h] at z; cases z)⟩
/-- what a value leans on stands -/
structure Mv (H H' : Hp) (μ μ' : Mu) : Prop where
  at_ : ∀ (a : Addr) (o : HO), H a = some o → μ.out a → H' a = some o ∧ μ'.out a
  lo : ∀ (n : Nat) (a : Addr), μ.lo[n]? = some a → μ'.lo[n]? = some a
theorem Mv.rd (m : Mv H H' μ μ') {a : Addr} {u : HO} (h : Rd H a u) (n : μ.out a) : Rd H' a u ∧ μ'.out a := by
  rcases h with h | ⟨o, h⟩
  · exact ⟨.inl (m.at_ _ _ h n).1, (m.at_ _ _ h n).2⟩
  · exact ⟨.inr ⟨o, (m.at_ _ _ h n).1⟩, (m.at_ _ _ h n).2⟩
theorem Mv.tup (m : Mv H H' μ μ') {a : Addr} {vs : List V} (h : TupAt K H μ a vs) : TupAt K H' μ' a vs :=
  h.elim (fun z => .inl (m.at_ _ _ z.1 z.2)) .inr
theorem Mv.lst (m : Mv H H' μ μ') {a : Addr} {vs : List V} (h : LstAt H μ a vs) : LstAt H' μ' a vs := m.at_ _ _ h.1 h.2
theorem Mv.fro (m : Mv H H' μ μ') {a : Addr} {vs : List V} (h : FroAt K H μ a vs) : FroAt K H' μ' a vs :=
  h.elim (fun z => .inl (m.rd z.1 z.2)) .inr
mutual
theorem RV.move (m : Mv H H' μ μ') : ∀ (d : D) {v : V}, RV K H μ v d → RV K H' μ' v d
  | .non, _, h => by rw [RV] at h ⊢; exact h
  | .bl _, _, h => by rw [RV] at h ⊢; exact h
  | .int _, _, h => by rw [RV] at h ⊢; exact h
  | .str _, _, h => by rw [RV] at h ⊢; exact h
  | .ty _, _, h => by rw [RV] at h ⊢; exact h
  | .tup ds, _, h => by
    rw [RV] at h ⊢
    obtain ⟨a, vs, e1, h1, h2⟩ := h
    exact ⟨a, vs, e1, m.tup h1, RVs.move m ds h2⟩
  | .rol ds, _, h => by
    rw [RV] at h ⊢
    obtain ⟨a, vs, e1, h1, h2⟩ := h
    exact ⟨a, vs, e1, m.lst h1, RVs.move m ds h2⟩
  | .fro ds, _, h => by
    rw [RV] at h ⊢
    obtain ⟨a, vs, e1, h1, h2⟩ := h
    exact ⟨a, vs, e1, m.fro h1, RVs.move m ds h2⟩
  | .loc n, _, h => by
    rw [RV] at h ⊢
    obtain ⟨a, e1, h1⟩ := h
    exact ⟨a, e1, m.lo n a h1⟩
theorem RVs.move (m : Mv H H' μ μ') : ∀ (ds : List D) {vs : List V}, RVs K H μ vs ds → RVs K H' μ' vs ds
  | [], _, h => by rw [RVs] at h ⊢; exact h
  | d :: ds, _, h => by
    rw [RVs] at h ⊢
    obtain ⟨v, r, e1, h1, h2⟩ := h
    exact ⟨v, r, e1, RV.move m d h1, RVs.move m ds h2⟩
end
theorem Mv.trans {H2 : Hp} {μ2 : Mu} (a : Mv H H' μ μ') (b : Mv H' H2 μ' μ2) : Mv H H2 μ μ2 := ⟨fun x o h n => let ⟨h1, n1⟩ := a.at_ x o h n; b.at_ x o h1 n1, fun n x h => b.lo n x (a.lo n x h)⟩
theorem Ext.mv (e : Ext μ μ' H H') : Mv H H' μ μ' := ⟨fun a o h n => ⟨e.keep a o h n.1, e.out h n⟩, fun _ _ h => e.look h⟩
theorem Ext.tup (e : Ext μ μ' H H') {a : Addr} {vs : List V} (h : TupAt K H μ a vs) : TupAt K H' μ' a vs := e.mv.tup h
theorem Ext.lst (e : Ext μ μ' H H') {a : Addr} {vs : List V} (h : LstAt H μ a vs) : LstAt H' μ' a vs := e.mv.lst h
theorem Ext.fro (e : Ext μ μ' H H') {a : Addr} {vs : List V} (h : FroAt K H μ a vs) : FroAt K H' μ' a vs := e.mv.fro h
theorem RV.ext (e : Ext μ μ' H H') (d : D) {v : V} (h : RV K H μ v d) : RV K H' μ' v d := RV.move e.mv d h
theorem RVs.ext (e : Ext μ μ' H H') (ds : List D) {vs : List V} (h : RVs K H μ vs ds) : RVs K H' μ' vs ds := RVs.move e.mv ds h
theorem RVs.nil : RVs K H μ [] [] := by rw [RVs]
theorem RVs.cons {v : V} {vs : List V} {d : D} {ds : List D} (h : RV K H μ v d) (t : RVs K H μ vs ds) : RVs K H μ (v :: vs) (d :: ds) := by
  rw [RVs]; exact ⟨v, vs, rfl, h, t⟩
theorem RVs.paired : ∀ {ds : List D} {vs : List V}, RVs K H μ vs ds ↔ Paired (fun (v : V) (d : D) => RV K H μ v d) vs ds
  | [], vs => by
    rw [RVs]
    constructor
    · rintro rfl; exact .nil
    · intro h; cases h; rfl
  | d :: ds, vs => by
    rw [RVs]
    constructor
    · rintro ⟨v, r, rfl, h1, h2⟩; exact .cons h1 (RVs.paired.mp h2)
    · intro h
      cases h with
      | cons h1 h2 => exact ⟨_, _, rfl, h1, RVs.paired.mpr h2⟩
theorem RVs.length {vs : List V} {ds : List D} (h : RVs K H μ vs ds) : vs.length = ds.length := Paired.length (RVs.paired.mp h)
theorem RVs.get : ∀ {ds : List D} {vs : List V} {i : Nat} {d : D}, RVs K H μ vs ds → ds[i]? = some d → ∃ v, vs[i]? = some v ∧ RV K H μ v d
  | [], _, i, d, _, e => by simp at e
  | d :: ds, vs, i, d', h, e => by
    rw [RVs] at h
    obtain ⟨v, r, rfl, h1, h2⟩ := h
    cases i with
    | zero => simp at e; subst e; exact ⟨v, rfl, h1⟩
    | succ i =>
      obtain ⟨u, q1, q2⟩ := RVs.get h2 (by simpa using e)
      exact ⟨u, by simpa using q1, q2⟩
theorem RVs.get' {ds : List D} {vs : List V} {i : Nat} {v : V} (h : RVs K H μ vs ds) (e : vs[i]? = some v) : ∃ d, ds[i]? = some d ∧ RV K H μ v d := by
  have hl := h.length
  have hi : i < ds.length := by have := (List.getElem?_eq_some_iff.mp e).1; omega
  obtain ⟨u, q1, q2⟩ := h.get (i := i) (d := ds[i]) (by simp [hi])
  rw [e] at q1; cases q1
  exact ⟨_, by simp [hi], q2⟩
theorem RVs.append : ∀ {ds es : List D} {vs us : List V}, RVs K H μ vs ds → RVs K H μ us es → RVs K H μ (vs ++ us) (ds ++ es)
  | [], _, _, _, h, t => by rw [RVs] at h; subst h; exact t
  | d :: ds, _, _, _, h, t => by
    rw [RVs] at h
    obtain ⟨v, r, rfl, h1, h2⟩ := h
    exact RVs.cons h1 (RVs.append h2 t)
theorem RVs.take : ∀ {ds : List D} {vs : List V} (n : Nat), RVs K H μ vs ds → RVs K H μ (vs.take n) (ds.take n)
  | _, _, 0, _ => by simpa using RVs.nil
  | [], _, n + 1, h => by rw [RVs] at h; subst h; simpa using RVs.nil
  | d :: ds, _, n + 1, h => by
    rw [RVs] at h
    obtain ⟨v, r, rfl, h1, h2⟩ := h
    exact RVs.cons h1 (RVs.take n h2)
theorem RVs.drop : ∀ {ds : List D} {vs : List V} (n : Nat), RVs K H μ vs ds → RVs K H μ (vs.drop n) (ds.drop n)
  | _, _, 0, h => h
  | [], _, n + 1, h => by rw [RVs] at h; subst h; simpa using RVs.nil
  | d :: ds, _, n + 1, h => by
    rw [RVs] at h
    obtain ⟨v, r, rfl, h1, h2⟩ := h
    exact RVs.drop n h2
theorem RVs.reverse : ∀ {ds : List D} {vs : List V}, RVs K H μ vs ds → RVs K H μ vs.reverse ds.reverse
  | [], _, h => by rw [RVs] at h; subst h; simpa using RVs.nil
  | d :: ds, _, h => by
    rw [RVs] at h
    obtain ⟨v, r, rfl, h1, h2⟩ := h
    rw [List.reverse_cons, List.reverse_cons]
    exact (RVs.reverse h2).append (RVs.cons h1 RVs.nil)
theorem RVs.set {v : V} {d : D} (hv : RV K H μ v d) : ∀ {ds : List D} {vs : List V} (i : Nat), RVs K H μ vs ds → RVs K H μ (vs.set i v) (ds.set i d)
  | [], _, _, h => by rw [RVs] at h; subst h; simpa using RVs.nil
  | e :: ds, _, i, h => by
    rw [RVs] at h
    obtain ⟨u, r, rfl, h1, h2⟩ := h
    cases i with
    | zero => exact RVs.cons hv h2
    | succ i => exact RVs.cons h1 (RVs.set hv i h2)
theorem RVs.eraseIdx : ∀ {ds : List D} {vs : List V} (i : Nat), RVs K H μ vs ds → RVs K H μ (vs.eraseIdx i) (ds.eraseIdx i)
  | [], _, _, h => by rw [RVs] at h; subst h; simpa using RVs.nil
  | e :: ds, _, i, h => by
    rw [RVs] at h
    obtain ⟨u, r, rfl, h1, h2⟩ := h
    cases i with
    | zero => exact h2
    | succ i => exact RVs.cons h1 (RVs.eraseIdx i h2)
theorem RVs.rep {ds : List D} {vs : List V} (h : RVs K H μ vs ds) : ∀ k : Nat, RVs K H μ (List.replicate k vs).flatten (List.replicate k ds).flatten
  | 0 => by simpa using RVs.nil
  | k + 1 => by
    rw [List.replicate_succ, List.replicate_succ, List.flatten_cons, List.flatten_cons]
    exact h.append (RVs.rep h k)
/-! ## cells -/
def KvOk (K : PySem.W.Frag) (H : Hp) (μ : Mu) : List (Key × V) → List (Key × D) → Prop := Paired fun p q => p.1 = q.1 ∧ RV K H μ p.2 q.2
def PvOk {α : Type} (K : PySem.W.Frag) (H : Hp) (μ : Mu) : List (α × V) → List (α × D) → Prop := Paired fun p q => p.1 = q.1 ∧ RV K H μ p.2 q.2
/-- the class of a name -/
def ClsAt (K : PySem.W.Frag) (C : Str) (A : Addr) : Prop := PySem.W.nsIn K mainGlobals C = some (some (.ref A))
/-- the object of a dict whose keys are tuples of ints: key, its tuple, the value; ep is what changes with its keys -/
def entT (x : List Int × Addr × Value) : DictEntry := ⟨reduceHash (Builtin.Tuple.tupleHashOf (x.1.map hashInt)), .ref x.2.1, x.2.2⟩
abbrev VrT : List (List Int × Addr × V) → List (List Int × Addr × Value) → Prop := Paired fun p q => p.1 = q.1 ∧ p.2.1 = q.2.1 ∧ RelV p.2.2 q.2.2
def DctObj (a : Addr) (ep : Nat) (xs : List (List Int × Addr × V)) (h : Heap) : Prop := (a == sysModules) = false ∧ xs.length ≤ sizeLine ∧ ∃ (ys : List (List Int × Addr × Value)) (o : Obj) (es : Array DictEntry),
  VrT xs ys ∧ h.get? a = some o ∧ o.ExactDict ∧ o.data = .dict es ep ∧ es.toList = ys.map entT ∧ (ys.map (·.1)).Nodup
def TvOk (K : PySem.W.Frag) (H : Hp) (μ : Mu) : List (List Int × Addr × V) → List (List Int × D) → Prop := Paired fun p q => p.1 = q.1 ∧ RV K H μ (.ref p.2.1) (.tup (p.1.map D.int)) ∧ RV K H μ p.2.2 q.2
def CellOk (K : PySem.W.Frag) (H : Hp) (μ : Mu) (a : Addr) : Cell → Prop
  | .lst ds => ∃ vs, H a = some (.lst vs) ∧ RVs K H μ vs ds
  | .dic kvs => ∃ us, H a = some (.dK us) ∧ KvOk K H μ us kvs
  | .dct ep kvs => ∃ xs, H a = some (.ext (DctObj a ep xs)) ∧ TvOk K H μ xs kvs
  | .ins C fs => ∃ us A dx, H a = some (.ins A dx us) ∧ ClsAt K C A ∧ PvOk K H μ us fs
theorem KvOk.ext {us : List (Key × V)} {kvs : List (Key × D)} (h : KvOk K H μ us kvs) (e : Ext μ μ' H H') : KvOk K H' μ' us kvs :=
  Paired.mapP h fun _ q z => ⟨z.1, RV.ext e q.2 z.2⟩
theorem PvOk.ext {α : Type} {us : List (α × V)} {kvs : List (α × D)} (h : PvOk K H μ us kvs) (e : Ext μ μ' H H') : PvOk K H' μ' us kvs :=
  Paired.mapP h fun _ q z => ⟨z.1, RV.ext e q.2 z.2⟩
theorem TvOk.ext {us : List (List Int × Addr × V)} {kvs : List (List Int × D)} (h : TvOk K H μ us kvs) (e : Ext μ μ' H H') : TvOk K H' μ' us kvs :=
  Paired.mapP h fun _ q z => ⟨z.1, RV.ext e _ z.2.1, RV.ext e q.2 z.2.2⟩
theorem CellOk.some {a : Addr} {c : Cell} (h : CellOk K H μ a c) : ∃ o, H a = some o := by
  cases c with
  | lst ds => obtain ⟨vs, e, _⟩ := h; exact ⟨_, e⟩
  | dic kvs => obtain ⟨vs, e, _⟩ := h; exact ⟨_, e⟩
  | dct ep kvs => obtain ⟨vs, e, _⟩ := h; exact ⟨_, e⟩
  | ins C fs => obtain ⟨vs, A, dx, e, _⟩ := h; exact ⟨_, e⟩
theorem CellOk.ext {a : Addr} {c : Cell} (h : CellOk K H μ a c) (e : Ext μ μ' H H') (s : H' a = H a) : CellOk K H' μ' a c := by
  cases c with
  | lst ds => obtain ⟨vs, q, r⟩ := h; exact ⟨vs, by rw [s]; exact q, RVs.ext e ds r⟩
  | dic kvs => obtain ⟨vs, q, r⟩ := h; exact ⟨vs, by rw [s]; exact q, r.ext e⟩
  | dct ep kvs => obtain ⟨vs, q, r⟩ := h; exact ⟨vs, by rw [s]; exact q, r.ext e⟩
  | ins C fs => obtain ⟨vs, A, dx, q, c, r⟩ := h; exact ⟨vs, A, dx, by rw [s]; exact q, c, r.ext e⟩
structure StoOk (K : PySem.W.Frag) (H : Hp) (μ : Mu) (S : Sto) : Prop where
  len : μ.lo.length = S.length
  nd : μ.lo.Nodup
  cell : ∀ (n : Nat) (c : Cell), S[n]? = some c → ∃ a, μ.lo[n]? = some a ∧ CellOk K H μ a c
  fbd : ∀ a ∈ μ.fb, a ∉ μ.lo ∧ ∃ o, H a = some o
variable {S : Sto}
theorem StoOk.addr (h : StoOk K H μ S) {n : Nat} {c : Cell} {a : Addr} (e : S[n]? = some c) (ea : μ.lo[n]? = some a) : CellOk K H μ a c := by
  obtain ⟨b, q1, q2⟩ := h.cell n c e
  rw [ea] at q1; cases q1; exact q2
theorem StoOk.tracked (h : StoOk K H μ S) {a : Addr} (m : a ∈ μ.lo) : ∃ o, H a = some o := by
  obtain ⟨n, hn⟩ := List.getElem?_of_mem m
  have hl : n < S.length := by have := (List.getElem?_eq_some_iff.mp hn).1; have := h.len; omega
  exact (h.addr (c := S[n]) (by simp [hl]) hn).some
theorem StoOk.out (h : StoOk K H μ S) {p : Addr} (hp : H p = none) : μ.out p :=
  ⟨(fun m => by obtain ⟨o, e⟩ := h.tracked m; rw [hp] at e; cases e), (fun m => by obtain ⟨_, o, e⟩ := h.fbd p m; rw [hp] at e; cases e)⟩
theorem fbd_upd (h : StoOk K H μ S) {p : Addr} {o : HO} : ∀ a ∈ μ.fb, a ∉ μ.lo ∧ ∃ u, upd H p o a = some u := fun a m => by
  obtain ⟨n, u, e⟩ := h.fbd a m
  refine ⟨n, ?_⟩
  by_cases z : a = p
  · subst z; exact ⟨o, upd_same⟩
  · exact ⟨u, by rw [upd_ne z]; exact e⟩
theorem StoOk.alloc (h : StoOk K H μ S) {p : Addr} {o : HO} (hp : H p = none) : StoOk K (upd H p o) μ S :=
  ⟨h.len, h.nd, fun n c e => by
    obtain ⟨a, q1, q2⟩ := h.cell n c e
    obtain ⟨u, q3⟩ := q2.some
    exact ⟨a, q1, q2.ext (Ext.alloc hp) (upd_ne (ne_of_none q3 hp))⟩, fbd_upd h⟩
theorem StoOk.push (h : StoOk K H μ S) {p : Addr} {o : HO} {c : Cell} (hp : H p = none) (hc : CellOk K (upd H p o) (μ.add [p]) p c) : StoOk K (upd H p o) (μ.add [p]) (S ++ [c]) := by
  refine ⟨by show (μ.lo ++ [p]).length = _; rw [List.length_append, List.length_append, h.len]; rfl, ?_, fun n c' e => ?_, fun a m => ?_⟩
  · show (μ.lo ++ [p]).Nodup
    rw [List.nodup_append]
    refine ⟨h.nd, by simp, fun a ha b hb => ?_⟩
    rw [List.mem_singleton.mp hb]
    rintro rfl
    exact (h.out hp).1 ha
  · by_cases hn : n < S.length
    · rw [List.getElem?_append_left hn] at e
      obtain ⟨a, q1, q2⟩ := h.cell n c' e
      obtain ⟨u, q3⟩ := q2.some
      exact ⟨a, (Ext.push (o := o) hp).look q1, q2.ext (Ext.push hp) (upd_ne (ne_of_none q3 hp))⟩
    · rw [List.getElem?_append_right (Nat.le_of_not_lt hn)] at e
      have hn2 : n - S.length = 0 := by
        have := (List.getElem?_eq_some_iff.mp e).1
        simp at this; omega
      rw [hn2] at e
      simp at e
      subst e
      have : n = S.length := by omega
      subst this
      exact ⟨p, by show (μ.lo ++ [p])[S.length]? = _; rw [← h.len]; simp, hc⟩
  · obtain ⟨n, u, e⟩ := (fbd_upd h (p := p) (o := o)) a m
    refine ⟨fun z => ?_, u, e⟩
    rcases List.mem_append.mp z with z | z
    · exact n z
    · rw [List.mem_singleton.mp z] at m
      exact (h.out hp).2 m
theorem StoOk.write (h : StoOk K H μ S) {n : Nat} {a : Addr} {o : HO} {c : Cell} (ha : μ.lo[n]? = some a) (hc : CellOk K (upd H a o) μ a c) : StoOk K (upd H a o) μ (S.set n c) := by
  refine ⟨by rw [List.length_set]; exact h.len, h.nd, fun m c' e => ?_, fbd_upd h⟩
  by_cases hm : n = m
  · subst hm
    have hl : n < S.length := by have := (List.getElem?_eq_some_iff.mp ha).1; have := h.len; omega
    rw [List.getElem?_set_self hl] at e
    cases e
    exact ⟨a, ha, hc⟩
  · rw [List.getElem?_set_ne hm] at e
    obtain ⟨b, q1, q2⟩ := h.cell m c' e
    have nb : b ≠ a := fun z => by
      subst z
      obtain ⟨h1, e1⟩ := List.getElem?_eq_some_iff.mp ha
      obtain ⟨h2, e2⟩ := List.getElem?_eq_some_iff.mp q1
      exact hm ((List.getElem_inj h.nd).mp (e1.trans e2.symm))
    exact ⟨b, q1, q2.ext (Ext.write (List.mem_of_getElem? ha)) (upd_ne nb)⟩
/-! ## a thing that is being made (fb) -/
/-- the hidden thing changes; fewer things are hidden -/
theorem mv_turn {p : Addr} {o : HO} (hp : p ∈ μ.fb) : Mv H (upd H p o) μ μ :=
  ⟨fun a u h n => ⟨by rw [upd_ne (fun z => n.2 (by rw [z]; exact hp))]; exact h, n⟩, fun _ _ h => h⟩
theorem mv_less {fb : List Addr} (hf : ∀ b, b ∈ fb → b ∈ μ.fb) : Mv H H μ ⟨μ.lo, fb⟩ :=
  ⟨fun a u h n => ⟨h, n.1, fun m => n.2 (hf _ m)⟩, fun _ _ h => h⟩
theorem RVs.turn {p : Addr} {o : HO} (hp : p ∈ μ.fb) (ds : List D) {vs : List V} (h : RVs K H μ vs ds) : RVs K (upd H p o) μ vs ds := RVs.move (mv_turn hp) ds h
theorem RVs.less {fb : List Addr} (hf : ∀ b, b ∈ fb → b ∈ μ.fb) (ds : List D) {vs : List V} (h : RVs K H μ vs ds) : RVs K H ⟨μ.lo, fb⟩ vs ds := RVs.move (mv_less hf) ds h
theorem CellOk.imp {H' : Hp} {μ' : Mu} {a : Addr} {c : Cell} (h : CellOk K H μ a c) (s : H' a = H a) (f : ∀ d v, RV K H μ v d → RV K H' μ' v d) : CellOk K H' μ' a c := by
  cases c with
  | lst ds => obtain ⟨vs, q, r⟩ := h; exact ⟨vs, by rw [s]; exact q, RVs.paired.mpr (Paired.mapP (RVs.paired.mp r) fun v d z => f d v z)⟩
  | dic kvs => obtain ⟨vs, q, r⟩ := h; exact ⟨vs, by rw [s]; exact q, Paired.mapP r fun p q z => ⟨z.1, f q.2 p.2 z.2⟩⟩
  | dct ep kvs => obtain ⟨vs, q, r⟩ := h; exact ⟨vs, by rw [s]; exact q, Paired.mapP r fun p q z => ⟨z.1, f _ _ z.2.1, f q.2 p.2.2 z.2.2⟩⟩
  | ins C fs => obtain ⟨vs, A, dx, q, c, r⟩ := h; exact ⟨vs, A, dx, by rw [s]; exact q, c, Paired.mapP r fun p q z => ⟨z.1, f q.2 p.2 z.2⟩⟩
theorem StoOk.hide (h : StoOk K H μ S) {p : Addr} {o : HO} (hp : H p = none) : StoOk K (upd H p o) (μ.hide p) S :=
  ⟨h.len, h.nd, fun n c e => by
    obtain ⟨a, q1, q2⟩ := h.cell n c e
    obtain ⟨u, q3⟩ := q2.some
    exact ⟨a, q1, q2.ext (Ext.hide hp) (upd_ne (ne_of_none q3 hp))⟩, fun a m => by
    rcases List.mem_cons.mp m with rfl | m
    · exact ⟨(h.out hp).1, o, upd_same⟩
    · exact fbd_upd h a m⟩
theorem StoOk.turn (h : StoOk K H μ S) {p : Addr} {o : HO} (hp : p ∈ μ.fb) : StoOk K (upd H p o) μ S :=
  ⟨h.len, h.nd, fun n c e => by
    obtain ⟨a, q1, q2⟩ := h.cell n c e
    have ne : a ≠ p := fun z => (h.fbd p hp).1 (by rw [← z]; exact List.mem_of_getElem? q1)
    exact ⟨a, q1, q2.imp (upd_ne ne) fun d v z => RV.move (mv_turn hp) d z⟩, fbd_upd h⟩
theorem StoOk.less (h : StoOk K H μ S) {fb : List Addr} (hf : ∀ b, b ∈ fb → b ∈ μ.fb) : StoOk K H ⟨μ.lo, fb⟩ S :=
  ⟨h.len, h.nd, fun n c e => by
    obtain ⟨a, q1, q2⟩ := h.cell n c e
    exact ⟨a, q1, q2.imp rfl fun d v z => RV.move (mv_less hf) d z⟩, fun a m => h.fbd a (hf a m)⟩
/-! ## slots, the lifted readings -/
structure Slots (K : PySem.W.Frag) (H : Hp) (μ : Mu) (σ : St) (ρ : Env) : Prop where
  len : σ.length = ρ.length
  get : ∀ (i : Nat) (d : D), ρ[i]? = some (some d) → ∃ v, σ[i]? = some (some v) ∧ RV K H μ v d
theorem Slots.ext {σ : St} {ρ : Env} (h : Slots K H μ σ ρ) (e : Ext μ μ' H H') : Slots K H' μ' σ ρ :=
  ⟨h.len, fun i d q => let ⟨v, q1, q2⟩ := h.get i d q; ⟨v, q1, RV.ext e d q2⟩⟩
theorem Slots.set {σ : St} {ρ : Env} (h : Slots K H μ σ ρ) {i : Nat} {v : V} {d : D} (r : RV K H μ v d) : Slots K H μ (σ.set i (some v)) (ρ.set i (some d)) := by
  refine ⟨by rw [List.length_set, List.length_set]; exact h.len, fun j e q => ?_⟩
  by_cases hj : i = j
  · subst hj
    by_cases hl : i < ρ.length
    · rw [List.getElem?_set_self hl] at q
      cases q
      exact ⟨v, by rw [List.getElem?_set_self (by rw [h.len]; exact hl)], r⟩
    · rw [List.getElem?_eq_none (by simpa using hl)] at q; cases q
  · rw [List.getElem?_set_ne hj] at q
    obtain ⟨u, q1, q2⟩ := h.get j e q
    exact ⟨u, by rw [List.getElem?_set_ne hj]; exact q1, q2⟩
/-- a place forgotten -/
theorem Slots.drop {σ : St} {ρ : Env} (h : Slots K H μ σ ρ) {i : Nat} {x : Option V} : Slots K H μ (σ.set i x) (ρ.set i none) := by
  refine ⟨by rw [List.length_set, List.length_set]; exact h.len, fun j e q => ?_⟩
  by_cases hj : i = j
  · subst hj
    by_cases hl : i < ρ.length
    · rw [List.getElem?_set_self hl] at q; cases q
    · rw [List.getElem?_eq_none (by simpa using hl)] at q; cases q
  · rw [List.getElem?_set_ne hj] at q
    obtain ⟨u, q1, q2⟩ := h.get j e q
    exact ⟨u, by rw [List.getElem?_set_ne hj]; exact q1, q2⟩
/-- what is wanted, said of the values -/
def After (K : PySem.W.Frag) (Q : QD) (μ : Mu) (H : Hp) (R : VK) : Prop :=
  ∀ d S', Q d S' → ∀ v H' μ', Ext μ μ' H H' → StoOk K H' μ' S' → RV K H' μ' v d → R v H'
theorem After.ext {Q : QD} {R : VK} (h : After K Q μ H R) (e : Ext μ μ1 H H1) : After K Q μ1 H1 R :=
  fun d S' q v H' μ' e' => h d S' q v H' μ' (e.trans e')
def AfterB (K : PySem.W.Frag) (Q : Bool → Sto → Prop) (μ : Mu) (H : Hp) (R : Bool → Hp → Prop) : Prop :=
  ∀ b S', Q b S' → ∀ H' μ', Ext μ μ' H H' → StoOk K H' μ' S' → R b H'
theorem AfterB.ext {Q : Bool → Sto → Prop} {R : Bool → Hp → Prop} (h : AfterB K Q μ H R) (e : Ext μ μ1 H H1) : AfterB K Q μ1 H1 R :=
  fun d S' q H' μ' e' => h d S' q H' μ' (e.trans e')
def AfterL (K : PySem.W.Frag) (Q : List D → Sto → Prop) (μ : Mu) (H : Hp) (R : List V → Hp → Prop) : Prop :=
  ∀ ds S', Q ds S' → ∀ vs H' μ', Ext μ μ' H H' → StoOk K H' μ' S' → RVs K H' μ' vs ds → R vs H'
theorem AfterL.ext {Q : List D → Sto → Prop} {R : List V → Hp → Prop} (h : AfterL K Q μ H R) (e : Ext μ μ1 H H1) : AfterL K Q μ1 H1 R :=
  fun d S' q v H' μ' e' => h d S' q v H' μ' (e.trans e')
def AfterS (K : PySem.W.Frag) (q : Env → Sto → Prop) (μ : Mu) (H : Hp) (R : St → Hp → Prop) : Prop :=
  ∀ ρ' S', q ρ' S' → ∀ σ' H' μ', Ext μ μ' H H' → Slots K H' μ' σ' ρ' → StoOk K H' μ' S' → R σ' H'
theorem AfterS.ext {q : Env → Sto → Prop} {R : St → Hp → Prop} (h : AfterS K q μ H R) (e : Ext μ μ1 H H1) : AfterS K q μ1 H1 R :=
  fun d S' q v H' μ' e' => h d S' q v H' μ' (e.trans e')
def LE (K : PySem.W.Frag) (w : WE) : TE := fun σ H R => ∃ μ ρ S Q, Slots K H μ σ ρ ∧ StoOk K H μ S ∧ w ρ S Q ∧ After K Q μ H R
abbrev WT := Env → Sto → (Bool → Sto → Prop) → Prop
def LT (K : PySem.W.Frag) (w : WT) : TT := fun σ H R => ∃ μ ρ S Q, Slots K H μ σ ρ ∧ StoOk K H μ S ∧ w ρ S Q ∧ AfterB K Q μ H R
abbrev WA := Env → Sto → (List D → Sto → Prop) → Prop
def LA (K : PySem.W.Frag) (w : WA) : TA := fun σ H R => ∃ μ ρ S Q, Slots K H μ σ ρ ∧ StoOk K H μ S ∧ w ρ S Q ∧ AfterL K Q μ H R
structure EndsD where
  nx : Env → Sto → Prop
  rt : QD
  bk : Env → Sto → Prop := fun _ _ => False
  ct : Env → Sto → Prop := fun _ _ => False
abbrev WS := EndsD → Env → Sto → Prop
structure AfterE (K : PySem.W.Frag) (E : EndsD) (μ : Mu) (H : Hp) (R : Ends) : Prop where
  nx : AfterS K E.nx μ H R.nx
  rt : After K E.rt μ H R.rt
  bk : AfterS K E.bk μ H R.bk
  ct : AfterS K E.ct μ H R.ct
theorem AfterE.ext {E : EndsD} {R : Ends} (h : AfterE K E μ H R) (e : Ext μ μ1 H H1) : AfterE K E μ1 H1 R := ⟨h.nx.ext e, h.rt.ext e, h.bk.ext e, h.ct.ext e⟩
def LS (K : PySem.W.Frag) (w : WS) : TS := fun R σ H => ∃ μ ρ S E, Slots K H μ σ ρ ∧ StoOk K H μ S ∧ w E ρ S ∧ AfterE K E μ H R
abbrev WG := D → Env → Sto → (Env → Sto → Prop) → Prop
def LG (K : PySem.W.Frag) (w : WG) : TG := fun v σ H R => ∃ μ ρ S d q, Slots K H μ σ ρ ∧ StoOk K H μ S ∧ RV K H μ v d ∧ w d ρ S q ∧ AfterS K q μ H R
abbrev WGs := List D → Env → Sto → (Env → Sto → Prop) → Prop
def LGs (K : PySem.W.Frag) (w : WGs) : TGs := fun vs σ H R => ∃ μ ρ S ds q, Slots K H μ σ ρ ∧ StoOk K H μ S ∧ RVs K H μ vs ds ∧ w ds ρ S q ∧ AfterS K q μ H R
end
section
variable (X : Cx)
def JE (e : Expr) (w : WE) : Prop := PE X e (LE X.K w)
def JT (e : Expr) (w : WT) : Prop := PT X e (LT X.K w)
def JW (e : Expr) (w : WT) : Prop := PW X e (LT X.K w)
def JA (es : List Expr) (w : WA) : Prop := PA X es (LA X.K w)
def JS (s : Stmt) (w : WS) : Prop := PS X s (LS X.K w)
def JSs (ss : List Stmt) (w : WS) : Prop := PSs X ss (LS X.K w)
def JG (t : Expr) (w : WG) : Prop := PG X t (LG X.K w)
def JGs (ts : List Expr) (w : WGs) : Prop := PGs X ts (LGs X.K w)
end
section
variable {X : Cx}
theorem PE.imp {e : Expr} {t t' : TE} (h : PE X e t) (f : ∀ σ H Q, t' σ H Q → t σ H Q) : PE X e t' := ⟨fun pins s σ H Q I q => h.run pins s σ H Q I (f σ H Q q)⟩
theorem PT.imp {e : Expr} {t t' : TT} (h : PT X e t) (f : ∀ σ H Q, t' σ H Q → t σ H Q) : PT X e t' := ⟨fun pins s σ H Q I q => h.run pins s σ H Q I (f σ H Q q)⟩
theorem PW.imp {e : Expr} {t t' : TT} (h : PW X e t) (f : ∀ σ H Q, t' σ H Q → t σ H Q) : PW X e t' := ⟨fun wh pins s σ H Q I q => h.run wh pins s σ H Q I (f σ H Q q)⟩
theorem PA.imp {e : List Expr} {t t' : TA} (h : PA X e t) (f : ∀ σ H Q, t' σ H Q → t σ H Q) : PA X e t' := ⟨fun po pins s σ H Q I q => h.run po pins s σ H Q I (f σ H Q q)⟩
theorem PS.imp {e : Stmt} {t t' : TS} (h : PS X e t) (f : ∀ D σ H, t' D σ H → t D σ H) : PS X e t' := ⟨fun pins s σ H D I q => h.run pins s σ H D I (f D σ H q)⟩
theorem PSs.imp {e : List Stmt} {t t' : TS} (h : PSs X e t) (f : ∀ D σ H, t' D σ H → t D σ H) : PSs X e t' := ⟨fun pins s σ H D I q => h.run pins s σ H D I (f D σ H q)⟩
theorem PG.imp {e : Expr} {t t' : TG} (h : PG X e t) (f : ∀ v σ H Q, t' v σ H Q → t v σ H Q) : PG X e t' := ⟨fun pins s σ H v u Q I r q => h.run pins s σ H v u Q I r (f v σ H Q q)⟩
theorem PGs.imp {e : List Expr} {t t' : TGs} (h : PGs X e t) (f : ∀ v σ H Q, t' v σ H Q → t v σ H Q) : PGs X e t' := ⟨fun pins s σ H v u Q I r q => h.run pins s σ H v u Q I r (f v σ H Q q)⟩
end
end DL
namespace DL
open PySem PySem.Spec L2
open PyProof.Rows hiding St
section
variable {K : PySem.W.Frag} {H : Hp} {μ : Mu} {v : V}
theorem rv_non : RV K H μ v .non ↔ v = .non := by rw [RV]
theorem rv_bl {b : Bool} : RV K H μ v (.bl b) ↔ v = .bl b := by rw [RV]
theorem rv_int {i : Int} : RV K H μ v (.int i) ↔ v = .int i := by rw [RV]
theorem rv_str {x : Str} : RV K H μ v (.str x) ↔ v = .str x := by rw [RV]
theorem rv_ty {n : String} : RV K H μ v (.ty n) ↔ v = .ty n := by rw [RV]
theorem rv_tup {ds : List D} : RV K H μ v (.tup ds) ↔ ∃ a vs, v = .ref a ∧ TupAt K H μ a vs ∧ RVs K H μ vs ds := by rw [RV]
theorem rv_rol {ds : List D} : RV K H μ v (.rol ds) ↔ ∃ a vs, v = .ref a ∧ LstAt H μ a vs ∧ RVs K H μ vs ds := by rw [RV]
theorem rv_fro {ds : List D} : RV K H μ v (.fro ds) ↔ ∃ a vs, v = .ref a ∧ FroAt K H μ a vs ∧ RVs K H μ vs ds := by rw [RV]
theorem rv_loc {n : Nat} : RV K H μ v (.loc n) ↔ ∃ a, v = .ref a ∧ μ.lo[n]? = some a := by rw [RV]
end
def cellL : Option Cell → Option (List D)
  | some (.lst ds) => some ds
  | _ => none
theorem cellL_some {o : Option Cell} {ds : List D} (h : cellL o = some ds) : o = some (.lst ds) := by
  cases o with
  | none => cases h
  | some c =>
    cases c with
    | lst es => cases h; rfl
    | dic _ => cases h
    | dct _ _ => cases h
    | ins _ _ => cases h
/-- what a name means as a plain value: a list of the store is its items -/
def view (S : Sto) (d : D) : D := match d with
  | .loc n => match cellL S[n]? with
    | some ds => .rol ds
    | none => d
  | d => d
/-- the items of a list (a plain one, one of the store, a locked one) -/
def rdL (S : Sto) (d : D) : Option (List D) := match d with
  | .rol ds => some ds
  | .fro ds => some ds
  | .loc n => cellL S[n]?
  | _ => none
/-- the items of a list that is not locked -/
def rdM (S : Sto) (d : D) : Option (List D) := match d with
  | .rol ds => some ds
  | .loc n => cellL S[n]?
  | _ => none
section
variable {K : PySem.W.Frag} {H : Hp} {μ : Mu} {v : V} {S : Sto} {d : D} {ds : List D}
theorem rdL_ok (o : StoOk K H μ S) (r : RV K H μ v d) (h : rdL S d = some ds) : ∃ a vs, v = .ref a ∧ SqL K H a vs ∧ RVs K H μ vs ds := by
  cases d with
  | rol es =>
    obtain ⟨a, vs, e, q1, q2⟩ := rv_rol.mp r
    cases h
    exact ⟨a, vs, e, q1.sq, q2⟩
  | fro es =>
    obtain ⟨a, vs, e, q1, q2⟩ := rv_fro.mp r
    cases h
    exact ⟨a, vs, e, q1.sq, q2⟩
  | loc n =>
    obtain ⟨a, e, q1⟩ := rv_loc.mp r
    have he := cellL_some (show cellL S[n]? = some ds from h)
    · obtain ⟨vs, z1, z2⟩ := o.addr he q1
      exact ⟨a, vs, e, .inl (.inl z1), z2⟩
  | _ => cases h
theorem rdM_ok (o : StoOk K H μ S) (r : RV K H μ v d) (h : rdM S d = some ds) : ∃ a vs, v = .ref a ∧ H a = some (.lst vs) ∧ RVs K H μ vs ds := by
  cases d with
  | rol es =>
    obtain ⟨a, vs, e, q1, q2⟩ := rv_rol.mp r
    cases h
    exact ⟨a, vs, e, q1.1, q2⟩
  | loc n =>
    obtain ⟨a, e, q1⟩ := rv_loc.mp r
    have he := cellL_some (show cellL S[n]? = some ds from h)
    · obtain ⟨vs, z1, z2⟩ := o.addr he q1
      exact ⟨a, vs, e, z1, z2⟩
  | _ => cases h
theorem dic_ok {n : Nat} {kvs : List (Key × D)} (o : StoOk K H μ S) (r : RV K H μ v (.loc n)) (h : S[n]? = some (.dic kvs)) : ∃ a us, v = .ref a ∧ μ.lo[n]? = some a ∧ H a = some (.dK us) ∧ KvOk K H μ us kvs := by
  obtain ⟨a, e, q1⟩ := rv_loc.mp r
  obtain ⟨us, z1, z2⟩ := o.addr h q1
  exact ⟨a, us, e, q1, z1, z2⟩
/-- a new plain list, a new tuple, a new list of the store -/
theorem After.tup {Q : QD} {R : VK} {vs : List V} (h : After K Q μ H R) (o : StoOk K H μ S) (q : Q (.tup ds) S) (r : RVs K H μ vs ds) : ∀ p, H p = none → R (.ref p) (upd H p (.tup vs)) := fun p hp =>
  h _ _ q _ _ μ (Ext.alloc hp) (o.alloc hp) (rv_tup.mpr ⟨p, vs, rfl, .inl ⟨upd_same, o.out hp⟩, RVs.ext (Ext.alloc hp) _ r⟩)
theorem After.rol {Q : QD} {R : VK} {vs : List V} (h : After K Q μ H R) (o : StoOk K H μ S) (q : Q (.rol ds) S) (r : RVs K H μ vs ds) : ∀ p, H p = none → R (.ref p) (upd H p (.lst vs)) := fun p hp =>
  h _ _ q _ _ μ (Ext.alloc hp) (o.alloc hp) (rv_rol.mpr ⟨p, vs, rfl, ⟨upd_same, o.out hp⟩, RVs.ext (Ext.alloc hp) _ r⟩)
theorem After.lst {Q : QD} {R : VK} {vs : List V} (h : After K Q μ H R) (o : StoOk K H μ S) (q : Q (.loc S.length) (S ++ [.lst ds])) (r : RVs K H μ vs ds) : ∀ p, H p = none → R (.ref p) (upd H p (.lst vs)) := fun p hp =>
  h _ _ q _ _ (μ.add [p]) (Ext.push hp) (o.push hp ⟨vs, upd_same, RVs.ext (Ext.push hp) _ r⟩) (rv_loc.mpr ⟨p, rfl, by show (μ.lo ++ [p])[S.length]? = _; rw [← o.len]; simp⟩)
theorem After.dic {Q : QD} {R : VK} {us : List (Key × V)} {kvs : List (Key × D)} (h : After K Q μ H R) (o : StoOk K H μ S) (q : Q (.loc S.length) (S ++ [.dic kvs])) (r : KvOk K H μ us kvs) : ∀ p, H p = none → R (.ref p) (upd H p (.dK us)) := fun p hp =>
  h _ _ q _ _ (μ.add [p]) (Ext.push hp) (o.push hp ⟨us, upd_same, r.ext (Ext.push hp)⟩) (rv_loc.mpr ⟨p, rfl, by show (μ.lo ++ [p])[S.length]? = _; rw [← o.len]; simp⟩)
theorem After.here {Q : QD} {R : VK} (h : After K Q μ H R) (o : StoOk K H μ S) (q : Q d S) (r : RV K H μ v d) : R v H := h d S q v H μ Ext.refl o r
end
/-! ## names, constants -/
section
variable {X : Cx} {a b c e o : Expr} {wa wb wc : WE} {pos : Pos}
def wVar (i : Nat) : WE := fun ρ S Q => match ρ[i]? with
  | some (some d) => Q d S
  | _ => False
theorem je_var (i : Nat) {x : Str} (hN : X.N[i]? = some x := by rfl) (hv : Vis X.env.scope x := by first | exact Or.inl rfl | exact Or.inr (Or.inl rfl) | exact Or.inr (Or.inr rfl))
    (hd : (x == ("__debug__" : Str)) = false := by decide) (hcd : (x == ("__classdict__" : Str)) = false := by decide) : JE X (.Name x pos) (wVar i) := by
  refine PE.imp (pe_var hN hv hd hcd) fun σ H R ⟨μ, ρ, S, Q, hs, ho, hw, ha⟩ => ?_
  unfold wVar at hw
  split at hw
  · rename_i d ed
    obtain ⟨v, e1, r⟩ := hs.get _ _ ed
    exact ⟨v, e1, ha.here ho hw r⟩
  · exact hw.elim
def wC (d : D) : WE := fun _ S Q => Q d S
theorem je_const {d : D} {v : V} (h : PE X e (tC v)) (k : ∀ H μ, RV X.K H μ v d) : JE X e (wC d) :=
  PE.imp h fun σ H R ⟨μ, ρ, S, Q, hs, ho, hw, ha⟩ => ha.here ho hw (k H μ)
theorem je_int {i : Int} {j : Nat} : JE X (.Constant (.int i) j pos) (wC (.int i)) := je_const pe_int fun _ _ => rv_int.mpr rfl
theorem je_bl {i : Bool} {j : Nat} : JE X (.Constant (.bool i) j pos) (wC (.bl i)) := je_const pe_bl fun _ _ => rv_bl.mpr rfl
theorem je_non {j : Nat} : JE X (.Constant .none j pos) (wC .non) := je_const pe_non fun _ _ => rv_non.mpr rfl
theorem je_str {i : Str} {j : Nat} : JE X (.Constant (.str i) j pos) (wC (.str i)) := je_const pe_str fun _ _ => rv_str.mpr rfl
/-- a module's constant: what stands at the written part -/
def KVal (K : PySem.W.Frag) (v : V) (d : D) : Prop := ∀ H μ, RV K H μ v d
theorem KVal.int {K : PySem.W.Frag} {i : Int} : KVal K (.int i) (.int i) := fun _ _ => rv_int.mpr rfl
theorem KVal.str {K : PySem.W.Frag} {i : Str} : KVal K (.str i) (.str i) := fun _ _ => rv_str.mpr rfl
theorem je_glob {x : Str} {v : V} {d : D} {u : Value} (hg : Gl X x) (hm : X.mg x = some u) (r : RelV v u) (k : KVal X.K v d) (hd : (x == ("__debug__" : Str)) = false := by decide) : JE X (.Name x pos) (wC d) :=
  je_const (pe_glob hg hm r hd) k
/-- a built-in class as a value -/
theorem je_ty {x : Str} {T : String} (hg : Gl X x) (hm : X.mg x = none) (hv : bootBuiltins x = some (.type T)) (hn : x ≠ "__name__" := by decide) (hd : (x == ("__debug__" : Str)) = false := by decide) : JE X (.Name x pos) (wC (.ty T)) :=
  je_const (pe_bltn hg hm hv (v := .ty T) rfl hn hd) fun _ _ => rv_ty.mpr rfl
/-! ## operators of two -/
abbrev G2 := D → D → Sto → QD → Prop
def wOp (g : G2) (wa wb : WE) : WE := fun ρ S Q => wa ρ S fun x S1 => wb ρ S1 fun y S2 => g x y S2 Q
def Op2 (K : PySem.W.Frag) (r : R2) (g : G2) : Prop := ∀ {μ : Mu} {H : Hp} {S : Sto} {x y : D} {v u : V} {Q : QD} {R : VK}, StoOk K H μ S → RV K H μ v x → RV K H μ u y → g x y S Q → After K Q μ H R → r v u H R
theorem wOp_to {K : PySem.W.Frag} {r : R2} {g : G2} (hg : Op2 K r g) {σ : St} {H : Hp} {R : VK} (h : LE K (wOp g wa wb) σ H R) : tOp r (LE K wa) (LE K wb) σ H R := by
  obtain ⟨μ, ρ, S, Q, hs, ho, hw, ha⟩ := h
  refine ⟨μ, ρ, S, _, hs, ho, hw, fun x S1 q v H1 μ1 e1 o1 r1 => ?_⟩
  refine ⟨μ1, ρ, S1, _, hs.ext e1, o1, q, fun y S2 q2 u H2 μ2 e2 o2 r2 => ?_⟩
  exact hg o2 (RV.ext e2 x r1) r2 q2 (ha.ext (e1.trans e2))
structure OpJ (X : Cx) (f : Value → Value → Sem Value) (g : G2) : Prop where
  ex : ∃ r : R2, OpR X f r ∧ Op2 X.K r g
theorem je_op {op : Operator} {g : G2} (h : OpJ X (binaryOp op) g) (ha : JE X a wa) (hb : JE X b wb) : JE X (.BinOp a op b pos) (wOp g wa wb) := by
  obtain ⟨r, ho, hg⟩ := h.ex
  exact PE.imp (pe_op ho ha hb) fun σ H R q => wOp_to hg q
theorem je_cmp {op : CmpOp} {g : G2} (h : OpJ X (compareOp op) g) (ha : JE X a wa) (hb : JE X b wb) (hm : behindInMarks op b = false := by first | exact nomark _ | rfl) : JE X (.Compare a [op] [b] pos) (wOp g wa wb) := by
  obtain ⟨r, ho, hg⟩ := h.ex
  exact PE.imp (pe_cmpR ho ha hb hm) fun σ H R q => wOp_to hg q
/-- a bool value as a test -/
def onB (Q : Bool → Sto → Prop) : QD := fun d S => match d with
  | .bl k => Q k S
  | _ => False
def wTest (w : WE) : WT := fun ρ S Q => w ρ S (onB Q)
theorem onB_to {K : PySem.W.Frag} {Q : Bool → Sto → Prop} {μ : Mu} {H : Hp} {R : Bool → Hp → Prop} (ha : AfterB K Q μ H R) : After K (onB Q) μ H fun x H' => ∃ k, x = .bl k ∧ R k H' := by
  intro d S' q v H' μ' e o r
  cases d with
  | bl k => exact ⟨k, rv_bl.mp r, ha k S' q H' μ' e o⟩
  | _ => exact q.elim
theorem jt_val (h : JE X e wa) (he : ∀ whole, isTrue e X.env whole = (do let v ← whole; standAt e.pos; holding [v] (truthy v)) := by intro _; rfl) : JT X e (wTest wa) :=
  PT.imp (pt_val h he) fun σ H R ⟨μ, ρ, S, Q, hs, ho, hw, ha⟩ => ⟨μ, ρ, S, _, hs, ho, hw, onB_to ha⟩
theorem jt_cmp {op : CmpOp} {g : G2} (h : OpJ X (compareOp op) g) (ha : JE X a wa) (hb : JE X b wb) (hm : behindInMarks op b = false := by first | exact nomark _ | rfl) : JT X (.Compare a [op] [b] pos) (wTest (wOp g wa wb)) := by
  obtain ⟨r, ho, hg⟩ := h.ex
  exact PT.imp (pt_cmpR ho ha hb hm) fun σ H R ⟨μ, ρ, S, Q, hs, ho, hw, ha⟩ => wOp_to hg (R := fun x H' => ∃ k, x = .bl k ∧ R k H') ⟨μ, ρ, S, _, hs, ho, hw, onB_to ha⟩
/-- a op b op' c -/
def wChain (g g' : G2) (wa wb wc : WE) : WE := fun ρ S Q => wa ρ S fun x S1 => wb ρ S1 fun y S2 => g x y S2 (onB fun k S3 => if k = true then wc ρ S3 fun z S4 => g' y z S4 Q else Q (.bl false) S3)
theorem wChain_to {K : PySem.W.Frag} {r r' : R2} {g g' : G2} (hg : Op2 K r g) (hg' : Op2 K r' g') {σ : St} {H : Hp} {R : VK} (h : LE K (wChain g g' wa wb wc) σ H R) : tChain r r' (LE K wa) (LE K wb) (LE K wc) σ H R := by
  obtain ⟨μ, ρ, S, Q, hs, ho, hw, ha⟩ := h
  refine ⟨μ, ρ, S, _, hs, ho, hw, fun x S1 q v H1 μ1 e1 o1 r1 => ?_⟩
  refine ⟨μ1, ρ, S1, _, hs.ext e1, o1, q, fun y S2 q2 u H2 μ2 e2 o2 r2 => ?_⟩
  refine hg o2 (RV.ext e2 x r1) r2 q2 fun d S3 q3 z H3 μ3 e3 o3 r3 => ?_
  cases d with
  | bl k =>
    refine ⟨k, rv_bl.mp r3, ?_⟩
    have e03 := (e1.trans e2).trans e3
    cases k with
    | false =>
      rw [if_neg Bool.false_ne_true]
      exact ha _ _ q3 _ _ _ e03 o3 (rv_bl.mpr rfl)
    | true =>
      rw [if_pos rfl]
      refine ⟨μ3, ρ, S3, _, hs.ext e03, o3, q3, fun w S4 q4 u4 H4 μ4 e4 o4 r4 => ?_⟩
      exact hg' o4 (RV.ext (e3.trans e4) y r2) r4 q4 (ha.ext (e03.trans e4))
  | _ => exact q3.elim
theorem je_chain {op op' : CmpOp} {g g' : G2} (h : OpJ X (compareOp op) g) (h' : OpJ X (compareOp op') g') (ha : JE X a wa) (hb : JE X b wb) (hc : JE X c wc)
    (hm : lastMarks [op, op'] [b, c] = false := by with_unfolding_all rfl) : JE X (.Compare a [op, op'] [b, c] pos) (wChain g g' wa wb wc) := by
  obtain ⟨r, ho, hg⟩ := h.ex
  obtain ⟨r', ho', hg'⟩ := h'.ex
  exact PE.imp (pe_chain ho ho' ha hb hc hm) fun σ H R q => wChain_to hg hg' q
theorem jt_chain {op op' : CmpOp} {g g' : G2} (h : OpJ X (compareOp op) g) (h' : OpJ X (compareOp op') g') (ha : JE X a wa) (hb : JE X b wb) (hc : JE X c wc)
    (hm : lastMarks [op, op'] [b, c] = false := by with_unfolding_all rfl) : JT X (.Compare a [op, op'] [b, c] pos) (wTest (wChain g g' wa wb wc)) := by
  obtain ⟨r, ho, hg⟩ := h.ex
  obtain ⟨r', ho', hg'⟩ := h'.ex
  exact PT.imp (pt_chain ho ho' ha hb hc hm) fun σ H R ⟨μ, ρ, S, Q, hs, ho, hw, ha⟩ => wChain_to hg hg' (R := fun x H' => ∃ k, x = .bl k ∧ R k H') ⟨μ, ρ, S, _, hs, ho, hw, onB_to ha⟩
/-! ## and, or, not, if -/
def wAnd (wa wb : WE) : WE := fun ρ S Q => wa ρ S (onB fun k S1 => if k = true then wb ρ S1 Q else Q (.bl false) S1)
def wOr (wa wb : WE) : WE := fun ρ S Q => wa ρ S (onB fun k S1 => if k = true then Q (.bl true) S1 else wb ρ S1 Q)
def wNot (wa : WE) : WE := fun ρ S Q => wa ρ S (onB fun k S1 => Q (.bl (!k)) S1)
theorem je_one {op : BoolOp} (h : JE X a wa) : JE X (.BoolOp op [a] pos) wa := pe_one h
theorem je_and {rest : List Expr} (ha : JE X a wa) (hb : JE X (.BoolOp .And (b :: rest) pos) wb) : JE X (.BoolOp .And (a :: b :: rest) pos) (wAnd wa wb) := by
  refine PE.imp (pe_and ha hb) fun σ H R ⟨μ, ρ, S, Q, hs, ho, hw, ha⟩ => ⟨μ, ρ, S, _, hs, ho, hw, fun d S1 q v H1 μ1 e1 o1 r1 => ?_⟩
  cases d with
  | bl k =>
    refine ⟨k, rv_bl.mp r1, ?_⟩
    cases k with
    | false =>
      rw [if_neg Bool.false_ne_true]
      exact ha _ _ q _ _ _ e1 o1 (rv_bl.mpr rfl)
    | true =>
      rw [if_pos rfl]
      exact ⟨μ1, ρ, S1, _, hs.ext e1, o1, q, ha.ext e1⟩
  | _ => exact q.elim
theorem je_or {rest : List Expr} (ha : JE X a wa) (hb : JE X (.BoolOp .Or (b :: rest) pos) wb) : JE X (.BoolOp .Or (a :: b :: rest) pos) (wOr wa wb) := by
  refine PE.imp (pe_or ha hb) fun σ H R ⟨μ, ρ, S, Q, hs, ho, hw, ha⟩ => ⟨μ, ρ, S, _, hs, ho, hw, fun d S1 q v H1 μ1 e1 o1 r1 => ?_⟩
  cases d with
  | bl k =>
    refine ⟨k, rv_bl.mp r1, ?_⟩
    cases k with
    | true =>
      rw [if_pos rfl]
      exact ha _ _ q _ _ _ e1 o1 (rv_bl.mpr rfl)
    | false =>
      rw [if_neg Bool.false_ne_true]
      exact ⟨μ1, ρ, S1, _, hs.ext e1, o1, q, ha.ext e1⟩
  | _ => exact q.elim
theorem je_not (ha : JE X a wa) : JE X (.UnaryOp .Not a pos) (wNot wa) := by
  refine PE.imp (pe_not ha) fun σ H R ⟨μ, ρ, S, Q, hs, ho, hw, ha⟩ => ⟨μ, ρ, S, _, hs, ho, hw, fun d S1 q v H1 μ1 e1 o1 r1 => ?_⟩
  cases d with
  | bl k => exact ⟨k, rv_bl.mp r1, ha _ _ q _ _ _ e1 o1 (rv_bl.mpr rfl)⟩
  | _ => exact q.elim
def wAndT (wa wb : WT) : WT := fun ρ S Q => wa ρ S fun k S1 => if k = true then wb ρ S1 Q else Q false S1
def wOrT (wa wb : WT) : WT := fun ρ S Q => wa ρ S fun k S1 => if k = true then Q true S1 else wb ρ S1 Q
def wNotT (wa : WT) : WT := fun ρ S Q => wa ρ S fun k S1 => Q (!k) S1
section
variable {ta tb : WT} {rest : List Expr}
theorem jw_and1 (h : JT X a ta) : JW X (.BoolOp .And [a] pos) ta := pw_and1 h
theorem jw_or1 (h : JT X a ta) : JW X (.BoolOp .Or [a] pos) ta := pw_or1 h
theorem jt_of (h : JW X a ta) : JT X a ta := PW.pt h
theorem jw_and (ha : JT X a ta) (hb : JW X (.BoolOp .And (b :: rest) pos) tb) : JW X (.BoolOp .And (a :: b :: rest) pos) (wAndT ta tb) := by
  refine PW.imp (pw_and ha hb) fun σ H R ⟨μ, ρ, S, Q, hs, ho, hw, ha⟩ => ⟨μ, ρ, S, _, hs, ho, hw, fun k S1 q H1 μ1 e1 o1 => ?_⟩
  cases k with
  | true => rw [if_pos rfl]; exact ⟨μ1, ρ, S1, _, hs.ext e1, o1, q, ha.ext e1⟩
  | false => rw [if_neg Bool.false_ne_true]; exact ha _ _ q _ _ e1 o1
theorem jw_or (ha : JT X a ta) (hb : JW X (.BoolOp .Or (b :: rest) pos) tb) : JW X (.BoolOp .Or (a :: b :: rest) pos) (wOrT ta tb) := by
  refine PW.imp (pw_or ha hb) fun σ H R ⟨μ, ρ, S, Q, hs, ho, hw, ha⟩ => ⟨μ, ρ, S, _, hs, ho, hw, fun k S1 q H1 μ1 e1 o1 => ?_⟩
  cases k with
  | true => rw [if_pos rfl]; exact ha _ _ q _ _ e1 o1
  | false => rw [if_neg Bool.false_ne_true]; exact ⟨μ1, ρ, S1, _, hs.ext e1, o1, q, ha.ext e1⟩
theorem jt_not (ha : JT X a ta) : JT X (.UnaryOp .Not a pos) (wNotT ta) :=
  PT.imp (pt_not ha) fun σ H R ⟨μ, ρ, S, Q, hs, ho, hw, ha⟩ => ⟨μ, ρ, S, _, hs, ho, hw, fun k S1 q H1 μ1 e1 o1 => ha _ _ q _ _ e1 o1⟩
def wIf (t : WT) (wa wb : WE) : WE := fun ρ S Q => t ρ S fun k S1 => if k = true then wa ρ S1 Q else wb ρ S1 Q
theorem je_if (hc : JT X c ta) (ha : JE X a wa) (hb : JE X b wb) : JE X (.IfExp c a b pos) (wIf ta wa wb) := by
  refine PE.imp (pe_ifExp hc ha hb) fun σ H R ⟨μ, ρ, S, Q, hs, ho, hw, ha⟩ => ⟨μ, ρ, S, _, hs, ho, hw, fun k S1 q H1 μ1 e1 o1 => ?_⟩
  cases k with
  | true => rw [if_pos rfl]; exact ⟨μ1, ρ, S1, _, hs.ext e1, o1, q, ha.ext e1⟩
  | false => rw [if_neg Bool.false_ne_true]; exact ⟨μ1, ρ, S1, _, hs.ext e1, o1, q, ha.ext e1⟩
end
def wUn (g : D → Sto → QD → Prop) (wa : WE) : WE := fun ρ S Q => wa ρ S fun x S1 => g x S1 Q
def gNeg : D → Sto → QD → Prop := fun x S Q => match x with
  | .int i => Q (.int (-i)) S
  | _ => False
theorem je_neg (ha : JE X a wa) : JE X (.UnaryOp .USub a pos) (wUn gNeg wa) := by
  refine PE.imp (pe_un un_neg ha) fun σ H R ⟨μ, ρ, S, Q, hs, ho, hw, ha⟩ => ⟨μ, ρ, S, _, hs, ho, hw, fun d S1 q v H1 μ1 e1 o1 r1 => ?_⟩
  cases d with
  | int i => exact ⟨i, rv_int.mp r1, ha _ _ q _ _ _ e1 o1 (rv_int.mpr rfl)⟩
  | _ => exact q.elim
/-! ## arguments, displays -/
def wNil : WA := fun _ S Q => Q [] S
def wCons (wa : WE) (wr : WA) : WA := fun ρ S Q => wa ρ S fun x S1 => wr ρ S1 fun xs S2 => Q (x :: xs) S2
section
variable {es : List Expr} {wl : WA}
theorem ja_nil : JA X [] wNil := PA.imp pa_nil fun σ H R ⟨μ, ρ, S, Q, hs, ho, hw, ha⟩ => ha _ _ hw _ _ _ Ext.refl ho RVs.nil
theorem ja_cons (h : JE X e wa) (hr : JA X es wl) (hs : starEach (e :: es) X.env = (false, eval e X.env) :: starEach es X.env := by rfl) : JA X (e :: es) (wCons wa wl) := by
  refine PA.imp (pa_cons h hr hs) fun σ H R ⟨μ, ρ, S, Q, hs, ho, hw, ha⟩ => ⟨μ, ρ, S, _, hs, ho, hw, fun x S1 q v H1 μ1 e1 o1 r1 => ?_⟩
  exact ⟨μ1, ρ, S1, _, hs.ext e1, o1, q, fun xs S2 q2 vs H2 μ2 e2 o2 r2 => ha _ _ q2 _ _ _ (e1.trans e2) o2 (RVs.cons (RV.ext e2 x r1) r2)⟩
/-- a tuple; a list as a plain value; a list of the store -/
def wTup (wl : WA) : WE := fun ρ S Q => wl ρ S fun ds S1 => ds.length ≤ sizeLine ∧ Q (.tup ds) S1
def wRol (wl : WA) : WE := fun ρ S Q => wl ρ S fun ds S1 => ds.length ≤ sizeLine ∧ Q (.rol ds) S1
def wLst (wl : WA) : WE := fun ρ S Q => wl ρ S fun ds S1 => ds.length ≤ sizeLine ∧ Q (.loc S1.length) (S1 ++ [.lst ds])
theorem je_tup {x1 : Nat} (h : JA X es wl) : JE X (.Tuple es x1 pos) (wTup wl) :=
  PE.imp (pe_tup h) fun σ H R ⟨μ, ρ, S, Q, hs, ho, hw, ha⟩ => ⟨μ, ρ, S, _, hs, ho, hw, fun ds S1 q vs H1 μ1 e1 o1 r1 => ⟨by rw [r1.length]; exact q.1, (ha.ext e1).tup o1 q.2 r1⟩⟩
theorem je_rol (h : JA X es wl) : JE X (.List es pos) (wRol wl) :=
  PE.imp (pe_lst h) fun σ H R ⟨μ, ρ, S, Q, hs, ho, hw, ha⟩ => ⟨μ, ρ, S, _, hs, ho, hw, fun ds S1 q vs H1 μ1 e1 o1 r1 => ⟨by rw [r1.length]; exact q.1, (ha.ext e1).rol o1 q.2 r1⟩⟩
theorem je_lst (h : JA X es wl) : JE X (.List es pos) (wLst wl) :=
  PE.imp (pe_lst h) fun σ H R ⟨μ, ρ, S, Q, hs, ho, hw, ha⟩ => ⟨μ, ρ, S, _, hs, ho, hw, fun ds S1 q vs H1 μ1 e1 o1 r1 => ⟨by rw [r1.length]; exact q.1, (ha.ext e1).lst o1 q.2 r1⟩⟩
end
/-! ## built-in functions -/
abbrev GL := List D → Sto → QD → Prop
def wCall (g : GL) (wl : WA) : WE := fun ρ S Q => wl ρ S fun ds S1 => g ds S1 Q
def CallD (K : PySem.W.Frag) (r : List V → Hp → VK → Prop) (g : GL) : Prop := ∀ {μ : Mu} {H : Hp} {S : Sto} {ds : List D} {vs : List V} {Q : QD} {R : VK}, StoOk K H μ S → RVs K H μ vs ds → g ds S Q → After K Q μ H R → r vs H R
structure CallJ (X : Cx) (f : Value) (g : GL) : Prop where
  ex : ∃ r, CallR X f r ∧ CallD X.K r g
section
variable {x : Str} {p : Pos} {es : List Expr} {wl : WA} {g : GL} {id T : String}
theorem wCall_to {K : PySem.W.Frag} {r : List V → Hp → VK → Prop} (hg : CallD K r g) {σ : St} {H : Hp} {R : VK} (h : LE K (wCall g wl) σ H R) : LA K wl σ H fun vs H1 => r vs H1 R := by
  obtain ⟨μ, ρ, S, Q, hs, ho, hw, ha⟩ := h
  exact ⟨μ, ρ, S, _, hs, ho, hw, fun ds S1 q vs H1 μ1 e1 o1 r1 => hg o1 r1 q (ha.ext e1)⟩
theorem je_callB (h : CallJ X (.builtin id) g) (hg : Gl X x) (hm : X.mg x = none) (hv : bootBuiltins x = some (.builtin id)) (ha : JA X (e :: es) wl) (hn : x ≠ "__name__" := by decide) (hdb : (x == ("__debug__" : Str)) = false := by decide)
    (hs : starEach (e :: es) X.env = (false, eval e X.env) :: starEach es X.env := by rfl) (hpl : (backTo pos (starEach es X.env)).any (·.1) = false := by rfl) :
    JE X (.Call (.Name x p) (e :: es) [] pos) (wCall g wl) := by
  obtain ⟨r, h1, h2⟩ := h.ex
  refine PE.imp (pe_callB h1 hg hm hv ha hn hdb ?_ ?_) fun σ H R q => wCall_to h2 q
  all_goals first | exact hs | exact hpl
theorem je_callTy (h : CallJ X (.type T) g) (hg : Gl X x) (hm : X.mg x = none) (hv : bootBuiltins x = some (.type T)) (ha : JA X (e :: es) wl) (hn : x ≠ "__name__" := by decide) (hdb : (x == ("__debug__" : Str)) = false := by decide)
    (hs : starEach (e :: es) X.env = (false, eval e X.env) :: starEach es X.env := by rfl) (hpl : (backTo pos (starEach es X.env)).any (·.1) = false := by rfl) :
    JE X (.Call (.Name x p) (e :: es) [] pos) (wCall g wl) := by
  obtain ⟨r, h1, h2⟩ := h.ex
  refine PE.imp (pe_callTy h1 hg hm hv ha hn hdb ?_ ?_) fun σ H R q => wCall_to h2 q
  all_goals first | exact hs | exact hpl
end
end
end DL
namespace DL
open PySem PySem.Spec L2
open PyProof.Rows hiding St
/-! ## data as a whole -/
mutual
def toP : D → PyData
  | .non => .none
  | .bl b => .bool b
  | .int i => .int i
  | .str x => .str x
  | .tup ds => .tuple (toPs ds)
  | .rol ds => .list (toPs ds)
  | .fro ds => .list (toPs ds)
  | .loc _ => .none
  | .ty _ => .none
def toPs : List D → List PyData
  | [] => []
  | d :: ds => toP d :: toPs ds
end
mutual
/-- no cell, no class within -/
def okP : D → Bool
  | .tup ds => okPs ds
  | .rol ds => okPs ds
  | .fro ds => okPs ds
  | .loc _ => false
  | .ty _ => false
  | _ => true
def okPs : List D → Bool
  | [] => true
  | d :: ds => okP d && okPs ds
end
section
variable {K : PySem.W.Frag} {H : Hp} {μ : Mu}
mutual
theorem dp_of : ∀ (d : D) {v : V}, okP d = true → RV K H μ v d → Dp K H v (toP d)
  | .non, _, _, h => by rw [rv_non.mp h, toP]; exact .non
  | .bl _, _, _, h => by rw [rv_bl.mp h, toP]; exact .bl _
  | .int _, _, _, h => by rw [rv_int.mp h, toP]; exact .int _
  | .str _, _, _, h => by rw [rv_str.mp h, toP]; exact .str _
  | .tup ds, _, o, h => by
    obtain ⟨a, vs, rfl, q1, q2⟩ := rv_tup.mp h
    rw [toP]
    exact .tup q1.sq (dps_of ds (by rw [okP] at o; exact o) q2)
  | .rol ds, _, o, h => by
    obtain ⟨a, vs, rfl, q1, q2⟩ := rv_rol.mp h
    rw [toP]
    exact .lst q1.sq (dps_of ds (by rw [okP] at o; exact o) q2)
  | .fro ds, _, o, h => by
    obtain ⟨a, vs, rfl, q1, q2⟩ := rv_fro.mp h
    rw [toP]
    exact .lst q1.sq (dps_of ds (by rw [okP] at o; exact o) q2)
  | .loc _, _, o, _ => by rw [okP] at o; cases o
  | .ty _, _, o, _ => by rw [okP] at o; cases o
theorem dps_of : ∀ (ds : List D) {vs : List V}, okPs ds = true → RVs K H μ vs ds → DpAll K H vs (toPs ds)
  | [], _, _, h => by rw [RVs] at h; subst h; rw [toPs]; exact .nil
  | d :: ds, _, o, h => by
    rw [RVs] at h
    obtain ⟨v, r, rfl, h1, h2⟩ := h
    rw [okPs, Bool.and_eq_true] at o
    rw [toPs]
    exact .cons (dp_of d o.1 h1) (dps_of ds o.2 h2)
end
theorem view_dp {S : Sto} {d : D} {v : V} (o : StoOk K H μ S) (r : RV K H μ v d) (h : okP (view S d) = true) : Dp K H v (toP (view S d)) := by
  cases d with
  | loc n =>
    cases e : cellL S[n]? with
    | none =>
      have e2 : view S (.loc n) = .loc n := by show (match cellL S[n]? with | some ds => D.rol ds | none => D.loc n) = _; rw [e]
      rw [e2, okP] at h; cases h
    | some ds =>
      have e2 : view S (.loc n) = .rol ds := by show (match cellL S[n]? with | some ds => D.rol ds | none => D.loc n) = _; rw [e]
      rw [e2] at h ⊢
      obtain ⟨a, vs, rfl, q1, q2⟩ := rdL_ok (ds := ds) o r e
      rw [toP]
      exact .lst q1 (dps_of ds (by rw [okP] at h; exact h) q2)
  | _ => exact dp_of _ h r
end
/-- == of two things of data -/
def eqD (x y : D) : Bool := PyData.eqv (toP x) (toP y)
/-- what == may be asked of -/
def okE (d : D) : Bool := okP d && SeqAt.shaped (toP d)
/-! ## the operators -/
section
variable {X : Cx}
def gI0 (f : Int → Int → D) : G2 := fun x y S Q => match x, y with
  | .int i, .int j => Q (f i j) S
  | _, _ => False
def gI (C : Int → Int → Prop) (f : Int → Int → D) : G2 := fun x y S Q => match x, y with
  | .int i, .int j => C i j ∧ Q (f i j) S
  | _, _ => False
theorem opj_i0 {f : Value → Value → Sem Value} {k : Int → Int → Int} (h : OpR X f (rI0 fun i j => .int (k i j))) : OpJ X f (gI0 fun i j => .int (k i j)) := by
  refine ⟨_, h, fun {μ H S x y v u Q R} o rx ry q ha => ?_⟩
  cases x with
  | int i =>
    cases y with
    | int j => exact ⟨i, j, rv_int.mp rx, rv_int.mp ry, ha.here o q (rv_int.mpr rfl)⟩
    | _ => exact q.elim
  | _ => cases y <;> exact q.elim
theorem opj_b0 {f : Value → Value → Sem Value} {k : Int → Int → Bool} (h : OpR X f (rI0 fun i j => .bl (k i j))) : OpJ X f (gI0 fun i j => .bl (k i j)) := by
  refine ⟨_, h, fun {μ H S x y v u Q R} o rx ry q ha => ?_⟩
  cases x with
  | int i =>
    cases y with
    | int j => exact ⟨i, j, rv_int.mp rx, rv_int.mp ry, ha.here o q (rv_bl.mpr rfl)⟩
    | _ => exact q.elim
  | _ => cases y <;> exact q.elim
theorem opj_i {f : Value → Value → Sem Value} {C : Int → Int → Prop} {k : Int → Int → Int} (h : OpR X f (rI C fun i j => .int (k i j))) : OpJ X f (gI C fun i j => .int (k i j)) := by
  refine ⟨_, h, fun {μ H S x y v u Q R} o rx ry q ha => ?_⟩
  cases x with
  | int i =>
    cases y with
    | int j => exact ⟨i, j, rv_int.mp rx, rv_int.mp ry, q.1, ha.here o q.2 (rv_int.mpr rfl)⟩
    | _ => exact q.elim
  | _ => cases y <;> exact q.elim
def gSub : G2 := gI0 fun i j => .int (i - j)
theorem j_sub : OpJ X (binaryOp .Sub) gSub := opj_i0 op_sub
def gFdiv : G2 := gI CDivW fun i j => .int (i / j)
theorem j_fdiv : OpJ X (binaryOp .FloorDiv) gFdiv := opj_i op_fdivW
def gMod : G2 := gI (fun _ j => 0 < j) fun i j => .int (i % j)
theorem j_mod : OpJ X (binaryOp .Mod) gMod := opj_i op_mod
def gPow : G2 := gI CPow fun i j => .int (i ^ j.toNat)
theorem j_pow : OpJ X (binaryOp .Pow) gPow := opj_i op_pow
def gShl : G2 := gI CShl fun i j => .int (i * 2 ^ j.toNat)
theorem j_shl : OpJ X (binaryOp .LShift) gShl := opj_i op_shlW
def gShr : G2 := gI (fun _ j => 0 ≤ j) fun i j => .int (i / 2 ^ j.toNat)
theorem j_shr : OpJ X (binaryOp .RShift) gShr := opj_i op_shr
def gAnd : G2 := gI0 fun i j => .int (Builtin.bitAnd i j)
theorem j_and : OpJ X (binaryOp .BitAnd) gAnd := opj_i0 op_and
def gLt : G2 := gI0 fun i j => .bl (decide (i < j))
theorem j_lt : OpJ X (compareOp .Lt) gLt := opj_b0 op_lt
def gLe : G2 := gI0 fun i j => .bl (decide (i ≤ j))
theorem j_le : OpJ X (compareOp .LtE) gLe := opj_b0 op_le
def gGt : G2 := gI0 fun i j => .bl (decide (j < i))
theorem j_gt : OpJ X (compareOp .Gt) gGt := opj_b0 op_gt
def gGe : G2 := gI0 fun i j => .bl (decide (j ≤ i))
theorem j_ge : OpJ X (compareOp .GtE) gGe := opj_b0 op_ge
/-- +: ints, texts, tuples, plain lists (a list of the store is read) -/
def gAdd : G2 := fun x y S Q => match x, y with
  | .int i, .int j => Q (.int (i + j)) S
  | .str a, .str b => a.length + b.length ≤ sizeLine ∧ Q (.str (a ++ b)) S
  | .tup a, .tup b => a.length + b.length ≤ sizeLine ∧ Q (.tup (a ++ b)) S
  | x, y => ∃ a b, rdM S x = some a ∧ rdM S y = some b ∧ a.length + b.length ≤ sizeLine ∧ Q (.rol (a ++ b)) S
/-- the same with lists, the new one for the store -/
def gAddL : G2 := fun x y S Q => ∃ a b, rdM S x = some a ∧ rdM S y = some b ∧ a.length + b.length ≤ sizeLine ∧ Q (.loc S.length) (S ++ [.lst (a ++ b)])
theorem rvs_nil {K : PySem.W.Frag} {H : Hp} {μ : Mu} {vs : List V} {ds : List D} (r : RVs K H μ vs ds) : vs = [] ↔ ds = [] := by
  have := r.length
  constructor <;> (rintro rfl; simp at this; first | exact this | exact this.symm | (apply List.eq_nil_of_length_eq_zero; omega))
theorem cat_to {μ : Mu} {H : Hp} {S : Sto} {x y : D} {v u : V} {Q : QD} {R : VK} (o : StoOk X.K H μ S) (rx : RV X.K H μ v x) (ry : RV X.K H μ u y)
    (q : ∃ a b, rdM S x = some a ∧ rdM S y = some b ∧ a.length + b.length ≤ sizeLine ∧ Q (.rol (a ++ b)) S) (ha : After X.K Q μ H R) : rCat v u H R := by
  obtain ⟨a, b, e1, e2, hz, q⟩ := q
  obtain ⟨p, vs, rfl, h1, r1⟩ := rdM_ok o rx e1
  obtain ⟨p', us, rfl, h2, r2⟩ := rdM_ok o ry e2
  exact ⟨p, p', vs, us, rfl, rfl, h1, h2, by rw [r1.length, r2.length]; exact hz, ha.rol o q (r1.append r2)⟩
theorem j_add : OpJ X (binaryOp .Add) gAdd := by
  refine ⟨_, op_add.or (op_add_str.or (op_catA.or op_cat)), fun {μ H S x y v u Q R} o rx ry q ha => ?_⟩
  cases x with
  | int i =>
    cases y with
    | int j => exact .inl ⟨i, j, rv_int.mp rx, rv_int.mp ry, ha.here o q (rv_int.mpr rfl)⟩
    | _ => exact .inr (.inr (.inr (cat_to o rx ry q ha)))
  | str a =>
    cases y with
    | str b => exact .inr (.inl ⟨a, b, rv_str.mp rx, rv_str.mp ry, q.1, ha.here o q.2 (rv_str.mpr rfl)⟩)
    | _ => exact .inr (.inr (.inr (cat_to o rx ry q ha)))
  | tup a =>
    cases y with
    | tup b =>
      obtain ⟨p, vs, rfl, h1, r1⟩ := rv_tup.mp rx
      obtain ⟨p', us, rfl, h2, r2⟩ := rv_tup.mp ry
      obtain ⟨hz, q⟩ := q
      refine .inr (.inr (.inl ⟨p, p', vs, us, rfl, rfl, h1.sq, h2.sq, by rw [r1.length, r2.length]; exact hz, fun e => ?_, fun _ e => ?_, fun _ _ => ha.tup o q (r1.append r2)⟩))
      · rw [(rvs_nil r1).mp e, List.nil_append] at q
        exact ha.here o q ry
      · rw [(rvs_nil r2).mp e, List.append_nil] at q
        exact ha.here o q rx
    | _ => exact .inr (.inr (.inr (cat_to o rx ry q ha)))
  | _ => cases y <;> exact .inr (.inr (.inr (cat_to o rx ry q ha)))
theorem j_addL : OpJ X (binaryOp .Add) gAddL := by
  refine ⟨_, op_cat, fun {μ H S x y v u Q R} o rx ry q ha => ?_⟩
  obtain ⟨a, b, e1, e2, hz, q⟩ := q
  obtain ⟨p, vs, rfl, h1, r1⟩ := rdM_ok o rx e1
  obtain ⟨p', us, rfl, h2, r2⟩ := rdM_ok o ry e2
  exact ⟨p, p', vs, us, rfl, rfl, h1, h2, by rw [r1.length, r2.length]; exact hz, ha.lst o q (r1.append r2)⟩
/-- ==, != -/
def gEq : G2 := fun x y S Q => match x, y with
  | .str a, .str b => Q (.bl (decide (a = b))) S
  | x, y => okE (view S x) = true ∧ okE (view S y) = true ∧ Q (.bl (eqD (view S x) (view S y))) S
def gNe : G2 := fun x y S Q => match x, y with
  | .str a, .str b => Q (.bl (!decide (a = b))) S
  | x, y => okE (view S x) = true ∧ okE (view S y) = true ∧ Q (.bl (!eqD (view S x) (view S y))) S
theorem okE_1 {d : D} (h : okE d = true) : okP d = true := (Bool.and_eq_true_iff.mp h).1
theorem okE_2 {d : D} (h : okE d = true) : SeqAt.shaped (toP d) = true := (Bool.and_eq_true_iff.mp h).2
theorem eq_to {μ : Mu} {H : Hp} {S : Sto} {x y : D} {v u : V} {Q : QD} {R : VK} (o : StoOk X.K H μ S) (rx : RV X.K H μ v x) (ry : RV X.K H μ u y)
    (q : okE (view S x) = true ∧ okE (view S y) = true ∧ Q (.bl (eqD (view S x) (view S y))) S) (ha : After X.K Q μ H R) : rEqD X.K v u H R :=
  ⟨_, _, view_dp o rx (okE_1 q.1), view_dp o ry (okE_1 q.2.1), okE_2 q.1, okE_2 q.2.1, ha.here o q.2.2 (rv_bl.mpr rfl)⟩
theorem ne_to {μ : Mu} {H : Hp} {S : Sto} {x y : D} {v u : V} {Q : QD} {R : VK} (o : StoOk X.K H μ S) (rx : RV X.K H μ v x) (ry : RV X.K H μ u y)
    (q : okE (view S x) = true ∧ okE (view S y) = true ∧ Q (.bl (!eqD (view S x) (view S y))) S) (ha : After X.K Q μ H R) : rNeD X.K v u H R :=
  ⟨_, _, view_dp o rx (okE_1 q.1), view_dp o ry (okE_1 q.2.1), okE_2 q.1, okE_2 q.2.1, ha.here o q.2.2 (rv_bl.mpr rfl)⟩
theorem v_str {i j : Str} : decide (V.str i = V.str j) = decide (i = j) := by
  by_cases e : i = j
  · subst e; simp
  · rw [decide_eq_false e, decide_eq_false fun z => e (V.str.inj z)]
theorem j_eq (hu : X.A.units + 64 < cLine) : OpJ X (compareOp .Eq) gEq := by
  refine ⟨_, op_eq.or (op_eqD hu), fun {μ H S x y v u Q R} o rx ry q ha => ?_⟩
  cases x with
  | str a =>
    cases y with
    | str b =>
      refine .inl ?_
      rw [rv_str.mp rx, rv_str.mp ry]
      exact ⟨rfl, by rw [v_str]; exact ha.here o q (rv_bl.mpr rfl)⟩
    | _ => exact .inr (eq_to o rx ry q ha)
  | _ => cases y <;> exact .inr (eq_to o rx ry q ha)
theorem j_ne (hu : X.A.units + 64 < cLine) : OpJ X (compareOp .NotEq) gNe := by
  refine ⟨_, op_ne.or (op_neD hu), fun {μ H S x y v u Q R} o rx ry q ha => ?_⟩
  cases x with
  | str a =>
    cases y with
    | str b =>
      refine .inl ?_
      rw [rv_str.mp rx, rv_str.mp ry]
      exact ⟨rfl, by rw [v_str]; exact ha.here o q (rv_bl.mpr rfl)⟩
    | _ => exact .inr (ne_to o rx ry q ha)
  | _ => cases y <;> exact .inr (ne_to o rx ry q ha)
/-- is None, is not None; is True -/
def isN : D → Bool
  | .non => true
  | _ => false
theorem isN_v {K : PySem.W.Frag} {H : Hp} {μ : Mu} {v : V} {d : D} (r : RV K H μ v d) : decide (v = .non) = isN d := by
  cases d with
  | non => rw [rv_non.mp r]; rfl
  | bl _ => rw [rv_bl.mp r]; rfl
  | int _ => rw [rv_int.mp r]; rfl
  | str _ => rw [rv_str.mp r]; rfl
  | ty _ => rw [rv_ty.mp r]; rfl
  | tup _ => obtain ⟨a, vs, rfl, _⟩ := rv_tup.mp r; rfl
  | rol _ => obtain ⟨a, vs, rfl, _⟩ := rv_rol.mp r; rfl
  | fro _ => obtain ⟨a, vs, rfl, _⟩ := rv_fro.mp r; rfl
  | loc _ => obtain ⟨a, rfl, _⟩ := rv_loc.mp r; rfl
def gIsN : G2 := fun x y S Q => match y with
  | .non => Q (.bl (isN x)) S
  | _ => False
def gNotN : G2 := fun x y S Q => match y with
  | .non => Q (.bl (!isN x)) S
  | _ => False
theorem j_isN : OpJ X (compareOp .Is) gIsN := by
  refine ⟨_, op_isN, fun {μ H S x y v u Q R} o rx ry q ha => ?_⟩
  cases y with
  | non => exact ⟨rv_non.mp ry, by rw [isN_v rx]; exact ha.here o q (rv_bl.mpr rfl)⟩
  | _ => exact q.elim
theorem j_notN : OpJ X (compareOp .IsNot) gNotN := by
  refine ⟨_, op_notN, fun {μ H S x y v u Q R} o rx ry q ha => ?_⟩
  cases y with
  | non => exact ⟨rv_non.mp ry, by rw [isN_v rx]; exact ha.here o q (rv_bl.mpr rfl)⟩
  | _ => exact q.elim
def gIsB : G2 := fun x y S Q => match x, y with
  | .bl a, .bl b => Q (.bl (decide (a = b))) S
  | _, _ => False
def gNotB : G2 := fun x y S Q => match x, y with
  | .bl a, .bl b => Q (.bl (!decide (a = b))) S
  | _, _ => False
theorem j_isB : OpJ X (compareOp .Is) gIsB := by
  refine ⟨_, op_isBl, fun {μ H S x y v u Q R} o rx ry q ha => ?_⟩
  cases x with
  | bl a =>
    cases y with
    | bl b => exact ⟨a, b, rv_bl.mp rx, rv_bl.mp ry, ha.here o q (rv_bl.mpr rfl)⟩
    | _ => exact q.elim
  | _ => cases y <;> exact q.elim
theorem j_notB : OpJ X (compareOp .IsNot) gNotB := by
  refine ⟨_, op_notBl, fun {μ H S x y v u Q R} o rx ry q ha => ?_⟩
  cases x with
  | bl a =>
    cases y with
    | bl b => exact ⟨a, b, rv_bl.mp rx, rv_bl.mp ry, ha.here o q (rv_bl.mpr rfl)⟩
    | _ => exact q.elim
  | _ => cases y <;> exact q.elim
/-! ## subscripts -/
def gIx : G2 := fun x y S Q => match x, y with
  | .tup ds, .int i => ∃ d, atI ds i = some d ∧ Q d S
  | x, .int i => ∃ ds d, rdL S x = some ds ∧ atI ds i = some d ∧ Q d S
  | _, _ => False
theorem atI_rv {K : PySem.W.Frag} {H : Hp} {μ : Mu} {vs : List V} {ds : List D} {i : Int} {d : D} (r : RVs K H μ vs ds) (h : atI ds i = some d) : ∃ v, atI vs i = some v ∧ RV K H μ v d := by
  unfold atI at h ⊢
  rw [r.length]
  cases e : ixN ds.length i with
  | none => rw [e] at h; cases h
  | some j =>
    rw [e] at h
    exact r.get h
structure IxJ (X : Cx) (g : G2) : Prop where
  ex : ∃ r : R2, IxR X r ∧ Op2 X.K r g
theorem je_ix {a b : Expr} {wa wb : WE} {pos : Pos} {g : G2} (h : IxJ X g) (ha : JE X a wa) (hb : JE X b wb) (hs : PlainIx b := by intro _ _; rfl) : JE X (.Subscript a b pos) (wOp g wa wb) := by
  obtain ⟨r, ho, hg⟩ := h.ex
  exact PE.imp (pe_ix ho ha hb hs) fun σ H R q => wOp_to hg q
theorem j_ix : IxJ X gIx := by
  refine ⟨_, ix_list.or ix_tup, fun {μ H S x y v u Q R} o rx ry q ha => ?_⟩
  have seq : ∀ {i : Int}, (∃ ds d, rdL S x = some ds ∧ atI ds i = some d ∧ Q d S) → RV X.K H μ u (.int i) → rIxL X.K v u H R := fun {i} ⟨ds, d, e, h1, q⟩ ry => by
    obtain ⟨a, vs, rfl, h2, r⟩ := rdL_ok o rx e
    obtain ⟨w, e2, r2⟩ := atI_rv r h1
    exact ⟨a, vs, i, w, rfl, rv_int.mp ry, h2, e2, ha.here o q r2⟩
  cases y with
  | int i =>
    cases x with
    | tup ds =>
      obtain ⟨d, h1, q⟩ := q
      obtain ⟨a, vs, rfl, h2, r⟩ := rv_tup.mp rx
      obtain ⟨w, e2, r2⟩ := atI_rv r h1
      exact .inr ⟨a, vs, i, w, rfl, rv_int.mp ry, h2.sq, e2, ha.here o q r2⟩
    | _ => exact .inl (seq q ry)
  | _ => cases x <;> exact q.elim
/-! ## slices -/
def cutD (ds : List D) (lo hi : Option Int) : List D := (ds.drop (HT.sIx ds.length 0 lo)).take (HT.sIx ds.length ds.length hi - HT.sIx ds.length 0 lo)
theorem cut_rv {K : PySem.W.Frag} {H : Hp} {μ : Mu} {vs : List V} {ds : List D} (r : RVs K H μ vs ds) (lo hi : Option Int) : RVs K H μ (cutV vs lo hi) (cutD ds lo hi) := by
  unfold cutV cutD
  rw [r.length]
  exact (r.drop _).take _
abbrev WO := Env → Sto → (Option Int → Sto → Prop) → Prop
def LO (K : PySem.W.Frag) (w : WO) : TO := fun σ H R => ∃ μ ρ S Q, Slots K H μ σ ρ ∧ StoOk K H μ S ∧ w ρ S Q ∧ ∀ o S', Q o S' → ∀ H' μ', Ext μ μ' H H' → StoOk K H' μ' S' → R o H'
def JO (X : Cx) (e : Option Expr) (w : WO) : Prop := PO X e (LO X.K w)
theorem PO.imp {e : Option Expr} {t t' : TO} (h : PO X e t) (f : ∀ σ H Q, t' σ H Q → t σ H Q) : PO X e t' := ⟨fun pins s σ H Q I q => h.run pins s σ H Q I (f σ H Q q)⟩
def wNo : WO := fun _ S Q => Q none S
def wSo (w : WE) : WO := fun ρ S Q => w ρ S fun d S1 => match d with
  | .int i => Q (some i) S1
  | _ => False
theorem jo_none : JO X none wNo := PO.imp po_none fun σ H R ⟨μ, ρ, S, Q, hs, ho, hw, ha⟩ => ha _ _ hw _ _ Ext.refl ho
theorem jo_some {e : Expr} {w : WE} (h : JE X e w) : JO X (some e) (wSo w) := by
  refine PO.imp (po_some h) fun σ H R ⟨μ, ρ, S, Q, hs, ho, hw, ha⟩ => ⟨μ, ρ, S, _, hs, ho, hw, fun d S1 q v H1 μ1 e1 o1 r1 => ?_⟩
  cases d with
  | int i => exact ⟨i, rv_int.mp r1, ha _ _ q _ _ e1 o1⟩
  | _ => exact q.elim
abbrev GS := D → Option Int → Option Int → Sto → QD → Prop
def wSl (g : GS) (w : WE) (lo hi : WO) : WE := fun ρ S Q => w ρ S fun x S1 => lo ρ S1 fun l S2 => hi ρ S2 fun u S3 => g x l u S3 Q
structure SlJ (X : Cx) (g : GS) : Prop where
  ex : ∃ r, SlR X r ∧ ∀ {μ : Mu} {H : Hp} {S : Sto} {x : D} {lo hi : Option Int} {v : V} {Q : QD} {R : VK}, StoOk X.K H μ S → RV X.K H μ v x → g x lo hi S Q → After X.K Q μ H R → r v lo hi H R
theorem je_slice {e : Expr} {w : WE} {lo hi : Option Expr} {wl wh : WO} {pos p2 : Pos} {g : GS} (h : SlJ X g) (he : JE X e w) (hl : JO X lo wl) (hh : JO X hi wh) : JE X (.Subscript e (.Slice lo hi none p2) pos) (wSl g w wl wh) := by
  obtain ⟨r, hr, hg⟩ := h.ex
  refine PE.imp (pe_slice hr he hl hh) fun σ H R ⟨μ, ρ, S, Q, hs, ho, hw, ha⟩ => ⟨μ, ρ, S, _, hs, ho, hw, fun x S1 q v H1 μ1 e1 o1 r1 => ?_⟩
  refine ⟨μ1, ρ, S1, _, hs.ext e1, o1, q, fun l S2 q2 H2 μ2 e2 o2 => ?_⟩
  refine ⟨μ2, ρ, S2, _, hs.ext (e1.trans e2), o2, q2, fun u S3 q3 H3 μ3 e3 o3 => ?_⟩
  exact hg o3 (RV.ext (e2.trans e3) x r1) q3 (ha.ext ((e1.trans e2).trans e3))
/-- a tuple's part, a list's part (a new plain list), a text's part -/
def gSl : GS := fun x lo hi S Q => match x with
  | .tup ds => Q (.tup (cutD ds lo hi)) S
  | .str z => z.length ≤ sizeLine ∧ Q (.str (cutS z lo hi)) S
  | x => ∃ ds, rdL S x = some ds ∧ Q (.rol (cutD ds lo hi)) S
theorem cutD_whole {ds : List D} {lo hi : Option Int} (h : HT.sIx ds.length 0 lo = 0 ∧ HT.sIx ds.length ds.length hi = ds.length) : cutD ds lo hi = ds := by
  unfold cutD
  rw [h.1, h.2]
  simp
theorem j_sl : SlJ X gSl := by
  refine ⟨_, sl_list.or (sl_tupA.or sl_str), fun {μ H S x lo hi v Q R} o rx q ha => ?_⟩
  have lst : (∃ ds, rdL S x = some ds ∧ Q (.rol (cutD ds lo hi)) S) → rSlL X.K v lo hi H R := fun ⟨ds, e, q⟩ => by
    obtain ⟨a, vs, rfl, h2, r⟩ := rdL_ok o rx e
    exact ⟨a, vs, rfl, h2, ha.rol o q (cut_rv r lo hi)⟩
  cases x with
  | tup ds =>
    obtain ⟨a, vs, rfl, h2, r⟩ := rv_tup.mp rx
    refine .inr (.inl ⟨a, vs, rfl, h2.sq, fun hw => ?_, fun hw => ha.tup o q (cut_rv r lo hi)⟩)
    rw [r.length] at hw
    have q' : Q (.tup (cutD ds lo hi)) S := q
    rw [cutD_whole hw] at q'
    exact ha.here o q' rx
  | str z => exact .inr (.inr ⟨z, rv_str.mp rx, q.1, ha.here o q.2 (rv_str.mpr rfl)⟩)
  | _ => exact .inl (lst q)
/-- xs[::-1] of a list -/
def wRev (w : WE) : WE := fun ρ S Q => w ρ S fun x S1 => ∃ ds, rdL S1 x = some ds ∧ Q (.rol ds.reverse) S1
def wRevL (w : WE) : WE := fun ρ S Q => w ρ S fun x S1 => ∃ ds, rdL S1 x = some ds ∧ Q (.loc S1.length) (S1 ++ [.lst ds.reverse])
theorem je_rev {e : Expr} {w : WE} {k : Nat} {p1 p2 p3 pos : Pos} (he : JE X e w) : JE X (.Subscript e (.Slice none none (some (.UnaryOp .USub (.Constant (.int 1) k p1) p2)) p3) pos) (wRev w) := by
  refine PE.imp (pe_revL he) fun σ H R ⟨μ, ρ, S, Q, hs, ho, hw, ha⟩ => ⟨μ, ρ, S, _, hs, ho, hw, fun x S1 ⟨ds, e1, q⟩ v H1 μ1 x1 o1 r1 => ?_⟩
  obtain ⟨a, vs, rfl, h2, r⟩ := rdL_ok o1 r1 e1
  exact ⟨a, vs, rfl, h2, (ha.ext x1).rol o1 q r.reverse⟩
theorem je_revL {e : Expr} {w : WE} {k : Nat} {p1 p2 p3 pos : Pos} (he : JE X e w) : JE X (.Subscript e (.Slice none none (some (.UnaryOp .USub (.Constant (.int 1) k p1) p2)) p3) pos) (wRevL w) := by
  refine PE.imp (pe_revL he) fun σ H R ⟨μ, ρ, S, Q, hs, ho, hw, ha⟩ => ⟨μ, ρ, S, _, hs, ho, hw, fun x S1 ⟨ds, e1, q⟩ v H1 μ1 x1 o1 r1 => ?_⟩
  obtain ⟨a, vs, rfl, h2, r⟩ := rdL_ok o1 r1 e1
  exact ⟨a, vs, rfl, h2, (ha.ext x1).lst o1 q r.reverse⟩
end
end DL
namespace DL
open PySem PySem.Spec L2
open PyProof.Rows hiding St
section
variable {X : Cx} {st : Stmt} {rest : List Stmt} {e : Expr} {we : WE} {w w1 w2 : WS} {pos : Pos}
/-! ## blocks -/
def sNext : WS := fun E ρ S => E.nx ρ S
def sSeq (w1 w2 : WS) : WS := fun E ρ S => w1 { E with nx := fun ρ' S' => w2 E ρ' S' } ρ S
theorem jss_nil : JSs X [] sNext := PSs.imp pss_nil fun R σ H ⟨μ, ρ, S, E, hs, ho, hw, ha⟩ => ha.nx _ _ hw _ _ _ Ext.refl hs ho
theorem jss_cons (h1 : JS X st w1) (h2 : JSs X rest w2) : JSs X (st :: rest) (sSeq w1 w2) := by
  refine PSs.imp (pss_cons h1 h2) fun R σ H ⟨μ, ρ, S, E, hs, ho, hw, ha⟩ => ⟨μ, ρ, S, _, hs, ho, hw, ?_, ha.rt, ha.bk, ha.ct⟩
  exact fun ρ' S' q σ' H' μ' e' s' o' => ⟨μ', ρ', S', E, s', o', q, ha.ext e'⟩
theorem jss_one (h1 : JS X st w1) : JSs X [st] w1 := pss_one h1
def sBreak : WS := fun E ρ S => E.bk ρ S
def sCont : WS := fun E ρ S => E.ct ρ S
theorem js_pass : JS X (.Pass pos) sNext := PS.imp ps_pass fun R σ H ⟨μ, ρ, S, E, hs, ho, hw, ha⟩ => ha.nx _ _ hw _ _ _ Ext.refl hs ho
theorem js_break : JS X (.Break pos) sBreak := PS.imp ps_break fun R σ H ⟨μ, ρ, S, E, hs, ho, hw, ha⟩ => ha.bk _ _ hw _ _ _ Ext.refl hs ho
theorem js_cont : JS X (.Continue pos) sCont := PS.imp ps_continue fun R σ H ⟨μ, ρ, S, E, hs, ho, hw, ha⟩ => ha.ct _ _ hw _ _ _ Ext.refl hs ho
def sExpr (we : WE) : WS := fun E ρ S => we ρ S fun _ S1 => E.nx ρ S1
theorem js_expr (he : JE X e we) (hs : swapsWith e none pos.line X.env = pure false := by rfl) : JS X (.Expr e pos) (sExpr we) :=
  PS.imp (ps_expr he hs) fun R σ H ⟨μ, ρ, S, E, hs, ho, hw, ha⟩ => ⟨μ, ρ, S, _, hs, ho, hw, fun d S1 q v H1 μ1 e1 o1 r1 => ha.nx _ _ q _ _ _ e1 (hs.ext e1) o1⟩
def sRet (we : WE) : WS := fun E ρ S => we ρ S E.rt
theorem js_ret (he : JE X e we) : JS X (.Return (some e) pos) (sRet we) :=
  PS.imp (ps_ret he) fun R σ H ⟨μ, ρ, S, E, hs, ho, hw, ha⟩ => ⟨μ, ρ, S, _, hs, ho, hw, ha.rt⟩
def sRetN : WS := fun E ρ S => E.rt .non S
theorem js_retN : JS X (.Return none pos) sRetN := PS.imp ps_retN fun R σ H ⟨μ, ρ, S, E, hs, ho, hw, ha⟩ => ha.rt.here ho hw (rv_non.mpr rfl)
def sIf (c : WT) (a b : WS) : WS := fun E ρ S => c ρ S fun k S1 => if k = true then a E ρ S1 else b E ρ S1
theorem js_if {c : Expr} {wc : WT} {a b : List Stmt} {wa wb : WS} (hc : JT X c wc) (ha : JSs X a wa) (hb : JSs X b wb) : JS X (.If c a b pos) (sIf wc wa wb) := by
  refine PS.imp (ps_if hc ha hb) fun R σ H ⟨μ, ρ, S, E, hs, ho, hw, ha⟩ => ⟨μ, ρ, S, _, hs, ho, hw, fun k S1 q H1 μ1 e1 o1 => ?_⟩
  cases k with
  | true => rw [if_pos rfl]; exact ⟨μ1, ρ, S1, E, hs.ext e1, o1, q, ha.ext e1⟩
  | false => rw [if_neg Bool.false_ne_true]; exact ⟨μ1, ρ, S1, E, hs.ext e1, o1, q, ha.ext e1⟩
/-- what the proof never comes to -/
def sNever : WS := fun _ _ _ => False
theorem js_never : JS X st sNever := PS.imp ps_never fun R σ H ⟨μ, ρ, S, E, hs, ho, hw, ha⟩ => hw
theorem jss_never {ss : List Stmt} : JSs X ss sNever := PSs.imp pss_never fun R σ H ⟨μ, ρ, S, E, hs, ho, hw, ha⟩ => hw
/-! ## stores -/
def gName (i : Nat) : WG := fun d ρ S q => q (ρ.set i (some d)) S
theorem jg_name (i : Nat) {x : Str} (hN : X.N.Nodup) (hi : X.N[i]? = some x := by rfl) (hx : Loc X.env.scope x := by first | exact Or.inl rfl | exact Or.inr rfl) (hf : X.fn x = true ∨ X.env.scope.names.lookup x = some .local := by first | exact .inl rfl | exact .inr rfl) : JG X (.Name x pos) (gName i) :=
  PG.imp (pg_name hN hi hx hf) fun v σ H R ⟨μ, ρ, S, d, q, hs, ho, r, hw, ha⟩ => ha _ _ hw _ _ _ Ext.refl (hs.set r) ho
def gsNil : WGs := fun ds ρ S q => match ds with
  | [] => q ρ S
  | _ => False
def gsCons (g : WG) (gs : WGs) : WGs := fun ds ρ S q => match ds with
  | d :: r => g d ρ S fun ρ' S' => gs r ρ' S' q
  | _ => False
theorem jgs_nil : JGs X [] gsNil := by
  refine PGs.imp pgs_nil fun vs σ H R ⟨μ, ρ, S, ds, q, hs, ho, r, hw, ha⟩ => ?_
  cases ds with
  | nil => rw [RVs] at r; exact ⟨r, ha _ _ hw _ _ _ Ext.refl hs ho⟩
  | cons _ _ => exact hw.elim
theorem jgs_cons {es : List Expr} {g : WG} {gs : WGs} (h1 : JG X e g) (h2 : JGs X es gs) (hs : (assignEach (e :: es) X.env).map (·.2) = assign e X.env :: (assignEach es X.env).map (·.2) := by rfl) : JGs X (e :: es) (gsCons g gs) := by
  refine PGs.imp (pgs_cons h1 h2 hs) fun vs σ H R ⟨μ, ρ, S, ds, q, hs, ho, r, hw, ha⟩ => ?_
  cases ds with
  | nil => exact hw.elim
  | cons d ds =>
    rw [RVs] at r
    obtain ⟨v, vr, rfl, r1, r2⟩ := r
    refine ⟨v, vr, rfl, μ, ρ, S, d, _, hs, ho, r1, hw, fun ρ' S' q' σ' H' μ' e' s' o' => ?_⟩
    exact ⟨μ', ρ', S', ds, q, s', o', RVs.ext e' ds r2, q', ha.ext e'⟩
def gTup (n : Nat) (gs : WGs) : WG := fun d ρ S q => match d with
  | .tup ds => ds.length = n ∧ gs ds ρ S q
  | _ => False
theorem jg_tup {es : List Expr} {k : Nat} {gs : WGs} {n : Nat} (hc : X.calm = true) (h : JGs X es gs) (hn : (assignEach es X.env).length = n := by rfl) (hst : (assignEach es X.env).findIdx? (·.1) = none := by rfl) : JG X (.Tuple es k pos) (gTup n gs) := by
  refine PG.imp (pg_tup hc h hn hst) fun v σ H R ⟨μ, ρ, S, d, q, hs, ho, r, hw, ha⟩ => ?_
  cases d with
  | tup ds =>
    obtain ⟨a, vs, rfl, h1, r1⟩ := rv_tup.mp r
    exact ⟨a, vs, rfl, h1.sq, by rw [r1.length]; exact hw.1, μ, ρ, S, ds, q, hs, ho, r1, hw.2, ha⟩
  | _ => exact hw.elim
def sAsg (we : WE) (g : WG) : WS := fun E ρ S => we ρ S fun d S1 => g d ρ S1 E.nx
theorem asg_to {tg : Expr} {g : WG} {σ : St} {H : Hp} {R : Ends} (h : LS X.K (sAsg we g) R σ H) : tAsg (LE X.K we) (LG X.K g) R σ H := by
  obtain ⟨μ, ρ, S, E, hs, ho, hw, ha⟩ := h
  exact ⟨μ, ρ, S, _, hs, ho, hw, fun d S1 q v H1 μ1 e1 o1 r1 => ⟨μ1, ρ, S1, d, _, hs.ext e1, o1, r1, q, ha.nx.ext e1⟩⟩
theorem js_asg {tg : Expr} {g : WG} (he : JE X e we) (hg : JG X tg g) (hs : swapsWithSole [tg] e pos.line X.env = pure false := by rfl) (hw : swappedStores [tg] e X.env = pure none := by rfl)
    (h1 : (assignEach [tg] X.env).map (·.2) = [assign tg X.env] := by rfl) : JS X (.Assign [tg] e pos) (sAsg we g) :=
  PS.imp (ps_asg he hg hs hw h1) fun R σ H h => asg_to (tg := tg) h
theorem js_set (i : Nat) {x : Str} {pos' : Pos} (hN : X.N.Nodup) (he : JE X e we) (hi : X.N[i]? = some x := by rfl) (hx : Loc X.env.scope x := by first | exact Or.inl rfl | exact Or.inr rfl) (hs : swapsWith e (some (.Name x pos')) pos.line X.env = pure false := by rfl)
    (hf : X.fn x = true ∨ X.env.scope.names.lookup x = some .local := by first | exact .inl rfl | exact .inr rfl) : JS X (.Assign [.Name x pos'] e pos) (sAsg we (gName i)) := by
  refine PS.imp (ps_set hN hi hx he hs hf) fun R σ H ⟨μ, ρ, S, E, hs, ho, hw, ha⟩ => ⟨μ, ρ, S, _, hs, ho, hw, fun d S1 q v H1 μ1 e1 o1 r1 => ?_⟩
  exact ha.nx _ _ q _ _ _ e1 ((hs.ext e1).set r1) o1
/-- a, b = x, y; three -/
def sPar2 (i j : Nat) (wl : WA) : WS := fun E ρ S => wl ρ S fun ds S1 => match ds with
  | [a, b] => E.nx ((ρ.set i (some a)).set j (some b)) S1
  | _ => False
def sPar3 (i j l : Nat) (wl : WA) : WS := fun E ρ S => wl ρ S fun ds S1 => match ds with
  | [a, b, c] => E.nx (((ρ.set i (some a)).set j (some b)).set l (some c)) S1
  | _ => False
theorem js_par2 (i j : Nat) {x y : Str} {a b : Expr} {wl : WA} {px py pt : Pos} {kt k2 : Nat} {pt2 : Pos} (hc : X.calm = true) (hN : X.N.Nodup) (ha : JA X [a, b] wl)
    (hi : X.N[i]? = some x := by rfl) (hj : X.N[j]? = some y := by rfl) (hij : i ≠ j := by decide)
    (hx : X.env.scope.names.lookup x = some .local := by rfl) (hy : X.env.scope.names.lookup y = some .local := by rfl)
    (hw : swappedStores [.Tuple [.Name x px, .Name y py] kt pt] (.Tuple [a, b] k2 pt2) X.env = pure (some [x, y]) := by rfl)
    (hs : swapsWithSole [.Tuple [.Name x px, .Name y py] kt pt] (.Tuple [a, b] k2 pt2) pos.line X.env = pure false := by rfl) :
    JS X (.Assign [.Tuple [.Name x px, .Name y py] kt pt] (.Tuple [a, b] k2 pt2) pos) (sPar2 i j wl) := by
  refine PS.imp (ps_par hc hN hi hj hij hx hy ha hw hs) fun R σ H ⟨μ, ρ, S, E, hs, ho, hw, ha⟩ => ⟨μ, ρ, S, _, hs, ho, hw, fun ds S1 q vs H1 μ1 e1 o1 r1 => ?_⟩
  match ds, q with
  | [a, b], q =>
    rw [RVs] at r1
    obtain ⟨v, r, rfl, r2, r3⟩ := r1
    rw [RVs] at r3
    obtain ⟨u, r, rfl, r4, r5⟩ := r3
    rw [RVs] at r5
    subst r5
    exact ⟨v, u, rfl, ha.nx _ _ q _ _ _ e1 (((hs.ext e1).set r2).set r4) o1⟩
  | [], q => exact q.elim
  | [_], q => exact q.elim
  | _ :: _ :: _ :: _, q => exact q.elim
theorem js_par3 (i j l : Nat) {x y z : Str} {a b c : Expr} {wl : WA} {px py pz pt : Pos} {kt k2 : Nat} {pt2 : Pos} (hc : X.calm = true) (hN : X.N.Nodup) (ha : JA X [a, b, c] wl)
    (hi : X.N[i]? = some x := by rfl) (hj : X.N[j]? = some y := by rfl) (hl : X.N[l]? = some z := by rfl) (hij : i ≠ j := by decide) (hil : i ≠ l := by decide) (hjl : j ≠ l := by decide)
    (hx : X.env.scope.names.lookup x = some .local := by rfl) (hy : X.env.scope.names.lookup y = some .local := by rfl) (hz : X.env.scope.names.lookup z = some .local := by rfl)
    (hw : swappedStores [.Tuple [.Name x px, .Name y py, .Name z pz] kt pt] (.Tuple [a, b, c] k2 pt2) X.env = pure (some [x, y, z]) := by rfl)
    (hs : swapsWithSole [.Tuple [.Name x px, .Name y py, .Name z pz] kt pt] (.Tuple [a, b, c] k2 pt2) pos.line X.env = pure false := by rfl) :
    JS X (.Assign [.Tuple [.Name x px, .Name y py, .Name z pz] kt pt] (.Tuple [a, b, c] k2 pt2) pos) (sPar3 i j l wl) := by
  refine PS.imp (ps_par3 hc hN hi hj hl hij hil hjl hx hy hz ha hw hs) fun R σ H ⟨μ, ρ, S, E, hs, ho, hw, ha⟩ => ⟨μ, ρ, S, _, hs, ho, hw, fun ds S1 q vs H1 μ1 e1 o1 r1 => ?_⟩
  match ds, q with
  | [a, b, c], q =>
    rw [RVs] at r1
    obtain ⟨v, r, rfl, r2, r3⟩ := r1
    rw [RVs] at r3
    obtain ⟨u, r, rfl, r4, r5⟩ := r3
    rw [RVs] at r5
    obtain ⟨t, r, rfl, r6, r7⟩ := r5
    rw [RVs] at r7
    subst r7
    exact ⟨v, u, t, rfl, ha.nx _ _ q _ _ _ e1 ((((hs.ext e1).set r2).set r4).set r6) o1⟩
  | [], q => exact q.elim
  | [_], q => exact q.elim
  | [_, _], q => exact q.elim
  | _ :: _ :: _ :: _ :: _, q => exact q.elim
/-- name op= e -/
def sAug (i : Nat) (g : G2) (we : WE) : WS := fun E ρ S => match ρ[i]? with
  | some (some x) => we ρ S fun y S1 => g x y S1 fun z S2 => E.nx (ρ.set i (some z)) S2
  | _ => False
structure IpJ (X : Cx) (op : Operator) (g : G2) : Prop where
  ex : ∃ r, PIp X op r ∧ Op2 X.K r g
theorem js_aug (i : Nat) {x : Str} {op : Operator} {g : G2} {pos' : Pos} (hN : X.N.Nodup) (h : IpJ X op g) (he : JE X e we) (hi : X.N[i]? = some x := by rfl) (hx : Loc X.env.scope x := by first | exact Or.inl rfl | exact Or.inr rfl)
    (hf : X.fn x = true ∨ X.env.scope.names.lookup x = some .local := by first | exact .inl rfl | exact .inr rfl) : JS X (.AugAssign (.Name x pos') op e pos) (sAug i g we) := by
  obtain ⟨r, h1, h2⟩ := h.ex
  refine PS.imp (ps_aug hN hi hx he h1 hf) fun R σ H ⟨μ, ρ, S, E, hs, ho, hw, ha⟩ => ?_
  unfold sAug at hw
  split at hw
  · rename_i d ed
    obtain ⟨v, ev, rv⟩ := hs.get _ _ ed
    refine ⟨v, ev, μ, ρ, S, _, hs, ho, hw, fun y S1 q u H1 μ1 e1 o1 r1 => ?_⟩
    exact h2 o1 (RV.ext e1 d rv) r1 q fun z S2 q2 w H2 μ2 e2 o2 r2 => ha.nx _ _ q2 _ _ _ (e1.trans e2) ((hs.ext (e1.trans e2)).set r2) o2
  · exact hw.elim
theorem ipj_add : IpJ X .Add (gI0 fun i j => .int (i + j)) := by
  refine ⟨_, ip_add, fun {μ H S x y v u Q R} o rx ry q ha => ?_⟩
  cases x with
  | int i =>
    cases y with
    | int j => exact ⟨i, j, rv_int.mp rx, rv_int.mp ry, ha.here o q (rv_int.mpr rfl)⟩
    | _ => exact q.elim
  | _ => cases y <;> exact q.elim
theorem ipj_sub : IpJ X .Sub (gI0 fun i j => .int (i - j)) := by
  refine ⟨_, ip_sub, fun {μ H S x y v u Q R} o rx ry q ha => ?_⟩
  cases x with
  | int i =>
    cases y with
    | int j => exact ⟨i, j, rv_int.mp rx, rv_int.mp ry, ha.here o q (rv_int.mpr rfl)⟩
    | _ => exact q.elim
  | _ => cases y <;> exact q.elim
/-! ## while -/
def sWhile (c : WT) (b : WS) : WS := fun E ρ S => ∃ I : Nat → Env → Sto → Prop, (∃ m, I m ρ S) ∧ ∀ m ρ S, I m ρ S →
  c ρ S fun k S1 => if k = true then b { nx := fun ρ' S' => ∃ m', m' < m ∧ I m' ρ' S', rt := E.rt, bk := E.nx, ct := fun ρ' S' => ∃ m', m' < m ∧ I m' ρ' S' } ρ S1 else E.nx ρ S1
theorem js_while {c : Expr} {body : List Stmt} {wc : WT} {wb : WS} (hp : PassesOwn (model X.prog X.w) X.A X.env X.xe) (hc : JT X c wc) (hb : JSs X body wb) : JS X (.While c body [] pos) (sWhile wc wb) := by
  refine PS.imp (ps_while hp hc hb) fun R σ H ⟨μ, ρ, S, E, hs, ho, ⟨I, ⟨n, hw⟩, turn⟩, ha⟩ => ?_
  refine ⟨fun m σ' H' => ∃ μ' ρ' S', Ext μ μ' H H' ∧ Slots X.K H' μ' σ' ρ' ∧ StoOk X.K H' μ' S' ∧ I m ρ' S', ⟨n, μ, ρ, S, Ext.refl, hs, ho, hw⟩, ?_⟩
  rintro m σ1 H1 ⟨μ1, ρ1, S1, e1, s1, o1, w1⟩
  refine ⟨μ1, ρ1, S1, _, s1, o1, turn m ρ1 S1 w1, fun k S2 q H2 μ2 e2 o2 => ?_⟩
  cases k with
  | true =>
    rw [if_pos rfl] at q ⊢
    refine ⟨fun σ' H' => ∃ m', m' < m ∧ ∃ μ' ρ' S', Ext μ μ' H H' ∧ Slots X.K H' μ' σ' ρ' ∧ StoOk X.K H' μ' S' ∧ I m' ρ' S', fun σ' H' z => z, ?_⟩
    refine ⟨μ2, ρ1, S2, _, s1.ext e2, o2, q, ?_, ha.rt.ext (e1.trans e2), ha.nx.ext (e1.trans e2), ?_⟩
    · exact fun ρ' S' ⟨m', hm, q'⟩ σ' H' μ' e' s' o' => ⟨m', hm, μ', ρ', S', (e1.trans e2).trans e', s', o', q'⟩
    · exact fun ρ' S' ⟨m', hm, q'⟩ σ' H' μ' e' s' o' => ⟨m', hm, μ', ρ', S', (e1.trans e2).trans e', s', o', q'⟩
  | false =>
    rw [if_neg Bool.false_ne_true] at q ⊢
    exact ha.nx _ _ q _ _ _ (e1.trans e2) (s1.ext e2) o2
/-! ## what is walked -/
/-- lists that must stand still while they are walked -/
abbrev Gd := List (Nat × Cell)
def Gd.ok (g : Gd) (S : Sto) : Prop := ∀ p ∈ g, S[p.1]? = some p.2
abbrev WI := Env → Sto → (List D → Gd → Sto → Prop) → Prop
/-- the iterator J yields ds while the guard stands -/
def ItOk (K : PySem.W.Frag) (J : It) (ds : List D) (g : Gd) (μ : Mu) (H : Hp) : Prop :=
  ∀ μ' H' S', Mv H H' μ μ' → StoOk K H' μ' S' → g.ok S' → ∀ i,
    (∀ d, ds[i]? = some d → J.go i H' ∧ ∀ x H2, J.yld i H' x H2 → Ext μ' μ' H' H2 ∧ StoOk K H2 μ' S' ∧ RV K H2 μ' x d) ∧ (ds.length ≤ i → J.stop i H')
theorem ItOk.ext {K : PySem.W.Frag} {J : It} {ds : List D} {g : Gd} {μ μ1 : Mu} {H H1 : Hp} (h : ItOk K J ds g μ H) (e : Ext μ μ1 H H1) : ItOk K J ds g μ1 H1 :=
  fun μ' H' S' e' => h μ' H' S' (e.mv.trans e')
def LI (K : PySem.W.Frag) (w : WI) : TI := fun σ H R => ∃ μ ρ S Q, Slots K H μ σ ρ ∧ StoOk K H μ S ∧ w ρ S Q ∧
  ∀ ds g S', Q ds g S' → ∀ J H' μ', Ext μ μ' H H' → StoOk K H' μ' S' → ItOk K J ds g μ' H' → R J H'
def JI (X : Cx) (tg iter : Expr) (w : WI) : Prop := PI X tg iter (LI X.K w)
theorem PI.imp {tg iter : Expr} {t t' : TI} (h : PI X tg iter t) (f : ∀ σ H Q, t' σ H Q → t σ H Q) : PI X tg iter t' := ⟨fun pins s σ H Q I q => h.run pins s σ H Q I (f σ H Q q)⟩
/-- a list or a tuple -/
def wIt (w : WE) : WI := fun ρ S Q => w ρ S fun x S1 => match x with
  | .rol ds => Q ds [] S1
  | .fro ds => Q ds [] S1
  | .loc n => ∃ ds, S1[n]? = some (.lst ds) ∧ Q ds [(n, .lst ds)] S1
  | _ => False
def wItT (w : WE) : WI := fun ρ S Q => w ρ S fun x S1 => match x with
  | .tup ds => Q ds [] S1
  | _ => False
theorem it_list {K : PySem.W.Frag} {a : Addr} {ds : List D} {g : Gd} {μ : Mu} {H : Hp} (h : ∀ μ' H' S', Mv H H' μ μ' → StoOk K H' μ' S' → g.ok S' → ∃ vs, SqL K H' a vs ∧ RVs K H' μ' vs ds) : ItOk K (Itl K a) ds g μ H := by
  intro μ' H' S' e' o' hg i
  obtain ⟨vs, hq, r⟩ := h μ' H' S' e' o' hg
  refine ⟨fun d hd => ?_, fun hl => ⟨vs, hq, by rw [r.length]; exact hl⟩⟩
  obtain ⟨v, hv, rv⟩ := r.get hd
  refine ⟨⟨vs, v, hq, hv⟩, fun x H2 ⟨e2, y⟩ => ?_⟩
  subst e2
  have := y vs hq
  rw [hv] at this; cases this
  exact ⟨Ext.refl, o', rv⟩
theorem ji_list {tg : Expr} (he : JE X e we) : JI X tg e (wIt we) := by
  refine PI.imp (pi_list he) fun σ H R ⟨μ, ρ, S, Q, hs, ho, hw, ha⟩ => ⟨μ, ρ, S, _, hs, ho, hw, fun d S1 q v H1 μ1 e1 o1 r1 => ?_⟩
  cases d with
  | rol ds =>
    obtain ⟨a, vs, rfl, h1, r⟩ := rv_rol.mp r1
    exact ⟨a, rfl, ⟨vs, h1.sq⟩, ha _ _ _ q _ _ _ e1 o1 (it_list fun μ' H' S' e' o' _ => ⟨vs, (e'.lst h1).sq, RVs.move e' ds r⟩)⟩
  | fro ds =>
    obtain ⟨a, vs, rfl, h1, r⟩ := rv_fro.mp r1
    exact ⟨a, rfl, ⟨vs, h1.sq⟩, ha _ _ _ q _ _ _ e1 o1 (it_list fun μ' H' S' e' o' _ => ⟨vs, (e'.fro h1).sq, RVs.move e' ds r⟩)⟩
  | loc n =>
    obtain ⟨ds, hc, q⟩ := q
    obtain ⟨a, rfl, h1⟩ := rv_loc.mp r1
    obtain ⟨vs, h2, r⟩ := o1.addr hc h1
    refine ⟨a, rfl, ⟨vs, .inl (.inl h2)⟩, ha _ _ _ q _ _ _ e1 o1 (it_list fun μ' H' S' e' o' hg => ?_)⟩
    obtain ⟨us, h3, r3⟩ := o'.addr (hg (n, .lst ds) (by simp)) (e'.lo _ _ h1)
    exact ⟨us, .inl (.inl h3), r3⟩
  | _ => exact q.elim
theorem ji_tup {tg : Expr} (he : JE X e we) : JI X tg e (wItT we) := by
  refine PI.imp (pi_tup he) fun σ H R ⟨μ, ρ, S, Q, hs, ho, hw, ha⟩ => ⟨μ, ρ, S, _, hs, ho, hw, fun d S1 q v H1 μ1 e1 o1 r1 => ?_⟩
  cases d with
  | tup ds =>
    obtain ⟨a, vs, rfl, h1, r⟩ := rv_tup.mp r1
    refine ⟨a, rfl, ⟨vs, h1.sq⟩, ha _ _ _ q _ _ _ e1 o1 fun μ' H' S' e' o' hg i => ?_⟩
    have r' := RVs.move e' ds r
    refine ⟨fun d hd => ?_, fun hl => ⟨vs, (e'.tup h1).sq, by rw [r.length]; exact hl⟩⟩
    obtain ⟨v, hv, rv⟩ := r'.get hd
    refine ⟨⟨vs, v, (e'.tup h1).sq, hv⟩, fun x H2 ⟨e2, y⟩ => ?_⟩
    subst e2
    have := y vs (e'.tup h1).sq
    rw [hv] at this; cases this
    exact ⟨Ext.refl, o', rv⟩
  | _ => exact q.elim
/-- range -/
def intsD (lo : Int) (n : Nat) : List D := (List.range n).map fun (i : Nat) => D.int (lo + i)
theorem it_range {K : PySem.W.Frag} {lo : Int} {n : Nat} {μ : Mu} {H : Hp} : ItOk K (Itr lo n) (intsD lo n) [] μ H := by
  intro μ' H' S' e' o' hg i
  have hl : (intsD lo n).length = n := by simp [intsD]
  refine ⟨fun d hd => ?_, fun h => by rw [hl] at h; exact h⟩
  have hi : i < n := by rw [← hl]; exact (List.getElem?_eq_some_iff.mp hd).1
  refine ⟨hi, fun x H2 ⟨e2, ex⟩ => ?_⟩
  subst e2
  have : d = .int (lo + i) := by
    simp [intsD, hi] at hd; exact hd.symm
  subst this
  exact ⟨Ext.refl, o', rv_int.mpr ex⟩
def wRng1 (wl : WA) : WI := fun ρ S Q => wl ρ S fun ds S1 => ∃ j, ds = [.int j] ∧ -(2 ^ 62) ≤ j ∧ j < 2 ^ 62 ∧ Q (intsD 0 j.toNat) [] S1
def wRng2 (wl : WA) : WI := fun ρ S Q => wl ρ S fun ds S1 => ∃ i j, ds = [.int i, .int j] ∧ (-(2 ^ 62) ≤ i ∧ i < 2 ^ 62 ∧ -(2 ^ 62) ≤ j ∧ j < 2 ^ 62) ∧ Q (intsD i (j - i).toNat) [] S1
theorem rvs_one {K : PySem.W.Frag} {H : Hp} {μ : Mu} {vs : List V} {a : D} (r : RVs K H μ vs [a]) : ∃ v, vs = [v] ∧ RV K H μ v a := by
  rw [RVs] at r
  obtain ⟨v, t, rfl, r1, r2⟩ := r
  rw [RVs] at r2
  subst r2
  exact ⟨v, rfl, r1⟩
theorem rvs_two {K : PySem.W.Frag} {H : Hp} {μ : Mu} {vs : List V} {a b : D} (r : RVs K H μ vs [a, b]) : ∃ v u, vs = [v, u] ∧ RV K H μ v a ∧ RV K H μ u b := by
  rw [RVs] at r
  obtain ⟨v, t, rfl, r1, r2⟩ := r
  obtain ⟨u, rfl, r3⟩ := rvs_one r2
  exact ⟨v, u, rfl, r1, r3⟩
theorem ji_range1 {tg a : Expr} {wl : WA} {p : Pos} (hg : Gl X "range") (hm : X.mg "range" = none) (ha : JA X [a] wl) (hs : starEach [a] X.env = [(false, eval a X.env)] := by rfl) : JI X tg (.Call (.Name "range" p) [a] [] pos) (wRng1 wl) := by
  refine PI.imp (pi_range1 hg hm ha hs) fun σ H R ⟨μ, ρ, S, Q, hs, ho, hw, ha⟩ => ⟨μ, ρ, S, _, hs, ho, hw, fun ds S1 q vs H1 μ1 e1 o1 r1 => ?_⟩
  obtain ⟨j, rfl, q⟩ := q
  · obtain ⟨v, rfl, r⟩ := rvs_one r1
    exact ⟨j, by rw [rv_int.mp r], q.1, q.2.1, ha _ _ _ q.2.2 _ _ _ e1 o1 it_range⟩
theorem ji_range2 {tg a b : Expr} {wl : WA} {p : Pos} (hg : Gl X "range") (hm : X.mg "range" = none) (ha : JA X [a, b] wl) (hs : starEach [a, b] X.env = [(false, eval a X.env), (false, eval b X.env)] := by rfl) (hs2 : starEach [b] X.env = [(false, eval b X.env)] := by rfl) :
    JI X tg (.Call (.Name "range" p) [a, b] [] pos) (wRng2 wl) := by
  refine PI.imp (pi_range2 hg hm ha hs hs2) fun σ H R ⟨μ, ρ, S, Q, hs, ho, hw, ha⟩ => ⟨μ, ρ, S, _, hs, ho, hw, fun ds S1 q vs H1 μ1 e1 o1 r1 => ?_⟩
  obtain ⟨i, j, rfl, q⟩ := q
  · obtain ⟨v, u, rfl, r, r'⟩ := rvs_two r1
    exact ⟨i, j, by rw [rv_int.mp r, rv_int.mp r'], q.1, ha _ _ _ q.2 _ _ _ e1 o1 it_range⟩
/-! ## for -/
def wFor (g : WG) (b : WS) (gd : Gd) (E : EndsD) : List D → Env → Sto → Prop
  | [], ρ, S => gd.ok S ∧ E.nx ρ S
  | d :: ds, ρ, S => gd.ok S ∧ g d ρ S fun ρ1 S1 => b { nx := wFor g b gd E ds, rt := E.rt, bk := E.nx, ct := wFor g b gd E ds } ρ1 S1
def sFor (wi : WI) (g : WG) (b : WS) : WS := fun E ρ S => wi ρ S fun ds gd S1 => wFor g b gd E ds ρ S1
theorem js_for {tg iter : Expr} {body : List Stmt} {wi : WI} {g : WG} {wb : WS} (hp : PassesOwn (model X.prog X.w) X.A X.env X.xe) (hc : X.calm = true) (hi : JI X tg iter wi) (hg : JG X tg g) (hb : JSs X body wb)
    (hs : ∀ x, foldedSetIterable iter X.env x = pure x := by intro _; rfl) : JS X (.For tg iter body [] pos) (sFor wi g wb) := by
  refine PS.imp (ps_for hp hc hi hg hb hs) fun R σ H ⟨μ, ρ, S, E, hs, ho, hw, ha⟩ => ⟨μ, ρ, S, _, hs, ho, hw, fun ds gd S1 q J H1 μ1 e1 o1 hJ => ?_⟩
  refine ⟨fun i m σ' H' => m = ds.length - i ∧ i ≤ ds.length ∧ ∃ μ' ρ' S', Ext μ1 μ' H1 H' ∧ Slots X.K H' μ' σ' ρ' ∧ StoOk X.K H' μ' S' ∧ wFor g wb gd E (ds.drop i) ρ' S', ⟨ds.length, by simp, Nat.zero_le _, μ1, ρ, S1, Ext.refl, hs.ext e1, o1, q⟩, ?_⟩
  rintro i m σ2 H2 ⟨rfl, hi, μ2, ρ2, S2, e2, s2, o2, w2⟩
  by_cases hlt : i < ds.length
  · rw [List.drop_eq_getElem_cons hlt] at w2
    obtain ⟨hgd, w2⟩ := w2
    obtain ⟨hgo, hy⟩ := (hJ μ2 H2 S2 e2.mv o2 hgd i).1 ds[i] (by simp [hlt])
    refine .inr ⟨hgo, fun σ' H' => ∃ μ' ρ' S', Ext μ1 μ' H1 H' ∧ Slots X.K H' μ' σ' ρ' ∧ StoOk X.K H' μ' S' ∧ wFor g wb gd E (ds.drop (i + 1)) ρ' S', fun σ' H' z => ⟨ds.length - (i + 1), by omega, rfl, hlt, z⟩, fun x H3 y => ?_⟩
    obtain ⟨e3, o3, r3⟩ := hy x H3 y
    refine ⟨μ2, ρ2, S2, ds[i], _, s2.ext e3, o3, r3, w2, fun ρ4 S4 q4 σ4 H4 μ4 e4 s4 o4 => ?_⟩
    have e14 := (e2.trans e3).trans e4
    refine ⟨μ4, ρ4, S4, _, s4, o4, q4, ?_, ha.rt.ext (e1.trans e14), ha.nx.ext (e1.trans e14), ?_⟩
    · exact fun ρ' S' q' σ' H' μ' e' s' o' => ⟨μ', ρ', S', e14.trans e', s', o', q'⟩
    · exact fun ρ' S' q' σ' H' μ' e' s' o' => ⟨μ', ρ', S', e14.trans e', s', o', q'⟩
  · have : i = ds.length := by omega
    subst this
    rw [List.drop_length] at w2
    exact .inl ⟨(hJ μ2 H2 S2 e2.mv o2 w2.1 _).2 (Nat.le_refl _), ha.nx _ _ w2.2 _ _ _ (e1.trans e2) s2 o2⟩
/-! ## comprehensions -/
def wipeD (ρ : Env) : List Nat → Env
  | [] => ρ
  | v :: vs => (wipeD ρ vs).set v none
theorem Slots.wipe {K : PySem.W.Frag} {H : Hp} {μ : Mu} {σ : St} {ρ : Env} (h : Slots K H μ σ ρ) : ∀ vs : List Nat, Slots K H μ (wipe σ vs) (wipeD ρ vs)
  | [] => h
  | _ :: vs => (Slots.wipe h vs).drop
abbrev WTs := WT
@[reducible] def JTs (X : Cx) (ifs : List Expr) (w : WT) : Prop := PTs X ifs (LT X.K w)
theorem PTs.imp {e : List Expr} {t t' : TT} (h : PTs X e t) (f : ∀ σ H Q, t' σ H Q → t σ H Q) : PTs X e t' := ⟨fun pins s σ H Q I q => h.run pins s σ H Q I (f σ H Q q)⟩
def wYes : WT := fun _ S Q => Q true S
theorem jts_nil : JTs X [] wYes := PTs.imp pts_nil fun σ H R ⟨μ, ρ, S, Q, hs, ho, hw, ha⟩ => ha _ _ hw _ _ Ext.refl ho
theorem jts_one {c : Expr} {w : WT} (h : JT X c w) : JTs X [c] w := pts_one h
theorem wipe_get {σ : St} : ∀ {vs : List Nat} {i : Nat}, i ∈ vs → i < σ.length → (wipe σ vs)[i]? = some none
  | v :: vs, i, h, hl => by
    unfold wipe
    by_cases e : v = i
    · subst e; rw [List.getElem?_set_self (by rw [wipe_length]; exact hl)]
    · rw [List.getElem?_set_ne e]
      exact wipe_get ((List.mem_cons.mp h).resolve_left fun z => e z.symm) hl
theorem wipe_other {σ : St} : ∀ {vs : List Nat} {i : Nat}, i ∉ vs → (wipe σ vs)[i]? = σ[i]?
  | [], _, _ => rfl
  | v :: vs, i, h => by
    unfold wipe
    rw [List.getElem?_set_ne (fun e => h (by rw [e]; exact List.mem_cons_self))]
    exact wipe_other fun m => h (List.mem_cons_of_mem _ m)
theorem wipe_same {σ σ' : St} {vs : List Nat} (hl : σ.length = σ'.length) (h : ∀ i, i ∉ vs → σ[i]? = σ'[i]?) : wipe σ vs = wipe σ' vs := by
  apply List.ext_getElem?
  intro i
  by_cases m : i ∈ vs
  · by_cases hi : i < σ.length
    · rw [wipe_get m hi, wipe_get m (by omega)]
    · rw [List.getElem?_eq_none (by rw [wipe_length]; omega), List.getElem?_eq_none (by rw [wipe_length]; omega)]
  · rw [wipe_other m, wipe_other m]; exact h i m
theorem wipe_wipe {σ : St} {vs : List Nat} : wipe (wipe σ vs) vs = wipe σ vs := wipe_same (wipe_length _ _) fun i h => wipe_other h
theorem wipe_set {σ : St} {vs : List Nat} {i : Nat} {x : Option V} (h : i ∈ vs) : wipe (σ.set i x) vs = wipe σ vs :=
  wipe_same (by rw [List.length_set]) fun j hj => List.getElem?_set_ne fun e => hj (by rw [← e]; exact h)
/-- a comprehension's target: it stores in its own places alone -/
structure OwnTg (K : PySem.W.Frag) (own : List Nat) (g : TG) (wg : WG) : Prop where
  run : ∀ {μ : Mu} {H : Hp} {S : Sto} {σ : St} {ρ : Env} {d : D} {v : V} {q : Env → Sto → Prop} {R : St → Hp → Prop}, Slots K H μ σ ρ → StoOk K H μ S → RV K H μ v d → wg d ρ S q →
    (∀ ρ' σ', Slots K H μ σ' ρ' → wipe σ' own = wipe σ own → q ρ' S → R σ' H) → g v σ H R
theorem own_name {K : PySem.W.Frag} {own : List Nat} {i : Nat} (h : i ∈ own := by decide) : OwnTg K own (L2.gName i) (gName i) :=
  ⟨fun hs ho r hw k => k _ _ (hs.set r) (wipe_set h) hw⟩
structure OwnTgs (K : PySem.W.Frag) (own : List Nat) (g : TGs) (wg : WGs) : Prop where
  run : ∀ {μ : Mu} {H : Hp} {S : Sto} {σ : St} {ρ : Env} {ds : List D} {vs : List V} {q : Env → Sto → Prop} {R : St → Hp → Prop}, Slots K H μ σ ρ → StoOk K H μ S → RVs K H μ vs ds → wg ds ρ S q →
    (∀ ρ' σ', Slots K H μ σ' ρ' → wipe σ' own = wipe σ own → q ρ' S → R σ' H) → g vs σ H R
theorem own_nil {K : PySem.W.Frag} {own : List Nat} : OwnTgs K own gNil gsNil := by
  refine ⟨fun {μ H S σ ρ ds vs q R} hs ho r hw k => ?_⟩
  cases ds with
  | nil => rw [RVs] at r; exact ⟨r, k _ _ hs rfl hw⟩
  | cons _ _ => exact hw.elim
theorem own_cons {K : PySem.W.Frag} {own : List Nat} {i : Nat} {g : TGs} {wg : WGs} (ho' : OwnTgs K own g wg) (h : i ∈ own := by decide) : OwnTgs K own (gCons (L2.gName i) g) (gsCons (gName i) wg) := by
  refine ⟨fun {μ H S σ ρ ds vs q R} hs ho r hw k => ?_⟩
  cases ds with
  | nil => exact hw.elim
  | cons d ds =>
    rw [RVs] at r
    obtain ⟨v, vr, rfl, r1, r2⟩ := r
    exact ⟨v, vr, rfl, ho'.run (hs.set r1) ho r2 hw fun ρ' σ' s' e q' => k ρ' σ' s' (e.trans (wipe_set h)) q'⟩
theorem own_tup {K : PySem.W.Frag} {own : List Nat} {n : Nat} {g : TGs} {wg : WGs} (ho' : OwnTgs K own g wg) : OwnTg K own (L2.gTup K n g) (gTup n wg) := by
  refine ⟨fun {μ H S σ ρ d v q R} hs ho r hw k => ?_⟩
  cases d with
  | tup ds =>
    obtain ⟨a, vs, rfl, h1, r1⟩ := rv_tup.mp r
    exact ⟨a, vs, rfl, h1.sq, by rw [r1.length]; exact hw.1, ho'.run hs ho r1 hw.2 k⟩
  | _ => exact hw.elim
/-- the items from left to right: what is kept so far is acc -/
def wLcGo (g : WG) (t : WT) (el : WE) (gd : Gd) (ρ0 : Env) (Q : List D → Sto → Prop) : List D → List D → Sto → Prop
  | [], acc, S => gd.ok S ∧ Q acc S
  | d :: ds, acc, S => gd.ok S ∧ g d ρ0 S fun ρ1 S1 => t ρ1 S1 fun k S2 => if k = true then el ρ1 S2 fun x S3 => acc.length < sizeLine ∧ wLcGo g t el gd ρ0 Q ds (acc ++ [x]) S3 else wLcGo g t el gd ρ0 Q ds acc S2
def wLc (wi : WI) (g : WG) (t : WT) (el : WE) (own : List Nat) : WE := fun ρ S Q => wi ρ S fun ds gd S1 => wLcGo g t el gd (wipeD ρ own) (fun xs S2 => Q (.rol xs) S2) ds [] S1
/-- the same list for the store -/
def wLcL (wi : WI) (g : WG) (t : WT) (el : WE) (own : List Nat) : WE := fun ρ S Q => wi ρ S fun ds gd S1 => wLcGo g t el gd (wipeD ρ own) (fun xs S2 => Q (.loc S2.length) (S2 ++ [.lst xs])) ds [] S1
theorem lc_to {wi : WI} {g : TG} {wg : WG} {t : WT} {el : WE} {own : List Nat} (hg : OwnTg X.K own g wg) {σ : St} {H : Hp} {R : VK} {μ : Mu} {ρ : Env} {S : Sto} {Q : List D → Sto → Prop} (hs : Slots X.K H μ σ ρ) (ho : StoOk X.K H μ S)
    (hw : wi ρ S fun ds gd S1 => wLcGo wg t el gd (wipeD ρ own) Q ds [] S1)
    (ha : ∀ xs S', Q xs S' → ∀ D H' μ' vs, H D = none → H' D = some (.lst vs) → D ∈ μ'.fb → Ext μ μ' H H' → StoOk X.K H' μ' S' → RVs X.K H' μ' vs xs → R (.ref D) H') : tLc (LI X.K wi) g (LT X.K t) (LE X.K el) own σ H R := by
  refine ⟨μ, ρ, S, _, hs, ho, hw, fun ds gd S1 q J H1 μ1 e1 o1 hJ D hD => ?_⟩
  have hD0 : H D = none := e1.was hD
  -- what holds between two turns: the store's addresses μ', the new list hidden
  let W : Nat → Hp → Prop := fun i H' => ∃ μ' S' acc vs, H' D = some (.lst vs) ∧ D ∈ μ'.fb ∧ Ext μ1 μ' H1 H' ∧ StoOk X.K H' μ' S' ∧ RVs X.K H' μ' vs acc ∧ wLcGo wg t el gd (wipeD ρ own) Q (ds.drop i) acc S'
  refine ⟨fun i m H' => m = ds.length - i ∧ i ≤ ds.length ∧ W i H', ⟨ds.length, by simp, Nat.zero_le _, μ1.hide D, S1, [], [], upd_same, List.mem_cons_self, Ext.hide hD, o1.hide hD, RVs.nil, q⟩, ?_⟩
  rintro i m H2 ⟨rfl, hi, μ2, S2, acc, vs, hl, hf, e2, o2, r2, w2⟩
  by_cases hlt : i < ds.length
  · rw [List.drop_eq_getElem_cons hlt] at w2
    obtain ⟨hgd, w2⟩ := w2
    obtain ⟨hgo, hy⟩ := (hJ μ2 H2 S2 e2.mv o2 hgd i).1 ds[i] (by simp [hlt])
    refine .inr ⟨hgo, W (i + 1), fun H' z => ⟨ds.length - (i + 1), by omega, rfl, hlt, z⟩, fun x H3 y => ?_⟩
    obtain ⟨e3, o3, r3⟩ := hy x H3 y
    have s3 : Slots X.K H3 μ2 (wipe σ own) (wipeD ρ own) := (hs.ext ((e1.trans e2).trans e3)).wipe own
    have hl3 : H3 D = some (.lst vs) := e3.keep _ _ hl (o2.fbd D hf).1
    refine hg.run s3 o3 r3 w2 fun ρ4 σ4 s4 ew q4 => ⟨by rw [ew, wipe_wipe], ?_⟩
    refine ⟨μ2, ρ4, S2, _, s4, o3, q4, fun k S5 q5 H5 μ5 e5 o5 => ?_⟩
    have e15 : Ext μ1 μ5 H1 H5 := (e2.trans e3).trans e5
    have hl5 : H5 D = some (.lst vs) := e5.keep _ _ hl3 (o3.fbd D hf).1
    have hf5 := e5.sub D hf
    have r5 : RVs X.K H5 μ5 vs acc := RVs.ext (e3.trans e5) acc r2
    cases k with
    | false =>
      rw [if_neg Bool.false_ne_true] at q5
      show if false = true then _ else W (i + 1) H5
      rw [if_neg Bool.false_ne_true]
      exact ⟨μ5, S5, acc, vs, hl5, hf5, e15, o5, r5, q5⟩
    | true =>
      rw [if_pos rfl] at q5
      show if true = true then LE X.K el σ4 H5 _ else _
      rw [if_pos rfl]
      refine ⟨μ5, ρ4, S5, _, s4.ext e5, o5, q5, fun d S6 ⟨hz, q6⟩ v H6 μ6 e6 o6 r6 => ?_⟩
      have hl6 : H6 D = some (.lst vs) := e6.keep _ _ hl5 (o5.fbd D hf5).1
      have hf6 := e6.sub D hf5
      refine ⟨vs, hl6, by rw [r5.length]; exact hz, μ6, S6, acc ++ [d], vs ++ [v], upd_same, hf6, (e15.trans e6).turn hD, o6.turn hf6, ?_, q6⟩
      exact RVs.turn hf6 _ ((RVs.ext e6 acc r5).append (RVs.cons r6 RVs.nil))
  · have : i = ds.length := by omega
    subst this
    rw [List.drop_length] at w2
    exact .inl ⟨(hJ μ2 H2 S2 e2.mv o2 w2.1 _).2 (Nat.le_refl _), ha _ _ w2.2 D H2 μ2 vs hD0 hl hf (e1.trans e2) o2 r2⟩
/-- [elt for target in iter if ..] as a plain list -/
theorem je_lc {elt tg iter : Expr} {ifs : List Expr} {scope : Scope} {own : List (Str × Nat)} {wi : WI} {g : TG} {wg : WG} {t : WT} {el : WE} (hc : X.calm = true) (hN : X.N.Nodup) (hi : JI X tg iter wi) (ok : BlkOk X.N X.env.scope scope own) (hg : OwnTg X.K (own.map (·.2)) g wg)
    (pg : ∀ (s : Shared) (H : Hp) (C : Addr) (cl : List (Str × Addr)) (fp : List Addr), PG (X.blk s H scope (compEnvC scope cl C X.env) fp) tg g) (ht : ∀ (s : Shared) (H : Hp) (C : Addr) (cl : List (Str × Addr)) (fp : List Addr), JTs (X.blk s H scope (compEnvC scope cl C X.env) fp) ifs t)
    (he : ∀ (s : Shared) (H : Hp) (C : Addr) (cl : List (Str × Addr)) (fp : List Addr), JE (X.blk s H scope (compEnvC scope cl C X.env) fp) elt el) (hs : ∀ x, foldedSetIterable iter X.env x = pure x := by intro _; rfl) :
    JE X (.ListComp elt [⟨tg, iter, ifs, 0⟩] scope pos) (wLc wi wg t el (own.map (·.2))) := by
  refine PE.imp (pe_lc (tt := LT X.K t) (te := LE X.K el) hc hN hi ok pg (fun s H C cl fp => ht s H C cl fp) (fun s H C cl fp => he s H C cl fp) hs) fun σ H R ⟨μ, ρ, S, Q, hs, ho, hw, ha⟩ => lc_to hg hs ho hw fun xs S' q D H' μ' vs h0 hl hf e' o' r' => ?_
  have hn : ∀ b, b ∈ μ.fb → b ∈ μ'.fb := e'.sub
  have od : (⟨μ'.lo, μ.fb⟩ : Mu).out D := ⟨(o'.fbd D hf).1, fun m => by
    obtain ⟨_, u, z⟩ := ho.fbd D m
    rw [h0] at z; cases z⟩
  exact ha _ _ q _ _ _ e'.less (o'.less hn) (rv_rol.mpr ⟨D, vs, rfl, ⟨hl, od⟩, RVs.less hn xs r'⟩)
theorem js_setLc (i : Nat) {y : Str} {py spos : Pos} {elt tg iter : Expr} {ifs : List Expr} {scope : Scope} {own : List (Str × Nat)} {wi : WI} {g : TG} {wg : WG} {t : WT} {el : WE} (hc : X.calm = true) (hN : X.N.Nodup) (hi : JI X tg iter wi) (ok : BlkOk X.N X.env.scope scope own) (hg : OwnTg X.K (own.map (·.2)) g wg)
    (pg : ∀ (s : Shared) (H : Hp) (C : Addr) (cl : List (Str × Addr)) (fp : List Addr), PG (X.blk s H scope (compEnvC scope cl C X.env) fp) tg g) (ht : ∀ (s : Shared) (H : Hp) (C : Addr) (cl : List (Str × Addr)) (fp : List Addr), JTs (X.blk s H scope (compEnvC scope cl C X.env) fp) ifs t)
    (he : ∀ (s : Shared) (H : Hp) (C : Addr) (cl : List (Str × Addr)) (fp : List Addr), JE (X.blk s H scope (compEnvC scope cl C X.env) fp) elt el)
    (hsw : swapsWith (.ListComp elt [⟨tg, iter, ifs, 0⟩] scope pos) (some (.Name y py)) spos.line X.env = pure true) (hy : X.N[i]? = some y := by rfl) (hyl : X.env.scope.names.lookup y = some .local := by rfl) (hs : ∀ x, foldedSetIterable iter X.env x = pure x := by intro _; rfl) :
    JS X (.Assign [.Name y py] (.ListComp elt [⟨tg, iter, ifs, 0⟩] scope pos) spos) (sAsg (wLc wi wg t el (own.map (·.2))) (gName i)) := by
  refine PS.imp (ps_setLc (tt := LT X.K t) (te := LE X.K el) hc hN hy hyl hsw hi ok pg (fun s H C cl fp => ht s H C cl fp) (fun s H C cl fp => he s H C cl fp) hs) fun R σ H ⟨μ, ρ, S, E, hs, ho, hw, ha⟩ => lc_to hg hs ho hw fun xs S' q D H' μ' vs h0 hl hf e' o' r' => ?_
  have hn : ∀ b, b ∈ μ.fb → b ∈ μ'.fb := e'.sub
  have od : (⟨μ'.lo, μ.fb⟩ : Mu).out D := ⟨(o'.fbd D hf).1, fun m => by
    obtain ⟨_, u, z⟩ := ho.fbd D m
    rw [h0] at z; cases z⟩
  exact ha.nx _ _ q _ _ _ e'.less ((hs.ext e'.less).set (rv_rol.mpr ⟨D, vs, rfl, ⟨hl, od⟩, RVs.less hn xs r'⟩)) (o'.less hn)
/-- the new list for the store -/
theorem lcL_end {μ μ' : Mu} {H H' : Hp} {S S' : Sto} {D : Addr} {vs : List V} {xs : List DL.D} (ho : StoOk X.K H μ S) (h0 : H D = none) (hl : H' D = some (.lst vs)) (hf : D ∈ μ'.fb) (e' : Ext μ μ' H H') (o' : StoOk X.K H' μ' S') (r' : RVs X.K H' μ' vs xs) :
    ∃ μ2 : Mu, Ext μ μ2 H H' ∧ StoOk X.K H' μ2 (S' ++ [.lst xs]) ∧ RV X.K H' μ2 (.ref D) (.loc S'.length) ∧ ∀ d v, RV X.K H μ v d → RV X.K H' μ2 v d := by
  have hn : ∀ b, b ∈ μ.fb → b ∈ μ'.fb := e'.sub
  have nl : D ∉ μ'.lo := (o'.fbd D hf).1
  have ee : Ext μ ⟨μ'.lo ++ [D], μ.fb⟩ H H' := ⟨by obtain ⟨t, et⟩ := e'.pre; exact ⟨t ++ [D], by show μ'.lo ++ [D] = _; rw [et]; simp⟩, e'.keep, e'.trk, (fun b m n => by
    rcases List.mem_append.mp m with m | m
    · exact e'.new b m n
    · rw [List.mem_singleton.mp m]; exact h0), fun _ h => .inl h, fun _ h => h⟩
  -- from μ' (D hidden) to the store with D as its last cell
  have mv : ∀ d v, RV X.K H' μ' v d → RV X.K H' ⟨μ'.lo ++ [D], μ.fb⟩ v d := by
    have out : ∀ a, μ'.out a → (⟨μ'.lo ++ [D], μ.fb⟩ : Mu).out a := fun a n => ⟨fun m => by
      rcases List.mem_append.mp m with m | m
      · exact n.1 m
      · rw [List.mem_singleton.mp m] at n; exact n.2 hf, fun m => n.2 (hn a m)⟩
    intro d v
    exact RV.move ⟨fun a o h n => ⟨h, out a n⟩, fun n a h => by
      show (μ'.lo ++ [D])[n]? = some a
      rw [List.getElem?_append_left (List.getElem?_eq_some_iff.mp h).1]; exact h⟩ d
  refine ⟨⟨μ'.lo ++ [D], μ.fb⟩, ee, ⟨by show (μ'.lo ++ [D]).length = _; simp [o'.len], ?_, fun n c e => ?_, fun a m => ?_⟩, rv_loc.mpr ⟨D, rfl, by show (μ'.lo ++ [D])[S'.length]? = _; rw [← o'.len]; simp⟩, fun d v h => RV.ext ee d h⟩
  · show (μ'.lo ++ [D]).Nodup
    rw [List.nodup_append]
    refine ⟨o'.nd, by simp, fun a ha b hb => ?_⟩
    rw [List.mem_singleton.mp hb]
    rintro rfl
    exact nl ha
  · by_cases hlt : n < S'.length
    · rw [List.getElem?_append_left hlt] at e
      obtain ⟨a, q1, q2⟩ := o'.cell n c e
      refine ⟨a, ?_, q2.imp rfl mv⟩
      show (μ'.lo ++ [D])[n]? = _
      rw [List.getElem?_append_left (by rw [o'.len]; exact hlt)]; exact q1
    · rw [List.getElem?_append_right (Nat.le_of_not_lt hlt)] at e
      have hn2 : n - S'.length = 0 := by
        have := (List.getElem?_eq_some_iff.mp e).1
        simp at this; omega
      rw [hn2] at e
      simp at e
      subst e
      have : n = S'.length := by omega
      subst this
      exact ⟨D, by show (μ'.lo ++ [D])[S'.length]? = _; rw [← o'.len]; simp, vs, hl, RVs.paired.mpr (Paired.mapP (RVs.paired.mp r') fun v d z => mv d v z)⟩
  · have m : a ∈ μ.fb := m
    obtain ⟨n1, u, e1⟩ := o'.fbd a (hn a m)
    refine ⟨fun z => ?_, u, e1⟩
    rcases List.mem_append.mp z with z | z
    · exact n1 z
    · obtain ⟨_, u2, e2⟩ := ho.fbd a m
      rw [List.mem_singleton.mp z, h0] at e2; cases e2
end
end DL
namespace DL
open PySem PySem.Spec L2
open PyProof.Rows hiding St
/-! ## what a def promises -/
abbrev Con := List D → Sto → QD → Prop
structure FnG (P : Program) (w : World) (K : PySem.W.Frag) (mg : Str → Option Value) (base : Heap) (k : Nat) (f : Addr) (fd : FuncData) (ps : List Str) (c : Con) : Prop where
  len : ∀ ds S Q, c ds S Q → ds.length = ps.length
  run : ∀ (A : Around) (outer : List PySem.Env) (s : Shared) (H : Hp) (args : Args) (us : List Value) (vs : List V) (μ : Mu) (ds : List D) (S : Sto) (Q : QD) (R : VK),
    Room k A → A.guards = some [] → Env0 P w K mg base A outer s H → BindsTo s fd args (ps.zip us) → Vals vs us → RVs K H μ vs ds → StoOk K H μ S → c ds S Q → After K Q μ H R →
    codeAny (model P w) A (.call (.ref f) args) (CR CX0 outer P w H s R E0) s
section
variable {X : Cx} {k : Nat} {f : Addr} {fd : FuncData} {ps ks : List Str} {c : Con} {x : Str} {p pos : Pos} {e : Expr} {es : List Expr} {wl wk : WA} {kws : List Keyword}
theorem fng_run {pins : List (Addr × Obj)} {σ : St} {H : Hp} {s : Shared} {R : VK} {us : List Value} {vs : List V} {args : Args} {μ : Mu} {ds : List D} {S : Sto} {Q : QD} (F : FnG X.prog X.w X.K X.mg X.base k f fd ps c) (hr : Room k X.A) (hu : X.A.guards = some [])
    (I : Inv X pins σ H s) (hb : BindsTo s fd args (ps.zip us)) (r : Vals vs us) (rd : RVs X.K H μ vs ds) (o : StoOk X.K H μ S) (hc : c ds S Q) (ha : After X.K Q μ H R) :
    codeAny (model X.prog X.w) X.A (.call (.ref f) args) (fun r s' => match r with
      | .ok (.ret u) => EP X pins σ R u s'
      | _ => False) s := by
  refine codeAny_mono (F.run X.A X.stack s H args us vs μ ds S Q R hr hu I.env0 hb r rd o hc ha) fun r s' hq => ?_
  match r, hq with
  | .ok (.ret u), hq => exact I.after hq
  | .ok .next, hq => exact False.elim hq
  | .ok .brk, hq => exact False.elim hq
  | .ok .cont, hq => exact False.elim hq
  | .error _, hq => exact False.elim hq
/-- f(e, ..) -/
theorem je_call (F : FnG X.prog X.w X.K X.mg X.base k f fd ps c) (hr : Room k X.A) (hu : X.A.guards = some []) (hm : X.mg x = some (.ref f)) (hk : PySem.W.keepIn X.K (.ref f) = true) (hb : Binds X.K fd ps []) (ha : JA X (e :: es) wl) (hg : Gl X x := by rfl)
    (hdb : (x == ("__debug__" : Str)) = false := by decide) (he : starEach (e :: es) X.env = (false, eval e X.env) :: starEach es X.env := by rfl) (hpl : (backTo pos (starEach es X.env)).any (·.1) = false := by rfl) :
    JE X (.Call (.Name x p) (e :: es) [] pos) (wCall c wl) := by
  refine ⟨fun pins s σ H R I ⟨μ, ρ, S, Q, hs, ho, hw, hq⟩ => ?_⟩
  refine wpAny_Call_Name_kw (ld_glob I hg hm ?_ hdb)
  refine PySem.W.callWith_K (h₀ := X.base) I.ok.mod.kin hk (thn (ha.run pos pins s σ H (fun vs H1 => ∃ μ1 ds S1, Ext μ μ1 H H1 ∧ StoOk X.K H1 μ1 S1 ∧ RVs X.K H1 μ1 vs ds ∧ c ds S1 Q) I ⟨μ, ρ, S, _, hs, ho, hw, fun ds S1 q vs H1 μ1 e1 o1 r1 => ⟨μ1, ds, S1, e1, o1, r1, q⟩⟩) fun us s1 ⟨vs, H1, I1, r, μ1, ds, S1, e1, o1, r1, q⟩ => ⟨I1.kIn, ?_⟩) he hpl
  have hl : (us ++ []).length = ps.length := by rw [List.append_nil, ← r.length, r1.length]; exact F.len _ _ _ q
  have b := hb s1 us I1.kIn hl
  rw [List.append_nil] at b
  refine wpAny_call (codeAny_mono (fng_run F hr hu I1 b r r1 o1 q (hq.ext e1)) fun r s' z => ?_)
  match r, z with
  | .ok (.ret u), z => exact z
theorem je_call0 (F : FnG X.prog X.w X.K X.mg X.base k f fd ps c) (hr : Room k X.A) (hu : X.A.guards = some []) (hm : X.mg x = some (.ref f)) (hk : PySem.W.keepIn X.K (.ref f) = true) (hb : Binds X.K fd ps []) (hg : Gl X x := by rfl)
    (hdb : (x == ("__debug__" : Str)) = false := by decide) : JE X (.Call (.Name x p) [] [] pos) (wCall c wNil) := by
  refine ⟨fun pins s σ H R I ⟨μ, ρ, S, Q, hs, ho, hw, hq⟩ => ?_⟩
  refine wpAny_Call_Name_kw (ld_glob I hg hm ?_ hdb)
  have hl : (([] : List Value) ++ []).length = ps.length := F.len _ _ _ hw
  have b := hb s [] I.kIn hl
  refine PySem.W.callWith_K0 I.kIn hk (wpAny_call (codeAny_mono (fng_run F hr hu I b .nil RVs.nil ho hw hq) fun r s' z => ?_))
  match r, z with
  | .ok (.ret u), z => exact z
/-! ### keywords -/
def JK (X : Cx) (kws : List Keyword) (w : WA) : Prop := PK X kws (LA X.K w)
theorem PK.imp {t t' : TA} (h : PK X kws t) (f : ∀ σ H Q, t' σ H Q → t σ H Q) : PK X kws t' := ⟨fun po pins s σ H Q I q => h.run po pins s σ H Q I (f σ H Q q)⟩
theorem jk_nil : JK X [] wNil := PK.imp pk_nil fun σ H R ⟨μ, ρ, S, Q, hs, ho, hw, ha⟩ => ha _ _ hw _ _ _ Ext.refl ho RVs.nil
theorem jk_cons {nm : Option Str} {kpos : Pos} {we : WE} {wr : WA} (h : JE X e we) (hr : JK X kws wr) : JK X (⟨nm, e, kpos⟩ :: kws) (wCons we wr) := by
  refine PK.imp (pk_cons h hr) fun σ H R ⟨μ, ρ, S, Q, hs, ho, hw, ha⟩ => ⟨μ, ρ, S, _, hs, ho, hw, fun x S1 q v H1 μ1 e1 o1 r1 => ?_⟩
  exact ⟨μ1, ρ, S1, _, hs.ext e1, o1, q, fun xs S2 q2 vs H2 μ2 e2 o2 r2 => ha _ _ q2 _ _ _ (e1.trans e2) o2 (RVs.cons (RV.ext e2 x r1) r2)⟩
/-- how the keywords ks behind n positional values come to the parameters ps: the place of each parameter in (values ++ keywords' values) -/
def perm {α : Type} (ix : List Nat) (l : List α) : List α := ix.filterMap fun i => l[i]?
structure KwOk (K : PySem.W.Frag) (fd : FuncData) (ps ks : List Str) (n : Nat) (ix : List Nat) : Prop where
  to : ∀ (s : Shared) (us ws : List Value), us.length = n → ws.length = ks.length → BindsTo s fd ⟨us, ks.zip ws⟩ (ps.zip (perm ix (us ++ ws)))
theorem perm_rv {K : PySem.W.Frag} {H : Hp} {μ : Mu} {vs : List V} {ds : List D} (r : RVs K H μ vs ds) : ∀ ix : List Nat, RVs K H μ (perm ix vs) (perm ix ds)
  | [] => RVs.nil
  | i :: ix => by
    unfold perm
    rw [List.filterMap_cons, List.filterMap_cons]
    cases e : ds[i]? with
    | none =>
      have : vs[i]? = none := List.getElem?_eq_none (by rw [r.length]; exact List.getElem?_eq_none_iff.mp e)
      rw [this]
      exact perm_rv r ix
    | some d =>
      obtain ⟨v, e2, rv⟩ := r.get e
      rw [e2]
      exact RVs.cons rv (perm_rv r ix)
theorem perm_vals {vs : List V} {us : List Value} (r : Vals vs us) : ∀ ix : List Nat, Vals (perm ix vs) (perm ix us)
  | [] => .nil
  | i :: ix => by
    unfold perm
    rw [List.filterMap_cons, List.filterMap_cons]
    cases e : vs[i]? with
    | none =>
      rw [r.none_of e]
      exact perm_vals r ix
    | some d =>
      obtain ⟨v, e2, rv⟩ := r.get e
      rw [e2]
      exact .cons rv (perm_vals r ix)
def wCallK (c : Con) (ix : List Nat) (n m : Nat) (wl wk : WA) : WE := fun ρ S Q => wl ρ S fun ds S1 => ds.length = n ∧ wk ρ S1 fun es S2 => es.length = m ∧ c (perm ix (ds ++ es)) S2 Q
theorem je_callK {n m : Nat} {ix : List Nat} (F : FnG X.prog X.w X.K X.mg X.base k f fd ps c) (hr : Room k X.A) (hu : X.A.guards = some []) (hm : X.mg x = some (.ref f)) (hk : PySem.W.keepIn X.K (.ref f) = true) (hb : KwOk X.K fd ps ks n ix)
    (ha : JA X (e :: es) wl) (hkw : JK X kws wk) (hg : Gl X x := by rfl) (hm2 : ks.length = m := by rfl)
    (hall : (backToKw pos (keywordEach kws X.env)).all (·.1.isSome) = true := by rfl) (hks : (backToKw pos (keywordEach kws X.env)).filterMap (·.1) = ks := by rfl)
    (hdb : (x == ("__debug__" : Str)) = false := by decide) (he : starEach (e :: es) X.env = (false, eval e X.env) :: starEach es X.env := by rfl)
    (hpl : ((backTo pos (starEach (e :: es) X.env)).any (·.1) || (backToKw pos (keywordEach kws X.env)).any (·.1.isNone)) = false := by rfl) :
    JE X (.Call (.Name x p) (e :: es) kws pos) (wCallK c ix n m wl wk) := by
  refine ⟨fun pins s σ H R I ⟨μ, ρ, S, Q, hs, ho, hw, hq⟩ => ?_⟩
  refine wpAny_Call_Name_kw (ld_glob I hg hm ?_ hdb)
  refine PySem.W.callWith_KW (h₀ := X.base) I.ok.mod.kin hk hall (thn (ha.run pos pins s σ H (fun vs H1 => ∃ μ1 ds S1, Ext μ μ1 H H1 ∧ StoOk X.K H1 μ1 S1 ∧ RVs X.K H1 μ1 vs ds ∧ ds.length = n ∧ wk ρ S1 fun es S2 => es.length = m ∧ c (perm ix (ds ++ es)) S2 Q) I
    ⟨μ, ρ, S, _, hs, ho, hw, fun ds S1 q vs H1 μ1 e1 o1 r1 => ⟨μ1, ds, S1, e1, o1, r1, q⟩⟩) fun us s1 ⟨vs, H1, I1, r, μ1, ds, S1, e1, o1, r1, hl, q⟩ => ?_) hpl he
  refine thn (hkw.run pos pins s1 σ H1 (fun zs H2 => ∃ μ2 es S2, Ext μ1 μ2 H1 H2 ∧ StoOk X.K H2 μ2 S2 ∧ RVs X.K H2 μ2 zs es ∧ es.length = m ∧ c (perm ix (ds ++ es)) S2 Q) I1
    ⟨μ1, ρ, S1, _, hs.ext e1, o1, q, fun es S2 q2 zs H2 μ2 e2 o2 r2 => ⟨μ2, es, S2, e2, o2, r2, q2⟩⟩) fun ws s2 ⟨zs, H2, I2, rz, μ2, es, S2, e2, o2, r2, hl2, q2⟩ => ⟨I2.kIn, ?_⟩
  rw [hks]
  have b := hb.to s2 us ws (by rw [← r.length, r1.length, hl]) (by rw [← rz.length, r2.length, hl2, hm2])
  refine wpAny_call (codeAny_mono (fng_run F hr hu I2 b (perm_vals (r.append rz) ix) (perm_rv ((RVs.ext e2 ds r1).append r2) ix) o2 q2 (hq.ext (e1.trans e2))) fun r s' z => ?_)
  match r, z with
  | .ok (.ret u), z => exact z
theorem je_callK0 {m : Nat} {ix : List Nat} (F : FnG X.prog X.w X.K X.mg X.base k f fd ps c) (hr : Room k X.A) (hu : X.A.guards = some []) (hm : X.mg x = some (.ref f)) (hk : PySem.W.keepIn X.K (.ref f) = true) (hb : KwOk X.K fd ps ks 0 ix)
    (hkw : JK X kws wk) (hg : Gl X x := by rfl) (hm2 : ks.length = m := by rfl)
    (hall : (backToKw pos (keywordEach kws X.env)).all (·.1.isSome) = true := by rfl) (hks : (backToKw pos (keywordEach kws X.env)).filterMap (·.1) = ks := by rfl)
    (hdb : (x == ("__debug__" : Str)) = false := by decide)
    (hpl : (backToKw pos (keywordEach kws X.env)).any (·.1.isNone) = false := by rfl) :
    JE X (.Call (.Name x p) [] kws pos) (wCallK c ix 0 m wNil wk) := by
  refine ⟨fun pins s σ H R I ⟨μ, ρ, S, Q, hs, ho, ⟨_, hw⟩, hq⟩ => ?_⟩
  refine wpAny_Call_Name_kw (ld_glob I hg hm ?_ hdb)
  refine PySem.W.callWith_KW0 (h₀ := X.base) I.ok.mod.kin hk hall ?_ hpl
  refine thn (hkw.run pos pins s σ H (fun zs H2 => ∃ μ2 es S2, Ext μ μ2 H H2 ∧ StoOk X.K H2 μ2 S2 ∧ RVs X.K H2 μ2 zs es ∧ es.length = m ∧ c (perm ix ([] ++ es)) S2 Q) I
    ⟨μ, ρ, S, _, hs, ho, hw, fun es S2 q2 zs H2 μ2 e2 o2 r2 => ⟨μ2, es, S2, e2, o2, r2, q2⟩⟩) fun ws s2 ⟨zs, H2, I2, rz, μ2, es, S2, e2, o2, r2, hl2, q2⟩ => ⟨I2.kIn, ?_⟩
  rw [hks]
  have b := hb.to s2 [] ws rfl (by rw [← rz.length, r2.length, hl2, hm2])
  refine wpAny_call (codeAny_mono (fng_run F hr hu I2 b (perm_vals rz ix) (perm_rv r2 ix) o2 q2 (hq.ext e2)) fun r s' z => ?_)
  match r, z with
  | .ok (.ret u), z => exact z
end
/-! ## the end of a def: what it made for itself is let go -/
mutual
/-- all cells that the thing names are below m -/
def Bel (m : Nat) : D → Prop
  | .tup ds => Bels m ds
  | .rol ds => Bels m ds
  | .fro ds => Bels m ds
  | .loc n => n < m
  | _ => True
def Bels (m : Nat) : List D → Prop
  | [] => True
  | d :: ds => Bel m d ∧ Bels m ds
end
def BelC (m : Nat) : Cell → Prop
  | .lst ds => Bels m ds
  | .dic kvs => ∀ p ∈ kvs, Bel m p.2
  | .dct _ kvs => ∀ p ∈ kvs, Bel m p.2
  | .ins _ fs => ∀ p ∈ fs, Bel m p.2
def CloS (S : Sto) : Prop := ∀ (n : Nat) (c : Cell), S[n]? = some c → BelC S.length c
section
variable {K : PySem.W.Frag} {H : Hp} {μ : Mu} {S : Sto}
mutual
theorem bel_of : ∀ (d : D) {v : V}, RV K H μ v d → Bel μ.lo.length d
  | .non, _, _ => trivial
  | .bl _, _, _ => trivial
  | .int _, _, _ => trivial
  | .str _, _, _ => trivial
  | .ty _, _, _ => trivial
  | .tup ds, _, h => by obtain ⟨_, _, _, _, r⟩ := rv_tup.mp h; exact bels_of ds r
  | .rol ds, _, h => by obtain ⟨_, _, _, _, r⟩ := rv_rol.mp h; exact bels_of ds r
  | .fro ds, _, h => by obtain ⟨_, _, _, _, r⟩ := rv_fro.mp h; exact bels_of ds r
  | .loc n, _, h => by obtain ⟨_, _, r⟩ := rv_loc.mp h; exact (List.getElem?_eq_some_iff.mp r).1
theorem bels_of : ∀ (ds : List D) {vs : List V}, RVs K H μ vs ds → Bels μ.lo.length ds
  | [], _, _ => trivial
  | d :: ds, _, h => by
    rw [RVs] at h
    obtain ⟨_, _, _, h1, h2⟩ := h
    exact ⟨bel_of d h1, bels_of ds h2⟩
end
theorem belk_of {μ : Mu} : ∀ {us : List (Key × V)} {kvs : List (Key × D)}, Paired (fun (p : Key × V) (q : Key × D) => p.1 = q.1 ∧ RV K H μ p.2 q.2) us kvs → ∀ p ∈ kvs, Bel μ.lo.length p.2
  | _, _, .nil, p, m => absurd m (by simp)
  | _, _, .cons z t, p, m => (List.mem_cons.mp m).elim (fun e => by rw [e]; exact bel_of _ z.2) fun m => belk_of t p m
theorem belp_of {α : Type} {μ : Mu} : ∀ {us : List (α × V)} {kvs : List (α × D)}, Paired (fun (p : α × V) (q : α × D) => p.1 = q.1 ∧ RV K H μ p.2 q.2) us kvs → ∀ p ∈ kvs, Bel μ.lo.length p.2
  | _, _, .nil, p, m => absurd m (by simp)
  | _, _, .cons z t, p, m => (List.mem_cons.mp m).elim (fun e => by rw [e]; exact bel_of _ z.2) fun m => belp_of t p m
theorem belt_of {μ : Mu} : ∀ {us : List (List Int × Addr × V)} {kvs : List (List Int × D)}, Paired (fun (p : List Int × Addr × V) (q : List Int × D) => p.1 = q.1 ∧ RV K H μ (.ref p.2.1) (.tup (p.1.map D.int)) ∧ RV K H μ p.2.2 q.2) us kvs → ∀ p ∈ kvs, Bel μ.lo.length p.2
  | _, _, .nil, p, m => absurd m (by simp)
  | _, _, .cons z t, p, m => (List.mem_cons.mp m).elim (fun e => by rw [e]; exact bel_of _ z.2.2) fun m => belt_of t p m
theorem bels_k {m : Nat} : ∀ ns : List Int, Bels m (ns.map D.int)
  | [] => trivial
  | _ :: r => ⟨trivial, bels_k r⟩
theorem clo_of (o : StoOk K H μ S) : CloS S := fun n c e => by
  obtain ⟨a, _, q⟩ := o.cell n c e
  rw [← o.len]
  cases c with
  | lst ds => obtain ⟨vs, _, r⟩ := q; exact bels_of ds r
  | dic kvs =>
    obtain ⟨us, _, r⟩ := q
    exact belk_of r
  | dct ep kvs =>
    obtain ⟨us, _, r⟩ := q
    exact belt_of r
  | ins C fs =>
    obtain ⟨us, A, dx, _, _, r⟩ := q
    exact belp_of r
end
mutual
/-- d' is d, the lists that the def made itself as plain lists -/
inductive Fz (S : Sto) (m : Nat) : D → D → Prop
  | non : Fz S m .non .non
  | bl (b) : Fz S m (.bl b) (.bl b)
  | int (i) : Fz S m (.int i) (.int i)
  | str (x) : Fz S m (.str x) (.str x)
  | ty (n) : Fz S m (.ty n) (.ty n)
  | tup {ds es} : FzL S m ds es → Fz S m (.tup ds) (.tup es)
  | rol {ds es} : FzL S m ds es → Fz S m (.rol ds) (.rol es)
  | fro {ds es} : FzL S m ds es → Fz S m (.fro ds) (.fro es)
  | old {n} : n < m → Fz S m (.loc n) (.loc n)
  | new {n ds es} : m ≤ n → S[n]? = some (.lst ds) → FzL S m ds es → Fz S m (.loc n) (.rol es)
inductive FzL (S : Sto) (m : Nat) : List D → List D → Prop
  | nil : FzL S m [] []
  | cons {d e ds es} : Fz S m d e → FzL S m ds es → FzL S m (d :: ds) (e :: es)
end
section
variable {K : PySem.W.Frag} {H : Hp} {μ μ0 : Mu} {S : Sto} {m : Nat}
mutual
theorem fz_bel : ∀ (d : D), Bel m d → Fz S m d d
  | .non, _ => .non
  | .bl _, _ => .bl _
  | .int _, _ => .int _
  | .str _, _ => .str _
  | .ty _, _ => .ty _
  | .tup ds, h => .tup (fzl_bel ds h)
  | .rol ds, h => .rol (fzl_bel ds h)
  | .fro ds, h => .fro (fzl_bel ds h)
  | .loc n, h => .old h
theorem fzl_bel : ∀ (ds : List D), Bels m ds → FzL S m ds ds
  | [], _ => .nil
  | d :: ds, h => .cons (fz_bel d h.1) (fzl_bel ds h.2)
end
mutual
theorem fz_rv (o : StoOk K H μ S) (hp : ∃ t, μ.lo = μ0.lo ++ t) (hm : μ0.lo.length = m) (hf : ∀ b, b ∈ μ0.fb → b ∈ μ.fb) : ∀ {d e : D} {v : V}, Fz S m d e → RV K H μ v d → RV K H μ0 v e
  | _, _, _, .non, h => rv_non.mpr (rv_non.mp h)
  | _, _, _, .bl _, h => rv_bl.mpr (rv_bl.mp h)
  | _, _, _, .int _, h => rv_int.mpr (rv_int.mp h)
  | _, _, _, .str _, h => rv_str.mpr (rv_str.mp h)
  | _, _, _, .ty _, h => rv_ty.mpr (rv_ty.mp h)
  | _, _, _, .tup z, h => by
    obtain ⟨a, vs, rfl, q, r⟩ := rv_tup.mp h
    exact rv_tup.mpr ⟨a, vs, rfl, q.elim (fun y => .inl ⟨y.1, cut_out hp hf y.2⟩) .inr, fzl_rv o hp hm hf z r⟩
  | _, _, _, .rol z, h => by
    obtain ⟨a, vs, rfl, q, r⟩ := rv_rol.mp h
    exact rv_rol.mpr ⟨a, vs, rfl, ⟨q.1, cut_out hp hf q.2⟩, fzl_rv o hp hm hf z r⟩
  | _, _, _, .fro z, h => by
    obtain ⟨a, vs, rfl, q, r⟩ := rv_fro.mp h
    exact rv_fro.mpr ⟨a, vs, rfl, q.elim (fun y => .inl ⟨y.1, cut_out hp hf y.2⟩) .inr, fzl_rv o hp hm hf z r⟩
  | _, _, _, .old hl, h => by
    obtain ⟨a, rfl, q⟩ := rv_loc.mp h
    obtain ⟨t, et⟩ := hp
    rw [et, List.getElem?_append_left (by rw [hm]; exact hl)] at q
    exact rv_loc.mpr ⟨a, rfl, q⟩
  | _, _, _, .new hl hc z, h => by
    obtain ⟨a, rfl, q⟩ := rv_loc.mp h
    obtain ⟨vs, h1, r⟩ := o.addr hc q
    refine rv_rol.mpr ⟨a, vs, rfl, ⟨h1, fun mm => ?_, fun mm => (o.fbd a (hf a mm)).1 (List.mem_of_getElem? q)⟩, fzl_rv o hp hm hf z r⟩
    obtain ⟨t, et⟩ := hp
    obtain ⟨i, hi⟩ := List.getElem?_of_mem mm
    have hil : i < m := by rw [← hm]; exact (List.getElem?_eq_some_iff.mp hi).1
    have hi2 : μ.lo[i]? = some a := by rw [et, List.getElem?_append_left (by rw [hm]; exact hil)]; exact hi
    obtain ⟨b1, e1⟩ := List.getElem?_eq_some_iff.mp hi2
    obtain ⟨b2, e2⟩ := List.getElem?_eq_some_iff.mp q
    have := (List.getElem_inj o.nd).mp (e1.trans e2.symm)
    omega
theorem fzl_rv (o : StoOk K H μ S) (hp : ∃ t, μ.lo = μ0.lo ++ t) (hm : μ0.lo.length = m) (hf : ∀ b, b ∈ μ0.fb → b ∈ μ.fb) : ∀ {ds es : List D} {vs : List V}, FzL S m ds es → RVs K H μ vs ds → RVs K H μ0 vs es
  | _, _, _, .nil, h => by rw [RVs] at h; subst h; exact RVs.nil
  | _, _, _, .cons z zs, h => by
    rw [RVs] at h
    obtain ⟨v, r, rfl, h1, h2⟩ := h
    exact RVs.cons (fz_rv o hp hm hf z h1) (fzl_rv o hp hm hf zs h2)
theorem cut_out (hp : ∃ t, μ.lo = μ0.lo ++ t) (hf : ∀ b, b ∈ μ0.fb → b ∈ μ.fb) {a : Addr} (h : μ.out a) : μ0.out a :=
  ⟨fun mm => h.1 (by obtain ⟨t, et⟩ := hp; rw [et]; exact List.mem_append_left _ mm), fun mm => h.2 (hf a mm)⟩
end
/-- cells likewise -/
inductive FzC (S : Sto) (m : Nat) : Cell → Cell → Prop
  | lst {ds es} : FzL S m ds es → FzC S m (.lst ds) (.lst es)
  | dic {kvs} : (∀ p ∈ kvs, Bel m p.2) → FzC S m (.dic kvs) (.dic kvs)
  | dct {ep kvs} : (∀ p ∈ kvs, Bel m p.2) → FzC S m (.dct ep kvs) (.dct ep kvs)
  | ins {C fs} : (∀ p ∈ fs, Bel m p.2) → FzC S m (.ins C fs) (.ins C fs)
theorem fzc_bel : ∀ {c : Cell}, BelC m c → FzC S m c c
  | .lst ds, h => .lst (fzl_bel ds h)
  | .dic _, h => .dic h
  | .dct _ _, h => .dct h
  | .ins _ _, h => .ins h
/-- the def is left with d in the store S: the caller sees d2 in S2, whose first m cells these are -/
def Leave (m : Nat) (S : Sto) (d : D) (Q : QD) : Prop := ∃ d2 S2, Fz S m d d2 ∧ S2.length = m ∧ (∀ (n : Nat) (c : Cell), S2[n]? = some c → ∃ c0, S[n]? = some c0 ∧ FzC S m c0 c) ∧ Q d2 S2
theorem fzk {m : Nat} {H H' : Hp} {μ μ' : Mu} (f : ∀ (d : D) (v : V), Bel m d → RV K H μ v d → RV K H' μ' v d) : ∀ {us : List (Key × V)} {kvs : List (Key × D)}, Paired (fun (p : Key × V) (q : Key × D) => p.1 = q.1 ∧ RV K H μ p.2 q.2) us kvs → (∀ p ∈ kvs, Bel m p.2) →
    Paired (fun (p : Key × V) (q : Key × D) => p.1 = q.1 ∧ RV K H' μ' p.2 q.2) us kvs
  | _, _, .nil, _ => .nil
  | _, _, .cons z t, y => .cons ⟨z.1, f _ _ (y _ List.mem_cons_self) z.2⟩ (fzk f t fun p mm => y p (List.mem_cons_of_mem _ mm))
theorem fzt {K : PySem.W.Frag} {H H' : Hp} {μ μ' : Mu} {m : Nat} (f : ∀ (d : D) (v : V), Bel m d → RV K H μ v d → RV K H' μ' v d) : ∀ {us : List (List Int × Addr × V)} {kvs : List (List Int × D)}, Paired (fun (p : List Int × Addr × V) (q : List Int × D) => p.1 = q.1 ∧ RV K H μ (.ref p.2.1) (.tup (p.1.map D.int)) ∧ RV K H μ p.2.2 q.2) us kvs → (∀ p ∈ kvs, Bel m p.2) →
    Paired (fun (p : List Int × Addr × V) (q : List Int × D) => p.1 = q.1 ∧ RV K H' μ' (.ref p.2.1) (.tup (p.1.map D.int)) ∧ RV K H' μ' p.2.2 q.2) us kvs
  | _, _, .nil, _ => .nil
  | _, _, .cons z t, h => .cons ⟨z.1, f _ _ (bels_k _) z.2.1, f _ _ (h _ List.mem_cons_self) z.2.2⟩ (fzt f t fun p hp => h p (List.mem_cons_of_mem _ hp))
theorem fzp {α : Type} {m : Nat} {H H' : Hp} {μ μ' : Mu} (f : ∀ (d : D) (v : V), Bel m d → RV K H μ v d → RV K H' μ' v d) : ∀ {us : List (α × V)} {kvs : List (α × D)}, Paired (fun (p : α × V) (q : α × D) => p.1 = q.1 ∧ RV K H μ p.2 q.2) us kvs → (∀ p ∈ kvs, Bel m p.2) →
    Paired (fun (p : α × V) (q : α × D) => p.1 = q.1 ∧ RV K H' μ' p.2 q.2) us kvs
  | _, _, .nil, _ => .nil
  | _, _, .cons z t, y => .cons ⟨z.1, f _ _ (y _ List.mem_cons_self) z.2⟩ (fzp f t fun p mm => y p (List.mem_cons_of_mem _ mm))
theorem leave_to {H0 : Hp} {S0 : Sto} {Q : QD} {R : VK} (o0 : StoOk K H0 μ0 S0) (ha : After K Q μ0 H0 R) : After K (fun d S => Leave S0.length S d Q) μ0 H0 R := by
  intro d S' ⟨d2, S2, z, hl, hc, q⟩ v H' μ' e' o' r
  have hm : μ0.lo.length = S0.length := o0.len
  have hp := e'.pre
  have rv : ∀ {d e : D} {v : V}, Fz S' S0.length d e → RV K H' μ' v d → RV K H' μ0 v e := fun z h => fz_rv o' hp hm e'.sub z h
  have ee : Ext μ0 μ0 H0 H' := ⟨⟨[], by simp⟩, e'.keep, e'.trk, fun _ a b => absurd a b, fun _ h => .inl h, fun _ h => h⟩
  refine ha d2 S2 q v H' μ0 ee ⟨by rw [hm, hl], o0.nd, fun n c e => ?_, fun a m => ?_⟩ (rv z r)
  · obtain ⟨c0, e0, fc⟩ := hc n c e
    obtain ⟨a, q1, q2⟩ := o'.cell n c0 e0
    have hn : n < S0.length := by rw [← hl]; exact (List.getElem?_eq_some_iff.mp e).1
    obtain ⟨t, et⟩ := hp
    rw [et, List.getElem?_append_left (by rw [hm]; exact hn)] at q1
    refine ⟨a, q1, ?_⟩
    cases fc with
    | lst y =>
      obtain ⟨vs, h1, r1⟩ := q2
      exact ⟨vs, h1, fzl_rv o' ⟨t, et⟩ hm e'.sub y r1⟩
    | dic y =>
      obtain ⟨us, h1, r1⟩ := q2
      refine ⟨us, h1, ?_⟩
      have r1 : Paired (fun (p : Key × V) (q : Key × D) => p.1 = q.1 ∧ RV K H' μ' p.2 q.2) us _ := r1
      show Paired (fun (p : Key × V) (q : Key × D) => p.1 = q.1 ∧ RV K H' μ0 p.2 q.2) us _
      exact fzk (fun d v hb h => fz_rv o' ⟨t, et⟩ hm e'.sub (fz_bel d hb) h) r1 y
    | dct y =>
      obtain ⟨us, h1, r1⟩ := q2
      exact ⟨us, h1, fzt (fun d v hb h => fz_rv o' ⟨t, et⟩ hm e'.sub (fz_bel d hb) h) r1 y⟩
    | ins y =>
      obtain ⟨us, A, dx, h1, h2, r1⟩ := q2
      exact ⟨us, A, dx, h1, h2, fzp (fun d v hb h => fz_rv o' ⟨t, et⟩ hm e'.sub (fz_bel d hb) h) r1 y⟩
  · obtain ⟨_, u, e1⟩ := o'.fbd a (e'.sub a m)
    exact ⟨(o0.fbd a m).1, u, e1⟩
/-- nothing of the caller's is changed -/
theorem leave_app {S0 T : Sto} {d : D} {Q : QD} (hS : ∀ (n : Nat) (c : Cell), S0[n]? = some c → BelC m c) (hm : S0.length = m) (hd : Bel m d) (q : Q d S0) : Leave m (S0 ++ T) d Q :=
  ⟨d, S0, fz_bel d hd, hm, fun n c e => ⟨c, by rw [List.getElem?_append_left (List.getElem?_eq_some_iff.mp e).1]; exact e, fzc_bel (hS n c e)⟩, q⟩
theorem leave_same {S0 : Sto} {d : D} {Q : QD} (hS : ∀ (n : Nat) (c : Cell), S0[n]? = some c → BelC m c) (hm : S0.length = m) (hd : Bel m d) (q : Q d S0) : Leave m S0 d Q := by
  have := leave_app (T := []) hS hm hd q
  rwa [List.append_nil] at this
/-- a list that the def made is handed out -/
theorem leave_lst {S0 T : Sto} {n : Nat} {ds : List D} {Q : QD} (hS : ∀ (n : Nat) (c : Cell), S0[n]? = some c → BelC m c) (hm : S0.length = m) (hn : m ≤ n) (hc : (S0 ++ T)[n]? = some (.lst ds)) (hd : Bels m ds) (q : Q (.rol ds) S0) : Leave m (S0 ++ T) (.loc n) Q :=
  ⟨.rol ds, S0, .new hn hc (fzl_bel ds hd), hm, fun n c e => ⟨c, by rw [List.getElem?_append_left (List.getElem?_eq_some_iff.mp e).1]; exact e, fzc_bel (hS n c e)⟩, q⟩
end
/-! ## a def by its body -/
def startD (N : List Str) (ds : List D) : Env := ds.map some ++ List.replicate (N.length - ds.length) none
theorem start_ok {K : PySem.W.Frag} {H : Hp} {μ : Mu} {N : List Str} {vs : List V} {ds : List D} (r : RVs K H μ vs ds) : Slots K H μ (L2.start N vs) (startD N ds) := by
  have hl := r.length
  refine ⟨by simp [L2.start, startD, hl], fun i d e => ?_⟩
  unfold startD at e
  by_cases hi : i < ds.length
  · rw [List.getElem?_append_left (by simpa using hi), List.getElem?_map] at e
    cases z : ds[i]? with
    | none => rw [z] at e; cases e
    | some d' =>
      rw [z] at e
      cases e
      obtain ⟨v, e1, r1⟩ := r.get z
      refine ⟨v, ?_, r1⟩
      unfold L2.start
      rw [List.getElem?_append_left (by rw [List.length_map, hl]; exact hi), List.getElem?_map, e1]
      rfl
  · rw [List.getElem?_append_right (by simpa using hi), List.getElem?_replicate] at e
    split at e <;> cases e
/-- what a body's end must show: what it made is let go, or all is kept -/
def Out (m : Nat) (S : Sto) (d : D) (Q : QD) : Prop := Leave m S d Q ∨ Q d S
theorem out_to {K : PySem.W.Frag} {μ0 : Mu} {H0 : Hp} {S0 : Sto} {Q : QD} {R : VK} (o0 : StoOk K H0 μ0 S0) (ha : After K Q μ0 H0 R) : After K (fun d S => Out S0.length S d Q) μ0 H0 R :=
  fun d S' q v H' μ' e' o' r => q.elim (fun z => leave_to o0 ha d S' z v H' μ' e' o' r) fun z => ha d S' z v H' μ' e' o' r
def endsOf (m : Nat) (Q : QD) : EndsD := { nx := fun _ S' => Out m S' .non Q, rt := fun d S' => Out m S' d Q }
section
variable {P : Program} {w : World} {K : PySem.W.Frag} {mg : Str → Option Value} {base : Heap}
theorem fng_mk {x qual : Str} {st : Stmt} {f : Addr} {fd : FuncData} {N ps : List Str} {k : Nat} {c : Con} {wb : WS} (F : Fun K x qual st f fd) (S : FnScope N ps (defScope st)) (len : ∀ ds S Q, c ds S Q → ds.length = ps.length)
    (hb : ∀ (cdv : Value) (A : Around) (outer : List PySem.Env) (s : Shared) (H : Hp), Room k (A.deeper (envOfC qual (defScope st) s.heap.objs.size f cdv)) → A.guards = some [] →
      JSs (cxOf CX0 P w K mg base N qual (defScope st) f cdv A outer s H E0).nox (defBody st) wb)
    (spec : ∀ ds S Q, CloS S → Bels S.length ds → c ds S Q → wb (endsOf S.length Q) (startD N ds) S) : FnG P w K mg base (k + 1) f fd ps c := by
  obtain ⟨oc, od, kV, doc, pm, an, cdv, ct, osl, rfl, lk, hcd⟩ := F.ex
  refine ⟨len, fun A outer s H args us vs μ ds S0 Q R hr hg e0 hbd r rd o0 hc ha => ?_⟩
  have KX : K.In s.heap := e0.mod.kin.keeps fun b o e => (e0.bs b o e).1
  have lim : s.heap.NoLimit := e0.mod.nolimit.keeps fun b o e => (e0.bs b o e).1
  have hl : vs.length = ps.length := by rw [rd.length]; exact len _ _ _ hc
  have hkind : ∀ y ∈ ps.zip us, (defScope st).names.lookup y.1 = some .local ∨ ((defScope st).names.lookup y.1 = some .cell ∧ ((cellsFrom (s.heap.objs.size + 1) (defScope st).names []).lookup y.1).isSome = true) := by
    rintro ⟨n, v⟩ hy
    rcases S.par n (List.of_mem_zip hy).1 with q | q
    · exact .inl q
    · exact .inr ⟨q, PySem.W.cellsFrom_some _ _ _ (.inl q)⟩
  refine codeAny_call_function hr.depth (KX _ _ lk) rfl S.co S.gen rfl (PySem.W.codeRec_of KX hcd) (hbd _ _ _ _ ?_)
  refine wpAny_newFunctionEnv_cells S.kind hkind fun env he s1 x => ?_
  subst he
  refine ⟨lim.keeps x.toInCall.keep, codeAny_func ?_⟩
  have hrun := hb cdv A outer s H (hr.deeper _) hg
  have I := inv_start (CX := CX0) (P := P) (E := E0) S hr.hd e0 hl r x
  have fin : ∀ {σ' : St} {H' : Hp} {v : V} {u : Value} {s' : Shared}, Inv (cxOf CX0 P w K mg base N qual (defScope st) f cdv A outer s H E0) [] σ' H' s' → RelV v u → R v H' → CE outer P w H s R u s' :=
    fun J rv q => ⟨_, _, J.os, J.bare, J.base, J.hok, rv, q⟩
  have ae : AfterE K (endsOf S0.length Q) μ H { nx := fun _ H' => R .non H', rt := R } :=
    ⟨fun ρ' S' q σ' H' μ' e' s' o' => out_to o0 ha .non S' q .non H' μ' e' o' (rv_non.mpr rfl), out_to o0 ha, fun _ _ q => q.elim, fun _ _ q => q.elim⟩
  refine wpAny_mono (hrun.run [] s1 (L2.start N vs) H { nx := fun _ H' => R .non H', rt := R } (I.wish _) ⟨μ, startD N ds, S0, _, start_ok rd, o0, spec ds S0 Q (clo_of o0) (by rw [← o0.len]; exact bels_of ds rd) hc, ae⟩) (fun fl s' hs => ?_) fun e s' hs => False.elim hs
  have hs := SP.unwish hs
  match fl, hs with
  | .ret u, ⟨v, σ', H', J, rv, q⟩ => exact fin J rv q
  | .next, ⟨σ', H', J, q⟩ => exact fin (v := V.non) (u := Value.none) J rfl q
  | .brk, ⟨_, _, _, q⟩ => exact False.elim q
  | .cont, ⟨_, _, _, q⟩ => exact False.elim q
end
end DL
namespace DL
open PySem PySem.Spec L2
open PyProof.Rows hiding St
/-- the abstract heap at the law's entry: the script alone, unless it is one of the module's own -/
def entryH (K : PySem.W.Frag) (a : Addr) (vs : List Value) (ns : List Int) : Hp := fun b =>
  if b = a ∧ K.lookup a = none then some (.frz { cls := .type "list", data := .seq vs.toArray } (.lst (ns.map V.int))) else none
theorem entry_some {K : PySem.W.Frag} {a b : Addr} {vs : List Value} {ns : List Int} {u : HO} (h : entryH K a vs ns b = some u) : b = a ∧ K.lookup a = none ∧ u = .frz { cls := .type "list", data := .seq vs.toArray } (.lst (ns.map V.int)) := by
  unfold entryH at h
  by_cases z : b = a ∧ K.lookup a = none
  · rw [if_pos z] at h; cases h; exact ⟨z.1, z.2, rfl⟩
  · rw [if_neg z] at h; cases h
section
variable {P : Program} {w : World} {K : PySem.W.Frag} {mg mb : Str → Option Value} {k : Nat} {fa a : Addr} {fd : FuncData} {x : Str} {c : Con} {s₁ : Shared} {vs : List Value} {ns : List Int}
theorem entry_rv (hi : IntsAre vs ns) (hl : ns.length ≤ sizeLine) (ha : s₁.heap.get? a = some { cls := .type "list", data := .seq vs.toArray }) (KX : K.In s₁.heap) : RV K (entryH K a vs ns) ⟨[], []⟩ (.ref a) (.fro (ns.map D.int)) := by
  have rs : ∀ l : List Int, RVs K (entryH K a vs ns) ⟨[], []⟩ (l.map V.int) (l.map D.int) := fun l => by
    induction l with
    | nil => exact RVs.nil
    | cons n l ih => exact RVs.cons (rv_int.mpr rfl) ih
  refine rv_fro.mpr ⟨a, ns.map V.int, rfl, ?_, rs ns⟩
  cases hk : K.lookup a with
  | none => exact .inl ⟨.inr ⟨_, by unfold entryH; exact if_pos ⟨rfl, hk⟩⟩, by simp [Mu.out]⟩
  | some o =>
    have e := KX a o hk
    rw [ha] at e
    cases e
    exact .inr ⟨_, vs.toArray, _, hk, rfl, rfl, rfl, by rw [List.size_toArray, hi.length]; exact hl, by simpa using vals_ints hi⟩
theorem entry_ok (hi : IntsAre vs ns) (hl : ns.length ≤ sizeLine) (ha : s₁.heap.get? a = some { cls := .type "list", data := .seq vs.toArray }) : HOk P w (entryH K a vs ns) s₁.heap := by
  intro b u h
  obtain ⟨rfl, _, rfl⟩ := entry_some h
  exact ⟨ha, by rw [List.length_map]; exact hl, vs, _, vals_ints hi, ha⟩
/-- the law's call, from the promise of its def -/
theorem law_ends (KX : K.In s₁.heap) (hns : s₁.heap.Ns mainGlobals mg) (hb : s₁.heap.Ns builtinsNs mb) (hbb : ∀ x : Str, x ≠ "__name__" → mb x = bootBuiltins x) (hlim : s₁.heap.NoLimit) (hg : s₁.gens = #[])
    (ha : s₁.heap.get? a = some { cls := .type "list", data := .seq vs.toArray }) (hi : IntsAre vs ns) (hl : ns.length ≤ sizeLine) (hr : Room k callerA)
    (F : ∀ base : Heap, K.In base → base.Ns mainGlobals mg → FnG P w K mg base k fa fd [x] c) (hbind : ∀ (s : Shared) (u : Value), BindsTo s fd ⟨[u], []⟩ [(x, u)])
    (hc : c [.fro (ns.map D.int)] [] (fun d _ => d = .bl true)) :
    codeAny (model P w) callerA (.call (.ref fa) ⟨[.ref a], []⟩) (fun r s' => r = .ok (.ret (.bool true)) ∧ OldK s₁.heap s'.heap ∧ s'.os = s₁.os ∧ AllBare s'.gens) s₁ := by
  let H : Hp := entryH K a vs ns
  have hok : HOk P w H s₁.heap := entry_ok hi hl ha
  -- what of the heap is not the script
  have notA : ∀ {b : Addr} {o : Obj}, s₁.heap.get? b = some o → (∀ es ep, o.data = .dict es ep → H b = none) := fun {b o} e es ep d => by
    cases q : H b with
    | none => rfl
    | some u =>
      obtain ⟨rfl, _, _⟩ := entry_some q
      rw [ha] at e; cases e
      exact nomatch d
  have nsH : ∀ {b : Addr} {m : Str → Option Value}, s₁.heap.Ns b m → (hidT s₁.heap H).Ns b m := fun {b m} n => by
    obtain ⟨o, es, ep, e, d, r⟩ := n
    exact ⟨o, es, ep, hidT_get e (notA e es ep d), d, r⟩
  have kb : K.In (hidT s₁.heap H) := fun b o e => by
    refine hidT_get (KX b o e) ?_
    cases q : H b with
    | none => rfl
    | some u =>
      obtain ⟨rfl, hk, _⟩ := entry_some q
      rw [hk] at e; cases e
  have md : Mod K mg (hidT s₁.heap H) := by
    obtain ⟨mc, h1, h2⟩ := hlim
    exact ⟨kb, nsH hns, ⟨mb, nsH hb, hbb⟩, mc, nsH h1, h2⟩
  have ev : Env0 P w K mg (hidT s₁.heap H) callerA [] s₁ H :=
    ⟨rfl, md, fun b o e => of_hidT e, Nat.le_of_eq (hidT_size _ _), trivial, fun b m => absurd (show b ∈ ([] : List Addr) from m) (by simp), hok, .of_eq hg⟩
  have run := (F _ kb (nsH hns)).run callerA [] s₁ H ⟨[.ref a], []⟩ [.ref a] [.ref a] ⟨[], []⟩ [.fro (ns.map D.int)] [] _ (fun v _ => v = .bl true) hr rfl ev (hbind s₁ (.ref a)) (.cons rfl .nil)
    (RVs.cons (entry_rv hi hl ha KX) RVs.nil) ⟨rfl, List.nodup_nil, fun n c e => by simp at e, fun b m => absurd (show b ∈ ([] : List Addr) from m) (by simp)⟩ hc (fun d S' q v H' μ' _ _ r => by subst q; exact rv_bl.mp r)
  refine codeAny_mono run fun r s' h => ?_
  match r, h with
  | .error _, h => exact h.elim
  | .ok .next, h => exact False.elim h
  | .ok .brk, h => exact False.elim h
  | .ok .cont, h => exact False.elim h
  | .ok (.ret u), ⟨v, H', os, bare, un, hok', r', q⟩ =>
    have q' : v = .bl true := q
    subst q'
    obtain rfl : u = Value.bool true := r'
    refine ⟨rfl, OldK.of_keep fun b o e => ?_, os, bare⟩
    cases q : H b with
    | none => exact un.keep b o e q (fun m => absurd (show b ∈ ([] : List Addr) from m) (by simp)) (by simp)
    | some u =>
      obtain ⟨rfl, _, rfl⟩ := entry_some q
      rw [ha] at e; cases e
      exact (hok' b _ (un.frzs b _ _ q)).1
end
/-- the whole walk of a law row -/
theorem walk_G {l : PySem.W.OpenLaw} {n k : Nat} {q : Program} {loose : List Str} {XP : (Str → Option Value) → Heap → Prop} {YP : World → Heap → Prop} {d : DefRec} {K : Params → PySem.W.Frag} {x : Str} {c : Con}
    (hn : l.most = some n) (hn2 : n ≤ sizeLine) (hdf : d.params.defaults = []) (hr : Room k callerA) (hY : ∀ (w : World) (h : Heap), YP w h → (K w.params).In h)
    (F : ∀ (w : World) (mg : Str → Option Value) (fa : Addr) (h : Heap), (K w.params).In h → h.Ns mainGlobals mg → mg d.name = some (.ref fa) →
      ∃ fd : FuncData, (∀ (s : Shared) (u : Value), BindsTo s fd ⟨[u], []⟩ [(x, u)]) ∧ ∀ base : Heap, (K w.params).In base → base.Ns mainGlobals mg → FnG l.prog w (K w.params) mg base k fa fd [x] c)
    (hc : ∀ ns : List Int, ns.length ≤ n → c [.fro (ns.map D.int)] [] (fun d _ => d = .bl true)) :
    PySem.W.WalkO q loose XP YP l.row.toRowW d [] (fun f vs => PySem.call f vs) := by
  refine Att.attach_call hn hdf fun w s₀ s₁ mg mb fa o pm cd doc a vs ns G Y ho hd hcd hmg hobj hints hlen hg => ?_
  have KX := hY w _ Y
  obtain ⟨fd, hb, hF⟩ := F w mg fa _ KX G.T.g hmg
  exact law_ends KX G.T.g G.T.b G.T.builtins G.T.nolimit hg hobj hints (Nat.le_trans hlen hn2) hr hF hb (hc ns hlen)
end DL
namespace DL
open PySem PySem.Spec L2
open PyProof.Rows hiding St
/-! ## dicts with int and text keys -/
def keyD : D → Option Key
  | .int i => some (.inl i)
  | .str x => some (.inr x)
  | _ => none
def valD (kvs : List (Key × D)) (k : Key) : Option D := (kvs.find? fun kv => decide (kv.1 = k)).map (·.2)
def putD (kvs : List (Key × D)) (k : Key) (d : D) : List (Key × D) :=
  if (kvs.any fun kv => decide (kv.1 = k)) = true then kvs.map (fun kv => if kv.1 = k then (kv.1, d) else kv) else kvs ++ [(k, d)]
section
variable {K : PySem.W.Frag} {H : Hp} {μ : Mu}
theorem keyD_rv {d : D} {k : Key} {v : V} (h : keyD d = some k) (r : RV K H μ v d) : v = kV k := by
  cases d with
  | int i => cases h; exact rv_int.mp r
  | str x => cases h; exact rv_str.mp r
  | _ => cases h
theorem KvOk.any {us : List (Key × V)} {kvs : List (Key × D)} (h : KvOk K H μ us kvs) (k : Key) : (us.any fun kv => decide (kv.1 = k)) = kvs.any fun kv => decide (kv.1 = k) := by
  have h2 : Paired (fun (p : Key × V) (q : Key × D) => p.1 = q.1 ∧ RV K H μ p.2 q.2) us kvs := h
  clear h
  induction h2 with
  | nil => rfl
  | cons z _ ih => rw [List.any_cons, List.any_cons, ih, z.1]
theorem KvOk.find : ∀ {us : List (Key × V)} {kvs : List (Key × D)}, Paired (fun (p : Key × V) (q : Key × D) => p.1 = q.1 ∧ RV K H μ p.2 q.2) us kvs → ∀ k, match valD kvs k with
    | some d => ∃ v, valV us k = some v ∧ RV K H μ v d
    | none => valV us k = none
  | _, _, .nil, k => rfl
  | (k1, u) :: us, (k2, d) :: kvs, .cons z t, k => by
    obtain ⟨z1, z2⟩ := z
    have z1 : k1 = k2 := z1
    subst z1
    have ih := KvOk.find t k
    by_cases e : k1 = k
    · subst e
      have e1 : valD ((k1, d) :: kvs) k1 = some d := by simp [valD, List.find?_cons]
      have e2 : valV ((k1, u) :: us) k1 = some u := by simp [valV, List.find?_cons]
      rw [e1]
      exact ⟨u, e2, z2⟩
    · have e1 : valD ((k1, d) :: kvs) k = valD kvs k := by simp [valD, List.find?_cons, e]
      have e2 : valV ((k1, u) :: us) k = valV us k := by simp [valV, List.find?_cons, e]
      rw [e1, e2]
      exact ih
theorem KvOk.some {us : List (Key × V)} {kvs : List (Key × D)} (h : KvOk K H μ us kvs) {k : Key} {d : D} (e : valD kvs k = some d) : ∃ v, valV us k = some v ∧ RV K H μ v d := by
  have := KvOk.find h k
  rw [e] at this
  exact this
theorem KvOk.none {us : List (Key × V)} {kvs : List (Key × D)} (h : KvOk K H μ us kvs) {k : Key} (e : valD kvs k = Option.none) : valV us k = Option.none := by
  have := KvOk.find h k
  rw [e] at this
  exact this
theorem KvOk.len {us : List (Key × V)} {kvs : List (Key × D)} (h : KvOk K H μ us kvs) : us.length = kvs.length := Paired.length h
theorem KvOk.repl {k : Key} {v : V} {d : D} (r : RV K H μ v d) : ∀ {us : List (Key × V)} {kvs : List (Key × D)}, Paired (fun (p : Key × V) (q : Key × D) => p.1 = q.1 ∧ RV K H μ p.2 q.2) us kvs →
    Paired (fun (p : Key × V) (q : Key × D) => p.1 = q.1 ∧ RV K H μ p.2 q.2) (us.map fun kv => if kv.1 = k then (kv.1, v) else kv) (kvs.map fun kv => if kv.1 = k then (kv.1, d) else kv)
  | _, _, .nil => .nil
  | (k1, u) :: us, (k2, d') :: kvs, .cons z t => by
    obtain ⟨z1, z2⟩ := z
    have z1 : k1 = k2 := z1
    subst z1
    rw [List.map_cons, List.map_cons]
    refine .cons ?_ (KvOk.repl r t)
    by_cases e : k1 = k
    · rw [if_pos e, if_pos e]; exact ⟨rfl, r⟩
    · rw [if_neg e, if_neg e]; exact ⟨rfl, z2⟩
theorem KvOk.snoc {p : Key × V} {q : Key × D} (z : p.1 = q.1 ∧ RV K H μ p.2 q.2) : ∀ {us : List (Key × V)} {kvs : List (Key × D)}, Paired (fun (p : Key × V) (q : Key × D) => p.1 = q.1 ∧ RV K H μ p.2 q.2) us kvs →
    Paired (fun (p : Key × V) (q : Key × D) => p.1 = q.1 ∧ RV K H μ p.2 q.2) (us ++ [p]) (kvs ++ [q])
  | _, _, .nil => .cons z .nil
  | _, _, .cons y t => .cons y (KvOk.snoc z t)
theorem KvOk.put {us : List (Key × V)} {kvs : List (Key × D)} (h : KvOk K H μ us kvs) {k : Key} {v : V} {d : D} (r : RV K H μ v d) : KvOk K H μ (putK us k v) (putD kvs k d) := by
  unfold putK putD
  rw [h.any]
  by_cases e : (kvs.any fun kv => decide (kv.1 = k)) = true
  · rw [if_pos e, if_pos e]; exact KvOk.repl r h
  · rw [if_neg e, if_neg e]; exact KvOk.snoc ⟨rfl, r⟩ h
end
section
variable {X : Cx}
/-- d[k], there -/
def gIxD : G2 := fun x y S Q => match x with
  | .loc n => ∃ kvs k d, S[n]? = some (.dic kvs) ∧ keyD y = some k ∧ valD kvs k = some d ∧ Q d S
  | _ => False
theorem ix_dict (hu : X.A.units + 1 < cLine) : IxR X (fun x y H Q => ∃ a v, x = .ref a ∧ DGet H a y (some v) ∧ Q v H) := by
  intro value slice pins s σ H x y v u Q I rx ry ⟨a, z, ex, g, q⟩ hs
  subst ex
  obtain rfl : v = Value.ref a := rx
  exact PyProof.Rows.tail_any (dict_typeIs I g) PySem.F.slot_dict_getitem.lookup (d_getItem hu I g ry fun w' s' I' r' => ⟨z, H, I', r', q⟩) hs
theorem j_ixD (hu : X.A.units + 1 < cLine) : IxJ X gIxD := by
  refine ⟨_, ix_dict hu, fun {μ H S x y v u Q R} o rx ry q ha => ?_⟩
  cases x with
  | loc n =>
    obtain ⟨kvs, k, d, hc, hk, hv, q⟩ := q
    obtain ⟨a, us, rfl, ha', hH, kv⟩ := dic_ok o rx hc
    obtain ⟨w, hw, rw'⟩ := kv.some hv
    refine ⟨a, w, rfl, .inl ⟨us, k, .inl hH, keyD_rv hk ry, hw.symm⟩, ha.here o q rw'⟩
  | _ => exact q.elim
/-! ## o[i] = v -/
abbrev GPut := D → D → D → Sto → (Sto → Prop) → Prop
def put : GPut := fun x y d S Q => match x with
  | .loc n => match S[n]? with
    | some (.lst ds) => ∃ i j, y = .int i ∧ ixN ds.length i = some j ∧ Q (S.set n (.lst (ds.set j d)))
    | some (.dic kvs) => ∃ k, keyD y = some k ∧ kvs.length < sizeLine ∧ Q (S.set n (.dic (putD kvs k d)))
    | _ => False
  | _ => False
theorem set_dict (hu : X.A.units + 1 < cLine) : PSet X (fun o i v H Q => ∃ a H', o = .ref a ∧ DPut H a i v H' ∧ Q H') := by
  intro pins s σ H o i v ov iv u Q I ro ri rv ⟨a, H', eo, g, q⟩
  subst eo
  obtain rfl : ov = Value.ref a := ro
  exact d_setItem hu I g ri rv fun s' I' => ⟨H', I', q⟩
theorem PSet.or {t t' : TSet} (h : PSet X t) (h' : PSet X t') : PSet X fun o i v H Q => t o i v H Q ∨ t' o i v H Q := by
  intro pins s σ H o i v ov iv u Q I ro ri rv q
  rcases q with q | q
  · exact h pins s σ H o i v ov iv u Q I ro ri rv q
  · exact h' pins s σ H o i v ov iv u Q I ro ri rv q
def gAt (wo wi : WE) : WG := fun d ρ S q => wo ρ S fun x S1 => wi ρ S1 fun y S2 => put x y d S2 fun S3 => q ρ S3
theorem jg_sub {o i : Expr} {wo wi : WE} {pos : Pos} (hu : X.A.units + 1 < cLine) (ho : JE X o wo) (hi : JE X i wi)
    (ha : ∀ v, assign (.Subscript o i pos) X.env v = (do
      let ov ← holding [v] (eval o X.env)
      let iv ← holding [v, ov] (eval i X.env)
      standAt pos
      holding [v, ov, iv] (setItem ov iv v)
      release [v, ov, iv] []) := by intro _; rfl) : JG X (.Subscript o i pos) (gAt wo wi) := by
  refine PG.imp (pg_sub ho hi (PSet.or set_list (set_dict hu)) ha) fun v σ H R ⟨μ, ρ, S, d, q, hs, ho, r, hw, ha⟩ => ⟨μ, ρ, S, _, hs, ho, hw, fun x S1 q1 v1 H1 μ1 e1 o1 r1 => ?_⟩
  refine ⟨μ1, ρ, S1, _, hs.ext e1, o1, q1, fun y S2 q2 v2 H2 μ2 e2 o2 r2 => ?_⟩
  have e12 := e1.trans e2
  have rd := RV.ext e12 d r
  have rx := RV.ext e2 x r1
  cases x with
  | loc n =>
    unfold put at q2
    simp only at q2
    split at q2
    · rename_i ds hc
      obtain ⟨k, j, rfl, hj, q3⟩ := q2
      obtain ⟨a, rfl, ha1⟩ := rv_loc.mp rx
      obtain ⟨vs, hH, rs⟩ := o2.addr hc ha1
      refine .inl ⟨a, vs, k, j, rfl, rv_int.mp r2, hH, by rw [rs.length]; exact hj, ?_⟩
      have ew := Ext.write (H := H2) (o := HO.lst (vs.set j v)) (List.mem_of_getElem? ha1)
      refine ha _ _ q3 _ _ _ (e12.trans ew) ((hs.ext e12).ext ew) (o2.write ha1 ⟨_, upd_same, RVs.ext ew _ (RVs.set rd j rs)⟩)
    · rename_i kvs hc
      obtain ⟨k, hk, hz, q3⟩ := q2
      obtain ⟨a, us, rfl, ha1, hH, kv⟩ := dic_ok o2 rx hc
      refine .inr ⟨a, _, rfl, .inl ⟨us, k, hH, keyD_rv hk r2, by rw [kv.len]; exact hz, rfl⟩, ?_⟩
      have ew := Ext.write (H := H2) (o := HO.dK (putK us k v)) (List.mem_of_getElem? ha1)
      refine ha _ _ q3 _ _ _ (e12.trans ew) ((hs.ext e12).ext ew) (o2.write ha1 ⟨_, upd_same, (kv.put rd).ext ew⟩)
    · exact q2.elim
  | _ => exact q2.elim
/-- in, not in -/
def gInD : G2 := fun y x S Q => match x with
  | .loc n => ∃ kvs k, S[n]? = some (.dic kvs) ∧ keyD y = some k ∧ Q (.bl (valD kvs k).isSome) S
  | _ => False
/-! ## {k: v, ..} -/
def wPairs : List (WE × WE) → Env → Sto → (List (D × D) → Sto → Prop) → Prop
  | [], _, S, Q => Q [] S
  | (k, v) :: r, ρ, S, Q => k ρ S fun x S1 => v ρ S1 fun y S2 => wPairs r ρ S2 fun ps S3 => Q ((x, y) :: ps) S3
def mergeD : List (D × D) → List (Key × D) → Option (List (Key × D))
  | [], acc => some acc
  | (x, y) :: r, acc => match keyD x with
    | some k => mergeD r (putD acc k y)
    | none => none
def wDict (ps : List (WE × WE)) : WE := fun ρ S Q => wPairs ps ρ S fun xs S1 => ∃ kvs, mergeD xs [] = some kvs ∧ xs.length ≤ 15 ∧ Q (.loc S1.length) (S1 ++ [.dic kvs])
end
section
variable {X : Cx} {pos : Pos}
theorem je_dict0 : JE X (.Dict [] [] pos) (wDict []) :=
  PE.imp pe_dnewK fun σ H R ⟨μ, ρ, S, Q, hs, ho, ⟨kvs, e, _, q⟩, ha⟩ => by
    cases e
    exact ha.dic ho q .nil
/-- the pairs' readings, lifted -/
inductive JPs (X : Cx) (pos : Pos) : List (Option Expr) → List Expr → List (WE × WE) → Prop
  | nil : JPs X pos [] [] []
  | cons {k v : Expr} {ks : List (Option Expr)} {vs : List Expr} {wk wv : WE} {ps : List (WE × WE)} : JE X k wk → JE X v wv → JPs X pos ks vs ps → JPs X pos (some k :: ks) (v :: vs) ((wk, wv) :: ps)
theorem jps_to {keys : List (Option Expr)} {values : List Expr} {ps : List (WE × WE)} (h : JPs X pos keys values ps) : PPs X pos keys values (ps.map fun p => (LE X.K p.1, LE X.K p.2)) := by
  induction h with
  | nil => exact pps_nil
  | cons h1 h2 _ ih => exact pps_cons h1 h2 ih
theorem pairs_to {K : PySem.W.Frag} : ∀ (ps : List (WE × WE)) {μ : Mu} {σ : St} {H : Hp} {ρ : Env} {S : Sto} {Q : List (D × D) → Sto → Prop} {R : List (V × V) → Hp → Prop}, Slots K H μ σ ρ → StoOk K H μ S → wPairs ps ρ S Q →
    (∀ xs S' H' μ' vs, Q xs S' → Ext μ μ' H H' → StoOk K H' μ' S' → Paired (fun (v : V × V) (x : D × D) => RV K H' μ' v.1 x.1 ∧ RV K H' μ' v.2 x.2) vs xs → R vs H') → tPairs (ps.map fun p => (LE K p.1, LE K p.2)) σ H R
  | [], μ, σ, H, ρ, S, Q, R, hs, ho, hw, k => k _ _ _ _ _ hw Ext.refl ho .nil
  | (wk, wv) :: ps, μ, σ, H, ρ, S, Q, R, hs, ho, hw, k => by
    refine ⟨μ, ρ, S, _, hs, ho, hw, fun x S1 q v H1 μ1 e1 o1 r1 => ⟨μ1, ρ, S1, _, hs.ext e1, o1, q, fun y S2 q2 u H2 μ2 e2 o2 r2 => ?_⟩⟩
    refine pairs_to ps (hs.ext (e1.trans e2)) o2 q2 fun xs S' H' μ' vs q3 e3 o3 rs => ?_
    exact k _ _ _ _ _ q3 ((e1.trans e2).trans e3) o3 (.cons ⟨RV.ext (e2.trans e3) x r1, RV.ext e3 y r2⟩ rs)
theorem merge_to {K : PySem.W.Frag} {H : Hp} {μ : Mu} : ∀ {xs : List (D × D)} {vs : List (V × V)} {acc kvs : List (Key × D)} {us : List (Key × V)}, Paired (fun (v : V × V) (x : D × D) => RV K H μ v.1 x.1 ∧ RV K H μ v.2 x.2) vs xs → mergeD xs acc = some kvs → KvOk K H μ us acc →
    ∃ ws : List (Key × V), vs = ws.map (fun kv => (kV kv.1, kv.2)) ∧ ws.length = xs.length ∧ KvOk K H μ (mergeK us ws) kvs
  | [], _, acc, kvs, us, .nil, e, r => by cases e; exact ⟨[], rfl, rfl, r⟩
  | (x, y) :: xs, (v1, v2) :: vs, acc, kvs, us, .cons z t, e, r => by
    unfold mergeD at e
    cases hk : keyD x with
    | none => rw [hk] at e; cases e
    | some k =>
      rw [hk] at e
      obtain ⟨ws, e1, hl, r1⟩ := merge_to t e (r.put z.2)
      refine ⟨(k, v2) :: ws, ?_, by simp [hl], r1⟩
      have := keyD_rv hk z.1
      have this : v1 = kV k := this
      rw [List.map_cons, ← e1, this]
theorem je_dict {keys : List (Option Expr)} {values : List Expr} {ps : List (WE × WE)} (h : JPs X pos keys values ps) (hall : keys.all (·.isSome) = true := by rfl) (hl : keys.length = values.length := by rfl) (h0 : keys ≠ [] := by exact List.cons_ne_nil _ _) (h15 : keys.length ≤ 15 := by decide) : JE X (.Dict keys values pos) (wDict ps) := by
  refine PE.imp (pe_disp (jps_to h) hall hl h0 h15) fun σ H R ⟨μ, ρ, S, Q, hs, ho, hw, ha⟩ p hp => ?_
  refine pairs_to ps (hs.ext (Ext.hide hp)) (ho.hide hp) hw fun xs S' H' μ' vs ⟨kvs, em, hz, q⟩ e' o' rs => ?_
  have hf : p ∈ μ'.fb := e'.sub p List.mem_cons_self
  have hl' : H' p = some (.dK []) := e'.keep _ _ upd_same (by
    intro m
    exact (ho.out hp).1 m)
  obtain ⟨ws, e1, e2, kv⟩ := merge_to (us := []) rs em .nil
  refine ⟨hl', ws, e1, by rw [e2]; exact hz, ?_⟩
  have e0 : Ext μ μ' H H' := (Ext.hide hp).trans e'
  have hn : ∀ b, b ∈ μ.fb → b ∈ μ'.fb := e0.sub
  have nl : p ∉ μ'.lo := (o'.fbd p hf).1
  -- the store with the dict as its last cell
  have ee : Ext μ ⟨μ'.lo ++ [p], μ.fb⟩ H (upd H' p (.dK (mergeK [] ws))) := by
    refine ⟨by obtain ⟨t, et⟩ := e0.pre; exact ⟨t ++ [p], by show μ'.lo ++ [p] = _; rw [et]; simp⟩, (e0.turn hp).keep, (e0.turn hp).trk, fun b m n => ?_, fun _ h => .inl h, fun _ h => h⟩
    rcases List.mem_append.mp m with m | m
    · exact e0.new b m n
    · rw [List.mem_singleton.mp m]; exact hp
  have mv : Mv H' (upd H' p (.dK (mergeK [] ws))) μ' ⟨μ'.lo ++ [p], μ.fb⟩ := by
    refine ⟨fun a o h n => ⟨by rw [upd_ne (fun z => n.2 (by rw [z]; exact hf))]; exact h, fun m => ?_, fun m => n.2 (hn a m)⟩, fun n a h => ?_⟩
    · rcases List.mem_append.mp m with m | m
      · exact n.1 m
      · rw [List.mem_singleton.mp m] at n; exact n.2 hf
    · show (μ'.lo ++ [p])[n]? = some a
      rw [List.getElem?_append_left (List.getElem?_eq_some_iff.mp h).1]; exact h
  refine ha _ _ q _ _ ⟨μ'.lo ++ [p], μ.fb⟩ ee ⟨by show (μ'.lo ++ [p]).length = _; simp [o'.len], ?_, fun n c e => ?_, fun a m => ?_⟩ (rv_loc.mpr ⟨p, rfl, by show (μ'.lo ++ [p])[S'.length]? = _; rw [← o'.len]; simp⟩)
  · show (μ'.lo ++ [p]).Nodup
    rw [List.nodup_append]
    refine ⟨o'.nd, by simp, fun a ha b hb => ?_⟩
    rw [List.mem_singleton.mp hb]
    rintro rfl
    exact nl ha
  · by_cases hlt : n < S'.length
    · rw [List.getElem?_append_left hlt] at e
      obtain ⟨a, q1, q2⟩ := o'.cell n c e
      have na : a ≠ p := fun z => nl (by rw [← z]; exact List.mem_of_getElem? q1)
      refine ⟨a, ?_, q2.imp (upd_ne na) fun d v z => RV.move mv d z⟩
      show (μ'.lo ++ [p])[n]? = _
      rw [List.getElem?_append_left (by rw [o'.len]; exact hlt)]; exact q1
    · rw [List.getElem?_append_right (Nat.le_of_not_lt hlt)] at e
      have hn2 : n - S'.length = 0 := by
        have := (List.getElem?_eq_some_iff.mp e).1
        simp at this; omega
      rw [hn2] at e
      simp at e
      subst e
      have : n = S'.length := by omega
      subst this
      exact ⟨p, by show (μ'.lo ++ [p])[S'.length]? = _; rw [← o'.len]; simp, _, upd_same, Paired.mapP kv fun p q z => ⟨z.1, RV.move mv q.2 z.2⟩⟩
  · have m : a ∈ μ.fb := m
    obtain ⟨n1, u, e3⟩ := o'.fbd a (hn a m)
    obtain ⟨_, u2, e4⟩ := ho.fbd a m
    have na : a ≠ p := fun z => by rw [z, hp] at e4; cases e4
    refine ⟨fun z => ?_, u, by rw [upd_ne na]; exact e3⟩
    rcases List.mem_append.mp z with z | z
    · exact n1 z
    · exact na (List.mem_singleton.mp z)
end
end DL
namespace DL
open PySem PySem.Spec L2
open PyProof.Rows hiding St
/-! ## isinstance -/
def tyC : Option Cell → Option String
  | some (.lst _) => some "list"
  | some (.dic _) => some "dict"
  | _ => none
def tyOf (S : Sto) : D → Option String
  | .non => some "NoneType"
  | .bl _ => some "bool"
  | .int _ => some "int"
  | .str _ => some "str"
  | .tup _ => some "tuple"
  | .rol _ => some "list"
  | .fro _ => some "list"
  | .loc n => tyC S[n]?
  | .ty _ => none
def tyNames : List String := ["NoneType", "bool", "int", "str", "tuple", "list", "dict"]
def isiB (t T : String) : Bool := t == T || (t == "bool" && T == "int")
theorem kit_all : (tyNames.all fun t => ["bool", "int", "str", "tuple", "list", "dict"].all fun T => decide (kitB t T = some (isiB t T))) = true := by decide +kernel
theorem kit_at {t T : String} (h1 : t ∈ tyNames) (h2 : T ∈ ["bool", "int", "str", "tuple", "list", "dict"]) : kitB t T = some (isiB t T) :=
  of_decide_eq_true (List.all_eq_true.mp (List.all_eq_true.mp kit_all t h1) T h2)
def gIsi : GL := fun ds S Q => match ds with
  | [x, .ty T] => ∃ t, tyOf S x = some t ∧ T ∈ ["bool", "int", "str", "tuple", "list", "dict"] ∧ Q (.bl (isiB t T)) S
  | _ => False
section
variable {K : PySem.W.Frag} {H : Hp} {μ : Mu} {S : Sto}
theorem ty_names {d : D} {t : String} (h : tyOf S d = some t) : t ∈ tyNames := by
  cases d with
  | loc n =>
    have h : tyC S[n]? = some t := h
    cases e : S[n]? with
    | none => rw [e] at h; cases h
    | some c =>
      rw [e] at h
      cases c <;> first | (cases h; done) | (cases h; decide)
  | ty _ => cases h
  | _ => cases h; decide
theorem ty_rv (o : StoOk K H μ S) {d : D} {v : V} {t : String} (r : RV K H μ v d) (h : tyOf S d = some t) : TyX K H v (.type t) := by
  cases d with
  | non => cases h; rw [rv_non.mp r]; exact .base .non
  | bl b => cases h; rw [rv_bl.mp r]; exact .base (.bl b)
  | int b => cases h; rw [rv_int.mp r]; exact .base (.int b)
  | str b => cases h; rw [rv_str.mp r]; exact .base (.str b)
  | tup ds =>
    cases h
    obtain ⟨a, vs, rfl, q, _⟩ := rv_tup.mp r
    rcases q with ⟨q, _⟩ | ⟨o, its, n, h1, h2, _⟩
    · exact .base (.tup q)
    · exact .kTuple h1 h2
  | rol ds =>
    cases h
    obtain ⟨a, vs, rfl, q, _⟩ := rv_rol.mp r
    exact .base (.lst q.1)
  | fro ds =>
    cases h
    obtain ⟨a, vs, rfl, q, _⟩ := rv_fro.mp r
    rcases q with ⟨q | ⟨o, q⟩, _⟩ | ⟨o, its, n, h1, h2, _⟩
    · exact .base (.lst q)
    · exact .base (.frz q)
    · exact .kList h1 h2
  | loc n =>
    obtain ⟨a, rfl, q⟩ := rv_loc.mp r
    have h : tyC S[n]? = some t := h
    cases e : S[n]? with
    | none => rw [e] at h; cases h
    | some c =>
      rw [e] at h
      cases c with
      | lst ds =>
        cases h
        obtain ⟨vs, h1, _⟩ := o.addr e q
        exact .base (.lst h1)
      | dic kvs =>
        cases h
        obtain ⟨vs, h1, _⟩ := o.addr e q
        exact .base (.dK h1)
      | dct ep kvs => cases h
      | ins C fs => cases h
  | ty _ => cases h
end
section
variable {X : Cx}
theorem c_isi : CallJ X (.builtin "isinstance") gIsi := by
  refine ⟨_, call_isi, fun {μ H S ds vs Q R} o r q ha => ?_⟩
  unfold gIsi at q
  split at q
  · rename_i x T
    obtain ⟨t, h1, h2, q⟩ := q
    obtain ⟨v, u, rfl, r1, r2⟩ := rvs_two r
    refine ⟨v, u, .type t, .type T, isiB t T, rfl, ?_, ty_rv o r1 h1, kit_ty (kit_at (ty_names h1) h2), ha.here o q (rv_bl.mpr rfl)⟩
    rw [rv_ty.mp r2]
    exact .ty T
  · exact q.elim
/-! ## len -/
def gLen : GL := fun ds S Q => match ds with
  | [.tup xs] => Q (.int xs.length) S
  | [.str z] => z.length ≤ sizeLine ∧ Q (.int z.length) S
  | [.loc n] => match S[n]? with
    | some (.lst xs) => Q (.int xs.length) S
    | some (.dic kvs) => Q (.int kvs.length) S
    | _ => False
  | [.rol xs] => Q (.int xs.length) S
  | [.fro xs] => Q (.int xs.length) S
  | _ => False
theorem call_len_dict : CallR X (.builtin "len") (fun xs H Q => ∃ a kvs, xs = [.ref a] ∧ Rd H a (.dK kvs) ∧ Q (.int kvs.length) H) := by
  intro pins s σ H xs us Q I r ⟨a, kvs, e, h, q⟩
  subst e
  obtain ⟨u, rfl, ru⟩ := vals1 r
  obtain rfl : u = Value.ref a := ru
  exact d_len I h fun t s' I' => ⟨.int kvs.length, H, I', ⟨t, rfl⟩, q⟩
theorem c_len : CallJ X (.builtin "len") gLen := by
  refine ⟨_, call_len_seq.or (call_len_str.or call_len_dict), fun {μ H S ds vs Q R} o r q ha => ?_⟩
  unfold gLen at q
  split at q
  · rename_i xs
    obtain ⟨v, rfl, r1⟩ := rvs_one r
    obtain ⟨a, ws, rfl, h1, h2⟩ := rv_tup.mp r1
    exact .inl ⟨a, ws, rfl, .inr h1.sq, by rw [h2.length]; exact ha.here o q (rv_int.mpr rfl)⟩
  · rename_i z
    obtain ⟨v, rfl, r1⟩ := rvs_one r
    exact .inr (.inl ⟨z, by rw [rv_str.mp r1], q.1, ha.here o q.2 (rv_int.mpr rfl)⟩)
  · rename_i n
    obtain ⟨v, rfl, r1⟩ := rvs_one r
    obtain ⟨a, rfl, h1⟩ := rv_loc.mp r1
    split at q
    · rename_i xs hc
      obtain ⟨ws, h2, h3⟩ := o.addr hc h1
      exact .inl ⟨a, ws, rfl, .inl (.inl (.inl h2)), by rw [h3.length]; exact ha.here o q (rv_int.mpr rfl)⟩
    · rename_i kvs hc
      obtain ⟨ws, h2, h3⟩ := o.addr hc h1
      refine .inr (.inr ⟨a, ws, rfl, .inl h2, ?_⟩)
      rw [KvOk.len h3]
      exact ha.here o q (rv_int.mpr rfl)
    · exact q.elim
  · rename_i xs
    obtain ⟨v, rfl, r1⟩ := rvs_one r
    obtain ⟨a, ws, rfl, h1, h2⟩ := rv_rol.mp r1
    exact .inl ⟨a, ws, rfl, .inl h1.sq, by rw [h2.length]; exact ha.here o q (rv_int.mpr rfl)⟩
  · rename_i xs
    obtain ⟨v, rfl, r1⟩ := rvs_one r
    obtain ⟨a, ws, rfl, h1, h2⟩ := rv_fro.mp r1
    exact .inl ⟨a, ws, rfl, .inl h1.sq, by rw [h2.length]; exact ha.here o q (rv_int.mpr rfl)⟩
  · exact q.elim
/-! ## ints -/
def gInt : GL := fun ds S Q => match ds with
  | [.int i] => Q (.int i) S
  | [.bl k] => Q (.int (if k then 1 else 0)) S
  | _ => False
theorem c_int : CallJ X (.type "int") gInt := by
  refine ⟨_, call_int1, fun {μ H S ds vs Q R} o r q ha => ?_⟩
  unfold gInt at q
  split at q
  · rename_i i
    obtain ⟨v, rfl, r1⟩ := rvs_one r
    exact .inl ⟨i, by rw [rv_int.mp r1], ha.here o q (rv_int.mpr rfl)⟩
  · rename_i k
    obtain ⟨v, rfl, r1⟩ := rvs_one r
    exact .inr ⟨k, by rw [rv_bl.mp r1], ha.here o q (rv_int.mpr rfl)⟩
  · exact q.elim
def gAbs : GL := fun ds S Q => match ds with
  | [.int i] => Q (.int (if i < 0 then -i else i)) S
  | _ => False
theorem c_abs : CallJ X (.builtin "abs") gAbs := by
  refine ⟨_, call_abs, fun {μ H S ds vs Q R} o r q ha => ?_⟩
  unfold gAbs at q
  split at q
  · rename_i i
    obtain ⟨v, rfl, r1⟩ := rvs_one r
    exact ⟨i, by rw [rv_int.mp r1], ha.here o q (rv_int.mpr rfl)⟩
  · exact q.elim
def gMax2 : GL := fun ds S Q => match ds with
  | [.int i, .int j] => Q (.int (if j > i then j else i)) S
  | _ => False
def gMin2 : GL := fun ds S Q => match ds with
  | [.int i, .int j] => Q (.int (if j < i then j else i)) S
  | _ => False
theorem c_max2 (hc : X.calm = true) : CallJ X (.builtin "max") gMax2 := by
  refine ⟨_, call_max2 hc, fun {μ H S ds vs Q R} o r q ha => ?_⟩
  unfold gMax2 at q
  split at q
  · rename_i i j
    obtain ⟨v, u, rfl, r1, r2⟩ := rvs_two r
    exact ⟨i, j, by rw [rv_int.mp r1, rv_int.mp r2], ha.here o q (rv_int.mpr rfl)⟩
  · exact q.elim
theorem c_min2 (hc : X.calm = true) : CallJ X (.builtin "min") gMin2 := by
  refine ⟨_, call_min2 hc, fun {μ H S ds vs Q R} o r q ha => ?_⟩
  unfold gMin2 at q
  split at q
  · rename_i i j
    obtain ⟨v, u, rfl, r1, r2⟩ := rvs_two r
    exact ⟨i, j, by rw [rv_int.mp r1, rv_int.mp r2], ha.here o q (rv_int.mpr rfl)⟩
  · exact q.elim
/-! ## over lists -/
def bools : List D → Option (List Bool)
  | [] => some []
  | .bl b :: r => (bools r).map (b :: ·)
  | _ => none
def intsOf : List D → Option (List Int)
  | [] => some []
  | .int i :: r => (intsOf r).map (i :: ·)
  | _ => none
theorem bools_rv {K : PySem.W.Frag} {H : Hp} {μ : Mu} : ∀ {ds : List D} {vs : List V} {bs : List Bool}, bools ds = some bs → RVs K H μ vs ds → vs = bs.map V.bl
  | [], _, _, h, r => by cases h; rw [RVs] at r; exact r
  | .bl b :: ds, _, _, h, r => by
    unfold bools at h
    cases e : bools ds with
    | none => rw [e] at h; cases h
    | some bs =>
      rw [e] at h; cases h
      rw [RVs] at r
      obtain ⟨v, t, rfl, r1, r2⟩ := r
      rw [rv_bl.mp r1, bools_rv e r2]; rfl
  | .non :: _, _, _, h, _ => by cases h
  | .int _ :: _, _, _, h, _ => by cases h
  | .str _ :: _, _, _, h, _ => by cases h
  | .tup _ :: _, _, _, h, _ => by cases h
  | .rol _ :: _, _, _, h, _ => by cases h
  | .fro _ :: _, _, _, h, _ => by cases h
  | .loc _ :: _, _, _, h, _ => by cases h
  | .ty _ :: _, _, _, h, _ => by cases h
theorem intsOf_rv {K : PySem.W.Frag} {H : Hp} {μ : Mu} : ∀ {ds : List D} {vs : List V} {bs : List Int}, intsOf ds = some bs → RVs K H μ vs ds → vs = bs.map V.int
  | [], _, _, h, r => by cases h; rw [RVs] at r; exact r
  | .int b :: ds, _, _, h, r => by
    unfold intsOf at h
    cases e : intsOf ds with
    | none => rw [e] at h; cases h
    | some bs =>
      rw [e] at h; cases h
      rw [RVs] at r
      obtain ⟨v, t, rfl, r1, r2⟩ := r
      rw [rv_int.mp r1, intsOf_rv e r2]; rfl
  | .non :: _, _, _, h, _ => by cases h
  | .bl _ :: _, _, _, h, _ => by cases h
  | .str _ :: _, _, _, h, _ => by cases h
  | .tup _ :: _, _, _, h, _ => by cases h
  | .rol _ :: _, _, _, h, _ => by cases h
  | .fro _ :: _, _, _, h, _ => by cases h
  | .loc _ :: _, _, _, h, _ => by cases h
  | .ty _ :: _, _, _, h, _ => by cases h
theorem bools_map (l : List Bool) : bools (l.map D.bl) = some l := by
  induction l with
  | nil => rfl
  | cons b l ih => rw [List.map_cons]; unfold bools; rw [ih]; rfl
theorem intsOf_map (l : List Int) : intsOf (l.map D.int) = some l := by
  induction l with
  | nil => rfl
  | cons b l ih => rw [List.map_cons]; unfold intsOf; rw [ih]; rfl
def gAll : GL := fun ds S Q => ∃ d xs bs, ds = [d] ∧ rdL S d = some xs ∧ bools xs = some bs ∧ Q (.bl (bs.all id)) S
def gAny : GL := fun ds S Q => ∃ d xs bs, ds = [d] ∧ rdL S d = some xs ∧ bools xs = some bs ∧ Q (.bl (bs.any id)) S
def gSum : GL := fun ds S Q => ∃ d xs ns, ds = [d] ∧ rdL S d = some xs ∧ intsOf xs = some ns ∧ Q (.int ns.sum) S
theorem c_all (hc : X.calm = true) : CallJ X (.builtin "all") gAll := by
  refine ⟨_, cr_all hc, fun {μ H S ds vs Q R} o r ⟨d, xs, bs, e1, e2, e3, q⟩ ha => ?_⟩
  subst e1
  obtain ⟨v, rfl, r1⟩ := rvs_one r
  obtain ⟨a, ws, rfl, h1, h2⟩ := rdL_ok o r1 e2
  exact ⟨a, bs, rfl, by rw [← bools_rv e3 h2]; exact h1, ha.here o q (rv_bl.mpr rfl)⟩
theorem c_any (hc : X.calm = true) : CallJ X (.builtin "any") gAny := by
  refine ⟨_, cr_any hc, fun {μ H S ds vs Q R} o r ⟨d, xs, bs, e1, e2, e3, q⟩ ha => ?_⟩
  subst e1
  obtain ⟨v, rfl, r1⟩ := rvs_one r
  obtain ⟨a, ws, rfl, h1, h2⟩ := rdL_ok o r1 e2
  exact ⟨a, bs, rfl, by rw [← bools_rv e3 h2]; exact h1, ha.here o q (rv_bl.mpr rfl)⟩
theorem c_sum (hc : X.calm = true) : CallJ X (.builtin "sum") gSum := by
  refine ⟨_, cr_sum hc, fun {μ H S ds vs Q R} o r ⟨d, xs, bs, e1, e2, e3, q⟩ ha => ?_⟩
  subst e1
  obtain ⟨v, rfl, r1⟩ := rvs_one r
  obtain ⟨a, ws, rfl, h1, h2⟩ := rdL_ok o r1 e2
  exact ⟨a, bs, rfl, by rw [← intsOf_rv e3 h2]; exact h1, ha.here o q (rv_int.mpr rfl)⟩
/-- the least, the greatest of a list of ints -/
def gMinL : GL := fun ds S Q => ∃ d xs ns, ds = [d] ∧ rdL S d = some xs ∧ intsOf xs = some ns ∧ 0 < ns.length ∧ ∀ m, m ∈ ns → (∀ y, y ∈ ns → m ≤ y) → Q (.int m) S
def gMaxL : GL := fun ds S Q => ∃ d xs ns, ds = [d] ∧ rdL S d = some xs ∧ intsOf xs = some ns ∧ 0 < ns.length ∧ ∀ m, m ∈ ns → (∀ y, y ∈ ns → y ≤ m) → Q (.int m) S
theorem c_minL (hc : X.calm = true) : CallJ X (.builtin "min") gMinL := by
  refine ⟨_, cr_min hc, fun {μ H S ds vs Q R} o r ⟨d, xs, bs, e1, e2, e3, h0, q⟩ ha => ?_⟩
  subst e1
  obtain ⟨v, rfl, r1⟩ := rvs_one r
  obtain ⟨a, ws, rfl, h1, h2⟩ := rdL_ok o r1 e2
  exact ⟨a, bs, rfl, by rw [← intsOf_rv e3 h2]; exact h1, h0, fun m hm hl => ha.here o (q m hm hl) (rv_int.mpr rfl)⟩
theorem c_maxL (hc : X.calm = true) : CallJ X (.builtin "max") gMaxL := by
  refine ⟨_, cr_max hc, fun {μ H S ds vs Q R} o r ⟨d, xs, bs, e1, e2, e3, h0, q⟩ ha => ?_⟩
  subst e1
  obtain ⟨v, rfl, r1⟩ := rvs_one r
  obtain ⟨a, ws, rfl, h1, h2⟩ := rdL_ok o r1 e2
  exact ⟨a, bs, rfl, by rw [← intsOf_rv e3 h2]; exact h1, h0, fun m hm hl => ha.here o (q m hm hl) (rv_int.mpr rfl)⟩
/-! ## tuple(..), list(..) -/
def gTupOf : GL := fun ds S Q => match ds with
  | [.tup xs] => Q (.tup xs) S
  | [d] => ∃ xs, rdL S d = some xs ∧ Q (.tup xs) S
  | _ => False
theorem c_tupOf : CallJ X (.type "tuple") gTupOf := by
  refine ⟨_, call_tuple_of, fun {μ H S ds vs Q R} o r q ha => ?_⟩
  unfold gTupOf at q
  split at q
  · obtain ⟨v, rfl, r1⟩ := rvs_one r
    obtain ⟨a, ws, rfl, h1, h2⟩ := rv_tup.mp r1
    exact ⟨a, ws, rfl, .inr ⟨h1.sq, ha.here o q r1⟩⟩
  · obtain ⟨v, rfl, r1⟩ := rvs_one r
    obtain ⟨xs, e, q⟩ := q
    obtain ⟨a, ws, rfl, h1, h2⟩ := rdL_ok o r1 e
    exact ⟨a, ws, rfl, .inl ⟨h1, ha.tup o q h2⟩⟩
  · exact q.elim
/-- a new plain list; one of the store -/
def gListOf : GL := fun ds S Q => match ds with
  | [.tup xs] => Q (.rol xs) S
  | [d] => ∃ xs, rdL S d = some xs ∧ Q (.rol xs) S
  | _ => False
def gListOfL : GL := fun ds S Q => match ds with
  | [.tup xs] => Q (.loc S.length) (S ++ [.lst xs])
  | [d] => ∃ xs, rdL S d = some xs ∧ Q (.loc S.length) (S ++ [.lst xs])
  | _ => False
theorem c_listOf : CallJ X (.type "list") gListOf := by
  refine ⟨_, call_list_of, fun {μ H S ds vs Q R} o r q ha => ?_⟩
  unfold gListOf at q
  split at q
  · obtain ⟨v, rfl, r1⟩ := rvs_one r
    obtain ⟨a, ws, rfl, h1, h2⟩ := rv_tup.mp r1
    exact ⟨a, ws, rfl, .inr h1.sq, ha.rol o q h2⟩
  · obtain ⟨v, rfl, r1⟩ := rvs_one r
    obtain ⟨xs, e, q⟩ := q
    obtain ⟨a, ws, rfl, h1, h2⟩ := rdL_ok o r1 e
    exact ⟨a, ws, rfl, .inl h1, ha.rol o q h2⟩
  · exact q.elim
theorem c_listOfL : CallJ X (.type "list") gListOfL := by
  refine ⟨_, call_list_of, fun {μ H S ds vs Q R} o r q ha => ?_⟩
  unfold gListOfL at q
  split at q
  · obtain ⟨v, rfl, r1⟩ := rvs_one r
    obtain ⟨a, ws, rfl, h1, h2⟩ := rv_tup.mp r1
    exact ⟨a, ws, rfl, .inr h1.sq, ha.lst o q h2⟩
  · obtain ⟨v, rfl, r1⟩ := rvs_one r
    obtain ⟨xs, e, q⟩ := q
    obtain ⟨a, ws, rfl, h1, h2⟩ := rdL_ok o r1 e
    exact ⟨a, ws, rfl, .inl h1, ha.lst o q h2⟩
  · exact q.elim
/-! ## repr -/
/-- what repr may be asked of: no cell within, no int of 1,920 bits or more, at most 64 deep, a text within the line -/
def okR (d : D) : Prop := okP d = true ∧ (toP d).showable = true ∧ (toP d).depth ≤ 64 ∧ (toP d).shown.length ≤ sizeLine
mutual
theorem noDictP : ∀ d : D, (toP d).hasDict = false
  | .non => by rw [toP]; rfl
  | .bl _ => by rw [toP]; rfl
  | .int _ => by rw [toP]; rfl
  | .str _ => by rw [toP]; rfl
  | .ty _ => by rw [toP]; rfl
  | .loc _ => by rw [toP]; rfl
  | .tup ds => by rw [toP, PyData.hasDict]; exact noDictPs ds
  | .rol ds => by rw [toP, PyData.hasDict]; exact noDictPs ds
  | .fro ds => by rw [toP, PyData.hasDict]; exact noDictPs ds
theorem noDictPs : ∀ ds : List D, PyData.hasDictAll (toPs ds) = false
  | [] => by rw [toPs]; rfl
  | d :: ds => by rw [toPs, PyData.hasDictAll, noDictP d, noDictPs ds]; rfl
end
theorem call_reprD (hg : X.A.guards = some []) (hu : X.A.units + 66 < cLine) : CallR X (.builtin "repr") (fun xs H Q => ∃ x d, xs = [x] ∧ Dp X.K H x d ∧ d.showable = true ∧ d.depth ≤ 64 ∧ d.shown.length ≤ sizeLine ∧ d.hasDict = false ∧ Q (.str d.shown) H) := by
  intro pins s σ H xs us Q I r ⟨x, d, e, hd, h1, h2, h3, h4, q⟩
  subst e
  obtain ⟨u, rfl, ru⟩ := vals1 r
  obtain ⟨as, rd⟩ := Dp.reads I d x u hd ru
  have fin : ∀ (h' : Heap) (t : Tok) (tk : Nat), (∀ b o, s.heap.get? b = some o → h'.get? b = some o) → EP X pins σ Q (.str d.shown t) { s with heap := h', toks := tk } := fun h' t tk hk => ⟨.str d.shown, H, I.kept hk, ⟨t, rfl⟩, q⟩
  have fin0 : ∀ (t : Tok) (tk : Nat), EP X pins σ Q (.str d.shown t) { s with toks := tk } := fun t tk => fin s.heap t tk fun _ _ e => e
  cases rd with
  | none => exact PySem.P.repr_of_none (by have := fin0 s.toks (s.toks + 1); rw [PyData.shown_none] at this; exact this)
  | bool b => exact PySem.P.repr_of_bool (by have := fin0 s.toks (s.toks + 1); rw [PyData.shown_bool] at this; exact this)
  | int i t => exact PySem.P.repr_of_int (by simpa [PyData.showable] using h1) (by have := fin0 s.toks (s.toks + 1); rw [PyData.shown_int] at this; exact this)
  | str y t => exact PySem.P.repr_of_str (by have := fin0 s.toks (s.toks + 1); rw [PyData.shown_str] at this; exact this) (by rw [PyData.shown_str] at h3; exact h3)
  | list k1 k2 k3 k4 =>
    exact PySem.repr_of_reads' (.list k1 k2 k3 k4) h1 (fun z => by rw [h4] at z; cases z) hg (by omega) (fun _ _ e => e) (fun h' t tk hk => fin h' t tk hk) h3
  | tuple k1 k2 k3 k4 =>
    exact PySem.repr_of_reads' (.tuple k1 k2 k3 k4) h1 (fun z => by rw [h4] at z; cases z) hg (by omega) (fun _ _ e => e) (fun h' t tk hk => fin h' t tk hk) h3
  | dict k1 k2 k3 k4 => cases hd
def gRepr : GL := fun ds S Q => ∃ d, ds = [d] ∧ okR (view S d) ∧ Q (.str (toP (view S d)).shown) S
theorem c_repr (hg : X.A.guards = some []) (hu : X.A.units + 66 < cLine) : CallJ X (.builtin "repr") gRepr := by
  refine ⟨_, call_reprD hg hu, fun {μ H S ds vs Q R} o r ⟨d, e, ⟨k1, k2, k3, k4⟩, q⟩ ha => ?_⟩
  subst e
  obtain ⟨v, rfl, r1⟩ := rvs_one r
  exact ⟨v, _, rfl, view_dp o r1 k1, k2, k3, k4, noDictP _, ha.here o q (rv_str.mpr rfl)⟩
/-! ## methods of lists -/
abbrev GM := D → List D → Sto → QD → Prop
/-- the receiver is a list (of the store, or plain) -/
def isLst (S : Sto) (d : D) : Prop := ∃ xs, rdM S d = some xs
def wM (g : GM) (wo : WE) (wl : WA) : WE := fun ρ S Q => wo ρ S fun x S1 => isLst S1 x ∧ wl ρ S1 fun ds S2 => g x ds S2 Q
structure MetJ (X : Cx) (id : String) (g : GM) : Prop where
  ex : ∃ r, MtR X id r ∧ ∀ {μ : Mu} {H : Hp} {S : Sto} {x : D} {ds : List D} {v : V} {vs : List V} {Q : QD} {R : VK}, StoOk X.K H μ S → RV X.K H μ v x → RVs X.K H μ vs ds → g x ds S Q → After X.K Q μ H R → r v vs H R
theorem lst_ty {K : PySem.W.Frag} {H : Hp} {μ : Mu} {S : Sto} {v : V} {d : D} (o : StoOk K H μ S) (r : RV K H μ v d) (h : isLst S d) : tyV K "list" v H := by
  obtain ⟨xs, e⟩ := h
  obtain ⟨a, vs, rfl, h1, _⟩ := rdM_ok o r e
  exact .inl ⟨rfl, vs, .inl (.inl h1)⟩
section
variable {o e : Expr} {es : List Expr} {wo : WE} {wl : WA} {name : Str} {apos cpos : Pos} {id : String} {g : GM}
theorem je_m0 (slot : Slot "list" name id) (hty : typeOf (.builtin id) = pure (.type "method_descriptor")) (hm : MetJ X id g) (ho : JE X o wo)
    (hbase : attributeBase o name X.env (eval o X.env) = eval o X.env := by rfl) (hline : (apos.endLine == cpos.line) = true := by rfl) : JE X (.Call (.Attribute o name apos) [] [] cpos) (wM g wo wNil) := by
  obtain ⟨r, h1, h2⟩ := hm.ex
  refine PE.imp (pe_bm0 PySem.F.plainAttrs_list slot hty h1 ho hbase hline) fun σ H R ⟨μ, ρ, S, Q, hs, hk, hw, ha⟩ => ⟨μ, ρ, S, _, hs, hk, hw, fun x S1 ⟨hl, q⟩ v H1 μ1 e1 o1 r1 => ?_⟩
  exact ⟨lst_ty o1 r1 hl, h2 o1 r1 RVs.nil q (ha.ext e1)⟩
theorem je_m (slot : Slot "list" name id) (hty : typeOf (.builtin id) = pure (.type "method_descriptor")) (hm : MetJ X id g) (ho : JE X o wo) (hA : JA X (e :: es) wl)
    (hbase : attributeBase o name X.env (eval o X.env) = eval o X.env := by rfl)
    (hfew : ((backTo cpos (starEach (e :: es) X.env)).all (fun x => !x.1) && (backToKw cpos (keywordEach [] X.env)).all (fun x => x.1.isSome) && decide ((e :: es).length + ([] : List Keyword).length + (if ([] : List Keyword).isEmpty then 0 else 1) < 30)) = true := by rfl)
    (hline : (apos.endLine == cpos.line) = true := by rfl) (hs : starEach (e :: es) X.env = (false, eval e X.env) :: starEach es X.env := by rfl) (hplain : (backTo cpos (starEach es X.env)).any (·.1) = false := by rfl) :
    JE X (.Call (.Attribute o name apos) (e :: es) [] cpos) (wM g wo wl) := by
  obtain ⟨r, h1, h2⟩ := hm.ex
  refine PE.imp (pe_bm PySem.F.plainAttrs_list slot hty h1 ho hA hbase hfew hline hs hplain) fun σ H R ⟨μ, ρ, S, Q, hs, hk, hw, ha⟩ => ⟨μ, ρ, S, _, hs, hk, hw, fun x S1 ⟨hl, q⟩ v H1 μ1 e1 o1 r1 => ?_⟩
  refine ⟨lst_ty o1 r1 hl, μ1, ρ, S1, _, hs.ext e1, o1, q, fun ds S2 q2 vs H2 μ2 e2 o2 r2 => ?_⟩
  exact h2 o2 (RV.ext e2 x r1) r2 q2 (ha.ext (e1.trans e2))
end
/-- a list of the store, as it stands -/
theorem cell_lst {K : PySem.W.Frag} {H : Hp} {μ : Mu} {S : Sto} {v : V} {n : Nat} {ds : List D} (o : StoOk K H μ S) (r : RV K H μ v (.loc n)) (h : S[n]? = some (.lst ds)) : ∃ a vs, v = .ref a ∧ μ.lo[n]? = some a ∧ H a = some (.lst vs) ∧ RVs K H μ vs ds := by
  obtain ⟨a, rfl, q⟩ := rv_loc.mp r
  obtain ⟨vs, h1, h2⟩ := o.addr h q
  exact ⟨a, vs, rfl, q, h1, h2⟩
theorem After.wr {K : PySem.W.Frag} {Q : QD} {μ : Mu} {H : Hp} {R : VK} {S : Sto} {n : Nat} {a : Addr} {d : D} {v : V} {vs : List V} {ds : List D} (ha : After K Q μ H R) (o : StoOk K H μ S) (h : μ.lo[n]? = some a) (r : RVs K H μ vs ds) (rd : RV K H μ v d) (q : Q d (S.set n (.lst ds))) :
    R v (upd H a (.lst vs)) := by
  have ew := Ext.write (H := H) (o := HO.lst vs) (List.mem_of_getElem? h)
  exact ha _ _ q _ _ _ ew (o.write h ⟨_, upd_same, RVs.ext ew _ r⟩) (RV.ext ew d rd)
def gAppend : GM := fun x ds S Q => ∃ n xs d, x = .loc n ∧ ds = [d] ∧ S[n]? = some (.lst xs) ∧ xs.length < sizeLine ∧ Q .non (S.set n (.lst (xs ++ [d])))
theorem m_append : MetJ X "list.append" gAppend := by
  refine ⟨_, mt_append, fun {μ H S x ds v vs Q R} o r rs ⟨n, xs, d, e1, e2, hc, hz, q⟩ ha => ?_⟩
  subst e1 e2
  obtain ⟨a, ws, rfl, h1, h2, h3⟩ := cell_lst o r hc
  obtain ⟨u, rfl, ru⟩ := rvs_one rs
  exact ⟨a, ws, u, rfl, rfl, h2, by rw [h3.length]; exact hz, ha.wr o h1 (h3.append (RVs.cons ru RVs.nil)) (rv_non.mpr rfl) q⟩
def gPop0 : GM := fun x ds S Q => ∃ n xs d, x = .loc n ∧ ds = [] ∧ S[n]? = some (.lst xs) ∧ xs[xs.length - 1]? = some d ∧ Q d (S.set n (.lst xs.dropLast))
theorem rvs_dropLast {K : PySem.W.Frag} {H : Hp} {μ : Mu} {vs : List V} {ds : List D} (r : RVs K H μ vs ds) : RVs K H μ vs.dropLast ds.dropLast := by
  rw [List.dropLast_eq_take, List.dropLast_eq_take, r.length]
  exact r.take _
theorem m_pop0 : MetJ X "list.pop" gPop0 := by
  refine ⟨_, mt_pop, fun {μ H S x ds v vs Q R} o r rs ⟨n, xs, d, e1, e2, hc, hz, q⟩ ha => ?_⟩
  subst e1 e2
  obtain ⟨a, ws, rfl, h1, h2, h3⟩ := cell_lst o r hc
  rw [RVs] at rs
  subst rs
  obtain ⟨u, e, ru⟩ := h3.get hz
  exact ⟨a, ws, u, rfl, rfl, h2, by rw [h3.length]; exact e, ha.wr o h1 (rvs_dropLast h3) ru q⟩
def gPop1 : GM := fun x ds S Q => ∃ n xs i k d, x = .loc n ∧ ds = [.int i] ∧ S[n]? = some (.lst xs) ∧ -(2 ^ 63) ≤ i ∧ i < 2 ^ 63 ∧ ixN xs.length i = some k ∧ xs[k]? = some d ∧ Q d (S.set n (.lst (xs.eraseIdx k)))
theorem m_pop1 : MetJ X "list.pop" gPop1 := by
  refine ⟨_, mt_popAt, fun {μ H S x ds v vs Q R} o r rs ⟨n, xs, i, k, d, e1, e2, hc, hi1, hi2, hk, hz, q⟩ ha => ?_⟩
  subst e1 e2
  obtain ⟨a, ws, rfl, h1, h2, h3⟩ := cell_lst o r hc
  obtain ⟨u, rfl, ru⟩ := rvs_one rs
  obtain ⟨w, e, rw'⟩ := h3.get hz
  exact ⟨a, ws, i, k, w, rfl, by rw [rv_int.mp ru], h2, hi1, hi2, by rw [h3.length]; exact (ixN_seq hk).1, e, ha.wr o h1 (h3.eraseIdx k) rw' q⟩
def gExtend : GM := fun x ds S Q => ∃ n xs d ys, x = .loc n ∧ ds = [d] ∧ S[n]? = some (.lst xs) ∧ rdM S d = some ys ∧ xs.length + ys.length ≤ sizeLine ∧ Q .non (S.set n (.lst (xs ++ ys)))
theorem m_extend : MetJ X "list.extend" gExtend := by
  refine ⟨_, mt_extend, fun {μ H S x ds v vs Q R} o r rs ⟨n, xs, d, ys, e1, e2, hc, hy, hz, q⟩ ha => ?_⟩
  subst e1 e2
  obtain ⟨a, ws, rfl, h1, h2, h3⟩ := cell_lst o r hc
  obtain ⟨u, rfl, ru⟩ := rvs_one rs
  obtain ⟨b, zs, rfl, h4, h5⟩ := rdM_ok o ru hy
  exact ⟨a, b, ws, zs, rfl, rfl, h2, h4, by rw [h3.length, h5.length]; exact hz, ha.wr o h1 (h3.append h5) (rv_non.mpr rfl) q⟩
end
end DL
namespace DL
open PySem PySem.Spec L2
open PyProof.Rows hiding St
/-! ## times -/
theorem tupRep1 (l : Addr) (ia : Array Value) (n : Nat) (dd : Option Addr) (sl : Array (Option Value)) (z : Int) (u : Tok) (c0 : (decide (z < -(2 ^ 63)) || decide (z ≥ 2 ^ 63)) = false) (c1 : (ia.isEmpty || z == 1) = true) :
    Meets (Builtin.«tuple.__mul__» ⟨[.ref l, .int z u], []⟩) (fun _ R s => s.heap.get? l = some { cls := .type "tuple", dict := dd, data := .seq ia n, slots := sl } ∧ R (.ok (.ret (.ref l))) s) :=
  .of_wp fun prog w A R s ⟨hl, h⟩ => by
    obtain ⟨hp, g, d, tk, os⟩ := s
    have f1 := AutoSeq1.idx_int
    wp_walk using wpAny_loadPart' hl
    repeat (first
      | (refine wpAny_ite_false (decide_eq_false (by rw [c0]; exact Bool.false_ne_true)) ?_; wp_walk using wpAny_loadPart' hl)
      | (refine wpAny_ite_true (decide_eq_true (by rw [c1])) ?_; wp_walk using wpAny_loadPart' hl)
      | (refine wpAny_ite_true ?_ ?_; (· simp); wp_walk using wpAny_loadPart' hl))
    exact ⟨_, rfl, h⟩
theorem tupRep0 (l : Addr) (ia : Array Value) (n : Nat) (dd : Option Addr) (sl : Array (Option Value)) (z : Int) (u : Tok) (c0 : (decide (z < -(2 ^ 63)) || decide (z ≥ 2 ^ 63)) = false) (c1 : (ia.isEmpty || z == 1) = false) (c2 : (decide (z ≤ 0) || ia.isEmpty) = true) :
    Meets (Builtin.«tuple.__mul__» ⟨[.ref l, .int z u], []⟩) (fun _ R s => s.heap.get? l = some { cls := .type "tuple", dict := dd, data := .seq ia n, slots := sl } ∧
      R (.ok (.ret (Value.ref s.heap.objs.size))) { s with heap := s.heap.push { cls := Value.type "tuple", data := Data.seq #[] }, toks := s.toks }) :=
  .of_wp fun prog w A R s ⟨hl, h⟩ => by
    obtain ⟨hp, g, d, tk, os⟩ := s
    have f1 := AutoSeq1.idx_int
    wp_walk using wpAny_loadPart' hl
    repeat (first
      | (refine wpAny_ite_false (decide_eq_false (by rw [c0]; exact Bool.false_ne_true)) ?_; wp_walk using wpAny_loadPart' hl)
      | (refine wpAny_ite_false (decide_eq_false (by rw [c1]; exact Bool.false_ne_true)) ?_; wp_walk using wpAny_loadPart' hl)
      | (refine wpAny_ite_true (decide_eq_true (by rw [c2])) ?_; wp_walk using wpAny_loadPart' hl)
      | (refine wpAny_ite_true ?_ ?_; (· simp); wp_walk using wpAny_loadPart' hl))
    exact ⟨_, rfl, h⟩
/-- times 1 or less, or of the empty tuple -/
def rRepS (K : PySem.W.Frag) : R2 := fun x y H Q => ∃ l k xs, x = .ref l ∧ y = .int k ∧ SqT K H l xs ∧ k.natAbs < 2 ^ 62 ∧
  ((xs = [] ∨ k = 1) ∧ Q (.ref l) H ∨ (xs ≠ [] ∧ k ≤ 0) ∧ ∀ p, H p = none → Q (.ref p) (upd H p (.tup [])))
section
variable {X : Cx}
theorem op_repS : OpR X (binaryOp .Mult) (rRepS X.K) := by
  intro pins s σ H x y v u Q I rx ry h
  obtain ⟨l, k, xs, rfl, rfl, hT, hk, q⟩ := h
  cases rx
  obtain ⟨t, rfl⟩ := ry
  obtain ⟨its, r, ⟨⟨cls, dd, data, sl⟩, ho, hc, n, hd⟩, hs⟩ := I.tuple hT
  simp only at hc hd
  subst hc hd
  have c0 : (decide (k < -(2 ^ 63)) || decide (k ≥ 2 ^ 63)) = false := by
    rw [decide_eq_false (by omega), decide_eq_false (by omega)]
    rfl
  refine wpAny_binaryOp_repeat_ref (U := "int") (T := "tuple") (by decide) ⟨_, ho, rfl⟩ (fun z => typeIs_int z k t) noFill_tuple_mul F.fills_int_mul F.slot_int_rmul repeat_tuple F.slot_int_index.lookup
    (call_meets F.slot_int_rmul (typeIs_int s k t) F.entry_int_rmul (F.args_int_rmul_2 _ _) (int_rmul_tuple k t l its.toArray n dd sl) ⟨ho, rfl, ⟨_, ho, rfl⟩, ?_⟩)
  have emp : its.toArray.isEmpty = decide (xs = []) := by
    cases its with
    | nil => cases r; rfl
    | cons a b => cases r; simp
  rcases q with ⟨c, q⟩ | ⟨⟨c1, c2⟩, q⟩
  · refine call_meets F.slot_tuple_mul ⟨_, ho, rfl⟩ F.entry_tuple_mul (F.args_tuple_mul_2 _ _) (tupRep1 l its.toArray n dd sl k t c0 ?_) ⟨ho, ?_⟩
    · rw [emp]
      rcases c with c | c
      · rw [decide_eq_true c, Bool.true_or]
      · subst c; simp
    · exact ⟨.ref l, _, I, rfl, q⟩
  · refine call_meets F.slot_tuple_mul ⟨_, ho, rfl⟩ F.entry_tuple_mul (F.args_tuple_mul_2 _ _) (tupRep0 l its.toArray n dd sl k t c0 ?_ ?_) ⟨ho, ?_⟩
    · rw [emp, decide_eq_false c1, Bool.false_or]
      exact beq_eq_false_iff_ne.mpr (by omega)
    · rw [emp, decide_eq_true c2, Bool.true_or]
    · refine ⟨.ref s.heap.objs.size, _, I.laid (t' := s.toks) (o := .tup []) (fun b ob z => Heap.get?_push_of_some _ z) (Nat.le_refl _) ?_, rfl, q _ (I.hok.fresh (Nat.le_refl _))⟩
      exact ⟨by simp, [], .nil, IsTup.new _ _⟩
def gMul : G2 := fun x y S Q => match x, y with
  | .int i, .int j => CMulX i j ∧ Q (.int (i * j)) S
  | .tup xs, .int k => xs.length ≤ 1000 ∧ k.natAbs ≤ 1000 ∧ Q (.tup (List.replicate k.toNat xs).flatten) S
  | _, _ => False
theorem j_mul : OpJ X (binaryOp .Mult) gMul := by
  refine ⟨_, op_mulX.or (op_repS.or op_repT), fun {μ H S x y v u Q R} o rx ry q ha => ?_⟩
  cases x with
  | int i =>
    cases y with
    | int j => exact .inl ⟨i, j, rv_int.mp rx, rv_int.mp ry, q.1, ha.here o q.2 (rv_int.mpr rfl)⟩
    | _ => exact q.elim
  | tup xs =>
    cases y with
    | int k =>
      obtain ⟨l, vs, rfl, h1, r1⟩ := rv_tup.mp rx
      obtain ⟨hl, hk, q⟩ := q
      refine .inr ?_
      by_cases e0 : xs = []
      · have e1 : vs = [] := (rvs_nil r1).mpr e0
        have e2 : (List.replicate k.toNat xs).flatten = xs := by rw [e0]; simp
        rw [e2] at q
        exact .inl ⟨l, k, vs, rfl, rv_int.mp ry, h1.sq, by omega, .inl ⟨.inl e1, ha.here o q rx⟩⟩
      · have e1 : vs ≠ [] := fun z => e0 ((rvs_nil r1).mp z)
        by_cases k1 : k = 1
        · subst k1
          have e2 : (List.replicate (1 : Int).toNat xs).flatten = xs := by simp
          rw [e2] at q
          exact .inl ⟨l, 1, vs, rfl, rv_int.mp ry, h1.sq, by omega, .inl ⟨.inr rfl, ha.here o q rx⟩⟩
        · by_cases k0 : k ≤ 0
          · have e2 : (List.replicate k.toNat xs).flatten = [] := by
              rw [show k.toNat = 0 by omega]; rfl
            rw [e2] at q
            exact .inl ⟨l, k, vs, rfl, rv_int.mp ry, h1.sq, by omega, .inr ⟨⟨e1, k0⟩, ha.tup o q RVs.nil⟩⟩
          · exact .inr ⟨l, k, vs, rfl, rv_int.mp ry, h1.sq, e1, by omega, by omega, by rw [r1.length]; exact hl, ha.tup o q (r1.rep _)⟩
    | _ => exact q.elim
  | _ => cases y <;> exact q.elim
end
end DL
namespace DL
open PySem PySem.Spec L2
open PyProof.Rows hiding St
abbrev KwL := List (List Str × Nat × List Nat)
/-- a def of the module as it is called: its promise at level k, its name, its parameters, the ways of naming them -/
structure Cal (P : Program) (w : World) (K : PySem.W.Frag) (mg : Str → Option Value) (base : Heap) (k : Nat) (x : Str) (ps : List Str) (kws : KwL) (c : Con) : Prop where
  ex : ∃ (f : Addr) (fd : FuncData), FnG P w K mg base k f fd ps c ∧ mg x = some (.ref f) ∧ PySem.W.keepIn K (.ref f) = true ∧ Binds K fd ps [] ∧ ∀ p ∈ kws, KwOk K fd ps p.1 p.2.1 p.2.2
theorem un66 {A : Around} {k : Nat} (hr : Room k A) : A.units + 66 < cLine := by have := hr.un; omega
/-- a number at the top of a module -/
def KInt (mg : Str → Option Value) (x : Str) (i : Int) : Prop := ∃ u, mg x = some u ∧ RelV (.int i) u
structure KCon (K : PySem.W.Frag) (mg : Str → Option Value) (x : Str) (d : D) : Prop where
  ex : ∃ (u : Value) (v : V), mg x = some u ∧ RelV v u ∧ KVal K v d
section
variable {X : Cx} {k : Nat} {ps ks : List Str} {kws : KwL} {c : Con} {x : Str} {p pos : Pos} {e : Expr} {es : List Expr} {wl wk : WA} {kwds : List Keyword}
theorem je_kint {i : Int} (k : KInt X.mg x i) (hg : Gl X x := by rfl) (hd : (x == ("__debug__" : Str)) = false := by decide) : JE X (.Name x pos) (wC (.int i)) := by
  obtain ⟨u, hm, r⟩ := k
  exact je_glob hg hm r KVal.int hd
theorem je_kcon {d : D} (k : KCon X.K X.mg x d) (hg : Gl X x := by rfl) (hd : (x == ("__debug__" : Str)) = false := by decide) : JE X (.Name x pos) (wC d) := by
  obtain ⟨u, v, hm, r, kv⟩ := k.ex
  exact je_glob hg hm r kv hd
theorem je_cal (C : Cal X.prog X.w X.K X.mg X.base k x ps kws c) (hr : Room k X.A) (hu : X.A.guards = some []) (ha : JA X (e :: es) wl) (hg : Gl X x := by rfl)
    (hdb : (x == ("__debug__" : Str)) = false := by decide) (he : starEach (e :: es) X.env = (false, eval e X.env) :: starEach es X.env := by rfl) (hpl : (backTo pos (starEach es X.env)).any (·.1) = false := by rfl) :
    JE X (.Call (.Name x p) (e :: es) [] pos) (wCall c wl) := by
  obtain ⟨f, fd, F, hm, kp, b, _⟩ := C.ex
  exact je_call F hr hu hm kp b ha hg hdb he hpl
theorem je_cal0 (C : Cal X.prog X.w X.K X.mg X.base k x ps kws c) (hr : Room k X.A) (hu : X.A.guards = some []) (hg : Gl X x := by rfl)
    (hdb : (x == ("__debug__" : Str)) = false := by decide) : JE X (.Call (.Name x p) [] [] pos) (wCall c wNil) := by
  obtain ⟨f, fd, F, hm, kp, b, _⟩ := C.ex
  exact je_call0 F hr hu hm kp b hg hdb
theorem je_calK {n m : Nat} {ix : List Nat} (C : Cal X.prog X.w X.K X.mg X.base k x ps kws c) (hr : Room k X.A) (hu : X.A.guards = some []) (kx : Nat) (ha : JA X (e :: es) wl) (hkw : JK X kwds wk) (hin : kws[kx]? = some (ks, n, ix) := by rfl) (hg : Gl X x := by rfl) (hm2 : ks.length = m := by rfl)
    (hall : (backToKw pos (keywordEach kwds X.env)).all (·.1.isSome) = true := by rfl) (hks : (backToKw pos (keywordEach kwds X.env)).filterMap (·.1) = ks := by rfl)
    (hdb : (x == ("__debug__" : Str)) = false := by decide) (he : starEach (e :: es) X.env = (false, eval e X.env) :: starEach es X.env := by rfl)
    (hpl : ((backTo pos (starEach (e :: es) X.env)).any (·.1) || (backToKw pos (keywordEach kwds X.env)).any (·.1.isNone)) = false := by rfl) :
    JE X (.Call (.Name x p) (e :: es) kwds pos) (wCallK c ix n m wl wk) := by
  obtain ⟨f, fd, F, hm, kp, b, q⟩ := C.ex
  exact je_callK F hr hu hm kp (q _ (List.mem_of_getElem? hin)) ha hkw hg hm2 hall hks hdb he hpl
theorem je_calK0 {m : Nat} {ix : List Nat} (C : Cal X.prog X.w X.K X.mg X.base k x ps kws c) (hr : Room k X.A) (hu : X.A.guards = some []) (kx : Nat) (hkw : JK X kwds wk) (hin : kws[kx]? = some (ks, 0, ix) := by rfl) (hg : Gl X x := by rfl) (hm2 : ks.length = m := by rfl)
    (hall : (backToKw pos (keywordEach kwds X.env)).all (·.1.isSome) = true := by rfl) (hks : (backToKw pos (keywordEach kwds X.env)).filterMap (·.1) = ks := by rfl)
    (hdb : (x == ("__debug__" : Str)) = false := by decide)
    (hpl : (backToKw pos (keywordEach kwds X.env)).any (·.1.isNone) = false := by rfl) :
    JE X (.Call (.Name x p) [] kwds pos) (wCallK c ix 0 m wNil wk) := by
  obtain ⟨f, fd, F, hm, kp, b, q⟩ := C.ex
  exact je_callK0 F hr hu hm kp (q _ (List.mem_of_getElem? hin)) hkw hg hm2 hall hks hdb hpl
end
section
variable {P : Program} {w : World} {K : PySem.W.Frag} {mg : Str → Option Value} {base : Heap}
theorem kw_mk {x qual : Str} {st : Stmt} {f : Addr} {fd : FuncData} {ps ks : List Str} {n : Nat} {ix : List Nat} (F : Fun K x qual st f fd)
    (h : ∀ (kV doc pm : Value) (an : Option Addr) (cdv ct : Value) (us ws : List Value), us.length = n → ws.length = ks.length → bindArgs (PySem.W.fnOf x qual (defArgs st) (defBody st) (defScope st) .none kV doc pm an cdv ct) ⟨us, ks.zip ws⟩ = pure (ps.zip (perm ix (us ++ ws)))) : KwOk K fd ps ks n ix := by
  obtain ⟨oc, od, kV, doc, pm, an, cdv, ct, osl, rfl, lk, hcd⟩ := F.ex
  exact ⟨fun s us ws h1 h2 => .of_eq (h kV doc pm an cdv ct us ws h1 h2)⟩
theorem cal_mk {x qual : Str} {st : Stmt} {f : Addr} {fd : FuncData} {k : Nat} {ps : List Str} {kws : KwL} {c : Con} (F : Fun K x qual st f fd) (G : FnG P w K mg base k f fd ps c) (hm : mg x = some (.ref f)) (b : Binds K fd ps []) (q : ∀ p ∈ kws, KwOk K fd ps p.1 p.2.1 p.2.2) : Cal P w K mg base k x ps kws c :=
  ⟨f, fd, G, hm, F.kp, b, q⟩
end
end DL
namespace DL
open PySem PySem.Spec L2
open PyProof.Rows hiding St
/-! ## laws of the readings, for the plain part -/
theorem wFor_inv {g : WG} {b : WS} {gd : Gd} {E : EndsD} (I : Nat → Env → Sto → Prop) : ∀ (ds : List D) {ρ : Env} {S : Sto}, I 0 ρ S →
    (∀ (i : Nat) (d : D) (k : Env → Sto → Prop), ds[i]? = some d → (∀ ρ S, I (i + 1) ρ S → k ρ S) → ∀ ρ S, I i ρ S → gd.ok S ∧ g d ρ S fun ρ1 S1 => b { nx := k, rt := E.rt, bk := E.nx, ct := k } ρ1 S1) →
    (∀ ρ S, I ds.length ρ S → gd.ok S ∧ E.nx ρ S) → wFor g b gd E ds ρ S := by
  intro ds ρ S h0 step fin
  have main : ∀ (n i : Nat) (ρ : Env) (S : Sto), n + i = ds.length → I i ρ S → wFor g b gd E (ds.drop i) ρ S := by
    intro n
    induction n with
    | zero =>
      intro i ρ S e h
      have e2 : i = ds.length := by omega
      subst e2
      rw [List.drop_length]
      exact fin ρ S h
    | succ n ih =>
      intro i ρ S e h
      have hl : i < ds.length := by omega
      rw [List.drop_eq_getElem_cons hl]
      exact step i ds[i] _ (by simp [hl]) (fun ρ' S' z => ih (i + 1) ρ' S' (by omega) z) ρ S h
  exact main ds.length 0 ρ S (by omega) h0
theorem wLc_inv {g : WG} {t : WT} {el : WE} {gd : Gd} {ρ0 : Env} {Q : List D → Sto → Prop} (I : Nat → List D → Sto → Prop) : ∀ (ds : List D) {S : Sto}, I 0 [] S →
    (∀ (i : Nat) (d : D) (k : List D → Sto → Prop), ds[i]? = some d → (∀ acc S, I (i + 1) acc S → k acc S) → ∀ acc S, I i acc S → gd.ok S ∧ g d ρ0 S fun ρ1 S1 => t ρ1 S1 fun b S2 => if b = true then el ρ1 S2 fun x S3 => acc.length < sizeLine ∧ k (acc ++ [x]) S3 else k acc S2) →
    (∀ acc S, I ds.length acc S → gd.ok S ∧ Q acc S) → wLcGo g t el gd ρ0 Q ds [] S := by
  intro ds S h0 step fin
  have main : ∀ (n i : Nat) (acc : List D) (S : Sto), n + i = ds.length → I i acc S → wLcGo g t el gd ρ0 Q (ds.drop i) acc S := by
    intro n
    induction n with
    | zero =>
      intro i acc S e h
      have e2 : i = ds.length := by omega
      subst e2
      rw [List.drop_length]
      exact fin acc S h
    | succ n ih =>
      intro i acc S e h
      have hl : i < ds.length := by omega
      rw [List.drop_eq_getElem_cons hl]
      exact step i ds[i] (fun acc S => wLcGo g t el gd ρ0 Q (ds.drop (i + 1)) acc S) (by simp [hl]) (fun acc' S' z => ih (i + 1) acc' S' (by omega) z) acc S h
  exact main ds.length 0 [] S (by omega) h0
theorem intsD_get {lo : Int} {n i : Nat} {d : D} (h : (intsD lo n)[i]? = some d) : i < n ∧ d = .int (lo + i) := by
  have hi : i < n := by
    have := (List.getElem?_eq_some_iff.mp h).1
    simpa [intsD] using this
  refine ⟨hi, ?_⟩
  simp [intsD, hi] at h
  exact h.symm
theorem intsD_len {lo : Int} {n : Nat} : (intsD lo n).length = n := by simp [intsD]
theorem eqD_int {i j : Int} : eqD (.int i) (.int j) = decide (i = j) := by
  unfold eqD
  simp only [toP]
  by_cases e : i = j
  · subst e; simp [PyData.eqv]
  · simp [PyData.eqv, e]
theorem gEq_int {i j : Int} {S : Sto} {Q : QD} : gEq (.int i) (.int j) S Q = Q (.bl (decide (i = j))) S := by
  apply propext
  show (okE (.int i) = true ∧ okE (.int j) = true ∧ Q (.bl (eqD (.int i) (.int j))) S) ↔ _
  rw [eqD_int]
  exact ⟨fun h => h.2.2, fun h => ⟨rfl, rfl, h⟩⟩
theorem gNe_int {i j : Int} {S : Sto} {Q : QD} : gNe (.int i) (.int j) S Q = Q (.bl (!decide (i = j))) S := by
  apply propext
  show (okE (.int i) = true ∧ okE (.int j) = true ∧ Q (.bl (!eqD (.int i) (.int j))) S) ↔ _
  rw [eqD_int]
  exact ⟨fun h => h.2.2, fun h => ⟨rfl, rfl, h⟩⟩
theorem gNe_str {i j : Str} {S : Sto} {Q : QD} : gNe (.str i) (.str j) S Q = Q (.bl (!decide (i = j))) S := rfl
theorem gMul_int {i j : Int} {S : Sto} {Q : QD} : gMul (.int i) (.int j) S Q = (CMulX i j ∧ Q (.int (i * j)) S) := rfl
/-- products of numbers below 2^1000 -/
theorem mul_small {i j : Int} (h1 : i.natAbs < 2 ^ 1000) (h2 : j.natAbs < 2 ^ 1000) : CMulX i j := mulx_ok h1 h2 (by decide)
theorem log2_lt9000 {n : Nat} (h : n < 2 ^ 9000) : n.log2 < 9000 := by
  by_cases z : n = 0
  · subst z; decide
  · exact (Nat.log2_lt z).mpr h
theorem div_small {i j : Int} (h : 0 < j) (h2 : j.natAbs < 2 ^ 9000) : CDivW i j := ⟨h, log2_lt9000 h2⟩
theorem bt_int : bootBuiltins "int" = some (.type "int") := by decide +kernel
theorem bt_bool : bootBuiltins "bool" = some (.type "bool") := by decide +kernel
theorem bt_str : bootBuiltins "str" = some (.type "str") := by decide +kernel
theorem bt_list : bootBuiltins "list" = some (.type "list") := by decide +kernel
theorem bt_dict : bootBuiltins "dict" = some (.type "dict") := by decide +kernel
theorem bt_tuple : bootBuiltins "tuple" = some (.type "tuple") := by decide +kernel
theorem bb_len : bootBuiltins "len" = some (.builtin "len") := by decide +kernel
theorem bb_abs : bootBuiltins "abs" = some (.builtin "abs") := by decide +kernel
theorem bb_all : bootBuiltins "all" = some (.builtin "all") := by decide +kernel
theorem bb_any : bootBuiltins "any" = some (.builtin "any") := by decide +kernel
theorem bb_sum : bootBuiltins "sum" = some (.builtin "sum") := by decide +kernel
theorem bb_min : bootBuiltins "min" = some (.builtin "min") := by decide +kernel
theorem bb_max : bootBuiltins "max" = some (.builtin "max") := by decide +kernel
theorem bb_repr : bootBuiltins "repr" = some (.builtin "repr") := by decide +kernel
theorem bb_isinstance : bootBuiltins "isinstance" = some (.builtin "isinstance") := by decide +kernel
/-- a number of the module, as it stands -/
def isIntV : Value → Int → Bool
  | .int i _, j => i == j
  | _, _ => false
theorem isIntV_rel {u : Value} {i : Int} (h : isIntV u i = true) : RelV (.int i) u := by
  cases u with
  | int j t => exact ⟨t, by rw [show j = i from by simpa [isIntV] using h]⟩
  | _ => simp [isIntV] at h
end DL
namespace DL
open PySem PySem.Spec L2
open PyProof.Rows hiding St
/-! ## what repr may be asked of, by sight -/
mutual
/-- numbers below 10^500, texts of plain signs, no cell -/
def tmD : D → Prop
  | .int i => i.natAbs < 10 ^ 500
  | .str x => (x.cps.toList.all fun c => decide (c < 16 ^ 8)) = true
  | .tup ds => tmDs ds
  | .rol ds => tmDs ds
  | .fro ds => tmDs ds
  | .loc _ => False
  | .ty _ => False
  | .non => True
  | .bl _ => True
def tmDs : List D → Prop
  | [] => True
  | d :: ds => tmD d ∧ tmDs ds
end
mutual
def szD : D → Nat
  | .str x => x.cps.size
  | .tup ds => szDs ds
  | .rol ds => szDs ds
  | .fro ds => szDs ds
  | _ => 0
def szDs : List D → Nat
  | [] => 0
  | d :: ds => szD d + 1 + szDs ds
end
mutual
def dpD : D → Nat
  | .tup ds => dpDs ds + 1
  | .rol ds => dpDs ds + 1
  | .fro ds => dpDs ds + 1
  | _ => 0
def dpDs : List D → Nat
  | [] => 0
  | d :: ds => max (dpD d) (dpDs ds)
end
theorem sh_int {i : Int} (h : i.natAbs < 10 ^ 500) : (PyData.shown (.int i)).length ≤ 501 := by
  have e := int_text_length_le10 (k := 500) (by decide) h
  show (Str.ofString (toString i)).length ≤ 501
  rw [PySem.ofString_length]; exact e
theorem sw_int {i : Int} (h : i.natAbs < 10 ^ 500) : i.natAbs.log2 < 1920 := by
  by_cases z : i.natAbs = 0
  · rw [z]; decide
  · exact (Nat.log2_lt z).mpr (Nat.lt_trans h (by decide +kernel))
mutual
theorem tm_ok : ∀ d : D, tmD d → okP d = true ∧ (toP d).showable = true ∧ (toP d).leavesShort 501 = true ∧ (toP d).depth = dpD d ∧ (toP d).bulk = szD d
  | .non, _ => ⟨rfl, rfl, rfl, rfl, rfl⟩
  | .bl _, _ => ⟨rfl, rfl, rfl, rfl, rfl⟩
  | .int i, h => by
    have h : i.natAbs < 10 ^ 500 := by simpa only [tmD] using h
    refine ⟨rfl, ?_, ?_, rfl, rfl⟩
    · rw [toP, PyData.showable]; exact decide_eq_true (sw_int h)
    · rw [toP, PyData.leavesShort]; exact decide_eq_true (sh_int h)
  | .str x, h => by
    refine ⟨rfl, rfl, ?_, rfl, ?_⟩
    · rw [toP, PyData.leavesShort]; simpa only [tmD] using h
    · rw [toP, PyData.bulk, szD]
  | .ty _, h => (by simp only [tmD] at h)
  | .loc _, h => (by simp only [tmD] at h)
  | .tup ds, h => by
    obtain ⟨h1, h2, h3, h4, h5⟩ := tms_ok ds (by simpa only [tmD] using h)
    refine ⟨by rw [okP]; exact h1, by rw [toP, PyData.showable]; exact h2, by rw [toP, PyData.leavesShort]; exact h3, by rw [toP, PyData.depth, dpD, h4], by rw [toP, PyData.bulk, szD, h5]⟩
  | .rol ds, h => by
    obtain ⟨h1, h2, h3, h4, h5⟩ := tms_ok ds (by simpa only [tmD] using h)
    refine ⟨by rw [okP]; exact h1, by rw [toP, PyData.showable]; exact h2, by rw [toP, PyData.leavesShort]; exact h3, by rw [toP, PyData.depth, dpD, h4], by rw [toP, PyData.bulk, szD, h5]⟩
  | .fro ds, h => by
    obtain ⟨h1, h2, h3, h4, h5⟩ := tms_ok ds (by simpa only [tmD] using h)
    refine ⟨by rw [okP]; exact h1, by rw [toP, PyData.showable]; exact h2, by rw [toP, PyData.leavesShort]; exact h3, by rw [toP, PyData.depth, dpD, h4], by rw [toP, PyData.bulk, szD, h5]⟩
theorem tms_ok : ∀ ds : List D, tmDs ds → okPs ds = true ∧ PyData.showableAll (toPs ds) = true ∧ PyData.leavesShortAll 501 (toPs ds) = true ∧ PyData.depthAll (toPs ds) = dpDs ds ∧ PyData.bulkAll (toPs ds) = szDs ds
  | [], _ => ⟨rfl, rfl, rfl, rfl, rfl⟩
  | d :: ds, h => by
    have h : tmD d ∧ tmDs ds := by simpa only [tmDs] using h
    obtain ⟨a1, a2, a3, a4, a5⟩ := tm_ok d h.1
    obtain ⟨b1, b2, b3, b4, b5⟩ := tms_ok ds h.2
    refine ⟨by rw [okPs, a1, b1]; rfl, by rw [toPs, PyData.showableAll, a2, b2]; rfl, by rw [toPs, PyData.leavesShortAll, a3, b3]; rfl, by rw [toPs, PyData.depthAll, dpDs, a4, b4], by rw [toPs, PyData.bulkAll, szDs, a5, b5]⟩
end
theorem okR_of {d : D} (h : tmD d) (h2 : szD d ≤ 30000) (h3 : dpD d ≤ 64) : okR d := by
  obtain ⟨a1, a2, a3, a4, a5⟩ := tm_ok d h
  refine ⟨a1, a2, by omega, ?_⟩
  have := PyData.shown_le_bulk 501 (by decide) (toP d) a3
  rw [sizeLine_eq]
  omega
theorem ten_small {i : Int} (h1 : -(2 ^ 1000) ≤ i) (h2 : i ≤ 2 ^ 1000) : i.natAbs < 10 ^ 500 := by
  have h : i.natAbs ≤ 2 ^ 1000 := by omega
  exact Nat.lt_of_le_of_lt h (by decide +kernel)
theorem ten_small64 {i : Int} (h1 : -(2 ^ 64) ≤ i) (h2 : i ≤ 2 ^ 64) : i.natAbs < 10 ^ 500 := by
  have h : i.natAbs ≤ 2 ^ 64 := by omega
  exact Nat.lt_of_le_of_lt h (by decide +kernel)
/-- == of a thing with itself -/
theorem wLc_map {α : Type} {g : WG} {t : WT} {el : WE} {gd : Gd} {ρ0 : Env} {Q : List D → Sto → Prop} {S : Sto} (c f : α → D) (xs : List α) (hgd : gd.ok S) (hl : xs.length ≤ sizeLine)
    (step : ∀ x ∈ xs, ∀ (k : D → Sto → Prop) (k0 : Sto → Prop), k (f x) S → g (c x) ρ0 S fun ρ1 S1 => t ρ1 S1 fun b S2 => if b = true then el ρ1 S2 k else k0 S2) (fin : Q (xs.map f) S) : wLcGo g t el gd ρ0 Q (xs.map c) [] S := by
  refine wLc_inv (fun i acc S' => S' = S ∧ acc = (xs.take i).map f) (xs.map c) ⟨rfl, by simp⟩ ?_ ?_
  · rintro i d k hd hk acc S' ⟨rfl, rfl⟩
    rw [List.getElem?_map] at hd
    cases hx : xs[i]? with
    | none => rw [hx] at hd; cases hd
    | some x =>
      rw [hx] at hd
      cases hd
      have hi : i < xs.length := (List.getElem?_eq_some_iff.mp hx).1
      refine ⟨hgd, step x (List.mem_of_getElem? hx) (fun z S3 => ((xs.take i).map f).length < sizeLine ∧ k ((xs.take i).map f ++ [z]) S3) _ ⟨by simp; omega, hk _ _ ⟨rfl, ?_⟩⟩⟩
      rw [List.take_succ, hx]; simp
  · rintro acc S' ⟨rfl, rfl⟩
    refine ⟨hgd, ?_⟩
    rw [List.length_map, List.take_length]
    exact fin
/-! ## == by sight -/
mutual
/-- None, numbers, tuples and lists of these -/
def noB : D → Bool
  | .non => true
  | .int _ => true
  | .tup ds => noBs ds
  | .rol ds => noBs ds
  | _ => false
def noBs : List D → Bool
  | [] => true
  | d :: ds => noB d && noBs ds
end
mutual
theorem noB_ok : ∀ d : D, noB d = true → okP d = true ∧ (toP d).canLay0 = true ∧ (toP d).depth = dpD d
  | .non, _ => ⟨rfl, rfl, rfl⟩
  | .int _, _ => ⟨rfl, rfl, rfl⟩
  | .tup ds, h => by
    obtain ⟨h1, h2, h3⟩ := noBs_ok ds (by simpa only [noB] using h)
    exact ⟨by rw [okP]; exact h1, by rw [toP, PyData.canLay0]; exact h2, by rw [toP, PyData.depth, dpD, h3]⟩
  | .rol ds, h => by
    obtain ⟨h1, h2, h3⟩ := noBs_ok ds (by simpa only [noB] using h)
    exact ⟨by rw [okP]; exact h1, by rw [toP, PyData.canLay0]; exact h2, by rw [toP, PyData.depth, dpD, h3]⟩
  | .bl _, h => nomatch h
  | .str _, h => nomatch h
  | .fro _, h => (by simp [noB] at h)
  | .loc _, h => nomatch h
  | .ty _, h => nomatch h
theorem noBs_ok : ∀ ds : List D, noBs ds = true → okPs ds = true ∧ PyData.canLayAll0 (toPs ds) = true ∧ PyData.depthAll (toPs ds) = dpDs ds
  | [], _ => ⟨rfl, rfl, rfl⟩
  | d :: ds, h => by
    have h : noB d = true ∧ noBs ds = true := by simpa only [noBs, Bool.and_eq_true] using h
    obtain ⟨a1, a2, a3⟩ := noB_ok d h.1
    obtain ⟨b1, b2, b3⟩ := noBs_ok ds h.2
    exact ⟨by rw [okPs, a1, b1]; rfl, by rw [toPs, PyData.canLayAll0, a2, b2]; rfl, by rw [toPs, PyData.depthAll, dpDs, a3, b3]⟩
end
theorem okE_of {d : D} (h : noB d = true) (h2 : dpD d ≤ 64) : okE d = true := by
  obtain ⟨a1, a2, a3⟩ := noB_ok d h
  unfold okE SeqAt.shaped
  rw [a1, a2, a3, decide_eq_true h2]; rfl
mutual
theorem eqv_iff : ∀ x y : D, noB x = true → noB y = true → (PyData.eqv (toP x) (toP y) = true ↔ x = y)
  | .non, y, _, hy => by cases y <;> simp [noB] at hy <;> simp [toP, PyData.eqv]
  | .int i, y, _, hy => by cases y <;> simp [noB] at hy <;> simp [toP, PyData.eqv]
  | .tup xs, y, hx, hy => by
    cases y with
    | tup ys =>
      rw [toP, toP, PyData.eqv, eqvs_iff xs ys (by simpa only [noB] using hx) (by simpa only [noB] using hy)]
      exact ⟨fun e => by rw [e], fun e => by cases e; rfl⟩
    | _ => simp [noB] at hy <;> simp [toP, PyData.eqv]
  | .rol xs, y, hx, hy => by
    cases y with
    | rol ys =>
      rw [toP, toP, PyData.eqv, eqvs_iff xs ys (by simpa only [noB] using hx) (by simpa only [noB] using hy)]
      exact ⟨fun e => by rw [e], fun e => by cases e; rfl⟩
    | _ => simp [noB] at hy <;> simp [toP, PyData.eqv]
  | .bl _, _, h, _ => nomatch h
  | .str _, _, h, _ => nomatch h
  | .fro _, _, h, _ => (by simp [noB] at h)
  | .loc _, _, h, _ => nomatch h
  | .ty _, _, h, _ => nomatch h
theorem eqvs_iff : ∀ xs ys : List D, noBs xs = true → noBs ys = true → (PyData.eqvAll (toPs xs) (toPs ys) = true ↔ xs = ys)
  | [], [], _, _ => by simp [toPs, PyData.eqvAll]
  | [], _ :: _, _, _ => by simp [toPs, PyData.eqvAll]
  | _ :: _, [], _, _ => by simp [toPs, PyData.eqvAll]
  | x :: xs, y :: ys, hx, hy => by
    have hx : noB x = true ∧ noBs xs = true := by simpa only [noBs, Bool.and_eq_true] using hx
    have hy : noB y = true ∧ noBs ys = true := by simpa only [noBs, Bool.and_eq_true] using hy
    rw [toPs, toPs, PyData.eqvAll, Bool.and_eq_true, eqv_iff x y hx.1 hy.1, eqvs_iff xs ys hx.2 hy.2, List.cons.injEq]
end
theorem eqD_self {d : D} (h : noB d = true) : eqD d d = true := (eqv_iff d d h h).mpr rfl
theorem eqD_iff {x y : D} (hx : noB x = true) (hy : noB y = true) : eqD x y = true ↔ x = y := eqv_iff x y hx hy
theorem gEq_at {x y : D} {S : Sto} {Q : QD} (x' y' : D) (b : Bool) (h1 : view S x = x') (h2 : view S y = y') (hx : noB x' = true) (hy : noB y' = true) (dx : dpD x' ≤ 64) (dy : dpD y' ≤ 64) (hb : b = true ↔ x' = y') (q : Q (.bl b) S) : gEq x y S Q := by
  have e : eqD x' y' = b := by
    rw [Bool.eq_iff_iff, eqD_iff hx hy]; exact hb.symm
  have goal : okE (view S x) = true ∧ okE (view S y) = true ∧ Q (.bl (eqD (view S x) (view S y))) S := by
    rw [h1, h2, e]
    exact ⟨okE_of hx dx, okE_of hy dy, q⟩
  cases x with
  | str a => subst h1; simp [view, noB] at hx
  | _ => cases y <;> exact goal
theorem gNe_at {x y : D} {S : Sto} {Q : QD} (x' y' : D) (b : Bool) (h1 : view S x = x') (h2 : view S y = y') (hx : noB x' = true) (hy : noB y' = true) (dx : dpD x' ≤ 64) (dy : dpD y' ≤ 64) (hb : b = true ↔ ¬ x' = y') (q : Q (.bl b) S) : gNe x y S Q := by
  have e : (!eqD x' y') = b := by
    rw [Bool.eq_iff_iff, Bool.not_eq_true', ← Bool.not_eq_true, eqD_iff hx hy]; exact hb.symm
  have goal : okE (view S x) = true ∧ okE (view S y) = true ∧ Q (.bl (!eqD (view S x) (view S y))) S := by
    rw [h1, h2, e]
    exact ⟨okE_of hx dx, okE_of hy dy, q⟩
  cases x with
  | str a => subst h1; simp [view, noB] at hx
  | _ => cases y <;> exact goal
theorem noBs_ints : ∀ ns : List Int, noBs (ns.map D.int) = true
  | [] => rfl
  | _ :: r => by rw [List.map_cons, noBs, noBs_ints r]; rfl
theorem dpDs_ints : ∀ ns : List Int, dpDs (ns.map D.int) = 0
  | [] => rfl
  | _ :: r => by rw [List.map_cons, dpDs, dpDs_ints r]; rfl
theorem noB_ints {ns : List Int} : noB (.rol (ns.map D.int)) = true := by rw [noB]; exact noBs_ints ns
theorem noB_tints {ns : List Int} : noB (.tup (ns.map D.int)) = true := by rw [noB]; exact noBs_ints ns
theorem dpD_ints {ns : List Int} : dpD (.rol (ns.map D.int)) ≤ 64 := by rw [dpD, dpDs_ints]; decide
theorem dpD_tints {ns : List Int} : dpD (.tup (ns.map D.int)) ≤ 64 := by rw [dpD, dpDs_ints]; decide
theorem atI_of {α : Type} {xs : List α} {k : Nat} {x : α} (h : xs[k]? = some x) : atI xs (k : Int) = some x := by
  have hl : k < xs.length := (List.getElem?_eq_some_iff.mp h).1
  unfold atI ixN
  rw [if_pos (by omega), if_pos (by omega)]
  exact h
theorem atI_ints {xs : List Int} {k : Nat} {x : Int} (h : xs[k]? = some x) : atI (xs.map D.int) (k : Int) = some (.int x) := atI_of (by rw [List.getElem?_map, h]; rfl)
theorem cutD_take {ds : List D} {k : Nat} (h : k ≤ ds.length) : cutD ds none (some (k : Int)) = ds.take k := by
  have e1 : HT.sIx ds.length 0 none = 0 := rfl
  have e2 : HT.sIx ds.length ds.length (some (k : Int)) = k := by rw [HT.sIx_nat]; omega
  unfold cutD
  rw [e1, e2]; simp
theorem cutD_init {ds : List D} : cutD ds none (some (-1)) = ds.take (ds.length - 1) := by
  have e1 : HT.sIx ds.length 0 none = 0 := rfl
  have e2 : HT.sIx ds.length ds.length (some (-1)) = ds.length - 1 := by unfold HT.sIx; simp; omega
  unfold cutD
  rw [e1, e2]; simp
theorem cutD_from {ds : List D} {k : Nat} (h : k ≤ ds.length) : cutD ds (some (k : Int)) none = ds.drop k := by
  have e1 : HT.sIx ds.length 0 (some (k : Int)) = k := by rw [HT.sIx_nat]; omega
  have e2 : HT.sIx ds.length ds.length none = ds.length := rfl
  unfold cutD
  rw [e1, e2, List.take_of_length_le (by simp)]
theorem isN_non : isN .non = true := rfl
theorem isN_tup {xs : List D} : isN (.tup xs) = false := rfl
theorem isN_rol {xs : List D} : isN (.rol xs) = false := rfl
theorem isN_int {i : Int} : isN (.int i) = false := rfl
theorem isN_str {i : Str} : isN (.str i) = false := rfl
theorem isN_bl {i : Bool} : isN (.bl i) = false := rfl
theorem isN_loc {i : Nat} : isN (.loc i) = false := rfl
theorem gd0 {S : Sto} : Gd.ok [] S := fun _ z => nomatch z
/-! ## statement by statement: what follows is kept shut -/
theorem seq_k {w1 w2 : WS} {E : EndsD} {ρ : Env} {S : Sto} (h : ∀ k : Env → Sto → Prop, (∀ ρ' S', w2 E ρ' S' → k ρ' S') → w1 { E with nx := k } ρ S) : sSeq w1 w2 E ρ S := h _ fun _ _ z => z
end DL
namespace DL
open PySem PySem.Spec L2
open PyProof.Rows hiding St
/-! ## fractions -/
def frD (q : Rat) : D := .tup [.int q.num, .int q.den]
def smallR (q : Rat) : Prop := q.num.natAbs < 2 ^ 900 ∧ q.den < 2 ^ 900
theorem natAbs_mul_lt {a b : Int} {m n : Nat} (h1 : a.natAbs < 2 ^ m) (h2 : b.natAbs < 2 ^ n) : (a * b).natAbs < 2 ^ (m + n) := by
  rw [Int.natAbs_mul, Nat.pow_add]
  exact Nat.mul_lt_mul'' h1 h2
theorem natAbs_add_lt {a b : Int} {m : Nat} (h1 : a.natAbs < 2 ^ m) (h2 : b.natAbs < 2 ^ m) : (a + b).natAbs < 2 ^ (m + 1) := by
  have := Int.natAbs_add_le a b
  rw [Nat.pow_succ]; omega
theorem smallR.num {q : Rat} (h : smallR q) : q.num.natAbs < 2 ^ 1000 := Nat.lt_trans h.1 (Nat.pow_lt_pow_right (by decide) (by decide))
theorem smallR.den {q : Rat} (h : smallR q) : ((q.den : Int)).natAbs < 2 ^ 1000 := by
  rw [Int.natAbs_natCast]
  exact Nat.lt_trans h.2 (Nat.pow_lt_pow_right (by decide) (by decide))
theorem den_pos (q : Rat) : 0 < (q.den : Int) := by have := q.den_pos; omega
theorem gcd_step {x y : Nat} : Nat.gcd y (x % y) = Nat.gcd x y := by
  rw [Nat.gcd_comm y, ← Nat.gcd_rec, Nat.gcd_comm]
/-- the reduced pair is the rational number -/
theorem low_num {a b : Int} (hb : 0 < b) : a / ((Int.gcd a b : Nat) : Int) = (mkRat a b.toNat).num := by
  rw [Rat.num_mkRat, if_neg (by omega)]
  have : Int.gcd a b = b.toNat.gcd a.natAbs := by
    rw [Nat.gcd_comm]
    unfold Int.gcd
    rw [show b.natAbs = b.toNat by omega]
  rw [this]
theorem low_den {a b : Int} (hb : 0 < b) : b / ((Int.gcd a b : Nat) : Int) = (mkRat a b.toNat).den := by
  rw [Rat.den_mkRat, if_neg (by omega)]
  have : Int.gcd a b = b.toNat.gcd a.natAbs := by
    rw [Nat.gcd_comm]
    unfold Int.gcd
    rw [show b.natAbs = b.toNat by omega]
  rw [this, Int.natCast_ediv]
  rw [show ((b.toNat : Nat) : Int) = b by omega]
theorem gcd_lt {a b : Int} {n : Nat} (hb : 0 < b) (h : b.natAbs < 2 ^ n) : 0 < ((Int.gcd a b : Nat) : Int) ∧ ((Int.gcd a b : Nat) : Int).natAbs < 2 ^ n := by
  have h1 : 0 < Int.gcd a b := Int.gcd_pos_of_ne_zero_right _ (by omega)
  have h2 : Int.gcd a b ≤ b.natAbs := Nat.le_of_dvd (by omega) (Nat.gcd_dvd_right _ _)
  refine ⟨by omega, ?_⟩
  rw [Int.natAbs_natCast]; omega
/-- what divides the denominator -/
theorem den_dvd {a : Int} {b : Nat} (hb : b ≠ 0) : (mkRat a b).den ∣ b := by
  rw [Rat.den_mkRat, if_neg hb]
  exact Nat.div_dvd_of_dvd (Nat.gcd_dvd_left _ _)
/-- q is a whole number of N-ths -/
def Nth (N : Nat) (q : Rat) : Prop := ∃ a : Int, q = mkRat a N
theorem Nth.den {N : Nat} {q : Rat} (h : Nth N q) (hN : 0 < N) : q.den ≤ N := by
  obtain ⟨a, rfl⟩ := h
  exact Nat.le_of_dvd hN (den_dvd (by omega))
theorem Nth.add {N : Nat} {p q : Rat} (hN : 0 < N) (h : Nth N p) (g : Nth N q) : Nth N (p + q) := by
  obtain ⟨a, rfl⟩ := h
  obtain ⟨b, rfl⟩ := g
  refine ⟨a + b, ?_⟩
  rw [Rat.mkRat_add_mkRat _ _ (by omega) (by omega), Rat.mkRat_eq_iff (Nat.mul_ne_zero (by omega) (by omega)) (by omega), Int.natCast_mul]
  grind
theorem Nth.mul {N M : Nat} {p q : Rat} (hN : 0 < N) (hM : 0 < M) (h : Nth N p) (g : Nth M q) : Nth (N * M) (p * q) := by
  obtain ⟨a, rfl⟩ := h
  obtain ⟨b, rfl⟩ := g
  exact ⟨a * b, by rw [Rat.mkRat_mul_mkRat]⟩
theorem Nth.up {N M : Nat} {q : Rat} (hN : 0 < N) (hM : 0 < M) (h : Nth N q) : Nth (N * M) q := by
  obtain ⟨a, rfl⟩ := h
  refine ⟨a * M, ?_⟩
  rw [Rat.mkRat_eq_iff (by omega) (Nat.mul_ne_zero (by omega) (by omega)), Int.natCast_mul]
  grind
theorem Nth.zero {N : Nat} : Nth N 0 := ⟨0, by simp⟩
theorem Nth.one : Nth 1 1 := ⟨1, by decide⟩
/-- a share between 0 and 1 with a small denominator is small -/
theorem small_share {q : Rat} (h0 : 0 ≤ q) (h1 : q ≤ 1) (hd : q.den < 2 ^ 900) : smallR q := by
  refine ⟨?_, hd⟩
  rw [Rat.le_iff] at h0 h1
  have e0 : (0 : Rat).num = 0 := rfl
  have e1 : (0 : Rat).den = 1 := rfl
  have e2 : (1 : Rat).num = 1 := rfl
  have e3 : (1 : Rat).den = 1 := rfl
  rw [e0, e1] at h0
  rw [e2, e3] at h1
  have : q.num.natAbs ≤ q.den := by omega
  omega
theorem tm_fr {q : Rat} (h : smallR q) : tmD (frD q) := by
  have k : (2 : Nat) ^ 900 < 10 ^ 500 := by decide +kernel
  refine ⟨?_, ?_, trivial⟩
  · show q.num.natAbs < 10 ^ 500
    exact Nat.lt_trans h.1 k
  · show ((q.den : Int)).natAbs < 10 ^ 500
    rw [Int.natAbs_natCast]
    exact Nat.lt_trans h.2 k
theorem frD_inj {p q : Rat} (h : frD p = frD q) : p = q := by
  unfold frD at h
  injection h with h
  injection h with h1 h2
  injection h2 with h2 _
  injection h1 with h1
  injection h2 with h2
  exact Rat.ext h1 (by omega)
theorem add_eq (f g : Rat) : mkRat (f.num * g.den + g.num * f.den) ((f.den : Int) * g.den).toNat = f + g := by
  rw [Rat.add_def']
  congr 1
theorem mul_eq (f g : Rat) : mkRat (f.num * g.num) ((f.den : Int) * g.den).toNat = f * g := by
  rw [Rat.mul_def']
  congr 1
end DL
namespace DL
open PySem PySem.Spec L2
open PyProof.Rows hiding St
section
variable {X : Cx} {tg e : Expr} {we : WE}
/-- a list or a tuple, whichever comes -/
def iSeq (K : PySem.W.Frag) (tl : TE) : TI := fun σ H R => tl σ H fun x H1 => ∃ a, x = .ref a ∧ (((∃ xs, SqL K H1 a xs) ∧ R (Itl K a) H1) ∨ ((∃ xs, SqT K H1 a xs) ∧ R (Itt K a) H1))
theorem pi_seq {tl : TE} (hl : PE X e tl) : PI X tg e (iSeq X.K tl) := by
  refine ⟨fun pins s σ H R I h => ?_⟩
  refine thn (hl.run pins s σ H _ I h) fun v s1 ⟨x, H1, I1, r1, q1⟩ => ?_
  obtain ⟨a, ea, q1⟩ := q1
  subst ea
  cases r1
  rcases q1 with ⟨⟨xs, hq⟩, q⟩ | ⟨⟨xs, hq⟩, q⟩
  · obtain ⟨its, rv, p, hz⟩ := I1.list hq
    refine wpAny_pyIter_list p.isList ?_
    refine ⟨s1.heap.objs.size, [s1.heap.objs.size], _, _, H1, rfl, I1.kept (t' := s1.toks) fun b o z => Heap.get?_push_of_some _ z, turn_list a _, ⟨_, Heap.get?_push_size _ rfl, rfl, rfl⟩, fun b hb => ?_, q⟩
    have eb : b = s1.heap.objs.size := by simpa using hb
    subst eb
    exact I1.fpOk (Nat.le_refl _) (I1.hok.fresh (Nat.le_refl _))
  · obtain ⟨its, rv, p, hz⟩ := I1.tuple hq
    refine wpAny_pyIter_tuple (show s1.heap.IsTuple a its.toArray from p) ?_
    refine ⟨s1.heap.objs.size, [s1.heap.objs.size], _, _, H1, rfl, I1.kept (t' := s1.toks) fun b o z => Heap.get?_push_of_some _ z, turn_tuple a _, ⟨_, Heap.get?_push_size _ rfl, rfl, rfl⟩, fun b hb => ?_, q⟩
    have eb : b = s1.heap.objs.size := by simpa using hb
    subst eb
    exact I1.fpOk (Nat.le_refl _) (I1.hok.fresh (Nat.le_refl _))
def wItA (w : WE) : WI := fun ρ S Q => w ρ S fun x S1 => match x with
  | .tup ds => Q ds [] S1
  | .rol ds => Q ds [] S1
  | .fro ds => Q ds [] S1
  | .loc n => ∃ ds, S1[n]? = some (.lst ds) ∧ Q ds [(n, .lst ds)] S1
  | _ => False
theorem ji_any (he : JE X e we) : JI X tg e (wItA we) := by
  refine PI.imp (pi_seq he) fun σ H R ⟨μ, ρ, S, Q, hs, ho, hw, ha⟩ => ⟨μ, ρ, S, _, hs, ho, hw, fun d S1 q v H1 μ1 e1 o1 r1 => ?_⟩
  cases d with
  | rol ds =>
    obtain ⟨a, vs, rfl, h1, r⟩ := rv_rol.mp r1
    exact ⟨a, rfl, .inl ⟨⟨vs, h1.sq⟩, ha _ _ _ q _ _ _ e1 o1 (it_list fun μ' H' S' e' o' _ => ⟨vs, (e'.lst h1).sq, RVs.move e' ds r⟩)⟩⟩
  | fro ds =>
    obtain ⟨a, vs, rfl, h1, r⟩ := rv_fro.mp r1
    exact ⟨a, rfl, .inl ⟨⟨vs, h1.sq⟩, ha _ _ _ q _ _ _ e1 o1 (it_list fun μ' H' S' e' o' _ => ⟨vs, (e'.fro h1).sq, RVs.move e' ds r⟩)⟩⟩
  | loc n =>
    obtain ⟨ds, hc, q⟩ := q
    obtain ⟨a, rfl, h1⟩ := rv_loc.mp r1
    obtain ⟨vs, h2, r⟩ := o1.addr hc h1
    refine ⟨a, rfl, .inl ⟨⟨vs, .inl (.inl h2)⟩, ha _ _ _ q _ _ _ e1 o1 (it_list fun μ' H' S' e' o' hg => ?_)⟩⟩
    obtain ⟨us, h3, r3⟩ := o'.addr (hg (n, .lst ds) (by simp)) (e'.lo _ _ h1)
    exact ⟨us, .inl (.inl h3), r3⟩
  | tup ds =>
    obtain ⟨a, vs, rfl, h1, r⟩ := rv_tup.mp r1
    refine ⟨a, rfl, .inr ⟨⟨vs, h1.sq⟩, ha _ _ _ q _ _ _ e1 o1 fun μ' H' S' e' o' hg i => ?_⟩⟩
    have r' := RVs.move e' ds r
    refine ⟨fun d hd => ?_, fun hl => ⟨vs, (e'.tup h1).sq, by rw [r.length]; exact hl⟩⟩
    obtain ⟨v, hv, rv⟩ := r'.get hd
    refine ⟨⟨vs, v, (e'.tup h1).sq, hv⟩, fun x H2 ⟨e2, y⟩ => ?_⟩
    subst e2
    have := y vs (e'.tup h1).sq
    rw [hv] at this; cases this
    exact ⟨Ext.refl, o', rv⟩
  | _ => exact q.elim
end
/-! ## tuples of numbers at the top of a module -/
def isIntsV : List Value → List Int → Bool
  | [], [] => true
  | v :: vs, i :: is => isIntV v i && isIntsV vs is
  | _, _ => false
def isTyV (T : String) : Value → Bool
  | .type n => decide (n = T)
  | _ => false
def isTupV (K : PySem.W.Frag) (u : Value) (is : List Int) : Bool := match u with
  | .ref a => match K.lookup a with
    | some o => isTyV "tuple" o.cls && (match o.data with
      | .seq its _ => isIntsV its.toList is && decide (its.size ≤ 1000)
      | _ => false)
    | none => false
  | _ => false
theorem isIntsV_ok : ∀ {vs : List Value} {is : List Int}, isIntsV vs is = true → Vals (is.map V.int) vs
  | [], [], _ => .nil
  | v :: vs, i :: is, h => by
    have h : isIntV v i = true ∧ isIntsV vs is = true := by simpa [isIntsV] using h
    exact .cons (isIntV_rel h.1) (isIntsV_ok h.2)
  | [], _ :: _, h => by simp [isIntsV] at h
  | _ :: _, [], h => by simp [isIntsV] at h
theorem rvs_ints {K : PySem.W.Frag} {H : Hp} {μ : Mu} : ∀ is : List Int, RVs K H μ (is.map V.int) (is.map D.int)
  | [] => RVs.nil
  | _ :: is => RVs.cons (rv_int.mpr rfl) (rvs_ints is)
theorem kcon_tup {K : PySem.W.Frag} {mg : Str → Option Value} {x : Str} {u : Value} {is : List Int} (hm : mg x = some u) (h : isTupV K u is = true) : KCon K mg x (.tup (is.map D.int)) := by
  unfold isTupV at h
  split at h
  · rename_i a
    split at h
    · rename_i o ho
      rw [Bool.and_eq_true] at h
      obtain ⟨h1, h2⟩ := h
      split at h2
      · rename_i its n hd
        rw [Bool.and_eq_true, decide_eq_true_eq] at h2
        have hc : o.cls = .type "tuple" := by
          unfold isTyV at h1
          split at h1
          · rename_i m e
            rw [e, of_decide_eq_true h1]
          · cases h1
        refine ⟨.ref a, .ref a, hm, rfl, fun H μ => rv_tup.mpr ⟨a, is.map V.int, rfl, .inr ⟨o, its, n, ho, hc, hd, ?_, isIntsV_ok h2.1⟩, rvs_ints is⟩⟩
        exact Nat.le_of_lt (small1000 h2.2)
      · cases h2
    · cases h
  · cases h
end DL
namespace DL
open PySem PySem.Spec L2
open PyProof.Rows hiding St
/-! ## enumerate of a tuple -/
theorem drawsT {prog : Program} {w : World} {A : Around} (hh : A.handled = none) (it l : Addr) (hne : l ≠ it) (items : Array Value) :
    Draws prog w A it [it, l] items.size (fun i v => items[i]? = some v) (fun i h => h.IsTupleIter it l i ∧ h.IsTuple l items) where
  live := fun _ _ st => let ⟨o, ho, _⟩ := st.1; ⟨o, ho⟩
  frame := fun _ _ _ st hk => ⟨st.1.at fun o z => hk it (by simp) o z, let ⟨o, ho, r⟩ := st.2; ⟨o, hk l (by simp) o ho, r⟩⟩
  item := fun i s Q E hi st hQ => by
    refine RZ.nextOf_tuple_item st.1 st.2 (x := items[i]) (by simp [hi]) fun h' hit' hs' => ?_
    exact hQ _ h' s.toks (by simp [hi]) ⟨hit', st.2.extBut hs'.extBut hne⟩ hs'
  done := fun s Q E st hE => RZ.nextOf_tuple_end hh st.1 st.2 (by simp) hE
theorem newT (l : Addr) (ia : Array Value) (n : Nat) (dct : Option Addr) (sl : Array (Option Value)) :
    Meets (Builtin.«enumerate.__new__» ⟨[.type "enumerate", .ref l], []⟩) (fun _ R s => s.heap.get? l = some { cls := .type "tuple", dict := dct, data := .seq ia n, slots := sl } ∧
      R (.ok (.ret (.ref (s.heap.push { cls := .type "tuple_iterator", data := .fields #[.ref l, .int 0 0] }).objs.size)))
        { s with heap := (s.heap.push { cls := .type "tuple_iterator", data := .fields #[.ref l, .int 0 0] }).push { cls := .type "enumerate", data := .fields #[.none, .bool false, .ref s.heap.objs.size, rawInt 0, .none, .none] } }) :=
  .of_wp fun prog w A R s ⟨hl, h⟩ => by
    obtain ⟨hp, g, d, tk, os⟩ := s
    have hsub := sub_enumerate
    have hL : Heap.IsTuple (Shared.heap ⟨hp, g, d, tk, os⟩) l ia := ⟨_, hl, rfl, n, rfl⟩
    wp_walk using AutoSeq1.wpAny_loadPart' hl
    refine wpAny_stack_any fun st => wpAny_pure ?_
    split
    · rename_i c _ _ _ _ _
      cases (c == Value.type "enumerate")
      · wp_walk using AutoSeq1.wpAny_loadPart' hl, wpAny_pyIter_tuple hL
        exact ⟨_, rfl, h⟩
      · wp_walk using AutoSeq1.wpAny_loadPart' hl, wpAny_pyIter_tuple hL
        exact ⟨_, rfl, h⟩
    · wp_walk using AutoSeq1.wpAny_loadPart' hl, wpAny_pyIter_tuple hL
      exact ⟨_, rfl, h⟩
section
variable {prog : Program} {w : World} {A : Around} {E : Value → Shared → Prop} {s : Shared}
theorem call_enumT {l : Addr} {ia : Array Value} {Q : Value → Shared → Prop} (hL : s.heap.IsTuple l ia)
    (h : ∀ h', IsEnum h' (s.heap.objs.size + 1) s.heap.objs.size 0 .none → h'.IsTupleIter s.heap.objs.size l 0 → h'.objs.size = s.heap.objs.size + 2 →
      (∀ b o, s.heap.get? b = some o → h'.get? b = some o) → Q (.ref (s.heap.objs.size + 1)) { s with heap := h' }) :
    wpAny (model prog w) A (call (.type "enumerate") [.ref l]) Q E s := by
  obtain ⟨⟨c, dct, dt, sl⟩, hl, hc, n, hd⟩ := hL
  replace hc : c = .type "tuple" := hc
  replace hd : dt = .seq ia n := hd
  subst hc hd
  refine callType_new F.called_enumerate (by decide) (F.typeCall_enumerate_1 _) (F.newCall_enumerate_1 _) (fun obj => F.args_object_init_2 obj _) F.entry_enumerate_new
    (newT l ia n dct sl) ⟨hl, ?_⟩
  have hz : (s.heap.push { cls := .type "tuple_iterator", data := .fields #[.ref l, .int 0 0] }).objs.size = s.heap.objs.size + 1 := Heap.size_push ..
  show _ ∧ _
  rw [hz]
  have he : IsEnum ((s.heap.push { cls := .type "tuple_iterator", data := .fields #[.ref l, .int 0 0] }).push
      { cls := .type "enumerate", data := .fields #[.none, .bool false, .ref s.heap.objs.size, rawInt 0, .none, .none] }) (s.heap.objs.size + 1) s.heap.objs.size 0 .none := by
    have := Heap.get?_push_size (s.heap.push { cls := .type "tuple_iterator", data := .fields #[.ref l, .int 0 0] })
      (o := { cls := .type "enumerate", data := .fields #[.none, .bool false, .ref s.heap.objs.size, rawInt 0, .none, .none] }) rfl
    rw [hz] at this; exact this
  refine ⟨⟨_, he, rfl⟩, h _ he ⟨_, Heap.get?_push_of_some _ (Heap.get?_push_size _ rfl), rfl, rfl⟩ (by rw [Heap.size_push, hz]) fun b o x => Heap.get?_push_of_some _ (Heap.get?_push_of_some _ x)⟩
end
/-- the tuple at a, each item in a new pair -/
def Itd (K : PySem.W.Frag) (a : Addr) : It :=
  ⟨fun i H => ∃ (xs : List V) (x : V), SqT K H a xs ∧ xs[i]? = some x, fun i H v H' => ∃ T x, v = .ref T ∧ H T = none ∧ H' = upd H T (.tup [.int (i : Nat), x]) ∧ ∀ xs, SqT K H a xs → xs[i]? = some x, fun i H => ∃ xs : List V, SqT K H a xs ∧ xs.length ≤ i⟩
theorem turn_enumT {P : Program} {w : World} {K : PySem.W.Frag} {elts : List Expr} {kk : Nat} {tpos : Pos} (a e it : Addr) :
    Turn P w K (.Tuple elts kk tpos) (Itd K a) [e, it] e (fun i h => (∃ old, IsEnum h e it ((i : Nat) : Int) old) ∧ h.IsTupleIter it a i ∧ e ≠ it) where
  mem := by simp
  obj := fun i h st b hb => by
    obtain ⟨⟨old, he⟩, ⟨o, ho, hc, hd⟩, _⟩ := st
    have e' : b = e ∨ b = it := by simpa using hb
    rcases e' with z | z
    · rw [z]; exact ⟨_, he, fun v q => nomatch q⟩
    · rw [z]; exact ⟨o, ho, fun v q => by rw [hd] at q; cases q⟩
  keep := fun i h h' st k => let ⟨⟨old, he⟩, hi, hne⟩ := st; ⟨⟨old, k e (by simp) _ he⟩, hi.at fun o q => k it (by simp) o q, hne⟩
  item := by
    intro X hP hw hK hc i pins s σ H E I hf st hg
    subst hP hw hK
    obtain ⟨⟨old, he⟩, hit, hne⟩ := st
    obtain ⟨xs, x, hq, hx⟩ := hg
    obtain ⟨its, rv, p, hz⟩ := I.tuple hq
    obtain ⟨u, hu, ru⟩ := rv.get hx
    have hel : e < s.heap.objs.size := Heap.lt_size he
    have hil : it < s.heap.objs.size := by obtain ⟨_, q, _⟩ := hit; exact Heap.lt_size q
    have pt : s.heap.IsTuple a its.toArray := p
    have ea : e ≠ a := by
      rintro rfl
      obtain ⟨o, ho, hc1, _⟩ := pt
      have he : s.heap.get? e = some _ := he
      rw [he] at ho; cases ho; injection hc1 with z; exact absurd z (by decide)
    have ia : a ≠ it := by
      rintro rfl
      obtain ⟨o, ho, hc1, _⟩ := pt
      obtain ⟨o2, ho2, hc2, _⟩ := id hit
      rw [ho] at ho2; cases ho2; rw [hc1] at hc2; injection hc2 with z; exact absurd z (by decide)
    have hlt : i < its.toArray.size := by
      have := (List.getElem?_eq_some_iff.mp hu).1
      simpa using this
    have hd : X.A.in1.handled = none := I.ok.hd hc
    refine wpAny_pyNext_enum_itemD (drawsT hd it a ia its.toArray) he ⟨hit, pt⟩ hlt hne (by simp [hne, ea]) fun y h' tk hy ho st' hT hsz hk => ?_
    have yu : y = u := by
      have h1 : its[i]? = some y := by simpa using hy
      rw [hu] at h1; exact (Option.some.inj h1).symm
    subst yu
    refine ⟨_, rfl, wpAny_letOwnedTupleGo_enum (s := { s with heap := h', toks := tk + 1 }) ho fun h'' he' sb => ?_⟩
    have hT2 : h''.get? s.heap.objs.size = some { cls := .type "tuple", data := .seq #[.int i tk, y] } := (sb.2 _ (Nat.ne_of_gt hel)).trans hT
    have new : ObjOk X.prog X.w (upd H s.heap.objs.size (.tup [.int (i : Nat), x])) h'' s.heap.objs.size (.tup [.int (i : Nat), x]) :=
      ⟨by show 2 ≤ sizeLine; decide, [.int i tk, y], .cons ⟨_, rfl⟩ (.cons ru .nil), ⟨_, hT2, rfl, _, rfl⟩⟩
    have I1 : Inv X pins σ (upd H s.heap.objs.size (.tup [.int (i : Nat), x])) { s with heap := h'', toks := tk + 1 } :=
      I.turnedNew (ch := [e, it]) (fun b ob hb q => (sb.2 b (fun z => hb (by simp [z]))).trans (hk b ob (fun z => hb (by simp [z])) (fun z => hb (by simp [z])) q)) hf (Nat.le_refl _) new
    refine ⟨.ref s.heap.objs.size, _, I1, rfl, ⟨_, x, rfl, I.hok.fresh (Nat.le_refl _), rfl, fun ys hy => by rw [I.tuple_inj hy hq]; exact hx⟩, ⟨⟨y, ?_⟩, st'.1.at fun o q => (sb.2 it (Ne.symm hne)).trans q, hne⟩, fun b hb => ?_⟩
    · have e1 : ((i + 1 : Nat) : Int) = (i : Int) + 1 := by omega
      rw [e1]; exact he'
    · have hb' : b < s.heap.objs.size := by
        have e' : b = e ∨ b = it := by simpa using hb
        rcases e' with z | z
        · rw [z]; exact hel
        · rw [z]; exact hil
      rw [upd_ne (Nat.ne_of_lt hb')]
      exact (hf b hb).1
  done := by
    intro X hP hw hK hc i pins s σ H E I hf st hg
    subst hP hw hK
    obtain ⟨⟨old, he⟩, hit, hne⟩ := st
    obtain ⟨xs, hq, hx⟩ := hg
    obtain ⟨its, rv, p, hz⟩ := I.tuple hq
    obtain ⟨f0, f1, f2, f3, f4, f5⟩ := hf it (by simp)
    have hl := rv.length
    have pt : s.heap.IsTuple a its.toArray := p
    have hT : s.TypeIs (.ref e) "enumerate" := ⟨_, he, rfl⟩
    unfold pyNext
    refine wpAny_bind (wpAny_attempt (wpAny_callSpecial?_slot (name := Str.ofString "__next__") hT F.slot_enumerate_next
      (wpAny_call_entry F.slot_enumerate_next hT F.entry_enumerate_next ?_ (F.args_enumerate_next_1 _))))
    show wpAny _ _ (field (.ref e) 2 >>= _) _ _ _
    refine wpAny_bind (wpAny_field he rfl (x := .ref it) rfl ?_)
    have hd : X.A.in1.handled = none := I.ok.hd hc
    refine wpAny_bind (RZ.nextOf_tuple_end hd hit pt (by simp; omega) fun h' x he' hx' => ?_)
    obtain ⟨o, ho, hco⟩ := hx'
    refine wpAny_bind (wpAny_isInstance (T := "StopIteration") (b := true) ⟨o, ho, hco⟩ isSubtype_stop ?_)
    exact wpAny_pure ⟨rfl, I.turned (t' := s.toks) (fun b o hb q => he' b o hb q) f0 f1 f3 f4 f5⟩
  self := fun A i s Q E st h => let ⟨⟨_, he⟩, _⟩ := st; wpAny_pyIter_enum he h
def iEnumA (K : PySem.W.Frag) (ta : TA) : TI := fun σ H R => ta σ H fun vs H1 => ∃ a, vs = [.ref a] ∧ (((∃ xs, SqL K H1 a xs) ∧ R (Ite K a) H1) ∨ ((∃ xs, SqT K H1 a xs) ∧ R (Itd K a) H1))
theorem pi_enumA {X : Cx} {e : Expr} {ta : TA} {p pos tpos : Pos} {elts : List Expr} {kk : Nat} (hg : Gl X "enumerate") (hm : X.mg "enumerate" = none) (ha : PA X [e] ta) (hs : starEach [e] X.env = [(false, eval e X.env)] := by rfl) :
    PI X (.Tuple elts kk tpos) (.Call (.Name "enumerate" p) [e] [] pos) (iEnumA X.K ta) := by
  refine ⟨fun pins s σ H R I h => ?_⟩
  refine Call_ (ld_blt I hg hm boot_enumerate (PyProof.Rows.callWith_type1 (thn (ha.run pos pins s σ H _ I h) fun us s1 ⟨vs, H1, I1, r1, q1⟩ => ?_) hs rfl))
  obtain ⟨a, ex, q1⟩ := q1
  subst ex
  have fp : ∀ b ∈ [s1.heap.objs.size + 1, s1.heap.objs.size], s1.heap.objs.size ≤ b := fun b hb => by
    have e' : b = s1.heap.objs.size + 1 ∨ b = s1.heap.objs.size := by simpa using hb
    rcases e' with z | z
    · rw [z]; exact Nat.le_add_right _ _
    · rw [z]; exact Nat.le_refl _
  cases r1 with
  | cons r rr =>
    cases rr
    cases r
    rcases q1 with ⟨⟨xs, hq⟩, q⟩ | ⟨⟨xs, hq⟩, q⟩
    · obtain ⟨its, rv, p', hz⟩ := I1.list hq
      refine call_enumerate_list p'.isList fun h' he hit hsz hk => wpAny_pyIter_enum he ?_
      have I2 : Inv X pins σ H1 { s1 with heap := h' } := I1.kept (t' := s1.toks) hk
      exact ⟨s1.heap.objs.size + 1, [s1.heap.objs.size + 1, s1.heap.objs.size], _, _, H1, rfl, I2, turn_enum a (s1.heap.objs.size + 1) s1.heap.objs.size, ⟨⟨.none, he⟩, hit, Nat.succ_ne_self _⟩, fun b hb => I1.fpOk (fp b hb) (I1.hok.fresh (fp b hb)), q⟩
    · obtain ⟨its, rv, p', hz⟩ := I1.tuple hq
      refine call_enumT (show s1.heap.IsTuple a its.toArray from p') fun h' he hit hsz hk => wpAny_pyIter_enum he ?_
      have I2 : Inv X pins σ H1 { s1 with heap := h' } := I1.kept (t' := s1.toks) hk
      exact ⟨s1.heap.objs.size + 1, [s1.heap.objs.size + 1, s1.heap.objs.size], _, _, H1, rfl, I2, turn_enumT a (s1.heap.objs.size + 1) s1.heap.objs.size, ⟨⟨.none, he⟩, hit, Nat.succ_ne_self _⟩, fun b hb => I1.fpOk (fp b hb) (I1.hok.fresh (fp b hb)), q⟩
/-! ## enumerate over data -/
def pairsD (ds : List D) : List D := (List.range ds.length).map fun i => .tup [.int (i : Nat), ds.getD i .non]
theorem pairsD_len {ds : List D} : (pairsD ds).length = ds.length := by simp [pairsD]
theorem pairsD_get {ds : List D} {i : Nat} {d : D} (h : (pairsD ds)[i]? = some d) : ∃ x, ds[i]? = some x ∧ d = .tup [.int (i : Nat), x] := by
  have hi : i < ds.length := by
    have := (List.getElem?_eq_some_iff.mp h).1
    rwa [pairsD_len] at this
  refine ⟨ds[i], by simp [hi], ?_⟩
  simp [pairsD, hi] at h
  exact h.symm
def wEnum (wl : WA) : WI := fun ρ S Q => wl ρ S fun vs S1 => match vs with
  | [.tup ds] => Q (pairsD ds) [] S1
  | [.rol ds] => Q (pairsD ds) [] S1
  | [.fro ds] => Q (pairsD ds) [] S1
  | [.loc n] => ∃ ds, S1[n]? = some (.lst ds) ∧ Q (pairsD ds) [(n, .lst ds)] S1
  | _ => False
section
variable {X : Cx}
theorem pair_rv {K : PySem.W.Frag} {H : Hp} {μ : Mu} {S : Sto} {T : Addr} {i : Nat} {x : V} {d : D} (o : StoOk K H μ S) (h0 : H T = none) (r : RV K H μ x d) :
    Ext μ μ H (upd H T (.tup [.int (i : Nat), x])) ∧ StoOk K (upd H T (.tup [.int (i : Nat), x])) μ S ∧ RV K (upd H T (.tup [.int (i : Nat), x])) μ (.ref T) (.tup [.int (i : Nat), d]) :=
  ⟨Ext.alloc h0, o.alloc h0, rv_tup.mpr ⟨T, _, rfl, .inl ⟨upd_same, o.out h0⟩, RVs.cons (rv_int.mpr rfl) (RVs.cons (RV.ext (Ext.alloc h0) d r) RVs.nil)⟩⟩
theorem it_enumL {K : PySem.W.Frag} {a : Addr} {ds : List D} {g : Gd} {μ : Mu} {H : Hp} (h : ∀ μ' H' S', Mv H H' μ μ' → StoOk K H' μ' S' → g.ok S' → ∃ vs, SqL K H' a vs ∧ RVs K H' μ' vs ds) : ItOk K (Ite K a) (pairsD ds) g μ H := by
  intro μ' H' S' e' o' hg i
  obtain ⟨vs, hq, r⟩ := h μ' H' S' e' o' hg
  refine ⟨fun d hd => ?_, fun hl => ⟨vs, hq, by rw [r.length]; rwa [pairsD_len] at hl⟩⟩
  obtain ⟨x, hx, rfl⟩ := pairsD_get hd
  obtain ⟨v, hv, rv⟩ := r.get hx
  refine ⟨⟨vs, v, hq, hv⟩, fun y H2 ⟨T, z, e1, e2, e3, e4⟩ => ?_⟩
  have := e4 vs hq
  rw [hv] at this; cases this
  subst e1 e3
  exact pair_rv o' e2 rv
theorem it_enumT {K : PySem.W.Frag} {a : Addr} {ds : List D} {g : Gd} {μ : Mu} {H : Hp} (h : ∀ μ' H' S', Mv H H' μ μ' → StoOk K H' μ' S' → g.ok S' → ∃ vs, SqT K H' a vs ∧ RVs K H' μ' vs ds) : ItOk K (Itd K a) (pairsD ds) g μ H := by
  intro μ' H' S' e' o' hg i
  obtain ⟨vs, hq, r⟩ := h μ' H' S' e' o' hg
  refine ⟨fun d hd => ?_, fun hl => ⟨vs, hq, by rw [r.length]; rwa [pairsD_len] at hl⟩⟩
  obtain ⟨x, hx, rfl⟩ := pairsD_get hd
  obtain ⟨v, hv, rv⟩ := r.get hx
  refine ⟨⟨vs, v, hq, hv⟩, fun y H2 ⟨T, z, e1, e2, e3, e4⟩ => ?_⟩
  have := e4 vs hq
  rw [hv] at this; cases this
  subst e1 e3
  exact pair_rv o' e2 rv
theorem ji_enum {e : Expr} {wl : WA} {p pos tpos : Pos} {elts : List Expr} {kk : Nat} (hg : Gl X "enumerate") (hm : X.mg "enumerate" = none) (ha : JA X [e] wl) (hs : starEach [e] X.env = [(false, eval e X.env)] := by rfl) :
    JI X (.Tuple elts kk tpos) (.Call (.Name "enumerate" p) [e] [] pos) (wEnum wl) := by
  refine PI.imp (pi_enumA hg hm ha hs) fun σ H R ⟨μ, ρ, S, Q, hs, ho, hw, ha⟩ => ⟨μ, ρ, S, _, hs, ho, hw, fun ds S1 q vs H1 μ1 e1 o1 r1 => ?_⟩
  split at q
  · obtain ⟨v, rfl, r⟩ := rvs_one r1
    obtain ⟨a, us, rfl, h1, r⟩ := rv_tup.mp r
    exact ⟨a, rfl, .inr ⟨⟨us, h1.sq⟩, ha _ _ _ q _ _ _ e1 o1 (it_enumT fun μ' H' S' e' o' _ => ⟨us, (e'.tup h1).sq, RVs.move e' _ r⟩)⟩⟩
  · obtain ⟨v, rfl, r⟩ := rvs_one r1
    obtain ⟨a, us, rfl, h1, r⟩ := rv_rol.mp r
    exact ⟨a, rfl, .inl ⟨⟨us, h1.sq⟩, ha _ _ _ q _ _ _ e1 o1 (it_enumL fun μ' H' S' e' o' _ => ⟨us, (e'.lst h1).sq, RVs.move e' _ r⟩)⟩⟩
  · obtain ⟨v, rfl, r⟩ := rvs_one r1
    obtain ⟨a, us, rfl, h1, r⟩ := rv_fro.mp r
    exact ⟨a, rfl, .inl ⟨⟨us, h1.sq⟩, ha _ _ _ q _ _ _ e1 o1 (it_enumL fun μ' H' S' e' o' _ => ⟨us, (e'.fro h1).sq, RVs.move e' _ r⟩)⟩⟩
  · obtain ⟨v, rfl, r⟩ := rvs_one r1
    obtain ⟨ds, hc, q⟩ := q
    obtain ⟨a, rfl, h1⟩ := rv_loc.mp r
    obtain ⟨us, h2, r⟩ := o1.addr hc h1
    refine ⟨a, rfl, .inl ⟨⟨us, .inl (.inl h2)⟩, ha _ _ _ q _ _ _ e1 o1 (it_enumL fun μ' H' S' e' o' hg => ?_)⟩⟩
    obtain ⟨ws, h3, r3⟩ := o'.addr (hg (_, .lst ds) (by simp)) (e'.lo _ _ h1)
    exact ⟨ws, .inl (.inl h3), r3⟩
  · exact q.elim
end
end DL
namespace DL
open PySem PySem.Spec L2
open PyProof.Rows hiding St
/-! ## a number in a row of numbers -/
def gInI (neg : Bool) : G2 := fun x y S Q => ∃ (i : Int) (ns : List Int), x = .int i ∧ (y = .tup (ns.map D.int) ∨ rdL S y = some (ns.map D.int)) ∧ Q (.bl (if neg then !decide (i ∈ ns) else decide (i ∈ ns))) S
theorem inV_ints {i : Int} {ns : List Int} : inV (.int i) (ns.map V.int) = decide (i ∈ ns) := by
  induction ns with
  | nil => rfl
  | cons n ns ih =>
    rw [Bool.eq_iff_iff] at ih ⊢
    simp [inV] at ih ⊢
    rw [ih]
    have e : (eqV (V.int n) (V.int i) = true) ↔ i = n := by
      show (n == i) = true ↔ i = n
      rw [beq_iff_eq]
      exact ⟨Eq.symm, Eq.symm⟩
    rw [e]
theorem flat_ints {ns : List Int} : (ns.map V.int).all flatV = true := by
  rw [List.all_eq_true]
  intro v hv
  obtain ⟨n, _, rfl⟩ := List.mem_map.mp hv
  rfl
theorem rvs_ints_eq {K : PySem.W.Frag} {H : Hp} {μ : Mu} : ∀ {ns : List Int} {vs : List V}, RVs K H μ vs (ns.map D.int) → vs = ns.map V.int
  | [], _, h => by simpa [RVs] using h
  | n :: ns, _, h => by
    rw [List.map_cons, RVs] at h
    obtain ⟨v, r, rfl, h1, h2⟩ := h
    rw [rv_int.mp h1, rvs_ints_eq h2]; rfl
section
variable {X : Cx}
theorem j_inI : OpJ X (compareOp .In) (gInI false) := by
  refine ⟨_, op_in_seq, fun {μ H S x y v u Q R} o rx ry ⟨i, ns, ex, ey, q⟩ ha => ?_⟩
  subst ex
  rw [rv_int.mp rx]
  have fin : R (.bl (inV (.int i) (ns.map V.int))) H := by rw [inV_ints]; exact ha.here o q (rv_bl.mpr rfl)
  rcases ey with rfl | e
  · obtain ⟨a, vs, rfl, h1, r⟩ := rv_tup.mp ry
    obtain rfl := rvs_ints_eq r
    exact ⟨a, _, rfl, .inr h1.sq, rfl, flat_ints, fin⟩
  · obtain ⟨a, vs, rfl, h1, r⟩ := rdL_ok o ry e
    obtain rfl := rvs_ints_eq r
    exact ⟨a, _, rfl, .inl h1, rfl, flat_ints, fin⟩
theorem j_notInI : OpJ X (compareOp .NotIn) (gInI true) := by
  refine ⟨_, op_notIn_seq, fun {μ H S x y v u Q R} o rx ry ⟨i, ns, ex, ey, q⟩ ha => ?_⟩
  subst ex
  rw [rv_int.mp rx]
  have fin : R (.bl (!inV (.int i) (ns.map V.int))) H := by rw [inV_ints]; exact ha.here o q (rv_bl.mpr rfl)
  rcases ey with rfl | e
  · obtain ⟨a, vs, rfl, h1, r⟩ := rv_tup.mp ry
    obtain rfl := rvs_ints_eq r
    exact ⟨a, _, rfl, .inr h1.sq, rfl, flat_ints, fin⟩
  · obtain ⟨a, vs, rfl, h1, r⟩ := rdL_ok o ry e
    obtain rfl := rvs_ints_eq r
    exact ⟨a, _, rfl, .inl h1, rfl, flat_ints, fin⟩
end
end DL
namespace DL
open PySem PySem.Spec L2
open PyProof.Rows hiding St
section
variable {X : Cx} {tg : Expr}
/-! ## range with a step -/
def stepsD (lo c : Int) (n : Nat) : List D := (List.range n).map fun (i : Nat) => D.int (lo + i * c)
theorem it_rangeC {K : PySem.W.Frag} {lo c : Int} {n : Nat} {μ : Mu} {H : Hp} : ItOk K (Itc lo c n) (stepsD lo c n) [] μ H := by
  intro μ' H' S' e' o' hg i
  have hl : (stepsD lo c n).length = n := by simp [stepsD]
  refine ⟨fun d hd => ?_, fun h => by rw [hl] at h; exact h⟩
  have hi : i < n := by rw [← hl]; exact (List.getElem?_eq_some_iff.mp hd).1
  refine ⟨hi, fun x H2 ⟨e2, ex⟩ => ?_⟩
  subst e2
  have : d = .int (lo + i * c) := by
    simp [stepsD, hi] at hd; exact hd.symm
  subst this
  exact ⟨Ext.refl, o', rv_int.mpr ex⟩
def wRng3 (wl : WA) : WI := fun ρ S Q => wl ρ S fun ds S1 => ∃ i j c n, ds = [.int i, .int j, .int c] ∧ RgC i j c n ∧ Q (stepsD i c n) [] S1
theorem rvs_three {K : PySem.W.Frag} {H : Hp} {μ : Mu} {vs : List V} {a b c : D} (r : RVs K H μ vs [a, b, c]) : ∃ v u z, vs = [v, u, z] ∧ RV K H μ v a ∧ RV K H μ u b ∧ RV K H μ z c := by
  rw [RVs] at r
  obtain ⟨v, t, rfl, r1, r2⟩ := r
  obtain ⟨u, z, rfl, r3, r4⟩ := rvs_two r2
  exact ⟨v, u, z, rfl, r1, r3, r4⟩
theorem ji_range3 {a b c : Expr} {wl : WA} {p pos : Pos} (hg : Gl X "range") (hm : X.mg "range" = none) (ha : JA X [a, b, c] wl)
    (hs : starEach [a, b, c] X.env = (false, eval a X.env) :: starEach [b, c] X.env := by rfl) (hpl : (backTo pos (starEach [b, c] X.env)).any (·.1) = false := by rfl) :
    JI X tg (.Call (.Name "range" p) [a, b, c] [] pos) (wRng3 wl) := by
  refine PI.imp (pi_range3 hg hm ha hs hpl) fun σ H R ⟨μ, ρ, S, Q, hs, ho, hw, ha⟩ => ⟨μ, ρ, S, _, hs, ho, hw, fun ds S1 q vs H1 μ1 e1 o1 r1 => ?_⟩
  obtain ⟨i, j, k, n, rfl, hc, q⟩ := q
  obtain ⟨v, u, z, rfl, h1, h2, h3⟩ := rvs_three r1
  exact ⟨i, j, k, n, by rw [rv_int.mp h1, rv_int.mp h2, rv_int.mp h3], hc, ha _ _ _ q _ _ _ e1 o1 it_rangeC⟩
/-! ## zip -/
def zipD (xs ys : List D) : List D := (xs.zip ys).map fun p => .tup [p.1, p.2]
theorem zipD_get {xs ys : List D} {i : Nat} {d : D} (h : (zipD xs ys)[i]? = some d) : ∃ x y, xs[i]? = some x ∧ ys[i]? = some y ∧ d = .tup [x, y] := by
  unfold zipD at h
  rw [List.getElem?_map] at h
  cases e : (xs.zip ys)[i]? with
  | none => rw [e] at h; cases h
  | some p =>
    rw [e] at h
    cases h
    obtain ⟨h1, h2⟩ := List.getElem?_zip_eq_some.mp e
    exact ⟨_, _, h1, h2, rfl⟩
theorem zipD_len {xs ys : List D} : (zipD xs ys).length = min xs.length ys.length := by simp [zipD]
/-- what must stand while x, whose items are xs, is walked -/
def gdOf (xs : List D) : D → Gd
  | .loc n => [(n, .lst xs)]
  | _ => []
/-- two tuples, or two lists -/
def wZip (wl : WA) : WI := fun ρ S Q => wl ρ S fun vs S1 => match vs with
  | [.tup xs, .tup ys] => Q (zipD xs ys) [] S1
  | [x, y] => ∃ xs ys, ((x = .rol xs ∨ x = .fro xs) ∨ ∃ n, x = .loc n ∧ S1[n]? = some (.lst xs)) ∧ ((y = .rol ys ∨ y = .fro ys) ∨ ∃ n, y = .loc n ∧ S1[n]? = some (.lst ys)) ∧ Q (zipD xs ys) (gdOf xs x ++ gdOf ys y) S1
  | _ => False
theorem pair_rv2 {K : PySem.W.Frag} {H : Hp} {μ : Mu} {S : Sto} {T : Addr} {x y : V} {d e : D} (o : StoOk K H μ S) (h0 : H T = none) (r : RV K H μ x d) (r2 : RV K H μ y e) :
    Ext μ μ H (upd H T (.tup [x, y])) ∧ StoOk K (upd H T (.tup [x, y])) μ S ∧ RV K (upd H T (.tup [x, y])) μ (.ref T) (.tup [d, e]) :=
  ⟨Ext.alloc h0, o.alloc h0, rv_tup.mpr ⟨T, _, rfl, .inl ⟨upd_same, o.out h0⟩, RVs.cons (RV.ext (Ext.alloc h0) d r) (RVs.cons (RV.ext (Ext.alloc h0) e r2) RVs.nil)⟩⟩
theorem it_zipL {K : PySem.W.Frag} {a b : Addr} {xs ys : List D} {g : Gd} {μ : Mu} {H : Hp} (h : ∀ μ' H' S', Mv H H' μ μ' → StoOk K H' μ' S' → g.ok S' → ∃ vs us, SqL K H' a vs ∧ RVs K H' μ' vs xs ∧ SqL K H' b us ∧ RVs K H' μ' us ys) : ItOk K (Itz K a b) (zipD xs ys) g μ H := by
  intro μ' H' S' e' o' hg i
  obtain ⟨vs, us, hq, r, hq2, r2⟩ := h μ' H' S' e' o' hg
  refine ⟨fun d hd => ?_, fun hl => ⟨vs, us, hq, hq2, by rw [r.length, r2.length]; rw [zipD_len] at hl; omega⟩⟩
  obtain ⟨x, y, hx, hy, rfl⟩ := zipD_get hd
  obtain ⟨v, hv, rv⟩ := r.get hx
  obtain ⟨u, hu, ru⟩ := r2.get hy
  refine ⟨⟨vs, us, v, u, hq, hq2, hv, hu⟩, fun z H2 ⟨T, p, q, e1, e2, e3, e4, e5⟩ => ?_⟩
  have t1 := e4 vs hq
  have t2 := e5 us hq2
  rw [hv] at t1
  rw [hu] at t2
  cases t1; cases t2
  subst e1 e3
  exact pair_rv2 o' e2 rv ru
theorem it_zipT {K : PySem.W.Frag} {a b : Addr} {xs ys : List D} {g : Gd} {μ : Mu} {H : Hp} (h : ∀ μ' H' S', Mv H H' μ μ' → StoOk K H' μ' S' → g.ok S' → ∃ vs us, SqT K H' a vs ∧ RVs K H' μ' vs xs ∧ SqT K H' b us ∧ RVs K H' μ' us ys) : ItOk K (RZ.ItzT K a b) (zipD xs ys) g μ H := by
  intro μ' H' S' e' o' hg i
  obtain ⟨vs, us, hq, r, hq2, r2⟩ := h μ' H' S' e' o' hg
  refine ⟨fun d hd => ?_, fun hl => ⟨vs, us, hq, hq2, by rw [r.length, r2.length]; rw [zipD_len] at hl; omega⟩⟩
  obtain ⟨x, y, hx, hy, rfl⟩ := zipD_get hd
  obtain ⟨v, hv, rv⟩ := r.get hx
  obtain ⟨u, hu, ru⟩ := r2.get hy
  refine ⟨⟨vs, us, v, u, hq, hq2, hv, hu⟩, fun z H2 ⟨T, p, q, e1, e2, e3, e4, e5⟩ => ?_⟩
  have t1 := e4 vs hq
  have t2 := e5 us hq2
  rw [hv] at t1
  rw [hu] at t2
  cases t1; cases t2
  subst e1 e3
  exact pair_rv2 o' e2 rv ru
/-- a list that stands while its guard stands -/
theorem stands {K : PySem.W.Frag} {H : Hp} {μ : Mu} {S : Sto} {v : V} {x : D} {xs : List D} (o : StoOk K H μ S) (r : RV K H μ v x) (h : (x = .rol xs ∨ x = .fro xs) ∨ ∃ n, x = .loc n ∧ S[n]? = some (.lst xs)) :
    ∃ a vs, v = .ref a ∧ SqL K H a vs ∧ ∀ μ' H' S', Mv H H' μ μ' → StoOk K H' μ' S' → Gd.ok (gdOf xs x) S' → ∃ us, SqL K H' a us ∧ RVs K H' μ' us xs := by
  rcases h with (rfl | rfl) | ⟨n, rfl, hc⟩
  · obtain ⟨a, vs, rfl, h1, r1⟩ := rv_rol.mp r
    exact ⟨a, vs, rfl, h1.sq, fun μ' H' S' e' _ _ => ⟨vs, (e'.lst h1).sq, RVs.move e' _ r1⟩⟩
  · obtain ⟨a, vs, rfl, h1, r1⟩ := rv_fro.mp r
    exact ⟨a, vs, rfl, h1.sq, fun μ' H' S' e' _ _ => ⟨vs, (e'.fro h1).sq, RVs.move e' _ r1⟩⟩
  · obtain ⟨a, rfl, h1⟩ := rv_loc.mp r
    obtain ⟨vs, h2, r1⟩ := o.addr hc h1
    refine ⟨a, vs, rfl, .inl (.inl h2), fun μ' H' S' e' o' hg => ?_⟩
    obtain ⟨us, h3, r3⟩ := o'.addr (hg (n, .lst xs) (by simp [gdOf])) (e'.lo _ _ h1)
    exact ⟨us, .inl (.inl h3), r3⟩
theorem ji_zip {e e2 : Expr} {wl : WA} {p pos tpos : Pos} {elts : List Expr} {kk : Nat} (hg : Gl X "zip") (hm : X.mg "zip" = none) (ha : JA X [e, e2] wl)
    (hs : starEach [e, e2] X.env = (false, eval e X.env) :: starEach [e2] X.env := by rfl) (hpl : (backTo pos (starEach [e2] X.env)).any (·.1) = false := by rfl) :
    JI X (.Tuple elts kk tpos) (.Call (.Name "zip" p) [e, e2] [] pos) (wZip wl) := by
  refine PI.imp (RZ.pi_zipA hg hm ha hs hpl) fun σ H R ⟨μ, ρ, S, Q, hs, ho, hw, ha⟩ => ⟨μ, ρ, S, _, hs, ho, hw, fun ds S1 q vs H1 μ1 e1 o1 r1 => ?_⟩
  split at q
  · obtain ⟨v, u, rfl, r, r2⟩ := rvs_two r1
    obtain ⟨a, us, rfl, h1, r⟩ := rv_tup.mp r
    obtain ⟨b, ws, rfl, h2, r2⟩ := rv_tup.mp r2
    exact ⟨a, b, us, ws, rfl, .inr ⟨h1.sq, h2.sq, ha _ _ _ q _ _ _ e1 o1 (it_zipT fun μ' H' S' e' o' _ => ⟨us, ws, (e'.tup h1).sq, RVs.move e' _ r, (e'.tup h2).sq, RVs.move e' _ r2⟩)⟩⟩
  · obtain ⟨v, u, rfl, r, r2⟩ := rvs_two r1
    obtain ⟨xs, ys, hx, hy, q⟩ := q
    obtain ⟨a, us, rfl, h1, k1⟩ := stands o1 r hx
    obtain ⟨b, ws, rfl, h2, k2⟩ := stands o1 r2 hy
    refine ⟨a, b, us, ws, rfl, .inl ⟨h1, h2, ha _ _ _ q _ _ _ e1 o1 (it_zipL fun μ' H' S' e' o' hg => ?_)⟩⟩
    obtain ⟨us', a1, a2⟩ := k1 μ' H' S' e' o' fun p hp => hg p (List.mem_append_left _ hp)
    obtain ⟨ws', b1, b2⟩ := k2 μ' H' S' e' o' fun p hp => hg p (List.mem_append_right _ hp)
    exact ⟨us', ws', a1, a2, b1, b2⟩
  · exact q.elim
end
end DL
namespace DL
open PySem PySem.Spec L2
open PyProof.Rows hiding St
/-! ## list(range(..)), tuple(range(..)) -/
abbrev WRg := Env → Sto → (Int → Int → Sto → Prop) → Prop
def LRg (K : PySem.W.Frag) (w : WRg) : St → Hp → (Int → Int → Hp → Prop) → Prop := fun σ H R => ∃ μ ρ S Q, Slots K H μ σ ρ ∧ StoOk K H μ S ∧ w ρ S Q ∧ ∀ a b S', Q a b S' → ∀ H' μ', Ext μ μ' H H' → StoOk K H' μ' S' → R a b H'
def JRg (X : Cx) (e : Expr) (w : WRg) : Prop := PRg X e (LRg X.K w)
section
variable {X : Cx} {a b e : Expr} {wa wb : WE} {w : WRg} {p pos : Pos}
theorem PRg.imp {t t' : St → Hp → (Int → Int → Hp → Prop) → Prop} (h : PRg X e t) (f : ∀ σ H Q, t' σ H Q → t σ H Q) : PRg X e t' := fun pins s σ H Q I q => h pins s σ H Q I (f σ H Q q)
def wRg1 (wa : WE) : WRg := fun ρ S Q => wa ρ S fun x S1 => ∃ n, x = .int n ∧ Q 0 n S1
def wRg2 (wa wb : WE) : WRg := fun ρ S Q => wa ρ S fun x S1 => wb ρ S1 fun y S2 => ∃ i j, x = .int i ∧ y = .int j ∧ Q i j S2
theorem jrg_1 (hg : Gl X "range") (hm : X.mg "range" = none) (ha : JE X a wa) (na : starEach [a] X.env = (false, eval a X.env) :: starEach [] X.env := by rfl) : JRg X (.Call (.Name "range" p) [a] [] pos) (wRg1 wa) :=
  PRg.imp (prg_1 hg hm ha na) fun σ H R ⟨μ, ρ, S, Q, hs, ho, hw, ha⟩ => ⟨μ, ρ, S, _, hs, ho, hw, fun x S1 ⟨n, ex, q⟩ v H1 μ1 e1 o1 r1 => by
    subst ex
    exact ⟨n, rv_int.mp r1, ha _ _ _ q _ _ e1 o1⟩⟩
theorem jrg_2 (hg : Gl X "range") (hm : X.mg "range" = none) (ha : JE X a wa) (hb : JE X b wb) (na : starEach [a, b] X.env = (false, eval a X.env) :: starEach [b] X.env := by rfl)
    (nb : starEach [b] X.env = (false, eval b X.env) :: starEach [] X.env := by rfl) (hp : (backTo pos (starEach [b] X.env)).any (·.1) = false := by rfl) : JRg X (.Call (.Name "range" p) [a, b] [] pos) (wRg2 wa wb) :=
  PRg.imp (prg_2 hg hm ha hb na nb hp) fun σ H R ⟨μ, ρ, S, Q, hs, ho, hw, ha⟩ => ⟨μ, ρ, S, _, hs, ho, hw, fun x S1 q v H1 μ1 e1 o1 r1 => ⟨μ1, ρ, S1, _, hs.ext e1, o1, q, fun y S2 ⟨i, j, ex, ey, q2⟩ u H2 μ2 e2 o2 r2 => by
    subst ex ey
    exact ⟨i, j, rv_int.mp r1, rv_int.mp r2, ha _ _ _ q2 _ _ (e1.trans e2) o2⟩⟩⟩
theorem rgV_rv {K : PySem.W.Frag} {H : Hp} {μ : Mu} (i j : Int) : RVs K H μ (rgV i j) (intsD i (j - i).toNat) := by
  unfold rgV intsD
  induction List.range (j - i).toNat with
  | nil => exact RVs.nil
  | cons x l ih => exact RVs.cons (rv_int.mpr rfl) ih
def wListRg (w : WRg) : WE := fun ρ S Q => w ρ S fun i j S1 => RgOk i j ∧ Q (.rol (intsD i (j - i).toNat)) S1
def wListRgL (w : WRg) : WE := fun ρ S Q => w ρ S fun i j S1 => RgOk i j ∧ Q (.loc S1.length) (S1 ++ [.lst (intsD i (j - i).toNat)])
def wTupRg (w : WRg) : WE := fun ρ S Q => w ρ S fun i j S1 => RgOk i j ∧ Q (.tup (intsD i (j - i).toNat)) S1
theorem je_listRg (hc : X.calm = true) (hg : Gl X "list") (hm : X.mg "list" = none) (he : JRg X e w) (na : starEach [e] X.env = (false, eval e X.env) :: starEach [] X.env := by rfl) : JE X (.Call (.Name "list" p) [e] [] pos) (wListRg w) :=
  PE.imp (pe_listRg hc hg hm he na) fun σ H R ⟨μ, ρ, S, Q, hs, ho, hw, ha⟩ => ⟨μ, ρ, S, _, hs, ho, hw, fun i j S1 q H1 μ1 e1 o1 => ⟨q.1, (ha.ext e1).rol o1 q.2 (rgV_rv i j)⟩⟩
theorem je_listRgL (hc : X.calm = true) (hg : Gl X "list") (hm : X.mg "list" = none) (he : JRg X e w) (na : starEach [e] X.env = (false, eval e X.env) :: starEach [] X.env := by rfl) : JE X (.Call (.Name "list" p) [e] [] pos) (wListRgL w) :=
  PE.imp (pe_listRg hc hg hm he na) fun σ H R ⟨μ, ρ, S, Q, hs, ho, hw, ha⟩ => ⟨μ, ρ, S, _, hs, ho, hw, fun i j S1 q H1 μ1 e1 o1 => ⟨q.1, (ha.ext e1).lst o1 q.2 (rgV_rv i j)⟩⟩
theorem je_tupRg (hc : X.calm = true) (hg : Gl X "tuple") (hm : X.mg "tuple" = none) (he : JRg X e w) (na : starEach [e] X.env = (false, eval e X.env) :: starEach [] X.env := by rfl) : JE X (.Call (.Name "tuple" p) [e] [] pos) (wTupRg w) :=
  PE.imp (pe_tupRg hc hg hm he na) fun σ H R ⟨μ, ρ, S, Q, hs, ho, hw, ha⟩ => ⟨μ, ρ, S, _, hs, ho, hw, fun i j S1 q H1 μ1 e1 o1 => ⟨q.1, (ha.ext e1).tup o1 q.2 (rgV_rv i j)⟩⟩
end
end DL
namespace DL
open PySem PySem.Spec L2
open PyProof.Rows hiding St
/-! ## d.get(k), d.get(k, x): a dict of the store with plain keys -/
def isDic (S : Sto) (x : D) : Prop := ∃ n kvs, x = .loc n ∧ S[n]? = some (.dic kvs)
def gGet (x y z : D) (S : Sto) (Q : QD) : Prop := ∃ n kvs k, x = .loc n ∧ S[n]? = some (.dic kvs) ∧ keyD y = some k ∧ Q ((valD kvs k).getD z) S
def wDGet1 (wo wy : WE) : WE := fun ρ S Q => wo ρ S fun x S1 => isDic S1 x ∧ wy ρ S1 fun y S2 => gGet x y .non S2 Q
def wDGet2 (wo wy wx : WE) : WE := fun ρ S Q => wo ρ S fun x S1 => isDic S1 x ∧ wy ρ S1 fun y S2 => wx ρ S2 fun z S3 => gGet x y z S3 Q
section
variable {K : PySem.W.Frag} {H : Hp} {μ : Mu} {S : Sto}
theorem isDic_at {x : D} {v : V} (o : StoOk K H μ S) (r : RV K H μ v x) (h : isDic S x) : ∃ a, v = .ref a ∧ IsD H a := by
  obtain ⟨n, kvs, rfl, e⟩ := h
  obtain ⟨a, us, rfl, _, h1, _⟩ := dic_ok o r e
  exact ⟨a, rfl, .inl ⟨us, .inl h1⟩⟩
theorem get_at {x y z : D} {v u t : V} {Q : QD} {R : VK} (o : StoOk K H μ S) (r : RV K H μ v x) (ry : RV K H μ u y) (rz : RV K H μ t z) (h : gGet x y z S Q) (ha : After K Q μ H R) : ∃ a, v = .ref a ∧ ∃ ov, DGet H a u ov ∧ R (ov.getD t) H := by
  obtain ⟨n, kvs, k, rfl, e, ek, q⟩ := h
  obtain ⟨a, us, rfl, _, h1, h2⟩ := dic_ok o r e
  refine ⟨a, rfl, valV us k, .inl ⟨us, k, .inl h1, keyD_rv ek ry, rfl⟩, ?_⟩
  cases z2 : valD kvs k with
  | none =>
    rw [z2] at q
    rw [h2.none z2]
    exact ha.here o q rz
  | some d =>
    rw [z2] at q
    obtain ⟨w, e3, r3⟩ := h2.some z2
    rw [e3]
    exact ha.here o q r3
end
section
variable {X : Cx} {o e f : Expr} {apos cpos : Pos} {wo wy wx : WE}
theorem je_dget1 (hu : X.A.units + 1 < cLine) (ho : JE X o wo) (he : JE X e wy) (m : M1 X o "get" apos e cpos) : JE X (.Call (.Attribute o "get" apos) [e] [] cpos) (wDGet1 wo wy) := by
  refine PE.imp (pe_dget1 hu ho he m) fun σ H R ⟨μ, ρ, S, Q, hs, hk, hw, ha⟩ => ⟨μ, ρ, S, _, hs, hk, hw, fun x S1 ⟨hd, q⟩ v H1 μ1 e1 o1 r1 => ?_⟩
  obtain ⟨a, rfl, hD⟩ := isDic_at o1 r1 hd
  refine ⟨a, rfl, hD, μ1, ρ, S1, _, hs.ext e1, o1, q, fun y S2 q2 u H2 μ2 e2 o2 r2 => ?_⟩
  obtain ⟨b, eb, ov, g1, g2⟩ := get_at (t := .non) o2 (RV.ext e2 x r1) r2 (rv_non.mpr rfl) q2 (ha.ext (e1.trans e2))
  cases eb
  exact ⟨ov, g1, g2⟩
theorem je_dget2 (hu : X.A.units + 1 < cLine) (ho : JE X o wo) (he : JE X e wy) (hf : JE X f wx) (m : M2 X o "get" apos e f cpos) : JE X (.Call (.Attribute o "get" apos) [e, f] [] cpos) (wDGet2 wo wy wx) := by
  refine PE.imp (pe_dget2 hu ho he hf m) fun σ H R ⟨μ, ρ, S, Q, hs, hk, hw, ha⟩ => ⟨μ, ρ, S, _, hs, hk, hw, fun x S1 ⟨hd, q⟩ v H1 μ1 e1 o1 r1 => ?_⟩
  obtain ⟨a, rfl, hD⟩ := isDic_at o1 r1 hd
  refine ⟨a, rfl, hD, μ1, ρ, S1, _, hs.ext e1, o1, q, fun y S2 q2 u H2 μ2 e2 o2 r2 => ?_⟩
  refine ⟨μ2, ρ, S2, _, hs.ext (e1.trans e2), o2, q2, fun z S3 q3 t H3 μ3 e3 o3 r3 => ?_⟩
  obtain ⟨b, eb, ov, g1, g2⟩ := get_at (t := t) o3 (RV.ext (e2.trans e3) x r1) (RV.ext e3 y r2) r3 q3 (ha.ext ((e1.trans e2).trans e3))
  cases eb
  exact ⟨ov, g1, g2⟩
end
/-! ## k in d, k not in d -/
def wInD (neg : Bool) (wi wo : WE) : WE := fun ρ S Q => wi ρ S fun y S1 => wo ρ S1 fun x S2 => ∃ n kvs k, x = .loc n ∧ S2[n]? = some (.dic kvs) ∧ keyD y = some k ∧ Q (.bl (if neg then !(valD kvs k).isSome else (valD kvs k).isSome)) S2
section
variable {K : PySem.W.Frag} {H : Hp} {μ : Mu} {S : Sto}
theorem in_at {neg : Bool} {x y : D} {v u : V} {Q : QD} {R : VK} (o : StoOk K H μ S) (r : RV K H μ v x) (ry : RV K H μ u y) (h : ∃ n kvs k, x = .loc n ∧ S[n]? = some (.dic kvs) ∧ keyD y = some k ∧ Q (.bl (if neg then !(valD kvs k).isSome else (valD kvs k).isSome)) S)
    (ha : After K Q μ H R) : ∃ a ov, v = .ref a ∧ DGet H a u ov ∧ R (.bl (if neg then !ov.isSome else ov.isSome)) H := by
  obtain ⟨n, kvs, k, rfl, e, ek, q⟩ := h
  obtain ⟨a, us, rfl, _, h1, h2⟩ := dic_ok o r e
  refine ⟨a, valV us k, rfl, .inl ⟨us, k, .inl h1, keyD_rv ek ry, rfl⟩, ?_⟩
  cases z2 : valD kvs k with
  | none =>
    rw [z2] at q
    rw [h2.none z2]
    exact ha.here o q (rv_bl.mpr rfl)
  | some d =>
    rw [z2] at q
    obtain ⟨w, e3, r3⟩ := h2.some z2
    rw [e3]
    exact ha.here o q (rv_bl.mpr rfl)
end
section
variable {X : Cx} {o i : Expr} {pos : Pos} {wo wi : WE}
theorem in_to {neg : Bool} {σ : St} {H : Hp} {R : VK} (h : LE X.K (wInD neg wi wo) σ H R) : LE X.K wi σ H fun y H1 => LE X.K wo σ H1 fun x H2 => ∃ a ov, x = .ref a ∧ DGet H2 a y ov ∧ R (.bl (if neg then !ov.isSome else ov.isSome)) H2 := by
  obtain ⟨μ, ρ, S, Q, hs, hk, hw, ha⟩ := h
  refine ⟨μ, ρ, S, _, hs, hk, hw, fun y S1 q v H1 μ1 e1 o1 r1 => ⟨μ1, ρ, S1, _, hs.ext e1, o1, q, fun x S2 q2 u H2 μ2 e2 o2 r2 => ?_⟩⟩
  exact in_at o2 r2 (RV.ext e2 y r1) q2 (ha.ext (e1.trans e2))
theorem je_inD (hu : X.A.units + 1 < cLine) (hi : JE X i wi) (ho : JE X o wo) (h1 : behindInMarks .In o = false := by rfl) : JE X (.Compare i [.In] [o] pos) (wInD false wi wo) :=
  PE.imp (pe_cmp (pc_din hu hi ho) h1) fun σ H R h => in_to h
theorem je_notInD (hu : X.A.units + 1 < cLine) (hi : JE X i wi) (ho : JE X o wo) (h1 : behindInMarks .NotIn o = false := by rfl) : JE X (.Compare i [.NotIn] [o] pos) (wInD true wi wo) :=
  PE.imp (pe_cmp (pc_dnotin hu hi ho) h1) fun σ H R h => in_to h
theorem jt_inD (hu : X.A.units + 1 < cLine) (hi : JE X i wi) (ho : JE X o wo) (h1 : behindInMarks .In o = false := by rfl) : JT X (.Compare i [.In] [o] pos) (wTest (wInD false wi wo)) :=
  PT.imp (pt_cmp (pc_din hu hi ho) h1) fun σ H R ⟨μ, ρ, S, Q, hs, ho, hw, ha⟩ => in_to (R := fun x H' => ∃ k, x = .bl k ∧ R k H') ⟨μ, ρ, S, _, hs, ho, hw, onB_to ha⟩
theorem jt_notInD (hu : X.A.units + 1 < cLine) (hi : JE X i wi) (ho : JE X o wo) (h1 : behindInMarks .NotIn o = false := by rfl) : JT X (.Compare i [.NotIn] [o] pos) (wTest (wInD true wi wo)) :=
  PT.imp (pt_cmp (pc_dnotin hu hi ho) h1) fun σ H R ⟨μ, ρ, S, Q, hs, ho, hw, ha⟩ => in_to (R := fun x H' => ∃ k, x = .bl k ∧ R k H') ⟨μ, ρ, S, _, hs, ho, hw, onB_to ha⟩
end
end DL
namespace DL
open PySem PySem.Spec L2
open PyProof.Rows hiding St
/-! ## a list times a number: as a plain list, as a list of the store; [e] * n is so written -/
def gRep : G2 := fun x y S Q => ∃ xs k, rdM S x = some xs ∧ y = .int k ∧ -(2 ^ 63) ≤ k ∧ k < 2 ^ 63 ∧ xs.length * k.toNat ≤ sizeLine ∧ Q (.rol (List.replicate k.toNat xs).flatten) S
def gRepL : G2 := fun x y S Q => ∃ xs k, rdM S x = some xs ∧ y = .int k ∧ -(2 ^ 63) ≤ k ∧ k < 2 ^ 63 ∧ xs.length * k.toNat ≤ sizeLine ∧ Q (.loc S.length) (S ++ [.lst (List.replicate k.toNat xs).flatten])
section
variable {X : Cx}
theorem j_rep : OpJ X (binaryOp .Mult) gRep := by
  refine ⟨_, op_rep, fun {μ H S x y v u Q R} o rx ry ⟨xs, k, e, ey, k1, k2, hz, q⟩ ha => ?_⟩
  subst ey
  obtain ⟨a, vs, rfl, h1, r⟩ := rdM_ok o rx e
  exact ⟨a, k, vs, rfl, rv_int.mp ry, h1, k1, k2, by rw [r.length]; exact hz, ha.rol o q (r.rep _)⟩
theorem j_repL : OpJ X (binaryOp .Mult) gRepL := by
  refine ⟨_, op_rep, fun {μ H S x y v u Q R} o rx ry ⟨xs, k, e, ey, k1, k2, hz, q⟩ ha => ?_⟩
  subst ey
  obtain ⟨a, vs, rfl, h1, r⟩ := rdM_ok o rx e
  exact ⟨a, k, vs, rfl, rv_int.mp ry, h1, k1, k2, by rw [r.length]; exact hz, ha.lst o q (r.rep _)⟩
end
end DL
namespace DL
open PySem PySem.Spec L2
open PyProof.Rows hiding St
/-! ## a thing of data in a list of such -/
theorem toPs_any {x : D} : ∀ xs : List D, ((toPs xs).any fun z => PyData.eqv z (toP x)) = xs.any fun z => eqD z x
  | [] => rfl
  | y :: ys => by rw [toPs, List.any_cons, List.any_cons, toPs_any ys]; rfl
def gInAny (neg : Bool) : G2 := fun x y S Q => ∃ xs, view S y = .rol xs ∧ okE (view S x) = true ∧ okE (.rol xs) = true ∧ Q (.bl (if neg then !(xs.any fun z => eqD z (view S x)) else xs.any fun z => eqD z (view S x))) S
section
variable {X : Cx}
theorem j_inAny (hu : X.A.units + 65 < cLine) : OpJ X (compareOp .In) (gInAny false) := by
  refine ⟨_, op_inD hu, fun {μ H S x y v u Q R} o rx ry ⟨xs, ey, k1, k2, q⟩ ha => ?_⟩
  have d1 := view_dp o rx (okE_1 k1)
  have d2 := view_dp o ry (by rw [ey]; exact okE_1 k2)
  rw [ey, toP] at d2
  have s2 := okE_2 k2
  rw [toP] at s2
  refine ⟨_, _, d1, d2, okE_2 k1, s2, ?_⟩
  rw [toPs_any]
  exact ha.here o q (rv_bl.mpr rfl)
theorem j_notInAny (hu : X.A.units + 65 < cLine) : OpJ X (compareOp .NotIn) (gInAny true) := by
  refine ⟨_, op_notInD hu, fun {μ H S x y v u Q R} o rx ry ⟨xs, ey, k1, k2, q⟩ ha => ?_⟩
  have d1 := view_dp o rx (okE_1 k1)
  have d2 := view_dp o ry (by rw [ey]; exact okE_1 k2)
  rw [ey, toP] at d2
  have s2 := okE_2 k2
  rw [toP] at s2
  refine ⟨_, _, d1, d2, okE_2 k1, s2, ?_⟩
  rw [toPs_any]
  exact ha.here o q (rv_bl.mpr rfl)
end
end DL
namespace DL
open PySem PySem.Spec L2
open PyProof.Rows hiding St
section
variable {X : Cx} {a b c d : Expr} {wa wb wc wd : WE} {ta tb tc td : TE} {pos : Pos}
/-- a op b op' c op'' d -/
def tChain3 (r r' r'' : R2) (ta tb tc td : TE) : TE := fun σ H Q => ta σ H fun x H1 => tb σ H1 fun y H2 => r x y H2 fun z H3 => ∃ k, z = .bl k ∧
  (if k = true then tc σ H3 fun u H4 => r' y u H4 fun z' H5 => ∃ k', z' = .bl k' ∧ (if k' = true then td σ H5 fun w H6 => r'' u w H6 Q else Q (.bl false) H5) else Q (.bl false) H3)
theorem pe_chain3 {op op' op2 : CmpOp} {r r' r'' : R2} (ho : OpR X (compareOp op) r) (ho' : OpR X (compareOp op') r') (ho2 : OpR X (compareOp op2) r'') (ha : PE X a ta) (hb : PE X b tb) (hc : PE X c tc) (hd : PE X d td)
    (hm : lastMarks [op, op', op2] [b, c, d] = false := by with_unfolding_all rfl) : PE X (.Compare a [op, op', op2] [b, c, d] pos) (tChain3 r r' r'' ta tb tc td) := by
  refine ⟨fun pins s σ H Q I h => ?_⟩
  refine Compare_chain (thn (ha.run pins s σ H _ I h) fun v s1 ⟨x, H1, I1, r1, q1⟩ => chain_link (thn (hb.run pins s1 σ H1 _ I1 q1) fun u s2 ⟨y, H2, I2, r2, q2⟩ =>
    thn (ho pins s2 σ H2 x y v u _ I2 r1 r2 q2) fun _ s3 ⟨z, H3, I3, r3, k, e, q3⟩ => ?_)) hm
  subst e; cases r3
  refine wpAny_truthy_bool ?_
  cases k with
  | false => exact ite_ff ⟨.bl false, H3, I3, rfl, q3⟩
  | true =>
    refine ite_tt (chain_link (thn (hc.run pins s3 σ H3 _ I3 q3) fun w' s4 ⟨z', H4, I4, r4, q4⟩ => thn (ho' pins s4 σ H4 y z' u w' _ I4 r2 r4 q4) fun _ s5 ⟨z2, H5, I5, r5, k2, e2, q5⟩ => ?_))
    subst e2; cases r5
    refine wpAny_truthy_bool ?_
    cases k2 with
    | false => exact ite_ff ⟨.bl false, H5, I5, rfl, q5⟩
    | true => exact ite_tt (chain_last (thn (hd.run pins s5 σ H5 _ I5 q5) fun w2 s6 ⟨z3, H6, I6, r6, q6⟩ => ho2 pins s6 σ H6 z' z3 w' w2 Q I6 r4 r6 q6))
theorem pt_chain3 {op op' op2 : CmpOp} {r r' r'' : R2} (ho : OpR X (compareOp op) r) (ho' : OpR X (compareOp op') r') (ho2 : OpR X (compareOp op2) r'') (ha : PE X a ta) (hb : PE X b tb) (hc : PE X c tc) (hd : PE X d td)
    (hm : lastMarks [op, op', op2] [b, c, d] = false := by with_unfolding_all rfl) : PT X (.Compare a [op, op', op2] [b, c, d] pos) (tTest (tChain3 r r' r'' ta tb tc td)) := by
  refine ⟨fun pins s σ H Q I h => ?_⟩
  refine isTrue_chain (thn (ha.run pins s σ H _ I h) fun v s1 ⟨x, H1, I1, r1, q1⟩ => test_link (thn (hb.run pins s1 σ H1 _ I1 q1) fun u s2 ⟨y, H2, I2, r2, q2⟩ =>
    thn (ho pins s2 σ H2 x y v u _ I2 r1 r2 q2) fun _ s3 ⟨z, H3, I3, r3, k, e, q3⟩ => ?_)) hm
  subst e; cases r3
  refine wpAny_truthy_bool ?_
  cases k with
  | false =>
    obtain ⟨k', e', q'⟩ := q3
    cases e'
    exact ite_ff ⟨H3, I3, q'⟩
  | true =>
    refine ite_tt (test_link (thn (hc.run pins s3 σ H3 _ I3 q3) fun w' s4 ⟨z', H4, I4, r4, q4⟩ => thn (ho' pins s4 σ H4 y z' u w' _ I4 r2 r4 q4) fun _ s5 ⟨z2, H5, I5, r5, k2, e2, q5⟩ => ?_))
    subst e2; cases r5
    refine wpAny_truthy_bool ?_
    cases k2 with
    | false =>
      obtain ⟨k', e', q'⟩ := q5
      cases e'
      exact ite_ff ⟨H5, I5, q'⟩
    | true =>
      refine ite_tt (test_last (thn (hd.run pins s5 σ H5 _ I5 q5) fun w2 s6 ⟨z3, H6, I6, r6, q6⟩ => thn (ho2 pins s6 σ H6 z' z3 w' w2 _ I6 r4 r6 q6) fun _ s7 ⟨z4, H7, I7, r7, k4, e4, q7⟩ => ?_))
      subst e4; cases r7
      exact wpAny_truthy_bool ⟨H7, I7, q7⟩
def wChain3 (g g' g2 : G2) (wa wb wc wd : WE) : WE := fun ρ S Q => wa ρ S fun x S1 => wb ρ S1 fun y S2 => g x y S2 (onB fun k S3 => if k = true then wc ρ S3 fun z S4 => g' y z S4 (onB fun k' S5 => if k' = true then wd ρ S5 fun u S6 => g2 z u S6 Q else Q (.bl false) S5) else Q (.bl false) S3)
theorem wChain3_to {K : PySem.W.Frag} {r r' r2 : R2} {g g' g2 : G2} (hg : Op2 K r g) (hg' : Op2 K r' g') (hg2 : Op2 K r2 g2) {σ : St} {H : Hp} {R : VK} (h : LE K (wChain3 g g' g2 wa wb wc wd) σ H R) : tChain3 r r' r2 (LE K wa) (LE K wb) (LE K wc) (LE K wd) σ H R := by
  obtain ⟨μ, ρ, S, Q, hs, ho, hw, ha⟩ := h
  refine ⟨μ, ρ, S, _, hs, ho, hw, fun x S1 q v H1 μ1 e1 o1 r1 => ?_⟩
  refine ⟨μ1, ρ, S1, _, hs.ext e1, o1, q, fun y S2 q2 u H2 μ2 e2 o2 r2 => ?_⟩
  refine hg o2 (RV.ext e2 x r1) r2 q2 fun d S3 q3 z H3 μ3 e3 o3 r3 => ?_
  have e03 := (e1.trans e2).trans e3
  cases d with
  | bl k =>
    refine ⟨k, rv_bl.mp r3, ?_⟩
    cases k with
    | false => rw [if_neg Bool.false_ne_true]; exact ha _ _ q3 _ _ _ e03 o3 (rv_bl.mpr rfl)
    | true =>
      rw [if_pos rfl]
      refine ⟨μ3, ρ, S3, _, hs.ext e03, o3, q3, fun w S4 q4 u4 H4 μ4 e4 o4 r4 => ?_⟩
      refine hg' o4 (RV.ext (e3.trans e4) y r2) r4 q4 fun d5 S5 q5 z5 H5 μ5 e5 o5 r5 => ?_
      have e05 := (e03.trans e4).trans e5
      cases d5 with
      | bl k5 =>
        refine ⟨k5, rv_bl.mp r5, ?_⟩
        cases k5 with
        | false => rw [if_neg Bool.false_ne_true]; exact ha _ _ q5 _ _ _ e05 o5 (rv_bl.mpr rfl)
        | true =>
          rw [if_pos rfl]
          exact ⟨μ5, ρ, S5, _, hs.ext e05, o5, q5, fun w6 S6 q6 u6 H6 μ6 e6 o6 r6 => hg2 o6 (RV.ext (e5.trans e6) w r4) r6 q6 (ha.ext (e05.trans e6))⟩
      | _ => exact q5.elim
  | _ => exact q3.elim
theorem je_chain3 {op op' op2 : CmpOp} {g g' g2 : G2} (h : OpJ X (compareOp op) g) (h' : OpJ X (compareOp op') g') (h2 : OpJ X (compareOp op2) g2) (ha : JE X a wa) (hb : JE X b wb) (hc : JE X c wc) (hd : JE X d wd)
    (hm : lastMarks [op, op', op2] [b, c, d] = false := by with_unfolding_all rfl) : JE X (.Compare a [op, op', op2] [b, c, d] pos) (wChain3 g g' g2 wa wb wc wd) := by
  obtain ⟨r, ho, hg⟩ := h.ex
  obtain ⟨r', ho', hg'⟩ := h'.ex
  obtain ⟨r2, ho2, hg2⟩ := h2.ex
  exact PE.imp (pe_chain3 ho ho' ho2 ha hb hc hd hm) fun σ H R q => wChain3_to hg hg' hg2 q
theorem jt_chain3 {op op' op2 : CmpOp} {g g' g2 : G2} (h : OpJ X (compareOp op) g) (h' : OpJ X (compareOp op') g') (h2 : OpJ X (compareOp op2) g2) (ha : JE X a wa) (hb : JE X b wb) (hc : JE X c wc) (hd : JE X d wd)
    (hm : lastMarks [op, op', op2] [b, c, d] = false := by with_unfolding_all rfl) : JT X (.Compare a [op, op', op2] [b, c, d] pos) (wTest (wChain3 g g' g2 wa wb wc wd)) := by
  obtain ⟨r, ho, hg⟩ := h.ex
  obtain ⟨r', ho', hg'⟩ := h'.ex
  obtain ⟨r2, ho2, hg2⟩ := h2.ex
  exact PT.imp (pt_chain3 ho ho' ho2 ha hb hc hd hm) fun σ H R ⟨μ, ρ, S, Q, hs, ho, hw, ha⟩ => wChain3_to hg hg' hg2 (R := fun x H' => ∃ k, x = .bl k ∧ R k H') ⟨μ, ρ, S, _, hs, ho, hw, onB_to ha⟩
end
end DL
namespace DL
open PySem PySem.Spec L2
open PyProof.Rows hiding St
/-! ## max and min of a list of tuples of ints -/
/-- what stood stands -/
abbrev Keeps (h h' : Heap) : Prop := ∀ b o, h.get? b = some o → h'.get? b = some o
/-- a comparison, while what stood at h₀ stands -/
def CmpAt (prog : Program) (w : World) (A : Around) (op : CmpOp) (h₀ : Heap) (P : Nat → Value → Prop) (bt : Nat → Nat → Bool) : Prop :=
  ∀ i j vi vj (s : Shared) (Q E : Value → Shared → Prop), Keeps h₀ s.heap → P i vi → P j vj → Q (.bool (bt i j)) s → wpAny (model prog w) A (richCompare op vi vj) Q E s
theorem keeps_upd {h₀ h : Heap} {S : Addr} {f : Obj → Obj} (k : Keeps h₀ h) (n : ∀ o, h₀.get? S ≠ some o) (u : ∀ b, b ≠ S → (h.update S f).get? b = h.get? b) : Keeps h₀ (h.update S f) := fun b o e =>
  (u b fun z => n o (z ▸ e)).trans (k b o e)
section
variable {prog : Program} {w : World} {A : Around} {R : Result → Shared → Prop} {I : Addr} {fp wr : List Addr} {n : Nat} {P : Nat → Value → Prop} {St : Nat → Heap → Prop} {h₀ : Heap}
theorem max_turns (W : Walks prog w A.in1 I fp wr n P St) (bt : Nat → Nat → Bool) (cmp : CmpAt prog w A.in1 .Gt h₀ P bt) (S : Addr) (nS : S ∉ fp) (old : ∀ b o, h₀.get? b = some o → b ∉ wr ∧ b ≠ S) :
    ∀ (k j : Nat) (s : Shared) (u : Value) (c : Nat), n - (j + 1) = k → j + 1 ≤ n → St (j + 1) s.heap → Keeps h₀ s.heap → P (argBest bt j) u → s.heap.get? S = some { cls := .type "list", dict := none, data := .seq #[u, u] c, slots := #[] } →
    (∀ v h' tk, P (argBest bt (n - 1)) v → (∀ b o, b ∉ wr → b ≠ S → s.heap.get? b = some o → h'.get? b = some o) → R (.ok (.ret v)) { s with heap := h', toks := tk }) → codeAny (model prog w) A (.builtin "max.loop" ⟨[.ref I, .none, .ref S], []⟩) R s := by
  have nW : S ∉ wr := fun z => nS (W.sub _ z)
  have nm : (toString "max" ++ toString ".loop" : String) = "max.loop" := by decide
  intro k
  induction k with
  | zero =>
    intro j s u c ek le st k0 pu hS q
    have ej : j + 1 = n := by omega
    refine codeAny_builtin PySem.F.entry_max_loop ?_; rw [Around.under_plainId PySem.F.plain_max_loop _]
    show wpAny _ A.in1 (seqItems? (.ref S) >>= _) _ _ s; refine wpAny_bind (wpAny_seqItems hS rfl ?_)
    show wpAny _ A.in1 (tryCatch (pyNext (.ref I)) _ >>= _) _ _ s; refine wpAny_bind (wpAny_tryCatch (W.done s _ _ (ej ▸ st) fun h' tk kk => ?_))
    have hS2 := kk S _ nW hS
    show wpAny _ A.in1 (updateSeq S (fun _ => #[]) >>= _) _ _ _; refine wpAny_bind (wpAny_updateSeq hS2 rfl (wpAny_bind (wpAny_letGo (wpAny_pure ?_))))
    exact q u _ tk (by rw [← ej]; exact pu) fun b o nb nb2 e => (Heap.get?_update_other _ _ (Ne.symm nb2)).trans (kk b o nb e)
  | succ k ih =>
    intro j s u c ek le st k0 pu hS q
    have lt : j + 1 < n := by omega
    refine codeAny_builtin PySem.F.entry_max_loop ?_; rw [Around.under_plainId PySem.F.plain_max_loop _]
    show wpAny _ A.in1 (seqItems? (.ref S) >>= _) _ _ s; refine wpAny_bind (wpAny_seqItems hS rfl ?_)
    show wpAny _ A.in1 (tryCatch (pyNext (.ref I)) _ >>= _) _ _ s; refine wpAny_bind (wpAny_tryCatch (W.item (j + 1) s _ _ lt st fun v h' tk pv st2 kk => ?_))
    have hS2 := kk S _ nW hS
    have k1 : Keeps h₀ h' := fun b o e => kk b o (old b o e).1 (k0 b o e)
    show wpAny _ A.in1 (tryCatch (holding [v, v] (richCompare .Gt v u >>= _)) _ >>= _) _ _ _; refine wpAny_bind (wpAny_tryCatch (wpAny_holding (wpAny_bind (cmp (j + 1) (argBest bt j) v u _ _ _ k1 pv pu ?_))))
    refine wpAny_bind (wpAny_holding (wpAny_truthy_bool (wpAny_bind (wpAny_letGo (wpAny_pure ?_)))))
    cases eb : bt (j + 1) (argBest bt j) with
    | true =>
      simp only [if_true]
      refine wpAny_bind (wpAny_updateSeq hS2 rfl (wpAny_bind (wpAny_letGo ?_))); rw [nm]
      refine wpAny_pure ⟨plainId_quiet PySem.F.plain_max_loop _, ih (j + 1) _ v _ (by omega) lt (W.frame _ _ _ st2 fun b nb o e => ?_) (fun b o e => ?_) (by simp only [argBest, eb, if_true]; exact pv) (Heap.get?_update_self _ hS2 rfl) fun v2 h2 tk2 p2 kk2 => ?_⟩
      · exact (Heap.get?_update_other _ _ (fun z : S = b => nS (by rw [z]; exact nb))).trans e
      · exact (Heap.get?_update_other _ _ (Ne.symm (old b o e).2)).trans (k1 b o e)
      · exact q v2 h2 tk2 p2 fun b o nb nb2 e => kk2 b o nb nb2 ((Heap.get?_update_other _ _ (Ne.symm nb2)).trans (kk b o nb e))
    | false =>
      simp only [Bool.false_eq_true, if_false]
      refine wpAny_bind (wpAny_letGo ?_); rw [nm]
      refine wpAny_pure ⟨plainId_quiet PySem.F.plain_max_loop _, ih (j + 1) _ u c (by omega) lt st2 k1 (by simp only [argBest, eb, Bool.false_eq_true, if_false]; exact pu) hS2 fun v2 h2 tk2 p2 kk2 => ?_⟩
      exact q v2 h2 tk2 p2 fun b o nb nb2 e => kk2 b o nb nb2 (kk b o nb e)
theorem max_first (W : Walks prog w A.in1 I fp wr n P St) (bt : Nat → Nat → Bool) (cmp : CmpAt prog w A.in1 .Gt h₀ P bt) (S : Addr) (nS : S ∉ fp) (old : ∀ b o, h₀.get? b = some o → b ∉ wr ∧ b ≠ S) (hn : 0 < n) {s : Shared} {c : Nat} (st : St 0 s.heap) (k0 : Keeps h₀ s.heap)
    (hS : s.heap.get? S = some { cls := .type "list", dict := none, data := .seq #[] c, slots := #[] })
    (q : ∀ v h' tk, P (argBest bt (n - 1)) v → (∀ b o, b ∉ wr → b ≠ S → s.heap.get? b = some o → h'.get? b = some o) → R (.ok (.ret v)) { s with heap := h', toks := tk }) : codeAny (model prog w) A (.builtin "max.loop" ⟨[.ref I, .none, .ref S], []⟩) R s := by
  have nW : S ∉ wr := fun z => nS (W.sub _ z)
  have nm : (toString "max" ++ toString ".loop" : String) = "max.loop" := by decide
  refine codeAny_builtin PySem.F.entry_max_loop ?_; rw [Around.under_plainId PySem.F.plain_max_loop _]
  show wpAny _ A.in1 (seqItems? (.ref S) >>= _) _ _ s; refine wpAny_bind (wpAny_seqItems hS rfl ?_)
  show wpAny _ A.in1 (tryCatch (pyNext (.ref I)) _ >>= _) _ _ s; refine wpAny_bind (wpAny_tryCatch (W.item 0 s _ _ hn st fun v h' tk pv st2 kk => ?_))
  have hS2 := kk S _ nW hS
  have k1 : Keeps h₀ h' := fun b o e => kk b o (old b o e).1 (k0 b o e)
  show wpAny _ A.in1 (updateSeq S (fun _ => #[v, v]) >>= _) _ _ _; refine wpAny_bind (wpAny_updateSeq hS2 rfl ?_); rw [nm]
  refine wpAny_pure ⟨plainId_quiet PySem.F.plain_max_loop _, max_turns W bt cmp S nS old _ 0 _ v _ rfl hn (W.frame _ _ _ st2 fun b nb o e => ?_) (fun b o e => ?_) pv (Heap.get?_update_self _ hS2 rfl) fun v2 h2 tk2 p2 kk2 => ?_⟩
  · exact (Heap.get?_update_other _ _ (fun z : S = b => nS (by rw [z]; exact nb))).trans e
  · exact (Heap.get?_update_other _ _ (Ne.symm (old b o e).2)).trans (k1 b o e)
  · exact q v2 h2 tk2 p2 fun b o nb nb2 e => kk2 b o nb nb2 ((Heap.get?_update_other _ _ (Ne.symm nb2)).trans (kk b o nb e))
end
theorem max_walk {prog : Program} {w : World} {A : Around} {E : Value → Shared → Prop} {s : Shared} {x : Value} {Q : Value → Shared → Prop}
    (h : wpAny (model prog w) A.in1 (pyIter x) (fun it s₂ => ∃ I fp wr n P St bt, it = .ref I ∧ Walks prog w A.in1 I fp wr n P St ∧ St 0 s₂.heap ∧ (∀ b ∈ fp, b < s₂.heap.objs.size) ∧ 0 < n ∧ CmpAt prog w A.in1 .Gt s.heap P bt ∧ Keeps s.heap s₂.heap ∧ (∀ b o, s.heap.get? b = some o → b ∉ wr) ∧
      ∀ v h' tk, P (argBest bt (n - 1)) v → (∀ b o, b ∉ wr → s₂.heap.get? b = some o → h'.get? b = some o) → Q v { s₂ with heap := h', toks := tk }) E s) : wpAny (model prog w) A (call (.builtin "max") [x]) Q E s := by
  have nm : (toString "max" ++ toString ".loop" : String) = "max.loop" := by decide
  refine call_function_tree PySem.F.kind_max PySem.F.plain_max PySem.F.entry_max (PySem.F.args_max1 _) ?_
  show wpAny _ A.in1 (Builtin.Builtins.bindParams "max" ["key", "default"] 0 ⟨[], []⟩ >>= _) _ _ s; refine wpAny_bind (wpAny_of_eq (show Builtin.Builtins.bindParams "max" ["key", "default"] 0 ⟨[], []⟩ = pure [none, none] from rfl) ?_)
  refine wpAny_bind (wpAny_pure (wpAny_bind (wpAny_mono h (fun it s₂ h₂ => ?_) fun _ _ e => e)))
  obtain ⟨I, fp, wr, n, P, St, bt, rfl, W, st, hf, hn, cmp, k0, ow, q⟩ := h₂
  have nS : s₂.heap.objs.size ∉ fp := fun z => Nat.lt_irrefl _ (hf _ z)
  refine wpAny_bind (wpAny_newObj_type ?_); rw [nm]
  refine wpAny_pure ⟨plainId_quiet PySem.F.plain_max_loop _, max_first W bt cmp s₂.heap.objs.size nS (fun b o e => ⟨ow b o e, Nat.ne_of_lt (Heap.lt_size (k0 b o e))⟩) hn (W.frame _ _ _ st fun b _ o e => Heap.get?_push_of_some _ e) (fun b o e => Heap.get?_push_of_some _ (k0 b o e)) (Heap.get?_push_size _ rfl) fun v h' tk pv kk => ?_⟩
  exact q v h' tk pv fun b o nb e => kk b o nb (Nat.ne_of_lt (Heap.lt_size e)) (Heap.get?_push_of_some _ e)
section
variable {prog : Program} {w : World} {A : Around} {R : Result → Shared → Prop} {I : Addr} {fp wr : List Addr} {n : Nat} {P : Nat → Value → Prop} {St : Nat → Heap → Prop} {h₀ : Heap}
theorem min_turns (W : Walks prog w A.in1 I fp wr n P St) (bt : Nat → Nat → Bool) (cmp : CmpAt prog w A.in1 .Lt h₀ P bt) (S : Addr) (nS : S ∉ fp) (old : ∀ b o, h₀.get? b = some o → b ∉ wr ∧ b ≠ S) :
    ∀ (k j : Nat) (s : Shared) (u : Value) (c : Nat), n - (j + 1) = k → j + 1 ≤ n → St (j + 1) s.heap → Keeps h₀ s.heap → P (argBest bt j) u → s.heap.get? S = some { cls := .type "list", dict := none, data := .seq #[u, u] c, slots := #[] } →
    (∀ v h' tk, P (argBest bt (n - 1)) v → (∀ b o, b ∉ wr → b ≠ S → s.heap.get? b = some o → h'.get? b = some o) → R (.ok (.ret v)) { s with heap := h', toks := tk }) → codeAny (model prog w) A (.builtin "min.loop" ⟨[.ref I, .none, .ref S], []⟩) R s := by
  have nW : S ∉ wr := fun z => nS (W.sub _ z)
  have nm : (toString "min" ++ toString ".loop" : String) = "min.loop" := by decide
  intro k
  induction k with
  | zero =>
    intro j s u c ek le st k0 pu hS q
    have ej : j + 1 = n := by omega
    refine codeAny_builtin PySem.F.entry_min_loop ?_; rw [Around.under_plainId PySem.F.plain_min_loop _]
    show wpAny _ A.in1 (seqItems? (.ref S) >>= _) _ _ s; refine wpAny_bind (wpAny_seqItems hS rfl ?_)
    show wpAny _ A.in1 (tryCatch (pyNext (.ref I)) _ >>= _) _ _ s; refine wpAny_bind (wpAny_tryCatch (W.done s _ _ (ej ▸ st) fun h' tk kk => ?_))
    have hS2 := kk S _ nW hS
    show wpAny _ A.in1 (updateSeq S (fun _ => #[]) >>= _) _ _ _; refine wpAny_bind (wpAny_updateSeq hS2 rfl (wpAny_bind (wpAny_letGo (wpAny_pure ?_))))
    exact q u _ tk (by rw [← ej]; exact pu) fun b o nb nb2 e => (Heap.get?_update_other _ _ (Ne.symm nb2)).trans (kk b o nb e)
  | succ k ih =>
    intro j s u c ek le st k0 pu hS q
    have lt : j + 1 < n := by omega
    refine codeAny_builtin PySem.F.entry_min_loop ?_; rw [Around.under_plainId PySem.F.plain_min_loop _]
    show wpAny _ A.in1 (seqItems? (.ref S) >>= _) _ _ s; refine wpAny_bind (wpAny_seqItems hS rfl ?_)
    show wpAny _ A.in1 (tryCatch (pyNext (.ref I)) _ >>= _) _ _ s; refine wpAny_bind (wpAny_tryCatch (W.item (j + 1) s _ _ lt st fun v h' tk pv st2 kk => ?_))
    have hS2 := kk S _ nW hS
    have k1 : Keeps h₀ h' := fun b o e => kk b o (old b o e).1 (k0 b o e)
    show wpAny _ A.in1 (tryCatch (holding [v, v] (richCompare .Lt v u >>= _)) _ >>= _) _ _ _; refine wpAny_bind (wpAny_tryCatch (wpAny_holding (wpAny_bind (cmp (j + 1) (argBest bt j) v u _ _ _ k1 pv pu ?_))))
    refine wpAny_bind (wpAny_holding (wpAny_truthy_bool (wpAny_bind (wpAny_letGo (wpAny_pure ?_)))))
    cases eb : bt (j + 1) (argBest bt j) with
    | true =>
      simp only [if_true]
      refine wpAny_bind (wpAny_updateSeq hS2 rfl (wpAny_bind (wpAny_letGo ?_))); rw [nm]
      refine wpAny_pure ⟨plainId_quiet PySem.F.plain_min_loop _, ih (j + 1) _ v _ (by omega) lt (W.frame _ _ _ st2 fun b nb o e => ?_) (fun b o e => ?_) (by simp only [argBest, eb, if_true]; exact pv) (Heap.get?_update_self _ hS2 rfl) fun v2 h2 tk2 p2 kk2 => ?_⟩
      · exact (Heap.get?_update_other _ _ (fun z : S = b => nS (by rw [z]; exact nb))).trans e
      · exact (Heap.get?_update_other _ _ (Ne.symm (old b o e).2)).trans (k1 b o e)
      · exact q v2 h2 tk2 p2 fun b o nb nb2 e => kk2 b o nb nb2 ((Heap.get?_update_other _ _ (Ne.symm nb2)).trans (kk b o nb e))
    | false =>
      simp only [Bool.false_eq_true, if_false]
      refine wpAny_bind (wpAny_letGo ?_); rw [nm]
      refine wpAny_pure ⟨plainId_quiet PySem.F.plain_min_loop _, ih (j + 1) _ u c (by omega) lt st2 k1 (by simp only [argBest, eb, Bool.false_eq_true, if_false]; exact pu) hS2 fun v2 h2 tk2 p2 kk2 => ?_⟩
      exact q v2 h2 tk2 p2 fun b o nb nb2 e => kk2 b o nb nb2 (kk b o nb e)
theorem min_first (W : Walks prog w A.in1 I fp wr n P St) (bt : Nat → Nat → Bool) (cmp : CmpAt prog w A.in1 .Lt h₀ P bt) (S : Addr) (nS : S ∉ fp) (old : ∀ b o, h₀.get? b = some o → b ∉ wr ∧ b ≠ S) (hn : 0 < n) {s : Shared} {c : Nat} (st : St 0 s.heap) (k0 : Keeps h₀ s.heap)
    (hS : s.heap.get? S = some { cls := .type "list", dict := none, data := .seq #[] c, slots := #[] })
    (q : ∀ v h' tk, P (argBest bt (n - 1)) v → (∀ b o, b ∉ wr → b ≠ S → s.heap.get? b = some o → h'.get? b = some o) → R (.ok (.ret v)) { s with heap := h', toks := tk }) : codeAny (model prog w) A (.builtin "min.loop" ⟨[.ref I, .none, .ref S], []⟩) R s := by
  have nW : S ∉ wr := fun z => nS (W.sub _ z)
  have nm : (toString "min" ++ toString ".loop" : String) = "min.loop" := by decide
  refine codeAny_builtin PySem.F.entry_min_loop ?_; rw [Around.under_plainId PySem.F.plain_min_loop _]
  show wpAny _ A.in1 (seqItems? (.ref S) >>= _) _ _ s; refine wpAny_bind (wpAny_seqItems hS rfl ?_)
  show wpAny _ A.in1 (tryCatch (pyNext (.ref I)) _ >>= _) _ _ s; refine wpAny_bind (wpAny_tryCatch (W.item 0 s _ _ hn st fun v h' tk pv st2 kk => ?_))
  have hS2 := kk S _ nW hS
  have k1 : Keeps h₀ h' := fun b o e => kk b o (old b o e).1 (k0 b o e)
  show wpAny _ A.in1 (updateSeq S (fun _ => #[v, v]) >>= _) _ _ _; refine wpAny_bind (wpAny_updateSeq hS2 rfl ?_); rw [nm]
  refine wpAny_pure ⟨plainId_quiet PySem.F.plain_min_loop _, min_turns W bt cmp S nS old _ 0 _ v _ rfl hn (W.frame _ _ _ st2 fun b nb o e => ?_) (fun b o e => ?_) pv (Heap.get?_update_self _ hS2 rfl) fun v2 h2 tk2 p2 kk2 => ?_⟩
  · exact (Heap.get?_update_other _ _ (fun z : S = b => nS (by rw [z]; exact nb))).trans e
  · exact (Heap.get?_update_other _ _ (Ne.symm (old b o e).2)).trans (k1 b o e)
  · exact q v2 h2 tk2 p2 fun b o nb nb2 e => kk2 b o nb nb2 ((Heap.get?_update_other _ _ (Ne.symm nb2)).trans (kk b o nb e))
end
theorem min_walk {prog : Program} {w : World} {A : Around} {E : Value → Shared → Prop} {s : Shared} {x : Value} {Q : Value → Shared → Prop}
    (h : wpAny (model prog w) A.in1 (pyIter x) (fun it s₂ => ∃ I fp wr n P St bt, it = .ref I ∧ Walks prog w A.in1 I fp wr n P St ∧ St 0 s₂.heap ∧ (∀ b ∈ fp, b < s₂.heap.objs.size) ∧ 0 < n ∧ CmpAt prog w A.in1 .Lt s.heap P bt ∧ Keeps s.heap s₂.heap ∧ (∀ b o, s.heap.get? b = some o → b ∉ wr) ∧
      ∀ v h' tk, P (argBest bt (n - 1)) v → (∀ b o, b ∉ wr → s₂.heap.get? b = some o → h'.get? b = some o) → Q v { s₂ with heap := h', toks := tk }) E s) : wpAny (model prog w) A (call (.builtin "min") [x]) Q E s := by
  have nm : (toString "min" ++ toString ".loop" : String) = "min.loop" := by decide
  refine call_function_tree PySem.F.kind_min PySem.F.plain_min PySem.F.entry_min (PySem.F.args_min1 _) ?_
  show wpAny _ A.in1 (Builtin.Builtins.bindParams "min" ["key", "default"] 0 ⟨[], []⟩ >>= _) _ _ s; refine wpAny_bind (wpAny_of_eq (show Builtin.Builtins.bindParams "min" ["key", "default"] 0 ⟨[], []⟩ = pure [none, none] from rfl) ?_)
  refine wpAny_bind (wpAny_pure (wpAny_bind (wpAny_mono h (fun it s₂ h₂ => ?_) fun _ _ e => e)))
  obtain ⟨I, fp, wr, n, P, St, bt, rfl, W, st, hf, hn, cmp, k0, ow, q⟩ := h₂
  have nS : s₂.heap.objs.size ∉ fp := fun z => Nat.lt_irrefl _ (hf _ z)
  refine wpAny_bind (wpAny_newObj_type ?_); rw [nm]
  refine wpAny_pure ⟨plainId_quiet PySem.F.plain_min_loop _, min_first W bt cmp s₂.heap.objs.size nS (fun b o e => ⟨ow b o e, Nat.ne_of_lt (Heap.lt_size (k0 b o e))⟩) hn (W.frame _ _ _ st fun b _ o e => Heap.get?_push_of_some _ e) (fun b o e => Heap.get?_push_of_some _ (k0 b o e)) (Heap.get?_push_size _ rfl) fun v h' tk pv kk => ?_⟩
  exact q v h' tk pv fun b o nb e => kk b o nb (Nat.ne_of_lt (Heap.lt_size e)) (Heap.get?_push_of_some _ e)
/-! ### the order -/
open Ob in
theorem lexAt_gt : ∀ (ns ms : List Int) (i : Nat) (e r : Nat → Bool), (∀ j, j < min ns.length ms.length → e (i + j) = decide (ns.getD j 0 = ms.getD j 0)) → (∀ j, j < min ns.length ms.length → r (i + j) = decide (ms.getD j 0 < ns.getD j 0)) →
    lexAt e r (decide (ms.length < ns.length)) i (min ns.length ms.length) = HT.lexLt ms ns
  | [], [], i, e, r, _, _ => by simp [lexAt_zero, HT.lexLt_nil_nil]
  | [], y :: ys, i, e, r, _, _ => by simp [lexAt_zero, HT.lexLt_cons_nil]
  | x :: xs, [], i, e, r, _, _ => by simp [lexAt_zero, HT.lexLt_nil_cons]
  | x :: xs, y :: ys, i, e, r, he, hr => by
    have m : min (x :: xs).length (y :: ys).length = min xs.length ys.length + 1 := by simp only [List.length_cons]; omega
    have e0 := he 0 (by omega)
    have r0 := hr 0 (by omega)
    have ih := lexAt_gt xs ys (i + 1) e r (fun j hj => by have := he (j + 1) (by omega); rw [show i + (j + 1) = i + 1 + j by omega] at this; simpa using this) (fun j hj => by have := hr (j + 1) (by omega); rw [show i + (j + 1) = i + 1 + j by omega] at this; simpa using this)
    have d : decide ((y :: ys).length < (x :: xs).length) = decide (ys.length < xs.length) := by simp
    rw [m, lexAt_succ, d, ih, HT.lexLt_cons]
    simp only [Nat.add_zero, List.getD_cons_zero] at e0 r0
    rw [e0, r0]
    by_cases z : x = y
    · rw [if_pos (decide_eq_true z), if_pos z.symm]
    · rw [if_neg (by rw [decide_eq_false z]; exact Bool.false_ne_true), if_neg (Ne.symm z)]
open Ob in
theorem lexAt_lt (ns ms : List Int) (i : Nat) (e r : Nat → Bool) (he : ∀ j, j < min ns.length ms.length → e (i + j) = decide (ns.getD j 0 = ms.getD j 0)) (hr : ∀ j, j < min ns.length ms.length → r (i + j) = decide (ns.getD j 0 < ms.getD j 0)) :
    lexAt e r (decide (ns.length < ms.length)) i (min ns.length ms.length) = HT.lexLt ns ms := by
  rw [Nat.min_comm] at he hr ⊢
  exact lexAt_gt ms ns i e r (fun j hj => by rw [he j hj]; exact decide_eq_decide.mpr eq_comm) hr
/-- the ints at the tuple v -/
def TupInts (h : Heap) (v : Value) (ns : List Int) : Prop := ∃ a its, v = .ref a ∧ h.IsTuple a its ∧ IntsAre its.toList ns
theorem ints_get {vs : List Value} {ns : List Int} (h : IntsAre vs ns) : ∀ {j : Nat} {v : Value}, vs[j]? = some v → ∃ t, v = .int (ns.getD j 0) t := by
  induction h with
  | nil => intro j v e; simp at e
  | cons n t _ ih =>
    intro j v e
    cases j with
    | zero => simp at e; exact ⟨t, e.symm⟩
    | succ j => simpa using ih (by simpa using e)
theorem tup_gt {A : Around} {s : Shared} {v u : Value} {ns ms : List Int} (hu : A.units < cLine) (h1 : TupInts s.heap v ns) (h2 : TupInts s.heap u ms) : Ob.RcOp .Gt A s v u (HT.lexLt ms ns) := by
  obtain ⟨a, its, rfl, p1, i1⟩ := h1
  obtain ⟨b, its2, rfl, p2, i2⟩ := h2
  have z1 : its.size = ns.length := by rw [← i1.length]; simp
  have z2 : its2.size = ms.length := by rw [← i2.length]; simp
  have g := Ob.RcOp.tuples_gt (A := A) (e := fun j => decide (ns.getD j 0 = ms.getD j 0)) (r := fun j => decide (ms.getD j 0 < ns.getD j 0)) p1 p2 hu (fun j h1 h2 => ?_) (fun j h1 h2 _ => ?_)
  · rw [z1, z2] at g
    rw [lexAt_gt ns ms 0 _ _ (fun j _ => by rw [Nat.zero_add]) (fun j _ => by rw [Nat.zero_add])] at g
    exact g
  · obtain ⟨t, e1⟩ := ints_get i1 (j := j) (v := its[j]) (by simp [h1])
    obtain ⟨t2, e2⟩ := ints_get i2 (j := j) (v := its2[j]) (by simp [h2])
    rw [e1, e2]
    exact SeqAt.EqAt.int_int _ _ _ _
  · obtain ⟨t, e1⟩ := ints_get i1 (j := j) (v := its[j]) (by simp [h1])
    obtain ⟨t2, e2⟩ := ints_get i2 (j := j) (v := its2[j]) (by simp [h2])
    rw [e1, e2]
    exact Ob.RcOp.gt_int _ _ _ _
theorem tup_lt {A : Around} {s : Shared} {v u : Value} {ns ms : List Int} (hu : A.units < cLine) (h1 : TupInts s.heap v ns) (h2 : TupInts s.heap u ms) : Ob.RcOp .Lt A s v u (HT.lexLt ns ms) := by
  obtain ⟨a, its, rfl, p1, i1⟩ := h1
  obtain ⟨b, its2, rfl, p2, i2⟩ := h2
  intro prog w E Q h
  exact HT.lt_tupInts p1 p2 i1 i2 hu h
theorem TupInts.keep {h h' : Heap} {v : Value} {ns : List Int} (k : Keeps h h') (t : TupInts h v ns) : TupInts h' v ns := by
  obtain ⟨a, its, e, ⟨o, ho, r⟩, i⟩ := t
  exact ⟨a, its, e, ⟨o, k _ _ ho, r⟩, i⟩
/-- the best one is no worse than any -/
theorem best_gt (key : Nat → List Int) : ∀ k j, j ≤ k → HT.lexLt (key (argBest (fun i j => HT.lexLt (key j) (key i)) k)) (key j) = false
  | 0, j, hj => by
    have : j = 0 := by omega
    subst this
    show HT.lexLt (key 0) (key 0) = false
    cases e : HT.lexLt (key 0) (key 0) with
    | false => rfl
    | true => rw [NtL.lex_asym _ _ e] at e; cases e
  | k + 1, j, hj => by
    have irr : ∀ i, HT.lexLt (key i) (key i) = false := fun i => by
      cases e : HT.lexLt (key i) (key i) with
      | false => rfl
      | true => rw [NtL.lex_asym _ _ e] at e; cases e
    cases e : HT.lexLt (key (argBest (fun i j => HT.lexLt (key j) (key i)) k)) (key (k + 1)) with
    | true =>
      have b : argBest (fun i j => HT.lexLt (key j) (key i)) (k + 1) = k + 1 := by simp only [argBest, e, if_true]
      rw [b]
      by_cases z : j = k + 1
      · rw [z]; exact irr _
      · exact NtL.lex_tr _ _ _ (best_gt key k j (by omega)) (NtL.lex_asym _ _ e)
    | false =>
      have b : argBest (fun i j => HT.lexLt (key j) (key i)) (k + 1) = argBest (fun i j => HT.lexLt (key j) (key i)) k := by simp only [argBest, e, Bool.false_eq_true, if_false]
      rw [b]
      by_cases z : j = k + 1
      · rw [z]; exact e
      · exact best_gt key k j (by omega)
theorem best_lt (key : Nat → List Int) : ∀ k j, j ≤ k → HT.lexLt (key j) (key (argBest (fun i j => HT.lexLt (key i) (key j)) k)) = false
  | 0, j, hj => by
    have : j = 0 := by omega
    subst this
    show HT.lexLt (key 0) (key 0) = false
    cases e : HT.lexLt (key 0) (key 0) with
    | false => rfl
    | true => rw [NtL.lex_asym _ _ e] at e; cases e
  | k + 1, j, hj => by
    have irr : ∀ i, HT.lexLt (key i) (key i) = false := fun i => by
      cases e : HT.lexLt (key i) (key i) with
      | false => rfl
      | true => rw [NtL.lex_asym _ _ e] at e; cases e
    cases e : HT.lexLt (key (k + 1)) (key (argBest (fun i j => HT.lexLt (key i) (key j)) k)) with
    | true =>
      have b : argBest (fun i j => HT.lexLt (key i) (key j)) (k + 1) = k + 1 := by simp only [argBest, e, if_true]
      rw [b]
      by_cases z : j = k + 1
      · rw [z]; exact irr _
      · exact NtL.lex_tr _ _ _ (NtL.lex_asym _ _ e) (best_lt key k j (by omega))
    | false =>
      have b : argBest (fun i j => HT.lexLt (key i) (key j)) (k + 1) = argBest (fun i j => HT.lexLt (key i) (key j)) k := by simp only [argBest, e, Bool.false_eq_true, if_false]
      rw [b]
      by_cases z : j = k + 1
      · rw [z]; exact e
      · exact best_lt key k j (by omega)
theorem best_le (bt : Nat → Nat → Bool) : ∀ k, argBest bt k ≤ k
  | 0 => Nat.le_refl _
  | k + 1 => by
    have := best_le bt k
    simp only [argBest]
    split <;> omega
theorem max_tuples {prog : Program} {w : World} {A : Around} {E : Value → Shared → Prop} {s : Shared} {l : Addr} {its : Array Value} {Q : Value → Shared → Prop} (key : Nat → List Int) (hh : A.handled = none) (hu : A.units + 1 < cLine) (hl : s.heap.IsList l its) (hne : 0 < its.size)
    (hi : ∀ i v, its[i]? = some v → TupInts s.heap v (key i))
    (q : ∀ i v h' tk, its[i]? = some v → (∀ j, j < its.size → HT.lexLt (key i) (key j) = false) → Keeps s.heap h' → Q v { s with heap := h', toks := tk }) : wpAny (model prog w) A (call (.builtin "max") [.ref l]) Q E s := by
  have lt : l < s.heap.objs.size := by obtain ⟨_, e, _⟩ := hl; exact Heap.lt_size e
  have uu : A.in1.units < cLine := by show A.units + 1 < cLine; exact hu
  refine max_walk (wpAny_pyIter_list hl ⟨s.heap.objs.size, _, _, its.size, _, _, fun i j => HT.lexLt (key j) (key i), rfl, Walks.list (A := A.in1) hh _ l (Nat.ne_of_lt lt) its, ⟨⟨_, Heap.get?_push_size _ rfl, rfl, rfl⟩, hl.push _⟩, fun b hb => ?_, hne, ?_, fun b o e => Heap.get?_push_of_some _ e, fun b o e m => ?_, fun v h' tk pv kk => ?_⟩)
  · show b < (s.heap.push _).objs.size
    rw [Heap.size_push]
    rcases List.mem_cons.mp hb with rfl | hb
    · exact Nat.lt_succ_self _
    · rcases List.mem_cons.mp hb with rfl | hb
      · exact Nat.lt_succ_of_lt lt
      · cases hb
  · intro i j vi vj s' Q' E' kp e1 e2 h
    exact tup_gt uu ((hi i vi e1).keep kp) ((hi j vj e2).keep kp) prog w E' Q' h
  · rcases List.mem_cons.mp m with z | m
    · exact absurd (z ▸ Heap.lt_size e) (Nat.lt_irrefl _)
    · cases m
  · refine q _ v h' tk pv (fun j hj => best_gt key (its.size - 1) j (by omega)) fun b o e => kk b o (fun m => ?_) (Heap.get?_push_of_some _ e)
    rcases List.mem_cons.mp m with z | m
    · exact absurd (z ▸ Heap.lt_size e) (Nat.lt_irrefl _)
    · cases m
theorem min_tuples {prog : Program} {w : World} {A : Around} {E : Value → Shared → Prop} {s : Shared} {l : Addr} {its : Array Value} {Q : Value → Shared → Prop} (key : Nat → List Int) (hh : A.handled = none) (hu : A.units + 1 < cLine) (hl : s.heap.IsList l its) (hne : 0 < its.size)
    (hi : ∀ i v, its[i]? = some v → TupInts s.heap v (key i))
    (q : ∀ i v h' tk, its[i]? = some v → (∀ j, j < its.size → HT.lexLt (key j) (key i) = false) → Keeps s.heap h' → Q v { s with heap := h', toks := tk }) : wpAny (model prog w) A (call (.builtin "min") [.ref l]) Q E s := by
  have lt : l < s.heap.objs.size := by obtain ⟨_, e, _⟩ := hl; exact Heap.lt_size e
  have uu : A.in1.units < cLine := by show A.units + 1 < cLine; exact hu
  refine min_walk (wpAny_pyIter_list hl ⟨s.heap.objs.size, _, _, its.size, _, _, fun i j => HT.lexLt (key i) (key j), rfl, Walks.list (A := A.in1) hh _ l (Nat.ne_of_lt lt) its, ⟨⟨_, Heap.get?_push_size _ rfl, rfl, rfl⟩, hl.push _⟩, fun b hb => ?_, hne, ?_, fun b o e => Heap.get?_push_of_some _ e, fun b o e m => ?_, fun v h' tk pv kk => ?_⟩)
  · show b < (s.heap.push _).objs.size
    rw [Heap.size_push]
    rcases List.mem_cons.mp hb with rfl | hb
    · exact Nat.lt_succ_self _
    · rcases List.mem_cons.mp hb with rfl | hb
      · exact Nat.lt_succ_of_lt lt
      · cases hb
  · intro i j vi vj s' Q' E' kp e1 e2 h
    exact tup_lt uu ((hi i vi e1).keep kp) ((hi j vj e2).keep kp) prog w E' Q' h
  · rcases List.mem_cons.mp m with z | m
    · exact absurd (z ▸ Heap.lt_size e) (Nat.lt_irrefl _)
    · cases m
  · refine q _ v h' tk pv (fun j hj => best_lt key (its.size - 1) j (by omega)) fun b o e => kk b o (fun m => ?_) (Heap.get?_push_of_some _ e)
    rcases List.mem_cons.mp m with z | m
    · exact absurd (z ▸ Heap.lt_size e) (Nat.lt_irrefl _)
    · cases m
/-- xs are tuples of ints, keys their ints -/
def TupKeys (K : PySem.W.Frag) (H : Hp) (xs : List V) (keys : List (List Int)) : Prop := Paired (fun (x : V) (ns : List Int) => ∃ a, x = .ref a ∧ SqT K H a (ns.map V.int)) xs keys
section
variable {X : Cx}
theorem tupInts_of {pins : List (Addr × Obj)} {σ : St} {H : Hp} {s : Shared} {a : Addr} {ns : List Int} (I : Inv X pins σ H s) (h : SqT X.K H a (ns.map V.int)) : TupInts s.heap (.ref a) ns := by
  obtain ⟨its, rv, p, _⟩ := I.tuple h
  exact ⟨a, its.toArray, rfl, p, by simpa using rv.ints⟩
def rMaxT (K : PySem.W.Frag) : List V → Hp → VK → Prop := fun vs H Q => ∃ (a : Addr) (xs : List V) (keys : List (List Int)), vs = [V.ref a] ∧ SqL K H a xs ∧ TupKeys K H xs keys ∧ 0 < keys.length ∧ ∀ i x, xs[i]? = some x → (∀ j, j < keys.length → HT.lexLt (keys.getD i []) (keys.getD j []) = false) → Q x H
def rMinT (K : PySem.W.Frag) : List V → Hp → VK → Prop := fun vs H Q => ∃ (a : Addr) (xs : List V) (keys : List (List Int)), vs = [V.ref a] ∧ SqL K H a xs ∧ TupKeys K H xs keys ∧ 0 < keys.length ∧ ∀ i x, xs[i]? = some x → (∀ j, j < keys.length → HT.lexLt (keys.getD j []) (keys.getD i []) = false) → Q x H
theorem keys_get {pins : List (Addr × Obj)} {σ : St} {H : Hp} {s : Shared} {xs : List V} {us : List Value} {keys : List (List Int)} (I : Inv X pins σ H s) (rv : Vals xs us) (h : TupKeys X.K H xs keys) : ∀ i v, us[i]? = some v → TupInts s.heap v (keys.getD i []) := by
  intro i v e
  obtain ⟨x, ex, rx⟩ : ∃ x, xs[i]? = some x ∧ RelV x v := by
    have hl := rv.length
    have hi : i < xs.length := by have := (List.getElem?_eq_some_iff.mp e).1; omega
    obtain ⟨u, hu, r⟩ := rv.get (i := i) (x := xs[i]) (by simp [hi])
    rw [e] at hu; cases hu
    exact ⟨_, by simp [hi], r⟩
  have : ∀ {xs : List V} {keys : List (List Int)}, Paired (fun (x : V) (ns : List Int) => ∃ a, x = .ref a ∧ SqT X.K H a (ns.map V.int)) xs keys → ∀ i x, xs[i]? = some x → ∃ a, x = .ref a ∧ SqT X.K H a ((keys.getD i []).map V.int) := by
    intro xs keys h
    induction h with
    | nil => intro i x e; simp at e
    | cons z _ ih =>
      intro i x e
      cases i with
      | zero => simp at e; subst e; exact z
      | succ i => simpa using ih i x (by simpa using e)
  obtain ⟨a, rfl, hq⟩ := this h i x ex
  cases rx
  exact tupInts_of I hq
theorem cr_maxT (hc : X.calm = true) (hu : X.A.units + 1 < cLine) : CallR X (.builtin "max") (rMaxT X.K) := by
  intro pins s σ H vs us Q I r h
  obtain ⟨a, xs, keys, rfl, hs, hk, hne, q⟩ := h
  obtain ⟨its, rv, hl, _⟩ := I.list hs
  rw [Vals.ref1 r]
  have l1 : its.toArray.size = keys.length := by have := Paired.length hk; have := rv.length; simp; omega
  refine max_tuples (fun i => keys.getD i []) (I.ok.hd hc) hu hl.isList (by omega) (fun i v e => keys_get I rv hk i v (by simpa using e)) fun i v h' tk e hb kp => ?_
  have e : its[i]? = some v := by simpa using e
  have hi : i < xs.length := by have := (List.getElem?_eq_some_iff.mp e).1; have := rv.length; omega
  obtain ⟨u, hu2, ru⟩ := rv.get (i := i) (x := xs[i]) (by simp [hi])
  rw [e] at hu2; cases hu2
  exact ⟨xs[i], H, I.kept kp, ru, q i _ (by simp [hi]) fun j hj => hb j (by omega)⟩
theorem cr_minT (hc : X.calm = true) (hu : X.A.units + 1 < cLine) : CallR X (.builtin "min") (rMinT X.K) := by
  intro pins s σ H vs us Q I r h
  obtain ⟨a, xs, keys, rfl, hs, hk, hne, q⟩ := h
  obtain ⟨its, rv, hl, _⟩ := I.list hs
  rw [Vals.ref1 r]
  have l1 : its.toArray.size = keys.length := by have := Paired.length hk; have := rv.length; simp; omega
  refine min_tuples (fun i => keys.getD i []) (I.ok.hd hc) hu hl.isList (by omega) (fun i v e => keys_get I rv hk i v (by simpa using e)) fun i v h' tk e hb kp => ?_
  have e : its[i]? = some v := by simpa using e
  have hi : i < xs.length := by have := (List.getElem?_eq_some_iff.mp e).1; have := rv.length; omega
  obtain ⟨u, hu2, ru⟩ := rv.get (i := i) (x := xs[i]) (by simp [hi])
  rw [e] at hu2; cases hu2
  exact ⟨xs[i], H, I.kept kp, ru, q i _ (by simp [hi]) fun j hj => hb j (by omega)⟩
/-! ### over data -/
def keysOf : List D → Option (List (List Int))
  | [] => some []
  | .tup ds :: r => match intsOf ds, keysOf r with
    | some ns, some ks => some (ns :: ks)
    | _, _ => none
  | _ => none
theorem keysOf_ok {K : PySem.W.Frag} {H : Hp} {μ : Mu} : ∀ {ds : List D} {vs : List V} {ks : List (List Int)}, keysOf ds = some ks → RVs K H μ vs ds → TupKeys K H vs ks
  | [], vs, ks, e, r => by
    rw [RVs] at r
    cases e
    subst r
    exact .nil
  | d :: ds, vs, ks, e, r => by
    rw [RVs] at r
    obtain ⟨v, us, rfl, r1, r2⟩ := r
    cases d with
    | tup xs =>
      unfold keysOf at e
      cases h1 : intsOf xs with
      | none => rw [h1] at e; cases e
      | some ns =>
        rw [h1] at e
        cases h2 : keysOf ds with
        | none => rw [h2] at e; cases e
        | some ks' =>
          rw [h2] at e
          cases e
          obtain ⟨a, ws, rfl, h3, r3⟩ := rv_tup.mp r1
          have := intsOf_rv h1 r3
          subst this
          exact .cons ⟨a, rfl, h3.sq⟩ (keysOf_ok h2 r2)
    | _ => cases e
theorem keysOf_map {α : Type} (f : α → List Int) : ∀ l : List α, keysOf (l.map fun x => D.tup ((f x).map D.int)) = some (l.map f)
  | [] => rfl
  | x :: l => by rw [List.map_cons, keysOf, intsOf_map, keysOf_map f l]; rfl
theorem keysOf_len : ∀ {ds : List D} {ks : List (List Int)}, keysOf ds = some ks → ks.length = ds.length
  | [], ks, e => by cases e; rfl
  | d :: ds, ks, e => by
    cases d with
    | tup xs =>
      unfold keysOf at e
      cases h1 : intsOf xs with
      | none => rw [h1] at e; cases e
      | some ns =>
        rw [h1] at e
        cases h2 : keysOf ds with
        | none => rw [h2] at e; cases e
        | some ks' =>
          rw [h2] at e
          cases e
          simp [keysOf_len h2]
    | _ => cases e
def gMaxT : GL := fun ds S Q => ∃ d xs ks, ds = [d] ∧ rdL S d = some xs ∧ keysOf xs = some ks ∧ 0 < ks.length ∧ ∀ (i : Nat) (x : D), xs[i]? = some x → (∀ j, j < ks.length → HT.lexLt (ks.getD i []) (ks.getD j []) = false) → Q x S
def gMinT : GL := fun ds S Q => ∃ d xs ks, ds = [d] ∧ rdL S d = some xs ∧ keysOf xs = some ks ∧ 0 < ks.length ∧ ∀ (i : Nat) (x : D), xs[i]? = some x → (∀ j, j < ks.length → HT.lexLt (ks.getD j []) (ks.getD i []) = false) → Q x S
theorem c_maxT (hc : X.calm = true) (hu : X.A.units + 1 < cLine) : CallJ X (.builtin "max") gMaxT := by
  refine ⟨_, cr_maxT hc hu, fun {μ H S ds vs Q R} o r q ha => ?_⟩
  obtain ⟨d, xs, ks, rfl, hx, hk, hne, q⟩ := q
  obtain ⟨v, rfl, r1⟩ := rvs_one r
  obtain ⟨a, vs, rfl, hs, rs⟩ := rdL_ok o r1 hx
  refine ⟨a, vs, ks, rfl, hs, keysOf_ok hk rs, hne, fun i x hx2 hb => ?_⟩
  obtain ⟨d2, hd2, rd⟩ := rs.get' hx2
  exact ha.here o (q i d2 hd2 hb) rd
theorem c_minT (hc : X.calm = true) (hu : X.A.units + 1 < cLine) : CallJ X (.builtin "min") gMinT := by
  refine ⟨_, cr_minT hc hu, fun {μ H S ds vs Q R} o r q ha => ?_⟩
  obtain ⟨d, xs, ks, rfl, hx, hk, hne, q⟩ := q
  obtain ⟨v, rfl, r1⟩ := rvs_one r
  obtain ⟨a, vs, rfl, hs, rs⟩ := rdL_ok o r1 hx
  refine ⟨a, vs, ks, rfl, hs, keysOf_ok hk rs, hne, fun i x hx2 hb => ?_⟩
  obtain ⟨d2, hd2, rd⟩ := rs.get' hx2
  exact ha.here o (q i d2 hd2 hb) rd
end
end DL
namespace DL
open PySem PySem.Spec L2
open PyProof.Rows hiding St
section
variable {X : Cx} {pos : Pos}
/-- a comprehension's list for the store -/
theorem je_lcL {elt tg iter : Expr} {ifs : List Expr} {scope : Scope} {own : List (Str × Nat)} {wi : WI} {g : TG} {wg : WG} {t : WT} {el : WE} (hc : X.calm = true) (hN : X.N.Nodup) (hi : JI X tg iter wi) (ok : BlkOk X.N X.env.scope scope own) (hg : OwnTg X.K (own.map (·.2)) g wg)
    (pg : ∀ (s : Shared) (H : Hp) (C : Addr) (cl : List (Str × Addr)) (fp : List Addr), PG (X.blk s H scope (compEnvC scope cl C X.env) fp) tg g) (ht : ∀ (s : Shared) (H : Hp) (C : Addr) (cl : List (Str × Addr)) (fp : List Addr), JTs (X.blk s H scope (compEnvC scope cl C X.env) fp) ifs t)
    (he : ∀ (s : Shared) (H : Hp) (C : Addr) (cl : List (Str × Addr)) (fp : List Addr), JE (X.blk s H scope (compEnvC scope cl C X.env) fp) elt el) (hs : ∀ x, foldedSetIterable iter X.env x = pure x := by intro _; rfl) :
    JE X (.ListComp elt [⟨tg, iter, ifs, 0⟩] scope pos) (wLcL wi wg t el (own.map (·.2))) := by
  refine PE.imp (pe_lc (tt := LT X.K t) (te := LE X.K el) hc hN hi ok pg (fun s H C cl fp => ht s H C cl fp) (fun s H C cl fp => he s H C cl fp) hs) fun σ H R ⟨μ, ρ, S, Q, hs, ho, hw, ha⟩ => lc_to hg hs ho hw fun xs S' q D H' μ' vs h0 hl hf e' o' r' => ?_
  obtain ⟨μ2, e2, o2, r2, _⟩ := lcL_end ho h0 hl hf e' o' r'
  exact ha _ _ q _ _ _ e2 o2 r2
theorem js_setLcL (i : Nat) {y : Str} {py spos : Pos} {elt tg iter : Expr} {ifs : List Expr} {scope : Scope} {own : List (Str × Nat)} {wi : WI} {g : TG} {wg : WG} {t : WT} {el : WE} (hc : X.calm = true) (hN : X.N.Nodup) (hi : JI X tg iter wi) (ok : BlkOk X.N X.env.scope scope own) (hg : OwnTg X.K (own.map (·.2)) g wg)
    (pg : ∀ (s : Shared) (H : Hp) (C : Addr) (cl : List (Str × Addr)) (fp : List Addr), PG (X.blk s H scope (compEnvC scope cl C X.env) fp) tg g) (ht : ∀ (s : Shared) (H : Hp) (C : Addr) (cl : List (Str × Addr)) (fp : List Addr), JTs (X.blk s H scope (compEnvC scope cl C X.env) fp) ifs t)
    (he : ∀ (s : Shared) (H : Hp) (C : Addr) (cl : List (Str × Addr)) (fp : List Addr), JE (X.blk s H scope (compEnvC scope cl C X.env) fp) elt el)
    (hsw : swapsWith (.ListComp elt [⟨tg, iter, ifs, 0⟩] scope pos) (some (.Name y py)) spos.line X.env = pure true) (hy : X.N[i]? = some y := by rfl) (hyl : X.env.scope.names.lookup y = some .local := by rfl) (hs : ∀ x, foldedSetIterable iter X.env x = pure x := by intro _; rfl) :
    JS X (.Assign [.Name y py] (.ListComp elt [⟨tg, iter, ifs, 0⟩] scope pos) spos) (sAsg (wLcL wi wg t el (own.map (·.2))) (gName i)) := by
  refine PS.imp (ps_setLc (tt := LT X.K t) (te := LE X.K el) hc hN hy hyl hsw hi ok pg (fun s H C cl fp => ht s H C cl fp) (fun s H C cl fp => he s H C cl fp) hs) fun R σ H ⟨μ, ρ, S, E, hs, ho, hw, ha⟩ => lc_to hg hs ho hw fun xs S' q D H' μ' vs h0 hl hf e' o' r' => ?_
  obtain ⟨μ2, e2, o2, r2, _⟩ := lcL_end ho h0 hl hf e' o' r'
  exact ha.nx _ _ q _ _ _ e2 ((hs.ext e2).set r2) o2
end
end DL
namespace DL
open PySem PySem.Spec L2
open PyProof.Rows hiding St
section
variable {X : Cx} {pos : Pos}
theorem Slots.mv {K : PySem.W.Frag} {H H' : Hp} {μ μ' : Mu} {σ : St} {ρ : Env} (h : Slots K H μ σ ρ) (m : Mv H H' μ μ') : Slots K H' μ' σ ρ :=
  ⟨h.len, fun i d q => let ⟨v, q1, q2⟩ := h.get i d q; ⟨v, q1, RV.move m d q2⟩⟩
/-- [el for target in iter if .. for target1 in iter1 if ..] -/
def wLc2Go (g : WG) (t : WT) (wi1 : WI) (g1 : WG) (t1 : WT) (el : WE) (vs1 : List Nat) (gd : Gd) (ρ0 : Env) (Q : List D → Sto → Prop) : List D → List D → Sto → Prop
  | [], acc, S => gd.ok S ∧ Q acc S
  | d :: ds, acc, S => gd.ok S ∧ g d ρ0 S fun ρ1 S1 => t ρ1 S1 fun k S2 => if k = true then wi1 ρ1 S2 fun ds1 gd1 S3 => wLcGo g1 t1 el gd1 (wipeD ρ1 vs1) (fun acc' S4 => wLc2Go g t wi1 g1 t1 el vs1 gd ρ0 Q ds acc' S4) ds1 acc S3 else wLc2Go g t wi1 g1 t1 el vs1 gd ρ0 Q ds acc S2
def wLc2 (wi : WI) (g : WG) (t : WT) (wi1 : WI) (g1 : WG) (t1 : WT) (el : WE) (own vs1 : List Nat) : WE := fun ρ S Q => wi ρ S fun ds gd S1 => wLc2Go g t wi1 g1 t1 el vs1 gd (wipeD ρ own) (fun xs S2 => Q (.rol xs) S2) ds [] S1
theorem lc2_to {wi wi1 : WI} {g g1 : TG} {wg wg1 : WG} {t t1 : WT} {el : WE} {own vs1 : List Nat} (hg : OwnTg X.K own g wg) (hg1 : OwnTg X.K vs1 g1 wg1) {σ : St} {H : Hp} {R : VK} {μ : Mu} {ρ : Env} {S : Sto} {Q : List D → Sto → Prop} (hs : Slots X.K H μ σ ρ) (ho : StoOk X.K H μ S)
    (hw : wi ρ S fun ds gd S1 => wLc2Go wg t wi1 wg1 t1 el vs1 gd (wipeD ρ own) Q ds [] S1)
    (ha : ∀ xs S', Q xs S' → ∀ D H' μ' vs, H D = none → H' D = some (.lst vs) → D ∈ μ'.fb → Ext μ μ' H H' → StoOk X.K H' μ' S' → RVs X.K H' μ' vs xs → R (.ref D) H') : tLc2 (LI X.K wi) g (LT X.K t) (LI X.K wi1) g1 (LT X.K t1) (LE X.K el) own vs1 σ H R := by
  refine ⟨μ, ρ, S, _, hs, ho, hw, fun ds gd S1 q J H1 μ1 e1 o1 hJ D hD => ?_⟩
  have hD0 : H D = none := e1.was hD
  let W : Nat → Hp → Prop := fun i H' => ∃ μ' S' acc vs, H' D = some (.lst vs) ∧ D ∈ μ'.fb ∧ Ext μ1 μ' H1 H' ∧ StoOk X.K H' μ' S' ∧ RVs X.K H' μ' vs acc ∧ wLc2Go wg t wi1 wg1 t1 el vs1 gd (wipeD ρ own) Q (ds.drop i) acc S'
  refine ⟨fun i m H' => m = ds.length - i ∧ i ≤ ds.length ∧ W i H', ⟨ds.length, by simp, Nat.zero_le _, μ1.hide D, S1, [], [], upd_same, List.mem_cons_self, Ext.hide hD, o1.hide hD, RVs.nil, q⟩, ?_⟩
  rintro i m H2 ⟨rfl, hi, μ2, S2, acc, vs, hl, hf, e2, o2, r2, w2⟩
  by_cases hlt : i < ds.length
  · rw [List.drop_eq_getElem_cons hlt] at w2
    obtain ⟨hgd, w2⟩ := w2
    obtain ⟨hgo, hy⟩ := (hJ μ2 H2 S2 e2.mv o2 hgd i).1 ds[i] (by simp [hlt])
    refine .inr ⟨hgo, W (i + 1), fun H' z => ⟨ds.length - (i + 1), by omega, rfl, hlt, z⟩, fun x H3 y => ?_⟩
    obtain ⟨e3, o3, r3⟩ := hy x H3 y
    have s3 : Slots X.K H3 μ2 (wipe σ own) (wipeD ρ own) := (hs.ext ((e1.trans e2).trans e3)).wipe own
    have hl3 : H3 D = some (.lst vs) := e3.keep _ _ hl (o2.fbd D hf).1
    refine hg.run s3 o3 r3 w2 fun ρ4 σ4 s4 ew q4 => ⟨by rw [ew, wipe_wipe], ?_⟩
    refine ⟨μ2, ρ4, S2, _, s4, o3, q4, fun k S5 q5 H5 μ5 e5 o5 => ?_⟩
    have e15 : Ext μ1 μ5 H1 H5 := (e2.trans e3).trans e5
    have hl5 : H5 D = some (.lst vs) := e5.keep _ _ hl3 (o3.fbd D hf).1
    have hf5 := e5.sub D hf
    have r5 : RVs X.K H5 μ5 vs acc := RVs.ext (e3.trans e5) acc r2
    have s5 := s4.ext e5
    cases k with
    | false =>
      rw [if_neg Bool.false_ne_true] at q5
      show if false = true then _ else W (i + 1) H5
      rw [if_neg Bool.false_ne_true]
      exact ⟨μ5, S5, acc, vs, hl5, hf5, e15, o5, r5, q5⟩
    | true =>
      rw [if_pos rfl] at q5
      show if true = true then LI X.K wi1 σ4 H5 _ else _
      rw [if_pos rfl]
      refine ⟨μ5, ρ4, S5, _, s5, o5, q5, fun ds1 gd1 S6 q6 J1 H6 μ6 e6 o6 hJ1 => ?_⟩
      -- the inner walk
      have hl6 : H6 D = some (.lst vs) := e6.keep _ _ hl5 (o5.fbd D hf5).1
      have hf6 := e6.sub D hf5
      let W1 : Nat → Hp → Prop := fun j H' => ∃ μ' S' acc' vs', H' D = some (.lst vs') ∧ D ∈ μ'.fb ∧ Mv H6 H' μ6 μ' ∧ Ext μ1 μ' H1 H' ∧ StoOk X.K H' μ' S' ∧ RVs X.K H' μ' vs' acc' ∧
        wLcGo wg1 t1 el gd1 (wipeD ρ4 vs1) (fun a S4 => wLc2Go wg t wi1 wg1 t1 el vs1 gd (wipeD ρ own) Q (ds.drop (i + 1)) a S4) (ds1.drop j) acc' S'
      refine ⟨fun j k H' => k = ds1.length - j ∧ j ≤ ds1.length ∧ W1 j H', ⟨ds1.length, by simp, Nat.zero_le _, μ6, S6, acc, vs, hl6, hf6, ⟨fun a o h n => ⟨h, n⟩, fun _ _ h => h⟩, e15.trans e6, o6, RVs.ext e6 acc r5, q6⟩, ?_⟩
      rintro j k H7 ⟨rfl, hj, μ7, S7, acc7, vs7, hl7, hf7, m7, e7, o7, r7, w7⟩
      by_cases hjt : j < ds1.length
      · rw [List.drop_eq_getElem_cons hjt] at w7
        obtain ⟨hgd1, w7⟩ := w7
        obtain ⟨hgo1, hy1⟩ := (hJ1 μ7 H7 S7 m7 o7 hgd1 j).1 ds1[j] (by simp [hjt])
        refine .inr ⟨hgo1, W1 (j + 1), fun H' z => ⟨ds1.length - (j + 1), by omega, rfl, hjt, z⟩, fun x1 H8 y1 => ?_⟩
        obtain ⟨e8, o8, r8⟩ := hy1 x1 H8 y1
        have m8 : Mv H5 H8 μ5 μ7 := (e6.mv.trans m7).trans e8.mv
        have s8 : Slots X.K H8 μ7 (wipe σ4 vs1) (wipeD ρ4 vs1) := (s5.mv m8).wipe vs1
        have hl8 : H8 D = some (.lst vs7) := e8.keep _ _ hl7 (o7.fbd D hf7).1
        refine hg1.run s8 o8 r8 w7 fun ρ9 σ9 s9 ew q9 => ⟨by rw [ew, wipe_wipe], ?_⟩
        refine ⟨μ7, ρ9, S7, _, s9, o8, q9, fun k S10 q10 H10 μ10 e10 o10 => ?_⟩
        have hl10 : H10 D = some (.lst vs7) := e10.keep _ _ hl8 (o8.fbd D hf7).1
        have hf10 := e10.sub D hf7
        have r10 : RVs X.K H10 μ10 vs7 acc7 := RVs.ext (e8.trans e10) acc7 r7
        have m10 : Mv H6 H10 μ6 μ10 := (m7.trans e8.mv).trans e10.mv
        have x10 : Ext μ1 μ10 H1 H10 := (e7.trans e8).trans e10
        cases k with
        | false =>
          rw [if_neg Bool.false_ne_true] at q10
          show if false = true then _ else W1 (j + 1) H10
          rw [if_neg Bool.false_ne_true]
          exact ⟨μ10, S10, acc7, vs7, hl10, hf10, m10, x10, o10, r10, q10⟩
        | true =>
          rw [if_pos rfl] at q10
          show if true = true then LE X.K el σ9 H10 _ else _
          rw [if_pos rfl]
          refine ⟨μ10, ρ9, S10, _, s9.ext e10, o10, q10, fun d S11 ⟨hz, q11⟩ v H11 μ11 e11 o11 r11 => ?_⟩
          have hl11 : H11 D = some (.lst vs7) := e11.keep _ _ hl10 (o10.fbd D hf10).1
          have hf11 := e11.sub D hf10
          refine ⟨vs7, hl11, by rw [r10.length]; exact hz, μ11, S11, acc7 ++ [d], vs7 ++ [v], upd_same, hf11, (m10.trans e11.mv).trans (mv_turn hf11), (x10.trans e11).turn hD, o11.turn hf11, ?_, q11⟩
          exact RVs.turn hf11 _ ((RVs.ext e11 acc7 r10).append (RVs.cons r11 RVs.nil))
      · have : j = ds1.length := by omega
        subst this
        rw [List.drop_length] at w7
        exact .inl ⟨(hJ1 μ7 H7 S7 m7 o7 w7.1 _).2 (Nat.le_refl _), μ7, S7, acc7, vs7, hl7, hf7, e7, o7, r7, w7.2⟩
  · have : i = ds.length := by omega
    subst this
    rw [List.drop_length] at w2
    exact .inl ⟨(hJ μ2 H2 S2 e2.mv o2 w2.1 _).2 (Nat.le_refl _), ha _ _ w2.2 D H2 μ2 vs hD0 hl hf (e1.trans e2) o2 r2⟩
/-- two clauses, a plain list -/
theorem je_lc2 {elt tg iter tg1 iter1 : Expr} {ifs ifs1 : List Expr} {scope : Scope} {own : List (Str × Nat)} {wi wi1 : WI} {g g1 : TG} {wg wg1 : WG} {t t1 : WT} {el : WE} (vs1 : List Nat) (hc : X.calm = true) (hN : X.N.Nodup) (hi : JI X tg iter wi) (ok : BlkOk X.N X.env.scope scope own) (hv : ∀ i ∈ vs1, i ∈ own.map (·.2)) (hg : OwnTg X.K (own.map (·.2)) g wg) (hg1 : OwnTg X.K vs1 g1 wg1)
    (pg : ∀ (s : Shared) (H : Hp) (C : Addr) (cl : List (Str × Addr)) (fp : List Addr), PG (X.blk s H scope (compEnvC scope cl C X.env) fp) tg g) (ht : ∀ (s : Shared) (H : Hp) (C : Addr) (cl : List (Str × Addr)) (fp : List Addr), JTs (X.blk s H scope (compEnvC scope cl C X.env) fp) ifs t)
    (hi1 : ∀ (s : Shared) (H : Hp) (C : Addr) (cl : List (Str × Addr)) (fp : List Addr), JI (X.blk s H scope (compEnvC scope cl C X.env) fp) tg1 iter1 wi1)
    (pg1 : ∀ (s : Shared) (H : Hp) (C : Addr) (cl : List (Str × Addr)) (fp : List Addr), PG (X.blk s H scope (compEnvC scope cl C X.env) fp) tg1 g1) (ht1 : ∀ (s : Shared) (H : Hp) (C : Addr) (cl : List (Str × Addr)) (fp : List Addr), JTs (X.blk s H scope (compEnvC scope cl C X.env) fp) ifs1 t1)
    (he : ∀ (s : Shared) (H : Hp) (C : Addr) (cl : List (Str × Addr)) (fp : List Addr), JE (X.blk s H scope (compEnvC scope cl C X.env) fp) elt el) (hs : ∀ x, foldedSetIterable iter X.env x = pure x := by intro _; rfl) (hs1 : ∀ env x, foldedSetIterable iter1 env x = pure x := by intro _ _; rfl) :
    JE X (.ListComp elt [⟨tg, iter, ifs, 0⟩, ⟨tg1, iter1, ifs1, 0⟩] scope pos) (wLc2 wi wg t wi1 wg1 t1 el (own.map (·.2)) vs1) := by
  refine PE.imp (pe_lc2 (vs1 := vs1) (tt := LT X.K t) (te := LE X.K el) (tt1 := LT X.K t1) (wi1 := LI X.K wi1) hc hN hi ok hv pg (fun s H C cl fp => ht s H C cl fp) (fun s H C cl fp => hi1 s H C cl fp) pg1 (fun s H C cl fp => ht1 s H C cl fp) (fun s H C cl fp => he s H C cl fp) hs hs1) fun σ H R ⟨μ, ρ, S, Q, hs, ho, hw, ha⟩ => lc2_to hg hg1 hs ho hw fun xs S' q D H' μ' vs h0 hl hf e' o' r' => ?_
  have hn : ∀ b, b ∈ μ.fb → b ∈ μ'.fb := e'.sub
  have od : (⟨μ'.lo, μ.fb⟩ : Mu).out D := ⟨(o'.fbd D hf).1, fun m => by
    obtain ⟨_, u, z⟩ := ho.fbd D m
    rw [h0] at z; cases z⟩
  exact ha _ _ q _ _ _ e'.less (o'.less hn) (rv_rol.mpr ⟨D, vs, rfl, ⟨hl, od⟩, RVs.less hn xs r'⟩)
theorem js_setLc2 (i : Nat) {y : Str} {py spos : Pos} {elt tg iter tg1 iter1 : Expr} {ifs ifs1 : List Expr} {scope : Scope} {own : List (Str × Nat)} {wi wi1 : WI} {g g1 : TG} {wg wg1 : WG} {t t1 : WT} {el : WE} (vs1 : List Nat) (hc : X.calm = true) (hN : X.N.Nodup) (hi : JI X tg iter wi) (ok : BlkOk X.N X.env.scope scope own) (hv : ∀ i ∈ vs1, i ∈ own.map (·.2)) (hg : OwnTg X.K (own.map (·.2)) g wg) (hg1 : OwnTg X.K vs1 g1 wg1)
    (pg : ∀ (s : Shared) (H : Hp) (C : Addr) (cl : List (Str × Addr)) (fp : List Addr), PG (X.blk s H scope (compEnvC scope cl C X.env) fp) tg g) (ht : ∀ (s : Shared) (H : Hp) (C : Addr) (cl : List (Str × Addr)) (fp : List Addr), JTs (X.blk s H scope (compEnvC scope cl C X.env) fp) ifs t)
    (hi1 : ∀ (s : Shared) (H : Hp) (C : Addr) (cl : List (Str × Addr)) (fp : List Addr), JI (X.blk s H scope (compEnvC scope cl C X.env) fp) tg1 iter1 wi1)
    (pg1 : ∀ (s : Shared) (H : Hp) (C : Addr) (cl : List (Str × Addr)) (fp : List Addr), PG (X.blk s H scope (compEnvC scope cl C X.env) fp) tg1 g1) (ht1 : ∀ (s : Shared) (H : Hp) (C : Addr) (cl : List (Str × Addr)) (fp : List Addr), JTs (X.blk s H scope (compEnvC scope cl C X.env) fp) ifs1 t1)
    (he : ∀ (s : Shared) (H : Hp) (C : Addr) (cl : List (Str × Addr)) (fp : List Addr), JE (X.blk s H scope (compEnvC scope cl C X.env) fp) elt el)
    (hsw : swapsWith (.ListComp elt [⟨tg, iter, ifs, 0⟩, ⟨tg1, iter1, ifs1, 0⟩] scope pos) (some (.Name y py)) spos.line X.env = pure true) (hy : X.N[i]? = some y := by rfl) (hyl : X.env.scope.names.lookup y = some .local := by rfl) (hs : ∀ x, foldedSetIterable iter X.env x = pure x := by intro _; rfl) (hs1 : ∀ env x, foldedSetIterable iter1 env x = pure x := by intro _ _; rfl) :
    JS X (.Assign [.Name y py] (.ListComp elt [⟨tg, iter, ifs, 0⟩, ⟨tg1, iter1, ifs1, 0⟩] scope pos) spos) (sAsg (wLc2 wi wg t wi1 wg1 t1 el (own.map (·.2)) vs1) (gName i)) := by
  refine PS.imp (ps_setLc2 (vs1 := vs1) (tt := LT X.K t) (te := LE X.K el) (tt1 := LT X.K t1) (wi1 := LI X.K wi1) hc hN hy hyl hsw hi ok hv pg (fun s H C cl fp => ht s H C cl fp) (fun s H C cl fp => hi1 s H C cl fp) pg1 (fun s H C cl fp => ht1 s H C cl fp) (fun s H C cl fp => he s H C cl fp) hs hs1) fun R σ H ⟨μ, ρ, S, E, hs, ho, hw, ha⟩ => lc2_to hg hg1 hs ho hw fun xs S' q D H' μ' vs h0 hl hf e' o' r' => ?_
  have hn : ∀ b, b ∈ μ.fb → b ∈ μ'.fb := e'.sub
  have od : (⟨μ'.lo, μ.fb⟩ : Mu).out D := ⟨(o'.fbd D hf).1, fun m => by
    obtain ⟨_, u, z⟩ := ho.fbd D m
    rw [h0] at z; cases z⟩
  exact ha.nx _ _ q _ _ _ e'.less ((hs.ext e'.less).set (rv_rol.mpr ⟨D, vs, rfl, ⟨hl, od⟩, RVs.less hn xs r'⟩)) (o'.less hn)
/-- the walk of two clauses -/
theorem wLc2_map {α : Type} {g g1 : WG} {t t1 : WT} {wi1 : WI} {el : WE} {vs1 : List Nat} {gd : Gd} {ρ0 : Env} {Q : List D → Sto → Prop} {S : Sto} (c : α → D) (f : α → List D) (xs : List α) (hgd : gd.ok S)
    (step : ∀ x ∈ xs, ∀ (acc : List D) (k : List D → Sto → Prop), acc.length + (f x).length ≤ ((xs.map f).flatten).length → k (acc ++ f x) S → g (c x) ρ0 S fun ρ1 S1 => t ρ1 S1 fun b S2 => if b = true then wi1 ρ1 S2 fun ds1 gd1 S3 => wLcGo g1 t1 el gd1 (wipeD ρ1 vs1) k ds1 acc S3 else k acc S2) (fin : Q ((xs.map f).flatten) S) :
    wLc2Go g t wi1 g1 t1 el vs1 gd ρ0 Q (xs.map c) [] S := by
  have main : ∀ (ys : List α) (acc : List D), (∀ y ∈ ys, y ∈ xs) → acc.length + ((ys.map f).flatten).length ≤ ((xs.map f).flatten).length → Q (acc ++ (ys.map f).flatten) S → wLc2Go g t wi1 g1 t1 el vs1 gd ρ0 Q (ys.map c) acc S := by
    intro ys
    induction ys with
    | nil => intro acc _ _ q; exact ⟨hgd, by simpa using q⟩
    | cons y ys ih =>
      intro acc hm hl q
      rw [List.map_cons, List.flatten_cons] at q hl
      rw [List.length_append] at hl
      refine ⟨hgd, step y (hm y List.mem_cons_self) acc (fun a S4 => wLc2Go g t wi1 g1 t1 el vs1 gd ρ0 Q (ys.map c) a S4) (by omega) (ih (acc ++ f y) (fun z hz => hm z (List.mem_cons_of_mem _ hz)) (by rw [List.length_append]; omega) ?_)⟩
      rw [List.append_assoc]; exact q
  exact main xs [] (fun _ h => h) (by simp) (by simpa using fin)
/-- the items of a list of numbers, one behind the other, as they are -/
theorem wLcGo_all {el : WE} {v n : Nat} {gd : Gd} {S : Sto} {k : List D → Sto → Prop} (hg : gd.ok S) (hel : ∀ (ρ : Env) (x : D) (k2 : QD), ρ.length = n → k2 x S → el (ρ.set v (some x)) S k2) : ∀ (ds acc : List D) (ρ0 : Env), ρ0.length = n → acc.length + ds.length ≤ sizeLine → k (acc ++ ds) S → wLcGo (gName v) wYes el gd ρ0 k ds acc S
  | [], acc, ρ0, _, _, h => ⟨hg, by simpa using h⟩
  | d :: ds, acc, ρ0, hρ, hl, h => by
    rw [List.length_cons] at hl
    have rest := wLcGo_all hg hel ds (acc ++ [d]) ρ0 hρ (by rw [List.length_append, List.length_singleton]; omega) (by rw [List.append_assoc]; exact h)
    have now := hel ρ0 d (fun x S3 => acc.length < sizeLine ∧ wLcGo (gName v) wYes el gd ρ0 k ds (acc ++ [x]) S3) hρ ⟨by omega, rest⟩
    refine ⟨hg, ?_⟩
    simp only [DL.gName, wYes, if_true]
    exact now
end
end DL
namespace DL
open PySem PySem.Spec L2
open PyProof.Rows hiding St
/-! ## max, min, sum of a tuple of ints -/
section
variable {prog : Program} {w : World} {A : Around} {E : Value → Shared → Prop} {s : Shared} {l : Addr} {xs : Array (Int × Tok)}
theorem iter_intTup {Q : Value → Shared → Prop} (hl : s.heap.IsTuple l (intItems xs))
    (h : ∀ s₂ : Shared, s₂ = { s with heap := s.heap.push { cls := .type "tuple_iterator", data := .fields #[.ref l, .int 0 0] } } →
      (s₂.heap.IsTupleIter s.heap.objs.size l 0 ∧ s₂.heap.IsTuple l (intItems xs)) → (∀ b ∈ [s.heap.objs.size, l], b < s₂.heap.objs.size) → l ≠ s.heap.objs.size → Q (.ref s.heap.objs.size) s₂) :
    wpAny (model prog w) A (pyIter (.ref l)) Q E s := by
  have hlt : l < s.heap.objs.size := by obtain ⟨_, e, _⟩ := hl; exact Heap.lt_size e
  refine wpAny_pyIter_tuple hl (h _ rfl ⟨⟨_, Heap.get?_push_size _ rfl, rfl, rfl⟩, hl.push _⟩ (fun b hb => ?_) (Nat.ne_of_lt hlt))
  show b < (s.heap.push _).objs.size
  rw [Heap.size_push]
  rcases List.mem_cons.mp hb with rfl | hb
  · exact Nat.lt_succ_self _
  · rcases List.mem_cons.mp hb with rfl | hb
    · exact Nat.lt_succ_of_lt hlt
    · cases hb
theorem old_keptT {h' : Heap} (hk : ∀ b o, b ∉ [s.heap.objs.size] → (s.heap.push { cls := .type "tuple_iterator", data := .fields #[.ref l, .int 0 0] }).get? b = some o → h'.get? b = some o) :
    ∀ b o, s.heap.get? b = some o → h'.get? b = some o := fun b o e => by
  refine hk b o (fun hm => ?_) (Heap.get?_push_of_some _ e)
  rcases List.mem_cons.mp hm with e1 | hm
  · exact absurd (e1 ▸ Heap.lt_size e) (Nat.lt_irrefl _)
  · cases hm
theorem max_intTup {Q : Value → Shared → Prop} (hh : A.handled = none) (hl : s.heap.IsTuple l (intItems xs)) (hne : 0 < xs.size)
    (h : ∀ v h' tk, (intItems xs)[argBest (fun i j => decide (numAt xs i > numAt xs j)) (xs.size - 1)]? = some v → (∀ b o, s.heap.get? b = some o → h'.get? b = some o) → Q v { s with heap := h', toks := tk }) :
    wpAny (model prog w) A (call (.builtin "max") [.ref l]) Q E s := by
  refine call_max_walk (iter_intTup hl fun s₂ e st hfp hlI => ?_)
  subst e
  refine ⟨_, _, _, _, _, _, _, rfl, Walks.tuple (A := A.in1) hh _ l hlI (intItems xs), st, hfp, by simpa [intItems] using hne, CmpOf.ints_gt (numAt xs) (fun _ _ => intItems_at), fun v h' tk hP hk => ?_⟩
  exact h v h' tk (by simpa [intItems] using hP) (old_keptT hk)
theorem min_intTup {Q : Value → Shared → Prop} (hh : A.handled = none) (hl : s.heap.IsTuple l (intItems xs)) (hne : 0 < xs.size)
    (h : ∀ v h' tk, (intItems xs)[argBest (fun i j => decide (numAt xs i < numAt xs j)) (xs.size - 1)]? = some v → (∀ b o, s.heap.get? b = some o → h'.get? b = some o) → Q v { s with heap := h', toks := tk }) :
    wpAny (model prog w) A (call (.builtin "min") [.ref l]) Q E s := by
  refine call_min_walk (iter_intTup hl fun s₂ e st hfp hlI => ?_)
  subst e
  refine ⟨_, _, _, _, _, _, _, rfl, Walks.tuple (A := A.in1) hh _ l hlI (intItems xs), st, hfp, by simpa [intItems] using hne, CmpOf.ints_lt (numAt xs) (fun _ _ => intItems_at), fun v h' tk hP hk => ?_⟩
  exact h v h' tk (by simpa [intItems] using hP) (old_keptT hk)
theorem sum_intTup {Q : Value → Shared → Prop} (hh : A.handled = none) (hl : s.heap.IsTuple l (intItems xs))
    (h : ∀ h' tk t', (∀ b o, s.heap.get? b = some o → h'.get? b = some o) → Q (.int (preSum (numAt xs) xs.size) t') { s with heap := h', toks := tk }) :
    wpAny (model prog w) A (call (.builtin "sum") [.ref l]) Q E s := by
  refine call_sum_walkG (iter_intTup hl fun s₂ e st hfp hlI => ?_)
  subst e
  refine ⟨_, _, _, _, _, _, numAt xs, rfl, Walks.tuple (A := A.in1) hh _ l hlI (intItems xs), st, hfp, (fun _ _ => intItems_at), fun h' tk t' hk => ?_⟩
  have := h h' tk t' (old_keptT hk)
  simpa [intItems] using this
end
section
variable {prog : Program} {w : World} {A : Around} {E : Value → Shared → Prop} {s : Shared} {l : Addr} {its : List Value} {ns : List Int} {Q : Value → Shared → Prop}
theorem maxT_raw (hh : A.handled = none) (hl : s.heap.IsTuple l its.toArray) (hi : IntsAre its ns) (hne : 0 < ns.length)
    (h : ∀ h' tk M t', (∀ b o, s.heap.get? b = some o → h'.get? b = some o) → M ∈ ns → (∀ a, a ∈ ns → a ≤ M) → Q (.int M t') { s with heap := h', toks := tk }) : wpAny (model prog w) A (call (.builtin "max") [.ref l]) Q E s := by
  obtain ⟨xs, e⟩ := hi.allInts.items
  have hn : numsOf (intItems xs).toList = ns := by rw [← e]; exact hi.numsOf
  rw [nums_intItems] at hn
  subst hn
  rw [e] at hl
  have hsz : 0 < xs.size := by simpa using hne
  refine max_intTup hh hl hsz fun v h' tk hv hk => ?_
  obtain ⟨t, rfl⟩ := intItems_at hv
  obtain ⟨h1, h2⟩ := argBest_gt (numAt xs) (xs.size - 1)
  refine h h' tk _ t hk ?_ fun a ha => ?_
  · rw [numAt_eq]; exact PySem.getD_mem (by rw [List.length_map, Array.length_toList]; omega)
  · obtain ⟨j, hj, rfl⟩ := mem_getD ha
    rw [List.length_map, Array.length_toList] at hj
    rw [← numAt_eq]; exact h2 j (by omega)
theorem minT_raw (hh : A.handled = none) (hl : s.heap.IsTuple l its.toArray) (hi : IntsAre its ns) (hne : 0 < ns.length)
    (h : ∀ h' tk M t', (∀ b o, s.heap.get? b = some o → h'.get? b = some o) → M ∈ ns → (∀ a, a ∈ ns → M ≤ a) → Q (.int M t') { s with heap := h', toks := tk }) : wpAny (model prog w) A (call (.builtin "min") [.ref l]) Q E s := by
  obtain ⟨xs, e⟩ := hi.allInts.items
  have hn : numsOf (intItems xs).toList = ns := by rw [← e]; exact hi.numsOf
  rw [nums_intItems] at hn
  subst hn
  rw [e] at hl
  have hsz : 0 < xs.size := by simpa using hne
  refine min_intTup hh hl hsz fun v h' tk hv hk => ?_
  obtain ⟨t, rfl⟩ := intItems_at hv
  obtain ⟨h1, h2⟩ := argBest_lt (numAt xs) (xs.size - 1)
  refine h h' tk _ t hk ?_ fun a ha => ?_
  · rw [numAt_eq]; exact PySem.getD_mem (by rw [List.length_map, Array.length_toList]; omega)
  · obtain ⟨j, hj, rfl⟩ := mem_getD ha
    rw [List.length_map, Array.length_toList] at hj
    rw [← numAt_eq]; exact h2 j (by omega)
theorem sumT_raw (hh : A.handled = none) (hl : s.heap.IsTuple l its.toArray) (hi : IntsAre its ns)
    (h : ∀ h' tk t', (∀ b o, s.heap.get? b = some o → h'.get? b = some o) → Q (.int ns.sum t') { s with heap := h', toks := tk }) : wpAny (model prog w) A (call (.builtin "sum") [.ref l]) Q E s := by
  obtain ⟨xs, e⟩ := hi.allInts.items
  have hn : numsOf (intItems xs).toList = ns := by rw [← e]; exact hi.numsOf
  rw [nums_intItems] at hn
  rw [e] at hl
  refine sum_intTup hh hl fun h' tk t' hk => ?_
  have := h h' tk t' hk
  rw [preSum_eq, List.take_of_length_le (by simp), hn]; exact this
end
section
variable {X : Cx}
def rMaxU (K : PySem.W.Frag) : List V → Hp → VK → Prop := fun vs H Q => ∃ (a : Addr) (ns : List Int), vs = [V.ref a] ∧ SqT K H a (ns.map V.int) ∧ 0 < ns.length ∧ ∀ m, m ∈ ns → (∀ y, y ∈ ns → y ≤ m) → Q (.int m) H
def rMinU (K : PySem.W.Frag) : List V → Hp → VK → Prop := fun vs H Q => ∃ (a : Addr) (ns : List Int), vs = [V.ref a] ∧ SqT K H a (ns.map V.int) ∧ 0 < ns.length ∧ ∀ m, m ∈ ns → (∀ y, y ∈ ns → m ≤ y) → Q (.int m) H
def rSumU (K : PySem.W.Frag) : List V → Hp → VK → Prop := fun vs H Q => ∃ (a : Addr) (ns : List Int), vs = [V.ref a] ∧ SqT K H a (ns.map V.int) ∧ Q (.int ns.sum) H
theorem isTup_of {h : Heap} {a : Addr} {xs : Array Value} (t : IsTup h a xs) : h.IsTuple a xs := by
  obtain ⟨o, e, hc, n, d⟩ := t
  exact ⟨o, e, hc, n, d⟩
theorem cr_maxU (hc : X.calm = true) : CallR X (.builtin "max") (rMaxU X.K) := by
  intro pins s σ H vs us Q I r h
  obtain ⟨a, ns, rfl, hs, hne, q⟩ := h
  obtain ⟨its, rv, hl, _⟩ := I.tuple hs
  rw [Vals.ref1 r]
  exact maxT_raw (I.ok.hd hc) (isTup_of hl) rv.ints hne fun h' tk m t' hk h1 h2 => ⟨.int _, H, I.kept hk, ⟨_, rfl⟩, q m h1 h2⟩
theorem cr_minU (hc : X.calm = true) : CallR X (.builtin "min") (rMinU X.K) := by
  intro pins s σ H vs us Q I r h
  obtain ⟨a, ns, rfl, hs, hne, q⟩ := h
  obtain ⟨its, rv, hl, _⟩ := I.tuple hs
  rw [Vals.ref1 r]
  exact minT_raw (I.ok.hd hc) (isTup_of hl) rv.ints hne fun h' tk m t' hk h1 h2 => ⟨.int _, H, I.kept hk, ⟨_, rfl⟩, q m h1 h2⟩
theorem cr_sumU (hc : X.calm = true) : CallR X (.builtin "sum") (rSumU X.K) := by
  intro pins s σ H vs us Q I r h
  obtain ⟨a, ns, rfl, hs, q⟩ := h
  obtain ⟨its, rv, hl, _⟩ := I.tuple hs
  rw [Vals.ref1 r]
  exact sumT_raw (I.ok.hd hc) (isTup_of hl) rv.ints fun h' tk t' hk => ⟨.int _, H, I.kept hk, ⟨_, rfl⟩, q⟩
def gMaxU : GL := fun ds S Q => ∃ xs ns, ds = [.tup xs] ∧ intsOf xs = some ns ∧ 0 < ns.length ∧ ∀ m, m ∈ ns → (∀ y, y ∈ ns → y ≤ m) → Q (.int m) S
def gMinU : GL := fun ds S Q => ∃ xs ns, ds = [.tup xs] ∧ intsOf xs = some ns ∧ 0 < ns.length ∧ ∀ m, m ∈ ns → (∀ y, y ∈ ns → m ≤ y) → Q (.int m) S
def gSumU : GL := fun ds S Q => ∃ xs ns, ds = [.tup xs] ∧ intsOf xs = some ns ∧ Q (.int ns.sum) S
theorem c_maxU (hc : X.calm = true) : CallJ X (.builtin "max") gMaxU := by
  refine ⟨_, cr_maxU hc, fun {μ H S ds vs Q R} o r ⟨xs, ns, e1, e3, h0, q⟩ ha => ?_⟩
  subst e1
  obtain ⟨v, rfl, r1⟩ := rvs_one r
  obtain ⟨a, ws, rfl, h1, h2⟩ := rv_tup.mp r1
  exact ⟨a, ns, rfl, by rw [← intsOf_rv e3 h2]; exact h1.sq, h0, fun m hm hl => ha.here o (q m hm hl) (rv_int.mpr rfl)⟩
theorem c_minU (hc : X.calm = true) : CallJ X (.builtin "min") gMinU := by
  refine ⟨_, cr_minU hc, fun {μ H S ds vs Q R} o r ⟨xs, ns, e1, e3, h0, q⟩ ha => ?_⟩
  subst e1
  obtain ⟨v, rfl, r1⟩ := rvs_one r
  obtain ⟨a, ws, rfl, h1, h2⟩ := rv_tup.mp r1
  exact ⟨a, ns, rfl, by rw [← intsOf_rv e3 h2]; exact h1.sq, h0, fun m hm hl => ha.here o (q m hm hl) (rv_int.mpr rfl)⟩
theorem c_sumU (hc : X.calm = true) : CallJ X (.builtin "sum") gSumU := by
  refine ⟨_, cr_sumU hc, fun {μ H S ds vs Q R} o r ⟨xs, ns, e1, e3, q⟩ ha => ?_⟩
  subst e1
  obtain ⟨v, rfl, r1⟩ := rvs_one r
  obtain ⟨a, ws, rfl, h1, h2⟩ := rv_tup.mp r1
  exact ⟨a, ns, rfl, by rw [← intsOf_rv e3 h2]; exact h1.sq, ha.here o q (rv_int.mpr rfl)⟩
end
end DL
namespace DL
open PySem PySem.Spec L2
open PyProof.Rows hiding St
/-! ## sorted: ints; tuples of ints -/
def sortI (ns : List Int) : List Int := ns.mergeSort (fun a b => decide (a ≤ b))
theorem sortI_perm (ns : List Int) : (sortI ns).Perm ns := List.mergeSort_perm _ _
theorem sortI_sorted (ns : List Int) : (sortI ns).Pairwise (· ≤ ·) := by
  have := List.pairwise_mergeSort (le := fun a b : Int => decide (a ≤ b)) (fun a b c h1 h2 => by simp only [decide_eq_true_eq] at *; omega) (fun a b => by simp only [Bool.or_eq_true, decide_eq_true_eq]; omega) ns
  exact this.imp fun {a b} h => by simpa using h
theorem sortI_uniq {ms ns : List Int} (h1 : ms.Perm ns) (h2 : ms.Pairwise (· ≤ ·)) : ms = sortI ns :=
  List.Perm.eq_of_pairwise (le := fun a b : Int => a ≤ b) (fun a b _ _ p q => Int.le_antisymm p q) h2 (sortI_sorted ns) (h1.trans (sortI_perm ns).symm)
def gSortI : GL := fun ds S Q => ∃ d ns, ds = [d] ∧ rdL S d = some (ns.map D.int) ∧ Q (.rol ((sortI ns).map D.int)) S
def gSortIL : GL := fun ds S Q => ∃ d ns, ds = [d] ∧ rdL S d = some (ns.map D.int) ∧ Q (.loc S.length) (S ++ [.lst ((sortI ns).map D.int)])
/-- the lexicographic order -/
def lexLe (a b : List Int) : Bool := !HT.lexLt b a
theorem lexLe_anti : ∀ {a b : List Int}, HT.lexLt a b = false → HT.lexLt b a = false → a = b
  | [], [], _, _ => rfl
  | [], y :: ys, h, _ => by rw [HT.lexLt_nil_cons] at h; cases h
  | x :: xs, [], _, h => by rw [HT.lexLt_nil_cons] at h; cases h
  | x :: xs, y :: ys, h1, h2 => by
    rw [HT.lexLt_cons] at h1 h2
    by_cases e : x = y
    · subst e
      rw [if_pos rfl] at h1 h2
      rw [lexLe_anti h1 h2]
    · rw [if_neg e] at h1
      rw [if_neg (Ne.symm e)] at h2
      have a := of_decide_eq_false h1
      have b := of_decide_eq_false h2
      omega
def sortT (ks : List (List Int)) : List (List Int) := ks.mergeSort lexLe
theorem sortT_perm (ks : List (List Int)) : (sortT ks).Perm ks := List.mergeSort_perm _ _
theorem sortT_sorted (ks : List (List Int)) : (sortT ks).Pairwise fun a b => HT.lexLt b a = false := by
  have := List.pairwise_mergeSort (le := lexLe) (fun a b c h1 h2 => by
    unfold lexLe at *
    rw [Bool.not_eq_true'] at *
    exact NtL.lex_tr _ _ _ h1 h2) (fun a b => by
    unfold lexLe
    cases e : HT.lexLt b a with
    | false => rfl
    | true => rw [NtL.lex_asym _ _ e]; rfl) ks
  exact this.imp fun {a b} h => by
    unfold lexLe at h
    rwa [Bool.not_eq_true'] at h
theorem sortT_uniq {ms ks : List (List Int)} (h1 : ms.Perm ks) (h2 : ms.Pairwise fun a b => HT.lexLt b a = false) : ms = sortT ks :=
  List.Perm.eq_of_pairwise (le := fun a b => HT.lexLt b a = false) (fun a b _ _ p q => lexLe_anti q p) h2 (sortT_sorted ks) (h1.trans (sortT_perm ks).symm)
theorem code_lexLt {B : Int} : ∀ {n m : List Int}, n.length = m.length → TS.Bd B n → TS.Bd B m → TS.code B n ≤ TS.code B m → HT.lexLt m n = false
  | [], [], _, _, _, _ => HT.lexLt_nil_nil
  | [], y :: ys, h, _, _, _ => by simp at h
  | x :: xs, [], h, _, _, _ => by simp at h
  | x :: xs, y :: ys, h, b1, b2, c => by
    have hl : xs.length = ys.length := by simpa using h
    rw [HT.lexLt_cons]
    by_cases e : y = x
    · subst e
      rw [if_pos rfl]
      refine code_lexLt hl b1.tail b2.tail ?_
      have := (TS.code_same (B := B) (d := y) hl.symm)
      omega
    · rw [if_neg e]
      refine decide_eq_false fun z => ?_
      have := TS.code_lt (B := B) hl.symm b2.tail b1.tail z
      omega
theorem perm_lift {α β : Type} : ∀ {l m : List α}, l.Perm m → ∀ z : List (α × β), m = z.map Prod.fst → ∃ z' : List (α × β), z'.Perm z ∧ z'.map Prod.fst = l := by
  intro l m h
  induction h with
  | nil => intro z e; exact ⟨z, List.Perm.refl _, e.symm⟩
  | cons x _ ih =>
    intro z e
    cases z with
    | nil => cases e
    | cons p z =>
      rw [List.map_cons] at e
      injection e with e1 e2
      obtain ⟨z', p1, p2⟩ := ih z e2
      exact ⟨p :: z', p1.cons p, by rw [List.map_cons, p2, e1]⟩
  | swap x y l =>
    intro z e
    match z, e with
    | p :: q :: z, e =>
      rw [List.map_cons, List.map_cons] at e
      injection e with e1 e2
      injection e2 with e2 e3
      exact ⟨q :: p :: z, List.Perm.swap p q z, by rw [List.map_cons, List.map_cons, e1, e2, e3]⟩
  | trans _ _ ih1 ih2 =>
    intro z e
    obtain ⟨z2, p1, p2⟩ := ih2 z e
    obtain ⟨z3, p3, p4⟩ := ih1 z2 p2.symm
    exact ⟨z3, p3.trans p1, p4⟩
abbrev tupI (k : List Int) : D := .tup (k.map D.int)
def gSortT : GL := fun ds S Q => ∃ d ks n, ds = [d] ∧ rdL S d = some (ks.map tupI) ∧ ks.length < 64 ∧ 1 ≤ n ∧ (∀ k ∈ ks, k.length = n ∧ ∀ i ∈ k, (0 : Int) ≤ i) ∧ Q (.rol ((sortT ks).map tupI)) S
theorem top_one : ∀ k : List Int, ∃ B : Int, ∀ i ∈ k, i < B
  | [] => ⟨0, fun _ h => nomatch h⟩
  | x :: k => by
    obtain ⟨B, h⟩ := top_one k
    refine ⟨max (x + 1) B, fun i hi => ?_⟩
    rcases List.mem_cons.mp hi with rfl | hi
    · omega
    · have := h i hi; omega
theorem top_all : ∀ ks : List (List Int), ∃ B : Int, ∀ k ∈ ks, ∀ i ∈ k, i < B
  | [] => ⟨0, fun _ h => nomatch h⟩
  | x :: ks => by
    obtain ⟨B, h⟩ := top_all ks
    obtain ⟨C, h2⟩ := top_one x
    refine ⟨max B C, fun k hk i hi => ?_⟩
    rcases List.mem_cons.mp hk with rfl | hk
    · have := h2 i hi; omega
    · have := h k hk i hi; omega
theorem bb_sorted : bootBuiltins "sorted" = some (.builtin "sorted") := by decide +kernel
section
variable {X : Cx}
theorem c_sortI : CallJ X (.builtin "sorted") gSortI := by
  refine ⟨_, cr_sortedI, fun {μ H S ds vs Q R} o r q ha => ?_⟩
  obtain ⟨d, ns, rfl, hx, q⟩ := q
  obtain ⟨v, rfl, r1⟩ := rvs_one r
  obtain ⟨a, vs, rfl, hs, rs⟩ := rdL_ok o r1 hx
  have e := rvs_ints_eq rs
  subst e
  refine ⟨a, ns, rfl, hs, fun ns' p h1 h2 hp => ?_⟩
  rw [sortI_uniq h1 h2]
  exact ha.rol o q (rvs_ints _) p hp
theorem c_sortIL : CallJ X (.builtin "sorted") gSortIL := by
  refine ⟨_, cr_sortedI, fun {μ H S ds vs Q R} o r q ha => ?_⟩
  obtain ⟨d, ns, rfl, hx, q⟩ := q
  obtain ⟨v, rfl, r1⟩ := rvs_one r
  obtain ⟨a, vs, rfl, hs, rs⟩ := rdL_ok o r1 hx
  have e := rvs_ints_eq rs
  subst e
  refine ⟨a, ns, rfl, hs, fun ns' p h1 h2 hp => ?_⟩
  rw [sortI_uniq h1 h2]
  exact ha.lst o q (rvs_ints _) p hp
theorem cr_sortAny : CallR X (.builtin "sorted") (fun vs H Q => ∃ d B, 1 ≤ d ∧ rSortU X.K d B vs H Q) :=
  fun pins s σ H vs us Q I r ⟨_, _, hd, h⟩ => cr_sortT hd pins s σ H vs us Q I r h
theorem c_sortT : CallJ X (.builtin "sorted") gSortT := by
  refine ⟨_, cr_sortAny, fun {μ H S ds vs Q R} o r q ha => ?_⟩
  obtain ⟨d, ks, n, rfl, hx, h64, h1, hk, q⟩ := q
  obtain ⟨v, rfl, r1⟩ := rvs_one r
  obtain ⟨a, vs, rfl, hs, rs⟩ := rdL_ok o r1 hx
  obtain ⟨B, hB⟩ := top_all ks
  have hbd : ∀ k ∈ ks, TS.Bd B k := fun k m i hi => ⟨(hk k m).2 i hi, hB k m i hi⟩
  have hl : vs.length = ks.length := by rw [rs.length, List.length_map]
  -- pairs
  have hz : ∀ {vs : List V} {ks : List (List Int)}, RVs X.K H μ vs (ks.map tupI) → ∀ p ∈ vs.zip ks, RV X.K H μ p.1 (tupI p.2) ∧ p.2 ∈ ks := by
    intro vs ks
    induction ks generalizing vs with
    | nil => intro _ p hp; simp at hp
    | cons k ks ih =>
      intro r p hp
      rw [List.map_cons, RVs] at r
      obtain ⟨v, us, rfl, r1, r2⟩ := r
      rw [List.zip_cons_cons] at hp
      rcases List.mem_cons.mp hp with rfl | hp
      · exact ⟨r1, List.mem_cons_self⟩
      · exact ⟨(ih r2 p hp).1, List.mem_cons_of_mem _ (ih r2 p hp).2⟩
  have hz := hz rs
  have tup : ∀ {v : V} {k : List Int}, RV X.K H μ v (tupI k) → TupI X.K H v k := fun r => by
    obtain ⟨a, us, rfl, h1, r2⟩ := rv_tup.mp r
    rw [rvs_ints_eq r2] at h1
    exact ⟨a, rfl, h1.sq⟩
  have e1 : (vs.zip ks).map Prod.fst = vs := by rw [List.map_fst_zip (by omega)]
  have e2 : (vs.zip ks).map Prod.snd = ks := by rw [List.map_snd_zip (by omega)]
  refine ⟨n, B, h1, a, vs, rfl, hs, by omega, fun x hx => ?_, fun ys p hp hs hnew => ?_⟩
  · rw [← e1] at hx
    obtain ⟨z, hz1, rfl⟩ := List.mem_map.mp hx
    obtain ⟨r, m⟩ := hz z hz1
    exact ⟨z.2, tup r, (hk _ m).1, hbd _ m⟩
  · obtain ⟨z, p1, p2⟩ := perm_lift hp (vs.zip ks) e1.symm
    have hz2 : ∀ p ∈ z, RV X.K H μ p.1 (tupI p.2) ∧ p.2 ∈ ks := fun p hp => hz p (p1.mem_iff.mp hp)
    have e3 : z.map Prod.snd = sortT ks := by
      refine sortT_uniq ?_ ?_
      · have := p1.map Prod.snd
        rwa [e2] at this
      · rw [← p2] at hs
        rw [List.pairwise_map] at hs ⊢
        refine hs.imp_of_mem fun {a b} ha hb h => ?_
        obtain ⟨ra, ma⟩ := hz2 a ha
        obtain ⟨rb, mb⟩ := hz2 b hb
        exact code_lexLt ((hk _ ma).1.trans (hk _ mb).1.symm) (hbd _ ma) (hbd _ mb) (h _ _ (tup ra) (tup rb))
    refine ha.rol o q ?_ p hnew
    rw [← e3, ← p2, List.map_map]
    clear p1 p2 e3 hs
    induction z with
    | nil => exact RVs.nil
    | cons a z ih => exact RVs.cons (hz2 a List.mem_cons_self).1 (ih fun p hp => hz2 p (List.mem_cons_of_mem _ hp))
end
end DL
namespace DL
open PySem PySem.Spec L2
open PyProof.Rows hiding St
/-! ## set(xs) of ints, sorted at once; its length -/
section
variable {P : Program} {w : World} {A : Around} {E : Value → Shared → Prop} {s : Shared}
abbrev newSet (w : World) : Obj := { cls := .type "set", dict := none, data := .set #[] 0 (.fresh 0 0 (!w.params.followText "set-order")) }
/-- what is held of a set that was made -/
abbrev MadeSet (w : World) (ns : List Int) (s : Shared) (r : Value) (s₂ : Shared) : Prop := r = .none ∧ ∃ h' tk c, s₂ = { s with heap := h', toks := tk } ∧ SetR w h' s.heap.objs.size (fun j => decide (j ∈ ns)) c ∧ c ≤ ns.length ∧ ∀ b o, s.heap.get? b = some o → h'.get? b = some o
set_option maxHeartbeats 8000000 in
theorem call_set_listI {l : Addr} {items : Array Value} (ns : List Int) {Q : Value → Shared → Prop} (hh : A.handled = none) (hl : s.heap.IsList l items) (hit : IntsAre items.toList ns) (hb : ns.length + 1 < scanBound)
    (h : ∀ (h' : Heap) (tk c : Nat), SetR w h' s.heap.objs.size (fun j => decide (j ∈ ns)) c → c ≤ ns.length → (∀ b o, s.heap.get? b = some o → h'.get? b = some o) → Q (.ref s.heap.objs.size) { s with heap := h', toks := tk }) : wpAny (model P w) A (call (.type "set") [.ref l]) Q E s := by
  have hsz : items.size = ns.length := by have q := IntsAre.length hit; rwa [Array.length_toList] at q
  obtain ⟨c0, t0, mro⟩ := PySem.F.called_set.mro; have made := PySem.F.called_set.made; have sub := PySem.F.called_set.sub
  refine wpAny_call (codeAny_of_tree (show wpAny _ _ (callAny (.type "set") _) _ _ _ from wpAny_pure ⟨Code.quiet_builtin _ (by decide +kernel), codeAny_builtin PySem.F.entry_type_call ?_⟩))
  rw [Around.under_plain (weight_type_call_type "set" [.ref l] []) rfl]; have e1 := PySem.F.called_set.notType; have e2 := PySem.F.called_set.canCreate; have e3 := PySem.F.typeCall_set_1 (.ref l)
  repeat (any_goals (first | assumption | wp_step))
  refine codeAny_mono (code_set_led1 (.ref l) (E := E) (Q₁ := fun o s₁ => o = .ref s.heap.objs.size ∧ s₁ = { s with heap := s.heap.push (newSet w) }) ⟨rfl, rfl⟩) fun r s₁ hr => ?_
  cases r with
  | error e => exact hr
  | ok fl => cases fl with
    | ret ob =>
      obtain ⟨rfl, rfl⟩ := hr
      have gS : (s.heap.push (newSet w)).get? s.heap.objs.size = some (newSet w) := Heap.get?_push_size _ rfl
      have hT : Shared.TypeIs { s with heap := s.heap.push (newSet w) } (.ref s.heap.objs.size) "set" := ⟨_, gS, rfl⟩
      have i1 := PySem.F.called_set.init.lookup; have i2 := PySem.F.called_set.init.bind (.ref s.heap.objs.size)
      repeat (any_goals (first | assumption | wp_step))
      refine codeAny_mono (codeAny_call_builtin (R := wants (MadeSet w ns s) E) PySem.F.called_set.init.plain PySem.F.entry_set_init (check_set_init_1 hT ?_)) fun r₂ s₂ hr₂ => ?_
      · obtain ⟨ol, gl, cl, nl, dl⟩ := hl; obtain ⟨oc, od, oa, os⟩ := ol
        simp only at cl dl; subst cl; subst dl
        have gl' : (s.heap.push (newSet w)).get? l = some { cls := .type "list", dict := od, data := .seq items nl, slots := os } := Heap.get?_push_of_some _ gl
        have s1 := PySem.F.sub_list_set; have s2 := PySem.F.sub_list_frozenset; have nd : (Value.type "list" == Value.type "dict") = false := by decide
        have pl : (s.heap.push (newSet w)).IsList l items := ⟨_, gl', rfl, nl, rfl⟩
        unfold Builtin.«set.__init__» noKeywords Builtin.Frozenset.updateFrom; generalize iP : pyIter = PI; wp_walk; subst iP
        refine wpAny_pyIter_list pl (wpAny_bind (wpAny_runValue ?_))
        have lS : l < s.heap.objs.size := Heap.lt_size gl
        have h3 : A.in1.in1.in1.handled = none := by simp [hh]
        have zs : (s.heap.push (newSet w)).objs.size = s.heap.objs.size + 1 := Heap.size_push ..
        have ne : l ≠ (s.heap.push (newSet w)).objs.size := by rw [zs]; exact fun z => absurd lS (by rw [z]; exact Nat.not_lt.mpr (Nat.le_succ _))
        have nf : s.heap.objs.size ∉ [(s.heap.push (newSet w)).objs.size, l] := by rw [zs]; simp only [List.mem_cons, List.not_mem_nil, or_false, not_or]; exact ⟨Nat.ne_of_lt (Nat.lt_succ_self _), fun z => absurd lS (by rw [z]; exact Nat.lt_irrefl _)⟩
        have vl : ∀ (i : Nat) (v : Value), items[i]? = some v → ∃ k t, ns[i]? = some k ∧ v = .int k t := fun i v hv => by
          have hi : i < ns.length := by rw [← hsz]; exact (Array.getElem?_eq_some_iff.mp hv).1
          obtain ⟨t, e⟩ := PyProof.Rows.IntsAre.int_at hit i v (by rwa [Array.getElem?_toList])
          exact ⟨ns[i], t, List.getElem?_eq_getElem hi, by rw [e, List.getD_eq_getElem?_getD, List.getElem?_eq_getElem hi]; rfl⟩
        refine set_update_ints ((Walks.list h3 _ l ne items).toS) s.heap.objs.size nf ns hsz hb vl (items.size - 0) 0 _ (by omega) (Nat.zero_le _) ⟨⟨_, Heap.get?_push_size _ rfl, rfl, rfl⟩, (pl.push _)⟩ ?qst ?qen
        case qst => exact ⟨0, Nat.le_refl 0, setR_new_at (Heap.get?_push_of_some _ gS)⟩
        case qen =>
          intro s' c' mv hc' hS'; obtain ⟨h', g2, d', tk', os'⟩ := s'
          have eg : g2 = s.gens := mv.gens; have ed : d' = s.drawn := mv.drawn; have eo : os' = s.os := mv.os
          subst eg; subst ed; subst eo
          refine wpAny_pure (show wpAny _ _ (ret Value.none) _ _ _ from ?_)
          refine wpAny_pure ⟨rfl, h', tk', c', rfl, hS', by rwa [hsz] at hc', fun b o e => ?_⟩
          have b0 : b < s.heap.objs.size := Heap.lt_size e
          refine mv.heap b o ?_ (Heap.get?_push_of_some _ (Heap.get?_push_of_some _ e))
          rw [zs]; simp only [List.mem_cons, List.not_mem_nil, or_false, not_or]; exact ⟨fun z => absurd b0 (by rw [z]; exact Nat.lt_irrefl _), fun z => absurd b0 (by rw [z]; exact Nat.not_lt.mpr (Nat.le_succ _))⟩
      · cases r₂ with
        | error e => exact hr₂
        | ok fl₂ => cases fl₂ with
          | ret r =>
            obtain ⟨rfl, h', tk, c', rfl, hS', hc', hk'⟩ := hr₂
            repeat (any_goals (first | assumption | wp_step))
            exact h _ _ _ hS' hc' hk'
          | _ => exact hr₂.elim
    | _ => exact hr.elim
end
def rSetI (K : PySem.W.Frag) (w : World) : List V → Hp → VK → Prop := fun xs H Q => ∃ (l : Addr) (ns : List Int), xs = [V.ref l] ∧ (SqL K H l (ns.map V.int) ∨ SqT K H l (ns.map V.int)) ∧ ns.length ≤ 1000 ∧
  ∀ (a : Addr) (T : Int → Bool) (c : Nat), H a = none → (∀ k, T k = true ↔ k ∈ ns) → c ≤ ns.length → Q (.ref a) (upd H a (SetO w a T c))
def wSortSet (we : WE) : WE := fun ρ S Q => we ρ S fun d S1 => ∃ ns : List Int, (rdL S1 d = some (ns.map D.int) ∨ d = .tup (ns.map D.int)) ∧ ns.length < 64 ∧ ∀ ms : List Int, ms.Pairwise (· < ·) → (∀ k, k ∈ ms ↔ k ∈ ns) → Q (.rol (ms.map D.int)) S1
theorem bt_set : bootBuiltins "set" = some (.type "set") := by decide +kernel
section
variable {X : Cx} {e : Expr} {we : WE} {p p2 q pos : Pos}
theorem cr_setI (hc : X.calm = true) : CallR X (.type "set") (rSetI X.K X.w) := by
  intro pins s σ H xs us Q I r h
  obtain ⟨l, ns, rfl, hl, hn, k⟩ := h
  rw [Vals.ref1 r]
  have new : H s.heap.objs.size = none := I.hok.fresh (Nat.le_refl _)
  have made : ∀ (h' : Heap) (tk c : Nat), SetR X.w h' s.heap.objs.size (fun j => decide (j ∈ ns)) c → c ≤ ns.length → (∀ b o, s.heap.get? b = some o → h'.get? b = some o) → ∃ x H', Inv X pins σ H' { s with heap := h', toks := tk } ∧ RelV x (.ref s.heap.objs.size) ∧ Q x H' := fun h' tk c R1 hcn kk =>
    ⟨.ref _, upd H s.heap.objs.size (SetO X.w s.heap.objs.size (fun j => decide (j ∈ ns)) c), I.laid (t' := tk) kk (Nat.le_refl _) (setO_new R1), rfl, k _ _ c new (fun j => decide_eq_true_iff) hcn⟩
  rcases hl with hl | hl
  · obtain ⟨its, rv, pl, _⟩ := I.list hl
    exact call_set_listI ns (I.ok.hd hc) pl.isList (ints_of_vals rv) (by unfold scanBound; omega) made
  · obtain ⟨its, rv, pt, _⟩ := I.tuple hl
    exact call_set_tupI ns (I.ok.hd hc) (show s.heap.IsTuple l its.toArray from pt) (ints_of_vals rv) (by unfold scanBound; omega) made
theorem je_sortSet (hc : X.calm = true) (hg : Gl X "sorted") (hm : X.mg "sorted" = none) (hg2 : Gl X "set") (hm2 : X.mg "set" = none) (he : JE X e we) (hs : starEach [e] X.env = (false, eval e X.env) :: starEach [] X.env := by rfl) : JE X (.Call (.Name "sorted" p) [.Call (.Name "set" p2) [e] [] q] [] pos) (wSortSet we) := by
  refine PE.imp (pe_callB (cr_sortedSet hc) hg hm bb_sorted (pa_cons (pe_callTy (cr_setI hc) hg2 hm2 bt_set (pa_cons he pa_nil hs) (he := hs)) pa_nil)) fun σ H R ⟨μ, ρ, S, Q, hs, ho, hw, ha⟩ => ?_
  refine ⟨μ, ρ, S, _, hs, ho, hw, fun d S1 ⟨ns, hx, hn, hq⟩ v H1 μ1 e1 o1 r1 => ?_⟩
  have main : ∀ l, v = .ref l → (SqL X.K H1 l (ns.map V.int) ∨ SqT X.K H1 l (ns.map V.int)) → rSetI X.K X.w [v] H1 fun x H2 => rSortedSet X.w [x] H2 R := by
    rintro l rfl hl
    refine ⟨l, ns, rfl, hl, by omega, fun a T c new hT hcn => ⟨a, T, c, rfl, upd_same, by omega, fun ms p h1 h2 h3 hp => ?_⟩⟩
    have ex := Ext.alloc (μ := μ1) (o := SetO X.w a T c) new
    exact (ha.ext (e1.trans ex)).rol (o1.alloc new) (hq ms h1 fun k => (h2 k).trans (hT k)) (rvs_ints ms) p hp
  rcases hx with hx | rfl
  · obtain ⟨l, vs, rfl, hl, rs⟩ := rdL_ok o1 r1 hx
    rw [rvs_ints_eq rs] at hl
    exact main l rfl (.inl hl)
  · obtain ⟨l, vs, rfl, ht, rs⟩ := rv_tup.mp r1
    rw [rvs_ints_eq rs] at ht
    exact main l rfl (.inr ht.sq)
end
/-- ascending lists of the same numbers are one -/
theorem asc_eq : ∀ {ms ns : List Int}, ms.Pairwise (· < ·) → ns.Pairwise (· < ·) → (∀ k, k ∈ ms ↔ k ∈ ns) → ms = ns
  | [], [], _, _, _ => rfl
  | [], n :: ns, _, _, h => absurd ((h n).mpr List.mem_cons_self) (by simp)
  | m :: ms, [], _, _, h => absurd ((h m).mp List.mem_cons_self) (by simp)
  | m :: ms, n :: ns, h1, h2, h => by
    obtain ⟨a1, a2⟩ := List.pairwise_cons.mp h1
    obtain ⟨b1, b2⟩ := List.pairwise_cons.mp h2
    have e : m = n := by
      rcases List.mem_cons.mp ((h m).mp List.mem_cons_self) with e | x
      · exact e
      · rcases List.mem_cons.mp ((h n).mpr List.mem_cons_self) with e | y
        · exact e.symm
        · have := b1 m x; have := a1 n y; omega
    subst e
    rw [asc_eq a2 b2 fun k => ?_]
    constructor
    · intro hk
      rcases List.mem_cons.mp ((h k).mp (List.mem_cons_of_mem _ hk)) with e | x
      · have := a1 k hk; omega
      · exact x
    · intro hk
      rcases List.mem_cons.mp ((h k).mpr (List.mem_cons_of_mem _ hk)) with e | x
      · have := b1 k hk; omega
      · exact x
end DL
namespace DL
open PySem PySem.Spec L2
open PyProof.Rows hiding St
/-! ## instances of the module's classes -/
theorem ClsAt.same {K : PySem.W.Frag} {C : Str} {A B : Addr} (h : ClsAt K C A) (k : ClsAt K C B) : A = B := by
  have e := h.symm.trans k
  injection e with e; injection e with e; injection e
/-- a class and the names that its instances may have -/
structure ClsOk (K : PySem.W.Frag) (C : Str) (fs : List Str) : Prop where
  ex : ∃ A, ClsAt K C A ∧ Cls K A ∧ ∀ f ∈ fs, NoAttr K A f
/-- a method of a class, as it is called -/
structure Mth (P : Program) (w : World) (K : PySem.W.Frag) (mg : Str → Option Value) (base : Heap) (k : Nat) (C m : Str) (ps : List Str) (c : Con) : Prop where
  ex : ∃ (A f : Addr) (fd : FuncData), ClsAt K C A ∧ Cls K A ∧ Meth K A m f ∧ FnG P w K mg base k f fd ps c ∧ Binds K fd ps []
/-- how a class makes instances -/
structure Mke (P : Program) (w : World) (K : PySem.W.Frag) (mg : Str → Option Value) (base : Heap) (k : Nat) (C : Str) (ps : List Str) (c : Con) : Prop where
  ex : ∃ (A f : Addr) (fd : FuncData), ClsAt K C A ∧ mg C = some (.ref A) ∧ Mk K A f ∧ FnG P w K mg base k f fd ps c ∧ Binds K fd ps []
def putFD (f : Str) (d : D) : List (Str × D) → List (Str × D)
  | [] => [(f, d)]
  | (g, x) :: r => if g = f then (g, d) :: r else (g, x) :: putFD f d r
section
variable {K : PySem.W.Frag} {H : Hp} {μ : Mu} {S : Sto}
theorem PvOk.len {α : Type} {us : List (α × V)} {kvs : List (α × D)} (h : PvOk K H μ us kvs) : us.length = kvs.length := Paired.length h
theorem PvOk.look : ∀ {us : List (Str × V)} {fs : List (Str × D)}, Paired (fun (p : Str × V) (q : Str × D) => p.1 = q.1 ∧ RV K H μ p.2 q.2) us fs → ∀ {f : Str} {d : D}, fs.lookup f = some d → ∃ v, us.lookup f = some v ∧ RV K H μ v d
  | _, _, .nil, f, d, h => by cases h
  | (g, v) :: us, (g', d') :: fs, .cons z t, f, d, h => by
    obtain ⟨z1, z2⟩ := z
    have z1 : g = g' := z1
    subst z1
    rw [List.lookup_cons] at h ⊢
    cases e : (f == g) with
    | true => rw [e] at h; cases h; exact ⟨v, rfl, z2⟩
    | false => rw [e] at h; exact PvOk.look t h
theorem PvOk.no : ∀ {us : List (Str × V)} {fs : List (Str × D)}, Paired (fun (p : Str × V) (q : Str × D) => p.1 = q.1 ∧ RV K H μ p.2 q.2) us fs → ∀ {f : Str}, fs.lookup f = none → us.lookup f = none
  | _, _, .nil, f, h => rfl
  | (g, v) :: us, (g', d') :: fs, .cons z t, f, h => by
    obtain ⟨z1, z2⟩ := z
    have z1 : g = g' := z1
    subst z1
    rw [List.lookup_cons] at h ⊢
    cases e : (f == g) with
    | true => rw [e] at h; cases h
    | false => rw [e] at h; exact PvOk.no t h
theorem PvOk.put {v : V} {d : D} (r : RV K H μ v d) {f : Str} : ∀ {us : List (Str × V)} {fs : List (Str × D)}, Paired (fun (p : Str × V) (q : Str × D) => p.1 = q.1 ∧ RV K H μ p.2 q.2) us fs → Paired (fun (p : Str × V) (q : Str × D) => p.1 = q.1 ∧ RV K H μ p.2 q.2) (putF f v us) (putFD f d fs)
  | _, _, .nil => .cons ⟨rfl, r⟩ .nil
  | (g, x) :: us, (g', d') :: fs, .cons z t => by
    obtain ⟨z1, z2⟩ := z
    have z1 : g = g' := z1
    subst z1
    rw [putF, putFD]
    by_cases e : g = f
    · rw [if_pos e, if_pos e]; exact .cons ⟨rfl, r⟩ t
    · rw [if_neg e, if_neg e]; exact .cons ⟨rfl, z2⟩ (PvOk.put r t)
theorem ins_ok {n : Nat} {C : Str} {fs : List (Str × D)} {v : V} (o : StoOk K H μ S) (r : RV K H μ v (.loc n)) (h : S[n]? = some (.ins C fs)) : ∃ a us A dx, v = .ref a ∧ μ.lo[n]? = some a ∧ H a = some (.ins A dx us) ∧ ClsAt K C A ∧ PvOk K H μ us fs := by
  obtain ⟨a, e, q1⟩ := rv_loc.mp r
  obtain ⟨us, A, dx, z1, z2, z3⟩ := o.addr h q1
  exact ⟨a, us, A, dx, e, q1, z1, z2, z3⟩
end
def wFld (C f : Str) (wo : WE) : WE := fun ρ S Q => wo ρ S fun x S1 => ∃ n fs d, x = .loc n ∧ S1[n]? = some (.ins C fs) ∧ fs.lookup f = some d ∧ Q d S1
def sFldS (C f : Str) (wv wo : WE) : WS := fun E ρ S => wv ρ S fun d S1 => wo ρ S1 fun x S2 => ∃ n fs, x = .loc n ∧ S2[n]? = some (.ins C fs) ∧ fs.length < 1000 ∧ E.nx ρ (S2.set n (.ins C (putFD f d fs)))
def sFldA (C f : Str) (g : G2) (wo wv : WE) : WS := fun E ρ S => wo ρ S fun x S1 => ∃ n fs v, x = .loc n ∧ S1[n]? = some (.ins C fs) ∧ fs.lookup f = some v ∧ wv ρ S1 fun y S2 => g v y S2 fun z S3 => ∃ fs', S3[n]? = some (.ins C fs') ∧ fs'.length < 1000 ∧ E.nx ρ (S3.set n (.ins C (putFD f z fs')))
def wMeth (C m : Str) (c : Con) (wo : WE) (wl : WA) : WE := fun ρ S Q => wo ρ S fun x S1 => ∃ n fs, x = .loc n ∧ S1[n]? = some (.ins C fs) ∧ fs.lookup m = none ∧ wl ρ S1 fun ds S2 => c (x :: ds) S2 Q
def wMake (C : Str) (c : Con) (wl : WA) : WE := fun ρ S Q => wl ρ S fun ds S1 => c (.loc S1.length :: ds) (S1 ++ [.ins C []]) fun v S2 => v = .non ∧ Q (.loc S1.length) S2
/-- an augmented operator on two values, for an attribute -/
structure IpF (X : Cx) (op : Operator) (g : G2) : Prop where
  ex : ∃ r, InOp X op r ∧ Op2 X.K r g
theorem ipf_add {X : Cx} : IpF X .Add (gI0 fun i j => .int (i + j)) := by
  refine ⟨_, in_add, fun {μ H S x y v u Q R} o rx ry q ha => ?_⟩
  cases x with
  | int i =>
    cases y with
    | int j => exact ⟨i, j, rv_int.mp rx, rv_int.mp ry, ha.here o q (rv_int.mpr rfl)⟩
    | _ => exact q.elim
  | _ => cases y <;> exact q.elim
theorem ipf_sub {X : Cx} : IpF X .Sub (gI0 fun i j => .int (i - j)) := by
  refine ⟨_, in_sub, fun {μ H S x y v u Q R} o rx ry q ha => ?_⟩
  cases x with
  | int i =>
    cases y with
    | int j => exact ⟨i, j, rv_int.mp rx, rv_int.mp ry, ha.here o q (rv_int.mpr rfl)⟩
    | _ => exact q.elim
  | _ => cases y <;> exact q.elim
section
variable {X : Cx} {o e value : Expr} {es : List Expr} {C f m x : Str} {as ps : List Str} {wo wv : WE} {wl : WA} {pos pos' apos p : Pos} {c : Con} {k : Nat}
theorem je_fld (h : ClsOk X.K C as) (ho : JE X o wo) (hf : f ∈ as := by decide) (hb : attributeBase o f X.env (eval o X.env) = eval o X.env := by rfl) : JE X (.Attribute o f pos) (wFld C f wo) := by
  obtain ⟨A, a1, a2, a3⟩ := h.ex
  refine PE.imp (pe_fld ho hb) fun σ H R ⟨μ, ρ, S, Q, hs, ho, hw, ha⟩ => ⟨μ, ρ, S, _, hs, ho, hw, fun x S1 ⟨n, fs, d, ex, hc, hl, q⟩ v H1 μ1 e1 o1 r1 => ?_⟩
  subst ex
  obtain ⟨a, us, B, dx, rfl, q1, q2, q3, q4⟩ := ins_ok o1 r1 hc
  cases a1.same q3
  obtain ⟨u, l1, l2⟩ := PvOk.look q4 hl
  exact ⟨a, A, dx, us, u, rfl, q2, a2, a3 f hf, l1, ha _ _ q _ _ _ e1 o1 l2⟩
theorem js_fld (h : ClsOk X.K C as) (ho : JE X o wo) (hv : JE X value wv) (hf : f ∈ as := by decide) (hs : swapsWith value (some (.Attribute o f pos')) pos.line X.env = pure false := by rfl) : JS X (.Assign [.Attribute o f pos'] value pos) (sFldS C f wv wo) := by
  obtain ⟨A, a1, a2, a3⟩ := h.ex
  refine PS.imp (ps_fld ho hv hs) fun R σ H ⟨μ, ρ, S, E, hs, ho, hw, ha⟩ => ⟨μ, ρ, S, _, hs, ho, hw, fun d S1 q v H1 μ1 e1 o1 r1 => ⟨μ1, ρ, S1, _, hs.ext e1, o1, q, fun x S2 ⟨n, fs, ex, hc, hl, q2⟩ u H2 μ2 e2 o2 r2 => ?_⟩⟩
  subst ex
  obtain ⟨a, us, B, dx, rfl, z1, z2, z3, z4⟩ := ins_ok o2 r2 hc
  cases a1.same z3
  refine ⟨a, A, dx, us, rfl, z2, a2, a3 f hf, by rw [z4.len]; exact hl, ?_⟩
  have ew := Ext.write (H := H2) (o := HO.ins A dx (putF f v us)) (List.mem_of_getElem? z1)
  have pv : PvOk X.K H2 μ2 (putF f v us) (putFD f d fs) := PvOk.put (RV.ext e2 d r1) z4
  exact ha.nx _ _ q2 _ _ _ ((e1.trans e2).trans ew) ((hs.ext (e1.trans e2)).ext ew) (o2.write z1 ⟨_, A, dx, upd_same, a1, pv.ext ew⟩)
theorem js_fldA {op : Operator} {g : G2} {tpos : Pos} (h : ClsOk X.K C as) (hop : IpF X op g) (ho : JE X o wo) (hv : JE X value wv) (hf : f ∈ as := by decide) : JS X (.AugAssign (.Attribute o f tpos) op value pos) (sFldA C f g wo wv) := by
  obtain ⟨A, a1, a2, a3⟩ := h.ex
  obtain ⟨r, h1, h2⟩ := hop.ex
  refine PS.imp (ps_fldaug ho hv h1) fun R σ H ⟨μ, ρ, S, E, hs, ho, hw, ha⟩ => ⟨μ, ρ, S, _, hs, ho, hw, fun x S1 ⟨n, fs, d, ex, hc, hl, q⟩ v H1 μ1 e1 o1 r1 => ?_⟩
  subst ex
  obtain ⟨a, us, B, dx, rfl, q1, q2, q3, q4⟩ := ins_ok o1 r1 hc
  cases a1.same q3
  obtain ⟨u, l1, l2⟩ := PvOk.look q4 hl
  refine ⟨a, A, dx, us, u, rfl, q2, a2, a3 f hf, l1, μ1, ρ, S1, _, hs.ext e1, o1, q, fun y S2 k2 w H2 μ2 e2 o2 r2 => ?_⟩
  refine h2 o2 (RV.ext e2 _ l2) r2 k2 fun z S3 ⟨fs', hc', hl', k3⟩ t H3 μ3 e3 o3 r3 => ?_
  obtain ⟨a', us', B', dx', e', z1, z2, z3, z4⟩ := ins_ok o3 (RV.ext (e2.trans e3) _ r1) hc'
  cases e'
  cases a1.same z3
  refine ⟨dx', us', z2, by rw [z4.len]; exact hl', ?_⟩
  have ew := Ext.write (H := H3) (o := HO.ins A dx' (putF f t us')) (List.mem_of_getElem? z1)
  have pv : PvOk X.K H3 μ3 (putF f t us') (putFD f z fs') := PvOk.put r3 z4
  exact ha.nx _ _ k3 _ _ _ (((e1.trans e2).trans e3).trans ew) ((hs.ext ((e1.trans e2).trans e3)).ext ew) (o3.write z1 ⟨_, A, dx', upd_same, a1, pv.ext ew⟩)
theorem je_meth {pl : Sem Bool} (M : Mth X.prog X.w X.K X.mg X.base k C m ps c) (hr : Room k X.A) (hu : X.A.guards = some []) (ho : JE X o wo) (ha : JA X (e :: es) wl)
    (hst : starEach (e :: es) X.env = (false, eval e X.env) :: starEach es X.env := by rfl) (hpl : (backTo pos (starEach es X.env)).any (·.1) = false := by rfl)
    (ht : eval (.Call (.Attribute o m apos) (e :: es) [] pos) X.env = (do
      let ov ← eval o X.env
      standAt apos.atName
      let (f, first) ← holding [ov] (getMethod ov m pl)
      callWith pos f first (backTo pos (starEach (e :: es) X.env)) (backToKw pos (keywordEach [] X.env))) := by rfl) : JE X (.Call (.Attribute o m apos) (e :: es) [] pos) (wMeth C m c wo wl) := by
  obtain ⟨A, f, fd, a1, a2, a3, F, hb⟩ := M.ex
  refine ⟨fun pins s σ H R I ⟨μ, ρ, S, Q, hs, hso, hw, hq⟩ => ?_⟩
  refine PySem.W.methodCall_KW (pl := pl) (thn (ho.run pins s σ H (fun v H1 => ∃ μ1 S1 n fs, Ext μ μ1 H H1 ∧ StoOk X.K H1 μ1 S1 ∧ RV X.K H1 μ1 v (.loc n) ∧ S1[n]? = some (.ins C fs) ∧ fs.lookup m = none ∧ wl ρ S1 fun ds S2 => c (.loc n :: ds) S2 Q) I
    ⟨μ, ρ, S, _, hs, hso, hw, fun x S1 ⟨n, fs, ex, q1, q2, q3⟩ v H1 μ1 e1 o1 r1 => ⟨μ1, S1, n, fs, e1, o1, by rw [← ex]; exact r1, q1, q2, by rw [ex] at q3; exact q3⟩⟩) fun u s1 ⟨v, H1, I1, rx, μ1, S1, n, fs, e1, o1, r1, hc, hl, q⟩ => ?_) ht
  obtain ⟨a, us, B, dx, rfl, z1, z2, z3, z4⟩ := ins_ok o1 r1 hc
  cases a1.same z3
  obtain rfl : u = Value.ref a := rx
  refine getmeth_ok I1 z2 a2 a3 (PvOk.no z4 hl) ?_
  refine PySem.W.callWith_K (first := [.ref a]) (h₀ := X.base) I.ok.mod.kin a3.kp (thn (ha.run pos pins s1 σ H1 (fun vs H2 => ∃ μ2 ds S2, Ext μ1 μ2 H1 H2 ∧ StoOk X.K H2 μ2 S2 ∧ RVs X.K H2 μ2 vs ds ∧ c (.loc n :: ds) S2 Q) I1
    ⟨μ1, ρ, S1, _, hs.ext e1, o1, q, fun ds S2 q2 vs H2 μ2 e2 o2 r2 => ⟨μ2, ds, S2, e2, o2, r2, q2⟩⟩) fun ws s2 ⟨vs, H2, I2, r, μ2, ds, S2, e2, o2, r2, q2⟩ => ⟨I2.kIn, ?_⟩) hst hpl
  have rr : RVs X.K H2 μ2 (V.ref a :: vs) (.loc n :: ds) := RVs.cons (RV.ext e2 _ r1) r2
  have rv : Vals (V.ref a :: vs) (Value.ref a :: ws) := .cons rfl r
  have hl2 : ((Value.ref a :: ws) ++ []).length = ps.length := by rw [List.append_nil, ← rv.length, rr.length]; exact F.len _ _ _ q2
  have b := hb s2 (Value.ref a :: ws) I2.kIn hl2
  rw [List.append_nil] at b
  refine wpAny_call (codeAny_mono (fng_run F hr hu I2 b rv rr o2 q2 (hq.ext (e1.trans e2))) fun r s' z => ?_)
  match r, z with
  | .ok (.ret u), z => exact z
theorem je_meth0 {pl : Sem Bool} (M : Mth X.prog X.w X.K X.mg X.base k C m ps c) (hr : Room k X.A) (hu : X.A.guards = some []) (ho : JE X o wo)
    (ht : eval (.Call (.Attribute o m apos) [] [] pos) X.env = (do
      let ov ← eval o X.env
      standAt apos.atName
      let (f, first) ← holding [ov] (getMethod ov m pl)
      callWith pos f first (backTo pos (starEach [] X.env)) (backToKw pos (keywordEach [] X.env))) := by rfl) : JE X (.Call (.Attribute o m apos) [] [] pos) (wMeth C m c wo wNil) := by
  obtain ⟨A, f, fd, a1, a2, a3, F, hb⟩ := M.ex
  refine ⟨fun pins s σ H R I ⟨μ, ρ, S, Q, hs, hso, hw, hq⟩ => ?_⟩
  refine PySem.W.methodCall_KW (pl := pl) (thn (ho.run pins s σ H (fun v H1 => ∃ μ1 S1 n fs, Ext μ μ1 H H1 ∧ StoOk X.K H1 μ1 S1 ∧ RV X.K H1 μ1 v (.loc n) ∧ S1[n]? = some (.ins C fs) ∧ fs.lookup m = none ∧ c [.loc n] S1 Q) I
    ⟨μ, ρ, S, _, hs, hso, hw, fun x S1 ⟨n, fs, ex, q1, q2, q3⟩ v H1 μ1 e1 o1 r1 => ⟨μ1, S1, n, fs, e1, o1, by rw [← ex]; exact r1, q1, q2, by rw [ex] at q3; exact q3⟩⟩) fun u s1 ⟨v, H1, I1, rx, μ1, S1, n, fs, e1, o1, r1, hc, hl, q⟩ => ?_) ht
  obtain ⟨a, us, B, dx, rfl, z1, z2, z3, z4⟩ := ins_ok o1 r1 hc
  cases a1.same z3
  obtain rfl : u = Value.ref a := rx
  refine getmeth_ok I1 z2 a2 a3 (PvOk.no z4 hl) ?_
  have rr : RVs X.K H1 μ1 [V.ref a] [.loc n] := RVs.cons r1 RVs.nil
  have rv : Vals [V.ref a] [Value.ref a] := .cons rfl .nil
  have hl2 : ([Value.ref a] ++ []).length = ps.length := F.len _ _ _ q
  have b := hb s1 [Value.ref a] I1.kIn hl2
  rw [List.append_nil] at b
  refine PySem.W.callWith_K0 (first := [.ref a]) I1.kIn a3.kp (wpAny_call (codeAny_mono (fng_run F hr hu I1 b rv rr o1 q (hq.ext e1)) fun r s' z => ?_))
  match r, z with
  | .ok (.ret u), z => exact z
theorem run_mke {pins : List (Addr × Obj)} {σ : St} {H : Hp} {s : Shared} {R : VK} {us : List Value} {vs : List V} {A f : Addr} {fd : FuncData} {μ : Mu} {ds : List D} {S : Sto} {Q : QD} (hA : ClsAt X.K C A) (M : Mk X.K A f) (F : FnG X.prog X.w X.K X.mg X.base k f fd ps c) (hr : Room (k + 1) X.A) (hu : X.A.guards = some []) (hb : Binds X.K fd ps [])
    (I : Inv X pins σ H s) (r : Vals vs us) (rd : RVs X.K H μ vs ds) (o : StoOk X.K H μ S) (hc : c (.loc S.length :: ds) (S ++ [.ins C []]) fun v S2 => v = .non ∧ Q (.loc S.length) S2) (ha : After X.K Q μ H R) :
    wpAny (model X.prog X.w) X.A (call (.ref A) us) (EP X pins σ R) X.xe s := by
  have nx : H (s.heap.objs.size + 1) = none := I.hok.fresh (Nat.le_succ _)
  have nd : H s.heap.objs.size = none := I.hok.fresh (Nat.le_refl _)
  have ne : s.heap.objs.size ≠ s.heap.objs.size + 1 := Nat.ne_of_lt (Nat.lt_succ_self _)
  have I2 := Inv.made (C := A) I
  have e1 := Ext.alloc (μ := μ) (H := H) (o := HO.own (s.heap.objs.size + 1)) nd
  have nx2 : upd H s.heap.objs.size (HO.own (s.heap.objs.size + 1)) (s.heap.objs.size + 1) = none := by rw [upd_ne ne.symm]; exact nx
  have e2 := Ext.push (μ := μ) (H := upd H s.heap.objs.size (HO.own (s.heap.objs.size + 1))) (o := HO.ins A s.heap.objs.size []) nx2
  have o2 := (o.alloc (o := HO.own (s.heap.objs.size + 1)) nd).push (o := HO.ins A s.heap.objs.size []) (c := .ins C []) nx2 ⟨[], A, _, upd_same, hA, .nil⟩
  have rl : RV X.K (upd (upd H s.heap.objs.size (HO.own (s.heap.objs.size + 1))) (s.heap.objs.size + 1) (.ins A s.heap.objs.size [])) (μ.add [s.heap.objs.size + 1]) (.ref (s.heap.objs.size + 1)) (.loc S.length) := rv_loc.mpr ⟨_, rfl, by show (μ.lo ++ [_])[S.length]? = _; rw [← o.len]; simp⟩
  have rr := RVs.cons rl (RVs.ext (e1.trans e2) ds rd)
  have rv : Vals (V.ref (s.heap.objs.size + 1) :: vs) (Value.ref (s.heap.objs.size + 1) :: us) := .cons rfl r
  have hl : ((Value.ref (s.heap.objs.size + 1) :: us) ++ []).length = ps.length := by rw [List.append_nil, ← rv.length, rr.length]; exact F.len _ _ _ hc
  have b := hb ⟨(s.heap.push PySem.W.emptyDict).push (PySem.W.instObj A s.heap.objs.size), s.gens, s.drawn, s.toks, s.os⟩ (Value.ref (s.heap.objs.size + 1) :: us) I2.kIn hl
  rw [List.append_nil] at b
  have ha2 : After X.K (fun v S2 => v = .non ∧ Q (.loc S.length) S2) (μ.add [s.heap.objs.size + 1]) (upd (upd H s.heap.objs.size (HO.own (s.heap.objs.size + 1))) (s.heap.objs.size + 1) (.ins A s.heap.objs.size [])) (fun v H2 => v = .non ∧ R (.ref (s.heap.objs.size + 1)) H2) := by
    rintro d S' ⟨rfl, q⟩ v H' μ' e' o' r'
    exact ⟨rv_non.mp r', ha _ _ q _ _ _ ((e1.trans e2).trans e') o' (RV.ext e' _ rl)⟩
  refine wpAny_call (make_map (f := f) I.kIn M.makes M.init (beq_iff_eq.mp M.fn) (codeAny_mono (F.run _ X.stack _ _ _ _ _ _ _ _ _ _ (hr.make A us []) hu (I2.env0.make A us []) b rv rr o2 hc ha2) fun r s' hq => ?_))
  match r, hq with
  | .ok (.ret u), hq =>
    obtain ⟨v, H', I3, rv, ev, q3⟩ := I2.after hq
    subst ev
    exact ⟨rv, ⟨V.ref (s.heap.objs.size + 1), H', I3, rfl, q3⟩⟩
  | .ok .next, hq => exact False.elim hq
  | .ok .brk, hq => exact False.elim hq
  | .ok .cont, hq => exact False.elim hq
  | .error _, hq => exact False.elim hq
theorem je_make (M : Mke X.prog X.w X.K X.mg X.base k C ps c) (hr : Room (k + 1) X.A) (hu : X.A.guards = some []) (ha : JA X (e :: es) wl) (hg : Gl X C := by rfl)
    (hdb : (C == ("__debug__" : Str)) = false := by decide) (he : starEach (e :: es) X.env = (false, eval e X.env) :: starEach es X.env := by rfl) (hpl : (backTo pos (starEach es X.env)).any (·.1) = false := by rfl) :
    JE X (.Call (.Name C p) (e :: es) [] pos) (wMake C c wl) := by
  obtain ⟨A, f, fd, a1, hm, Mk, F, hb⟩ := M.ex
  refine ⟨fun pins s σ H R I ⟨μ, ρ, S, Q, hs, ho, hw, hq⟩ => ?_⟩
  refine wpAny_Call_Name_kw (ld_glob I hg hm ?_ hdb)
  refine PySem.W.callWith_K (h₀ := X.base) I.ok.mod.kin Mk.kp (thn (ha.run pos pins s σ H (fun vs H1 => ∃ μ1 ds S1, Ext μ μ1 H H1 ∧ StoOk X.K H1 μ1 S1 ∧ RVs X.K H1 μ1 vs ds ∧ c (.loc S1.length :: ds) (S1 ++ [.ins C []]) fun v S2 => v = .non ∧ Q (.loc S1.length) S2) I
    ⟨μ, ρ, S, _, hs, ho, hw, fun ds S1 q vs H1 μ1 e1 o1 r1 => ⟨μ1, ds, S1, e1, o1, r1, q⟩⟩) fun us s1 ⟨vs, H1, I1, r, μ1, ds, S1, e1, o1, r1, q⟩ => ⟨I1.kIn, ?_⟩) he hpl
  exact run_mke a1 Mk F hr hu hb I1 r r1 o1 q (hq.ext e1)
end
end DL
namespace DL
open PySem PySem.Spec L2
open PyProof.Rows hiding St
/-! ## dicts whose keys are tuples of ints -/
abbrev tk (P : Program) (w : World) := tupleKind (PySem.intKind P w)
def valX (xs : List (List Int × Addr × V)) (k : List Int) : Option V := (xs.find? fun x => decide (x.1 = k)).map (·.2.2)
def putX (xs : List (List Int × Addr × V)) (k : List Int) (b : Addr) (v : V) : List (List Int × Addr × V) :=
  if (xs.any fun x => decide (x.1 = k)) = true then xs.map (fun x => if x.1 = k then (x.1, x.2.1, v) else x) else xs ++ [(k, b, v)]
def valT (kvs : List (List Int × D)) (k : List Int) : Option D := (kvs.find? fun x => decide (x.1 = k)).map (·.2)
def putT (kvs : List (List Int × D)) (k : List Int) (d : D) : List (List Int × D) :=
  if (kvs.any fun x => decide (x.1 = k)) = true then kvs.map (fun x => if x.1 = k then (x.1, d) else x) else kvs ++ [(k, d)]
theorem VrT.val : ∀ {xs : List (List Int × Addr × V)} {ys : List (List Int × Addr × Value)}, VrT xs ys → ∀ k, RelO (valX xs k) ((atKey ys k).map (·.2))
  | _, _, .nil, k => True.intro
  | p :: xs, q :: ys, .cons ⟨h1, h2, h3⟩ t, k => by
    by_cases e : p.1 = k
    · have e' : q.1 = k := h1.symm.trans e
      have a : valX (p :: xs) k = some p.2.2 := by simp [valX, List.find?_cons, e]
      have b : atKey (q :: ys) k = some q.2 := by simp [atKey, List.find?_cons, e']
      rw [a, b]; exact h3
    · have e' : ¬ q.1 = k := fun z => e (h1.trans z)
      have a : valX (p :: xs) k = valX xs k := by simp [valX, List.find?_cons, e]
      have b : atKey (q :: ys) k = atKey ys k := by simp [atKey, List.find?_cons, e']
      rw [a, b]; exact VrT.val t k
theorem VrT.any : ∀ {xs : List (List Int × Addr × V)} {ys : List (List Int × Addr × Value)}, VrT xs ys → ∀ k, (xs.any fun x => decide (x.1 = k)) = (atKey ys k).isSome
  | _, _, .nil, k => rfl
  | p :: xs, q :: ys, .cons ⟨h1, h2, h3⟩ t, k => by
    by_cases e : p.1 = k
    · have e' : q.1 = k := h1.symm.trans e
      simp [atKey, List.find?_cons, e, e']
    · have e' : ¬ q.1 = k := fun z => e (h1.trans z)
      have b : atKey (q :: ys) k = atKey ys k := by simp [atKey, List.find?_cons, e']
      rw [b, List.any_cons, decide_eq_false e, Bool.false_or]
      exact VrT.any t k
theorem VrT.repl (k : List Int) {y : V} {u : Value} (ry : RelV y u) : ∀ {xs : List (List Int × Addr × V)} {ys : List (List Int × Addr × Value)}, VrT xs ys → VrT (xs.map fun x => if x.1 = k then (x.1, x.2.1, y) else x) (ys.map (putAt k u))
  | _, _, .nil => .nil
  | p :: xs, q :: ys, .cons ⟨h1, h2, h3⟩ t => by
    rw [List.map_cons, List.map_cons]
    refine .cons ?_ (VrT.repl k ry t)
    unfold putAt
    by_cases e : p.1 = k
    · rw [if_pos e, if_pos (h1.symm.trans e)]; exact ⟨h1, h2, ry⟩
    · rw [if_neg e, if_neg (fun z => e (h1.trans z))]; exact ⟨h1, h2, h3⟩
theorem VrT.put {xs : List (List Int × Addr × V)} {ys : List (List Int × Addr × Value)} (r : VrT xs ys) (k : List Int) (b : Addr) {y : V} {u : Value} (ry : RelV y u) : VrT (putX xs k b y) (storedH ys k b u) := by
  unfold putX storedH
  rw [r.any]
  by_cases q : (atKey ys k).isSome = true
  · rw [if_pos q, if_pos q]; exact r.repl k ry
  · rw [if_neg q, if_neg q]; exact Paired.snoc r ⟨rfl, rfl, ry⟩
theorem putX_len (xs : List (List Int × Addr × V)) (k : List Int) (b : Addr) (v : V) : (putX xs k b v).length ≤ xs.length + 1 := by
  unfold putX
  split <;> simp
section
variable {K : PySem.W.Frag} {H : Hp} {μ : Mu} {S : Sto}
theorem TvOk.len {xs : List (List Int × Addr × V)} {kvs : List (List Int × D)} (h : TvOk K H μ xs kvs) : xs.length = kvs.length := Paired.length h
theorem TvOk.find : ∀ {xs : List (List Int × Addr × V)} {kvs : List (List Int × D)}, Paired (fun (p : List Int × Addr × V) (q : List Int × D) => p.1 = q.1 ∧ RV K H μ (.ref p.2.1) (.tup (p.1.map D.int)) ∧ RV K H μ p.2.2 q.2) xs kvs → ∀ k, match valT kvs k with
    | some d => ∃ v, valX xs k = some v ∧ RV K H μ v d
    | none => valX xs k = none
  | _, _, .nil, k => rfl
  | p :: xs, q :: kvs, .cons z t, k => by
    obtain ⟨z1, z2, z3⟩ := z
    by_cases e : p.1 = k
    · have e' : q.1 = k := z1.symm.trans e
      have a : valX (p :: xs) k = some p.2.2 := by simp [valX, List.find?_cons, e]
      have b : valT (q :: kvs) k = some q.2 := by simp [valT, List.find?_cons, e']
      rw [a, b]; exact ⟨_, rfl, z3⟩
    · have e' : ¬ q.1 = k := fun z => e (z1.trans z)
      have a : valX (p :: xs) k = valX xs k := by simp [valX, List.find?_cons, e]
      have b : valT (q :: kvs) k = valT kvs k := by simp [valT, List.find?_cons, e']
      rw [a, b]; exact TvOk.find t k
theorem TvOk.some {xs : List (List Int × Addr × V)} {kvs : List (List Int × D)} (h : TvOk K H μ xs kvs) {k : List Int} {d : D} (e : valT kvs k = some d) : ∃ v, valX xs k = some v ∧ RV K H μ v d := by
  have := TvOk.find h k
  rw [e] at this
  exact this
theorem TvOk.none {xs : List (List Int × Addr × V)} {kvs : List (List Int × D)} (h : TvOk K H μ xs kvs) {k : List Int} (e : valT kvs k = Option.none) : valX xs k = Option.none := by
  have := TvOk.find h k
  rw [e] at this
  exact this
theorem TvOk.any : ∀ {xs : List (List Int × Addr × V)} {kvs : List (List Int × D)}, Paired (fun (p : List Int × Addr × V) (q : List Int × D) => p.1 = q.1 ∧ RV K H μ (.ref p.2.1) (.tup (p.1.map D.int)) ∧ RV K H μ p.2.2 q.2) xs kvs → ∀ k, (xs.any fun x => decide (x.1 = k)) = kvs.any fun x => decide (x.1 = k)
  | _, _, .nil, k => rfl
  | p :: xs, q :: kvs, .cons z t, k => by rw [List.any_cons, List.any_cons, z.1, TvOk.any t k]
theorem TvOk.repl {k : List Int} {v : V} {d : D} (r : RV K H μ v d) : ∀ {xs : List (List Int × Addr × V)} {kvs : List (List Int × D)}, Paired (fun (p : List Int × Addr × V) (q : List Int × D) => p.1 = q.1 ∧ RV K H μ (.ref p.2.1) (.tup (p.1.map D.int)) ∧ RV K H μ p.2.2 q.2) xs kvs →
    Paired (fun (p : List Int × Addr × V) (q : List Int × D) => p.1 = q.1 ∧ RV K H μ (.ref p.2.1) (.tup (p.1.map D.int)) ∧ RV K H μ p.2.2 q.2) (xs.map fun x => if x.1 = k then (x.1, x.2.1, v) else x) (kvs.map fun x => if x.1 = k then (x.1, d) else x)
  | _, _, .nil => .nil
  | p :: xs, q :: kvs, .cons z t => by
    obtain ⟨z1, z2, z3⟩ := z
    rw [List.map_cons, List.map_cons]
    refine .cons ?_ (TvOk.repl r t)
    by_cases e : p.1 = k
    · rw [if_pos e, if_pos (z1.symm.trans e)]; exact ⟨z1, z2, r⟩
    · rw [if_neg e, if_neg (fun z => e (z1.trans z))]; exact ⟨z1, z2, z3⟩
theorem TvOk.put {xs : List (List Int × Addr × V)} {kvs : List (List Int × D)} (h : TvOk K H μ xs kvs) {k : List Int} {b : Addr} {v : V} {d : D} (rb : RV K H μ (.ref b) (.tup (k.map D.int))) (r : RV K H μ v d) : TvOk K H μ (putX xs k b v) (putT kvs k d) := by
  unfold putX putT
  rw [TvOk.any h]
  by_cases e : (kvs.any fun x => decide (x.1 = k)) = true
  · rw [if_pos e, if_pos e]; exact TvOk.repl r h
  · rw [if_neg e, if_neg e]; exact Paired.snoc h ⟨rfl, rb, r⟩
theorem key_sq {b : Addr} {k : List Int} (h : RV K H μ (.ref b) (.tup (k.map D.int))) : SqT K H b (k.map V.int) := by
  obtain ⟨a, vs, e, h1, r⟩ := rv_tup.mp h
  cases e
  rw [rvs_ints_eq r] at h1
  exact h1.sq
theorem TvOk.keys : ∀ {xs : List (List Int × Addr × V)} {kvs : List (List Int × D)}, Paired (fun (p : List Int × Addr × V) (q : List Int × D) => p.1 = q.1 ∧ RV K H μ (.ref p.2.1) (.tup (p.1.map D.int)) ∧ RV K H μ p.2.2 q.2) xs kvs → ∀ x ∈ xs, SqT K H x.2.1 (x.1.map V.int)
  | _, _, .nil, x, m => nomatch m
  | p :: xs, q :: kvs, .cons z t, x, m => by
    rcases List.mem_cons.mp m with rfl | m
    · exact key_sq z.2.1
    · exact TvOk.keys t x m
theorem dct_ok {n ep : Nat} {kvs : List (List Int × D)} {v : V} (o : StoOk K H μ S) (r : RV K H μ v (.loc n)) (h : S[n]? = some (.dct ep kvs)) : ∃ a xs, v = .ref a ∧ μ.lo[n]? = some a ∧ H a = some (.ext (DctObj a ep xs)) ∧ TvOk K H μ xs kvs := by
  obtain ⟨a, e, q1⟩ := rv_loc.mp r
  obtain ⟨xs, z1, z2⟩ := o.addr h q1
  exact ⟨a, xs, e, q1, z1, z2⟩
end
/-- the dict at a, its keys' tuples as they may be read -/
def DctIn (K : PySem.W.Frag) (H : Hp) (a : Addr) (ep : Nat) (xs : List (List Int × Addr × V)) : Prop := H a = some (.ext (DctObj a ep xs)) ∧ ∀ x ∈ xs, SqT K H x.2.1 (x.1.map V.int)
section
variable {X : Cx} {pins : List (Addr × Obj)} {σ : St} {H : Hp} {s : Shared} {a b : Addr} {ep : Nat} {xs : List (List Int × Addr × V)} {k : List Int} {A : Around} {E : Value → Shared → Prop}
theorem items_int {P : Program} {w : World} : ∀ {ks : List Int} {us : List Value}, Vals (ks.map V.int) us → ItemsAre (PySem.intKind P w) ks us
  | [], _, r => by rw [List.map_nil] at r; cases r; exact .nil
  | k :: ks, _, r => by
    rw [List.map_cons] at r
    cases r with
    | cons h t =>
      obtain ⟨tt, rfl⟩ := (show ∃ tt, _ = Value.int k tt from h)
      exact .cons (by show Value.isInt k (.int k tt) = true; simp [Value.isInt]) (items_int t)
theorem is_key (I : Inv X pins σ H s) (h : SqT X.K H b (k.map V.int)) : (tk X.prog X.w).is s.heap k b := by
  obtain ⟨its, r, ⟨o, h1, h2, n, h3⟩, _⟩ := I.tuple h
  exact ⟨o, its.toArray, n, h1, h2, h3, by simpa using items_int r⟩
theorem dct_at (I : Inv X pins σ H s) (h : DctIn X.K H a ep xs) : (a == sysModules) = false ∧ xs.length ≤ sizeLine ∧ ∃ ys, VrT xs ys ∧ s.heap.DictOfH (tk X.prog X.w) a ys := by
  obtain ⟨e, hk⟩ := h
  obtain ⟨⟨h1, h2, ys, o, es, h3, h4, h5, h6, h7, h8⟩, _⟩ := (show ObjOk X.prog X.w H s.heap a (.ext (DctObj a ep xs)) from I.hok a _ e)
  refine ⟨h1, h2, ys, h3, o, es, ep, h4, h5, h6, h7, ?_, h8⟩
  have all : ∀ {l : List (List Int × Addr × V)} {m : List (List Int × Addr × Value)}, VrT l m → (∀ x ∈ l, SqT X.K H x.2.1 (x.1.map V.int)) → ∀ y ∈ m, (tk X.prog X.w).is s.heap y.1 y.2.1 := by
    intro l m q
    induction q with
    | nil => intro _ y hy; exact nomatch hy
    | @cons p q ps qs hq t ih =>
      intro hl y hy
      rcases List.mem_cons.mp hy with rfl | hy
      · obtain ⟨e1, e2, _⟩ := hq
        rw [← e1, ← e2]
        exact is_key I (hl p List.mem_cons_self)
      · exact ih (fun x hx => hl x (List.mem_cons_of_mem _ hx)) y hy
  exact all h3 hk
theorem dct_obj {P : Program} {w : World} {H' : Hp} {h' : Heap} (h1 : (a == sysModules) = false) (h2 : xs.length ≤ sizeLine) {ys : List (List Int × Addr × Value)} {o : Obj} {es : Array DictEntry} (h3 : VrT xs ys) (h4 : h'.get? a = some o) (h5 : o.ExactDict) (h6 : o.data = .dict es ep) (h7 : es.toList = ys.map entT) (h8 : (ys.map (·.1)).Nodup) :
    ObjOk P w H' h' a (.ext (DctObj a ep xs)) :=
  ⟨⟨h1, h2, ys, o, es, h3, h4, h5, h6, h7, h8⟩, ⟨o, h4⟩, fun g1 g2 ⟨z1, z2, ys, o, es, z3, z4, z5⟩ k => ⟨z1, z2, ys, o, es, z3, k _ z4, z5⟩⟩
/-- d[k], there -/
theorem t_getItem {v : V} {Q : Value → Shared → Prop} (hu : A.units + 1 < cLine) (I : Inv X pins σ H s) (d : DctIn X.K H a ep xs) (kb : SqT X.K H b (k.map V.int)) (e : valX xs k = some v) (h : ∀ w' s', Inv X pins σ H s' → RelV v w' → Q w' s') :
    wpAny (model X.prog X.w) A (getItem (.ref a) (.ref b)) Q E s := by
  obtain ⟨z, hz, ys, rel, dd⟩ := dct_at I d
  obtain ⟨w', hw, rw'⟩ := RelO.some_of (v := v) (o := (atKey ys k).map (·.2)) (by rw [← e]; exact rel.val k)
  obtain ⟨p, hp, hp2⟩ := Option.map_eq_some_iff.mp hw
  refine wpAny_getItem_heap (tupleKind_room_in1 hu) (is_key I kb) dd hp ?_
  rw [hp2]
  exact h w' _ (I.tok _) rw'
theorem t_in {Q : Value → Shared → Prop} (hu : A.units + 1 < cLine) (I : Inv X pins σ H s) (d : DctIn X.K H a ep xs) (kb : SqT X.K H b (k.map V.int)) (h : ∀ s', Inv X pins σ H s' → Q (.bool (valX xs k).isSome) s') :
    wpAny (model X.prog X.w) A (compareOp .In (.ref b) (.ref a)) Q E s := by
  obtain ⟨z, hz, ys, rel, dd⟩ := dct_at I d
  refine wpAny_in_heap (tupleKind_room_in1 hu) (is_key I kb) z dd ?_
  have q := (rel.val k).isSome_eq
  rw [Option.isSome_map] at q
  rw [← q]
  exact h _ (I.tok _)
theorem t_notIn {Q : Value → Shared → Prop} (hu : A.units + 1 < cLine) (I : Inv X pins σ H s) (d : DctIn X.K H a ep xs) (kb : SqT X.K H b (k.map V.int)) (h : ∀ s', Inv X pins σ H s' → Q (.bool (!(valX xs k).isSome)) s') :
    wpAny (model X.prog X.w) A (compareOp .NotIn (.ref b) (.ref a)) Q E s := by
  obtain ⟨z, hz, ys, rel, dd⟩ := dct_at I d
  refine wpAny_notIn_heap (tupleKind_room_in1 hu) (is_key I kb) z dd ?_
  have q := (rel.val k).isSome_eq
  rw [Option.isSome_map] at q
  rw [← q]
  exact h _ (I.tok _)
theorem t_get2 {v : V} {r : Value} {Q : Value → Shared → Prop} (hu : A.units + 1 < cLine) (I : Inv X pins σ H s) (d : DctIn X.K H a ep xs) (kb : SqT X.K H b (k.map V.int)) (rd : RelV v r) (h : ∀ w' s', Inv X pins σ H s' → RelV ((valX xs k).getD v) w' → Q w' s') :
    wpAny (model X.prog X.w) A (call (.builtin "dict.get") [.ref a, .ref b, r]) Q E s := by
  obtain ⟨z, hz, ys, rel, dd⟩ := dct_at I d
  refine call_meetsIn PySem.F.slot_dict_get dd.typeIs PySem.F.entry_dict_get (PySem.F.args_dict_get_3 _ _ _) (meetsH_dict_get_default (tk X.prog X.w) a b z r) ⟨tupleKind_room_in1 hu, k, ys, is_key I kb, dd, h _ _ (I.tok _) ?_⟩
  exact (rel.val k).getD rd
theorem t_setItem {v : V} {r : Value} {Q : Unit → Shared → Prop} (hu : A.units + 1 < cLine) (I : Inv X pins σ H s) (d : DctIn X.K H a ep xs) (kb : SqT X.K H b (k.map V.int)) (hl : xs.length < sizeLine) (rv : RelV v r)
    (h : ∀ ep' s', Inv X pins σ (upd H a (.ext (DctObj a ep' (putX xs k b v)))) s' → Q () s') : wpAny (model X.prog X.w) A (setItem (.ref a) (.ref b) r) Q E s := by
  obtain ⟨z, hz, ys, rel, dd⟩ := dct_at I d
  have hz2 : ys.length ≤ sizeLine := by rw [← Paired.length rel]; exact hz
  have hl2 : (putX xs k b v).length ≤ sizeLine := by have := putX_len xs k b v; omega
  refine wpAny_setItem_heap (hsz := hz2) (tupleKind_room_in1 hu) (is_key I kb) dd fun h' dd' hs => ?_
  obtain ⟨q, es, ep', hq, h2, h3, h4, _, h5⟩ := dd'
  exact h ep' _ (d_write I (by rw [d.1]; exact True.intro) hs ⟨q, hq⟩ (dct_obj z hl2 (rel.put k b rv) hq h2 h3 h4 h5))
end
/-! ### rules -/
/-- {}, to be a dict with tuple keys -/
def wDctNew : WE := fun ρ S Q => ∀ ep, Q (.loc S.length) (S ++ [.dct ep []])
def gIxT : G2 := fun x y S Q => ∃ n ep kvs k d, x = .loc n ∧ S[n]? = some (.dct ep kvs) ∧ y = .tup ((k : List Int).map D.int) ∧ valT kvs k = some d ∧ Q d S
def gInT (neg : Bool) : G2 := fun y x S Q => ∃ n ep kvs k, x = .loc n ∧ S[n]? = some (.dct ep kvs) ∧ y = .tup ((k : List Int).map D.int) ∧ Q (.bl (if neg then !(valT kvs k).isSome else (valT kvs k).isSome)) S
def wDGet2T (wo wy wx : WE) : WE := fun ρ S Q => wo ρ S fun x S1 => (∃ n ep kvs, x = .loc n ∧ S1[n]? = some (.dct ep kvs)) ∧ wy ρ S1 fun y S2 => wx ρ S2 fun z S3 => ∃ n ep kvs k, x = .loc n ∧ S3[n]? = some (.dct ep kvs) ∧ y = .tup ((k : List Int).map D.int) ∧ Q ((valT kvs k).getD z) S3
def gAtT (wo wi : WE) : WG := fun d ρ S q => wo ρ S fun x S1 => wi ρ S1 fun y S2 => ∃ n ep kvs k, x = .loc n ∧ S2[n]? = some (.dct ep kvs) ∧ y = .tup ((k : List Int).map D.int) ∧ kvs.length < sizeLine ∧ ∀ ep', q ρ (S2.set n (.dct ep' (putT kvs k d)))
def gListT : GL := fun ds S Q => ∃ n ep kvs, ds = [.loc n] ∧ S[n]? = some (.dct ep kvs) ∧ Q (.rol (kvs.map fun p => .tup (p.1.map D.int))) S
def wItD (w : WE) : WI := fun ρ S Q => w ρ S fun x S1 => ∃ n ep kvs, x = .loc n ∧ S1[n]? = some (.dct ep kvs) ∧ Q (kvs.map fun p => .tup (p.1.map D.int)) [(n, .dct ep kvs)] S1
section
variable {X : Cx} {o i e f : Expr} {pos apos cpos : Pos} {wo wi wy wx : WE}
theorem je_dct0 : JE X (.Dict [] [] pos) wDctNew := by
  refine ⟨fun pins s σ H Q I ⟨μ, ρ, S, Q0, hs, ho, hw, ha⟩ => ?_⟩
  have hn : H s.heap.objs.size = none := I.hok.fresh (Nat.le_refl _)
  refine wpAny_Dict_empty ⟨.ref s.heap.objs.size, _, I.laid (a := s.heap.objs.size) (o := .ext (DctObj s.heap.objs.size 0 [])) (t' := s.toks) (fun _ _ q => Heap.get?_push_of_some _ q) (Nat.le_refl _)
    (dct_obj (beq_eq_false_iff_ne.mpr (Ne.symm (Nat.ne_of_lt I.big))) (Nat.zero_le _) (es := #[]) .nil (Heap.get?_push_size _ rfl) ⟨rfl, rfl, rfl⟩ rfl rfl List.nodup_nil), rfl, ?_⟩
  exact ha _ _ (hw 0) _ _ (μ.add [s.heap.objs.size]) (Ext.push hn) (ho.push hn ⟨[], upd_same, .nil⟩) (rv_loc.mpr ⟨_, rfl, by show (μ.lo ++ [_])[S.length]? = _; rw [← ho.len]; simp⟩)
theorem j_ixT (hu : X.A.units + 1 < cLine) : IxJ X gIxT := by
  refine ⟨fun x y H Q => ∃ a ep xs b k v, x = .ref a ∧ DctIn X.K H a ep xs ∧ y = .ref b ∧ SqT X.K H b ((k : List Int).map V.int) ∧ valX xs k = some v ∧ Q v H, ?_, ?_⟩
  · intro value slice pins s σ H x y v u Q I rx ry ⟨a, ep, xs, b, k, z, ex, d, ey, kb, hv, q⟩ hs
    subst ex ey
    obtain rfl : v = Value.ref a := rx
    obtain rfl : u = Value.ref b := ry
    obtain ⟨_, _, ys, _, dd⟩ := dct_at I d
    exact PyProof.Rows.tail_any dd.typeIs PySem.F.slot_dict_getitem.lookup (t_getItem hu I d kb hv fun w' s' I' r' => ⟨z, H, I', r', q⟩) hs
  · intro μ H S x y v u Q R o rx ry ⟨n, ep, kvs, k, d, ex, hc, ey, hv, q⟩ ha
    subst ex ey
    obtain ⟨a, xs, rfl, ha', hH, tv⟩ := dct_ok o rx hc
    obtain ⟨w, hw, rw'⟩ := tv.some hv
    obtain ⟨b, vs, rfl, _, _⟩ := rv_tup.mp ry
    exact ⟨a, ep, xs, b, k, w, rfl, ⟨hH, TvOk.keys tv⟩, rfl, key_sq ry, hw, ha.here o q rw'⟩
theorem op_inT (hu : X.A.units + 1 < cLine) : OpR X (compareOp .In) (fun y x H Q => ∃ a ep xs b k, x = .ref a ∧ DctIn X.K H a ep xs ∧ y = .ref b ∧ SqT X.K H b ((k : List Int).map V.int) ∧ Q (.bl (valX xs k).isSome) H) := by
  intro pins s σ H y x v u Q I ry rx ⟨a, ep, xs, b, k, ex, d, ey, kb, q⟩
  subst ex ey
  obtain rfl : u = Value.ref a := rx
  obtain rfl : v = Value.ref b := ry
  exact t_in hu I d kb fun s' I' => ⟨.bl _, H, I', rfl, q⟩
theorem op_notInT (hu : X.A.units + 1 < cLine) : OpR X (compareOp .NotIn) (fun y x H Q => ∃ a ep xs b k, x = .ref a ∧ DctIn X.K H a ep xs ∧ y = .ref b ∧ SqT X.K H b ((k : List Int).map V.int) ∧ Q (.bl (!(valX xs k).isSome)) H) := by
  intro pins s σ H y x v u Q I ry rx ⟨a, ep, xs, b, k, ex, d, ey, kb, q⟩
  subst ex ey
  obtain rfl : u = Value.ref a := rx
  obtain rfl : v = Value.ref b := ry
  exact t_notIn hu I d kb fun s' I' => ⟨.bl _, H, I', rfl, q⟩
theorem valX_some {K : PySem.W.Frag} {H : Hp} {μ : Mu} {xs : List (List Int × Addr × V)} {kvs : List (List Int × D)} (h : TvOk K H μ xs kvs) (k : List Int) : (valX xs k).isSome = (valT kvs k).isSome := by
  cases e : valT kvs k with
  | none => rw [h.none e]; rfl
  | some d => obtain ⟨v, e2, _⟩ := h.some e; rw [e2]; rfl
theorem j_inT (hu : X.A.units + 1 < cLine) : OpJ X (compareOp .In) (gInT false) := by
  refine ⟨_, op_inT hu, fun {μ H S y x v u Q R} o ry rx ⟨n, ep, kvs, k, ex, hc, ey, q⟩ ha => ?_⟩
  subst ex ey
  obtain ⟨a, xs, rfl, ha', hH, tv⟩ := dct_ok o rx hc
  obtain ⟨b, vs, rfl, _, _⟩ := rv_tup.mp ry
  refine ⟨a, ep, xs, b, k, rfl, ⟨hH, TvOk.keys tv⟩, rfl, key_sq ry, ?_⟩
  rw [valX_some tv]
  exact ha.here o q (rv_bl.mpr rfl)
theorem j_notInT (hu : X.A.units + 1 < cLine) : OpJ X (compareOp .NotIn) (gInT true) := by
  refine ⟨_, op_notInT hu, fun {μ H S y x v u Q R} o ry rx ⟨n, ep, kvs, k, ex, hc, ey, q⟩ ha => ?_⟩
  subst ex ey
  obtain ⟨a, xs, rfl, ha', hH, tv⟩ := dct_ok o rx hc
  obtain ⟨b, vs, rfl, _, _⟩ := rv_tup.mp ry
  refine ⟨a, ep, xs, b, k, rfl, ⟨hH, TvOk.keys tv⟩, rfl, key_sq ry, ?_⟩
  rw [valX_some tv]
  exact ha.here o q (rv_bl.mpr rfl)
theorem je_dget2T (hu : X.A.units + 1 < cLine) (ho : JE X o wo) (he : JE X e wy) (hf : JE X f wx) (m : M2 X o "get" apos e f cpos) : JE X (.Call (.Attribute o "get" apos) [e, f] [] cpos) (wDGet2T wo wy wx) := by
  refine ⟨fun pins s σ H Q I ⟨μ, ρ, S, Q0, hs, hk, hw, ha⟩ => ?_⟩
  refine wpAny_Call_method m.base m.few m.line PySem.F.plainAttrs_dict PySem.F.slot_dict_get PySem.F.type_dict_get (thn (ho.run pins s σ H (fun v H1 => ∃ μ1 S1 n ep kvs, Ext μ μ1 H H1 ∧ StoOk X.K H1 μ1 S1 ∧ RV X.K H1 μ1 v (.loc n) ∧ S1[n]? = some (.dct ep kvs) ∧ wy ρ S1 fun y S2 => wx ρ S2 fun z S3 => ∃ n' ep' kvs' k, D.loc n = .loc n' ∧ S3[n']? = some (.dct ep' kvs') ∧ y = .tup ((k : List Int).map D.int) ∧ Q0 ((valT kvs' k).getD z) S3) I
    ⟨μ, ρ, S, _, hs, hk, hw, fun x S1 ⟨⟨n, ep, kvs, ex, hc⟩, q⟩ v H1 μ1 e1 o1 r1 => ⟨μ1, S1, n, ep, kvs, e1, o1, by rw [← ex]; exact r1, hc, by rw [ex] at q; exact q⟩⟩) fun u s1 ⟨v, H1, I1, rx, μ1, S1, n, ep, kvs, e1, o1, r1, hc, q⟩ => ?_)
  obtain ⟨a, xs, rfl, ha', hH, tv⟩ := dct_ok o1 r1 hc
  obtain rfl : u = Value.ref a := rx
  obtain ⟨z0, _, ys, _, dd⟩ := dct_at I1 ⟨hH, TvOk.keys tv⟩
  refine ⟨dd.typeIs, fun b q => ?_, ?_⟩
  · cases q
    obtain ⟨ob, _, _, h1, h2, _⟩ := dd
    exact ⟨ob, h1, h2.2.1⟩
  rw [m.trees]
  refine Calls.callWith_builtin rfl (Calls.evalArgs_plain (Calls.spliced_cons (thn (he.run pins s1 σ H1 (fun y H2 => ∃ μ2 S2 yd, Ext μ1 μ2 H1 H2 ∧ StoOk X.K H2 μ2 S2 ∧ RV X.K H2 μ2 y yd ∧ wx ρ S2 fun z S3 => ∃ n' ep' kvs' k, D.loc n = .loc n' ∧ S3[n']? = some (.dct ep' kvs') ∧ yd = .tup ((k : List Int).map D.int) ∧ Q0 ((valT kvs' k).getD z) S3) I1
    ⟨μ1, ρ, S1, _, hs.ext e1, o1, q, fun y S2 q2 v H2 μ2 e2 o2 r2 => ⟨μ2, S2, y, e2, o2, r2, q2⟩⟩) fun iv s2 ⟨y, H2, I2, ry, μ2, S2, yd, e2, o2, r2, q2⟩ =>
    Calls.spliced_cons (thn (hf.run pins s2 σ H2 (fun z H3 => ∃ μ3 S3 zd, Ext μ2 μ3 H2 H3 ∧ StoOk X.K H3 μ3 S3 ∧ RV X.K H3 μ3 z zd ∧ ∃ n' ep' kvs' k, D.loc n = .loc n' ∧ S3[n']? = some (.dct ep' kvs') ∧ yd = .tup ((k : List Int).map D.int) ∧ Q0 ((valT kvs' k).getD zd) S3) I2
      ⟨μ2, ρ, S2, _, hs.ext (e1.trans e2), o2, q2, fun z S3 q3 v H3 μ3 e3 o3 r3 => ⟨μ3, S3, z, e3, o3, r3, q3⟩⟩) fun fv s3 ⟨z, H3, I3, rz, μ3, S3, zd, e3, o3, r3, n', ep', kvs', k, en, hc', ey, q3⟩ => Calls.spliced_nil ?_))))
  cases en
  subst ey
  obtain ⟨a', xs', ea, _, hH', tv'⟩ := dct_ok o3 (RV.ext (e2.trans e3) _ r1) hc'
  cases ea
  have r2' := RV.ext e3 _ r2
  obtain ⟨b, vs, rfl, _, _⟩ := rv_tup.mp r2'
  obtain rfl : iv = Value.ref b := ry
  refine t_get2 hu I3 ⟨hH', TvOk.keys tv'⟩ (key_sq r2') rz fun w' s4 I4 rw' => ⟨_, H3, I4, rw', ?_⟩
  cases z2 : valT kvs' k with
  | none =>
    rw [z2] at q3
    rw [tv'.none z2]
    exact ha _ _ q3 _ _ _ ((e1.trans e2).trans e3) o3 r3
  | some d =>
    rw [z2] at q3
    obtain ⟨w, e4, r4⟩ := tv'.some z2
    rw [e4]
    exact ha _ _ q3 _ _ _ ((e1.trans e2).trans e3) o3 r4
theorem set_dct (hu : X.A.units + 1 < cLine) : PSet X (fun o i v H Q => ∃ a ep xs b k, o = .ref a ∧ DctIn X.K H a ep xs ∧ i = .ref b ∧ SqT X.K H b ((k : List Int).map V.int) ∧ xs.length < sizeLine ∧ ∀ ep', Q (upd H a (.ext (DctObj a ep' (putX xs k b v))))) := by
  intro pins s σ H o i v ov iv u Q I ro ri rv ⟨a, ep, xs, b, k, eo, d, ei, kb, hl, q⟩
  subst eo ei
  obtain rfl : ov = Value.ref a := ro
  obtain rfl : iv = Value.ref b := ri
  exact t_setItem hu I d kb hl rv fun ep' s' I' => ⟨_, I', q ep'⟩
theorem jg_subT (hu : X.A.units + 1 < cLine) (ho : JE X o wo) (hi : JE X i wi)
    (ha : ∀ v, assign (.Subscript o i pos) X.env v = (do
      let ov ← holding [v] (eval o X.env)
      let iv ← holding [v, ov] (eval i X.env)
      standAt pos
      holding [v, ov, iv] (setItem ov iv v)
      release [v, ov, iv] []) := by intro _; rfl) : JG X (.Subscript o i pos) (gAtT wo wi) := by
  refine PG.imp (pg_sub ho hi (set_dct hu) ha) fun v σ H R ⟨μ, ρ, S, d, q, hs, ho, r, hw, ha⟩ => ⟨μ, ρ, S, _, hs, ho, hw, fun x S1 q1 v1 H1 μ1 e1 o1 r1 => ?_⟩
  refine ⟨μ1, ρ, S1, _, hs.ext e1, o1, q1, fun y S2 ⟨n, ep, kvs, k, ex, hc, ey, hl, q2⟩ v2 H2 μ2 e2 o2 r2 => ?_⟩
  subst ex ey
  have e12 := e1.trans e2
  obtain ⟨a, xs, rfl, ha1, hH, tv⟩ := dct_ok o2 (RV.ext e2 _ r1) hc
  obtain ⟨b, vs, rfl, _, _⟩ := rv_tup.mp r2
  refine ⟨a, ep, xs, b, k, rfl, ⟨hH, TvOk.keys tv⟩, rfl, key_sq r2, by rw [tv.len]; exact hl, fun ep' => ?_⟩
  have ew := Ext.write (H := H2) (o := HO.ext (DctObj a ep' (putX xs k b v))) (List.mem_of_getElem? ha1)
  exact ha _ _ (q2 ep') _ _ _ (e12.trans ew) ((hs.ext e12).ext ew) (o2.write ha1 ⟨_, upd_same, (tv.put r2 (RV.ext e12 d r)).ext ew⟩)
/-! ### its keys -/
theorem keys_rv {K : PySem.W.Frag} {H : Hp} {μ : Mu} : ∀ {xs : List (List Int × Addr × V)} {kvs : List (List Int × D)}, Paired (fun (p : List Int × Addr × V) (q : List Int × D) => p.1 = q.1 ∧ RV K H μ (.ref p.2.1) (.tup (p.1.map D.int)) ∧ RV K H μ p.2.2 q.2) xs kvs → RVs K H μ (xs.map fun x => V.ref x.2.1) (kvs.map fun p => D.tup (p.1.map D.int))
  | _, _, .nil => RVs.nil
  | _, _, .cons z t => RVs.cons (by have := z.2.1; rw [z.1] at this; exact this) (keys_rv t)
theorem call_listX (hc : X.calm = true) : CallR X (.type "list") (fun vs H Q => ∃ a ep xs, vs = [V.ref a] ∧ H a = some (.ext (DctObj a ep xs)) ∧ ∀ p, H p = none → Q (.ref p) (upd H p (.lst (xs.map fun x => V.ref x.2.1)))) := by
  intro pins s σ H vs us Q I r h
  obtain ⟨a, ep, xs, rfl, hd, q⟩ := h
  obtain ⟨u, rfl, rx⟩ := r.one
  cases rx
  obtain ⟨⟨hs, hz, ys, o, es, pr, ho, hx, hdt, he, _⟩, _⟩ := (show ObjOk X.prog X.w H s.heap a (.ext (DctObj a ep xs)) from I.hok a _ hd)
  have l1 : es.size = ys.length := by rw [← Array.length_toList, he, List.length_map]
  have l2 : xs.length = ys.length := Paired.length pr
  refine PySem.W.kdl_call (kdl_raw hs hx hdt) (I.ok.hd hc) ho (by omega) fun h' tk acc' c' kp e it => ?_
  have ea : acc'.toList = ys.map fun x => Value.ref x.2.1 := by
    have hl : acc'.toList.length = ys.length := by rw [Array.length_toList, it.1]; exact l1
    apply List.ext_getElem?
    intro j
    rw [List.getElem?_map]
    cases hj : acc'.toList[j]? with
    | none =>
      have h1 := List.getElem?_eq_none_iff.mp hj
      rw [List.getElem?_eq_none (by omega)]
      all_goals rfl
    | some v =>
      obtain ⟨en, hen, hv⟩ := it.2 j v (by rw [← Array.getElem?_toList]; exact hj)
      have qe : es.toList[j]? = (ys.map entT)[j]? := by rw [he]
      rw [Array.getElem?_toList, hen, List.getElem?_map] at qe
      cases hb : ys[j]? with
      | none => rw [hb] at qe; cases qe
      | some b =>
        rw [hb] at qe
        have e2 : en = entT b := Option.some.inj qe
        rw [hv, e2]
        all_goals rfl
  have exy : ∀ {l : List (List Int × Addr × V)} {m : List (List Int × Addr × Value)}, VrT l m → (m.map fun x => x.2.1) = l.map fun x => x.2.1 := by
    intro l m q
    induction q with
    | nil => rfl
    | @cons p q ps qs hq t ih => rw [List.map_cons, List.map_cons, ih, hq.2.1]
  have eb : acc'.toList = (xs.map fun x => x.2.1).map Value.ref := by rw [ea, ← exy pr, List.map_map]; all_goals rfl
  have rv : Vals ((xs.map fun x => x.2.1).map V.ref) acc'.toList := by rw [eb]; exact vals_refs _
  have em : ((xs.map fun x => x.2.1).map V.ref) = xs.map fun x => V.ref x.2.1 := by rw [List.map_map]; rfl
  rw [em] at rv
  refine ⟨.ref s.heap.objs.size, _, I.laid (t' := tk) (o := .lst (xs.map fun x => V.ref x.2.1)) kp (Nat.le_refl _) ?_, rfl, q _ (I.hok.fresh (Nat.le_refl _))⟩
  exact ⟨by rw [List.length_map]; exact hz, acc'.toList, c', rv, by rw [Array.toArray_toList]; exact e⟩
theorem c_listT (hc : X.calm = true) : CallJ X (.type "list") gListT := by
  refine ⟨_, call_listX hc, fun {μ H S ds vs Q R} o r ⟨n, ep, kvs, ed, hc, q⟩ ha => ?_⟩
  subst ed
  obtain ⟨v, rfl, rv⟩ := rvs_one r
  obtain ⟨a, xs, rfl, ha1, hH, tv⟩ := dct_ok o rv hc
  exact ⟨a, ep, xs, rfl, hH, ha.rol o q (keys_rv tv)⟩
/-- for k in d -/
def ItX (a : Addr) (ep n : Nat) : It :=
  ⟨fun i H => (∃ xs, H a = some (.ext (DctObj a ep xs)) ∧ xs.length = n) ∧ i < n, fun i H x H' => H' = H ∧ ∀ xs, H a = some (.ext (DctObj a ep xs)) → ∃ q, xs[i]? = some q ∧ x = .ref q.2.1, fun i H => (∃ xs, H a = some (.ext (DctObj a ep xs)) ∧ xs.length = n) ∧ n ≤ i⟩
theorem dct_ent {pins : List (Addr × Obj)} {σ : St} {H : Hp} {s : Shared} {a : Addr} {ep : Nat} {xs : List (List Int × Addr × V)} (I : Inv X pins σ H s) (h : H a = some (.ext (DctObj a ep xs))) :
    (a == sysModules) = false ∧ ∃ (o : Obj) (es : Array DictEntry), s.heap.get? a = some o ∧ o.ExactDict ∧ o.data = .dict es ep ∧ es.size = xs.length ∧ ∀ (i : Nat) (q : List Int × Addr × V), xs[i]? = some q → ∃ en : DictEntry, es[i]? = some en ∧ en.key = Value.ref q.2.1 := by
  obtain ⟨⟨hs, hz, ys, o, es, pr, ho, hx, hdt, he, _⟩, _⟩ := (show ObjOk X.prog X.w H s.heap a (.ext (DctObj a ep xs)) from I.hok a _ h)
  have l1 : es.size = ys.length := by rw [← Array.length_toList, he, List.length_map]
  have l2 : xs.length = ys.length := Paired.length pr
  refine ⟨hs, o, es, ho, hx, hdt, by omega, fun i q hq => ?_⟩
  obtain ⟨y, hy, e1, e2, e3⟩ := paired_get pr hq
  refine ⟨entT y, ?_, by rw [e2]; rfl⟩
  rw [← Array.getElem?_toList, he, List.getElem?_map, hy]
  rfl
theorem turn_keysX {P : Program} {w : World} {K : PySem.W.Frag} {tg : Expr} {a : Addr} {ep n : Nat} (it : Addr) : Turn P w K tg (ItX a ep n) [it] it (fun i h => h.IsKeyIter it a i n ep) where
  mem := by simp
  obj := fun i h st b hb => by
    have e : b = it := by simpa using hb
    subst e
    obtain ⟨oi, e, c, dd⟩ := st
    exact ⟨oi, e, fun v z => by rw [dd] at z; cases z⟩
  keep := fun i h h' st k => st.at fun oi e => k it (by simp) oi e
  item := by
    intro X hP hw hK hc i pins s σ H E I hf st hg
    subst hP hw hK
    obtain ⟨⟨xs, hd, hn⟩, hi⟩ := hg
    obtain ⟨f0, f1, f2, f3, f4, f5⟩ := hf it (by simp)
    obtain ⟨hs, o, es, ho, hx, hdt, hsz, ent⟩ := dct_ent I hd
    obtain ⟨q, hq⟩ : ∃ q, xs[i]? = some q := ⟨xs[i]'(by omega), List.getElem?_eq_getElem (by omega)⟩
    obtain ⟨en, hen, hkey⟩ := ent i q hq
    refine next_key_item st ho hdt (by omega) hen fun h' st' sb => ?_
    have I1 : Inv X pins σ H { s with heap := h' } := I.turned (t' := s.toks) (fun b ob hb e => (sb.2 b hb).trans e) f0 f1 f3 f4 f5
    obtain ⟨oi, e, c, dd⟩ := id st'
    refine ⟨en.key, rfl, go_of (s := { s with heap := h' }) e c dd (by decide) ⟨.ref q.2.1, H, I1, hkey, ⟨rfl, fun xs' hd' => ?_⟩, st', fun b hb => (hf b hb).1⟩⟩
    obtain ⟨_, o', es', ho', _, hdt', hsz', ent'⟩ := dct_ent I hd'
    rw [ho] at ho'
    cases ho'
    obtain ⟨rfl, _⟩ := dict_ep hdt hdt'
    obtain ⟨q', hq'⟩ : ∃ q, xs'[i]? = some q := ⟨xs'[i]'(by omega), List.getElem?_eq_getElem (by omega)⟩
    obtain ⟨en', hen', hkey'⟩ := ent' i q' hq'
    rw [hen] at hen'
    cases hen'
    rw [hkey] at hkey'
    injection hkey' with hk
    exact ⟨q', hq', by rw [hk]⟩
  done := by
    intro X hP hw hK hc i pins s σ H E I hf st hg
    subst hP hw hK
    obtain ⟨⟨xs, hd, hn⟩, hi⟩ := hg
    obtain ⟨f0, f1, f2, f3, f4, f5⟩ := hf it (by simp)
    obtain ⟨hs, o, es, ho, hx, hdt, hsz, ent⟩ := dct_ent I hd
    exact next_key_end (I.ok.hd hc) st ho hdt (by omega) hi fun h' eb => ⟨rfl, I.turned (t' := s.toks) (fun b ob hb e => eb b ob hb e) f0 f1 f3 f4 f5⟩
  self := fun A i s Q E st h => by
    refine wpAny_pyIter_slot st.typeIs F.slot_dict_keyiterator_iter (wpAny_call_entry F.slot_dict_keyiterator_iter st.typeIs F.entry_dict_keyiterator_iter ?_ (F.args_dict_keyiterator_iter_1 _))
    show wpAny _ _ (ret (.ref it)) _ _ s
    exact wpAny_pure ⟨_, rfl, "dict_keyiterator", _, st.typeIs, F.slot_dict_keyiterator_next.lookup, h⟩
theorem it_keysX {K : PySem.W.Frag} {a : Addr} {n ep : Nat} {kvs : List (List Int × D)} {μ : Mu} {H : Hp} (h1 : μ.lo[n]? = some a) : ItOk K (ItX a ep kvs.length) (kvs.map fun p => .tup (p.1.map D.int)) [(n, .dct ep kvs)] μ H := by
  intro μ' H' S' e' o' hg i
  obtain ⟨xs, z1, z2⟩ := o'.addr (hg (n, .dct ep kvs) (by simp)) (e'.lo _ _ h1)
  have hl : xs.length = kvs.length := TvOk.len z2
  refine ⟨fun d hd => ?_, fun hle => ⟨⟨xs, z1, hl⟩, by rw [List.length_map] at hle; exact hle⟩⟩
  have hi : i < kvs.length := by
    have := (List.getElem?_eq_some_iff.mp hd).1
    rw [List.length_map] at this
    exact this
  refine ⟨⟨⟨xs, z1, hl⟩, hi⟩, fun x H2 ⟨eH, hx⟩ => ?_⟩
  subst eH
  obtain ⟨q, hq, rfl⟩ := hx xs z1
  refine ⟨Ext.refl, o', ?_⟩
  have rr := keys_rv z2
  obtain ⟨v, hv, rv⟩ := rr.get hd
  rw [List.getElem?_map, hq] at hv
  cases hv
  exact rv
theorem ji_dct {tg : Expr} {we : WE} (he : JE X e we) : JI X tg e (wItD we) := by
  refine ⟨fun pins s σ H R I ⟨μ, ρ, S, Q, hs, ho, hw, ha⟩ => ?_⟩
  refine thn (he.run pins s σ H (fun v H1 => ∃ μ1 S1 n ep kvs, Ext μ μ1 H H1 ∧ StoOk X.K H1 μ1 S1 ∧ RV X.K H1 μ1 v (.loc n) ∧ S1[n]? = some (.dct ep kvs) ∧ Q (kvs.map fun p => .tup (p.1.map D.int)) [(n, .dct ep kvs)] S1) I
    ⟨μ, ρ, S, _, hs, ho, hw, fun x S1 ⟨n, ep, kvs, ex, hc, q⟩ v H1 μ1 e1 o1 r1 => ⟨μ1, S1, n, ep, kvs, e1, o1, by rw [← ex]; exact r1, hc, q⟩⟩) fun u s1 ⟨v, H1, I1, rx, μ1, S1, n, ep, kvs, e1, o1, r1, hc, q⟩ => ?_
  obtain ⟨a, xs, rfl, ha1, hH, tv⟩ := dct_ok o1 r1 hc
  obtain rfl : u = Value.ref a := rx
  obtain ⟨hs2, o, es, hgd, hx, hdt, hsz, ent⟩ := dct_ent I1 hH
  refine iter_keys hs2 hgd hx hdt (pi_one (tk := s1.toks) I1 _ (turn_keysX (n := kvs.length) _) ⟨_, Heap.get?_push_size _ rfl, rfl, ?_⟩ (ha _ _ _ q _ _ _ e1 o1 (it_keysX ha1)))
  rw [hsz, tv.len] <;> rfl
end
end DL
namespace DL
open PySem PySem.Spec L2
open PyProof.Rows hiding St
/-! ## sorted of a list of at most one thing -/
section
variable {prog : Program} {w : World} {A : Around} {E : Value → Shared → Prop} {s : Shared}
theorem sort_few {a : Addr} {vs : List Value} {n : Nat} {P : PySem.Fin → Shared → Prop} (ho : s.heap.get? a = some (seqObj "list" vs.toArray n)) (h1 : vs.length < 2)
    (h : ∀ out : Array Value, out.toList.Perm vs → P (.done (.ret .none)) { s with heap := sortedHeap s.heap a vs out }) :
    wpAny (model prog w) A (Builtin.«list.sort» ⟨[.ref a], []⟩) P E s := by
  refine SK.plain_sort (r := fun _ : Value => (0 : Int)) ho (by omega) (fun h2 Q hQ => by omega) fun ps out h1 h2 h3 => ?_
  obtain ⟨p, o⟩ := TS.out_rank (r := fun _ => 0) h1 h2 h3
  exact h out p
theorem sorted_few {l : Addr} {vs : List Value} {Q : Value → Shared → Prop} (hl : s.heap.IsList l vs.toArray) (h1 : vs.length < 2)
    (h : ∀ out : Array Value, out.toList.Perm vs → Q (.ref (s.heap.objs.size + 1)) { s with heap := sortedAll s.heap vs out }) :
    wpAny (model prog w) A (call (.builtin "sorted") [.ref l]) Q E s := by
  refine Calls.call_function_entry kind_sorted plain_sorted entry_sorted (args_sorted1 _) ?_
  unfold Builtin.«sorted»
  refine wpAny_bind (m := checkCount "sorted" 1 1 _) (wpAny_pure ?_)
  refine wpAny_bind (collect_list hl ?_ (by rw [sizeLine_eq]; omega))
  refine wpAny_bind (wpAny_newList ?_ (by rw [sizeLine_eq]; omega))
  have hsz : ((s.heap.push (seqObj "list" #[] 0)).update s.heap.objs.size (Obj.mapSeq (· ++ vs.toArray))).objs.size = s.heap.objs.size + 1 := by
    rw [Heap.size_update, size_push']
  have hoL : (((s.heap.push (seqObj "list" #[] 0)).update s.heap.objs.size (Obj.mapSeq (· ++ vs.toArray))).push (seqObj "list" vs.toArray 0)).get? (s.heap.objs.size + 1) = some (seqObj "list" vs.toArray 0) := by
    rw [← hsz]; exact Heap.get?_push_size _ rfl
  show wpAny _ _ _ _ _ { s with heap := ((s.heap.push (seqObj "list" #[] 0)).update s.heap.objs.size (Obj.mapSeq (· ++ vs.toArray))).push (seqObj "list" vs.toArray 0) }
  rw [hsz]
  refine wpAny_bind (wpAny_holding (wpAny_call_entry slot_list_sort ⟨_, hoL, rfl⟩ entry_list_sort (sort_few hoL h1 fun out a1 => ⟨_, rfl, ?_⟩) (args_list_sort _)))
  exact wpAny_pure ⟨_, rfl, h out a1⟩
end
theorem perm_few {α : Type} {l : List α} : ∀ {m : List α}, l.Perm m → m.length < 2 → l = m
  | [], h, _ => List.perm_nil.mp h
  | [v], h, _ => List.perm_singleton.mp h
  | _ :: _ :: _, _, h => by rw [List.length_cons, List.length_cons] at h; omega
section
variable {X : Cx}
def rFew (K : PySem.W.Frag) : List V → Hp → VK → Prop := fun vs H Q => ∃ (a : Addr) (xs : List V), vs = [V.ref a] ∧ SqL K H a xs ∧ xs.length < 2 ∧ ∀ p, H p = none → Q (.ref p) (upd H p (.lst xs))
theorem cr_few : CallR X (.builtin "sorted") (rFew X.K) := by
  intro pins s σ H vs us Q I r h
  obtain ⟨a, xs, rfl, hs, h1, q⟩ := h
  obtain ⟨its, rv, hl, hz⟩ := I.list hs
  rw [Vals.ref1 r]
  have hi := rv.length
  refine sorted_few hl.isList (by omega) fun out h2 => ?_
  obtain ⟨ep, he'⟩ := PyProof.Rows.sortedAll_at s.heap its out
  have e : out.toList = its := perm_few h2 (by rw [← hi]; exact h1)
  rw [← e] at rv
  exact ⟨.ref _, upd H (s.heap.objs.size + 1) (.lst xs), I.laid (t' := s.toks) (fun _ _ => PyProof.Rows.sortedAll_old) (Nat.le_succ _) ⟨hz, out.toList, ep, rv, he'⟩, rfl, q _ (I.hok.fresh (Nat.le_succ _))⟩
/-- sorted of tuples of ints, or of at most one of them -/
def gSortU : GL := fun ds S Q => gSortT ds S Q ∨ ∃ d xs, ds = [d] ∧ rdL S d = some xs ∧ xs.length < 2 ∧ Q (.rol xs) S
theorem c_sortU : CallJ X (.builtin "sorted") gSortU := by
  obtain ⟨r, h1, h2⟩ := (c_sortT (X := X)).ex
  refine ⟨fun vs H Q => r vs H Q ∨ rFew X.K vs H Q, ?_, ?_⟩
  · intro pins s σ H vs us Q I r h
    rcases h with h | h
    · exact h1 pins s σ H vs us Q I r h
    · exact cr_few pins s σ H vs us Q I r h
  · intro μ H S ds vs Q R o r q ha
    rcases q with q | ⟨d, xs, ed, hx, hl, q⟩
    · exact .inl (h2 o r q ha)
    · subst ed
      obtain ⟨v, rfl, r1⟩ := rvs_one r
      obtain ⟨a, ws, rfl, hs, rs⟩ := rdL_ok o r1 hx
      exact .inr ⟨a, ws, rfl, hs, by rw [rs.length]; exact hl, fun p hp => ha.rol o q rs p hp⟩
end
end DL
namespace DL
open PySem PySem.Spec L2
open PyProof.Rows hiding St
/-! ## data compared by < <= > >= -/
def gCmp (f : PyData → PyData → Bool) : G2 := fun x y S Q => okP (view S x) = true ∧ okP (view S y) = true ∧ PySem.W.alike (toP (view S x)) (toP (view S y)) = true ∧ toP (view S x) ≠ .none ∧ (toP (view S x)).depth ≤ 64 ∧ Q (.bl (f (toP (view S x)) (toP (view S y)))) S
abbrev gLtD : G2 := gCmp fun a b => PySem.W.dataLt a b
abbrev gGtD : G2 := gCmp fun a b => PySem.W.dataLt b a
abbrev gLeD : G2 := gCmp fun a b => !PySem.W.dataLt b a
abbrev gGeD : G2 := gCmp fun a b => !PySem.W.dataLt a b
def rCmp (K : PySem.W.Frag) (f : PyData → PyData → Bool) : R2 := fun x y H Q => ∃ d e, Dp K H x d ∧ Dp K H y e ∧ PySem.W.alike d e = true ∧ d ≠ .none ∧ d.depth ≤ 64 ∧ Q (.bl (f d e)) H
section
variable {X : Cx}
theorem cmp_to {f : PyData → PyData → Bool} {μ : Mu} {H : Hp} {S : Sto} {x y : D} {v u : V} {Q : QD} {R : VK} (o : StoOk X.K H μ S) (rx : RV X.K H μ v x) (ry : RV X.K H μ u y) (q : gCmp f x y S Q) (ha : After X.K Q μ H R) : rCmp X.K f v u H R :=
  ⟨_, _, view_dp o rx q.1, view_dp o ry q.2.1, q.2.2.1, q.2.2.2.1, q.2.2.2.2.1, ha.here o q.2.2.2.2.2 (rv_bl.mpr rfl)⟩
theorem op_cmp {op : CmpOp} {f : PyData → PyData → Bool} (hu : X.A.units + 64 < cLine)
    (rule : ∀ {s : Shared} {a b : Value} {da db : PyData} {as bs : List Addr} {E Q : Value → Shared → Prop}, Reads s.heap a da as → Reads s.heap b db bs → PySem.W.alike da db = true → da ≠ .none → X.A.units + min da.depth db.depth < cLine → Q (.bool (f da db)) s → wpAny (model X.prog X.w) X.A (compareOp op a b) Q E s) : OpR X (compareOp op) (rCmp X.K f) := by
  intro pins s σ H x y v u Q I rx ry ⟨d, e, h1, h2, h3, h4, h5, q⟩
  obtain ⟨as, r1⟩ := Dp.reads I d x v h1 rx
  obtain ⟨bs, r2⟩ := Dp.reads I e y u h2 ry
  exact rule r1 r2 h3 h4 (by have := Nat.min_le_left d.depth e.depth; omega) ⟨.bl (f d e), H, I, rfl, q⟩
theorem j_ltD (hu : X.A.units + 64 < cLine) : OpJ X (compareOp .Lt) gLtD := ⟨_, op_cmp hu fun a b c d e q => PySem.W.lt_data a b c d e q, cmp_to⟩
theorem j_gtD (hu : X.A.units + 64 < cLine) : OpJ X (compareOp .Gt) gGtD := ⟨_, op_cmp hu fun a b c d e q => PySem.W.gt_data a b c d e q, cmp_to⟩
theorem j_leD (hu : X.A.units + 64 < cLine) : OpJ X (compareOp .LtE) gLeD := ⟨_, op_cmp hu fun a b c d e q => PySem.W.le_data a b c d e q, cmp_to⟩
theorem j_geD (hu : X.A.units + 64 < cLine) : OpJ X (compareOp .GtE) gGeD := ⟨_, op_cmp hu fun a b c d e q => PySem.W.ge_data a b c d e q, cmp_to⟩
end
/-- tuples of ints -/
def toksI : List Int → List (Int ⊕ List Nat)
  | [] => [.inl 0]
  | i :: l => .inl 1 :: .inl i :: toksI l
theorem toks_ints : ∀ k : List Int, PySem.W.keyToksAll (toPs (k.map D.int)) = toksI k
  | [] => by rw [List.map_nil, toPs, PySem.W.keyToksAll, toksI]
  | i :: k => by rw [List.map_cons, toPs, toP, PySem.W.keyToksAll, PySem.W.keyToks, toks_ints k, toksI]; rfl
theorem lexLt_same {x : Int ⊕ List Nat} {a b : List (Int ⊕ List Nat)} : PyProof.Rows.lexLt itemOrd (x :: a) (x :: b) = PyProof.Rows.lexLt itemOrd a b := by
  rw [PyProof.Rows.lexLt]
  rw [itemOrd.irrefl x]; rfl
theorem lexLt_toks : ∀ (a b : List Int) (u v : List (Int ⊕ List Nat)), PyProof.Rows.lexLt itemOrd (toksI a ++ u) (toksI b ++ v) = (HT.lexLt a b || (decide (a = b) && PyProof.Rows.lexLt itemOrd u v))
  | [], [], u, v => by
    rw [toksI, List.singleton_append, List.singleton_append, lexLt_same, HT.lexLt_nil_nil]; simp
  | [], j :: b, u, v => by
    rw [toksI, toksI, HT.lexLt_nil_cons]
    rfl
  | i :: a, [], u, v => by
    rw [toksI, toksI, HT.lexLt_cons_nil]
    simp [PyProof.Rows.lexLt, itemOrd, itemLt]
  | i :: a, j :: b, u, v => by
    simp only [toksI, List.cons_append]
    rw [lexLt_same, HT.lexLt_cons]
    by_cases e : i = j
    · subst e
      rw [lexLt_same, lexLt_toks a b u v, if_pos rfl]
      simp
    · rw [if_neg e]
      have : PyProof.Rows.lexLt itemOrd (.inl i :: (toksI a ++ u)) (.inl j :: (toksI b ++ v)) = decide (i < j) := by
        rw [PyProof.Rows.lexLt]
        show (decide (i < j) || !decide (j < i) && _) = _
        by_cases l : i < j
        · rw [decide_eq_true l]; rfl
        · rw [decide_eq_false l, decide_eq_true (show j < i by omega)]; rfl
      rw [this]
      have : decide (i :: a = j :: b) = false := decide_eq_false (by simp; exact fun z => absurd z e)
      rw [this]; simp
theorem dataLt_ints (a b : List Int) : PySem.W.dataLt (.tuple (toPs (a.map D.int))) (.tuple (toPs (b.map D.int))) = HT.lexLt a b := by
  unfold PySem.W.dataLt
  rw [PySem.W.keyToks, PySem.W.keyToks, toks_ints, toks_ints]
  have := lexLt_toks a b [] []
  rw [List.append_nil, List.append_nil] at this
  rw [this]
  have : PyProof.Rows.lexLt itemOrd [] [] = false := by rw [PyProof.Rows.lexLt]
  rw [this]; simp
theorem alike_ints : ∀ a b : List Int, PySem.W.alikeAll (toPs (a.map D.int)) (toPs (b.map D.int)) = true
  | [], b => by rw [List.map_nil, toPs, PySem.W.alikeAll]
  | i :: a, [] => by rw [List.map_nil, List.map_cons, toPs, toPs, PySem.W.alikeAll]
  | i :: a, j :: b => by rw [List.map_cons, List.map_cons, toPs, toPs, PySem.W.alikeAll, toP, toP, PySem.W.alike, alike_ints a b]; rfl
/-- tuples of ints compared -/
theorem okPs_ints : ∀ k : List Int, okPs (k.map D.int) = true
  | [] => rfl
  | i :: k => by rw [List.map_cons, okPs, okPs_ints k]; rfl
theorem depth_ints : ∀ k : List Int, PyData.depthAll (toPs (k.map D.int)) = 0
  | [] => by rw [List.map_nil, toPs, PyData.depthAll]
  | i :: k => by rw [List.map_cons, toPs, toP, PyData.depthAll, depth_ints k, PyData.depth]; rfl
theorem gCmp_ints {f : PyData → PyData → Bool} {a b : List Int} {S : Sto} {Q : QD} (q : Q (.bl (f (.tuple (toPs (a.map D.int))) (.tuple (toPs (b.map D.int))))) S) : gCmp f (.tup (a.map D.int)) (.tup (b.map D.int)) S Q := by
  refine ⟨okPs_ints a, okPs_ints b, ?_, ?_, ?_, ?_⟩
  · show PySem.W.alike (toP (.tup _)) (toP (.tup _)) = true
    rw [toP, toP, PySem.W.alike]; exact alike_ints a b
  · show toP (.tup _) ≠ _
    rw [toP]; exact fun z => nomatch z
  · show (toP (.tup _)).depth ≤ 64
    rw [toP, PyData.depth, depth_ints]; decide
  · show Q (.bl (f (toP (.tup _)) (toP (.tup _)))) S
    rw [toP, toP]; exact q
/-- a number and a tuple of ints -/
def pairI (i : Int) (k : List Int) : D := .tup [.int i, .tup (k.map D.int)]
theorem lexLt_two {i j : Int} {u v : List (Int ⊕ List Nat)} : PyProof.Rows.lexLt itemOrd (.inl i :: u) (.inl j :: v) = if i = j then PyProof.Rows.lexLt itemOrd u v else decide (i < j) := by
  by_cases e : i = j
  · subst e; rw [lexLt_same, if_pos rfl]
  · rw [if_neg e, PyProof.Rows.lexLt]
    show (decide (i < j) || !decide (j < i) && _) = _
    by_cases l : i < j
    · rw [decide_eq_true l]; rfl
    · rw [decide_eq_false l, decide_eq_true (show j < i by omega)]; rfl
theorem toks_pair (i : Int) (k : List Int) : PySem.W.keyToks (toP (pairI i k)) = .inl 1 :: .inl i :: .inl 1 :: (toksI k ++ [.inl 0]) := by
  unfold pairI
  simp only [toP, toPs, PySem.W.keyToks, PySem.W.keyToksAll, toks_ints, List.singleton_append, List.cons_append, List.nil_append]
theorem dataLt_pair (i j : Int) (a b : List Int) : PySem.W.dataLt (toP (pairI i a)) (toP (pairI j b)) = if i = j then HT.lexLt a b else decide (i < j) := by
  unfold PySem.W.dataLt
  rw [toks_pair, toks_pair, lexLt_same, lexLt_two, lexLt_same, lexLt_toks, lexLt_same]
  have : PyProof.Rows.lexLt itemOrd [] [] = false := by rw [PyProof.Rows.lexLt]
  rw [this]; simp
theorem gCmp_pair {f : PyData → PyData → Bool} {i j : Int} {a b : List Int} {S : Sto} {Q : QD} (q : Q (.bl (f (toP (pairI i a)) (toP (pairI j b)))) S) : gCmp f (.tup [.int i, .tup (a.map D.int)]) (.tup [.int j, .tup (b.map D.int)]) S Q := by
  refine ⟨?_, ?_, ?_, ?_, ?_, q⟩
  · show (true && (okPs (a.map D.int) && true)) = true
    rw [okPs_ints]; rfl
  · show (true && (okPs (b.map D.int) && true)) = true
    rw [okPs_ints]; rfl
  · show PySem.W.alike (toP (.tup _)) (toP (.tup _)) = true
    simp only [toP, toPs, PySem.W.alike, PySem.W.alikeAll, alike_ints]; rfl
  · show toP (.tup _) ≠ _
    rw [toP]; exact fun z => nomatch z
  · show (toP (.tup _)).depth ≤ 64
    simp only [toP, toPs, PyData.depth, PyData.depthAll, depth_ints]; decide
/-! ## len(set(..)) of tuples of ints -/
def rLenSetT (P : Program) (w : World) : List V → Hp → VK → Prop := fun vs H Q => ∃ (a : Addr) (L : List (Addr × List Int)), vs = [V.ref a] ∧ H a = some (SetTO P w a L) ∧ ((L.map (·.2)).Nodup → Q (.int (L.length : Nat)) H)
def wLenSetT (we : WE) : WE := fun ρ S Q => we ρ S fun d S1 => ∃ ks : List (List Int), rdL S1 d = some (ks.map tupI) ∧ ks.length < 64 ∧ ∀ L : List (List Int), L.Nodup → (∀ k, k ∈ L ↔ k ∈ ks) → Q (.int (L.length : Nat)) S1
section
variable {X : Cx} {e : Expr} {we : WE} {p p2 q pos : Pos}
theorem cr_lenSetT : CallR X (.builtin "len") (rLenSetT X.prog X.w) := by
  intro pins s σ H xs us Q I r ⟨a, L, hv, ha, k⟩
  subst hv
  rw [Vals.ref1 r]
  obtain ⟨⟨es, ep, t, ⟨o, ho, hx, hd⟩, he, tk, nd, pl, _, lm, l64⟩, _⟩ := (show ObjOk X.prog X.w H s.heap a (SetTO X.prog X.w a L) from I.hok a _ ha)
  have sz : es.size = L.length := by rw [← Array.length_toList, he]; simp [rowsOf]
  refine call_len_set ho hx hd ?_ (by omega) ⟨.int es.size, H, I.tok _, ⟨_, rfl⟩, by rw [sz]; exact k nd⟩
  have h1 := tk.sz
  rw [List.length_map] at h1
  have h2 := tk.dm
  unfold SetTable.fits SetTable.fill
  simp [h1, h2, sz]
  omega
theorem je_lenSetT (hc : X.calm = true) (hu : X.A.units + 64 < cLine) (hg : Gl X "len") (hm : X.mg "len" = none) (hg2 : Gl X "set") (hm2 : X.mg "set" = none) (he : JE X e we) (hs : starEach [e] X.env = (false, eval e X.env) :: starEach [] X.env := by rfl) : JE X (.Call (.Name "len" p) [.Call (.Name "set" p2) [e] [] q] [] pos) (wLenSetT we) := by
  refine PE.imp (pe_callB cr_lenSetT hg hm PySem.boot_len (pa_cons (pe_callTy (cr_setOfT hc hu) hg2 hm2 bt_set (pa_cons he pa_nil hs) (he := hs)) pa_nil)) fun σ H R ⟨μ, ρ, S, Q, hs, ho, hw, ha⟩ => ?_
  refine ⟨μ, ρ, S, _, hs, ho, hw, fun d S1 ⟨ks, hx, hn, hq⟩ v H1 μ1 e1 o1 r1 => ?_⟩
  obtain ⟨l, vs, rfl, hl, rs⟩ := rdL_ok o1 r1 hx
  obtain ⟨as, ea, ta⟩ : ∃ as : List (Addr × List Int), vs = as.map (fun p => V.ref p.1) ∧ as.map (·.2) = ks ∧ ∀ p ∈ as, SqT X.K H1 p.1 (p.2.map V.int) := by
    clear hl hx hn hq
    induction ks generalizing vs with
    | nil => rw [List.map_nil, RVs] at rs; subst rs; exact ⟨[], rfl, rfl, fun _ h => nomatch h⟩
    | cons k ks ih =>
      rw [List.map_cons, RVs] at rs
      obtain ⟨v, r, rfl, h1, h2⟩ := rs
      obtain ⟨as, rfl, e2, h3⟩ := ih r h2
      obtain ⟨a, us, rfl, ht, ru⟩ := rv_tup.mp h1
      rw [rvs_ints_eq ru] at ht
      refine ⟨(a, k) :: as, rfl, by rw [List.map_cons, e2], fun p hp => ?_⟩
      rcases List.mem_cons.mp hp with rfl | hp
      · exact ht.sq
      · exact h3 p hp
  obtain ⟨ek, ta⟩ := ta
  subst ea
  refine ⟨l, as, rfl, hl, ta, by rw [← ek, List.length_map] at hn; exact hn, fun a L new h1 h2 => ⟨a, L, rfl, upd_same, fun nd => ?_⟩⟩
  have ex := Ext.alloc (μ := μ1) (o := SetTO X.prog X.w a L) new
  have := hq (L.map (·.2)) nd fun k => by
    rw [← ek]
    constructor
    · intro h
      obtain ⟨p, hp, rfl⟩ := List.mem_map.mp h
      exact List.mem_map.mpr ⟨p, h1 p hp, rfl⟩
    · intro h
      obtain ⟨p, hp, rfl⟩ := List.mem_map.mp h
      exact h2 p hp
  rw [List.length_map] at this
  exact ha _ _ this _ _ _ (e1.trans ex) (o1.alloc new) (rv_int.mpr rfl)
end
end DL
namespace DL
open PySem PySem.Spec L2
open PyProof.Rows hiding St
/-! ## a tuple, turned round -/
theorem sliceApplied_rev {prog : Program} {w : World} {A : Around} {E : Value → Shared → Prop} {s : Shared} {sl : Addr} {vl vu vs : Value} {n : Nat} {Q : Int × Int × Nat → Shared → Prop}
    (hs : s.heap.IsSliceOf sl vl vu vs) (pl : IsPart vl none) (pu : IsPart vu none) (ps : IsPart vs (some (-1))) (h : Q ((n : Int) - 1, -1, n) s) : wpAny (model prog w) A (Builtin.Slice.sliceApplied (.ref sl) (pure (n : Int))) Q E s := by
  obtain ⟨os, hos, hcs, hds⟩ := hs
  unfold Builtin.Slice.sliceApplied Builtin.Slice.sliceFields
  refine wpAny_bind (wpAny_bind (wpAny_field hos hds rfl (wpAny_bind (wpAny_field hos hds rfl (wpAny_bind (wpAny_field hos hds rfl (wpAny_pure ?_)))))))
  refine wpAny_bind (HT.slicePart_ ps ?_)
  show wpAny _ _ (if ((-1 : Int) == 0) = true then _ else _) _ _ _
  rw [if_neg (by decide)]
  refine wpAny_bind (HT.slicePart_ pl (wpAny_bind (HT.slicePart_ pu (wpAny_bind (wpAny_pure ?_)))))
  refine wpAny_pure ?_
  have e : Builtin.Slice.slicePlaces ((n : Int) - 1) (-1) (-1) = n := by
    unfold Builtin.Slice.slicePlaces
    rw [if_neg (by decide)]
    by_cases z : ((n : Int) - 1) > -1
    · rw [if_pos z]
      have : -(-1 : Int) = 1 := rfl
      rw [this, Int.ediv_one]
      omega
    · rw [if_neg z]; omega
  show Q ((n : Int) - 1, -1, Builtin.Slice.slicePlaces ((n : Int) - 1) (-1) (-1)) s
  rw [e]; exact h
theorem filterMap_some {α β : Type} {f : α → Option β} {g : α → β} : ∀ {l : List α}, (∀ x ∈ l, f x = some (g x)) → l.filterMap f = l.map g
  | [], _ => rfl
  | x :: l, h => by
    rw [List.filterMap_cons_some (h x List.mem_cons_self), filterMap_some fun y hy => h y (List.mem_cons_of_mem _ hy)]
    rfl
theorem pick_rev (xs : Array Value) : (List.filterMap (fun k : Nat => xs[(((xs.size : Nat) : Int) - 1 + (k : Int) * -1).toNat]?) (List.range xs.size)).toArray = xs.toList.reverse.toArray := by
  congr 1
  apply List.ext_getElem?
  intro i
  have e : List.filterMap (fun k : Nat => xs[(((xs.size : Nat) : Int) - 1 + (k : Int) * -1).toNat]?) (List.range xs.size) = (List.range xs.size).map fun k => xs.getD (xs.size - 1 - k) .none := by
    refine filterMap_some fun k hk => ?_
    have hk := List.mem_range.mp hk
    have e1 : (((xs.size : Nat) : Int) - 1 + (k : Int) * -1).toNat = xs.size - 1 - k := by omega
    rw [e1]
    have hlt : xs.size - 1 - k < xs.size := by omega
    simp [Array.getD, hlt]
  rw [e, List.getElem?_map]
  by_cases hi : i < xs.size
  · rw [List.getElem?_range hi, List.getElem?_reverse (by simpa using hi)]
    have hlt : xs.size - 1 - i < xs.size := by omega
    simp [Array.getD, hlt]
  · rw [List.getElem?_eq_none (by simpa using hi), List.getElem?_eq_none (by simpa using hi)]
    rfl
theorem getItem_tuple_rev {prog : Program} {w : World} {A : Around} {E : Value → Shared → Prop} {s : Shared} {t sl : Addr} {items : Array Value} {vl vu vs : Value} {Q : Value → Shared → Prop}
    (ht : IsTup s.heap t items) (hs : s.heap.IsSliceOf sl vl vu vs) (pl : IsPart vl none) (pu : IsPart vu none) (ps : IsPart vs (some (-1)))
    (h : Q (.ref s.heap.objs.size) { s with heap := s.heap.push { cls := .type "tuple", data := .seq items.toList.reverse.toArray } }) (hsz : items.size ≤ sizeLine) : wpAny (model prog w) A (getItem (.ref t) (.ref sl)) Q E s := by
  obtain ⟨os, hos, hcs, hds⟩ := id hs
  have hTs : s.TypeIs (.ref sl) "slice" := ⟨os, hos, hcs⟩
  refine wpAny_holding (wpAny_bind (wpAny_sequenceKey ht.typeIs (by decide) (wpAny_bind (wpAny_callSpecial?_slot ht.typeIs slot_tuple_getitem (wpAny_call_entry slot_tuple_getitem ht.typeIs entry_tuple_getitem ?_ (args_tuple_getitem _ _))))))
  refine wpAny_bind (show wpAny _ _ (pure (Value.ref t, [Value.ref sl])) _ _ _ from wpAny_pure ?_)
  refine wpAny_bind (tupleItemsOf_ ht (wpAny_bind (wpAny_typeOf hTs ?_)))
  rw [if_pos (by decide)]
  refine wpAny_bind (sliceApplied_rev hs pl pu ps ?_)
  show wpAny _ _ (if (((items.size : Int) - 1 == 0) && ((-1 : Int) == 1) && (items.size == items.size)) = true then _ else _) _ _ _
  rw [if_neg (by simp)]
  show wpAny _ _ (Builtin.Tuple.tupleExact (List.filterMap (fun k : Nat => items[(((items.size : Nat) : Int) - 1 + (k : Int) * -1).toNat]?) (List.range items.size)).toArray >>= fun r => ret r) _ _ _
  rw [pick_rev]
  exact wpAny_bind (wpAny_newObj_type (wpAny_pure ⟨.ref s.heap.objs.size, rfl, wpAny_pure h⟩) (by show items.toList.reverse.toArray.size ≤ sizeLine; simpa using hsz))
def tRevT (K : PySem.W.Frag) (te : TE) : TE := fun σ H Q => te σ H fun x H1 => ∃ a xs, x = V.ref a ∧ SqT K H1 a xs ∧ ∀ p : Addr, H1 p = none → Q (.ref p) (upd H1 p (.tup xs.reverse))
section
variable {X : Cx}
theorem pe_revT {e : Expr} {te : TE} {k : Nat} {p1 p2 p3 pos : Pos} (he : PE X e te) : PE X (.Subscript e (.Slice none none (some (.UnaryOp .USub (.Constant (.int 1) k p1) p2)) p3) pos) (tRevT X.K te) := by
  refine ⟨fun pins s σ H Q I h => Subscript_ (L2.thn (he.run pins s σ H _ I h) ?_)⟩
  rintro v s1 ⟨x, H1, I1, rx, a, xs, rfl, ht, hq⟩
  have st := po_some (pe_un (pos := p2) (un_neg (X := X)) (pe_int (X := X) (i := 1) (j := k) (pos := p1)))
  refine wpAny_Slice (L2.thn ((po_none (X := X)).run pins s1 σ H1 (fun o H2 => o = none ∧ H2 = H1) I1 ⟨rfl, rfl⟩) ?_)
  rintro vl s2 ⟨_, _, I2, pl, e2, f2⟩
  rw [e2] at pl; rw [f2] at I2
  refine L2.thn ((po_none (X := X)).run pins s2 σ H1 (fun o H2 => o = none ∧ H2 = H1) I2 ⟨rfl, rfl⟩) ?_
  rintro vu s3 ⟨_, _, I3, pu, e3, f3⟩
  rw [e3] at pu; rw [f3] at I3
  refine L2.thn (st.run pins s3 σ H1 (fun o H2 => o = some (-1) ∧ H2 = H1) I3 ⟨1, rfl, -1, rfl, rfl, rfl⟩) ?_
  rintro vs s4 ⟨_, _, I4, ps, e4, f4⟩
  rw [e4] at ps; rw [f4] at I4
  have I5 := I4.kept (h' := s4.heap.push { cls := .type "slice", data := .fields #[vl, vu, vs] }) (t' := s4.toks) (fun b u q => Heap.get?_push_of_some _ q)
  obtain ⟨its, rv, it, hz⟩ := I5.tuple ht
  have hv : v = .ref a := rx
  subst hv
  refine tail_any it.typeIs slot_tuple_getitem.lookup (getItem_tuple_rev it (Heap.IsSliceOf.new s4.heap vl vu vs) pl pu ps ?_ ?_) rfl
  · refine ⟨.ref _, _, I5.laid (t' := s4.toks) (o := .tup xs.reverse) (fun b u q => Heap.get?_push_of_some _ q) (Nat.le_refl _) ?_, rfl, hq _ (I5.hok.fresh (Nat.le_refl _))⟩
    exact ⟨by rw [List.length_reverse]; exact hz, its.reverse, rv.reverse, IsTup.new _ _⟩
  · have := rv.length
    simp
    omega
theorem je_revT {e : Expr} {w : WE} {k : Nat} {p1 p2 p3 pos : Pos} (he : JE X e w) : JE X (.Subscript e (.Slice none none (some (.UnaryOp .USub (.Constant (.int 1) k p1) p2)) p3) pos) (fun ρ S Q => w ρ S fun x S1 => ∃ ds, x = .tup ds ∧ Q (.tup ds.reverse) S1) := by
  refine PE.imp (pe_revT he) fun σ H R ⟨μ, ρ, S, Q, hs, ho, hw, ha⟩ => ⟨μ, ρ, S, _, hs, ho, hw, fun x S1 ⟨ds, e1, q⟩ v H1 μ1 x1 o1 r1 => ?_⟩
  subst e1
  obtain ⟨a, vs, rfl, h2, r⟩ := rv_tup.mp r1
  exact ⟨a, vs, rfl, h2.sq, (ha.ext x1).tup o1 q r.reverse⟩
def wRevT (w : WE) : WE := fun ρ S Q => w ρ S fun x S1 => ∃ ds, x = .tup ds ∧ Q (.tup ds.reverse) S1
end
end DL
namespace K03
open PySem PySem.Spec L2 DL
open PyProof.Rows hiding St
def top (i : Nat) : Stmt := PySem.Challenge.pw_drawnbits_k03_whole_distances_and_near_t.main.body.getD i (.Pass ⟨0, 0, 0, 0⟩)
structure Bi (mg : Str → Option Value) : Prop where
  n_abs : mg "abs" = none
  n_all : mg "all" = none
  n_bool : mg "bool" = none
  n_enumerate : mg "enumerate" = none
  n_int : mg "int" = none
  n_isinstance : mg "isinstance" = none
  n_len : mg "len" = none
  n_list : mg "list" = none
  n_max : mg "max" = none
  n_range : mg "range" = none
  n_repr : mg "repr" = none
  n_set : mg "set" = none
  n_sorted : mg "sorted" = none
  n_str : mg "str" = none
  n_sum : mg "sum" = none
  n_tuple : mg "tuple" = none
  n_zip : mg "zip" = none
abbrev s_l_deck : Stmt := (top 49)
abbrev N_l_deck : List Str := ["_law_script", "_law_number", "_law_stirred", "_law_cell"]
theorem sc_l_deck : FnScope N_l_deck ["_law_script", "_law_number"] (defScope s_l_deck) := ⟨rfl, rfl, rfl, by decide +kernel, rfl, by decide +kernel, by decide +kernel⟩
abbrev s_l_draw : Stmt := (top 50)
abbrev N_l_draw : List Str := ["_law_deck_here", "_law_many", "_law_figure", "_law_cell"]
theorem sc_l_draw : FnScope N_l_draw ["_law_deck_here", "_law_many"] (defScope s_l_draw) := ⟨rfl, rfl, rfl, by decide +kernel, rfl, by decide +kernel, by decide +kernel⟩
abbrev s_l_pick : Stmt := (top 51)
abbrev N_l_pick : List Str := ["_law_deck_here", "_law_some"]
theorem sc_l_pick : FnScope N_l_pick ["_law_deck_here", "_law_some"] (defScope s_l_pick) := ⟨rfl, rfl, rfl, by decide +kernel, rfl, by decide +kernel, by decide +kernel⟩
abbrev s_l_parts : Stmt := (top 65)
abbrev N_l_parts : List Str := ["_law_deck_here", "_law_n", "_law_way", "_law_some", "_law_found", "_law_turn"]
theorem sc_l_parts : FnScope N_l_parts ["_law_deck_here", "_law_n", "_law_way"] (defScope s_l_parts) := ⟨rfl, rfl, rfl, by decide +kernel, rfl, by decide +kernel, by decide +kernel⟩
abbrev s_l_common : Stmt := (top 52)
abbrev N_l_common : List Str := ["_law_one", "_law_other_here", "_law_turn"]
theorem sc_l_common : FnScope N_l_common ["_law_one", "_law_other_here"] (defScope s_l_common) := ⟨rfl, rfl, rfl, by decide +kernel, rfl, by decide +kernel, by decide +kernel⟩
abbrev s_l_fraction : Stmt := (top 53)
abbrev N_l_fraction : List Str := ["_law_top", "_law_bottom", "_law_g"]
theorem sc_l_fraction : FnScope N_l_fraction ["_law_top", "_law_bottom"] (defScope s_l_fraction) := ⟨rfl, rfl, rfl, by decide +kernel, rfl, by decide +kernel, by decide +kernel⟩
abbrev s_l_table : Stmt := (top 66)
abbrev N_l_table : List Str := ["_law_deck_here", "_law_n", "_law_way", "_law_parts_here", "_law_whole", "_law_turn", "_law_part"]
theorem sc_l_table : FnScope N_l_table ["_law_deck_here", "_law_n", "_law_way"] (defScope s_l_table) := ⟨rfl, rfl, rfl, by decide +kernel, rfl, by decide +kernel, by decide +kernel⟩
abbrev s_l_some_table : Stmt := (top 67)
abbrev N_l_some_table : List Str := ["_law_deck_here"]
theorem sc_l_some_table : FnScope N_l_some_table ["_law_deck_here"] (defScope s_l_some_table) := ⟨rfl, rfl, rfl, by decide +kernel, rfl, by decide +kernel, by decide +kernel⟩
abbrev s_l_sum : Stmt := (top 55)
abbrev N_l_sum : List Str := ["_law_some", "_law_top", "_law_bottom", "_law_it"]
theorem sc_l_sum : FnScope N_l_sum ["_law_some"] (defScope s_l_sum) := ⟨rfl, rfl, rfl, by decide +kernel, rfl, by decide +kernel, by decide +kernel⟩
abbrev s_l_times : Stmt := (top 62)
abbrev N_l_times : List Str := ["_law_one", "_law_other_here"]
theorem sc_l_times : FnScope N_l_times ["_law_one", "_law_other_here"] (defScope s_l_times) := ⟨rfl, rfl, rfl, by decide +kernel, rfl, by decide +kernel, by decide +kernel⟩
abbrev s_l_mixed : Stmt := (top 63)
abbrev N_l_mixed : List Str := ["_law_table_here", "_law_tables", "_law_found", "_law_i", "_law_chance_here", "_law_it"]
theorem sc_l_mixed : FnScope N_l_mixed ["_law_table_here", "_law_tables"] (defScope s_l_mixed) := ⟨rfl, rfl, rfl, by decide +kernel, rfl, by decide +kernel, by decide +kernel⟩
abbrev s_l_other : Stmt := (top 68)
abbrev N_l_other : List Str := ["_law_deck_here", "_law_table_here", "_law_n", "_law_way"]
theorem sc_l_other : FnScope N_l_other ["_law_deck_here", "_law_table_here"] (defScope s_l_other) := ⟨rfl, rfl, rfl, by decide +kernel, rfl, by decide +kernel, by decide +kernel⟩
abbrev s_l_less : Stmt := (top 54)
abbrev N_l_less : List Str := ["_law_one", "_law_other_here"]
theorem sc_l_less : FnScope N_l_less ["_law_one", "_law_other_here"] (defScope s_l_less) := ⟨rfl, rfl, rfl, by decide +kernel, rfl, by decide +kernel, by decide +kernel⟩
abbrev s_l_apart : Stmt := (top 56)
abbrev N_l_apart : List Str := ["_law_one", "_law_other_here", "_law_some", "_law_whole", "_law_x", "_law_y", "_law_it"]
theorem sc_l_apart : FnScope N_l_apart ["_law_one", "_law_other_here"] (defScope s_l_apart) := ⟨rfl, rfl, rfl, by decide +kernel, rfl, by decide +kernel, by decide +kernel⟩
abbrev s_is_integer : Stmt := (top 8)
abbrev N_is_integer : List Str := ["thing"]
theorem sc_is_integer : FnScope N_is_integer ["thing"] (defScope s_is_integer) := ⟨rfl, rfl, rfl, by decide +kernel, rfl, by decide +kernel, by decide +kernel⟩
abbrev s_divisor_of : Stmt := (top 19)
abbrev N_divisor_of : List Str := ["one", "other"]
theorem sc_divisor_of : FnScope N_divisor_of ["one", "other"] (defScope s_divisor_of) := ⟨rfl, rfl, rfl, by decide +kernel, rfl, by decide +kernel, by decide +kernel⟩
abbrev s_is_fraction_value : Stmt := (top 20)
abbrev N_is_fraction_value : List Str := ["thing"]
theorem sc_is_fraction_value : FnScope N_is_fraction_value ["thing"] (defScope s_is_fraction_value) := ⟨rfl, rfl, rfl, by decide +kernel, rfl, by decide +kernel, by decide +kernel⟩
abbrev s_is_share_value : Stmt := (top 21)
abbrev N_is_share_value : List Str := ["thing"]
theorem sc_is_share_value : FnScope N_is_share_value ["thing"] (defScope s_is_share_value) := ⟨rfl, rfl, rfl, by decide +kernel, rfl, by decide +kernel, by decide +kernel⟩
abbrev s_lowest : Stmt := (top 22)
abbrev N_lowest : List Str := ["top", "bottom", "common"]
theorem sc_lowest : FnScope N_lowest ["top", "bottom"] (defScope s_lowest) := ⟨rfl, rfl, rfl, by decide +kernel, rfl, by decide +kernel, by decide +kernel⟩
abbrev s_plus : Stmt := (top 23)
abbrev N_plus : List Str := ["one", "other"]
theorem sc_plus : FnScope N_plus ["one", "other"] (defScope s_plus) := ⟨rfl, rfl, rfl, by decide +kernel, rfl, by decide +kernel, by decide +kernel⟩
abbrev s_total : Stmt := (top 26)
abbrev N_total : List Str := ["some", "found", "one"]
theorem sc_total : FnScope N_total ["some"] (defScope s_total) := ⟨rfl, rfl, rfl, by decide +kernel, rfl, by decide +kernel, by decide +kernel⟩
abbrev s_is_table_value : Stmt := (top 29)
abbrev N_is_table_value : List Str := ["thing", "part"]
theorem sc_is_table_value : FnScope N_is_table_value ["thing"] (defScope s_is_table_value) := ⟨rfl, rfl, rfl, by decide +kernel, rfl, by decide +kernel, by decide +kernel⟩
abbrev s_need_table : Stmt := (top 31)
abbrev N_need_table : List Str := ["table"]
theorem sc_need_table : FnScope N_need_table ["table"] (defScope s_need_table) := ⟨rfl, rfl, rfl, by decide +kernel, rfl, by decide +kernel, by decide +kernel⟩
abbrev s_need_like : Stmt := (top 43)
abbrev N_need_like : List Str := ["table", "other"]
theorem sc_need_like : FnScope N_need_like ["table", "other"] (defScope s_need_like) := ⟨rfl, rfl, rfl, by decide +kernel, rfl, by decide +kernel, by decide +kernel⟩
abbrev s_times : Stmt := (top 25)
abbrev N_times : List Str := ["one", "other"]
theorem sc_times : FnScope N_times ["one", "other"] (defScope s_times) := ⟨rfl, rfl, rfl, by decide +kernel, rfl, by decide +kernel, by decide +kernel⟩
abbrev s_is_less : Stmt := (top 27)
abbrev N_is_less : List Str := ["one", "other"]
theorem sc_is_less : FnScope N_is_less ["one", "other"] (defScope s_is_less) := ⟨rfl, rfl, rfl, by decide +kernel, rfl, by decide +kernel, by decide +kernel⟩
abbrev s_minus : Stmt := (top 24)
abbrev N_minus : List Str := ["one", "other"]
theorem sc_minus : FnScope N_minus ["one", "other"] (defScope s_minus) := ⟨rfl, rfl, rfl, by decide +kernel, rfl, by decide +kernel, by decide +kernel⟩
abbrev s_gap : Stmt := (top 38)
abbrev N_gap : List Str := ["one", "other"]
theorem sc_gap : FnScope N_gap ["one", "other"] (defScope s_gap) := ⟨rfl, rfl, rfl, by decide +kernel, rfl, by decide +kernel, by decide +kernel⟩
abbrev s_raw_distance : Stmt := (top 39)
abbrev N_raw_distance : List Str := ["table", "other", "one", "chance"]
theorem sc_raw_distance : FnScope N_raw_distance ["table", "other"] (defScope s_raw_distance) := ⟨rfl, rfl, rfl, by decide +kernel, rfl, by decide +kernel, by decide +kernel⟩
abbrev s_distance : Stmt := (top 44)
abbrev N_distance : List Str := ["table", "other"]
theorem sc_distance : FnScope N_distance ["table", "other"] (defScope s_distance) := ⟨rfl, rfl, rfl, by decide +kernel, rfl, by decide +kernel, by decide +kernel⟩
abbrev s_l_is_above : Stmt := (top 58)
abbrev N_l_is_above : List Str := ["_law_one", "_law_other_here"]
theorem sc_l_is_above : FnScope N_l_is_above ["_law_one", "_law_other_here"] (defScope s_l_is_above) := ⟨rfl, rfl, rfl, by decide +kernel, rfl, by decide +kernel, by decide +kernel⟩
abbrev s_l_lot : Stmt := (top 61)
abbrev N_l_lot : List Str := ["_law_deck_here", "_law_n", "_law_i"]
theorem sc_l_lot : FnScope N_l_lot ["_law_deck_here", "_law_n"] (defScope s_l_lot) := ⟨rfl, rfl, rfl, by decide +kernel, rfl, by decide +kernel, by decide +kernel⟩
abbrev s_l_chance : Stmt := (top 57)
abbrev N_l_chance : List Str := ["_law_table_here", "_law_lot_here", "_law_i"]
theorem sc_l_chance : FnScope N_l_chance ["_law_table_here", "_law_lot_here"] (defScope s_l_chance) := ⟨rfl, rfl, rfl, by decide +kernel, rfl, by decide +kernel, by decide +kernel⟩
abbrev s_l_lot_apart : Stmt := (top 69)
abbrev N_l_lot_apart : List Str := ["_law_one", "_law_other_here", "_law_lot_here", "_law_it"]
theorem sc_l_lot_apart : FnScope N_l_lot_apart ["_law_one", "_law_other_here", "_law_lot_here"] (defScope s_l_lot_apart) := ⟨rfl, rfl, rfl, by decide +kernel, rfl, by decide +kernel, by decide +kernel⟩
abbrev s_l_pick_2 : Stmt := (top 51)
abbrev N_l_pick_2 : List Str := ["_law_deck_here", "_law_some"]
theorem sc_l_pick_2 : FnScope N_l_pick_2 ["_law_deck_here", "_law_some"] (defScope s_l_pick_2) := ⟨rfl, rfl, rfl, by decide +kernel, rfl, by decide +kernel, by decide +kernel⟩
abbrev s_need_near : Stmt := (top 45)
abbrev N_need_near : List Str := ["table", "other", "fraction"]
theorem sc_need_near : FnScope N_need_near ["table", "other", "fraction"] (defScope s_need_near) := ⟨rfl, rfl, rfl, by decide +kernel, rfl, by decide +kernel, by decide +kernel⟩
abbrev s_is_at_most : Stmt := (top 28)
abbrev N_is_at_most : List Str := ["one", "other"]
theorem sc_is_at_most : FnScope N_is_at_most ["one", "other"] (defScope s_is_at_most) := ⟨rfl, rfl, rfl, by decide +kernel, rfl, by decide +kernel, by decide +kernel⟩
abbrev s_lot_above : Stmt := (top 37)
abbrev N_lot_above : List Str := ["table", "other", "i", "chance"]
theorem sc_lot_above : FnScope N_lot_above ["table", "other"] (defScope s_lot_above) := ⟨rfl, rfl, rfl, by decide +kernel, rfl, by decide +kernel, by decide +kernel⟩
abbrev s_judge_near : Stmt := (top 46)
abbrev N_judge_near : List Str := ["table", "other", "fraction"]
theorem sc_judge_near : FnScope N_judge_near ["table", "other", "fraction"] (defScope s_judge_near) := ⟨rfl, rfl, rfl, by decide +kernel, rfl, by decide +kernel, by decide +kernel⟩
abbrev s_is_exactly : Stmt := (top 12)
abbrev N_is_exactly : List Str := ["thing", "due"]
theorem sc_is_exactly : FnScope N_is_exactly ["thing", "due"] (defScope s_is_exactly) := ⟨rfl, rfl, rfl, by decide +kernel, rfl, by decide +kernel, by decide +kernel⟩
abbrev s_is_word : Stmt := (top 11)
abbrev N_is_word : List Str := ["thing", "word"]
theorem sc_is_word : FnScope N_is_word ["thing", "word"] (defScope s_is_word) := ⟨rfl, rfl, rfl, by decide +kernel, rfl, by decide +kernel, by decide +kernel⟩
abbrev s_is_between : Stmt := (top 9)
abbrev N_is_between : List Str := ["thing", "least", "most"]
theorem sc_is_between : FnScope N_is_between ["thing", "least", "most"] (defScope s_is_between) := ⟨rfl, rfl, rfl, by decide +kernel, rfl, by decide +kernel, by decide +kernel⟩
abbrev s_are_between : Stmt := (top 10)
abbrev N_are_between : List Str := ["thing", "least", "most", "part"]
theorem sc_are_between : FnScope N_are_between ["thing", "least", "most"] (defScope s_are_between) := ⟨rfl, rfl, rfl, by decide +kernel, rfl, by decide +kernel, by decide +kernel⟩
abbrev s_is_ascending : Stmt := (top 13)
abbrev N_is_ascending : List Str := ["some", "one", "other"]
theorem sc_is_ascending : FnScope N_is_ascending ["some"] (defScope s_is_ascending) := ⟨rfl, rfl, rfl, by decide +kernel, rfl, by decide +kernel, by decide +kernel⟩
abbrev s_is_lot_value : Stmt := (top 14)
abbrev N_is_lot_value : List Str := ["n", "thing"]
theorem sc_is_lot_value : FnScope N_is_lot_value ["n", "thing"] (defScope s_is_lot_value) := ⟨rfl, rfl, rfl, by decide +kernel, rfl, by decide +kernel, by decide +kernel⟩
abbrev s_raw_lot_chance : Stmt := (top 34)
abbrev N_raw_lot_chance : List Str := ["table", "lot", "i"]
theorem sc_raw_lot_chance : FnScope N_raw_lot_chance ["table", "lot"] (defScope s_raw_lot_chance) := ⟨rfl, rfl, rfl, by decide +kernel, rfl, by decide +kernel, by decide +kernel⟩
abbrev s_near_holds : Stmt := (top 47)
abbrev N_near_holds : List Str := ["table", "other", "fraction", "thing"]
theorem sc_near_holds : FnScope N_near_holds ["table", "other", "fraction", "thing"] (defScope s_near_holds) := ⟨rfl, rfl, rfl, by decide +kernel, rfl, by decide +kernel, by decide +kernel⟩
abbrev s_l_is_integer : Stmt := (top 59)
abbrev N_l_is_integer : List Str := ["_law_thing"]
theorem sc_l_is_integer : FnScope N_l_is_integer ["_law_thing"] (defScope s_l_is_integer) := ⟨rfl, rfl, rfl, by decide +kernel, rfl, by decide +kernel, by decide +kernel⟩
abbrev s_l_is_lot : Stmt := (top 60)
abbrev N_l_is_lot : List Str := ["_law_n", "_law_thing", "_law_it"]
theorem sc_l_is_lot : FnScope N_l_is_lot ["_law_n", "_law_thing"] (defScope s_l_is_lot) := ⟨rfl, rfl, rfl, by decide +kernel, rfl, by decide +kernel, by decide +kernel⟩
abbrev s_l_is_judged : Stmt := (top 70)
abbrev N_l_is_judged : List Str := ["_law_deck_here", "_law_one", "_law_other_here", "_law_fraction_here", "_law_told"]
theorem sc_l_is_judged : FnScope N_l_is_judged ["_law_deck_here", "_law_one", "_law_other_here", "_law_fraction_here"] (defScope s_l_is_judged) := ⟨rfl, rfl, rfl, by decide +kernel, rfl, by decide +kernel, by decide +kernel⟩
abbrev s_l_names : Stmt := (top 64)
abbrev N_l_names : List Str := ["_law_deck_here", "_law_n", "_law_most", "_law_i"]
theorem sc_l_names : FnScope N_l_names ["_law_deck_here", "_law_n"] (defScope s_l_names) := ⟨rfl, rfl, rfl, by decide +kernel, rfl, by decide +kernel, by decide +kernel⟩
abbrev s_raw_renamed : Stmt := (top 35)
abbrev N_raw_renamed : List Str := ["table", "names", "many", "i", "chance", "name"]
theorem sc_raw_renamed : FnScope N_raw_renamed ["table", "names", "many"] (defScope s_raw_renamed) := ⟨rfl, rfl, rfl, by decide +kernel, rfl, by decide +kernel, by decide +kernel⟩
abbrev s_renamed : Stmt := (top 40)
abbrev N_renamed : List Str := ["table", "names"]
theorem sc_renamed : FnScope N_renamed ["table", "names"] (defScope s_renamed) := ⟨rfl, rfl, rfl, by decide +kernel, rfl, by decide +kernel, by decide +kernel⟩
abbrev s_raw_mixed : Stmt := (top 36)
abbrev N_raw_mixed : List Str := ["table", "tables", "found", "i", "chance", "part"]
theorem sc_raw_mixed : FnScope N_raw_mixed ["table", "tables"] (defScope s_raw_mixed) := ⟨rfl, rfl, rfl, by decide +kernel, rfl, by decide +kernel, by decide +kernel⟩
abbrev s_mixed : Stmt := (top 41)
abbrev N_mixed : List Str := ["table", "tables", "part"]
theorem sc_mixed : FnScope N_mixed ["table", "tables"] (defScope s_mixed) := ⟨rfl, rfl, rfl, by decide +kernel, rfl, by decide +kernel, by decide +kernel⟩
abbrev s_beside : Stmt := (top 42)
abbrev N_beside : List Str := ["table", "other", "one", "chance"]
theorem sc_beside : FnScope N_beside ["table", "other"] (defScope s_beside) := ⟨rfl, rfl, rfl, by decide +kernel, rfl, by decide +kernel, by decide +kernel⟩
abbrev s_law : Stmt := (top 71)
abbrev N_law : List Str := ["_law_script", "_law_deck_here", "_law_one", "_law_n", "_law_other_here", "_law_third", "_law_far", "_law_more", "_law_lot_here", "_law_little", "_law_some", "_law_fraction_here", "_law_names_here", "_law_halves", "_law_i"]
theorem sc_law : FnScope N_law ["_law_script"] (defScope s_law) := ⟨rfl, rfl, rfl, by decide +kernel, rfl, by decide +kernel, by decide +kernel⟩
def SumF (fs : List Rat) : Prop := (∀ f ∈ fs, 0 ≤ f ∧ f.den ≤ 2 ^ 170) ∧ fs.length ≤ 8 ∧ fs.sum ≤ 16
def sm : Nat → (Nat → Rat) → Rat
  | 0, _ => 0
  | n + 1, f => sm n f + f n
def iteR (b : Bool) (x : Rat) : Rat := if b then x else 0
def tF (n : Nat) (f : Nat → Rat) : List Rat := (List.range n).map f
def gF (t : List Rat) (i : Nat) : Rat := t.getD i 0
def tabD (t : List Rat) : D := .tup (t.map frD)
def wayD (w : List Nat) : D := .tup (w.map fun (i : Nat) => D.int i)
structure Tab (N n : Nat) (t : List Rat) : Prop where
  n0 : 0 < N
  big : N ≤ 2 ^ 880
  n1 : 1 ≤ n
  n8 : n ≤ 8
  len : t.length = n
  pos : ∀ p ∈ t, 0 ≤ p
  sum : t.sum = 1
  nth : ∀ p ∈ t, Nth N p
/-- the table by other names, k of them -/
def renF (t : List Rat) (ns : List Nat) (k : Nat) : List Rat := tF k fun j => sm t.length fun i => iteR (decide (ns.getD i 0 = j)) (gF t i)
/-- the lot of those below n that p picks -/
def lotF (n : Nat) (p : Nat → Bool) : List Nat := (List.range n).filter p
def chF (t : List Rat) (p : Nat → Bool) : Rat := sm t.length fun i => iteR (p i) (gF t i)
def mixF (t : List Rat) (ts : List (List Rat)) (m : Nat) : List Rat := tF m fun i => sm t.length fun j => gF t j * gF (ts.getD j []) i
def besF (a b : List Rat) : List Rat := tF (a.length * b.length) fun k => gF a (k / b.length) * gF b (k % b.length)
def Less (L : Nat) (t : List Rat) : Prop := ∀ p ∈ t, p.den ≤ L
def c_l_common : Con := fun ds S Q => ∃ (a b : Int), ds = [.int a, .int b] ∧ 0 ≤ b ∧ b.natAbs < 2 ^ 2000 ∧ Q (.int ((Int.gcd a b : Nat) : Int)) S
def c_l_fraction : Con := fun ds S Q => ∃ a b, ds = [.int a, .int b] ∧ 0 < b ∧ b.natAbs < 2 ^ 2000 ∧ Q (frD (mkRat a b.toNat)) S
def c_is_table_value : Con := fun ds S Q => ∃ N n t, ds = [tabD t] ∧ Tab N n t ∧ Q (.bl true) S
def c_need_table : Con := fun ds S Q => ∃ N n t, ds = [tabD t] ∧ Tab N n t ∧ Q .non S
def c_raw_renamed : Con := fun ds S Q => ∃ (N n k : Nat) (t : List Rat) (ns : List Nat), ds = [tabD t, wayD ns, .int k] ∧ Tab N n t ∧ ns.length = n ∧ k ≤ 8 ∧ Q (tabD (renF t ns k)) S
def c_renamed : Con := fun ds S Q => ∃ (N n k : Nat) (t : List Rat) (ns : List Nat), ds = [tabD t, wayD ns] ∧ Tab N n t ∧ ns.length = n ∧ k ≤ 7 ∧ k ∈ ns ∧ (∀ j ∈ ns, j ≤ k) ∧ Q (tabD (renF t ns (k + 1))) S
def c_l_sum : Con := fun ds S Q => ∃ fs : List Rat, ds = [.rol (fs.map frD)] ∧ SumF fs ∧ Q (frD fs.sum) S
def c_is_ascending : Con := fun ds S Q => ∃ ns : List Nat, ds = [wayD ns] ∧ ns.Pairwise (· < ·) ∧ ns.length ≤ 100 ∧ Q (.bl true) S
def c_is_lot_value : Con := fun ds S Q => ∃ n p, ds = [.int (n : Nat), wayD (lotF n p)] ∧ n ≤ 8 ∧ Q (.bl true) S
def c_raw_lot_chance : Con := fun ds S Q => ∃ N n t p, ds = [tabD t, wayD (lotF n p)] ∧ Tab N n t ∧ Q (frD (chF t p)) S
def c_raw_mixed : Con := fun ds S Q => ∃ N n M m t ts, ds = [tabD t, .tup (ts.map tabD)] ∧ Tab N n t ∧ ts.length = n ∧ (∀ u ∈ ts, Tab M m u) ∧ N * M ≤ 2 ^ 880 ∧ Q (tabD (mixF t ts m)) S
def c_mixed : Con := c_raw_mixed
def c_l_mixed : Con := fun ds S Q => ∃ N n M m t ts, ds = [tabD t, .tup (ts.map tabD)] ∧ Tab N n t ∧ ts.length = n ∧ (∀ u ∈ ts, Tab M m u) ∧ N * M ≤ 2 ^ 880 ∧ Less (2 ^ 50) t ∧ (∀ u ∈ ts, Less (2 ^ 50) u) ∧ Q (tabD (mixF t ts m)) S
def c_beside : Con := fun ds S Q => ∃ N n M m a b, ds = [tabD a, tabD b] ∧ Tab N n a ∧ Tab M m b ∧ n * m ≤ 8 ∧ N * M ≤ 2 ^ 880 ∧ Q (tabD (besF a b)) S
def deckS (ns : List Int) (m t : Int) : Sto := [.lst (ns.map D.int), .dic [(.inr "left", .loc 0), (.inr "mixed", .int m), (.inr "draws", .int t)]]
def IsDeck (t : Int) (T S : Sto) : Prop := ∃ ns m t0, 0 ≤ m ∧ m < 2 ^ 32 ∧ 0 ≤ t0 ∧ t0 ≤ t ∧ ns.length ≤ 100 ∧ S = deckS ns m t0 ++ T
def c_l_parts : Con := fun ds S Q => ∃ (n w : Nat), ∃ t T, ds = [.loc 1, .int n, .int w] ∧ 1 ≤ n ∧ n ≤ 8 ∧ w ≤ 4 ∧ IsDeck t T S ∧ t < 2 ^ 38 ∧
  ∀ (xs : List Int) S' E, xs.length = n → (∀ x ∈ xs, 0 ≤ x ∧ x ≤ 10 ^ 12) → 0 < xs.sum → IsDeck (t + 8) (T ++ E ++ [.lst (xs.map D.int)]) S' → Q (.loc ((T ++ E).length + 2)) S'
def c_l_table : Con := fun ds S Q => ∃ (n w : Nat), ∃ t T, ds = [.loc 1, .int n, .int w] ∧ 1 ≤ n ∧ n ≤ 8 ∧ w ≤ 4 ∧ IsDeck t T S ∧ t < 2 ^ 38 ∧
  ∀ N tb S', Tab N n tb → N ≤ 2 ^ 43 → IsDeck (t + 8) T S' → Q (tabD tb) S'
def c_l_some_table : Con := fun ds S Q => ∃ t T, ds = [.loc 1] ∧ IsDeck t T S ∧ t < 2 ^ 37 ∧
  ∀ N n tb S', Tab N n tb → N ≤ 2 ^ 43 → IsDeck (t + 10) T S' → Q (tabD tb) S'
def c_l_names : Con := fun ds S Q => ∃ (n : Nat), ∃ t T, ds = [.loc 1, .int n] ∧ 1 ≤ n ∧ n ≤ 8 ∧ IsDeck t T S ∧ t < 2 ^ 38 ∧
  ∀ ns S', ns.length = n → (∀ j ∈ ns, j ≤ 7) → IsDeck (t + 9) T S' → Q (wayD ns) S'
def c_l_lot : Con := fun ds S Q => ∃ (n : Nat), ∃ t T, ds = [.loc 1, .int n] ∧ n ≤ 8 ∧ IsDeck t T S ∧ t < 2 ^ 38 ∧ ∀ p S', IsDeck (t + 8) T S' → Q (wayD (lotF n p)) S'
def isI : D → Bool
  | .int _ => true
  | _ => false
def c_is_integer : Con := fun ds S Q => ∃ d, ds = [d] ∧ ((∃ i, d = .int i) ∨ ∃ t, tyOf S d = some t) ∧ Q (.bl (isI d)) S
def c_is_between : Con := fun ds S Q => ∃ i a b, ds = [.int i, .int a, .int b] ∧ Q (.bl (decide (a ≤ i) && decide (i ≤ b))) S
def c_are_between : Con := fun ds S Q => ∃ (is : List Int) (a b : Int), ds = [.tup (is.map D.int), .int a, .int b] ∧ is.length < sizeLine ∧ Q (.bl (is.all fun i => decide (a ≤ i) && decide (i ≤ b))) S
def c_divisor_of : Con := fun ds S Q => ∃ a b, ds = [.int a, .int b] ∧ 0 ≤ b ∧ Q (.int ((Int.gcd a b : Nat) : Int)) S
def c_lowest : Con := fun ds S Q => ∃ a b, ds = [.int a, .int b] ∧ 0 < b ∧ b.natAbs < 2 ^ 2000 ∧ Q (frD (mkRat a b.toNat)) S
def c_plus : Con := fun ds S Q => ∃ f g, ds = [frD f, frD g] ∧ smallR f ∧ smallR g ∧ Q (frD (f + g)) S
def c_times : Con := fun ds S Q => ∃ f g, ds = [frD f, frD g] ∧ smallR f ∧ smallR g ∧ Q (frD (f * g)) S
def c_is_fraction_value : Con := fun ds S Q => ∃ f, ds = [frD f] ∧ Q (.bl true) S
def c_is_share_value : Con := fun ds S Q => ∃ f, ds = [frD f] ∧ 0 ≤ f ∧ Q (.bl true) S
def c_l_times : Con := c_times
def c_l_is_integer : Con := fun ds S Q => ∃ i, ds = [.int i] ∧ Q (.bl true) S
def c_l_pick : Con := fun ds S Q => ∃ (xs : List Int), ∃ t T, ds = [.loc 1, .rol (xs.map D.int)] ∧ xs ≠ [] ∧ xs.length ≤ 1000 ∧ IsDeck t T S ∧ t < 2 ^ 39 ∧ ∀ x S', x ∈ xs → IsDeck (t + 1) T S' → Q (.int x) S'
theorem small {i : Int} (h1 : -(2 ^ 64) ≤ i) (h2 : i ≤ 2 ^ 64) : i.natAbs < 2 ^ 1000 := by
  have h : i.natAbs ≤ 2 ^ 64 := by omega
  exact Nat.lt_of_le_of_lt h (by decide)
/-- a row of fractions, whose sums stay small -/
def SumOk (fs : List Rat) : Prop := (∀ f ∈ fs, smallR f) ∧ (∀ k, smallR (fs.take k).sum) ∧ fs.length ≤ 1000
def c_total : Con := fun ds S Q => ∃ fs : List Rat, (ds = [.tup (fs.map frD)] ∨ ds = [.rol (fs.map frD)]) ∧ SumOk fs ∧ Q (frD fs.sum) S
def many (ls : List Nat) : Nat := (ls.map fun l => 2 ^ (30 - l)).sum
def c_l_draw : Con := fun ds S Q => ∃ many t T, ds = [.loc 1, .int many] ∧ IsDeck t T S ∧ t < 2 ^ 40 ∧ 0 < many ∧ many < 2 ^ 60 ∧ ∀ r S', 0 ≤ r → r < many → IsDeck (t + 1) T S' → Q (.int r) S'
def c_is_at_most : Con := fun ds S Q => ∃ f g, ds = [frD f, frD g] ∧ smallR f ∧ smallR g ∧ Q (.bl (decide (f ≤ g))) S
def gapR (f g : Rat) : Rat := if f < g then g - f else f - g
def distF (a b : List Rat) : Rat := mkRat 1 2 * sm a.length fun i => gapR (gF a i) (gF b i)
/-- two tables with as many outcomes -/
structure Two (n : Nat) (a b : List Rat) : Prop where
  ex : ∃ N M, Tab N n a ∧ Tab M n b ∧ N * M ≤ 2 ^ 600
def aboveF (a b : List Rat) (i : Nat) : Bool := decide (gF b i < gF a i)
def withinD : D := .tup [.str "within"]
def lotD (n : Nat) (p : Nat → Bool) : D := .tup [.str "lot", wayD (lotF n p)]
def c_l_deck : Con := fun ds S Q => ∃ ns : List Int, ds = [.fro (ns.map D.int), .int 3] ∧ S = [] ∧ ns.length ≤ 63 ∧ ∀ S', IsDeck 0 [] S' → Q (.loc 1) S'
def c_l_chance : Con := fun ds S Q => ∃ N n t p, ds = [tabD t, wayD (lotF n p)] ∧ Tab N n t ∧ Less (2 ^ 170) t ∧ Q (frD (chF t p)) S
def c_l_pick_2 : Con := fun ds S Q => ∃ m xs t T, ds = [.loc 1, .loc m] ∧ S[m]? = some (.lst xs) ∧ xs ≠ [] ∧ xs.length ≤ 1000 ∧ IsDeck t T S ∧ (∀ S', IsDeck (t + 1) T S' → S'[m]? = some (.lst xs)) ∧ t < 2 ^ 39 ∧ ∀ x S', x ∈ xs → IsDeck (t + 1) T S' → Q x S'
def c_minus : Con := fun ds S Q => ∃ f g, ds = [frD f, frD g] ∧ smallR f ∧ smallR g ∧ Q (frD (f - g)) S
def c_l_less : Con := c_minus
def c_is_less : Con := fun ds S Q => ∃ f g, ds = [frD f, frD g] ∧ smallR f ∧ smallR g ∧ Q (.bl (decide (f < g))) S
def c_l_is_above : Con := fun ds S Q => ∃ f g, ds = [frD f, frD g] ∧ smallR f ∧ smallR g ∧ Q (.bl (decide (g < f))) S
def c_gap : Con := fun ds S Q => ∃ f g, ds = [frD f, frD g] ∧ smallR f ∧ smallR g ∧ Q (frD (gapR f g)) S
def c_lot_above : Con := fun ds S Q => ∃ n a b, ds = [tabD a, tabD b] ∧ Two n a b ∧ Q (wayD (lotF n (aboveF a b))) S
def c_raw_distance : Con := fun ds S Q => ∃ n a b, ds = [tabD a, tabD b] ∧ Two n a b ∧ Q (frD (distF a b)) S
def c_distance : Con := c_raw_distance
def c_need_like : Con := fun ds S Q => ∃ n a b, ds = [tabD a, tabD b] ∧ Two n a b ∧ Q .non S
def c_need_near : Con := fun ds S Q => ∃ n a b f, ds = [tabD a, tabD b, frD f] ∧ Two n a b ∧ 0 ≤ f ∧ Q .non S
def c_judge_near : Con := fun ds S Q => ∃ n a b f, ds = [tabD a, tabD b, frD f] ∧ Two n a b ∧ 0 ≤ f ∧ smallR f ∧ Q (if distF a b ≤ f then withinD else lotD n (aboveF a b)) S
def c_near_holds : Con := fun ds S Q => ∃ n a b f d, ds = [tabD a, tabD b, frD f, d] ∧ Two n a b ∧ 0 ≤ f ∧ smallR f ∧ ((d = withinD ∧ Q (.bl (decide (distF a b ≤ f))) S) ∨ ∃ p, d = lotD n p ∧ Q (.bl (decide (f < gapR (chF a p) (chF b p)))) S)
def c_is_word : Con := fun ds S Q => ∃ n p, ds = [lotD n p, .str "lot"] ∧ Q (.bl true) S
def c_is_exactly : Con := fun ds S Q => (ds = [withinD, withinD] ∧ Q (.bl true) S) ∨ ∃ n p, n ≤ 8 ∧ ds = [lotD n p, withinD] ∧ Q (.bl false) S
/-- two tables of the law -/
structure TwoL (n : Nat) (a b : List Rat) : Prop where
  ex : ∃ N M, Tab N n a ∧ Tab M n b ∧ N ≤ 2 ^ 43 ∧ M ≤ 2 ^ 110
def c_l_apart : Con := fun ds S Q => ∃ n a b, ds = [tabD a, tabD b] ∧ (TwoL n a b ∨ TwoL n b a) ∧ Q (frD (distF a b)) S
def c_l_is_lot : Con := fun ds S Q => ∃ n p, ds = [.int (n : Nat), wayD (lotF n p)] ∧ n ≤ 8 ∧ Q (.bl true) S
def c_l_other : Con := fun ds S Q => ∃ N n tb t T, ds = [.loc 1, tabD tb] ∧ Tab N n tb ∧ N ≤ 2 ^ 43 ∧ IsDeck t T S ∧ t < 2 ^ 36 ∧ ∀ M u S', Tab M n u → M ≤ 2 ^ 110 → IsDeck (t + 20) T S' → Q (tabD u) S'
def c_l_lot_apart : Con := fun ds S Q => ∃ n a b p, ds = [tabD a, tabD b, wayD (lotF n p)] ∧ TwoL n a b ∧ Q (frD (gapR (chF a p) (chF b p))) S
def c_l_is_judged : Con := fun ds S Q => ∃ n a b f t T, ds = [.loc 1, tabD a, tabD b, frD f] ∧ TwoL n a b ∧ 0 ≤ f ∧ smallR f ∧ IsDeck t T S ∧ t < 2 ^ 37 ∧ ∀ S', IsDeck (t + 1) T S' → Q (.bl true) S'
def c_law : Con := fun ds S Q => ∃ ns : List Int, ds = [.fro (ns.map D.int)] ∧ S = [] ∧ ns.length ≤ 63 ∧ ∀ S', Q (.bl true) S'
abbrev d_HALF : D := .tup (([1, 2] : List Int).map D.int)
abbrev d_ONE : D := .tup (([1, 1] : List Int).map D.int)
abbrev d_ZERO : D := .tup (([0, 1] : List Int).map D.int)
abbrev kw_l_deck : List (List Str × Nat × List Nat) := []
def w_l_deck : WS :=
  (sSeq (sAsg (wOp gAdd (wC (.int 13732000)) (wVar 1)) (gName 2))
  (sSeq (sFor (wItA (wSl gSl (wVar 0) wNo (wSo (wC (.int 63))))) (gName 3) (sAsg (wOp gMod (wCall gInt (wCons (wOp gAdd (wOp gAdd (wOp gMul (wVar 2) (wC (.int 69621))) (wOp gMod (wCall gInt (wCons (wVar 3) wNil)) (wC (.int 2147483563)))) (wVar 1)) wNil)) (wC (.int 2147483629))) (gName 2)))
  (sRet (wDict [((wC (.str "left")), (wRevL (wCall gListOf (wCons (wSl gSl (wVar 0) wNo (wSo (wC (.int 63)))) wNil)))), ((wC (.str "mixed")), (wVar 2)), ((wC (.str "draws")), (wC (.int 0)))]))))
abbrev kw_l_draw : List (List Str × Nat × List Nat) := []
def w_l_draw : WS :=
  (sSeq (sAsg (wOp gAdd (wOp gIxD (wVar 0) (wC (.str "draws"))) (wC (.int 1))) (gAt (wVar 0) (wC (.str "draws"))))
  (sSeq (sAsg (wOp gAdd (wOp gIxD (wVar 0) (wC (.str "mixed"))) (wOp gMul (wC (.int 48271)) (wOp gIxD (wVar 0) (wC (.str "draws"))))) (gName 2))
  (sSeq (sIf (wTest (wOp gNe (wOp gIxD (wVar 0) (wC (.str "left"))) (wRol wNil))) (sSeq (sAsg (wM gPop0 (wOp gIxD (wVar 0) (wC (.str "left"))) wNil) (gName 3))
  (sSeq (sIf (wTest (wOp gGe (wVar 3) (wOp gPow (wC (.int 10)) (wC (.int 18))))) (sSeq (sExpr (wM gAppend (wOp gIxD (wVar 0) (wC (.str "left"))) (wCons (wOp gFdiv (wVar 3) (wCall gMax2 (wCons (wC (.int 2)) (wCons (wVar 1) wNil)))) wNil)))
  (sRet (wOp gMod (wCall gInt (wCons (wVar 3) wNil)) (wVar 1)))) sNext)
  (sAsg (wOp gAdd (wVar 2) (wOp gMod (wCall gInt (wCons (wVar 3) wNil)) (wC (.int 2147483629)))) (gName 2)))) sNext)
  (sSeq (sAsg (wOp gMod (wCall gInt (wCons (wOp gAdd (wOp gMul (wVar 2) (wC (.int 40692))) (wC (.int 90))) wNil)) (wC (.int 2147483647))) (gName 2))
  (sSeq (sAsg (wOp gMod (wCall gInt (wCons (wOp gAdd (wOp gAdd (wOp gMul (wVar 2) (wVar 2)) (wOp gMul (wC (.int 39373)) (wOp gIxD (wVar 0) (wC (.str "draws"))))) (wC (.int 7))) wNil)) (wC (.int 2147483587))) (gName 2))
  (sSeq (sAsg (wOp gMod (wCall gInt (wCons (wOp gMul (wVar 2) (wC (.int 69621))) wNil)) (wC (.int 2147483563))) (gName 2))
  (sRet (wOp gMod (wCall gInt (wCons (wOp gFdiv (wVar 2) (wC (.int 64))) wNil)) (wVar 1)))))))))
abbrev kw_l_pick : List (List Str × Nat × List Nat) := []
def w_l_pick : WS :=
  (sRet (wOp gIx (wVar 1) (wCall c_l_draw (wCons (wVar 0) (wCons (wCall gLen (wCons (wVar 1) wNil)) wNil)))))
abbrev kw_l_parts : List (List Str × Nat × List Nat) := []
def w_l_parts : WS :=
  (sSeq (sAsg (wOp gIx (wRol (wCons (wRol (wCons (wC (.int 1)) (wCons (wC (.int 2)) (wCons (wC (.int 3)) (wCons (wC (.int 0)) (wCons (wC (.int 1)) (wCons (wC (.int 5)) wNil))))))) (wCons (wRol (wCons (wC (.int 1)) (wCons (wC (.int 1)) (wCons (wC (.int 2)) (wCons (wC (.int 4)) wNil))))) (wCons (wRol (wCons (wC (.int 0)) (wCons (wC (.int 1)) (wCons (wC (.int 0)) (wCons (wC (.int 7)) (wCons (wC (.int 30)) wNil)))))) (wCons (wRol (wCons (wC (.int 1)) wNil)) (wCons (wRol (wCons (wC (.int 1)) (wCons (wOp gAdd (wOp gPow (wC (.int 10)) (wC (.int 9))) (wC (.int 7))) (wCons (wC (.int 3)) (wCons (wOp gPow (wC (.int 10)) (wC (.int 12))) wNil))))) wNil)))))) (wVar 2)) (gName 3))
  (sSeq (sAsg (wLcL (wRng1 (wCons (wVar 1) wNil)) (gName 5) wYes (wCall c_l_pick (wCons (wVar 0) (wCons (wVar 3) wNil))) [5]) (gName 4))
  (sRet (wIf (wTest (wOp gGt (wCall gMaxL (wCons (wVar 4) wNil)) (wC (.int 0)))) (wVar 4) (wOp gAddL (wRol (wCons (wC (.int 1)) wNil)) (wSl gSl (wVar 4) (wSo (wC (.int 1))) wNo))))))
abbrev kw_l_common : List (List Str × Nat × List Nat) := []
def w_l_common : WS :=
  (sSeq (sPar2 0 1 (wCons (wCall gAbs (wCons (wVar 0) wNil)) (wCons (wCall gAbs (wCons (wVar 1) wNil)) wNil)))
  (sSeq (sFor (wRng1 (wCons (wC (.int 4000)) wNil)) (gName 2) (sSeq (sIf (wTest (wOp gEq (wVar 1) (wC (.int 0)))) sBreak sNext)
  (sPar2 0 1 (wCons (wVar 1) (wCons (wOp gMod (wCall gInt (wCons (wVar 0) wNil)) (wVar 1)) wNil)))))
  (sRet (wVar 0))))
abbrev kw_l_fraction : List (List Str × Nat × List Nat) := []
def w_l_fraction : WS :=
  (sSeq (sAsg (wIf (wTest (wOp gGt (wVar 1) (wC (.int 0)))) (wCall c_l_common (wCons (wVar 0) (wCons (wVar 1) wNil))) (wOp gSub (wC (.int 0)) (wCall c_l_common (wCons (wVar 0) (wCons (wVar 1) wNil))))) (gName 2))
  (sRet (wTup (wCons (wOp gFdiv (wVar 0) (wVar 2)) (wCons (wOp gFdiv (wVar 1) (wVar 2)) wNil)))))
abbrev kw_l_table : List (List Str × Nat × List Nat) := []
def w_l_table : WS :=
  (sSeq (sAsg (wCall c_l_parts (wCons (wVar 0) (wCons (wVar 1) (wCons (wVar 2) wNil)))) (gName 3))
  (sSeq (sAsg (wCall gSum (wCons (wVar 3) wNil)) (gName 4))
  (sSeq (sIf (wTest (wOp gEq (wVar 2) (wC (.int 1)))) (sSeq (sFor (wRng1 (wCons (wC (.int 12)) wNil)) (gName 5) (sIf (wTest (wOp (gInI true) (wCall gSum (wCons (wVar 3) wNil)) (wTup (wCons (wC (.int 1)) (wCons (wC (.int 2)) (wCons (wC (.int 4)) (wCons (wC (.int 8)) (wCons (wC (.int 16)) (wCons (wC (.int 32)) (wCons (wC (.int 64)) wNil)))))))))) (sAsg (wOp gAdd (wOp gIx (wVar 3) (wC (.int 0))) (wC (.int 1))) (gAt (wVar 3) (wC (.int 0)))) sNext))
  (sAsg (wCall gSum (wCons (wVar 3) wNil)) (gName 4))) sNext)
  (sRet (wCall gTupOf (wCons (wLc (wItA (wVar 3)) (gName 6) wYes (wCall c_l_fraction (wCons (wVar 6) (wCons (wVar 4) wNil))) [6]) wNil))))))
abbrev kw_l_some_table : List (List Str × Nat × List Nat) := []
def w_l_some_table : WS :=
  (sRet (wCall c_l_table (wCons (wVar 0) (wCons (wCall c_l_pick (wCons (wVar 0) (wCons (wRol (wCons (wC (.int 2)) (wCons (wC (.int 3)) (wCons (wC (.int 4)) (wCons (wC (.int 2)) (wCons (wC (.int 5)) (wCons (wC (.int 1)) (wCons (wC (.int 8)) (wCons (wC (.int 3)) wNil))))))))) wNil))) (wCons (wCall c_l_pick (wCons (wVar 0) (wCons (wRol (wCons (wC (.int 0)) (wCons (wC (.int 1)) (wCons (wC (.int 0)) (wCons (wC (.int 2)) (wCons (wC (.int 3)) (wCons (wC (.int 4)) wNil))))))) wNil))) wNil)))))
abbrev kw_l_sum : List (List Str × Nat × List Nat) := []
def w_l_sum : WS :=
  (sSeq (sAsg (wTup (wCons (wC (.int 0)) (wCons (wC (.int 1)) wNil))) (gTup 2 (gsCons (gName 1) (gsCons (gName 2) gsNil))))
  (sSeq (sFor (wItA (wVar 0)) (gName 3) (sPar2 1 2 (wCons (wOp gAdd (wOp gMul (wVar 1) (wOp gIx (wVar 3) (wC (.int 1)))) (wOp gMul (wOp gIx (wVar 3) (wC (.int 0))) (wVar 2))) (wCons (wOp gMul (wVar 2) (wOp gIx (wVar 3) (wC (.int 1)))) wNil))))
  (sRet (wCall c_l_fraction (wCons (wVar 1) (wCons (wVar 2) wNil))))))
abbrev kw_l_times : List (List Str × Nat × List Nat) := []
def w_l_times : WS :=
  (sRet (wCall c_l_fraction (wCons (wOp gMul (wOp gIx (wVar 0) (wC (.int 0))) (wOp gIx (wVar 1) (wC (.int 0)))) (wCons (wOp gMul (wOp gIx (wVar 0) (wC (.int 1))) (wOp gIx (wVar 1) (wC (.int 1)))) wNil))))
abbrev kw_l_mixed : List (List Str × Nat × List Nat) := []
def w_l_mixed : WS :=
  (sSeq (sAsg (wLst wNil) (gName 2))
  (sSeq (sFor (wRng1 (wCons (wCall gLen (wCons (wOp gIx (wVar 1) (wC (.int 0))) wNil)) wNil)) (gName 3) (sExpr (wM gAppend (wVar 2) (wCons (wCall c_l_sum (wCons (wLc (wZip (wCons (wVar 0) (wCons (wVar 1) wNil))) (gTup 2 (gsCons (gName 4) (gsCons (gName 5) gsNil))) wYes (wCall c_l_times (wCons (wVar 4) (wCons (wOp gIx (wVar 5) (wVar 3)) wNil))) [4, 5]) wNil)) wNil))))
  (sRet (wCall gTupOf (wCons (wVar 2) wNil)))))
abbrev kw_l_other : List (List Str × Nat × List Nat) := []
def w_l_other : WS :=
  (sSeq (sPar2 2 3 (wCons (wCall gLen (wCons (wVar 1) wNil)) (wCons (wCall c_l_draw (wCons (wVar 0) (wCons (wC (.int 6)) wNil))) wNil)))
  (sSeq (sIf (wTest (wOp gEq (wVar 3) (wC (.int 0)))) (sRet (wRevT (wVar 1))) sNext)
  (sSeq (sIf (wTest (wOp gEq (wVar 3) (wC (.int 1)))) (sRet (wCall c_l_mixed (wCons (wTup (wCons (wTup (wCons (wC (.int 1)) (wCons (wC (.int 2)) wNil))) (wCons (wTup (wCons (wC (.int 1)) (wCons (wC (.int 2)) wNil))) wNil))) (wCons (wTup (wCons (wVar 1) (wCons (wCall c_l_table (wCons (wVar 0) (wCons (wVar 2) (wCons (wC (.int 0)) wNil)))) wNil))) wNil)))) sNext)
  (sSeq (sIf (wTest (wOp gEq (wVar 3) (wC (.int 2)))) (sRet (wCall c_l_mixed (wCons (wTup (wCons (wTup (wCons (wC (.int 1)) (wCons (wOp gPow (wC (.int 10)) (wC (.int 6))) wNil))) (wCons (wTup (wCons (wOp gSub (wOp gPow (wC (.int 10)) (wC (.int 6))) (wC (.int 1))) (wCons (wOp gPow (wC (.int 10)) (wC (.int 6))) wNil))) wNil))) (wCons (wTup (wCons (wCall c_l_table (wCons (wVar 0) (wCons (wVar 2) (wCons (wC (.int 1)) wNil)))) (wCons (wVar 1) wNil))) wNil)))) sNext)
  (sSeq (sIf (wTest (wOp gEq (wVar 3) (wC (.int 3)))) (sRet (wVar 1)) sNext)
  (sRet (wCall c_l_table (wCons (wVar 0) (wCons (wVar 2) (wCons (wCall c_l_pick (wCons (wVar 0) (wCons (wRol (wCons (wC (.int 0)) (wCons (wC (.int 1)) (wCons (wC (.int 2)) (wCons (wC (.int 3)) wNil))))) wNil))) wNil))))))))))
abbrev kw_l_less : List (List Str × Nat × List Nat) := []
def w_l_less : WS :=
  (sRet (wCall c_l_fraction (wCons (wOp gSub (wOp gMul (wOp gIx (wVar 0) (wC (.int 0))) (wOp gIx (wVar 1) (wC (.int 1)))) (wOp gMul (wOp gIx (wVar 1) (wC (.int 0))) (wOp gIx (wVar 0) (wC (.int 1))))) (wCons (wOp gMul (wOp gIx (wVar 0) (wC (.int 1))) (wOp gIx (wVar 1) (wC (.int 1)))) wNil))))
abbrev kw_l_apart : List (List Str × Nat × List Nat) := []
def w_l_apart : WS :=
  (sSeq (sAsg (wLc (wZip (wCons (wVar 0) (wCons (wVar 1) wNil))) (gTup 2 (gsCons (gName 4) (gsCons (gName 5) gsNil))) wYes (wCall c_l_less (wCons (wVar 4) (wCons (wVar 5) wNil))) [4, 5]) (gName 2))
  (sSeq (sAsg (wCall c_l_sum (wCons (wLc (wItA (wVar 2)) (gName 6) wYes (wTup (wCons (wCall gAbs (wCons (wOp gIx (wVar 6) (wC (.int 0))) wNil)) (wCons (wOp gIx (wVar 6) (wC (.int 1))) wNil))) [6]) wNil)) (gName 3))
  (sRet (wCall c_l_fraction (wCons (wOp gIx (wVar 3) (wC (.int 0))) (wCons (wOp gMul (wC (.int 2)) (wOp gIx (wVar 3) (wC (.int 1)))) wNil))))))
abbrev kw_is_integer : List (List Str × Nat × List Nat) := []
def w_is_integer : WS :=
  (sRet (wAnd (wCall gIsi (wCons (wVar 0) (wCons (wC (.ty "int")) wNil))) (wNot (wCall gIsi (wCons (wVar 0) (wCons (wC (.ty "bool")) wNil))))))
abbrev kw_divisor_of : List (List Str × Nat × List Nat) := []
def w_divisor_of : WS :=
  (sSeq (sAsg (wCall gAbs (wCons (wVar 0) wNil)) (gName 0))
  (sSeq (sWhile (wTest (wOp gNe (wVar 1) (wC (.int 0)))) (sPar2 0 1 (wCons (wVar 1) (wCons (wOp gMod (wVar 0) (wVar 1)) wNil))))
  (sRet (wVar 0))))
abbrev kw_is_fraction_value : List (List Str × Nat × List Nat) := []
def w_is_fraction_value : WS :=
  (sSeq (sIf (wOrT (wNotT (wTest (wCall gIsi (wCons (wVar 0) (wCons (wC (.ty "tuple")) wNil))))) (wOrT (wTest (wOp gNe (wCall gLen (wCons (wVar 0) wNil)) (wC (.int 2)))) (wOrT (wNotT (wTest (wCall c_is_integer (wCons (wOp gIx (wVar 0) (wC (.int 0))) wNil)))) (wNotT (wTest (wCall c_is_integer (wCons (wOp gIx (wVar 0) (wC (.int 1))) wNil))))))) (sRet (wC (.bl false))) sNext)
  (sRet (wAnd (wOp gGt (wOp gIx (wVar 0) (wC (.int 1))) (wC (.int 0))) (wOp gEq (wCall c_divisor_of (wCons (wOp gIx (wVar 0) (wC (.int 0))) (wCons (wOp gIx (wVar 0) (wC (.int 1))) wNil))) (wC (.int 1))))))
abbrev kw_is_share_value : List (List Str × Nat × List Nat) := []
def w_is_share_value : WS :=
  (sRet (wAnd (wCall c_is_fraction_value (wCons (wVar 0) wNil)) (wOp gGe (wOp gIx (wVar 0) (wC (.int 0))) (wC (.int 0)))))
abbrev kw_lowest : List (List Str × Nat × List Nat) := []
def w_lowest : WS :=
  (sSeq (sAsg (wCall c_divisor_of (wCons (wVar 0) (wCons (wVar 1) wNil))) (gName 2))
  (sRet (wTup (wCons (wOp gFdiv (wVar 0) (wVar 2)) (wCons (wOp gFdiv (wVar 1) (wVar 2)) wNil)))))
abbrev kw_plus : List (List Str × Nat × List Nat) := []
def w_plus : WS :=
  (sRet (wCall c_lowest (wCons (wOp gAdd (wOp gMul (wOp gIx (wVar 0) (wC (.int 0))) (wOp gIx (wVar 1) (wC (.int 1)))) (wOp gMul (wOp gIx (wVar 1) (wC (.int 0))) (wOp gIx (wVar 0) (wC (.int 1))))) (wCons (wOp gMul (wOp gIx (wVar 0) (wC (.int 1))) (wOp gIx (wVar 1) (wC (.int 1)))) wNil))))
abbrev kw_total : List (List Str × Nat × List Nat) := []
def w_total : WS :=
  (sSeq (sAsg (wC d_ZERO) (gName 1))
  (sSeq (sFor (wItA (wVar 0)) (gName 2) (sAsg (wCall c_plus (wCons (wVar 1) (wCons (wVar 2) wNil))) (gName 1)))
  (sRet (wVar 1))))
abbrev kw_is_table_value : List (List Str × Nat × List Nat) := []
def w_is_table_value : WS :=
  (sSeq (sIf (wOrT (wNotT (wTest (wCall gIsi (wCons (wVar 0) (wCons (wC (.ty "tuple")) wNil))))) (wOrT (wNotT (wTest (wChain gLe gLe (wC (.int 1)) (wCall gLen (wCons (wVar 0) wNil)) (wC (.int 8))))) (wNotT (wTest (wCall gAll (wCons (wLc (wItA (wVar 0)) (gName 1) wYes (wCall c_is_share_value (wCons (wVar 1) wNil)) [1]) wNil)))))) (sRet (wC (.bl false))) sNext)
  (sRet (wOp gEq (wCall c_total (wCons (wVar 0) wNil)) (wC d_ONE))))
abbrev kw_need_table : List (List Str × Nat × List Nat) := []
def w_need_table : WS :=
  (sIf (wNotT (wTest (wCall c_is_table_value (wCons (wVar 0) wNil)))) sNever sNext)
abbrev kw_need_like : List (List Str × Nat × List Nat) := []
def w_need_like : WS :=
  (sSeq (sExpr (wCall c_need_table (wCons (wVar 0) wNil)))
  (sSeq (sExpr (wCall c_need_table (wCons (wVar 1) wNil)))
  (sIf (wTest (wOp gNe (wCall gLen (wCons (wVar 0) wNil)) (wCall gLen (wCons (wVar 1) wNil)))) sNever sNext)))
abbrev kw_times : List (List Str × Nat × List Nat) := []
def w_times : WS :=
  (sRet (wCall c_lowest (wCons (wOp gMul (wOp gIx (wVar 0) (wC (.int 0))) (wOp gIx (wVar 1) (wC (.int 0)))) (wCons (wOp gMul (wOp gIx (wVar 0) (wC (.int 1))) (wOp gIx (wVar 1) (wC (.int 1)))) wNil))))
abbrev kw_is_less : List (List Str × Nat × List Nat) := []
def w_is_less : WS :=
  (sRet (wOp gLt (wOp gMul (wOp gIx (wVar 0) (wC (.int 0))) (wOp gIx (wVar 1) (wC (.int 1)))) (wOp gMul (wOp gIx (wVar 1) (wC (.int 0))) (wOp gIx (wVar 0) (wC (.int 1))))))
abbrev kw_minus : List (List Str × Nat × List Nat) := []
def w_minus : WS :=
  (sRet (wCall c_lowest (wCons (wOp gSub (wOp gMul (wOp gIx (wVar 0) (wC (.int 0))) (wOp gIx (wVar 1) (wC (.int 1)))) (wOp gMul (wOp gIx (wVar 1) (wC (.int 0))) (wOp gIx (wVar 0) (wC (.int 1))))) (wCons (wOp gMul (wOp gIx (wVar 0) (wC (.int 1))) (wOp gIx (wVar 1) (wC (.int 1)))) wNil))))
abbrev kw_gap : List (List Str × Nat × List Nat) := []
def w_gap : WS :=
  (sRet (wIf (wTest (wCall c_is_less (wCons (wVar 0) (wCons (wVar 1) wNil)))) (wCall c_minus (wCons (wVar 1) (wCons (wVar 0) wNil))) (wCall c_minus (wCons (wVar 0) (wCons (wVar 1) wNil)))))
abbrev kw_raw_distance : List (List Str × Nat × List Nat) := []
def w_raw_distance : WS :=
  (sRet (wCall c_times (wCons (wC d_HALF) (wCons (wCall c_total (wCons (wLc (wZip (wCons (wVar 0) (wCons (wVar 1) wNil))) (gTup 2 (gsCons (gName 2) (gsCons (gName 3) gsNil))) wYes (wCall c_gap (wCons (wVar 2) (wCons (wVar 3) wNil))) [2, 3]) wNil)) wNil))))
abbrev kw_distance : List (List Str × Nat × List Nat) := [(["other", "table"], 0, [1, 0])]
def w_distance : WS :=
  (sSeq (sExpr (wCall c_need_like (wCons (wVar 0) (wCons (wVar 1) wNil))))
  (sRet (wCall c_raw_distance (wCons (wVar 0) (wCons (wVar 1) wNil)))))
abbrev kw_l_is_above : List (List Str × Nat × List Nat) := []
def w_l_is_above : WS :=
  (sRet (wOp gGt (wOp gMul (wOp gIx (wVar 0) (wC (.int 0))) (wOp gIx (wVar 1) (wC (.int 1)))) (wOp gMul (wOp gIx (wVar 1) (wC (.int 0))) (wOp gIx (wVar 0) (wC (.int 1))))))
abbrev kw_l_lot : List (List Str × Nat × List Nat) := []
def w_l_lot : WS :=
  (sRet (wCall gTupOf (wCons (wLc (wRng1 (wCons (wVar 1) wNil)) (gName 2) (wTest (wOp gEq (wCall c_l_draw (wCons (wVar 0) (wCons (wC (.int 2)) wNil))) (wC (.int 0)))) (wVar 2) [2]) wNil)))
abbrev kw_l_chance : List (List Str × Nat × List Nat) := []
def w_l_chance : WS :=
  (sRet (wCall c_l_sum (wCons (wLc (wItA (wVar 1)) (gName 2) wYes (wOp gIx (wVar 0) (wVar 2)) [2]) wNil)))
abbrev kw_l_lot_apart : List (List Str × Nat × List Nat) := []
def w_l_lot_apart : WS :=
  (sSeq (sAsg (wCall c_l_less (wCons (wCall c_l_chance (wCons (wVar 0) (wCons (wVar 2) wNil))) (wCons (wCall c_l_chance (wCons (wVar 1) (wCons (wVar 2) wNil))) wNil))) (gName 3))
  (sRet (wTup (wCons (wCall gAbs (wCons (wOp gIx (wVar 3) (wC (.int 0))) wNil)) (wCons (wOp gIx (wVar 3) (wC (.int 1))) wNil)))))
abbrev kw_l_pick_2 : List (List Str × Nat × List Nat) := []
def w_l_pick_2 : WS :=
  (sRet (wOp gIx (wVar 1) (wCall c_l_draw (wCons (wVar 0) (wCons (wCall gLen (wCons (wVar 1) wNil)) wNil)))))
abbrev kw_need_near : List (List Str × Nat × List Nat) := []
def w_need_near : WS :=
  (sSeq (sExpr (wCall c_need_like (wCons (wVar 0) (wCons (wVar 1) wNil))))
  (sIf (wNotT (wTest (wCall c_is_share_value (wCons (wVar 2) wNil)))) sNever sNext))
abbrev kw_is_at_most : List (List Str × Nat × List Nat) := []
def w_is_at_most : WS :=
  (sRet (wOp gLe (wOp gMul (wOp gIx (wVar 0) (wC (.int 0))) (wOp gIx (wVar 1) (wC (.int 1)))) (wOp gMul (wOp gIx (wVar 1) (wC (.int 0))) (wOp gIx (wVar 0) (wC (.int 1))))))
abbrev kw_lot_above : List (List Str × Nat × List Nat) := []
def w_lot_above : WS :=
  (sRet (wCall gTupOf (wCons (wLc (wEnum (wCons (wVar 0) wNil)) (gTup 2 (gsCons (gName 2) (gsCons (gName 3) gsNil))) (wTest (wCall c_is_less (wCons (wOp gIx (wVar 1) (wVar 2)) (wCons (wVar 3) wNil)))) (wVar 2) [2, 3]) wNil)))
abbrev kw_judge_near : List (List Str × Nat × List Nat) := [(["fraction", "other", "table"], 0, [2, 1, 0])]
def w_judge_near : WS :=
  (sSeq (sExpr (wCall c_need_near (wCons (wVar 0) (wCons (wVar 1) (wCons (wVar 2) wNil)))))
  (sSeq (sIf (wTest (wCall c_is_at_most (wCons (wCall c_raw_distance (wCons (wVar 0) (wCons (wVar 1) wNil))) (wCons (wVar 2) wNil)))) (sRet (wTup (wCons (wC (.str "within")) wNil))) sNext)
  (sRet (wTup (wCons (wC (.str "lot")) (wCons (wCall c_lot_above (wCons (wVar 0) (wCons (wVar 1) wNil))) wNil))))))
abbrev kw_is_exactly : List (List Str × Nat × List Nat) := []
def w_is_exactly : WS :=
  (sRet (wOp gEq (wCall gRepr (wCons (wVar 0) wNil)) (wCall gRepr (wCons (wVar 1) wNil))))
abbrev kw_is_word : List (List Str × Nat × List Nat) := []
def w_is_word : WS :=
  (sRet (wAnd (wCall gIsi (wCons (wVar 0) (wCons (wC (.ty "tuple")) wNil))) (wAnd (wOp gGt (wCall gLen (wCons (wVar 0) wNil)) (wC (.int 0))) (wAnd (wCall gIsi (wCons (wOp gIx (wVar 0) (wC (.int 0))) (wCons (wC (.ty "str")) wNil))) (wOp gEq (wOp gIx (wVar 0) (wC (.int 0))) (wVar 1))))))
abbrev kw_is_between : List (List Str × Nat × List Nat) := []
def w_is_between : WS :=
  (sRet (wAnd (wCall c_is_integer (wCons (wVar 0) wNil)) (wChain gLe gLe (wVar 1) (wVar 0) (wVar 2))))
abbrev kw_are_between : List (List Str × Nat × List Nat) := []
def w_are_between : WS :=
  (sRet (wAnd (wCall gIsi (wCons (wVar 0) (wCons (wC (.ty "tuple")) wNil))) (wCall gAll (wCons (wLc (wItA (wVar 0)) (gName 3) wYes (wCall c_is_between (wCons (wVar 3) (wCons (wVar 1) (wCons (wVar 2) wNil)))) [3]) wNil))))
abbrev kw_is_ascending : List (List Str × Nat × List Nat) := []
def w_is_ascending : WS :=
  (sRet (wCall gAll (wCons (wLc (wZip (wCons (wVar 0) (wCons (wSl gSl (wVar 0) (wSo (wC (.int 1))) wNo) wNil))) (gTup 2 (gsCons (gName 1) (gsCons (gName 2) gsNil))) wYes (wOp gLt (wVar 1) (wVar 2)) [1, 2]) wNil)))
abbrev kw_is_lot_value : List (List Str × Nat × List Nat) := []
def w_is_lot_value : WS :=
  (sRet (wAnd (wCall c_are_between (wCons (wVar 1) (wCons (wC (.int 0)) (wCons (wOp gSub (wVar 0) (wC (.int 1))) wNil)))) (wCall c_is_ascending (wCons (wVar 1) wNil))))
abbrev kw_raw_lot_chance : List (List Str × Nat × List Nat) := []
def w_raw_lot_chance : WS :=
  (sRet (wCall c_total (wCons (wLc (wItA (wVar 1)) (gName 2) wYes (wOp gIx (wVar 0) (wVar 2)) [2]) wNil)))
abbrev kw_near_holds : List (List Str × Nat × List Nat) := [(["thing", "fraction", "other", "table"], 0, [3, 2, 1, 0])]
def w_near_holds : WS :=
  (sSeq (sExpr (wCall c_need_near (wCons (wVar 0) (wCons (wVar 1) (wCons (wVar 2) wNil)))))
  (sSeq (sIf (wTest (wCall c_is_exactly (wCons (wVar 3) (wCons (wTup (wCons (wC (.str "within")) wNil)) wNil)))) (sRet (wCall c_is_at_most (wCons (wCall c_raw_distance (wCons (wVar 0) (wCons (wVar 1) wNil))) (wCons (wVar 2) wNil)))) sNext)
  (sSeq (sIf (wOrT (wNotT (wTest (wCall c_is_word (wCons (wVar 3) (wCons (wC (.str "lot")) wNil))))) (wOrT (wTest (wOp gNe (wCall gLen (wCons (wVar 3) wNil)) (wC (.int 2)))) (wNotT (wTest (wCall c_is_lot_value (wCons (wCall gLen (wCons (wVar 0) wNil)) (wCons (wOp gIx (wVar 3) (wC (.int 1))) wNil))))))) (sRet (wC (.bl false))) sNext)
  (sRet (wCall c_is_less (wCons (wVar 2) (wCons (wCall c_gap (wCons (wCall c_raw_lot_chance (wCons (wVar 0) (wCons (wOp gIx (wVar 3) (wC (.int 1))) wNil))) (wCons (wCall c_raw_lot_chance (wCons (wVar 1) (wCons (wOp gIx (wVar 3) (wC (.int 1))) wNil))) wNil))) wNil)))))))
abbrev kw_l_is_integer : List (List Str × Nat × List Nat) := []
def w_l_is_integer : WS :=
  (sRet (wAnd (wCall gIsi (wCons (wVar 0) (wCons (wC (.ty "int")) wNil))) (wNot (wCall gIsi (wCons (wVar 0) (wCons (wC (.ty "bool")) wNil))))))
abbrev kw_l_is_lot : List (List Str × Nat × List Nat) := []
def w_l_is_lot : WS :=
  (sSeq (sIf (wOrT (wNotT (wTest (wCall gIsi (wCons (wVar 1) (wCons (wC (.ty "tuple")) wNil))))) (wTest (wOp gNe (wLc (wItA (wVar 1)) (gName 2) (wOrT (wNotT (wTest (wCall c_l_is_integer (wCons (wVar 2) wNil)))) (wNotT (wTest (wChain gLe gLt (wC (.int 0)) (wVar 2) (wVar 0))))) (wC (.int 1)) [2]) (wRol wNil)))) (sRet (wC (.bl false))) sNext)
  (sRet (wOp gEq (wCall gListOf (wCons (wVar 1) wNil)) (wSortSet (wVar 1)))))
abbrev kw_l_is_judged : List (List Str × Nat × List Nat) := []
def w_l_is_judged : WS :=
  (sSeq (sAsg (wCall c_judge_near (wCons (wVar 1) (wCons (wVar 2) (wCons (wVar 3) wNil)))) (gName 4))
  (sSeq (sIf (wTest (wOp gEq (wCall c_l_draw (wCons (wVar 0) (wCons (wC (.int 2)) wNil))) (wC (.int 0)))) (sAsg (wCallK c_judge_near [2, 1, 0] 0 3 wNil (wCons (wVar 3) (wCons (wVar 2) (wCons (wVar 1) wNil)))) (gName 4)) sNext)
  (sSeq (sIf (wNotT (wTest (wCall c_l_is_above (wCons (wCall c_l_apart (wCons (wVar 1) (wCons (wVar 2) wNil))) (wCons (wVar 3) wNil))))) (sRet (wAnd (wOp gEq (wCall gRepr (wCons (wVar 4) wNil)) (wCall gRepr (wCons (wTup (wCons (wC (.str "within")) wNil)) wNil))) (wOp gIsB (wCall c_near_holds (wCons (wVar 1) (wCons (wVar 2) (wCons (wVar 3) (wCons (wVar 4) wNil))))) (wC (.bl true))))) sNext)
  (sSeq (sIf (wOrT (wNotT (wTest (wCall gIsi (wCons (wVar 4) (wCons (wC (.ty "tuple")) wNil))))) (wOrT (wTest (wOp gNe (wCall gLen (wCons (wVar 4) wNil)) (wC (.int 2)))) (wOrT (wTest (wOp gNe (wOp gIx (wVar 4) (wC (.int 0))) (wC (.str "lot")))) (wNotT (wTest (wCall c_l_is_lot (wCons (wCall gLen (wCons (wVar 1) wNil)) (wCons (wOp gIx (wVar 4) (wC (.int 1))) wNil)))))))) (sRet (wC (.bl false))) sNext)
  (sSeq (sIf (wNotT (wTest (wCall c_l_is_above (wCons (wCall c_l_lot_apart (wCons (wVar 1) (wCons (wVar 2) (wCons (wOp gIx (wVar 4) (wC (.int 1))) wNil)))) (wCons (wVar 3) wNil))))) (sRet (wC (.bl false))) sNext)
  (sRet (wOp gIsB (wCallK c_near_holds [3, 2, 1, 0] 0 4 wNil (wCons (wVar 4) (wCons (wVar 3) (wCons (wVar 2) (wCons (wVar 1) wNil))))) (wC (.bl true)))))))))
abbrev kw_l_names : List (List Str × Nat × List Nat) := []
def w_l_names : WS :=
  (sSeq (sAsg (wCall c_l_pick (wCons (wVar 0) (wCons (wRol (wCons (wC (.int 2)) (wCons (wC (.int 3)) (wCons (wVar 1) (wCons (wC (.int 8)) (wCons (wC (.int 1)) wNil)))))) wNil))) (gName 2))
  (sRet (wCall gTupOf (wCons (wLc (wRng1 (wCons (wVar 1) wNil)) (gName 3) wYes (wCall c_l_draw (wCons (wVar 0) (wCons (wVar 2) wNil))) [3]) wNil))))
abbrev kw_raw_renamed : List (List Str × Nat × List Nat) := []
def w_raw_renamed : WS :=
  (sRet (wCall gTupOf (wCons (wLc (wRng1 (wCons (wVar 2) wNil)) (gName 3) wYes (wCall c_total (wCons (wLc (wZip (wCons (wVar 0) (wCons (wVar 1) wNil))) (gTup 2 (gsCons (gName 4) (gsCons (gName 5) gsNil))) (wTest (wOp gEq (wVar 5) (wVar 3))) (wVar 4) [4, 5]) wNil)) [3]) wNil)))
abbrev kw_renamed : List (List Str × Nat × List Nat) := []
def w_renamed : WS :=
  (sSeq (sExpr (wCall c_need_table (wCons (wVar 0) wNil)))
  (sSeq (sIf (wOrT (wNotT (wTest (wCall c_are_between (wCons (wVar 1) (wCons (wC (.int 0)) (wCons (wOp gSub (wC (.int 8)) (wC (.int 1))) wNil)))))) (wTest (wOp gNe (wCall gLen (wCons (wVar 1) wNil)) (wCall gLen (wCons (wVar 0) wNil))))) sNever sNext)
  (sRet (wCall c_raw_renamed (wCons (wVar 0) (wCons (wVar 1) (wCons (wOp gAdd (wCall gMaxU (wCons (wVar 1) wNil)) (wC (.int 1))) wNil)))))))
abbrev kw_raw_mixed : List (List Str × Nat × List Nat) := []
def w_raw_mixed : WS :=
  (sSeq (sAsg (wLst wNil) (gName 2))
  (sSeq (sFor (wRng1 (wCons (wCall gLen (wCons (wOp gIx (wVar 1) (wC (.int 0))) wNil)) wNil)) (gName 3) (sExpr (wM gAppend (wVar 2) (wCons (wCall c_total (wCons (wLc (wZip (wCons (wVar 0) (wCons (wVar 1) wNil))) (gTup 2 (gsCons (gName 4) (gsCons (gName 5) gsNil))) wYes (wCall c_times (wCons (wVar 4) (wCons (wOp gIx (wVar 5) (wVar 3)) wNil))) [4, 5]) wNil)) wNil))))
  (sRet (wCall gTupOf (wCons (wVar 2) wNil)))))
abbrev kw_mixed : List (List Str × Nat × List Nat) := []
def w_mixed : WS :=
  (sSeq (sExpr (wCall c_need_table (wCons (wVar 0) wNil)))
  (sSeq (sIf (wOrT (wNotT (wTest (wCall gIsi (wCons (wVar 1) (wCons (wC (.ty "tuple")) wNil))))) (wNotT (wTest (wCall gAll (wCons (wLc (wItA (wVar 1)) (gName 2) wYes (wCall c_is_table_value (wCons (wVar 2) wNil)) [2]) wNil))))) sNever sNext)
  (sSeq (sFor (wItA (wVar 1)) (gName 2) (sIf (wTest (wOp gNe (wCall gLen (wCons (wVar 2) wNil)) (wCall gLen (wCons (wOp gIx (wVar 1) (wC (.int 0))) wNil)))) sNever sNext))
  (sSeq (sIf (wTest (wOp gNe (wCall gLen (wCons (wVar 1) wNil)) (wCall gLen (wCons (wVar 0) wNil)))) sNever sNext)
  (sRet (wCall c_raw_mixed (wCons (wVar 0) (wCons (wVar 1) wNil))))))))
abbrev kw_beside : List (List Str × Nat × List Nat) := []
def w_beside : WS :=
  (sSeq (sExpr (wCall c_need_table (wCons (wVar 0) wNil)))
  (sSeq (sExpr (wCall c_need_table (wCons (wVar 1) wNil)))
  (sSeq (sIf (wTest (wOp gGt (wOp gMul (wCall gLen (wCons (wVar 0) wNil)) (wCall gLen (wCons (wVar 1) wNil))) (wC (.int 8)))) sNever sNext)
  (sRet (wCall gTupOf (wCons (wLc2 (wItA (wVar 0)) (gName 2) wYes (wItA (wVar 1)) (gName 3) wYes (wCall c_times (wCons (wVar 2) (wCons (wVar 3) wNil))) [2, 3] [3]) wNil))))))
abbrev kw_law : List (List Str × Nat × List Nat) := []
def w_law : WS :=
  (sSeq (sAsg (wCall c_l_deck (wCons (wVar 0) (wCons (wC (.int 3)) wNil))) (gName 1))
  (sSeq (sAsg (wCall c_l_some_table (wCons (wVar 1) wNil)) (gName 2))
  (sSeq (sAsg (wTup (wCons (wCall gLen (wCons (wVar 2) wNil)) (wCons (wCall c_l_other (wCons (wVar 1) (wCons (wVar 2) wNil))) (wCons (wCall c_l_table (wCons (wVar 1) (wCons (wCall gLen (wCons (wVar 2) wNil)) (wCons (wC (.int 0)) wNil)))) wNil)))) (gTup 3 (gsCons (gName 3) (gsCons (gName 4) (gsCons (gName 5) gsNil)))))
  (sSeq (sAsg (wCall c_l_apart (wCons (wVar 2) (wCons (wVar 4) wNil))) (gName 6))
  (sSeq (sIf (wTest (wOp gNe (wCall gRepr (wCons (wRol (wCons (wCall c_distance (wCons (wVar 2) (wCons (wVar 4) wNil))) (wCons (wCallK c_distance [1, 0] 0 2 wNil (wCons (wVar 2) (wCons (wVar 4) wNil))) wNil))) wNil)) (wCall gRepr (wCons (wRol (wCons (wVar 6) (wCons (wVar 6) wNil))) wNil)))) (sRet (wC (.bl false))) sNext)
  (sSeq (sIf (wOrT (wTest (wOp gNe (wOp gEq (wVar 6) (wTup (wCons (wC (.int 0)) (wCons (wC (.int 1)) wNil)))) (wOp gEq (wVar 2) (wVar 4)))) (wTest (wCall c_l_is_above (wCons (wVar 6) (wCons (wTup (wCons (wC (.int 1)) (wCons (wC (.int 1)) wNil))) wNil))))) (sRet (wC (.bl false))) sNext)
  (sSeq (sIf (wTest (wCall c_l_is_above (wCons (wVar 6) (wCons (wCall c_l_sum (wCons (wRol (wCons (wCall c_distance (wCons (wVar 2) (wCons (wVar 5) wNil))) (wCons (wCall c_distance (wCons (wVar 5) (wCons (wVar 4) wNil))) wNil))) wNil)) wNil)))) (sRet (wC (.bl false))) sNext)
  (sSeq (sAsg (wCall gTupOf (wCons (wLc (wRng1 (wCons (wVar 3) wNil)) (gName 14) (wTest (wCall c_l_is_above (wCons (wOp gIx (wVar 2) (wVar 14)) (wCons (wOp gIx (wVar 4) (wVar 14)) wNil)))) (wVar 14) [14]) wNil)) (gName 7))
  (sSeq (sAsg (wCall c_l_lot (wCons (wVar 1) (wCons (wVar 3) wNil))) (gName 8))
  (sSeq (sIf (wOrT (wTest (wOp gNe (wCall c_l_lot_apart (wCons (wVar 2) (wCons (wVar 4) (wCons (wVar 7) wNil)))) (wVar 6))) (wTest (wCall c_l_is_above (wCons (wCall c_l_lot_apart (wCons (wVar 2) (wCons (wVar 4) (wCons (wVar 8) wNil)))) (wCons (wVar 6) wNil))))) (sRet (wC (.bl false))) sNext)
  (sSeq (sAsg (wTup (wCons (wC (.int 1)) (wCons (wOp gPow (wC (.int 10)) (wC (.int 20))) wNil))) (gName 9))
  (sSeq (sAsg (wLst (wCons (wVar 6) (wCons (wTup (wCons (wC (.int 0)) (wCons (wC (.int 1)) wNil))) (wCons (wTup (wCons (wC (.int 1)) (wCons (wC (.int 1)) wNil))) (wCons (wCall c_l_sum (wCons (wRol (wCons (wVar 6) (wCons (wVar 9) wNil))) wNil)) (wCons (wTup (wCons (wC (.int 1)) (wCons (wC (.int 2)) wNil))) (wCons (wTup (wCons (wC (.int 1)) (wCons (wC (.int 3)) wNil))) (wCons (wCall c_l_lot_apart (wCons (wVar 2) (wCons (wVar 5) (wCons (wVar 8) wNil)))) (wCons (wTup (wCons (wC (.int 5)) (wCons (wC (.int 2)) wNil))) wNil))))))))) (gName 10))
  (sSeq (sIf (wTest (wOp gNe (wVar 6) (wTup (wCons (wC (.int 0)) (wCons (wC (.int 1)) wNil))))) (sExpr (wM gAppend (wVar 10) (wCons (wCall c_l_less (wCons (wVar 6) (wCons (wCall c_l_times (wCons (wVar 6) (wCons (wVar 9) wNil))) wNil))) wNil))) sNext)
  (sSeq (sFor (wItA (wRol (wCons (wVar 6) (wCons (wOp gIx (wVar 10) (wUn gNeg (wC (.int 1)))) (wCons (wCall c_l_pick_2 (wCons (wVar 1) (wCons (wVar 10) wNil))) (wCons (wCall c_l_pick_2 (wCons (wVar 1) (wCons (wVar 10) wNil))) wNil)))))) (gName 11) (sIf (wNotT (wTest (wCall c_l_is_judged (wCons (wVar 1) (wCons (wVar 2) (wCons (wVar 4) (wCons (wVar 11) wNil))))))) (sRet (wC (.bl false))) sNext))
  (sSeq (sPar2 12 13 (wCons (wCall c_l_names (wCons (wVar 1) (wCons (wVar 3) wNil))) (wCons (wTup (wCons (wTup (wCons (wC (.int 1)) (wCons (wC (.int 2)) wNil))) (wCons (wTup (wCons (wC (.int 1)) (wCons (wC (.int 2)) wNil))) wNil))) wNil)))
  (sSeq (sIf (wTest (wCall c_l_is_above (wCons (wCall c_distance (wCons (wCall c_renamed (wCons (wVar 2) (wCons (wVar 12) wNil))) (wCons (wCall c_renamed (wCons (wVar 4) (wCons (wVar 12) wNil))) wNil))) (wCons (wVar 6) wNil)))) (sRet (wC (.bl false))) sNext)
  (sSeq (sIf (wTest (wOp gNe (wCall gRepr (wCons (wCall c_distance (wCons (wCall c_mixed (wCons (wVar 13) (wCons (wTup (wCons (wVar 2) (wCons (wVar 5) wNil))) wNil))) (wCons (wCall c_mixed (wCons (wVar 13) (wCons (wTup (wCons (wVar 4) (wCons (wVar 5) wNil))) wNil))) wNil))) wNil)) (wCall gRepr (wCons (wCall c_l_times (wCons (wVar 6) (wCons (wTup (wCons (wC (.int 1)) (wCons (wC (.int 2)) wNil))) wNil))) wNil)))) (sRet (wC (.bl false))) sNext)
  (sRet (wOr (wOp gGt (wVar 3) (wC (.int 4))) (wOp gEq (wCall gRepr (wCons (wCall c_distance (wCons (wCall c_beside (wCons (wVar 2) (wCons (wVar 13) wNil))) (wCons (wCall c_beside (wCons (wVar 4) (wCons (wVar 13) wNil))) wNil))) wNil)) (wCall gRepr (wCons (wVar 6) wNil))))))))))))))))))))))
theorem st_l_deck {a0 a1 : D} : startD N_l_deck [a0, a1] = [some a0, some a1, none, none] := rfl
theorem st_l_draw {a0 a1 : D} : startD N_l_draw [a0, a1] = [some a0, some a1, none, none] := rfl
theorem st_l_pick {a0 a1 : D} : startD N_l_pick [a0, a1] = [some a0, some a1] := rfl
theorem st_l_parts {a0 a1 a2 : D} : startD N_l_parts [a0, a1, a2] = [some a0, some a1, some a2, none, none, none] := rfl
theorem st_l_common {a0 a1 : D} : startD N_l_common [a0, a1] = [some a0, some a1, none] := rfl
theorem st_l_fraction {a0 a1 : D} : startD N_l_fraction [a0, a1] = [some a0, some a1, none] := rfl
theorem st_l_table {a0 a1 a2 : D} : startD N_l_table [a0, a1, a2] = [some a0, some a1, some a2, none, none, none, none] := rfl
theorem st_l_some_table {a0 : D} : startD N_l_some_table [a0] = [some a0] := rfl
theorem st_l_sum {a0 : D} : startD N_l_sum [a0] = [some a0, none, none, none] := rfl
theorem st_l_times {a0 a1 : D} : startD N_l_times [a0, a1] = [some a0, some a1] := rfl
theorem st_l_mixed {a0 a1 : D} : startD N_l_mixed [a0, a1] = [some a0, some a1, none, none, none, none] := rfl
theorem st_l_other {a0 a1 : D} : startD N_l_other [a0, a1] = [some a0, some a1, none, none] := rfl
theorem st_l_less {a0 a1 : D} : startD N_l_less [a0, a1] = [some a0, some a1] := rfl
theorem st_l_apart {a0 a1 : D} : startD N_l_apart [a0, a1] = [some a0, some a1, none, none, none, none, none] := rfl
theorem st_is_integer {a0 : D} : startD N_is_integer [a0] = [some a0] := rfl
theorem st_divisor_of {a0 a1 : D} : startD N_divisor_of [a0, a1] = [some a0, some a1] := rfl
theorem st_is_fraction_value {a0 : D} : startD N_is_fraction_value [a0] = [some a0] := rfl
theorem st_is_share_value {a0 : D} : startD N_is_share_value [a0] = [some a0] := rfl
theorem st_lowest {a0 a1 : D} : startD N_lowest [a0, a1] = [some a0, some a1, none] := rfl
theorem st_plus {a0 a1 : D} : startD N_plus [a0, a1] = [some a0, some a1] := rfl
theorem st_total {a0 : D} : startD N_total [a0] = [some a0, none, none] := rfl
theorem st_is_table_value {a0 : D} : startD N_is_table_value [a0] = [some a0, none] := rfl
theorem st_need_table {a0 : D} : startD N_need_table [a0] = [some a0] := rfl
theorem st_need_like {a0 a1 : D} : startD N_need_like [a0, a1] = [some a0, some a1] := rfl
theorem st_times {a0 a1 : D} : startD N_times [a0, a1] = [some a0, some a1] := rfl
theorem st_is_less {a0 a1 : D} : startD N_is_less [a0, a1] = [some a0, some a1] := rfl
theorem st_minus {a0 a1 : D} : startD N_minus [a0, a1] = [some a0, some a1] := rfl
theorem st_gap {a0 a1 : D} : startD N_gap [a0, a1] = [some a0, some a1] := rfl
theorem st_raw_distance {a0 a1 : D} : startD N_raw_distance [a0, a1] = [some a0, some a1, none, none] := rfl
theorem st_distance {a0 a1 : D} : startD N_distance [a0, a1] = [some a0, some a1] := rfl
theorem st_l_is_above {a0 a1 : D} : startD N_l_is_above [a0, a1] = [some a0, some a1] := rfl
theorem st_l_lot {a0 a1 : D} : startD N_l_lot [a0, a1] = [some a0, some a1, none] := rfl
theorem st_l_chance {a0 a1 : D} : startD N_l_chance [a0, a1] = [some a0, some a1, none] := rfl
theorem st_l_lot_apart {a0 a1 a2 : D} : startD N_l_lot_apart [a0, a1, a2] = [some a0, some a1, some a2, none] := rfl
theorem st_l_pick_2 {a0 a1 : D} : startD N_l_pick_2 [a0, a1] = [some a0, some a1] := rfl
theorem st_need_near {a0 a1 a2 : D} : startD N_need_near [a0, a1, a2] = [some a0, some a1, some a2] := rfl
theorem st_is_at_most {a0 a1 : D} : startD N_is_at_most [a0, a1] = [some a0, some a1] := rfl
theorem st_lot_above {a0 a1 : D} : startD N_lot_above [a0, a1] = [some a0, some a1, none, none] := rfl
theorem st_judge_near {a0 a1 a2 : D} : startD N_judge_near [a0, a1, a2] = [some a0, some a1, some a2] := rfl
theorem st_is_exactly {a0 a1 : D} : startD N_is_exactly [a0, a1] = [some a0, some a1] := rfl
theorem st_is_word {a0 a1 : D} : startD N_is_word [a0, a1] = [some a0, some a1] := rfl
theorem st_is_between {a0 a1 a2 : D} : startD N_is_between [a0, a1, a2] = [some a0, some a1, some a2] := rfl
theorem st_are_between {a0 a1 a2 : D} : startD N_are_between [a0, a1, a2] = [some a0, some a1, some a2, none] := rfl
theorem st_is_ascending {a0 : D} : startD N_is_ascending [a0] = [some a0, none, none] := rfl
theorem st_is_lot_value {a0 a1 : D} : startD N_is_lot_value [a0, a1] = [some a0, some a1] := rfl
theorem st_raw_lot_chance {a0 a1 : D} : startD N_raw_lot_chance [a0, a1] = [some a0, some a1, none] := rfl
theorem st_near_holds {a0 a1 a2 a3 : D} : startD N_near_holds [a0, a1, a2, a3] = [some a0, some a1, some a2, some a3] := rfl
theorem st_l_is_integer {a0 : D} : startD N_l_is_integer [a0] = [some a0] := rfl
theorem st_l_is_lot {a0 a1 : D} : startD N_l_is_lot [a0, a1] = [some a0, some a1, none] := rfl
theorem st_l_is_judged {a0 a1 a2 a3 : D} : startD N_l_is_judged [a0, a1, a2, a3] = [some a0, some a1, some a2, some a3, none] := rfl
theorem st_l_names {a0 a1 : D} : startD N_l_names [a0, a1] = [some a0, some a1, none, none] := rfl
theorem st_raw_renamed {a0 a1 a2 : D} : startD N_raw_renamed [a0, a1, a2] = [some a0, some a1, some a2, none, none, none] := rfl
theorem st_renamed {a0 a1 : D} : startD N_renamed [a0, a1] = [some a0, some a1] := rfl
theorem st_raw_mixed {a0 a1 : D} : startD N_raw_mixed [a0, a1] = [some a0, some a1, none, none, none, none] := rfl
theorem st_mixed {a0 a1 : D} : startD N_mixed [a0, a1] = [some a0, some a1, none] := rfl
theorem st_beside {a0 a1 : D} : startD N_beside [a0, a1] = [some a0, some a1, none, none] := rfl
theorem st_law {a0 : D} : startD N_law [a0] = [some a0, none, none, none, none, none, none, none, none, none, none, none, none, none, none] := rfl
end K03
namespace K03
open PySem PySem.Spec L2 DL
open PyProof.Rows hiding St
theorem sm_congr {n : Nat} {f g : Nat → Rat} (h : ∀ i, i < n → f i = g i) : sm n f = sm n g := by
  induction n with
  | zero => rfl
  | succ n ih => rw [sm, sm, ih fun i hi => h i (by omega), h n (by omega)]
theorem sm_add (n : Nat) (f g : Nat → Rat) : sm n (fun i => f i + g i) = sm n f + sm n g := by
  induction n with
  | zero => rw [sm, sm, sm, Rat.add_zero]
  | succ n ih => rw [sm, sm, sm, ih]; grind
theorem sm_mul (n : Nat) (c : Rat) (f : Nat → Rat) : sm n (fun i => c * f i) = c * sm n f := by
  induction n with
  | zero => rw [sm, sm, Rat.mul_zero]
  | succ n ih => rw [sm, sm, ih, Rat.mul_add]
theorem sm_zero {n : Nat} {f : Nat → Rat} (h : ∀ i, i < n → f i = 0) : sm n f = 0 := by
  induction n with
  | zero => rfl
  | succ n ih => rw [sm, ih fun i hi => h i (by omega), h n (by omega), Rat.add_zero]
theorem sm_comm (n m : Nat) (F : Nat → Nat → Rat) : sm n (fun i => sm m fun j => F i j) = sm m fun j => sm n fun i => F i j := by
  induction n with
  | zero => rw [sm]; exact (sm_zero fun _ _ => rfl).symm
  | succ n ih =>
    rw [sm, ih, ← sm_add]
    rfl
theorem sm_split (n m : Nat) (f : Nat → Rat) : sm (n + m) f = sm n f + sm m fun j => f (n + j) := by
  induction m with
  | zero => rw [sm]; show sm n f = _; grind
  | succ m ih => rw [← Nat.add_assoc, sm, ih, sm]; grind
theorem sm_prod (n m : Nat) (F : Nat → Nat → Rat) : sm (n * m) (fun k => F (k / m) (k % m)) = sm n fun i => sm m fun j => F i j := by
  induction n with
  | zero => rw [Nat.zero_mul]; rfl
  | succ n ih =>
    rw [Nat.succ_mul, sm_split, ih, sm]
    congr 1
    refine sm_congr fun j hj => ?_
    have e1 : (n * m + j) / m = n := by rw [Nat.mul_comm, Nat.mul_add_div (by omega), Nat.div_eq_of_lt hj]; rfl
    have e2 : (n * m + j) % m = j := by rw [Nat.mul_comm, Nat.mul_add_mod, Nat.mod_eq_of_lt hj]
    rw [e1, e2]
theorem sm_nonneg {n : Nat} {f : Nat → Rat} (h : ∀ i, i < n → 0 ≤ f i) : 0 ≤ sm n f := by
  induction n with
  | zero => exact Rat.le_refl
  | succ n ih => rw [sm]; have := ih fun i hi => h i (by omega); have := h n (by omega); grind
theorem sm_le {n : Nat} {f g : Nat → Rat} (h : ∀ i, i < n → f i ≤ g i) : sm n f ≤ sm n g := by
  induction n with
  | zero => exact Rat.le_refl
  | succ n ih => rw [sm, sm]; have := ih fun i hi => h i (by omega); have := h n (by omega); grind
theorem sm_nth {N n : Nat} {f : Nat → Rat} (hN : 0 < N) (h : ∀ i, i < n → Nth N (f i)) : Nth N (sm n f) := by
  induction n with
  | zero => exact Nth.zero
  | succ n ih => rw [sm]; exact Nth.add hN (ih fun i hi => h i (by omega)) (h n (by omega))
theorem iteT (x : Rat) : iteR true x = x := rfl
theorem iteF (x : Rat) : iteR false x = 0 := rfl
theorem ite_pos (b : Bool) {x : Rat} (h : 0 ≤ x) : 0 ≤ iteR b x := by cases b; exact Rat.le_refl; exact h
theorem ite_le (b : Bool) {x : Rat} (h : 0 ≤ x) : iteR b x ≤ x := by cases b; exact h; exact Rat.le_refl
theorem ite_nth {N : Nat} (b : Bool) {x : Rat} (h : Nth N x) : Nth N (iteR b x) := by cases b; exact Nth.zero; exact h
theorem sm_one {n j : Nat} (hj : j < n) (f : Nat → Rat) : sm n (fun i => iteR (decide (i = j)) (f i)) = f j := by
  induction n with
  | zero => omega
  | succ n ih =>
    rw [sm]
    by_cases e : j = n
    · subst e
      rw [sm_zero fun i hi => by rw [decide_eq_false (by omega)]; rfl, decide_eq_true rfl, iteT, Rat.zero_add]
    · rw [ih (by omega), decide_eq_false (by omega), iteF, Rat.add_zero]
theorem sm_one' {n j : Nat} (hj : j < n) (f : Nat → Rat) : sm n (fun i => iteR (decide (j = i)) (f i)) = f j := by
  rw [← sm_one hj f]
  refine sm_congr fun i _ => ?_
  congr 1
  exact decide_eq_decide.mpr eq_comm
theorem tF_len (n : Nat) (f : Nat → Rat) : (tF n f).length = n := by simp [tF]
theorem gF_tF {n i : Nat} (hi : i < n) (f : Nat → Rat) : gF (tF n f) i = f i := by simp [gF, tF, List.getD, hi]
theorem tF_congr {n : Nat} {f g : Nat → Rat} (h : ∀ i, i < n → f i = g i) : tF n f = tF n g := by
  unfold tF
  exact List.map_congr_left fun i hi => h i (List.mem_range.mp hi)
theorem tF_gF (t : List Rat) : tF t.length (gF t) = t := by
  apply List.ext_getElem
  · rw [tF_len]
  · intro i h1 h2
    simp [tF, gF, List.getD, h2]
theorem gF_some {t : List Rat} {i : Nat} (hi : i < t.length) : t[i]? = some (gF t i) := by simp [gF, List.getD, hi]
theorem gF_mem {t : List Rat} {i : Nat} (hi : i < t.length) : gF t i ∈ t := List.mem_of_getElem? (gF_some hi)
theorem big880 {N : Nat} (h : N ≤ 2 ^ 880) : N < 2 ^ 900 := Nat.lt_of_le_of_lt h (by decide +kernel)
theorem Tab.less {N n : Nat} {t : List Rat} (h : Tab N n t) {L : Nat} (hL : N ≤ L) : Less L t := fun p hp => Nat.le_trans ((h.nth p hp).den h.n0) hL
theorem le1000 {n : Nat} (h : n ≤ 1000) : n ≤ sizeLine := Nat.le_of_lt (small1000 h)
theorem noBs_map {α : Type} {f : α → D} (h : ∀ x, noB (f x) = true) : ∀ l : List α, noBs (l.map f) = true
  | [] => rfl
  | x :: l => by rw [List.map_cons, noBs, h x, noBs_map h l]; rfl
theorem dpDs_map {α : Type} {f : α → D} {c : Nat} (h : ∀ x, dpD (f x) ≤ c) : ∀ l : List α, dpDs (l.map f) ≤ c
  | [] => by simp [dpDs]
  | x :: l => by
    rw [List.map_cons, dpDs]
    have := h x
    have := dpDs_map h l
    omega
theorem noB_fr (q : Rat) : noB (frD q) = true := rfl
theorem dp_fr (q : Rat) : dpD (frD q) ≤ 1 := by simp [frD, dpD, dpDs]
theorem noB_tab (t : List Rat) : noB (tabD t) = true := by unfold tabD; rw [noB]; exact noBs_map noB_fr t
theorem dp_tab (t : List Rat) : dpD (tabD t) ≤ 2 := by unfold tabD; rw [dpD]; have := dpDs_map dp_fr t; omega
theorem frs_at {t : List Rat} {i : Nat} (h : i < t.length) : atI (t.map frD) (i : Int) = some (frD (gF t i)) := atI_of (by rw [List.getElem?_map, gF_some h]; rfl)
theorem deck_cells {m t : Int} : valD [((.inr "left" : Key), D.loc 0), (.inr "mixed", .int m), (.inr "draws", .int t)] (.inr "left") = some (.loc 0) := rfl
theorem deck_mixed {m t : Int} : valD [((.inr "left" : Key), D.loc 0), (.inr "mixed", .int m), (.inr "draws", .int t)] (.inr "mixed") = some (.int m) := rfl
theorem deck_draws {m t : Int} : valD [((.inr "left" : Key), D.loc 0), (.inr "mixed", .int m), (.inr "draws", .int t)] (.inr "draws") = some (.int t) := rfl
theorem deck_put {m t u : Int} : putD [((.inr "left" : Key), D.loc 0), (.inr "mixed", .int m), (.inr "draws", .int t)] (.inr "draws") (.int u) = [((.inr "left" : Key), D.loc 0), (.inr "mixed", .int m), (.inr "draws", .int u)] := rfl
theorem len_l_draw : ∀ ds S Q, c_l_draw ds S Q → ds.length = 2 := by rintro _ _ _ ⟨_, _, _, rfl, _⟩; rfl
theorem gcd_go {x y : Nat} {N : Nat} (hy : 0 < y) (hlt : y < x) (h : x * y * 2 < 2 ^ (N + 1)) : x % y < y ∧ y * (x % y) * 2 < 2 ^ N := by
  have h1 := Nat.mod_lt x hy
  refine ⟨h1, ?_⟩
  have h2 := Nat.div_add_mod x y
  have h3 : 1 ≤ x / y := (Nat.le_div_iff_mul_le hy).mpr (by omega)
  have h4 : y * 1 ≤ y * (x / y) := Nat.mul_le_mul_left _ h3
  have h5 : 2 * (x % y) ≤ x := by omega
  have h6 : y * (2 * (x % y)) ≤ y * x := Nat.mul_le_mul_left _ h5
  have e1 : y * (2 * (x % y)) = y * (x % y) * 2 := by rw [Nat.mul_comm 2, Nat.mul_assoc]
  have e2 : y * x = x * y := Nat.mul_comm _ _
  rw [Nat.pow_succ] at h
  omega
theorem len_l_common : ∀ ds S Q, c_l_common ds S Q → ds.length = 2 := by rintro _ _ _ ⟨_, _, rfl, _⟩; rfl
theorem len_l_fraction : ∀ ds S Q, c_l_fraction ds S Q → ds.length = 2 := by rintro _ _ _ ⟨_, _, rfl, _⟩; rfl
theorem spec_l_fraction : ∀ ds S Q, CloS S → Bels S.length ds → c_l_fraction ds S Q → w_l_fraction (endsOf S.length Q) (startD N_l_fraction ds) S := by
  rintro _ S Q hc hb ⟨a, b, rfl, hb0, hb1, q⟩
  rw [st_l_fraction]
  unfold w_l_fraction
  refine seq_k fun k1 hk1 => ?_
  try simp only [sAsg, DL.gName, sRet, sRetN, sNext, sIf, sNever, sExpr, sFor, wVar, wC, wOp, wCall, wCons, wNil, wTup, wRol, wTest, wAnd, wOr, wNot, wAndT, wOrT, wNotT, wIf, wUn, gNeg, onB, gI0, gI, gAdd, DL.gSub, gMul_int, gFdiv, gMod, gPow, gShl, gShr, gLt, gLe, gGt, gGe, gEq_int, gNe_int, wChain, wChain3, sPar2, sPar3, DL.gTup, gsCons, gsNil, gInt, gIsN, gNotN, isN_non, isN_tup, isN_rol, isN_int, isN_str, isN_bl, isN_loc, wSl, wNo, wSo, gSl, gRep, gRepL, wDGet1, wDGet2, wInD, wListRg, wListRgL, wTupRg, wDctNew, wDGet2T, gAtT, wItD, wRevT, wFld, sFldS, sFldA, wMeth, wMake, wRg1, wRg2, wEnum, wZip, wRng3, wIt, wItA, wItT, wRng1, wRng2, wLc, wLcL, wLc2, wYes, wCallK, endsOf, List.set_cons_zero, List.set_cons_succ, List.getElem?_cons_zero, List.getElem?_cons_succ, if_true, if_false, Bool.false_eq_true, reduceIte, decide_eq_true_eq, wipeD, List.length_cons, List.length_nil]
  rw [if_pos (by omega)]
  refine ⟨a, b, rfl, by omega, hb1, hk1 _ _ ?_⟩
  clear hk1
  obtain ⟨g1, g2⟩ := gcd_lt (a := a) hb0 hb1
  have g3 : ((Int.gcd a b : Nat) : Int).natAbs < 2 ^ 9000 := Nat.lt_trans g2 (Nat.pow_lt_pow_right (by decide) (by decide))
  try simp only [sSeq, sAsg, DL.gName, sRet, sRetN, sNext, sIf, sNever, sExpr, sFor, wVar, wC, wOp, wCall, wCons, wNil, wTup, wRol, wTest, wAnd, wOr, wNot, wAndT, wOrT, wNotT, wIf, wUn, gNeg, onB, gI0, gI, gAdd, DL.gSub, gMul_int, gFdiv, gMod, gPow, gShl, gShr, gLt, gLe, gGt, gGe, gEq_int, gNe_int, wChain, wChain3, sPar2, sPar3, DL.gTup, gsCons, gsNil, gInt, gIsN, gNotN, isN_non, isN_tup, isN_rol, isN_int, isN_str, isN_bl, isN_loc, wSl, wNo, wSo, gSl, gRep, gRepL, wDGet1, wDGet2, wInD, wListRg, wListRgL, wTupRg, wDctNew, wDGet2T, gAtT, wItD, wRevT, wFld, sFldS, sFldA, wMeth, wMake, wRg1, wRg2, wEnum, wZip, wRng3, wIt, wItA, wItT, wRng1, wRng2, wLc, wLcL, wLc2, wYes, wCallK, endsOf, List.set_cons_zero, List.set_cons_succ, List.getElem?_cons_zero, List.getElem?_cons_succ, if_true, if_false, Bool.false_eq_true, reduceIte, decide_eq_true_eq, wipeD, List.length_cons, List.length_nil]
  refine ⟨div_small g1 g3, div_small g1 g3, Nat.le_of_lt (small1000 (by decide)), ?_⟩
  rw [low_num hb0, low_den hb0]
  exact .inr q
theorem len_is_table_value : ∀ ds S Q, c_is_table_value ds S Q → ds.length = 1 := by rintro _ _ _ ⟨_, _, _, rfl, _⟩; rfl
theorem len_need_table : ∀ ds S Q, c_need_table ds S Q → ds.length = 1 := by rintro _ _ _ ⟨_, _, _, rfl, _⟩; rfl
theorem spec_need_table : ∀ ds S Q, CloS S → Bels S.length ds → c_need_table ds S Q → w_need_table (endsOf S.length Q) (startD N_need_table ds) S := by
  rintro _ S Q hc hb ⟨N, n, t, rfl, ok, q⟩
  rw [st_need_table]
  unfold w_need_table
  try simp only [sSeq, sAsg, DL.gName, sRet, sRetN, sNext, sIf, sNever, sExpr, sFor, wVar, wC, wOp, wCall, wCons, wNil, wTup, wRol, wTest, wAnd, wOr, wNot, wAndT, wOrT, wNotT, wIf, wUn, gNeg, onB, gI0, gI, gAdd, DL.gSub, gMul_int, gFdiv, gMod, gPow, gShl, gShr, gLt, gLe, gGt, gGe, gEq_int, gNe_int, wChain, wChain3, sPar2, sPar3, DL.gTup, gsCons, gsNil, gInt, gIsN, gNotN, isN_non, isN_tup, isN_rol, isN_int, isN_str, isN_bl, isN_loc, wSl, wNo, wSo, gSl, gRep, gRepL, wDGet1, wDGet2, wInD, wListRg, wListRgL, wTupRg, wDctNew, wDGet2T, gAtT, wItD, wRevT, wFld, sFldS, sFldA, wMeth, wMake, wRg1, wRg2, wEnum, wZip, wRng3, wIt, wItA, wItT, wRng1, wRng2, wLc, wLcL, wLc2, wYes, wCallK, endsOf, List.set_cons_zero, List.set_cons_succ, List.getElem?_cons_zero, List.getElem?_cons_succ, if_true, if_false, Bool.false_eq_true, reduceIte, decide_eq_true_eq, wipeD, List.length_cons, List.length_nil]
  exact ⟨N, n, t, rfl, ok, .inr q⟩
theorem IsDeck.le {t u : Int} {T S : Sto} (h : IsDeck t T S) (l : t ≤ u) : IsDeck u T S := by
  obtain ⟨ns, m, t0, b1, b2, b3, b4, b5, e⟩ := h
  exact ⟨ns, m, t0, b1, b2, b3, by omega, b5, e⟩
theorem IsDeck.len {t : Int} {T S : Sto} (h : IsDeck t T S) : S.length = T.length + 2 := by
  obtain ⟨ns, m, t0, _, _, _, _, _, rfl⟩ := h
  simp [deckS]
theorem Tab.at0 {N n : Nat} {t : List Rat} (h : Tab N n t) {i : Nat} (hi : i < n) : 0 ≤ gF t i := h.pos _ (gF_mem (by rw [h.len]; exact hi))
theorem Tab.atN {N n : Nat} {t : List Rat} (h : Tab N n t) {i : Nat} (hi : i < n) : Nth N (gF t i) := h.nth _ (gF_mem (by rw [h.len]; exact hi))
theorem bels_ints {m : Nat} : ∀ ns : List Int, Bels m (ns.map D.int)
  | [] => trivial
  | _ :: ns => ⟨trivial, bels_ints ns⟩
theorem IsDeck.bel {t u : Int} {T S S' : Sto} (h : IsDeck t T S) (hc : CloS S) (h' : IsDeck u T S') : ∀ (n : Nat) (c : Cell), S'[n]? = some c → BelC S.length c := by
  have hl := h.len
  obtain ⟨ns, m, t0, _, _, _, _, _, rfl⟩ := h
  obtain ⟨ns', m', t0', _, _, _, _, _, rfl⟩ := h'
  intro n c e
  match n, e with
  | 0, e =>
    cases Option.some.inj e
    exact bels_ints ns'
  | 1, e =>
    cases Option.some.inj e
    intro p hp
    simp at hp
    rcases hp with rfl | rfl | rfl
    · show 0 < _
      rw [hl]; omega
    · trivial
    · trivial
  | n + 2, e => exact hc (n + 2) c e
theorem bels_map {α : Type} {f : α → D} {m : Nat} (h : ∀ x, Bel m (f x)) : ∀ l : List α, Bels m (l.map f)
  | [] => trivial
  | x :: l => ⟨h x, bels_map h l⟩
theorem bel_tab (m : Nat) (t : List Rat) : Bel m (tabD t) := bels_map (f := frD) (fun _ => ⟨trivial, trivial, trivial⟩) t
theorem intsOf_map : ∀ xs : List Int, intsOf (xs.map D.int) = some xs
  | [] => rfl
  | x :: xs => by rw [List.map_cons, intsOf, intsOf_map xs]; rfl
/-- the rows of which the parts are drawn -/
theorem some_rows {w : Nat} (h : w ≤ 4) : ∃ xs : List Int, atI [D.rol ([1, 2, 3, 0, 1, 5].map D.int), .rol ([1, 1, 2, 4].map D.int), .rol ([0, 1, 0, 7, 30].map D.int), .rol ([1].map D.int), .rol ([1, 10 ^ 9 + 7, 3, 10 ^ 12].map D.int)] (w : Int) = some (.rol (xs.map D.int)) ∧ xs ≠ [] ∧ xs.length ≤ 1000 ∧ ∀ x ∈ xs, 0 ≤ x ∧ x ≤ 10 ^ 12 := by
  have : w = 0 ∨ w = 1 ∨ w = 2 ∨ w = 3 ∨ w = 4 := by omega
  rcases this with rfl | rfl | rfl | rfl | rfl
  all_goals exact ⟨_, rfl, by decide, by decide, by decide⟩
theorem len_l_parts : ∀ ds S Q, c_l_parts ds S Q → ds.length = 3 := by rintro _ _ _ ⟨_, _, _, _, rfl, _⟩; rfl
theorem mk_pos {x : Int} {d : Nat} (hd : 0 < d) : 0 < mkRat x d ↔ 0 < x := by
  rw [Rat.lt_iff]
  have e0 : (0 : Rat).num = 0 := rfl
  have e1 : (0 : Rat).den = 1 := rfl
  rw [e0, e1, Int.zero_mul, Int.natCast_one, Int.mul_one, Rat.num_mkRat, if_neg (by omega)]
  have hg : 0 < d.gcd x.natAbs := Nat.gcd_pos_of_pos_left _ hd
  have hdv : ((d.gcd x.natAbs : Nat) : Int) ∣ x := Int.ofNat_dvd_left.mpr (Nat.gcd_dvd_right _ _)
  have hc := Int.ediv_mul_cancel hdv
  generalize x / ((d.gcd x.natAbs : Nat) : Int) = c at hc
  rw [← hc]
  constructor
  · intro h; exact Int.mul_pos h (by omega)
  · intro h; exact Int.pos_of_mul_pos_left h (by omega)
theorem mk_nonneg {x : Int} {B : Nat} (hB : 0 < B) (h : 0 ≤ x) : 0 ≤ mkRat x B := by
  by_cases z : x = 0
  · subst z; simp
  · exact Rat.le_of_lt ((mk_pos hB).mpr (by omega))
theorem len_l_table : ∀ ds S Q, c_l_table ds S Q → ds.length = 3 := by rintro _ _ _ ⟨_, _, _, _, rfl, _⟩; rfl
theorem len_l_some_table : ∀ ds S Q, c_l_some_table ds S Q → ds.length = 1 := by rintro _ _ _ ⟨_, _, rfl, _⟩; rfl
theorem spec_l_some_table : ∀ ds S Q, CloS S → Bels S.length ds → c_l_some_table ds S Q → w_l_some_table (endsOf S.length Q) (startD N_l_some_table ds) S := by
  rintro _ S Q hc hb ⟨t, T, rfl, hk, ht, q⟩
  rw [st_l_some_table]
  unfold w_l_some_table
  try simp only [sSeq, sAsg, DL.gName, sRet, sRetN, sNext, sIf, sNever, sExpr, sFor, wVar, wC, wOp, wCall, wCons, wNil, wTup, wRol, wTest, wAnd, wOr, wNot, wAndT, wOrT, wNotT, wIf, wUn, gNeg, onB, gI0, gI, gAdd, DL.gSub, gMul_int, gFdiv, gMod, gPow, gShl, gShr, gLt, gLe, gGt, gGe, gEq_int, gNe_int, wChain, wChain3, sPar2, sPar3, DL.gTup, gsCons, gsNil, gInt, gIsN, gNotN, isN_non, isN_tup, isN_rol, isN_int, isN_str, isN_bl, isN_loc, wSl, wNo, wSo, gSl, gRep, gRepL, wDGet1, wDGet2, wInD, wListRg, wListRgL, wTupRg, wDctNew, wDGet2T, gAtT, wItD, wRevT, wFld, sFldS, sFldA, wMeth, wMake, wRg1, wRg2, wEnum, wZip, wRng3, wIt, wItA, wItT, wRng1, wRng2, wLc, wLcL, wLc2, wYes, wCallK, endsOf, List.set_cons_zero, List.set_cons_succ, List.getElem?_cons_zero, List.getElem?_cons_succ, if_true, if_false, Bool.false_eq_true, reduceIte, decide_eq_true_eq, wipeD, List.length_cons, List.length_nil]
  refine ⟨le1000 (by decide), [2, 3, 4, 2, 5, 1, 8, 3], t, T, rfl, by decide, by decide, hk, by omega, fun n S1 hn d1 => ?_⟩
  try simp only [sSeq, sAsg, DL.gName, sRet, sRetN, sNext, sIf, sNever, sExpr, sFor, wVar, wC, wOp, wCall, wCons, wNil, wTup, wRol, wTest, wAnd, wOr, wNot, wAndT, wOrT, wNotT, wIf, wUn, gNeg, onB, gI0, gI, gAdd, DL.gSub, gMul_int, gFdiv, gMod, gPow, gShl, gShr, gLt, gLe, gGt, gGe, gEq_int, gNe_int, wChain, wChain3, sPar2, sPar3, DL.gTup, gsCons, gsNil, gInt, gIsN, gNotN, isN_non, isN_tup, isN_rol, isN_int, isN_str, isN_bl, isN_loc, wSl, wNo, wSo, gSl, gRep, gRepL, wDGet1, wDGet2, wInD, wListRg, wListRgL, wTupRg, wDctNew, wDGet2T, gAtT, wItD, wRevT, wFld, sFldS, sFldA, wMeth, wMake, wRg1, wRg2, wEnum, wZip, wRng3, wIt, wItA, wItT, wRng1, wRng2, wLc, wLcL, wLc2, wYes, wCallK, endsOf, List.set_cons_zero, List.set_cons_succ, List.getElem?_cons_zero, List.getElem?_cons_succ, if_true, if_false, Bool.false_eq_true, reduceIte, decide_eq_true_eq, wipeD, List.length_cons, List.length_nil]
  refine ⟨le1000 (by decide), [0, 1, 0, 2, 3, 4], t + 1, T, rfl, by decide, by decide, d1, by omega, fun w S2 hw d2 => ?_⟩
  have n1 : 1 ≤ n ∧ n ≤ 8 := by simp at hn; omega
  have w1 : 0 ≤ w ∧ w ≤ 4 := by simp at hw; omega
  try simp only [sSeq, sAsg, DL.gName, sRet, sRetN, sNext, sIf, sNever, sExpr, sFor, wVar, wC, wOp, wCall, wCons, wNil, wTup, wRol, wTest, wAnd, wOr, wNot, wAndT, wOrT, wNotT, wIf, wUn, gNeg, onB, gI0, gI, gAdd, DL.gSub, gMul_int, gFdiv, gMod, gPow, gShl, gShr, gLt, gLe, gGt, gGe, gEq_int, gNe_int, wChain, wChain3, sPar2, sPar3, DL.gTup, gsCons, gsNil, gInt, gIsN, gNotN, isN_non, isN_tup, isN_rol, isN_int, isN_str, isN_bl, isN_loc, wSl, wNo, wSo, gSl, gRep, gRepL, wDGet1, wDGet2, wInD, wListRg, wListRgL, wTupRg, wDctNew, wDGet2T, gAtT, wItD, wRevT, wFld, sFldS, sFldA, wMeth, wMake, wRg1, wRg2, wEnum, wZip, wRng3, wIt, wItA, wItT, wRng1, wRng2, wLc, wLcL, wLc2, wYes, wCallK, endsOf, List.set_cons_zero, List.set_cons_succ, List.getElem?_cons_zero, List.getElem?_cons_succ, if_true, if_false, Bool.false_eq_true, reduceIte, decide_eq_true_eq, wipeD, List.length_cons, List.length_nil]
  refine ⟨n.toNat, w.toNat, t + 1 + 1, T, by rw [show ((n.toNat : Nat) : Int) = n by omega, show ((w.toNat : Nat) : Int) = w by omega], by omega, by omega, by omega, d2, by omega, fun N tb S3 ok hN d3 => .inr (q N n.toNat tb S3 ok hN (d3.le (by omega)))⟩
theorem len_l_names : ∀ ds S Q, c_l_names ds S Q → ds.length = 2 := by rintro _ _ _ ⟨_, _, _, rfl, _⟩; rfl
theorem spec_l_names : ∀ ds S Q, CloS S → Bels S.length ds → c_l_names ds S Q → w_l_names (endsOf S.length Q) (startD N_l_names ds) S := by
  rintro _ S Q hc hb ⟨n, t, T, rfl, n1, n8, hk, ht, q⟩
  rw [st_l_names]
  unfold w_l_names
  refine seq_k fun k1 hk1 => ?_
  try simp only [sAsg, DL.gName, sRet, sRetN, sNext, sIf, sNever, sExpr, sFor, wVar, wC, wOp, wCall, wCons, wNil, wTup, wRol, wTest, wAnd, wOr, wNot, wAndT, wOrT, wNotT, wIf, wUn, gNeg, onB, gI0, gI, gAdd, DL.gSub, gMul_int, gFdiv, gMod, gPow, gShl, gShr, gLt, gLe, gGt, gGe, gEq_int, gNe_int, wChain, wChain3, sPar2, sPar3, DL.gTup, gsCons, gsNil, gInt, gIsN, gNotN, isN_non, isN_tup, isN_rol, isN_int, isN_str, isN_bl, isN_loc, wSl, wNo, wSo, gSl, gRep, gRepL, wDGet1, wDGet2, wInD, wListRg, wListRgL, wTupRg, wDctNew, wDGet2T, gAtT, wItD, wRevT, wFld, sFldS, sFldA, wMeth, wMake, wRg1, wRg2, wEnum, wZip, wRng3, wIt, wItA, wItT, wRng1, wRng2, wLc, wLcL, wLc2, wYes, wCallK, endsOf, List.set_cons_zero, List.set_cons_succ, List.getElem?_cons_zero, List.getElem?_cons_succ, if_true, if_false, Bool.false_eq_true, reduceIte, decide_eq_true_eq, wipeD, List.length_cons, List.length_nil]
  refine ⟨le1000 (by decide), [2, 3, n, 8, 1], t, T, rfl, by simp, by simp, hk, by omega, fun m S1 hm d1 => hk1 _ _ ?_⟩
  clear hk1
  have m1 : 1 ≤ m ∧ m ≤ 8 := by simp at hm; omega
  try simp only [sSeq, sAsg, DL.gName, sRet, sRetN, sNext, sIf, sNever, sExpr, sFor, wVar, wC, wOp, wCall, wCons, wNil, wTup, wRol, wTest, wAnd, wOr, wNot, wAndT, wOrT, wNotT, wIf, wUn, gNeg, onB, gI0, gI, gAdd, DL.gSub, gMul_int, gFdiv, gMod, gPow, gShl, gShr, gLt, gLe, gGt, gGe, gEq_int, gNe_int, wChain, wChain3, sPar2, sPar3, DL.gTup, gsCons, gsNil, gInt, gIsN, gNotN, isN_non, isN_tup, isN_rol, isN_int, isN_str, isN_bl, isN_loc, wSl, wNo, wSo, gSl, gRep, gRepL, wDGet1, wDGet2, wInD, wListRg, wListRgL, wTupRg, wDctNew, wDGet2T, gAtT, wItD, wRevT, wFld, sFldS, sFldA, wMeth, wMake, wRg1, wRg2, wEnum, wZip, wRng3, wIt, wItA, wItT, wRng1, wRng2, wLc, wLcL, wLc2, wYes, wCallK, endsOf, List.set_cons_zero, List.set_cons_succ, List.getElem?_cons_zero, List.getElem?_cons_succ, if_true, if_false, Bool.false_eq_true, reduceIte, decide_eq_true_eq, wipeD, List.length_cons, List.length_nil, gTupOf]
  refine ⟨n, rfl, by omega, by omega, ?_⟩
  rw [Int.toNat_natCast]
  refine wLc_inv (fun i acc S' => ∃ ns : List Nat, acc = ns.map (fun (j : Nat) => D.int j) ∧ ns.length = i ∧ (∀ j ∈ ns, j ≤ 7) ∧ IsDeck (t + 1 + i) T S') _ ⟨[], rfl, rfl, (fun _ z => nomatch z), by simpa using d1⟩ ?_ ?_
  · rintro i d k hd hk' _ S' ⟨ns, rfl, hl, hp, kd⟩
    obtain ⟨hi, rfl⟩ := intsD_get hd
    refine ⟨gd0, ?_⟩
    try simp only [sAsg, DL.gName, sRet, sRetN, sNext, sIf, sNever, sExpr, sFor, wVar, wC, wOp, wCall, wCons, wNil, wTup, wRol, wTest, wAnd, wOr, wNot, wAndT, wOrT, wNotT, wIf, wUn, gNeg, onB, gI0, gI, gAdd, DL.gSub, gMul_int, gFdiv, gMod, gPow, gShl, gShr, gLt, gLe, gGt, gGe, gEq_int, gNe_int, wChain, wChain3, sPar2, sPar3, DL.gTup, gsCons, gsNil, gInt, gIsN, gNotN, isN_non, isN_tup, isN_rol, isN_int, isN_str, isN_bl, isN_loc, wSl, wNo, wSo, gSl, gRep, gRepL, wDGet1, wDGet2, wInD, wListRg, wListRgL, wTupRg, wDctNew, wDGet2T, gAtT, wItD, wRevT, wFld, sFldS, sFldA, wMeth, wMake, wRg1, wRg2, wEnum, wZip, wRng3, wIt, wItA, wItT, wRng1, wRng2, wLc, wLcL, wLc2, wYes, wCallK, endsOf, List.set_cons_zero, List.set_cons_succ, List.getElem?_cons_zero, List.getElem?_cons_succ, if_true, if_false, Bool.false_eq_true, reduceIte, decide_eq_true_eq, wipeD, List.length_cons, List.length_nil]
    refine ⟨m, _, T, rfl, kd, by omega, by omega, by omega, fun r S2 r1 r2 k2 => ⟨by rw [List.length_map]; exact small1000 (by omega), hk' _ _ ⟨ns ++ [r.toNat], ?_, by simp [hl], fun y hy => ?_, by rw [show t + 1 + ((i + 1 : Nat) : Int) = t + 1 + i + 1 by omega]; exact k2⟩⟩⟩
    · rw [List.map_append]
      simp only [List.map_cons, List.map_nil]
      rw [show ((r.toNat : Nat) : Int) = r by omega]
    · rcases List.mem_append.mp hy with hy | hy
      · exact hp y hy
      · rw [List.mem_singleton.mp hy]; omega
  rintro _ S2 ⟨ns, rfl, hl, hp, d2⟩
  rw [intsD_len] at hl d2
  exact ⟨gd0, _, rfl, .inr (q ns S2 hl hp (d2.le (by omega)))⟩
theorem zip_frs {α β : Type} (f : α → D) (g : β → D) : ∀ (xs : List α) (ys : List β), zipD (xs.map f) (ys.map g) = (xs.zip ys).map fun p => .tup [f p.1, g p.2]
  | [], _ => by simp [zipD]
  | _ :: _, [] => by simp [zipD]
  | x :: xs, y :: ys => by
    have := zip_frs f g xs ys
    unfold zipD at this ⊢
    rw [List.map_cons, List.map_cons, List.zip_cons_cons, List.map_cons, this, List.zip_cons_cons, List.map_cons]
theorem wLc_filter {α : Type} {g : WG} {t : WT} {el : WE} {gd : Gd} {ρ0 : DL.Env} {Q : List D → Sto → Prop} {S : Sto} (c f : α → D) (b : α → Bool) (xs : List α) (hgd : gd.ok S) (hl : xs.length ≤ sizeLine)
    (step : ∀ x ∈ xs, ∀ (k : D → Sto → Prop) (k0 : Sto → Prop), (b x = true → k (f x) S) → (b x = false → k0 S) → g (c x) ρ0 S fun ρ1 S1 => t ρ1 S1 fun y S2 => if y = true then el ρ1 S2 k else k0 S2) (fin : Q ((xs.filter b).map f) S) : wLcGo g t el gd ρ0 Q (xs.map c) [] S := by
  refine wLc_inv (fun i acc S' => S' = S ∧ acc = ((xs.take i).filter b).map f) (xs.map c) ⟨rfl, by simp⟩ ?_ ?_
  · rintro i d k hd hk acc S' ⟨rfl, rfl⟩
    rw [List.getElem?_map] at hd
    cases hx : xs[i]? with
    | none => rw [hx] at hd; cases hd
    | some x =>
      rw [hx] at hd
      cases hd
      have hi : i < xs.length := (List.getElem?_eq_some_iff.mp hx).1
      have ll : ((xs.take i).filter b).length ≤ i := Nat.le_trans (List.length_filter_le _ _) (by rw [List.length_take]; omega)
      refine ⟨hgd, step x (List.mem_of_getElem? hx) (fun z S3 => (((xs.take i).filter b).map f).length < sizeLine ∧ k (((xs.take i).filter b).map f ++ [z]) S3) _ (fun hb => ⟨by rw [List.length_map]; omega, hk _ _ ⟨rfl, ?_⟩⟩) fun hb => hk _ _ ⟨rfl, ?_⟩⟩
      · rw [List.take_add_one, hx, Option.toList_some, List.filter_append, List.filter_cons_of_pos hb]; simp
      · rw [List.take_add_one, hx, Option.toList_some, List.filter_append, List.filter_cons_of_neg (by simp [hb])]; simp
  · rintro acc S' ⟨rfl, rfl⟩
    refine ⟨hgd, ?_⟩
    rw [List.length_map, List.take_length]
    exact fin
theorem len_raw_renamed : ∀ ds S Q, c_raw_renamed ds S Q → ds.length = 3 := by rintro _ _ _ ⟨_, _, _, _, _, rfl, _⟩; rfl
theorem all_between {ns : List Nat} {k : Nat} {m : Int} (h : ∀ j ∈ ns, j ≤ k) (hm : (k : Int) ≤ m) : ((ns.map fun (j : Nat) => (j : Int)).all fun i => decide (0 ≤ i) && decide (i ≤ m)) = true := by
  rw [List.all_eq_true]
  intro i hi
  obtain ⟨j, hj, rfl⟩ := List.mem_map.mp hi
  have := h j hj
  rw [decide_eq_true (by omega), decide_eq_true (by omega)]; rfl
theorem way_ints (ns : List Nat) : wayD ns = .tup ((ns.map fun (j : Nat) => (j : Int)).map D.int) := by unfold wayD; rw [List.map_map]; rfl
theorem ints_way (ns : List Nat) : intsOf (ns.map fun (i : Nat) => D.int i) = some (ns.map fun (j : Nat) => (j : Int)) := by
  rw [← intsOf_map, List.map_map]; rfl
/-- the greatest of the names -/
theorem max_is {ns : List Nat} {k : Nat} (hk : k ∈ ns) (h : ∀ j ∈ ns, j ≤ k) {m : Int} (hm : m ∈ ns.map fun (j : Nat) => (j : Int)) (hy : ∀ y, y ∈ (ns.map fun (j : Nat) => (j : Int)) → y ≤ m) : m = k := by
  obtain ⟨j, hj, rfl⟩ := List.mem_map.mp hm
  have h1 := h j hj
  have h2 := hy k (List.mem_map.mpr ⟨k, hk, rfl⟩)
  omega
theorem len_renamed : ∀ ds S Q, c_renamed ds S Q → ds.length = 2 := by rintro _ _ _ ⟨_, _, _, _, _, rfl, _⟩; rfl
theorem spec_renamed : ∀ ds S Q, CloS S → Bels S.length ds → c_renamed ds S Q → w_renamed (endsOf S.length Q) (startD N_renamed ds) S := by
  rintro _ S Q hc hb ⟨N, n, k, t, ns, rfl, ok, hl, k7, hk, hm, q⟩
  have tl := ok.len
  have n8 := ok.n8
  rw [st_renamed]
  unfold w_renamed
  refine seq_k fun k1 hk1 => ?_
  try simp only [sAsg, DL.gName, sRet, sRetN, sNext, sIf, sNever, sExpr, sFor, wVar, wC, wOp, wCall, wCons, wNil, wTup, wRol, wTest, wAnd, wOr, wNot, wAndT, wOrT, wNotT, wIf, wUn, gNeg, onB, gI0, gI, gAdd, DL.gSub, gMul_int, gFdiv, gMod, gPow, gShl, gShr, gLt, gLe, gGt, gGe, gEq_int, gNe_int, wChain, wChain3, sPar2, sPar3, DL.gTup, gsCons, gsNil, gInt, gIsN, gNotN, isN_non, isN_tup, isN_rol, isN_int, isN_str, isN_bl, isN_loc, wSl, wNo, wSo, gSl, gRep, gRepL, wDGet1, wDGet2, wInD, wListRg, wListRgL, wTupRg, wDctNew, wDGet2T, gAtT, wItD, wRevT, wFld, sFldS, sFldA, wMeth, wMake, wRg1, wRg2, wEnum, wZip, wRng3, wIt, wItA, wItT, wRng1, wRng2, wLc, wLcL, wLc2, wYes, wCallK, endsOf, List.set_cons_zero, List.set_cons_succ, List.getElem?_cons_zero, List.getElem?_cons_succ, if_true, if_false, Bool.false_eq_true, reduceIte, decide_eq_true_eq, wipeD, List.length_cons, List.length_nil]
  refine ⟨N, n, t, rfl, ok, hk1 _ _ (seq_k fun k2 hk2 => ?_)⟩
  clear hk1
  try simp only [sAsg, DL.gName, sRet, sRetN, sNext, sIf, sNever, sExpr, sFor, wVar, wC, wOp, wCall, wCons, wNil, wTup, wRol, wTest, wAnd, wOr, wNot, wAndT, wOrT, wNotT, wIf, wUn, gNeg, onB, gI0, gI, gAdd, DL.gSub, gMul_int, gFdiv, gMod, gPow, gShl, gShr, gLt, gLe, gGt, gGe, gEq_int, gNe_int, wChain, wChain3, sPar2, sPar3, DL.gTup, gsCons, gsNil, gInt, gIsN, gNotN, isN_non, isN_tup, isN_rol, isN_int, isN_str, isN_bl, isN_loc, wSl, wNo, wSo, gSl, gRep, gRepL, wDGet1, wDGet2, wInD, wListRg, wListRgL, wTupRg, wDctNew, wDGet2T, gAtT, wItD, wRevT, wFld, sFldS, sFldA, wMeth, wMake, wRg1, wRg2, wEnum, wZip, wRng3, wIt, wItA, wItT, wRng1, wRng2, wLc, wLcL, wLc2, wYes, wCallK, endsOf, List.set_cons_zero, List.set_cons_succ, List.getElem?_cons_zero, List.getElem?_cons_succ, if_true, if_false, Bool.false_eq_true, reduceIte, decide_eq_true_eq, wipeD, List.length_cons, List.length_nil, gLen]
  refine ⟨ns.map fun (j : Nat) => (j : Int), 0, 7, by rw [way_ints]; rfl, by rw [List.length_map]; exact small1000 (by omega), ?_⟩
  rw [all_between hm (by omega)]
  try simp only [sAsg, DL.gName, sRet, sRetN, sNext, sIf, sNever, sExpr, sFor, wVar, wC, wOp, wCall, wCons, wNil, wTup, wRol, wTest, wAnd, wOr, wNot, wAndT, wOrT, wNotT, wIf, wUn, gNeg, onB, gI0, gI, gAdd, DL.gSub, gMul_int, gFdiv, gMod, gPow, gShl, gShr, gLt, gLe, gGt, gGe, gEq_int, gNe_int, wChain, wChain3, sPar2, sPar3, DL.gTup, gsCons, gsNil, gInt, gIsN, gNotN, isN_non, isN_tup, isN_rol, isN_int, isN_str, isN_bl, isN_loc, wSl, wNo, wSo, gSl, gRep, gRepL, wDGet1, wDGet2, wInD, wListRg, wListRgL, wTupRg, wDctNew, wDGet2T, gAtT, wItD, wRevT, wFld, sFldS, sFldA, wMeth, wMake, wRg1, wRg2, wEnum, wZip, wRng3, wIt, wItA, wItT, wRng1, wRng2, wLc, wLcL, wLc2, wYes, wCallK, endsOf, List.set_cons_zero, List.set_cons_succ, List.getElem?_cons_zero, List.getElem?_cons_succ, if_true, if_false, Bool.false_eq_true, reduceIte, decide_eq_true_eq, wipeD, List.length_cons, List.length_nil, wayD, tabD, List.length_map]
  rw [if_neg (by simp), if_neg (by simp; omega)]
  refine hk2 _ _ ?_
  clear hk2
  try simp only [sSeq, sAsg, DL.gName, sRet, sRetN, sNext, sIf, sNever, sExpr, sFor, wVar, wC, wOp, wCall, wCons, wNil, wTup, wRol, wTest, wAnd, wOr, wNot, wAndT, wOrT, wNotT, wIf, wUn, gNeg, onB, gI0, gI, gAdd, DL.gSub, gMul_int, gFdiv, gMod, gPow, gShl, gShr, gLt, gLe, gGt, gGe, gEq_int, gNe_int, wChain, wChain3, sPar2, sPar3, DL.gTup, gsCons, gsNil, gInt, gIsN, gNotN, isN_non, isN_tup, isN_rol, isN_int, isN_str, isN_bl, isN_loc, wSl, wNo, wSo, gSl, gRep, gRepL, wDGet1, wDGet2, wInD, wListRg, wListRgL, wTupRg, wDctNew, wDGet2T, gAtT, wItD, wRevT, wFld, sFldS, sFldA, wMeth, wMake, wRg1, wRg2, wEnum, wZip, wRng3, wIt, wItA, wItT, wRng1, wRng2, wLc, wLcL, wLc2, wYes, wCallK, endsOf, List.set_cons_zero, List.set_cons_succ, List.getElem?_cons_zero, List.getElem?_cons_succ, if_true, if_false, Bool.false_eq_true, reduceIte, decide_eq_true_eq, wipeD, List.length_cons, List.length_nil]
  refine ⟨_, ns.map fun (j : Nat) => (j : Int), rfl, ints_way ns, by rw [List.length_map]; exact List.length_pos_of_mem hk, fun m h1 h2 => ?_⟩
  rw [max_is hk hm h1 h2]
  try simp only [sSeq, sAsg, DL.gName, sRet, sRetN, sNext, sIf, sNever, sExpr, sFor, wVar, wC, wOp, wCall, wCons, wNil, wTup, wRol, wTest, wAnd, wOr, wNot, wAndT, wOrT, wNotT, wIf, wUn, gNeg, onB, gI0, gI, gAdd, DL.gSub, gMul_int, gFdiv, gMod, gPow, gShl, gShr, gLt, gLe, gGt, gGe, gEq_int, gNe_int, wChain, wChain3, sPar2, sPar3, DL.gTup, gsCons, gsNil, gInt, gIsN, gNotN, isN_non, isN_tup, isN_rol, isN_int, isN_str, isN_bl, isN_loc, wSl, wNo, wSo, gSl, gRep, gRepL, wDGet1, wDGet2, wInD, wListRg, wListRgL, wTupRg, wDctNew, wDGet2T, gAtT, wItD, wRevT, wFld, sFldS, sFldA, wMeth, wMake, wRg1, wRg2, wEnum, wZip, wRng3, wIt, wItA, wItT, wRng1, wRng2, wLc, wLcL, wLc2, wYes, wCallK, endsOf, List.set_cons_zero, List.set_cons_succ, List.getElem?_cons_zero, List.getElem?_cons_succ, if_true, if_false, Bool.false_eq_true, reduceIte, decide_eq_true_eq, wipeD, List.length_cons, List.length_nil]
  exact ⟨N, n, k + 1, t, ns, rfl, ok, hl, by omega, .inr q⟩
theorem mk_lt {a b : Int} {m k : Nat} (hm : 0 < m) (hk : 0 < k) : mkRat a m < mkRat b k ↔ a * k < b * m := by
  have e : mkRat b k - mkRat a m = mkRat (b * m - a * k) (k * m) := by
    rw [Rat.sub_eq_add_neg, Rat.neg_mkRat, Rat.mkRat_add_mkRat _ _ (by omega) (by omega)]
    congr 1
    grind
  have h1 : mkRat a m < mkRat b k ↔ 0 < mkRat b k - mkRat a m := by constructor <;> intro h <;> grind
  rw [h1, e, mk_pos (Nat.mul_pos hk hm)]
  omega
theorem get_last {S0 : Sto} {c : Cell} {n : Nat} (h : S0.length = n) : (S0 ++ [c])[n]? = some c := by subst h; simp
theorem set_last {S0 : Sto} {c d : Cell} {n : Nat} (h : S0.length = n) : (S0 ++ [c]).set n d = S0 ++ [d] := by subst h; simp
theorem zip_asc : ∀ {ns : List Nat}, ns.Pairwise (· < ·) → ∀ p ∈ ns.zip (ns.drop 1), p.1 < p.2
  | [], _, p, hp => by simp at hp
  | [a], _, p, hp => by simp at hp
  | a :: b :: r, h, p, hp => by
    rw [List.drop_one, List.tail_cons, List.zip_cons_cons] at hp
    rcases List.mem_cons.mp hp with rfl | hp
    · exact (List.pairwise_cons.mp h).1 b List.mem_cons_self
    · exact zip_asc (List.pairwise_cons.mp h).2 p (by rw [List.drop_one, List.tail_cons]; exact hp)
theorem cut1 (ds : List D) : DL.cutD ds (some 1) none = ds.drop 1 := by
  cases ds with
  | nil => rfl
  | cons a r => exact cutD_from (k := 1) (by simp)
theorem len_is_ascending : ∀ ds S Q, c_is_ascending ds S Q → ds.length = 1 := by rintro _ _ _ ⟨_, rfl, _⟩; rfl
theorem spec_is_ascending : ∀ ds S Q, CloS S → Bels S.length ds → c_is_ascending ds S Q → w_is_ascending (endsOf S.length Q) (startD N_is_ascending ds) S := by
  rintro _ S Q hc hb ⟨ns, rfl, hp, hl, q⟩
  rw [st_is_ascending]
  unfold w_is_ascending
  try simp only [sSeq, sAsg, DL.gName, sRet, sRetN, sNext, sIf, sNever, sExpr, sFor, wVar, wC, wOp, wCall, wCons, wNil, wTup, wRol, wTest, wAnd, wOr, wNot, wAndT, wOrT, wNotT, wIf, wUn, gNeg, onB, gI0, gI, gAdd, DL.gSub, gMul_int, gFdiv, gMod, gPow, gShl, gShr, gLt, gLe, gGt, gGe, gEq_int, gNe_int, wChain, wChain3, sPar2, sPar3, DL.gTup, gsCons, gsNil, gInt, gIsN, gNotN, isN_non, isN_tup, isN_rol, isN_int, isN_str, isN_bl, isN_loc, wSl, wNo, wSo, gSl, gRep, gRepL, wDGet1, wDGet2, wInD, wListRg, wListRgL, wTupRg, wDctNew, wDGet2T, gAtT, wItD, wRevT, wFld, sFldS, sFldA, wMeth, wMake, wRg1, wRg2, wEnum, wZip, wRng3, wIt, wItA, wItT, wRng1, wRng2, wLc, wLcL, wLc2, wYes, wCallK, endsOf, List.set_cons_zero, List.set_cons_succ, List.getElem?_cons_zero, List.getElem?_cons_succ, if_true, if_false, Bool.false_eq_true, reduceIte, decide_eq_true_eq, wipeD, List.length_cons, List.length_nil, gAll, wayD]
  rw [cut1, ← List.map_drop, zip_frs]
  refine wLc_map (fun p => .tup [.int (p.1 : Nat), .int (p.2 : Nat)]) (fun _ => .bl true) (ns.zip (ns.drop 1)) gd0 (le1000 (by simp; omega)) (fun p hp2 k2 k3 y1 => ?_) ?_
  · have := zip_asc hp p hp2
    try simp only [sAsg, DL.gName, sRet, sRetN, sNext, sIf, sNever, sExpr, sFor, wVar, wC, wOp, wCall, wCons, wNil, wTup, wRol, wTest, wAnd, wOr, wNot, wAndT, wOrT, wNotT, wIf, wUn, gNeg, onB, gI0, gI, gAdd, DL.gSub, gMul_int, gFdiv, gMod, gPow, gShl, gShr, gLt, gLe, gGt, gGe, gEq_int, gNe_int, wChain, wChain3, sPar2, sPar3, DL.gTup, gsCons, gsNil, gInt, gIsN, gNotN, isN_non, isN_tup, isN_rol, isN_int, isN_str, isN_bl, isN_loc, wSl, wNo, wSo, gSl, gRep, gRepL, wDGet1, wDGet2, wInD, wListRg, wListRgL, wTupRg, wDctNew, wDGet2T, gAtT, wItD, wRevT, wFld, sFldS, sFldA, wMeth, wMake, wRg1, wRg2, wEnum, wZip, wRng3, wIt, wItA, wItT, wRng1, wRng2, wLc, wLcL, wLc2, wYes, wCallK, endsOf, List.set_cons_zero, List.set_cons_succ, List.getElem?_cons_zero, List.getElem?_cons_succ, if_true, if_false, Bool.false_eq_true, reduceIte, decide_eq_true_eq, wipeD, List.length_cons, List.length_nil]
    refine ⟨by trivial, ?_⟩
    rw [decide_eq_true (by omega)]
    exact y1
  refine ⟨_, _, (ns.zip (ns.drop 1)).map fun _ => true, rfl, rfl, ?_, ?_⟩
  · have := bools_map ((ns.zip (ns.drop 1)).map fun _ => true)
    rw [List.map_map] at this
    exact this
  rw [show ((ns.zip (ns.drop 1)).map fun _ => true).all id = true by simp]
  exact .inr q
theorem lot_asc (n : Nat) (p : Nat → Bool) : (lotF n p).Pairwise (· < ·) := List.pairwise_lt_range.filter p
theorem lot_len (n : Nat) (p : Nat → Bool) : (lotF n p).length ≤ n := by
  have := List.length_filter_le p (List.range n)
  rw [List.length_range] at this
  exact this
theorem lot_mem {n : Nat} {p : Nat → Bool} {i : Nat} : i ∈ lotF n p ↔ i < n ∧ p i = true := by
  unfold lotF
  rw [List.mem_filter, List.mem_range]
theorem len_is_lot_value : ∀ ds S Q, c_is_lot_value ds S Q → ds.length = 2 := by rintro _ _ _ ⟨_, _, rfl, _⟩; rfl
theorem spec_is_lot_value : ∀ ds S Q, CloS S → Bels S.length ds → c_is_lot_value ds S Q → w_is_lot_value (endsOf S.length Q) (startD N_is_lot_value ds) S := by
  rintro _ S Q hc hb ⟨n, p, rfl, hn, q⟩
  have hl := lot_len n p
  rw [st_is_lot_value]
  unfold w_is_lot_value
  try simp only [sSeq, sAsg, DL.gName, sRet, sRetN, sNext, sIf, sNever, sExpr, sFor, wVar, wC, wOp, wCall, wCons, wNil, wTup, wRol, wTest, wAnd, wOr, wNot, wAndT, wOrT, wNotT, wIf, wUn, gNeg, onB, gI0, gI, gAdd, DL.gSub, gMul_int, gFdiv, gMod, gPow, gShl, gShr, gLt, gLe, gGt, gGe, gEq_int, gNe_int, wChain, wChain3, sPar2, sPar3, DL.gTup, gsCons, gsNil, gInt, gIsN, gNotN, isN_non, isN_tup, isN_rol, isN_int, isN_str, isN_bl, isN_loc, wSl, wNo, wSo, gSl, gRep, gRepL, wDGet1, wDGet2, wInD, wListRg, wListRgL, wTupRg, wDctNew, wDGet2T, gAtT, wItD, wRevT, wFld, sFldS, sFldA, wMeth, wMake, wRg1, wRg2, wEnum, wZip, wRng3, wIt, wItA, wItT, wRng1, wRng2, wLc, wLcL, wLc2, wYes, wCallK, endsOf, List.set_cons_zero, List.set_cons_succ, List.getElem?_cons_zero, List.getElem?_cons_succ, if_true, if_false, Bool.false_eq_true, reduceIte, decide_eq_true_eq, wipeD, List.length_cons, List.length_nil]
  refine ⟨(lotF n p).map fun (j : Nat) => (j : Int), 0, (n : Int) - 1, by rw [way_ints], by rw [List.length_map]; exact small1000 (by omega), ?_⟩
  have hall : (((lotF n p).map fun (j : Nat) => (j : Int)).all fun i => decide (0 ≤ i) && decide (i ≤ (n : Int) - 1)) = true := by
    rw [List.all_eq_true]
    intro i hi
    obtain ⟨j, hj, rfl⟩ := List.mem_map.mp hi
    have := (lot_mem.mp hj).1
    rw [decide_eq_true (by omega), decide_eq_true (by omega)]; rfl
  rw [hall]
  try simp only [sSeq, sAsg, DL.gName, sRet, sRetN, sNext, sIf, sNever, sExpr, sFor, wVar, wC, wOp, wCall, wCons, wNil, wTup, wRol, wTest, wAnd, wOr, wNot, wAndT, wOrT, wNotT, wIf, wUn, gNeg, onB, gI0, gI, gAdd, DL.gSub, gMul_int, gFdiv, gMod, gPow, gShl, gShr, gLt, gLe, gGt, gGe, gEq_int, gNe_int, wChain, wChain3, sPar2, sPar3, DL.gTup, gsCons, gsNil, gInt, gIsN, gNotN, isN_non, isN_tup, isN_rol, isN_int, isN_str, isN_bl, isN_loc, wSl, wNo, wSo, gSl, gRep, gRepL, wDGet1, wDGet2, wInD, wListRg, wListRgL, wTupRg, wDctNew, wDGet2T, gAtT, wItD, wRevT, wFld, sFldS, sFldA, wMeth, wMake, wRg1, wRg2, wEnum, wZip, wRng3, wIt, wItA, wItT, wRng1, wRng2, wLc, wLcL, wLc2, wYes, wCallK, endsOf, List.set_cons_zero, List.set_cons_succ, List.getElem?_cons_zero, List.getElem?_cons_succ, if_true, if_false, Bool.false_eq_true, reduceIte, decide_eq_true_eq, wipeD, List.length_cons, List.length_nil]
  exact ⟨_, rfl, lot_asc n p, by omega, .inr q⟩
theorem len_raw_lot_chance : ∀ ds S Q, c_raw_lot_chance ds S Q → ds.length = 2 := by rintro _ _ _ ⟨_, _, _, _, rfl, _⟩; rfl
theorem pairs_map (t : List Rat) : pairsD (t.map frD) = (List.range t.length).map fun i => .tup [.int (i : Nat), frD (gF t i)] := by
  unfold pairsD
  rw [List.length_map]
  refine List.map_congr_left fun i hi => ?_
  have hi := List.mem_range.mp hi
  have : (t.map frD).getD i .non = frD (gF t i) := by simp [List.getD, gF, hi]
  rw [this]
theorem tabs_get {ts : List (List Rat)} {i : Nat} {d : D} (h : (ts.map tabD)[i]? = some d) : ∃ u, ts[i]? = some u ∧ d = tabD u := by
  rw [List.getElem?_map] at h
  cases e : ts[i]? with
  | none => rw [e] at h; cases h
  | some u => rw [e] at h; exact ⟨u, rfl, (Option.some.inj h).symm⟩
/-- the parts that make up a chance of a mixed table -/
theorem mix_list {t : List Rat} {ts : List (List Rat)} (h : ts.length = t.length) (i : Nat) : (t.zip ts).map (fun p => p.1 * gF p.2 i) = tF t.length fun j => gF t j * gF (ts.getD j []) i := by
  apply List.ext_getElem
  · simp [h, tF]
  · intro k h1 h2
    have hk : k < t.length := by simpa [h] using h1
    have hk2 : k < ts.length := by omega
    simp [tF, gF, List.getD, hk, hk2]
structure Mix (N n M m : Nat) (t : List Rat) (ts : List (List Rat)) : Prop where
  ok : Tab N n t
  len : ts.length = n
  all : ∀ u ∈ ts, Tab M m u
  big : N * M ≤ 2 ^ 880
theorem Mix.at {N n M m : Nat} {t : List Rat} {ts : List (List Rat)} (h : Mix N n M m t ts) {j : Nat} (hj : j < n) : Tab M m (ts.getD j []) := by
  have hl : j < ts.length := by rw [h.len]; exact hj
  have : ts.getD j [] = ts[j] := by simp [List.getD, hl]
  rw [this]
  exact h.all _ (List.getElem_mem _)
theorem Mix.m0 {N n M m : Nat} {t : List Rat} {ts : List (List Rat)} (h : Mix N n M m t ts) : Tab M m (ts.getD 0 []) := h.at h.ok.n1
theorem len_raw_mixed : ∀ ds S Q, c_raw_mixed ds S Q → ds.length = 2 := by rintro _ _ _ ⟨_, _, _, _, _, _, rfl, _⟩; rfl
theorem len_mixed : ∀ ds S Q, c_mixed ds S Q → ds.length = 2 := by rintro _ _ _ ⟨_, _, _, _, _, _, rfl, _⟩; rfl
theorem tabs_at {ts : List (List Rat)} (h : 0 < ts.length) : atI (ts.map tabD) 0 = some (tabD (ts.getD 0 [])) := by
  refine atI_of (k := 0) ?_
  rw [List.getElem?_map]
  have : ts[0]? = some (ts.getD 0 []) := by simp [List.getD, h]
  rw [this]; rfl
theorem spec_mixed : ∀ ds S Q, CloS S → Bels S.length ds → c_mixed ds S Q → w_mixed (endsOf S.length Q) (startD N_mixed ds) S := by
  rintro _ S Q hc hb ⟨N, n, M, m, t, ts, rfl, ok, hl, hts, hbb, q⟩
  have mx : Mix N n M m t ts := ⟨ok, hl, hts, hbb⟩
  have n8 := ok.n8
  have n1 := ok.n1
  have tl := ok.len
  have ml := mx.m0.len
  rw [st_mixed]
  unfold w_mixed
  refine seq_k fun k1 hk1 => ?_
  try simp only [sAsg, DL.gName, sRet, sRetN, sNext, sIf, sNever, sExpr, sFor, wVar, wC, wOp, wCall, wCons, wNil, wTup, wRol, wTest, wAnd, wOr, wNot, wAndT, wOrT, wNotT, wIf, wUn, gNeg, onB, gI0, gI, gAdd, DL.gSub, gMul_int, gFdiv, gMod, gPow, gShl, gShr, gLt, gLe, gGt, gGe, gEq_int, gNe_int, wChain, wChain3, sPar2, sPar3, DL.gTup, gsCons, gsNil, gInt, gIsN, gNotN, isN_non, isN_tup, isN_rol, isN_int, isN_str, isN_bl, isN_loc, wSl, wNo, wSo, gSl, gRep, gRepL, wDGet1, wDGet2, wInD, wListRg, wListRgL, wTupRg, wDctNew, wDGet2T, gAtT, wItD, wRevT, wFld, sFldS, sFldA, wMeth, wMake, wRg1, wRg2, wEnum, wZip, wRng3, wIt, wItA, wItT, wRng1, wRng2, wLc, wLcL, wLc2, wYes, wCallK, endsOf, List.set_cons_zero, List.set_cons_succ, List.getElem?_cons_zero, List.getElem?_cons_succ, if_true, if_false, Bool.false_eq_true, reduceIte, decide_eq_true_eq, wipeD, List.length_cons, List.length_nil]
  refine ⟨N, n, t, rfl, ok, hk1 _ _ (seq_k fun k2 hk2 => ?_)⟩
  clear hk1
  try simp only [sAsg, DL.gName, sRet, sRetN, sNext, sIf, sNever, sExpr, sFor, wVar, wC, wOp, wCall, wCons, wNil, wTup, wRol, wTest, wAnd, wOr, wNot, wAndT, wOrT, wNotT, wIf, wUn, gNeg, onB, gI0, gI, gAdd, DL.gSub, gMul_int, gFdiv, gMod, gPow, gShl, gShr, gLt, gLe, gGt, gGe, gEq_int, gNe_int, wChain, wChain3, sPar2, sPar3, DL.gTup, gsCons, gsNil, gInt, gIsN, gNotN, isN_non, isN_tup, isN_rol, isN_int, isN_str, isN_bl, isN_loc, wSl, wNo, wSo, gSl, gRep, gRepL, wDGet1, wDGet2, wInD, wListRg, wListRgL, wTupRg, wDctNew, wDGet2T, gAtT, wItD, wRevT, wFld, sFldS, sFldA, wMeth, wMake, wRg1, wRg2, wEnum, wZip, wRng3, wIt, wItA, wItT, wRng1, wRng2, wLc, wLcL, wLc2, wYes, wCallK, endsOf, List.set_cons_zero, List.set_cons_succ, List.getElem?_cons_zero, List.getElem?_cons_succ, if_true, if_false, Bool.false_eq_true, reduceIte, decide_eq_true_eq, wipeD, List.length_cons, List.length_nil, gIsi, gAll]
  refine ⟨"tuple", rfl, by decide, ?_⟩
  rw [if_neg (by decide)]
  refine wLc_map tabD (fun _ => .bl true) ts gd0 (le1000 (by omega)) (fun u hu k k0 y => ?_) ?_
  · try simp only [sAsg, DL.gName, sRet, sRetN, sNext, sIf, sNever, sExpr, sFor, wVar, wC, wOp, wCall, wCons, wNil, wTup, wRol, wTest, wAnd, wOr, wNot, wAndT, wOrT, wNotT, wIf, wUn, gNeg, onB, gI0, gI, gAdd, DL.gSub, gMul_int, gFdiv, gMod, gPow, gShl, gShr, gLt, gLe, gGt, gGe, gEq_int, gNe_int, wChain, wChain3, sPar2, sPar3, DL.gTup, gsCons, gsNil, gInt, gIsN, gNotN, isN_non, isN_tup, isN_rol, isN_int, isN_str, isN_bl, isN_loc, wSl, wNo, wSo, gSl, gRep, gRepL, wDGet1, wDGet2, wInD, wListRg, wListRgL, wTupRg, wDctNew, wDGet2T, gAtT, wItD, wRevT, wFld, sFldS, sFldA, wMeth, wMake, wRg1, wRg2, wEnum, wZip, wRng3, wIt, wItA, wItT, wRng1, wRng2, wLc, wLcL, wLc2, wYes, wCallK, endsOf, List.set_cons_zero, List.set_cons_succ, List.getElem?_cons_zero, List.getElem?_cons_succ, if_true, if_false, Bool.false_eq_true, reduceIte, decide_eq_true_eq, wipeD, List.length_cons, List.length_nil]
    exact ⟨M, m, u, rfl, hts u hu, y⟩
  refine ⟨_, _, ts.map fun _ => true, rfl, rfl, ?_, ?_⟩
  · have := bools_map (ts.map fun _ => true)
    rw [List.map_map] at this
    exact this
  rw [if_neg (by simp)]
  refine hk2 _ _ (seq_k fun k3 hk3 => ?_)
  clear hk2
  try simp only [sAsg, DL.gName, sRet, sRetN, sNext, sIf, sNever, sExpr, sFor, wVar, wC, wOp, wCall, wCons, wNil, wTup, wRol, wTest, wAnd, wOr, wNot, wAndT, wOrT, wNotT, wIf, wUn, gNeg, onB, gI0, gI, gAdd, DL.gSub, gMul_int, gFdiv, gMod, gPow, gShl, gShr, gLt, gLe, gGt, gGe, gEq_int, gNe_int, wChain, wChain3, sPar2, sPar3, DL.gTup, gsCons, gsNil, gInt, gIsN, gNotN, isN_non, isN_tup, isN_rol, isN_int, isN_str, isN_bl, isN_loc, wSl, wNo, wSo, gSl, gRep, gRepL, wDGet1, wDGet2, wInD, wListRg, wListRgL, wTupRg, wDctNew, wDGet2T, gAtT, wItD, wRevT, wFld, sFldS, sFldA, wMeth, wMake, wRg1, wRg2, wEnum, wZip, wRng3, wIt, wItA, wItT, wRng1, wRng2, wLc, wLcL, wLc2, wYes, wCallK, endsOf, List.set_cons_zero, List.set_cons_succ, List.getElem?_cons_zero, List.getElem?_cons_succ, if_true, if_false, Bool.false_eq_true, reduceIte, decide_eq_true_eq, wipeD, List.length_cons, List.length_nil]
  refine wFor_inv (fun i ρ S' => S' = S ∧ ∃ x : Option D, ρ = [some (tabD t), some (.tup (ts.map tabD)), x]) _ ⟨rfl, none, rfl⟩ ?_ ?_
  · rintro i d k he hk _ _ ⟨rfl, x, rfl⟩
    obtain ⟨u, hu, rfl⟩ := tabs_get he
    have ul := (hts u (List.mem_of_getElem? hu)).len
    refine ⟨gd0, ?_⟩
    try simp only [sAsg, DL.gName, sRet, sRetN, sNext, sIf, sNever, sExpr, sFor, wVar, wC, wOp, wCall, wCons, wNil, wTup, wRol, wTest, wAnd, wOr, wNot, wAndT, wOrT, wNotT, wIf, wUn, gNeg, onB, gI0, gI, gAdd, DL.gSub, gMul_int, gFdiv, gMod, gPow, gShl, gShr, gLt, gLe, gGt, gGe, gEq_int, gNe_int, wChain, wChain3, sPar2, sPar3, DL.gTup, gsCons, gsNil, gInt, gIsN, gNotN, isN_non, isN_tup, isN_rol, isN_int, isN_str, isN_bl, isN_loc, wSl, wNo, wSo, gSl, gRep, gRepL, wDGet1, wDGet2, wInD, wListRg, wListRgL, wTupRg, wDctNew, wDGet2T, gAtT, wItD, wRevT, wFld, sFldS, sFldA, wMeth, wMake, wRg1, wRg2, wEnum, wZip, wRng3, wIt, wItA, wItT, wRng1, wRng2, wLc, wLcL, wLc2, wYes, wCallK, endsOf, List.set_cons_zero, List.set_cons_succ, List.getElem?_cons_zero, List.getElem?_cons_succ, if_true, if_false, Bool.false_eq_true, reduceIte, decide_eq_true_eq, wipeD, List.length_cons, List.length_nil, gLen, gIx]
    refine ⟨_, tabs_at (by omega), ?_⟩
    try simp only [sAsg, DL.gName, sRet, sRetN, sNext, sIf, sNever, sExpr, sFor, wVar, wC, wOp, wCall, wCons, wNil, wTup, wRol, wTest, wAnd, wOr, wNot, wAndT, wOrT, wNotT, wIf, wUn, gNeg, onB, gI0, gI, gAdd, DL.gSub, gMul_int, gFdiv, gMod, gPow, gShl, gShr, gLt, gLe, gGt, gGe, gEq_int, gNe_int, wChain, wChain3, sPar2, sPar3, DL.gTup, gsCons, gsNil, gInt, gIsN, gNotN, isN_non, isN_tup, isN_rol, isN_int, isN_str, isN_bl, isN_loc, wSl, wNo, wSo, gSl, gRep, gRepL, wDGet1, wDGet2, wInD, wListRg, wListRgL, wTupRg, wDctNew, wDGet2T, gAtT, wItD, wRevT, wFld, sFldS, sFldA, wMeth, wMake, wRg1, wRg2, wEnum, wZip, wRng3, wIt, wItA, wItT, wRng1, wRng2, wLc, wLcL, wLc2, wYes, wCallK, endsOf, List.set_cons_zero, List.set_cons_succ, List.getElem?_cons_zero, List.getElem?_cons_succ, if_true, if_false, Bool.false_eq_true, reduceIte, decide_eq_true_eq, wipeD, List.length_cons, List.length_nil, tabD, List.length_map]
    rw [if_neg (by rw [ul, ml]; simp)]
    exact hk _ _ ⟨rfl, _, rfl⟩
  rintro _ _ ⟨rfl, x, rfl⟩
  refine ⟨gd0, hk3 _ _ (seq_k fun k4 hk4 => ?_)⟩
  clear hk3
  try simp only [sAsg, DL.gName, sRet, sRetN, sNext, sIf, sNever, sExpr, sFor, wVar, wC, wOp, wCall, wCons, wNil, wTup, wRol, wTest, wAnd, wOr, wNot, wAndT, wOrT, wNotT, wIf, wUn, gNeg, onB, gI0, gI, gAdd, DL.gSub, gMul_int, gFdiv, gMod, gPow, gShl, gShr, gLt, gLe, gGt, gGe, gEq_int, gNe_int, wChain, wChain3, sPar2, sPar3, DL.gTup, gsCons, gsNil, gInt, gIsN, gNotN, isN_non, isN_tup, isN_rol, isN_int, isN_str, isN_bl, isN_loc, wSl, wNo, wSo, gSl, gRep, gRepL, wDGet1, wDGet2, wInD, wListRg, wListRgL, wTupRg, wDctNew, wDGet2T, gAtT, wItD, wRevT, wFld, sFldS, sFldA, wMeth, wMake, wRg1, wRg2, wEnum, wZip, wRng3, wIt, wItA, wItT, wRng1, wRng2, wLc, wLcL, wLc2, wYes, wCallK, endsOf, List.set_cons_zero, List.set_cons_succ, List.getElem?_cons_zero, List.getElem?_cons_succ, if_true, if_false, Bool.false_eq_true, reduceIte, decide_eq_true_eq, wipeD, List.length_cons, List.length_nil, gLen, tabD, List.length_map]
  rw [if_neg (by simp; omega)]
  refine hk4 _ _ ?_
  try simp only [sSeq, sAsg, DL.gName, sRet, sRetN, sNext, sIf, sNever, sExpr, sFor, wVar, wC, wOp, wCall, wCons, wNil, wTup, wRol, wTest, wAnd, wOr, wNot, wAndT, wOrT, wNotT, wIf, wUn, gNeg, onB, gI0, gI, gAdd, DL.gSub, gMul_int, gFdiv, gMod, gPow, gShl, gShr, gLt, gLe, gGt, gGe, gEq_int, gNe_int, wChain, wChain3, sPar2, sPar3, DL.gTup, gsCons, gsNil, gInt, gIsN, gNotN, isN_non, isN_tup, isN_rol, isN_int, isN_str, isN_bl, isN_loc, wSl, wNo, wSo, gSl, gRep, gRepL, wDGet1, wDGet2, wInD, wListRg, wListRgL, wTupRg, wDctNew, wDGet2T, gAtT, wItD, wRevT, wFld, sFldS, sFldA, wMeth, wMake, wRg1, wRg2, wEnum, wZip, wRng3, wIt, wItA, wItT, wRng1, wRng2, wLc, wLcL, wLc2, wYes, wCallK, endsOf, List.set_cons_zero, List.set_cons_succ, List.getElem?_cons_zero, List.getElem?_cons_succ, if_true, if_false, Bool.false_eq_true, reduceIte, decide_eq_true_eq, wipeD, List.length_cons, List.length_nil]
  exact ⟨N, n, M, m, t, ts, rfl, ok, hl, hts, hbb, .inr q⟩
theorem mul_den {p q : Rat} {A B : Nat} (h1 : p.den ≤ A) (h2 : q.den ≤ B) : (p * q).den ≤ A * B := by
  rw [← mul_eq, ← Int.natCast_mul, Int.toNat_natCast]
  refine Nat.le_trans (Nat.le_of_dvd (Nat.mul_pos p.den_pos q.den_pos) (den_dvd (Nat.mul_ne_zero p.den_nz q.den_nz))) (Nat.mul_le_mul h1 h2)
theorem flat_range (n m : Nat) {α : Type} (F : Nat → Nat → α) : (List.range (n * m)).map (fun k => F (k / m) (k % m)) = ((List.range n).map fun i => (List.range m).map fun j => F i j).flatten := by
  induction n with
  | zero => simp
  | succ n ih =>
    rw [Nat.succ_mul, List.range_add, List.map_append, ih, List.range_succ, List.map_append, List.flatten_append, List.map_map]
    congr 1
    simp only [List.map_cons, List.map_nil, List.flatten_cons, List.flatten_nil, List.append_nil]
    refine List.map_congr_left fun j hj => ?_
    have hj := List.mem_range.mp hj
    have e1 : (n * m + j) / m = n := by rw [Nat.mul_comm, Nat.mul_add_div (by omega), Nat.div_eq_of_lt hj]; rfl
    have e2 : (n * m + j) % m = j := by rw [Nat.mul_comm, Nat.mul_add_mod, Nat.mod_eq_of_lt hj]
    show F _ _ = _
    rw [e1, e2]
theorem bes_flat (a b : List Rat) : besF a b = (a.map fun x => b.map fun y => x * y).flatten := by
  unfold besF tF
  rw [flat_range a.length b.length fun i j => gF a i * gF b j]
  congr 1
  conv => rhs; rw [← tF_gF a]
  unfold tF
  rw [List.map_map]
  refine List.map_congr_left fun i _ => ?_
  show _ = b.map _
  conv => rhs; rw [← tF_gF b]
  unfold tF
  rw [List.map_map]; rfl
theorem wLcGo_map {α : Type} {g : WG} {el : WE} {gd : Gd} {S : Sto} {k : List D → Sto → Prop} {ρ0 : DL.Env} (c f : α → D) (hg : gd.ok S) : ∀ (xs : List α) (acc : List D), (∀ x ∈ xs, ∀ k2 : QD, k2 (f x) S → g (c x) ρ0 S fun ρ1 S1 => el ρ1 S1 k2) → acc.length + xs.length ≤ sizeLine → k (acc ++ xs.map f) S → wLcGo g wYes el gd ρ0 k (xs.map c) acc S
  | [], acc, _, _, h => ⟨hg, by simpa using h⟩
  | x :: xs, acc, st, hl, h => by
    rw [List.length_cons] at hl
    have rest := wLcGo_map c f hg xs (acc ++ [f x]) (fun y hy => st y (List.mem_cons_of_mem _ hy)) (by rw [List.length_append, List.length_singleton]; omega) (by rw [List.append_assoc]; exact h)
    have now := st x List.mem_cons_self (fun x S3 => acc.length < sizeLine ∧ wLcGo g wYes el gd ρ0 k (xs.map c) (acc ++ [x]) S3) ⟨by omega, rest⟩
    refine ⟨hg, ?_⟩
    simp only [wYes, if_true]
    exact now
theorem len_beside : ∀ ds S Q, c_beside ds S Q → ds.length = 2 := by rintro _ _ _ ⟨_, _, _, _, _, _, rfl, _⟩; rfl
theorem renF_len (t : List Rat) (ns : List Nat) (k : Nat) : (renF t ns k).length = k := tF_len _ _
theorem renF_at {t : List Rat} {ns : List Nat} {k j : Nat} (hj : j < k) : gF (renF t ns k) j = sm t.length fun i => iteR (decide (ns.getD i 0 = j)) (gF t i) := gF_tF hj _
theorem sm_two (f : Nat → Rat) : sm 2 f = f 0 + f 1 := by
  show (0 + f 0) + f 1 = _
  rw [Rat.zero_add]
theorem besF_len (a b : List Rat) : (besF a b).length = a.length * b.length := tF_len _ _
theorem besF_at {a b : List Rat} {k : Nat} (h : k < a.length * b.length) : gF (besF a b) k = gF a (k / b.length) * gF b (k % b.length) := gF_tF h _
theorem bes_pos {k n m : Nat} (h : k < n * m) : k / m < n ∧ k % m < m := by
  have m0 : 0 < m := Nat.pos_of_ne_zero fun z => by subst z; simp at h
  exact ⟨Nat.div_lt_of_lt_mul (by rw [Nat.mul_comm]; exact h), Nat.mod_lt _ m0⟩
theorem okR_fr {f : Rat} (h : smallR f) : okR (frD f) := okR_of (tm_fr h) (by show 2 ≤ _; decide) (Nat.le_trans (dp_fr f) (by decide))
theorem lot_succ {n : Nat} (p : Nat → Bool) (b : Bool) : lotF (n + 1) (fun j => if j = n then b else p j) = lotF n p ++ (if b then [n] else []) := by
  unfold lotF
  rw [List.range_succ, List.filter_append]
  congr 1
  · refine List.filter_congr fun j hj => ?_
    have := List.mem_range.mp hj
    rw [if_neg (by omega)]
  · cases b <;> simp
theorem len_l_lot : ∀ ds S Q, c_l_lot ds S Q → ds.length = 2 := by rintro _ _ _ ⟨_, _, _, rfl, _⟩; rfl
theorem spec_l_lot : ∀ ds S Q, CloS S → Bels S.length ds → c_l_lot ds S Q → w_l_lot (endsOf S.length Q) (startD N_l_lot ds) S := by
  rintro _ S Q hc hb ⟨n, t, T, rfl, n8, hk, ht, q⟩
  rw [st_l_lot]
  unfold w_l_lot
  try simp only [sSeq, sAsg, DL.gName, sRet, sRetN, sNext, sIf, sNever, sExpr, sFor, wVar, wC, wOp, wCall, wCons, wNil, wTup, wRol, wTest, wAnd, wOr, wNot, wAndT, wOrT, wNotT, wIf, wUn, gNeg, onB, gI0, gI, gAdd, DL.gSub, gMul_int, gFdiv, gMod, gPow, gShl, gShr, gLt, gLe, gGt, gGe, gEq_int, gNe_int, wChain, wChain3, sPar2, sPar3, DL.gTup, gsCons, gsNil, gInt, gIsN, gNotN, isN_non, isN_tup, isN_rol, isN_int, isN_str, isN_bl, isN_loc, wSl, wNo, wSo, gSl, gRep, gRepL, wDGet1, wDGet2, wInD, wListRg, wListRgL, wTupRg, wDctNew, wDGet2T, gAtT, wItD, wRevT, wFld, sFldS, sFldA, wMeth, wMake, wRg1, wRg2, wEnum, wZip, wRng3, wIt, wItA, wItT, wRng1, wRng2, wLc, wLcL, wLc2, wYes, wCallK, endsOf, List.set_cons_zero, List.set_cons_succ, List.getElem?_cons_zero, List.getElem?_cons_succ, if_true, if_false, Bool.false_eq_true, reduceIte, decide_eq_true_eq, wipeD, List.length_cons, List.length_nil, gTupOf]
  refine ⟨n, rfl, by omega, by omega, ?_⟩
  rw [Int.toNat_natCast]
  refine wLc_inv (fun i acc S' => ∃ p, acc = (lotF i p).map (fun (j : Nat) => D.int j) ∧ IsDeck (t + i) T S') _ ⟨fun _ => false, rfl, by simpa using hk⟩ ?_ ?_
  · rintro i d k hd hk' _ S' ⟨p, rfl, kd⟩
    obtain ⟨hi, rfl⟩ := intsD_get hd
    have hll := lot_len i p
    refine ⟨gd0, ?_⟩
    try simp only [sAsg, DL.gName, sRet, sRetN, sNext, sIf, sNever, sExpr, sFor, wVar, wC, wOp, wCall, wCons, wNil, wTup, wRol, wTest, wAnd, wOr, wNot, wAndT, wOrT, wNotT, wIf, wUn, gNeg, onB, gI0, gI, gAdd, DL.gSub, gMul_int, gFdiv, gMod, gPow, gShl, gShr, gLt, gLe, gGt, gGe, gEq_int, gNe_int, wChain, wChain3, sPar2, sPar3, DL.gTup, gsCons, gsNil, gInt, gIsN, gNotN, isN_non, isN_tup, isN_rol, isN_int, isN_str, isN_bl, isN_loc, wSl, wNo, wSo, gSl, gRep, gRepL, wDGet1, wDGet2, wInD, wListRg, wListRgL, wTupRg, wDctNew, wDGet2T, gAtT, wItD, wRevT, wFld, sFldS, sFldA, wMeth, wMake, wRg1, wRg2, wEnum, wZip, wRng3, wIt, wItA, wItT, wRng1, wRng2, wLc, wLcL, wLc2, wYes, wCallK, endsOf, List.set_cons_zero, List.set_cons_succ, List.getElem?_cons_zero, List.getElem?_cons_succ, if_true, if_false, Bool.false_eq_true, reduceIte, decide_eq_true_eq, wipeD, List.length_cons, List.length_nil]
    refine ⟨2, _, T, rfl, kd, by omega, by decide, by decide, fun r S2 r1 r2 k2 => ?_⟩
    have k3 : IsDeck (t + ((i + 1 : Nat) : Int)) T S2 := by rw [show t + ((i + 1 : Nat) : Int) = t + i + 1 by omega]; exact k2
    try simp only [sAsg, DL.gName, sRet, sRetN, sNext, sIf, sNever, sExpr, sFor, wVar, wC, wOp, wCall, wCons, wNil, wTup, wRol, wTest, wAnd, wOr, wNot, wAndT, wOrT, wNotT, wIf, wUn, gNeg, onB, gI0, gI, gAdd, DL.gSub, gMul_int, gFdiv, gMod, gPow, gShl, gShr, gLt, gLe, gGt, gGe, gEq_int, gNe_int, wChain, wChain3, sPar2, sPar3, DL.gTup, gsCons, gsNil, gInt, gIsN, gNotN, isN_non, isN_tup, isN_rol, isN_int, isN_str, isN_bl, isN_loc, wSl, wNo, wSo, gSl, gRep, gRepL, wDGet1, wDGet2, wInD, wListRg, wListRgL, wTupRg, wDctNew, wDGet2T, gAtT, wItD, wRevT, wFld, sFldS, sFldA, wMeth, wMake, wRg1, wRg2, wEnum, wZip, wRng3, wIt, wItA, wItT, wRng1, wRng2, wLc, wLcL, wLc2, wYes, wCallK, endsOf, List.set_cons_zero, List.set_cons_succ, List.getElem?_cons_zero, List.getElem?_cons_succ, if_true, if_false, Bool.false_eq_true, reduceIte, decide_eq_true_eq, wipeD, List.length_cons, List.length_nil]
    by_cases e : r = 0
    · rw [if_pos e]
      refine ⟨by rw [List.length_map]; exact small1000 (by omega), hk' _ _ ⟨fun j => if j = i then true else p j, ?_, k3⟩⟩
      rw [lot_succ, List.map_append]
      simp
    · rw [if_neg e]
      refine hk' _ _ ⟨fun j => if j = i then false else p j, ?_, k3⟩
      rw [lot_succ]
      simp
  rintro _ S2 ⟨p, rfl, d2⟩
  rw [intsD_len] at d2 ⊢
  exact ⟨gd0, _, rfl, .inr (q p S2 (d2.le (by omega)))⟩
theorem max_ex : ∀ {ns : List Nat}, ns ≠ [] → ∃ k, k ∈ ns ∧ ∀ j ∈ ns, j ≤ k
  | [], h => absurd rfl h
  | [a], _ => ⟨a, List.mem_cons_self, fun j hj => by rw [List.mem_singleton.mp hj]; exact Nat.le_refl a⟩
  | a :: b :: r, _ => by
    obtain ⟨k, h1, h2⟩ := max_ex (ns := b :: r) (by simp)
    by_cases h : k ≤ a
    · refine ⟨a, List.mem_cons_self, fun j hj => ?_⟩
      rcases List.mem_cons.mp hj with rfl | hj
      · exact Nat.le_refl _
      · exact Nat.le_trans (h2 j hj) h
    · refine ⟨k, List.mem_cons_of_mem _ h1, fun j hj => ?_⟩
      rcases List.mem_cons.mp hj with rfl | hj
      · omega
      · exact h2 j hj
theorem gEq_str {i j : Str} {S : Sto} {Q : QD} : gEq (.str i) (.str j) S Q = Q (.bl (decide (i = j))) S := rfl
theorem getD_mem {ns : List Nat} {i : Nat} (hi : i < ns.length) : ns[i]? = some (ns.getD i 0) := by simp [List.getD, hi]
abbrev State := List Rat × List Nat
def tab (M : List State) (s : Nat) : List Rat := (M.getD s ([], [])).1
def fol (M : List State) (s : Nat) : List Nat := (M.getD s ([], [])).2
def prob (M : List State) (s i : Nat) : Rat := (tab M s).getD i 0
def next (M : List State) (s i : Nat) : Nat := (fol M s).getD i 0
theorem mulOk {i j : Int} (h1 : -(2 ^ 64) ≤ i) (h2 : i ≤ 2 ^ 64) (h3 : -(2 ^ 64) ≤ j) (h4 : j ≤ 2 ^ 64) : CMulX i j := mul_small (small h1 h2) (small h3 h4)
theorem spec_l_draw : ∀ ds S Q, CloS S → Bels S.length ds → c_l_draw ds S Q → w_l_draw (endsOf S.length Q) (startD N_l_draw ds) S := by
  rintro _ _ Q hc hb ⟨many, t, T, rfl, ⟨ns, m, t0, hm0, hm1, ht0, ht1, hl, rfl⟩, ht, hp, hp2, q⟩
  have q' : ∀ r ns', 0 ≤ r → r < many → ns'.length ≤ 100 → Out (T.length + 1 + 1) (deckS ns' m (t0 + 1) ++ T) (.int r) Q := fun r ns' a b c => .inr (q r _ a b ⟨ns', m, t0 + 1, hm0, hm1, by omega, by omega, c, rfl⟩)
  rw [st_l_draw]
  unfold w_l_draw deckS
  simp only [List.cons_append, List.nil_append]
  refine seq_k fun k1 hk1 => ?_
  try simp only [sAsg, DL.gName, sRet, sRetN, sNext, sIf, sNever, sExpr, sFor, wVar, wC, wOp, wCall, wCons, wNil, wTup, wRol, wTest, wAnd, wOr, wNot, wAndT, wOrT, wNotT, wIf, wUn, gNeg, onB, gI0, gI, gAdd, DL.gSub, gMul_int, gFdiv, gMod, gPow, gShl, gShr, gLt, gLe, gGt, gGe, gEq_int, gNe_int, wChain, wChain3, sPar2, sPar3, DL.gTup, gsCons, gsNil, gInt, gIsN, gNotN, isN_non, isN_tup, isN_rol, isN_int, isN_str, isN_bl, isN_loc, wSl, wNo, wSo, gSl, gRep, gRepL, wDGet1, wDGet2, wInD, wListRg, wListRgL, wTupRg, wDctNew, wDGet2T, gAtT, wItD, wRevT, wFld, sFldS, sFldA, wMeth, wMake, wRg1, wRg2, wEnum, wZip, wRng3, wIt, wItA, wItT, wRng1, wRng2, wLc, wLcL, wLc2, wYes, wCallK, endsOf, List.set_cons_zero, List.set_cons_succ, List.getElem?_cons_zero, List.getElem?_cons_succ, if_true, if_false, Bool.false_eq_true, reduceIte, decide_eq_true_eq, wipeD, List.length_cons, List.length_nil, gIxD, DL.gAt, put]
  refine ⟨_, _, _, rfl, rfl, deck_draws, ?_⟩
  try simp only [sAsg, DL.gName, sRet, sRetN, sNext, sIf, sNever, sExpr, sFor, wVar, wC, wOp, wCall, wCons, wNil, wTup, wRol, wTest, wAnd, wOr, wNot, wAndT, wOrT, wNotT, wIf, wUn, gNeg, onB, gI0, gI, gAdd, DL.gSub, gMul_int, gFdiv, gMod, gPow, gShl, gShr, gLt, gLe, gGt, gGe, gEq_int, gNe_int, wChain, wChain3, sPar2, sPar3, DL.gTup, gsCons, gsNil, gInt, gIsN, gNotN, isN_non, isN_tup, isN_rol, isN_int, isN_str, isN_bl, isN_loc, wSl, wNo, wSo, gSl, gRep, gRepL, wDGet1, wDGet2, wInD, wListRg, wListRgL, wTupRg, wDctNew, wDGet2T, gAtT, wItD, wRevT, wFld, sFldS, sFldA, wMeth, wMake, wRg1, wRg2, wEnum, wZip, wRng3, wIt, wItA, wItT, wRng1, wRng2, wLc, wLcL, wLc2, wYes, wCallK, endsOf, List.set_cons_zero, List.set_cons_succ, List.getElem?_cons_zero, List.getElem?_cons_succ, if_true, if_false, Bool.false_eq_true, reduceIte, decide_eq_true_eq, wipeD, List.length_cons, List.length_nil]
  refine ⟨_, rfl, small1000 (by decide), ?_⟩
  rw [deck_put]
  refine hk1 _ _ (seq_k fun k2 hk2 => ?_)
  try simp only [sAsg, DL.gName, sRet, sRetN, sNext, sIf, sNever, sExpr, sFor, wVar, wC, wOp, wCall, wCons, wNil, wTup, wRol, wTest, wAnd, wOr, wNot, wAndT, wOrT, wNotT, wIf, wUn, gNeg, onB, gI0, gI, gAdd, DL.gSub, gMul_int, gFdiv, gMod, gPow, gShl, gShr, gLt, gLe, gGt, gGe, gEq_int, gNe_int, wChain, wChain3, sPar2, sPar3, DL.gTup, gsCons, gsNil, gInt, gIsN, gNotN, isN_non, isN_tup, isN_rol, isN_int, isN_str, isN_bl, isN_loc, wSl, wNo, wSo, gSl, gRep, gRepL, wDGet1, wDGet2, wInD, wListRg, wListRgL, wTupRg, wDctNew, wDGet2T, gAtT, wItD, wRevT, wFld, sFldS, sFldA, wMeth, wMake, wRg1, wRg2, wEnum, wZip, wRng3, wIt, wItA, wItT, wRng1, wRng2, wLc, wLcL, wLc2, wYes, wCallK, endsOf, List.set_cons_zero, List.set_cons_succ, List.getElem?_cons_zero, List.getElem?_cons_succ, if_true, if_false, Bool.false_eq_true, reduceIte, decide_eq_true_eq, wipeD, List.length_cons, List.length_nil, gIxD]
  refine ⟨_, _, _, rfl, rfl, deck_mixed, ?_⟩
  try simp only [sAsg, DL.gName, sRet, sRetN, sNext, sIf, sNever, sExpr, sFor, wVar, wC, wOp, wCall, wCons, wNil, wTup, wRol, wTest, wAnd, wOr, wNot, wAndT, wOrT, wNotT, wIf, wUn, gNeg, onB, gI0, gI, gAdd, DL.gSub, gMul_int, gFdiv, gMod, gPow, gShl, gShr, gLt, gLe, gGt, gGe, gEq_int, gNe_int, wChain, wChain3, sPar2, sPar3, DL.gTup, gsCons, gsNil, gInt, gIsN, gNotN, isN_non, isN_tup, isN_rol, isN_int, isN_str, isN_bl, isN_loc, wSl, wNo, wSo, gSl, gRep, gRepL, wDGet1, wDGet2, wInD, wListRg, wListRgL, wTupRg, wDctNew, wDGet2T, gAtT, wItD, wRevT, wFld, sFldS, sFldA, wMeth, wMake, wRg1, wRg2, wEnum, wZip, wRng3, wIt, wItA, wItT, wRng1, wRng2, wLc, wLcL, wLc2, wYes, wCallK, endsOf, List.set_cons_zero, List.set_cons_succ, List.getElem?_cons_zero, List.getElem?_cons_succ, if_true, if_false, Bool.false_eq_true, reduceIte, decide_eq_true_eq, wipeD, List.length_cons, List.length_nil]
  refine ⟨_, _, _, rfl, rfl, deck_draws, ?_⟩
  try simp only [sAsg, DL.gName, sRet, sRetN, sNext, sIf, sNever, sExpr, sFor, wVar, wC, wOp, wCall, wCons, wNil, wTup, wRol, wTest, wAnd, wOr, wNot, wAndT, wOrT, wNotT, wIf, wUn, gNeg, onB, gI0, gI, gAdd, DL.gSub, gMul_int, gFdiv, gMod, gPow, gShl, gShr, gLt, gLe, gGt, gGe, gEq_int, gNe_int, wChain, wChain3, sPar2, sPar3, DL.gTup, gsCons, gsNil, gInt, gIsN, gNotN, isN_non, isN_tup, isN_rol, isN_int, isN_str, isN_bl, isN_loc, wSl, wNo, wSo, gSl, gRep, gRepL, wDGet1, wDGet2, wInD, wListRg, wListRgL, wTupRg, wDctNew, wDGet2T, gAtT, wItD, wRevT, wFld, sFldS, sFldA, wMeth, wMake, wRg1, wRg2, wEnum, wZip, wRng3, wIt, wItA, wItT, wRng1, wRng2, wLc, wLcL, wLc2, wYes, wCallK, endsOf, List.set_cons_zero, List.set_cons_succ, List.getElem?_cons_zero, List.getElem?_cons_succ, if_true, if_false, Bool.false_eq_true, reduceIte, decide_eq_true_eq, wipeD, List.length_cons, List.length_nil]
  refine ⟨mulOk (by decide) (by decide) (by omega) (by omega), hk2 _ _ (seq_k fun k3 hk3 => ?_)⟩
  clear hk1 hk2
  have fin : ∀ (v : Int) (ns' : List Int) (x : Option D), ns'.length ≤ 100 → 0 ≤ v → v < 2 ^ 61 → k3 [some (.loc 1), some (.int many), some (.int v), x] (deckS ns' m (t0 + 1) ++ T) := by
    intro v ns' x hl' hv hv2
    refine hk3 _ _ ?_
    clear hk3
    unfold deckS
    simp only [List.cons_append, List.nil_append]
    try simp only [sSeq, sAsg, DL.gName, sRet, sRetN, sNext, sIf, sNever, sExpr, sFor, wVar, wC, wOp, wCall, wCons, wNil, wTup, wRol, wTest, wAnd, wOr, wNot, wAndT, wOrT, wNotT, wIf, wUn, gNeg, onB, gI0, gI, gAdd, DL.gSub, gMul_int, gFdiv, gMod, gPow, gShl, gShr, gLt, gLe, gGt, gGe, gEq_int, gNe_int, wChain, wChain3, sPar2, sPar3, DL.gTup, gsCons, gsNil, gInt, gIsN, gNotN, isN_non, isN_tup, isN_rol, isN_int, isN_str, isN_bl, isN_loc, wSl, wNo, wSo, gSl, gRep, gRepL, wDGet1, wDGet2, wInD, wListRg, wListRgL, wTupRg, wDctNew, wDGet2T, gAtT, wItD, wRevT, wFld, sFldS, sFldA, wMeth, wMake, wRg1, wRg2, wEnum, wZip, wRng3, wIt, wItA, wItT, wRng1, wRng2, wLc, wLcL, wLc2, wYes, wCallK, endsOf, List.set_cons_zero, List.set_cons_succ, List.getElem?_cons_zero, List.getElem?_cons_succ, if_true, if_false, Bool.false_eq_true, reduceIte, decide_eq_true_eq, wipeD, List.length_cons, List.length_nil, gIxD]
    refine ⟨mulOk (by omega) (by omega) (by decide) (by decide), by decide, ?_⟩
    refine ⟨mulOk (by omega) (by omega) (by omega) (by omega), _, _, _, rfl, rfl, deck_draws, ?_⟩
    try simp only [sSeq, sAsg, DL.gName, sRet, sRetN, sNext, sIf, sNever, sExpr, sFor, wVar, wC, wOp, wCall, wCons, wNil, wTup, wRol, wTest, wAnd, wOr, wNot, wAndT, wOrT, wNotT, wIf, wUn, gNeg, onB, gI0, gI, gAdd, DL.gSub, gMul_int, gFdiv, gMod, gPow, gShl, gShr, gLt, gLe, gGt, gGe, gEq_int, gNe_int, wChain, wChain3, sPar2, sPar3, DL.gTup, gsCons, gsNil, gInt, gIsN, gNotN, isN_non, isN_tup, isN_rol, isN_int, isN_str, isN_bl, isN_loc, wSl, wNo, wSo, gSl, gRep, gRepL, wDGet1, wDGet2, wInD, wListRg, wListRgL, wTupRg, wDctNew, wDGet2T, gAtT, wItD, wRevT, wFld, sFldS, sFldA, wMeth, wMake, wRg1, wRg2, wEnum, wZip, wRng3, wIt, wItA, wItT, wRng1, wRng2, wLc, wLcL, wLc2, wYes, wCallK, endsOf, List.set_cons_zero, List.set_cons_succ, List.getElem?_cons_zero, List.getElem?_cons_succ, if_true, if_false, Bool.false_eq_true, reduceIte, decide_eq_true_eq, wipeD, List.length_cons, List.length_nil]
    refine ⟨mulOk (by decide) (by decide) (by omega) (by omega), by decide, mulOk (by omega) (by omega) (by decide) (by decide), by decide, div_small (by decide) (by decide), hp, ?_⟩
    exact q' _ _ (Int.emod_nonneg _ (by omega)) (Int.emod_lt_of_pos _ hp) hl'
  try simp only [sAsg, DL.gName, sRet, sRetN, sNext, sIf, sNever, sExpr, sFor, wVar, wC, wOp, wCall, wCons, wNil, wTup, wRol, wTest, wAnd, wOr, wNot, wAndT, wOrT, wNotT, wIf, wUn, gNeg, onB, gI0, gI, gAdd, DL.gSub, gMul_int, gFdiv, gMod, gPow, gShl, gShr, gLt, gLe, gGt, gGe, gEq_int, gNe_int, wChain, wChain3, sPar2, sPar3, DL.gTup, gsCons, gsNil, gInt, gIsN, gNotN, isN_non, isN_tup, isN_rol, isN_int, isN_str, isN_bl, isN_loc, wSl, wNo, wSo, gSl, gRep, gRepL, wDGet1, wDGet2, wInD, wListRg, wListRgL, wTupRg, wDctNew, wDGet2T, gAtT, wItD, wRevT, wFld, sFldS, sFldA, wMeth, wMake, wRg1, wRg2, wEnum, wZip, wRng3, wIt, wItA, wItT, wRng1, wRng2, wLc, wLcL, wLc2, wYes, wCallK, endsOf, List.set_cons_zero, List.set_cons_succ, List.getElem?_cons_zero, List.getElem?_cons_succ, if_true, if_false, Bool.false_eq_true, reduceIte, decide_eq_true_eq, wipeD, List.length_cons, List.length_nil, gIxD]
  refine ⟨_, _, _, rfl, rfl, deck_cells, ?_⟩
  try simp only [sAsg, DL.gName, sRet, sRetN, sNext, sIf, sNever, sExpr, sFor, wVar, wC, wOp, wCall, wCons, wNil, wTup, wRol, wTest, wAnd, wOr, wNot, wAndT, wOrT, wNotT, wIf, wUn, gNeg, onB, gI0, gI, gAdd, DL.gSub, gMul_int, gFdiv, gMod, gPow, gShl, gShr, gLt, gLe, gGt, gGe, gEq_int, gNe_int, wChain, wChain3, sPar2, sPar3, DL.gTup, gsCons, gsNil, gInt, gIsN, gNotN, isN_non, isN_tup, isN_rol, isN_int, isN_str, isN_bl, isN_loc, wSl, wNo, wSo, gSl, gRep, gRepL, wDGet1, wDGet2, wInD, wListRg, wListRgL, wTupRg, wDctNew, wDGet2T, gAtT, wItD, wRevT, wFld, sFldS, sFldA, wMeth, wMake, wRg1, wRg2, wEnum, wZip, wRng3, wIt, wItA, wItT, wRng1, wRng2, wLc, wLcL, wLc2, wYes, wCallK, endsOf, List.set_cons_zero, List.set_cons_succ, List.getElem?_cons_zero, List.getElem?_cons_succ, if_true, if_false, Bool.false_eq_true, reduceIte, decide_eq_true_eq, wipeD, List.length_cons, List.length_nil]
  refine ⟨Nat.zero_le _, gNe_at (.rol (ns.map D.int)) (.rol []) (!decide (ns = [])) rfl rfl noB_ints rfl dpD_ints (by decide) ?_ ?_⟩
  · cases ns <;> simp
  try simp only [sAsg, DL.gName, sRet, sRetN, sNext, sIf, sNever, sExpr, sFor, wVar, wC, wOp, wCall, wCons, wNil, wTup, wRol, wTest, wAnd, wOr, wNot, wAndT, wOrT, wNotT, wIf, wUn, gNeg, onB, gI0, gI, gAdd, DL.gSub, gMul_int, gFdiv, gMod, gPow, gShl, gShr, gLt, gLe, gGt, gGe, gEq_int, gNe_int, wChain, wChain3, sPar2, sPar3, DL.gTup, gsCons, gsNil, gInt, gIsN, gNotN, isN_non, isN_tup, isN_rol, isN_int, isN_str, isN_bl, isN_loc, wSl, wNo, wSo, gSl, gRep, gRepL, wDGet1, wDGet2, wInD, wListRg, wListRgL, wTupRg, wDctNew, wDGet2T, gAtT, wItD, wRevT, wFld, sFldS, sFldA, wMeth, wMake, wRg1, wRg2, wEnum, wZip, wRng3, wIt, wItA, wItT, wRng1, wRng2, wLc, wLcL, wLc2, wYes, wCallK, endsOf, List.set_cons_zero, List.set_cons_succ, List.getElem?_cons_zero, List.getElem?_cons_succ, if_true, if_false, Bool.false_eq_true, reduceIte, decide_eq_true_eq, wipeD, List.length_cons, List.length_nil]
  by_cases en : ns = []
  · rw [if_neg (by simp [en])]
    exact fin _ ns _ (by omega) (by omega) (by omega)
  · rw [if_pos (by simp [en])]
    obtain ⟨ms, c, rfl⟩ : ∃ ms c, ns = ms ++ [c] := ⟨ns.dropLast, ns.getLast en, (List.dropLast_concat_getLast en).symm⟩
    rw [List.length_append, List.length_singleton] at hl
    refine seq_k fun k4 hk4 => ?_
    try simp only [sAsg, DL.gName, sRet, sRetN, sNext, sIf, sNever, sExpr, sFor, wVar, wC, wOp, wCall, wCons, wNil, wTup, wRol, wTest, wAnd, wOr, wNot, wAndT, wOrT, wNotT, wIf, wUn, gNeg, onB, gI0, gI, gAdd, DL.gSub, gMul_int, gFdiv, gMod, gPow, gShl, gShr, gLt, gLe, gGt, gGe, gEq_int, gNe_int, wChain, wChain3, sPar2, sPar3, DL.gTup, gsCons, gsNil, gInt, gIsN, gNotN, isN_non, isN_tup, isN_rol, isN_int, isN_str, isN_bl, isN_loc, wSl, wNo, wSo, gSl, gRep, gRepL, wDGet1, wDGet2, wInD, wListRg, wListRgL, wTupRg, wDctNew, wDGet2T, gAtT, wItD, wRevT, wFld, sFldS, sFldA, wMeth, wMake, wRg1, wRg2, wEnum, wZip, wRng3, wIt, wItA, wItT, wRng1, wRng2, wLc, wLcL, wLc2, wYes, wCallK, endsOf, List.set_cons_zero, List.set_cons_succ, List.getElem?_cons_zero, List.getElem?_cons_succ, if_true, if_false, Bool.false_eq_true, reduceIte, decide_eq_true_eq, wipeD, List.length_cons, List.length_nil, wM, gIxD, gPop0, isLst]
    refine ⟨_, _, _, rfl, rfl, deck_cells, ⟨_, rfl⟩, 0, _, .int c, rfl, trivial, rfl, by simp, ?_⟩
    refine hk4 _ _ ?_
    rw [List.map_append, List.map_cons, List.map_nil, List.dropLast_concat]
    clear hk4
    refine seq_k fun k5 hk5 => ?_
    try simp only [sAsg, DL.gName, sRet, sRetN, sNext, sIf, sNever, sExpr, sFor, wVar, wC, wOp, wCall, wCons, wNil, wTup, wRol, wTest, wAnd, wOr, wNot, wAndT, wOrT, wNotT, wIf, wUn, gNeg, onB, gI0, gI, gAdd, DL.gSub, gMul_int, gFdiv, gMod, gPow, gShl, gShr, gLt, gLe, gGt, gGe, gEq_int, gNe_int, wChain, wChain3, sPar2, sPar3, DL.gTup, gsCons, gsNil, gInt, gIsN, gNotN, isN_non, isN_tup, isN_rol, isN_int, isN_str, isN_bl, isN_loc, wSl, wNo, wSo, gSl, gRep, gRepL, wDGet1, wDGet2, wInD, wListRg, wListRgL, wTupRg, wDctNew, wDGet2T, gAtT, wItD, wRevT, wFld, sFldS, sFldA, wMeth, wMake, wRg1, wRg2, wEnum, wZip, wRng3, wIt, wItA, wItT, wRng1, wRng2, wLc, wLcL, wLc2, wYes, wCallK, endsOf, List.set_cons_zero, List.set_cons_succ, List.getElem?_cons_zero, List.getElem?_cons_succ, if_true, if_false, Bool.false_eq_true, reduceIte, decide_eq_true_eq, wipeD, List.length_cons, List.length_nil]
    refine ⟨⟨by decide, by decide, by decide⟩, ?_⟩
    by_cases hb18 : (10 : Int) ^ (18 : Int).toNat ≤ c
    · rw [if_pos hb18]
      refine seq_k fun k6 hk6 => ?_
      try simp only [sAsg, DL.gName, sRet, sRetN, sNext, sIf, sNever, sExpr, sFor, wVar, wC, wOp, wCall, wCons, wNil, wTup, wRol, wTest, wAnd, wOr, wNot, wAndT, wOrT, wNotT, wIf, wUn, gNeg, onB, gI0, gI, gAdd, DL.gSub, gMul_int, gFdiv, gMod, gPow, gShl, gShr, gLt, gLe, gGt, gGe, gEq_int, gNe_int, wChain, wChain3, sPar2, sPar3, DL.gTup, gsCons, gsNil, gInt, gIsN, gNotN, isN_non, isN_tup, isN_rol, isN_int, isN_str, isN_bl, isN_loc, wSl, wNo, wSo, gSl, gRep, gRepL, wDGet1, wDGet2, wInD, wListRg, wListRgL, wTupRg, wDctNew, wDGet2T, gAtT, wItD, wRevT, wFld, sFldS, sFldA, wMeth, wMake, wRg1, wRg2, wEnum, wZip, wRng3, wIt, wItA, wItT, wRng1, wRng2, wLc, wLcL, wLc2, wYes, wCallK, endsOf, List.set_cons_zero, List.set_cons_succ, List.getElem?_cons_zero, List.getElem?_cons_succ, if_true, if_false, Bool.false_eq_true, reduceIte, decide_eq_true_eq, wipeD, List.length_cons, List.length_nil, wM, gIxD, gAppend, isLst]
      refine ⟨_, _, _, rfl, rfl, deck_cells, ⟨_, rfl⟩, ?_⟩
      try simp only [sAsg, DL.gName, sRet, sRetN, sNext, sIf, sNever, sExpr, sFor, wVar, wC, wOp, wCall, wCons, wNil, wTup, wRol, wTest, wAnd, wOr, wNot, wAndT, wOrT, wNotT, wIf, wUn, gNeg, onB, gI0, gI, gAdd, DL.gSub, gMul_int, gFdiv, gMod, gPow, gShl, gShr, gLt, gLe, gGt, gGe, gEq_int, gNe_int, wChain, wChain3, sPar2, sPar3, DL.gTup, gsCons, gsNil, gInt, gIsN, gNotN, isN_non, isN_tup, isN_rol, isN_int, isN_str, isN_bl, isN_loc, wSl, wNo, wSo, gSl, gRep, gRepL, wDGet1, wDGet2, wInD, wListRg, wListRgL, wTupRg, wDctNew, wDGet2T, gAtT, wItD, wRevT, wFld, sFldS, sFldA, wMeth, wMake, wRg1, wRg2, wEnum, wZip, wRng3, wIt, wItA, wItT, wRng1, wRng2, wLc, wLcL, wLc2, wYes, wCallK, endsOf, List.set_cons_zero, List.set_cons_succ, List.getElem?_cons_zero, List.getElem?_cons_succ, if_true, if_false, Bool.false_eq_true, reduceIte, decide_eq_true_eq, wipeD, List.length_cons, List.length_nil, gMax2]
      have h2 : (0 : Int) < (if 2 < many then many else 2) := by split <;> omega
      have h3 : (if 2 < many then many else 2).natAbs < 2 ^ 9000 := Nat.lt_of_lt_of_le (show (if 2 < many then many else 2).natAbs < 2 ^ 60 by split <;> omega) (by decide +kernel)
      refine ⟨div_small h2 h3, 0, _, _, rfl, rfl, rfl, by rw [List.length_map]; exact small1000 (by omega), hk6 _ _ ?_⟩
      try simp only [sSeq, sAsg, DL.gName, sRet, sRetN, sNext, sIf, sNever, sExpr, sFor, wVar, wC, wOp, wCall, wCons, wNil, wTup, wRol, wTest, wAnd, wOr, wNot, wAndT, wOrT, wNotT, wIf, wUn, gNeg, onB, gI0, gI, gAdd, DL.gSub, gMul_int, gFdiv, gMod, gPow, gShl, gShr, gLt, gLe, gGt, gGe, gEq_int, gNe_int, wChain, wChain3, sPar2, sPar3, DL.gTup, gsCons, gsNil, gInt, gIsN, gNotN, isN_non, isN_tup, isN_rol, isN_int, isN_str, isN_bl, isN_loc, wSl, wNo, wSo, gSl, gRep, gRepL, wDGet1, wDGet2, wInD, wListRg, wListRgL, wTupRg, wDctNew, wDGet2T, gAtT, wItD, wRevT, wFld, sFldS, sFldA, wMeth, wMake, wRg1, wRg2, wEnum, wZip, wRng3, wIt, wItA, wItT, wRng1, wRng2, wLc, wLcL, wLc2, wYes, wCallK, endsOf, List.set_cons_zero, List.set_cons_succ, List.getElem?_cons_zero, List.getElem?_cons_succ, if_true, if_false, Bool.false_eq_true, reduceIte, decide_eq_true_eq, wipeD, List.length_cons, List.length_nil]
      refine ⟨hp, ?_⟩
      have e : (List.map D.int ms ++ [D.int (c / if 2 < many then many else 2)]) = (ms ++ [c / if 2 < many then many else 2]).map D.int := by simp
      rw [e]
      exact q' _ _ (Int.emod_nonneg _ (by omega)) (Int.emod_lt_of_pos _ hp) (by simp; omega)
    · rw [if_neg hb18]
      refine hk5 _ _ ?_
      try simp only [sSeq, sAsg, DL.gName, sRet, sRetN, sNext, sIf, sNever, sExpr, sFor, wVar, wC, wOp, wCall, wCons, wNil, wTup, wRol, wTest, wAnd, wOr, wNot, wAndT, wOrT, wNotT, wIf, wUn, gNeg, onB, gI0, gI, gAdd, DL.gSub, gMul_int, gFdiv, gMod, gPow, gShl, gShr, gLt, gLe, gGt, gGe, gEq_int, gNe_int, wChain, wChain3, sPar2, sPar3, DL.gTup, gsCons, gsNil, gInt, gIsN, gNotN, isN_non, isN_tup, isN_rol, isN_int, isN_str, isN_bl, isN_loc, wSl, wNo, wSo, gSl, gRep, gRepL, wDGet1, wDGet2, wInD, wListRg, wListRgL, wTupRg, wDctNew, wDGet2T, gAtT, wItD, wRevT, wFld, sFldS, sFldA, wMeth, wMake, wRg1, wRg2, wEnum, wZip, wRng3, wIt, wItA, wItT, wRng1, wRng2, wLc, wLcL, wLc2, wYes, wCallK, endsOf, List.set_cons_zero, List.set_cons_succ, List.getElem?_cons_zero, List.getElem?_cons_succ, if_true, if_false, Bool.false_eq_true, reduceIte, decide_eq_true_eq, wipeD, List.length_cons, List.length_nil]
      refine ⟨by decide, ?_⟩
      exact fin _ ms _ (by omega) (by omega) (by omega)
theorem len_is_integer : ∀ ds S Q, c_is_integer ds S Q → ds.length = 1 := by rintro _ _ _ ⟨d, rfl, _⟩; rfl
theorem spec_is_integer : ∀ ds S Q, CloS S → Bels S.length ds → c_is_integer ds S Q → w_is_integer (endsOf S.length Q) (startD N_is_integer ds) S := by
  rintro _ S Q hc hb ⟨d, rfl, ht, q⟩
  rw [st_is_integer]
  unfold w_is_integer
  try simp only [sSeq, sAsg, DL.gName, sRet, sRetN, sNext, sIf, sNever, sExpr, sFor, wVar, wC, wOp, wCall, wCons, wNil, wTup, wRol, wTest, wAnd, wOr, wNot, wAndT, wOrT, wNotT, wIf, wUn, gNeg, onB, gI0, gI, gAdd, DL.gSub, gMul_int, gFdiv, gMod, gPow, gShl, gShr, gLt, gLe, gGt, gGe, gEq_int, gNe_int, wChain, wChain3, sPar2, sPar3, DL.gTup, gsCons, gsNil, gInt, gIsN, gNotN, isN_non, isN_tup, isN_rol, isN_int, isN_str, isN_bl, isN_loc, wSl, wNo, wSo, gSl, gRep, gRepL, wDGet1, wDGet2, wInD, wListRg, wListRgL, wTupRg, wDctNew, wDGet2T, gAtT, wItD, wRevT, wFld, sFldS, sFldA, wMeth, wMake, wRg1, wRg2, wEnum, wZip, wRng3, wIt, wItA, wItT, wRng1, wRng2, wLc, wLcL, wLc2, wYes, wCallK, endsOf, List.set_cons_zero, List.set_cons_succ, List.getElem?_cons_zero, List.getElem?_cons_succ, if_true, if_false, Bool.false_eq_true, reduceIte, decide_eq_true_eq, wipeD, List.length_cons, List.length_nil, gIsi]
  have main : ∀ t, tyOf S d = some t → (∃ u, tyOf S d = some u ∧ "int" ∈ ["bool", "int", "str", "tuple", "list", "dict"] ∧ if isiB u "int" = true then ∃ v, tyOf S d = some v ∧ "bool" ∈ ["bool", "int", "str", "tuple", "list", "dict"] ∧ Out S.length S (.bl (!isiB v "bool")) Q else Out S.length S (.bl false) Q) := by
    intro t e
    refine ⟨t, e, by decide, ?_⟩
    cases d with
    | int i => cases e; exact ⟨_, rfl, by decide, .inr q⟩
    | bl b => cases e; exact ⟨_, rfl, by decide, .inr q⟩
    | non => cases e; exact .inr q
    | str s => cases e; exact .inr q
    | tup xs => cases e; exact .inr q
    | rol xs => cases e; exact .inr q
    | fro xs => cases e; exact .inr q
    | ty n => cases e
    | loc n =>
      have e : tyC S[n]? = some t := e
      cases z : S[n]? with
      | none => rw [z] at e; cases e
      | some c =>
        rw [z] at e
        cases c <;> cases e <;> exact .inr q
  rcases ht with ⟨i, rfl⟩ | ⟨t, e⟩
  · exact main "int" rfl
  · exact main t e
theorem len_is_between : ∀ ds S Q, c_is_between ds S Q → ds.length = 3 := by rintro _ _ _ ⟨i, a, b, rfl, _⟩; rfl
theorem spec_is_between : ∀ ds S Q, CloS S → Bels S.length ds → c_is_between ds S Q → w_is_between (endsOf S.length Q) (startD N_is_between ds) S := by
  rintro _ S Q hc hb ⟨i, a, b, rfl, q⟩
  rw [st_is_between]
  unfold w_is_between
  try simp only [sSeq, sAsg, DL.gName, sRet, sRetN, sNext, sIf, sNever, sExpr, sFor, wVar, wC, wOp, wCall, wCons, wNil, wTup, wRol, wTest, wAnd, wOr, wNot, wAndT, wOrT, wNotT, wIf, wUn, gNeg, onB, gI0, gI, gAdd, DL.gSub, gMul_int, gFdiv, gMod, gPow, gShl, gShr, gLt, gLe, gGt, gGe, gEq_int, gNe_int, wChain, wChain3, sPar2, sPar3, DL.gTup, gsCons, gsNil, gInt, gIsN, gNotN, isN_non, isN_tup, isN_rol, isN_int, isN_str, isN_bl, isN_loc, wSl, wNo, wSo, gSl, gRep, gRepL, wDGet1, wDGet2, wInD, wListRg, wListRgL, wTupRg, wDctNew, wDGet2T, gAtT, wItD, wRevT, wFld, sFldS, sFldA, wMeth, wMake, wRg1, wRg2, wEnum, wZip, wRng3, wIt, wItA, wItT, wRng1, wRng2, wLc, wLcL, wLc2, wYes, wCallK, endsOf, List.set_cons_zero, List.set_cons_succ, List.getElem?_cons_zero, List.getElem?_cons_succ, if_true, if_false, Bool.false_eq_true, reduceIte, decide_eq_true_eq, wipeD, List.length_cons, List.length_nil]
  refine ⟨.int i, rfl, .inl ⟨i, rfl⟩, ?_⟩
  try simp only [sSeq, sAsg, DL.gName, sRet, sRetN, sNext, sIf, sNever, sExpr, sFor, wVar, wC, wOp, wCall, wCons, wNil, wTup, wRol, wTest, wAnd, wOr, wNot, wAndT, wOrT, wNotT, wIf, wUn, gNeg, onB, gI0, gI, gAdd, DL.gSub, gMul_int, gFdiv, gMod, gPow, gShl, gShr, gLt, gLe, gGt, gGe, gEq_int, gNe_int, wChain, wChain3, sPar2, sPar3, DL.gTup, gsCons, gsNil, gInt, gIsN, gNotN, isN_non, isN_tup, isN_rol, isN_int, isN_str, isN_bl, isN_loc, wSl, wNo, wSo, gSl, gRep, gRepL, wDGet1, wDGet2, wInD, wListRg, wListRgL, wTupRg, wDctNew, wDGet2T, gAtT, wItD, wRevT, wFld, sFldS, sFldA, wMeth, wMake, wRg1, wRg2, wEnum, wZip, wRng3, wIt, wItA, wItT, wRng1, wRng2, wLc, wLcL, wLc2, wYes, wCallK, endsOf, List.set_cons_zero, List.set_cons_succ, List.getElem?_cons_zero, List.getElem?_cons_succ, if_true, if_false, Bool.false_eq_true, reduceIte, decide_eq_true_eq, wipeD, List.length_cons, List.length_nil, isI]
  by_cases h : a ≤ i
  · rw [if_pos h]
    rw [decide_eq_true h, Bool.true_and] at q
    exact .inr q
  · rw [if_neg h]
    rw [decide_eq_false h, Bool.false_and] at q
    exact .inr q
theorem len_are_between : ∀ ds S Q, c_are_between ds S Q → ds.length = 3 := by rintro _ _ _ ⟨i, a, b, rfl, _⟩; rfl
theorem spec_are_between : ∀ ds S Q, CloS S → Bels S.length ds → c_are_between ds S Q → w_are_between (endsOf S.length Q) (startD N_are_between ds) S := by
  rintro _ S Q hc hb ⟨is, a, b, rfl, hl, q⟩
  rw [st_are_between]
  unfold w_are_between
  try simp only [sSeq, sAsg, DL.gName, sRet, sRetN, sNext, sIf, sNever, sExpr, sFor, wVar, wC, wOp, wCall, wCons, wNil, wTup, wRol, wTest, wAnd, wOr, wNot, wAndT, wOrT, wNotT, wIf, wUn, gNeg, onB, gI0, gI, gAdd, DL.gSub, gMul_int, gFdiv, gMod, gPow, gShl, gShr, gLt, gLe, gGt, gGe, gEq_int, gNe_int, wChain, wChain3, sPar2, sPar3, DL.gTup, gsCons, gsNil, gInt, gIsN, gNotN, isN_non, isN_tup, isN_rol, isN_int, isN_str, isN_bl, isN_loc, wSl, wNo, wSo, gSl, gRep, gRepL, wDGet1, wDGet2, wInD, wListRg, wListRgL, wTupRg, wDctNew, wDGet2T, gAtT, wItD, wRevT, wFld, sFldS, sFldA, wMeth, wMake, wRg1, wRg2, wEnum, wZip, wRng3, wIt, wItA, wItT, wRng1, wRng2, wLc, wLcL, wLc2, wYes, wCallK, endsOf, List.set_cons_zero, List.set_cons_succ, List.getElem?_cons_zero, List.getElem?_cons_succ, if_true, if_false, Bool.false_eq_true, reduceIte, decide_eq_true_eq, wipeD, List.length_cons, List.length_nil, gIsi, gAll]
  refine ⟨"tuple", rfl, by decide, ?_⟩
  rw [if_pos (by decide)]
  refine wLc_map D.int (fun i => .bl (decide (a ≤ i) && decide (i ≤ b))) is (fun _ z => nomatch z) (Nat.le_of_lt hl) (fun x hx k k0 hk => ⟨x, a, b, rfl, hk⟩) ?_
  refine ⟨_, _, is.map fun i => decide (a ≤ i) && decide (i ≤ b), rfl, rfl, ?_, .inr ?_⟩
  · have := bools_map (is.map fun i => decide (a ≤ i) && decide (i ≤ b))
    rw [List.map_map] at this
    exact this
  · rw [List.all_map]
    exact q
theorem abs_eq (a : Int) : (if a < 0 then -a else a) = ((a.natAbs : Nat) : Int) := by split <;> omega
theorem spec_l_common : ∀ ds S Q, CloS S → Bels S.length ds → c_l_common ds S Q → w_l_common (endsOf S.length Q) (startD N_l_common ds) S := by
  rintro _ S Q hc hb ⟨a, b, rfl, hb0, hb2, q⟩
  rw [st_l_common]
  unfold w_l_common
  refine seq_k fun k0 hk0 => ?_
  try simp only [sAsg, DL.gName, sRet, sRetN, sNext, sIf, sNever, sExpr, sFor, wVar, wC, wOp, wCall, wCons, wNil, wTup, wRol, wTest, wAnd, wOr, wNot, wAndT, wOrT, wNotT, wIf, wUn, gNeg, onB, gI0, gI, gAdd, DL.gSub, gMul_int, gFdiv, gMod, gPow, gShl, gShr, gLt, gLe, gGt, gGe, gEq_int, gNe_int, wChain, wChain3, sPar2, sPar3, DL.gTup, gsCons, gsNil, gInt, gIsN, gNotN, isN_non, isN_tup, isN_rol, isN_int, isN_str, isN_bl, isN_loc, wSl, wNo, wSo, gSl, gRep, gRepL, wDGet1, wDGet2, wInD, wListRg, wListRgL, wTupRg, wDctNew, wDGet2T, gAtT, wItD, wRevT, wFld, sFldS, sFldA, wMeth, wMake, wRg1, wRg2, wEnum, wZip, wRng3, wIt, wItA, wItT, wRng1, wRng2, wLc, wLcL, wLc2, wYes, wCallK, endsOf, List.set_cons_zero, List.set_cons_succ, List.getElem?_cons_zero, List.getElem?_cons_succ, if_true, if_false, Bool.false_eq_true, reduceIte, decide_eq_true_eq, wipeD, List.length_cons, List.length_nil, gAbs]
  rw [abs_eq, abs_eq]
  refine hk0 _ _ (seq_k fun k1 hk1 => ?_)
  clear hk0
  try simp only [sAsg, DL.gName, sRet, sRetN, sNext, sIf, sNever, sExpr, sFor, wVar, wC, wOp, wCall, wCons, wNil, wTup, wRol, wTest, wAnd, wOr, wNot, wAndT, wOrT, wNotT, wIf, wUn, gNeg, onB, gI0, gI, gAdd, DL.gSub, gMul_int, gFdiv, gMod, gPow, gShl, gShr, gLt, gLe, gGt, gGe, gEq_int, gNe_int, wChain, wChain3, sPar2, sPar3, DL.gTup, gsCons, gsNil, gInt, gIsN, gNotN, isN_non, isN_tup, isN_rol, isN_int, isN_str, isN_bl, isN_loc, wSl, wNo, wSo, gSl, gRep, gRepL, wDGet1, wDGet2, wInD, wListRg, wListRgL, wTupRg, wDctNew, wDGet2T, gAtT, wItD, wRevT, wFld, sFldS, sFldA, wMeth, wMake, wRg1, wRg2, wEnum, wZip, wRng3, wIt, wItA, wItT, wRng1, wRng2, wLc, wLcL, wLc2, wYes, wCallK, endsOf, List.set_cons_zero, List.set_cons_succ, List.getElem?_cons_zero, List.getElem?_cons_succ, if_true, if_false, Bool.false_eq_true, reduceIte, decide_eq_true_eq, wipeD, List.length_cons, List.length_nil]
  refine ⟨4000, rfl, by decide, by decide, ?_⟩
  have hbn : b.natAbs < 2 ^ 2000 := hb2
  have fin : ∀ (x : Nat) (z : Option D), x = Int.gcd a b → k1 [some (.int x), some (.int (0 : Nat)), z] S := fun x z e => by
    refine hk1 _ _ ?_
    try simp only [sSeq, sAsg, DL.gName, sRet, sRetN, sNext, sIf, sNever, sExpr, sFor, wVar, wC, wOp, wCall, wCons, wNil, wTup, wRol, wTest, wAnd, wOr, wNot, wAndT, wOrT, wNotT, wIf, wUn, gNeg, onB, gI0, gI, gAdd, DL.gSub, gMul_int, gFdiv, gMod, gPow, gShl, gShr, gLt, gLe, gGt, gGe, gEq_int, gNe_int, wChain, wChain3, sPar2, sPar3, DL.gTup, gsCons, gsNil, gInt, gIsN, gNotN, isN_non, isN_tup, isN_rol, isN_int, isN_str, isN_bl, isN_loc, wSl, wNo, wSo, gSl, gRep, gRepL, wDGet1, wDGet2, wInD, wListRg, wListRgL, wTupRg, wDctNew, wDGet2T, gAtT, wItD, wRevT, wFld, sFldS, sFldA, wMeth, wMake, wRg1, wRg2, wEnum, wZip, wRng3, wIt, wItA, wItT, wRng1, wRng2, wLc, wLcL, wLc2, wYes, wCallK, endsOf, List.set_cons_zero, List.set_cons_succ, List.getElem?_cons_zero, List.getElem?_cons_succ, if_true, if_false, Bool.false_eq_true, reduceIte, decide_eq_true_eq, wipeD, List.length_cons, List.length_nil]
    rw [e]
    exact .inr q
  refine wFor_inv (fun i ρ S' => S' = S ∧ ∃ (x y : Nat) (z : Option D), ρ = [some (.int x), some (.int y), z] ∧ Nat.gcd x y = Int.gcd a b ∧ (i = 0 ∧ y < 2 ^ 2000 ∨ 1 ≤ i ∧ y < x ∧ x * y * 2 < 2 ^ (4001 - i + 1))) _ ⟨rfl, a.natAbs, b.natAbs, none, rfl, rfl, .inl ⟨rfl, hbn⟩⟩ ?_ ?_
  · rintro i d k hd hk _ _ ⟨rfl, x, y, z, rfl, hg, hin⟩
    obtain ⟨hi, rfl⟩ := intsD_get hd
    have hi : i < 4000 := hi
    refine ⟨gd0, ?_⟩
    refine seq_k fun k2 hk2 => ?_
    try simp only [sAsg, DL.gName, sRet, sRetN, sNext, sIf, sNever, sExpr, sFor, wVar, wC, wOp, wCall, wCons, wNil, wTup, wRol, wTest, wAnd, wOr, wNot, wAndT, wOrT, wNotT, wIf, wUn, gNeg, onB, gI0, gI, gAdd, DL.gSub, gMul_int, gFdiv, gMod, gPow, gShl, gShr, gLt, gLe, gGt, gGe, gEq_int, gNe_int, wChain, wChain3, sPar2, sPar3, DL.gTup, gsCons, gsNil, gInt, gIsN, gNotN, isN_non, isN_tup, isN_rol, isN_int, isN_str, isN_bl, isN_loc, wSl, wNo, wSo, gSl, gRep, gRepL, wDGet1, wDGet2, wInD, wListRg, wListRgL, wTupRg, wDctNew, wDGet2T, gAtT, wItD, wRevT, wFld, sFldS, sFldA, wMeth, wMake, wRg1, wRg2, wEnum, wZip, wRng3, wIt, wItA, wItT, wRng1, wRng2, wLc, wLcL, wLc2, wYes, wCallK, endsOf, List.set_cons_zero, List.set_cons_succ, List.getElem?_cons_zero, List.getElem?_cons_succ, if_true, if_false, Bool.false_eq_true, reduceIte, decide_eq_true_eq, wipeD, List.length_cons, List.length_nil]
    by_cases hy : (y : Int) = 0
    · have hy0 : y = 0 := by omega
      subst hy0
      rw [if_pos (by rfl)]
      rw [Nat.gcd_zero_right] at hg
      try simp only [sAsg, DL.gName, sRet, sRetN, sNext, sIf, sNever, sExpr, sFor, wVar, wC, wOp, wCall, wCons, wNil, wTup, wRol, wTest, wAnd, wOr, wNot, wAndT, wOrT, wNotT, wIf, wUn, gNeg, onB, gI0, gI, gAdd, DL.gSub, gMul_int, gFdiv, gMod, gPow, gShl, gShr, gLt, gLe, gGt, gGe, gEq_int, gNe_int, wChain, wChain3, sPar2, sPar3, DL.gTup, gsCons, gsNil, gInt, gIsN, gNotN, isN_non, isN_tup, isN_rol, isN_int, isN_str, isN_bl, isN_loc, wSl, wNo, wSo, gSl, gRep, gRepL, wDGet1, wDGet2, wInD, wListRg, wListRgL, wTupRg, wDctNew, wDGet2T, gAtT, wItD, wRevT, wFld, sFldS, sFldA, wMeth, wMake, wRg1, wRg2, wEnum, wZip, wRng3, wIt, wItA, wItT, wRng1, wRng2, wLc, wLcL, wLc2, wYes, wCallK, endsOf, List.set_cons_zero, List.set_cons_succ, List.getElem?_cons_zero, List.getElem?_cons_succ, if_true, if_false, Bool.false_eq_true, reduceIte, decide_eq_true_eq, wipeD, List.length_cons, List.length_nil, sBreak]
      exact fin x _ hg
    · rw [if_neg hy]
      refine hk2 _ _ ?_
      try simp only [sAsg, DL.gName, sRet, sRetN, sNext, sIf, sNever, sExpr, sFor, wVar, wC, wOp, wCall, wCons, wNil, wTup, wRol, wTest, wAnd, wOr, wNot, wAndT, wOrT, wNotT, wIf, wUn, gNeg, onB, gI0, gI, gAdd, DL.gSub, gMul_int, gFdiv, gMod, gPow, gShl, gShr, gLt, gLe, gGt, gGe, gEq_int, gNe_int, wChain, wChain3, sPar2, sPar3, DL.gTup, gsCons, gsNil, gInt, gIsN, gNotN, isN_non, isN_tup, isN_rol, isN_int, isN_str, isN_bl, isN_loc, wSl, wNo, wSo, gSl, gRep, gRepL, wDGet1, wDGet2, wInD, wListRg, wListRgL, wTupRg, wDctNew, wDGet2T, gAtT, wItD, wRevT, wFld, sFldS, sFldA, wMeth, wMake, wRg1, wRg2, wEnum, wZip, wRng3, wIt, wItA, wItT, wRng1, wRng2, wLc, wLcL, wLc2, wYes, wCallK, endsOf, List.set_cons_zero, List.set_cons_succ, List.getElem?_cons_zero, List.getElem?_cons_succ, if_true, if_false, Bool.false_eq_true, reduceIte, decide_eq_true_eq, wipeD, List.length_cons, List.length_nil]
      refine ⟨by omega, ?_⟩
      have e : (x : Int) % (y : Int) = ((x % y : Nat) : Int) := by simp
      rw [e]
      refine hk _ _ ⟨rfl, y, x % y, _, rfl, by rw [gcd_step]; exact hg, .inr ⟨by omega, ?_⟩⟩
      have y0 : 0 < y := by omega
      rcases hin with ⟨rfl, h2⟩ | ⟨h1, h2, h3⟩
      · have l := Nat.mod_lt x y0
        refine ⟨l, ?_⟩
        have : y * (x % y) < 2 ^ 2000 * 2 ^ 2000 := Nat.mul_lt_mul'' h2 (by omega)
        have e3 : (2 : Nat) ^ (4001 - (0 + 1) + 1) = 2 ^ 2000 * 2 ^ 2000 * 2 := by rw [← Nat.pow_add, ← Nat.pow_succ]
        rw [e3]
        omega
      · obtain ⟨g1, g2⟩ := gcd_go y0 h2 h3
        refine ⟨g1, ?_⟩
        rw [show 4001 - (i + 1) + 1 = 4001 - i by omega]
        exact g2
  · rintro _ _ ⟨rfl, x, y, z, rfl, hg, hin⟩
    refine ⟨gd0, ?_⟩
    rw [intsD_len] at hin
    rcases hin with ⟨h, _⟩ | ⟨h1, h2, h3⟩
    · exact absurd h (by decide)
    · have h4 : x * y < 2 := by
        rw [show 4001 - Int.toNat 4000 + 1 = 2 from rfl] at h3
        omega
      have y0 : y = 0 := by
        rcases Nat.eq_zero_or_pos y with e | e
        · exact e
        · have : 2 * 1 ≤ x * y := Nat.mul_le_mul (by omega) e
          omega
      subst y0
      rw [Nat.gcd_zero_right] at hg
      exact fin x z hg
theorem len_divisor_of : ∀ ds S Q, c_divisor_of ds S Q → ds.length = 2 := by rintro _ _ _ ⟨_, _, rfl, _⟩; rfl
theorem spec_divisor_of : ∀ ds S Q, CloS S → Bels S.length ds → c_divisor_of ds S Q → w_divisor_of (endsOf S.length Q) (startD N_divisor_of ds) S := by
  rintro _ S Q hc hb ⟨a, b, rfl, hb0, q⟩
  rw [st_divisor_of]
  unfold w_divisor_of
  refine seq_k fun k1 hk1 => ?_
  try simp only [sAsg, DL.gName, sRet, sRetN, sNext, sIf, sNever, sExpr, sFor, wVar, wC, wOp, wCall, wCons, wNil, wTup, wRol, wTest, wAnd, wOr, wNot, wAndT, wOrT, wNotT, wIf, wUn, gNeg, onB, gI0, gI, gAdd, DL.gSub, gMul_int, gFdiv, gMod, gPow, gShl, gShr, gLt, gLe, gGt, gGe, gEq_int, gNe_int, wChain, wChain3, sPar2, sPar3, DL.gTup, gsCons, gsNil, gInt, gIsN, gNotN, isN_non, isN_tup, isN_rol, isN_int, isN_str, isN_bl, isN_loc, wSl, wNo, wSo, gSl, gRep, gRepL, wDGet1, wDGet2, wInD, wListRg, wListRgL, wTupRg, wDctNew, wDGet2T, gAtT, wItD, wRevT, wFld, sFldS, sFldA, wMeth, wMake, wRg1, wRg2, wEnum, wZip, wRng3, wIt, wItA, wItT, wRng1, wRng2, wLc, wLcL, wLc2, wYes, wCallK, endsOf, List.set_cons_zero, List.set_cons_succ, List.getElem?_cons_zero, List.getElem?_cons_succ, if_true, if_false, Bool.false_eq_true, reduceIte, decide_eq_true_eq, wipeD, List.length_cons, List.length_nil, gAbs]
  rw [abs_eq]
  refine hk1 _ _ (seq_k fun k2 hk2 => ?_)
  clear hk1
  refine ⟨fun M ρ S1 => S1 = S ∧ ∃ x y : Nat, ρ = [some (.int x), some (.int y)] ∧ Nat.gcd x y = Int.gcd a b ∧ y = M, ⟨_, rfl, a.natAbs, b.toNat, by rw [show ((b.toNat : Nat) : Int) = b by omega], by unfold Int.gcd; rw [show b.natAbs = b.toNat by omega], rfl⟩, ?_⟩
  rintro M _ S1 ⟨rfl, x, y, rfl, hg, rfl⟩
  try simp only [sAsg, DL.gName, sRet, sRetN, sNext, sIf, sNever, sExpr, sFor, wVar, wC, wOp, wCall, wCons, wNil, wTup, wRol, wTest, wAnd, wOr, wNot, wAndT, wOrT, wNotT, wIf, wUn, gNeg, onB, gI0, gI, gAdd, DL.gSub, gMul_int, gFdiv, gMod, gPow, gShl, gShr, gLt, gLe, gGt, gGe, gEq_int, gNe_int, wChain, wChain3, sPar2, sPar3, DL.gTup, gsCons, gsNil, gInt, gIsN, gNotN, isN_non, isN_tup, isN_rol, isN_int, isN_str, isN_bl, isN_loc, wSl, wNo, wSo, gSl, gRep, gRepL, wDGet1, wDGet2, wInD, wListRg, wListRgL, wTupRg, wDctNew, wDGet2T, gAtT, wItD, wRevT, wFld, sFldS, sFldA, wMeth, wMake, wRg1, wRg2, wEnum, wZip, wRng3, wIt, wItA, wItT, wRng1, wRng2, wLc, wLcL, wLc2, wYes, wCallK, endsOf, List.set_cons_zero, List.set_cons_succ, List.getElem?_cons_zero, List.getElem?_cons_succ, if_true, if_false, Bool.false_eq_true, reduceIte, decide_eq_true_eq, wipeD, List.length_cons, List.length_nil]
  by_cases hy : (y : Int) = 0
  · rw [if_neg (by simp [hy])]
    have hy0 : y = 0 := by omega
    subst hy0
    refine hk2 _ _ ?_
    try simp only [sSeq, sAsg, DL.gName, sRet, sRetN, sNext, sIf, sNever, sExpr, sFor, wVar, wC, wOp, wCall, wCons, wNil, wTup, wRol, wTest, wAnd, wOr, wNot, wAndT, wOrT, wNotT, wIf, wUn, gNeg, onB, gI0, gI, gAdd, DL.gSub, gMul_int, gFdiv, gMod, gPow, gShl, gShr, gLt, gLe, gGt, gGe, gEq_int, gNe_int, wChain, wChain3, sPar2, sPar3, DL.gTup, gsCons, gsNil, gInt, gIsN, gNotN, isN_non, isN_tup, isN_rol, isN_int, isN_str, isN_bl, isN_loc, wSl, wNo, wSo, gSl, gRep, gRepL, wDGet1, wDGet2, wInD, wListRg, wListRgL, wTupRg, wDctNew, wDGet2T, gAtT, wItD, wRevT, wFld, sFldS, sFldA, wMeth, wMake, wRg1, wRg2, wEnum, wZip, wRng3, wIt, wItA, wItT, wRng1, wRng2, wLc, wLcL, wLc2, wYes, wCallK, endsOf, List.set_cons_zero, List.set_cons_succ, List.getElem?_cons_zero, List.getElem?_cons_succ, if_true, if_false, Bool.false_eq_true, reduceIte, decide_eq_true_eq, wipeD, List.length_cons, List.length_nil]
    rw [Nat.gcd_zero_right] at hg
    rw [hg]
    exact .inr q
  · rw [if_pos (by simp; omega)]
    try simp only [sAsg, DL.gName, sRet, sRetN, sNext, sIf, sNever, sExpr, sFor, wVar, wC, wOp, wCall, wCons, wNil, wTup, wRol, wTest, wAnd, wOr, wNot, wAndT, wOrT, wNotT, wIf, wUn, gNeg, onB, gI0, gI, gAdd, DL.gSub, gMul_int, gFdiv, gMod, gPow, gShl, gShr, gLt, gLe, gGt, gGe, gEq_int, gNe_int, wChain, wChain3, sPar2, sPar3, DL.gTup, gsCons, gsNil, gInt, gIsN, gNotN, isN_non, isN_tup, isN_rol, isN_int, isN_str, isN_bl, isN_loc, wSl, wNo, wSo, gSl, gRep, gRepL, wDGet1, wDGet2, wInD, wListRg, wListRgL, wTupRg, wDctNew, wDGet2T, gAtT, wItD, wRevT, wFld, sFldS, sFldA, wMeth, wMake, wRg1, wRg2, wEnum, wZip, wRng3, wIt, wItA, wItT, wRng1, wRng2, wLc, wLcL, wLc2, wYes, wCallK, endsOf, List.set_cons_zero, List.set_cons_succ, List.getElem?_cons_zero, List.getElem?_cons_succ, if_true, if_false, Bool.false_eq_true, reduceIte, decide_eq_true_eq, wipeD, List.length_cons, List.length_nil]
    refine ⟨by omega, x % y, Nat.mod_lt _ (by omega), by trivial, y, x % y, by simp, by rw [gcd_step]; exact hg, rfl⟩
theorem len_lowest : ∀ ds S Q, c_lowest ds S Q → ds.length = 2 := by rintro _ _ _ ⟨_, _, rfl, _⟩; rfl
theorem spec_lowest : ∀ ds S Q, CloS S → Bels S.length ds → c_lowest ds S Q → w_lowest (endsOf S.length Q) (startD N_lowest ds) S := by
  rintro _ S Q hc hb ⟨a, b, rfl, hb0, hb1, q⟩
  rw [st_lowest]
  unfold w_lowest
  try simp only [sSeq, sAsg, DL.gName, sRet, sRetN, sNext, sIf, sNever, sExpr, sFor, wVar, wC, wOp, wCall, wCons, wNil, wTup, wRol, wTest, wAnd, wOr, wNot, wAndT, wOrT, wNotT, wIf, wUn, gNeg, onB, gI0, gI, gAdd, DL.gSub, gMul_int, gFdiv, gMod, gPow, gShl, gShr, gLt, gLe, gGt, gGe, gEq_int, gNe_int, wChain, wChain3, sPar2, sPar3, DL.gTup, gsCons, gsNil, gInt, gIsN, gNotN, isN_non, isN_tup, isN_rol, isN_int, isN_str, isN_bl, isN_loc, wSl, wNo, wSo, gSl, gRep, gRepL, wDGet1, wDGet2, wInD, wListRg, wListRgL, wTupRg, wDctNew, wDGet2T, gAtT, wItD, wRevT, wFld, sFldS, sFldA, wMeth, wMake, wRg1, wRg2, wEnum, wZip, wRng3, wIt, wItA, wItT, wRng1, wRng2, wLc, wLcL, wLc2, wYes, wCallK, endsOf, List.set_cons_zero, List.set_cons_succ, List.getElem?_cons_zero, List.getElem?_cons_succ, if_true, if_false, Bool.false_eq_true, reduceIte, decide_eq_true_eq, wipeD, List.length_cons, List.length_nil]
  refine ⟨a, b, rfl, Int.le_of_lt hb0, ?_⟩
  obtain ⟨g1, g2⟩ := gcd_lt (a := a) hb0 hb1
  have g3 : ((Int.gcd a b : Nat) : Int).natAbs < 2 ^ 9000 := Nat.lt_trans g2 (Nat.pow_lt_pow_right (by decide) (by decide))
  refine ⟨div_small g1 g3, div_small g1 g3, Nat.le_of_lt (small1000 (by decide)), ?_⟩
  rw [low_num hb0, low_den hb0]
  exact .inr q
theorem plus_ok {f g : Rat} (hf : smallR f) (hg : smallR g) : CMulX f.num g.den ∧ CMulX g.num f.den ∧ CMulX f.den g.den ∧ CMulX f.num g.num ∧ 0 < (f.den : Int) * g.den ∧ ((f.den : Int) * g.den).natAbs < 2 ^ 2000 :=
  ⟨mul_small hf.num hg.den, mul_small hg.num hf.den, mul_small hf.den hg.den, mul_small hf.num hg.num, Int.mul_pos (den_pos f) (den_pos g), natAbs_mul_lt hf.den hg.den⟩
theorem len_plus : ∀ ds S Q, c_plus ds S Q → ds.length = 2 := by rintro _ _ _ ⟨_, _, rfl, _⟩; rfl
theorem spec_plus : ∀ ds S Q, CloS S → Bels S.length ds → c_plus ds S Q → w_plus (endsOf S.length Q) (startD N_plus ds) S := by
  rintro _ S Q hc hb ⟨f, g, rfl, hf, hg, q⟩
  obtain ⟨m1, m2, m3, m4, m5, m6⟩ := plus_ok hf hg
  rw [st_plus]
  unfold w_plus
  try simp only [sSeq, sAsg, DL.gName, sRet, sRetN, sNext, sIf, sNever, sExpr, sFor, wVar, wC, wOp, wCall, wCons, wNil, wTup, wRol, wTest, wAnd, wOr, wNot, wAndT, wOrT, wNotT, wIf, wUn, gNeg, onB, gI0, gI, gAdd, DL.gSub, gMul_int, gFdiv, gMod, gPow, gShl, gShr, gLt, gLe, gGt, gGe, gEq_int, gNe_int, wChain, wChain3, sPar2, sPar3, DL.gTup, gsCons, gsNil, gInt, gIsN, gNotN, isN_non, isN_tup, isN_rol, isN_int, isN_str, isN_bl, isN_loc, wSl, wNo, wSo, gSl, gRep, gRepL, wDGet1, wDGet2, wInD, wListRg, wListRgL, wTupRg, wDctNew, wDGet2T, gAtT, wItD, wRevT, wFld, sFldS, sFldA, wMeth, wMake, wRg1, wRg2, wEnum, wZip, wRng3, wIt, wItA, wItT, wRng1, wRng2, wLc, wLcL, wLc2, wYes, wCallK, endsOf, List.set_cons_zero, List.set_cons_succ, List.getElem?_cons_zero, List.getElem?_cons_succ, if_true, if_false, Bool.false_eq_true, reduceIte, decide_eq_true_eq, wipeD, List.length_cons, List.length_nil, gIx, frD]
  refine ⟨_, rfl, _, rfl, m1, _, rfl, _, rfl, m2, _, rfl, _, rfl, m3, _, _, rfl, m5, m6, ?_⟩
  rw [add_eq]
  exact .inr q
theorem len_times : ∀ ds S Q, c_times ds S Q → ds.length = 2 := by rintro _ _ _ ⟨_, _, rfl, _⟩; rfl
theorem spec_times : ∀ ds S Q, CloS S → Bels S.length ds → c_times ds S Q → w_times (endsOf S.length Q) (startD N_times ds) S := by
  rintro _ S Q hc hb ⟨f, g, rfl, hf, hg, q⟩
  obtain ⟨m1, m2, m3, m4, m5, m6⟩ := plus_ok hf hg
  rw [st_times]
  unfold w_times
  try simp only [sSeq, sAsg, DL.gName, sRet, sRetN, sNext, sIf, sNever, sExpr, sFor, wVar, wC, wOp, wCall, wCons, wNil, wTup, wRol, wTest, wAnd, wOr, wNot, wAndT, wOrT, wNotT, wIf, wUn, gNeg, onB, gI0, gI, gAdd, DL.gSub, gMul_int, gFdiv, gMod, gPow, gShl, gShr, gLt, gLe, gGt, gGe, gEq_int, gNe_int, wChain, wChain3, sPar2, sPar3, DL.gTup, gsCons, gsNil, gInt, gIsN, gNotN, isN_non, isN_tup, isN_rol, isN_int, isN_str, isN_bl, isN_loc, wSl, wNo, wSo, gSl, gRep, gRepL, wDGet1, wDGet2, wInD, wListRg, wListRgL, wTupRg, wDctNew, wDGet2T, gAtT, wItD, wRevT, wFld, sFldS, sFldA, wMeth, wMake, wRg1, wRg2, wEnum, wZip, wRng3, wIt, wItA, wItT, wRng1, wRng2, wLc, wLcL, wLc2, wYes, wCallK, endsOf, List.set_cons_zero, List.set_cons_succ, List.getElem?_cons_zero, List.getElem?_cons_succ, if_true, if_false, Bool.false_eq_true, reduceIte, decide_eq_true_eq, wipeD, List.length_cons, List.length_nil, gIx, frD]
  refine ⟨_, rfl, _, rfl, m4, _, rfl, _, rfl, m3, _, _, rfl, m5, m6, ?_⟩
  rw [mul_eq]
  exact .inr q
theorem frs_get {fs : List Rat} {i : Nat} {d : D} (h : (fs.map frD)[i]? = some d) : ∃ f, fs[i]? = some f ∧ d = frD f := by
  rw [List.getElem?_map] at h
  cases e : fs[i]? with
  | none => rw [e] at h; cases h
  | some f => rw [e] at h; exact ⟨f, rfl, (Option.some.inj h).symm⟩
theorem len_total : ∀ ds S Q, c_total ds S Q → ds.length = 1 := by rintro _ _ _ ⟨_, rfl | rfl, _⟩ <;> rfl
theorem len_is_fraction_value : ∀ ds S Q, c_is_fraction_value ds S Q → ds.length = 1 := by rintro _ _ _ ⟨_, rfl, _⟩; rfl
theorem spec_is_fraction_value : ∀ ds S Q, CloS S → Bels S.length ds → c_is_fraction_value ds S Q → w_is_fraction_value (endsOf S.length Q) (startD N_is_fraction_value ds) S := by
  rintro _ S Q hc hb ⟨f, rfl, q⟩
  rw [st_is_fraction_value]
  unfold w_is_fraction_value
  try simp only [sSeq, sAsg, DL.gName, sRet, sRetN, sNext, sIf, sNever, sExpr, sFor, wVar, wC, wOp, wCall, wCons, wNil, wTup, wRol, wTest, wAnd, wOr, wNot, wAndT, wOrT, wNotT, wIf, wUn, gNeg, onB, gI0, gI, gAdd, DL.gSub, gMul_int, gFdiv, gMod, gPow, gShl, gShr, gLt, gLe, gGt, gGe, gEq_int, gNe_int, wChain, wChain3, sPar2, sPar3, DL.gTup, gsCons, gsNil, gInt, gIsN, gNotN, isN_non, isN_tup, isN_rol, isN_int, isN_str, isN_bl, isN_loc, wSl, wNo, wSo, gSl, gRep, gRepL, wDGet1, wDGet2, wInD, wListRg, wListRgL, wTupRg, wDctNew, wDGet2T, gAtT, wItD, wRevT, wFld, sFldS, sFldA, wMeth, wMake, wRg1, wRg2, wEnum, wZip, wRng3, wIt, wItA, wItT, wRng1, wRng2, wLc, wLcL, wLc2, wYes, wCallK, endsOf, List.set_cons_zero, List.set_cons_succ, List.getElem?_cons_zero, List.getElem?_cons_succ, if_true, if_false, Bool.false_eq_true, reduceIte, decide_eq_true_eq, wipeD, List.length_cons, List.length_nil, gIsi, gLen, gIx, frD]
  refine ⟨"tuple", rfl, by decide, ?_⟩
  rw [if_neg (by decide), if_neg (by decide)]
  refine ⟨_, rfl, _, rfl, .inl ⟨_, rfl⟩, ?_⟩
  try simp only [sSeq, sAsg, DL.gName, sRet, sRetN, sNext, sIf, sNever, sExpr, sFor, wVar, wC, wOp, wCall, wCons, wNil, wTup, wRol, wTest, wAnd, wOr, wNot, wAndT, wOrT, wNotT, wIf, wUn, gNeg, onB, gI0, gI, gAdd, DL.gSub, gMul_int, gFdiv, gMod, gPow, gShl, gShr, gLt, gLe, gGt, gGe, gEq_int, gNe_int, wChain, wChain3, sPar2, sPar3, DL.gTup, gsCons, gsNil, gInt, gIsN, gNotN, isN_non, isN_tup, isN_rol, isN_int, isN_str, isN_bl, isN_loc, wSl, wNo, wSo, gSl, gRep, gRepL, wDGet1, wDGet2, wInD, wListRg, wListRgL, wTupRg, wDctNew, wDGet2T, gAtT, wItD, wRevT, wFld, sFldS, sFldA, wMeth, wMake, wRg1, wRg2, wEnum, wZip, wRng3, wIt, wItA, wItT, wRng1, wRng2, wLc, wLcL, wLc2, wYes, wCallK, endsOf, List.set_cons_zero, List.set_cons_succ, List.getElem?_cons_zero, List.getElem?_cons_succ, if_true, if_false, Bool.false_eq_true, reduceIte, decide_eq_true_eq, wipeD, List.length_cons, List.length_nil, isI]
  refine ⟨_, rfl, _, rfl, .inl ⟨_, rfl⟩, ?_⟩
  try simp only [sSeq, sAsg, DL.gName, sRet, sRetN, sNext, sIf, sNever, sExpr, sFor, wVar, wC, wOp, wCall, wCons, wNil, wTup, wRol, wTest, wAnd, wOr, wNot, wAndT, wOrT, wNotT, wIf, wUn, gNeg, onB, gI0, gI, gAdd, DL.gSub, gMul_int, gFdiv, gMod, gPow, gShl, gShr, gLt, gLe, gGt, gGe, gEq_int, gNe_int, wChain, wChain3, sPar2, sPar3, DL.gTup, gsCons, gsNil, gInt, gIsN, gNotN, isN_non, isN_tup, isN_rol, isN_int, isN_str, isN_bl, isN_loc, wSl, wNo, wSo, gSl, gRep, gRepL, wDGet1, wDGet2, wInD, wListRg, wListRgL, wTupRg, wDctNew, wDGet2T, gAtT, wItD, wRevT, wFld, sFldS, sFldA, wMeth, wMake, wRg1, wRg2, wEnum, wZip, wRng3, wIt, wItA, wItT, wRng1, wRng2, wLc, wLcL, wLc2, wYes, wCallK, endsOf, List.set_cons_zero, List.set_cons_succ, List.getElem?_cons_zero, List.getElem?_cons_succ, if_true, if_false, Bool.false_eq_true, reduceIte, decide_eq_true_eq, wipeD, List.length_cons, List.length_nil, isI]
  have dp := den_pos f
  refine ⟨_, rfl, ?_⟩
  try simp only [sSeq, sAsg, DL.gName, sRet, sRetN, sNext, sIf, sNever, sExpr, sFor, wVar, wC, wOp, wCall, wCons, wNil, wTup, wRol, wTest, wAnd, wOr, wNot, wAndT, wOrT, wNotT, wIf, wUn, gNeg, onB, gI0, gI, gAdd, DL.gSub, gMul_int, gFdiv, gMod, gPow, gShl, gShr, gLt, gLe, gGt, gGe, gEq_int, gNe_int, wChain, wChain3, sPar2, sPar3, DL.gTup, gsCons, gsNil, gInt, gIsN, gNotN, isN_non, isN_tup, isN_rol, isN_int, isN_str, isN_bl, isN_loc, wSl, wNo, wSo, gSl, gRep, gRepL, wDGet1, wDGet2, wInD, wListRg, wListRgL, wTupRg, wDctNew, wDGet2T, gAtT, wItD, wRevT, wFld, sFldS, sFldA, wMeth, wMake, wRg1, wRg2, wEnum, wZip, wRng3, wIt, wItA, wItT, wRng1, wRng2, wLc, wLcL, wLc2, wYes, wCallK, endsOf, List.set_cons_zero, List.set_cons_succ, List.getElem?_cons_zero, List.getElem?_cons_succ, if_true, if_false, Bool.false_eq_true, reduceIte, decide_eq_true_eq, wipeD, List.length_cons, List.length_nil]
  rw [if_pos dp]
  refine ⟨_, rfl, _, rfl, _, _, rfl, by omega, ?_⟩
  have e : ((Int.gcd f.num f.den : Nat) : Int) = 1 := by
    have := f.reduced
    unfold Int.gcd
    rw [Int.natAbs_natCast]
    rw [this]; rfl
  rw [e]
  try simp only [sSeq, sAsg, DL.gName, sRet, sRetN, sNext, sIf, sNever, sExpr, sFor, wVar, wC, wOp, wCall, wCons, wNil, wTup, wRol, wTest, wAnd, wOr, wNot, wAndT, wOrT, wNotT, wIf, wUn, gNeg, onB, gI0, gI, gAdd, DL.gSub, gMul_int, gFdiv, gMod, gPow, gShl, gShr, gLt, gLe, gGt, gGe, gEq_int, gNe_int, wChain, wChain3, sPar2, sPar3, DL.gTup, gsCons, gsNil, gInt, gIsN, gNotN, isN_non, isN_tup, isN_rol, isN_int, isN_str, isN_bl, isN_loc, wSl, wNo, wSo, gSl, gRep, gRepL, wDGet1, wDGet2, wInD, wListRg, wListRgL, wTupRg, wDctNew, wDGet2T, gAtT, wItD, wRevT, wFld, sFldS, sFldA, wMeth, wMake, wRg1, wRg2, wEnum, wZip, wRng3, wIt, wItA, wItT, wRng1, wRng2, wLc, wLcL, wLc2, wYes, wCallK, endsOf, List.set_cons_zero, List.set_cons_succ, List.getElem?_cons_zero, List.getElem?_cons_succ, if_true, if_false, Bool.false_eq_true, reduceIte, decide_eq_true_eq, wipeD, List.length_cons, List.length_nil]
  rw [decide_eq_true trivial]
  exact .inr q
theorem len_is_share_value : ∀ ds S Q, c_is_share_value ds S Q → ds.length = 1 := by rintro _ _ _ ⟨_, rfl, _⟩; rfl
theorem spec_is_share_value : ∀ ds S Q, CloS S → Bels S.length ds → c_is_share_value ds S Q → w_is_share_value (endsOf S.length Q) (startD N_is_share_value ds) S := by
  rintro _ S Q hc hb ⟨f, rfl, h0, q⟩
  rw [st_is_share_value]
  unfold w_is_share_value
  try simp only [sSeq, sAsg, DL.gName, sRet, sRetN, sNext, sIf, sNever, sExpr, sFor, wVar, wC, wOp, wCall, wCons, wNil, wTup, wRol, wTest, wAnd, wOr, wNot, wAndT, wOrT, wNotT, wIf, wUn, gNeg, onB, gI0, gI, gAdd, DL.gSub, gMul_int, gFdiv, gMod, gPow, gShl, gShr, gLt, gLe, gGt, gGe, gEq_int, gNe_int, wChain, wChain3, sPar2, sPar3, DL.gTup, gsCons, gsNil, gInt, gIsN, gNotN, isN_non, isN_tup, isN_rol, isN_int, isN_str, isN_bl, isN_loc, wSl, wNo, wSo, gSl, gRep, gRepL, wDGet1, wDGet2, wInD, wListRg, wListRgL, wTupRg, wDctNew, wDGet2T, gAtT, wItD, wRevT, wFld, sFldS, sFldA, wMeth, wMake, wRg1, wRg2, wEnum, wZip, wRng3, wIt, wItA, wItT, wRng1, wRng2, wLc, wLcL, wLc2, wYes, wCallK, endsOf, List.set_cons_zero, List.set_cons_succ, List.getElem?_cons_zero, List.getElem?_cons_succ, if_true, if_false, Bool.false_eq_true, reduceIte, decide_eq_true_eq, wipeD, List.length_cons, List.length_nil, gIx, frD]
  refine ⟨f, rfl, ?_⟩
  try simp only [sSeq, sAsg, DL.gName, sRet, sRetN, sNext, sIf, sNever, sExpr, sFor, wVar, wC, wOp, wCall, wCons, wNil, wTup, wRol, wTest, wAnd, wOr, wNot, wAndT, wOrT, wNotT, wIf, wUn, gNeg, onB, gI0, gI, gAdd, DL.gSub, gMul_int, gFdiv, gMod, gPow, gShl, gShr, gLt, gLe, gGt, gGe, gEq_int, gNe_int, wChain, wChain3, sPar2, sPar3, DL.gTup, gsCons, gsNil, gInt, gIsN, gNotN, isN_non, isN_tup, isN_rol, isN_int, isN_str, isN_bl, isN_loc, wSl, wNo, wSo, gSl, gRep, gRepL, wDGet1, wDGet2, wInD, wListRg, wListRgL, wTupRg, wDctNew, wDGet2T, gAtT, wItD, wRevT, wFld, sFldS, sFldA, wMeth, wMake, wRg1, wRg2, wEnum, wZip, wRng3, wIt, wItA, wItT, wRng1, wRng2, wLc, wLcL, wLc2, wYes, wCallK, endsOf, List.set_cons_zero, List.set_cons_succ, List.getElem?_cons_zero, List.getElem?_cons_succ, if_true, if_false, Bool.false_eq_true, reduceIte, decide_eq_true_eq, wipeD, List.length_cons, List.length_nil]
  refine ⟨_, rfl, ?_⟩
  try simp only [sSeq, sAsg, DL.gName, sRet, sRetN, sNext, sIf, sNever, sExpr, sFor, wVar, wC, wOp, wCall, wCons, wNil, wTup, wRol, wTest, wAnd, wOr, wNot, wAndT, wOrT, wNotT, wIf, wUn, gNeg, onB, gI0, gI, gAdd, DL.gSub, gMul_int, gFdiv, gMod, gPow, gShl, gShr, gLt, gLe, gGt, gGe, gEq_int, gNe_int, wChain, wChain3, sPar2, sPar3, DL.gTup, gsCons, gsNil, gInt, gIsN, gNotN, isN_non, isN_tup, isN_rol, isN_int, isN_str, isN_bl, isN_loc, wSl, wNo, wSo, gSl, gRep, gRepL, wDGet1, wDGet2, wInD, wListRg, wListRgL, wTupRg, wDctNew, wDGet2T, gAtT, wItD, wRevT, wFld, sFldS, sFldA, wMeth, wMake, wRg1, wRg2, wEnum, wZip, wRng3, wIt, wItA, wItT, wRng1, wRng2, wLc, wLcL, wLc2, wYes, wCallK, endsOf, List.set_cons_zero, List.set_cons_succ, List.getElem?_cons_zero, List.getElem?_cons_succ, if_true, if_false, Bool.false_eq_true, reduceIte, decide_eq_true_eq, wipeD, List.length_cons, List.length_nil]
  rw [decide_eq_true (Rat.num_nonneg.mpr h0)]
  exact .inr q
theorem len_l_times : ∀ ds S Q, c_l_times ds S Q → ds.length = 2 := by rintro _ _ _ ⟨_, _, rfl, _⟩; rfl
theorem spec_l_times : ∀ ds S Q, CloS S → Bels S.length ds → c_l_times ds S Q → w_l_times (endsOf S.length Q) (startD N_l_times ds) S := by
  rintro _ S Q hc hb ⟨f, g, rfl, hf, hg, q⟩
  obtain ⟨m1, m2, m3, m4, m5, m6⟩ := plus_ok hf hg
  rw [st_l_times]
  unfold w_l_times
  try simp only [sSeq, sAsg, DL.gName, sRet, sRetN, sNext, sIf, sNever, sExpr, sFor, wVar, wC, wOp, wCall, wCons, wNil, wTup, wRol, wTest, wAnd, wOr, wNot, wAndT, wOrT, wNotT, wIf, wUn, gNeg, onB, gI0, gI, gAdd, DL.gSub, gMul_int, gFdiv, gMod, gPow, gShl, gShr, gLt, gLe, gGt, gGe, gEq_int, gNe_int, wChain, wChain3, sPar2, sPar3, DL.gTup, gsCons, gsNil, gInt, gIsN, gNotN, isN_non, isN_tup, isN_rol, isN_int, isN_str, isN_bl, isN_loc, wSl, wNo, wSo, gSl, gRep, gRepL, wDGet1, wDGet2, wInD, wListRg, wListRgL, wTupRg, wDctNew, wDGet2T, gAtT, wItD, wRevT, wFld, sFldS, sFldA, wMeth, wMake, wRg1, wRg2, wEnum, wZip, wRng3, wIt, wItA, wItT, wRng1, wRng2, wLc, wLcL, wLc2, wYes, wCallK, endsOf, List.set_cons_zero, List.set_cons_succ, List.getElem?_cons_zero, List.getElem?_cons_succ, if_true, if_false, Bool.false_eq_true, reduceIte, decide_eq_true_eq, wipeD, List.length_cons, List.length_nil, gIx, frD]
  refine ⟨_, rfl, _, rfl, m4, _, rfl, _, rfl, m3, _, _, rfl, m5, m6, ?_⟩
  rw [mul_eq]
  exact .inr q
theorem len_l_is_integer : ∀ ds S Q, c_l_is_integer ds S Q → ds.length = 1 := by rintro _ _ _ ⟨_, rfl, _⟩; rfl
theorem spec_l_is_integer : ∀ ds S Q, CloS S → Bels S.length ds → c_l_is_integer ds S Q → w_l_is_integer (endsOf S.length Q) (startD N_l_is_integer ds) S := by
  rintro _ S Q hc hb ⟨i, rfl, q⟩
  rw [st_l_is_integer]
  unfold w_l_is_integer
  try simp only [sSeq, sAsg, DL.gName, sRet, sRetN, sNext, sIf, sNever, sExpr, sFor, wVar, wC, wOp, wCall, wCons, wNil, wTup, wRol, wTest, wAnd, wOr, wNot, wAndT, wOrT, wNotT, wIf, wUn, gNeg, onB, gI0, gI, gAdd, DL.gSub, gMul_int, gFdiv, gMod, gPow, gShl, gShr, gLt, gLe, gGt, gGe, gEq_int, gNe_int, wChain, wChain3, sPar2, sPar3, DL.gTup, gsCons, gsNil, gInt, gIsN, gNotN, isN_non, isN_tup, isN_rol, isN_int, isN_str, isN_bl, isN_loc, wSl, wNo, wSo, gSl, gRep, gRepL, wDGet1, wDGet2, wInD, wListRg, wListRgL, wTupRg, wDctNew, wDGet2T, gAtT, wItD, wRevT, wFld, sFldS, sFldA, wMeth, wMake, wRg1, wRg2, wEnum, wZip, wRng3, wIt, wItA, wItT, wRng1, wRng2, wLc, wLcL, wLc2, wYes, wCallK, endsOf, List.set_cons_zero, List.set_cons_succ, List.getElem?_cons_zero, List.getElem?_cons_succ, if_true, if_false, Bool.false_eq_true, reduceIte, decide_eq_true_eq, wipeD, List.length_cons, List.length_nil, gIsi]
  exact ⟨"int", rfl, by decide, "int", rfl, by decide, .inr q⟩
theorem len_l_pick : ∀ ds S Q, c_l_pick ds S Q → ds.length = 2 := by rintro _ _ _ ⟨_, _, _, rfl, _⟩; rfl
theorem spec_l_pick : ∀ ds S Q, CloS S → Bels S.length ds → c_l_pick ds S Q → w_l_pick (endsOf S.length Q) (startD N_l_pick ds) S := by
  rintro _ S Q hc hb ⟨xs, t, T, rfl, hx, hl, hk, ht, q⟩
  have lp := List.length_pos_iff.mpr hx
  rw [st_l_pick]
  unfold w_l_pick
  try simp only [sSeq, sAsg, DL.gName, sRet, sRetN, sNext, sIf, sNever, sExpr, sFor, wVar, wC, wOp, wCall, wCons, wNil, wTup, wRol, wTest, wAnd, wOr, wNot, wAndT, wOrT, wNotT, wIf, wUn, gNeg, onB, gI0, gI, gAdd, DL.gSub, gMul_int, gFdiv, gMod, gPow, gShl, gShr, gLt, gLe, gGt, gGe, gEq_int, gNe_int, wChain, wChain3, sPar2, sPar3, DL.gTup, gsCons, gsNil, gInt, gIsN, gNotN, isN_non, isN_tup, isN_rol, isN_int, isN_str, isN_bl, isN_loc, wSl, wNo, wSo, gSl, gRep, gRepL, wDGet1, wDGet2, wInD, wListRg, wListRgL, wTupRg, wDctNew, wDGet2T, gAtT, wItD, wRevT, wFld, sFldS, sFldA, wMeth, wMake, wRg1, wRg2, wEnum, wZip, wRng3, wIt, wItA, wItT, wRng1, wRng2, wLc, wLcL, wLc2, wYes, wCallK, endsOf, List.set_cons_zero, List.set_cons_succ, List.getElem?_cons_zero, List.getElem?_cons_succ, if_true, if_false, Bool.false_eq_true, reduceIte, decide_eq_true_eq, wipeD, List.length_cons, List.length_nil, gLen, List.length_map]
  refine ⟨_, t, T, rfl, hk, by omega, by omega, by omega, fun r S' r1 r2 d => ?_⟩
  have hi : xs[r.toNat]? = some (xs[r.toNat]'(by omega)) := by simp
  have ha := atI_ints hi
  rw [show ((r.toNat : Nat) : Int) = r by omega] at ha
  try simp only [sSeq, sAsg, DL.gName, sRet, sRetN, sNext, sIf, sNever, sExpr, sFor, wVar, wC, wOp, wCall, wCons, wNil, wTup, wRol, wTest, wAnd, wOr, wNot, wAndT, wOrT, wNotT, wIf, wUn, gNeg, onB, gI0, gI, gAdd, DL.gSub, gMul_int, gFdiv, gMod, gPow, gShl, gShr, gLt, gLe, gGt, gGe, gEq_int, gNe_int, wChain, wChain3, sPar2, sPar3, DL.gTup, gsCons, gsNil, gInt, gIsN, gNotN, isN_non, isN_tup, isN_rol, isN_int, isN_str, isN_bl, isN_loc, wSl, wNo, wSo, gSl, gRep, gRepL, wDGet1, wDGet2, wInD, wListRg, wListRgL, wTupRg, wDctNew, wDGet2T, gAtT, wItD, wRevT, wFld, sFldS, sFldA, wMeth, wMake, wRg1, wRg2, wEnum, wZip, wRng3, wIt, wItA, wItT, wRng1, wRng2, wLc, wLcL, wLc2, wYes, wCallK, endsOf, List.set_cons_zero, List.set_cons_succ, List.getElem?_cons_zero, List.getElem?_cons_succ, if_true, if_false, Bool.false_eq_true, reduceIte, decide_eq_true_eq, wipeD, List.length_cons, List.length_nil, gIx]
  refine ⟨_, _, rfl, ha, .inr (q _ _ (List.mem_of_getElem? hi) d)⟩
/-- the outcomes that can come -/
def can (M : List State) (s : Nat) : List Nat := (List.range (tab M s).length).filter fun i => decide (0 < (prob M s i).num)
theorem mk_le {a b : Int} {m k : Nat} (hm : 0 < m) (hk : 0 < k) : mkRat a m ≤ mkRat b k ↔ a * k ≤ b * m := by
  have h := mk_lt (a := b) (b := a) hk hm
  rw [← Rat.not_lt, h]
  omega
theorem len_is_at_most : ∀ ds S Q, c_is_at_most ds S Q → ds.length = 2 := by rintro _ _ _ ⟨_, _, rfl, _⟩; rfl
theorem rat_le (f g : Rat) : f ≤ g ↔ f.num * (g.den : Int) ≤ g.num * (f.den : Int) := by
  have e1 : f = mkRat f.num f.den := (Rat.mkRat_self f).symm
  have e2 : g = mkRat g.num g.den := (Rat.mkRat_self g).symm
  conv => lhs; rw [e1, e2]
  exact mk_le f.den_pos g.den_pos
theorem spec_is_at_most : ∀ ds S Q, CloS S → Bels S.length ds → c_is_at_most ds S Q → w_is_at_most (endsOf S.length Q) (startD N_is_at_most ds) S := by
  rintro _ S Q hc hb ⟨f, g, rfl, hf, hg, q⟩
  obtain ⟨m1, m2, m3, m4, m5, m6⟩ := plus_ok hf hg
  rw [st_is_at_most]
  unfold w_is_at_most
  try simp only [sSeq, sAsg, DL.gName, sRet, sRetN, sNext, sIf, sNever, sExpr, sFor, wVar, wC, wOp, wCall, wCons, wNil, wTup, wRol, wTest, wAnd, wOr, wNot, wAndT, wOrT, wNotT, wIf, wUn, gNeg, onB, gI0, gI, gAdd, DL.gSub, gMul_int, gFdiv, gMod, gPow, gShl, gShr, gLt, gLe, gGt, gGe, gEq_int, gNe_int, wChain, wChain3, sPar2, sPar3, DL.gTup, gsCons, gsNil, gInt, gIsN, gNotN, isN_non, isN_tup, isN_rol, isN_int, isN_str, isN_bl, isN_loc, wSl, wNo, wSo, gSl, gRep, gRepL, wDGet1, wDGet2, wInD, wListRg, wListRgL, wTupRg, wDctNew, wDGet2T, gAtT, wItD, wRevT, wFld, sFldS, sFldA, wMeth, wMake, wRg1, wRg2, wEnum, wZip, wRng3, wIt, wItA, wItT, wRng1, wRng2, wLc, wLcL, wLc2, wYes, wCallK, endsOf, List.set_cons_zero, List.set_cons_succ, List.getElem?_cons_zero, List.getElem?_cons_succ, if_true, if_false, Bool.false_eq_true, reduceIte, decide_eq_true_eq, wipeD, List.length_cons, List.length_nil, gIx, frD]
  refine ⟨_, rfl, _, rfl, m1, _, rfl, _, rfl, m2, ?_⟩
  try simp only [sSeq, sAsg, DL.gName, sRet, sRetN, sNext, sIf, sNever, sExpr, sFor, wVar, wC, wOp, wCall, wCons, wNil, wTup, wRol, wTest, wAnd, wOr, wNot, wAndT, wOrT, wNotT, wIf, wUn, gNeg, onB, gI0, gI, gAdd, DL.gSub, gMul_int, gFdiv, gMod, gPow, gShl, gShr, gLt, gLe, gGt, gGe, gEq_int, gNe_int, wChain, wChain3, sPar2, sPar3, DL.gTup, gsCons, gsNil, gInt, gIsN, gNotN, isN_non, isN_tup, isN_rol, isN_int, isN_str, isN_bl, isN_loc, wSl, wNo, wSo, gSl, gRep, gRepL, wDGet1, wDGet2, wInD, wListRg, wListRgL, wTupRg, wDctNew, wDGet2T, gAtT, wItD, wRevT, wFld, sFldS, sFldA, wMeth, wMake, wRg1, wRg2, wEnum, wZip, wRng3, wIt, wItA, wItT, wRng1, wRng2, wLc, wLcL, wLc2, wYes, wCallK, endsOf, List.set_cons_zero, List.set_cons_succ, List.getElem?_cons_zero, List.getElem?_cons_succ, if_true, if_false, Bool.false_eq_true, reduceIte, decide_eq_true_eq, wipeD, List.length_cons, List.length_nil]
  have e : decide (f ≤ g) = decide (f.num * (g.den : Int) ≤ g.num * (f.den : Int)) := by rw [decide_eq_decide]; exact rat_le f g
  rw [e] at q
  exact .inr q
/-- the number that the first k bits tell -/
def X (β : Nat → Int) : Nat → Int
  | 0 => 0
  | k + 1 => 2 * X β k + β k
theorem IsDeck.app {t : Int} {T S : Sto} (h : IsDeck t T S) (X : Sto) : IsDeck t (T ++ X) (S ++ X) := by
  obtain ⟨ns, m, t0, b1, b2, b3, b4, b5, rfl⟩ := h
  exact ⟨ns, m, t0, b1, b2, b3, b4, b5, by rw [List.append_assoc]⟩
theorem IsDeck.cut {t : Int} {T X S : Sto} (h : IsDeck t (T ++ X) S) : ∃ S0, S = S0 ++ X ∧ IsDeck t T S0 := by
  obtain ⟨ns, m, t0, b1, b2, b3, b4, b5, rfl⟩ := h
  exact ⟨deckS ns m t0 ++ T, by rw [List.append_assoc], ns, m, t0, b1, b2, b3, b4, b5, rfl⟩
theorem IsDeck.last {t : Int} {T S : Sto} {c : Cell} (h : IsDeck t (T ++ [c]) S) : S[T.length + 2]? = some c := by
  obtain ⟨S0, rfl, d⟩ := h.cut
  rw [← d.len]; simp
theorem IsDeck.put {t : Int} {T S : Sto} {c : Cell} (h : IsDeck t (T ++ [c]) S) (c' : Cell) : IsDeck t (T ++ [c']) (S.set (T.length + 2) c') := by
  obtain ⟨S0, rfl, d⟩ := h.cut
  rw [← d.len]
  have : (S0 ++ [c]).set S0.length c' = S0 ++ [c'] := by simp
  rw [this]
  exact d.app [c']
theorem sm_list (n : Nat) (f : Nat → Rat) : ((List.range n).map f).sum = sm n f := by
  induction n with
  | zero => rfl
  | succ n ih => rw [List.range_succ, List.map_append, List.sum_append, ih, sm]; simp [Rat.add_zero]
theorem sm_filter (n : Nat) (p : Nat → Bool) (f : Nat → Rat) : (((List.range n).filter p).map f).sum = sm n fun i => iteR (p i) (f i) := by
  induction n with
  | zero => rfl
  | succ n ih =>
    rw [List.range_succ, List.filter_append, List.map_append, List.sum_append, ih, sm]
    cases e : p n
    · simp [e, iteF, Rat.add_zero]
    · simp [e, iteT, Rat.add_zero]
theorem tsum (t : List Rat) : t.sum = sm t.length (gF t) := by
  rw [← sm_list]
  exact congrArg List.sum (tF_gF t).symm
theorem tF_sum (n : Nat) (f : Nat → Rat) : (tF n f).sum = sm n f := sm_list n f
theorem tab_mk {N n : Nat} {f : Nat → Rat} (n0 : 0 < N) (big : N ≤ 2 ^ 880) (n1 : 1 ≤ n) (n8 : n ≤ 8) (pos : ∀ i, i < n → 0 ≤ f i) (one : sm n f = 1) (nth : ∀ i, i < n → Nth N (f i)) : Tab N n (tF n f) := by
  refine ⟨n0, big, n1, n8, tF_len n f, fun p hp => ?_, by rw [tF_sum, one], fun p hp => ?_⟩
  all_goals
    obtain ⟨i, hi, rfl⟩ := List.mem_map.mp hp
    have hi := List.mem_range.mp hi
  · exact pos i hi
  · exact nth i hi
theorem Tab.one {N n : Nat} {t : List Rat} (h : Tab N n t) : sm n (gF t) = 1 := by rw [← h.len, ← tsum, h.sum]
/-- what is picked out of a table adds up to at most 1 -/
theorem pick_ok {N n : Nat} {t : List Rat} (ok : Tab N n t) (p : Nat → Bool) : 0 ≤ (sm n fun i => iteR (p i) (gF t i)) ∧ (sm n fun i => iteR (p i) (gF t i)) ≤ 1 ∧ Nth N (sm n fun i => iteR (p i) (gF t i)) := by
  refine ⟨sm_nonneg fun i hi => ite_pos _ (ok.at0 hi), ?_, sm_nth ok.n0 fun i hi => ite_nth _ (ok.atN hi)⟩
  rw [← ok.one]
  exact sm_le fun i hi => ite_le _ (ok.at0 hi)
theorem chF_ok {N n : Nat} {t : List Rat} (ok : Tab N n t) (p : Nat → Bool) : 0 ≤ chF t p ∧ chF t p ≤ 1 ∧ Nth N (chF t p) := by
  have := pick_ok ok p
  rw [← ok.len] at this
  exact this
theorem chF_small {N n : Nat} {t : List Rat} (ok : Tab N n t) (p : Nat → Bool) : smallR (chF t p) := by
  obtain ⟨a, b, c⟩ := chF_ok ok p
  exact small_share a b (big880 (Nat.le_trans (c.den ok.n0) ok.big))
theorem renF_tab {N n k : Nat} {t : List Rat} {ns : List Nat} (ok : Tab N n t) (h : ∀ i, i < n → ns.getD i 0 < k) (k8 : k ≤ 8) : Tab N k (renF t ns k) := by
  have k1 : 1 ≤ k := by have := h 0 ok.n1; omega
  unfold renF
  rw [ok.len]
  refine tab_mk ok.n0 ok.big k1 k8 (fun j _ => sm_nonneg fun i hi => ite_pos _ (ok.at0 hi)) ?_ fun j _ => sm_nth ok.n0 fun i hi => ite_nth _ (ok.atN hi)
  refine (sm_comm k n fun j i => iteR (decide (ns.getD i 0 = j)) (gF t i)).trans ?_
  rw [← ok.one]
  exact sm_congr fun i hi => sm_one' (h i hi) fun _ => gF t i
theorem besF_tab {N n M m : Nat} {a b : List Rat} (oa : Tab N n a) (ob : Tab M m b) (h : n * m ≤ 8) (hN : N * M ≤ 2 ^ 880) : Tab (N * M) (n * m) (besF a b) := by
  unfold besF
  rw [oa.len, ob.len]
  refine tab_mk (Nat.mul_pos oa.n0 ob.n0) hN (Nat.mul_pos oa.n1 ob.n1) h (fun k hk => Rat.mul_nonneg (oa.at0 (bes_pos hk).1) (ob.at0 (bes_pos hk).2)) ?_ fun k hk => (oa.atN (bes_pos hk).1).mul oa.n0 ob.n0 (ob.atN (bes_pos hk).2)
  rw [sm_prod n m fun i j => gF a i * gF b j]
  rw [← oa.one]
  refine sm_congr fun i _ => ?_
  rw [sm_mul, ob.one, Rat.mul_one]
theorem sums_in {t : List Rat} (h : ∀ p ∈ t, 0 ≤ p) : ∀ k, 0 ≤ (t.take k).sum ∧ (t.take k).sum ≤ t.sum := by
  induction t with
  | nil => intro k; simp
  | cons p t ih =>
    intro k
    have hp := h p List.mem_cons_self
    have iht := ih (fun x hx => h x (List.mem_cons_of_mem _ hx))
    cases k with
    | zero =>
      have := (iht t.length)
      rw [List.take_length] at this
      simp only [List.take_zero, List.sum_nil, List.sum_cons]
      grind
    | succ k =>
      have := iht k
      simp only [List.take_succ_cons, List.sum_cons]
      grind
theorem one_in {t : List Rat} (h : ∀ p ∈ t, 0 ≤ p) {p : Rat} (hp : p ∈ t) : p ≤ t.sum := by
  induction t with
  | nil => cases hp
  | cons x t ih =>
    have h0 := h x List.mem_cons_self
    have h1 := (sums_in (t := t) (fun x hx => h x (List.mem_cons_of_mem _ hx)) t.length)
    rw [List.take_length] at h1
    rw [List.sum_cons]
    rcases List.mem_cons.mp hp with rfl | hp
    · grind
    · have := ih (fun x hx => h x (List.mem_cons_of_mem _ hx)) hp
      grind
theorem sums_nth {N : Nat} (hN : 0 < N) {t : List Rat} (h : ∀ p ∈ t, Nth N p) : Nth N t.sum := by
  induction t with
  | nil => exact Nth.zero
  | cons p t ih =>
    rw [List.sum_cons]
    exact Nth.add hN (h p List.mem_cons_self) (ih fun x hx => h x (List.mem_cons_of_mem _ hx))
/-- a row of N-ths that are at most 1 together can be added up -/
theorem sum_ok {N : Nat} (hN : 0 < N) (hb : N ≤ 2 ^ 880) {fs : List Rat} (h0 : ∀ f ∈ fs, 0 ≤ f) (hn : ∀ f ∈ fs, Nth N f) (h1 : fs.sum ≤ 1) (hl : fs.length ≤ 8) : SumOk fs := by
  refine ⟨fun f hf => ?_, fun k => ?_, by omega⟩
  · exact small_share (h0 f hf) (Rat.le_trans (one_in h0 hf) h1) (big880 (Nat.le_trans ((hn f hf).den hN) hb))
  · obtain ⟨a, b⟩ := sums_in h0 k
    exact small_share a (Rat.le_trans b h1) (big880 (Nat.le_trans ((sums_nth hN fun f hf => hn f (List.mem_of_mem_take hf)).den hN) hb))
theorem Tab.sumOk {N n : Nat} {t : List Rat} (h : Tab N n t) : SumOk t := sum_ok h.n0 h.big h.pos h.nth (by rw [h.sum]; exact Rat.le_refl) (by rw [h.len]; exact h.n8)
theorem Tab.small {N n : Nat} {t : List Rat} (h : Tab N n t) {p : Rat} (hp : p ∈ t) : smallR p := h.sumOk.1 p hp
theorem Tab.smallF {N n : Nat} {t : List Rat} (h : Tab N n t) {i : Nat} (hi : i < n) : smallR (gF t i) := h.small (gF_mem (by rw [h.len]; exact hi))
theorem spec_beside : ∀ ds S Q, CloS S → Bels S.length ds → c_beside ds S Q → w_beside (endsOf S.length Q) (startD N_beside ds) S := by
  rintro _ S Q hc hb ⟨N, n, M, m, a, b, rfl, oa, ob, nm, hN, q⟩
  have al := oa.len
  have bl := ob.len
  rw [st_beside]
  unfold w_beside
  refine seq_k fun k1 hk1 => ?_
  try simp only [sAsg, DL.gName, sRet, sRetN, sNext, sIf, sNever, sExpr, sFor, wVar, wC, wOp, wCall, wCons, wNil, wTup, wRol, wTest, wAnd, wOr, wNot, wAndT, wOrT, wNotT, wIf, wUn, gNeg, onB, gI0, gI, gAdd, DL.gSub, gMul_int, gFdiv, gMod, gPow, gShl, gShr, gLt, gLe, gGt, gGe, gEq_int, gNe_int, wChain, wChain3, sPar2, sPar3, DL.gTup, gsCons, gsNil, gInt, gIsN, gNotN, isN_non, isN_tup, isN_rol, isN_int, isN_str, isN_bl, isN_loc, wSl, wNo, wSo, gSl, gRep, gRepL, wDGet1, wDGet2, wInD, wListRg, wListRgL, wTupRg, wDctNew, wDGet2T, gAtT, wItD, wRevT, wFld, sFldS, sFldA, wMeth, wMake, wRg1, wRg2, wEnum, wZip, wRng3, wIt, wItA, wItT, wRng1, wRng2, wLc, wLcL, wLc2, wYes, wCallK, endsOf, List.set_cons_zero, List.set_cons_succ, List.getElem?_cons_zero, List.getElem?_cons_succ, if_true, if_false, Bool.false_eq_true, reduceIte, decide_eq_true_eq, wipeD, List.length_cons, List.length_nil]
  refine ⟨N, n, a, rfl, oa, hk1 _ _ (seq_k fun k2 hk2 => ?_)⟩
  clear hk1
  try simp only [sAsg, DL.gName, sRet, sRetN, sNext, sIf, sNever, sExpr, sFor, wVar, wC, wOp, wCall, wCons, wNil, wTup, wRol, wTest, wAnd, wOr, wNot, wAndT, wOrT, wNotT, wIf, wUn, gNeg, onB, gI0, gI, gAdd, DL.gSub, gMul_int, gFdiv, gMod, gPow, gShl, gShr, gLt, gLe, gGt, gGe, gEq_int, gNe_int, wChain, wChain3, sPar2, sPar3, DL.gTup, gsCons, gsNil, gInt, gIsN, gNotN, isN_non, isN_tup, isN_rol, isN_int, isN_str, isN_bl, isN_loc, wSl, wNo, wSo, gSl, gRep, gRepL, wDGet1, wDGet2, wInD, wListRg, wListRgL, wTupRg, wDctNew, wDGet2T, gAtT, wItD, wRevT, wFld, sFldS, sFldA, wMeth, wMake, wRg1, wRg2, wEnum, wZip, wRng3, wIt, wItA, wItT, wRng1, wRng2, wLc, wLcL, wLc2, wYes, wCallK, endsOf, List.set_cons_zero, List.set_cons_succ, List.getElem?_cons_zero, List.getElem?_cons_succ, if_true, if_false, Bool.false_eq_true, reduceIte, decide_eq_true_eq, wipeD, List.length_cons, List.length_nil]
  refine ⟨M, m, b, rfl, ob, hk2 _ _ (seq_k fun k3 hk3 => ?_)⟩
  clear hk2
  have n8 := oa.n8
  have m8 := ob.n8
  have em : ((a.length : Int) * (b.length : Int)) = ((n * m : Nat) : Int) := by rw [al, bl, Int.natCast_mul]
  try simp only [sAsg, DL.gName, sRet, sRetN, sNext, sIf, sNever, sExpr, sFor, wVar, wC, wOp, wCall, wCons, wNil, wTup, wRol, wTest, wAnd, wOr, wNot, wAndT, wOrT, wNotT, wIf, wUn, gNeg, onB, gI0, gI, gAdd, DL.gSub, gMul_int, gFdiv, gMod, gPow, gShl, gShr, gLt, gLe, gGt, gGe, gEq_int, gNe_int, wChain, wChain3, sPar2, sPar3, DL.gTup, gsCons, gsNil, gInt, gIsN, gNotN, isN_non, isN_tup, isN_rol, isN_int, isN_str, isN_bl, isN_loc, wSl, wNo, wSo, gSl, gRep, gRepL, wDGet1, wDGet2, wInD, wListRg, wListRgL, wTupRg, wDctNew, wDGet2T, gAtT, wItD, wRevT, wFld, sFldS, sFldA, wMeth, wMake, wRg1, wRg2, wEnum, wZip, wRng3, wIt, wItA, wItT, wRng1, wRng2, wLc, wLcL, wLc2, wYes, wCallK, endsOf, List.set_cons_zero, List.set_cons_succ, List.getElem?_cons_zero, List.getElem?_cons_succ, if_true, if_false, Bool.false_eq_true, reduceIte, decide_eq_true_eq, wipeD, List.length_cons, List.length_nil, gLen, tabD, List.length_map]
  refine ⟨mulOk (by omega) (by omega) (by omega) (by omega), ?_⟩
  rw [em, if_neg (by omega)]
  refine hk3 _ _ ?_
  clear hk3
  have ef : (a.map fun x => b.map fun y => frD (x * y)).flatten = (besF a b).map frD := by
    rw [bes_flat, List.map_flatten, List.map_map]
    congr 1
    refine List.map_congr_left fun x _ => ?_
    show _ = (b.map fun y => x * y).map frD
    rw [List.map_map]; rfl
  have el : ((a.map fun x => b.map fun y => frD (x * y)).flatten).length = n * m := by
    rw [ef, List.length_map]
    unfold besF
    rw [tF_len, al, bl]
  try simp only [sSeq, sAsg, DL.gName, sRet, sRetN, sNext, sIf, sNever, sExpr, sFor, wVar, wC, wOp, wCall, wCons, wNil, wTup, wRol, wTest, wAnd, wOr, wNot, wAndT, wOrT, wNotT, wIf, wUn, gNeg, onB, gI0, gI, gAdd, DL.gSub, gMul_int, gFdiv, gMod, gPow, gShl, gShr, gLt, gLe, gGt, gGe, gEq_int, gNe_int, wChain, wChain3, sPar2, sPar3, DL.gTup, gsCons, gsNil, gInt, gIsN, gNotN, isN_non, isN_tup, isN_rol, isN_int, isN_str, isN_bl, isN_loc, wSl, wNo, wSo, gSl, gRep, gRepL, wDGet1, wDGet2, wInD, wListRg, wListRgL, wTupRg, wDctNew, wDGet2T, gAtT, wItD, wRevT, wFld, sFldS, sFldA, wMeth, wMake, wRg1, wRg2, wEnum, wZip, wRng3, wIt, wItA, wItT, wRng1, wRng2, wLc, wLcL, wLc2, wYes, wCallK, endsOf, List.set_cons_zero, List.set_cons_succ, List.getElem?_cons_zero, List.getElem?_cons_succ, if_true, if_false, Bool.false_eq_true, reduceIte, decide_eq_true_eq, wipeD, List.length_cons, List.length_nil, gTupOf]
  refine wLc2_map frD (fun x => b.map fun y => frD (x * y)) a gd0 (fun x hx acc k hl hk => ?_) ?_
  · try simp only [sAsg, DL.gName, sRet, sRetN, sNext, sIf, sNever, sExpr, sFor, wVar, wC, wOp, wCall, wCons, wNil, wTup, wRol, wTest, wAnd, wOr, wNot, wAndT, wOrT, wNotT, wIf, wUn, gNeg, onB, gI0, gI, gAdd, DL.gSub, gMul_int, gFdiv, gMod, gPow, gShl, gShr, gLt, gLe, gGt, gGe, gEq_int, gNe_int, wChain, wChain3, sPar2, sPar3, DL.gTup, gsCons, gsNil, gInt, gIsN, gNotN, isN_non, isN_tup, isN_rol, isN_int, isN_str, isN_bl, isN_loc, wSl, wNo, wSo, gSl, gRep, gRepL, wDGet1, wDGet2, wInD, wListRg, wListRgL, wTupRg, wDctNew, wDGet2T, gAtT, wItD, wRevT, wFld, sFldS, sFldA, wMeth, wMake, wRg1, wRg2, wEnum, wZip, wRng3, wRng1, wRng2, wYes, wCallK, endsOf, List.set_cons_zero, List.set_cons_succ, List.getElem?_cons_zero, List.getElem?_cons_succ, if_true, if_false, Bool.false_eq_true, reduceIte, decide_eq_true_eq, wipeD, List.length_cons, List.length_nil]
    refine wLcGo_map frD (fun y => frD (x * y)) gd0 b acc (fun y hy k2 y1 => ?_) ?_ hk
    · try simp only [sAsg, DL.gName, sRet, sRetN, sNext, sIf, sNever, sExpr, sFor, wVar, wC, wOp, wCall, wCons, wNil, wTup, wRol, wTest, wAnd, wOr, wNot, wAndT, wOrT, wNotT, wIf, wUn, gNeg, onB, gI0, gI, gAdd, DL.gSub, gMul_int, gFdiv, gMod, gPow, gShl, gShr, gLt, gLe, gGt, gGe, gEq_int, gNe_int, wChain, wChain3, sPar2, sPar3, DL.gTup, gsCons, gsNil, gInt, gIsN, gNotN, isN_non, isN_tup, isN_rol, isN_int, isN_str, isN_bl, isN_loc, wSl, wNo, wSo, gSl, gRep, gRepL, wDGet1, wDGet2, wInD, wListRg, wListRgL, wTupRg, wDctNew, wDGet2T, gAtT, wItD, wRevT, wFld, sFldS, sFldA, wMeth, wMake, wRg1, wRg2, wEnum, wZip, wRng3, wIt, wItA, wItT, wRng1, wRng2, wLc, wLcL, wLc2, wYes, wCallK, endsOf, List.set_cons_zero, List.set_cons_succ, List.getElem?_cons_zero, List.getElem?_cons_succ, if_true, if_false, Bool.false_eq_true, reduceIte, decide_eq_true_eq, wipeD, List.length_cons, List.length_nil]
      exact ⟨x, y, rfl, oa.small hx, ob.small hy, y1⟩
    · rw [List.length_map] at hl
      exact le1000 (by omega)
  rw [ef]
  exact ⟨_, rfl, .inr q⟩
theorem Tab.le1 {N n : Nat} {t : List Rat} (h : Tab N n t) {i : Nat} (hi : i < n) : gF t i ≤ 1 := by
  have := one_in h.pos (gF_mem (t := t) (i := i) (by rw [h.len]; exact hi))
  rw [h.sum] at this
  exact this
theorem Mix.term {N n M m : Nat} {t : List Rat} {ts : List (List Rat)} (h : Mix N n M m t ts) {i j : Nat} (hj : j < n) (hi : i < m) :
    0 ≤ gF t j * gF (ts.getD j []) i ∧ gF t j * gF (ts.getD j []) i ≤ gF t j ∧ Nth (N * M) (gF t j * gF (ts.getD j []) i) := by
  have a := h.ok.at0 hj
  have b := (h.at hj).at0 hi
  have c := (h.at hj).le1 hi
  refine ⟨Rat.mul_nonneg a b, ?_, (h.ok.atN hj).mul h.ok.n0 (h.at hj).n0 ((h.at hj).atN hi)⟩
  have := Rat.mul_le_mul_of_nonneg_left c a
  rw [Rat.mul_one] at this
  exact this
theorem Mix.sum {N n M m : Nat} {t : List Rat} {ts : List (List Rat)} (h : Mix N n M m t ts) {i : Nat} (hi : i < m) :
    0 ≤ (sm n fun j => gF t j * gF (ts.getD j []) i) ∧ (sm n fun j => gF t j * gF (ts.getD j []) i) ≤ 1 ∧ Nth (N * M) (sm n fun j => gF t j * gF (ts.getD j []) i) := by
  have p0 : 0 < N * M := Nat.mul_pos h.ok.n0 h.m0.n0
  refine ⟨sm_nonneg fun j hj => (h.term hj hi).1, ?_, sm_nth p0 fun j hj => (h.term hj hi).2.2⟩
  rw [← h.ok.one]
  exact sm_le fun j hj => (h.term hj hi).2.1
theorem spec_is_table_value : ∀ ds S Q, CloS S → Bels S.length ds → c_is_table_value ds S Q → w_is_table_value (endsOf S.length Q) (startD N_is_table_value ds) S := by
  rintro _ S Q hc hb ⟨N, n, t, rfl, ok, q⟩
  rw [st_is_table_value]
  unfold w_is_table_value
  refine seq_k fun k1 hk1 => ?_
  try simp only [sAsg, DL.gName, sRet, sRetN, sNext, sIf, sNever, sExpr, sFor, wVar, wC, wOp, wCall, wCons, wNil, wTup, wRol, wTest, wAnd, wOr, wNot, wAndT, wOrT, wNotT, wIf, wUn, gNeg, onB, gI0, gI, gAdd, DL.gSub, gMul_int, gFdiv, gMod, gPow, gShl, gShr, gLt, gLe, gGt, gGe, gEq_int, gNe_int, wChain, wChain3, sPar2, sPar3, DL.gTup, gsCons, gsNil, gInt, gIsN, gNotN, isN_non, isN_tup, isN_rol, isN_int, isN_str, isN_bl, isN_loc, wSl, wNo, wSo, gSl, gRep, gRepL, wDGet1, wDGet2, wInD, wListRg, wListRgL, wTupRg, wDctNew, wDGet2T, gAtT, wItD, wRevT, wFld, sFldS, sFldA, wMeth, wMake, wRg1, wRg2, wEnum, wZip, wRng3, wIt, wItA, wItT, wRng1, wRng2, wLc, wLcL, wLc2, wYes, wCallK, endsOf, List.set_cons_zero, List.set_cons_succ, List.getElem?_cons_zero, List.getElem?_cons_succ, if_true, if_false, Bool.false_eq_true, reduceIte, decide_eq_true_eq, wipeD, List.length_cons, List.length_nil, gIsi, gLen, gAll, tabD, List.length_map]
  have hl := ok.len
  have n1 := ok.n1
  have n2 := ok.n8
  refine ⟨"tuple", rfl, by decide, ?_⟩
  rw [if_neg (by decide), if_pos (by omega)]
  rw [decide_eq_true (by omega)]
  refine wLc_map frD (fun _ => .bl true) t gd0 (le1000 (by omega)) (fun x hx k k0 hk => ⟨x, rfl, ok.pos x hx, hk⟩) ?_
  refine ⟨_, _, t.map fun _ => true, rfl, rfl, ?_, ?_⟩
  · have := bools_map (t.map fun _ => true)
    rw [List.map_map] at this
    exact this
  rw [if_neg (by simp)]
  refine hk1 _ _ ?_
  try simp only [sSeq, sAsg, DL.gName, sRet, sRetN, sNext, sIf, sNever, sExpr, sFor, wVar, wC, wOp, wCall, wCons, wNil, wTup, wRol, wTest, wAnd, wOr, wNot, wAndT, wOrT, wNotT, wIf, wUn, gNeg, onB, gI0, gI, gAdd, DL.gSub, gMul_int, gFdiv, gMod, gPow, gShl, gShr, gLt, gLe, gGt, gGe, gEq_int, gNe_int, wChain, wChain3, sPar2, sPar3, DL.gTup, gsCons, gsNil, gInt, gIsN, gNotN, isN_non, isN_tup, isN_rol, isN_int, isN_str, isN_bl, isN_loc, wSl, wNo, wSo, gSl, gRep, gRepL, wDGet1, wDGet2, wInD, wListRg, wListRgL, wTupRg, wDctNew, wDGet2T, gAtT, wItD, wRevT, wFld, sFldS, sFldA, wMeth, wMake, wRg1, wRg2, wEnum, wZip, wRng3, wIt, wItA, wItT, wRng1, wRng2, wLc, wLcL, wLc2, wYes, wCallK, endsOf, List.set_cons_zero, List.set_cons_succ, List.getElem?_cons_zero, List.getElem?_cons_succ, if_true, if_false, Bool.false_eq_true, reduceIte, decide_eq_true_eq, wipeD, List.length_cons, List.length_nil]
  refine ⟨t, .inl rfl, ok.sumOk, ?_⟩
  rw [ok.sum]
  exact gEq_at (frD 1) (frD 1) true rfl rfl rfl rfl (by decide) (by decide) (by simp) (.inr q)
theorem sum_ge0 : ∀ {ps : List Int}, (∀ x ∈ ps, 0 ≤ x) → 0 ≤ ps.sum
  | [], _ => by simp
  | p :: ps, h => by
    have := sum_ge0 (ps := ps) fun x hx => h x (List.mem_cons_of_mem _ hx)
    have := h p List.mem_cons_self
    rw [List.sum_cons]; omega
theorem mem_le_sum : ∀ {xs : List Int}, (∀ x ∈ xs, 0 ≤ x) → ∀ {u : Int}, u ∈ xs → u ≤ xs.sum
  | x :: xs, h, u, hu => by
    have h0 := sum_ge0 (ps := xs) fun y hy => h y (List.mem_cons_of_mem _ hy)
    have hx := h x List.mem_cons_self
    rw [List.sum_cons]
    rcases List.mem_cons.mp hu with rfl | hu
    · omega
    · have := mem_le_sum (fun y hy => h y (List.mem_cons_of_mem _ hy)) hu
      omega
theorem sum_le_all {c : Int} : ∀ {xs : List Int}, (∀ x ∈ xs, x ≤ c) → xs.sum ≤ xs.length * c
  | [], _ => by simp
  | x :: xs, h => by
    have := sum_le_all (xs := xs) fun y hy => h y (List.mem_cons_of_mem _ hy)
    have := h x List.mem_cons_self
    rw [List.sum_cons, List.length_cons, Int.natCast_add, Int.add_mul]
    omega
theorem spec_l_parts : ∀ ds S Q, CloS S → Bels S.length ds → c_l_parts ds S Q → w_l_parts (endsOf S.length Q) (startD N_l_parts ds) S := by
  rintro _ S Q hc hb ⟨n, w, t, T, rfl, n1, n8, hw, hk, ht, q⟩
  have hS := hk.len
  obtain ⟨xs, e1, e2, e3, e4⟩ := some_rows hw
  rw [st_l_parts]
  unfold w_l_parts
  refine seq_k fun k1 hk1 => ?_
  try simp only [sAsg, DL.gName, sRet, sRetN, sNext, sIf, sNever, sExpr, sFor, wVar, wC, wOp, wCall, wCons, wNil, wTup, wRol, wTest, wAnd, wOr, wNot, wAndT, wOrT, wNotT, wIf, wUn, gNeg, onB, gI0, gI, gAdd, DL.gSub, gMul_int, gFdiv, gMod, gPow, gShl, gShr, gLt, gLe, gGt, gGe, gEq_int, gNe_int, wChain, wChain3, sPar2, sPar3, DL.gTup, gsCons, gsNil, gInt, gIsN, gNotN, isN_non, isN_tup, isN_rol, isN_int, isN_str, isN_bl, isN_loc, wSl, wNo, wSo, gSl, gRep, gRepL, wDGet1, wDGet2, wInD, wListRg, wListRgL, wTupRg, wDctNew, wDGet2T, gAtT, wItD, wRevT, wFld, sFldS, sFldA, wMeth, wMake, wRg1, wRg2, wEnum, wZip, wRng3, wIt, wItA, wItT, wRng1, wRng2, wLc, wLcL, wLc2, wYes, wCallK, endsOf, List.set_cons_zero, List.set_cons_succ, List.getElem?_cons_zero, List.getElem?_cons_succ, if_true, if_false, Bool.false_eq_true, reduceIte, decide_eq_true_eq, wipeD, List.length_cons, List.length_nil]
  refine ⟨le1000 (by decide), le1000 (by decide), le1000 (by decide), le1000 (by decide), ⟨by decide, by decide, by decide⟩, ⟨by decide, by decide, by decide⟩, le1000 (by decide), le1000 (by decide), ?_⟩
  try simp only [sAsg, DL.gName, sRet, sRetN, sNext, sIf, sNever, sExpr, sFor, wVar, wC, wOp, wCall, wCons, wNil, wTup, wRol, wTest, wAnd, wOr, wNot, wAndT, wOrT, wNotT, wIf, wUn, gNeg, onB, gI0, gI, gAdd, DL.gSub, gMul_int, gFdiv, gMod, gPow, gShl, gShr, gLt, gLe, gGt, gGe, gEq_int, gNe_int, wChain, wChain3, sPar2, sPar3, DL.gTup, gsCons, gsNil, gInt, gIsN, gNotN, isN_non, isN_tup, isN_rol, isN_int, isN_str, isN_bl, isN_loc, wSl, wNo, wSo, gSl, gRep, gRepL, wDGet1, wDGet2, wInD, wListRg, wListRgL, wTupRg, wDctNew, wDGet2T, gAtT, wItD, wRevT, wFld, sFldS, sFldA, wMeth, wMake, wRg1, wRg2, wEnum, wZip, wRng3, wIt, wItA, wItT, wRng1, wRng2, wLc, wLcL, wLc2, wYes, wCallK, endsOf, List.set_cons_zero, List.set_cons_succ, List.getElem?_cons_zero, List.getElem?_cons_succ, if_true, if_false, Bool.false_eq_true, reduceIte, decide_eq_true_eq, wipeD, List.length_cons, List.length_nil, gIx]
  refine ⟨_, _, rfl, e1, hk1 _ _ (seq_k fun k2 hk2 => ?_)⟩
  clear hk1
  try simp only [sAsg, DL.gName, sRet, sRetN, sNext, sIf, sNever, sExpr, sFor, wVar, wC, wOp, wCall, wCons, wNil, wTup, wRol, wTest, wAnd, wOr, wNot, wAndT, wOrT, wNotT, wIf, wUn, gNeg, onB, gI0, gI, gAdd, DL.gSub, gMul_int, gFdiv, gMod, gPow, gShl, gShr, gLt, gLe, gGt, gGe, gEq_int, gNe_int, wChain, wChain3, sPar2, sPar3, DL.gTup, gsCons, gsNil, gInt, gIsN, gNotN, isN_non, isN_tup, isN_rol, isN_int, isN_str, isN_bl, isN_loc, wSl, wNo, wSo, gSl, gRep, gRepL, wDGet1, wDGet2, wInD, wListRg, wListRgL, wTupRg, wDctNew, wDGet2T, gAtT, wItD, wRevT, wFld, sFldS, sFldA, wMeth, wMake, wRg1, wRg2, wEnum, wZip, wRng3, wIt, wItA, wItT, wRng1, wRng2, wLc, wLcL, wLc2, wYes, wCallK, endsOf, List.set_cons_zero, List.set_cons_succ, List.getElem?_cons_zero, List.getElem?_cons_succ, if_true, if_false, Bool.false_eq_true, reduceIte, decide_eq_true_eq, wipeD, List.length_cons, List.length_nil]
  refine ⟨n, rfl, by omega, by omega, ?_⟩
  rw [Int.toNat_natCast]
  refine wLc_inv (fun i acc S' => ∃ ps : List Int, acc = ps.map D.int ∧ ps.length = i ∧ (∀ x ∈ ps, 0 ≤ x ∧ x ≤ 10 ^ 12) ∧ IsDeck (t + i) T S') _ ⟨[], rfl, rfl, (fun _ z => nomatch z), by simpa using hk⟩ ?_ ?_
  · rintro i d k hd hk' _ S' ⟨ps, rfl, hl, hp, kd⟩
    obtain ⟨hi, rfl⟩ := intsD_get hd
    refine ⟨gd0, ?_⟩
    try simp only [sAsg, DL.gName, sRet, sRetN, sNext, sIf, sNever, sExpr, sFor, wVar, wC, wOp, wCall, wCons, wNil, wTup, wRol, wTest, wAnd, wOr, wNot, wAndT, wOrT, wNotT, wIf, wUn, gNeg, onB, gI0, gI, gAdd, DL.gSub, gMul_int, gFdiv, gMod, gPow, gShl, gShr, gLt, gLe, gGt, gGe, gEq_int, gNe_int, wChain, wChain3, sPar2, sPar3, DL.gTup, gsCons, gsNil, gInt, gIsN, gNotN, isN_non, isN_tup, isN_rol, isN_int, isN_str, isN_bl, isN_loc, wSl, wNo, wSo, gSl, gRep, gRepL, wDGet1, wDGet2, wInD, wListRg, wListRgL, wTupRg, wDctNew, wDGet2T, gAtT, wItD, wRevT, wFld, sFldS, sFldA, wMeth, wMake, wRg1, wRg2, wEnum, wZip, wRng3, wIt, wItA, wItT, wRng1, wRng2, wLc, wLcL, wLc2, wYes, wCallK, endsOf, List.set_cons_zero, List.set_cons_succ, List.getElem?_cons_zero, List.getElem?_cons_succ, if_true, if_false, Bool.false_eq_true, reduceIte, decide_eq_true_eq, wipeD, List.length_cons, List.length_nil]
    refine ⟨xs, t + i, T, rfl, e2, e3, kd, by omega, fun x S2 hx k2 => ⟨by rw [List.length_map]; exact small1000 (by omega), hk' _ _ ⟨ps ++ [x], by simp, by simp [hl], fun y hy => ?_, by rw [show t + ((i + 1 : Nat) : Int) = t + i + 1 by omega]; exact k2⟩⟩⟩
    rcases List.mem_append.mp hy with hy | hy
    · exact hp y hy
    · rw [List.mem_singleton.mp hy]; exact e4 x hx
  rintro _ S1 ⟨ps, rfl, hl, hp, d1⟩
  rw [intsD_len] at hl d1
  have hS1 : S1.length = S.length := by rw [d1.len, hS]
  refine ⟨gd0, hk2 _ _ ?_⟩
  clear hk2
  have d2 := (d1.le (show t + n ≤ t + 8 by omega)).app [.lst (ps.map D.int)]
  have at1 : (S1 ++ [Cell.lst (ps.map D.int)])[S1.length]? = some (.lst (ps.map D.int)) := by simp
  have rd1 : rdL (S1 ++ [Cell.lst (ps.map D.int)]) (.loc S1.length) = some (ps.map D.int) := by
    show cellL _ = _
    rw [at1]; rfl
  try simp only [sSeq, sAsg, DL.gName, sRet, sRetN, sNext, sIf, sNever, sExpr, sFor, wVar, wC, wOp, wCall, wCons, wNil, wTup, wRol, wTest, wAnd, wOr, wNot, wAndT, wOrT, wNotT, wIf, wUn, gNeg, onB, gI0, gI, gAdd, DL.gSub, gMul_int, gFdiv, gMod, gPow, gShl, gShr, gLt, gLe, gGt, gGe, gEq_int, gNe_int, wChain, wChain3, sPar2, sPar3, DL.gTup, gsCons, gsNil, gInt, gIsN, gNotN, isN_non, isN_tup, isN_rol, isN_int, isN_str, isN_bl, isN_loc, wSl, wNo, wSo, gSl, gRep, gRepL, wDGet1, wDGet2, wInD, wListRg, wListRgL, wTupRg, wDctNew, wDGet2T, gAtT, wItD, wRevT, wFld, sFldS, sFldA, wMeth, wMake, wRg1, wRg2, wEnum, wZip, wRng3, wIt, wItA, wItT, wRng1, wRng2, wLc, wLcL, wLc2, wYes, wCallK, endsOf, List.set_cons_zero, List.set_cons_succ, List.getElem?_cons_zero, List.getElem?_cons_succ, if_true, if_false, Bool.false_eq_true, reduceIte, decide_eq_true_eq, wipeD, List.length_cons, List.length_nil]
  refine ⟨_, _, ps, rfl, rd1, intsOf_map ps, by omega, fun m hm hmax => ?_⟩
  try simp only [sSeq, sAsg, DL.gName, sRet, sRetN, sNext, sIf, sNever, sExpr, sFor, wVar, wC, wOp, wCall, wCons, wNil, wTup, wRol, wTest, wAnd, wOr, wNot, wAndT, wOrT, wNotT, wIf, wUn, gNeg, onB, gI0, gI, gAdd, DL.gSub, gMul_int, gFdiv, gMod, gPow, gShl, gShr, gLt, gLe, gGt, gGe, gEq_int, gNe_int, wChain, wChain3, sPar2, sPar3, DL.gTup, gsCons, gsNil, gInt, gIsN, gNotN, isN_non, isN_tup, isN_rol, isN_int, isN_str, isN_bl, isN_loc, wSl, wNo, wSo, gSl, gRep, gRepL, wDGet1, wDGet2, wInD, wListRg, wListRgL, wTupRg, wDctNew, wDGet2T, gAtT, wItD, wRevT, wFld, sFldS, sFldA, wMeth, wMake, wRg1, wRg2, wEnum, wZip, wRng3, wIt, wItA, wItT, wRng1, wRng2, wLc, wLcL, wLc2, wYes, wCallK, endsOf, List.set_cons_zero, List.set_cons_succ, List.getElem?_cons_zero, List.getElem?_cons_succ, if_true, if_false, Bool.false_eq_true, reduceIte, decide_eq_true_eq, wipeD, List.length_cons, List.length_nil]
  by_cases h0 : 0 < m
  · rw [if_pos h0]
    refine .inr ?_
    have := q ps _ [] hl hp ?_ (by rw [List.append_nil]; exact d2)
    · rw [List.append_nil] at this
      rw [d1.len]
      exact this
    · have := mem_le_sum (fun x hx => (hp x hx).1) hm
      omega
  · rw [if_neg h0]
    have ec : DL.cutD (ps.map D.int) (some 1) none = (ps.drop 1).map D.int := by
      rw [show (1 : Int) = ((1 : Nat) : Int) from rfl, cutD_from (by rw [List.length_map]; omega), List.map_drop]
    refine ⟨le1000 (by decide), _, rd1, ?_⟩
    rw [ec]
    refine ⟨[.int 1], _, rfl, rfl, le1000 (by simp; omega), .inr ?_⟩
    have e6 : ([D.int 1] ++ (ps.drop 1).map D.int) = (1 :: ps.drop 1).map D.int := rfl
    rw [e6]
    have lc : (S1 ++ [Cell.lst (ps.map D.int)]).length = (T ++ [Cell.lst (ps.map D.int)]).length + 2 := by rw [d2.len]
    rw [lc]
    refine q (1 :: ps.drop 1) _ [.lst (ps.map D.int)] (by simp; omega) (fun x hx => ?_) ?_ (d2.app [.lst ((1 :: ps.drop 1).map D.int)])
    · rcases List.mem_cons.mp hx with rfl | hx
      · decide
      · exact hp x (List.mem_of_mem_drop hx)
    · have := sum_ge0 (ps := ps.drop 1) fun x hx => (hp x (List.mem_of_mem_drop hx)).1
      rw [List.sum_cons]; omega
theorem mk_sum {B : Nat} (hB : 0 < B) : ∀ xs : List Int, (xs.map fun x => mkRat x B).sum = mkRat xs.sum B
  | [] => by simp
  | x :: xs => by
    rw [List.map_cons, List.sum_cons, mk_sum hB xs, List.sum_cons, Rat.mkRat_add_mkRat _ _ (by omega) (by omega), Rat.mkRat_eq_iff (Nat.mul_ne_zero (by omega) (by omega)) (by omega), Int.natCast_mul]
    grind
theorem tab_of {B : Nat} {xs : List Int} {n : Nat} (h1 : 0 < B) (h2 : B ≤ 2 ^ 43) (n1 : 1 ≤ n) (n8 : n ≤ 8) (hn : xs.length = n) (hp : ∀ x ∈ xs, 0 ≤ x) (hs : xs.sum = B) : Tab B n (xs.map fun x => mkRat x B) := by
  refine ⟨h1, Nat.le_trans h2 (by decide +kernel), n1, n8, by rw [List.length_map]; exact hn, fun p hp' => ?_, ?_, fun p hp' => ?_⟩
  · obtain ⟨x, hx, rfl⟩ := List.mem_map.mp hp'
    exact mk_nonneg h1 (hp x hx)
  · rw [mk_sum h1, hs]
    have : (1 : Rat) = mkRat 1 1 := by decide
    rw [this, Rat.mkRat_eq_iff (by omega) (by omega)]
    simp
  · obtain ⟨x, hx, rfl⟩ := List.mem_map.mp hp'
    exact ⟨x, rfl⟩
theorem spec_l_table : ∀ ds S Q, CloS S → Bels S.length ds → c_l_table ds S Q → w_l_table (endsOf S.length Q) (startD N_l_table ds) S := by
  rintro _ S Q hc hb ⟨n, w, t, T, rfl, n1, n8, hw, hk, ht, q⟩
  have hS := hk.len
  rw [st_l_table]
  unfold w_l_table
  refine seq_k fun k1 hk1 => ?_
  try simp only [sAsg, DL.gName, sRet, sRetN, sNext, sIf, sNever, sExpr, sFor, wVar, wC, wOp, wCall, wCons, wNil, wTup, wRol, wTest, wAnd, wOr, wNot, wAndT, wOrT, wNotT, wIf, wUn, gNeg, onB, gI0, gI, gAdd, DL.gSub, gMul_int, gFdiv, gMod, gPow, gShl, gShr, gLt, gLe, gGt, gGe, gEq_int, gNe_int, wChain, wChain3, sPar2, sPar3, DL.gTup, gsCons, gsNil, gInt, gIsN, gNotN, isN_non, isN_tup, isN_rol, isN_int, isN_str, isN_bl, isN_loc, wSl, wNo, wSo, gSl, gRep, gRepL, wDGet1, wDGet2, wInD, wListRg, wListRgL, wTupRg, wDctNew, wDGet2T, gAtT, wItD, wRevT, wFld, sFldS, sFldA, wMeth, wMake, wRg1, wRg2, wEnum, wZip, wRng3, wIt, wItA, wItT, wRng1, wRng2, wLc, wLcL, wLc2, wYes, wCallK, endsOf, List.set_cons_zero, List.set_cons_succ, List.getElem?_cons_zero, List.getElem?_cons_succ, if_true, if_false, Bool.false_eq_true, reduceIte, decide_eq_true_eq, wipeD, List.length_cons, List.length_nil]
  refine ⟨n, w, t, T, rfl, n1, n8, hw, hk, ht, fun xs S1 E xl x0 xs0 d1 => hk1 _ _ (seq_k fun k2 hk2 => ?_)⟩
  clear hk1
  have at_rd : ∀ {ps : List Int} {S'}, IsDeck (t + 8) (T ++ E ++ [.lst (ps.map D.int)]) S' → rdL S' (.loc ((T ++ E).length + 2)) = some (ps.map D.int) := fun {ps S'} h => by
    show cellL _ = _
    rw [h.last]; rfl
  try simp only [sAsg, DL.gName, sRet, sRetN, sNext, sIf, sNever, sExpr, sFor, wVar, wC, wOp, wCall, wCons, wNil, wTup, wRol, wTest, wAnd, wOr, wNot, wAndT, wOrT, wNotT, wIf, wUn, gNeg, onB, gI0, gI, gAdd, DL.gSub, gMul_int, gFdiv, gMod, gPow, gShl, gShr, gLt, gLe, gGt, gGe, gEq_int, gNe_int, wChain, wChain3, sPar2, sPar3, DL.gTup, gsCons, gsNil, gInt, gIsN, gNotN, isN_non, isN_tup, isN_rol, isN_int, isN_str, isN_bl, isN_loc, wSl, wNo, wSo, gSl, gRep, gRepL, wDGet1, wDGet2, wInD, wListRg, wListRgL, wTupRg, wDctNew, wDGet2T, gAtT, wItD, wRevT, wFld, sFldS, sFldA, wMeth, wMake, wRg1, wRg2, wEnum, wZip, wRng3, wIt, wItA, wItT, wRng1, wRng2, wLc, wLcL, wLc2, wYes, wCallK, endsOf, List.set_cons_zero, List.set_cons_succ, List.getElem?_cons_zero, List.getElem?_cons_succ, if_true, if_false, Bool.false_eq_true, reduceIte, decide_eq_true_eq, wipeD, List.length_cons, List.length_nil, gSum]
  refine ⟨_, _, xs, rfl, at_rd d1, intsOf_map xs, hk2 _ _ (seq_k fun k3 hk3 => ?_)⟩
  clear hk2
  have sx : xs.sum ≤ 8 * 10 ^ 12 := by
    have := sum_le_all fun x hx => (x0 x hx).2
    rw [xl] at this
    omega
  have fin : ∀ (ps : List Int) (S' : Sto) (x : Option D), IsDeck (t + 8) (T ++ E ++ [.lst (ps.map D.int)]) S' → ps.length = n → (∀ x ∈ ps, 0 ≤ x) → 0 < ps.sum → ps.sum ≤ 8 * 10 ^ 12 + 12 → k3 [some (.loc 1), some (.int n), some (.int w), some (.loc ((T ++ E).length + 2)), some (.int ps.sum), x, none] S' := by
    intro ps S' x dk pl p0 ps0 psL
    refine hk3 _ _ ?_
    clear hk3
    obtain ⟨B, hB⟩ : ∃ B : Nat, ps.sum = B := ⟨ps.sum.toNat, by omega⟩
    try simp only [sSeq, sAsg, DL.gName, sRet, sRetN, sNext, sIf, sNever, sExpr, sFor, wVar, wC, wOp, wCall, wCons, wNil, wTup, wRol, wTest, wAnd, wOr, wNot, wAndT, wOrT, wNotT, wIf, wUn, gNeg, onB, gI0, gI, gAdd, DL.gSub, gMul_int, gFdiv, gMod, gPow, gShl, gShr, gLt, gLe, gGt, gGe, gEq_int, gNe_int, wChain, wChain3, sPar2, sPar3, DL.gTup, gsCons, gsNil, gInt, gIsN, gNotN, isN_non, isN_tup, isN_rol, isN_int, isN_str, isN_bl, isN_loc, wSl, wNo, wSo, gSl, gRep, gRepL, wDGet1, wDGet2, wInD, wListRg, wListRgL, wTupRg, wDctNew, wDGet2T, gAtT, wItD, wRevT, wFld, sFldS, sFldA, wMeth, wMake, wRg1, wRg2, wEnum, wZip, wRng3, wIt, wItA, wItT, wRng1, wRng2, wLc, wLcL, wLc2, wYes, wCallK, endsOf, List.set_cons_zero, List.set_cons_succ, List.getElem?_cons_zero, List.getElem?_cons_succ, if_true, if_false, Bool.false_eq_true, reduceIte, decide_eq_true_eq, wipeD, List.length_cons, List.length_nil, gTupOf]
    refine ⟨_, dk.last, ?_⟩
    refine wLc_map D.int (fun x => frD (mkRat x B)) ps (fun p hp => by rw [List.mem_singleton.mp hp]; exact dk.last) (le1000 (by omega)) (fun x hx k k0 hk => ?_) ?_
    · try simp only [sAsg, DL.gName, sRet, sRetN, sNext, sIf, sNever, sExpr, sFor, wVar, wC, wOp, wCall, wCons, wNil, wTup, wRol, wTest, wAnd, wOr, wNot, wAndT, wOrT, wNotT, wIf, wUn, gNeg, onB, gI0, gI, gAdd, DL.gSub, gMul_int, gFdiv, gMod, gPow, gShl, gShr, gLt, gLe, gGt, gGe, gEq_int, gNe_int, wChain, wChain3, sPar2, sPar3, DL.gTup, gsCons, gsNil, gInt, gIsN, gNotN, isN_non, isN_tup, isN_rol, isN_int, isN_str, isN_bl, isN_loc, wSl, wNo, wSo, gSl, gRep, gRepL, wDGet1, wDGet2, wInD, wListRg, wListRgL, wTupRg, wDctNew, wDGet2T, gAtT, wItD, wRevT, wFld, sFldS, sFldA, wMeth, wMake, wRg1, wRg2, wEnum, wZip, wRng3, wIt, wItA, wItT, wRng1, wRng2, wLc, wLcL, wLc2, wYes, wCallK, endsOf, List.set_cons_zero, List.set_cons_succ, List.getElem?_cons_zero, List.getElem?_cons_succ, if_true, if_false, Bool.false_eq_true, reduceIte, decide_eq_true_eq, wipeD, List.length_cons, List.length_nil]
      refine ⟨x, B, by rw [hB], by omega, ?_, hk⟩
      exact Nat.lt_of_le_of_lt (show (B : Int).natAbs ≤ 2 ^ 43 by omega) (by decide +kernel)
    have e3 : D.tup (ps.map fun x => frD (mkRat x B)) = tabD (ps.map fun x => mkRat x B) := by unfold tabD; rw [List.map_map]; rfl
    rw [List.append_assoc] at dk
    obtain ⟨D0, rfl, d0⟩ := dk.cut
    refine ⟨_, rfl, .inl ?_⟩
    rw [e3]
    exact leave_app (hk.bel hc d0) (by rw [d0.len, hS]) (bel_tab _ _) (q _ _ _ (tab_of (by omega) (by omega) n1 n8 pl p0 hB) (by omega) d0)
  try simp only [sAsg, DL.gName, sRet, sRetN, sNext, sIf, sNever, sExpr, sFor, wVar, wC, wOp, wCall, wCons, wNil, wTup, wRol, wTest, wAnd, wOr, wNot, wAndT, wOrT, wNotT, wIf, wUn, gNeg, onB, gI0, gI, gAdd, DL.gSub, gMul_int, gFdiv, gMod, gPow, gShl, gShr, gLt, gLe, gGt, gGe, gEq_int, gNe_int, wChain, wChain3, sPar2, sPar3, DL.gTup, gsCons, gsNil, gInt, gIsN, gNotN, isN_non, isN_tup, isN_rol, isN_int, isN_str, isN_bl, isN_loc, wSl, wNo, wSo, gSl, gRep, gRepL, wDGet1, wDGet2, wInD, wListRg, wListRgL, wTupRg, wDctNew, wDGet2T, gAtT, wItD, wRevT, wFld, sFldS, sFldA, wMeth, wMake, wRg1, wRg2, wEnum, wZip, wRng3, wIt, wItA, wItT, wRng1, wRng2, wLc, wLcL, wLc2, wYes, wCallK, endsOf, List.set_cons_zero, List.set_cons_succ, List.getElem?_cons_zero, List.getElem?_cons_succ, if_true, if_false, Bool.false_eq_true, reduceIte, decide_eq_true_eq, wipeD, List.length_cons, List.length_nil]
  by_cases hw1 : (w : Int) = 1
  · rw [if_pos hw1]
    refine seq_k fun k4 hk4 => ?_
    try simp only [sAsg, DL.gName, sRet, sRetN, sNext, sIf, sNever, sExpr, sFor, wVar, wC, wOp, wCall, wCons, wNil, wTup, wRol, wTest, wAnd, wOr, wNot, wAndT, wOrT, wNotT, wIf, wUn, gNeg, onB, gI0, gI, gAdd, DL.gSub, gMul_int, gFdiv, gMod, gPow, gShl, gShr, gLt, gLe, gGt, gGe, gEq_int, gNe_int, wChain, wChain3, sPar2, sPar3, DL.gTup, gsCons, gsNil, gInt, gIsN, gNotN, isN_non, isN_tup, isN_rol, isN_int, isN_str, isN_bl, isN_loc, wSl, wNo, wSo, gSl, gRep, gRepL, wDGet1, wDGet2, wInD, wListRg, wListRgL, wTupRg, wDctNew, wDGet2T, gAtT, wItD, wRevT, wFld, sFldS, sFldA, wMeth, wMake, wRg1, wRg2, wEnum, wZip, wRng3, wIt, wItA, wItT, wRng1, wRng2, wLc, wLcL, wLc2, wYes, wCallK, endsOf, List.set_cons_zero, List.set_cons_succ, List.getElem?_cons_zero, List.getElem?_cons_succ, if_true, if_false, Bool.false_eq_true, reduceIte, decide_eq_true_eq, wipeD, List.length_cons, List.length_nil]
    refine ⟨12, rfl, by decide, by decide, ?_⟩
    refine wFor_inv (fun i ρ S' => ∃ (ps : List Int) (y x : Option D), ρ = [some (.loc 1), some (.int n), some (.int w), some (.loc ((T ++ E).length + 2)), y, x, none] ∧ IsDeck (t + 8) (T ++ E ++ [.lst (ps.map D.int)]) S' ∧ ps.length = n ∧ (∀ x ∈ ps, 0 ≤ x) ∧ 0 < ps.sum ∧ ps.sum ≤ 8 * 10 ^ 12 + i) _ ⟨xs, _, none, rfl, d1, xl, fun x hx => (x0 x hx).1, xs0, by omega⟩ ?_ ?_
    · rintro i d k hd hk' _ S2 ⟨ps, y, x, rfl, dk, pl, p0, ps0, psL⟩
      obtain ⟨hi, rfl⟩ := intsD_get hd
      refine ⟨gd0, ?_⟩
      try simp only [sAsg, DL.gName, sRet, sRetN, sNext, sIf, sNever, sExpr, sFor, wVar, wC, wOp, wCall, wCons, wNil, wTup, wRol, wTest, wAnd, wOr, wNot, wAndT, wOrT, wNotT, wIf, wUn, gNeg, onB, gI0, gI, gAdd, DL.gSub, gMul_int, gFdiv, gMod, gPow, gShl, gShr, gLt, gLe, gGt, gGe, gEq_int, gNe_int, wChain, wChain3, sPar2, sPar3, DL.gTup, gsCons, gsNil, gInt, gIsN, gNotN, isN_non, isN_tup, isN_rol, isN_int, isN_str, isN_bl, isN_loc, wSl, wNo, wSo, gSl, gRep, gRepL, wDGet1, wDGet2, wInD, wListRg, wListRgL, wTupRg, wDctNew, wDGet2T, gAtT, wItD, wRevT, wFld, sFldS, sFldA, wMeth, wMake, wRg1, wRg2, wEnum, wZip, wRng3, wIt, wItA, wItT, wRng1, wRng2, wLc, wLcL, wLc2, wYes, wCallK, endsOf, List.set_cons_zero, List.set_cons_succ, List.getElem?_cons_zero, List.getElem?_cons_succ, if_true, if_false, Bool.false_eq_true, reduceIte, decide_eq_true_eq, wipeD, List.length_cons, List.length_nil, gSum]
      refine ⟨_, _, ps, rfl, at_rd dk, intsOf_map ps, le1000 (by decide), ?_⟩
      refine ⟨_, [1, 2, 4, 8, 16, 32, 64], rfl, .inl rfl, ?_⟩
      try simp only [sAsg, DL.gName, sRet, sRetN, sNext, sIf, sNever, sExpr, sFor, wVar, wC, wOp, wCall, wCons, wNil, wTup, wRol, wTest, wAnd, wOr, wNot, wAndT, wOrT, wNotT, wIf, wUn, gNeg, onB, gI0, gI, gAdd, DL.gSub, gMul_int, gFdiv, gMod, gPow, gShl, gShr, gLt, gLe, gGt, gGe, gEq_int, gNe_int, wChain, wChain3, sPar2, sPar3, DL.gTup, gsCons, gsNil, gInt, gIsN, gNotN, isN_non, isN_tup, isN_rol, isN_int, isN_str, isN_bl, isN_loc, wSl, wNo, wSo, gSl, gRep, gRepL, wDGet1, wDGet2, wInD, wListRg, wListRgL, wTupRg, wDctNew, wDGet2T, gAtT, wItD, wRevT, wFld, sFldS, sFldA, wMeth, wMake, wRg1, wRg2, wEnum, wZip, wRng3, wIt, wItA, wItT, wRng1, wRng2, wLc, wLcL, wLc2, wYes, wCallK, endsOf, List.set_cons_zero, List.set_cons_succ, List.getElem?_cons_zero, List.getElem?_cons_succ, if_true, if_false, Bool.false_eq_true, reduceIte, decide_eq_true_eq, wipeD, List.length_cons, List.length_nil, gIx]
      by_cases hin : ps.sum ∈ [(1 : Int), 2, 4, 8, 16, 32, 64]
      · rw [decide_eq_true hin]
        try simp only [sAsg, DL.gName, sRet, sRetN, sNext, sIf, sNever, sExpr, sFor, wVar, wC, wOp, wCall, wCons, wNil, wTup, wRol, wTest, wAnd, wOr, wNot, wAndT, wOrT, wNotT, wIf, wUn, gNeg, onB, gI0, gI, gAdd, DL.gSub, gMul_int, gFdiv, gMod, gPow, gShl, gShr, gLt, gLe, gGt, gGe, gEq_int, gNe_int, wChain, wChain3, sPar2, sPar3, DL.gTup, gsCons, gsNil, gInt, gIsN, gNotN, isN_non, isN_tup, isN_rol, isN_int, isN_str, isN_bl, isN_loc, wSl, wNo, wSo, gSl, gRep, gRepL, wDGet1, wDGet2, wInD, wListRg, wListRgL, wTupRg, wDctNew, wDGet2T, gAtT, wItD, wRevT, wFld, sFldS, sFldA, wMeth, wMake, wRg1, wRg2, wEnum, wZip, wRng3, wIt, wItA, wItT, wRng1, wRng2, wLc, wLcL, wLc2, wYes, wCallK, endsOf, List.set_cons_zero, List.set_cons_succ, List.getElem?_cons_zero, List.getElem?_cons_succ, if_true, if_false, Bool.false_eq_true, reduceIte, decide_eq_true_eq, wipeD, List.length_cons, List.length_nil]
        exact hk' _ _ ⟨ps, _, _, rfl, dk, pl, p0, ps0, by omega⟩
      · rw [decide_eq_false hin]
        try simp only [sAsg, DL.gName, sRet, sRetN, sNext, sIf, sNever, sExpr, sFor, wVar, wC, wOp, wCall, wCons, wNil, wTup, wRol, wTest, wAnd, wOr, wNot, wAndT, wOrT, wNotT, wIf, wUn, gNeg, onB, gI0, gI, gAdd, DL.gSub, gMul_int, gFdiv, gMod, gPow, gShl, gShr, gLt, gLe, gGt, gGe, gEq_int, gNe_int, wChain, wChain3, sPar2, sPar3, DL.gTup, gsCons, gsNil, gInt, gIsN, gNotN, isN_non, isN_tup, isN_rol, isN_int, isN_str, isN_bl, isN_loc, wSl, wNo, wSo, gSl, gRep, gRepL, wDGet1, wDGet2, wInD, wListRg, wListRgL, wTupRg, wDctNew, wDGet2T, gAtT, wItD, wRevT, wFld, sFldS, sFldA, wMeth, wMake, wRg1, wRg2, wEnum, wZip, wRng3, wIt, wItA, wItT, wRng1, wRng2, wLc, wLcL, wLc2, wYes, wCallK, endsOf, List.set_cons_zero, List.set_cons_succ, List.getElem?_cons_zero, List.getElem?_cons_succ, if_true, if_false, Bool.false_eq_true, reduceIte, decide_eq_true_eq, wipeD, List.length_cons, List.length_nil]
        obtain ⟨a, r, rfl⟩ : ∃ a r, ps = a :: r := by
          cases ps with
          | nil => simp at pl; omega
          | cons a r => exact ⟨a, r, rfl⟩
        refine ⟨_, _, at_rd dk, atI_of (k := 0) (x := D.int a) rfl, ?_⟩
        try simp only [sAsg, DL.gName, sRet, sRetN, sNext, sIf, sNever, sExpr, sFor, wVar, wC, wOp, wCall, wCons, wNil, wTup, wRol, wTest, wAnd, wOr, wNot, wAndT, wOrT, wNotT, wIf, wUn, gNeg, onB, gI0, gI, gAdd, DL.gSub, gMul_int, gFdiv, gMod, gPow, gShl, gShr, gLt, gLe, gGt, gGe, gEq_int, gNe_int, wChain, wChain3, sPar2, sPar3, DL.gTup, gsCons, gsNil, gInt, gIsN, gNotN, isN_non, isN_tup, isN_rol, isN_int, isN_str, isN_bl, isN_loc, wSl, wNo, wSo, gSl, gRep, gRepL, wDGet1, wDGet2, wInD, wListRg, wListRgL, wTupRg, wDctNew, wDGet2T, gAtT, wItD, wRevT, wFld, sFldS, sFldA, wMeth, wMake, wRg1, wRg2, wEnum, wZip, wRng3, wIt, wItA, wItT, wRng1, wRng2, wLc, wLcL, wLc2, wYes, wCallK, endsOf, List.set_cons_zero, List.set_cons_succ, List.getElem?_cons_zero, List.getElem?_cons_succ, if_true, if_false, Bool.false_eq_true, reduceIte, decide_eq_true_eq, wipeD, List.length_cons, List.length_nil, DL.gAt, put, dk.last]
        refine ⟨0, 0, rfl, by unfold ixN; rw [if_pos (by decide), if_pos (by simp)]; rfl, hk' _ _ ⟨(a + 1) :: r, _, _, rfl, dk.put _, pl, fun x hx => ?_, ?_, ?_⟩⟩
        · rcases List.mem_cons.mp hx with rfl | hx
          · have := p0 a List.mem_cons_self; omega
          · exact p0 x (List.mem_cons_of_mem _ hx)
        all_goals
          rw [List.sum_cons] at ps0 psL ⊢
          omega
    · rintro _ S2 ⟨ps, y, x, rfl, dk, pl, p0, ps0, psL⟩
      refine ⟨gd0, hk4 _ _ ?_⟩
      try simp only [sAsg, DL.gName, sRet, sRetN, sNext, sIf, sNever, sExpr, sFor, wVar, wC, wOp, wCall, wCons, wNil, wTup, wRol, wTest, wAnd, wOr, wNot, wAndT, wOrT, wNotT, wIf, wUn, gNeg, onB, gI0, gI, gAdd, DL.gSub, gMul_int, gFdiv, gMod, gPow, gShl, gShr, gLt, gLe, gGt, gGe, gEq_int, gNe_int, wChain, wChain3, sPar2, sPar3, DL.gTup, gsCons, gsNil, gInt, gIsN, gNotN, isN_non, isN_tup, isN_rol, isN_int, isN_str, isN_bl, isN_loc, wSl, wNo, wSo, gSl, gRep, gRepL, wDGet1, wDGet2, wInD, wListRg, wListRgL, wTupRg, wDctNew, wDGet2T, gAtT, wItD, wRevT, wFld, sFldS, sFldA, wMeth, wMake, wRg1, wRg2, wEnum, wZip, wRng3, wIt, wItA, wItT, wRng1, wRng2, wLc, wLcL, wLc2, wYes, wCallK, endsOf, List.set_cons_zero, List.set_cons_succ, List.getElem?_cons_zero, List.getElem?_cons_succ, if_true, if_false, Bool.false_eq_true, reduceIte, decide_eq_true_eq, wipeD, List.length_cons, List.length_nil, gSum]
      refine ⟨_, _, ps, rfl, at_rd dk, intsOf_map ps, fin ps S2 _ dk pl p0 ps0 ?_⟩
      rw [intsD_len] at psL
      exact psL
  · rw [if_neg hw1]
    exact fin xs S1 _ d1 xl (fun x hx => (x0 x hx).1) xs0 (by omega)
/-- the sum of the chances with a name -/
theorem zip_sum {t : List Rat} {ns : List Nat} (h : ns.length = t.length) (j : Nat) : (((t.zip ns).filter fun p => decide (p.2 = j)).map (·.1)).sum = sm t.length fun i => iteR (decide (ns.getD i 0 = j)) (gF t i) := by
  have e : t.zip ns = (List.range t.length).map fun i => (gF t i, ns.getD i 0) := by
    apply List.ext_getElem
    · simp [h]
    · intro i h1 h2
      have hi : i < t.length := by simpa [h] using h1
      have hi2 : i < ns.length := by omega
      simp [gF, List.getD, hi, hi2]
  rw [e, List.filter_map, List.map_map]
  exact sm_filter _ _ _
theorem spec_raw_renamed : ∀ ds S Q, CloS S → Bels S.length ds → c_raw_renamed ds S Q → w_raw_renamed (endsOf S.length Q) (startD N_raw_renamed ds) S := by
  rintro _ S Q hc hb ⟨N, n, k, t, ns, rfl, ok, hl, k8, q⟩
  have tl := ok.len
  have n8 := ok.n8
  rw [st_raw_renamed]
  unfold w_raw_renamed
  try simp only [sSeq, sAsg, DL.gName, sRet, sRetN, sNext, sIf, sNever, sExpr, sFor, wVar, wC, wOp, wCall, wCons, wNil, wTup, wRol, wTest, wAnd, wOr, wNot, wAndT, wOrT, wNotT, wIf, wUn, gNeg, onB, gI0, gI, gAdd, DL.gSub, gMul_int, gFdiv, gMod, gPow, gShl, gShr, gLt, gLe, gGt, gGe, gEq_int, gNe_int, wChain, wChain3, sPar2, sPar3, DL.gTup, gsCons, gsNil, gInt, gIsN, gNotN, isN_non, isN_tup, isN_rol, isN_int, isN_str, isN_bl, isN_loc, wSl, wNo, wSo, gSl, gRep, gRepL, wDGet1, wDGet2, wInD, wListRg, wListRgL, wTupRg, wDctNew, wDGet2T, gAtT, wItD, wRevT, wFld, sFldS, sFldA, wMeth, wMake, wRg1, wRg2, wEnum, wZip, wRng3, wIt, wItA, wItT, wRng1, wRng2, wLc, wLcL, wLc2, wYes, wCallK, endsOf, List.set_cons_zero, List.set_cons_succ, List.getElem?_cons_zero, List.getElem?_cons_succ, if_true, if_false, Bool.false_eq_true, reduceIte, decide_eq_true_eq, wipeD, List.length_cons, List.length_nil, gTupOf]
  refine ⟨k, rfl, by omega, by omega, ?_⟩
  rw [Int.toNat_natCast]
  refine wLc_map (fun (i : Nat) => D.int (0 + i)) (fun j => frD (sm t.length fun i => iteR (decide (ns.getD i 0 = j)) (gF t i))) (List.range k) gd0 (le1000 (by simp; omega)) (fun j hj k1 k0 y => ?_) ?_
  · try simp only [sAsg, DL.gName, sRet, sRetN, sNext, sIf, sNever, sExpr, sFor, wVar, wC, wOp, wCall, wCons, wNil, wTup, wRol, wTest, wAnd, wOr, wNot, wAndT, wOrT, wNotT, wIf, wUn, gNeg, onB, gI0, gI, gAdd, DL.gSub, gMul_int, gFdiv, gMod, gPow, gShl, gShr, gLt, gLe, gGt, gGe, gEq_int, gNe_int, wChain, wChain3, sPar2, sPar3, DL.gTup, gsCons, gsNil, gInt, gIsN, gNotN, isN_non, isN_tup, isN_rol, isN_int, isN_str, isN_bl, isN_loc, wSl, wNo, wSo, gSl, gRep, gRepL, wDGet1, wDGet2, wInD, wListRg, wListRgL, wTupRg, wDctNew, wDGet2T, gAtT, wItD, wRevT, wFld, sFldS, sFldA, wMeth, wMake, wRg1, wRg2, wEnum, wZip, wRng3, wIt, wItA, wItT, wRng1, wRng2, wLc, wLcL, wLc2, wYes, wCallK, endsOf, List.set_cons_zero, List.set_cons_succ, List.getElem?_cons_zero, List.getElem?_cons_succ, if_true, if_false, Bool.false_eq_true, reduceIte, decide_eq_true_eq, wipeD, List.length_cons, List.length_nil, tabD, wayD]
    rw [zip_frs]
    refine wLc_filter (fun p => .tup [frD p.1, .int (p.2 : Nat)]) (fun p => frD p.1) (fun p => decide (p.2 = j)) (t.zip ns) gd0 (le1000 (by simp; omega)) (fun p hp k2 k3 y1 y2 => ?_) ?_
    · try simp only [sAsg, DL.gName, sRet, sRetN, sNext, sIf, sNever, sExpr, sFor, wVar, wC, wOp, wCall, wCons, wNil, wTup, wRol, wTest, wAnd, wOr, wNot, wAndT, wOrT, wNotT, wIf, wUn, gNeg, onB, gI0, gI, gAdd, DL.gSub, gMul_int, gFdiv, gMod, gPow, gShl, gShr, gLt, gLe, gGt, gGe, gEq_int, gNe_int, wChain, wChain3, sPar2, sPar3, DL.gTup, gsCons, gsNil, gInt, gIsN, gNotN, isN_non, isN_tup, isN_rol, isN_int, isN_str, isN_bl, isN_loc, wSl, wNo, wSo, gSl, gRep, gRepL, wDGet1, wDGet2, wInD, wListRg, wListRgL, wTupRg, wDctNew, wDGet2T, gAtT, wItD, wRevT, wFld, sFldS, sFldA, wMeth, wMake, wRg1, wRg2, wEnum, wZip, wRng3, wIt, wItA, wItT, wRng1, wRng2, wLc, wLcL, wLc2, wYes, wCallK, endsOf, List.set_cons_zero, List.set_cons_succ, List.getElem?_cons_zero, List.getElem?_cons_succ, if_true, if_false, Bool.false_eq_true, reduceIte, decide_eq_true_eq, wipeD, List.length_cons, List.length_nil]
      refine ⟨by trivial, ?_⟩
      by_cases e : p.2 = j
      · rw [if_pos (by omega)]
        exact y1 (decide_eq_true e)
      · rw [if_neg (by omega)]
        exact y2 (decide_eq_false e)
    have e : ((t.zip ns).filter fun p => decide (p.2 = j)).map (fun p => frD p.1) = (((t.zip ns).filter fun p => decide (p.2 = j)).map (·.1)).map frD := by rw [List.map_map]; rfl
    have es := zip_sum (t := t) (ns := ns) (by omega) j
    have hpk := pick_ok ok fun i => decide (ns.getD i 0 = j)
    rw [← tl, ← es] at hpk
    have hmem : ∀ f ∈ ((t.zip ns).filter fun p => decide (p.2 = j)).map (·.1), f ∈ t := fun f hf => by
      obtain ⟨p, hp, rfl⟩ := List.mem_map.mp hf
      exact (List.of_mem_zip (List.mem_filter.mp hp).1).1
    rw [e]
    refine ⟨_, .inr rfl, sum_ok ok.n0 ok.big (fun f hf => ok.pos f (hmem f hf)) (fun f hf => ok.nth f (hmem f hf)) hpk.2.1 ?_, ?_⟩
    · rw [List.length_map]
      refine Nat.le_trans (List.length_filter_le _ _) ?_
      simp; omega
    · rw [es]; exact y
  refine ⟨_, rfl, .inr ?_⟩
  have e : D.tup ((List.range k).map fun j => frD (sm t.length fun i => iteR (decide (ns.getD i 0 = j)) (gF t i))) = tabD (renF t ns k) := by
    unfold tabD renF tF
    rw [List.map_map]; rfl
  rw [e]
  exact q
theorem lot_sum (n : Nat) (p : Nat → Bool) (f : Nat → Rat) : ((lotF n p).map f).sum = sm n fun i => iteR (p i) (f i) := sm_filter n p f
theorem spec_raw_lot_chance : ∀ ds S Q, CloS S → Bels S.length ds → c_raw_lot_chance ds S Q → w_raw_lot_chance (endsOf S.length Q) (startD N_raw_lot_chance ds) S := by
  rintro _ S Q hc hb ⟨N, n, t, p, rfl, ok, q⟩
  have hl := lot_len n p
  have n8 := ok.n8
  have tl := ok.len
  rw [st_raw_lot_chance]
  unfold w_raw_lot_chance
  try simp only [sSeq, sAsg, DL.gName, sRet, sRetN, sNext, sIf, sNever, sExpr, sFor, wVar, wC, wOp, wCall, wCons, wNil, wTup, wRol, wTest, wAnd, wOr, wNot, wAndT, wOrT, wNotT, wIf, wUn, gNeg, onB, gI0, gI, gAdd, DL.gSub, gMul_int, gFdiv, gMod, gPow, gShl, gShr, gLt, gLe, gGt, gGe, gEq_int, gNe_int, wChain, wChain3, sPar2, sPar3, DL.gTup, gsCons, gsNil, gInt, gIsN, gNotN, isN_non, isN_tup, isN_rol, isN_int, isN_str, isN_bl, isN_loc, wSl, wNo, wSo, gSl, gRep, gRepL, wDGet1, wDGet2, wInD, wListRg, wListRgL, wTupRg, wDctNew, wDGet2T, gAtT, wItD, wRevT, wFld, sFldS, sFldA, wMeth, wMake, wRg1, wRg2, wEnum, wZip, wRng3, wIt, wItA, wItT, wRng1, wRng2, wLc, wLcL, wLc2, wYes, wCallK, endsOf, List.set_cons_zero, List.set_cons_succ, List.getElem?_cons_zero, List.getElem?_cons_succ, if_true, if_false, Bool.false_eq_true, reduceIte, decide_eq_true_eq, wipeD, List.length_cons, List.length_nil, wayD, tabD]
  refine wLc_map (fun (i : Nat) => D.int i) (fun i => frD (gF t i)) (lotF n p) gd0 (le1000 (by omega)) (fun i hi k k0 y => ?_) ?_
  · have := (lot_mem.mp hi).1
    try simp only [sAsg, DL.gName, sRet, sRetN, sNext, sIf, sNever, sExpr, sFor, wVar, wC, wOp, wCall, wCons, wNil, wTup, wRol, wTest, wAnd, wOr, wNot, wAndT, wOrT, wNotT, wIf, wUn, gNeg, onB, gI0, gI, gAdd, DL.gSub, gMul_int, gFdiv, gMod, gPow, gShl, gShr, gLt, gLe, gGt, gGe, gEq_int, gNe_int, wChain, wChain3, sPar2, sPar3, DL.gTup, gsCons, gsNil, gInt, gIsN, gNotN, isN_non, isN_tup, isN_rol, isN_int, isN_str, isN_bl, isN_loc, wSl, wNo, wSo, gSl, gRep, gRepL, wDGet1, wDGet2, wInD, wListRg, wListRgL, wTupRg, wDctNew, wDGet2T, gAtT, wItD, wRevT, wFld, sFldS, sFldA, wMeth, wMake, wRg1, wRg2, wEnum, wZip, wRng3, wIt, wItA, wItT, wRng1, wRng2, wLc, wLcL, wLc2, wYes, wCallK, endsOf, List.set_cons_zero, List.set_cons_succ, List.getElem?_cons_zero, List.getElem?_cons_succ, if_true, if_false, Bool.false_eq_true, reduceIte, decide_eq_true_eq, wipeD, List.length_cons, List.length_nil, gIx]
    exact ⟨_, frs_at (by omega), y⟩
  have hpk := pick_ok ok p
  have e : (lotF n p).map (fun i => frD (gF t i)) = ((lotF n p).map (gF t)).map frD := by rw [List.map_map]; rfl
  rw [← lot_sum] at hpk
  rw [e]
  refine ⟨_, .inr rfl, sum_ok ok.n0 ok.big (fun f hf => ?_) (fun f hf => ?_) hpk.2.1 (by rw [List.length_map]; omega), ?_⟩
  · obtain ⟨i, hi, rfl⟩ := List.mem_map.mp hf
    exact ok.at0 (lot_mem.mp hi).1
  · obtain ⟨i, hi, rfl⟩ := List.mem_map.mp hf
    exact ok.atN (lot_mem.mp hi).1
  · rw [lot_sum]
    have : chF t p = sm n fun i => iteR (p i) (gF t i) := by unfold chF; rw [tl]
    rw [← this]
    exact .inr q
theorem mixF_tab {N n M m : Nat} {t : List Rat} {ts : List (List Rat)} (h : Mix N n M m t ts) : Tab (N * M) m (mixF t ts m) := by
  have p0 : 0 < N * M := Nat.mul_pos h.ok.n0 h.m0.n0
  unfold mixF
  rw [h.ok.len]
  refine tab_mk p0 h.big h.m0.n1 h.m0.n8 (fun i hi => (h.sum hi).1) ?_ fun i hi => (h.sum hi).2.2
  rw [sm_comm, ← h.ok.one]
  refine sm_congr fun j hj => ?_
  rw [sm_mul, (h.at hj).one, Rat.mul_one]
theorem spec_raw_mixed : ∀ ds S Q, CloS S → Bels S.length ds → c_raw_mixed ds S Q → w_raw_mixed (endsOf S.length Q) (startD N_raw_mixed ds) S := by
  rintro _ S Q hc hb ⟨N, n, M, m, t, ts, rfl, ok, hl, hts, hb, q⟩
  have mx : Mix N n M m t ts := ⟨ok, hl, hts, hb⟩
  have n8 := ok.n8
  have n1 := ok.n1
  have tl := ok.len
  have ml := mx.m0.len
  have m8 := mx.m0.n8
  rw [st_raw_mixed]
  unfold w_raw_mixed
  refine seq_k fun k1 hk1 => ?_
  try simp only [sAsg, DL.gName, sRet, sRetN, sNext, sIf, sNever, sExpr, sFor, wVar, wC, wOp, wCall, wCons, wNil, wTup, wRol, wTest, wAnd, wOr, wNot, wAndT, wOrT, wNotT, wIf, wUn, gNeg, onB, gI0, gI, gAdd, DL.gSub, gMul_int, gFdiv, gMod, gPow, gShl, gShr, gLt, gLe, gGt, gGe, gEq_int, gNe_int, wChain, wChain3, sPar2, sPar3, DL.gTup, gsCons, gsNil, gInt, gIsN, gNotN, isN_non, isN_tup, isN_rol, isN_int, isN_str, isN_bl, isN_loc, wSl, wNo, wSo, gSl, gRep, gRepL, wDGet1, wDGet2, wInD, wListRg, wListRgL, wTupRg, wDctNew, wDGet2T, gAtT, wItD, wRevT, wFld, sFldS, sFldA, wMeth, wMake, wRg1, wRg2, wEnum, wZip, wRng3, wIt, wItA, wItT, wRng1, wRng2, wLc, wLcL, wLc2, wYes, wCallK, endsOf, List.set_cons_zero, List.set_cons_succ, List.getElem?_cons_zero, List.getElem?_cons_succ, if_true, if_false, Bool.false_eq_true, reduceIte, decide_eq_true_eq, wipeD, List.length_cons, List.length_nil]
  refine ⟨Nat.zero_le _, hk1 _ _ (seq_k fun k2 hk2 => ?_)⟩
  clear hk1
  try simp only [sAsg, DL.gName, sRet, sRetN, sNext, sIf, sNever, sExpr, sFor, wVar, wC, wOp, wCall, wCons, wNil, wTup, wRol, wTest, wAnd, wOr, wNot, wAndT, wOrT, wNotT, wIf, wUn, gNeg, onB, gI0, gI, gAdd, DL.gSub, gMul_int, gFdiv, gMod, gPow, gShl, gShr, gLt, gLe, gGt, gGe, gEq_int, gNe_int, wChain, wChain3, sPar2, sPar3, DL.gTup, gsCons, gsNil, gInt, gIsN, gNotN, isN_non, isN_tup, isN_rol, isN_int, isN_str, isN_bl, isN_loc, wSl, wNo, wSo, gSl, gRep, gRepL, wDGet1, wDGet2, wInD, wListRg, wListRgL, wTupRg, wDctNew, wDGet2T, gAtT, wItD, wRevT, wFld, sFldS, sFldA, wMeth, wMake, wRg1, wRg2, wEnum, wZip, wRng3, wIt, wItA, wItT, wRng1, wRng2, wLc, wLcL, wLc2, wYes, wCallK, endsOf, List.set_cons_zero, List.set_cons_succ, List.getElem?_cons_zero, List.getElem?_cons_succ, if_true, if_false, Bool.false_eq_true, reduceIte, decide_eq_true_eq, wipeD, List.length_cons, List.length_nil, gIx, gLen]
  have a0 : atI (ts.map tabD) 0 = some (tabD (ts.getD 0 [])) := by
    refine atI_of (k := 0) ?_
    rw [List.getElem?_map]
    have : ts[0]? = some (ts.getD 0 []) := by simp [List.getD, show 0 < ts.length by omega]
    rw [this]; rfl
  refine ⟨_, a0, ?_⟩
  try simp only [sAsg, DL.gName, sRet, sRetN, sNext, sIf, sNever, sExpr, sFor, wVar, wC, wOp, wCall, wCons, wNil, wTup, wRol, wTest, wAnd, wOr, wNot, wAndT, wOrT, wNotT, wIf, wUn, gNeg, onB, gI0, gI, gAdd, DL.gSub, gMul_int, gFdiv, gMod, gPow, gShl, gShr, gLt, gLe, gGt, gGe, gEq_int, gNe_int, wChain, wChain3, sPar2, sPar3, DL.gTup, gsCons, gsNil, gInt, gIsN, gNotN, isN_non, isN_tup, isN_rol, isN_int, isN_str, isN_bl, isN_loc, wSl, wNo, wSo, gSl, gRep, gRepL, wDGet1, wDGet2, wInD, wListRg, wListRgL, wTupRg, wDctNew, wDGet2T, gAtT, wItD, wRevT, wFld, sFldS, sFldA, wMeth, wMake, wRg1, wRg2, wEnum, wZip, wRng3, wIt, wItA, wItT, wRng1, wRng2, wLc, wLcL, wLc2, wYes, wCallK, endsOf, List.set_cons_zero, List.set_cons_succ, List.getElem?_cons_zero, List.getElem?_cons_succ, if_true, if_false, Bool.false_eq_true, reduceIte, decide_eq_true_eq, wipeD, List.length_cons, List.length_nil, tabD, List.length_map]
  refine ⟨m, by rw [ml], by omega, by omega, ?_⟩
  rw [Int.toNat_natCast]
  let F : Nat → List D := fun i => (List.range i).map fun i => frD (sm t.length fun j => gF t j * gF (ts.getD j []) i)
  refine wFor_inv (fun i ρ S' => S' = S ++ [.lst (F i)] ∧ ∃ (x y z : Option D), ρ = [some (.tup (t.map frD)), some (.tup (ts.map tabD)), some (.loc S.length), x, y, z]) _ ⟨rfl, none, none, none, rfl⟩ ?_ ?_
  · rintro i d k4 hd hk4 _ _ ⟨rfl, x, y, z, rfl⟩
    obtain ⟨hi, rfl⟩ := intsD_get hd
    refine ⟨gd0, ?_⟩
    have gl : (S ++ [Cell.lst (F i)])[S.length]? = some (.lst (F i)) := get_last rfl
    try simp only [sAsg, DL.gName, sRet, sRetN, sNext, sIf, sNever, sExpr, sFor, wVar, wC, wOp, wCall, wCons, wNil, wTup, wRol, wTest, wAnd, wOr, wNot, wAndT, wOrT, wNotT, wIf, wUn, gNeg, onB, gI0, gI, gAdd, DL.gSub, gMul_int, gFdiv, gMod, gPow, gShl, gShr, gLt, gLe, gGt, gGe, gEq_int, gNe_int, wChain, wChain3, sPar2, sPar3, DL.gTup, gsCons, gsNil, gInt, gIsN, gNotN, isN_non, isN_tup, isN_rol, isN_int, isN_str, isN_bl, isN_loc, wSl, wNo, wSo, gSl, gRep, gRepL, wDGet1, wDGet2, wInD, wListRg, wListRgL, wTupRg, wDctNew, wDGet2T, gAtT, wItD, wRevT, wFld, sFldS, sFldA, wMeth, wMake, wRg1, wRg2, wEnum, wZip, wRng3, wIt, wItA, wItT, wRng1, wRng2, wLc, wLcL, wLc2, wYes, wCallK, endsOf, List.set_cons_zero, List.set_cons_succ, List.getElem?_cons_zero, List.getElem?_cons_succ, if_true, if_false, Bool.false_eq_true, reduceIte, decide_eq_true_eq, wipeD, List.length_cons, List.length_nil, wM, gAppend, isLst]
    refine ⟨⟨_, show cellL _ = some _ by rw [gl]; rfl⟩, ?_⟩
    rw [zip_frs]
    refine wLc_map (fun (p : Rat × List Rat) => .tup [frD p.1, tabD p.2]) (fun p => frD (p.1 * gF p.2 i)) (t.zip ts) gd0 (le1000 (by simp; omega)) (fun p hp k k0 y => ?_) ?_
    · have hp1 := (List.of_mem_zip hp).1
      have hp2 := hts _ (List.of_mem_zip hp).2
      try simp only [sAsg, DL.gName, sRet, sRetN, sNext, sIf, sNever, sExpr, sFor, wVar, wC, wOp, wCall, wCons, wNil, wTup, wRol, wTest, wAnd, wOr, wNot, wAndT, wOrT, wNotT, wIf, wUn, gNeg, onB, gI0, gI, gAdd, DL.gSub, gMul_int, gFdiv, gMod, gPow, gShl, gShr, gLt, gLe, gGt, gGe, gEq_int, gNe_int, wChain, wChain3, sPar2, sPar3, DL.gTup, gsCons, gsNil, gInt, gIsN, gNotN, isN_non, isN_tup, isN_rol, isN_int, isN_str, isN_bl, isN_loc, wSl, wNo, wSo, gSl, gRep, gRepL, wDGet1, wDGet2, wInD, wListRg, wListRgL, wTupRg, wDctNew, wDGet2T, gAtT, wItD, wRevT, wFld, sFldS, sFldA, wMeth, wMake, wRg1, wRg2, wEnum, wZip, wRng3, wIt, wItA, wItT, wRng1, wRng2, wLc, wLcL, wLc2, wYes, wCallK, endsOf, List.set_cons_zero, List.set_cons_succ, List.getElem?_cons_zero, List.getElem?_cons_succ, if_true, if_false, Bool.false_eq_true, reduceIte, decide_eq_true_eq, wipeD, List.length_cons, List.length_nil, gIx]
      refine ⟨by trivial, ?_⟩
      try simp only [sAsg, DL.gName, sRet, sRetN, sNext, sIf, sNever, sExpr, sFor, wVar, wC, wOp, wCall, wCons, wNil, wTup, wRol, wTest, wAnd, wOr, wNot, wAndT, wOrT, wNotT, wIf, wUn, gNeg, onB, gI0, gI, gAdd, DL.gSub, gMul_int, gFdiv, gMod, gPow, gShl, gShr, gLt, gLe, gGt, gGe, gEq_int, gNe_int, wChain, wChain3, sPar2, sPar3, DL.gTup, gsCons, gsNil, gInt, gIsN, gNotN, isN_non, isN_tup, isN_rol, isN_int, isN_str, isN_bl, isN_loc, wSl, wNo, wSo, gSl, gRep, gRepL, wDGet1, wDGet2, wInD, wListRg, wListRgL, wTupRg, wDctNew, wDGet2T, gAtT, wItD, wRevT, wFld, sFldS, sFldA, wMeth, wMake, wRg1, wRg2, wEnum, wZip, wRng3, wIt, wItA, wItT, wRng1, wRng2, wLc, wLcL, wLc2, wYes, wCallK, endsOf, List.set_cons_zero, List.set_cons_succ, List.getElem?_cons_zero, List.getElem?_cons_succ, if_true, if_false, Bool.false_eq_true, reduceIte, decide_eq_true_eq, wipeD, List.length_cons, List.length_nil, tabD]
      have hi2 : i < p.2.length := by rw [hp2.len]; omega
      exact ⟨_, by rw [Int.zero_add]; exact frs_at hi2, _, _, rfl, ok.small hp1, hp2.smallF (by omega), y⟩
    have e : (t.zip ts).map (fun p => frD (p.1 * gF p.2 i)) = (tF t.length fun j => gF t j * gF (ts.getD j []) i).map frD := by
      rw [← mix_list (by omega), List.map_map]; rfl
    have sm0 := mx.sum (i := i) (by omega)
    rw [e]
    have hmem : ∀ f ∈ tF t.length (fun j => gF t j * gF (ts.getD j []) i), ∃ j, j < n ∧ f = gF t j * gF (ts.getD j []) i := fun f hf => by
      obtain ⟨j, hj, rfl⟩ := List.mem_map.mp hf
      exact ⟨j, by have := List.mem_range.mp hj; omega, rfl⟩
    refine ⟨_, .inr rfl, sum_ok (Nat.mul_pos ok.n0 mx.m0.n0) hb (fun f hf => ?_) (fun f hf => ?_) ?_ (by rw [tF_len]; omega), ?_⟩
    · obtain ⟨j, hj, rfl⟩ := hmem f hf
      exact (mx.term hj (by omega)).1
    · obtain ⟨j, hj, rfl⟩ := hmem f hf
      exact (mx.term hj (by omega)).2.2
    · rw [tF_sum, tl]
      exact sm0.2.1
    rw [tF_sum]
    refine ⟨_, _, _, rfl, rfl, gl, ?_, ?_⟩
    · show (List.map _ _).length < _
      rw [List.length_map, List.length_range]
      exact small1000 (by omega)
    rw [set_last rfl]
    have eF : F i ++ [frD (sm t.length fun j => gF t j * gF (ts.getD j []) i)] = F (i + 1) := by
      show _ = List.map _ _
      rw [List.range_succ, List.map_append]; rfl
    rw [eF]
    exact hk4 _ _ ⟨rfl, _, _, _, rfl⟩
  · rintro _ _ ⟨rfl, x, y, z, rfl⟩
    refine ⟨gd0, hk2 _ _ ?_⟩
    rw [intsD_len]
    try simp only [sSeq, sAsg, DL.gName, sRet, sRetN, sNext, sIf, sNever, sExpr, sFor, wVar, wC, wOp, wCall, wCons, wNil, wTup, wRol, wTest, wAnd, wOr, wNot, wAndT, wOrT, wNotT, wIf, wUn, gNeg, onB, gI0, gI, gAdd, DL.gSub, gMul_int, gFdiv, gMod, gPow, gShl, gShr, gLt, gLe, gGt, gGe, gEq_int, gNe_int, wChain, wChain3, sPar2, sPar3, DL.gTup, gsCons, gsNil, gInt, gIsN, gNotN, isN_non, isN_tup, isN_rol, isN_int, isN_str, isN_bl, isN_loc, wSl, wNo, wSo, gSl, gRep, gRepL, wDGet1, wDGet2, wInD, wListRg, wListRgL, wTupRg, wDctNew, wDGet2T, gAtT, wItD, wRevT, wFld, sFldS, sFldA, wMeth, wMake, wRg1, wRg2, wEnum, wZip, wRng3, wIt, wItA, wItT, wRng1, wRng2, wLc, wLcL, wLc2, wYes, wCallK, endsOf, List.set_cons_zero, List.set_cons_succ, List.getElem?_cons_zero, List.getElem?_cons_succ, if_true, if_false, Bool.false_eq_true, reduceIte, decide_eq_true_eq, wipeD, List.length_cons, List.length_nil, gTupOf]
    refine ⟨_, show cellL _ = some _ by rw [get_last rfl]; rfl, .inl ?_⟩
    have e : D.tup (F m) = tabD (mixF t ts m) := by
      show D.tup (List.map _ _) = _
      unfold tabD mixF tF
      rw [List.map_map]; rfl
    rw [e]
    exact leave_app (T := [.lst (F m)]) hc rfl (bel_tab _ _) q
theorem sum_snoc {fs : List Rat} {i : Nat} {f : Rat} (h : fs[i]? = some f) : (fs.take (i + 1)).sum = (fs.take i).sum + f := by
  rw [List.take_add_one, h]
  simp [List.sum_append, Rat.add_zero]
theorem spec_total : ∀ ds S Q, CloS S → Bels S.length ds → c_total ds S Q → w_total (endsOf S.length Q) (startD N_total ds) S := by
  rintro ds S Q hc hb ⟨fs, hd, ⟨s1, s2, s3⟩, q⟩
  have run : ∀ d k, (∀ x, k [some d, some (frD fs.sum), x] S) → ∀ E : EndsD, (E.nx = k) → wFor (DL.gName 2) (sAsg (wCall c_plus (wCons (wVar 1) (wCons (wVar 2) wNil))) (DL.gName 1)) [] E (fs.map frD) [some d, some (frD 0), none] S := by
    intro d k hk E hE
    refine wFor_inv (fun i ρ S' => S' = S ∧ ∃ x, ρ = [some d, some (frD (fs.take i).sum), x]) _ ⟨rfl, none, rfl⟩ ?_ ?_
    · rintro i e k2 he hk2 _ S2 ⟨rfl, x, rfl⟩
      obtain ⟨f, hf, rfl⟩ := frs_get he
      refine ⟨gd0, ?_⟩
      try simp only [sAsg, DL.gName, sRet, sRetN, sNext, sIf, sNever, sExpr, sFor, wVar, wC, wOp, wCall, wCons, wNil, wTup, wRol, wTest, wAnd, wOr, wNot, wAndT, wOrT, wNotT, wIf, wUn, gNeg, onB, gI0, gI, gAdd, DL.gSub, gMul_int, gFdiv, gMod, gPow, gShl, gShr, gLt, gLe, gGt, gGe, gEq_int, gNe_int, wChain, wChain3, sPar2, sPar3, DL.gTup, gsCons, gsNil, gInt, gIsN, gNotN, isN_non, isN_tup, isN_rol, isN_int, isN_str, isN_bl, isN_loc, wSl, wNo, wSo, gSl, gRep, gRepL, wDGet1, wDGet2, wInD, wListRg, wListRgL, wTupRg, wDctNew, wDGet2T, gAtT, wItD, wRevT, wFld, sFldS, sFldA, wMeth, wMake, wRg1, wRg2, wEnum, wZip, wRng3, wIt, wItA, wItT, wRng1, wRng2, wLc, wLcL, wLc2, wYes, wCallK, endsOf, List.set_cons_zero, List.set_cons_succ, List.getElem?_cons_zero, List.getElem?_cons_succ, if_true, if_false, Bool.false_eq_true, reduceIte, decide_eq_true_eq, wipeD, List.length_cons, List.length_nil]
      exact ⟨_, _, rfl, s2 i, s1 f (List.mem_of_getElem? hf), hk2 _ _ ⟨rfl, _, by rw [sum_snoc hf]⟩⟩
    · rintro _ S2 ⟨rfl, x, rfl⟩
      refine ⟨gd0, ?_⟩
      rw [hE, List.length_map, List.take_length]
      exact hk x
  rcases hd with rfl | rfl
  all_goals
    rw [st_total]
    unfold w_total
    refine seq_k fun k1 hk1 => ?_
    try simp only [sAsg, DL.gName, sRet, sRetN, sNext, sIf, sNever, sExpr, sFor, wVar, wC, wOp, wCall, wCons, wNil, wTup, wRol, wTest, wAnd, wOr, wNot, wAndT, wOrT, wNotT, wIf, wUn, gNeg, onB, gI0, gI, gAdd, DL.gSub, gMul_int, gFdiv, gMod, gPow, gShl, gShr, gLt, gLe, gGt, gGe, gEq_int, gNe_int, wChain, wChain3, sPar2, sPar3, DL.gTup, gsCons, gsNil, gInt, gIsN, gNotN, isN_non, isN_tup, isN_rol, isN_int, isN_str, isN_bl, isN_loc, wSl, wNo, wSo, gSl, gRep, gRepL, wDGet1, wDGet2, wInD, wListRg, wListRgL, wTupRg, wDctNew, wDGet2T, gAtT, wItD, wRevT, wFld, sFldS, sFldA, wMeth, wMake, wRg1, wRg2, wEnum, wZip, wRng3, wIt, wItA, wItT, wRng1, wRng2, wLc, wLcL, wLc2, wYes, wCallK, endsOf, List.set_cons_zero, List.set_cons_succ, List.getElem?_cons_zero, List.getElem?_cons_succ, if_true, if_false, Bool.false_eq_true, reduceIte, decide_eq_true_eq, wipeD, List.length_cons, List.length_nil]
    refine hk1 _ _ (seq_k fun k2 hk2 => ?_)
    clear hk1
    try simp only [sAsg, DL.gName, sRet, sRetN, sNext, sIf, sNever, sExpr, sFor, wVar, wC, wOp, wCall, wCons, wNil, wTup, wRol, wTest, wAnd, wOr, wNot, wAndT, wOrT, wNotT, wIf, wUn, gNeg, onB, gI0, gI, gAdd, DL.gSub, gMul_int, gFdiv, gMod, gPow, gShl, gShr, gLt, gLe, gGt, gGe, gEq_int, gNe_int, wChain, wChain3, sPar2, sPar3, DL.gTup, gsCons, gsNil, gInt, gIsN, gNotN, isN_non, isN_tup, isN_rol, isN_int, isN_str, isN_bl, isN_loc, wSl, wNo, wSo, gSl, gRep, gRepL, wDGet1, wDGet2, wInD, wListRg, wListRgL, wTupRg, wDctNew, wDGet2T, gAtT, wItD, wRevT, wFld, sFldS, sFldA, wMeth, wMake, wRg1, wRg2, wEnum, wZip, wRng3, wIt, wItA, wItT, wRng1, wRng2, wLc, wLcL, wLc2, wYes, wCallK, endsOf, List.set_cons_zero, List.set_cons_succ, List.getElem?_cons_zero, List.getElem?_cons_succ, if_true, if_false, Bool.false_eq_true, reduceIte, decide_eq_true_eq, wipeD, List.length_cons, List.length_nil]
    refine run _ k2 (fun x => hk2 _ _ ?_) _ rfl
    try simp only [sSeq, sAsg, DL.gName, sRet, sRetN, sNext, sIf, sNever, sExpr, sFor, wVar, wC, wOp, wCall, wCons, wNil, wTup, wRol, wTest, wAnd, wOr, wNot, wAndT, wOrT, wNotT, wIf, wUn, gNeg, onB, gI0, gI, gAdd, DL.gSub, gMul_int, gFdiv, gMod, gPow, gShl, gShr, gLt, gLe, gGt, gGe, gEq_int, gNe_int, wChain, wChain3, sPar2, sPar3, DL.gTup, gsCons, gsNil, gInt, gIsN, gNotN, isN_non, isN_tup, isN_rol, isN_int, isN_str, isN_bl, isN_loc, wSl, wNo, wSo, gSl, gRep, gRepL, wDGet1, wDGet2, wInD, wListRg, wListRgL, wTupRg, wDctNew, wDGet2T, gAtT, wItD, wRevT, wFld, sFldS, sFldA, wMeth, wMake, wRg1, wRg2, wEnum, wZip, wRng3, wIt, wItA, wItT, wRng1, wRng2, wLc, wLcL, wLc2, wYes, wCallK, endsOf, List.set_cons_zero, List.set_cons_succ, List.getElem?_cons_zero, List.getElem?_cons_succ, if_true, if_false, Bool.false_eq_true, reduceIte, decide_eq_true_eq, wipeD, List.length_cons, List.length_nil]
    exact .inr q
theorem nth_up {N M : Nat} {q : Rat} (hN : 0 < N) (hM : 0 < M) (h : Nth N q) (hd : N ∣ M) : Nth M q := by
  obtain ⟨m, rfl⟩ := hd
  exact h.up hN (Nat.pos_of_ne_zero (by rintro rfl; simp at hM))
theorem Tab.up {N n M : Nat} {t : List Rat} (h : Tab N n t) (hM : 0 < M) (hd : N ∣ M) (hb : M ≤ 2 ^ 880) : Tab M n t := ⟨hM, hb, h.n1, h.n8, h.len, h.pos, h.sum, fun p hp => nth_up h.n0 hM (h.nth p hp) hd⟩
theorem len_l_deck : ∀ ds S Q, c_l_deck ds S Q → ds.length = 2 := by rintro _ _ _ ⟨_, rfl, _⟩; rfl
theorem spec_l_deck : ∀ ds S Q, CloS S → Bels S.length ds → c_l_deck ds S Q → w_l_deck (endsOf S.length Q) (startD N_l_deck ds) S := by
  rintro _ _ Q hc hb ⟨ns, rfl, rfl, hl, q⟩
  have cut : DL.cutD (ns.map D.int) none (some 63) = ns.map D.int := cutD_whole ⟨by unfold HT.sIx; simp, by unfold HT.sIx; simp; omega⟩
  rw [st_l_deck]
  unfold w_l_deck
  refine seq_k fun k1 hk1 => ?_
  try simp only [sAsg, DL.gName, sRet, sRetN, sNext, sIf, sNever, sExpr, sFor, wVar, wC, wOp, wCall, wCons, wNil, wTup, wRol, wTest, wAnd, wOr, wNot, wAndT, wOrT, wNotT, wIf, wUn, gNeg, onB, gI0, gI, gAdd, DL.gSub, gMul_int, gFdiv, gMod, gPow, gShl, gShr, gLt, gLe, gGt, gGe, gEq_int, gNe_int, wChain, wChain3, sPar2, sPar3, DL.gTup, gsCons, gsNil, gInt, gIsN, gNotN, isN_non, isN_tup, isN_rol, isN_int, isN_str, isN_bl, isN_loc, wSl, wNo, wSo, gSl, gRep, gRepL, wDGet1, wDGet2, wInD, wListRg, wListRgL, wTupRg, wDctNew, wDGet2T, gAtT, wItD, wRevT, wFld, sFldS, sFldA, wMeth, wMake, wRg1, wRg2, wEnum, wZip, wRng3, wIt, wItA, wItT, wRng1, wRng2, wLc, wLcL, wLc2, wYes, wCallK, endsOf, List.set_cons_zero, List.set_cons_succ, List.getElem?_cons_zero, List.getElem?_cons_succ, if_true, if_false, Bool.false_eq_true, reduceIte, decide_eq_true_eq, wipeD, List.length_cons, List.length_nil]
  refine hk1 _ _ (seq_k fun k2 hk2 => ?_)
  clear hk1
  try simp only [sAsg, DL.gName, sRet, sRetN, sNext, sIf, sNever, sExpr, sFor, wVar, wC, wOp, wCall, wCons, wNil, wTup, wRol, wTest, wAnd, wOr, wNot, wAndT, wOrT, wNotT, wIf, wUn, gNeg, onB, gI0, gI, gAdd, DL.gSub, gMul_int, gFdiv, gMod, gPow, gShl, gShr, gLt, gLe, gGt, gGe, gEq_int, gNe_int, wChain, wChain3, sPar2, sPar3, DL.gTup, gsCons, gsNil, gInt, gIsN, gNotN, isN_non, isN_tup, isN_rol, isN_int, isN_str, isN_bl, isN_loc, wSl, wNo, wSo, gSl, gRep, gRepL, wDGet1, wDGet2, wInD, wListRg, wListRgL, wTupRg, wDctNew, wDGet2T, gAtT, wItD, wRevT, wFld, sFldS, sFldA, wMeth, wMake, wRg1, wRg2, wEnum, wZip, wRng3, wIt, wItA, wItT, wRng1, wRng2, wLc, wLcL, wLc2, wYes, wCallK, endsOf, List.set_cons_zero, List.set_cons_succ, List.getElem?_cons_zero, List.getElem?_cons_succ, if_true, if_false, Bool.false_eq_true, reduceIte, decide_eq_true_eq, wipeD, List.length_cons, List.length_nil, rdL]
  refine ⟨_, rfl, ?_⟩
  rw [cut]
  refine wFor_inv (fun i ρ S' => S' = [] ∧ ∃ (m : Int) (x : Option D), 0 ≤ m ∧ m < 2 ^ 32 ∧ ρ = [some (.fro (ns.map D.int)), some (.int 3), some (.int m), x]) _ ⟨rfl, _, none, by decide, by decide, rfl⟩ ?_ ?_
  · rintro i d k hd hk _ _ ⟨rfl, m, x, h1, h2, rfl⟩
    obtain ⟨c, hc2, rfl⟩ : ∃ c, ns[i]? = some c ∧ d = .int c := by
      rw [List.getElem?_map] at hd
      cases e : ns[i]? with
      | none => rw [e] at hd; cases hd
      | some c => rw [e] at hd; exact ⟨c, rfl, (Option.some.inj hd).symm⟩
    refine ⟨gd0, ?_⟩
    try simp only [sAsg, DL.gName, sRet, sRetN, sNext, sIf, sNever, sExpr, sFor, wVar, wC, wOp, wCall, wCons, wNil, wTup, wRol, wTest, wAnd, wOr, wNot, wAndT, wOrT, wNotT, wIf, wUn, gNeg, onB, gI0, gI, gAdd, DL.gSub, gMul_int, gFdiv, gMod, gPow, gShl, gShr, gLt, gLe, gGt, gGe, gEq_int, gNe_int, wChain, wChain3, sPar2, sPar3, DL.gTup, gsCons, gsNil, gInt, gIsN, gNotN, isN_non, isN_tup, isN_rol, isN_int, isN_str, isN_bl, isN_loc, wSl, wNo, wSo, gSl, gRep, gRepL, wDGet1, wDGet2, wInD, wListRg, wListRgL, wTupRg, wDctNew, wDGet2T, gAtT, wItD, wRevT, wFld, sFldS, sFldA, wMeth, wMake, wRg1, wRg2, wEnum, wZip, wRng3, wIt, wItA, wItT, wRng1, wRng2, wLc, wLcL, wLc2, wYes, wCallK, endsOf, List.set_cons_zero, List.set_cons_succ, List.getElem?_cons_zero, List.getElem?_cons_succ, if_true, if_false, Bool.false_eq_true, reduceIte, decide_eq_true_eq, wipeD, List.length_cons, List.length_nil]
    refine ⟨mulOk (by omega) (by omega) (by decide) (by decide), by decide, by decide, hk _ _ ⟨rfl, _, _, Int.emod_nonneg _ (by decide), Int.lt_trans (Int.emod_lt_of_pos _ (by decide)) (by decide), rfl⟩⟩
  · rintro _ _ ⟨rfl, m, x, h1, h2, rfl⟩
    refine ⟨gd0, hk2 _ _ ?_⟩
    try simp only [sAsg, DL.gName, sRet, sRetN, sNext, sIf, sNever, sExpr, sFor, wVar, wC, wOp, wCall, wCons, wNil, wTup, wRol, wTest, wAnd, wOr, wNot, wAndT, wOrT, wNotT, wIf, wUn, gNeg, onB, gI0, gI, gAdd, DL.gSub, gMul_int, gFdiv, gMod, gPow, gShl, gShr, gLt, gLe, gGt, gGe, gEq_int, gNe_int, wChain, wChain3, sPar2, sPar3, DL.gTup, gsCons, gsNil, gInt, gIsN, gNotN, isN_non, isN_tup, isN_rol, isN_int, isN_str, isN_bl, isN_loc, wSl, wNo, wSo, gSl, gRep, gRepL, wDGet1, wDGet2, wInD, wListRg, wListRgL, wTupRg, wDctNew, wDGet2T, gAtT, wItD, wRevT, wFld, sFldS, sFldA, wMeth, wMake, wRg1, wRg2, wEnum, wZip, wRng3, wIt, wItA, wItT, wRng1, wRng2, wLc, wLcL, wLc2, wYes, wCallK, endsOf, List.set_cons_zero, List.set_cons_succ, List.getElem?_cons_zero, List.getElem?_cons_succ, if_true, if_false, Bool.false_eq_true, reduceIte, decide_eq_true_eq, wipeD, List.length_cons, List.length_nil, gListOf, rdL, wRevL, wDict, wPairs]
    refine ⟨_, rfl, _, rfl, _, rfl, ?_⟩
    rw [cut]
    refine ⟨_, rfl, by decide, .inr (q _ ⟨ns.reverse, m, 0, h1, h2, by omega, by omega, by rw [List.length_reverse]; omega, ?_⟩)⟩
    rw [← List.map_reverse]
    rfl
theorem law_true (ns : List Int) (h : ns.length ≤ 63) : c_law [.fro (ns.map D.int)] [] (fun d _ => d = .bl true) := ⟨ns, rfl, rfl, h, fun _ => rfl⟩
/-! ## gaps and distances -/
theorem gap_nn (f g : Rat) : 0 ≤ gapR f g := by unfold gapR; split <;> grind
theorem gap_l (f g : Rat) : f - g ≤ gapR f g := by unfold gapR; split <;> grind
theorem gap_r (f g : Rat) : g - f ≤ gapR f g := by unfold gapR; split <;> grind
theorem gap_comm (f g : Rat) : gapR f g = gapR g f := by unfold gapR; split <;> split <;> grind
theorem gap_le {f g c : Rat} (h1 : f - g ≤ c) (h2 : g - f ≤ c) : gapR f g ≤ c := by unfold gapR; split <;> assumption
theorem gap_tri (f g h : Rat) : gapR f h ≤ gapR f g + gapR g h := by
  have := gap_l f g; have := gap_r f g; have := gap_l g h; have := gap_r g h
  exact gap_le (by grind) (by grind)
theorem gap_zero {f g : Rat} : gapR f g = 0 ↔ f = g := by unfold gapR; split <;> grind
theorem gap_mul {c f g : Rat} (hc : 0 ≤ c) : gapR (c * f) (c * g) = c * gapR f g := by
  have e1 : c * f - c * g = c * (f - g) := by grind
  have e2 : c * g - c * f = c * (g - f) := by grind
  by_cases h : f < g
  · have h1 : gapR f g = g - f := by unfold gapR; rw [if_pos h]
    have h2 : c * f ≤ c * g := Rat.mul_le_mul_of_nonneg_left (by grind) hc
    rw [h1, ← e2]
    unfold gapR
    split <;> grind
  · have h1 : gapR f g = f - g := by unfold gapR; rw [if_neg h]
    have h2 : c * g ≤ c * f := Rat.mul_le_mul_of_nonneg_left (by grind) hc
    rw [h1, ← e1]
    unfold gapR
    split <;> grind
theorem sm_sub (n : Nat) (f g : Nat → Rat) : sm n (fun i => f i - g i) = sm n f - sm n g := by
  induction n with
  | zero => show (0 : Rat) = 0 - 0; grind
  | succ n ih => show sm n (fun i => f i - g i) + (f n - g n) = sm n f + f n - (sm n g + g n); rw [ih]; grind
theorem sm_eq0 {n : Nat} {f : Nat → Rat} (h : ∀ i, i < n → 0 ≤ f i) (e : sm n f = 0) : ∀ i, i < n → f i = 0 := by
  induction n with
  | zero => intro i hi; omega
  | succ n ih =>
    have e : sm n f + f n = 0 := e
    have h1 := sm_nonneg (n := n) (f := f) fun i hi => h i (by omega)
    have h2 := h n (by omega)
    intro i hi
    by_cases z : i = n
    · subst z; grind
    · exact ih (fun i hi => h i (by omega)) (by grind) i (by omega)
/-- the difference of two tables over a lot -/
def difF (n : Nat) (a b : List Rat) (p : Nat → Bool) : Rat := sm n fun i => iteR (p i) (gF a i - gF b i)
def gsF (n : Nat) (a b : List Rat) : Rat := sm n fun i => gapR (gF a i) (gF b i)
section
variable {n : Nat} {a b : List Rat}
theorem dif_eq (p : Nat → Bool) (ha : a.length = n) (hb : b.length = n) : difF n a b p = chF a p - chF b p := by
  unfold difF chF
  rw [ha, hb, ← sm_sub]
  refine sm_congr fun i _ => ?_
  cases p i
  · show (0 : Rat) = 0 - 0; grind
  · rfl
theorem dif_not (h : sm n (gF a) = sm n (gF b)) (p : Nat → Bool) : difF n a b (fun i => !p i) = - difF n a b p := by
  have e : difF n a b p + difF n a b (fun i => !p i) = 0 := by
    unfold difF
    rw [← sm_add]
    have : (fun i => iteR (p i) (gF a i - gF b i) + iteR (!p i) (gF a i - gF b i)) = fun i => gF a i - gF b i := by
      funext i
      cases p i
      · show 0 + (gF a i - gF b i) = _; grind
      · show (gF a i - gF b i) + 0 = _; grind
    rw [this, sm_sub, h]
    grind
  grind
theorem gs_above (h : sm n (gF a) = sm n (gF b)) : gsF n a b = 2 * difF n a b (aboveF a b) := by
  have e := dif_not h (aboveF a b)
  have : gsF n a b = difF n a b (aboveF a b) - difF n a b (fun i => !aboveF a b i) := by
    unfold gsF difF
    rw [← sm_sub]
    refine sm_congr fun i _ => ?_
    unfold aboveF gapR
    by_cases z : gF b i < gF a i
    · rw [if_neg (by grind)]
      simp only [decide_eq_true z, Bool.not_true, iteT, iteF]
      grind
    · simp only [decide_eq_false z, Bool.not_false, iteT, iteF]
      split <;> grind
  rw [this, e]
  grind
theorem dif_le_above (p : Nat → Bool) : difF n a b p ≤ difF n a b (aboveF a b) := by
  unfold difF
  refine sm_le fun i _ => ?_
  unfold aboveF
  by_cases z : gF b i < gF a i
  · rw [decide_eq_true z]
    show iteR (p i) _ ≤ gF a i - gF b i
    exact ite_le _ (by grind)
  · rw [decide_eq_false z]
    show iteR (p i) _ ≤ 0
    cases p i
    · exact Rat.le_refl
    · show gF a i - gF b i ≤ 0; grind
end
theorem half_two (x : Rat) : mkRat 1 2 * (2 * x) = x := by
  have : mkRat 1 2 * 2 = 1 := by decide +kernel
  grind
theorem Two.len {n : Nat} {a b : List Rat} (h : Two n a b) : a.length = n ∧ b.length = n := by
  obtain ⟨N, M, h1, h2, _⟩ := h.ex
  exact ⟨h1.len, h2.len⟩
theorem Two.one {n : Nat} {a b : List Rat} (h : Two n a b) : sm n (gF a) = sm n (gF b) := by
  obtain ⟨N, M, h1, h2, _⟩ := h.ex
  rw [h1.one, h2.one]
theorem Two.swap {n : Nat} {a b : List Rat} (h : Two n a b) : Two n b a := by
  obtain ⟨N, M, h1, h2, h3⟩ := h.ex
  exact ⟨M, N, h2, h1, by rw [Nat.mul_comm]; exact h3⟩
theorem dist_gs {n : Nat} {a b : List Rat} (ha : a.length = n) : distF a b = mkRat 1 2 * gsF n a b := by unfold distF gsF; rw [ha]
theorem dist_above {n : Nat} {a b : List Rat} (h : Two n a b) : distF a b = chF a (aboveF a b) - chF b (aboveF a b) := by
  rw [dist_gs h.len.1, gs_above h.one, half_two, dif_eq _ h.len.1 h.len.2]
theorem dist_lot {n : Nat} {a b : List Rat} (h : Two n a b) (p : Nat → Bool) : gapR (chF a p) (chF b p) ≤ distF a b := by
  have e1 := dif_eq p h.len.1 h.len.2
  have e2 := dif_le_above (n := n) (a := a) (b := b) p
  have e3 := dif_le_above (n := n) (a := a) (b := b) fun i => !p i
  have e4 := dif_not h.one p
  rw [dist_above h, ← dif_eq _ h.len.1 h.len.2]
  exact gap_le (by grind) (by grind)
theorem dist_nn (a b : List Rat) : 0 ≤ distF a b := by
  unfold distF
  exact Rat.mul_nonneg (by decide +kernel) (sm_nonneg fun i _ => gap_nn _ _)
theorem dist_more {n : Nat} {a b : List Rat} (h : Two n a b) : gapR (chF a (aboveF a b)) (chF b (aboveF a b)) = distF a b := by
  have h1 := dist_above h
  have h2 := dist_nn a b
  unfold gapR
  split <;> grind
theorem dist_comm {n : Nat} {a b : List Rat} (h : Two n a b) : distF b a = distF a b := by
  rw [dist_gs h.len.1, dist_gs h.len.2]
  unfold gsF
  rw [sm_congr fun i _ => gap_comm (gF b i) (gF a i)]
theorem chF_le1 {N n : Nat} {t : List Rat} (ok : Tab N n t) (p : Nat → Bool) : 0 ≤ chF t p ∧ chF t p ≤ 1 := ⟨(chF_ok ok p).1, (chF_ok ok p).2.1⟩
theorem dist_le1 {n : Nat} {a b : List Rat} (h : Two n a b) : distF a b ≤ 1 := by
  obtain ⟨N, M, h1, h2, _⟩ := h.ex
  rw [dist_above h]
  have := chF_le1 h1 (aboveF a b)
  have := chF_le1 h2 (aboveF a b)
  grind
theorem gF_ext {a b : List Rat} (h : a.length = b.length) (e : ∀ i, i < a.length → gF a i = gF b i) : a = b := by
  rw [← tF_gF a, ← tF_gF b, ← h]
  exact tF_congr e
theorem dist_zero {n : Nat} {a b : List Rat} (h : Two n a b) : distF a b = 0 ↔ a = b := by
  constructor
  · intro z
    rw [dist_gs h.len.1] at z
    have z2 : gsF n a b = 0 := by
      have : gsF n a b = 2 * (mkRat 1 2 * gsF n a b) := by
        have : mkRat 1 2 * 2 = 1 := by decide +kernel
        grind
      rw [this, z]; grind
    refine gF_ext (by rw [h.len.1, h.len.2]) fun i hi => ?_
    rw [h.len.1] at hi
    exact gap_zero.mp (sm_eq0 (fun i _ => gap_nn _ _) z2 i hi)
  · rintro rfl
    rw [dist_gs h.len.1]
    have : gsF n a a = 0 := sm_zero fun i _ => gap_zero.mpr rfl
    rw [this]; grind
theorem dist_tri {n : Nat} {a b c : List Rat} (h : Two n a b) (g : Two n c b) : distF a b ≤ distF a c + distF c b := by
  rw [dist_gs h.len.1, dist_gs h.len.1, dist_gs g.len.1, ← Rat.mul_add]
  refine Rat.mul_le_mul_of_nonneg_left ?_ (by decide +kernel)
  unfold gsF
  rw [← sm_add]
  exact sm_le fun i _ => gap_tri _ _ _
theorem gap_ite (q : Bool) (x y : Rat) : gapR (iteR q x) (iteR q y) = iteR q (gapR x y) := by
  cases q
  · exact gap_zero.mpr rfl
  · rfl
theorem gap_sm (n : Nat) (f g : Nat → Rat) : gapR (sm n f) (sm n g) ≤ sm n fun i => gapR (f i) (g i) := by
  refine gap_le ?_ ?_
  · rw [← sm_sub]; exact sm_le fun i _ => gap_l _ _
  · rw [← sm_sub]; exact sm_le fun i _ => gap_r _ _
theorem dist_ren {n : Nat} {a b : List Rat} {ns : List Nat} {k : Nat} (ha : a.length = n) (hb : b.length = n) (hk : ∀ i, i < n → ns.getD i 0 < k) : distF (renF a ns k) (renF b ns k) ≤ distF a b := by
  rw [dist_gs ha, dist_gs (renF_len a ns k)]
  refine Rat.mul_le_mul_of_nonneg_left ?_ (by decide +kernel)
  unfold gsF
  have h1 : sm k (fun j => gapR (gF (renF a ns k) j) (gF (renF b ns k) j)) ≤ sm k fun j => sm n fun i => iteR (decide (ns.getD i 0 = j)) (gapR (gF a i) (gF b i)) := by
    refine sm_le fun j hj => ?_
    rw [renF_at hj, renF_at hj, ha, hb]
    refine Rat.le_trans (gap_sm _ _ _) ?_
    rw [sm_congr fun i _ => gap_ite _ _ _]
    exact Rat.le_refl
  refine Rat.le_trans h1 ?_
  rw [sm_comm]
  rw [sm_congr fun i hi => sm_one' (hk i hi) fun _ => gapR (gF a i) (gF b i)]
  exact Rat.le_refl
def halfT : List Rat := [mkRat 1 2, mkRat 1 2]
theorem dist_mix {n : Nat} {a b c : List Rat} (ha : a.length = n) : distF (mixF halfT [a, c] n) (mixF halfT [b, c] n) = mkRat 1 2 * distF a b := by
  have el : (mixF halfT [a, c] n).length = n := tF_len _ _
  rw [dist_gs ha, dist_gs el]
  congr 1
  unfold gsF
  rw [← sm_mul]
  refine sm_congr fun i hi => ?_
  have e : ∀ u : List Rat, gF (mixF halfT [u, c] n) i = mkRat 1 2 * gF u i + mkRat 1 2 * gF c i := fun u => by
    unfold mixF
    rw [gF_tF hi]
    show sm 2 _ = _
    rw [sm_two]
    rfl
  rw [e, e]
  have : gapR (mkRat 1 2 * gF a i + mkRat 1 2 * gF c i) (mkRat 1 2 * gF b i + mkRat 1 2 * gF c i) = gapR (mkRat 1 2 * gF a i) (mkRat 1 2 * gF b i) := by
    unfold gapR
    split <;> split <;> grind
  rw [this, gap_mul (by decide +kernel)]
theorem dist_bes {n : Nat} {a b : List Rat} (ha : a.length = n) (hb : b.length = n) : distF (besF a halfT) (besF b halfT) = distF a b := by
  have el : (besF a halfT).length = n * 2 := by rw [besF_len, ha]; rfl
  rw [dist_gs ha, dist_gs el]
  congr 1
  unfold gsF
  have e : ∀ k, k < n * 2 → gapR (gF (besF a halfT) k) (gF (besF b halfT) k) = (fun i (_ : Nat) => mkRat 1 2 * gapR (gF a i) (gF b i)) (k / 2) (k % 2) := fun k hk => by
    have h1 : gF halfT (k % 2) = mkRat 1 2 := by
      rcases Nat.mod_two_eq_zero_or_one k with h | h <;> rw [h] <;> rfl
    have l2 : halfT.length = 2 := rfl
    rw [besF_at (by rw [ha]; exact hk), besF_at (by rw [hb]; exact hk), l2, h1, Rat.mul_comm _ (mkRat 1 2), Rat.mul_comm _ (mkRat 1 2), gap_mul (by decide +kernel)]
  rw [sm_congr e, sm_prod n 2 fun i _ => mkRat 1 2 * gapR (gF a i) (gF b i)]
  refine sm_congr fun i _ => ?_
  rw [sm_two]
  have : mkRat 1 2 + mkRat 1 2 = 1 := by decide +kernel
  grind
theorem mul_big {i j : Int} (h1 : i.natAbs < 2 ^ 1374) (h2 : j.natAbs < 2 ^ 1374) : CMulX i j := mulx_ok h1 h2 (by decide)
theorem num_16 {f : Rat} (h0 : 0 ≤ f) (h1 : f ≤ 16) : 0 ≤ f.num ∧ f.num ≤ 16 * f.den := by
  have e : f = mkRat f.num f.den := (Rat.mkRat_self f).symm
  refine ⟨Rat.num_nonneg.mpr h0, ?_⟩
  have h1 : mkRat f.num f.den ≤ mkRat 16 1 := by rw [← e]; exact h1
  have := (mk_le f.den_pos (by decide)).mp h1
  omega
theorem len_l_sum : ∀ ds S Q, c_l_sum ds S Q → ds.length = 1 := by rintro _ _ _ ⟨_, rfl, _⟩; rfl
theorem spec_l_sum : ∀ ds S Q, CloS S → Bels S.length ds → c_l_sum ds S Q → w_l_sum (endsOf S.length Q) (startD N_l_sum ds) S := by
  rintro _ S Q hc hb ⟨fs, rfl, ⟨s1, s2, s3⟩, q⟩
  rw [st_l_sum]
  unfold w_l_sum
  refine seq_k fun k1 hk1 => ?_
  try simp only [sAsg, DL.gName, sRet, sRetN, sNext, sIf, sNever, sExpr, sFor, wVar, wC, wOp, wCall, wCons, wNil, wTup, wRol, wTest, wAnd, wOr, wNot, wAndT, wOrT, wNotT, wIf, wUn, gNeg, onB, gI0, gI, gAdd, DL.gSub, gMul_int, gFdiv, gMod, gPow, gShl, gShr, gLt, gLe, gGt, gGe, gEq_int, gNe_int, wChain, wChain3, sPar2, sPar3, DL.gTup, gsCons, gsNil, gInt, gIsN, gNotN, isN_non, isN_tup, isN_rol, isN_int, isN_str, isN_bl, isN_loc, wSl, wNo, wSo, gSl, gRep, gRepL, wDGet1, wDGet2, wInD, wListRg, wListRgL, wTupRg, wDctNew, wDGet2T, gAtT, wItD, wRevT, wFld, sFldS, sFldA, wMeth, wMake, wRg1, wRg2, wEnum, wZip, wRng3, wIt, wItA, wItT, wRng1, wRng2, wLc, wLcL, wLc2, wYes, wCallK, endsOf, List.set_cons_zero, List.set_cons_succ, List.getElem?_cons_zero, List.getElem?_cons_succ, if_true, if_false, Bool.false_eq_true, reduceIte, decide_eq_true_eq, wipeD, List.length_cons, List.length_nil]
  refine ⟨le1000 (by decide), by trivial, hk1 _ _ (seq_k fun k2 hk2 => ?_)⟩
  clear hk1
  try simp only [sAsg, DL.gName, sRet, sRetN, sNext, sIf, sNever, sExpr, sFor, wVar, wC, wOp, wCall, wCons, wNil, wTup, wRol, wTest, wAnd, wOr, wNot, wAndT, wOrT, wNotT, wIf, wUn, gNeg, onB, gI0, gI, gAdd, DL.gSub, gMul_int, gFdiv, gMod, gPow, gShl, gShr, gLt, gLe, gGt, gGe, gEq_int, gNe_int, wChain, wChain3, sPar2, sPar3, DL.gTup, gsCons, gsNil, gInt, gIsN, gNotN, isN_non, isN_tup, isN_rol, isN_int, isN_str, isN_bl, isN_loc, wSl, wNo, wSo, gSl, gRep, gRepL, wDGet1, wDGet2, wInD, wListRg, wListRgL, wTupRg, wDctNew, wDGet2T, gAtT, wItD, wRevT, wFld, sFldS, sFldA, wMeth, wMake, wRg1, wRg2, wEnum, wZip, wRng3, wIt, wItA, wItT, wRng1, wRng2, wLc, wLcL, wLc2, wYes, wCallK, endsOf, List.set_cons_zero, List.set_cons_succ, List.getElem?_cons_zero, List.getElem?_cons_succ, if_true, if_false, Bool.false_eq_true, reduceIte, decide_eq_true_eq, wipeD, List.length_cons, List.length_nil]
  refine wFor_inv (fun i ρ S' => S' = S ∧ ∃ (a b : Nat) (x : Option D), ρ = [some (.rol (fs.map frD)), some (.int a), some (.int b), x] ∧ 0 < b ∧ b ≤ (2 ^ 170) ^ i ∧ (fs.take i).sum = mkRat a b) _ ⟨rfl, 0, 1, none, rfl, by decide, by decide, by simp⟩ ?_ ?_
  · rintro i d k hd hk _ _ ⟨rfl, a, b, x, rfl, b0, bL, e⟩
    obtain ⟨f, hf, rfl⟩ := frs_get hd
    have hi : i < fs.length := (List.getElem?_eq_some_iff.mp hf).1
    have hfm := List.mem_of_getElem? hf
    obtain ⟨f0, fd⟩ := s1 f hfm
    refine ⟨gd0, ?_⟩
    have hs1 : mkRat a b ≤ mkRat 16 1 := by
      rw [← e]
      exact Rat.le_trans (sums_in (fun f hf => (s1 f hf).1) i).2 s3
    have ab : (a : Int) ≤ 16 * b := by
      have := (mk_le b0 (by decide)).mp hs1
      omega
    have bb : b < 2 ^ 1370 := Nat.lt_of_le_of_lt (Nat.le_trans bL (Nat.pow_le_pow_right (by decide) (show i ≤ 8 by omega))) (by rw [← Nat.pow_mul]; exact Nat.pow_lt_pow_right (by decide) (by decide))
    have fb : f.den < 2 ^ 1370 := Nat.lt_of_le_of_lt fd (by decide +kernel)
    have p4 : (2 : Nat) ^ 1374 = 16 * 2 ^ 1370 := by rw [show 1374 = 1370 + 4 from rfl, Nat.pow_add, Nat.mul_comm]
    obtain ⟨g0, g1⟩ := num_16 f0 (Rat.le_trans (one_in (fun f hf => (s1 f hf).1) hfm) s3)
    have ma : (a : Int).natAbs < 2 ^ 1374 := by omega
    have mb : (b : Int).natAbs < 2 ^ 1374 := by omega
    have mf : f.num.natAbs < 2 ^ 1374 := by omega
    have md : (f.den : Int).natAbs < 2 ^ 1374 := by omega
    refine ⟨_, rfl, mul_big ma md, _, rfl, ?_⟩
    try simp only [sAsg, DL.gName, sRet, sRetN, sNext, sIf, sNever, sExpr, sFor, wVar, wC, wOp, wCall, wCons, wNil, wTup, wRol, wTest, wAnd, wOr, wNot, wAndT, wOrT, wNotT, wIf, wUn, gNeg, onB, gI0, gI, gAdd, DL.gSub, gMul_int, gFdiv, gMod, gPow, gShl, gShr, gLt, gLe, gGt, gGe, gEq_int, gNe_int, wChain, wChain3, sPar2, sPar3, DL.gTup, gsCons, gsNil, gInt, gIsN, gNotN, isN_non, isN_tup, isN_rol, isN_int, isN_str, isN_bl, isN_loc, wSl, wNo, wSo, gSl, gRep, gRepL, wDGet1, wDGet2, wInD, wListRg, wListRgL, wTupRg, wDctNew, wDGet2T, gAtT, wItD, wRevT, wFld, sFldS, sFldA, wMeth, wMake, wRg1, wRg2, wEnum, wZip, wRng3, wIt, wItA, wItT, wRng1, wRng2, wLc, wLcL, wLc2, wYes, wCallK, endsOf, List.set_cons_zero, List.set_cons_succ, List.getElem?_cons_zero, List.getElem?_cons_succ, if_true, if_false, Bool.false_eq_true, reduceIte, decide_eq_true_eq, wipeD, List.length_cons, List.length_nil]
    refine ⟨mul_big mf mb, ?_⟩
    try simp only [sAsg, DL.gName, sRet, sRetN, sNext, sIf, sNever, sExpr, sFor, wVar, wC, wOp, wCall, wCons, wNil, wTup, wRol, wTest, wAnd, wOr, wNot, wAndT, wOrT, wNotT, wIf, wUn, gNeg, onB, gI0, gI, gAdd, DL.gSub, gMul_int, gFdiv, gMod, gPow, gShl, gShr, gLt, gLe, gGt, gGe, gEq_int, gNe_int, wChain, wChain3, sPar2, sPar3, DL.gTup, gsCons, gsNil, gInt, gIsN, gNotN, isN_non, isN_tup, isN_rol, isN_int, isN_str, isN_bl, isN_loc, wSl, wNo, wSo, gSl, gRep, gRepL, wDGet1, wDGet2, wInD, wListRg, wListRgL, wTupRg, wDctNew, wDGet2T, gAtT, wItD, wRevT, wFld, sFldS, sFldA, wMeth, wMake, wRg1, wRg2, wEnum, wZip, wRng3, wIt, wItA, wItT, wRng1, wRng2, wLc, wLcL, wLc2, wYes, wCallK, endsOf, List.set_cons_zero, List.set_cons_succ, List.getElem?_cons_zero, List.getElem?_cons_succ, if_true, if_false, Bool.false_eq_true, reduceIte, decide_eq_true_eq, wipeD, List.length_cons, List.length_nil, gIx, frD]
    refine ⟨_, rfl, mul_big mb md, ?_⟩
    have en : ∃ m : Nat, (a : Int) * f.den + f.num * b = m := ⟨((a : Int) * f.den + f.num * b).toNat, by
      have h1 : 0 ≤ (a : Int) * f.den := Int.mul_nonneg (by omega) (by omega)
      have h2 : 0 ≤ f.num * (b : Int) := Int.mul_nonneg g0 (by omega)
      omega⟩
    obtain ⟨m, hm⟩ := en
    rw [hm]
    show k [_, _, some (.int ((b : Int) * (f.den : Int))), _] _
    rw [← Int.natCast_mul]
    refine hk _ _ ⟨rfl, m, b * f.den, _, rfl, Nat.mul_pos b0 f.den_pos, ?_, ?_⟩
    · rw [Nat.pow_succ]
      exact Nat.mul_le_mul bL fd
    · rw [sum_snoc hf, e, ← hm]
      have ef : f = mkRat f.num f.den := (Rat.mkRat_self f).symm
      conv => lhs; rw [ef]
      rw [Rat.mkRat_add_mkRat _ _ (by omega) f.den_nz]
  · rintro _ _ ⟨rfl, a, b, x, rfl, b0, bL, e⟩
    rw [List.length_map] at bL
    rw [List.length_map, List.take_length] at e
    refine ⟨gd0, hk2 _ _ ?_⟩
    try simp only [sSeq, sAsg, DL.gName, sRet, sRetN, sNext, sIf, sNever, sExpr, sFor, wVar, wC, wOp, wCall, wCons, wNil, wTup, wRol, wTest, wAnd, wOr, wNot, wAndT, wOrT, wNotT, wIf, wUn, gNeg, onB, gI0, gI, gAdd, DL.gSub, gMul_int, gFdiv, gMod, gPow, gShl, gShr, gLt, gLe, gGt, gGe, gEq_int, gNe_int, wChain, wChain3, sPar2, sPar3, DL.gTup, gsCons, gsNil, gInt, gIsN, gNotN, isN_non, isN_tup, isN_rol, isN_int, isN_str, isN_bl, isN_loc, wSl, wNo, wSo, gSl, gRep, gRepL, wDGet1, wDGet2, wInD, wListRg, wListRgL, wTupRg, wDctNew, wDGet2T, gAtT, wItD, wRevT, wFld, sFldS, sFldA, wMeth, wMake, wRg1, wRg2, wEnum, wZip, wRng3, wIt, wItA, wItT, wRng1, wRng2, wLc, wLcL, wLc2, wYes, wCallK, endsOf, List.set_cons_zero, List.set_cons_succ, List.getElem?_cons_zero, List.getElem?_cons_succ, if_true, if_false, Bool.false_eq_true, reduceIte, decide_eq_true_eq, wipeD, List.length_cons, List.length_nil]
    have bl : b < 2 ^ 2000 := Nat.lt_of_le_of_lt (Nat.le_trans bL (Nat.pow_le_pow_right (by decide) s2)) (by rw [← Nat.pow_mul]; exact Nat.pow_lt_pow_right (by decide) (by decide))
    refine ⟨a, b, rfl, by omega, by rw [Int.natAbs_natCast]; exact bl, ?_⟩
    rw [Int.toNat_natCast, ← e]
    exact .inr q
theorem len_l_chance : ∀ ds S Q, c_l_chance ds S Q → ds.length = 2 := by rintro _ _ _ ⟨_, _, _, _, rfl, _⟩; rfl
theorem len_l_mixed : ∀ ds S Q, c_l_mixed ds S Q → ds.length = 2 := by rintro _ _ _ ⟨_, _, _, _, _, _, rfl, _⟩; rfl
theorem spec_l_chance : ∀ ds S Q, CloS S → Bels S.length ds → c_l_chance ds S Q → w_l_chance (endsOf S.length Q) (startD N_l_chance ds) S := by
  rintro _ S Q hc hb ⟨N, n, t, p, rfl, ok, hL, q⟩
  have hl := lot_len n p
  have n8 := ok.n8
  have tl := ok.len
  rw [st_l_chance]
  unfold w_l_chance
  try simp only [sSeq, sAsg, DL.gName, sRet, sRetN, sNext, sIf, sNever, sExpr, sFor, wVar, wC, wOp, wCall, wCons, wNil, wTup, wRol, wTest, wAnd, wOr, wNot, wAndT, wOrT, wNotT, wIf, wUn, gNeg, onB, gI0, gI, gAdd, DL.gSub, gMul_int, gFdiv, gMod, gPow, gShl, gShr, gLt, gLe, gGt, gGe, gEq_int, gNe_int, wChain, wChain3, sPar2, sPar3, DL.gTup, gsCons, gsNil, gInt, gIsN, gNotN, isN_non, isN_tup, isN_rol, isN_int, isN_str, isN_bl, isN_loc, wSl, wNo, wSo, gSl, gRep, gRepL, wDGet1, wDGet2, wInD, wListRg, wListRgL, wTupRg, wDctNew, wDGet2T, gAtT, wItD, wRevT, wFld, sFldS, sFldA, wMeth, wMake, wRg1, wRg2, wEnum, wZip, wRng3, wIt, wItA, wItT, wRng1, wRng2, wLc, wLcL, wLc2, wYes, wCallK, endsOf, List.set_cons_zero, List.set_cons_succ, List.getElem?_cons_zero, List.getElem?_cons_succ, if_true, if_false, Bool.false_eq_true, reduceIte, decide_eq_true_eq, wipeD, List.length_cons, List.length_nil, wayD, tabD]
  refine wLc_map (fun (i : Nat) => D.int i) (fun i => frD (gF t i)) (lotF n p) gd0 (le1000 (by omega)) (fun i hi k k0 y => ?_) ?_
  · have := (lot_mem.mp hi).1
    try simp only [sAsg, DL.gName, sRet, sRetN, sNext, sIf, sNever, sExpr, sFor, wVar, wC, wOp, wCall, wCons, wNil, wTup, wRol, wTest, wAnd, wOr, wNot, wAndT, wOrT, wNotT, wIf, wUn, gNeg, onB, gI0, gI, gAdd, DL.gSub, gMul_int, gFdiv, gMod, gPow, gShl, gShr, gLt, gLe, gGt, gGe, gEq_int, gNe_int, wChain, wChain3, sPar2, sPar3, DL.gTup, gsCons, gsNil, gInt, gIsN, gNotN, isN_non, isN_tup, isN_rol, isN_int, isN_str, isN_bl, isN_loc, wSl, wNo, wSo, gSl, gRep, gRepL, wDGet1, wDGet2, wInD, wListRg, wListRgL, wTupRg, wDctNew, wDGet2T, gAtT, wItD, wRevT, wFld, sFldS, sFldA, wMeth, wMake, wRg1, wRg2, wEnum, wZip, wRng3, wIt, wItA, wItT, wRng1, wRng2, wLc, wLcL, wLc2, wYes, wCallK, endsOf, List.set_cons_zero, List.set_cons_succ, List.getElem?_cons_zero, List.getElem?_cons_succ, if_true, if_false, Bool.false_eq_true, reduceIte, decide_eq_true_eq, wipeD, List.length_cons, List.length_nil, gIx]
    exact ⟨_, frs_at (by omega), y⟩
  have hpk := pick_ok ok p
  have e : (lotF n p).map (fun i => frD (gF t i)) = ((lotF n p).map (gF t)).map frD := by rw [List.map_map]; rfl
  rw [← lot_sum] at hpk
  rw [e]
  refine ⟨_, rfl, ⟨fun f hf => ?_, by rw [List.length_map]; omega, Rat.le_trans hpk.2.1 (by decide)⟩, ?_⟩
  · obtain ⟨i, hi, rfl⟩ := List.mem_map.mp hf
    exact ⟨ok.at0 (lot_mem.mp hi).1, hL _ (gF_mem (by rw [tl]; exact (lot_mem.mp hi).1))⟩
  · rw [lot_sum]
    have : chF t p = sm n fun i => iteR (p i) (gF t i) := by unfold chF; rw [tl]
    rw [← this]
    exact .inr q
theorem spec_l_mixed : ∀ ds S Q, CloS S → Bels S.length ds → c_l_mixed ds S Q → w_l_mixed (endsOf S.length Q) (startD N_l_mixed ds) S := by
  rintro _ S Q hc hb ⟨N, n, M, m, t, ts, rfl, ok, hl, hts, hb, hL, hLs, q⟩
  have mx : Mix N n M m t ts := ⟨ok, hl, hts, hb⟩
  have n8 := ok.n8
  have n1 := ok.n1
  have tl := ok.len
  have ml := mx.m0.len
  have m8 := mx.m0.n8
  rw [st_l_mixed]
  unfold w_l_mixed
  refine seq_k fun k1 hk1 => ?_
  try simp only [sAsg, DL.gName, sRet, sRetN, sNext, sIf, sNever, sExpr, sFor, wVar, wC, wOp, wCall, wCons, wNil, wTup, wRol, wTest, wAnd, wOr, wNot, wAndT, wOrT, wNotT, wIf, wUn, gNeg, onB, gI0, gI, gAdd, DL.gSub, gMul_int, gFdiv, gMod, gPow, gShl, gShr, gLt, gLe, gGt, gGe, gEq_int, gNe_int, wChain, wChain3, sPar2, sPar3, DL.gTup, gsCons, gsNil, gInt, gIsN, gNotN, isN_non, isN_tup, isN_rol, isN_int, isN_str, isN_bl, isN_loc, wSl, wNo, wSo, gSl, gRep, gRepL, wDGet1, wDGet2, wInD, wListRg, wListRgL, wTupRg, wDctNew, wDGet2T, gAtT, wItD, wRevT, wFld, sFldS, sFldA, wMeth, wMake, wRg1, wRg2, wEnum, wZip, wRng3, wIt, wItA, wItT, wRng1, wRng2, wLc, wLcL, wLc2, wYes, wCallK, endsOf, List.set_cons_zero, List.set_cons_succ, List.getElem?_cons_zero, List.getElem?_cons_succ, if_true, if_false, Bool.false_eq_true, reduceIte, decide_eq_true_eq, wipeD, List.length_cons, List.length_nil]
  refine ⟨Nat.zero_le _, hk1 _ _ (seq_k fun k2 hk2 => ?_)⟩
  clear hk1
  try simp only [sAsg, DL.gName, sRet, sRetN, sNext, sIf, sNever, sExpr, sFor, wVar, wC, wOp, wCall, wCons, wNil, wTup, wRol, wTest, wAnd, wOr, wNot, wAndT, wOrT, wNotT, wIf, wUn, gNeg, onB, gI0, gI, gAdd, DL.gSub, gMul_int, gFdiv, gMod, gPow, gShl, gShr, gLt, gLe, gGt, gGe, gEq_int, gNe_int, wChain, wChain3, sPar2, sPar3, DL.gTup, gsCons, gsNil, gInt, gIsN, gNotN, isN_non, isN_tup, isN_rol, isN_int, isN_str, isN_bl, isN_loc, wSl, wNo, wSo, gSl, gRep, gRepL, wDGet1, wDGet2, wInD, wListRg, wListRgL, wTupRg, wDctNew, wDGet2T, gAtT, wItD, wRevT, wFld, sFldS, sFldA, wMeth, wMake, wRg1, wRg2, wEnum, wZip, wRng3, wIt, wItA, wItT, wRng1, wRng2, wLc, wLcL, wLc2, wYes, wCallK, endsOf, List.set_cons_zero, List.set_cons_succ, List.getElem?_cons_zero, List.getElem?_cons_succ, if_true, if_false, Bool.false_eq_true, reduceIte, decide_eq_true_eq, wipeD, List.length_cons, List.length_nil, gIx, gLen]
  refine ⟨_, tabs_at (by omega), ?_⟩
  try simp only [sAsg, DL.gName, sRet, sRetN, sNext, sIf, sNever, sExpr, sFor, wVar, wC, wOp, wCall, wCons, wNil, wTup, wRol, wTest, wAnd, wOr, wNot, wAndT, wOrT, wNotT, wIf, wUn, gNeg, onB, gI0, gI, gAdd, DL.gSub, gMul_int, gFdiv, gMod, gPow, gShl, gShr, gLt, gLe, gGt, gGe, gEq_int, gNe_int, wChain, wChain3, sPar2, sPar3, DL.gTup, gsCons, gsNil, gInt, gIsN, gNotN, isN_non, isN_tup, isN_rol, isN_int, isN_str, isN_bl, isN_loc, wSl, wNo, wSo, gSl, gRep, gRepL, wDGet1, wDGet2, wInD, wListRg, wListRgL, wTupRg, wDctNew, wDGet2T, gAtT, wItD, wRevT, wFld, sFldS, sFldA, wMeth, wMake, wRg1, wRg2, wEnum, wZip, wRng3, wIt, wItA, wItT, wRng1, wRng2, wLc, wLcL, wLc2, wYes, wCallK, endsOf, List.set_cons_zero, List.set_cons_succ, List.getElem?_cons_zero, List.getElem?_cons_succ, if_true, if_false, Bool.false_eq_true, reduceIte, decide_eq_true_eq, wipeD, List.length_cons, List.length_nil, tabD, List.length_map]
  refine ⟨m, by rw [ml], by omega, by omega, ?_⟩
  rw [Int.toNat_natCast]
  let F : Nat → List D := fun i => (List.range i).map fun i => frD (sm t.length fun j => gF t j * gF (ts.getD j []) i)
  refine wFor_inv (fun i ρ S' => S' = S ++ [.lst (F i)] ∧ ∃ (x y z : Option D), ρ = [some (.tup (t.map frD)), some (.tup (ts.map tabD)), some (.loc S.length), x, y, z]) _ ⟨rfl, none, none, none, rfl⟩ ?_ ?_
  · rintro i d k4 hd hk4 _ _ ⟨rfl, x, y, z, rfl⟩
    obtain ⟨hi, rfl⟩ := intsD_get hd
    refine ⟨gd0, ?_⟩
    have gl : (S ++ [Cell.lst (F i)])[S.length]? = some (.lst (F i)) := get_last rfl
    try simp only [sAsg, DL.gName, sRet, sRetN, sNext, sIf, sNever, sExpr, sFor, wVar, wC, wOp, wCall, wCons, wNil, wTup, wRol, wTest, wAnd, wOr, wNot, wAndT, wOrT, wNotT, wIf, wUn, gNeg, onB, gI0, gI, gAdd, DL.gSub, gMul_int, gFdiv, gMod, gPow, gShl, gShr, gLt, gLe, gGt, gGe, gEq_int, gNe_int, wChain, wChain3, sPar2, sPar3, DL.gTup, gsCons, gsNil, gInt, gIsN, gNotN, isN_non, isN_tup, isN_rol, isN_int, isN_str, isN_bl, isN_loc, wSl, wNo, wSo, gSl, gRep, gRepL, wDGet1, wDGet2, wInD, wListRg, wListRgL, wTupRg, wDctNew, wDGet2T, gAtT, wItD, wRevT, wFld, sFldS, sFldA, wMeth, wMake, wRg1, wRg2, wEnum, wZip, wRng3, wIt, wItA, wItT, wRng1, wRng2, wLc, wLcL, wLc2, wYes, wCallK, endsOf, List.set_cons_zero, List.set_cons_succ, List.getElem?_cons_zero, List.getElem?_cons_succ, if_true, if_false, Bool.false_eq_true, reduceIte, decide_eq_true_eq, wipeD, List.length_cons, List.length_nil, wM, gAppend, isLst]
    refine ⟨⟨_, show cellL _ = some _ by rw [gl]; rfl⟩, ?_⟩
    rw [zip_frs]
    refine wLc_map (fun (p : Rat × List Rat) => .tup [frD p.1, tabD p.2]) (fun p => frD (p.1 * gF p.2 i)) (t.zip ts) gd0 (le1000 (by simp; omega)) (fun p hp k k0 y => ?_) ?_
    · have hp1 := (List.of_mem_zip hp).1
      have hp2 := hts _ (List.of_mem_zip hp).2
      try simp only [sAsg, DL.gName, sRet, sRetN, sNext, sIf, sNever, sExpr, sFor, wVar, wC, wOp, wCall, wCons, wNil, wTup, wRol, wTest, wAnd, wOr, wNot, wAndT, wOrT, wNotT, wIf, wUn, gNeg, onB, gI0, gI, gAdd, DL.gSub, gMul_int, gFdiv, gMod, gPow, gShl, gShr, gLt, gLe, gGt, gGe, gEq_int, gNe_int, wChain, wChain3, sPar2, sPar3, DL.gTup, gsCons, gsNil, gInt, gIsN, gNotN, isN_non, isN_tup, isN_rol, isN_int, isN_str, isN_bl, isN_loc, wSl, wNo, wSo, gSl, gRep, gRepL, wDGet1, wDGet2, wInD, wListRg, wListRgL, wTupRg, wDctNew, wDGet2T, gAtT, wItD, wRevT, wFld, sFldS, sFldA, wMeth, wMake, wRg1, wRg2, wEnum, wZip, wRng3, wIt, wItA, wItT, wRng1, wRng2, wLc, wLcL, wLc2, wYes, wCallK, endsOf, List.set_cons_zero, List.set_cons_succ, List.getElem?_cons_zero, List.getElem?_cons_succ, if_true, if_false, Bool.false_eq_true, reduceIte, decide_eq_true_eq, wipeD, List.length_cons, List.length_nil, gIx]
      refine ⟨by trivial, ?_⟩
      try simp only [sAsg, DL.gName, sRet, sRetN, sNext, sIf, sNever, sExpr, sFor, wVar, wC, wOp, wCall, wCons, wNil, wTup, wRol, wTest, wAnd, wOr, wNot, wAndT, wOrT, wNotT, wIf, wUn, gNeg, onB, gI0, gI, gAdd, DL.gSub, gMul_int, gFdiv, gMod, gPow, gShl, gShr, gLt, gLe, gGt, gGe, gEq_int, gNe_int, wChain, wChain3, sPar2, sPar3, DL.gTup, gsCons, gsNil, gInt, gIsN, gNotN, isN_non, isN_tup, isN_rol, isN_int, isN_str, isN_bl, isN_loc, wSl, wNo, wSo, gSl, gRep, gRepL, wDGet1, wDGet2, wInD, wListRg, wListRgL, wTupRg, wDctNew, wDGet2T, gAtT, wItD, wRevT, wFld, sFldS, sFldA, wMeth, wMake, wRg1, wRg2, wEnum, wZip, wRng3, wIt, wItA, wItT, wRng1, wRng2, wLc, wLcL, wLc2, wYes, wCallK, endsOf, List.set_cons_zero, List.set_cons_succ, List.getElem?_cons_zero, List.getElem?_cons_succ, if_true, if_false, Bool.false_eq_true, reduceIte, decide_eq_true_eq, wipeD, List.length_cons, List.length_nil, tabD]
      have hi2 : i < p.2.length := by rw [hp2.len]; omega
      exact ⟨_, by rw [Int.zero_add]; exact frs_at hi2, _, _, rfl, ok.small hp1, hp2.smallF (by omega), y⟩
    have e : (t.zip ts).map (fun p => frD (p.1 * gF p.2 i)) = (tF t.length fun j => gF t j * gF (ts.getD j []) i).map frD := by
      rw [← mix_list (by omega), List.map_map]; rfl
    have sm0 := mx.sum (i := i) (by omega)
    rw [e]
    refine ⟨_, rfl, ⟨fun f hf => ?_, by rw [tF_len]; omega, ?_⟩, ?_⟩
    · obtain ⟨j, hj, rfl⟩ := List.mem_map.mp hf
      have hj := List.mem_range.mp hj
      refine ⟨(mx.term (by omega) (by omega)).1, ?_⟩
      have hj2 : j < ts.length := by omega
      have hm : ts.getD j [] ∈ ts := by
        have : ts.getD j [] = ts[j] := by simp [List.getD, hj2]
        rw [this]; exact List.getElem_mem _
      have h2 := hLs _ hm _ (gF_mem (i := i) (by rw [(hts _ hm).len]; omega))
      have h1 := hL _ (gF_mem hj)
      exact Nat.le_trans (mul_den h1 h2) (by decide +kernel)
    · rw [tF_sum, tl]
      exact Rat.le_trans sm0.2.1 (by decide)
    rw [tF_sum]
    refine ⟨_, _, _, rfl, rfl, gl, ?_, ?_⟩
    · show (List.map _ _).length < _
      rw [List.length_map, List.length_range]
      exact small1000 (by omega)
    rw [set_last rfl]
    have eF : F i ++ [frD (sm t.length fun j => gF t j * gF (ts.getD j []) i)] = F (i + 1) := by
      show _ = List.map _ _
      rw [List.range_succ, List.map_append]; rfl
    rw [eF]
    exact hk4 _ _ ⟨rfl, _, _, _, rfl⟩
  · rintro _ _ ⟨rfl, x, y, z, rfl⟩
    refine ⟨gd0, hk2 _ _ ?_⟩
    rw [intsD_len]
    try simp only [sSeq, sAsg, DL.gName, sRet, sRetN, sNext, sIf, sNever, sExpr, sFor, wVar, wC, wOp, wCall, wCons, wNil, wTup, wRol, wTest, wAnd, wOr, wNot, wAndT, wOrT, wNotT, wIf, wUn, gNeg, onB, gI0, gI, gAdd, DL.gSub, gMul_int, gFdiv, gMod, gPow, gShl, gShr, gLt, gLe, gGt, gGe, gEq_int, gNe_int, wChain, wChain3, sPar2, sPar3, DL.gTup, gsCons, gsNil, gInt, gIsN, gNotN, isN_non, isN_tup, isN_rol, isN_int, isN_str, isN_bl, isN_loc, wSl, wNo, wSo, gSl, gRep, gRepL, wDGet1, wDGet2, wInD, wListRg, wListRgL, wTupRg, wDctNew, wDGet2T, gAtT, wItD, wRevT, wFld, sFldS, sFldA, wMeth, wMake, wRg1, wRg2, wEnum, wZip, wRng3, wIt, wItA, wItT, wRng1, wRng2, wLc, wLcL, wLc2, wYes, wCallK, endsOf, List.set_cons_zero, List.set_cons_succ, List.getElem?_cons_zero, List.getElem?_cons_succ, if_true, if_false, Bool.false_eq_true, reduceIte, decide_eq_true_eq, wipeD, List.length_cons, List.length_nil, gTupOf]
    refine ⟨_, show cellL _ = some _ by rw [get_last rfl]; rfl, .inl ?_⟩
    have e : D.tup (F m) = tabD (mixF t ts m) := by
      show D.tup (List.map _ _) = _
      unfold tabD mixF tF
      rw [List.map_map]; rfl
    rw [e]
    exact leave_app (T := [.lst (F m)]) hc rfl (bel_tab _ _) q
/-! ## the program's functions -/
theorem len_l_pick_2 : ∀ ds S Q, c_l_pick_2 ds S Q → ds.length = 2 := by rintro _ _ _ ⟨_, _, _, _, rfl, _⟩; rfl
theorem spec_l_pick_2 : ∀ ds S Q, CloS S → Bels S.length ds → c_l_pick_2 ds S Q → w_l_pick_2 (endsOf S.length Q) (startD N_l_pick_2 ds) S := by
  rintro _ S Q hc hb ⟨m, xs, t, T, rfl, hm, hx, hl, hk, hs, ht, q⟩
  rw [st_l_pick_2]
  unfold w_l_pick_2
  try simp only [sSeq, sAsg, DL.gName, sRet, sRetN, sNext, sIf, sNever, sExpr, sFor, wVar, wC, wOp, wCall, wCons, wNil, wTup, wRol, wTest, wAnd, wOr, wNot, wAndT, wOrT, wNotT, wIf, wUn, gNeg, onB, gI0, gI, gAdd, DL.gSub, gMul_int, gFdiv, gMod, gPow, gShl, gShr, gLt, gLe, gGt, gGe, gEq_int, gNe_int, wChain, wChain3, sPar2, sPar3, DL.gTup, gsCons, gsNil, gInt, gIsN, gNotN, isN_non, isN_tup, isN_rol, isN_int, isN_str, isN_bl, isN_loc, wSl, wNo, wSo, gSl, gRep, gRepL, wDGet1, wDGet2, wInD, wListRg, wListRgL, wTupRg, wDctNew, wDGet2T, gAtT, wItD, wRevT, wFld, sFldS, sFldA, wMeth, wMake, wRg1, wRg2, wEnum, wZip, wRng3, wIt, wItA, wItT, wRng1, wRng2, wLc, wLcL, wLc2, wYes, wCallK, endsOf, List.set_cons_zero, List.set_cons_succ, List.getElem?_cons_zero, List.getElem?_cons_succ, if_true, if_false, Bool.false_eq_true, reduceIte, decide_eq_true_eq, wipeD, List.length_cons, List.length_nil, gLen, hm]
  have hl0 : 0 < xs.length := List.length_pos_iff.mpr hx
  refine ⟨xs.length, t, T, rfl, hk, by omega, by omega, by omega, fun r S1 r0 r1 d1 => ?_⟩
  have hs := hs S1 d1
  obtain ⟨j, rfl⟩ : ∃ j : Nat, r = j := ⟨r.toNat, by omega⟩
  have hj : j < xs.length := by omega
  have ej : xs[j]? = some xs[j] := List.getElem?_eq_getElem hj
  try simp only [sSeq, sAsg, DL.gName, sRet, sRetN, sNext, sIf, sNever, sExpr, sFor, wVar, wC, wOp, wCall, wCons, wNil, wTup, wRol, wTest, wAnd, wOr, wNot, wAndT, wOrT, wNotT, wIf, wUn, gNeg, onB, gI0, gI, gAdd, DL.gSub, gMul_int, gFdiv, gMod, gPow, gShl, gShr, gLt, gLe, gGt, gGe, gEq_int, gNe_int, wChain, wChain3, sPar2, sPar3, DL.gTup, gsCons, gsNil, gInt, gIsN, gNotN, isN_non, isN_tup, isN_rol, isN_int, isN_str, isN_bl, isN_loc, wSl, wNo, wSo, gSl, gRep, gRepL, wDGet1, wDGet2, wInD, wListRg, wListRgL, wTupRg, wDctNew, wDGet2T, gAtT, wItD, wRevT, wFld, sFldS, sFldA, wMeth, wMake, wRg1, wRg2, wEnum, wZip, wRng3, wIt, wItA, wItT, wRng1, wRng2, wLc, wLcL, wLc2, wYes, wCallK, endsOf, List.set_cons_zero, List.set_cons_succ, List.getElem?_cons_zero, List.getElem?_cons_succ, if_true, if_false, Bool.false_eq_true, reduceIte, decide_eq_true_eq, wipeD, List.length_cons, List.length_nil, gIx]
  refine ⟨xs, xs[j], by show cellL S1[m]? = _; rw [hs]; rfl, atI_of ej, .inr (q _ _ (List.getElem_mem hj) d1)⟩
theorem sub_eq (f g : Rat) : mkRat (f.num * g.den - g.num * f.den) ((f.den : Int) * g.den).toNat = f - g := by
  rw [Rat.sub_eq_add_neg, ← add_eq]
  congr 1
  show _ = f.num * g.den + (-g.num) * f.den
  rw [Int.neg_mul]; rfl
theorem len_minus : ∀ ds S Q, c_minus ds S Q → ds.length = 2 := by rintro _ _ _ ⟨_, _, rfl, _⟩; rfl
theorem spec_minus : ∀ ds S Q, CloS S → Bels S.length ds → c_minus ds S Q → w_minus (endsOf S.length Q) (startD N_minus ds) S := by
  rintro _ S Q hc hb ⟨f, g, rfl, hf, hg, q⟩
  obtain ⟨m1, m2, m3, m4, m5, m6⟩ := plus_ok hf hg
  rw [st_minus]
  unfold w_minus
  try simp only [sSeq, sAsg, DL.gName, sRet, sRetN, sNext, sIf, sNever, sExpr, sFor, wVar, wC, wOp, wCall, wCons, wNil, wTup, wRol, wTest, wAnd, wOr, wNot, wAndT, wOrT, wNotT, wIf, wUn, gNeg, onB, gI0, gI, gAdd, DL.gSub, gMul_int, gFdiv, gMod, gPow, gShl, gShr, gLt, gLe, gGt, gGe, gEq_int, gNe_int, wChain, wChain3, sPar2, sPar3, DL.gTup, gsCons, gsNil, gInt, gIsN, gNotN, isN_non, isN_tup, isN_rol, isN_int, isN_str, isN_bl, isN_loc, wSl, wNo, wSo, gSl, gRep, gRepL, wDGet1, wDGet2, wInD, wListRg, wListRgL, wTupRg, wDctNew, wDGet2T, gAtT, wItD, wRevT, wFld, sFldS, sFldA, wMeth, wMake, wRg1, wRg2, wEnum, wZip, wRng3, wIt, wItA, wItT, wRng1, wRng2, wLc, wLcL, wLc2, wYes, wCallK, endsOf, List.set_cons_zero, List.set_cons_succ, List.getElem?_cons_zero, List.getElem?_cons_succ, if_true, if_false, Bool.false_eq_true, reduceIte, decide_eq_true_eq, wipeD, List.length_cons, List.length_nil, gIx, frD]
  refine ⟨_, rfl, _, rfl, m1, _, rfl, _, rfl, m2, _, rfl, _, rfl, m3, _, _, rfl, m5, m6, ?_⟩
  rw [sub_eq]
  exact .inr q
theorem len_l_less : ∀ ds S Q, c_l_less ds S Q → ds.length = 2 := by rintro _ _ _ ⟨_, _, rfl, _⟩; rfl
theorem spec_l_less : ∀ ds S Q, CloS S → Bels S.length ds → c_l_less ds S Q → w_l_less (endsOf S.length Q) (startD N_l_less ds) S := by
  rintro _ S Q hc hb ⟨f, g, rfl, hf, hg, q⟩
  obtain ⟨m1, m2, m3, m4, m5, m6⟩ := plus_ok hf hg
  rw [st_l_less]
  unfold w_l_less
  try simp only [sSeq, sAsg, DL.gName, sRet, sRetN, sNext, sIf, sNever, sExpr, sFor, wVar, wC, wOp, wCall, wCons, wNil, wTup, wRol, wTest, wAnd, wOr, wNot, wAndT, wOrT, wNotT, wIf, wUn, gNeg, onB, gI0, gI, gAdd, DL.gSub, gMul_int, gFdiv, gMod, gPow, gShl, gShr, gLt, gLe, gGt, gGe, gEq_int, gNe_int, wChain, wChain3, sPar2, sPar3, DL.gTup, gsCons, gsNil, gInt, gIsN, gNotN, isN_non, isN_tup, isN_rol, isN_int, isN_str, isN_bl, isN_loc, wSl, wNo, wSo, gSl, gRep, gRepL, wDGet1, wDGet2, wInD, wListRg, wListRgL, wTupRg, wDctNew, wDGet2T, gAtT, wItD, wRevT, wFld, sFldS, sFldA, wMeth, wMake, wRg1, wRg2, wEnum, wZip, wRng3, wIt, wItA, wItT, wRng1, wRng2, wLc, wLcL, wLc2, wYes, wCallK, endsOf, List.set_cons_zero, List.set_cons_succ, List.getElem?_cons_zero, List.getElem?_cons_succ, if_true, if_false, Bool.false_eq_true, reduceIte, decide_eq_true_eq, wipeD, List.length_cons, List.length_nil, gIx, frD]
  refine ⟨_, rfl, _, rfl, m1, _, rfl, _, rfl, m2, _, rfl, _, rfl, m3, _, _, rfl, m5, m6, ?_⟩
  rw [sub_eq]
  exact .inr q
theorem rat_lt (f g : Rat) : f < g ↔ f.num * (g.den : Int) < g.num * (f.den : Int) := by
  rw [← Rat.not_le, rat_le]; omega
theorem len_is_less : ∀ ds S Q, c_is_less ds S Q → ds.length = 2 := by rintro _ _ _ ⟨_, _, rfl, _⟩; rfl
theorem spec_is_less : ∀ ds S Q, CloS S → Bels S.length ds → c_is_less ds S Q → w_is_less (endsOf S.length Q) (startD N_is_less ds) S := by
  rintro _ S Q hc hb ⟨f, g, rfl, hf, hg, q⟩
  obtain ⟨m1, m2, m3, m4, m5, m6⟩ := plus_ok hf hg
  rw [st_is_less]
  unfold w_is_less
  try simp only [sSeq, sAsg, DL.gName, sRet, sRetN, sNext, sIf, sNever, sExpr, sFor, wVar, wC, wOp, wCall, wCons, wNil, wTup, wRol, wTest, wAnd, wOr, wNot, wAndT, wOrT, wNotT, wIf, wUn, gNeg, onB, gI0, gI, gAdd, DL.gSub, gMul_int, gFdiv, gMod, gPow, gShl, gShr, gLt, gLe, gGt, gGe, gEq_int, gNe_int, wChain, wChain3, sPar2, sPar3, DL.gTup, gsCons, gsNil, gInt, gIsN, gNotN, isN_non, isN_tup, isN_rol, isN_int, isN_str, isN_bl, isN_loc, wSl, wNo, wSo, gSl, gRep, gRepL, wDGet1, wDGet2, wInD, wListRg, wListRgL, wTupRg, wDctNew, wDGet2T, gAtT, wItD, wRevT, wFld, sFldS, sFldA, wMeth, wMake, wRg1, wRg2, wEnum, wZip, wRng3, wIt, wItA, wItT, wRng1, wRng2, wLc, wLcL, wLc2, wYes, wCallK, endsOf, List.set_cons_zero, List.set_cons_succ, List.getElem?_cons_zero, List.getElem?_cons_succ, if_true, if_false, Bool.false_eq_true, reduceIte, decide_eq_true_eq, wipeD, List.length_cons, List.length_nil, gIx, frD]
  refine ⟨_, rfl, _, rfl, m1, _, rfl, _, rfl, m2, ?_⟩
  try simp only [sSeq, sAsg, DL.gName, sRet, sRetN, sNext, sIf, sNever, sExpr, sFor, wVar, wC, wOp, wCall, wCons, wNil, wTup, wRol, wTest, wAnd, wOr, wNot, wAndT, wOrT, wNotT, wIf, wUn, gNeg, onB, gI0, gI, gAdd, DL.gSub, gMul_int, gFdiv, gMod, gPow, gShl, gShr, gLt, gLe, gGt, gGe, gEq_int, gNe_int, wChain, wChain3, sPar2, sPar3, DL.gTup, gsCons, gsNil, gInt, gIsN, gNotN, isN_non, isN_tup, isN_rol, isN_int, isN_str, isN_bl, isN_loc, wSl, wNo, wSo, gSl, gRep, gRepL, wDGet1, wDGet2, wInD, wListRg, wListRgL, wTupRg, wDctNew, wDGet2T, gAtT, wItD, wRevT, wFld, sFldS, sFldA, wMeth, wMake, wRg1, wRg2, wEnum, wZip, wRng3, wIt, wItA, wItT, wRng1, wRng2, wLc, wLcL, wLc2, wYes, wCallK, endsOf, List.set_cons_zero, List.set_cons_succ, List.getElem?_cons_zero, List.getElem?_cons_succ, if_true, if_false, Bool.false_eq_true, reduceIte, decide_eq_true_eq, wipeD, List.length_cons, List.length_nil]
  have e : decide (f < g) = decide (f.num * (g.den : Int) < g.num * (f.den : Int)) := by rw [decide_eq_decide]; exact rat_lt f g
  rw [e] at q
  exact .inr q
theorem len_l_is_above : ∀ ds S Q, c_l_is_above ds S Q → ds.length = 2 := by rintro _ _ _ ⟨_, _, rfl, _⟩; rfl
theorem spec_l_is_above : ∀ ds S Q, CloS S → Bels S.length ds → c_l_is_above ds S Q → w_l_is_above (endsOf S.length Q) (startD N_l_is_above ds) S := by
  rintro _ S Q hc hb ⟨f, g, rfl, hf, hg, q⟩
  obtain ⟨m1, m2, m3, m4, m5, m6⟩ := plus_ok hf hg
  rw [st_l_is_above]
  unfold w_l_is_above
  try simp only [sSeq, sAsg, DL.gName, sRet, sRetN, sNext, sIf, sNever, sExpr, sFor, wVar, wC, wOp, wCall, wCons, wNil, wTup, wRol, wTest, wAnd, wOr, wNot, wAndT, wOrT, wNotT, wIf, wUn, gNeg, onB, gI0, gI, gAdd, DL.gSub, gMul_int, gFdiv, gMod, gPow, gShl, gShr, gLt, gLe, gGt, gGe, gEq_int, gNe_int, wChain, wChain3, sPar2, sPar3, DL.gTup, gsCons, gsNil, gInt, gIsN, gNotN, isN_non, isN_tup, isN_rol, isN_int, isN_str, isN_bl, isN_loc, wSl, wNo, wSo, gSl, gRep, gRepL, wDGet1, wDGet2, wInD, wListRg, wListRgL, wTupRg, wDctNew, wDGet2T, gAtT, wItD, wRevT, wFld, sFldS, sFldA, wMeth, wMake, wRg1, wRg2, wEnum, wZip, wRng3, wIt, wItA, wItT, wRng1, wRng2, wLc, wLcL, wLc2, wYes, wCallK, endsOf, List.set_cons_zero, List.set_cons_succ, List.getElem?_cons_zero, List.getElem?_cons_succ, if_true, if_false, Bool.false_eq_true, reduceIte, decide_eq_true_eq, wipeD, List.length_cons, List.length_nil, gIx, frD]
  refine ⟨_, rfl, _, rfl, m1, _, rfl, _, rfl, m2, ?_⟩
  try simp only [sSeq, sAsg, DL.gName, sRet, sRetN, sNext, sIf, sNever, sExpr, sFor, wVar, wC, wOp, wCall, wCons, wNil, wTup, wRol, wTest, wAnd, wOr, wNot, wAndT, wOrT, wNotT, wIf, wUn, gNeg, onB, gI0, gI, gAdd, DL.gSub, gMul_int, gFdiv, gMod, gPow, gShl, gShr, gLt, gLe, gGt, gGe, gEq_int, gNe_int, wChain, wChain3, sPar2, sPar3, DL.gTup, gsCons, gsNil, gInt, gIsN, gNotN, isN_non, isN_tup, isN_rol, isN_int, isN_str, isN_bl, isN_loc, wSl, wNo, wSo, gSl, gRep, gRepL, wDGet1, wDGet2, wInD, wListRg, wListRgL, wTupRg, wDctNew, wDGet2T, gAtT, wItD, wRevT, wFld, sFldS, sFldA, wMeth, wMake, wRg1, wRg2, wEnum, wZip, wRng3, wIt, wItA, wItT, wRng1, wRng2, wLc, wLcL, wLc2, wYes, wCallK, endsOf, List.set_cons_zero, List.set_cons_succ, List.getElem?_cons_zero, List.getElem?_cons_succ, if_true, if_false, Bool.false_eq_true, reduceIte, decide_eq_true_eq, wipeD, List.length_cons, List.length_nil]
  have e : decide (g < f) = decide (g.num * (f.den : Int) < f.num * (g.den : Int)) := by rw [decide_eq_decide]; exact rat_lt g f
  rw [e] at q
  exact .inr q
theorem len_gap : ∀ ds S Q, c_gap ds S Q → ds.length = 2 := by rintro _ _ _ ⟨_, _, rfl, _⟩; rfl
theorem spec_gap : ∀ ds S Q, CloS S → Bels S.length ds → c_gap ds S Q → w_gap (endsOf S.length Q) (startD N_gap ds) S := by
  rintro _ S Q hc hb ⟨f, g, rfl, hf, hg, q⟩
  rw [st_gap]
  unfold w_gap
  try simp only [sSeq, sAsg, DL.gName, sRet, sRetN, sNext, sIf, sNever, sExpr, sFor, wVar, wC, wOp, wCall, wCons, wNil, wTup, wRol, wTest, wAnd, wOr, wNot, wAndT, wOrT, wNotT, wIf, wUn, gNeg, onB, gI0, gI, gAdd, DL.gSub, gMul_int, gFdiv, gMod, gPow, gShl, gShr, gLt, gLe, gGt, gGe, gEq_int, gNe_int, wChain, wChain3, sPar2, sPar3, DL.gTup, gsCons, gsNil, gInt, gIsN, gNotN, isN_non, isN_tup, isN_rol, isN_int, isN_str, isN_bl, isN_loc, wSl, wNo, wSo, gSl, gRep, gRepL, wDGet1, wDGet2, wInD, wListRg, wListRgL, wTupRg, wDctNew, wDGet2T, gAtT, wItD, wRevT, wFld, sFldS, sFldA, wMeth, wMake, wRg1, wRg2, wEnum, wZip, wRng3, wIt, wItA, wItT, wRng1, wRng2, wLc, wLcL, wLc2, wYes, wCallK, endsOf, List.set_cons_zero, List.set_cons_succ, List.getElem?_cons_zero, List.getElem?_cons_succ, if_true, if_false, Bool.false_eq_true, reduceIte, decide_eq_true_eq, wipeD, List.length_cons, List.length_nil]
  refine ⟨f, g, rfl, hf, hg, ?_⟩
  try simp only [sSeq, sAsg, DL.gName, sRet, sRetN, sNext, sIf, sNever, sExpr, sFor, wVar, wC, wOp, wCall, wCons, wNil, wTup, wRol, wTest, wAnd, wOr, wNot, wAndT, wOrT, wNotT, wIf, wUn, gNeg, onB, gI0, gI, gAdd, DL.gSub, gMul_int, gFdiv, gMod, gPow, gShl, gShr, gLt, gLe, gGt, gGe, gEq_int, gNe_int, wChain, wChain3, sPar2, sPar3, DL.gTup, gsCons, gsNil, gInt, gIsN, gNotN, isN_non, isN_tup, isN_rol, isN_int, isN_str, isN_bl, isN_loc, wSl, wNo, wSo, gSl, gRep, gRepL, wDGet1, wDGet2, wInD, wListRg, wListRgL, wTupRg, wDctNew, wDGet2T, gAtT, wItD, wRevT, wFld, sFldS, sFldA, wMeth, wMake, wRg1, wRg2, wEnum, wZip, wRng3, wIt, wItA, wItT, wRng1, wRng2, wLc, wLcL, wLc2, wYes, wCallK, endsOf, List.set_cons_zero, List.set_cons_succ, List.getElem?_cons_zero, List.getElem?_cons_succ, if_true, if_false, Bool.false_eq_true, reduceIte, decide_eq_true_eq, wipeD, List.length_cons, List.length_nil]
  unfold gapR at q
  by_cases h : f < g
  · rw [if_pos h] at q ⊢
    exact ⟨g, f, rfl, hg, hf, .inr q⟩
  · rw [if_neg h] at q ⊢
    exact ⟨f, g, rfl, hf, hg, .inr q⟩
theorem small_16 {q : Rat} (h0 : 0 ≤ q) (h1 : q ≤ 16) (hd : q.den < 2 ^ 890) : smallR q := by
  obtain ⟨a, b⟩ := num_16 h0 h1
  have : (2 : Nat) ^ 900 = 1024 * 2 ^ 890 := by rw [show 900 = 890 + 10 from rfl, Nat.pow_add, Nat.mul_comm]
  exact ⟨by omega, by omega⟩
theorem gap_nth {N : Nat} {f g : Rat} (hN : 0 < N) (hf : Nth N f) (hg : Nth N g) : Nth N (gapR f g) := by
  have sub : ∀ {x y : Rat}, Nth N x → Nth N y → Nth N (x - y) := fun {x y} hx hy => by
    rw [Rat.sub_eq_add_neg]
    refine Nth.add hN hx ?_
    obtain ⟨z, rfl⟩ := hy
    exact ⟨-z, by rw [Rat.neg_mkRat]⟩
  unfold gapR
  split
  · exact sub hg hf
  · exact sub hf hg
structure TwoAt (n N : Nat) (a b : List Rat) : Prop where
  n0 : 0 < N
  big : N ≤ 2 ^ 600
  na : ∀ i, i < n → Nth N (gF a i)
  nb : ∀ i, i < n → Nth N (gF b i)
theorem Two.at_ {n : Nat} {a b : List Rat} (h : Two n a b) : ∃ N, TwoAt n N a b := by
  obtain ⟨N, M, h1, h2, h3⟩ := h.ex
  exact ⟨N * M, Nat.mul_pos h1.n0 h2.n0, h3, fun i hi => Nth.up h1.n0 h2.n0 (h1.atN hi), fun i hi => by rw [Nat.mul_comm]; exact Nth.up h2.n0 h1.n0 (h2.atN hi)⟩
theorem gap_le1 {n : Nat} {a b : List Rat} (h : Two n a b) {i : Nat} (hi : i < n) : gapR (gF a i) (gF b i) ≤ 1 := by
  obtain ⟨N, M, h1, h2, _⟩ := h.ex
  have := h1.at0 hi; have := h2.at0 hi; have := h1.le1 hi; have := h2.le1 hi
  exact gap_le (by grind) (by grind)
theorem gs_two {n : Nat} {a b : List Rat} (h : Two n a b) : gsF n a b = 2 * distF a b := by
  rw [dist_gs h.len.1]
  have : mkRat 1 2 * 2 = 1 := by decide +kernel
  grind
theorem Two.small {n : Nat} {a b : List Rat} (h : Two n a b) {i : Nat} (hi : i < n) : smallR (gF a i) ∧ smallR (gF b i) := by
  obtain ⟨N, M, h1, h2, _⟩ := h.ex
  exact ⟨h1.smallF hi, h2.smallF hi⟩
theorem gaps_ok {n : Nat} {a b : List Rat} (h : Two n a b) : SumOk (tF n fun i => gapR (gF a i) (gF b i)) := by
  obtain ⟨N, t⟩ := h.at_
  obtain ⟨N1, M1, h1, _, _⟩ := h.ex
  have n8 := h1.n8
  have big : N < 2 ^ 890 := Nat.lt_of_le_of_lt t.big (Nat.pow_lt_pow_right (by decide) (by decide))
  have nn : ∀ f ∈ tF n (fun i => gapR (gF a i) (gF b i)), 0 ≤ f ∧ Nth N f ∧ f ≤ 1 := fun f hf => by
    obtain ⟨i, hi, rfl⟩ := List.mem_map.mp hf
    have hi := List.mem_range.mp hi
    exact ⟨gap_nn _ _, gap_nth t.n0 (t.na i hi) (t.nb i hi), gap_le1 h hi⟩
  have sm2 : (tF n (fun i => gapR (gF a i) (gF b i))).sum ≤ 16 := by
    rw [tF_sum]
    show gsF n a b ≤ 16
    rw [gs_two h]
    have := dist_le1 h
    grind
  refine ⟨fun f hf => ?_, fun k => ?_, by rw [tF_len]; omega⟩
  · obtain ⟨x, y, z⟩ := nn f hf
    exact small_16 x (by grind) (Nat.lt_of_le_of_lt (y.den t.n0) big)
  · have p := sums_in (t := tF n fun i => gapR (gF a i) (gF b i)) (fun f hf => (nn f hf).1) k
    refine small_16 p.1 (Rat.le_trans p.2 sm2) (Nat.lt_of_le_of_lt ?_ big)
    exact (sums_nth t.n0 fun f hf => (nn f (List.mem_of_mem_take hf)).2.1).den t.n0
theorem dist_small {n : Nat} {a b : List Rat} (h : Two n a b) : smallR (distF a b) := by
  obtain ⟨N, t⟩ := h.at_
  have e := dist_above h
  refine small_16 (dist_nn a b) (Rat.le_trans (dist_le1 h) (by decide)) ?_
  rw [dist_gs h.len.1]
  have nt : Nth (2 * N) (mkRat 1 2 * gsF n a b) := Nth.mul (by decide) t.n0 ⟨1, rfl⟩ (sm_nth t.n0 fun i hi => gap_nth t.n0 (t.na i hi) (t.nb i hi))
  have b2 : 2 * N < 2 ^ 890 := by
    have := t.big
    have : (2 : Nat) ^ 601 = 2 * 2 ^ 600 := by rw [Nat.pow_succ, Nat.mul_comm]
    have : (2 : Nat) ^ 601 < 2 ^ 890 := Nat.pow_lt_pow_right (by decide) (by decide)
    omega
  exact Nat.lt_of_le_of_lt (nt.den (by have := t.n0; omega)) b2
theorem zip_tF {n : Nat} {a b : List Rat} (ha : a.length = n) (hb : b.length = n) (F : Rat → Rat → Rat) : (a.zip b).map (fun p => F p.1 p.2) = tF n fun i => F (gF a i) (gF b i) := by
  apply List.ext_getElem
  · simp [ha, hb, tF]
  · intro k h1 h2
    have hk : k < a.length := by simp [ha, hb] at h1; omega
    have hk2 : k < b.length := by omega
    simp [tF, gF, List.getD, hk, hk2]
theorem gEq_same {a b : Str} {S : Sto} {Q : QD} (h : a = b) (q : Q (.bl true) S) : gEq (.str a) (.str b) S Q := by
  rw [gEq_str, decide_eq_true h]; exact q
theorem len_lot_above : ∀ ds S Q, c_lot_above ds S Q → ds.length = 2 := by rintro _ _ _ ⟨_, _, _, rfl, _⟩; rfl
theorem spec_lot_above : ∀ ds S Q, CloS S → Bels S.length ds → c_lot_above ds S Q → w_lot_above (endsOf S.length Q) (startD N_lot_above ds) S := by
  rintro _ S Q hc hb ⟨n, a, b, rfl, h, q⟩
  obtain ⟨la, lb⟩ := h.len
  obtain ⟨N, M, h1, h2, _⟩ := h.ex
  have n8 := h1.n8
  rw [st_lot_above]
  unfold w_lot_above
  try simp only [sSeq, sAsg, DL.gName, sRet, sRetN, sNext, sIf, sNever, sExpr, sFor, wVar, wC, wOp, wCall, wCons, wNil, wTup, wRol, wTest, wAnd, wOr, wNot, wAndT, wOrT, wNotT, wIf, wUn, gNeg, onB, gI0, gI, gAdd, DL.gSub, gMul_int, gFdiv, gMod, gPow, gShl, gShr, gLt, gLe, gGt, gGe, gEq_int, gNe_int, wChain, wChain3, sPar2, sPar3, DL.gTup, gsCons, gsNil, gInt, gIsN, gNotN, isN_non, isN_tup, isN_rol, isN_int, isN_str, isN_bl, isN_loc, wSl, wNo, wSo, gSl, gRep, gRepL, wDGet1, wDGet2, wInD, wListRg, wListRgL, wTupRg, wDctNew, wDGet2T, gAtT, wItD, wRevT, wFld, sFldS, sFldA, wMeth, wMake, wRg1, wRg2, wEnum, wZip, wRng3, wIt, wItA, wItT, wRng1, wRng2, wLc, wLcL, wLc2, wYes, wCallK, endsOf, List.set_cons_zero, List.set_cons_succ, List.getElem?_cons_zero, List.getElem?_cons_succ, if_true, if_false, Bool.false_eq_true, reduceIte, decide_eq_true_eq, wipeD, List.length_cons, List.length_nil, gTupOf, tabD]
  rw [pairs_map, la]
  refine wLc_filter (fun (i : Nat) => D.tup [.int (i : Nat), frD (gF a i)]) (fun i => .int (i : Nat)) (aboveF a b) (List.range n) gd0 (by rw [List.length_range]; exact le1000 (by omega)) (fun i hi k k0 y1 y2 => ?_) ?_
  · have hi := List.mem_range.mp hi
    try simp only [sAsg, DL.gName, sRet, sRetN, sNext, sIf, sNever, sExpr, sFor, wVar, wC, wOp, wCall, wCons, wNil, wTup, wRol, wTest, wAnd, wOr, wNot, wAndT, wOrT, wNotT, wIf, wUn, gNeg, onB, gI0, gI, gAdd, DL.gSub, gMul_int, gFdiv, gMod, gPow, gShl, gShr, gLt, gLe, gGt, gGe, gEq_int, gNe_int, wChain, wChain3, sPar2, sPar3, DL.gTup, gsCons, gsNil, gInt, gIsN, gNotN, isN_non, isN_tup, isN_rol, isN_int, isN_str, isN_bl, isN_loc, wSl, wNo, wSo, gSl, gRep, gRepL, wDGet1, wDGet2, wInD, wListRg, wListRgL, wTupRg, wDctNew, wDGet2T, gAtT, wItD, wRevT, wFld, sFldS, sFldA, wMeth, wMake, wRg1, wRg2, wEnum, wZip, wRng3, wIt, wItA, wItT, wRng1, wRng2, wLc, wLcL, wLc2, wYes, wCallK, endsOf, List.set_cons_zero, List.set_cons_succ, List.getElem?_cons_zero, List.getElem?_cons_succ, if_true, if_false, Bool.false_eq_true, reduceIte, decide_eq_true_eq, wipeD, List.length_cons, List.length_nil, gIx]
    refine ⟨by trivial, _, frs_at (by omega), _, _, rfl, (h.small hi).2, (h.small hi).1, ?_⟩
    try simp only [sAsg, DL.gName, sRet, sRetN, sNext, sIf, sNever, sExpr, sFor, wVar, wC, wOp, wCall, wCons, wNil, wTup, wRol, wTest, wAnd, wOr, wNot, wAndT, wOrT, wNotT, wIf, wUn, gNeg, onB, gI0, gI, gAdd, DL.gSub, gMul_int, gFdiv, gMod, gPow, gShl, gShr, gLt, gLe, gGt, gGe, gEq_int, gNe_int, wChain, wChain3, sPar2, sPar3, DL.gTup, gsCons, gsNil, gInt, gIsN, gNotN, isN_non, isN_tup, isN_rol, isN_int, isN_str, isN_bl, isN_loc, wSl, wNo, wSo, gSl, gRep, gRepL, wDGet1, wDGet2, wInD, wListRg, wListRgL, wTupRg, wDctNew, wDGet2T, gAtT, wItD, wRevT, wFld, sFldS, sFldA, wMeth, wMake, wRg1, wRg2, wEnum, wZip, wRng3, wIt, wItA, wItT, wRng1, wRng2, wLc, wLcL, wLc2, wYes, wCallK, endsOf, List.set_cons_zero, List.set_cons_succ, List.getElem?_cons_zero, List.getElem?_cons_succ, if_true, if_false, Bool.false_eq_true, reduceIte, decide_eq_true_eq, wipeD, List.length_cons, List.length_nil]
    unfold aboveF at y1 y2
    by_cases z : gF b i < gF a i
    · rw [if_pos z]; exact y1 (decide_eq_true z)
    · rw [if_neg z]; exact y2 (decide_eq_false z)
  exact ⟨_, rfl, .inr q⟩
theorem len_raw_distance : ∀ ds S Q, c_raw_distance ds S Q → ds.length = 2 := by rintro _ _ _ ⟨_, _, _, rfl, _⟩; rfl
theorem spec_raw_distance : ∀ ds S Q, CloS S → Bels S.length ds → c_raw_distance ds S Q → w_raw_distance (endsOf S.length Q) (startD N_raw_distance ds) S := by
  rintro _ S Q hc hb ⟨n, a, b, rfl, h, q⟩
  obtain ⟨la, lb⟩ := h.len
  obtain ⟨N, M, h1, h2, _⟩ := h.ex
  have n8 := h1.n8
  rw [st_raw_distance]
  unfold w_raw_distance
  try simp only [sSeq, sAsg, DL.gName, sRet, sRetN, sNext, sIf, sNever, sExpr, sFor, wVar, wC, wOp, wCall, wCons, wNil, wTup, wRol, wTest, wAnd, wOr, wNot, wAndT, wOrT, wNotT, wIf, wUn, gNeg, onB, gI0, gI, gAdd, DL.gSub, gMul_int, gFdiv, gMod, gPow, gShl, gShr, gLt, gLe, gGt, gGe, gEq_int, gNe_int, wChain, wChain3, sPar2, sPar3, DL.gTup, gsCons, gsNil, gInt, gIsN, gNotN, isN_non, isN_tup, isN_rol, isN_int, isN_str, isN_bl, isN_loc, wSl, wNo, wSo, gSl, gRep, gRepL, wDGet1, wDGet2, wInD, wListRg, wListRgL, wTupRg, wDctNew, wDGet2T, gAtT, wItD, wRevT, wFld, sFldS, sFldA, wMeth, wMake, wRg1, wRg2, wEnum, wZip, wRng3, wIt, wItA, wItT, wRng1, wRng2, wLc, wLcL, wLc2, wYes, wCallK, endsOf, List.set_cons_zero, List.set_cons_succ, List.getElem?_cons_zero, List.getElem?_cons_succ, if_true, if_false, Bool.false_eq_true, reduceIte, decide_eq_true_eq, wipeD, List.length_cons, List.length_nil, tabD]
  rw [zip_frs]
  have eg : (a.zip b).map (fun p => frD (gapR p.1 p.2)) = (tF n fun i => gapR (gF a i) (gF b i)).map frD := by
    rw [← zip_tF la lb, List.map_map]; rfl
  refine wLc_map (fun p : Rat × Rat => D.tup [frD p.1, frD p.2]) (fun p => frD (gapR p.1 p.2)) (a.zip b) gd0 (le1000 (by simp; omega)) (fun p hp k k0 y => ?_) ?_
  · have hp1 := (List.of_mem_zip hp).1
    have hp2 := (List.of_mem_zip hp).2
    try simp only [sAsg, DL.gName, sRet, sRetN, sNext, sIf, sNever, sExpr, sFor, wVar, wC, wOp, wCall, wCons, wNil, wTup, wRol, wTest, wAnd, wOr, wNot, wAndT, wOrT, wNotT, wIf, wUn, gNeg, onB, gI0, gI, gAdd, DL.gSub, gMul_int, gFdiv, gMod, gPow, gShl, gShr, gLt, gLe, gGt, gGe, gEq_int, gNe_int, wChain, wChain3, sPar2, sPar3, DL.gTup, gsCons, gsNil, gInt, gIsN, gNotN, isN_non, isN_tup, isN_rol, isN_int, isN_str, isN_bl, isN_loc, wSl, wNo, wSo, gSl, gRep, gRepL, wDGet1, wDGet2, wInD, wListRg, wListRgL, wTupRg, wDctNew, wDGet2T, gAtT, wItD, wRevT, wFld, sFldS, sFldA, wMeth, wMake, wRg1, wRg2, wEnum, wZip, wRng3, wIt, wItA, wItT, wRng1, wRng2, wLc, wLcL, wLc2, wYes, wCallK, endsOf, List.set_cons_zero, List.set_cons_succ, List.getElem?_cons_zero, List.getElem?_cons_succ, if_true, if_false, Bool.false_eq_true, reduceIte, decide_eq_true_eq, wipeD, List.length_cons, List.length_nil]
    exact ⟨by trivial, p.1, p.2, rfl, h1.small hp1, h2.small hp2, y⟩
  rw [eg]
  have gk := gaps_ok h
  have gs : smallR (tF n fun i => gapR (gF a i) (gF b i)).sum := by
    have := gk.2.1 n
    rwa [List.take_of_length_le (by rw [tF_len]; exact Nat.le_refl _)] at this
  refine ⟨_, .inr rfl, gk, mkRat 1 2, _, rfl, ⟨by decide +kernel, by decide +kernel⟩, gs, ?_⟩
  rw [tF_sum]
  show Out _ _ (frD (mkRat 1 2 * gsF n a b)) Q
  rw [← dist_gs la]
  exact .inr q
theorem len_distance : ∀ ds S Q, c_distance ds S Q → ds.length = 2 := by rintro _ _ _ ⟨_, _, _, rfl, _⟩; rfl
theorem len_need_like : ∀ ds S Q, c_need_like ds S Q → ds.length = 2 := by rintro _ _ _ ⟨_, _, _, rfl, _⟩; rfl
theorem spec_need_like : ∀ ds S Q, CloS S → Bels S.length ds → c_need_like ds S Q → w_need_like (endsOf S.length Q) (startD N_need_like ds) S := by
  rintro _ S Q hc hb ⟨n, a, b, rfl, h, q⟩
  obtain ⟨la, lb⟩ := h.len
  obtain ⟨N, M, h1, h2, _⟩ := h.ex
  rw [st_need_like]
  unfold w_need_like
  try simp only [sSeq, sAsg, DL.gName, sRet, sRetN, sNext, sIf, sNever, sExpr, sFor, wVar, wC, wOp, wCall, wCons, wNil, wTup, wRol, wTest, wAnd, wOr, wNot, wAndT, wOrT, wNotT, wIf, wUn, gNeg, onB, gI0, gI, gAdd, DL.gSub, gMul_int, gFdiv, gMod, gPow, gShl, gShr, gLt, gLe, gGt, gGe, gEq_int, gNe_int, wChain, wChain3, sPar2, sPar3, DL.gTup, gsCons, gsNil, gInt, gIsN, gNotN, isN_non, isN_tup, isN_rol, isN_int, isN_str, isN_bl, isN_loc, wSl, wNo, wSo, gSl, gRep, gRepL, wDGet1, wDGet2, wInD, wListRg, wListRgL, wTupRg, wDctNew, wDGet2T, gAtT, wItD, wRevT, wFld, sFldS, sFldA, wMeth, wMake, wRg1, wRg2, wEnum, wZip, wRng3, wIt, wItA, wItT, wRng1, wRng2, wLc, wLcL, wLc2, wYes, wCallK, endsOf, List.set_cons_zero, List.set_cons_succ, List.getElem?_cons_zero, List.getElem?_cons_succ, if_true, if_false, Bool.false_eq_true, reduceIte, decide_eq_true_eq, wipeD, List.length_cons, List.length_nil, gLen, tabD, List.length_map]
  refine ⟨N, n, a, rfl, h1, M, n, b, rfl, h2, ?_⟩
  rw [la, lb]
  simp
  exact .inr q
theorem spec_distance : ∀ ds S Q, CloS S → Bels S.length ds → c_distance ds S Q → w_distance (endsOf S.length Q) (startD N_distance ds) S := by
  rintro _ S Q hc hb ⟨n, a, b, rfl, h, q⟩
  rw [st_distance]
  unfold w_distance
  try simp only [sSeq, sAsg, DL.gName, sRet, sRetN, sNext, sIf, sNever, sExpr, sFor, wVar, wC, wOp, wCall, wCons, wNil, wTup, wRol, wTest, wAnd, wOr, wNot, wAndT, wOrT, wNotT, wIf, wUn, gNeg, onB, gI0, gI, gAdd, DL.gSub, gMul_int, gFdiv, gMod, gPow, gShl, gShr, gLt, gLe, gGt, gGe, gEq_int, gNe_int, wChain, wChain3, sPar2, sPar3, DL.gTup, gsCons, gsNil, gInt, gIsN, gNotN, isN_non, isN_tup, isN_rol, isN_int, isN_str, isN_bl, isN_loc, wSl, wNo, wSo, gSl, gRep, gRepL, wDGet1, wDGet2, wInD, wListRg, wListRgL, wTupRg, wDctNew, wDGet2T, gAtT, wItD, wRevT, wFld, sFldS, sFldA, wMeth, wMake, wRg1, wRg2, wEnum, wZip, wRng3, wIt, wItA, wItT, wRng1, wRng2, wLc, wLcL, wLc2, wYes, wCallK, endsOf, List.set_cons_zero, List.set_cons_succ, List.getElem?_cons_zero, List.getElem?_cons_succ, if_true, if_false, Bool.false_eq_true, reduceIte, decide_eq_true_eq, wipeD, List.length_cons, List.length_nil]
  exact ⟨n, a, b, rfl, h, n, a, b, rfl, h, .inr q⟩
theorem len_need_near : ∀ ds S Q, c_need_near ds S Q → ds.length = 3 := by rintro _ _ _ ⟨_, _, _, _, rfl, _⟩; rfl
theorem spec_need_near : ∀ ds S Q, CloS S → Bels S.length ds → c_need_near ds S Q → w_need_near (endsOf S.length Q) (startD N_need_near ds) S := by
  rintro _ S Q hc hb ⟨n, a, b, f, rfl, h, f0, q⟩
  rw [st_need_near]
  unfold w_need_near
  try simp only [sSeq, sAsg, DL.gName, sRet, sRetN, sNext, sIf, sNever, sExpr, sFor, wVar, wC, wOp, wCall, wCons, wNil, wTup, wRol, wTest, wAnd, wOr, wNot, wAndT, wOrT, wNotT, wIf, wUn, gNeg, onB, gI0, gI, gAdd, DL.gSub, gMul_int, gFdiv, gMod, gPow, gShl, gShr, gLt, gLe, gGt, gGe, gEq_int, gNe_int, wChain, wChain3, sPar2, sPar3, DL.gTup, gsCons, gsNil, gInt, gIsN, gNotN, isN_non, isN_tup, isN_rol, isN_int, isN_str, isN_bl, isN_loc, wSl, wNo, wSo, gSl, gRep, gRepL, wDGet1, wDGet2, wInD, wListRg, wListRgL, wTupRg, wDctNew, wDGet2T, gAtT, wItD, wRevT, wFld, sFldS, sFldA, wMeth, wMake, wRg1, wRg2, wEnum, wZip, wRng3, wIt, wItA, wItT, wRng1, wRng2, wLc, wLcL, wLc2, wYes, wCallK, endsOf, List.set_cons_zero, List.set_cons_succ, List.getElem?_cons_zero, List.getElem?_cons_succ, if_true, if_false, Bool.false_eq_true, reduceIte, decide_eq_true_eq, wipeD, List.length_cons, List.length_nil]
  refine ⟨n, a, b, rfl, h, f, rfl, f0, ?_⟩
  try simp only [sSeq, sAsg, DL.gName, sRet, sRetN, sNext, sIf, sNever, sExpr, sFor, wVar, wC, wOp, wCall, wCons, wNil, wTup, wRol, wTest, wAnd, wOr, wNot, wAndT, wOrT, wNotT, wIf, wUn, gNeg, onB, gI0, gI, gAdd, DL.gSub, gMul_int, gFdiv, gMod, gPow, gShl, gShr, gLt, gLe, gGt, gGe, gEq_int, gNe_int, wChain, wChain3, sPar2, sPar3, DL.gTup, gsCons, gsNil, gInt, gIsN, gNotN, isN_non, isN_tup, isN_rol, isN_int, isN_str, isN_bl, isN_loc, wSl, wNo, wSo, gSl, gRep, gRepL, wDGet1, wDGet2, wInD, wListRg, wListRgL, wTupRg, wDctNew, wDGet2T, gAtT, wItD, wRevT, wFld, sFldS, sFldA, wMeth, wMake, wRg1, wRg2, wEnum, wZip, wRng3, wIt, wItA, wItT, wRng1, wRng2, wLc, wLcL, wLc2, wYes, wCallK, endsOf, List.set_cons_zero, List.set_cons_succ, List.getElem?_cons_zero, List.getElem?_cons_succ, if_true, if_false, Bool.false_eq_true, reduceIte, decide_eq_true_eq, wipeD, List.length_cons, List.length_nil]
  exact .inr q
theorem len_judge_near : ∀ ds S Q, c_judge_near ds S Q → ds.length = 3 := by rintro _ _ _ ⟨_, _, _, _, rfl, _⟩; rfl
theorem spec_judge_near : ∀ ds S Q, CloS S → Bels S.length ds → c_judge_near ds S Q → w_judge_near (endsOf S.length Q) (startD N_judge_near ds) S := by
  rintro _ S Q hc hb ⟨n, a, b, f, rfl, h, f0, fs, q⟩
  rw [st_judge_near]
  unfold w_judge_near
  try simp only [sSeq, sAsg, DL.gName, sRet, sRetN, sNext, sIf, sNever, sExpr, sFor, wVar, wC, wOp, wCall, wCons, wNil, wTup, wRol, wTest, wAnd, wOr, wNot, wAndT, wOrT, wNotT, wIf, wUn, gNeg, onB, gI0, gI, gAdd, DL.gSub, gMul_int, gFdiv, gMod, gPow, gShl, gShr, gLt, gLe, gGt, gGe, gEq_int, gNe_int, wChain, wChain3, sPar2, sPar3, DL.gTup, gsCons, gsNil, gInt, gIsN, gNotN, isN_non, isN_tup, isN_rol, isN_int, isN_str, isN_bl, isN_loc, wSl, wNo, wSo, gSl, gRep, gRepL, wDGet1, wDGet2, wInD, wListRg, wListRgL, wTupRg, wDctNew, wDGet2T, gAtT, wItD, wRevT, wFld, sFldS, sFldA, wMeth, wMake, wRg1, wRg2, wEnum, wZip, wRng3, wIt, wItA, wItT, wRng1, wRng2, wLc, wLcL, wLc2, wYes, wCallK, endsOf, List.set_cons_zero, List.set_cons_succ, List.getElem?_cons_zero, List.getElem?_cons_succ, if_true, if_false, Bool.false_eq_true, reduceIte, decide_eq_true_eq, wipeD, List.length_cons, List.length_nil]
  refine ⟨n, a, b, f, rfl, h, f0, n, a, b, rfl, h, _, _, rfl, dist_small h, fs, ?_⟩
  try simp only [sSeq, sAsg, DL.gName, sRet, sRetN, sNext, sIf, sNever, sExpr, sFor, wVar, wC, wOp, wCall, wCons, wNil, wTup, wRol, wTest, wAnd, wOr, wNot, wAndT, wOrT, wNotT, wIf, wUn, gNeg, onB, gI0, gI, gAdd, DL.gSub, gMul_int, gFdiv, gMod, gPow, gShl, gShr, gLt, gLe, gGt, gGe, gEq_int, gNe_int, wChain, wChain3, sPar2, sPar3, DL.gTup, gsCons, gsNil, gInt, gIsN, gNotN, isN_non, isN_tup, isN_rol, isN_int, isN_str, isN_bl, isN_loc, wSl, wNo, wSo, gSl, gRep, gRepL, wDGet1, wDGet2, wInD, wListRg, wListRgL, wTupRg, wDctNew, wDGet2T, gAtT, wItD, wRevT, wFld, sFldS, sFldA, wMeth, wMake, wRg1, wRg2, wEnum, wZip, wRng3, wIt, wItA, wItT, wRng1, wRng2, wLc, wLcL, wLc2, wYes, wCallK, endsOf, List.set_cons_zero, List.set_cons_succ, List.getElem?_cons_zero, List.getElem?_cons_succ, if_true, if_false, Bool.false_eq_true, reduceIte, decide_eq_true_eq, wipeD, List.length_cons, List.length_nil]
  by_cases z : distF a b ≤ f
  · rw [if_pos z] at q ⊢
    exact ⟨le1000 (by decide), .inr q⟩
  · rw [if_neg z] at q ⊢
    exact ⟨n, a, b, rfl, h, le1000 (by decide), .inr q⟩
theorem len_is_word : ∀ ds S Q, c_is_word ds S Q → ds.length = 2 := by rintro _ _ _ ⟨_, _, rfl, _⟩; rfl
theorem spec_is_word : ∀ ds S Q, CloS S → Bels S.length ds → c_is_word ds S Q → w_is_word (endsOf S.length Q) (startD N_is_word ds) S := by
  rintro _ S Q hc hb ⟨n, p, rfl, q⟩
  rw [st_is_word]
  unfold w_is_word
  try simp only [sSeq, sAsg, DL.gName, sRet, sRetN, sNext, sIf, sNever, sExpr, sFor, wVar, wC, wOp, wCall, wCons, wNil, wTup, wRol, wTest, wAnd, wOr, wNot, wAndT, wOrT, wNotT, wIf, wUn, gNeg, onB, gI0, gI, gAdd, DL.gSub, gMul_int, gFdiv, gMod, gPow, gShl, gShr, gLt, gLe, gGt, gGe, gEq_int, gNe_int, wChain, wChain3, sPar2, sPar3, DL.gTup, gsCons, gsNil, gInt, gIsN, gNotN, isN_non, isN_tup, isN_rol, isN_int, isN_str, isN_bl, isN_loc, wSl, wNo, wSo, gSl, gRep, gRepL, wDGet1, wDGet2, wInD, wListRg, wListRgL, wTupRg, wDctNew, wDGet2T, gAtT, wItD, wRevT, wFld, sFldS, sFldA, wMeth, wMake, wRg1, wRg2, wEnum, wZip, wRng3, wIt, wItA, wItT, wRng1, wRng2, wLc, wLcL, wLc2, wYes, wCallK, endsOf, List.set_cons_zero, List.set_cons_succ, List.getElem?_cons_zero, List.getElem?_cons_succ, if_true, if_false, Bool.false_eq_true, reduceIte, decide_eq_true_eq, wipeD, List.length_cons, List.length_nil, gIsi, gLen, lotD, gIx]
  refine ⟨"tuple", rfl, by decide, ?_⟩
  rw [if_pos (by decide), if_pos (by decide)]
  refine ⟨_, rfl, "str", rfl, by decide, ?_⟩
  rw [if_pos (by decide)]
  exact ⟨_, rfl, gEq_same rfl (.inr q)⟩
theorem app_cps (a b : Str) : (a ++ b).cps.toList = a.cps.toList ++ b.cps.toList := by
  show (a.cps ++ b.cps).toList = _
  exact Array.toList_append
theorem tup2_cps (x a : Str) : (tupleText [a, x]).cps.toList = 40 :: (a.cps.toList ++ ([44, 32] ++ (x.cps.toList ++ [41]))) := by
  unfold tupleText
  rw [app_cps, app_cps]
  have e1 : (Str.ofString "(").cps.toList = [40] := by decide +kernel
  have e2 : (Str.ofString (if ([a, x].length == 1) = true then ",)" else ")")).cps.toList = [41] := by show (Str.ofString ")").cps.toList = _; decide +kernel
  have e3 : ((Str.ofString ", ").join [a, x]).cps.toList = a.cps.toList ++ ([44, 32] ++ x.cps.toList) := by
    have : (Str.ofString ", ").join [a, x] = a ++ Str.ofString ", " ++ x := rfl
    rw [this, app_cps, app_cps]
    have : (Str.ofString ", ").cps.toList = [44, 32] := by decide +kernel
    rw [this, List.append_assoc]
  rw [e1, e2, e3]
  simp
theorem lot_within (l : List PyData) : ¬ PyData.shown (.tuple [.str "lot", .tuple l]) = PyData.shown (.tuple [.str "within"]) := by
  simp only [PyData.shown, PyData.shownAll]
  intro h
  have h := congrArg (fun s : Str => s.cps.toList[2]?) h
  simp only [tup2_cps] at h
  have e : (reprText (Str.ofString "lot")).cps.toList = [39, 108, 111, 116, 39] := by decide +kernel
  rw [e] at h
  have e2 : (tupleText [reprText (Str.ofString "within")]).cps.toList[2]? = some 119 := by decide +kernel
  rw [e2] at h
  simp at h
theorem tm_text {x : Str} (h : (x.cps.toList.all fun c => decide (c < 16 ^ 8)) = true) : tmD (.str x) := h
theorem tm_lot {n : Nat} (p : Nat → Bool) (hn : n ≤ 8) : tmD (lotD n p) := by
  refine ⟨tm_text (by decide +kernel), ?_, trivial⟩
  have : ∀ l : List Nat, (∀ i ∈ l, i < 8) → tmDs (l.map fun (i : Nat) => D.int i) := by
    intro l
    induction l with
    | nil => intro _; exact trivial
    | cons i l ih => intro h; exact ⟨Nat.lt_trans (show (i : Int).natAbs < 8 by have := h i List.mem_cons_self; omega) (by decide +kernel), ih fun j hj => h j (List.mem_cons_of_mem _ hj)⟩
  exact this _ fun i hi => by have := (lot_mem.mp hi).1; omega
theorem sz_ways : ∀ w : List Nat, szDs (w.map fun (i : Nat) => D.int i) = w.length
  | [] => rfl
  | i :: w => by rw [List.map_cons, szDs, sz_ways w]; simp only [szD, List.length_cons]; omega
theorem dp_way' (w : List Nat) : dpD (wayD w) ≤ 1 := by
  rw [way_ints, dpD, dpDs_ints]; omega
theorem okR_lot {n : Nat} (p : Nat → Bool) (hn : n ≤ 8) : okR (lotD n p) := by
  refine okR_of (tm_lot p hn) ?_ ?_
  · have := lot_len n p
    have e : szD (.str (Str.ofString "lot")) = 3 := by decide +kernel
    simp only [lotD, szD, szDs, wayD, sz_ways] at e ⊢
    omega
  · have := dp_way' (lotF n p)
    simp only [lotD, dpD, dpDs]
    omega
theorem okR_within : okR withinD := okR_of ⟨tm_text (by decide +kernel), trivial⟩ (by decide +kernel) (by decide +kernel)
theorem len_is_exactly : ∀ ds S Q, c_is_exactly ds S Q → ds.length = 2 := by rintro _ _ _ (⟨rfl, _⟩ | ⟨_, _, _, rfl, _⟩) <;> rfl
theorem spec_is_exactly : ∀ ds S Q, CloS S → Bels S.length ds → c_is_exactly ds S Q → w_is_exactly (endsOf S.length Q) (startD N_is_exactly ds) S := by
  rintro _ S Q hc hb (⟨rfl, q⟩ | ⟨n, p, hn, rfl, q⟩)
  · rw [st_is_exactly]
    unfold w_is_exactly
    try simp only [sSeq, sAsg, DL.gName, sRet, sRetN, sNext, sIf, sNever, sExpr, sFor, wVar, wC, wOp, wCall, wCons, wNil, wTup, wRol, wTest, wAnd, wOr, wNot, wAndT, wOrT, wNotT, wIf, wUn, gNeg, onB, gI0, gI, gAdd, DL.gSub, gMul_int, gFdiv, gMod, gPow, gShl, gShr, gLt, gLe, gGt, gGe, gEq_int, gNe_int, wChain, wChain3, sPar2, sPar3, DL.gTup, gsCons, gsNil, gInt, gIsN, gNotN, isN_non, isN_tup, isN_rol, isN_int, isN_str, isN_bl, isN_loc, wSl, wNo, wSo, gSl, gRep, gRepL, wDGet1, wDGet2, wInD, wListRg, wListRgL, wTupRg, wDctNew, wDGet2T, gAtT, wItD, wRevT, wFld, sFldS, sFldA, wMeth, wMake, wRg1, wRg2, wEnum, wZip, wRng3, wIt, wItA, wItT, wRng1, wRng2, wLc, wLcL, wLc2, wYes, wCallK, endsOf, List.set_cons_zero, List.set_cons_succ, List.getElem?_cons_zero, List.getElem?_cons_succ, if_true, if_false, Bool.false_eq_true, reduceIte, decide_eq_true_eq, wipeD, List.length_cons, List.length_nil, gRepr]
    exact ⟨_, rfl, okR_within, _, rfl, okR_within, gEq_same rfl (.inr q)⟩
  · rw [st_is_exactly]
    unfold w_is_exactly
    try simp only [sSeq, sAsg, DL.gName, sRet, sRetN, sNext, sIf, sNever, sExpr, sFor, wVar, wC, wOp, wCall, wCons, wNil, wTup, wRol, wTest, wAnd, wOr, wNot, wAndT, wOrT, wNotT, wIf, wUn, gNeg, onB, gI0, gI, gAdd, DL.gSub, gMul_int, gFdiv, gMod, gPow, gShl, gShr, gLt, gLe, gGt, gGe, gEq_int, gNe_int, wChain, wChain3, sPar2, sPar3, DL.gTup, gsCons, gsNil, gInt, gIsN, gNotN, isN_non, isN_tup, isN_rol, isN_int, isN_str, isN_bl, isN_loc, wSl, wNo, wSo, gSl, gRep, gRepL, wDGet1, wDGet2, wInD, wListRg, wListRgL, wTupRg, wDctNew, wDGet2T, gAtT, wItD, wRevT, wFld, sFldS, sFldA, wMeth, wMake, wRg1, wRg2, wEnum, wZip, wRng3, wIt, wItA, wItT, wRng1, wRng2, wLc, wLcL, wLc2, wYes, wCallK, endsOf, List.set_cons_zero, List.set_cons_succ, List.getElem?_cons_zero, List.getElem?_cons_succ, if_true, if_false, Bool.false_eq_true, reduceIte, decide_eq_true_eq, wipeD, List.length_cons, List.length_nil, gRepr]
    refine ⟨_, rfl, okR_lot p hn, _, rfl, okR_within, ?_⟩
    rw [gEq_str, decide_eq_false]
    · exact .inr q
    · exact lot_within _
theorem len_near_holds : ∀ ds S Q, c_near_holds ds S Q → ds.length = 4 := by rintro _ _ _ ⟨_, _, _, _, _, rfl, _⟩; rfl
theorem spec_near_holds : ∀ ds S Q, CloS S → Bels S.length ds → c_near_holds ds S Q → w_near_holds (endsOf S.length Q) (startD N_near_holds ds) S := by
  rintro _ S Q hc hb ⟨n, a, b, f, d, rfl, h, f0, fs, hd⟩
  obtain ⟨la, lb⟩ := h.len
  obtain ⟨N, M, h1, h2, _⟩ := h.ex
  have n8 := h1.n8
  rw [st_near_holds]
  unfold w_near_holds
  refine seq_k fun k1 hk1 => ?_
  try simp only [sAsg, DL.gName, sRet, sRetN, sNext, sIf, sNever, sExpr, sFor, wVar, wC, wOp, wCall, wCons, wNil, wTup, wRol, wTest, wAnd, wOr, wNot, wAndT, wOrT, wNotT, wIf, wUn, gNeg, onB, gI0, gI, gAdd, DL.gSub, gMul_int, gFdiv, gMod, gPow, gShl, gShr, gLt, gLe, gGt, gGe, gEq_int, gNe_int, wChain, wChain3, sPar2, sPar3, DL.gTup, gsCons, gsNil, gInt, gIsN, gNotN, isN_non, isN_tup, isN_rol, isN_int, isN_str, isN_bl, isN_loc, wSl, wNo, wSo, gSl, gRep, gRepL, wDGet1, wDGet2, wInD, wListRg, wListRgL, wTupRg, wDctNew, wDGet2T, gAtT, wItD, wRevT, wFld, sFldS, sFldA, wMeth, wMake, wRg1, wRg2, wEnum, wZip, wRng3, wIt, wItA, wItT, wRng1, wRng2, wLc, wLcL, wLc2, wYes, wCallK, endsOf, List.set_cons_zero, List.set_cons_succ, List.getElem?_cons_zero, List.getElem?_cons_succ, if_true, if_false, Bool.false_eq_true, reduceIte, decide_eq_true_eq, wipeD, List.length_cons, List.length_nil]
  refine ⟨n, a, b, f, rfl, h, f0, hk1 _ _ (seq_k fun k2 hk2 => ?_)⟩
  clear hk1
  rcases hd with ⟨rfl, q⟩ | ⟨p, rfl, q⟩
  · try simp only [sAsg, DL.gName, sRet, sRetN, sNext, sIf, sNever, sExpr, sFor, wVar, wC, wOp, wCall, wCons, wNil, wTup, wRol, wTest, wAnd, wOr, wNot, wAndT, wOrT, wNotT, wIf, wUn, gNeg, onB, gI0, gI, gAdd, DL.gSub, gMul_int, gFdiv, gMod, gPow, gShl, gShr, gLt, gLe, gGt, gGe, gEq_int, gNe_int, wChain, wChain3, sPar2, sPar3, DL.gTup, gsCons, gsNil, gInt, gIsN, gNotN, isN_non, isN_tup, isN_rol, isN_int, isN_str, isN_bl, isN_loc, wSl, wNo, wSo, gSl, gRep, gRepL, wDGet1, wDGet2, wInD, wListRg, wListRgL, wTupRg, wDctNew, wDGet2T, gAtT, wItD, wRevT, wFld, sFldS, sFldA, wMeth, wMake, wRg1, wRg2, wEnum, wZip, wRng3, wIt, wItA, wItT, wRng1, wRng2, wLc, wLcL, wLc2, wYes, wCallK, endsOf, List.set_cons_zero, List.set_cons_succ, List.getElem?_cons_zero, List.getElem?_cons_succ, if_true, if_false, Bool.false_eq_true, reduceIte, decide_eq_true_eq, wipeD, List.length_cons, List.length_nil]
    refine ⟨le1000 (by decide), .inl ⟨rfl, ?_⟩⟩
    try simp only [sAsg, DL.gName, sRet, sRetN, sNext, sIf, sNever, sExpr, sFor, wVar, wC, wOp, wCall, wCons, wNil, wTup, wRol, wTest, wAnd, wOr, wNot, wAndT, wOrT, wNotT, wIf, wUn, gNeg, onB, gI0, gI, gAdd, DL.gSub, gMul_int, gFdiv, gMod, gPow, gShl, gShr, gLt, gLe, gGt, gGe, gEq_int, gNe_int, wChain, wChain3, sPar2, sPar3, DL.gTup, gsCons, gsNil, gInt, gIsN, gNotN, isN_non, isN_tup, isN_rol, isN_int, isN_str, isN_bl, isN_loc, wSl, wNo, wSo, gSl, gRep, gRepL, wDGet1, wDGet2, wInD, wListRg, wListRgL, wTupRg, wDctNew, wDGet2T, gAtT, wItD, wRevT, wFld, sFldS, sFldA, wMeth, wMake, wRg1, wRg2, wEnum, wZip, wRng3, wIt, wItA, wItT, wRng1, wRng2, wLc, wLcL, wLc2, wYes, wCallK, endsOf, List.set_cons_zero, List.set_cons_succ, List.getElem?_cons_zero, List.getElem?_cons_succ, if_true, if_false, Bool.false_eq_true, reduceIte, decide_eq_true_eq, wipeD, List.length_cons, List.length_nil]
    exact ⟨n, a, b, rfl, h, _, _, rfl, dist_small h, fs, .inr q⟩
  · try simp only [sAsg, DL.gName, sRet, sRetN, sNext, sIf, sNever, sExpr, sFor, wVar, wC, wOp, wCall, wCons, wNil, wTup, wRol, wTest, wAnd, wOr, wNot, wAndT, wOrT, wNotT, wIf, wUn, gNeg, onB, gI0, gI, gAdd, DL.gSub, gMul_int, gFdiv, gMod, gPow, gShl, gShr, gLt, gLe, gGt, gGe, gEq_int, gNe_int, wChain, wChain3, sPar2, sPar3, DL.gTup, gsCons, gsNil, gInt, gIsN, gNotN, isN_non, isN_tup, isN_rol, isN_int, isN_str, isN_bl, isN_loc, wSl, wNo, wSo, gSl, gRep, gRepL, wDGet1, wDGet2, wInD, wListRg, wListRgL, wTupRg, wDctNew, wDGet2T, gAtT, wItD, wRevT, wFld, sFldS, sFldA, wMeth, wMake, wRg1, wRg2, wEnum, wZip, wRng3, wIt, wItA, wItT, wRng1, wRng2, wLc, wLcL, wLc2, wYes, wCallK, endsOf, List.set_cons_zero, List.set_cons_succ, List.getElem?_cons_zero, List.getElem?_cons_succ, if_true, if_false, Bool.false_eq_true, reduceIte, decide_eq_true_eq, wipeD, List.length_cons, List.length_nil]
    refine ⟨le1000 (by decide), .inr ⟨n, p, n8, rfl, ?_⟩⟩
    try simp only [sAsg, DL.gName, sRet, sRetN, sNext, sIf, sNever, sExpr, sFor, wVar, wC, wOp, wCall, wCons, wNil, wTup, wRol, wTest, wAnd, wOr, wNot, wAndT, wOrT, wNotT, wIf, wUn, gNeg, onB, gI0, gI, gAdd, DL.gSub, gMul_int, gFdiv, gMod, gPow, gShl, gShr, gLt, gLe, gGt, gGe, gEq_int, gNe_int, wChain, wChain3, sPar2, sPar3, DL.gTup, gsCons, gsNil, gInt, gIsN, gNotN, isN_non, isN_tup, isN_rol, isN_int, isN_str, isN_bl, isN_loc, wSl, wNo, wSo, gSl, gRep, gRepL, wDGet1, wDGet2, wInD, wListRg, wListRgL, wTupRg, wDctNew, wDGet2T, gAtT, wItD, wRevT, wFld, sFldS, sFldA, wMeth, wMake, wRg1, wRg2, wEnum, wZip, wRng3, wIt, wItA, wItT, wRng1, wRng2, wLc, wLcL, wLc2, wYes, wCallK, endsOf, List.set_cons_zero, List.set_cons_succ, List.getElem?_cons_zero, List.getElem?_cons_succ, if_true, if_false, Bool.false_eq_true, reduceIte, decide_eq_true_eq, wipeD, List.length_cons, List.length_nil]
    refine hk2 _ _ (seq_k fun k3 hk3 => ?_)
    clear hk2
    try simp only [sAsg, DL.gName, sRet, sRetN, sNext, sIf, sNever, sExpr, sFor, wVar, wC, wOp, wCall, wCons, wNil, wTup, wRol, wTest, wAnd, wOr, wNot, wAndT, wOrT, wNotT, wIf, wUn, gNeg, onB, gI0, gI, gAdd, DL.gSub, gMul_int, gFdiv, gMod, gPow, gShl, gShr, gLt, gLe, gGt, gGe, gEq_int, gNe_int, wChain, wChain3, sPar2, sPar3, DL.gTup, gsCons, gsNil, gInt, gIsN, gNotN, isN_non, isN_tup, isN_rol, isN_int, isN_str, isN_bl, isN_loc, wSl, wNo, wSo, gSl, gRep, gRepL, wDGet1, wDGet2, wInD, wListRg, wListRgL, wTupRg, wDctNew, wDGet2T, gAtT, wItD, wRevT, wFld, sFldS, sFldA, wMeth, wMake, wRg1, wRg2, wEnum, wZip, wRng3, wIt, wItA, wItT, wRng1, wRng2, wLc, wLcL, wLc2, wYes, wCallK, endsOf, List.set_cons_zero, List.set_cons_succ, List.getElem?_cons_zero, List.getElem?_cons_succ, if_true, if_false, Bool.false_eq_true, reduceIte, decide_eq_true_eq, wipeD, List.length_cons, List.length_nil]
    refine ⟨n, p, rfl, ?_⟩
    try simp only [sAsg, DL.gName, sRet, sRetN, sNext, sIf, sNever, sExpr, sFor, wVar, wC, wOp, wCall, wCons, wNil, wTup, wRol, wTest, wAnd, wOr, wNot, wAndT, wOrT, wNotT, wIf, wUn, gNeg, onB, gI0, gI, gAdd, DL.gSub, gMul_int, gFdiv, gMod, gPow, gShl, gShr, gLt, gLe, gGt, gGe, gEq_int, gNe_int, wChain, wChain3, sPar2, sPar3, DL.gTup, gsCons, gsNil, gInt, gIsN, gNotN, isN_non, isN_tup, isN_rol, isN_int, isN_str, isN_bl, isN_loc, wSl, wNo, wSo, gSl, gRep, gRepL, wDGet1, wDGet2, wInD, wListRg, wListRgL, wTupRg, wDctNew, wDGet2T, gAtT, wItD, wRevT, wFld, sFldS, sFldA, wMeth, wMake, wRg1, wRg2, wEnum, wZip, wRng3, wIt, wItA, wItT, wRng1, wRng2, wLc, wLcL, wLc2, wYes, wCallK, endsOf, List.set_cons_zero, List.set_cons_succ, List.getElem?_cons_zero, List.getElem?_cons_succ, if_true, if_false, Bool.false_eq_true, reduceIte, decide_eq_true_eq, wipeD, List.length_cons, List.length_nil, gLen, lotD, gIx]
    rw [if_neg (by decide)]
    try simp only [sAsg, DL.gName, sRet, sRetN, sNext, sIf, sNever, sExpr, sFor, wVar, wC, wOp, wCall, wCons, wNil, wTup, wRol, wTest, wAnd, wOr, wNot, wAndT, wOrT, wNotT, wIf, wUn, gNeg, onB, gI0, gI, gAdd, DL.gSub, gMul_int, gFdiv, gMod, gPow, gShl, gShr, gLt, gLe, gGt, gGe, gEq_int, gNe_int, wChain, wChain3, sPar2, sPar3, DL.gTup, gsCons, gsNil, gInt, gIsN, gNotN, isN_non, isN_tup, isN_rol, isN_int, isN_str, isN_bl, isN_loc, wSl, wNo, wSo, gSl, gRep, gRepL, wDGet1, wDGet2, wInD, wListRg, wListRgL, wTupRg, wDctNew, wDGet2T, gAtT, wItD, wRevT, wFld, sFldS, sFldA, wMeth, wMake, wRg1, wRg2, wEnum, wZip, wRng3, wIt, wItA, wItT, wRng1, wRng2, wLc, wLcL, wLc2, wYes, wCallK, endsOf, List.set_cons_zero, List.set_cons_succ, List.getElem?_cons_zero, List.getElem?_cons_succ, if_true, if_false, Bool.false_eq_true, reduceIte, decide_eq_true_eq, wipeD, List.length_cons, List.length_nil, tabD, List.length_map]
    rw [la]
    refine ⟨_, rfl, n, p, rfl, n8, ?_⟩
    try simp only [sAsg, DL.gName, sRet, sRetN, sNext, sIf, sNever, sExpr, sFor, wVar, wC, wOp, wCall, wCons, wNil, wTup, wRol, wTest, wAnd, wOr, wNot, wAndT, wOrT, wNotT, wIf, wUn, gNeg, onB, gI0, gI, gAdd, DL.gSub, gMul_int, gFdiv, gMod, gPow, gShl, gShr, gLt, gLe, gGt, gGe, gEq_int, gNe_int, wChain, wChain3, sPar2, sPar3, DL.gTup, gsCons, gsNil, gInt, gIsN, gNotN, isN_non, isN_tup, isN_rol, isN_int, isN_str, isN_bl, isN_loc, wSl, wNo, wSo, gSl, gRep, gRepL, wDGet1, wDGet2, wInD, wListRg, wListRgL, wTupRg, wDctNew, wDGet2T, gAtT, wItD, wRevT, wFld, sFldS, sFldA, wMeth, wMake, wRg1, wRg2, wEnum, wZip, wRng3, wIt, wItA, wItT, wRng1, wRng2, wLc, wLcL, wLc2, wYes, wCallK, endsOf, List.set_cons_zero, List.set_cons_succ, List.getElem?_cons_zero, List.getElem?_cons_succ, if_true, if_false, Bool.false_eq_true, reduceIte, decide_eq_true_eq, wipeD, List.length_cons, List.length_nil]
    refine hk3 _ _ ?_
    clear hk3
    try simp only [sSeq, sAsg, DL.gName, sRet, sRetN, sNext, sIf, sNever, sExpr, sFor, wVar, wC, wOp, wCall, wCons, wNil, wTup, wRol, wTest, wAnd, wOr, wNot, wAndT, wOrT, wNotT, wIf, wUn, gNeg, onB, gI0, gI, gAdd, DL.gSub, gMul_int, gFdiv, gMod, gPow, gShl, gShr, gLt, gLe, gGt, gGe, gEq_int, gNe_int, wChain, wChain3, sPar2, sPar3, DL.gTup, gsCons, gsNil, gInt, gIsN, gNotN, isN_non, isN_tup, isN_rol, isN_int, isN_str, isN_bl, isN_loc, wSl, wNo, wSo, gSl, gRep, gRepL, wDGet1, wDGet2, wInD, wListRg, wListRgL, wTupRg, wDctNew, wDGet2T, gAtT, wItD, wRevT, wFld, sFldS, sFldA, wMeth, wMake, wRg1, wRg2, wEnum, wZip, wRng3, wIt, wItA, wItT, wRng1, wRng2, wLc, wLcL, wLc2, wYes, wCallK, endsOf, List.set_cons_zero, List.set_cons_succ, List.getElem?_cons_zero, List.getElem?_cons_succ, if_true, if_false, Bool.false_eq_true, reduceIte, decide_eq_true_eq, wipeD, List.length_cons, List.length_nil, gIx]
    refine ⟨_, rfl, N, n, a, p, rfl, h1, _, rfl, M, n, b, p, rfl, h2, _, _, rfl, chF_small h1 p, chF_small h2 p, _, _, rfl, fs, ?_, .inr q⟩
    have e := dist_lot h p
    obtain ⟨K, t⟩ := h.at_
    refine small_16 (gap_nn _ _) (Rat.le_trans e (Rat.le_trans (dist_le1 h) (by decide))) ?_
    have nt : Nth K (gapR (chF a p) (chF b p)) := by
      refine gap_nth t.n0 ?_ ?_
      · unfold chF; rw [la]; exact sm_nth t.n0 fun i hi => ite_nth _ (t.na i hi)
      · unfold chF; rw [lb]; exact sm_nth t.n0 fun i hi => ite_nth _ (t.nb i hi)
    exact Nat.lt_of_le_of_lt (nt.den t.n0) (Nat.lt_of_le_of_lt t.big (Nat.pow_lt_pow_right (by decide) (by decide)))
/-! ## the law's own -/
theorem TwoL.two {n : Nat} {a b : List Rat} (h : TwoL n a b) : Two n a b := by
  obtain ⟨N, M, h1, h2, h3, h4⟩ := h.ex
  exact ⟨N, M, h1, h2, Nat.le_trans (Nat.mul_le_mul h3 h4) (by decide +kernel)⟩
theorem TwoL.den {n : Nat} {a b : List Rat} (h : TwoL n a b) : ∃ N, N ≤ 2 ^ 153 ∧ TwoAt n N a b := by
  obtain ⟨N, M, h1, h2, h3, h4⟩ := h.ex
  refine ⟨N * M, Nat.le_trans (Nat.mul_le_mul h3 h4) (by decide +kernel), Nat.mul_pos h1.n0 h2.n0, Nat.le_trans (Nat.mul_le_mul h3 h4) (by decide +kernel), fun i hi => Nth.up h1.n0 h2.n0 (h1.atN hi), fun i hi => by rw [Nat.mul_comm]; exact Nth.up h2.n0 h1.n0 (h2.atN hi)⟩
theorem abs_fr (f g : Rat) : D.tup [.int (if (f - g).num < 0 then -(f - g).num else (f - g).num), .int (f - g).den] = frD (gapR f g) := by
  unfold gapR frD
  have hs : g - f = -(f - g) := by grind
  by_cases z : f < g
  · have : f - g < 0 := by grind
    have z2 : (f - g).num < 0 := by
      rw [← Int.not_le]
      intro y
      have := Rat.num_nonneg.mp y
      grind
    rw [if_pos z, if_pos z2, hs]
    rfl
  · have : 0 ≤ f - g := by grind
    have z2 := Rat.num_nonneg.mpr this
    rw [if_neg z, if_neg (by omega)]
theorem len_l_apart : ∀ ds S Q, c_l_apart ds S Q → ds.length = 2 := by rintro _ _ _ ⟨_, _, _, rfl, _⟩; rfl
theorem spec_l_apart : ∀ ds S Q, CloS S → Bels S.length ds → c_l_apart ds S Q → w_l_apart (endsOf S.length Q) (startD N_l_apart ds) S := by
  rintro _ S Q hc hb ⟨n, a, b, rfl, h, q⟩
  have hd : Two n a b ∧ ∃ N, N ≤ 2 ^ 153 ∧ TwoAt n N a b := by
    rcases h with h | h
    · exact ⟨h.two, h.den⟩
    · obtain ⟨N, h1, h2⟩ := h.den
      exact ⟨h.two.swap, N, h1, h2.n0, h2.big, h2.nb, h2.na⟩
  obtain ⟨h2, N, hN, ta⟩ := hd
  obtain ⟨la, lb⟩ := h2.len
  obtain ⟨N1, M1, h1, h1b, _⟩ := h2.ex
  have n8 := h1.n8
  rw [st_l_apart]
  unfold w_l_apart
  refine seq_k fun k1 hk1 => ?_
  try simp only [sSeq, sAsg, DL.gName, sRet, sRetN, sNext, sIf, sNever, sExpr, sFor, wVar, wC, wOp, wCall, wCons, wNil, wTup, wRol, wTest, wAnd, wOr, wNot, wAndT, wOrT, wNotT, wIf, wUn, gNeg, onB, gI0, gI, gAdd, DL.gSub, gMul_int, gFdiv, gMod, gPow, gShl, gShr, gLt, gLe, gGt, gGe, gEq_int, gNe_int, wChain, wChain3, sPar2, sPar3, DL.gTup, gsCons, gsNil, gInt, gIsN, gNotN, isN_non, isN_tup, isN_rol, isN_int, isN_str, isN_bl, isN_loc, wSl, wNo, wSo, gSl, gRep, gRepL, wDGet1, wDGet2, wInD, wListRg, wListRgL, wTupRg, wDctNew, wDGet2T, gAtT, wItD, wRevT, wFld, sFldS, sFldA, wMeth, wMake, wRg1, wRg2, wEnum, wZip, wRng3, wIt, wItA, wItT, wRng1, wRng2, wLc, wLcL, wLc2, wYes, wCallK, endsOf, List.set_cons_zero, List.set_cons_succ, List.getElem?_cons_zero, List.getElem?_cons_succ, if_true, if_false, Bool.false_eq_true, reduceIte, decide_eq_true_eq, wipeD, List.length_cons, List.length_nil, tabD]
  rw [zip_frs]
  refine wLc_map (fun p : Rat × Rat => D.tup [frD p.1, frD p.2]) (fun p => frD (p.1 - p.2)) (a.zip b) gd0 (le1000 (by simp; omega)) (fun p hp k k0 y => ?_) ?_
  · have hp1 := (List.of_mem_zip hp).1
    have hp2 := (List.of_mem_zip hp).2
    try simp only [sAsg, DL.gName, sRet, sRetN, sNext, sIf, sNever, sExpr, sFor, wVar, wC, wOp, wCall, wCons, wNil, wTup, wRol, wTest, wAnd, wOr, wNot, wAndT, wOrT, wNotT, wIf, wUn, gNeg, onB, gI0, gI, gAdd, DL.gSub, gMul_int, gFdiv, gMod, gPow, gShl, gShr, gLt, gLe, gGt, gGe, gEq_int, gNe_int, wChain, wChain3, sPar2, sPar3, DL.gTup, gsCons, gsNil, gInt, gIsN, gNotN, isN_non, isN_tup, isN_rol, isN_int, isN_str, isN_bl, isN_loc, wSl, wNo, wSo, gSl, gRep, gRepL, wDGet1, wDGet2, wInD, wListRg, wListRgL, wTupRg, wDctNew, wDGet2T, gAtT, wItD, wRevT, wFld, sFldS, sFldA, wMeth, wMake, wRg1, wRg2, wEnum, wZip, wRng3, wIt, wItA, wItT, wRng1, wRng2, wLc, wLcL, wLc2, wYes, wCallK, endsOf, List.set_cons_zero, List.set_cons_succ, List.getElem?_cons_zero, List.getElem?_cons_succ, if_true, if_false, Bool.false_eq_true, reduceIte, decide_eq_true_eq, wipeD, List.length_cons, List.length_nil]
    exact ⟨by trivial, p.1, p.2, rfl, h1.small hp1, h1b.small hp2, y⟩
  refine hk1 _ _ (seq_k fun k2 hk2 => ?_)
  clear hk1
  try simp only [sSeq, sAsg, DL.gName, sRet, sRetN, sNext, sIf, sNever, sExpr, sFor, wVar, wC, wOp, wCall, wCons, wNil, wTup, wRol, wTest, wAnd, wOr, wNot, wAndT, wOrT, wNotT, wIf, wUn, gNeg, onB, gI0, gI, gAdd, DL.gSub, gMul_int, gFdiv, gMod, gPow, gShl, gShr, gLt, gLe, gGt, gGe, gEq_int, gNe_int, wChain, wChain3, sPar2, sPar3, DL.gTup, gsCons, gsNil, gInt, gIsN, gNotN, isN_non, isN_tup, isN_rol, isN_int, isN_str, isN_bl, isN_loc, wSl, wNo, wSo, gSl, gRep, gRepL, wDGet1, wDGet2, wInD, wListRg, wListRgL, wTupRg, wDctNew, wDGet2T, gAtT, wItD, wRevT, wFld, sFldS, sFldA, wMeth, wMake, wRg1, wRg2, wEnum, wZip, wRng3, wIt, wItA, wItT, wRng1, wRng2, wLc, wLcL, wLc2, wYes, wCallK, endsOf, List.set_cons_zero, List.set_cons_succ, List.getElem?_cons_zero, List.getElem?_cons_succ, if_true, if_false, Bool.false_eq_true, reduceIte, decide_eq_true_eq, wipeD, List.length_cons, List.length_nil]
  refine wLc_map (fun p : Rat × Rat => frD (p.1 - p.2)) (fun p => frD (gapR p.1 p.2)) (a.zip b) gd0 (le1000 (by simp; omega)) (fun p hp k k0 y => ?_) ?_
  · try simp only [sAsg, DL.gName, sRet, sRetN, sNext, sIf, sNever, sExpr, sFor, wVar, wC, wOp, wCall, wCons, wNil, wTup, wRol, wTest, wAnd, wOr, wNot, wAndT, wOrT, wNotT, wIf, wUn, gNeg, onB, gI0, gI, gAdd, DL.gSub, gMul_int, gFdiv, gMod, gPow, gShl, gShr, gLt, gLe, gGt, gGe, gEq_int, gNe_int, wChain, wChain3, sPar2, sPar3, DL.gTup, gsCons, gsNil, gInt, gIsN, gNotN, isN_non, isN_tup, isN_rol, isN_int, isN_str, isN_bl, isN_loc, wSl, wNo, wSo, gSl, gRep, gRepL, wDGet1, wDGet2, wInD, wListRg, wListRgL, wTupRg, wDctNew, wDGet2T, gAtT, wItD, wRevT, wFld, sFldS, sFldA, wMeth, wMake, wRg1, wRg2, wEnum, wZip, wRng3, wIt, wItA, wItT, wRng1, wRng2, wLc, wLcL, wLc2, wYes, wCallK, endsOf, List.set_cons_zero, List.set_cons_succ, List.getElem?_cons_zero, List.getElem?_cons_succ, if_true, if_false, Bool.false_eq_true, reduceIte, decide_eq_true_eq, wipeD, List.length_cons, List.length_nil, gIx, frD]
    refine ⟨_, rfl, ?_⟩
    try simp only [sAsg, DL.gName, sRet, sRetN, sNext, sIf, sNever, sExpr, sFor, wVar, wC, wOp, wCall, wCons, wNil, wTup, wRol, wTest, wAnd, wOr, wNot, wAndT, wOrT, wNotT, wIf, wUn, gNeg, onB, gI0, gI, gAdd, DL.gSub, gMul_int, gFdiv, gMod, gPow, gShl, gShr, gLt, gLe, gGt, gGe, gEq_int, gNe_int, wChain, wChain3, sPar2, sPar3, DL.gTup, gsCons, gsNil, gInt, gIsN, gNotN, isN_non, isN_tup, isN_rol, isN_int, isN_str, isN_bl, isN_loc, wSl, wNo, wSo, gSl, gRep, gRepL, wDGet1, wDGet2, wInD, wListRg, wListRgL, wTupRg, wDctNew, wDGet2T, gAtT, wItD, wRevT, wFld, sFldS, sFldA, wMeth, wMake, wRg1, wRg2, wEnum, wZip, wRng3, wIt, wItA, wItT, wRng1, wRng2, wLc, wLcL, wLc2, wYes, wCallK, endsOf, List.set_cons_zero, List.set_cons_succ, List.getElem?_cons_zero, List.getElem?_cons_succ, if_true, if_false, Bool.false_eq_true, reduceIte, decide_eq_true_eq, wipeD, List.length_cons, List.length_nil, gAbs]
    refine ⟨_, rfl, le1000 (by decide), ?_⟩
    rw [abs_fr]
    exact y
  have eg : (a.zip b).map (fun p => frD (gapR p.1 p.2)) = (tF n fun i => gapR (gF a i) (gF b i)).map frD := by
    rw [← zip_tF la lb, List.map_map]; rfl
  rw [eg]
  have gs2 := gs_two h2
  have d0 := dist_nn a b
  have d1 := dist_le1 h2
  have ds := dist_small h2
  have es : (tF n fun i => gapR (gF a i) (gF b i)).sum = gsF n a b := tF_sum _ _
  refine ⟨_, rfl, ⟨fun f hf => ?_, by rw [tF_len]; omega, ?_⟩, ?_⟩
  · obtain ⟨i, hi, rfl⟩ := List.mem_map.mp hf
    have hi := List.mem_range.mp hi
    exact ⟨gap_nn _ _, Nat.le_trans ((gap_nth ta.n0 (ta.na i hi) (ta.nb i hi)).den ta.n0) (Nat.le_trans hN (Nat.pow_le_pow_right (by decide) (by decide)))⟩
  · rw [es, gs2]; grind
  rw [es]
  refine hk2 _ _ ?_
  clear hk2
  have nb : Nth N (gsF n a b) := sm_nth ta.n0 fun i hi => gap_nth ta.n0 (ta.na i hi) (ta.nb i hi)
  have gd2 : (gsF n a b).den < 2 ^ 890 := Nat.lt_of_le_of_lt (nb.den ta.n0) (Nat.lt_of_le_of_lt hN (Nat.pow_lt_pow_right (by decide) (by decide)))
  have gsm : smallR (gsF n a b) := small_16 (by rw [gs2]; grind) (by rw [gs2]; grind) gd2
  have dp := den_pos (gsF n a b)
  have p891 : (2 : Nat) ^ 891 = 2 * 2 ^ 890 := by rw [Nat.pow_succ, Nat.mul_comm]
  have p9 : (2 : Nat) ^ 891 < 2 ^ 2000 := Nat.pow_lt_pow_right (by decide) (by decide)
  try simp only [sSeq, sAsg, DL.gName, sRet, sRetN, sNext, sIf, sNever, sExpr, sFor, wVar, wC, wOp, wCall, wCons, wNil, wTup, wRol, wTest, wAnd, wOr, wNot, wAndT, wOrT, wNotT, wIf, wUn, gNeg, onB, gI0, gI, gAdd, DL.gSub, gMul_int, gFdiv, gMod, gPow, gShl, gShr, gLt, gLe, gGt, gGe, gEq_int, gNe_int, wChain, wChain3, sPar2, sPar3, DL.gTup, gsCons, gsNil, gInt, gIsN, gNotN, isN_non, isN_tup, isN_rol, isN_int, isN_str, isN_bl, isN_loc, wSl, wNo, wSo, gSl, gRep, gRepL, wDGet1, wDGet2, wInD, wListRg, wListRgL, wTupRg, wDctNew, wDGet2T, gAtT, wItD, wRevT, wFld, sFldS, sFldA, wMeth, wMake, wRg1, wRg2, wEnum, wZip, wRng3, wIt, wItA, wItT, wRng1, wRng2, wLc, wLcL, wLc2, wYes, wCallK, endsOf, List.set_cons_zero, List.set_cons_succ, List.getElem?_cons_zero, List.getElem?_cons_succ, if_true, if_false, Bool.false_eq_true, reduceIte, decide_eq_true_eq, wipeD, List.length_cons, List.length_nil, gIx, frD]
  refine ⟨_, rfl, _, rfl, mul_small (by decide +kernel) gsm.den, _, _, rfl, by omega, by omega, ?_⟩
  have e : mkRat (gsF n a b).num (2 * ((gsF n a b).den : Int)).toNat = distF a b := by
    rw [dist_gs la]
    conv => rhs; rw [← Rat.mkRat_self (gsF n a b)]
    rw [Rat.mkRat_mul_mkRat, Int.one_mul]
    congr 1
  rw [e]
  exact .inr q
theorem len_l_is_lot : ∀ ds S Q, c_l_is_lot ds S Q → ds.length = 2 := by rintro _ _ _ ⟨_, _, rfl, _⟩; rfl
theorem spec_l_is_lot : ∀ ds S Q, CloS S → Bels S.length ds → c_l_is_lot ds S Q → w_l_is_lot (endsOf S.length Q) (startD N_l_is_lot ds) S := by
  rintro _ S Q hc hb ⟨n, p, rfl, n8, q⟩
  have hl := lot_len n p
  rw [st_l_is_lot]
  unfold w_l_is_lot
  try simp only [sSeq, sAsg, DL.gName, sRet, sRetN, sNext, sIf, sNever, sExpr, sFor, wVar, wC, wOp, wCall, wCons, wNil, wTup, wRol, wTest, wAnd, wOr, wNot, wAndT, wOrT, wNotT, wIf, wUn, gNeg, onB, gI0, gI, gAdd, DL.gSub, gMul_int, gFdiv, gMod, gPow, gShl, gShr, gLt, gLe, gGt, gGe, gEq_int, gNe_int, wChain, wChain3, sPar2, sPar3, DL.gTup, gsCons, gsNil, gInt, gIsN, gNotN, isN_non, isN_tup, isN_rol, isN_int, isN_str, isN_bl, isN_loc, wSl, wNo, wSo, gSl, gRep, gRepL, wDGet1, wDGet2, wInD, wListRg, wListRgL, wTupRg, wDctNew, wDGet2T, gAtT, wItD, wRevT, wFld, sFldS, sFldA, wMeth, wMake, wRg1, wRg2, wEnum, wZip, wRng3, wIt, wItA, wItT, wRng1, wRng2, wLc, wLcL, wLc2, wYes, wCallK, endsOf, List.set_cons_zero, List.set_cons_succ, List.getElem?_cons_zero, List.getElem?_cons_succ, if_true, if_false, Bool.false_eq_true, reduceIte, decide_eq_true_eq, wipeD, List.length_cons, List.length_nil, gIsi, wayD]
  refine ⟨"tuple", rfl, by decide, ?_⟩
  rw [if_neg (by decide)]
  refine wLc_filter (fun (i : Nat) => D.int i) (fun _ => .int 1) (fun _ => false) (lotF n p) gd0 (le1000 (by omega)) (fun i hi k k0 _ hk0 => ?_) ?_
  · have hi := (lot_mem.mp hi).1
    try simp only [sSeq, sAsg, DL.gName, sRet, sRetN, sNext, sIf, sNever, sExpr, sFor, wVar, wC, wOp, wCall, wCons, wNil, wTup, wRol, wTest, wAnd, wOr, wNot, wAndT, wOrT, wNotT, wIf, wUn, gNeg, onB, gI0, gI, gAdd, DL.gSub, gMul_int, gFdiv, gMod, gPow, gShl, gShr, gLt, gLe, gGt, gGe, gEq_int, gNe_int, wChain, wChain3, sPar2, sPar3, DL.gTup, gsCons, gsNil, gInt, gIsN, gNotN, isN_non, isN_tup, isN_rol, isN_int, isN_str, isN_bl, isN_loc, wSl, wNo, wSo, gSl, gRep, gRepL, wDGet1, wDGet2, wInD, wListRg, wListRgL, wTupRg, wDctNew, wDGet2T, gAtT, wItD, wRevT, wFld, sFldS, sFldA, wMeth, wMake, wRg1, wRg2, wEnum, wZip, wRng3, wIt, wItA, wItT, wRng1, wRng2, wLc, wLcL, wLc2, wYes, wCallK, endsOf, List.set_cons_zero, List.set_cons_succ, List.getElem?_cons_zero, List.getElem?_cons_succ, if_true, if_false, Bool.false_eq_true, reduceIte, decide_eq_true_eq, wipeD, List.length_cons, List.length_nil]
    refine ⟨_, rfl, ?_⟩
    try simp only [sSeq, sAsg, DL.gName, sRet, sRetN, sNext, sIf, sNever, sExpr, sFor, wVar, wC, wOp, wCall, wCons, wNil, wTup, wRol, wTest, wAnd, wOr, wNot, wAndT, wOrT, wNotT, wIf, wUn, gNeg, onB, gI0, gI, gAdd, DL.gSub, gMul_int, gFdiv, gMod, gPow, gShl, gShr, gLt, gLe, gGt, gGe, gEq_int, gNe_int, wChain, wChain3, sPar2, sPar3, DL.gTup, gsCons, gsNil, gInt, gIsN, gNotN, isN_non, isN_tup, isN_rol, isN_int, isN_str, isN_bl, isN_loc, wSl, wNo, wSo, gSl, gRep, gRepL, wDGet1, wDGet2, wInD, wListRg, wListRgL, wTupRg, wDctNew, wDGet2T, gAtT, wItD, wRevT, wFld, sFldS, sFldA, wMeth, wMake, wRg1, wRg2, wEnum, wZip, wRng3, wIt, wItA, wItT, wRng1, wRng2, wLc, wLcL, wLc2, wYes, wCallK, endsOf, List.set_cons_zero, List.set_cons_succ, List.getElem?_cons_zero, List.getElem?_cons_succ, if_true, if_false, Bool.false_eq_true, reduceIte, decide_eq_true_eq, wipeD, List.length_cons, List.length_nil]
    have h0 : (0 : Int) ≤ (i : Int) := by omega
    have hn : (i : Int) < (n : Int) := by omega
    have e : (!decide ((i : Int) < (n : Int))) = false := by rw [decide_eq_true hn]; rfl
    rw [if_neg (by decide), if_pos h0, e, if_neg (by decide)]
    exact hk0 rfl
  · have e0 : (lotF n p).filter (fun _ => false) = [] := List.filter_eq_nil_iff.mpr fun _ _ => by decide
    rw [e0, List.map_nil]
    refine ⟨Nat.zero_le _, gNe_at (.rol []) (.rol []) false rfl rfl rfl rfl (by decide) (by decide) (by simp) ?_⟩
    try simp only [sSeq, sAsg, DL.gName, sRet, sRetN, sNext, sIf, sNever, sExpr, sFor, wVar, wC, wOp, wCall, wCons, wNil, wTup, wRol, wTest, wAnd, wOr, wNot, wAndT, wOrT, wNotT, wIf, wUn, gNeg, onB, gI0, gI, gAdd, DL.gSub, gMul_int, gFdiv, gMod, gPow, gShl, gShr, gLt, gLe, gGt, gGe, gEq_int, gNe_int, wChain, wChain3, sPar2, sPar3, DL.gTup, gsCons, gsNil, gInt, gIsN, gNotN, isN_non, isN_tup, isN_rol, isN_int, isN_str, isN_bl, isN_loc, wSl, wNo, wSo, gSl, gRep, gRepL, wDGet1, wDGet2, wInD, wListRg, wListRgL, wTupRg, wDctNew, wDGet2T, gAtT, wItD, wRevT, wFld, sFldS, sFldA, wMeth, wMake, wRg1, wRg2, wEnum, wZip, wRng3, wIt, wItA, wItT, wRng1, wRng2, wLc, wLcL, wLc2, wYes, wCallK, endsOf, List.set_cons_zero, List.set_cons_succ, List.getElem?_cons_zero, List.getElem?_cons_succ, if_true, if_false, Bool.false_eq_true, reduceIte, decide_eq_true_eq, wipeD, List.length_cons, List.length_nil, gListOf, wSortSet]
    have es : (lotF n p).map (fun (i : Nat) => D.int i) = ((lotF n p).map fun (j : Nat) => (j : Int)).map D.int := by rw [List.map_map]; rfl
    rw [es]
    refine ⟨_, .inr rfl, by rw [List.length_map]; omega, fun ms h1 h2 => ?_⟩
    have asc : ((lotF n p).map fun (j : Nat) => (j : Int)).Pairwise (· < ·) := by
      rw [List.pairwise_map]
      exact (lot_asc n p).imp fun h => by omega
    rw [asc_eq h1 asc h2]
    exact gEq_at (.rol _) (.rol _) true rfl rfl noB_ints noB_ints dpD_ints dpD_ints (by simp) (.inr q)
theorem len_l_lot_apart : ∀ ds S Q, c_l_lot_apart ds S Q → ds.length = 3 := by rintro _ _ _ ⟨_, _, _, _, rfl, _⟩; rfl
theorem spec_l_lot_apart : ∀ ds S Q, CloS S → Bels S.length ds → c_l_lot_apart ds S Q → w_l_lot_apart (endsOf S.length Q) (startD N_l_lot_apart ds) S := by
  rintro _ S Q hc hb ⟨n, a, b, p, rfl, h, q⟩
  obtain ⟨N, M, h1, h2, h3, h4⟩ := h.ex
  rw [st_l_lot_apart]
  unfold w_l_lot_apart
  refine seq_k fun k1 hk1 => ?_
  try simp only [sAsg, DL.gName, sRet, sRetN, sNext, sIf, sNever, sExpr, sFor, wVar, wC, wOp, wCall, wCons, wNil, wTup, wRol, wTest, wAnd, wOr, wNot, wAndT, wOrT, wNotT, wIf, wUn, gNeg, onB, gI0, gI, gAdd, DL.gSub, gMul_int, gFdiv, gMod, gPow, gShl, gShr, gLt, gLe, gGt, gGe, gEq_int, gNe_int, wChain, wChain3, sPar2, sPar3, DL.gTup, gsCons, gsNil, gInt, gIsN, gNotN, isN_non, isN_tup, isN_rol, isN_int, isN_str, isN_bl, isN_loc, wSl, wNo, wSo, gSl, gRep, gRepL, wDGet1, wDGet2, wInD, wListRg, wListRgL, wTupRg, wDctNew, wDGet2T, gAtT, wItD, wRevT, wFld, sFldS, sFldA, wMeth, wMake, wRg1, wRg2, wEnum, wZip, wRng3, wIt, wItA, wItT, wRng1, wRng2, wLc, wLcL, wLc2, wYes, wCallK, endsOf, List.set_cons_zero, List.set_cons_succ, List.getElem?_cons_zero, List.getElem?_cons_succ, if_true, if_false, Bool.false_eq_true, reduceIte, decide_eq_true_eq, wipeD, List.length_cons, List.length_nil]
  refine ⟨N, n, a, p, rfl, h1, h1.less (Nat.le_trans h3 (by decide +kernel)), M, n, b, p, rfl, h2, h2.less (Nat.le_trans h4 (by decide +kernel)), _, _, rfl, chF_small h1 p, chF_small h2 p, hk1 _ _ ?_⟩
  clear hk1
  try simp only [sSeq, sAsg, DL.gName, sRet, sRetN, sNext, sIf, sNever, sExpr, sFor, wVar, wC, wOp, wCall, wCons, wNil, wTup, wRol, wTest, wAnd, wOr, wNot, wAndT, wOrT, wNotT, wIf, wUn, gNeg, onB, gI0, gI, gAdd, DL.gSub, gMul_int, gFdiv, gMod, gPow, gShl, gShr, gLt, gLe, gGt, gGe, gEq_int, gNe_int, wChain, wChain3, sPar2, sPar3, DL.gTup, gsCons, gsNil, gInt, gIsN, gNotN, isN_non, isN_tup, isN_rol, isN_int, isN_str, isN_bl, isN_loc, wSl, wNo, wSo, gSl, gRep, gRepL, wDGet1, wDGet2, wInD, wListRg, wListRgL, wTupRg, wDctNew, wDGet2T, gAtT, wItD, wRevT, wFld, sFldS, sFldA, wMeth, wMake, wRg1, wRg2, wEnum, wZip, wRng3, wIt, wItA, wItT, wRng1, wRng2, wLc, wLcL, wLc2, wYes, wCallK, endsOf, List.set_cons_zero, List.set_cons_succ, List.getElem?_cons_zero, List.getElem?_cons_succ, if_true, if_false, Bool.false_eq_true, reduceIte, decide_eq_true_eq, wipeD, List.length_cons, List.length_nil, gIx, frD, gAbs]
  refine ⟨_, rfl, _, rfl, le1000 (by decide), ?_⟩
  rw [abs_fr]
  exact .inr q
theorem Tab.rev {N n : Nat} {t : List Rat} (h : Tab N n t) : Tab N n t.reverse := by
  refine ⟨h.n0, h.big, h.n1, h.n8, by rw [List.length_reverse]; exact h.len, fun p hp => h.pos p (List.mem_reverse.mp hp), ?_, fun p hp => h.nth p (List.mem_reverse.mp hp)⟩
  rw [← h.sum]
  have : ∀ l : List Rat, l.reverse.sum = l.sum := by
    intro l
    induction l with
    | nil => rfl
    | cons x l ih => rw [List.reverse_cons, List.sum_append, ih, List.sum_cons, List.sum_cons, List.sum_nil]; grind
  exact this t
theorem both_up {N n : Nat} {t u : List Rat} (h : Tab N n t) (g : Tab M n u) (hN : N ≤ 2 ^ 43) (hM : M ≤ 2 ^ 43) : Tab (N * M) n t ∧ Tab (N * M) n u ∧ N * M ≤ 2 ^ 86 := by
  have hb : N * M ≤ 2 ^ 86 := Nat.le_trans (Nat.mul_le_mul hN hM) (by decide +kernel)
  have hb2 : N * M ≤ 2 ^ 880 := Nat.le_trans hb (Nat.pow_le_pow_right (by decide) (by decide))
  have h0 := Nat.mul_pos h.n0 g.n0
  exact ⟨h.up h0 ⟨M, rfl⟩ hb2, g.up h0 ⟨N, Nat.mul_comm _ _⟩ hb2, hb⟩
theorem half_tab : Tab 2 2 halfT := ⟨by decide, Nat.le_trans (show 2 ≤ 2 ^ 1 by decide) (Nat.pow_le_pow_right (by decide) (by decide)), by decide, by decide, rfl, by decide +kernel, by decide +kernel, by
  intro p hp
  have : p = mkRat 1 2 := by simpa [halfT] using hp
  exact ⟨1, this⟩⟩
def smallT : List Rat := [mkRat 1 1000000, mkRat 999999 1000000]
theorem small_tab : Tab 1000000 2 smallT := ⟨by decide, Nat.le_trans (show 1000000 ≤ 2 ^ 20 by decide) (Nat.pow_le_pow_right (by decide) (by decide)), by decide, by decide, rfl, by decide +kernel, by decide +kernel, by
  intro p hp
  have : p = mkRat 1 1000000 ∨ p = mkRat 999999 1000000 := by simpa [smallT] using hp
  rcases this with h | h
  · exact ⟨1, h⟩
  · exact ⟨999999, h⟩⟩
theorem len_l_other : ∀ ds S Q, c_l_other ds S Q → ds.length = 2 := by rintro _ _ _ ⟨_, _, _, _, _, rfl, _⟩; rfl
theorem spec_l_other : ∀ ds S Q, CloS S → Bels S.length ds → c_l_other ds S Q → w_l_other (endsOf S.length Q) (startD N_l_other ds) S := by
  rintro _ S Q hc hb ⟨N, n, tb, t, T, rfl, ok, hN, hk, ht, q⟩
  have n1 := ok.n1
  have n8 := ok.n8
  have up43 : (2 : Nat) ^ 43 ≤ 2 ^ 110 := Nat.pow_le_pow_right (by decide) (by decide)
  rw [st_l_other]
  unfold w_l_other
  refine seq_k fun k1 hk1 => ?_
  try simp only [sAsg, DL.gName, sRet, sRetN, sNext, sIf, sNever, sExpr, sFor, wVar, wC, wOp, wCall, wCons, wNil, wTup, wRol, wTest, wAnd, wOr, wNot, wAndT, wOrT, wNotT, wIf, wUn, gNeg, onB, gI0, gI, gAdd, DL.gSub, gMul_int, gFdiv, gMod, gPow, gShl, gShr, gLt, gLe, gGt, gGe, gEq_int, gNe_int, wChain, wChain3, sPar2, sPar3, DL.gTup, gsCons, gsNil, gInt, gIsN, gNotN, isN_non, isN_tup, isN_rol, isN_int, isN_str, isN_bl, isN_loc, wSl, wNo, wSo, gSl, gRep, gRepL, wDGet1, wDGet2, wInD, wListRg, wListRgL, wTupRg, wDctNew, wDGet2T, gAtT, wItD, wRevT, wFld, sFldS, sFldA, wMeth, wMake, wRg1, wRg2, wEnum, wZip, wRng3, wIt, wItA, wItT, wRng1, wRng2, wLc, wLcL, wLc2, wYes, wCallK, endsOf, List.set_cons_zero, List.set_cons_succ, List.getElem?_cons_zero, List.getElem?_cons_succ, if_true, if_false, Bool.false_eq_true, reduceIte, decide_eq_true_eq, wipeD, List.length_cons, List.length_nil, gLen, tabD, List.length_map]
  rw [ok.len]
  refine ⟨6, _, _, rfl, hk, by omega, by omega, by omega, fun r S1 r0 r1 d1 => hk1 _ _ (seq_k fun k2 hk2 => ?_)⟩
  clear hk1
  try simp only [sAsg, DL.gName, sRet, sRetN, sNext, sIf, sNever, sExpr, sFor, wVar, wC, wOp, wCall, wCons, wNil, wTup, wRol, wTest, wAnd, wOr, wNot, wAndT, wOrT, wNotT, wIf, wUn, gNeg, onB, gI0, gI, gAdd, DL.gSub, gMul_int, gFdiv, gMod, gPow, gShl, gShr, gLt, gLe, gGt, gGe, gEq_int, gNe_int, wChain, wChain3, sPar2, sPar3, DL.gTup, gsCons, gsNil, gInt, gIsN, gNotN, isN_non, isN_tup, isN_rol, isN_int, isN_str, isN_bl, isN_loc, wSl, wNo, wSo, gSl, gRep, gRepL, wDGet1, wDGet2, wInD, wListRg, wListRgL, wTupRg, wDctNew, wDGet2T, gAtT, wItD, wRevT, wFld, sFldS, sFldA, wMeth, wMake, wRg1, wRg2, wEnum, wZip, wRng3, wIt, wItA, wItT, wRng1, wRng2, wLc, wLcL, wLc2, wYes, wCallK, endsOf, List.set_cons_zero, List.set_cons_succ, List.getElem?_cons_zero, List.getElem?_cons_succ, if_true, if_false, Bool.false_eq_true, reduceIte, decide_eq_true_eq, wipeD, List.length_cons, List.length_nil]
  by_cases c0 : r = 0
  · rw [if_pos c0]
    refine ⟨_, rfl, .inr ?_⟩
    rw [← List.map_reverse]
    exact q N tb.reverse S1 ok.rev (by omega) (d1.le (by omega))
  rw [if_neg c0]
  refine hk2 _ _ (seq_k fun k3 hk3 => ?_)
  clear hk2
  have mix : ∀ (h : List Rat) (H : Nat), Tab H 2 h → H ≤ 1000000 → (∀ p ∈ h, p.den ≤ 2 ^ 50) → ∀ (M : Nat) (u v : List Rat) (S2 : Sto), (∃ K, Tab K n u ∧ Tab K n v ∧ K ≤ 2 ^ 86 ∧ Less (2 ^ 50) u ∧ Less (2 ^ 50) v) → IsDeck (t + 20) T S2 → c_l_mixed [tabD h, .tup [tabD u, tabD v]] S2 fun d S' => Out S.length S' d Q := fun h H th hH hd M u v S2 ⟨K, ku, kv, kb, lu, lv⟩ d2 => by
    have hk880 : H * K ≤ 2 ^ 880 := Nat.le_trans (Nat.mul_le_mul hH kb) (by decide +kernel)
    refine ⟨H, 2, K, n, h, [u, v], rfl, th, rfl, ?_, hk880, hd, ?_, .inr (q (H * K) _ S2 (mixF_tab ⟨th, rfl, ?_, hk880⟩) (Nat.le_trans (Nat.mul_le_mul hH kb) (by decide +kernel)) d2)⟩
    · intro x hx
      rcases List.mem_cons.mp hx with rfl | hx
      · exact ku
      · rw [List.mem_singleton.mp hx]; exact kv
    · intro x hx
      rcases List.mem_cons.mp hx with rfl | hx
      · exact lu
      · rw [List.mem_singleton.mp hx]; exact lv
    · intro x hx
      rcases List.mem_cons.mp hx with rfl | hx
      · exact ku
      · rw [List.mem_singleton.mp hx]; exact kv
  have l43 : ∀ {M : Nat} {x : List Rat}, Tab M n x → M ≤ 2 ^ 43 → Less (2 ^ 50) x := fun hx hM => hx.less (Nat.le_trans hM (Nat.pow_le_pow_right (by decide) (by decide)))
  try simp only [sAsg, DL.gName, sRet, sRetN, sNext, sIf, sNever, sExpr, sFor, wVar, wC, wOp, wCall, wCons, wNil, wTup, wRol, wTest, wAnd, wOr, wNot, wAndT, wOrT, wNotT, wIf, wUn, gNeg, onB, gI0, gI, gAdd, DL.gSub, gMul_int, gFdiv, gMod, gPow, gShl, gShr, gLt, gLe, gGt, gGe, gEq_int, gNe_int, wChain, wChain3, sPar2, sPar3, DL.gTup, gsCons, gsNil, gInt, gIsN, gNotN, isN_non, isN_tup, isN_rol, isN_int, isN_str, isN_bl, isN_loc, wSl, wNo, wSo, gSl, gRep, gRepL, wDGet1, wDGet2, wInD, wListRg, wListRgL, wTupRg, wDctNew, wDGet2T, gAtT, wItD, wRevT, wFld, sFldS, sFldA, wMeth, wMake, wRg1, wRg2, wEnum, wZip, wRng3, wIt, wItA, wItT, wRng1, wRng2, wLc, wLcL, wLc2, wYes, wCallK, endsOf, List.set_cons_zero, List.set_cons_succ, List.getElem?_cons_zero, List.getElem?_cons_succ, if_true, if_false, Bool.false_eq_true, reduceIte, decide_eq_true_eq, wipeD, List.length_cons, List.length_nil]
  by_cases c1 : r = 1
  · rw [if_pos c1]
    refine ⟨le1000 (by decide), le1000 (by decide), le1000 (by decide), ?_⟩
    refine ⟨n, 0, _, _, rfl, n1, n8, by decide, d1, by omega, fun M u S2 tu hM d2 => ⟨le1000 (by decide), ?_⟩⟩
    obtain ⟨k1, k2, k3⟩ := both_up ok tu hN hM
    exact mix halfT 2 half_tab (by decide) (by decide +kernel) M tb u S2 ⟨_, k1, k2, k3, l43 ok hN, l43 tu hM⟩ (d2.le (by omega))
  rw [if_neg c1]
  refine hk3 _ _ (seq_k fun k4 hk4 => ?_)
  clear hk3
  try simp only [sAsg, DL.gName, sRet, sRetN, sNext, sIf, sNever, sExpr, sFor, wVar, wC, wOp, wCall, wCons, wNil, wTup, wRol, wTest, wAnd, wOr, wNot, wAndT, wOrT, wNotT, wIf, wUn, gNeg, onB, gI0, gI, gAdd, DL.gSub, gMul_int, gFdiv, gMod, gPow, gShl, gShr, gLt, gLe, gGt, gGe, gEq_int, gNe_int, wChain, wChain3, sPar2, sPar3, DL.gTup, gsCons, gsNil, gInt, gIsN, gNotN, isN_non, isN_tup, isN_rol, isN_int, isN_str, isN_bl, isN_loc, wSl, wNo, wSo, gSl, gRep, gRepL, wDGet1, wDGet2, wInD, wListRg, wListRgL, wTupRg, wDctNew, wDGet2T, gAtT, wItD, wRevT, wFld, sFldS, sFldA, wMeth, wMake, wRg1, wRg2, wEnum, wZip, wRng3, wIt, wItA, wItT, wRng1, wRng2, wLc, wLcL, wLc2, wYes, wCallK, endsOf, List.set_cons_zero, List.set_cons_succ, List.getElem?_cons_zero, List.getElem?_cons_succ, if_true, if_false, Bool.false_eq_true, reduceIte, decide_eq_true_eq, wipeD, List.length_cons, List.length_nil]
  by_cases c2 : r = 2
  · rw [if_pos c2]
    refine ⟨⟨by decide, by decide, by decide⟩, le1000 (by decide), ⟨by decide, by decide, by decide⟩, ⟨by decide, by decide, by decide⟩, le1000 (by decide), le1000 (by decide), ?_⟩
    refine ⟨n, 1, _, _, rfl, n1, n8, by decide, d1, by omega, fun M u S2 tu hM d2 => ⟨le1000 (by decide), ?_⟩⟩
    obtain ⟨k1, k2, k3⟩ := both_up ok tu hN hM
    exact mix smallT 1000000 small_tab (by decide) (by decide +kernel) M u tb S2 ⟨_, k2, k1, k3, l43 tu hM, l43 ok hN⟩ (d2.le (by omega))
  rw [if_neg c2]
  refine hk4 _ _ (seq_k fun k5 hk5 => ?_)
  clear hk4
  try simp only [sAsg, DL.gName, sRet, sRetN, sNext, sIf, sNever, sExpr, sFor, wVar, wC, wOp, wCall, wCons, wNil, wTup, wRol, wTest, wAnd, wOr, wNot, wAndT, wOrT, wNotT, wIf, wUn, gNeg, onB, gI0, gI, gAdd, DL.gSub, gMul_int, gFdiv, gMod, gPow, gShl, gShr, gLt, gLe, gGt, gGe, gEq_int, gNe_int, wChain, wChain3, sPar2, sPar3, DL.gTup, gsCons, gsNil, gInt, gIsN, gNotN, isN_non, isN_tup, isN_rol, isN_int, isN_str, isN_bl, isN_loc, wSl, wNo, wSo, gSl, gRep, gRepL, wDGet1, wDGet2, wInD, wListRg, wListRgL, wTupRg, wDctNew, wDGet2T, gAtT, wItD, wRevT, wFld, sFldS, sFldA, wMeth, wMake, wRg1, wRg2, wEnum, wZip, wRng3, wIt, wItA, wItT, wRng1, wRng2, wLc, wLcL, wLc2, wYes, wCallK, endsOf, List.set_cons_zero, List.set_cons_succ, List.getElem?_cons_zero, List.getElem?_cons_succ, if_true, if_false, Bool.false_eq_true, reduceIte, decide_eq_true_eq, wipeD, List.length_cons, List.length_nil]
  by_cases c3 : r = 3
  · rw [if_pos c3]
    exact .inr (q N tb S1 ok (by omega) (d1.le (by omega)))
  rw [if_neg c3]
  refine hk5 _ _ ?_
  clear hk5
  try simp only [sSeq, sAsg, DL.gName, sRet, sRetN, sNext, sIf, sNever, sExpr, sFor, wVar, wC, wOp, wCall, wCons, wNil, wTup, wRol, wTest, wAnd, wOr, wNot, wAndT, wOrT, wNotT, wIf, wUn, gNeg, onB, gI0, gI, gAdd, DL.gSub, gMul_int, gFdiv, gMod, gPow, gShl, gShr, gLt, gLe, gGt, gGe, gEq_int, gNe_int, wChain, wChain3, sPar2, sPar3, DL.gTup, gsCons, gsNil, gInt, gIsN, gNotN, isN_non, isN_tup, isN_rol, isN_int, isN_str, isN_bl, isN_loc, wSl, wNo, wSo, gSl, gRep, gRepL, wDGet1, wDGet2, wInD, wListRg, wListRgL, wTupRg, wDctNew, wDGet2T, gAtT, wItD, wRevT, wFld, sFldS, sFldA, wMeth, wMake, wRg1, wRg2, wEnum, wZip, wRng3, wIt, wItA, wItT, wRng1, wRng2, wLc, wLcL, wLc2, wYes, wCallK, endsOf, List.set_cons_zero, List.set_cons_succ, List.getElem?_cons_zero, List.getElem?_cons_succ, if_true, if_false, Bool.false_eq_true, reduceIte, decide_eq_true_eq, wipeD, List.length_cons, List.length_nil]
  refine ⟨le1000 (by decide), [0, 1, 2, 3], _, _, rfl, by decide, by decide, d1, by omega, fun x S2 hx d2 => ?_⟩
  obtain ⟨w, rfl, hw⟩ : ∃ w : Nat, x = w ∧ w ≤ 4 := by
    simp at hx
    exact ⟨x.toNat, by omega, by omega⟩
  exact ⟨n, w, _, _, rfl, n1, n8, hw, d2, by omega, fun M u S3 tu hM d3 => .inr (q M u S3 tu (by omega) (d3.le (by omega)))⟩
theorem ite_yes {c : Prop} [Decidable c] {a b : Prop} (h : c) (ha : a) : if c then a else b := by rw [if_pos h]; exact ha
theorem gNe_same {a b : Str} {S : Sto} {Q : QD} (h : a = b) (q : Q (.bl false) S) : gNe (.str a) (.str b) S Q := by
  subst h
  show Q (.bl (!decide (a = a))) S
  rw [decide_eq_true rfl]; exact q
theorem lot_gap_small {n : Nat} {a b : List Rat} (h : Two n a b) (p : Nat → Bool) : smallR (gapR (chF a p) (chF b p)) := by
  obtain ⟨la, lb⟩ := h.len
  have e := dist_lot h p
  obtain ⟨K, t⟩ := h.at_
  refine small_16 (gap_nn _ _) (Rat.le_trans e (Rat.le_trans (dist_le1 h) (by decide))) ?_
  have nt : Nth K (gapR (chF a p) (chF b p)) := by
    refine gap_nth t.n0 ?_ ?_
    · unfold chF; rw [la]; exact sm_nth t.n0 fun i hi => ite_nth _ (t.na i hi)
    · unfold chF; rw [lb]; exact sm_nth t.n0 fun i hi => ite_nth _ (t.nb i hi)
  exact Nat.lt_of_le_of_lt (nt.den t.n0) (Nat.lt_of_le_of_lt t.big (Nat.pow_lt_pow_right (by decide) (by decide)))
theorem isB_true {S : Sto} {Q : QD} (q : Q (.bl true) S) : gIsB (.bl true) (.bl true) S Q := by
  show Q (.bl (decide (true = true))) S
  rw [decide_eq_true rfl]; exact q
theorem len_l_is_judged : ∀ ds S Q, c_l_is_judged ds S Q → ds.length = 4 := by rintro _ _ _ ⟨_, _, _, _, _, _, rfl, _⟩; rfl
theorem spec_l_is_judged : ∀ ds S Q, CloS S → Bels S.length ds → c_l_is_judged ds S Q → w_l_is_judged (endsOf S.length Q) (startD N_l_is_judged ds) S := by
  rintro _ S Q hc hb ⟨n, a, b, f, t, T, rfl, hL, f0, fs, hk, ht, q⟩
  have h := hL.two
  obtain ⟨la, lb⟩ := h.len
  obtain ⟨N, M, h1, h2, _⟩ := h.ex
  have n8 := h1.n8
  rw [st_l_is_judged]
  unfold w_l_is_judged
  refine seq_k fun k1 hk1 => ?_
  try simp only [sAsg, DL.gName, sRet, sRetN, sNext, sIf, sNever, sExpr, sFor, wVar, wC, wOp, wCall, wCons, wNil, wTup, wRol, wTest, wAnd, wOr, wNot, wAndT, wOrT, wNotT, wIf, wUn, gNeg, onB, gI0, gI, gAdd, DL.gSub, gMul_int, gFdiv, gMod, gPow, gShl, gShr, gLt, gLe, gGt, gGe, gEq_int, gNe_int, wChain, wChain3, sPar2, sPar3, DL.gTup, gsCons, gsNil, gInt, gIsN, gNotN, isN_non, isN_tup, isN_rol, isN_int, isN_str, isN_bl, isN_loc, wSl, wNo, wSo, gSl, gRep, gRepL, wDGet1, wDGet2, wInD, wListRg, wListRgL, wTupRg, wDctNew, wDGet2T, gAtT, wItD, wRevT, wFld, sFldS, sFldA, wMeth, wMake, wRg1, wRg2, wEnum, wZip, wRng3, wIt, wItA, wItT, wRng1, wRng2, wLc, wLcL, wLc2, wYes, wCallK, endsOf, List.set_cons_zero, List.set_cons_succ, List.getElem?_cons_zero, List.getElem?_cons_succ, if_true, if_false, Bool.false_eq_true, reduceIte, decide_eq_true_eq, wipeD, List.length_cons, List.length_nil]
  refine ⟨n, a, b, f, rfl, h, f0, fs, ?_⟩
  generalize eo : (if distF a b ≤ f then withinD else lotD n (aboveF a b)) = told
  refine hk1 _ _ (seq_k fun k2 hk2 => ?_)
  clear hk1
  try simp only [sAsg, DL.gName, sRet, sRetN, sNext, sIf, sNever, sExpr, sFor, wVar, wC, wOp, wCall, wCons, wNil, wTup, wRol, wTest, wAnd, wOr, wNot, wAndT, wOrT, wNotT, wIf, wUn, gNeg, onB, gI0, gI, gAdd, DL.gSub, gMul_int, gFdiv, gMod, gPow, gShl, gShr, gLt, gLe, gGt, gGe, gEq_int, gNe_int, wChain, wChain3, sPar2, sPar3, DL.gTup, gsCons, gsNil, gInt, gIsN, gNotN, isN_non, isN_tup, isN_rol, isN_int, isN_str, isN_bl, isN_loc, wSl, wNo, wSo, gSl, gRep, gRepL, wDGet1, wDGet2, wInD, wListRg, wListRgL, wTupRg, wDctNew, wDGet2T, gAtT, wItD, wRevT, wFld, sFldS, sFldA, wMeth, wMake, wRg1, wRg2, wEnum, wZip, wRng3, wIt, wItA, wItT, wRng1, wRng2, wLc, wLcL, wLc2, wYes, wCallK, endsOf, List.set_cons_zero, List.set_cons_succ, List.getElem?_cons_zero, List.getElem?_cons_succ, if_true, if_false, Bool.false_eq_true, reduceIte, decide_eq_true_eq, wipeD, List.length_cons, List.length_nil]
  refine ⟨2, _, _, rfl, hk, by omega, by omega, by omega, fun r S1 r0 r1 d1 => ?_⟩
  try simp only [sAsg, DL.gName, sRet, sRetN, sNext, sIf, sNever, sExpr, sFor, wVar, wC, wOp, wCall, wCons, wNil, wTup, wRol, wTest, wAnd, wOr, wNot, wAndT, wOrT, wNotT, wIf, wUn, gNeg, onB, gI0, gI, gAdd, DL.gSub, gMul_int, gFdiv, gMod, gPow, gShl, gShr, gLt, gLe, gGt, gGe, gEq_int, gNe_int, wChain, wChain3, sPar2, sPar3, DL.gTup, gsCons, gsNil, gInt, gIsN, gNotN, isN_non, isN_tup, isN_rol, isN_int, isN_str, isN_bl, isN_loc, wSl, wNo, wSo, gSl, gRep, gRepL, wDGet1, wDGet2, wInD, wListRg, wListRgL, wTupRg, wDctNew, wDGet2T, gAtT, wItD, wRevT, wFld, sFldS, sFldA, wMeth, wMake, wRg1, wRg2, wEnum, wZip, wRng3, wRng1, wRng2, wYes, wCallK, endsOf, List.set_cons_zero, List.set_cons_succ, List.getElem?_cons_zero, List.getElem?_cons_succ, if_true, if_false, Bool.false_eq_true, reduceIte, decide_eq_true_eq, wipeD, List.length_cons, List.length_nil]
  have next : k2 [some (.loc 1), some (tabD a), some (tabD b), some (frD f), some told] S1 := by
    refine hk2 _ _ (seq_k fun k3 hk3 => ?_)
    clear hk2
    try simp only [sAsg, DL.gName, sRet, sRetN, sNext, sIf, sNever, sExpr, sFor, wVar, wC, wOp, wCall, wCons, wNil, wTup, wRol, wTest, wAnd, wOr, wNot, wAndT, wOrT, wNotT, wIf, wUn, gNeg, onB, gI0, gI, gAdd, DL.gSub, gMul_int, gFdiv, gMod, gPow, gShl, gShr, gLt, gLe, gGt, gGe, gEq_int, gNe_int, wChain, wChain3, sPar2, sPar3, DL.gTup, gsCons, gsNil, gInt, gIsN, gNotN, isN_non, isN_tup, isN_rol, isN_int, isN_str, isN_bl, isN_loc, wSl, wNo, wSo, gSl, gRep, gRepL, wDGet1, wDGet2, wInD, wListRg, wListRgL, wTupRg, wDctNew, wDGet2T, gAtT, wItD, wRevT, wFld, sFldS, sFldA, wMeth, wMake, wRg1, wRg2, wEnum, wZip, wRng3, wIt, wItA, wItT, wRng1, wRng2, wLc, wLcL, wLc2, wYes, wCallK, endsOf, List.set_cons_zero, List.set_cons_succ, List.getElem?_cons_zero, List.getElem?_cons_succ, if_true, if_false, Bool.false_eq_true, reduceIte, decide_eq_true_eq, wipeD, List.length_cons, List.length_nil]
    refine ⟨n, a, b, rfl, .inl hL, _, _, rfl, dist_small h, fs, ?_⟩
    try simp only [sAsg, DL.gName, sRet, sRetN, sNext, sIf, sNever, sExpr, sFor, wVar, wC, wOp, wCall, wCons, wNil, wTup, wRol, wTest, wAnd, wOr, wNot, wAndT, wOrT, wNotT, wIf, wUn, gNeg, onB, gI0, gI, gAdd, DL.gSub, gMul_int, gFdiv, gMod, gPow, gShl, gShr, gLt, gLe, gGt, gGe, gEq_int, gNe_int, wChain, wChain3, sPar2, sPar3, DL.gTup, gsCons, gsNil, gInt, gIsN, gNotN, isN_non, isN_tup, isN_rol, isN_int, isN_str, isN_bl, isN_loc, wSl, wNo, wSo, gSl, gRep, gRepL, wDGet1, wDGet2, wInD, wListRg, wListRgL, wTupRg, wDctNew, wDGet2T, gAtT, wItD, wRevT, wFld, sFldS, sFldA, wMeth, wMake, wRg1, wRg2, wEnum, wZip, wRng3, wIt, wItA, wItT, wRng1, wRng2, wLc, wLcL, wLc2, wYes, wCallK, endsOf, List.set_cons_zero, List.set_cons_succ, List.getElem?_cons_zero, List.getElem?_cons_succ, if_true, if_false, Bool.false_eq_true, reduceIte, decide_eq_true_eq, wipeD, List.length_cons, List.length_nil]
    by_cases z : distF a b ≤ f
    · rw [if_pos z] at eo
      subst eo
      have zf : decide (f < distF a b) = false := decide_eq_false (by grind)
      rw [zf]
      try simp only [sAsg, DL.gName, sRet, sRetN, sNext, sIf, sNever, sExpr, sFor, wVar, wC, wOp, wCall, wCons, wNil, wTup, wRol, wTest, wAnd, wOr, wNot, wAndT, wOrT, wNotT, wIf, wUn, gNeg, onB, gI0, gI, gAdd, DL.gSub, gMul_int, gFdiv, gMod, gPow, gShl, gShr, gLt, gLe, gGt, gGe, gEq_int, gNe_int, wChain, wChain3, sPar2, sPar3, DL.gTup, gsCons, gsNil, gInt, gIsN, gNotN, isN_non, isN_tup, isN_rol, isN_int, isN_str, isN_bl, isN_loc, wSl, wNo, wSo, gSl, gRep, gRepL, wDGet1, wDGet2, wInD, wListRg, wListRgL, wTupRg, wDctNew, wDGet2T, gAtT, wItD, wRevT, wFld, sFldS, sFldA, wMeth, wMake, wRg1, wRg2, wEnum, wZip, wRng3, wIt, wItA, wItT, wRng1, wRng2, wLc, wLcL, wLc2, wYes, wCallK, endsOf, List.set_cons_zero, List.set_cons_succ, List.getElem?_cons_zero, List.getElem?_cons_succ, if_true, if_false, Bool.false_eq_true, reduceIte, decide_eq_true_eq, wipeD, List.length_cons, List.length_nil, gRepr]
      refine ite_yes rfl ?_
      refine ⟨_, rfl, okR_within, le1000 (by decide), _, rfl, okR_within, gEq_same rfl ?_⟩
      try simp only [sAsg, DL.gName, sRet, sRetN, sNext, sIf, sNever, sExpr, sFor, wVar, wC, wOp, wCall, wCons, wNil, wTup, wRol, wTest, wAnd, wOr, wNot, wAndT, wOrT, wNotT, wIf, wUn, gNeg, onB, gI0, gI, gAdd, DL.gSub, gMul_int, gFdiv, gMod, gPow, gShl, gShr, gLt, gLe, gGt, gGe, gEq_int, gNe_int, wChain, wChain3, sPar2, sPar3, DL.gTup, gsCons, gsNil, gInt, gIsN, gNotN, isN_non, isN_tup, isN_rol, isN_int, isN_str, isN_bl, isN_loc, wSl, wNo, wSo, gSl, gRep, gRepL, wDGet1, wDGet2, wInD, wListRg, wListRgL, wTupRg, wDctNew, wDGet2T, gAtT, wItD, wRevT, wFld, sFldS, sFldA, wMeth, wMake, wRg1, wRg2, wEnum, wZip, wRng3, wIt, wItA, wItT, wRng1, wRng2, wLc, wLcL, wLc2, wYes, wCallK, endsOf, List.set_cons_zero, List.set_cons_succ, List.getElem?_cons_zero, List.getElem?_cons_succ, if_true, if_false, Bool.false_eq_true, reduceIte, decide_eq_true_eq, wipeD, List.length_cons, List.length_nil]
      refine ⟨n, a, b, f, _, rfl, h, f0, fs, .inl ⟨rfl, ?_⟩⟩
      rw [decide_eq_true z]
      exact isB_true (.inr (q _ d1))
    · rw [if_neg z] at eo
      subst eo
      have zf : decide (f < distF a b) = true := decide_eq_true (by grind)
      rw [zf]
      try simp only [sAsg, DL.gName, sRet, sRetN, sNext, sIf, sNever, sExpr, sFor, wVar, wC, wOp, wCall, wCons, wNil, wTup, wRol, wTest, wAnd, wOr, wNot, wAndT, wOrT, wNotT, wIf, wUn, gNeg, onB, gI0, gI, gAdd, DL.gSub, gMul_int, gFdiv, gMod, gPow, gShl, gShr, gLt, gLe, gGt, gGe, gEq_int, gNe_int, wChain, wChain3, sPar2, sPar3, DL.gTup, gsCons, gsNil, gInt, gIsN, gNotN, isN_non, isN_tup, isN_rol, isN_int, isN_str, isN_bl, isN_loc, wSl, wNo, wSo, gSl, gRep, gRepL, wDGet1, wDGet2, wInD, wListRg, wListRgL, wTupRg, wDctNew, wDGet2T, gAtT, wItD, wRevT, wFld, sFldS, sFldA, wMeth, wMake, wRg1, wRg2, wEnum, wZip, wRng3, wIt, wItA, wItT, wRng1, wRng2, wLc, wLcL, wLc2, wYes, wCallK, endsOf, List.set_cons_zero, List.set_cons_succ, List.getElem?_cons_zero, List.getElem?_cons_succ, if_true, if_false, Bool.false_eq_true, reduceIte, decide_eq_true_eq, wipeD, List.length_cons, List.length_nil]
      refine hk3 _ _ (seq_k fun k4 hk4 => ?_)
      clear hk3
      try simp only [sAsg, DL.gName, sRet, sRetN, sNext, sIf, sNever, sExpr, sFor, wVar, wC, wOp, wCall, wCons, wNil, wTup, wRol, wTest, wAnd, wOr, wNot, wAndT, wOrT, wNotT, wIf, wUn, gNeg, onB, gI0, gI, gAdd, DL.gSub, gMul_int, gFdiv, gMod, gPow, gShl, gShr, gLt, gLe, gGt, gGe, gEq_int, gNe_int, wChain, wChain3, sPar2, sPar3, DL.gTup, gsCons, gsNil, gInt, gIsN, gNotN, isN_non, isN_tup, isN_rol, isN_int, isN_str, isN_bl, isN_loc, wSl, wNo, wSo, gSl, gRep, gRepL, wDGet1, wDGet2, wInD, wListRg, wListRgL, wTupRg, wDctNew, wDGet2T, gAtT, wItD, wRevT, wFld, sFldS, sFldA, wMeth, wMake, wRg1, wRg2, wEnum, wZip, wRng3, wIt, wItA, wItT, wRng1, wRng2, wLc, wLcL, wLc2, wYes, wCallK, endsOf, List.set_cons_zero, List.set_cons_succ, List.getElem?_cons_zero, List.getElem?_cons_succ, if_true, if_false, Bool.false_eq_true, reduceIte, decide_eq_true_eq, wipeD, List.length_cons, List.length_nil, gIsi, gLen, lotD, gIx]
      refine ⟨"tuple", rfl, by decide, ?_⟩
      rw [if_neg (by decide), if_neg (by decide)]
      refine ⟨_, rfl, gNe_same rfl ?_⟩
      try simp only [sAsg, DL.gName, sRet, sRetN, sNext, sIf, sNever, sExpr, sFor, wVar, wC, wOp, wCall, wCons, wNil, wTup, wRol, wTest, wAnd, wOr, wNot, wAndT, wOrT, wNotT, wIf, wUn, gNeg, onB, gI0, gI, gAdd, DL.gSub, gMul_int, gFdiv, gMod, gPow, gShl, gShr, gLt, gLe, gGt, gGe, gEq_int, gNe_int, wChain, wChain3, sPar2, sPar3, DL.gTup, gsCons, gsNil, gInt, gIsN, gNotN, isN_non, isN_tup, isN_rol, isN_int, isN_str, isN_bl, isN_loc, wSl, wNo, wSo, gSl, gRep, gRepL, wDGet1, wDGet2, wInD, wListRg, wListRgL, wTupRg, wDctNew, wDGet2T, gAtT, wItD, wRevT, wFld, sFldS, sFldA, wMeth, wMake, wRg1, wRg2, wEnum, wZip, wRng3, wIt, wItA, wItT, wRng1, wRng2, wLc, wLcL, wLc2, wYes, wCallK, endsOf, List.set_cons_zero, List.set_cons_succ, List.getElem?_cons_zero, List.getElem?_cons_succ, if_true, if_false, Bool.false_eq_true, reduceIte, decide_eq_true_eq, wipeD, List.length_cons, List.length_nil, tabD, List.length_map, gLen]
      rw [la]
      refine ⟨_, rfl, n, _, rfl, n8, ?_⟩
      try simp only [sAsg, DL.gName, sRet, sRetN, sNext, sIf, sNever, sExpr, sFor, wVar, wC, wOp, wCall, wCons, wNil, wTup, wRol, wTest, wAnd, wOr, wNot, wAndT, wOrT, wNotT, wIf, wUn, gNeg, onB, gI0, gI, gAdd, DL.gSub, gMul_int, gFdiv, gMod, gPow, gShl, gShr, gLt, gLe, gGt, gGe, gEq_int, gNe_int, wChain, wChain3, sPar2, sPar3, DL.gTup, gsCons, gsNil, gInt, gIsN, gNotN, isN_non, isN_tup, isN_rol, isN_int, isN_str, isN_bl, isN_loc, wSl, wNo, wSo, gSl, gRep, gRepL, wDGet1, wDGet2, wInD, wListRg, wListRgL, wTupRg, wDctNew, wDGet2T, gAtT, wItD, wRevT, wFld, sFldS, sFldA, wMeth, wMake, wRg1, wRg2, wEnum, wZip, wRng3, wIt, wItA, wItT, wRng1, wRng2, wLc, wLcL, wLc2, wYes, wCallK, endsOf, List.set_cons_zero, List.set_cons_succ, List.getElem?_cons_zero, List.getElem?_cons_succ, if_true, if_false, Bool.false_eq_true, reduceIte, decide_eq_true_eq, wipeD, List.length_cons, List.length_nil]
      refine hk4 _ _ (seq_k fun k5 hk5 => ?_)
      clear hk4
      try simp only [sAsg, DL.gName, sRet, sRetN, sNext, sIf, sNever, sExpr, sFor, wVar, wC, wOp, wCall, wCons, wNil, wTup, wRol, wTest, wAnd, wOr, wNot, wAndT, wOrT, wNotT, wIf, wUn, gNeg, onB, gI0, gI, gAdd, DL.gSub, gMul_int, gFdiv, gMod, gPow, gShl, gShr, gLt, gLe, gGt, gGe, gEq_int, gNe_int, wChain, wChain3, sPar2, sPar3, DL.gTup, gsCons, gsNil, gInt, gIsN, gNotN, isN_non, isN_tup, isN_rol, isN_int, isN_str, isN_bl, isN_loc, wSl, wNo, wSo, gSl, gRep, gRepL, wDGet1, wDGet2, wInD, wListRg, wListRgL, wTupRg, wDctNew, wDGet2T, gAtT, wItD, wRevT, wFld, sFldS, sFldA, wMeth, wMake, wRg1, wRg2, wEnum, wZip, wRng3, wIt, wItA, wItT, wRng1, wRng2, wLc, wLcL, wLc2, wYes, wCallK, endsOf, List.set_cons_zero, List.set_cons_succ, List.getElem?_cons_zero, List.getElem?_cons_succ, if_true, if_false, Bool.false_eq_true, reduceIte, decide_eq_true_eq, wipeD, List.length_cons, List.length_nil, gIx]
      refine ⟨_, rfl, n, a, b, _, rfl, hL, _, _, rfl, lot_gap_small h _, fs, ?_⟩
      rw [dist_more h, zf]
      try simp only [sAsg, DL.gName, sRet, sRetN, sNext, sIf, sNever, sExpr, sFor, wVar, wC, wOp, wCall, wCons, wNil, wTup, wRol, wTest, wAnd, wOr, wNot, wAndT, wOrT, wNotT, wIf, wUn, gNeg, onB, gI0, gI, gAdd, DL.gSub, gMul_int, gFdiv, gMod, gPow, gShl, gShr, gLt, gLe, gGt, gGe, gEq_int, gNe_int, wChain, wChain3, sPar2, sPar3, DL.gTup, gsCons, gsNil, gInt, gIsN, gNotN, isN_non, isN_tup, isN_rol, isN_int, isN_str, isN_bl, isN_loc, wSl, wNo, wSo, gSl, gRep, gRepL, wDGet1, wDGet2, wInD, wListRg, wListRgL, wTupRg, wDctNew, wDGet2T, gAtT, wItD, wRevT, wFld, sFldS, sFldA, wMeth, wMake, wRg1, wRg2, wEnum, wZip, wRng3, wIt, wItA, wItT, wRng1, wRng2, wLc, wLcL, wLc2, wYes, wCallK, endsOf, List.set_cons_zero, List.set_cons_succ, List.getElem?_cons_zero, List.getElem?_cons_succ, if_true, if_false, Bool.false_eq_true, reduceIte, decide_eq_true_eq, wipeD, List.length_cons, List.length_nil]
      refine hk5 _ _ ?_
      clear hk5
      try simp only [sSeq, sAsg, DL.gName, sRet, sRetN, sNext, sIf, sNever, sExpr, sFor, wVar, wC, wOp, wCall, wCons, wNil, wTup, wRol, wTest, wAnd, wOr, wNot, wAndT, wOrT, wNotT, wIf, wUn, gNeg, onB, gI0, gI, gAdd, DL.gSub, gMul_int, gFdiv, gMod, gPow, gShl, gShr, gLt, gLe, gGt, gGe, gEq_int, gNe_int, wChain, wChain3, sPar2, sPar3, DL.gTup, gsCons, gsNil, gInt, gIsN, gNotN, isN_non, isN_tup, isN_rol, isN_int, isN_str, isN_bl, isN_loc, wSl, wNo, wSo, gSl, gRep, gRepL, wDGet1, wDGet2, wInD, wListRg, wListRgL, wTupRg, wDctNew, wDGet2T, gAtT, wItD, wRevT, wFld, sFldS, sFldA, wMeth, wMake, wRg1, wRg2, wEnum, wZip, wRng3, wIt, wItA, wItT, wRng1, wRng2, wLc, wLcL, wLc2, wYes, wCallK, endsOf, List.set_cons_zero, List.set_cons_succ, List.getElem?_cons_zero, List.getElem?_cons_succ, if_true, if_false, Bool.false_eq_true, reduceIte, decide_eq_true_eq, wipeD, List.length_cons, List.length_nil]
      refine ⟨by trivial, by trivial, n, a, b, f, _, rfl, h, f0, fs, .inr ⟨_, rfl, ?_⟩⟩
      rw [dist_more h, zf]
      exact isB_true (.inr (q _ d1))
  by_cases c : r = 0
  · rw [if_pos c]
    refine ⟨by trivial, by trivial, n, a, b, f, rfl, h, f0, fs, ?_⟩
    rw [eo]
    exact next
  · rw [if_neg c]
    exact next
theorem gNe_bl {a b : Bool} {S : Sto} {Q : QD} (q : Q (.bl (!decide (a = b))) S) : gNe (.bl a) (.bl b) S Q := by
  cases a <;> cases b <;> exact ⟨rfl, rfl, q⟩
theorem frs_inj : ∀ {a b : List Rat}, a.map frD = b.map frD → a = b
  | [], [], _ => rfl
  | [], _ :: _, h => by simp at h
  | _ :: _, [], h => by simp at h
  | x :: a, y :: b, h => by
    rw [List.map_cons, List.map_cons] at h
    injection h with h1 h2
    rw [frD_inj h1, frs_inj h2]
theorem dist_den {n : Nat} {a b : List Rat} (h : TwoL n a b) : (distF a b).den ≤ 2 ^ 154 := by
  obtain ⟨N, hN, ta⟩ := h.den
  rw [dist_gs h.two.len.1]
  have nt : Nth (2 * N) (mkRat 1 2 * gsF n a b) := Nth.mul (by decide) ta.n0 ⟨1, rfl⟩ (sm_nth ta.n0 fun i hi => gap_nth ta.n0 (ta.na i hi) (ta.nb i hi))
  have := nt.den (by have := ta.n0; omega)
  have : (2 : Nat) ^ 154 = 2 * 2 ^ 153 := by rw [Nat.pow_succ, Nat.mul_comm]
  omega
theorem two_up {N M n : Nat} {t u : List Rat} (h : Tab N n t) (g : Tab M n u) (hN : N ≤ 2 ^ 110) (hM : M ≤ 2 ^ 43) : ∃ K, K ≤ 2 ^ 153 ∧ Tab K n t ∧ Tab K n u := by
  have hb : N * M ≤ 2 ^ 153 := Nat.le_trans (Nat.mul_le_mul hN hM) (by decide +kernel)
  have hb2 : N * M ≤ 2 ^ 880 := Nat.le_trans hb (Nat.pow_le_pow_right (by decide) (by decide))
  have h0 := Nat.mul_pos h.n0 g.n0
  exact ⟨N * M, hb, h.up h0 ⟨M, rfl⟩ hb2, g.up h0 ⟨N, Nat.mul_comm _ _⟩ hb2⟩
theorem mix_half {K n : Nat} {a c : List Rat} (hK : K ≤ 2 ^ 153) (ha : Tab K n a) (hc : Tab K n c) : Tab (2 * K) n (mixF halfT [a, c] n) ∧ 2 * K ≤ 2 ^ 154 ∧ 2 * K ≤ 2 ^ 880 ∧ ∀ u ∈ [a, c], Tab K n u := by
  have all : ∀ u ∈ [a, c], Tab K n u := fun x hx => by
    rcases List.mem_cons.mp hx with rfl | hx
    · exact ha
    · rw [List.mem_singleton.mp hx]; exact hc
  have b1 : 2 * K ≤ 2 ^ 154 := by
    have : (2 : Nat) ^ 154 = 2 * 2 ^ 153 := by rw [Nat.pow_succ, Nat.mul_comm]
    omega
  have b2 : 2 * K ≤ 2 ^ 880 := Nat.le_trans b1 (Nat.pow_le_pow_right (by decide) (by decide))
  exact ⟨mixF_tab ⟨half_tab, rfl, all, b2⟩, b1, b2, all⟩
theorem okR_two {f : Rat} (h : smallR f) : okR (.rol [frD f, frD f]) := okR_of ⟨tm_fr h, tm_fr h, trivial⟩ (by simp [frD, szD, szDs]) (by simp [frD, dpD, dpDs])
abbrev isShare (d : D) : Prop := ∃ f : Rat, d = frD f ∧ 0 ≤ f ∧ smallR f
theorem ints_nat (n : Nat) : intsD 0 n = (List.range n).map fun (i : Nat) => D.int i := by
  unfold intsD
  refine List.map_congr_left fun i _ => ?_
  rw [Int.zero_add]
def w_rest : WS :=
  (sSeq (sAsg (wLst (wCons (wVar 6) (wCons (wTup (wCons (wC (.int 0)) (wCons (wC (.int 1)) wNil))) (wCons (wTup (wCons (wC (.int 1)) (wCons (wC (.int 1)) wNil))) (wCons (wCall c_l_sum (wCons (wRol (wCons (wVar 6) (wCons (wVar 9) wNil))) wNil)) (wCons (wTup (wCons (wC (.int 1)) (wCons (wC (.int 2)) wNil))) (wCons (wTup (wCons (wC (.int 1)) (wCons (wC (.int 3)) wNil))) (wCons (wCall c_l_lot_apart (wCons (wVar 2) (wCons (wVar 5) (wCons (wVar 8) wNil)))) (wCons (wTup (wCons (wC (.int 5)) (wCons (wC (.int 2)) wNil))) wNil))))))))) (gName 10))
  (sSeq (sIf (wTest (wOp gNe (wVar 6) (wTup (wCons (wC (.int 0)) (wCons (wC (.int 1)) wNil))))) (sExpr (wM gAppend (wVar 10) (wCons (wCall c_l_less (wCons (wVar 6) (wCons (wCall c_l_times (wCons (wVar 6) (wCons (wVar 9) wNil))) wNil))) wNil))) sNext)
  (sSeq (sFor (wItA (wRol (wCons (wVar 6) (wCons (wOp gIx (wVar 10) (wUn gNeg (wC (.int 1)))) (wCons (wCall c_l_pick_2 (wCons (wVar 1) (wCons (wVar 10) wNil))) (wCons (wCall c_l_pick_2 (wCons (wVar 1) (wCons (wVar 10) wNil))) wNil)))))) (gName 11) (sIf (wNotT (wTest (wCall c_l_is_judged (wCons (wVar 1) (wCons (wVar 2) (wCons (wVar 4) (wCons (wVar 11) wNil))))))) (sRet (wC (.bl false))) sNext))
  (sSeq (sPar2 12 13 (wCons (wCall c_l_names (wCons (wVar 1) (wCons (wVar 3) wNil))) (wCons (wTup (wCons (wTup (wCons (wC (.int 1)) (wCons (wC (.int 2)) wNil))) (wCons (wTup (wCons (wC (.int 1)) (wCons (wC (.int 2)) wNil))) wNil))) wNil)))
  (sSeq (sIf (wTest (wCall c_l_is_above (wCons (wCall c_distance (wCons (wCall c_renamed (wCons (wVar 2) (wCons (wVar 12) wNil))) (wCons (wCall c_renamed (wCons (wVar 4) (wCons (wVar 12) wNil))) wNil))) (wCons (wVar 6) wNil)))) (sRet (wC (.bl false))) sNext)
  (sSeq (sIf (wTest (wOp gNe (wCall gRepr (wCons (wCall c_distance (wCons (wCall c_mixed (wCons (wVar 13) (wCons (wTup (wCons (wVar 2) (wCons (wVar 5) wNil))) wNil))) (wCons (wCall c_mixed (wCons (wVar 13) (wCons (wTup (wCons (wVar 4) (wCons (wVar 5) wNil))) wNil))) wNil))) wNil)) (wCall gRepr (wCons (wCall c_l_times (wCons (wVar 6) (wCons (wTup (wCons (wC (.int 1)) (wCons (wC (.int 2)) wNil))) wNil))) wNil)))) (sRet (wC (.bl false))) sNext)
  (sRet (wOr (wOp gGt (wVar 3) (wC (.int 4))) (wOp gEq (wCall gRepr (wCons (wCall c_distance (wCons (wCall c_beside (wCons (wVar 2) (wCons (wVar 13) wNil))) (wCons (wCall c_beside (wCons (wVar 4) (wCons (wVar 13) wNil))) wNil))) wNil)) (wCall gRepr (wCons (wVar 6) wNil)))))))))))
def littleR : Rat := mkRat 1 (10 ^ 20)
theorem get_at {t : Int} {T S : Sto} {c : Cell} (h : IsDeck t (T ++ [c]) S) : S[T.length + 2]? = some c := h.last
theorem law_rest {N M L n : Nat} {one other third : List Rat} {p : Nat → Bool} {t : Int} {S : Sto} {Q : QD} {ns : List Int} (ok : Tab N n one) (hN : N ≤ 2 ^ 43) (ok2 : Tab M n other) (hM : M ≤ 2 ^ 110) (ok3 : Tab L n third) (hL : L ≤ 2 ^ 43)
    (dk : IsDeck t [] S) (ht : t < 2 ^ 30) (q : ∀ S', Q (.bl true) S') (x7 x10 x11 x12 x13 x14 : Option D) :
    w_rest (endsOf 0 Q) [some (.fro (ns.map D.int)), some (.loc 1), some (tabD one), some (.int n), some (tabD other), some (tabD third), some (frD (distF one other)), x7, some (wayD (lotF n p)), some (frD littleR), x10, x11, x12, x13, x14] S := by
  have n1 := ok.n1
  have n8 := ok.n8
  have up : (2 : Nat) ^ 43 ≤ 2 ^ 110 := Nat.pow_le_pow_right (by decide) (by decide)
  have ab : TwoL n one other := ⟨N, M, ok, ok2, hN, hM⟩
  have ac : TwoL n one third := ⟨N, L, ok, ok3, hN, by omega⟩
  have far_s := dist_small ab.two
  have far_0 := dist_nn one other
  have far_1 := dist_le1 ab.two
  have far_d := dist_den ab
  have p154 : (2 : Nat) ^ 154 ≤ 2 ^ 170 := Nat.pow_le_pow_right (by decide) (by decide)
  have l0 : 0 ≤ littleR := by decide +kernel
  have l1 : littleR ≤ 1 := by decide +kernel
  have ld : littleR.den ≤ 2 ^ 70 := by decide +kernel
  have ls : smallR littleR := ⟨by decide +kernel, by decide +kernel⟩
  have eS : [distF one other, littleR].sum = distF one other + littleR := by rw [List.sum_cons, List.sum_cons, List.sum_nil, Rat.add_zero]
  have sumF : SumF [distF one other, littleR] := by
    refine ⟨fun f hf => ?_, by simp, by rw [eS]; grind⟩
    rcases List.mem_cons.mp hf with rfl | hf
    · exact ⟨far_0, by omega⟩
    · rw [List.mem_singleton.mp hf]; exact ⟨l0, Nat.le_trans ld (Nat.pow_le_pow_right (by decide) (by decide))⟩
  have den_lt : ∀ x : Rat, x.den ≤ (distF one other).den * (littleR.den * (distF one other).den) → x.den < 2 ^ 890 := fun x hx => by
    have h1 : littleR.den * (distF one other).den ≤ 2 ^ 70 * 2 ^ 154 := Nat.mul_le_mul ld far_d
    have h2 : (distF one other).den * (littleR.den * (distF one other).den) ≤ 2 ^ 154 * (2 ^ 70 * 2 ^ 154) := Nat.mul_le_mul far_d h1
    refine Nat.lt_of_le_of_lt (Nat.le_trans hx h2) ?_
    rw [← Nat.pow_add, ← Nat.pow_add]
    exact Nat.pow_lt_pow_right (by decide) (by decide)
  have den_mul : ∀ x y : Rat, (x * y).den ≤ x.den * y.den := fun x y => by
    rw [← mul_eq, ← Int.natCast_mul, Int.toNat_natCast]
    exact Nat.le_of_dvd (Nat.mul_pos x.den_pos y.den_pos) (den_dvd (Nat.mul_ne_zero x.den_nz y.den_nz))
  have den_add : ∀ x y : Rat, (x + y).den ≤ x.den * y.den := fun x y => by
    rw [← add_eq, ← Int.natCast_mul, Int.toNat_natCast]
    exact Nat.le_of_dvd (Nat.mul_pos x.den_pos y.den_pos) (den_dvd (Nat.mul_ne_zero x.den_nz y.den_nz))
  have prod_0 : 0 ≤ distF one other * littleR := Rat.mul_nonneg far_0 l0
  have prod_le : distF one other * littleR ≤ distF one other := by
    have := Rat.mul_le_mul_of_nonneg_left l1 far_0
    rwa [Rat.mul_one] at this
  have far_p := (distF one other).den_pos
  have lit_p := littleR.den_pos
  have prod_s : smallR (distF one other * littleR) := by
    refine small_16 prod_0 (by grind) (den_lt _ (Nat.le_trans (den_mul _ _) (Nat.mul_le_mul_left _ (Nat.le_mul_of_pos_right _ far_p))))
  have add_s : smallR (distF one other + littleR) := small_16 (by grind) (by grind) (den_lt _ (Nat.le_trans (den_add _ _) (Nat.mul_le_mul_left _ (Nat.le_mul_of_pos_right _ far_p))))
  have less_s : smallR (distF one other - distF one other * littleR) := by
    refine small_16 (by grind) (by grind) (den_lt _ ?_)
    have e : distF one other - distF one other * littleR = distF one other + (-(distF one other * littleR)) := by grind
    rw [e]
    refine Nat.le_trans (den_add _ _) (Nat.mul_le_mul_left _ ?_)
    show (distF one other * littleR).den ≤ _
    rw [Nat.mul_comm]
    exact den_mul _ _
  unfold w_rest
  refine seq_k fun k1 hk1 => ?_
  try simp only [sAsg, DL.gName, sRet, sRetN, sNext, sIf, sNever, sExpr, sFor, wVar, wC, wOp, wCall, wCons, wNil, wTup, wRol, wTest, wAnd, wOr, wNot, wAndT, wOrT, wNotT, wIf, wUn, gNeg, onB, gI0, gI, gAdd, DL.gSub, gMul_int, gFdiv, gMod, gPow, gShl, gShr, gLt, gLe, gGt, gGe, gEq_int, gNe_int, wChain, wChain3, sPar2, sPar3, DL.gTup, gsCons, gsNil, gInt, gIsN, gNotN, isN_non, isN_tup, isN_rol, isN_int, isN_str, isN_bl, isN_loc, wSl, wNo, wSo, gSl, gRep, gRepL, wDGet1, wDGet2, wInD, wListRg, wListRgL, wTupRg, wDctNew, wDGet2T, gAtT, wItD, wRevT, wFld, sFldS, sFldA, wMeth, wMake, wRg1, wRg2, wEnum, wZip, wRng3, wIt, wItA, wItT, wRng1, wRng2, wLc, wLcL, wLc2, wYes, wCallK, endsOf, List.set_cons_zero, List.set_cons_succ, List.getElem?_cons_zero, List.getElem?_cons_succ, if_true, if_false, Bool.false_eq_true, reduceIte, decide_eq_true_eq, wipeD, List.length_cons, List.length_nil]
  refine ⟨le1000 (by decide), le1000 (by decide), le1000 (by simp), _, rfl, sumF, le1000 (by decide), le1000 (by decide), n, one, third, p, rfl, ac, le1000 (by simp), le1000 (by simp), hk1 _ _ (seq_k fun k2 hk2 => ?_)⟩
  clear hk1
  rw [eS]
  have eB : ∀ xs : List D, IsDeck t [Cell.lst xs] (S ++ [Cell.lst xs]) := fun xs => by
    have := dk.app [Cell.lst xs]
    rwa [List.nil_append] at this
  have h5 : S.length = 2 := by rw [dk.len]; rfl
  have s0 : isShare (frD (distF one other)) := ⟨_, rfl, far_0, far_s⟩
  have all8 : ∀ d ∈ [frD (distF one other), D.tup [.int 0, .int 1], .tup [.int 1, .int 1], frD (distF one other + littleR), .tup [.int 1, .int 2], .tup [.int 1, .int 3], frD (gapR (chF one p) (chF third p)), .tup [.int 5, .int 2]], isShare d := by
    intro d hd
    simp only [List.mem_cons, List.not_mem_nil, or_false] at hd
    rcases hd with rfl | rfl | rfl | rfl | rfl | rfl | rfl | rfl
    · exact s0
    · exact ⟨0, rfl, by decide, by decide +kernel, by decide +kernel⟩
    · exact ⟨1, rfl, by decide, by decide +kernel, by decide +kernel⟩
    · exact ⟨_, rfl, by grind, add_s⟩
    · exact ⟨mkRat 1 2, rfl, by decide +kernel, by decide +kernel, by decide +kernel⟩
    · exact ⟨mkRat 1 3, rfl, by decide +kernel, by decide +kernel, by decide +kernel⟩
    · exact ⟨_, rfl, gap_nn _ _, lot_gap_small ac.two p⟩
    · exact ⟨mkRat 5 2, rfl, by decide +kernel, by decide +kernel, by decide +kernel⟩
  generalize e8 : [frD (distF one other), D.tup [.int 0, .int 1], .tup [.int 1, .int 1], frD (distF one other + littleR), .tup [.int 1, .int 2], .tup [.int 1, .int 3], frD (gapR (chF one p) (chF third p)), .tup [.int 5, .int 2]] = xs8 at all8 ⊢
  have l8 : xs8.length = 8 := by rw [← e8]; rfl
  have cont : ∀ (xs : List D), (∀ d ∈ xs, isShare d) → xs ≠ [] → xs.length ≤ 1000 → k2 [some (.fro (ns.map D.int)), some (.loc 1), some (tabD one), some (.int n), some (tabD other), some (tabD third), some (frD (distF one other)), x7, some (wayD (lotF n p)), some (frD littleR), some (.loc S.length), x11, x12, x13, x14] (S ++ [Cell.lst xs]) := fun xs hx hx0 hxl => by
    refine hk2 _ _ (seq_k fun k3 hk3 => ?_)
    clear hk2
    try simp only [sAsg, DL.gName, sRet, sRetN, sNext, sIf, sNever, sExpr, sFor, wVar, wC, wOp, wCall, wCons, wNil, wTup, wRol, wTest, wAnd, wOr, wNot, wAndT, wOrT, wNotT, wIf, wUn, gNeg, onB, gI0, gI, gAdd, DL.gSub, gMul_int, gFdiv, gMod, gPow, gShl, gShr, gLt, gLe, gGt, gGe, gEq_int, gNe_int, wChain, wChain3, sPar2, sPar3, DL.gTup, gsCons, gsNil, gInt, gIsN, gNotN, isN_non, isN_tup, isN_rol, isN_int, isN_str, isN_bl, isN_loc, wSl, wNo, wSo, gSl, gRep, gRepL, wDGet1, wDGet2, wInD, wListRg, wListRgL, wTupRg, wDctNew, wDGet2T, gAtT, wItD, wRevT, wFld, sFldS, sFldA, wMeth, wMake, wRg1, wRg2, wEnum, wZip, wRng3, wIt, wItA, wItT, wRng1, wRng2, wLc, wLcL, wLc2, wYes, wCallK, endsOf, List.set_cons_zero, List.set_cons_succ, List.getElem?_cons_zero, List.getElem?_cons_succ, if_true, if_false, Bool.false_eq_true, reduceIte, decide_eq_true_eq, wipeD, List.length_cons, List.length_nil]
    obtain ⟨last, hlast, lm⟩ : ∃ d, atI xs (-1) = some d ∧ d ∈ xs := ⟨xs.getLast hx0, by have := L2.atI_last xs.dropLast (xs.getLast hx0); rwa [List.dropLast_concat_getLast] at this, List.getLast_mem hx0⟩
    have persist : ∀ (u : Int) (S' : Sto), IsDeck u [Cell.lst xs] S' → S'[S.length]? = some (.lst xs) := fun u S' h => by
      rw [h5]; exact h.last (T := [])
    refine ⟨xs, last, by show cellL _ = _; rw [get_last rfl]; rfl, hlast, ?_⟩
    refine ⟨_, xs, t, [.lst xs], rfl, get_last rfl, hx0, hxl, eB xs, fun S' h => persist _ S' h, by omega, fun y1 S1 m1 d1 => ?_⟩
    refine ⟨_, xs, _, [.lst xs], rfl, persist _ S1 d1, hx0, hxl, d1, fun S' h => persist _ S' h, by omega, fun y2 S2 m2 d2 => ⟨le1000 (by decide), ?_⟩⟩
    have all4 : ∀ d ∈ [frD (distF one other), last, y1, y2], isShare d := by
      intro d hd
      simp only [List.mem_cons, List.not_mem_nil, or_false] at hd
      rcases hd with rfl | rfl | rfl | rfl
      · exact s0
      · exact hx _ lm
      · exact hx _ m1
      · exact hx _ m2
    have four : [frD (distF one other), last, y1, y2].length = 4 := rfl
    generalize [frD (distF one other), last, y1, y2] = fr at all4 four
    refine wFor_inv (fun i ρ S' => IsDeck (t + 2 + i) [.lst xs] S' ∧ ∃ y : Option D, ρ = [some (.fro (ns.map D.int)), some (.loc 1), some (tabD one), some (.int n), some (tabD other), some (tabD third), some (frD (distF one other)), x7, some (wayD (lotF n p)), some (frD littleR), some (.loc S.length), y, x12, x13, x14]) _ ⟨d2.le (by omega), x11, rfl⟩ ?_ ?_
    · rintro i d k hd hk _ S3 ⟨d3, y, rfl⟩
      obtain ⟨f, rfl, f0, fs⟩ := all4 _ (List.mem_of_getElem? hd)
      have hi : i < 4 := by have := (List.getElem?_eq_some_iff.mp hd).1; omega
      refine ⟨gd0, ?_⟩
      try simp only [sAsg, DL.gName, sRet, sRetN, sNext, sIf, sNever, sExpr, sFor, wVar, wC, wOp, wCall, wCons, wNil, wTup, wRol, wTest, wAnd, wOr, wNot, wAndT, wOrT, wNotT, wIf, wUn, gNeg, onB, gI0, gI, gAdd, DL.gSub, gMul_int, gFdiv, gMod, gPow, gShl, gShr, gLt, gLe, gGt, gGe, gEq_int, gNe_int, wChain, wChain3, sPar2, sPar3, DL.gTup, gsCons, gsNil, gInt, gIsN, gNotN, isN_non, isN_tup, isN_rol, isN_int, isN_str, isN_bl, isN_loc, wSl, wNo, wSo, gSl, gRep, gRepL, wDGet1, wDGet2, wInD, wListRg, wListRgL, wTupRg, wDctNew, wDGet2T, gAtT, wItD, wRevT, wFld, sFldS, sFldA, wMeth, wMake, wRg1, wRg2, wEnum, wZip, wRng3, wIt, wItA, wItT, wRng1, wRng2, wLc, wLcL, wLc2, wYes, wCallK, endsOf, List.set_cons_zero, List.set_cons_succ, List.getElem?_cons_zero, List.getElem?_cons_succ, if_true, if_false, Bool.false_eq_true, reduceIte, decide_eq_true_eq, wipeD, List.length_cons, List.length_nil]
      refine ⟨n, one, other, f, _, _, rfl, ab, f0, fs, d3, by omega, fun S4 d4 => ?_⟩
      try simp only [sAsg, DL.gName, sRet, sRetN, sNext, sIf, sNever, sExpr, sFor, wVar, wC, wOp, wCall, wCons, wNil, wTup, wRol, wTest, wAnd, wOr, wNot, wAndT, wOrT, wNotT, wIf, wUn, gNeg, onB, gI0, gI, gAdd, DL.gSub, gMul_int, gFdiv, gMod, gPow, gShl, gShr, gLt, gLe, gGt, gGe, gEq_int, gNe_int, wChain, wChain3, sPar2, sPar3, DL.gTup, gsCons, gsNil, gInt, gIsN, gNotN, isN_non, isN_tup, isN_rol, isN_int, isN_str, isN_bl, isN_loc, wSl, wNo, wSo, gSl, gRep, gRepL, wDGet1, wDGet2, wInD, wListRg, wListRgL, wTupRg, wDctNew, wDGet2T, gAtT, wItD, wRevT, wFld, sFldS, sFldA, wMeth, wMake, wRg1, wRg2, wEnum, wZip, wRng3, wIt, wItA, wItT, wRng1, wRng2, wLc, wLcL, wLc2, wYes, wCallK, endsOf, List.set_cons_zero, List.set_cons_succ, List.getElem?_cons_zero, List.getElem?_cons_succ, if_true, if_false, Bool.false_eq_true, reduceIte, decide_eq_true_eq, wipeD, List.length_cons, List.length_nil]
      exact hk _ _ ⟨d4.le (by omega), _, rfl⟩
    · rintro _ S3 ⟨d3, y, rfl⟩
      refine ⟨gd0, hk3 _ _ (seq_k fun k4 hk4 => ?_)⟩
      clear hk3
      try simp only [sAsg, DL.gName, sRet, sRetN, sNext, sIf, sNever, sExpr, sFor, wVar, wC, wOp, wCall, wCons, wNil, wTup, wRol, wTest, wAnd, wOr, wNot, wAndT, wOrT, wNotT, wIf, wUn, gNeg, onB, gI0, gI, gAdd, DL.gSub, gMul_int, gFdiv, gMod, gPow, gShl, gShr, gLt, gLe, gGt, gGe, gEq_int, gNe_int, wChain, wChain3, sPar2, sPar3, DL.gTup, gsCons, gsNil, gInt, gIsN, gNotN, isN_non, isN_tup, isN_rol, isN_int, isN_str, isN_bl, isN_loc, wSl, wNo, wSo, gSl, gRep, gRepL, wDGet1, wDGet2, wInD, wListRg, wListRgL, wTupRg, wDctNew, wDGet2T, gAtT, wItD, wRevT, wFld, sFldS, sFldA, wMeth, wMake, wRg1, wRg2, wEnum, wZip, wRng3, wIt, wItA, wItT, wRng1, wRng2, wLc, wLcL, wLc2, wYes, wCallK, endsOf, List.set_cons_zero, List.set_cons_succ, List.getElem?_cons_zero, List.getElem?_cons_succ, if_true, if_false, Bool.false_eq_true, reduceIte, decide_eq_true_eq, wipeD, List.length_cons, List.length_nil]
      refine ⟨n, _, _, rfl, n1, n8, d3, by omega, fun nm S4 nl n7 d4 => ⟨le1000 (by decide), le1000 (by decide), le1000 (by decide), hk4 _ _ (seq_k fun k5 hk5 => ?_)⟩⟩
      clear hk4
      obtain ⟨mx, mx1, mx2⟩ := max_ex (ns := nm) (by intro z; rw [z] at nl; simp at nl; omega)
      have mx7 := n7 mx mx1
      have la := ok.len
      have lb := ok2.len
      have lt : ∀ i, i < n → nm.getD i 0 < mx + 1 := fun i hi => by
        have := mx2 _ (List.mem_of_getElem? (getD_mem (ns := nm) (i := i) (by omega)))
        omega
      have r1 := renF_tab ok lt (by omega)
      have r2 := renF_tab ok2 lt (by omega)
      have two1 : Two (mx + 1) (renF one nm (mx + 1)) (renF other nm (mx + 1)) := ⟨N, M, r1, r2, Nat.le_trans (Nat.mul_le_mul hN hM) (by decide +kernel)⟩
      try simp only [sAsg, DL.gName, sRet, sRetN, sNext, sIf, sNever, sExpr, sFor, wVar, wC, wOp, wCall, wCons, wNil, wTup, wRol, wTest, wAnd, wOr, wNot, wAndT, wOrT, wNotT, wIf, wUn, gNeg, onB, gI0, gI, gAdd, DL.gSub, gMul_int, gFdiv, gMod, gPow, gShl, gShr, gLt, gLe, gGt, gGe, gEq_int, gNe_int, wChain, wChain3, sPar2, sPar3, DL.gTup, gsCons, gsNil, gInt, gIsN, gNotN, isN_non, isN_tup, isN_rol, isN_int, isN_str, isN_bl, isN_loc, wSl, wNo, wSo, gSl, gRep, gRepL, wDGet1, wDGet2, wInD, wListRg, wListRgL, wTupRg, wDctNew, wDGet2T, gAtT, wItD, wRevT, wFld, sFldS, sFldA, wMeth, wMake, wRg1, wRg2, wEnum, wZip, wRng3, wIt, wItA, wItT, wRng1, wRng2, wLc, wLcL, wLc2, wYes, wCallK, endsOf, List.set_cons_zero, List.set_cons_succ, List.getElem?_cons_zero, List.getElem?_cons_succ, if_true, if_false, Bool.false_eq_true, reduceIte, decide_eq_true_eq, wipeD, List.length_cons, List.length_nil]
      refine ⟨N, n, mx, one, nm, rfl, ok, nl, mx7, mx1, mx2, M, n, mx, other, nm, rfl, ok2, nl, mx7, mx1, mx2, mx + 1, _, _, rfl, two1, _, _, rfl, dist_small two1, far_s, ?_⟩
      rw [decide_eq_false (Rat.not_lt.mpr (dist_ren la lb lt))]
      try simp only [sAsg, DL.gName, sRet, sRetN, sNext, sIf, sNever, sExpr, sFor, wVar, wC, wOp, wCall, wCons, wNil, wTup, wRol, wTest, wAnd, wOr, wNot, wAndT, wOrT, wNotT, wIf, wUn, gNeg, onB, gI0, gI, gAdd, DL.gSub, gMul_int, gFdiv, gMod, gPow, gShl, gShr, gLt, gLe, gGt, gGe, gEq_int, gNe_int, wChain, wChain3, sPar2, sPar3, DL.gTup, gsCons, gsNil, gInt, gIsN, gNotN, isN_non, isN_tup, isN_rol, isN_int, isN_str, isN_bl, isN_loc, wSl, wNo, wSo, gSl, gRep, gRepL, wDGet1, wDGet2, wInD, wListRg, wListRgL, wTupRg, wDctNew, wDGet2T, gAtT, wItD, wRevT, wFld, sFldS, sFldA, wMeth, wMake, wRg1, wRg2, wEnum, wZip, wRng3, wIt, wItA, wItT, wRng1, wRng2, wLc, wLcL, wLc2, wYes, wCallK, endsOf, List.set_cons_zero, List.set_cons_succ, List.getElem?_cons_zero, List.getElem?_cons_succ, if_true, if_false, Bool.false_eq_true, reduceIte, decide_eq_true_eq, wipeD, List.length_cons, List.length_nil]
      refine hk5 _ _ (seq_k fun k6 hk6 => ?_)
      clear hk5
      try simp only [sAsg, DL.gName, sRet, sRetN, sNext, sIf, sNever, sExpr, sFor, wVar, wC, wOp, wCall, wCons, wNil, wTup, wRol, wTest, wAnd, wOr, wNot, wAndT, wOrT, wNotT, wIf, wUn, gNeg, onB, gI0, gI, gAdd, DL.gSub, gMul_int, gFdiv, gMod, gPow, gShl, gShr, gLt, gLe, gGt, gGe, gEq_int, gNe_int, wChain, wChain3, sPar2, sPar3, DL.gTup, gsCons, gsNil, gInt, gIsN, gNotN, isN_non, isN_tup, isN_rol, isN_int, isN_str, isN_bl, isN_loc, wSl, wNo, wSo, gSl, gRep, gRepL, wDGet1, wDGet2, wInD, wListRg, wListRgL, wTupRg, wDctNew, wDGet2T, gAtT, wItD, wRevT, wFld, sFldS, sFldA, wMeth, wMake, wRg1, wRg2, wEnum, wZip, wRng3, wIt, wItA, wItT, wRng1, wRng2, wLc, wLcL, wLc2, wYes, wCallK, endsOf, List.set_cons_zero, List.set_cons_succ, List.getElem?_cons_zero, List.getElem?_cons_succ, if_true, if_false, Bool.false_eq_true, reduceIte, decide_eq_true_eq, wipeD, List.length_cons, List.length_nil, gRepr]
      obtain ⟨K1, b1, c1, c2⟩ := two_up ok ok3 (by omega) hL
      obtain ⟨K2, b2, c3, c4⟩ := two_up ok2 ok3 hM hL
      obtain ⟨m1, m2, m3, m4⟩ := mix_half b1 c1 c2
      obtain ⟨o1, o2, o3, o4⟩ := mix_half b2 c3 c4
      have two2 : Two n (mixF halfT [one, third] n) (mixF halfT [other, third] n) := ⟨_, _, m1, o1, Nat.le_trans (Nat.mul_le_mul m2 o2) (by decide +kernel)⟩
      have e2 := dist_mix (b := other) (c := third) la
      have hs : smallR (mkRat 1 2 * distF one other) := by rw [← e2]; exact dist_small two2
      have ec : distF one other * mkRat 1 2 = mkRat 1 2 * distF one other := Rat.mul_comm _ _
      refine ⟨le1000 (by decide), 2, 2, K1, n, halfT, [one, third], rfl, half_tab, rfl, m4, m3, le1000 (by decide), 2, 2, K2, n, halfT, [other, third], rfl, half_tab, rfl, o4, o3, n, _, _, rfl, two2, _, rfl, okR_fr (dist_small two2), le1000 (by decide), _, mkRat 1 2, rfl, far_s, ⟨by decide +kernel, by decide +kernel⟩, _, rfl, by rw [ec]; exact okR_fr hs, ?_⟩
      rw [e2, ec]
      refine gNe_same rfl ?_
      try simp only [sAsg, DL.gName, sRet, sRetN, sNext, sIf, sNever, sExpr, sFor, wVar, wC, wOp, wCall, wCons, wNil, wTup, wRol, wTest, wAnd, wOr, wNot, wAndT, wOrT, wNotT, wIf, wUn, gNeg, onB, gI0, gI, gAdd, DL.gSub, gMul_int, gFdiv, gMod, gPow, gShl, gShr, gLt, gLe, gGt, gGe, gEq_int, gNe_int, wChain, wChain3, sPar2, sPar3, DL.gTup, gsCons, gsNil, gInt, gIsN, gNotN, isN_non, isN_tup, isN_rol, isN_int, isN_str, isN_bl, isN_loc, wSl, wNo, wSo, gSl, gRep, gRepL, wDGet1, wDGet2, wInD, wListRg, wListRgL, wTupRg, wDctNew, wDGet2T, gAtT, wItD, wRevT, wFld, sFldS, sFldA, wMeth, wMake, wRg1, wRg2, wEnum, wZip, wRng3, wIt, wItA, wItT, wRng1, wRng2, wLc, wLcL, wLc2, wYes, wCallK, endsOf, List.set_cons_zero, List.set_cons_succ, List.getElem?_cons_zero, List.getElem?_cons_succ, if_true, if_false, Bool.false_eq_true, reduceIte, decide_eq_true_eq, wipeD, List.length_cons, List.length_nil]
      refine hk6 _ _ ?_
      clear hk6
      try simp only [sSeq, sAsg, DL.gName, sRet, sRetN, sNext, sIf, sNever, sExpr, sFor, wVar, wC, wOp, wCall, wCons, wNil, wTup, wRol, wTest, wAnd, wOr, wNot, wAndT, wOrT, wNotT, wIf, wUn, gNeg, onB, gI0, gI, gAdd, DL.gSub, gMul_int, gFdiv, gMod, gPow, gShl, gShr, gLt, gLe, gGt, gGe, gEq_int, gNe_int, wChain, wChain3, sPar2, sPar3, DL.gTup, gsCons, gsNil, gInt, gIsN, gNotN, isN_non, isN_tup, isN_rol, isN_int, isN_str, isN_bl, isN_loc, wSl, wNo, wSo, gSl, gRep, gRepL, wDGet1, wDGet2, wInD, wListRg, wListRgL, wTupRg, wDctNew, wDGet2T, gAtT, wItD, wRevT, wFld, sFldS, sFldA, wMeth, wMake, wRg1, wRg2, wEnum, wZip, wRng3, wIt, wItA, wItT, wRng1, wRng2, wLc, wLcL, wLc2, wYes, wCallK, endsOf, List.set_cons_zero, List.set_cons_succ, List.getElem?_cons_zero, List.getElem?_cons_succ, if_true, if_false, Bool.false_eq_true, reduceIte, decide_eq_true_eq, wipeD, List.length_cons, List.length_nil, gRepr]
      by_cases n4 : (4 : Int) < (n : Int)
      · rw [if_pos n4]
        exact .inr (q _)
      · rw [if_neg n4]
        have hN2 : N * 2 ≤ 2 ^ 880 := Nat.le_trans (Nat.mul_le_mul_right 2 hN) (Nat.le_trans (show 2 ^ 43 * 2 ≤ 2 ^ 44 by decide) (Nat.pow_le_pow_right (by decide) (by decide)))
        have hM2 : M * 2 ≤ 2 ^ 111 := by
          have : (2 : Nat) ^ 111 = 2 ^ 110 * 2 := by rw [Nat.pow_succ]
          omega
        have hM3 : M * 2 ≤ 2 ^ 880 := Nat.le_trans hM2 (Nat.pow_le_pow_right (by decide) (by decide))
        have t1 := besF_tab ok half_tab (by omega) hN2
        have t2 := besF_tab ok2 half_tab (by omega) hM3
        have two3 : Two (n * 2) (besF one halfT) (besF other halfT) := ⟨_, _, t1, t2, Nat.le_trans (Nat.mul_le_mul (Nat.mul_le_mul_right 2 hN) hM2) (by decide +kernel)⟩
        refine ⟨N, n, 2, 2, one, halfT, rfl, ok, half_tab, by omega, hN2, M, n, 2, 2, other, halfT, rfl, ok2, half_tab, by omega, hM3, n * 2, _, _, rfl, two3, _, rfl, okR_fr (dist_small two3), _, rfl, okR_fr far_s, ?_⟩
        rw [dist_bes la lb]
        exact gEq_same rfl (.inr (q _))
  try simp only [sAsg, DL.gName, sRet, sRetN, sNext, sIf, sNever, sExpr, sFor, wVar, wC, wOp, wCall, wCons, wNil, wTup, wRol, wTest, wAnd, wOr, wNot, wAndT, wOrT, wNotT, wIf, wUn, gNeg, onB, gI0, gI, gAdd, DL.gSub, gMul_int, gFdiv, gMod, gPow, gShl, gShr, gLt, gLe, gGt, gGe, gEq_int, gNe_int, wChain, wChain3, sPar2, sPar3, DL.gTup, gsCons, gsNil, gInt, gIsN, gNotN, isN_non, isN_tup, isN_rol, isN_int, isN_str, isN_bl, isN_loc, wSl, wNo, wSo, gSl, gRep, gRepL, wDGet1, wDGet2, wInD, wListRg, wListRgL, wTupRg, wDctNew, wDGet2T, gAtT, wItD, wRevT, wFld, sFldS, sFldA, wMeth, wMake, wRg1, wRg2, wEnum, wZip, wRng3, wIt, wItA, wItT, wRng1, wRng2, wLc, wLcL, wLc2, wYes, wCallK, endsOf, List.set_cons_zero, List.set_cons_succ, List.getElem?_cons_zero, List.getElem?_cons_succ, if_true, if_false, Bool.false_eq_true, reduceIte, decide_eq_true_eq, wipeD, List.length_cons, List.length_nil]
  refine ⟨le1000 (by decide), gNe_at (frD (distF one other)) (frD 0) (decide (¬ distF one other = 0)) rfl rfl rfl rfl (Nat.le_trans (dp_fr _) (by decide)) (by decide) ?_ ?_⟩
  · rw [decide_eq_true_eq]
    exact ⟨fun h z => h (frD_inj z), fun h z => h (by rw [z])⟩
  by_cases z : distF one other = 0
  · rw [decide_eq_false (by simp [z])]
    try simp only [sAsg, DL.gName, sRet, sRetN, sNext, sIf, sNever, sExpr, sFor, wVar, wC, wOp, wCall, wCons, wNil, wTup, wRol, wTest, wAnd, wOr, wNot, wAndT, wOrT, wNotT, wIf, wUn, gNeg, onB, gI0, gI, gAdd, DL.gSub, gMul_int, gFdiv, gMod, gPow, gShl, gShr, gLt, gLe, gGt, gGe, gEq_int, gNe_int, wChain, wChain3, sPar2, sPar3, DL.gTup, gsCons, gsNil, gInt, gIsN, gNotN, isN_non, isN_tup, isN_rol, isN_int, isN_str, isN_bl, isN_loc, wSl, wNo, wSo, gSl, gRep, gRepL, wDGet1, wDGet2, wInD, wListRg, wListRgL, wTupRg, wDctNew, wDGet2T, gAtT, wItD, wRevT, wFld, sFldS, sFldA, wMeth, wMake, wRg1, wRg2, wEnum, wZip, wRng3, wIt, wItA, wItT, wRng1, wRng2, wLc, wLcL, wLc2, wYes, wCallK, endsOf, List.set_cons_zero, List.set_cons_succ, List.getElem?_cons_zero, List.getElem?_cons_succ, if_true, if_false, Bool.false_eq_true, reduceIte, decide_eq_true_eq, wipeD, List.length_cons, List.length_nil]
    exact cont xs8 all8 (by intro y; rw [y] at l8; simp at l8) (by omega)
  · rw [decide_eq_true z]
    try simp only [sAsg, DL.gName, sRet, sRetN, sNext, sIf, sNever, sExpr, sFor, wVar, wC, wOp, wCall, wCons, wNil, wTup, wRol, wTest, wAnd, wOr, wNot, wAndT, wOrT, wNotT, wIf, wUn, gNeg, onB, gI0, gI, gAdd, DL.gSub, gMul_int, gFdiv, gMod, gPow, gShl, gShr, gLt, gLe, gGt, gGe, gEq_int, gNe_int, wChain, wChain3, sPar2, sPar3, DL.gTup, gsCons, gsNil, gInt, gIsN, gNotN, isN_non, isN_tup, isN_rol, isN_int, isN_str, isN_bl, isN_loc, wSl, wNo, wSo, gSl, gRep, gRepL, wDGet1, wDGet2, wInD, wListRg, wListRgL, wTupRg, wDctNew, wDGet2T, gAtT, wItD, wRevT, wFld, sFldS, sFldA, wMeth, wMake, wRg1, wRg2, wEnum, wZip, wRng3, wIt, wItA, wItT, wRng1, wRng2, wLc, wLcL, wLc2, wYes, wCallK, endsOf, List.set_cons_zero, List.set_cons_succ, List.getElem?_cons_zero, List.getElem?_cons_succ, if_true, if_false, Bool.false_eq_true, reduceIte, decide_eq_true_eq, wipeD, List.length_cons, List.length_nil, wM, gAppend, isLst]
    have gl : (S ++ [Cell.lst xs8])[S.length]? = some (.lst xs8) := get_last rfl
    refine ⟨⟨xs8, by show cellL _ = _; rw [gl]; rfl⟩, _, _, rfl, far_s, ls, _, _, rfl, far_s, prod_s, _, _, _, rfl, rfl, gl, by rw [l8]; exact small1000 (by decide), ?_⟩
    rw [set_last rfl]
    refine cont _ ?_ (by simp) (by simp; omega)
    intro d hd
    rcases List.mem_append.mp hd with hd | hd
    · exact all8 d hd
    · rw [List.mem_singleton.mp hd]
      exact ⟨_, rfl, by grind, less_s⟩
theorem len_law : ∀ ds S Q, c_law ds S Q → ds.length = 1 := by rintro _ _ _ ⟨_, rfl, _⟩; rfl
theorem spec_law : ∀ ds S Q, CloS S → Bels S.length ds → c_law ds S Q → w_law (endsOf S.length Q) (startD N_law ds) S := by
  rintro _ _ Q hc hb ⟨ns, rfl, rfl, hl, q⟩
  rw [st_law]
  unfold w_law
  refine seq_k fun k1 hk1 => ?_
  try simp only [sAsg, DL.gName, sRet, sRetN, sNext, sIf, sNever, sExpr, sFor, wVar, wC, wOp, wCall, wCons, wNil, wTup, wRol, wTest, wAnd, wOr, wNot, wAndT, wOrT, wNotT, wIf, wUn, gNeg, onB, gI0, gI, gAdd, DL.gSub, gMul_int, gFdiv, gMod, gPow, gShl, gShr, gLt, gLe, gGt, gGe, gEq_int, gNe_int, wChain, wChain3, sPar2, sPar3, DL.gTup, gsCons, gsNil, gInt, gIsN, gNotN, isN_non, isN_tup, isN_rol, isN_int, isN_str, isN_bl, isN_loc, wSl, wNo, wSo, gSl, gRep, gRepL, wDGet1, wDGet2, wInD, wListRg, wListRgL, wTupRg, wDctNew, wDGet2T, gAtT, wItD, wRevT, wFld, sFldS, sFldA, wMeth, wMake, wRg1, wRg2, wEnum, wZip, wRng3, wIt, wItA, wItT, wRng1, wRng2, wLc, wLcL, wLc2, wYes, wCallK, endsOf, List.set_cons_zero, List.set_cons_succ, List.getElem?_cons_zero, List.getElem?_cons_succ, if_true, if_false, Bool.false_eq_true, reduceIte, decide_eq_true_eq, wipeD, List.length_cons, List.length_nil]
  refine ⟨ns, rfl, rfl, hl, fun S1 d1 => hk1 _ _ (seq_k fun k2 hk2 => ?_)⟩
  clear hk1
  try simp only [sAsg, DL.gName, sRet, sRetN, sNext, sIf, sNever, sExpr, sFor, wVar, wC, wOp, wCall, wCons, wNil, wTup, wRol, wTest, wAnd, wOr, wNot, wAndT, wOrT, wNotT, wIf, wUn, gNeg, onB, gI0, gI, gAdd, DL.gSub, gMul_int, gFdiv, gMod, gPow, gShl, gShr, gLt, gLe, gGt, gGe, gEq_int, gNe_int, wChain, wChain3, sPar2, sPar3, DL.gTup, gsCons, gsNil, gInt, gIsN, gNotN, isN_non, isN_tup, isN_rol, isN_int, isN_str, isN_bl, isN_loc, wSl, wNo, wSo, gSl, gRep, gRepL, wDGet1, wDGet2, wInD, wListRg, wListRgL, wTupRg, wDctNew, wDGet2T, gAtT, wItD, wRevT, wFld, sFldS, sFldA, wMeth, wMake, wRg1, wRg2, wEnum, wZip, wRng3, wIt, wItA, wItT, wRng1, wRng2, wLc, wLcL, wLc2, wYes, wCallK, endsOf, List.set_cons_zero, List.set_cons_succ, List.getElem?_cons_zero, List.getElem?_cons_succ, if_true, if_false, Bool.false_eq_true, reduceIte, decide_eq_true_eq, wipeD, List.length_cons, List.length_nil]
  refine ⟨_, _, rfl, d1, by omega, fun N n one S2 ok hN d2 => hk2 _ _ (seq_k fun k3 hk3 => ?_)⟩
  clear hk2
  have n1 := ok.n1
  have n8 := ok.n8
  try simp only [sAsg, DL.gName, sRet, sRetN, sNext, sIf, sNever, sExpr, sFor, wVar, wC, wOp, wCall, wCons, wNil, wTup, wRol, wTest, wAnd, wOr, wNot, wAndT, wOrT, wNotT, wIf, wUn, gNeg, onB, gI0, gI, gAdd, DL.gSub, gMul_int, gFdiv, gMod, gPow, gShl, gShr, gLt, gLe, gGt, gGe, gEq_int, gNe_int, wChain, wChain3, sPar2, sPar3, DL.gTup, gsCons, gsNil, gInt, gIsN, gNotN, isN_non, isN_tup, isN_rol, isN_int, isN_str, isN_bl, isN_loc, wSl, wNo, wSo, gSl, gRep, gRepL, wDGet1, wDGet2, wInD, wListRg, wListRgL, wTupRg, wDctNew, wDGet2T, gAtT, wItD, wRevT, wFld, sFldS, sFldA, wMeth, wMake, wRg1, wRg2, wEnum, wZip, wRng3, wIt, wItA, wItT, wRng1, wRng2, wLc, wLcL, wLc2, wYes, wCallK, endsOf, List.set_cons_zero, List.set_cons_succ, List.getElem?_cons_zero, List.getElem?_cons_succ, if_true, if_false, Bool.false_eq_true, reduceIte, decide_eq_true_eq, wipeD, List.length_cons, List.length_nil, gLen, tabD, List.length_map]
  rw [ok.len]
  refine ⟨N, n, one, _, _, rfl, ok, hN, d2, by omega, fun M other S3 ok2 hM d3 => ?_⟩
  refine ⟨n, 0, _, _, rfl, n1, n8, by decide, d3, by omega, fun L third S4 ok3 hL d4 => ⟨le1000 (by decide), by trivial, hk3 _ _ (seq_k fun k4 hk4 => ?_)⟩⟩
  clear hk3
  have up : (2 : Nat) ^ 43 ≤ 2 ^ 110 := Nat.pow_le_pow_right (by decide) (by decide)
  have ab : TwoL n one other := ⟨N, M, ok, ok2, hN, hM⟩
  have ac : TwoL n one third := ⟨N, L, ok, ok3, hN, by omega⟩
  have cb : TwoL n third other := ⟨L, M, ok3, ok2, hL, hM⟩
  have far_s := dist_small ab.two
  have far_0 := dist_nn one other
  have far_1 := dist_le1 ab.two
  have far_d := dist_den ab
  try simp only [sAsg, DL.gName, sRet, sRetN, sNext, sIf, sNever, sExpr, sFor, wVar, wC, wOp, wCall, wCons, wNil, wTup, wRol, wTest, wAnd, wOr, wNot, wAndT, wOrT, wNotT, wIf, wUn, gNeg, onB, gI0, gI, gAdd, DL.gSub, gMul_int, gFdiv, gMod, gPow, gShl, gShr, gLt, gLe, gGt, gGe, gEq_int, gNe_int, wChain, wChain3, sPar2, sPar3, DL.gTup, gsCons, gsNil, gInt, gIsN, gNotN, isN_non, isN_tup, isN_rol, isN_int, isN_str, isN_bl, isN_loc, wSl, wNo, wSo, gSl, gRep, gRepL, wDGet1, wDGet2, wInD, wListRg, wListRgL, wTupRg, wDctNew, wDGet2T, gAtT, wItD, wRevT, wFld, sFldS, sFldA, wMeth, wMake, wRg1, wRg2, wEnum, wZip, wRng3, wIt, wItA, wItT, wRng1, wRng2, wLc, wLcL, wLc2, wYes, wCallK, endsOf, List.set_cons_zero, List.set_cons_succ, List.getElem?_cons_zero, List.getElem?_cons_succ, if_true, if_false, Bool.false_eq_true, reduceIte, decide_eq_true_eq, wipeD, List.length_cons, List.length_nil]
  refine ⟨n, one, other, rfl, .inl ab, hk4 _ _ (seq_k fun k5 hk5 => ?_)⟩
  clear hk4
  try simp only [sAsg, DL.gName, sRet, sRetN, sNext, sIf, sNever, sExpr, sFor, wVar, wC, wOp, wCall, wCons, wNil, wTup, wRol, wTest, wAnd, wOr, wNot, wAndT, wOrT, wNotT, wIf, wUn, gNeg, onB, gI0, gI, gAdd, DL.gSub, gMul_int, gFdiv, gMod, gPow, gShl, gShr, gLt, gLe, gGt, gGe, gEq_int, gNe_int, wChain, wChain3, sPar2, sPar3, DL.gTup, gsCons, gsNil, gInt, gIsN, gNotN, isN_non, isN_tup, isN_rol, isN_int, isN_str, isN_bl, isN_loc, wSl, wNo, wSo, gSl, gRep, gRepL, wDGet1, wDGet2, wInD, wListRg, wListRgL, wTupRg, wDctNew, wDGet2T, gAtT, wItD, wRevT, wFld, sFldS, sFldA, wMeth, wMake, wRg1, wRg2, wEnum, wZip, wRng3, wIt, wItA, wItT, wRng1, wRng2, wLc, wLcL, wLc2, wYes, wCallK, endsOf, List.set_cons_zero, List.set_cons_succ, List.getElem?_cons_zero, List.getElem?_cons_succ, if_true, if_false, Bool.false_eq_true, reduceIte, decide_eq_true_eq, wipeD, List.length_cons, List.length_nil, gRepr]
  refine ⟨n, one, other, rfl, ab.two, by trivial, by trivial, n, other, one, rfl, ab.two.swap, ?_⟩
  rw [dist_comm ab.two]
  refine ⟨le1000 (by decide), _, rfl, okR_two far_s, le1000 (by decide), _, rfl, okR_two far_s, gNe_same rfl ?_⟩
  try simp only [sAsg, DL.gName, sRet, sRetN, sNext, sIf, sNever, sExpr, sFor, wVar, wC, wOp, wCall, wCons, wNil, wTup, wRol, wTest, wAnd, wOr, wNot, wAndT, wOrT, wNotT, wIf, wUn, gNeg, onB, gI0, gI, gAdd, DL.gSub, gMul_int, gFdiv, gMod, gPow, gShl, gShr, gLt, gLe, gGt, gGe, gEq_int, gNe_int, wChain, wChain3, sPar2, sPar3, DL.gTup, gsCons, gsNil, gInt, gIsN, gNotN, isN_non, isN_tup, isN_rol, isN_int, isN_str, isN_bl, isN_loc, wSl, wNo, wSo, gSl, gRep, gRepL, wDGet1, wDGet2, wInD, wListRg, wListRgL, wTupRg, wDctNew, wDGet2T, gAtT, wItD, wRevT, wFld, sFldS, sFldA, wMeth, wMake, wRg1, wRg2, wEnum, wZip, wRng3, wIt, wItA, wItT, wRng1, wRng2, wLc, wLcL, wLc2, wYes, wCallK, endsOf, List.set_cons_zero, List.set_cons_succ, List.getElem?_cons_zero, List.getElem?_cons_succ, if_true, if_false, Bool.false_eq_true, reduceIte, decide_eq_true_eq, wipeD, List.length_cons, List.length_nil]
  refine hk5 _ _ (seq_k fun k6 hk6 => ?_)
  clear hk5
  try simp only [sAsg, DL.gName, sRet, sRetN, sNext, sIf, sNever, sExpr, sFor, wVar, wC, wOp, wCall, wCons, wNil, wTup, wRol, wTest, wAnd, wOr, wNot, wAndT, wOrT, wNotT, wIf, wUn, gNeg, onB, gI0, gI, gAdd, DL.gSub, gMul_int, gFdiv, gMod, gPow, gShl, gShr, gLt, gLe, gGt, gGe, gEq_int, gNe_int, wChain, wChain3, sPar2, sPar3, DL.gTup, gsCons, gsNil, gInt, gIsN, gNotN, isN_non, isN_tup, isN_rol, isN_int, isN_str, isN_bl, isN_loc, wSl, wNo, wSo, gSl, gRep, gRepL, wDGet1, wDGet2, wInD, wListRg, wListRgL, wTupRg, wDctNew, wDGet2T, gAtT, wItD, wRevT, wFld, sFldS, sFldA, wMeth, wMake, wRg1, wRg2, wEnum, wZip, wRng3, wIt, wItA, wItT, wRng1, wRng2, wLc, wLcL, wLc2, wYes, wCallK, endsOf, List.set_cons_zero, List.set_cons_succ, List.getElem?_cons_zero, List.getElem?_cons_succ, if_true, if_false, Bool.false_eq_true, reduceIte, decide_eq_true_eq, wipeD, List.length_cons, List.length_nil]
  refine ⟨le1000 (by decide), gEq_at (frD (distF one other)) (frD 0) (decide (distF one other = 0)) rfl rfl rfl rfl (Nat.le_trans (dp_fr _) (by decide)) (by decide) ?_ ?_⟩
  · rw [decide_eq_true_eq]
    exact ⟨fun h => by rw [h], frD_inj⟩
  refine gEq_at (tabD one) (tabD other) (decide (one = other)) rfl rfl (noB_tab _) (noB_tab _) (Nat.le_trans (dp_tab _) (by decide)) (Nat.le_trans (dp_tab _) (by decide)) ?_ ?_
  · rw [decide_eq_true_eq]
    exact ⟨fun h => by rw [h], fun h => by unfold tabD at h; injection h with h; exact frs_inj h⟩
  refine gNe_bl ?_
  have ez : (!decide ((decide (distF one other = 0)) = (decide (one = other)))) = false := by
    have : decide (distF one other = 0) = decide (one = other) := by rw [decide_eq_decide]; exact dist_zero ab.two
    rw [this, decide_eq_true rfl]; rfl
  rw [ez]
  try simp only [sAsg, DL.gName, sRet, sRetN, sNext, sIf, sNever, sExpr, sFor, wVar, wC, wOp, wCall, wCons, wNil, wTup, wRol, wTest, wAnd, wOr, wNot, wAndT, wOrT, wNotT, wIf, wUn, gNeg, onB, gI0, gI, gAdd, DL.gSub, gMul_int, gFdiv, gMod, gPow, gShl, gShr, gLt, gLe, gGt, gGe, gEq_int, gNe_int, wChain, wChain3, sPar2, sPar3, DL.gTup, gsCons, gsNil, gInt, gIsN, gNotN, isN_non, isN_tup, isN_rol, isN_int, isN_str, isN_bl, isN_loc, wSl, wNo, wSo, gSl, gRep, gRepL, wDGet1, wDGet2, wInD, wListRg, wListRgL, wTupRg, wDctNew, wDGet2T, gAtT, wItD, wRevT, wFld, sFldS, sFldA, wMeth, wMake, wRg1, wRg2, wEnum, wZip, wRng3, wIt, wItA, wItT, wRng1, wRng2, wLc, wLcL, wLc2, wYes, wCallK, endsOf, List.set_cons_zero, List.set_cons_succ, List.getElem?_cons_zero, List.getElem?_cons_succ, if_true, if_false, Bool.false_eq_true, reduceIte, decide_eq_true_eq, wipeD, List.length_cons, List.length_nil]
  refine ⟨le1000 (by decide), _, 1, rfl, far_s, ⟨by decide +kernel, by decide +kernel⟩, ?_⟩
  rw [decide_eq_false (Rat.not_lt.mpr far_1)]
  try simp only [sAsg, DL.gName, sRet, sRetN, sNext, sIf, sNever, sExpr, sFor, wVar, wC, wOp, wCall, wCons, wNil, wTup, wRol, wTest, wAnd, wOr, wNot, wAndT, wOrT, wNotT, wIf, wUn, gNeg, onB, gI0, gI, gAdd, DL.gSub, gMul_int, gFdiv, gMod, gPow, gShl, gShr, gLt, gLe, gGt, gGe, gEq_int, gNe_int, wChain, wChain3, sPar2, sPar3, DL.gTup, gsCons, gsNil, gInt, gIsN, gNotN, isN_non, isN_tup, isN_rol, isN_int, isN_str, isN_bl, isN_loc, wSl, wNo, wSo, gSl, gRep, gRepL, wDGet1, wDGet2, wInD, wListRg, wListRgL, wTupRg, wDctNew, wDGet2T, gAtT, wItD, wRevT, wFld, sFldS, sFldA, wMeth, wMake, wRg1, wRg2, wEnum, wZip, wRng3, wIt, wItA, wItT, wRng1, wRng2, wLc, wLcL, wLc2, wYes, wCallK, endsOf, List.set_cons_zero, List.set_cons_succ, List.getElem?_cons_zero, List.getElem?_cons_succ, if_true, if_false, Bool.false_eq_true, reduceIte, decide_eq_true_eq, wipeD, List.length_cons, List.length_nil]
  refine hk6 _ _ (seq_k fun k7 hk7 => ?_)
  clear hk6
  try simp only [sAsg, DL.gName, sRet, sRetN, sNext, sIf, sNever, sExpr, sFor, wVar, wC, wOp, wCall, wCons, wNil, wTup, wRol, wTest, wAnd, wOr, wNot, wAndT, wOrT, wNotT, wIf, wUn, gNeg, onB, gI0, gI, gAdd, DL.gSub, gMul_int, gFdiv, gMod, gPow, gShl, gShr, gLt, gLe, gGt, gGe, gEq_int, gNe_int, wChain, wChain3, sPar2, sPar3, DL.gTup, gsCons, gsNil, gInt, gIsN, gNotN, isN_non, isN_tup, isN_rol, isN_int, isN_str, isN_bl, isN_loc, wSl, wNo, wSo, gSl, gRep, gRepL, wDGet1, wDGet2, wInD, wListRg, wListRgL, wTupRg, wDctNew, wDGet2T, gAtT, wItD, wRevT, wFld, sFldS, sFldA, wMeth, wMake, wRg1, wRg2, wEnum, wZip, wRng3, wIt, wItA, wItT, wRng1, wRng2, wLc, wLcL, wLc2, wYes, wCallK, endsOf, List.set_cons_zero, List.set_cons_succ, List.getElem?_cons_zero, List.getElem?_cons_succ, if_true, if_false, Bool.false_eq_true, reduceIte, decide_eq_true_eq, wipeD, List.length_cons, List.length_nil]
  have s3 := dist_small ac.two
  have s4 := dist_small cb.two
  have e3 := dist_den ac
  have e4 := dist_den cb
  have p154 : (2 : Nat) ^ 154 ≤ 2 ^ 170 := Nat.pow_le_pow_right (by decide) (by decide)
  have tri := dist_tri ab.two cb.two
  have sumF2 : ∀ x y : Rat, 0 ≤ x → x ≤ 1 → x.den ≤ 2 ^ 170 → 0 ≤ y → y ≤ 1 → y.den ≤ 2 ^ 170 → SumF [x, y] ∧ [x, y].sum = x + y := fun x y x0 x1 xd y0 y1 yd => by
    have e : [x, y].sum = x + y := by rw [List.sum_cons, List.sum_cons, List.sum_nil, Rat.add_zero]
    refine ⟨⟨fun f hf => ?_, by simp, by rw [e]; grind⟩, e⟩
    rcases List.mem_cons.mp hf with rfl | hf
    · exact ⟨x0, xd⟩
    · rw [List.mem_singleton.mp hf]; exact ⟨y0, yd⟩
  obtain ⟨sm1, sm2⟩ := sumF2 _ _ (dist_nn one third) (dist_le1 ac.two) (by omega) (dist_nn third other) (dist_le1 cb.two) (by omega)
  refine ⟨n, one, third, rfl, ac.two, n, third, other, rfl, cb.two, le1000 (by decide), _, rfl, sm1, ?_⟩
  rw [sm2]
  have add_small : ∀ x y : Rat, 0 ≤ x → x ≤ 1 → x.den ≤ 2 ^ 170 → 0 ≤ y → y ≤ 1 → y.den ≤ 2 ^ 170 → smallR (x + y) := fun x y x0 x1 xd y0 y1 yd => by
    refine small_16 (by grind) (by grind) ?_
    have : (x + y).den ≤ x.den * y.den := by
      rw [← add_eq, ← Int.natCast_mul, Int.toNat_natCast]
      exact Nat.le_of_dvd (Nat.mul_pos x.den_pos y.den_pos) (den_dvd (Nat.mul_ne_zero x.den_nz y.den_nz))
    exact Nat.lt_of_le_of_lt (Nat.le_trans this (Nat.mul_le_mul xd yd)) (by rw [← Nat.pow_add]; exact Nat.pow_lt_pow_right (by decide) (by decide))
  refine ⟨_, _, rfl, far_s, add_small _ _ (dist_nn one third) (dist_le1 ac.two) (by omega) (dist_nn third other) (dist_le1 cb.two) (by omega), ?_⟩
  rw [decide_eq_false (Rat.not_lt.mpr tri)]
  try simp only [sAsg, DL.gName, sRet, sRetN, sNext, sIf, sNever, sExpr, sFor, wVar, wC, wOp, wCall, wCons, wNil, wTup, wRol, wTest, wAnd, wOr, wNot, wAndT, wOrT, wNotT, wIf, wUn, gNeg, onB, gI0, gI, gAdd, DL.gSub, gMul_int, gFdiv, gMod, gPow, gShl, gShr, gLt, gLe, gGt, gGe, gEq_int, gNe_int, wChain, wChain3, sPar2, sPar3, DL.gTup, gsCons, gsNil, gInt, gIsN, gNotN, isN_non, isN_tup, isN_rol, isN_int, isN_str, isN_bl, isN_loc, wSl, wNo, wSo, gSl, gRep, gRepL, wDGet1, wDGet2, wInD, wListRg, wListRgL, wTupRg, wDctNew, wDGet2T, gAtT, wItD, wRevT, wFld, sFldS, sFldA, wMeth, wMake, wRg1, wRg2, wEnum, wZip, wRng3, wIt, wItA, wItT, wRng1, wRng2, wLc, wLcL, wLc2, wYes, wCallK, endsOf, List.set_cons_zero, List.set_cons_succ, List.getElem?_cons_zero, List.getElem?_cons_succ, if_true, if_false, Bool.false_eq_true, reduceIte, decide_eq_true_eq, wipeD, List.length_cons, List.length_nil]
  refine hk7 _ _ (seq_k fun k8 hk8 => ?_)
  clear hk7
  try simp only [sSeq, sAsg, DL.gName, sRet, sRetN, sNext, sIf, sNever, sExpr, sFor, wVar, wC, wOp, wCall, wCons, wNil, wTup, wRol, wTest, wAnd, wOr, wNot, wAndT, wOrT, wNotT, wIf, wUn, gNeg, onB, gI0, gI, gAdd, DL.gSub, gMul_int, gFdiv, gMod, gPow, gShl, gShr, gLt, gLe, gGt, gGe, gEq_int, gNe_int, wChain, wChain3, sPar2, sPar3, DL.gTup, gsCons, gsNil, gInt, gIsN, gNotN, isN_non, isN_tup, isN_rol, isN_int, isN_str, isN_bl, isN_loc, wSl, wNo, wSo, gSl, gRep, gRepL, wDGet1, wDGet2, wInD, wListRg, wListRgL, wTupRg, wDctNew, wDGet2T, gAtT, wItD, wRevT, wFld, sFldS, sFldA, wMeth, wMake, wRg1, wRg2, wEnum, wZip, wRng3, wIt, wItA, wItT, wRng1, wRng2, wLc, wLcL, wLc2, wYes, wCallK, endsOf, List.set_cons_zero, List.set_cons_succ, List.getElem?_cons_zero, List.getElem?_cons_succ, if_true, if_false, Bool.false_eq_true, reduceIte, decide_eq_true_eq, wipeD, List.length_cons, List.length_nil]
  refine ⟨_, rfl, by omega, by omega, ?_⟩
  rw [Int.toNat_natCast, ints_nat]
  refine wLc_filter (fun (i : Nat) => D.int i) (fun i => .int (i : Nat)) (aboveF one other) (List.range n) gd0 (by rw [List.length_range]; exact le1000 (by omega)) (fun i hi k k0 y1 y2 => ?_) ?_
  · have hi := List.mem_range.mp hi
    have l1 := ok.len
    have l2 := ok2.len
    try simp only [sAsg, DL.gName, sRet, sRetN, sNext, sIf, sNever, sExpr, sFor, wVar, wC, wOp, wCall, wCons, wNil, wTup, wRol, wTest, wAnd, wOr, wNot, wAndT, wOrT, wNotT, wIf, wUn, gNeg, onB, gI0, gI, gAdd, DL.gSub, gMul_int, gFdiv, gMod, gPow, gShl, gShr, gLt, gLe, gGt, gGe, gEq_int, gNe_int, wChain, wChain3, sPar2, sPar3, DL.gTup, gsCons, gsNil, gInt, gIsN, gNotN, isN_non, isN_tup, isN_rol, isN_int, isN_str, isN_bl, isN_loc, wSl, wNo, wSo, gSl, gRep, gRepL, wDGet1, wDGet2, wInD, wListRg, wListRgL, wTupRg, wDctNew, wDGet2T, gAtT, wItD, wRevT, wFld, sFldS, sFldA, wMeth, wMake, wRg1, wRg2, wEnum, wZip, wRng3, wIt, wItA, wItT, wRng1, wRng2, wLc, wLcL, wLc2, wYes, wCallK, endsOf, List.set_cons_zero, List.set_cons_succ, List.getElem?_cons_zero, List.getElem?_cons_succ, if_true, if_false, Bool.false_eq_true, reduceIte, decide_eq_true_eq, wipeD, List.length_cons, List.length_nil, gIx, tabD]
    refine ⟨_, frs_at (by omega), _, frs_at (by omega), _, _, rfl, ok.smallF hi, ok2.smallF hi, ?_⟩
    try simp only [sAsg, DL.gName, sRet, sRetN, sNext, sIf, sNever, sExpr, sFor, wVar, wC, wOp, wCall, wCons, wNil, wTup, wRol, wTest, wAnd, wOr, wNot, wAndT, wOrT, wNotT, wIf, wUn, gNeg, onB, gI0, gI, gAdd, DL.gSub, gMul_int, gFdiv, gMod, gPow, gShl, gShr, gLt, gLe, gGt, gGe, gEq_int, gNe_int, wChain, wChain3, sPar2, sPar3, DL.gTup, gsCons, gsNil, gInt, gIsN, gNotN, isN_non, isN_tup, isN_rol, isN_int, isN_str, isN_bl, isN_loc, wSl, wNo, wSo, gSl, gRep, gRepL, wDGet1, wDGet2, wInD, wListRg, wListRgL, wTupRg, wDctNew, wDGet2T, gAtT, wItD, wRevT, wFld, sFldS, sFldA, wMeth, wMake, wRg1, wRg2, wEnum, wZip, wRng3, wIt, wItA, wItT, wRng1, wRng2, wLc, wLcL, wLc2, wYes, wCallK, endsOf, List.set_cons_zero, List.set_cons_succ, List.getElem?_cons_zero, List.getElem?_cons_succ, if_true, if_false, Bool.false_eq_true, reduceIte, decide_eq_true_eq, wipeD, List.length_cons, List.length_nil]
    unfold aboveF at y1 y2
    by_cases z : gF other i < gF one i
    · rw [if_pos z]; exact y1 (decide_eq_true z)
    · rw [if_neg z]; exact y2 (decide_eq_false z)
  refine ⟨_, rfl, hk8 _ _ (seq_k fun k9 hk9 => ?_)⟩
  clear hk8
  try simp only [sAsg, DL.gName, sRet, sRetN, sNext, sIf, sNever, sExpr, sFor, wVar, wC, wOp, wCall, wCons, wNil, wTup, wRol, wTest, wAnd, wOr, wNot, wAndT, wOrT, wNotT, wIf, wUn, gNeg, onB, gI0, gI, gAdd, DL.gSub, gMul_int, gFdiv, gMod, gPow, gShl, gShr, gLt, gLe, gGt, gGe, gEq_int, gNe_int, wChain, wChain3, sPar2, sPar3, DL.gTup, gsCons, gsNil, gInt, gIsN, gNotN, isN_non, isN_tup, isN_rol, isN_int, isN_str, isN_bl, isN_loc, wSl, wNo, wSo, gSl, gRep, gRepL, wDGet1, wDGet2, wInD, wListRg, wListRgL, wTupRg, wDctNew, wDGet2T, gAtT, wItD, wRevT, wFld, sFldS, sFldA, wMeth, wMake, wRg1, wRg2, wEnum, wZip, wRng3, wIt, wItA, wItT, wRng1, wRng2, wLc, wLcL, wLc2, wYes, wCallK, endsOf, List.set_cons_zero, List.set_cons_succ, List.getElem?_cons_zero, List.getElem?_cons_succ, if_true, if_false, Bool.false_eq_true, reduceIte, decide_eq_true_eq, wipeD, List.length_cons, List.length_nil]
  refine ⟨n, _, _, rfl, n8, d4, by omega, fun p S5 d5 => hk9 _ _ (seq_k fun k10 hk10 => ?_)⟩
  clear hk9
  try simp only [sAsg, DL.gName, sRet, sRetN, sNext, sIf, sNever, sExpr, sFor, wVar, wC, wOp, wCall, wCons, wNil, wTup, wRol, wTest, wAnd, wOr, wNot, wAndT, wOrT, wNotT, wIf, wUn, gNeg, onB, gI0, gI, gAdd, DL.gSub, gMul_int, gFdiv, gMod, gPow, gShl, gShr, gLt, gLe, gGt, gGe, gEq_int, gNe_int, wChain, wChain3, sPar2, sPar3, DL.gTup, gsCons, gsNil, gInt, gIsN, gNotN, isN_non, isN_tup, isN_rol, isN_int, isN_str, isN_bl, isN_loc, wSl, wNo, wSo, gSl, gRep, gRepL, wDGet1, wDGet2, wInD, wListRg, wListRgL, wTupRg, wDctNew, wDGet2T, gAtT, wItD, wRevT, wFld, sFldS, sFldA, wMeth, wMake, wRg1, wRg2, wEnum, wZip, wRng3, wIt, wItA, wItT, wRng1, wRng2, wLc, wLcL, wLc2, wYes, wCallK, endsOf, List.set_cons_zero, List.set_cons_succ, List.getElem?_cons_zero, List.getElem?_cons_succ, if_true, if_false, Bool.false_eq_true, reduceIte, decide_eq_true_eq, wipeD, List.length_cons, List.length_nil]
  refine ⟨n, one, other, aboveF one other, rfl, ab, ?_⟩
  rw [dist_more ab.two]
  refine gNe_at (frD (distF one other)) (frD (distF one other)) false rfl rfl rfl rfl (Nat.le_trans (dp_fr _) (by decide)) (Nat.le_trans (dp_fr _) (by decide)) (by simp) ?_
  try simp only [sAsg, DL.gName, sRet, sRetN, sNext, sIf, sNever, sExpr, sFor, wVar, wC, wOp, wCall, wCons, wNil, wTup, wRol, wTest, wAnd, wOr, wNot, wAndT, wOrT, wNotT, wIf, wUn, gNeg, onB, gI0, gI, gAdd, DL.gSub, gMul_int, gFdiv, gMod, gPow, gShl, gShr, gLt, gLe, gGt, gGe, gEq_int, gNe_int, wChain, wChain3, sPar2, sPar3, DL.gTup, gsCons, gsNil, gInt, gIsN, gNotN, isN_non, isN_tup, isN_rol, isN_int, isN_str, isN_bl, isN_loc, wSl, wNo, wSo, gSl, gRep, gRepL, wDGet1, wDGet2, wInD, wListRg, wListRgL, wTupRg, wDctNew, wDGet2T, gAtT, wItD, wRevT, wFld, sFldS, sFldA, wMeth, wMake, wRg1, wRg2, wEnum, wZip, wRng3, wIt, wItA, wItT, wRng1, wRng2, wLc, wLcL, wLc2, wYes, wCallK, endsOf, List.set_cons_zero, List.set_cons_succ, List.getElem?_cons_zero, List.getElem?_cons_succ, if_true, if_false, Bool.false_eq_true, reduceIte, decide_eq_true_eq, wipeD, List.length_cons, List.length_nil]
  refine ⟨n, one, other, p, rfl, ab, _, _, rfl, lot_gap_small ab.two p, far_s, ?_⟩
  rw [decide_eq_false (Rat.not_lt.mpr (dist_lot ab.two p))]
  try simp only [sAsg, DL.gName, sRet, sRetN, sNext, sIf, sNever, sExpr, sFor, wVar, wC, wOp, wCall, wCons, wNil, wTup, wRol, wTest, wAnd, wOr, wNot, wAndT, wOrT, wNotT, wIf, wUn, gNeg, onB, gI0, gI, gAdd, DL.gSub, gMul_int, gFdiv, gMod, gPow, gShl, gShr, gLt, gLe, gGt, gGe, gEq_int, gNe_int, wChain, wChain3, sPar2, sPar3, DL.gTup, gsCons, gsNil, gInt, gIsN, gNotN, isN_non, isN_tup, isN_rol, isN_int, isN_str, isN_bl, isN_loc, wSl, wNo, wSo, gSl, gRep, gRepL, wDGet1, wDGet2, wInD, wListRg, wListRgL, wTupRg, wDctNew, wDGet2T, gAtT, wItD, wRevT, wFld, sFldS, sFldA, wMeth, wMake, wRg1, wRg2, wEnum, wZip, wRng3, wIt, wItA, wItT, wRng1, wRng2, wLc, wLcL, wLc2, wYes, wCallK, endsOf, List.set_cons_zero, List.set_cons_succ, List.getElem?_cons_zero, List.getElem?_cons_succ, if_true, if_false, Bool.false_eq_true, reduceIte, decide_eq_true_eq, wipeD, List.length_cons, List.length_nil]
  refine hk10 _ _ (seq_k fun k11 hk11 => ?_)
  clear hk10
  try simp only [sAsg, DL.gName, sRet, sRetN, sNext, sIf, sNever, sExpr, sFor, wVar, wC, wOp, wCall, wCons, wNil, wTup, wRol, wTest, wAnd, wOr, wNot, wAndT, wOrT, wNotT, wIf, wUn, gNeg, onB, gI0, gI, gAdd, DL.gSub, gMul_int, gFdiv, gMod, gPow, gShl, gShr, gLt, gLe, gGt, gGe, gEq_int, gNe_int, wChain, wChain3, sPar2, sPar3, DL.gTup, gsCons, gsNil, gInt, gIsN, gNotN, isN_non, isN_tup, isN_rol, isN_int, isN_str, isN_bl, isN_loc, wSl, wNo, wSo, gSl, gRep, gRepL, wDGet1, wDGet2, wInD, wListRg, wListRgL, wTupRg, wDctNew, wDGet2T, gAtT, wItD, wRevT, wFld, sFldS, sFldA, wMeth, wMake, wRg1, wRg2, wEnum, wZip, wRng3, wIt, wItA, wItT, wRng1, wRng2, wLc, wLcL, wLc2, wYes, wCallK, endsOf, List.set_cons_zero, List.set_cons_succ, List.getElem?_cons_zero, List.getElem?_cons_succ, if_true, if_false, Bool.false_eq_true, reduceIte, decide_eq_true_eq, wipeD, List.length_cons, List.length_nil]
  refine ⟨⟨by decide, by decide, by decide⟩, le1000 (by decide), hk11 _ _ ?_⟩
  clear hk11
  have e20 : D.tup [.int 1, .int (10 ^ Int.toNat 20)] = frD littleR := rfl
  rw [e20]
  exact law_rest ok hN ok2 hM ok3 hL d5 (by omega) q _ _ _ _ _ _
end K03
namespace K03
open PySem PySem.Spec L2 DL
open PyProof.Rows hiding St
section
variable {P : Program} {w : World} {K : PySem.W.Frag} {mg : Str → Option Value} {base : Heap}
theorem fn_l_deck (B : Bi mg) {f : Addr} {fd : FuncData} (F : Fun K "_law_deck" "_law_deck" s_l_deck f fd) : FnG P w K mg base 1 f fd ["_law_script", "_law_number"] c_l_deck :=
  fng_mk F sc_l_deck len_l_deck (fun cdv A outer s H hr hg =>
  (jss_cons (js_set 2 sc_l_deck.nd (je_op j_add je_int (je_var 1)))
  (jss_cons (js_for PassesOwn.never rfl (ji_any (je_slice j_sl (je_var 0) jo_none (jo_some je_int))) (jg_name 3 sc_l_deck.nd) (jss_one (js_set 2 sc_l_deck.nd (je_op j_mod (je_callTy c_int (by rfl) B.n_int bt_int (ja_cons (je_op j_add (je_op j_add (je_op j_mul (je_var 2) je_int) (je_op j_mod (je_callTy c_int (by rfl) B.n_int bt_int (ja_cons (je_var 3) ja_nil)) je_int)) (je_var 1)) ja_nil)) je_int))))
  (jss_one (js_ret (je_dict (.cons je_str (je_revL (je_callTy c_listOf (by rfl) B.n_list bt_list (ja_cons (je_slice j_sl (je_var 0) jo_none (jo_some je_int)) ja_nil))) (.cons je_str (je_var 2) (.cons je_str je_int .nil))))))))) spec_l_deck
theorem fn_l_draw (B : Bi mg) {f : Addr} {fd : FuncData} (F : Fun K "_law_draw" "_law_draw" s_l_draw f fd) : FnG P w K mg base 1 f fd ["_law_deck_here", "_law_many"] c_l_draw :=
  fng_mk F sc_l_draw len_l_draw (fun cdv A outer s H hr hg =>
  (jss_cons (js_asg (je_op j_add (je_ix (j_ixD (hu_of hr)) (je_var 0) je_str) je_int) (jg_sub (hu_of hr) (je_var 0) je_str (by intro _; rfl)))
  (jss_cons (js_set 2 sc_l_draw.nd (je_op j_add (je_ix (j_ixD (hu_of hr)) (je_var 0) je_str) (je_op j_mul je_int (je_ix (j_ixD (hu_of hr)) (je_var 0) je_str))))
  (jss_cons (js_if (jt_cmp (j_ne hr.units) (je_ix (j_ixD (hu_of hr)) (je_var 0) je_str) (je_rol ja_nil)) (jss_cons (js_set 3 sc_l_draw.nd (je_m0 PySem.F.slot_list_pop PySem.F.type_list_pop m_pop0 (je_ix (j_ixD (hu_of hr)) (je_var 0) je_str)))
  (jss_cons (js_if (jt_cmp j_ge (je_var 3) (je_op j_pow je_int je_int)) (jss_cons (js_expr (je_m PySem.F.slot_list_append PySem.F.type_list_append m_append (je_ix (j_ixD (hu_of hr)) (je_var 0) je_str) (ja_cons (je_op j_fdiv (je_var 3) (je_callB (c_max2 rfl) (by rfl) B.n_max bb_max (ja_cons je_int (ja_cons (je_var 1) ja_nil)))) ja_nil)))
  (jss_one (js_ret (je_op j_mod (je_callTy c_int (by rfl) B.n_int bt_int (ja_cons (je_var 3) ja_nil)) (je_var 1))))) jss_nil)
  (jss_one (js_set 2 sc_l_draw.nd (je_op j_add (je_var 2) (je_op j_mod (je_callTy c_int (by rfl) B.n_int bt_int (ja_cons (je_var 3) ja_nil)) je_int)))))) jss_nil)
  (jss_cons (js_set 2 sc_l_draw.nd (je_op j_mod (je_callTy c_int (by rfl) B.n_int bt_int (ja_cons (je_op j_add (je_op j_mul (je_var 2) je_int) je_int) ja_nil)) je_int))
  (jss_cons (js_set 2 sc_l_draw.nd (je_op j_mod (je_callTy c_int (by rfl) B.n_int bt_int (ja_cons (je_op j_add (je_op j_add (je_op j_mul (je_var 2) (je_var 2)) (je_op j_mul je_int (je_ix (j_ixD (hu_of hr)) (je_var 0) je_str))) je_int) ja_nil)) je_int))
  (jss_cons (js_set 2 sc_l_draw.nd (je_op j_mod (je_callTy c_int (by rfl) B.n_int bt_int (ja_cons (je_op j_mul (je_var 2) je_int) ja_nil)) je_int))
  (jss_one (js_ret (je_op j_mod (je_callTy c_int (by rfl) B.n_int bt_int (ja_cons (je_op j_fdiv (je_var 2) je_int) ja_nil)) (je_var 1))))))))))) spec_l_draw
theorem fn_l_pick (B : Bi mg) (C_l_draw : Cal P w K mg base 1 "_law_draw" ["_law_deck_here", "_law_many"] kw_l_draw c_l_draw) {f : Addr} {fd : FuncData} (F : Fun K "_law_pick" "_law_pick" s_l_pick f fd) : FnG P w K mg base 2 f fd ["_law_deck_here", "_law_some"] c_l_pick :=
  fng_mk F sc_l_pick len_l_pick (fun cdv A outer s H hr hg =>
  (jss_one (js_ret (je_ix j_ix (je_var 1) (je_cal C_l_draw (hr.mono (by decide)) hg (ja_cons (je_var 0) (ja_cons (je_callB c_len (by rfl) B.n_len bb_len (ja_cons (je_var 1) ja_nil)) ja_nil))))))) spec_l_pick
theorem fn_l_parts (B : Bi mg) (C_l_pick : Cal P w K mg base 2 "_law_pick" ["_law_deck_here", "_law_some"] kw_l_pick c_l_pick) {f : Addr} {fd : FuncData} (F : Fun K "_law_parts" "_law_parts" s_l_parts f fd) : FnG P w K mg base 3 f fd ["_law_deck_here", "_law_n", "_law_way"] c_l_parts :=
  fng_mk F sc_l_parts len_l_parts (fun cdv A outer s H hr hg =>
  (jss_cons (js_set 3 sc_l_parts.nd (je_ix j_ix (je_rol (ja_cons (je_rol (ja_cons je_int (ja_cons je_int (ja_cons je_int (ja_cons je_int (ja_cons je_int (ja_cons je_int ja_nil))))))) (ja_cons (je_rol (ja_cons je_int (ja_cons je_int (ja_cons je_int (ja_cons je_int ja_nil))))) (ja_cons (je_rol (ja_cons je_int (ja_cons je_int (ja_cons je_int (ja_cons je_int (ja_cons je_int ja_nil)))))) (ja_cons (je_rol (ja_cons je_int ja_nil)) (ja_cons (je_rol (ja_cons je_int (ja_cons (je_op j_add (je_op j_pow je_int je_int) je_int) (ja_cons je_int (ja_cons (je_op j_pow je_int je_int) ja_nil))))) ja_nil)))))) (je_var 2)))
  (jss_cons (js_setLcL 4 rfl sc_l_parts.nd (ji_range1 (by rfl) B.n_range (ja_cons (je_var 1) ja_nil)) (blkOk_by (N := N_l_parts) (sc := defScope s_l_parts) (own := [("_law_turn", 5)]) (by decide +kernel)) own_name (fun _ _ _ _ _ => (pg_name (i := 5) sc_l_parts.nd rfl (Or.inl rfl))) (fun _ _ _ _ _ => jts_nil) (fun _ _ _ _ _ => (je_cal C_l_pick (hr.mono (by decide)) hg (ja_cons (je_var 0) (ja_cons (je_var 3) ja_nil)))) (sw_true rfl rfl rfl (by decide +kernel)))
  (jss_one (js_ret (je_if (jt_cmp j_gt (je_callB (c_maxL rfl) (by rfl) B.n_max bb_max (ja_cons (je_var 4) ja_nil)) je_int) (je_var 4) (je_op j_addL (je_rol (ja_cons je_int ja_nil)) (je_slice j_sl (je_var 4) (jo_some je_int) jo_none)))))))) spec_l_parts
theorem fn_l_common (B : Bi mg) {f : Addr} {fd : FuncData} (F : Fun K "_law_common" "_law_common" s_l_common f fd) : FnG P w K mg base 1 f fd ["_law_one", "_law_other_here"] c_l_common :=
  fng_mk F sc_l_common len_l_common (fun cdv A outer s H hr hg =>
  (jss_cons (js_par2 0 1 rfl sc_l_common.nd (ja_cons (je_callB c_abs (by rfl) B.n_abs bb_abs (ja_cons (je_var 0) ja_nil)) (ja_cons (je_callB c_abs (by rfl) B.n_abs bb_abs (ja_cons (je_var 1) ja_nil)) ja_nil)))
  (jss_cons (js_for PassesOwn.never rfl (ji_range1 (by rfl) B.n_range (ja_cons je_int ja_nil)) (jg_name 2 sc_l_common.nd) (jss_cons (js_if (jt_cmp (j_eq hr.units) (je_var 1) je_int) (jss_one js_break) jss_nil)
  (jss_one (js_par2 0 1 rfl sc_l_common.nd (ja_cons (je_var 1) (ja_cons (je_op j_mod (je_callTy c_int (by rfl) B.n_int bt_int (ja_cons (je_var 0) ja_nil)) (je_var 1)) ja_nil))))))
  (jss_one (js_ret (je_var 0)))))) spec_l_common
theorem fn_l_fraction (B : Bi mg) (C_l_common : Cal P w K mg base 1 "_law_common" ["_law_one", "_law_other_here"] kw_l_common c_l_common) {f : Addr} {fd : FuncData} (F : Fun K "_law_fraction" "_law_fraction" s_l_fraction f fd) : FnG P w K mg base 2 f fd ["_law_top", "_law_bottom"] c_l_fraction :=
  fng_mk F sc_l_fraction len_l_fraction (fun cdv A outer s H hr hg =>
  (jss_cons (js_set 2 sc_l_fraction.nd (je_if (jt_cmp j_gt (je_var 1) je_int) (je_cal C_l_common (hr.mono (by decide)) hg (ja_cons (je_var 0) (ja_cons (je_var 1) ja_nil))) (je_op j_sub je_int (je_cal C_l_common (hr.mono (by decide)) hg (ja_cons (je_var 0) (ja_cons (je_var 1) ja_nil))))))
  (jss_one (js_ret (je_tup (ja_cons (je_op j_fdiv (je_var 0) (je_var 2)) (ja_cons (je_op j_fdiv (je_var 1) (je_var 2)) ja_nil))))))) spec_l_fraction
theorem fn_l_table (B : Bi mg) (C_l_parts : Cal P w K mg base 3 "_law_parts" ["_law_deck_here", "_law_n", "_law_way"] kw_l_parts c_l_parts) (C_l_fraction : Cal P w K mg base 2 "_law_fraction" ["_law_top", "_law_bottom"] kw_l_fraction c_l_fraction) {f : Addr} {fd : FuncData} (F : Fun K "_law_table" "_law_table" s_l_table f fd) : FnG P w K mg base 4 f fd ["_law_deck_here", "_law_n", "_law_way"] c_l_table :=
  fng_mk F sc_l_table len_l_table (fun cdv A outer s H hr hg =>
  (jss_cons (js_set 3 sc_l_table.nd (je_cal C_l_parts (hr.mono (by decide)) hg (ja_cons (je_var 0) (ja_cons (je_var 1) (ja_cons (je_var 2) ja_nil)))))
  (jss_cons (js_set 4 sc_l_table.nd (je_callB (c_sum rfl) (by rfl) B.n_sum bb_sum (ja_cons (je_var 3) ja_nil)))
  (jss_cons (js_if (jt_cmp (j_eq hr.units) (je_var 2) je_int) (jss_cons (js_for PassesOwn.never rfl (ji_range1 (by rfl) B.n_range (ja_cons je_int ja_nil)) (jg_name 5 sc_l_table.nd) (jss_one (js_if (jt_cmp j_notInI (je_callB (c_sum rfl) (by rfl) B.n_sum bb_sum (ja_cons (je_var 3) ja_nil)) (je_tup (ja_cons je_int (ja_cons je_int (ja_cons je_int (ja_cons je_int (ja_cons je_int (ja_cons je_int (ja_cons je_int ja_nil))))))))) (jss_one (js_asg (je_op j_add (je_ix j_ix (je_var 3) je_int) je_int) (jg_sub (hu_of hr) (je_var 3) je_int (by intro _; rfl)))) jss_nil)))
  (jss_one (js_set 4 sc_l_table.nd (je_callB (c_sum rfl) (by rfl) B.n_sum bb_sum (ja_cons (je_var 3) ja_nil))))) jss_nil)
  (jss_one (js_ret (je_callTy c_tupOf (by rfl) B.n_tuple bt_tuple (ja_cons (je_lc rfl sc_l_table.nd (ji_any (je_var 3)) (blkOk_by (N := N_l_table) (sc := defScope s_l_table) (own := [("_law_part", 6)]) (by decide +kernel)) own_name (fun _ _ _ _ _ => (pg_name (i := 6) sc_l_table.nd rfl (Or.inl rfl))) (fun _ _ _ _ _ => jts_nil) (fun _ _ _ _ _ => (je_cal C_l_fraction (hr.mono (by decide)) hg (ja_cons (je_var 6) (ja_cons (je_var 4) ja_nil))))) ja_nil)))))))) spec_l_table
theorem fn_l_some_table (B : Bi mg) (C_l_table : Cal P w K mg base 4 "_law_table" ["_law_deck_here", "_law_n", "_law_way"] kw_l_table c_l_table) (C_l_pick : Cal P w K mg base 2 "_law_pick" ["_law_deck_here", "_law_some"] kw_l_pick c_l_pick) {f : Addr} {fd : FuncData} (F : Fun K "_law_some_table" "_law_some_table" s_l_some_table f fd) : FnG P w K mg base 5 f fd ["_law_deck_here"] c_l_some_table :=
  fng_mk F sc_l_some_table len_l_some_table (fun cdv A outer s H hr hg =>
  (jss_one (js_ret (je_cal C_l_table (hr.mono (by decide)) hg (ja_cons (je_var 0) (ja_cons (je_cal C_l_pick (hr.mono (by decide)) hg (ja_cons (je_var 0) (ja_cons (je_rol (ja_cons je_int (ja_cons je_int (ja_cons je_int (ja_cons je_int (ja_cons je_int (ja_cons je_int (ja_cons je_int (ja_cons je_int ja_nil))))))))) ja_nil))) (ja_cons (je_cal C_l_pick (hr.mono (by decide)) hg (ja_cons (je_var 0) (ja_cons (je_rol (ja_cons je_int (ja_cons je_int (ja_cons je_int (ja_cons je_int (ja_cons je_int (ja_cons je_int ja_nil))))))) ja_nil))) ja_nil))))))) spec_l_some_table
theorem fn_l_sum (B : Bi mg) (C_l_fraction : Cal P w K mg base 2 "_law_fraction" ["_law_top", "_law_bottom"] kw_l_fraction c_l_fraction) {f : Addr} {fd : FuncData} (F : Fun K "_law_sum" "_law_sum" s_l_sum f fd) : FnG P w K mg base 3 f fd ["_law_some"] c_l_sum :=
  fng_mk F sc_l_sum len_l_sum (fun cdv A outer s H hr hg =>
  (jss_cons (js_asg (je_tup (ja_cons je_int (ja_cons je_int ja_nil))) (jg_tup rfl (jgs_cons (jg_name 1 sc_l_sum.nd) (jgs_cons (jg_name 2 sc_l_sum.nd) jgs_nil))))
  (jss_cons (js_for PassesOwn.never rfl (ji_any (je_var 0)) (jg_name 3 sc_l_sum.nd) (jss_one (js_par2 1 2 rfl sc_l_sum.nd (ja_cons (je_op j_add (je_op j_mul (je_var 1) (je_ix j_ix (je_var 3) je_int)) (je_op j_mul (je_ix j_ix (je_var 3) je_int) (je_var 2))) (ja_cons (je_op j_mul (je_var 2) (je_ix j_ix (je_var 3) je_int)) ja_nil)))))
  (jss_one (js_ret (je_cal C_l_fraction (hr.mono (by decide)) hg (ja_cons (je_var 1) (ja_cons (je_var 2) ja_nil)))))))) spec_l_sum
theorem fn_l_times (B : Bi mg) (C_l_fraction : Cal P w K mg base 2 "_law_fraction" ["_law_top", "_law_bottom"] kw_l_fraction c_l_fraction) {f : Addr} {fd : FuncData} (F : Fun K "_law_times" "_law_times" s_l_times f fd) : FnG P w K mg base 3 f fd ["_law_one", "_law_other_here"] c_l_times :=
  fng_mk F sc_l_times len_l_times (fun cdv A outer s H hr hg =>
  (jss_one (js_ret (je_cal C_l_fraction (hr.mono (by decide)) hg (ja_cons (je_op j_mul (je_ix j_ix (je_var 0) je_int) (je_ix j_ix (je_var 1) je_int)) (ja_cons (je_op j_mul (je_ix j_ix (je_var 0) je_int) (je_ix j_ix (je_var 1) je_int)) ja_nil)))))) spec_l_times
theorem fn_l_mixed (B : Bi mg) (C_l_sum : Cal P w K mg base 3 "_law_sum" ["_law_some"] kw_l_sum c_l_sum) (C_l_times : Cal P w K mg base 3 "_law_times" ["_law_one", "_law_other_here"] kw_l_times c_l_times) {f : Addr} {fd : FuncData} (F : Fun K "_law_mixed" "_law_mixed" s_l_mixed f fd) : FnG P w K mg base 4 f fd ["_law_table_here", "_law_tables"] c_l_mixed :=
  fng_mk F sc_l_mixed len_l_mixed (fun cdv A outer s H hr hg =>
  (jss_cons (js_set 2 sc_l_mixed.nd (je_lst ja_nil))
  (jss_cons (js_for PassesOwn.never rfl (ji_range1 (by rfl) B.n_range (ja_cons (je_callB c_len (by rfl) B.n_len bb_len (ja_cons (je_ix j_ix (je_var 1) je_int) ja_nil)) ja_nil)) (jg_name 3 sc_l_mixed.nd) (jss_one (js_expr (je_m PySem.F.slot_list_append PySem.F.type_list_append m_append (je_var 2) (ja_cons (je_cal C_l_sum (hr.mono (by decide)) hg (ja_cons (je_lc rfl sc_l_mixed.nd (ji_zip (by rfl) B.n_zip (ja_cons (je_var 0) (ja_cons (je_var 1) ja_nil))) (blkOk_by (N := N_l_mixed) (sc := defScope s_l_mixed) (own := [("_law_chance_here", 4), ("_law_it", 5)]) (by decide +kernel)) (own_tup (own_cons (own_cons own_nil))) (fun _ _ _ _ _ => (pg_tup rfl (pgs_cons (pg_name (i := 4) sc_l_mixed.nd rfl (Or.inl rfl)) (pgs_cons (pg_name (i := 5) sc_l_mixed.nd rfl (Or.inl rfl)) pgs_nil)))) (fun _ _ _ _ _ => jts_nil) (fun _ _ _ _ _ => (je_cal C_l_times (hr.mono (by decide)) hg (ja_cons (je_var 4) (ja_cons (je_ix j_ix (je_var 5) (je_var 3)) ja_nil))))) ja_nil)) ja_nil)))))
  (jss_one (js_ret (je_callTy c_tupOf (by rfl) B.n_tuple bt_tuple (ja_cons (je_var 2) ja_nil))))))) spec_l_mixed
theorem fn_l_other (B : Bi mg) (C_l_draw : Cal P w K mg base 1 "_law_draw" ["_law_deck_here", "_law_many"] kw_l_draw c_l_draw) (C_l_mixed : Cal P w K mg base 4 "_law_mixed" ["_law_table_here", "_law_tables"] kw_l_mixed c_l_mixed) (C_l_table : Cal P w K mg base 4 "_law_table" ["_law_deck_here", "_law_n", "_law_way"] kw_l_table c_l_table) (C_l_pick : Cal P w K mg base 2 "_law_pick" ["_law_deck_here", "_law_some"] kw_l_pick c_l_pick) {f : Addr} {fd : FuncData} (F : Fun K "_law_other" "_law_other" s_l_other f fd) : FnG P w K mg base 5 f fd ["_law_deck_here", "_law_table_here"] c_l_other :=
  fng_mk F sc_l_other len_l_other (fun cdv A outer s H hr hg =>
  (jss_cons (js_par2 2 3 rfl sc_l_other.nd (ja_cons (je_callB c_len (by rfl) B.n_len bb_len (ja_cons (je_var 1) ja_nil)) (ja_cons (je_cal C_l_draw (hr.mono (by decide)) hg (ja_cons (je_var 0) (ja_cons je_int ja_nil))) ja_nil)))
  (jss_cons (js_if (jt_cmp (j_eq hr.units) (je_var 3) je_int) (jss_one (js_ret (je_revT (je_var 1)))) jss_nil)
  (jss_cons (js_if (jt_cmp (j_eq hr.units) (je_var 3) je_int) (jss_one (js_ret (je_cal C_l_mixed (hr.mono (by decide)) hg (ja_cons (je_tup (ja_cons (je_tup (ja_cons je_int (ja_cons je_int ja_nil))) (ja_cons (je_tup (ja_cons je_int (ja_cons je_int ja_nil))) ja_nil))) (ja_cons (je_tup (ja_cons (je_var 1) (ja_cons (je_cal C_l_table (hr.mono (by decide)) hg (ja_cons (je_var 0) (ja_cons (je_var 2) (ja_cons je_int ja_nil)))) ja_nil))) ja_nil))))) jss_nil)
  (jss_cons (js_if (jt_cmp (j_eq hr.units) (je_var 3) je_int) (jss_one (js_ret (je_cal C_l_mixed (hr.mono (by decide)) hg (ja_cons (je_tup (ja_cons (je_tup (ja_cons je_int (ja_cons (je_op j_pow je_int je_int) ja_nil))) (ja_cons (je_tup (ja_cons (je_op j_sub (je_op j_pow je_int je_int) je_int) (ja_cons (je_op j_pow je_int je_int) ja_nil))) ja_nil))) (ja_cons (je_tup (ja_cons (je_cal C_l_table (hr.mono (by decide)) hg (ja_cons (je_var 0) (ja_cons (je_var 2) (ja_cons je_int ja_nil)))) (ja_cons (je_var 1) ja_nil))) ja_nil))))) jss_nil)
  (jss_cons (js_if (jt_cmp (j_eq hr.units) (je_var 3) je_int) (jss_one (js_ret (je_var 1))) jss_nil)
  (jss_one (js_ret (je_cal C_l_table (hr.mono (by decide)) hg (ja_cons (je_var 0) (ja_cons (je_var 2) (ja_cons (je_cal C_l_pick (hr.mono (by decide)) hg (ja_cons (je_var 0) (ja_cons (je_rol (ja_cons je_int (ja_cons je_int (ja_cons je_int (ja_cons je_int ja_nil))))) ja_nil))) ja_nil)))))))))))) spec_l_other
theorem fn_l_less (B : Bi mg) (C_l_fraction : Cal P w K mg base 2 "_law_fraction" ["_law_top", "_law_bottom"] kw_l_fraction c_l_fraction) {f : Addr} {fd : FuncData} (F : Fun K "_law_less" "_law_less" s_l_less f fd) : FnG P w K mg base 3 f fd ["_law_one", "_law_other_here"] c_l_less :=
  fng_mk F sc_l_less len_l_less (fun cdv A outer s H hr hg =>
  (jss_one (js_ret (je_cal C_l_fraction (hr.mono (by decide)) hg (ja_cons (je_op j_sub (je_op j_mul (je_ix j_ix (je_var 0) je_int) (je_ix j_ix (je_var 1) je_int)) (je_op j_mul (je_ix j_ix (je_var 1) je_int) (je_ix j_ix (je_var 0) je_int))) (ja_cons (je_op j_mul (je_ix j_ix (je_var 0) je_int) (je_ix j_ix (je_var 1) je_int)) ja_nil)))))) spec_l_less
theorem fn_l_apart (B : Bi mg) (C_l_less : Cal P w K mg base 3 "_law_less" ["_law_one", "_law_other_here"] kw_l_less c_l_less) (C_l_sum : Cal P w K mg base 3 "_law_sum" ["_law_some"] kw_l_sum c_l_sum) (C_l_fraction : Cal P w K mg base 2 "_law_fraction" ["_law_top", "_law_bottom"] kw_l_fraction c_l_fraction) {f : Addr} {fd : FuncData} (F : Fun K "_law_apart" "_law_apart" s_l_apart f fd) : FnG P w K mg base 4 f fd ["_law_one", "_law_other_here"] c_l_apart :=
  fng_mk F sc_l_apart len_l_apart (fun cdv A outer s H hr hg =>
  (jss_cons (js_setLc 2 rfl sc_l_apart.nd (ji_zip (by rfl) B.n_zip (ja_cons (je_var 0) (ja_cons (je_var 1) ja_nil))) (blkOk_by (N := N_l_apart) (sc := defScope s_l_apart) (own := [("_law_x", 4), ("_law_y", 5)]) (by decide +kernel)) (own_tup (own_cons (own_cons own_nil))) (fun _ _ _ _ _ => (pg_tup rfl (pgs_cons (pg_name (i := 4) sc_l_apart.nd rfl (Or.inl rfl)) (pgs_cons (pg_name (i := 5) sc_l_apart.nd rfl (Or.inl rfl)) pgs_nil)))) (fun _ _ _ _ _ => jts_nil) (fun _ _ _ _ _ => (je_cal C_l_less (hr.mono (by decide)) hg (ja_cons (je_var 4) (ja_cons (je_var 5) ja_nil)))) (sw_true rfl rfl rfl (by decide +kernel)))
  (jss_cons (js_set 3 sc_l_apart.nd (je_cal C_l_sum (hr.mono (by decide)) hg (ja_cons (je_lc rfl sc_l_apart.nd (ji_any (je_var 2)) (blkOk_by (N := N_l_apart) (sc := defScope s_l_apart) (own := [("_law_it", 6)]) (by decide +kernel)) own_name (fun _ _ _ _ _ => (pg_name (i := 6) sc_l_apart.nd rfl (Or.inl rfl))) (fun _ _ _ _ _ => jts_nil) (fun _ _ _ _ _ => (je_tup (ja_cons (je_callB c_abs (by rfl) B.n_abs bb_abs (ja_cons (je_ix j_ix (je_var 6) je_int) ja_nil)) (ja_cons (je_ix j_ix (je_var 6) je_int) ja_nil))))) ja_nil)))
  (jss_one (js_ret (je_cal C_l_fraction (hr.mono (by decide)) hg (ja_cons (je_ix j_ix (je_var 3) je_int) (ja_cons (je_op j_mul je_int (je_ix j_ix (je_var 3) je_int)) ja_nil)))))))) spec_l_apart
theorem fn_is_integer (B : Bi mg) {f : Addr} {fd : FuncData} (F : Fun K "is_integer" "is_integer" s_is_integer f fd) : FnG P w K mg base 1 f fd ["thing"] c_is_integer :=
  fng_mk F sc_is_integer len_is_integer (fun cdv A outer s H hr hg =>
  (jss_one (js_ret (je_and (je_callB c_isi (by rfl) B.n_isinstance bb_isinstance (ja_cons (je_var 0) (ja_cons (je_ty (by rfl) B.n_int bt_int) ja_nil))) (je_one (je_not (je_callB c_isi (by rfl) B.n_isinstance bb_isinstance (ja_cons (je_var 0) (ja_cons (je_ty (by rfl) B.n_bool bt_bool) ja_nil))))))))) spec_is_integer
theorem fn_divisor_of (B : Bi mg) {f : Addr} {fd : FuncData} (F : Fun K "divisor_of" "divisor_of" s_divisor_of f fd) : FnG P w K mg base 1 f fd ["one", "other"] c_divisor_of :=
  fng_mk F sc_divisor_of len_divisor_of (fun cdv A outer s H hr hg =>
  (jss_cons (js_set 0 sc_divisor_of.nd (je_callB c_abs (by rfl) B.n_abs bb_abs (ja_cons (je_var 0) ja_nil)))
  (jss_cons (js_while PassesOwn.never (jt_cmp (j_ne hr.units) (je_var 1) je_int) (jss_one (js_par2 0 1 rfl sc_divisor_of.nd (ja_cons (je_var 1) (ja_cons (je_op j_mod (je_var 0) (je_var 1)) ja_nil)))))
  (jss_one (js_ret (je_var 0)))))) spec_divisor_of
theorem fn_is_fraction_value (B : Bi mg) (C_is_integer : Cal P w K mg base 1 "is_integer" ["thing"] kw_is_integer c_is_integer) (C_divisor_of : Cal P w K mg base 1 "divisor_of" ["one", "other"] kw_divisor_of c_divisor_of) {f : Addr} {fd : FuncData} (F : Fun K "is_fraction_value" "is_fraction_value" s_is_fraction_value f fd) : FnG P w K mg base 2 f fd ["thing"] c_is_fraction_value :=
  fng_mk F sc_is_fraction_value len_is_fraction_value (fun cdv A outer s H hr hg =>
  (jss_cons (js_if (jt_of (jw_or (jt_not (jt_val (je_callB c_isi (by rfl) B.n_isinstance bb_isinstance (ja_cons (je_var 0) (ja_cons (je_ty (by rfl) B.n_tuple bt_tuple) ja_nil))))) (jw_or (jt_cmp (j_ne hr.units) (je_callB c_len (by rfl) B.n_len bb_len (ja_cons (je_var 0) ja_nil)) je_int) (jw_or (jt_not (jt_val (je_cal C_is_integer (hr.mono (by decide)) hg (ja_cons (je_ix j_ix (je_var 0) je_int) ja_nil)))) (jw_or1 (jt_not (jt_val (je_cal C_is_integer (hr.mono (by decide)) hg (ja_cons (je_ix j_ix (je_var 0) je_int) ja_nil))))))))) (jss_one (js_ret je_bl)) jss_nil)
  (jss_one (js_ret (je_and (je_cmp j_gt (je_ix j_ix (je_var 0) je_int) je_int) (je_one (je_cmp (j_eq hr.units) (je_cal C_divisor_of (hr.mono (by decide)) hg (ja_cons (je_ix j_ix (je_var 0) je_int) (ja_cons (je_ix j_ix (je_var 0) je_int) ja_nil))) je_int))))))) spec_is_fraction_value
theorem fn_is_share_value (B : Bi mg) (C_is_fraction_value : Cal P w K mg base 2 "is_fraction_value" ["thing"] kw_is_fraction_value c_is_fraction_value) {f : Addr} {fd : FuncData} (F : Fun K "is_share_value" "is_share_value" s_is_share_value f fd) : FnG P w K mg base 3 f fd ["thing"] c_is_share_value :=
  fng_mk F sc_is_share_value len_is_share_value (fun cdv A outer s H hr hg =>
  (jss_one (js_ret (je_and (je_cal C_is_fraction_value (hr.mono (by decide)) hg (ja_cons (je_var 0) ja_nil)) (je_one (je_cmp j_ge (je_ix j_ix (je_var 0) je_int) je_int)))))) spec_is_share_value
theorem fn_lowest (B : Bi mg) (C_divisor_of : Cal P w K mg base 1 "divisor_of" ["one", "other"] kw_divisor_of c_divisor_of) {f : Addr} {fd : FuncData} (F : Fun K "lowest" "lowest" s_lowest f fd) : FnG P w K mg base 2 f fd ["top", "bottom"] c_lowest :=
  fng_mk F sc_lowest len_lowest (fun cdv A outer s H hr hg =>
  (jss_cons (js_set 2 sc_lowest.nd (je_cal C_divisor_of (hr.mono (by decide)) hg (ja_cons (je_var 0) (ja_cons (je_var 1) ja_nil))))
  (jss_one (js_ret (je_tup (ja_cons (je_op j_fdiv (je_var 0) (je_var 2)) (ja_cons (je_op j_fdiv (je_var 1) (je_var 2)) ja_nil))))))) spec_lowest
theorem fn_plus (B : Bi mg) (C_lowest : Cal P w K mg base 2 "lowest" ["top", "bottom"] kw_lowest c_lowest) {f : Addr} {fd : FuncData} (F : Fun K "plus" "plus" s_plus f fd) : FnG P w K mg base 3 f fd ["one", "other"] c_plus :=
  fng_mk F sc_plus len_plus (fun cdv A outer s H hr hg =>
  (jss_one (js_ret (je_cal C_lowest (hr.mono (by decide)) hg (ja_cons (je_op j_add (je_op j_mul (je_ix j_ix (je_var 0) je_int) (je_ix j_ix (je_var 1) je_int)) (je_op j_mul (je_ix j_ix (je_var 1) je_int) (je_ix j_ix (je_var 0) je_int))) (ja_cons (je_op j_mul (je_ix j_ix (je_var 0) je_int) (je_ix j_ix (je_var 1) je_int)) ja_nil)))))) spec_plus
theorem fn_total (B : Bi mg) (C_plus : Cal P w K mg base 3 "plus" ["one", "other"] kw_plus c_plus) (k_ZERO : KCon K mg "ZERO" d_ZERO) {f : Addr} {fd : FuncData} (F : Fun K "total" "total" s_total f fd) : FnG P w K mg base 4 f fd ["some"] c_total :=
  fng_mk F sc_total len_total (fun cdv A outer s H hr hg =>
  (jss_cons (js_set 1 sc_total.nd (je_kcon k_ZERO))
  (jss_cons (js_for PassesOwn.never rfl (ji_any (je_var 0)) (jg_name 2 sc_total.nd) (jss_one (js_set 1 sc_total.nd (je_cal C_plus (hr.mono (by decide)) hg (ja_cons (je_var 1) (ja_cons (je_var 2) ja_nil))))))
  (jss_one (js_ret (je_var 1)))))) spec_total
theorem fn_is_table_value (B : Bi mg) (C_is_share_value : Cal P w K mg base 3 "is_share_value" ["thing"] kw_is_share_value c_is_share_value) (C_total : Cal P w K mg base 4 "total" ["some"] kw_total c_total) (k_ONE : KCon K mg "ONE" d_ONE) {f : Addr} {fd : FuncData} (F : Fun K "is_table_value" "is_table_value" s_is_table_value f fd) : FnG P w K mg base 5 f fd ["thing"] c_is_table_value :=
  fng_mk F sc_is_table_value len_is_table_value (fun cdv A outer s H hr hg =>
  (jss_cons (js_if (jt_of (jw_or (jt_not (jt_val (je_callB c_isi (by rfl) B.n_isinstance bb_isinstance (ja_cons (je_var 0) (ja_cons (je_ty (by rfl) B.n_tuple bt_tuple) ja_nil))))) (jw_or (jt_not (jt_chain j_le j_le je_int (je_callB c_len (by rfl) B.n_len bb_len (ja_cons (je_var 0) ja_nil)) je_int)) (jw_or1 (jt_not (jt_val (je_callB (c_all rfl) (by rfl) B.n_all bb_all (ja_cons (je_lc rfl sc_is_table_value.nd (ji_any (je_var 0)) (blkOk_by (N := N_is_table_value) (sc := defScope s_is_table_value) (own := [("part", 1)]) (by decide +kernel)) own_name (fun _ _ _ _ _ => (pg_name (i := 1) sc_is_table_value.nd rfl (Or.inl rfl))) (fun _ _ _ _ _ => jts_nil) (fun _ _ _ _ _ => (je_cal C_is_share_value (hr.mono (by decide)) hg (ja_cons (je_var 1) ja_nil)))) ja_nil)))))))) (jss_one (js_ret je_bl)) jss_nil)
  (jss_one (js_ret (je_cmp (j_eq hr.units) (je_cal C_total (hr.mono (by decide)) hg (ja_cons (je_var 0) ja_nil)) (je_kcon k_ONE)))))) spec_is_table_value
theorem fn_need_table (B : Bi mg) (C_is_table_value : Cal P w K mg base 5 "is_table_value" ["thing"] kw_is_table_value c_is_table_value) {f : Addr} {fd : FuncData} (F : Fun K "need_table" "need_table" s_need_table f fd) : FnG P w K mg base 6 f fd ["table"] c_need_table :=
  fng_mk F sc_need_table len_need_table (fun cdv A outer s H hr hg =>
  (jss_one (js_if (jt_not (jt_val (je_cal C_is_table_value (hr.mono (by decide)) hg (ja_cons (je_var 0) ja_nil)))) (jss_one js_never) jss_nil))) spec_need_table
theorem fn_need_like (B : Bi mg) (C_need_table : Cal P w K mg base 6 "need_table" ["table"] kw_need_table c_need_table) {f : Addr} {fd : FuncData} (F : Fun K "need_like" "need_like" s_need_like f fd) : FnG P w K mg base 7 f fd ["table", "other"] c_need_like :=
  fng_mk F sc_need_like len_need_like (fun cdv A outer s H hr hg =>
  (jss_cons (js_expr (je_cal C_need_table (hr.mono (by decide)) hg (ja_cons (je_var 0) ja_nil)))
  (jss_cons (js_expr (je_cal C_need_table (hr.mono (by decide)) hg (ja_cons (je_var 1) ja_nil)))
  (jss_one (js_if (jt_cmp (j_ne hr.units) (je_callB c_len (by rfl) B.n_len bb_len (ja_cons (je_var 0) ja_nil)) (je_callB c_len (by rfl) B.n_len bb_len (ja_cons (je_var 1) ja_nil))) (jss_one js_never) jss_nil))))) spec_need_like
theorem fn_times (B : Bi mg) (C_lowest : Cal P w K mg base 2 "lowest" ["top", "bottom"] kw_lowest c_lowest) {f : Addr} {fd : FuncData} (F : Fun K "times" "times" s_times f fd) : FnG P w K mg base 3 f fd ["one", "other"] c_times :=
  fng_mk F sc_times len_times (fun cdv A outer s H hr hg =>
  (jss_one (js_ret (je_cal C_lowest (hr.mono (by decide)) hg (ja_cons (je_op j_mul (je_ix j_ix (je_var 0) je_int) (je_ix j_ix (je_var 1) je_int)) (ja_cons (je_op j_mul (je_ix j_ix (je_var 0) je_int) (je_ix j_ix (je_var 1) je_int)) ja_nil)))))) spec_times
theorem fn_is_less (B : Bi mg) {f : Addr} {fd : FuncData} (F : Fun K "is_less" "is_less" s_is_less f fd) : FnG P w K mg base 1 f fd ["one", "other"] c_is_less :=
  fng_mk F sc_is_less len_is_less (fun cdv A outer s H hr hg =>
  (jss_one (js_ret (je_cmp j_lt (je_op j_mul (je_ix j_ix (je_var 0) je_int) (je_ix j_ix (je_var 1) je_int)) (je_op j_mul (je_ix j_ix (je_var 1) je_int) (je_ix j_ix (je_var 0) je_int)))))) spec_is_less
theorem fn_minus (B : Bi mg) (C_lowest : Cal P w K mg base 2 "lowest" ["top", "bottom"] kw_lowest c_lowest) {f : Addr} {fd : FuncData} (F : Fun K "minus" "minus" s_minus f fd) : FnG P w K mg base 3 f fd ["one", "other"] c_minus :=
  fng_mk F sc_minus len_minus (fun cdv A outer s H hr hg =>
  (jss_one (js_ret (je_cal C_lowest (hr.mono (by decide)) hg (ja_cons (je_op j_sub (je_op j_mul (je_ix j_ix (je_var 0) je_int) (je_ix j_ix (je_var 1) je_int)) (je_op j_mul (je_ix j_ix (je_var 1) je_int) (je_ix j_ix (je_var 0) je_int))) (ja_cons (je_op j_mul (je_ix j_ix (je_var 0) je_int) (je_ix j_ix (je_var 1) je_int)) ja_nil)))))) spec_minus
theorem fn_gap (B : Bi mg) (C_is_less : Cal P w K mg base 1 "is_less" ["one", "other"] kw_is_less c_is_less) (C_minus : Cal P w K mg base 3 "minus" ["one", "other"] kw_minus c_minus) {f : Addr} {fd : FuncData} (F : Fun K "gap" "gap" s_gap f fd) : FnG P w K mg base 4 f fd ["one", "other"] c_gap :=
  fng_mk F sc_gap len_gap (fun cdv A outer s H hr hg =>
  (jss_one (js_ret (je_if (jt_val (je_cal C_is_less (hr.mono (by decide)) hg (ja_cons (je_var 0) (ja_cons (je_var 1) ja_nil)))) (je_cal C_minus (hr.mono (by decide)) hg (ja_cons (je_var 1) (ja_cons (je_var 0) ja_nil))) (je_cal C_minus (hr.mono (by decide)) hg (ja_cons (je_var 0) (ja_cons (je_var 1) ja_nil))))))) spec_gap
theorem fn_raw_distance (B : Bi mg) (C_times : Cal P w K mg base 3 "times" ["one", "other"] kw_times c_times) (C_total : Cal P w K mg base 4 "total" ["some"] kw_total c_total) (C_gap : Cal P w K mg base 4 "gap" ["one", "other"] kw_gap c_gap) (k_HALF : KCon K mg "HALF" d_HALF) {f : Addr} {fd : FuncData} (F : Fun K "raw_distance" "raw_distance" s_raw_distance f fd) : FnG P w K mg base 5 f fd ["table", "other"] c_raw_distance :=
  fng_mk F sc_raw_distance len_raw_distance (fun cdv A outer s H hr hg =>
  (jss_one (js_ret (je_cal C_times (hr.mono (by decide)) hg (ja_cons (je_kcon k_HALF) (ja_cons (je_cal C_total (hr.mono (by decide)) hg (ja_cons (je_lc rfl sc_raw_distance.nd (ji_zip (by rfl) B.n_zip (ja_cons (je_var 0) (ja_cons (je_var 1) ja_nil))) (blkOk_by (N := N_raw_distance) (sc := defScope s_raw_distance) (own := [("one", 2), ("chance", 3)]) (by decide +kernel)) (own_tup (own_cons (own_cons own_nil))) (fun _ _ _ _ _ => (pg_tup rfl (pgs_cons (pg_name (i := 2) sc_raw_distance.nd rfl (Or.inl rfl)) (pgs_cons (pg_name (i := 3) sc_raw_distance.nd rfl (Or.inl rfl)) pgs_nil)))) (fun _ _ _ _ _ => jts_nil) (fun _ _ _ _ _ => (je_cal C_gap (hr.mono (by decide)) hg (ja_cons (je_var 2) (ja_cons (je_var 3) ja_nil))))) ja_nil)) ja_nil)))))) spec_raw_distance
theorem fn_distance (B : Bi mg) (C_need_like : Cal P w K mg base 7 "need_like" ["table", "other"] kw_need_like c_need_like) (C_raw_distance : Cal P w K mg base 5 "raw_distance" ["table", "other"] kw_raw_distance c_raw_distance) {f : Addr} {fd : FuncData} (F : Fun K "distance" "distance" s_distance f fd) : FnG P w K mg base 8 f fd ["table", "other"] c_distance :=
  fng_mk F sc_distance len_distance (fun cdv A outer s H hr hg =>
  (jss_cons (js_expr (je_cal C_need_like (hr.mono (by decide)) hg (ja_cons (je_var 0) (ja_cons (je_var 1) ja_nil))))
  (jss_one (js_ret (je_cal C_raw_distance (hr.mono (by decide)) hg (ja_cons (je_var 0) (ja_cons (je_var 1) ja_nil))))))) spec_distance
theorem fn_l_is_above (B : Bi mg) {f : Addr} {fd : FuncData} (F : Fun K "_law_is_above" "_law_is_above" s_l_is_above f fd) : FnG P w K mg base 1 f fd ["_law_one", "_law_other_here"] c_l_is_above :=
  fng_mk F sc_l_is_above len_l_is_above (fun cdv A outer s H hr hg =>
  (jss_one (js_ret (je_cmp j_gt (je_op j_mul (je_ix j_ix (je_var 0) je_int) (je_ix j_ix (je_var 1) je_int)) (je_op j_mul (je_ix j_ix (je_var 1) je_int) (je_ix j_ix (je_var 0) je_int)))))) spec_l_is_above
theorem fn_l_lot (B : Bi mg) (C_l_draw : Cal P w K mg base 1 "_law_draw" ["_law_deck_here", "_law_many"] kw_l_draw c_l_draw) {f : Addr} {fd : FuncData} (F : Fun K "_law_lot" "_law_lot" s_l_lot f fd) : FnG P w K mg base 2 f fd ["_law_deck_here", "_law_n"] c_l_lot :=
  fng_mk F sc_l_lot len_l_lot (fun cdv A outer s H hr hg =>
  (jss_one (js_ret (je_callTy c_tupOf (by rfl) B.n_tuple bt_tuple (ja_cons (je_lc rfl sc_l_lot.nd (ji_range1 (by rfl) B.n_range (ja_cons (je_var 1) ja_nil)) (blkOk_by (N := N_l_lot) (sc := defScope s_l_lot) (own := [("_law_i", 2)]) (by decide +kernel)) own_name (fun _ _ _ _ _ => (pg_name (i := 2) sc_l_lot.nd rfl (Or.inl rfl))) (fun _ _ _ _ _ => (jts_one (jt_cmp (j_eq hr.units) (je_cal C_l_draw (hr.mono (by decide)) hg (ja_cons (je_var 0) (ja_cons je_int ja_nil))) je_int))) (fun _ _ _ _ _ => (je_var 2))) ja_nil))))) spec_l_lot
theorem fn_l_chance (B : Bi mg) (C_l_sum : Cal P w K mg base 3 "_law_sum" ["_law_some"] kw_l_sum c_l_sum) {f : Addr} {fd : FuncData} (F : Fun K "_law_chance" "_law_chance" s_l_chance f fd) : FnG P w K mg base 4 f fd ["_law_table_here", "_law_lot_here"] c_l_chance :=
  fng_mk F sc_l_chance len_l_chance (fun cdv A outer s H hr hg =>
  (jss_one (js_ret (je_cal C_l_sum (hr.mono (by decide)) hg (ja_cons (je_lc rfl sc_l_chance.nd (ji_any (je_var 1)) (blkOk_by (N := N_l_chance) (sc := defScope s_l_chance) (own := [("_law_i", 2)]) (by decide +kernel)) own_name (fun _ _ _ _ _ => (pg_name (i := 2) sc_l_chance.nd rfl (Or.inl rfl))) (fun _ _ _ _ _ => jts_nil) (fun _ _ _ _ _ => (je_ix j_ix (je_var 0) (je_var 2)))) ja_nil))))) spec_l_chance
theorem fn_l_lot_apart (B : Bi mg) (C_l_less : Cal P w K mg base 3 "_law_less" ["_law_one", "_law_other_here"] kw_l_less c_l_less) (C_l_chance : Cal P w K mg base 4 "_law_chance" ["_law_table_here", "_law_lot_here"] kw_l_chance c_l_chance) {f : Addr} {fd : FuncData} (F : Fun K "_law_lot_apart" "_law_lot_apart" s_l_lot_apart f fd) : FnG P w K mg base 5 f fd ["_law_one", "_law_other_here", "_law_lot_here"] c_l_lot_apart :=
  fng_mk F sc_l_lot_apart len_l_lot_apart (fun cdv A outer s H hr hg =>
  (jss_cons (js_set 3 sc_l_lot_apart.nd (je_cal C_l_less (hr.mono (by decide)) hg (ja_cons (je_cal C_l_chance (hr.mono (by decide)) hg (ja_cons (je_var 0) (ja_cons (je_var 2) ja_nil))) (ja_cons (je_cal C_l_chance (hr.mono (by decide)) hg (ja_cons (je_var 1) (ja_cons (je_var 2) ja_nil))) ja_nil))))
  (jss_one (js_ret (je_tup (ja_cons (je_callB c_abs (by rfl) B.n_abs bb_abs (ja_cons (je_ix j_ix (je_var 3) je_int) ja_nil)) (ja_cons (je_ix j_ix (je_var 3) je_int) ja_nil))))))) spec_l_lot_apart
theorem fn_l_pick_2 (B : Bi mg) (C_l_draw : Cal P w K mg base 1 "_law_draw" ["_law_deck_here", "_law_many"] kw_l_draw c_l_draw) {f : Addr} {fd : FuncData} (F : Fun K "_law_pick" "_law_pick" s_l_pick_2 f fd) : FnG P w K mg base 2 f fd ["_law_deck_here", "_law_some"] c_l_pick_2 :=
  fng_mk F sc_l_pick_2 len_l_pick_2 (fun cdv A outer s H hr hg =>
  (jss_one (js_ret (je_ix j_ix (je_var 1) (je_cal C_l_draw (hr.mono (by decide)) hg (ja_cons (je_var 0) (ja_cons (je_callB c_len (by rfl) B.n_len bb_len (ja_cons (je_var 1) ja_nil)) ja_nil))))))) spec_l_pick_2
theorem fn_need_near (B : Bi mg) (C_need_like : Cal P w K mg base 7 "need_like" ["table", "other"] kw_need_like c_need_like) (C_is_share_value : Cal P w K mg base 3 "is_share_value" ["thing"] kw_is_share_value c_is_share_value) {f : Addr} {fd : FuncData} (F : Fun K "need_near" "need_near" s_need_near f fd) : FnG P w K mg base 8 f fd ["table", "other", "fraction"] c_need_near :=
  fng_mk F sc_need_near len_need_near (fun cdv A outer s H hr hg =>
  (jss_cons (js_expr (je_cal C_need_like (hr.mono (by decide)) hg (ja_cons (je_var 0) (ja_cons (je_var 1) ja_nil))))
  (jss_one (js_if (jt_not (jt_val (je_cal C_is_share_value (hr.mono (by decide)) hg (ja_cons (je_var 2) ja_nil)))) (jss_one js_never) jss_nil)))) spec_need_near
theorem fn_is_at_most (B : Bi mg) {f : Addr} {fd : FuncData} (F : Fun K "is_at_most" "is_at_most" s_is_at_most f fd) : FnG P w K mg base 1 f fd ["one", "other"] c_is_at_most :=
  fng_mk F sc_is_at_most len_is_at_most (fun cdv A outer s H hr hg =>
  (jss_one (js_ret (je_cmp j_le (je_op j_mul (je_ix j_ix (je_var 0) je_int) (je_ix j_ix (je_var 1) je_int)) (je_op j_mul (je_ix j_ix (je_var 1) je_int) (je_ix j_ix (je_var 0) je_int)))))) spec_is_at_most
theorem fn_lot_above (B : Bi mg) (C_is_less : Cal P w K mg base 1 "is_less" ["one", "other"] kw_is_less c_is_less) {f : Addr} {fd : FuncData} (F : Fun K "lot_above" "lot_above" s_lot_above f fd) : FnG P w K mg base 2 f fd ["table", "other"] c_lot_above :=
  fng_mk F sc_lot_above len_lot_above (fun cdv A outer s H hr hg =>
  (jss_one (js_ret (je_callTy c_tupOf (by rfl) B.n_tuple bt_tuple (ja_cons (je_lc rfl sc_lot_above.nd (ji_enum (by rfl) B.n_enumerate (ja_cons (je_var 0) ja_nil)) (blkOk_by (N := N_lot_above) (sc := defScope s_lot_above) (own := [("i", 2), ("chance", 3)]) (by decide +kernel)) (own_tup (own_cons (own_cons own_nil))) (fun _ _ _ _ _ => (pg_tup rfl (pgs_cons (pg_name (i := 2) sc_lot_above.nd rfl (Or.inl rfl)) (pgs_cons (pg_name (i := 3) sc_lot_above.nd rfl (Or.inl rfl)) pgs_nil)))) (fun _ _ _ _ _ => (jts_one (jt_val (je_cal C_is_less (hr.mono (by decide)) hg (ja_cons (je_ix j_ix (je_var 1) (je_var 2)) (ja_cons (je_var 3) ja_nil)))))) (fun _ _ _ _ _ => (je_var 2))) ja_nil))))) spec_lot_above
theorem fn_judge_near (B : Bi mg) (C_need_near : Cal P w K mg base 8 "need_near" ["table", "other", "fraction"] kw_need_near c_need_near) (C_is_at_most : Cal P w K mg base 1 "is_at_most" ["one", "other"] kw_is_at_most c_is_at_most) (C_raw_distance : Cal P w K mg base 5 "raw_distance" ["table", "other"] kw_raw_distance c_raw_distance) (C_lot_above : Cal P w K mg base 2 "lot_above" ["table", "other"] kw_lot_above c_lot_above) {f : Addr} {fd : FuncData} (F : Fun K "judge_near" "judge_near" s_judge_near f fd) : FnG P w K mg base 9 f fd ["table", "other", "fraction"] c_judge_near :=
  fng_mk F sc_judge_near len_judge_near (fun cdv A outer s H hr hg =>
  (jss_cons (js_expr (je_cal C_need_near (hr.mono (by decide)) hg (ja_cons (je_var 0) (ja_cons (je_var 1) (ja_cons (je_var 2) ja_nil)))))
  (jss_cons (js_if (jt_val (je_cal C_is_at_most (hr.mono (by decide)) hg (ja_cons (je_cal C_raw_distance (hr.mono (by decide)) hg (ja_cons (je_var 0) (ja_cons (je_var 1) ja_nil))) (ja_cons (je_var 2) ja_nil)))) (jss_one (js_ret (je_tup (ja_cons je_str ja_nil)))) jss_nil)
  (jss_one (js_ret (je_tup (ja_cons je_str (ja_cons (je_cal C_lot_above (hr.mono (by decide)) hg (ja_cons (je_var 0) (ja_cons (je_var 1) ja_nil))) ja_nil)))))))) spec_judge_near
theorem fn_is_exactly (B : Bi mg) {f : Addr} {fd : FuncData} (F : Fun K "is_exactly" "is_exactly" s_is_exactly f fd) : FnG P w K mg base 1 f fd ["thing", "due"] c_is_exactly :=
  fng_mk F sc_is_exactly len_is_exactly (fun cdv A outer s H hr hg =>
  (jss_one (js_ret (je_cmp (j_eq hr.units) (je_callB (c_repr hg (un66 hr)) (by rfl) B.n_repr bb_repr (ja_cons (je_var 0) ja_nil)) (je_callB (c_repr hg (un66 hr)) (by rfl) B.n_repr bb_repr (ja_cons (je_var 1) ja_nil)))))) spec_is_exactly
theorem fn_is_word (B : Bi mg) {f : Addr} {fd : FuncData} (F : Fun K "is_word" "is_word" s_is_word f fd) : FnG P w K mg base 1 f fd ["thing", "word"] c_is_word :=
  fng_mk F sc_is_word len_is_word (fun cdv A outer s H hr hg =>
  (jss_one (js_ret (je_and (je_callB c_isi (by rfl) B.n_isinstance bb_isinstance (ja_cons (je_var 0) (ja_cons (je_ty (by rfl) B.n_tuple bt_tuple) ja_nil))) (je_and (je_cmp j_gt (je_callB c_len (by rfl) B.n_len bb_len (ja_cons (je_var 0) ja_nil)) je_int) (je_and (je_callB c_isi (by rfl) B.n_isinstance bb_isinstance (ja_cons (je_ix j_ix (je_var 0) je_int) (ja_cons (je_ty (by rfl) B.n_str bt_str) ja_nil))) (je_one (je_cmp (j_eq hr.units) (je_ix j_ix (je_var 0) je_int) (je_var 1))))))))) spec_is_word
theorem fn_is_between (B : Bi mg) (C_is_integer : Cal P w K mg base 1 "is_integer" ["thing"] kw_is_integer c_is_integer) {f : Addr} {fd : FuncData} (F : Fun K "is_between" "is_between" s_is_between f fd) : FnG P w K mg base 2 f fd ["thing", "least", "most"] c_is_between :=
  fng_mk F sc_is_between len_is_between (fun cdv A outer s H hr hg =>
  (jss_one (js_ret (je_and (je_cal C_is_integer (hr.mono (by decide)) hg (ja_cons (je_var 0) ja_nil)) (je_one (je_chain j_le j_le (je_var 1) (je_var 0) (je_var 2))))))) spec_is_between
theorem fn_are_between (B : Bi mg) (C_is_between : Cal P w K mg base 2 "is_between" ["thing", "least", "most"] kw_is_between c_is_between) {f : Addr} {fd : FuncData} (F : Fun K "are_between" "are_between" s_are_between f fd) : FnG P w K mg base 3 f fd ["thing", "least", "most"] c_are_between :=
  fng_mk F sc_are_between len_are_between (fun cdv A outer s H hr hg =>
  (jss_one (js_ret (je_and (je_callB c_isi (by rfl) B.n_isinstance bb_isinstance (ja_cons (je_var 0) (ja_cons (je_ty (by rfl) B.n_tuple bt_tuple) ja_nil))) (je_one (je_callB (c_all rfl) (by rfl) B.n_all bb_all (ja_cons (je_lc rfl sc_are_between.nd (ji_any (je_var 0)) (blkOk_by (N := N_are_between) (sc := defScope s_are_between) (own := [("part", 3)]) (by decide +kernel)) own_name (fun _ _ _ _ _ => (pg_name (i := 3) sc_are_between.nd rfl (Or.inl rfl))) (fun _ _ _ _ _ => jts_nil) (fun _ _ _ _ _ => (je_cal C_is_between (hr.mono (by decide)) hg (ja_cons (je_var 3) (ja_cons (je_var 1) (ja_cons (je_var 2) ja_nil)))))) ja_nil))))))) spec_are_between
theorem fn_is_ascending (B : Bi mg) {f : Addr} {fd : FuncData} (F : Fun K "is_ascending" "is_ascending" s_is_ascending f fd) : FnG P w K mg base 1 f fd ["some"] c_is_ascending :=
  fng_mk F sc_is_ascending len_is_ascending (fun cdv A outer s H hr hg =>
  (jss_one (js_ret (je_callB (c_all rfl) (by rfl) B.n_all bb_all (ja_cons (je_lc rfl sc_is_ascending.nd (ji_zip (by rfl) B.n_zip (ja_cons (je_var 0) (ja_cons (je_slice j_sl (je_var 0) (jo_some je_int) jo_none) ja_nil))) (blkOk_by (N := N_is_ascending) (sc := defScope s_is_ascending) (own := [("one", 1), ("other", 2)]) (by decide +kernel)) (own_tup (own_cons (own_cons own_nil))) (fun _ _ _ _ _ => (pg_tup rfl (pgs_cons (pg_name (i := 1) sc_is_ascending.nd rfl (Or.inl rfl)) (pgs_cons (pg_name (i := 2) sc_is_ascending.nd rfl (Or.inl rfl)) pgs_nil)))) (fun _ _ _ _ _ => jts_nil) (fun _ _ _ _ _ => (je_cmp j_lt (je_var 1) (je_var 2)))) ja_nil))))) spec_is_ascending
theorem fn_is_lot_value (B : Bi mg) (C_are_between : Cal P w K mg base 3 "are_between" ["thing", "least", "most"] kw_are_between c_are_between) (C_is_ascending : Cal P w K mg base 1 "is_ascending" ["some"] kw_is_ascending c_is_ascending) {f : Addr} {fd : FuncData} (F : Fun K "is_lot_value" "is_lot_value" s_is_lot_value f fd) : FnG P w K mg base 4 f fd ["n", "thing"] c_is_lot_value :=
  fng_mk F sc_is_lot_value len_is_lot_value (fun cdv A outer s H hr hg =>
  (jss_one (js_ret (je_and (je_cal C_are_between (hr.mono (by decide)) hg (ja_cons (je_var 1) (ja_cons je_int (ja_cons (je_op j_sub (je_var 0) je_int) ja_nil)))) (je_one (je_cal C_is_ascending (hr.mono (by decide)) hg (ja_cons (je_var 1) ja_nil))))))) spec_is_lot_value
theorem fn_raw_lot_chance (B : Bi mg) (C_total : Cal P w K mg base 4 "total" ["some"] kw_total c_total) {f : Addr} {fd : FuncData} (F : Fun K "raw_lot_chance" "raw_lot_chance" s_raw_lot_chance f fd) : FnG P w K mg base 5 f fd ["table", "lot"] c_raw_lot_chance :=
  fng_mk F sc_raw_lot_chance len_raw_lot_chance (fun cdv A outer s H hr hg =>
  (jss_one (js_ret (je_cal C_total (hr.mono (by decide)) hg (ja_cons (je_lc rfl sc_raw_lot_chance.nd (ji_any (je_var 1)) (blkOk_by (N := N_raw_lot_chance) (sc := defScope s_raw_lot_chance) (own := [("i", 2)]) (by decide +kernel)) own_name (fun _ _ _ _ _ => (pg_name (i := 2) sc_raw_lot_chance.nd rfl (Or.inl rfl))) (fun _ _ _ _ _ => jts_nil) (fun _ _ _ _ _ => (je_ix j_ix (je_var 0) (je_var 2)))) ja_nil))))) spec_raw_lot_chance
theorem fn_near_holds (B : Bi mg) (C_need_near : Cal P w K mg base 8 "need_near" ["table", "other", "fraction"] kw_need_near c_need_near) (C_is_exactly : Cal P w K mg base 1 "is_exactly" ["thing", "due"] kw_is_exactly c_is_exactly) (C_is_at_most : Cal P w K mg base 1 "is_at_most" ["one", "other"] kw_is_at_most c_is_at_most) (C_raw_distance : Cal P w K mg base 5 "raw_distance" ["table", "other"] kw_raw_distance c_raw_distance) (C_is_word : Cal P w K mg base 1 "is_word" ["thing", "word"] kw_is_word c_is_word) (C_is_lot_value : Cal P w K mg base 4 "is_lot_value" ["n", "thing"] kw_is_lot_value c_is_lot_value) (C_is_less : Cal P w K mg base 1 "is_less" ["one", "other"] kw_is_less c_is_less) (C_gap : Cal P w K mg base 4 "gap" ["one", "other"] kw_gap c_gap) (C_raw_lot_chance : Cal P w K mg base 5 "raw_lot_chance" ["table", "lot"] kw_raw_lot_chance c_raw_lot_chance) {f : Addr} {fd : FuncData} (F : Fun K "near_holds" "near_holds" s_near_holds f fd) : FnG P w K mg base 9 f fd ["table", "other", "fraction", "thing"] c_near_holds :=
  fng_mk F sc_near_holds len_near_holds (fun cdv A outer s H hr hg =>
  (jss_cons (js_expr (je_cal C_need_near (hr.mono (by decide)) hg (ja_cons (je_var 0) (ja_cons (je_var 1) (ja_cons (je_var 2) ja_nil)))))
  (jss_cons (js_if (jt_val (je_cal C_is_exactly (hr.mono (by decide)) hg (ja_cons (je_var 3) (ja_cons (je_tup (ja_cons je_str ja_nil)) ja_nil)))) (jss_one (js_ret (je_cal C_is_at_most (hr.mono (by decide)) hg (ja_cons (je_cal C_raw_distance (hr.mono (by decide)) hg (ja_cons (je_var 0) (ja_cons (je_var 1) ja_nil))) (ja_cons (je_var 2) ja_nil))))) jss_nil)
  (jss_cons (js_if (jt_of (jw_or (jt_not (jt_val (je_cal C_is_word (hr.mono (by decide)) hg (ja_cons (je_var 3) (ja_cons je_str ja_nil))))) (jw_or (jt_cmp (j_ne hr.units) (je_callB c_len (by rfl) B.n_len bb_len (ja_cons (je_var 3) ja_nil)) je_int) (jw_or1 (jt_not (jt_val (je_cal C_is_lot_value (hr.mono (by decide)) hg (ja_cons (je_callB c_len (by rfl) B.n_len bb_len (ja_cons (je_var 0) ja_nil)) (ja_cons (je_ix j_ix (je_var 3) je_int) ja_nil))))))))) (jss_one (js_ret je_bl)) jss_nil)
  (jss_one (js_ret (je_cal C_is_less (hr.mono (by decide)) hg (ja_cons (je_var 2) (ja_cons (je_cal C_gap (hr.mono (by decide)) hg (ja_cons (je_cal C_raw_lot_chance (hr.mono (by decide)) hg (ja_cons (je_var 0) (ja_cons (je_ix j_ix (je_var 3) je_int) ja_nil))) (ja_cons (je_cal C_raw_lot_chance (hr.mono (by decide)) hg (ja_cons (je_var 1) (ja_cons (je_ix j_ix (je_var 3) je_int) ja_nil))) ja_nil))) ja_nil))))))))) spec_near_holds
theorem fn_l_is_integer (B : Bi mg) {f : Addr} {fd : FuncData} (F : Fun K "_law_is_integer" "_law_is_integer" s_l_is_integer f fd) : FnG P w K mg base 1 f fd ["_law_thing"] c_l_is_integer :=
  fng_mk F sc_l_is_integer len_l_is_integer (fun cdv A outer s H hr hg =>
  (jss_one (js_ret (je_and (je_callB c_isi (by rfl) B.n_isinstance bb_isinstance (ja_cons (je_var 0) (ja_cons (je_ty (by rfl) B.n_int bt_int) ja_nil))) (je_one (je_not (je_callB c_isi (by rfl) B.n_isinstance bb_isinstance (ja_cons (je_var 0) (ja_cons (je_ty (by rfl) B.n_bool bt_bool) ja_nil))))))))) spec_l_is_integer
theorem fn_l_is_lot (B : Bi mg) (C_l_is_integer : Cal P w K mg base 1 "_law_is_integer" ["_law_thing"] kw_l_is_integer c_l_is_integer) {f : Addr} {fd : FuncData} (F : Fun K "_law_is_lot" "_law_is_lot" s_l_is_lot f fd) : FnG P w K mg base 2 f fd ["_law_n", "_law_thing"] c_l_is_lot :=
  fng_mk F sc_l_is_lot len_l_is_lot (fun cdv A outer s H hr hg =>
  (jss_cons (js_if (jt_of (jw_or (jt_not (jt_val (je_callB c_isi (by rfl) B.n_isinstance bb_isinstance (ja_cons (je_var 1) (ja_cons (je_ty (by rfl) B.n_tuple bt_tuple) ja_nil))))) (jw_or1 (jt_cmp (j_ne hr.units) (je_lc rfl sc_l_is_lot.nd (ji_any (je_var 1)) (blkOk_by (N := N_l_is_lot) (sc := defScope s_l_is_lot) (own := [("_law_it", 2)]) (by decide +kernel)) own_name (fun _ _ _ _ _ => (pg_name (i := 2) sc_l_is_lot.nd rfl (Or.inl rfl))) (fun _ _ _ _ _ => (jts_one (jt_of (jw_or (jt_not (jt_val (je_cal C_l_is_integer (hr.mono (by decide)) hg (ja_cons (je_var 2) ja_nil)))) (jw_or1 (jt_not (jt_chain j_le j_lt je_int (je_var 2) (je_var 0)))))))) (fun _ _ _ _ _ => je_int)) (je_rol ja_nil))))) (jss_one (js_ret je_bl)) jss_nil)
  (jss_one (js_ret (je_cmp (j_eq hr.units) (je_callTy c_listOf (by rfl) B.n_list bt_list (ja_cons (je_var 1) ja_nil)) (je_sortSet rfl (by rfl) B.n_sorted (by rfl) B.n_set (je_var 1))))))) spec_l_is_lot
theorem fn_l_is_judged (B : Bi mg) (C_judge_near : Cal P w K mg base 9 "judge_near" ["table", "other", "fraction"] kw_judge_near c_judge_near) (C_l_draw : Cal P w K mg base 1 "_law_draw" ["_law_deck_here", "_law_many"] kw_l_draw c_l_draw) (C_l_is_above : Cal P w K mg base 1 "_law_is_above" ["_law_one", "_law_other_here"] kw_l_is_above c_l_is_above) (C_l_apart : Cal P w K mg base 4 "_law_apart" ["_law_one", "_law_other_here"] kw_l_apart c_l_apart) (C_near_holds : Cal P w K mg base 9 "near_holds" ["table", "other", "fraction", "thing"] kw_near_holds c_near_holds) (C_l_is_lot : Cal P w K mg base 2 "_law_is_lot" ["_law_n", "_law_thing"] kw_l_is_lot c_l_is_lot) (C_l_lot_apart : Cal P w K mg base 5 "_law_lot_apart" ["_law_one", "_law_other_here", "_law_lot_here"] kw_l_lot_apart c_l_lot_apart) {f : Addr} {fd : FuncData} (F : Fun K "_law_is_judged" "_law_is_judged" s_l_is_judged f fd) : FnG P w K mg base 10 f fd ["_law_deck_here", "_law_one", "_law_other_here", "_law_fraction_here"] c_l_is_judged :=
  fng_mk F sc_l_is_judged len_l_is_judged (fun cdv A outer s H hr hg =>
  (jss_cons (js_set 4 sc_l_is_judged.nd (je_cal C_judge_near (hr.mono (by decide)) hg (ja_cons (je_var 1) (ja_cons (je_var 2) (ja_cons (je_var 3) ja_nil)))))
  (jss_cons (js_if (jt_cmp (j_eq hr.units) (je_cal C_l_draw (hr.mono (by decide)) hg (ja_cons (je_var 0) (ja_cons je_int ja_nil))) je_int) (jss_one (js_set 4 sc_l_is_judged.nd (je_calK0 C_judge_near (hr.mono (by decide)) hg (kx := 0) (jk_cons (je_var 3) (jk_cons (je_var 2) (jk_cons (je_var 1) jk_nil)))))) jss_nil)
  (jss_cons (js_if (jt_not (jt_val (je_cal C_l_is_above (hr.mono (by decide)) hg (ja_cons (je_cal C_l_apart (hr.mono (by decide)) hg (ja_cons (je_var 1) (ja_cons (je_var 2) ja_nil))) (ja_cons (je_var 3) ja_nil))))) (jss_one (js_ret (je_and (je_cmp (j_eq hr.units) (je_callB (c_repr hg (un66 hr)) (by rfl) B.n_repr bb_repr (ja_cons (je_var 4) ja_nil)) (je_callB (c_repr hg (un66 hr)) (by rfl) B.n_repr bb_repr (ja_cons (je_tup (ja_cons je_str ja_nil)) ja_nil))) (je_one (je_cmp j_isB (je_cal C_near_holds (hr.mono (by decide)) hg (ja_cons (je_var 1) (ja_cons (je_var 2) (ja_cons (je_var 3) (ja_cons (je_var 4) ja_nil))))) je_bl))))) jss_nil)
  (jss_cons (js_if (jt_of (jw_or (jt_not (jt_val (je_callB c_isi (by rfl) B.n_isinstance bb_isinstance (ja_cons (je_var 4) (ja_cons (je_ty (by rfl) B.n_tuple bt_tuple) ja_nil))))) (jw_or (jt_cmp (j_ne hr.units) (je_callB c_len (by rfl) B.n_len bb_len (ja_cons (je_var 4) ja_nil)) je_int) (jw_or (jt_cmp (j_ne hr.units) (je_ix j_ix (je_var 4) je_int) je_str) (jw_or1 (jt_not (jt_val (je_cal C_l_is_lot (hr.mono (by decide)) hg (ja_cons (je_callB c_len (by rfl) B.n_len bb_len (ja_cons (je_var 1) ja_nil)) (ja_cons (je_ix j_ix (je_var 4) je_int) ja_nil)))))))))) (jss_one (js_ret je_bl)) jss_nil)
  (jss_cons (js_if (jt_not (jt_val (je_cal C_l_is_above (hr.mono (by decide)) hg (ja_cons (je_cal C_l_lot_apart (hr.mono (by decide)) hg (ja_cons (je_var 1) (ja_cons (je_var 2) (ja_cons (je_ix j_ix (je_var 4) je_int) ja_nil)))) (ja_cons (je_var 3) ja_nil))))) (jss_one (js_ret je_bl)) jss_nil)
  (jss_one (js_ret (je_cmp j_isB (je_calK0 C_near_holds (hr.mono (by decide)) hg (kx := 0) (jk_cons (je_var 4) (jk_cons (je_var 3) (jk_cons (je_var 2) (jk_cons (je_var 1) jk_nil))))) je_bl))))))))) spec_l_is_judged
theorem fn_l_names (B : Bi mg) (C_l_pick : Cal P w K mg base 2 "_law_pick" ["_law_deck_here", "_law_some"] kw_l_pick c_l_pick) (C_l_draw : Cal P w K mg base 1 "_law_draw" ["_law_deck_here", "_law_many"] kw_l_draw c_l_draw) {f : Addr} {fd : FuncData} (F : Fun K "_law_names" "_law_names" s_l_names f fd) : FnG P w K mg base 3 f fd ["_law_deck_here", "_law_n"] c_l_names :=
  fng_mk F sc_l_names len_l_names (fun cdv A outer s H hr hg =>
  (jss_cons (js_set 2 sc_l_names.nd (je_cal C_l_pick (hr.mono (by decide)) hg (ja_cons (je_var 0) (ja_cons (je_rol (ja_cons je_int (ja_cons je_int (ja_cons (je_var 1) (ja_cons je_int (ja_cons je_int ja_nil)))))) ja_nil))))
  (jss_one (js_ret (je_callTy c_tupOf (by rfl) B.n_tuple bt_tuple (ja_cons (je_lc rfl sc_l_names.nd (ji_range1 (by rfl) B.n_range (ja_cons (je_var 1) ja_nil)) (blkOk_by (N := N_l_names) (sc := defScope s_l_names) (own := [("_law_i", 3)]) (by decide +kernel)) own_name (fun _ _ _ _ _ => (pg_name (i := 3) sc_l_names.nd rfl (Or.inl rfl))) (fun _ _ _ _ _ => jts_nil) (fun _ _ _ _ _ => (je_cal C_l_draw (hr.mono (by decide)) hg (ja_cons (je_var 0) (ja_cons (je_var 2) ja_nil))))) ja_nil)))))) spec_l_names
theorem fn_raw_renamed (B : Bi mg) (C_total : Cal P w K mg base 4 "total" ["some"] kw_total c_total) {f : Addr} {fd : FuncData} (F : Fun K "raw_renamed" "raw_renamed" s_raw_renamed f fd) : FnG P w K mg base 5 f fd ["table", "names", "many"] c_raw_renamed :=
  fng_mk F sc_raw_renamed len_raw_renamed (fun cdv A outer s H hr hg =>
  (jss_one (js_ret (je_callTy c_tupOf (by rfl) B.n_tuple bt_tuple (ja_cons (je_lc rfl sc_raw_renamed.nd (ji_range1 (by rfl) B.n_range (ja_cons (je_var 2) ja_nil)) (blkOk_by (N := N_raw_renamed) (sc := defScope s_raw_renamed) (own := [("i", 3)]) (by decide +kernel)) own_name (fun _ _ _ _ _ => (pg_name (i := 3) sc_raw_renamed.nd rfl (Or.inr rfl))) (fun _ _ _ _ _ => jts_nil) (fun _ _ _ _ _ => (je_cal C_total (hr.mono (by decide)) hg (ja_cons (je_lc rfl sc_raw_renamed.nd (ji_zip (by rfl) B.n_zip (ja_cons (je_var 0) (ja_cons (je_var 1) ja_nil))) (blkOk_by (own := [("chance", 4), ("name", 5)]) (by exact rfl)) (own_tup (own_cons (own_cons own_nil))) (fun _ _ _ _ _ => (pg_tup rfl (pgs_cons (pg_name (i := 4) sc_raw_renamed.nd rfl (Or.inl rfl)) (pgs_cons (pg_name (i := 5) sc_raw_renamed.nd rfl (Or.inl rfl)) pgs_nil)))) (fun _ _ _ _ _ => (jts_one (jt_cmp (j_eq hr.units) (je_var 5) (je_var 3)))) (fun _ _ _ _ _ => (je_var 4))) ja_nil)))) ja_nil))))) spec_raw_renamed
theorem fn_renamed (B : Bi mg) (C_need_table : Cal P w K mg base 6 "need_table" ["table"] kw_need_table c_need_table) (C_are_between : Cal P w K mg base 3 "are_between" ["thing", "least", "most"] kw_are_between c_are_between) (C_raw_renamed : Cal P w K mg base 5 "raw_renamed" ["table", "names", "many"] kw_raw_renamed c_raw_renamed) (k_MOST_OUTCOMES : KInt mg "MOST_OUTCOMES" 8) {f : Addr} {fd : FuncData} (F : Fun K "renamed" "renamed" s_renamed f fd) : FnG P w K mg base 7 f fd ["table", "names"] c_renamed :=
  fng_mk F sc_renamed len_renamed (fun cdv A outer s H hr hg =>
  (jss_cons (js_expr (je_cal C_need_table (hr.mono (by decide)) hg (ja_cons (je_var 0) ja_nil)))
  (jss_cons (js_if (jt_of (jw_or (jt_not (jt_val (je_cal C_are_between (hr.mono (by decide)) hg (ja_cons (je_var 1) (ja_cons je_int (ja_cons (je_op j_sub (je_kint k_MOST_OUTCOMES) je_int) ja_nil)))))) (jw_or1 (jt_cmp (j_ne hr.units) (je_callB c_len (by rfl) B.n_len bb_len (ja_cons (je_var 1) ja_nil)) (je_callB c_len (by rfl) B.n_len bb_len (ja_cons (je_var 0) ja_nil)))))) (jss_one js_never) jss_nil)
  (jss_one (js_ret (je_cal C_raw_renamed (hr.mono (by decide)) hg (ja_cons (je_var 0) (ja_cons (je_var 1) (ja_cons (je_op j_add (je_callB (c_maxU rfl) (by rfl) B.n_max bb_max (ja_cons (je_var 1) ja_nil)) je_int) ja_nil))))))))) spec_renamed
theorem fn_raw_mixed (B : Bi mg) (C_total : Cal P w K mg base 4 "total" ["some"] kw_total c_total) (C_times : Cal P w K mg base 3 "times" ["one", "other"] kw_times c_times) {f : Addr} {fd : FuncData} (F : Fun K "raw_mixed" "raw_mixed" s_raw_mixed f fd) : FnG P w K mg base 5 f fd ["table", "tables"] c_raw_mixed :=
  fng_mk F sc_raw_mixed len_raw_mixed (fun cdv A outer s H hr hg =>
  (jss_cons (js_set 2 sc_raw_mixed.nd (je_lst ja_nil))
  (jss_cons (js_for PassesOwn.never rfl (ji_range1 (by rfl) B.n_range (ja_cons (je_callB c_len (by rfl) B.n_len bb_len (ja_cons (je_ix j_ix (je_var 1) je_int) ja_nil)) ja_nil)) (jg_name 3 sc_raw_mixed.nd) (jss_one (js_expr (je_m PySem.F.slot_list_append PySem.F.type_list_append m_append (je_var 2) (ja_cons (je_cal C_total (hr.mono (by decide)) hg (ja_cons (je_lc rfl sc_raw_mixed.nd (ji_zip (by rfl) B.n_zip (ja_cons (je_var 0) (ja_cons (je_var 1) ja_nil))) (blkOk_by (N := N_raw_mixed) (sc := defScope s_raw_mixed) (own := [("chance", 4), ("part", 5)]) (by decide +kernel)) (own_tup (own_cons (own_cons own_nil))) (fun _ _ _ _ _ => (pg_tup rfl (pgs_cons (pg_name (i := 4) sc_raw_mixed.nd rfl (Or.inl rfl)) (pgs_cons (pg_name (i := 5) sc_raw_mixed.nd rfl (Or.inl rfl)) pgs_nil)))) (fun _ _ _ _ _ => jts_nil) (fun _ _ _ _ _ => (je_cal C_times (hr.mono (by decide)) hg (ja_cons (je_var 4) (ja_cons (je_ix j_ix (je_var 5) (je_var 3)) ja_nil))))) ja_nil)) ja_nil)))))
  (jss_one (js_ret (je_callTy c_tupOf (by rfl) B.n_tuple bt_tuple (ja_cons (je_var 2) ja_nil))))))) spec_raw_mixed
theorem fn_mixed (B : Bi mg) (C_need_table : Cal P w K mg base 6 "need_table" ["table"] kw_need_table c_need_table) (C_is_table_value : Cal P w K mg base 5 "is_table_value" ["thing"] kw_is_table_value c_is_table_value) (C_raw_mixed : Cal P w K mg base 5 "raw_mixed" ["table", "tables"] kw_raw_mixed c_raw_mixed) {f : Addr} {fd : FuncData} (F : Fun K "mixed" "mixed" s_mixed f fd) : FnG P w K mg base 7 f fd ["table", "tables"] c_mixed :=
  fng_mk F sc_mixed len_mixed (fun cdv A outer s H hr hg =>
  (jss_cons (js_expr (je_cal C_need_table (hr.mono (by decide)) hg (ja_cons (je_var 0) ja_nil)))
  (jss_cons (js_if (jt_of (jw_or (jt_not (jt_val (je_callB c_isi (by rfl) B.n_isinstance bb_isinstance (ja_cons (je_var 1) (ja_cons (je_ty (by rfl) B.n_tuple bt_tuple) ja_nil))))) (jw_or1 (jt_not (jt_val (je_callB (c_all rfl) (by rfl) B.n_all bb_all (ja_cons (je_lc rfl sc_mixed.nd (ji_any (je_var 1)) (blkOk_by (N := N_mixed) (sc := defScope s_mixed) (own := [("part", 2)]) (by decide +kernel)) own_name (fun _ _ _ _ _ => (pg_name (i := 2) sc_mixed.nd rfl (Or.inl rfl))) (fun _ _ _ _ _ => jts_nil) (fun _ _ _ _ _ => (je_cal C_is_table_value (hr.mono (by decide)) hg (ja_cons (je_var 2) ja_nil)))) ja_nil))))))) (jss_one js_never) jss_nil)
  (jss_cons (js_for PassesOwn.never rfl (ji_any (je_var 1)) (jg_name 2 sc_mixed.nd) (jss_one (js_if (jt_cmp (j_ne hr.units) (je_callB c_len (by rfl) B.n_len bb_len (ja_cons (je_var 2) ja_nil)) (je_callB c_len (by rfl) B.n_len bb_len (ja_cons (je_ix j_ix (je_var 1) je_int) ja_nil))) (jss_one js_never) jss_nil)))
  (jss_cons (js_if (jt_cmp (j_ne hr.units) (je_callB c_len (by rfl) B.n_len bb_len (ja_cons (je_var 1) ja_nil)) (je_callB c_len (by rfl) B.n_len bb_len (ja_cons (je_var 0) ja_nil))) (jss_one js_never) jss_nil)
  (jss_one (js_ret (je_cal C_raw_mixed (hr.mono (by decide)) hg (ja_cons (je_var 0) (ja_cons (je_var 1) ja_nil)))))))))) spec_mixed
theorem fn_beside (B : Bi mg) (C_need_table : Cal P w K mg base 6 "need_table" ["table"] kw_need_table c_need_table) (C_times : Cal P w K mg base 3 "times" ["one", "other"] kw_times c_times) (k_MOST_OUTCOMES : KInt mg "MOST_OUTCOMES" 8) {f : Addr} {fd : FuncData} (F : Fun K "beside" "beside" s_beside f fd) : FnG P w K mg base 7 f fd ["table", "other"] c_beside :=
  fng_mk F sc_beside len_beside (fun cdv A outer s H hr hg =>
  (jss_cons (js_expr (je_cal C_need_table (hr.mono (by decide)) hg (ja_cons (je_var 0) ja_nil)))
  (jss_cons (js_expr (je_cal C_need_table (hr.mono (by decide)) hg (ja_cons (je_var 1) ja_nil)))
  (jss_cons (js_if (jt_cmp j_gt (je_op j_mul (je_callB c_len (by rfl) B.n_len bb_len (ja_cons (je_var 0) ja_nil)) (je_callB c_len (by rfl) B.n_len bb_len (ja_cons (je_var 1) ja_nil))) (je_kint k_MOST_OUTCOMES)) (jss_one js_never) jss_nil)
  (jss_one (js_ret (je_callTy c_tupOf (by rfl) B.n_tuple bt_tuple (ja_cons (je_lc2 [3] rfl sc_beside.nd (ji_any (je_var 0)) (blkOk_by (N := N_beside) (sc := defScope s_beside) (own := [("one", 2), ("chance", 3)]) (by decide +kernel)) (by decide) own_name own_name (fun _ _ _ _ _ => (pg_name (i := 2) sc_beside.nd rfl (Or.inl rfl))) (fun _ _ _ _ _ => jts_nil) (fun _ _ _ _ _ => (ji_any (je_var 1))) (fun _ _ _ _ _ => (pg_name (i := 3) sc_beside.nd rfl (Or.inl rfl))) (fun _ _ _ _ _ => jts_nil) (fun _ _ _ _ _ => (je_cal C_times (hr.mono (by decide)) hg (ja_cons (je_var 2) (ja_cons (je_var 3) ja_nil))))) ja_nil)))))))) spec_beside
theorem fn_law (B : Bi mg) (C_l_deck : Cal P w K mg base 1 "_law_deck" ["_law_script", "_law_number"] kw_l_deck c_l_deck) (C_l_some_table : Cal P w K mg base 5 "_law_some_table" ["_law_deck_here"] kw_l_some_table c_l_some_table) (C_l_table : Cal P w K mg base 4 "_law_table" ["_law_deck_here", "_law_n", "_law_way"] kw_l_table c_l_table) (C_l_other : Cal P w K mg base 5 "_law_other" ["_law_deck_here", "_law_table_here"] kw_l_other c_l_other) (C_l_apart : Cal P w K mg base 4 "_law_apart" ["_law_one", "_law_other_here"] kw_l_apart c_l_apart) (C_distance : Cal P w K mg base 8 "distance" ["table", "other"] kw_distance c_distance) (C_l_is_above : Cal P w K mg base 1 "_law_is_above" ["_law_one", "_law_other_here"] kw_l_is_above c_l_is_above) (C_l_sum : Cal P w K mg base 3 "_law_sum" ["_law_some"] kw_l_sum c_l_sum) (C_l_lot : Cal P w K mg base 2 "_law_lot" ["_law_deck_here", "_law_n"] kw_l_lot c_l_lot) (C_l_lot_apart : Cal P w K mg base 5 "_law_lot_apart" ["_law_one", "_law_other_here", "_law_lot_here"] kw_l_lot_apart c_l_lot_apart) (C_l_less : Cal P w K mg base 3 "_law_less" ["_law_one", "_law_other_here"] kw_l_less c_l_less) (C_l_times : Cal P w K mg base 3 "_law_times" ["_law_one", "_law_other_here"] kw_l_times c_l_times) (C_l_pick_2 : Cal P w K mg base 2 "_law_pick" ["_law_deck_here", "_law_some"] kw_l_pick_2 c_l_pick_2) (C_l_is_judged : Cal P w K mg base 10 "_law_is_judged" ["_law_deck_here", "_law_one", "_law_other_here", "_law_fraction_here"] kw_l_is_judged c_l_is_judged) (C_l_names : Cal P w K mg base 3 "_law_names" ["_law_deck_here", "_law_n"] kw_l_names c_l_names) (C_renamed : Cal P w K mg base 7 "renamed" ["table", "names"] kw_renamed c_renamed) (C_mixed : Cal P w K mg base 7 "mixed" ["table", "tables"] kw_mixed c_mixed) (C_beside : Cal P w K mg base 7 "beside" ["table", "other"] kw_beside c_beside) {f : Addr} {fd : FuncData} (F : Fun K "law" "law" s_law f fd) : FnG P w K mg base 11 f fd ["_law_script"] c_law :=
  fng_mk F sc_law len_law (fun cdv A outer s H hr hg =>
  (jss_cons (js_set 1 sc_law.nd (je_cal C_l_deck (hr.mono (by decide)) hg (ja_cons (je_var 0) (ja_cons je_int ja_nil))))
  (jss_cons (js_set 2 sc_law.nd (je_cal C_l_some_table (hr.mono (by decide)) hg (ja_cons (je_var 1) ja_nil)))
  (jss_cons (js_asg (je_tup (ja_cons (je_callB c_len (by rfl) B.n_len bb_len (ja_cons (je_var 2) ja_nil)) (ja_cons (je_cal C_l_other (hr.mono (by decide)) hg (ja_cons (je_var 1) (ja_cons (je_var 2) ja_nil))) (ja_cons (je_cal C_l_table (hr.mono (by decide)) hg (ja_cons (je_var 1) (ja_cons (je_callB c_len (by rfl) B.n_len bb_len (ja_cons (je_var 2) ja_nil)) (ja_cons je_int ja_nil)))) ja_nil)))) (jg_tup rfl (jgs_cons (jg_name 3 sc_law.nd) (jgs_cons (jg_name 4 sc_law.nd) (jgs_cons (jg_name 5 sc_law.nd) jgs_nil)))))
  (jss_cons (js_set 6 sc_law.nd (je_cal C_l_apart (hr.mono (by decide)) hg (ja_cons (je_var 2) (ja_cons (je_var 4) ja_nil))))
  (jss_cons (js_if (jt_cmp (j_ne hr.units) (je_callB (c_repr hg (un66 hr)) (by rfl) B.n_repr bb_repr (ja_cons (je_rol (ja_cons (je_cal C_distance (hr.mono (by decide)) hg (ja_cons (je_var 2) (ja_cons (je_var 4) ja_nil))) (ja_cons (je_calK0 C_distance (hr.mono (by decide)) hg (kx := 0) (jk_cons (je_var 2) (jk_cons (je_var 4) jk_nil))) ja_nil))) ja_nil)) (je_callB (c_repr hg (un66 hr)) (by rfl) B.n_repr bb_repr (ja_cons (je_rol (ja_cons (je_var 6) (ja_cons (je_var 6) ja_nil))) ja_nil))) (jss_one (js_ret je_bl)) jss_nil)
  (jss_cons (js_if (jt_of (jw_or (jt_cmp (j_ne hr.units) (je_cmp (j_eq hr.units) (je_var 6) (je_tup (ja_cons je_int (ja_cons je_int ja_nil)))) (je_cmp (j_eq hr.units) (je_var 2) (je_var 4))) (jw_or1 (jt_val (je_cal C_l_is_above (hr.mono (by decide)) hg (ja_cons (je_var 6) (ja_cons (je_tup (ja_cons je_int (ja_cons je_int ja_nil))) ja_nil))))))) (jss_one (js_ret je_bl)) jss_nil)
  (jss_cons (js_if (jt_val (je_cal C_l_is_above (hr.mono (by decide)) hg (ja_cons (je_var 6) (ja_cons (je_cal C_l_sum (hr.mono (by decide)) hg (ja_cons (je_rol (ja_cons (je_cal C_distance (hr.mono (by decide)) hg (ja_cons (je_var 2) (ja_cons (je_var 5) ja_nil))) (ja_cons (je_cal C_distance (hr.mono (by decide)) hg (ja_cons (je_var 5) (ja_cons (je_var 4) ja_nil))) ja_nil))) ja_nil)) ja_nil)))) (jss_one (js_ret je_bl)) jss_nil)
  (jss_cons (js_set 7 sc_law.nd (je_callTy c_tupOf (by rfl) B.n_tuple bt_tuple (ja_cons (je_lc rfl sc_law.nd (ji_range1 (by rfl) B.n_range (ja_cons (je_var 3) ja_nil)) (blkOk_by (N := N_law) (sc := defScope s_law) (own := [("_law_i", 14)]) (by decide +kernel)) own_name (fun _ _ _ _ _ => (pg_name (i := 14) sc_law.nd rfl (Or.inl rfl))) (fun _ _ _ _ _ => (jts_one (jt_val (je_cal C_l_is_above (hr.mono (by decide)) hg (ja_cons (je_ix j_ix (je_var 2) (je_var 14)) (ja_cons (je_ix j_ix (je_var 4) (je_var 14)) ja_nil)))))) (fun _ _ _ _ _ => (je_var 14))) ja_nil)))
  (jss_cons (js_set 8 sc_law.nd (je_cal C_l_lot (hr.mono (by decide)) hg (ja_cons (je_var 1) (ja_cons (je_var 3) ja_nil))))
  (jss_cons (js_if (jt_of (jw_or (jt_cmp (j_ne hr.units) (je_cal C_l_lot_apart (hr.mono (by decide)) hg (ja_cons (je_var 2) (ja_cons (je_var 4) (ja_cons (je_var 7) ja_nil)))) (je_var 6)) (jw_or1 (jt_val (je_cal C_l_is_above (hr.mono (by decide)) hg (ja_cons (je_cal C_l_lot_apart (hr.mono (by decide)) hg (ja_cons (je_var 2) (ja_cons (je_var 4) (ja_cons (je_var 8) ja_nil)))) (ja_cons (je_var 6) ja_nil))))))) (jss_one (js_ret je_bl)) jss_nil)
  (jss_cons (js_set 9 sc_law.nd (je_tup (ja_cons je_int (ja_cons (je_op j_pow je_int je_int) ja_nil))))
  (jss_cons (js_set 10 sc_law.nd (je_lst (ja_cons (je_var 6) (ja_cons (je_tup (ja_cons je_int (ja_cons je_int ja_nil))) (ja_cons (je_tup (ja_cons je_int (ja_cons je_int ja_nil))) (ja_cons (je_cal C_l_sum (hr.mono (by decide)) hg (ja_cons (je_rol (ja_cons (je_var 6) (ja_cons (je_var 9) ja_nil))) ja_nil)) (ja_cons (je_tup (ja_cons je_int (ja_cons je_int ja_nil))) (ja_cons (je_tup (ja_cons je_int (ja_cons je_int ja_nil))) (ja_cons (je_cal C_l_lot_apart (hr.mono (by decide)) hg (ja_cons (je_var 2) (ja_cons (je_var 5) (ja_cons (je_var 8) ja_nil)))) (ja_cons (je_tup (ja_cons je_int (ja_cons je_int ja_nil))) ja_nil))))))))))
  (jss_cons (js_if (jt_cmp (j_ne hr.units) (je_var 6) (je_tup (ja_cons je_int (ja_cons je_int ja_nil)))) (jss_one (js_expr (je_m PySem.F.slot_list_append PySem.F.type_list_append m_append (je_var 10) (ja_cons (je_cal C_l_less (hr.mono (by decide)) hg (ja_cons (je_var 6) (ja_cons (je_cal C_l_times (hr.mono (by decide)) hg (ja_cons (je_var 6) (ja_cons (je_var 9) ja_nil))) ja_nil))) ja_nil)))) jss_nil)
  (jss_cons (js_for PassesOwn.never rfl (ji_any (je_rol (ja_cons (je_var 6) (ja_cons (je_ix j_ix (je_var 10) (je_neg je_int)) (ja_cons (je_cal C_l_pick_2 (hr.mono (by decide)) hg (ja_cons (je_var 1) (ja_cons (je_var 10) ja_nil))) (ja_cons (je_cal C_l_pick_2 (hr.mono (by decide)) hg (ja_cons (je_var 1) (ja_cons (je_var 10) ja_nil))) ja_nil)))))) (jg_name 11 sc_law.nd) (jss_one (js_if (jt_not (jt_val (je_cal C_l_is_judged (hr.mono (by decide)) hg (ja_cons (je_var 1) (ja_cons (je_var 2) (ja_cons (je_var 4) (ja_cons (je_var 11) ja_nil))))))) (jss_one (js_ret je_bl)) jss_nil)))
  (jss_cons (js_par2 12 13 rfl sc_law.nd (ja_cons (je_cal C_l_names (hr.mono (by decide)) hg (ja_cons (je_var 1) (ja_cons (je_var 3) ja_nil))) (ja_cons (je_tup (ja_cons (je_tup (ja_cons je_int (ja_cons je_int ja_nil))) (ja_cons (je_tup (ja_cons je_int (ja_cons je_int ja_nil))) ja_nil))) ja_nil)))
  (jss_cons (js_if (jt_val (je_cal C_l_is_above (hr.mono (by decide)) hg (ja_cons (je_cal C_distance (hr.mono (by decide)) hg (ja_cons (je_cal C_renamed (hr.mono (by decide)) hg (ja_cons (je_var 2) (ja_cons (je_var 12) ja_nil))) (ja_cons (je_cal C_renamed (hr.mono (by decide)) hg (ja_cons (je_var 4) (ja_cons (je_var 12) ja_nil))) ja_nil))) (ja_cons (je_var 6) ja_nil)))) (jss_one (js_ret je_bl)) jss_nil)
  (jss_cons (js_if (jt_cmp (j_ne hr.units) (je_callB (c_repr hg (un66 hr)) (by rfl) B.n_repr bb_repr (ja_cons (je_cal C_distance (hr.mono (by decide)) hg (ja_cons (je_cal C_mixed (hr.mono (by decide)) hg (ja_cons (je_var 13) (ja_cons (je_tup (ja_cons (je_var 2) (ja_cons (je_var 5) ja_nil))) ja_nil))) (ja_cons (je_cal C_mixed (hr.mono (by decide)) hg (ja_cons (je_var 13) (ja_cons (je_tup (ja_cons (je_var 4) (ja_cons (je_var 5) ja_nil))) ja_nil))) ja_nil))) ja_nil)) (je_callB (c_repr hg (un66 hr)) (by rfl) B.n_repr bb_repr (ja_cons (je_cal C_l_times (hr.mono (by decide)) hg (ja_cons (je_var 6) (ja_cons (je_tup (ja_cons je_int (ja_cons je_int ja_nil))) ja_nil))) ja_nil))) (jss_one (js_ret je_bl)) jss_nil)
  (jss_one (js_ret (je_or (je_cmp j_gt (je_var 3) je_int) (je_one (je_cmp (j_eq hr.units) (je_callB (c_repr hg (un66 hr)) (by rfl) B.n_repr bb_repr (ja_cons (je_cal C_distance (hr.mono (by decide)) hg (ja_cons (je_cal C_beside (hr.mono (by decide)) hg (ja_cons (je_var 2) (ja_cons (je_var 13) ja_nil))) (ja_cons (je_cal C_beside (hr.mono (by decide)) hg (ja_cons (je_var 4) (ja_cons (je_var 13) ja_nil))) ja_nil))) ja_nil)) (je_callB (c_repr hg (un66 hr)) (by rfl) B.n_repr bb_repr (ja_cons (je_var 6) ja_nil))))))))))))))))))))))))) spec_law
end
theorem all_mk {l : PySem.W.OpenLaw} {w : World} {K : PySem.W.Frag} {h : Heap} {mg : Str → Option Value} {fa : Addr} (X : K.In h) (G : h.Ns mainGlobals mg) (hfa : mg "law" = some (.ref fa))
    {f0 : Addr} {od0 an0 : Option Addr} {sl0 : Array (Option Value)} {oc0 kV0 dc0 pm0 cd0 ct0 : Value}
    (a0 : PySem.W.nsIn K mainGlobals "_law_deck" = some (some (.ref f0))) (l0 : K.lookup f0 = some ⟨oc0, od0, .func (PySem.W.fnOf "_law_deck" "_law_deck" (defArgs s_l_deck) (defBody s_l_deck) (defScope s_l_deck) .none kV0 dc0 pm0 an0 cd0 ct0), sl0⟩) (c0 : PySem.W.codeIn K cd0 "_law_deck" = true) (k0 : PySem.W.keepIn K (.ref f0) = true)
    {f1 : Addr} {od1 an1 : Option Addr} {sl1 : Array (Option Value)} {oc1 kV1 dc1 pm1 cd1 ct1 : Value}
    (a1 : PySem.W.nsIn K mainGlobals "_law_draw" = some (some (.ref f1))) (l1 : K.lookup f1 = some ⟨oc1, od1, .func (PySem.W.fnOf "_law_draw" "_law_draw" (defArgs s_l_draw) (defBody s_l_draw) (defScope s_l_draw) .none kV1 dc1 pm1 an1 cd1 ct1), sl1⟩) (c1 : PySem.W.codeIn K cd1 "_law_draw" = true) (k1 : PySem.W.keepIn K (.ref f1) = true)
    {f2 : Addr} {od2 an2 : Option Addr} {sl2 : Array (Option Value)} {oc2 kV2 dc2 pm2 cd2 ct2 : Value}
    (a2 : PySem.W.nsIn K mainGlobals "_law_pick" = some (some (.ref f2))) (l2 : K.lookup f2 = some ⟨oc2, od2, .func (PySem.W.fnOf "_law_pick" "_law_pick" (defArgs s_l_pick) (defBody s_l_pick) (defScope s_l_pick) .none kV2 dc2 pm2 an2 cd2 ct2), sl2⟩) (c2 : PySem.W.codeIn K cd2 "_law_pick" = true) (k2 : PySem.W.keepIn K (.ref f2) = true)
    {f3 : Addr} {od3 an3 : Option Addr} {sl3 : Array (Option Value)} {oc3 kV3 dc3 pm3 cd3 ct3 : Value}
    (a3 : PySem.W.nsIn K mainGlobals "_law_parts" = some (some (.ref f3))) (l3 : K.lookup f3 = some ⟨oc3, od3, .func (PySem.W.fnOf "_law_parts" "_law_parts" (defArgs s_l_parts) (defBody s_l_parts) (defScope s_l_parts) .none kV3 dc3 pm3 an3 cd3 ct3), sl3⟩) (c3 : PySem.W.codeIn K cd3 "_law_parts" = true) (k3 : PySem.W.keepIn K (.ref f3) = true)
    {f4 : Addr} {od4 an4 : Option Addr} {sl4 : Array (Option Value)} {oc4 kV4 dc4 pm4 cd4 ct4 : Value}
    (a4 : PySem.W.nsIn K mainGlobals "_law_common" = some (some (.ref f4))) (l4 : K.lookup f4 = some ⟨oc4, od4, .func (PySem.W.fnOf "_law_common" "_law_common" (defArgs s_l_common) (defBody s_l_common) (defScope s_l_common) .none kV4 dc4 pm4 an4 cd4 ct4), sl4⟩) (c4 : PySem.W.codeIn K cd4 "_law_common" = true) (k4 : PySem.W.keepIn K (.ref f4) = true)
    {f5 : Addr} {od5 an5 : Option Addr} {sl5 : Array (Option Value)} {oc5 kV5 dc5 pm5 cd5 ct5 : Value}
    (a5 : PySem.W.nsIn K mainGlobals "_law_fraction" = some (some (.ref f5))) (l5 : K.lookup f5 = some ⟨oc5, od5, .func (PySem.W.fnOf "_law_fraction" "_law_fraction" (defArgs s_l_fraction) (defBody s_l_fraction) (defScope s_l_fraction) .none kV5 dc5 pm5 an5 cd5 ct5), sl5⟩) (c5 : PySem.W.codeIn K cd5 "_law_fraction" = true) (k5 : PySem.W.keepIn K (.ref f5) = true)
    {f6 : Addr} {od6 an6 : Option Addr} {sl6 : Array (Option Value)} {oc6 kV6 dc6 pm6 cd6 ct6 : Value}
    (a6 : PySem.W.nsIn K mainGlobals "_law_table" = some (some (.ref f6))) (l6 : K.lookup f6 = some ⟨oc6, od6, .func (PySem.W.fnOf "_law_table" "_law_table" (defArgs s_l_table) (defBody s_l_table) (defScope s_l_table) .none kV6 dc6 pm6 an6 cd6 ct6), sl6⟩) (c6 : PySem.W.codeIn K cd6 "_law_table" = true) (k6 : PySem.W.keepIn K (.ref f6) = true)
    {f7 : Addr} {od7 an7 : Option Addr} {sl7 : Array (Option Value)} {oc7 kV7 dc7 pm7 cd7 ct7 : Value}
    (a7 : PySem.W.nsIn K mainGlobals "_law_some_table" = some (some (.ref f7))) (l7 : K.lookup f7 = some ⟨oc7, od7, .func (PySem.W.fnOf "_law_some_table" "_law_some_table" (defArgs s_l_some_table) (defBody s_l_some_table) (defScope s_l_some_table) .none kV7 dc7 pm7 an7 cd7 ct7), sl7⟩) (c7 : PySem.W.codeIn K cd7 "_law_some_table" = true) (k7 : PySem.W.keepIn K (.ref f7) = true)
    {f8 : Addr} {od8 an8 : Option Addr} {sl8 : Array (Option Value)} {oc8 kV8 dc8 pm8 cd8 ct8 : Value}
    (a8 : PySem.W.nsIn K mainGlobals "_law_sum" = some (some (.ref f8))) (l8 : K.lookup f8 = some ⟨oc8, od8, .func (PySem.W.fnOf "_law_sum" "_law_sum" (defArgs s_l_sum) (defBody s_l_sum) (defScope s_l_sum) .none kV8 dc8 pm8 an8 cd8 ct8), sl8⟩) (c8 : PySem.W.codeIn K cd8 "_law_sum" = true) (k8 : PySem.W.keepIn K (.ref f8) = true)
    {f9 : Addr} {od9 an9 : Option Addr} {sl9 : Array (Option Value)} {oc9 kV9 dc9 pm9 cd9 ct9 : Value}
    (a9 : PySem.W.nsIn K mainGlobals "_law_times" = some (some (.ref f9))) (l9 : K.lookup f9 = some ⟨oc9, od9, .func (PySem.W.fnOf "_law_times" "_law_times" (defArgs s_l_times) (defBody s_l_times) (defScope s_l_times) .none kV9 dc9 pm9 an9 cd9 ct9), sl9⟩) (c9 : PySem.W.codeIn K cd9 "_law_times" = true) (k9 : PySem.W.keepIn K (.ref f9) = true)
    {f10 : Addr} {od10 an10 : Option Addr} {sl10 : Array (Option Value)} {oc10 kV10 dc10 pm10 cd10 ct10 : Value}
    (a10 : PySem.W.nsIn K mainGlobals "_law_mixed" = some (some (.ref f10))) (l10 : K.lookup f10 = some ⟨oc10, od10, .func (PySem.W.fnOf "_law_mixed" "_law_mixed" (defArgs s_l_mixed) (defBody s_l_mixed) (defScope s_l_mixed) .none kV10 dc10 pm10 an10 cd10 ct10), sl10⟩) (c10 : PySem.W.codeIn K cd10 "_law_mixed" = true) (k10 : PySem.W.keepIn K (.ref f10) = true)
    {f11 : Addr} {od11 an11 : Option Addr} {sl11 : Array (Option Value)} {oc11 kV11 dc11 pm11 cd11 ct11 : Value}
    (a11 : PySem.W.nsIn K mainGlobals "_law_other" = some (some (.ref f11))) (l11 : K.lookup f11 = some ⟨oc11, od11, .func (PySem.W.fnOf "_law_other" "_law_other" (defArgs s_l_other) (defBody s_l_other) (defScope s_l_other) .none kV11 dc11 pm11 an11 cd11 ct11), sl11⟩) (c11 : PySem.W.codeIn K cd11 "_law_other" = true) (k11 : PySem.W.keepIn K (.ref f11) = true)
    {f12 : Addr} {od12 an12 : Option Addr} {sl12 : Array (Option Value)} {oc12 kV12 dc12 pm12 cd12 ct12 : Value}
    (a12 : PySem.W.nsIn K mainGlobals "_law_less" = some (some (.ref f12))) (l12 : K.lookup f12 = some ⟨oc12, od12, .func (PySem.W.fnOf "_law_less" "_law_less" (defArgs s_l_less) (defBody s_l_less) (defScope s_l_less) .none kV12 dc12 pm12 an12 cd12 ct12), sl12⟩) (c12 : PySem.W.codeIn K cd12 "_law_less" = true) (k12 : PySem.W.keepIn K (.ref f12) = true)
    {f13 : Addr} {od13 an13 : Option Addr} {sl13 : Array (Option Value)} {oc13 kV13 dc13 pm13 cd13 ct13 : Value}
    (a13 : PySem.W.nsIn K mainGlobals "_law_apart" = some (some (.ref f13))) (l13 : K.lookup f13 = some ⟨oc13, od13, .func (PySem.W.fnOf "_law_apart" "_law_apart" (defArgs s_l_apart) (defBody s_l_apart) (defScope s_l_apart) .none kV13 dc13 pm13 an13 cd13 ct13), sl13⟩) (c13 : PySem.W.codeIn K cd13 "_law_apart" = true) (k13 : PySem.W.keepIn K (.ref f13) = true)
    {f14 : Addr} {od14 an14 : Option Addr} {sl14 : Array (Option Value)} {oc14 kV14 dc14 pm14 cd14 ct14 : Value}
    (a14 : PySem.W.nsIn K mainGlobals "is_integer" = some (some (.ref f14))) (l14 : K.lookup f14 = some ⟨oc14, od14, .func (PySem.W.fnOf "is_integer" "is_integer" (defArgs s_is_integer) (defBody s_is_integer) (defScope s_is_integer) .none kV14 dc14 pm14 an14 cd14 ct14), sl14⟩) (c14 : PySem.W.codeIn K cd14 "is_integer" = true) (k14 : PySem.W.keepIn K (.ref f14) = true)
    {f15 : Addr} {od15 an15 : Option Addr} {sl15 : Array (Option Value)} {oc15 kV15 dc15 pm15 cd15 ct15 : Value}
    (a15 : PySem.W.nsIn K mainGlobals "divisor_of" = some (some (.ref f15))) (l15 : K.lookup f15 = some ⟨oc15, od15, .func (PySem.W.fnOf "divisor_of" "divisor_of" (defArgs s_divisor_of) (defBody s_divisor_of) (defScope s_divisor_of) .none kV15 dc15 pm15 an15 cd15 ct15), sl15⟩) (c15 : PySem.W.codeIn K cd15 "divisor_of" = true) (k15 : PySem.W.keepIn K (.ref f15) = true)
    {f16 : Addr} {od16 an16 : Option Addr} {sl16 : Array (Option Value)} {oc16 kV16 dc16 pm16 cd16 ct16 : Value}
    (a16 : PySem.W.nsIn K mainGlobals "is_fraction_value" = some (some (.ref f16))) (l16 : K.lookup f16 = some ⟨oc16, od16, .func (PySem.W.fnOf "is_fraction_value" "is_fraction_value" (defArgs s_is_fraction_value) (defBody s_is_fraction_value) (defScope s_is_fraction_value) .none kV16 dc16 pm16 an16 cd16 ct16), sl16⟩) (c16 : PySem.W.codeIn K cd16 "is_fraction_value" = true) (k16 : PySem.W.keepIn K (.ref f16) = true)
    {f17 : Addr} {od17 an17 : Option Addr} {sl17 : Array (Option Value)} {oc17 kV17 dc17 pm17 cd17 ct17 : Value}
    (a17 : PySem.W.nsIn K mainGlobals "is_share_value" = some (some (.ref f17))) (l17 : K.lookup f17 = some ⟨oc17, od17, .func (PySem.W.fnOf "is_share_value" "is_share_value" (defArgs s_is_share_value) (defBody s_is_share_value) (defScope s_is_share_value) .none kV17 dc17 pm17 an17 cd17 ct17), sl17⟩) (c17 : PySem.W.codeIn K cd17 "is_share_value" = true) (k17 : PySem.W.keepIn K (.ref f17) = true)
    {f18 : Addr} {od18 an18 : Option Addr} {sl18 : Array (Option Value)} {oc18 kV18 dc18 pm18 cd18 ct18 : Value}
    (a18 : PySem.W.nsIn K mainGlobals "lowest" = some (some (.ref f18))) (l18 : K.lookup f18 = some ⟨oc18, od18, .func (PySem.W.fnOf "lowest" "lowest" (defArgs s_lowest) (defBody s_lowest) (defScope s_lowest) .none kV18 dc18 pm18 an18 cd18 ct18), sl18⟩) (c18 : PySem.W.codeIn K cd18 "lowest" = true) (k18 : PySem.W.keepIn K (.ref f18) = true)
    {f19 : Addr} {od19 an19 : Option Addr} {sl19 : Array (Option Value)} {oc19 kV19 dc19 pm19 cd19 ct19 : Value}
    (a19 : PySem.W.nsIn K mainGlobals "plus" = some (some (.ref f19))) (l19 : K.lookup f19 = some ⟨oc19, od19, .func (PySem.W.fnOf "plus" "plus" (defArgs s_plus) (defBody s_plus) (defScope s_plus) .none kV19 dc19 pm19 an19 cd19 ct19), sl19⟩) (c19 : PySem.W.codeIn K cd19 "plus" = true) (k19 : PySem.W.keepIn K (.ref f19) = true)
    {f20 : Addr} {od20 an20 : Option Addr} {sl20 : Array (Option Value)} {oc20 kV20 dc20 pm20 cd20 ct20 : Value}
    (a20 : PySem.W.nsIn K mainGlobals "total" = some (some (.ref f20))) (l20 : K.lookup f20 = some ⟨oc20, od20, .func (PySem.W.fnOf "total" "total" (defArgs s_total) (defBody s_total) (defScope s_total) .none kV20 dc20 pm20 an20 cd20 ct20), sl20⟩) (c20 : PySem.W.codeIn K cd20 "total" = true) (k20 : PySem.W.keepIn K (.ref f20) = true)
    {f21 : Addr} {od21 an21 : Option Addr} {sl21 : Array (Option Value)} {oc21 kV21 dc21 pm21 cd21 ct21 : Value}
    (a21 : PySem.W.nsIn K mainGlobals "is_table_value" = some (some (.ref f21))) (l21 : K.lookup f21 = some ⟨oc21, od21, .func (PySem.W.fnOf "is_table_value" "is_table_value" (defArgs s_is_table_value) (defBody s_is_table_value) (defScope s_is_table_value) .none kV21 dc21 pm21 an21 cd21 ct21), sl21⟩) (c21 : PySem.W.codeIn K cd21 "is_table_value" = true) (k21 : PySem.W.keepIn K (.ref f21) = true)
    {f22 : Addr} {od22 an22 : Option Addr} {sl22 : Array (Option Value)} {oc22 kV22 dc22 pm22 cd22 ct22 : Value}
    (a22 : PySem.W.nsIn K mainGlobals "need_table" = some (some (.ref f22))) (l22 : K.lookup f22 = some ⟨oc22, od22, .func (PySem.W.fnOf "need_table" "need_table" (defArgs s_need_table) (defBody s_need_table) (defScope s_need_table) .none kV22 dc22 pm22 an22 cd22 ct22), sl22⟩) (c22 : PySem.W.codeIn K cd22 "need_table" = true) (k22 : PySem.W.keepIn K (.ref f22) = true)
    {f23 : Addr} {od23 an23 : Option Addr} {sl23 : Array (Option Value)} {oc23 kV23 dc23 pm23 cd23 ct23 : Value}
    (a23 : PySem.W.nsIn K mainGlobals "need_like" = some (some (.ref f23))) (l23 : K.lookup f23 = some ⟨oc23, od23, .func (PySem.W.fnOf "need_like" "need_like" (defArgs s_need_like) (defBody s_need_like) (defScope s_need_like) .none kV23 dc23 pm23 an23 cd23 ct23), sl23⟩) (c23 : PySem.W.codeIn K cd23 "need_like" = true) (k23 : PySem.W.keepIn K (.ref f23) = true)
    {f24 : Addr} {od24 an24 : Option Addr} {sl24 : Array (Option Value)} {oc24 kV24 dc24 pm24 cd24 ct24 : Value}
    (a24 : PySem.W.nsIn K mainGlobals "times" = some (some (.ref f24))) (l24 : K.lookup f24 = some ⟨oc24, od24, .func (PySem.W.fnOf "times" "times" (defArgs s_times) (defBody s_times) (defScope s_times) .none kV24 dc24 pm24 an24 cd24 ct24), sl24⟩) (c24 : PySem.W.codeIn K cd24 "times" = true) (k24 : PySem.W.keepIn K (.ref f24) = true)
    {f25 : Addr} {od25 an25 : Option Addr} {sl25 : Array (Option Value)} {oc25 kV25 dc25 pm25 cd25 ct25 : Value}
    (a25 : PySem.W.nsIn K mainGlobals "is_less" = some (some (.ref f25))) (l25 : K.lookup f25 = some ⟨oc25, od25, .func (PySem.W.fnOf "is_less" "is_less" (defArgs s_is_less) (defBody s_is_less) (defScope s_is_less) .none kV25 dc25 pm25 an25 cd25 ct25), sl25⟩) (c25 : PySem.W.codeIn K cd25 "is_less" = true) (k25 : PySem.W.keepIn K (.ref f25) = true)
    {f26 : Addr} {od26 an26 : Option Addr} {sl26 : Array (Option Value)} {oc26 kV26 dc26 pm26 cd26 ct26 : Value}
    (a26 : PySem.W.nsIn K mainGlobals "minus" = some (some (.ref f26))) (l26 : K.lookup f26 = some ⟨oc26, od26, .func (PySem.W.fnOf "minus" "minus" (defArgs s_minus) (defBody s_minus) (defScope s_minus) .none kV26 dc26 pm26 an26 cd26 ct26), sl26⟩) (c26 : PySem.W.codeIn K cd26 "minus" = true) (k26 : PySem.W.keepIn K (.ref f26) = true)
    {f27 : Addr} {od27 an27 : Option Addr} {sl27 : Array (Option Value)} {oc27 kV27 dc27 pm27 cd27 ct27 : Value}
    (a27 : PySem.W.nsIn K mainGlobals "gap" = some (some (.ref f27))) (l27 : K.lookup f27 = some ⟨oc27, od27, .func (PySem.W.fnOf "gap" "gap" (defArgs s_gap) (defBody s_gap) (defScope s_gap) .none kV27 dc27 pm27 an27 cd27 ct27), sl27⟩) (c27 : PySem.W.codeIn K cd27 "gap" = true) (k27 : PySem.W.keepIn K (.ref f27) = true)
    {f28 : Addr} {od28 an28 : Option Addr} {sl28 : Array (Option Value)} {oc28 kV28 dc28 pm28 cd28 ct28 : Value}
    (a28 : PySem.W.nsIn K mainGlobals "raw_distance" = some (some (.ref f28))) (l28 : K.lookup f28 = some ⟨oc28, od28, .func (PySem.W.fnOf "raw_distance" "raw_distance" (defArgs s_raw_distance) (defBody s_raw_distance) (defScope s_raw_distance) .none kV28 dc28 pm28 an28 cd28 ct28), sl28⟩) (c28 : PySem.W.codeIn K cd28 "raw_distance" = true) (k28 : PySem.W.keepIn K (.ref f28) = true)
    {f29 : Addr} {od29 an29 : Option Addr} {sl29 : Array (Option Value)} {oc29 kV29 dc29 pm29 cd29 ct29 : Value}
    (a29 : PySem.W.nsIn K mainGlobals "distance" = some (some (.ref f29))) (l29 : K.lookup f29 = some ⟨oc29, od29, .func (PySem.W.fnOf "distance" "distance" (defArgs s_distance) (defBody s_distance) (defScope s_distance) .none kV29 dc29 pm29 an29 cd29 ct29), sl29⟩) (c29 : PySem.W.codeIn K cd29 "distance" = true) (k29 : PySem.W.keepIn K (.ref f29) = true)
    {f30 : Addr} {od30 an30 : Option Addr} {sl30 : Array (Option Value)} {oc30 kV30 dc30 pm30 cd30 ct30 : Value}
    (a30 : PySem.W.nsIn K mainGlobals "_law_is_above" = some (some (.ref f30))) (l30 : K.lookup f30 = some ⟨oc30, od30, .func (PySem.W.fnOf "_law_is_above" "_law_is_above" (defArgs s_l_is_above) (defBody s_l_is_above) (defScope s_l_is_above) .none kV30 dc30 pm30 an30 cd30 ct30), sl30⟩) (c30 : PySem.W.codeIn K cd30 "_law_is_above" = true) (k30 : PySem.W.keepIn K (.ref f30) = true)
    {f31 : Addr} {od31 an31 : Option Addr} {sl31 : Array (Option Value)} {oc31 kV31 dc31 pm31 cd31 ct31 : Value}
    (a31 : PySem.W.nsIn K mainGlobals "_law_lot" = some (some (.ref f31))) (l31 : K.lookup f31 = some ⟨oc31, od31, .func (PySem.W.fnOf "_law_lot" "_law_lot" (defArgs s_l_lot) (defBody s_l_lot) (defScope s_l_lot) .none kV31 dc31 pm31 an31 cd31 ct31), sl31⟩) (c31 : PySem.W.codeIn K cd31 "_law_lot" = true) (k31 : PySem.W.keepIn K (.ref f31) = true)
    {f32 : Addr} {od32 an32 : Option Addr} {sl32 : Array (Option Value)} {oc32 kV32 dc32 pm32 cd32 ct32 : Value}
    (a32 : PySem.W.nsIn K mainGlobals "_law_chance" = some (some (.ref f32))) (l32 : K.lookup f32 = some ⟨oc32, od32, .func (PySem.W.fnOf "_law_chance" "_law_chance" (defArgs s_l_chance) (defBody s_l_chance) (defScope s_l_chance) .none kV32 dc32 pm32 an32 cd32 ct32), sl32⟩) (c32 : PySem.W.codeIn K cd32 "_law_chance" = true) (k32 : PySem.W.keepIn K (.ref f32) = true)
    {f33 : Addr} {od33 an33 : Option Addr} {sl33 : Array (Option Value)} {oc33 kV33 dc33 pm33 cd33 ct33 : Value}
    (a33 : PySem.W.nsIn K mainGlobals "_law_lot_apart" = some (some (.ref f33))) (l33 : K.lookup f33 = some ⟨oc33, od33, .func (PySem.W.fnOf "_law_lot_apart" "_law_lot_apart" (defArgs s_l_lot_apart) (defBody s_l_lot_apart) (defScope s_l_lot_apart) .none kV33 dc33 pm33 an33 cd33 ct33), sl33⟩) (c33 : PySem.W.codeIn K cd33 "_law_lot_apart" = true) (k33 : PySem.W.keepIn K (.ref f33) = true)
    {f34 : Addr} {od34 an34 : Option Addr} {sl34 : Array (Option Value)} {oc34 kV34 dc34 pm34 cd34 ct34 : Value}
    (a34 : PySem.W.nsIn K mainGlobals "_law_pick" = some (some (.ref f34))) (l34 : K.lookup f34 = some ⟨oc34, od34, .func (PySem.W.fnOf "_law_pick" "_law_pick" (defArgs s_l_pick_2) (defBody s_l_pick_2) (defScope s_l_pick_2) .none kV34 dc34 pm34 an34 cd34 ct34), sl34⟩) (c34 : PySem.W.codeIn K cd34 "_law_pick" = true) (k34 : PySem.W.keepIn K (.ref f34) = true)
    {f35 : Addr} {od35 an35 : Option Addr} {sl35 : Array (Option Value)} {oc35 kV35 dc35 pm35 cd35 ct35 : Value}
    (a35 : PySem.W.nsIn K mainGlobals "need_near" = some (some (.ref f35))) (l35 : K.lookup f35 = some ⟨oc35, od35, .func (PySem.W.fnOf "need_near" "need_near" (defArgs s_need_near) (defBody s_need_near) (defScope s_need_near) .none kV35 dc35 pm35 an35 cd35 ct35), sl35⟩) (c35 : PySem.W.codeIn K cd35 "need_near" = true) (k35 : PySem.W.keepIn K (.ref f35) = true)
    {f36 : Addr} {od36 an36 : Option Addr} {sl36 : Array (Option Value)} {oc36 kV36 dc36 pm36 cd36 ct36 : Value}
    (a36 : PySem.W.nsIn K mainGlobals "is_at_most" = some (some (.ref f36))) (l36 : K.lookup f36 = some ⟨oc36, od36, .func (PySem.W.fnOf "is_at_most" "is_at_most" (defArgs s_is_at_most) (defBody s_is_at_most) (defScope s_is_at_most) .none kV36 dc36 pm36 an36 cd36 ct36), sl36⟩) (c36 : PySem.W.codeIn K cd36 "is_at_most" = true) (k36 : PySem.W.keepIn K (.ref f36) = true)
    {f37 : Addr} {od37 an37 : Option Addr} {sl37 : Array (Option Value)} {oc37 kV37 dc37 pm37 cd37 ct37 : Value}
    (a37 : PySem.W.nsIn K mainGlobals "lot_above" = some (some (.ref f37))) (l37 : K.lookup f37 = some ⟨oc37, od37, .func (PySem.W.fnOf "lot_above" "lot_above" (defArgs s_lot_above) (defBody s_lot_above) (defScope s_lot_above) .none kV37 dc37 pm37 an37 cd37 ct37), sl37⟩) (c37 : PySem.W.codeIn K cd37 "lot_above" = true) (k37 : PySem.W.keepIn K (.ref f37) = true)
    {f38 : Addr} {od38 an38 : Option Addr} {sl38 : Array (Option Value)} {oc38 kV38 dc38 pm38 cd38 ct38 : Value}
    (a38 : PySem.W.nsIn K mainGlobals "judge_near" = some (some (.ref f38))) (l38 : K.lookup f38 = some ⟨oc38, od38, .func (PySem.W.fnOf "judge_near" "judge_near" (defArgs s_judge_near) (defBody s_judge_near) (defScope s_judge_near) .none kV38 dc38 pm38 an38 cd38 ct38), sl38⟩) (c38 : PySem.W.codeIn K cd38 "judge_near" = true) (k38 : PySem.W.keepIn K (.ref f38) = true)
    {f39 : Addr} {od39 an39 : Option Addr} {sl39 : Array (Option Value)} {oc39 kV39 dc39 pm39 cd39 ct39 : Value}
    (a39 : PySem.W.nsIn K mainGlobals "is_exactly" = some (some (.ref f39))) (l39 : K.lookup f39 = some ⟨oc39, od39, .func (PySem.W.fnOf "is_exactly" "is_exactly" (defArgs s_is_exactly) (defBody s_is_exactly) (defScope s_is_exactly) .none kV39 dc39 pm39 an39 cd39 ct39), sl39⟩) (c39 : PySem.W.codeIn K cd39 "is_exactly" = true) (k39 : PySem.W.keepIn K (.ref f39) = true)
    {f40 : Addr} {od40 an40 : Option Addr} {sl40 : Array (Option Value)} {oc40 kV40 dc40 pm40 cd40 ct40 : Value}
    (a40 : PySem.W.nsIn K mainGlobals "is_word" = some (some (.ref f40))) (l40 : K.lookup f40 = some ⟨oc40, od40, .func (PySem.W.fnOf "is_word" "is_word" (defArgs s_is_word) (defBody s_is_word) (defScope s_is_word) .none kV40 dc40 pm40 an40 cd40 ct40), sl40⟩) (c40 : PySem.W.codeIn K cd40 "is_word" = true) (k40 : PySem.W.keepIn K (.ref f40) = true)
    {f41 : Addr} {od41 an41 : Option Addr} {sl41 : Array (Option Value)} {oc41 kV41 dc41 pm41 cd41 ct41 : Value}
    (a41 : PySem.W.nsIn K mainGlobals "is_between" = some (some (.ref f41))) (l41 : K.lookup f41 = some ⟨oc41, od41, .func (PySem.W.fnOf "is_between" "is_between" (defArgs s_is_between) (defBody s_is_between) (defScope s_is_between) .none kV41 dc41 pm41 an41 cd41 ct41), sl41⟩) (c41 : PySem.W.codeIn K cd41 "is_between" = true) (k41 : PySem.W.keepIn K (.ref f41) = true)
    {f42 : Addr} {od42 an42 : Option Addr} {sl42 : Array (Option Value)} {oc42 kV42 dc42 pm42 cd42 ct42 : Value}
    (a42 : PySem.W.nsIn K mainGlobals "are_between" = some (some (.ref f42))) (l42 : K.lookup f42 = some ⟨oc42, od42, .func (PySem.W.fnOf "are_between" "are_between" (defArgs s_are_between) (defBody s_are_between) (defScope s_are_between) .none kV42 dc42 pm42 an42 cd42 ct42), sl42⟩) (c42 : PySem.W.codeIn K cd42 "are_between" = true) (k42 : PySem.W.keepIn K (.ref f42) = true)
    {f43 : Addr} {od43 an43 : Option Addr} {sl43 : Array (Option Value)} {oc43 kV43 dc43 pm43 cd43 ct43 : Value}
    (a43 : PySem.W.nsIn K mainGlobals "is_ascending" = some (some (.ref f43))) (l43 : K.lookup f43 = some ⟨oc43, od43, .func (PySem.W.fnOf "is_ascending" "is_ascending" (defArgs s_is_ascending) (defBody s_is_ascending) (defScope s_is_ascending) .none kV43 dc43 pm43 an43 cd43 ct43), sl43⟩) (c43 : PySem.W.codeIn K cd43 "is_ascending" = true) (k43 : PySem.W.keepIn K (.ref f43) = true)
    {f44 : Addr} {od44 an44 : Option Addr} {sl44 : Array (Option Value)} {oc44 kV44 dc44 pm44 cd44 ct44 : Value}
    (a44 : PySem.W.nsIn K mainGlobals "is_lot_value" = some (some (.ref f44))) (l44 : K.lookup f44 = some ⟨oc44, od44, .func (PySem.W.fnOf "is_lot_value" "is_lot_value" (defArgs s_is_lot_value) (defBody s_is_lot_value) (defScope s_is_lot_value) .none kV44 dc44 pm44 an44 cd44 ct44), sl44⟩) (c44 : PySem.W.codeIn K cd44 "is_lot_value" = true) (k44 : PySem.W.keepIn K (.ref f44) = true)
    {f45 : Addr} {od45 an45 : Option Addr} {sl45 : Array (Option Value)} {oc45 kV45 dc45 pm45 cd45 ct45 : Value}
    (a45 : PySem.W.nsIn K mainGlobals "raw_lot_chance" = some (some (.ref f45))) (l45 : K.lookup f45 = some ⟨oc45, od45, .func (PySem.W.fnOf "raw_lot_chance" "raw_lot_chance" (defArgs s_raw_lot_chance) (defBody s_raw_lot_chance) (defScope s_raw_lot_chance) .none kV45 dc45 pm45 an45 cd45 ct45), sl45⟩) (c45 : PySem.W.codeIn K cd45 "raw_lot_chance" = true) (k45 : PySem.W.keepIn K (.ref f45) = true)
    {f46 : Addr} {od46 an46 : Option Addr} {sl46 : Array (Option Value)} {oc46 kV46 dc46 pm46 cd46 ct46 : Value}
    (a46 : PySem.W.nsIn K mainGlobals "near_holds" = some (some (.ref f46))) (l46 : K.lookup f46 = some ⟨oc46, od46, .func (PySem.W.fnOf "near_holds" "near_holds" (defArgs s_near_holds) (defBody s_near_holds) (defScope s_near_holds) .none kV46 dc46 pm46 an46 cd46 ct46), sl46⟩) (c46 : PySem.W.codeIn K cd46 "near_holds" = true) (k46 : PySem.W.keepIn K (.ref f46) = true)
    {f47 : Addr} {od47 an47 : Option Addr} {sl47 : Array (Option Value)} {oc47 kV47 dc47 pm47 cd47 ct47 : Value}
    (a47 : PySem.W.nsIn K mainGlobals "_law_is_integer" = some (some (.ref f47))) (l47 : K.lookup f47 = some ⟨oc47, od47, .func (PySem.W.fnOf "_law_is_integer" "_law_is_integer" (defArgs s_l_is_integer) (defBody s_l_is_integer) (defScope s_l_is_integer) .none kV47 dc47 pm47 an47 cd47 ct47), sl47⟩) (c47 : PySem.W.codeIn K cd47 "_law_is_integer" = true) (k47 : PySem.W.keepIn K (.ref f47) = true)
    {f48 : Addr} {od48 an48 : Option Addr} {sl48 : Array (Option Value)} {oc48 kV48 dc48 pm48 cd48 ct48 : Value}
    (a48 : PySem.W.nsIn K mainGlobals "_law_is_lot" = some (some (.ref f48))) (l48 : K.lookup f48 = some ⟨oc48, od48, .func (PySem.W.fnOf "_law_is_lot" "_law_is_lot" (defArgs s_l_is_lot) (defBody s_l_is_lot) (defScope s_l_is_lot) .none kV48 dc48 pm48 an48 cd48 ct48), sl48⟩) (c48 : PySem.W.codeIn K cd48 "_law_is_lot" = true) (k48 : PySem.W.keepIn K (.ref f48) = true)
    {f49 : Addr} {od49 an49 : Option Addr} {sl49 : Array (Option Value)} {oc49 kV49 dc49 pm49 cd49 ct49 : Value}
    (a49 : PySem.W.nsIn K mainGlobals "_law_is_judged" = some (some (.ref f49))) (l49 : K.lookup f49 = some ⟨oc49, od49, .func (PySem.W.fnOf "_law_is_judged" "_law_is_judged" (defArgs s_l_is_judged) (defBody s_l_is_judged) (defScope s_l_is_judged) .none kV49 dc49 pm49 an49 cd49 ct49), sl49⟩) (c49 : PySem.W.codeIn K cd49 "_law_is_judged" = true) (k49 : PySem.W.keepIn K (.ref f49) = true)
    {f50 : Addr} {od50 an50 : Option Addr} {sl50 : Array (Option Value)} {oc50 kV50 dc50 pm50 cd50 ct50 : Value}
    (a50 : PySem.W.nsIn K mainGlobals "_law_names" = some (some (.ref f50))) (l50 : K.lookup f50 = some ⟨oc50, od50, .func (PySem.W.fnOf "_law_names" "_law_names" (defArgs s_l_names) (defBody s_l_names) (defScope s_l_names) .none kV50 dc50 pm50 an50 cd50 ct50), sl50⟩) (c50 : PySem.W.codeIn K cd50 "_law_names" = true) (k50 : PySem.W.keepIn K (.ref f50) = true)
    {f51 : Addr} {od51 an51 : Option Addr} {sl51 : Array (Option Value)} {oc51 kV51 dc51 pm51 cd51 ct51 : Value}
    (a51 : PySem.W.nsIn K mainGlobals "raw_renamed" = some (some (.ref f51))) (l51 : K.lookup f51 = some ⟨oc51, od51, .func (PySem.W.fnOf "raw_renamed" "raw_renamed" (defArgs s_raw_renamed) (defBody s_raw_renamed) (defScope s_raw_renamed) .none kV51 dc51 pm51 an51 cd51 ct51), sl51⟩) (c51 : PySem.W.codeIn K cd51 "raw_renamed" = true) (k51 : PySem.W.keepIn K (.ref f51) = true)
    {f52 : Addr} {od52 an52 : Option Addr} {sl52 : Array (Option Value)} {oc52 kV52 dc52 pm52 cd52 ct52 : Value}
    (a52 : PySem.W.nsIn K mainGlobals "renamed" = some (some (.ref f52))) (l52 : K.lookup f52 = some ⟨oc52, od52, .func (PySem.W.fnOf "renamed" "renamed" (defArgs s_renamed) (defBody s_renamed) (defScope s_renamed) .none kV52 dc52 pm52 an52 cd52 ct52), sl52⟩) (c52 : PySem.W.codeIn K cd52 "renamed" = true) (k52 : PySem.W.keepIn K (.ref f52) = true)
    {f53 : Addr} {od53 an53 : Option Addr} {sl53 : Array (Option Value)} {oc53 kV53 dc53 pm53 cd53 ct53 : Value}
    (a53 : PySem.W.nsIn K mainGlobals "raw_mixed" = some (some (.ref f53))) (l53 : K.lookup f53 = some ⟨oc53, od53, .func (PySem.W.fnOf "raw_mixed" "raw_mixed" (defArgs s_raw_mixed) (defBody s_raw_mixed) (defScope s_raw_mixed) .none kV53 dc53 pm53 an53 cd53 ct53), sl53⟩) (c53 : PySem.W.codeIn K cd53 "raw_mixed" = true) (k53 : PySem.W.keepIn K (.ref f53) = true)
    {f54 : Addr} {od54 an54 : Option Addr} {sl54 : Array (Option Value)} {oc54 kV54 dc54 pm54 cd54 ct54 : Value}
    (a54 : PySem.W.nsIn K mainGlobals "mixed" = some (some (.ref f54))) (l54 : K.lookup f54 = some ⟨oc54, od54, .func (PySem.W.fnOf "mixed" "mixed" (defArgs s_mixed) (defBody s_mixed) (defScope s_mixed) .none kV54 dc54 pm54 an54 cd54 ct54), sl54⟩) (c54 : PySem.W.codeIn K cd54 "mixed" = true) (k54 : PySem.W.keepIn K (.ref f54) = true)
    {f55 : Addr} {od55 an55 : Option Addr} {sl55 : Array (Option Value)} {oc55 kV55 dc55 pm55 cd55 ct55 : Value}
    (a55 : PySem.W.nsIn K mainGlobals "beside" = some (some (.ref f55))) (l55 : K.lookup f55 = some ⟨oc55, od55, .func (PySem.W.fnOf "beside" "beside" (defArgs s_beside) (defBody s_beside) (defScope s_beside) .none kV55 dc55 pm55 an55 cd55 ct55), sl55⟩) (c55 : PySem.W.codeIn K cd55 "beside" = true) (k55 : PySem.W.keepIn K (.ref f55) = true)
    {f56 : Addr} {od56 an56 : Option Addr} {sl56 : Array (Option Value)} {oc56 kV56 dc56 pm56 cd56 ct56 : Value}
    (a56 : PySem.W.nsIn K mainGlobals "law" = some (some (.ref f56))) (l56 : K.lookup f56 = some ⟨oc56, od56, .func (PySem.W.fnOf "law" "law" (defArgs s_law) (defBody s_law) (defScope s_law) .none kV56 dc56 pm56 an56 cd56 ct56), sl56⟩) (c56 : PySem.W.codeIn K cd56 "law" = true) (k56 : PySem.W.keepIn K (.ref f56) = true)
    {u_HALF : Value} (v_HALF : PySem.W.nsIn K mainGlobals "HALF" = some (some u_HALF)) (r_HALF : isTupV K u_HALF [1, 2] = true)
    {u_MOST_OUTCOMES : Value} (v_MOST_OUTCOMES : PySem.W.nsIn K mainGlobals "MOST_OUTCOMES" = some (some u_MOST_OUTCOMES)) (r_MOST_OUTCOMES : isIntV u_MOST_OUTCOMES 8 = true)
    {u_ONE : Value} (v_ONE : PySem.W.nsIn K mainGlobals "ONE" = some (some u_ONE)) (r_ONE : isTupV K u_ONE [1, 1] = true)
    {u_ZERO : Value} (v_ZERO : PySem.W.nsIn K mainGlobals "ZERO" = some (some u_ZERO)) (r_ZERO : isTupV K u_ZERO [0, 1] = true)
    (z_abs : PySem.W.nsIn K mainGlobals "abs" = some none)
    (z_all : PySem.W.nsIn K mainGlobals "all" = some none)
    (z_bool : PySem.W.nsIn K mainGlobals "bool" = some none)
    (z_enumerate : PySem.W.nsIn K mainGlobals "enumerate" = some none)
    (z_int : PySem.W.nsIn K mainGlobals "int" = some none)
    (z_isinstance : PySem.W.nsIn K mainGlobals "isinstance" = some none)
    (z_len : PySem.W.nsIn K mainGlobals "len" = some none)
    (z_list : PySem.W.nsIn K mainGlobals "list" = some none)
    (z_max : PySem.W.nsIn K mainGlobals "max" = some none)
    (z_range : PySem.W.nsIn K mainGlobals "range" = some none)
    (z_repr : PySem.W.nsIn K mainGlobals "repr" = some none)
    (z_set : PySem.W.nsIn K mainGlobals "set" = some none)
    (z_sorted : PySem.W.nsIn K mainGlobals "sorted" = some none)
    (z_str : PySem.W.nsIn K mainGlobals "str" = some none)
    (z_sum : PySem.W.nsIn K mainGlobals "sum" = some none)
    (z_tuple : PySem.W.nsIn K mainGlobals "tuple" = some none)
    (z_zip : PySem.W.nsIn K mainGlobals "zip" = some none)
    : ∃ fd : FuncData, (∀ (s : Shared) (v : Value), BindsTo s fd ⟨[v], []⟩ [("_law_script", v)]) ∧ ∀ base : Heap, K.In base → base.Ns mainGlobals mg → FnG l.prog w K mg base 11 fa fd ["_law_script"] c_law := by
  have e := hfa.symm.trans (PySem.W.mg_of X G a56)
  cases e
  have F0 := fun_mk (st := s_l_deck) l0 c0 k0
  have F1 := fun_mk (st := s_l_draw) l1 c1 k1
  have F2 := fun_mk (st := s_l_pick) l2 c2 k2
  have F3 := fun_mk (st := s_l_parts) l3 c3 k3
  have F4 := fun_mk (st := s_l_common) l4 c4 k4
  have F5 := fun_mk (st := s_l_fraction) l5 c5 k5
  have F6 := fun_mk (st := s_l_table) l6 c6 k6
  have F7 := fun_mk (st := s_l_some_table) l7 c7 k7
  have F8 := fun_mk (st := s_l_sum) l8 c8 k8
  have F9 := fun_mk (st := s_l_times) l9 c9 k9
  have F10 := fun_mk (st := s_l_mixed) l10 c10 k10
  have F11 := fun_mk (st := s_l_other) l11 c11 k11
  have F12 := fun_mk (st := s_l_less) l12 c12 k12
  have F13 := fun_mk (st := s_l_apart) l13 c13 k13
  have F14 := fun_mk (st := s_is_integer) l14 c14 k14
  have F15 := fun_mk (st := s_divisor_of) l15 c15 k15
  have F16 := fun_mk (st := s_is_fraction_value) l16 c16 k16
  have F17 := fun_mk (st := s_is_share_value) l17 c17 k17
  have F18 := fun_mk (st := s_lowest) l18 c18 k18
  have F19 := fun_mk (st := s_plus) l19 c19 k19
  have F20 := fun_mk (st := s_total) l20 c20 k20
  have F21 := fun_mk (st := s_is_table_value) l21 c21 k21
  have F22 := fun_mk (st := s_need_table) l22 c22 k22
  have F23 := fun_mk (st := s_need_like) l23 c23 k23
  have F24 := fun_mk (st := s_times) l24 c24 k24
  have F25 := fun_mk (st := s_is_less) l25 c25 k25
  have F26 := fun_mk (st := s_minus) l26 c26 k26
  have F27 := fun_mk (st := s_gap) l27 c27 k27
  have F28 := fun_mk (st := s_raw_distance) l28 c28 k28
  have F29 := fun_mk (st := s_distance) l29 c29 k29
  have F30 := fun_mk (st := s_l_is_above) l30 c30 k30
  have F31 := fun_mk (st := s_l_lot) l31 c31 k31
  have F32 := fun_mk (st := s_l_chance) l32 c32 k32
  have F33 := fun_mk (st := s_l_lot_apart) l33 c33 k33
  have F34 := fun_mk (st := s_l_pick_2) l34 c34 k34
  have F35 := fun_mk (st := s_need_near) l35 c35 k35
  have F36 := fun_mk (st := s_is_at_most) l36 c36 k36
  have F37 := fun_mk (st := s_lot_above) l37 c37 k37
  have F38 := fun_mk (st := s_judge_near) l38 c38 k38
  have F39 := fun_mk (st := s_is_exactly) l39 c39 k39
  have F40 := fun_mk (st := s_is_word) l40 c40 k40
  have F41 := fun_mk (st := s_is_between) l41 c41 k41
  have F42 := fun_mk (st := s_are_between) l42 c42 k42
  have F43 := fun_mk (st := s_is_ascending) l43 c43 k43
  have F44 := fun_mk (st := s_is_lot_value) l44 c44 k44
  have F45 := fun_mk (st := s_raw_lot_chance) l45 c45 k45
  have F46 := fun_mk (st := s_near_holds) l46 c46 k46
  have F47 := fun_mk (st := s_l_is_integer) l47 c47 k47
  have F48 := fun_mk (st := s_l_is_lot) l48 c48 k48
  have F49 := fun_mk (st := s_l_is_judged) l49 c49 k49
  have F50 := fun_mk (st := s_l_names) l50 c50 k50
  have F51 := fun_mk (st := s_raw_renamed) l51 c51 k51
  have F52 := fun_mk (st := s_renamed) l52 c52 k52
  have F53 := fun_mk (st := s_raw_mixed) l53 c53 k53
  have F54 := fun_mk (st := s_mixed) l54 c54 k54
  have F55 := fun_mk (st := s_beside) l55 c55 k55
  have F56 := fun_mk (st := s_law) l56 c56 k56
  refine ⟨PySem.W.fnOf "law" "law" (defArgs s_law) (defBody s_law) (defScope s_law) .none kV56 dc56 pm56 an56 cd56 ct56, fun s v => .of_eq rfl, fun base _ _ => ?_⟩
  have B : Bi mg := ⟨PySem.W.mg_none_of X G z_abs, PySem.W.mg_none_of X G z_all, PySem.W.mg_none_of X G z_bool, PySem.W.mg_none_of X G z_enumerate, PySem.W.mg_none_of X G z_int, PySem.W.mg_none_of X G z_isinstance, PySem.W.mg_none_of X G z_len, PySem.W.mg_none_of X G z_list, PySem.W.mg_none_of X G z_max, PySem.W.mg_none_of X G z_range, PySem.W.mg_none_of X G z_repr, PySem.W.mg_none_of X G z_set, PySem.W.mg_none_of X G z_sorted, PySem.W.mg_none_of X G z_str, PySem.W.mg_none_of X G z_sum, PySem.W.mg_none_of X G z_tuple, PySem.W.mg_none_of X G z_zip⟩
  have q_HALF : KCon K mg "HALF" d_HALF := kcon_tup (PySem.W.mg_of X G v_HALF) r_HALF
  have q_MOST_OUTCOMES : KInt mg "MOST_OUTCOMES" 8 := ⟨u_MOST_OUTCOMES, PySem.W.mg_of X G v_MOST_OUTCOMES, isIntV_rel r_MOST_OUTCOMES⟩
  have q_ONE : KCon K mg "ONE" d_ONE := kcon_tup (PySem.W.mg_of X G v_ONE) r_ONE
  have q_ZERO : KCon K mg "ZERO" d_ZERO := kcon_tup (PySem.W.mg_of X G v_ZERO) r_ZERO
  have G0 : FnG l.prog w K mg base 1 f0 _ ["_law_script", "_law_number"] c_l_deck := fn_l_deck B F0
  have C0 : Cal l.prog w K mg base 1 "_law_deck" ["_law_script", "_law_number"] kw_l_deck c_l_deck := cal_mk F0 G0 (PySem.W.mg_of X G a0) (F0.binds (ps := ["_law_script", "_law_number"]) fun _ _ _ _ _ _ us hl => match us, hl with | [_, _], _ => rfl) (fun _ h => nomatch h)
  have G1 : FnG l.prog w K mg base 1 f1 _ ["_law_deck_here", "_law_many"] c_l_draw := fn_l_draw B F1
  have C1 : Cal l.prog w K mg base 1 "_law_draw" ["_law_deck_here", "_law_many"] kw_l_draw c_l_draw := cal_mk F1 G1 (PySem.W.mg_of X G a1) (F1.binds (ps := ["_law_deck_here", "_law_many"]) fun _ _ _ _ _ _ us hl => match us, hl with | [_, _], _ => rfl) (fun _ h => nomatch h)
  have G2 : FnG l.prog w K mg base 2 f2 _ ["_law_deck_here", "_law_some"] c_l_pick := fn_l_pick B C1 F2
  have C2 : Cal l.prog w K mg base 2 "_law_pick" ["_law_deck_here", "_law_some"] kw_l_pick c_l_pick := cal_mk F2 G2 (PySem.W.mg_of X G a2) (F2.binds (ps := ["_law_deck_here", "_law_some"]) fun _ _ _ _ _ _ us hl => match us, hl with | [_, _], _ => rfl) (fun _ h => nomatch h)
  have G3 : FnG l.prog w K mg base 3 f3 _ ["_law_deck_here", "_law_n", "_law_way"] c_l_parts := fn_l_parts B C2 F3
  have C3 : Cal l.prog w K mg base 3 "_law_parts" ["_law_deck_here", "_law_n", "_law_way"] kw_l_parts c_l_parts := cal_mk F3 G3 (PySem.W.mg_of X G a3) (F3.binds (ps := ["_law_deck_here", "_law_n", "_law_way"]) fun _ _ _ _ _ _ us hl => match us, hl with | [_, _, _], _ => rfl) (fun _ h => nomatch h)
  have G4 : FnG l.prog w K mg base 1 f4 _ ["_law_one", "_law_other_here"] c_l_common := fn_l_common B F4
  have C4 : Cal l.prog w K mg base 1 "_law_common" ["_law_one", "_law_other_here"] kw_l_common c_l_common := cal_mk F4 G4 (PySem.W.mg_of X G a4) (F4.binds (ps := ["_law_one", "_law_other_here"]) fun _ _ _ _ _ _ us hl => match us, hl with | [_, _], _ => rfl) (fun _ h => nomatch h)
  have G5 : FnG l.prog w K mg base 2 f5 _ ["_law_top", "_law_bottom"] c_l_fraction := fn_l_fraction B C4 F5
  have C5 : Cal l.prog w K mg base 2 "_law_fraction" ["_law_top", "_law_bottom"] kw_l_fraction c_l_fraction := cal_mk F5 G5 (PySem.W.mg_of X G a5) (F5.binds (ps := ["_law_top", "_law_bottom"]) fun _ _ _ _ _ _ us hl => match us, hl with | [_, _], _ => rfl) (fun _ h => nomatch h)
  have G6 : FnG l.prog w K mg base 4 f6 _ ["_law_deck_here", "_law_n", "_law_way"] c_l_table := fn_l_table B C3 C5 F6
  have C6 : Cal l.prog w K mg base 4 "_law_table" ["_law_deck_here", "_law_n", "_law_way"] kw_l_table c_l_table := cal_mk F6 G6 (PySem.W.mg_of X G a6) (F6.binds (ps := ["_law_deck_here", "_law_n", "_law_way"]) fun _ _ _ _ _ _ us hl => match us, hl with | [_, _, _], _ => rfl) (fun _ h => nomatch h)
  have G7 : FnG l.prog w K mg base 5 f7 _ ["_law_deck_here"] c_l_some_table := fn_l_some_table B C6 C2 F7
  have C7 : Cal l.prog w K mg base 5 "_law_some_table" ["_law_deck_here"] kw_l_some_table c_l_some_table := cal_mk F7 G7 (PySem.W.mg_of X G a7) (F7.binds (ps := ["_law_deck_here"]) fun _ _ _ _ _ _ us hl => match us, hl with | [_], _ => rfl) (fun _ h => nomatch h)
  have G8 : FnG l.prog w K mg base 3 f8 _ ["_law_some"] c_l_sum := fn_l_sum B C5 F8
  have C8 : Cal l.prog w K mg base 3 "_law_sum" ["_law_some"] kw_l_sum c_l_sum := cal_mk F8 G8 (PySem.W.mg_of X G a8) (F8.binds (ps := ["_law_some"]) fun _ _ _ _ _ _ us hl => match us, hl with | [_], _ => rfl) (fun _ h => nomatch h)
  have G9 : FnG l.prog w K mg base 3 f9 _ ["_law_one", "_law_other_here"] c_l_times := fn_l_times B C5 F9
  have C9 : Cal l.prog w K mg base 3 "_law_times" ["_law_one", "_law_other_here"] kw_l_times c_l_times := cal_mk F9 G9 (PySem.W.mg_of X G a9) (F9.binds (ps := ["_law_one", "_law_other_here"]) fun _ _ _ _ _ _ us hl => match us, hl with | [_, _], _ => rfl) (fun _ h => nomatch h)
  have G10 : FnG l.prog w K mg base 4 f10 _ ["_law_table_here", "_law_tables"] c_l_mixed := fn_l_mixed B C8 C9 F10
  have C10 : Cal l.prog w K mg base 4 "_law_mixed" ["_law_table_here", "_law_tables"] kw_l_mixed c_l_mixed := cal_mk F10 G10 (PySem.W.mg_of X G a10) (F10.binds (ps := ["_law_table_here", "_law_tables"]) fun _ _ _ _ _ _ us hl => match us, hl with | [_, _], _ => rfl) (fun _ h => nomatch h)
  have G11 : FnG l.prog w K mg base 5 f11 _ ["_law_deck_here", "_law_table_here"] c_l_other := fn_l_other B C1 C10 C6 C2 F11
  have C11 : Cal l.prog w K mg base 5 "_law_other" ["_law_deck_here", "_law_table_here"] kw_l_other c_l_other := cal_mk F11 G11 (PySem.W.mg_of X G a11) (F11.binds (ps := ["_law_deck_here", "_law_table_here"]) fun _ _ _ _ _ _ us hl => match us, hl with | [_, _], _ => rfl) (fun _ h => nomatch h)
  have G12 : FnG l.prog w K mg base 3 f12 _ ["_law_one", "_law_other_here"] c_l_less := fn_l_less B C5 F12
  have C12 : Cal l.prog w K mg base 3 "_law_less" ["_law_one", "_law_other_here"] kw_l_less c_l_less := cal_mk F12 G12 (PySem.W.mg_of X G a12) (F12.binds (ps := ["_law_one", "_law_other_here"]) fun _ _ _ _ _ _ us hl => match us, hl with | [_, _], _ => rfl) (fun _ h => nomatch h)
  have G13 : FnG l.prog w K mg base 4 f13 _ ["_law_one", "_law_other_here"] c_l_apart := fn_l_apart B C12 C8 C5 F13
  have C13 : Cal l.prog w K mg base 4 "_law_apart" ["_law_one", "_law_other_here"] kw_l_apart c_l_apart := cal_mk F13 G13 (PySem.W.mg_of X G a13) (F13.binds (ps := ["_law_one", "_law_other_here"]) fun _ _ _ _ _ _ us hl => match us, hl with | [_, _], _ => rfl) (fun _ h => nomatch h)
  have G14 : FnG l.prog w K mg base 1 f14 _ ["thing"] c_is_integer := fn_is_integer B F14
  have C14 : Cal l.prog w K mg base 1 "is_integer" ["thing"] kw_is_integer c_is_integer := cal_mk F14 G14 (PySem.W.mg_of X G a14) (F14.binds (ps := ["thing"]) fun _ _ _ _ _ _ us hl => match us, hl with | [_], _ => rfl) (fun _ h => nomatch h)
  have G15 : FnG l.prog w K mg base 1 f15 _ ["one", "other"] c_divisor_of := fn_divisor_of B F15
  have C15 : Cal l.prog w K mg base 1 "divisor_of" ["one", "other"] kw_divisor_of c_divisor_of := cal_mk F15 G15 (PySem.W.mg_of X G a15) (F15.binds (ps := ["one", "other"]) fun _ _ _ _ _ _ us hl => match us, hl with | [_, _], _ => rfl) (fun _ h => nomatch h)
  have G16 : FnG l.prog w K mg base 2 f16 _ ["thing"] c_is_fraction_value := fn_is_fraction_value B C14 C15 F16
  have C16 : Cal l.prog w K mg base 2 "is_fraction_value" ["thing"] kw_is_fraction_value c_is_fraction_value := cal_mk F16 G16 (PySem.W.mg_of X G a16) (F16.binds (ps := ["thing"]) fun _ _ _ _ _ _ us hl => match us, hl with | [_], _ => rfl) (fun _ h => nomatch h)
  have G17 : FnG l.prog w K mg base 3 f17 _ ["thing"] c_is_share_value := fn_is_share_value B C16 F17
  have C17 : Cal l.prog w K mg base 3 "is_share_value" ["thing"] kw_is_share_value c_is_share_value := cal_mk F17 G17 (PySem.W.mg_of X G a17) (F17.binds (ps := ["thing"]) fun _ _ _ _ _ _ us hl => match us, hl with | [_], _ => rfl) (fun _ h => nomatch h)
  have G18 : FnG l.prog w K mg base 2 f18 _ ["top", "bottom"] c_lowest := fn_lowest B C15 F18
  have C18 : Cal l.prog w K mg base 2 "lowest" ["top", "bottom"] kw_lowest c_lowest := cal_mk F18 G18 (PySem.W.mg_of X G a18) (F18.binds (ps := ["top", "bottom"]) fun _ _ _ _ _ _ us hl => match us, hl with | [_, _], _ => rfl) (fun _ h => nomatch h)
  have G19 : FnG l.prog w K mg base 3 f19 _ ["one", "other"] c_plus := fn_plus B C18 F19
  have C19 : Cal l.prog w K mg base 3 "plus" ["one", "other"] kw_plus c_plus := cal_mk F19 G19 (PySem.W.mg_of X G a19) (F19.binds (ps := ["one", "other"]) fun _ _ _ _ _ _ us hl => match us, hl with | [_, _], _ => rfl) (fun _ h => nomatch h)
  have G20 : FnG l.prog w K mg base 4 f20 _ ["some"] c_total := fn_total B C19 q_ZERO F20
  have C20 : Cal l.prog w K mg base 4 "total" ["some"] kw_total c_total := cal_mk F20 G20 (PySem.W.mg_of X G a20) (F20.binds (ps := ["some"]) fun _ _ _ _ _ _ us hl => match us, hl with | [_], _ => rfl) (fun _ h => nomatch h)
  have G21 : FnG l.prog w K mg base 5 f21 _ ["thing"] c_is_table_value := fn_is_table_value B C17 C20 q_ONE F21
  have C21 : Cal l.prog w K mg base 5 "is_table_value" ["thing"] kw_is_table_value c_is_table_value := cal_mk F21 G21 (PySem.W.mg_of X G a21) (F21.binds (ps := ["thing"]) fun _ _ _ _ _ _ us hl => match us, hl with | [_], _ => rfl) (fun _ h => nomatch h)
  have G22 : FnG l.prog w K mg base 6 f22 _ ["table"] c_need_table := fn_need_table B C21 F22
  have C22 : Cal l.prog w K mg base 6 "need_table" ["table"] kw_need_table c_need_table := cal_mk F22 G22 (PySem.W.mg_of X G a22) (F22.binds (ps := ["table"]) fun _ _ _ _ _ _ us hl => match us, hl with | [_], _ => rfl) (fun _ h => nomatch h)
  have G23 : FnG l.prog w K mg base 7 f23 _ ["table", "other"] c_need_like := fn_need_like B C22 F23
  have C23 : Cal l.prog w K mg base 7 "need_like" ["table", "other"] kw_need_like c_need_like := cal_mk F23 G23 (PySem.W.mg_of X G a23) (F23.binds (ps := ["table", "other"]) fun _ _ _ _ _ _ us hl => match us, hl with | [_, _], _ => rfl) (fun _ h => nomatch h)
  have G24 : FnG l.prog w K mg base 3 f24 _ ["one", "other"] c_times := fn_times B C18 F24
  have C24 : Cal l.prog w K mg base 3 "times" ["one", "other"] kw_times c_times := cal_mk F24 G24 (PySem.W.mg_of X G a24) (F24.binds (ps := ["one", "other"]) fun _ _ _ _ _ _ us hl => match us, hl with | [_, _], _ => rfl) (fun _ h => nomatch h)
  have G25 : FnG l.prog w K mg base 1 f25 _ ["one", "other"] c_is_less := fn_is_less B F25
  have C25 : Cal l.prog w K mg base 1 "is_less" ["one", "other"] kw_is_less c_is_less := cal_mk F25 G25 (PySem.W.mg_of X G a25) (F25.binds (ps := ["one", "other"]) fun _ _ _ _ _ _ us hl => match us, hl with | [_, _], _ => rfl) (fun _ h => nomatch h)
  have G26 : FnG l.prog w K mg base 3 f26 _ ["one", "other"] c_minus := fn_minus B C18 F26
  have C26 : Cal l.prog w K mg base 3 "minus" ["one", "other"] kw_minus c_minus := cal_mk F26 G26 (PySem.W.mg_of X G a26) (F26.binds (ps := ["one", "other"]) fun _ _ _ _ _ _ us hl => match us, hl with | [_, _], _ => rfl) (fun _ h => nomatch h)
  have G27 : FnG l.prog w K mg base 4 f27 _ ["one", "other"] c_gap := fn_gap B C25 C26 F27
  have C27 : Cal l.prog w K mg base 4 "gap" ["one", "other"] kw_gap c_gap := cal_mk F27 G27 (PySem.W.mg_of X G a27) (F27.binds (ps := ["one", "other"]) fun _ _ _ _ _ _ us hl => match us, hl with | [_, _], _ => rfl) (fun _ h => nomatch h)
  have G28 : FnG l.prog w K mg base 5 f28 _ ["table", "other"] c_raw_distance := fn_raw_distance B C24 C20 C27 q_HALF F28
  have C28 : Cal l.prog w K mg base 5 "raw_distance" ["table", "other"] kw_raw_distance c_raw_distance := cal_mk F28 G28 (PySem.W.mg_of X G a28) (F28.binds (ps := ["table", "other"]) fun _ _ _ _ _ _ us hl => match us, hl with | [_, _], _ => rfl) (fun _ h => nomatch h)
  have G29 : FnG l.prog w K mg base 8 f29 _ ["table", "other"] c_distance := fn_distance B C23 C28 F29
  have C29 : Cal l.prog w K mg base 8 "distance" ["table", "other"] kw_distance c_distance := cal_mk F29 G29 (PySem.W.mg_of X G a29) (F29.binds (ps := ["table", "other"]) fun _ _ _ _ _ _ us hl => match us, hl with | [_, _], _ => rfl) (by
    intro p hp
    rcases List.mem_cons.mp hp with rfl | hp
    · exact (kw_mk F29 (ps := ["table", "other"]) (ks := ["other", "table"]) (n := 0) (ix := [1, 0]) fun _ _ _ _ _ _ us ws h1 h2 => match us, h1, ws, h2 with | [], _, [_, _], _ => rfl)
    exact nomatch hp)
  have G30 : FnG l.prog w K mg base 1 f30 _ ["_law_one", "_law_other_here"] c_l_is_above := fn_l_is_above B F30
  have C30 : Cal l.prog w K mg base 1 "_law_is_above" ["_law_one", "_law_other_here"] kw_l_is_above c_l_is_above := cal_mk F30 G30 (PySem.W.mg_of X G a30) (F30.binds (ps := ["_law_one", "_law_other_here"]) fun _ _ _ _ _ _ us hl => match us, hl with | [_, _], _ => rfl) (fun _ h => nomatch h)
  have G31 : FnG l.prog w K mg base 2 f31 _ ["_law_deck_here", "_law_n"] c_l_lot := fn_l_lot B C1 F31
  have C31 : Cal l.prog w K mg base 2 "_law_lot" ["_law_deck_here", "_law_n"] kw_l_lot c_l_lot := cal_mk F31 G31 (PySem.W.mg_of X G a31) (F31.binds (ps := ["_law_deck_here", "_law_n"]) fun _ _ _ _ _ _ us hl => match us, hl with | [_, _], _ => rfl) (fun _ h => nomatch h)
  have G32 : FnG l.prog w K mg base 4 f32 _ ["_law_table_here", "_law_lot_here"] c_l_chance := fn_l_chance B C8 F32
  have C32 : Cal l.prog w K mg base 4 "_law_chance" ["_law_table_here", "_law_lot_here"] kw_l_chance c_l_chance := cal_mk F32 G32 (PySem.W.mg_of X G a32) (F32.binds (ps := ["_law_table_here", "_law_lot_here"]) fun _ _ _ _ _ _ us hl => match us, hl with | [_, _], _ => rfl) (fun _ h => nomatch h)
  have G33 : FnG l.prog w K mg base 5 f33 _ ["_law_one", "_law_other_here", "_law_lot_here"] c_l_lot_apart := fn_l_lot_apart B C12 C32 F33
  have C33 : Cal l.prog w K mg base 5 "_law_lot_apart" ["_law_one", "_law_other_here", "_law_lot_here"] kw_l_lot_apart c_l_lot_apart := cal_mk F33 G33 (PySem.W.mg_of X G a33) (F33.binds (ps := ["_law_one", "_law_other_here", "_law_lot_here"]) fun _ _ _ _ _ _ us hl => match us, hl with | [_, _, _], _ => rfl) (fun _ h => nomatch h)
  have G34 : FnG l.prog w K mg base 2 f34 _ ["_law_deck_here", "_law_some"] c_l_pick_2 := fn_l_pick_2 B C1 F34
  have C34 : Cal l.prog w K mg base 2 "_law_pick" ["_law_deck_here", "_law_some"] kw_l_pick_2 c_l_pick_2 := cal_mk F34 G34 (PySem.W.mg_of X G a34) (F34.binds (ps := ["_law_deck_here", "_law_some"]) fun _ _ _ _ _ _ us hl => match us, hl with | [_, _], _ => rfl) (fun _ h => nomatch h)
  have G35 : FnG l.prog w K mg base 8 f35 _ ["table", "other", "fraction"] c_need_near := fn_need_near B C23 C17 F35
  have C35 : Cal l.prog w K mg base 8 "need_near" ["table", "other", "fraction"] kw_need_near c_need_near := cal_mk F35 G35 (PySem.W.mg_of X G a35) (F35.binds (ps := ["table", "other", "fraction"]) fun _ _ _ _ _ _ us hl => match us, hl with | [_, _, _], _ => rfl) (fun _ h => nomatch h)
  have G36 : FnG l.prog w K mg base 1 f36 _ ["one", "other"] c_is_at_most := fn_is_at_most B F36
  have C36 : Cal l.prog w K mg base 1 "is_at_most" ["one", "other"] kw_is_at_most c_is_at_most := cal_mk F36 G36 (PySem.W.mg_of X G a36) (F36.binds (ps := ["one", "other"]) fun _ _ _ _ _ _ us hl => match us, hl with | [_, _], _ => rfl) (fun _ h => nomatch h)
  have G37 : FnG l.prog w K mg base 2 f37 _ ["table", "other"] c_lot_above := fn_lot_above B C25 F37
  have C37 : Cal l.prog w K mg base 2 "lot_above" ["table", "other"] kw_lot_above c_lot_above := cal_mk F37 G37 (PySem.W.mg_of X G a37) (F37.binds (ps := ["table", "other"]) fun _ _ _ _ _ _ us hl => match us, hl with | [_, _], _ => rfl) (fun _ h => nomatch h)
  have G38 : FnG l.prog w K mg base 9 f38 _ ["table", "other", "fraction"] c_judge_near := fn_judge_near B C35 C36 C28 C37 F38
  have C38 : Cal l.prog w K mg base 9 "judge_near" ["table", "other", "fraction"] kw_judge_near c_judge_near := cal_mk F38 G38 (PySem.W.mg_of X G a38) (F38.binds (ps := ["table", "other", "fraction"]) fun _ _ _ _ _ _ us hl => match us, hl with | [_, _, _], _ => rfl) (by
    intro p hp
    rcases List.mem_cons.mp hp with rfl | hp
    · exact (kw_mk F38 (ps := ["table", "other", "fraction"]) (ks := ["fraction", "other", "table"]) (n := 0) (ix := [2, 1, 0]) fun _ _ _ _ _ _ us ws h1 h2 => match us, h1, ws, h2 with | [], _, [_, _, _], _ => rfl)
    exact nomatch hp)
  have G39 : FnG l.prog w K mg base 1 f39 _ ["thing", "due"] c_is_exactly := fn_is_exactly B F39
  have C39 : Cal l.prog w K mg base 1 "is_exactly" ["thing", "due"] kw_is_exactly c_is_exactly := cal_mk F39 G39 (PySem.W.mg_of X G a39) (F39.binds (ps := ["thing", "due"]) fun _ _ _ _ _ _ us hl => match us, hl with | [_, _], _ => rfl) (fun _ h => nomatch h)
  have G40 : FnG l.prog w K mg base 1 f40 _ ["thing", "word"] c_is_word := fn_is_word B F40
  have C40 : Cal l.prog w K mg base 1 "is_word" ["thing", "word"] kw_is_word c_is_word := cal_mk F40 G40 (PySem.W.mg_of X G a40) (F40.binds (ps := ["thing", "word"]) fun _ _ _ _ _ _ us hl => match us, hl with | [_, _], _ => rfl) (fun _ h => nomatch h)
  have G41 : FnG l.prog w K mg base 2 f41 _ ["thing", "least", "most"] c_is_between := fn_is_between B C14 F41
  have C41 : Cal l.prog w K mg base 2 "is_between" ["thing", "least", "most"] kw_is_between c_is_between := cal_mk F41 G41 (PySem.W.mg_of X G a41) (F41.binds (ps := ["thing", "least", "most"]) fun _ _ _ _ _ _ us hl => match us, hl with | [_, _, _], _ => rfl) (fun _ h => nomatch h)
  have G42 : FnG l.prog w K mg base 3 f42 _ ["thing", "least", "most"] c_are_between := fn_are_between B C41 F42
  have C42 : Cal l.prog w K mg base 3 "are_between" ["thing", "least", "most"] kw_are_between c_are_between := cal_mk F42 G42 (PySem.W.mg_of X G a42) (F42.binds (ps := ["thing", "least", "most"]) fun _ _ _ _ _ _ us hl => match us, hl with | [_, _, _], _ => rfl) (fun _ h => nomatch h)
  have G43 : FnG l.prog w K mg base 1 f43 _ ["some"] c_is_ascending := fn_is_ascending B F43
  have C43 : Cal l.prog w K mg base 1 "is_ascending" ["some"] kw_is_ascending c_is_ascending := cal_mk F43 G43 (PySem.W.mg_of X G a43) (F43.binds (ps := ["some"]) fun _ _ _ _ _ _ us hl => match us, hl with | [_], _ => rfl) (fun _ h => nomatch h)
  have G44 : FnG l.prog w K mg base 4 f44 _ ["n", "thing"] c_is_lot_value := fn_is_lot_value B C42 C43 F44
  have C44 : Cal l.prog w K mg base 4 "is_lot_value" ["n", "thing"] kw_is_lot_value c_is_lot_value := cal_mk F44 G44 (PySem.W.mg_of X G a44) (F44.binds (ps := ["n", "thing"]) fun _ _ _ _ _ _ us hl => match us, hl with | [_, _], _ => rfl) (fun _ h => nomatch h)
  have G45 : FnG l.prog w K mg base 5 f45 _ ["table", "lot"] c_raw_lot_chance := fn_raw_lot_chance B C20 F45
  have C45 : Cal l.prog w K mg base 5 "raw_lot_chance" ["table", "lot"] kw_raw_lot_chance c_raw_lot_chance := cal_mk F45 G45 (PySem.W.mg_of X G a45) (F45.binds (ps := ["table", "lot"]) fun _ _ _ _ _ _ us hl => match us, hl with | [_, _], _ => rfl) (fun _ h => nomatch h)
  have G46 : FnG l.prog w K mg base 9 f46 _ ["table", "other", "fraction", "thing"] c_near_holds := fn_near_holds B C35 C39 C36 C28 C40 C44 C25 C27 C45 F46
  have C46 : Cal l.prog w K mg base 9 "near_holds" ["table", "other", "fraction", "thing"] kw_near_holds c_near_holds := cal_mk F46 G46 (PySem.W.mg_of X G a46) (F46.binds (ps := ["table", "other", "fraction", "thing"]) fun _ _ _ _ _ _ us hl => match us, hl with | [_, _, _, _], _ => rfl) (by
    intro p hp
    rcases List.mem_cons.mp hp with rfl | hp
    · exact (kw_mk F46 (ps := ["table", "other", "fraction", "thing"]) (ks := ["thing", "fraction", "other", "table"]) (n := 0) (ix := [3, 2, 1, 0]) fun _ _ _ _ _ _ us ws h1 h2 => match us, h1, ws, h2 with | [], _, [_, _, _, _], _ => rfl)
    exact nomatch hp)
  have G47 : FnG l.prog w K mg base 1 f47 _ ["_law_thing"] c_l_is_integer := fn_l_is_integer B F47
  have C47 : Cal l.prog w K mg base 1 "_law_is_integer" ["_law_thing"] kw_l_is_integer c_l_is_integer := cal_mk F47 G47 (PySem.W.mg_of X G a47) (F47.binds (ps := ["_law_thing"]) fun _ _ _ _ _ _ us hl => match us, hl with | [_], _ => rfl) (fun _ h => nomatch h)
  have G48 : FnG l.prog w K mg base 2 f48 _ ["_law_n", "_law_thing"] c_l_is_lot := fn_l_is_lot B C47 F48
  have C48 : Cal l.prog w K mg base 2 "_law_is_lot" ["_law_n", "_law_thing"] kw_l_is_lot c_l_is_lot := cal_mk F48 G48 (PySem.W.mg_of X G a48) (F48.binds (ps := ["_law_n", "_law_thing"]) fun _ _ _ _ _ _ us hl => match us, hl with | [_, _], _ => rfl) (fun _ h => nomatch h)
  have G49 : FnG l.prog w K mg base 10 f49 _ ["_law_deck_here", "_law_one", "_law_other_here", "_law_fraction_here"] c_l_is_judged := fn_l_is_judged B C38 C1 C30 C13 C46 C48 C33 F49
  have C49 : Cal l.prog w K mg base 10 "_law_is_judged" ["_law_deck_here", "_law_one", "_law_other_here", "_law_fraction_here"] kw_l_is_judged c_l_is_judged := cal_mk F49 G49 (PySem.W.mg_of X G a49) (F49.binds (ps := ["_law_deck_here", "_law_one", "_law_other_here", "_law_fraction_here"]) fun _ _ _ _ _ _ us hl => match us, hl with | [_, _, _, _], _ => rfl) (fun _ h => nomatch h)
  have G50 : FnG l.prog w K mg base 3 f50 _ ["_law_deck_here", "_law_n"] c_l_names := fn_l_names B C2 C1 F50
  have C50 : Cal l.prog w K mg base 3 "_law_names" ["_law_deck_here", "_law_n"] kw_l_names c_l_names := cal_mk F50 G50 (PySem.W.mg_of X G a50) (F50.binds (ps := ["_law_deck_here", "_law_n"]) fun _ _ _ _ _ _ us hl => match us, hl with | [_, _], _ => rfl) (fun _ h => nomatch h)
  have G51 : FnG l.prog w K mg base 5 f51 _ ["table", "names", "many"] c_raw_renamed := fn_raw_renamed B C20 F51
  have C51 : Cal l.prog w K mg base 5 "raw_renamed" ["table", "names", "many"] kw_raw_renamed c_raw_renamed := cal_mk F51 G51 (PySem.W.mg_of X G a51) (F51.binds (ps := ["table", "names", "many"]) fun _ _ _ _ _ _ us hl => match us, hl with | [_, _, _], _ => rfl) (fun _ h => nomatch h)
  have G52 : FnG l.prog w K mg base 7 f52 _ ["table", "names"] c_renamed := fn_renamed B C22 C42 C51 q_MOST_OUTCOMES F52
  have C52 : Cal l.prog w K mg base 7 "renamed" ["table", "names"] kw_renamed c_renamed := cal_mk F52 G52 (PySem.W.mg_of X G a52) (F52.binds (ps := ["table", "names"]) fun _ _ _ _ _ _ us hl => match us, hl with | [_, _], _ => rfl) (fun _ h => nomatch h)
  have G53 : FnG l.prog w K mg base 5 f53 _ ["table", "tables"] c_raw_mixed := fn_raw_mixed B C20 C24 F53
  have C53 : Cal l.prog w K mg base 5 "raw_mixed" ["table", "tables"] kw_raw_mixed c_raw_mixed := cal_mk F53 G53 (PySem.W.mg_of X G a53) (F53.binds (ps := ["table", "tables"]) fun _ _ _ _ _ _ us hl => match us, hl with | [_, _], _ => rfl) (fun _ h => nomatch h)
  have G54 : FnG l.prog w K mg base 7 f54 _ ["table", "tables"] c_mixed := fn_mixed B C22 C21 C53 F54
  have C54 : Cal l.prog w K mg base 7 "mixed" ["table", "tables"] kw_mixed c_mixed := cal_mk F54 G54 (PySem.W.mg_of X G a54) (F54.binds (ps := ["table", "tables"]) fun _ _ _ _ _ _ us hl => match us, hl with | [_, _], _ => rfl) (fun _ h => nomatch h)
  have G55 : FnG l.prog w K mg base 7 f55 _ ["table", "other"] c_beside := fn_beside B C22 C24 q_MOST_OUTCOMES F55
  have C55 : Cal l.prog w K mg base 7 "beside" ["table", "other"] kw_beside c_beside := cal_mk F55 G55 (PySem.W.mg_of X G a55) (F55.binds (ps := ["table", "other"]) fun _ _ _ _ _ _ us hl => match us, hl with | [_, _], _ => rfl) (fun _ h => nomatch h)
  have G56 : FnG l.prog w K mg base 11 fa _ ["_law_script"] c_law := fn_law B C0 C7 C6 C11 C13 C29 C30 C8 C31 C33 C12 C9 C34 C49 C50 C52 C54 C55 F56
  exact G56
end K03
namespace K03
open PySem PySem.Spec L2 DL
open PyProof.Rows hiding St
end K03
open PySem PySem.W PyProof.Rows in
set_option maxRecDepth 100000 in
set_option maxHeartbeats 0 in
theorem PySem.Challenge.cw_drawnbits_k03_whole_distances_and_near_t_holds : PySem.Challenge.rw_drawnbits_k03_whole_distances_and_near_t.Holds := by
  w_on; o_law; k_head; (case hw => w_witness2)
  k_fill
  refine DL.walk_G (l := PySem.Challenge.rw_drawnbits_k03_whole_distances_and_near_t) (n := 63) (k := 11) (x := "_law_script") (c := K03.c_law) rfl (by decide) rfl ⟨rfl, by decide, by decide⟩ (fun w h Y => PySem.W.kIn_of Y) ?F ?C
  case C => exact fun ns hl => K03.law_true ns hl
  case F =>
    intro w mg fa h KX G hmg
    refine' K03.all_mk KX G hmg ?a0 ?l0 ?c0 ?k0 ?a1 ?l1 ?c1 ?k1 ?a2 ?l2 ?c2 ?k2 ?a3 ?l3 ?c3 ?k3 ?a4 ?l4 ?c4 ?k4 ?a5 ?l5 ?c5 ?k5 ?a6 ?l6 ?c6 ?k6 ?a7 ?l7 ?c7 ?k7 ?a8 ?l8 ?c8 ?k8 ?a9 ?l9 ?c9 ?k9 ?a10 ?l10 ?c10 ?k10 ?a11 ?l11 ?c11 ?k11 ?a12 ?l12 ?c12 ?k12 ?a13 ?l13 ?c13 ?k13 ?a14 ?l14 ?c14 ?k14 ?a15 ?l15 ?c15 ?k15 ?a16 ?l16 ?c16 ?k16 ?a17 ?l17 ?c17 ?k17 ?a18 ?l18 ?c18 ?k18 ?a19 ?l19 ?c19 ?k19 ?a20 ?l20 ?c20 ?k20 ?a21 ?l21 ?c21 ?k21 ?a22 ?l22 ?c22 ?k22 ?a23 ?l23 ?c23 ?k23 ?a24 ?l24 ?c24 ?k24 ?a25 ?l25 ?c25 ?k25 ?a26 ?l26 ?c26 ?k26 ?a27 ?l27 ?c27 ?k27 ?a28 ?l28 ?c28 ?k28 ?a29 ?l29 ?c29 ?k29 ?a30 ?l30 ?c30 ?k30 ?a31 ?l31 ?c31 ?k31 ?a32 ?l32 ?c32 ?k32 ?a33 ?l33 ?c33 ?k33 ?a34 ?l34 ?c34 ?k34 ?a35 ?l35 ?c35 ?k35 ?a36 ?l36 ?c36 ?k36 ?a37 ?l37 ?c37 ?k37 ?a38 ?l38 ?c38 ?k38 ?a39 ?l39 ?c39 ?k39 ?a40 ?l40 ?c40 ?k40 ?a41 ?l41 ?c41 ?k41 ?a42 ?l42 ?c42 ?k42 ?a43 ?l43 ?c43 ?k43 ?a44 ?l44 ?c44 ?k44 ?a45 ?l45 ?c45 ?k45 ?a46 ?l46 ?c46 ?k46 ?a47 ?l47 ?c47 ?k47 ?a48 ?l48 ?c48 ?k48 ?a49 ?l49 ?c49 ?k49 ?a50 ?l50 ?c50 ?k50 ?a51 ?l51 ?c51 ?k51 ?a52 ?l52 ?c52 ?k52 ?a53 ?l53 ?c53 ?k53 ?a54 ?l54 ?c54 ?k54 ?a55 ?l55 ?c55 ?k55 ?a56 ?l56 ?c56 ?k56 ?v_HALF ?r_HALF ?v_MOST_OUTCOMES ?r_MOST_OUTCOMES ?v_ONE ?r_ONE ?v_ZERO ?r_ZERO ?z_abs ?z_all ?z_bool ?z_enumerate ?z_int ?z_isinstance ?z_len ?z_list ?z_max ?z_range ?z_repr ?z_set ?z_sorted ?z_str ?z_sum ?z_tuple ?z_zip
    (case a0 => k_is)
    (case l0 => k_is)
    (case c0 => k_is)
    (case k0 => k_is)
    (case a1 => k_is)
    (case l1 => k_is)
    (case c1 => k_is)
    (case k1 => k_is)
    (case a2 => k_is)
    (case l2 => k_is)
    (case c2 => k_is)
    (case k2 => k_is)
    (case a3 => k_is)
    (case l3 => k_is)
    (case c3 => k_is)
    (case k3 => k_is)
    (case a4 => k_is)
    (case l4 => k_is)
    (case c4 => k_is)
    (case k4 => k_is)
    (case a5 => k_is)
    (case l5 => k_is)
    (case c5 => k_is)
    (case k5 => k_is)
    (case a6 => k_is)
    (case l6 => k_is)
    (case c6 => k_is)
    (case k6 => k_is)
    (case a7 => k_is)
    (case l7 => k_is)
    (case c7 => k_is)
    (case k7 => k_is)
    (case a8 => k_is)
    (case l8 => k_is)
    (case c8 => k_is)
    (case k8 => k_is)
    (case a9 => k_is)
    (case l9 => k_is)
    (case c9 => k_is)
    (case k9 => k_is)
    (case a10 => k_is)
    (case l10 => k_is)
    (case c10 => k_is)
    (case k10 => k_is)
    (case a11 => k_is)
    (case l11 => k_is)
    (case c11 => k_is)
    (case k11 => k_is)
    (case a12 => k_is)
    (case l12 => k_is)
    (case c12 => k_is)
    (case k12 => k_is)
    (case a13 => k_is)
    (case l13 => k_is)
    (case c13 => k_is)
    (case k13 => k_is)
    (case a14 => k_is)
    (case l14 => k_is)
    (case c14 => k_is)
    (case k14 => k_is)
    (case a15 => k_is)
    (case l15 => k_is)
    (case c15 => k_is)
    (case k15 => k_is)
    (case a16 => k_is)
    (case l16 => k_is)
    (case c16 => k_is)
    (case k16 => k_is)
    (case a17 => k_is)
    (case l17 => k_is)
    (case c17 => k_is)
    (case k17 => k_is)
    (case a18 => k_is)
    (case l18 => k_is)
    (case c18 => k_is)
    (case k18 => k_is)
    (case a19 => k_is)
    (case l19 => k_is)
    (case c19 => k_is)
    (case k19 => k_is)
    (case a20 => k_is)
    (case l20 => k_is)
    (case c20 => k_is)
    (case k20 => k_is)
    (case a21 => k_is)
    (case l21 => k_is)
    (case c21 => k_is)
    (case k21 => k_is)
    (case a22 => k_is)
    (case l22 => k_is)
    (case c22 => k_is)
    (case k22 => k_is)
    (case a23 => k_is)
    (case l23 => k_is)
    (case c23 => k_is)
    (case k23 => k_is)
    (case a24 => k_is)
    (case l24 => k_is)
    (case c24 => k_is)
    (case k24 => k_is)
    (case a25 => k_is)
    (case l25 => k_is)
    (case c25 => k_is)
    (case k25 => k_is)
    (case a26 => k_is)
    (case l26 => k_is)
    (case c26 => k_is)
    (case k26 => k_is)
    (case a27 => k_is)
    (case l27 => k_is)
    (case c27 => k_is)
    (case k27 => k_is)
    (case a28 => k_is)
    (case l28 => k_is)
    (case c28 => k_is)
    (case k28 => k_is)
    (case a29 => k_is)
    (case l29 => k_is)
    (case c29 => k_is)
    (case k29 => k_is)
    (case a30 => k_is)
    (case l30 => k_is)
    (case c30 => k_is)
    (case k30 => k_is)
    (case a31 => k_is)
    (case l31 => k_is)
    (case c31 => k_is)
    (case k31 => k_is)
    (case a32 => k_is)
    (case l32 => k_is)
    (case c32 => k_is)
    (case k32 => k_is)
    (case a33 => k_is)
    (case l33 => k_is)
    (case c33 => k_is)
    (case k33 => k_is)
    (case a34 => k_is)
    (case l34 => k_is)
    (case c34 => k_is)
    (case k34 => k_is)
    (case a35 => k_is)
    (case l35 => k_is)
    (case c35 => k_is)
    (case k35 => k_is)
    (case a36 => k_is)
    (case l36 => k_is)
    (case c36 => k_is)
    (case k36 => k_is)
    (case a37 => k_is)
    (case l37 => k_is)
    (case c37 => k_is)
    (case k37 => k_is)
    (case a38 => k_is)
    (case l38 => k_is)
    (case c38 => k_is)
    (case k38 => k_is)
    (case a39 => k_is)
    (case l39 => k_is)
    (case c39 => k_is)
    (case k39 => k_is)
    (case a40 => k_is)
    (case l40 => k_is)
    (case c40 => k_is)
    (case k40 => k_is)
    (case a41 => k_is)
    (case l41 => k_is)
    (case c41 => k_is)
    (case k41 => k_is)
    (case a42 => k_is)
    (case l42 => k_is)
    (case c42 => k_is)
    (case k42 => k_is)
    (case a43 => k_is)
    (case l43 => k_is)
    (case c43 => k_is)
    (case k43 => k_is)
    (case a44 => k_is)
    (case l44 => k_is)
    (case c44 => k_is)
    (case k44 => k_is)
    (case a45 => k_is)
    (case l45 => k_is)
    (case c45 => k_is)
    (case k45 => k_is)
    (case a46 => k_is)
    (case l46 => k_is)
    (case c46 => k_is)
    (case k46 => k_is)
    (case a47 => k_is)
    (case l47 => k_is)
    (case c47 => k_is)
    (case k47 => k_is)
    (case a48 => k_is)
    (case l48 => k_is)
    (case c48 => k_is)
    (case k48 => k_is)
    (case a49 => k_is)
    (case l49 => k_is)
    (case c49 => k_is)
    (case k49 => k_is)
    (case a50 => k_is)
    (case l50 => k_is)
    (case c50 => k_is)
    (case k50 => k_is)
    (case a51 => k_is)
    (case l51 => k_is)
    (case c51 => k_is)
    (case k51 => k_is)
    (case a52 => k_is)
    (case l52 => k_is)
    (case c52 => k_is)
    (case k52 => k_is)
    (case a53 => k_is)
    (case l53 => k_is)
    (case c53 => k_is)
    (case k53 => k_is)
    (case a54 => k_is)
    (case l54 => k_is)
    (case c54 => k_is)
    (case k54 => k_is)
    (case a55 => k_is)
    (case l55 => k_is)
    (case c55 => k_is)
    (case k55 => k_is)
    (case a56 => k_is)
    (case l56 => k_is)
    (case c56 => k_is)
    (case k56 => k_is)
    (case v_HALF => k_is)
    (case r_HALF => first | rfl | k_is)
    (case v_MOST_OUTCOMES => k_is)
    (case r_MOST_OUTCOMES => first | rfl | k_is)
    (case v_ONE => k_is)
    (case r_ONE => first | rfl | k_is)
    (case v_ZERO => k_is)
    (case r_ZERO => first | rfl | k_is)
    (case z_abs => k_is)
    (case z_all => k_is)
    (case z_bool => k_is)
    (case z_enumerate => k_is)
    (case z_int => k_is)
    (case z_isinstance => k_is)
    (case z_len => k_is)
    (case z_list => k_is)
    (case z_max => k_is)
    (case z_range => k_is)
    (case z_repr => k_is)
    (case z_set => k_is)
    (case z_sorted => k_is)
    (case z_str => k_is)
    (case z_sum => k_is)
    (case z_tuple => k_is)
    (case z_zip => k_is)
